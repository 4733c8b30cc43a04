import PyProof.Rows.All
import Wide.All
import OpenK.AllK
import Wide.FinOn
import HandS.ForMost
import HandS.Exc
import HandS.IsInst
import HandS.DictComp
import HandS.TryOnly
import HandS.Flow
import HandS.Defaults
import HandS.TupAny
import HandS.CallSlots
import HandS.Small
import PyProof.StrOps2
import KE.KEqNest
import HandS.Conv
import KE.GoesEnum
import HandS.Finally
import PyProof.DictCopy
import HandS.More
import HandS.Strs
import HandS.TupSets
import HandS.Style
import KE.KStateDown
import HandS.Ends
import HandS.Words
import HandS.WordsExc
import HandS.Head0
import HandS.Head1
import HandS.Head2
import HandS.HeadEnd
import HandS.HeadHook1
import HandS.HeadHook2
import HandS.HeadHook3
import HandS.HeadHook4
import PySem.Challenge.RW_trustlinks_k05_whole_what_follows
set_option Elab.async false
set_option linter.all false
set_option maxRecDepth 100000
set_option maxHeartbeats 1000000
/-! PyI1: data, its place in the abstract heap, worlds and steps between them. -/
namespace PyI
open PySem PySem.Spec PyProof.Rows L2

inductive D where
  | non | bl (b : Bool) | int (i : Int) | str (x : Str)
  | tup (xs : List D) | lst (xs : List D) | dic (kvs : List (Key × D)) | ins (c : Str) (fs : List (Str × D))
  /-- the script: a list of ints that is read alone -/
  | scr (ns : List Int)
  deriving Inhabited

/-- the written part, the classes by name -/
structure Ct where
  K : PySem.W.Frag
  cm : Str → Addr

section
variable (C : Ct)
mutual
inductive Rep (F : Hp) : D → V → Prop
  | non : Rep F .non .non
  | bl (b : Bool) : Rep F (.bl b) (.bl b)
  | int (i : Int) : Rep F (.int i) (.int i)
  | str (x : Str) : Rep F (.str x) (.str x)
  | tup {a : Addr} {vs : List V} {ds : List D} : SqT C.K F a vs → RepL F ds vs → Rep F (.tup ds) (.ref a)
  | lst {a : Addr} {vs : List V} {ds : List D} : F a = some (.lst vs) → RepL F ds vs → Rep F (.lst ds) (.ref a)
  | scr {a : Addr} {ns : List Int} : SqL C.K F a (ns.map V.int) → Rep F (.scr ns) (.ref a)
  | dic {a : Addr} {kvs : List (Key × V)} {ds : List (Key × D)} : Rd F a (.dK kvs) → RepK F ds kvs → Rep F (.dic ds) (.ref a)
  | ins {a dx : Addr} {c : Str} {fs : List (Str × D)} {fvs : List (Str × V)} : F a = some (.ins (C.cm c) dx fvs) → RepF F fs fvs → Rep F (.ins c fs) (.ref a)
inductive RepL (F : Hp) : List D → List V → Prop
  | nil : RepL F [] []
  | cons {d : D} {v : V} {ds : List D} {vs : List V} : Rep F d v → RepL F ds vs → RepL F (d :: ds) (v :: vs)
inductive RepK (F : Hp) : List (Key × D) → List (Key × V) → Prop
  | nil : RepK F [] []
  | cons {k : Key} {d : D} {v : V} {ds : List (Key × D)} {vs : List (Key × V)} : Rep F d v → RepK F ds vs → RepK F ((k, d) :: ds) ((k, v) :: vs)
inductive RepF (F : Hp) : List (Str × D) → List (Str × V) → Prop
  | nil : RepF F [] []
  | cons {k : Str} {d : D} {v : V} {ds : List (Str × D)} {vs : List (Str × V)} : Rep F d v → RepF F ds vs → RepF F ((k, d) :: ds) ((k, v) :: vs)
end
end

/-- what is never locked -/
def fixed : HO → Bool
  | .lst _ => true
  | .ins _ _ _ => true
  | _ => false
/-- what is read in the one is read in the other -/
structure Le (F G : Hp) : Prop where
  rd : ∀ a u, Rd F a u → Rd G a u
  ins : ∀ a o, fixed o = true → F a = some o → G a = some o
theorem Le.refl (F : Hp) : Le F F := ⟨fun _ _ h => h, fun _ _ _ h => h⟩
theorem Le.trans {F G H : Hp} (h : Le F G) (k : Le G H) : Le F H := ⟨fun a u r => k.rd a u (h.rd a u r), fun a o q r => k.ins a o q (h.ins a o q r)⟩
theorem Le.nn {F H : Hp} (h : Le F H) {a : Addr} (n : H a = none) : F a = none := by
  cases e : F a with
  | none => rfl
  | some u =>
    rcases h.rd a u (.inl e) with q | ⟨o, q⟩ <;> rw [n] at q <;> cases q
theorem Le.new {F : Hp} {a : Addr} {o : HO} (n : F a = none) : Le F (upd F a o) := by
  refine ⟨fun b u r => ?_, fun b p f r => ?_⟩
  · rcases r with r | ⟨o', r⟩
    · exact .inl (by rw [upd_ne (ne_of_none r n)]; exact r)
    · exact .inr ⟨o', by rw [upd_ne (ne_of_none r n)]; exact r⟩
  · rw [upd_ne (ne_of_none r n)]; exact r
/-- a new place on both sides -/
theorem Le.both {F H : Hp} {a : Addr} {o : HO} (h : Le F H) (n : H a = none) : Le (upd F a o) (upd H a o) := by
  have nf : F a = none := h.nn n
  refine ⟨fun b u r => ?_, fun b p f r => ?_⟩
  · by_cases e : b = a
    · subst e
      rcases r with r | ⟨o', r⟩
      · rw [upd_same] at r; exact .inl (by rw [upd_same]; exact r)
      · rw [upd_same] at r; exact .inr ⟨o', by rw [upd_same]; exact r⟩
    · rcases r with r | ⟨o', r⟩
      · rw [upd_ne e] at r
        rcases h.rd b u (.inl r) with q | ⟨o', q⟩
        · exact .inl (by rw [upd_ne e]; exact q)
        · exact .inr ⟨o', by rw [upd_ne e]; exact q⟩
      · rw [upd_ne e] at r
        rcases h.rd b u (.inr ⟨o', r⟩) with q | ⟨o', q⟩
        · exact .inl (by rw [upd_ne e]; exact q)
        · exact .inr ⟨o', by rw [upd_ne e]; exact q⟩
  · by_cases e : b = a
    · subst e; rw [upd_same] at r ⊢; exact r
    · rw [upd_ne e] at r ⊢; exact h.ins b p f r
/-- a place that the left does not know is changed on the right -/
theorem Le.chg {F H : Hp} {a : Addr} {o : HO} (h : Le F H) (n : F a = none) : Le F (upd H a o) := by
  refine ⟨fun b u r => ?_, fun b p f r => ?_⟩
  · have e : b ≠ a := by
      rcases r with r | ⟨o', r⟩ <;> exact ne_of_none r n
    rcases h.rd b u r with q | ⟨o', q⟩
    · exact .inl (by rw [upd_ne e]; exact q)
    · exact .inr ⟨o', by rw [upd_ne e]; exact q⟩
  · rw [upd_ne (ne_of_none r n)]; exact h.ins b p f r
/-- a place of the right (no lock) is taken to the left -/
theorem Le.take {F H : Hp} {a : Addr} {o : HO} (h : Le F H) (n : F a = none) (e : H a = some o) (nf : ∀ p u, o ≠ .frz p u) : Le (upd F a o) H := by
  refine ⟨fun b u r => ?_, fun b p f r => ?_⟩
  · by_cases q : b = a
    · subst q
      rcases r with r | ⟨o', r⟩
      · rw [upd_same] at r; cases r; exact .inl e
      · rw [upd_same] at r; cases r; exact absurd rfl (nf o' u)
    · rcases r with r | ⟨o', r⟩
      · rw [upd_ne q] at r; exact h.rd b u (.inl r)
      · rw [upd_ne q] at r; exact h.rd b u (.inr ⟨o', r⟩)
  · by_cases q : b = a
    · subst q; rw [upd_same] at r; cases r; exact e
    · rw [upd_ne q] at r; exact h.ins b p f r

section
variable {C : Ct} {F G H : Hp} {a : Addr}
theorem Le.sqL {K : PySem.W.Frag} {vs : List V} (h : Le F G) (r : SqL K F a vs) : SqL K G a vs := by
  rcases r with r | r
  · exact .inl (h.rd _ _ r)
  · exact .inr r
theorem Le.sqT {K : PySem.W.Frag} {vs : List V} (h : Le F G) (r : SqT K F a vs) : SqT K G a vs := by
  rcases r with r | r
  · exact .inl (h.rd _ _ r)
  · exact .inr r
mutual
theorem Rep.mono (h : Le F G) : ∀ {d : D} {v : V}, Rep C F d v → Rep C G d v
  | _, _, .non => .non
  | _, _, .bl b => .bl b
  | _, _, .int i => .int i
  | _, _, .str x => .str x
  | _, _, .tup s r => .tup (h.sqT s) (RepL.mono h r)
  | _, _, .lst s r => .lst (h.ins _ _ rfl s) (RepL.mono h r)
  | _, _, .scr s => .scr (h.sqL s)
  | _, _, .dic s r => .dic (h.rd _ _ s) (RepK.mono h r)
  | _, _, .ins s r => .ins (h.ins _ _ rfl s) (RepF.mono h r)
theorem RepL.mono (h : Le F G) : ∀ {d : List D} {v : List V}, RepL C F d v → RepL C G d v
  | _, _, .nil => .nil
  | _, _, .cons r s => .cons (Rep.mono h r) (RepL.mono h s)
theorem RepK.mono (h : Le F G) : ∀ {d : List (Key × D)} {v : List (Key × V)}, RepK C F d v → RepK C G d v
  | _, _, .nil => .nil
  | _, _, .cons r s => .cons (Rep.mono h r) (RepK.mono h s)
theorem RepF.mono (h : Le F G) : ∀ {d : List (Str × D)} {v : List (Str × V)}, RepF C F d v → RepF C G d v
  | _, _, .nil => .nil
  | _, _, .cons r s => .cons (Rep.mono h r) (RepF.mono h s)
end
theorem RepL.length : ∀ {ds : List D} {vs : List V}, RepL C F ds vs → vs.length = ds.length
  | _, _, .nil => rfl
  | _, _, .cons _ r => by simp [RepL.length r]
theorem RepL.get : ∀ {ds : List D} {vs : List V} {i : Nat} {d : D}, RepL C F ds vs → ds[i]? = some d → ∃ v, vs[i]? = some v ∧ Rep C F d v
  | _, _, _, _, .nil, e => by simp at e
  | _, _, 0, _, .cons r _, e => by simp at e; subst e; exact ⟨_, rfl, r⟩
  | _, _, i + 1, d, .cons _ r, e => by
    obtain ⟨v, h1, h2⟩ := RepL.get (i := i) (d := d) r (by simpa using e)
    exact ⟨v, by simpa using h1, h2⟩
theorem RepL.getV : ∀ {ds : List D} {vs : List V} {i : Nat} {v : V}, RepL C F ds vs → vs[i]? = some v → ∃ d, ds[i]? = some d ∧ Rep C F d v
  | _, _, _, _, .nil, e => by simp at e
  | _, _, 0, _, .cons r _, e => by simp at e; subst e; exact ⟨_, rfl, r⟩
  | _, _, i + 1, v, .cons _ r, e => by
    obtain ⟨d, h1, h2⟩ := RepL.getV (i := i) (v := v) r (by simpa using e)
    exact ⟨d, by simpa using h1, h2⟩
theorem RepL.append : ∀ {ds es : List D} {vs us : List V}, RepL C F ds vs → RepL C F es us → RepL C F (ds ++ es) (vs ++ us)
  | _, _, _, _, .nil, s => s
  | _, _, _, _, .cons r t, s => .cons r (RepL.append t s)
theorem RepL.take : ∀ {ds : List D} {vs : List V} (n : Nat), RepL C F ds vs → RepL C F (ds.take n) (vs.take n)
  | _, _, 0, _ => by simp; exact .nil
  | _, _, _ + 1, .nil => .nil
  | _, _, n + 1, .cons r t => .cons r (RepL.take n t)
theorem RepL.drop : ∀ {ds : List D} {vs : List V} (n : Nat), RepL C F ds vs → RepL C F (ds.drop n) (vs.drop n)
  | _, _, 0, r => r
  | _, _, _ + 1, .nil => .nil
  | _, _, n + 1, .cons _ t => by simpa using RepL.drop n t
theorem RepL.set {d : D} {v : V} (q : Rep C F d v) : ∀ {ds : List D} {vs : List V} (i : Nat), RepL C F ds vs → RepL C F (ds.set i d) (vs.set i v)
  | _, _, _, .nil => .nil
  | _, _, 0, .cons _ t => .cons q t
  | _, _, i + 1, .cons r t => .cons r (RepL.set q i t)
theorem RepL.reverse {ds : List D} {vs : List V} (h : RepL C F ds vs) : RepL C F ds.reverse vs.reverse := by
  induction ds generalizing vs with
  | nil => cases h; exact .nil
  | cons d ds ih =>
    cases h with
    | cons r t => simp only [List.reverse_cons]; exact (ih t).append (.cons r .nil)
theorem RepL.flat : ∀ {n : Nat} {ds : List D} {vs : List V}, RepL C F ds vs → RepL C F (List.replicate n ds).flatten (List.replicate n vs).flatten
  | 0, _, _, _ => .nil
  | n + 1, _, _, r => by simp only [List.replicate_succ, List.flatten_cons]; exact r.append (RepL.flat r)
theorem RepK.length : ∀ {ds : List (Key × D)} {vs : List (Key × V)}, RepK C F ds vs → vs.length = ds.length
  | _, _, .nil => rfl
  | _, _, .cons _ r => by simp [RepK.length r]
theorem RepK.keys : ∀ {ds : List (Key × D)} {vs : List (Key × V)}, RepK C F ds vs → vs.map (·.1) = ds.map (·.1)
  | _, _, .nil => rfl
  | _, _, .cons _ r => by simp [RepK.keys r]
theorem RepK.getV : ∀ {ds : List (Key × D)} {vs : List (Key × V)} {i : Nat} {k : Key} {v : V}, RepK C F ds vs → vs[i]? = some (k, v) → ∃ d, ds[i]? = some (k, d) ∧ Rep C F d v
  | _, _, _, _, _, .nil, e => by simp at e
  | _, _, 0, _, _, .cons r _, e => by simp at e; obtain ⟨rfl, rfl⟩ := e; exact ⟨_, rfl, r⟩
  | _, _, i + 1, k, v, .cons _ r, e => by
    obtain ⟨d, h1, h2⟩ := RepK.getV (i := i) (k := k) (v := v) r (by simpa using e)
    exact ⟨d, by simpa using h1, h2⟩
/-- a table's value -/
def look (kvs : List (Key × D)) (k : Key) : Option D := (kvs.find? fun kv => decide (kv.1 = k)).map (·.2)
def put (kvs : List (Key × D)) (k : Key) (d : D) : List (Key × D) :=
  if (kvs.any fun kv => decide (kv.1 = k)) = true then kvs.map (fun kv => if kv.1 = k then (kv.1, d) else kv) else kvs ++ [(k, d)]
def RepO (C : Ct) (F : Hp) : Option D → Option V → Prop
  | some d, some v => Rep C F d v
  | none, none => True
  | _, _ => False
theorem RepK.look (k : Key) : ∀ {ds : List (Key × D)} {vs : List (Key × V)}, RepK C F ds vs → RepO C F (PyI.look ds k) (valV vs k)
  | _, _, .nil => trivial
  | _, _, .cons (k := j) r t => by
    by_cases e : j = k
    · subst e; simp [PyI.look, valV, RepO, r]
    · have := RepK.look k t
      simpa [PyI.look, valV, e] using this
theorem RepK.any (k : Key) : ∀ {ds : List (Key × D)} {vs : List (Key × V)}, RepK C F ds vs → (ds.any fun kv => decide (kv.1 = k)) = (vs.any fun kv => decide (kv.1 = k))
  | _, _, .nil => rfl
  | _, _, .cons r t => by simp only [List.any_cons, RepK.any k t]
theorem RepK.repl (k : Key) {d : D} {v : V} (q : Rep C F d v) : ∀ {ds : List (Key × D)} {vs : List (Key × V)}, RepK C F ds vs →
    RepK C F (ds.map fun kv => if kv.1 = k then (kv.1, d) else kv) (vs.map fun kv => if kv.1 = k then (kv.1, v) else kv)
  | _, _, .nil => .nil
  | _, _, .cons (k := j) r t => by
    simp only [List.map_cons]
    by_cases e : j = k
    · rw [if_pos e, if_pos e]; exact .cons q (RepK.repl k q t)
    · rw [if_neg e, if_neg e]; exact .cons r (RepK.repl k q t)
theorem RepK.append : ∀ {ds es : List (Key × D)} {vs us : List (Key × V)}, RepK C F ds vs → RepK C F es us → RepK C F (ds ++ es) (vs ++ us)
  | _, _, _, _, .nil, s => s
  | _, _, _, _, .cons r t, s => .cons r (RepK.append t s)
theorem RepK.put (k : Key) {d : D} {v : V} {ds : List (Key × D)} {vs : List (Key × V)} (r : RepK C F ds vs) (q : Rep C F d v) : RepK C F (PyI.put ds k d) (putK vs k v) := by
  unfold PyI.put putK
  rw [← r.any k]
  split
  · exact r.repl k q
  · exact r.append (.cons q .nil)
theorem RepF.lookup (f : Str) : ∀ {ds : List (Str × D)} {vs : List (Str × V)}, RepF C F ds vs → RepO C F (ds.lookup f) (vs.lookup f)
  | _, _, .nil => trivial
  | _, _, .cons (k := j) r t => by
    simp only [List.lookup_cons]
    cases f == j with
    | true => exact r
    | false => exact RepF.lookup f t
end

/-- read in H, its parts in F -/
inductive RepS (C : Ct) (F H : Hp) : D → V → Prop
  | non : RepS C F H .non .non
  | bl (b : Bool) : RepS C F H (.bl b) (.bl b)
  | int (i : Int) : RepS C F H (.int i) (.int i)
  | str (x : Str) : RepS C F H (.str x) (.str x)
  | tup {a : Addr} {vs : List V} {ds : List D} : SqT C.K F a vs → RepL C F ds vs → RepS C F H (.tup ds) (.ref a)
  | lst {a : Addr} {vs : List V} {ds : List D} : H a = some (.lst vs) → RepL C F ds vs → RepS C F H (.lst ds) (.ref a)
  | scr {a : Addr} {ns : List Int} : SqL C.K H a (ns.map V.int) → RepS C F H (.scr ns) (.ref a)
  | dic {a : Addr} {kvs : List (Key × V)} {ds : List (Key × D)} : Rd H a (.dK kvs) → RepK C F ds kvs → RepS C F H (.dic ds) (.ref a)
  | ins {a dx : Addr} {c : Str} {fs : List (Str × D)} {fvs : List (Str × V)} : H a = some (.ins (C.cm c) dx fvs) → RepF C F fs fvs → RepS C F H (.ins c fs) (.ref a)
theorem Rep.s {C : Ct} {F H : Hp} {d : D} {v : V} (h : Le F H) (r : Rep C F d v) : RepS C F H d v := by
  cases r with
  | non => exact .non
  | bl b => exact .bl b
  | int i => exact .int i
  | str x => exact .str x
  | tup s r => exact .tup s r
  | lst s r => exact .lst (h.ins _ _ rfl s) r
  | scr s => exact .scr (h.sqL s)
  | dic s r => exact .dic (h.rd _ _ s) r
  | ins s r => exact .ins (h.ins _ _ rfl s) r

/-- at a an object that may be changed holds d -/
inductive Own (C : Ct) (F H : Hp) (a : Addr) : D → Prop
  | lst {vs : List V} {ds : List D} : H a = some (.lst vs) → RepL C F ds vs → Own C F H a (.lst ds)
  | dic {kvs : List (Key × V)} {ds : List (Key × D)} : H a = some (.dK kvs) → RepK C F ds kvs → Own C F H a (.dic ds)
  | ins {dx : Addr} {c : Str} {fs : List (Str × D)} {fvs : List (Str × V)} : H a = some (.ins (C.cm c) dx fvs) → RepF C F fs fvs → Own C F H a (.ins c fs)
section
variable {C : Ct} {F F' H H' : Hp} {a : Addr} {d : D}
theorem Own.s (o : Own C F H a d) : RepS C F H d (.ref a) := by
  cases o with
  | lst e r => exact .lst e r
  | dic e r => exact .dic (.inl e) r
  | ins e r => exact .ins e r
theorem Own.ex (o : Own C F H a d) : ∃ u, H a = some u ∧ ∀ p v, u ≠ .frz p v := by
  cases o with
  | lst e r => exact ⟨_, e, fun _ _ z => nomatch z⟩
  | dic e r => exact ⟨_, e, fun _ _ z => nomatch z⟩
  | ins e r => exact ⟨_, e, fun _ _ z => nomatch z⟩
theorem Own.ne (o : Own C F H a d) : H a ≠ none := by
  obtain ⟨u, e, _⟩ := o.ex
  rw [e]; exact fun z => nomatch z
theorem Own.keep (o : Own C F H a d) (h : Le F F') (e : H' a = H a) : Own C F' H' a d := by
  cases o with
  | lst q r => exact .lst (e.trans q) (r.mono h)
  | dic q r => exact .dic (e.trans q) (r.mono h)
  | ins q r => exact .ins (e.trans q) (r.mono h)
theorem Own.frozen (o : Own C F H a d) (h : Le F H) (n : F a = none) : ∃ u, H a = some u ∧ Le F (upd F a u) ∧ Le (upd F a u) H ∧ Rep C (upd F a u) d (.ref a) := by
  obtain ⟨u, e, nf⟩ := o.ex
  have l1 : Le F (upd F a u) := Le.new n
  refine ⟨u, e, l1, h.take n e nf, ?_⟩
  cases o with
  | lst q r => rw [e] at q; cases q; exact .lst upd_same (r.mono l1)
  | dic q r => rw [e] at q; cases q; exact .dic (.inl upd_same) (r.mono l1)
  | ins q r => rw [e] at q; cases q; exact .ins upd_same (r.mono l1)
end

/-! ### slots, worlds -/
inductive Slot where
  | no | val (d : D) | own (k : Bool) (d : D)
  deriving Inhabited
def Slot.keep : Slot → Bool
  | .own true _ => true
  | _ => false
theorem Slot.keep_own {sl : Slot} (h : sl.keep = false) (d : D) : sl ≠ .own true d := fun e => by rw [e] at h; cases h
abbrev Env := List Slot
structure Wd where
  F : Hp
  H : Hp
  sg : L2.St
  en : Env
def Ow (w : Wd) (x : Addr) : Prop := ∃ (i : Nat) (k : Bool) (d : D), w.en[i]? = some (.own k d) ∧ w.sg[i]? = some (some (.ref x))
structure SR (C : Ct) (w : Wd) : Prop where
  le : Le w.F w.H
  len : w.sg.length = w.en.length
  val : ∀ (i : Nat) (d : D), w.en[i]? = some (.val d) → ∃ v, w.sg[i]? = some (some v) ∧ Rep C w.F d v
  own : ∀ (i : Nat) (k : Bool) (d : D), w.en[i]? = some (.own k d) → ∃ a, w.sg[i]? = some (some (.ref a)) ∧ w.F a = none ∧ Own C w.F w.H a d
  sep : ∀ (i j : Nat) (k k' : Bool) (d e : D) (a : Addr), w.en[i]? = some (.own k d) → w.en[j]? = some (.own k' e) → w.sg[i]? = some (some (.ref a)) → w.sg[j]? = some (some (.ref a)) → i = j
/-- what stands at x stays; a dict of the frozen part may be locked -/
def KpR (bF bH : Hp) (x : Addr) (o : HO) : Prop := bH x = some o ∨ (bF x ≠ none ∧ ∃ kvs od, o = .dK kvs ∧ bH x = some (.frz od (.dK kvs)))
theorem KpR.mono {F F' H : Hp} {x : Addr} {o : HO} (h : KpR F H x o) (l : Le F F') : KpR F' H x o := by
  rcases h with h | ⟨h, r⟩
  · exact .inl h
  · exact .inr ⟨fun z => h (l.nn z), r⟩
theorem KpR.eqF {F H : Hp} {x : Addr} {o : HO} (h : KpR F H x o) (n : F x = none) : H x = some o := by
  rcases h with h | ⟨h, _⟩
  · exact h
  · exact absurd n h
theorem KpR.eqN {F H : Hp} {x : Addr} {o : HO} (h : KpR F H x o) (n : ∀ kvs, o ≠ .dK kvs) : H x = some o := by
  rcases h with h | ⟨_, kvs, od, e, _⟩
  · exact h
  · exact absurd e (n kvs)
structure Go (C : Ct) (a b : Wd) : Prop where
  sr : SR C b
  le : Le a.F b.F
  fr : ∀ x, b.F x ≠ none → a.F x ≠ none ∨ a.H x = none ∨ Ow a x
  kp : ∀ x o, a.H x = some o → ¬ Ow a x → KpR b.F b.H x o
  ow : ∀ x, Ow b x → Ow a x ∨ a.H x = none
  nv : ∀ x, a.H x ≠ none → b.H x ≠ none
  kt : ∀ (i : Nat) (d : D), a.en[i]? = some (.own true d) → (∃ d', b.en[i]? = some (.own true d')) ∧ b.sg[i]? = a.sg[i]?
  ln : b.en.length = a.en.length
section
variable {C : Ct} {a b c : Wd}
theorem SR.owF (s : SR C a) {x : Addr} (h : Ow a x) : a.F x = none ∧ a.H x ≠ none := by
  obtain ⟨i, k, d, h1, h2⟩ := h
  obtain ⟨y, e1, e2, e3⟩ := s.own i k d h1
  rw [h2] at e1; cases e1
  exact ⟨e2, e3.ne⟩
theorem Go.refl (s : SR C a) : Go C a a := ⟨s, Le.refl _, fun _ h => .inl h, fun _ _ h _ => .inl h, fun _ h => .inl h, fun _ h => h, fun i d h => ⟨⟨d, h⟩, rfl⟩, rfl⟩
theorem Go.trans (g : Go C a b) (h : Go C b c) : Go C a c where
  sr := h.sr
  le := g.le.trans h.le
  fr := fun x q => by
    rcases h.fr x q with r | r | r
    · exact g.fr x r
    · exact .inr (.inl (Classical.byContradiction fun z => g.nv x z r))
    · rcases g.ow x r with z | z
      · exact .inr (.inr z)
      · exact .inr (.inl z)
  kp := fun x o e n => by
    have n2 : ¬ Ow b x := fun z => by
      rcases g.ow x z with y | y
      · exact n y
      · rw [e] at y; cases y
    rcases g.kp x o e n with q | ⟨f, kvs, od, rfl, q⟩
    · exact h.kp x o q n2
    · exact .inr ⟨fun z => f (h.le.nn z), kvs, od, rfl, (h.kp x _ q n2).eqN fun _ z => nomatch z⟩
  ow := fun x q => by
    rcases h.ow x q with r | r
    · exact g.ow x r
    · exact .inr (Classical.byContradiction fun z => g.nv x z r)
  nv := fun x q => h.nv x (g.nv x q)
  kt := fun i d q => by
    obtain ⟨⟨d', r⟩, e⟩ := g.kt i d q
    obtain ⟨r', e'⟩ := h.kt i d' r
    exact ⟨r', e'.trans e⟩
  ln := h.ln.trans g.ln
/-- a place that is not there stays unknown to the frozen part while it is new -/
theorem Go.nF (g : Go C a b) {x : Addr} (h1 : a.F x = none) (h2 : a.H x ≠ none) (h3 : ¬ Ow a x) : b.F x = none := Classical.byContradiction fun z => by
  rcases g.fr x z with r | r | r
  · exact r h1
  · exact h2 r
  · exact h3 r
theorem Go.nO (g : Go C a b) {x : Addr} (h2 : a.H x ≠ none) (h3 : ¬ Ow a x) : ¬ Ow b x := fun z => by
  rcases g.ow x z with r | r
  · exact h3 r
  · exact h2 r
end

/-! ### operands -/
inductive Op where
  | v (d : D) | f (d : D) | s (i : Nat)
  deriving Inhabited
@[simp] def deref (ρ : Env) : Op → Option D
  | .v d => some d
  | .f d => some d
  | .s i => match ρ[i]? with
    | some (.own _ d) => some d
    | some (.val d) => some d
    | _ => none
/-- frozen: what may be kept -/
@[simp] def frz (ρ : Env) : Op → Option (D × Env)
  | .v d => some (d, ρ)
  | .f d => some (d, ρ)
  | .s i => match ρ[i]? with
    | some (.own false d) => some (d, ρ.set i (.val d))
    | some (.val d) => some (d, ρ)
    | _ => none
def RepOp (C : Ct) (H0 : Hp) (w : Wd) : Op → V → Prop
  | .v d, v => Rep C w.F d v
  | .f d, v => ∃ x, v = .ref x ∧ H0 x = none ∧ w.F x = none ∧ ¬ Ow w x ∧ Own C w.F w.H x d
  | .s i, v => w.sg[i]? = some (some v)
section
variable {C : Ct} {H0 : Hp} {a b : Wd} {op : Op} {v : V} {d : D}
theorem RepOp.carry (g : Go C a b) (e : b.sg = a.sg) (r : RepOp C H0 a op v) : RepOp C H0 b op v := by
  cases op with
  | v d => exact Rep.mono g.le r
  | f d =>
    obtain ⟨x, rfl, h0, hf, ho, hn⟩ := r
    obtain ⟨u, hu, _⟩ := hn.ex
    exact ⟨x, rfl, h0, g.nF hf hn.ne ho, g.nO hn.ne ho, hn.keep g.le (((g.kp x u hu ho).eqF (g.nF hf hn.ne ho)).trans hu.symm)⟩
  | s i => show b.sg[i]? = _; rw [e]; exact r
theorem RepOp.weaken {H1 : Hp} (h : ∀ x, H0 x = none → H1 x = none) (r : RepOp C H0 a op v) : RepOp C H1 a op v := by
  cases op with
  | v d => exact r
  | f d => obtain ⟨x, h1, h2, h3⟩ := r; exact ⟨x, h1, h x h2, h3⟩
  | s i => exact r
/-- an operand, to be read -/
theorem RepOp.read (s : SR C a) (e : deref a.en op = some d) (r : RepOp C H0 a op v) : RepS C a.F a.H d v := by
  cases op with
  | v d' => cases e; exact Rep.s s.le r
  | f d' => cases e; obtain ⟨x, rfl, _, _, _, hn⟩ := r; exact hn.s
  | s i =>
    have r' : a.sg[i]? = some (some v) := r
    simp only [deref] at e
    split at e
    · rename_i k d' h
      cases e
      obtain ⟨x, e1, e2, e3⟩ := s.own i _ _ h
      rw [r'] at e1; cases e1
      exact e3.s
    · rename_i d' h
      cases e
      obtain ⟨x, e1, e2⟩ := s.val i _ h
      rw [r'] at e1; cases e1
      exact Rep.s s.le e2
    · cases e
end
theorem get_set_some {α : Type} {l : List α} {i j : Nat} {x y : α} (h : (l.set i x)[j]? = some y) : (j = i ∧ y = x) ∨ (j ≠ i ∧ l[j]? = some y) := by
  by_cases e : j = i
  · subst e
    refine .inl ⟨rfl, ?_⟩
    have hl : j < l.length := by
      have := (List.getElem?_eq_some_iff.mp h).1
      simpa using this
    rw [List.getElem?_set_self hl] at h
    exact (Option.some.inj h).symm
  · rw [List.getElem?_set_ne (Ne.symm e)] at h
    exact .inr ⟨e, h⟩
section
variable {C : Ct} {H0 : Hp} {a : Wd} {op : Op} {v : V} {d : D} {ρ' : Env}
/-- an own slot freezes -/
theorem SR.freezeSlot {i : Nat} {k : Bool} {d : D} (s : SR C a) (h : a.en[i]? = some (.own k d)) (hk : k = false) : ∃ x u, a.sg[i]? = some (some (.ref x)) ∧ Go C a ⟨upd a.F x u, a.H, a.sg, a.en.set i (.val d)⟩ ∧ Rep C (upd a.F x u) d (.ref x) := by
  subst hk
  obtain ⟨x, e1, e2, e3⟩ := s.own i _ _ h
  obtain ⟨u, hu, l1, l2, r⟩ := e3.frozen s.le e2
  have hi : i < a.en.length := (List.getElem?_eq_some_iff.mp h).1
  have ow' : ∀ y, Ow ⟨upd a.F x u, a.H, a.sg, a.en.set i (.val d)⟩ y → Ow a y ∧ y ≠ x := fun y ⟨j, k, d', q1, q2⟩ => by
    rcases get_set_some q1 with ⟨_, z⟩ | ⟨z, q⟩
    · cases z
    · exact ⟨⟨j, k, d', q, q2⟩, fun e => z (s.sep j i k false d' d x q h (by rw [← e]; exact q2) e1)⟩
  refine ⟨x, u, e1, ⟨⟨l2, by simpa using s.len, fun j d' q => ?_, fun j k d' q => ?_, fun j j' k k' d' e' y q1 q2 => ?_⟩, l1, fun y q => ?_, fun _ _ h _ => .inl h, fun y q => .inl (ow' y q).1, fun _ h => h, fun j d' q => ?_, by simp⟩, r⟩
  · rcases get_set_some q with ⟨z1, z⟩ | ⟨_, q⟩
    · cases z; subst z1; exact ⟨_, e1, r⟩
    · obtain ⟨w, q1, q2⟩ := s.val j d' q
      exact ⟨w, q1, q2.mono l1⟩
  · rcases get_set_some q with ⟨_, z⟩ | ⟨z, q⟩
    · cases z
    · obtain ⟨y, q1, q2, q3⟩ := s.own j k d' q
      have ne : y ≠ x := fun e => z (s.sep j i k false d' d x q h (by rw [← e]; exact q1) e1)
      exact ⟨y, q1, (upd_ne ne).trans q2, q3.keep l1 rfl⟩
  · rcases get_set_some q1 with ⟨_, z⟩ | ⟨_, q1⟩
    · cases z
    · rcases get_set_some q2 with ⟨_, z⟩ | ⟨_, q2⟩
      · cases z
      · exact s.sep j j' k k' d' e' y q1 q2
  · by_cases e : y = x
    · subst e; exact .inr (.inr ⟨i, false, d, h, e1⟩)
    · exact .inl (by have q : (upd a.F x u) y ≠ none := q; rw [upd_ne e] at q; exact q)
  · have ne : j ≠ i := fun e => by subst e; rw [h] at q; cases q
    exact ⟨⟨d', by show (a.en.set i (.val d))[j]? = _; rw [List.getElem?_set_ne (Ne.symm ne)]; exact q⟩, rfl⟩
/-- a fresh object freezes -/
theorem SR.freezeNew {x : Addr} (s : SR C a) (hf : a.F x = none) (ho : ¬ Ow a x) (hn : Own C a.F a.H x d) (h0 : H0 x = none) :
    ∃ u, SR C ⟨upd a.F x u, a.H, a.sg, a.en⟩ ∧ Le a.F (upd a.F x u) ∧ Rep C (upd a.F x u) d (.ref x) := by
  obtain ⟨u, hu, l1, l2, r⟩ := hn.frozen s.le hf
  refine ⟨u, ⟨l2, s.len, fun j d' q => ?_, fun j k d' q => ?_, s.sep⟩, l1, r⟩
  · obtain ⟨w, q1, q2⟩ := s.val j d' q
    exact ⟨w, q1, q2.mono l1⟩
  · obtain ⟨y, q1, q2, q3⟩ := s.own j k d' q
    have ne : y ≠ x := fun e => ho ⟨j, k, d', q, by rw [← e]; exact q1⟩
    exact ⟨y, q1, (upd_ne ne).trans q2, q3.keep l1 rfl⟩
end
/-- from a to b, then b's operand frozen -/
theorem Go.frz {C : Ct} {a b : Wd} {op : Op} {v : V} {d : D} {ρ' : Env} (g : Go C a b) (e : frz b.en op = some (d, ρ')) (r : RepOp C a.H b op v) :
    ∃ F', Go C a ⟨F', b.H, b.sg, ρ'⟩ ∧ Rep C F' d v := by
  cases op with
  | v d' => cases e; exact ⟨b.F, g, r⟩
  | f d' =>
    cases e
    obtain ⟨x, rfl, h0, hf, ho, hn⟩ := r
    obtain ⟨u, s1, l1, r1⟩ := g.sr.freezeNew hf ho hn h0
    refine ⟨upd b.F x u, ⟨s1, g.le.trans l1, fun y q => ?_, fun y q e n => (g.kp y q e n).mono l1, g.ow, g.nv, g.kt, g.ln⟩, r1⟩
    by_cases e : y = x
    · subst e; exact .inr (.inl h0)
    · exact g.fr y (by have q : (upd b.F x u) y ≠ none := q; rw [upd_ne e] at q; exact q)
  | s i =>
    have r' : b.sg[i]? = some (some v) := r
    simp only [PyI.frz] at e
    split at e
    · rename_i d' h
      cases e
      obtain ⟨x, u, e1, g1, r1⟩ := g.sr.freezeSlot h rfl
      rw [r'] at e1; cases e1
      exact ⟨_, g.trans g1, r1⟩
    · rename_i d' h
      cases e
      obtain ⟨x, e1, e2⟩ := g.sr.val i _ h
      rw [r'] at e1; cases e1
      exact ⟨b.F, g, e2⟩
    · cases e
end PyI
set_option maxHeartbeats 1000000
/-! PyI2: results, readings, operations. -/
namespace PyI
open PySem PySem.Spec PyProof.Rows L2

inductive Res (α : Type) where
  | ok (a : α) (ρ : Env) | exc (c : Str) (fs : List (Str × D)) (ρ : Env) | bad
  deriving Inhabited
@[simp] def Res.bind {α β : Type} (r : Res α) (f : α → Env → Res β) : Res β := match r with
  | .ok a ρ => f a ρ
  | .exc c fs ρ => .exc c fs ρ
  | .bad => .bad
abbrev Fe := Env → Res Op
abbrev Ft := Env → Res Bool
abbrev Fa := Env → Res (List Op)

/-- an exception of the class c, its fields -/
def ExcOf (C : Ct) (c : Str) (fs : List (Str × D)) (cls : Value) (d : Option Addr) (F H : Hp) : Prop :=
  cls = Value.ref (C.cm c) ∧ ((fs = [] ∧ d = none) ∨ ∃ dx fvs, d = some dx ∧ H dx = some (.xd fvs) ∧ RepF C F fs fvs)

/-- from w the run ends as r says, and there R is wanted -/
def Kw (C : Ct) (W : WX) (w : Wd) {α : Type} (R : Wd → α → Prop) (r : Res α) : Prop := match r with
  | .ok a ρ' => ∀ F' H', Go C w ⟨F', H', w.sg, ρ'⟩ → R ⟨F', H', w.sg, ρ'⟩ a
  | .exc c fs ρ' => ∀ cls d F' H', Go C w ⟨F', H', w.sg, ρ'⟩ → ExcOf C c fs cls d F' H' → W cls d w.sg H'
  | .bad => False
section
variable {C : Ct} {W : WX} {w : Wd} {α β : Type}
theorem Kw.shift {R : Wd → α → Prop} {r : Res α} {F1 H1 : Hp} {ρ1 : Env} (g : Go C w ⟨F1, H1, w.sg, ρ1⟩) (h : Kw C W w R r) : Kw C W ⟨F1, H1, w.sg, ρ1⟩ R r := by
  cases r with
  | ok a ρ' => exact fun F' H' g' => h F' H' (g.trans g')
  | exc c fs ρ' => exact fun cls d F' H' g' x => h cls d F' H' (g.trans g') x
  | bad => exact h
theorem Kw.bind {R : Wd → β → Prop} {R' : Wd → α → Prop} {r : Res α} {f : α → Env → Res β} (h : Kw C W w R (r.bind f))
    (k : ∀ a ρ1 F1 H1, r = .ok a ρ1 → Go C w ⟨F1, H1, w.sg, ρ1⟩ → Kw C W ⟨F1, H1, w.sg, ρ1⟩ R (f a ρ1) → R' ⟨F1, H1, w.sg, ρ1⟩ a) : Kw C W w R' r := by
  cases r with
  | ok a ρ' => exact fun F' H' g => k a ρ' F' H' rfl g (Kw.shift g h)
  | exc c fs ρ' => exact h
  | bad => exact h
theorem Kw.imp {R R' : Wd → α → Prop} {r : Res α} (h : Kw C W w R r) (k : ∀ a ρ1 F1 H1, r = .ok a ρ1 → Go C w ⟨F1, H1, w.sg, ρ1⟩ → R ⟨F1, H1, w.sg, ρ1⟩ a → R' ⟨F1, H1, w.sg, ρ1⟩ a) : Kw C W w R' r := by
  cases r with
  | ok a ρ' => exact fun F' H' g => k a ρ' F' H' rfl g (h F' H' g)
  | exc c fs ρ' => exact h
  | bad => exact h
end
/-- the end that an expression, a test, a list of arguments has -/
abbrev RE (C : Ct) (H : Hp) (Q : VK) : Wd → Op → Prop := fun w' op => ∀ v, RepOp C H w' op v → Q v w'.H
abbrev RT (Q : Bool → Hp → Prop) : Wd → Bool → Prop := fun w' b => Q b w'.H
inductive RepOps (C : Ct) (H0 : Hp) (w : Wd) : List Op → List V → Prop
  | nil : RepOps C H0 w [] []
  | cons {op : Op} {v : V} {ops : List Op} {vs : List V} : RepOp C H0 w op v → RepOps C H0 w ops vs → RepOps C H0 w (op :: ops) (v :: vs)
abbrev RA (C : Ct) (H : Hp) (Q : List V → Hp → Prop) : Wd → List Op → Prop := fun w' ops => ∀ vs, RepOps C H w' ops vs → Q vs w'.H
def tE (C : Ct) (W : WX) (f : Fe) : TE := fun σ H Q => ∃ F ρ, SR C ⟨F, H, σ, ρ⟩ ∧ Kw C W ⟨F, H, σ, ρ⟩ (RE C H Q) (f ρ)
def tT (C : Ct) (W : WX) (f : Ft) : TT := fun σ H Q => ∃ F ρ, SR C ⟨F, H, σ, ρ⟩ ∧ Kw C W ⟨F, H, σ, ρ⟩ (RT Q) (f ρ)
def tA (C : Ct) (W : WX) (f : Fa) : TA := fun σ H Q => ∃ F ρ, SR C ⟨F, H, σ, ρ⟩ ∧ Kw C W ⟨F, H, σ, ρ⟩ (RA C H Q) (f ρ)
section
variable {C : Ct} {H0 H1 : Hp} {a b : Wd} {ops : List Op} {vs : List V}
theorem RepOps.carry (g : Go C a b) (e : b.sg = a.sg) : ∀ {ops : List Op} {vs : List V}, RepOps C H0 a ops vs → RepOps C H0 b ops vs
  | _, _, .nil => .nil
  | _, _, .cons r t => .cons (r.carry g e) (RepOps.carry g e t)
theorem RepOps.weaken (h : ∀ x, H0 x = none → H1 x = none) : ∀ {ops : List Op} {vs : List V}, RepOps C H0 a ops vs → RepOps C H1 a ops vs
  | _, _, .nil => .nil
  | _, _, .cons r t => .cons (r.weaken h) (RepOps.weaken h t)
theorem RepOps.length : ∀ {ops : List Op} {vs : List V}, RepOps C H0 a ops vs → vs.length = ops.length
  | _, _, .nil => rfl
  | _, _, .cons _ t => by simp [RepOps.length t]
end
theorem Go.h0 {C : Ct} {a b : Wd} (g : Go C a b) {x : Addr} (h : b.H x = none) : a.H x = none := Classical.byContradiction fun z => g.nv x z h

/-! ### weaker readings -/
section
variable {X : Cx}
theorem PEimp {e : Expr} {t t' : TE} (h : PE X e t) (k : ∀ σ H Q, t' σ H Q → t σ H Q) : PE X e t' := ⟨fun pins s σ H Q I q => h.run pins s σ H Q I (k σ H Q q)⟩
theorem PTimp {e : Expr} {t t' : TT} (h : PT X e t) (k : ∀ σ H Q, t' σ H Q → t σ H Q) : PT X e t' := ⟨fun pins s σ H Q I q => h.run pins s σ H Q I (k σ H Q q)⟩
theorem PWimp {e : Expr} {t t' : TT} (h : PW X e t) (k : ∀ σ H Q, t' σ H Q → t σ H Q) : PW X e t' := ⟨fun wh pins s σ H Q I q => h.run wh pins s σ H Q I (k σ H Q q)⟩
theorem PAimp {e : List Expr} {t t' : TA} (h : PA X e t) (k : ∀ σ H Q, t' σ H Q → t σ H Q) : PA X e t' := ⟨fun p pins s σ H Q I q => h.run p pins s σ H Q I (k σ H Q q)⟩
theorem PSimp {e : Stmt} {t t' : TS} (h : PS X e t) (k : ∀ D σ H, t' D σ H → t D σ H) : PS X e t' := ⟨fun pins s σ H D I q => h.run pins s σ H D I (k D σ H q)⟩
theorem PSsimp {e : List Stmt} {t t' : TS} (h : PSs X e t) (k : ∀ D σ H, t' D σ H → t D σ H) : PSs X e t' := ⟨fun pins s σ H D I q => h.run pins s σ H D I (k D σ H q)⟩
theorem PEor {e : Expr} {t t' : TE} (h : PE X e t) (k : PE X e t') : PE X e (fun σ H Q => t σ H Q ∨ t' σ H Q) :=
  ⟨fun pins s σ H Q I q => q.elim (h.run pins s σ H Q I) (k.run pins s σ H Q I)⟩
theorem PSor {e : Stmt} {t t' : TS} (h : PS X e t) (k : PS X e t') : PS X e (fun D σ H => t D σ H ∨ t' D σ H) :=
  ⟨fun pins s σ H D I q => q.elim (h.run pins s σ H D I) (k.run pins s σ H D I)⟩
theorem PGor {e : Expr} {t t' : TG} (h : PG X e t) (k : PG X e t') : PG X e (fun v σ H Q => t v σ H Q ∨ t' v σ H Q) :=
  ⟨fun pins s σ H v u Q I r q => q.elim (h.run pins s σ H v u Q I r) (k.run pins s σ H v u Q I r)⟩
theorem PIor {tg e : Expr} {t t' : TI} (h : PI X tg e t) (k : PI X tg e t') : PI X tg e (fun σ H R => t σ H R ∨ t' σ H R) :=
  ⟨fun pins s σ H R I q => q.elim (h.run pins s σ H R I) (k.run pins s σ H R I)⟩
end

/-! ### a result of an operation -/
/-- what an operation's end wants: a value as it stands, or a new object -/
def Done (C : Ct) (F H : Hp) (Q : VK) : Op → Prop
  | .v d => (∀ v, Rep C F d v → Q v H) ∧ ∀ p o, H p = none → Rep C (upd F p o) d (.ref p) → Q (.ref p) (upd H p o)
  | .f d => ∀ p o, H p = none → Own C F (upd H p o) p d → Q (.ref p) (upd H p o)
  | .s _ => False
@[simp] def res (o : Option Op) (ρ : Env) : Res Op := match o with
  | some op => .ok op ρ
  | none => .bad
section
variable {C : Ct} {W : WX} {w : Wd}
/-- a new object: known to both sides -/
theorem SR.newBoth (s : SR C w) {p : Addr} {o : HO} (n : w.H p = none) : Go C w ⟨upd w.F p o, upd w.H p o, w.sg, w.en⟩ := by
  have nf := s.le.nn n
  have l1 : Le w.F (upd w.F p o) := Le.new nf
  refine ⟨⟨s.le.both n, s.len, fun i d q => ?_, fun i k d q => ?_, s.sep⟩, l1, fun x q => ?_, fun x u q _ => ?_, fun x q => .inl q, fun x q => ?_, fun i d q => ⟨⟨d, q⟩, rfl⟩, rfl⟩
  · obtain ⟨v, q1, q2⟩ := s.val i d q
    exact ⟨v, q1, q2.mono l1⟩
  · obtain ⟨y, q1, q2, q3⟩ := s.own i k d q
    have ne : y ≠ p := fun e => q3.ne (by rw [e]; exact n)
    exact ⟨y, q1, (upd_ne ne).trans q2, q3.keep l1 (upd_ne ne)⟩
  · by_cases e : x = p
    · subst e; exact .inr (.inl n)
    · exact .inl (by have q : (upd w.F p o) x ≠ none := q; rw [upd_ne e] at q; exact q)
  · left; show upd w.H p o x = _; rw [upd_ne (ne_of_none q n)]; exact q
  · show upd w.H p o x ≠ none
    by_cases e : x = p
    · rw [e, upd_same]; exact fun z => nomatch z
    · rw [upd_ne e]; exact q
/-- a new object: in the heap alone -/
theorem SR.newHeap (s : SR C w) {p : Addr} {o : HO} (n : w.H p = none) : Go C w ⟨w.F, upd w.H p o, w.sg, w.en⟩ := by
  have nf := s.le.nn n
  refine ⟨⟨s.le.chg nf, s.len, s.val, fun i k d q => ?_, s.sep⟩, Le.refl _, fun x q => .inl q, fun x u q _ => ?_, fun x q => .inl q, fun x q => ?_, fun i d q => ⟨⟨d, q⟩, rfl⟩, rfl⟩
  · obtain ⟨y, q1, q2, q3⟩ := s.own i k d q
    have ne : y ≠ p := fun e => q3.ne (by rw [e]; exact n)
    exact ⟨y, q1, q2, q3.keep (Le.refl _) (upd_ne ne)⟩
  · left; show upd w.H p o x = _; rw [upd_ne (ne_of_none q n)]; exact q
  · show upd w.H p o x ≠ none
    by_cases e : x = p
    · rw [e, upd_same]; exact fun z => nomatch z
    · rw [upd_ne e]; exact q
theorem done_of {H0 : Hp} {Q : VK} {o : Option Op} (s : SR C w) (h0 : ∀ x, w.H x = none → H0 x = none) (ns : ∀ i, o ≠ some (.s i)) (h : Kw C W w (RE C H0 Q) (res o w.en)) : ∃ op, o = some op ∧ Done C w.F w.H Q op := by
  cases o with
  | none => exact h.elim
  | some op =>
    refine ⟨op, rfl, ?_⟩
    cases op with
    | v d => exact ⟨fun v r => h w.F w.H (Go.refl s) v r, fun p o n r => h _ _ (s.newBoth n) (.ref p) r⟩
    | f d =>
      exact fun p o n r => h _ _ (s.newHeap n) (.ref p) ⟨p, rfl, h0 p n, s.le.nn n, fun z => (s.owF z).2 n, r⟩
    | s i => exact absurd rfl (ns i)
end
/-- two operands, read where both stand -/
@[simp] def op2 (q : D → D → Option Op) (x y : Op) (ρ : Env) : Res Op := match deref ρ x, deref ρ y with
  | some d, some e => res (q d e) ρ
  | _, _ => .bad
@[simp] def op1 (q : D → Option Op) (x : Op) (ρ : Env) : Res Op := match deref ρ x with
  | some d => res (q d) ρ
  | _ => .bad
@[simp] def seq2 (f g : Fe) (h : Op → Op → Env → Res Op) : Fe := fun ρ => (f ρ).bind fun x ρ1 => (g ρ1).bind fun y ρ2 => h x y ρ2
@[simp] def seq1 (f : Fe) (h : Op → Env → Res Op) : Fe := fun ρ => (f ρ).bind h
/-- never a slot -/
def NoS2 (q : D → D → Option Op) : Prop := ∀ d e i, q d e ≠ some (.s i)
def NoS1 (q : D → Option Op) : Prop := ∀ d i, q d ≠ some (.s i)
/-- an operation of the layer serves q -/
def Serves2 (C : Ct) (q : D → D → Option Op) (r : R2) : Prop := ∀ F H d e v u op (Q : VK), Le F H → RepS C F H d v → RepS C F H e u → q d e = some op → Done C F H Q op → r v u H Q
def Serves1 (C : Ct) (q : D → Option Op) (r : V → Hp → VK → Prop) : Prop := ∀ F H d v op (Q : VK), Le F H → RepS C F H d v → q d = some op → Done C F H Q op → r v H Q
section
variable {C : Ct} {W : WX} {f g : Fe}
theorem two_op {q : D → D → Option Op} {r : R2} (n : NoS2 q) (sv : Serves2 C q r) : ∀ σ H Q, tE C W (seq2 f g (op2 q)) σ H Q → tOp r (tE C W f) (tE C W g) σ H Q := by
  intro σ H Q ⟨F, ρ, s, h⟩
  refine ⟨F, ρ, s, Kw.bind h fun x ρ1 F1 H1 e1 g1 h1 v rv => ?_⟩
  refine ⟨F1, ρ1, g1.sr, Kw.bind h1 fun y ρ2 F2 H2 e2 g2 h2 u ru => ?_⟩
  unfold op2 at h2
  split at h2
  · rename_i d e hd he
    have rx := (rv.carry g2 rfl).read g2.sr hd
    have ry := ru.read g2.sr he
    obtain ⟨op, eo, dn⟩ := done_of g2.sr (fun x z => g1.h0 (g2.h0 z)) (n d e) h2
    exact sv F2 H2 d e v u op Q g2.sr.le rx ry eo dn
  · exact h2.elim
theorem one_op {q : D → Option Op} {r : V → Hp → VK → Prop} (n : NoS1 q) (sv : Serves1 C q r) : ∀ σ H Q, tE C W (seq1 f (op1 q)) σ H Q → tUn r (tE C W f) σ H Q := by
  intro σ H Q ⟨F, ρ, s, h⟩
  refine ⟨F, ρ, s, Kw.bind h fun x ρ1 F1 H1 e1 g1 h1 v rv => ?_⟩
  unfold op1 at h1
  split at h1
  · rename_i d hd
    have rx := rv.read g1.sr hd
    obtain ⟨op, eo, dn⟩ := done_of g1.sr (fun x z => g1.h0 z) (n d) h1
    exact sv F1 H1 d v op Q g1.sr.le rx eo dn
  · exact h1.elim
/-- one operand, handed to a call of a built-in -/
theorem one_call {q : D → Option Op} {r : List V → Hp → VK → Prop} (n : NoS1 q) (sv : Serves1 C q fun x H Q => r [x] H Q) : ∀ σ H Q, tE C W (seq1 f (op1 q)) σ H Q → tCB r (tCons (tE C W f) tNil) σ H Q := by
  intro σ H Q ⟨F, ρ, s, h⟩
  refine ⟨F, ρ, s, Kw.bind h fun x ρ1 F1 H1 e1 g1 h1 v rv => ?_⟩
  unfold op1 at h1
  split at h1
  · rename_i d hd
    have rx := rv.read g1.sr hd
    obtain ⟨op, eo, dn⟩ := done_of g1.sr (fun x z => g1.h0 z) (n d) h1
    exact sv F1 H1 d v op Q g1.sr.le rx eo dn
  · exact h1.elim
end
end PyI
set_option maxHeartbeats 1000000
/-! PyI3: the operations on data, and the layer's rules that serve them. -/
namespace PyI
open PySem PySem.Spec PyProof.Rows L2

inductive Bop where
  | add | sub | mul | fdiv | mod | pow
  deriving DecidableEq, Inhabited
inductive Cop where
  | eq | ne | lt | le | gt | ge | isin | notin | is_ | isnot
  deriving DecidableEq, Inhabited
def cmul (i j : Int) : Bool := (decide (-(2 ^ 64) < i) && decide (i < 2 ^ 64)) || (decide (-(2 ^ 64) < j) && decide (j < 2 ^ 64))
theorem cmul_ok {i j : Int} (h : cmul i j = true) : CMul i j := by
  unfold cmul at h
  rcases Bool.or_eq_true_iff.mp h with h | h
  · obtain ⟨a, b⟩ := Bool.and_eq_true_iff.mp h; exact .inl ⟨of_decide_eq_true a, of_decide_eq_true b⟩
  · obtain ⟨a, b⟩ := Bool.and_eq_true_iff.mp h; exact .inr ⟨of_decide_eq_true a, of_decide_eq_true b⟩
def strRep (x : Str) (n : Int) : Str := ⟨(List.replicate n.toNat x.cps).foldl (· ++ ·) #[]⟩
@[simp] def bop : Bop → D → D → Option Op
  | .add, .int i, .int j => some (.v (.int (i + j)))
  | .add, .str x, .str y => if x.length + y.length ≤ 100000 then some (.v (.str (x ++ y))) else none
  | .add, .lst xs, .lst ys => if xs.length + ys.length ≤ 100000 then some (.f (.lst (xs ++ ys))) else none
  | .add, .tup xs, .tup ys => if xs.length + ys.length ≤ 100000 then some (.v (.tup (xs ++ ys))) else none
  | .sub, .int i, .int j => some (.v (.int (i - j)))
  | .mul, .int i, .int j => if cmul i j = true then some (.v (.int (i * j))) else none
  | .mul, .str x, .int n => if 2 ≤ n ∧ n ≤ 1000 ∧ 1 ≤ x.length ∧ x.length ≤ 100 then some (.v (.str (strRep x n))) else none
  | .mul, .lst xs, .int n => if 0 ≤ n ∧ n ≤ 1000 ∧ xs.length ≤ 100 then some (.f (.lst (List.replicate n.toNat xs).flatten)) else none
  | .fdiv, .int i, .int j => if 0 < j ∧ j < 1073741824 then some (.v (.int (i / j))) else none
  | .mod, .int i, .int j => if 0 < j then some (.v (.int (i % j))) else none
  | .pow, .int i, .int j => if 0 ≤ j ∧ j ≤ 1000000 ∧ i.natAbs < 2 ^ 64 then some (.v (.int (i ^ j.toNat))) else none
  | _, _, _ => none
def oprOf : Bop → Operator
  | .add => .Add | .sub => .Sub | .mul => .Mult | .fdiv => .FloorDiv | .mod => .Mod | .pow => .Pow
theorem bop_nos (o : Bop) : NoS2 (bop o) := by
  intro d e i h
  unfold bop at h
  repeat (first | (split at h) | cases h)
/-- s * n -/
theorem op_rep_str {X : Cx} : OpR X (binaryOp .Mult) (fun x y H Q => ∃ z n, x = .str z ∧ y = .int n ∧ (2 ≤ n ∧ n ≤ 1000 ∧ 1 ≤ z.length ∧ z.length ≤ 100) ∧ Q (.str (strRep z n)) H) := by
  intro pins s σ H x y v u Q I rx ry h
  obtain ⟨z, n, rfl, rfl, ⟨h1, h2, h3, h4⟩, q⟩ := h
  obtain ⟨t, rfl⟩ := rx
  obtain ⟨t', rfl⟩ := ry
  have hn : ¬ n < 1 := by omega
  have hu : (n == 1 || z.length == 0) = false := by
    rw [Bool.or_eq_false_iff]
    exact ⟨beq_eq_false_iff_ne.mpr (by omega), beq_eq_false_iff_ne.mpr (by omega)⟩
  have hlen : (strRep z n).length ≤ sizeLine := by
    have e : ∀ (k : Nat) (acc : Array Nat), ((List.replicate k z.cps).foldl (· ++ ·) acc).size = acc.size + k * z.cps.size := by
      intro k
      induction k with
      | zero => intro acc; simp
      | succ k ih => intro acc; rw [List.replicate_succ, List.foldl_cons, ih, Array.size_append, Nat.succ_mul]; omega
    show ((List.replicate n.toNat z.cps).foldl (· ++ ·) #[]).size ≤ sizeLine
    rw [e, sizeLine_eq]
    have h4' : z.cps.size ≤ 100 := h4
    have a1 : n.toNat * z.cps.size ≤ 1000 * 100 := Nat.mul_le_mul (by omega) h4'
    simp only [List.size_toArray, List.length_nil]
    omega
  refine P.mul_str (by rw [decide_eq_false (by omega), decide_eq_false (by omega)]; rfl) (fun _ _ => ?_) (fun _ _ => ?_) ?_
  · have : (z.length : Int) ≤ 100 := by omega
    have h5 : (1000000 : Int) ≤ (2 ^ 63 - 1) / n := by
      rw [Int.le_ediv_iff_mul_le (by omega)]
      omega
    omega
  · unfold Builtin.Str.tooLong
    rw [sizeLine_eq]
    have a1 : z.length * n.toNat ≤ 100 * 1000 := Nat.mul_le_mul h4 (by omega)
    exact decide_eq_false (by omega)
  · rw [if_neg hn, if_neg (by rw [hu]; exact Bool.false_ne_true)]
    exact ⟨hlen, .str _, H, I.tok _, ⟨_, rfl⟩, q⟩

def rBop (K : PySem.W.Frag) : Bop → R2
  | .add => fun x y H Q => (((rI0 fun i j => V.int (i + j)) x y H Q ∨ (∃ i j, x = .str i ∧ y = .str j ∧ i.length + j.length ≤ sizeLine ∧ Q (.str (i ++ j)) H)) ∨ rCat x y H Q) ∨ rCatA K x y H Q
  | .sub => rI0 fun i j => .int (i - j)
  | .mul => fun x y H Q => (rI CMul (fun i j => V.int (i * j)) x y H Q ∨ (∃ z n, x = .str z ∧ y = .int n ∧ (2 ≤ n ∧ n ≤ 1000 ∧ 1 ≤ z.length ∧ z.length ≤ 100) ∧ Q (.str (strRep z n)) H)) ∨ rRep x y H Q
  | .fdiv => rI CDiv fun i j => .int (i / j)
  | .mod => rI (fun _ j => 0 < j) fun i j => .int (i % j)
  | .pow => rI CPow fun i j => .int (i ^ j.toNat)
theorem opr_bop {X : Cx} : ∀ o : Bop, OpR X (binaryOp (oprOf o)) (rBop X.K o)
  | .add => ((op_add.or op_add_str).or op_cat).or op_catA
  | .sub => op_sub
  | .mul => (op_mul.or op_rep_str).or op_rep
  | .fdiv => op_fdiv
  | .mod => op_mod
  | .pow => op_pow
section
variable {C : Ct} {F H : Hp}
theorem Done.val {d : D} {Q : VK} {v : V} (h : Done C F H Q (.v d)) (r : Rep C F d v) : Q v H := h.1 v r
theorem Done.tup {ds : List D} {vs : List V} {p : Addr} {Q : VK} (l : Le F H) (h : Done C F H Q (.v (.tup ds))) (r : RepL C F ds vs) (n : H p = none) : Q (.ref p) (upd H p (.tup vs)) :=
  h.2 p _ n (.tup (.of upd_same) (r.mono (Le.new (l.nn n))))
theorem Done.lst {ds : List D} {vs : List V} {p : Addr} {Q : VK} (h : Done C F H Q (.f (.lst ds))) (r : RepL C F ds vs) (n : H p = none) : Q (.ref p) (upd H p (.lst vs)) :=
  h p _ n (.lst upd_same r)
theorem Done.dic {ds : List (Key × D)} {vs : List (Key × V)} {p : Addr} {Q : VK} (h : Done C F H Q (.f (.dic ds))) (r : RepK C F ds vs) (n : H p = none) : Q (.ref p) (upd H p (.dK vs)) :=
  h p _ n (.dic upd_same r)
end
theorem szl {n : Nat} (h : n ≤ 100000) : n ≤ sizeLine := Nat.le_trans h (by decide)
theorem serves_bop (C : Ct) (o : Bop) : Serves2 C (bop o) (rBop C.K o) := by
  intro F H d e v u op Q l rd re eo dn
  unfold bop at eo
  split at eo
  · cases eo; cases rd; cases re; exact .inl (.inl (.inl ⟨_, _, rfl, rfl, dn.val (.int _)⟩))
  · split at eo
    · rename_i hz; cases eo; cases rd; cases re; exact .inl (.inl (.inr ⟨_, _, rfl, rfl, szl hz, dn.val (.str _)⟩))
    · cases eo
  · split at eo
    · rename_i xs ys hz
      cases eo
      cases rd with
      | lst e1 r1 =>
        cases re with
        | lst e2 r2 => exact .inl (.inr ⟨_, _, _, _, rfl, rfl, e1, e2, szl (by rw [r1.length, r2.length]; exact hz), fun p n => dn.lst (r1.append r2) n⟩)
    · cases eo
  · split at eo
    · rename_i xs ys hz
      cases eo
      cases rd with
      | tup e1 r1 =>
        cases re with
        | tup e2 r2 =>
          refine .inr ⟨_, _, _, _, rfl, rfl, l.sqT e1, l.sqT e2, szl (by rw [r1.length, r2.length]; exact hz), fun z => ?_, fun _ z => ?_, fun _ _ p n => dn.tup l (r1.append r2) n⟩
          · subst z; cases r1; exact dn.val (.tup e2 r2)
          · subst z; cases r2; exact dn.val (.tup e1 (by simpa using r1))
    · cases eo
  · cases eo; cases rd; cases re; exact ⟨_, _, rfl, rfl, dn.val (.int _)⟩
  · split at eo
    · rename_i hz; cases eo; cases rd; cases re; exact .inl (.inl ⟨_, _, rfl, rfl, cmul_ok hz, dn.val (.int _)⟩)
    · cases eo
  · split at eo
    · rename_i hz; cases eo; cases rd; cases re; exact .inl (.inr ⟨_, _, rfl, rfl, hz, dn.val (.str _)⟩)
    · cases eo
  · split at eo
    · rename_i xs n hz
      cases eo
      cases rd with
      | lst e1 r1 =>
        cases re
        obtain ⟨z1, z2, z3⟩ := hz
        refine .inr ⟨_, _, _, rfl, rfl, e1, by omega, by omega, ?_, fun p n => dn.lst r1.flat n⟩
        rw [r1.length, sizeLine_eq]
        have a1 : xs.length * n.toNat ≤ 100 * 1000 := Nat.mul_le_mul z3 (by omega)
        omega
    · cases eo
  · split at eo
    · rename_i hz; cases eo; cases rd; cases re; exact ⟨_, _, rfl, rfl, hz, dn.val (.int _)⟩
    · cases eo
  · split at eo
    · rename_i hz; cases eo; cases rd; cases re; exact ⟨_, _, rfl, rfl, hz, dn.val (.int _)⟩
    · cases eo
  · split at eo
    · rename_i hz; cases eo; cases rd; cases re; exact ⟨_, _, rfl, rfl, hz, dn.val (.int _)⟩
    · cases eo
  · cases eo

/-! ### flat data -/
def D.flat : D → Bool
  | .non => true
  | .bl _ => true
  | .int _ => true
  | .str _ => true
  | _ => false
/-- == of flat data -/
@[simp] def eqF : D → D → Bool
  | .non, .non => true
  | .bl a, .bl b => a == b
  | .bl a, .int b => (if a then 1 else 0) == b
  | .int a, .bl b => a == (if b then 1 else 0)
  | .int a, .int b => a == b
  | .str a, .str b => a == b
  | _, _ => false
def inD (x : D) (xs : List D) : Bool := xs.any fun y => eqF y x
section
variable {C : Ct} {F H : Hp}
theorem flat_s {d : D} {v : V} (f : d.flat = true) (r : RepS C F H d v) : flatV v = true := by
  cases r <;> first | rfl | (simp [D.flat] at f)
theorem flat_r {d : D} {v : V} (f : d.flat = true) (r : Rep C F d v) : flatV v = true := by
  cases r <;> first | rfl | (simp [D.flat] at f)
theorem eqF_s {d e : D} {v u : V} (fd : d.flat = true) (fe : e.flat = true) (r : Rep C F d v) (q : RepS C F H e u) : eqV v u = eqF d e := by
  cases r <;> first | (simp [D.flat] at fd; done) | (cases q <;> first | rfl | (simp [D.flat] at fe))
theorem flat_all : ∀ {ds : List D} {vs : List V}, RepL C F ds vs → ds.all D.flat = true → vs.all flatV = true
  | _, _, .nil, _ => rfl
  | _, _, .cons r t, h => by
    obtain ⟨h1, h2⟩ := Bool.and_eq_true_iff.mp (by simpa only [List.all_cons] using h)
    rw [List.all_cons, flat_r h1 r, flat_all t h2]; rfl
theorem inD_s {x : D} {u : V} (fx : x.flat = true) (q : RepS C F H x u) : ∀ {ds : List D} {vs : List V}, RepL C F ds vs → ds.all D.flat = true → inV u vs = inD x ds
  | _, _, .nil, _ => rfl
  | _, _, .cons r t, h => by
    obtain ⟨h1, h2⟩ := Bool.and_eq_true_iff.mp (by simpa only [List.all_cons] using h)
    have := inD_s fx q t h2
    unfold inV inD at this ⊢
    rw [List.any_cons, List.any_cons, eqF_s h1 fx r q, this]
end

/-! ### the key that a datum is -/
@[simp] def keyD : D → Option Key
  | .int i => some (.inl i)
  | .str x => some (.inr x)
  | _ => none
theorem key_s {C : Ct} {F H : Hp} {d : D} {v : V} {k : Key} (h : keyD d = some k) (r : RepS C F H d v) : v = kV k := by
  cases r <;> first | (cases h; rfl) | (simp [keyD] at h)
end PyI
set_option maxHeartbeats 1000000
/-! PyI4: == of data at any depth, the comparisons. -/
namespace PyI
open PySem PySem.Spec PyProof.Rows L2

mutual
@[simp] def D.dep : D → Nat
  | .tup xs => depL xs + 1
  | .lst xs => depL xs + 1
  | .dic kvs => depK kvs + 1
  | _ => 0
@[simp] def depL : List D → Nat
  | [] => 0
  | x :: xs => max x.dep (depL xs)
@[simp] def depK : List (Key × D) → Nat
  | [] => 0
  | (_, x) :: xs => max x.dep (depK xs)
end
/-- what == has no answer for here -/
@[simp] def D.odd : D → Bool
  | .dic _ => true
  | .ins _ _ => true
  | .scr _ => true
  | _ => false
mutual
@[simp] def eqv : D → D → Option Bool
  | .tup xs, .tup ys => eqvL xs ys
  | .lst xs, .lst ys => eqvL xs ys
  | .dic xs, .dic ys => (eqvK xs ys).map fun b => xs.length == ys.length && b
  | d, e => if (d.odd || e.odd) = true then none else some (eqF d e)
@[simp] def eqvL : List D → List D → Option Bool
  | [], [] => some true
  | [], _ :: _ => some false
  | _ :: _, [] => some false
  | x :: xs, y :: ys => match eqv x y, eqvL xs ys with
    | some a, some b => some (a && b)
    | _, _ => none
def eqvK : List (Key × D) → List (Key × D) → Option Bool
  | [], _ => some true
  | (k, d) :: r, ys => match look ys k, eqvK r ys with
    | some e, some b => (eqv d e).map fun a => a && b
    | none, some _ => some false
    | _, none => none
end
section
variable {C : Ct} {F H : Hp}
/-- the answer place by place -/
def at2 (ds es : List D) (j : Nat) : Bool := match ds[j]?, es[j]? with
  | some d, some e => (eqv d e).getD false
  | _, _ => false
theorem eqvL_at : ∀ {ds es : List D} {b : Bool}, eqvL ds es = some b → b = ((List.range (min ds.length es.length)).all (at2 ds es) && ds.length == es.length) ∧
    ∀ j d e, ds[j]? = some d → es[j]? = some e → eqv d e = some (at2 ds es j)
  | [], [], b, h => by
    simp only [eqvL] at h; cases h
    exact ⟨by simp, fun j d e h _ => by simp at h⟩
  | [], y :: ys, b, h => by
    simp only [eqvL] at h; cases h
    exact ⟨by simp, fun j d e h _ => by simp at h⟩
  | x :: xs, [], b, h => by
    simp only [eqvL] at h; cases h
    exact ⟨by simp, fun j d e _ h => by simp at h⟩
  | x :: xs, y :: ys, b, h => by
    simp only [eqvL] at h
    split at h
    · rename_i p q h1 h2
      cases h
      obtain ⟨e1, e2⟩ := eqvL_at h2
      have z : at2 (x :: xs) (y :: ys) 0 = p := by simp [at2, h1]
      have zs : ∀ j, at2 (x :: xs) (y :: ys) (j + 1) = at2 xs ys j := fun j => by simp [at2]
      refine ⟨?_, fun j d e hd he => ?_⟩
      · have e0 : min (x :: xs).length (y :: ys).length = min xs.length ys.length + 1 := by simp only [List.length_cons]; omega
        have e3 : ((x :: xs).length == (y :: ys).length) = (xs.length == ys.length) := by simp
        rw [e0, List.range_succ_eq_map, List.all_cons, z, List.all_map, e3]
        have e4 : (at2 (x :: xs) (y :: ys) ∘ Nat.succ) = at2 xs ys := by funext j; exact zs j
        rw [e4, e1, Bool.and_assoc]
      · cases j with
        | zero =>
          simp only [List.getElem?_cons_zero, Option.some.injEq] at hd he
          subst hd he
          rw [z]; exact h1
        | succ j =>
          simp only [List.getElem?_cons_succ] at hd he
          rw [zs]; exact e2 j d e hd he
    · cases h
def atK (xs ys : List (Key × D)) (k : Key) : Bool := match look xs k, look ys k with
  | some d, some e => (eqv d e).getD false
  | _, _ => false
theorem eqvK_at (ys : List (Key × D)) : ∀ {xs : List (Key × D)} {b : Bool}, eqvK xs ys = some b →
    ∀ k d e, (k, d) ∈ xs → look ys k = some e → ∃ c, eqv d e = some c
  | [], _, _, _, _, _, m, _ => by simp at m
  | (k0, d0) :: r, b, h, k, d, e, m, hy => by
    simp only [eqvK] at h
    split at h
    · rename_i e1 b1 h1 h2
      rcases List.mem_cons.mp m with q | q
      · cases q
        rw [h1] at hy; cases hy
        cases hq : eqv d0 e with
        | none => rw [hq] at h; simp at h
        | some c => exact ⟨c, rfl⟩
      · exact eqvK_at ys h2 k d e q hy
    · rename_i b1 h1 h2
      rcases List.mem_cons.mp m with q | q
      · cases q
        rw [h1] at hy; cases hy
      · exact eqvK_at ys h2 k d e q hy
    · cases h
theorem look_mem {k : Key} {d : D} : ∀ {xs : List (Key × D)}, (xs.map (·.1)).Nodup → (k, d) ∈ xs → look xs k = some d
  | [], _, m => by simp at m
  | (k0, d0) :: r, nd, m => by
    rw [List.map_cons] at nd
    obtain ⟨n1, n2⟩ := List.nodup_cons.mp nd
    rcases List.mem_cons.mp m with q | q
    · cases q; simp [look]
    · have ne : k0 ≠ k := fun e => n1 (by rw [e]; exact List.mem_map.mpr ⟨(k, d), q, rfl⟩)
      have := look_mem n2 q
      simpa [look, ne] using this
theorem eqvK_val (xs0 ys : List (Key × D)) : ∀ {xs : List (Key × D)} {b : Bool}, eqvK xs ys = some b → (∀ k d, (k, d) ∈ xs → look xs0 k = some d) →
    b = xs.all fun p => (look ys p.1).isSome && atK xs0 ys p.1
  | [], b, h, _ => by simp only [eqvK] at h; cases h; rfl
  | (k0, d0) :: r, b, h, nd => by
    simp only [eqvK] at h
    have h0 := nd k0 d0 List.mem_cons_self
    split at h
    · rename_i e1 b1 h1 h2
      have ih := eqvK_val xs0 ys h2 fun k d m => nd k d (List.mem_cons_of_mem _ m)
      cases hq : eqv d0 e1 with
      | none => rw [hq] at h; simp at h
      | some c =>
        rw [hq] at h
        simp only [Option.map_some, Option.some.injEq] at h
        rw [← h, List.all_cons, ← ih]
        simp [atK, h0, h1, hq]
    · rename_i b1 h1 h2
      cases h
      rw [List.all_cons]
      simp [h1]
    · cases h


theorem rd_inj {H : Hp} {a : Addr} {k1 k2 : List (Key × V)} (h1 : Rd H a (.dK k1)) (h2 : Rd H a (.dK k2)) : k1 = k2 := by
  rcases h1 with h1 | ⟨o, h1⟩ <;> rcases h2 with h2 | ⟨o', h2⟩ <;> (rw [h1] at h2; cases h2)
  · rfl
  · rfl
theorem no_tl {X : Cx} {pins : List (Addr × Obj)} {σ : L2.St} {s : Shared} {a : Addr} {vs us : List V} (I : Inv X pins σ H s) (h1 : SqT X.K H a vs) (h2 : H a = some (.lst us)) : False := by
  obtain ⟨its, _, ⟨o, ho, hc, _⟩, _⟩ := I.tuple h1
  obtain ⟨its2, _, ⟨o2, n2, ho2, hc2, _⟩, _⟩ := I.list (SqL.of h2)
  rw [ho] at ho2; cases ho2
  rw [hc] at hc2; exact absurd hc2 (by decide)
theorem valV_mem {k : Key} {v : V} : ∀ {kvs : List (Key × V)}, (kvs.map (·.1)).Nodup → (k, v) ∈ kvs → valV kvs k = some v
  | [], _, m => by simp at m
  | (k0, d0) :: r, nd, m => by
    rw [List.map_cons] at nd
    obtain ⟨n1, n2⟩ := List.nodup_cons.mp nd
    rcases List.mem_cons.mp m with q | q
    · cases q; simp [valV]
    · have ne : k0 ≠ k := fun e => n1 (by rw [e]; exact List.mem_map.mpr ⟨(k, v), q, rfl⟩)
      have := valV_mem n2 q
      simpa [valV, ne] using this
theorem rdK_nodup {X : Cx} {pins : List (Addr × Obj)} {σ : L2.St} {s : Shared} {a : Addr} {kvs : List (Key × V)} (I : Inv X pins σ H s) (h : Rd H a (.dK kvs)) : (kvs.map (·.1)).Nodup := by
  obtain ⟨_, _, vs, r, dd⟩ := dk_rd I.hok h
  obtain ⟨o, es, ep, _, _, _, _, _, nd⟩ := dd
  rw [r.keys]; exact nd
mutual
theorem eqv_same {X : Cx} {pins : List (Addr × Obj)} {σ : L2.St} {s : Shared} (I : Inv X pins σ H s) (k : C.K = X.K) (l : Le F H) : ∀ {d e : D} {v : V} {b : Bool}, Rep C F d v → Rep C F e v → eqv d e = some b → b = true
  | _, _, _, _, .non, r, h => by cases r; simp [eqv, D.odd, eqF] at h; exact h
  | _, _, _, _, .bl _, r, h => by cases r; simp [eqv, D.odd, eqF] at h; exact h
  | _, _, _, _, .int _, r, h => by cases r; simp [eqv, D.odd, eqF] at h; exact h
  | _, _, _, _, .str _, r, h => by cases r; simp [eqv, D.odd, eqF] at h; exact h
  | _, _, _, _, .tup s1 r1, r, h => by
    have hs := l.sqT s1
    rw [k] at hs
    cases r with
    | tup s2 r2 =>
      have hs2 := l.sqT s2
      rw [k] at hs2
      have e := I.tuple_inj hs hs2
      subst e
      simp only [eqv] at h
      exact eqvL_same I k l r1 r2 h
    | lst s2 r2 => exact (no_tl I hs (l.ins _ _ rfl s2)).elim
    | scr s2 => simp [eqv, D.odd] at h
    | dic s2 r2 => simp [eqv, D.odd] at h
    | ins s2 r2 => simp [eqv, D.odd] at h
  | _, _, _, _, .lst s1 r1, r, h => by
    have hs := l.ins _ _ rfl s1
    cases r with
    | tup s2 r2 =>
      have hs2 := l.sqT s2
      rw [k] at hs2
      exact (no_tl I hs2 hs).elim
    | lst s2 r2 =>
      rw [s1] at s2; cases s2
      simp only [eqv] at h
      exact eqvL_same I k l r1 r2 h
    | scr s2 => simp [eqv, D.odd] at h
    | dic s2 r2 => simp [eqv, D.odd] at h
    | ins s2 r2 => simp [eqv, D.odd] at h
  | _, _, _, _, .scr s1, r, h => by cases r <;> simp [eqv, D.odd] at h
  | _, _, _, _, .dic s1 r1, r, h => by
    cases r with
    | dic s2 r2 =>
      have e := rd_inj (l.rd _ _ s1) (l.rd _ _ s2)
      subst e
      have nv := rdK_nodup I (l.rd _ _ s1)
      have nd := nv
      rw [r1.keys] at nd
      simp only [eqv] at h
      cases hq : eqvK _ _ with
      | none => rw [hq] at h; simp at h
      | some c =>
        rw [hq] at h
        simp only [Option.map_some, Option.some.injEq] at h
        have hl : (_ : List (Key × D)).length = (_ : List (Key × D)).length := r1.length.symm.trans r2.length
        have := eqvK_same I k l r2 r1 (fun k' v' m => valV_mem nv m) hq
        rw [← h, this, hl]; simp
    | _ => simp [eqv, D.odd] at h
  | _, _, _, _, .ins s1 r1, r, h => by cases r <;> simp [eqv, D.odd] at h
theorem eqvL_same {X : Cx} {pins : List (Addr × Obj)} {σ : L2.St} {s : Shared} (I : Inv X pins σ H s) (k : C.K = X.K) (l : Le F H) : ∀ {d e : List D} {v : List V} {b : Bool}, RepL C F d v → RepL C F e v → eqvL d e = some b → b = true
  | _, _, _, _, .nil, .nil, h => by simp [eqvL] at h; exact h
  | _, _, _, _, .cons r1 t1, .cons r2 t2, h => by
    simp only [eqvL] at h
    split at h
    · rename_i p q h1 h2
      cases h
      rw [eqv_same I k l r1 r2 h1, eqvL_same I k l t1 t2 h2]; rfl
    · cases h
theorem eqvK_same {X : Cx} {pins : List (Addr × Obj)} {σ : L2.St} {s : Shared} (I : Inv X pins σ H s) (k : C.K = X.K) (l : Le F H) {es : List (Key × D)} {kvs0 : List (Key × V)} (r2 : RepK C F es kvs0) :
    ∀ {ds : List (Key × D)} {kvs : List (Key × V)} {b : Bool}, RepK C F ds kvs → (∀ k v, (k, v) ∈ kvs → valV kvs0 k = some v) → eqvK ds es = some b → b = true
  | _, _, _, .nil, _, h => by simp [eqvK] at h; exact h
  | _, _, _, .cons (k := k0) (d := d0) (v := v0) r1 t1, nd, h => by
    have q2 := r2.look k0
    rw [nd k0 v0 List.mem_cons_self] at q2
    simp only [eqvK] at h
    split at h
    · rename_i e1 b1 h1 h2
      rw [h1] at q2
      cases hq : eqv d0 e1 with
      | none => rw [hq] at h; simp at h
      | some c =>
        rw [hq] at h
        simp only [Option.map_some, Option.some.injEq] at h
        have i1 := eqvK_same I k l r2 t1 (fun k v m => nd k v (List.mem_cons_of_mem _ m)) h2
        rw [← h, i1, eqv_same I k l r1 q2 hq]; rfl
    · rename_i b1 h1 h2
      rw [h1] at q2
      exact q2.elim
    · cases h
end

theorem sqT_tuple {X : Cx} {pins : List (Addr × Obj)} {σ : L2.St} {s : Shared} {a : Addr} {vs : List V} (I : Inv X pins σ H s) (h : SqT X.K H a vs) : ∃ its : List Value, Vals vs its ∧ s.heap.IsTuple a its.toArray := by
  obtain ⟨its, r, ⟨o, ho, hc, n, hd⟩, _⟩ := I.tuple h
  exact ⟨its, r, ⟨o, ho, hc, n, hd⟩⟩
theorem lst_list {X : Cx} {pins : List (Addr × Obj)} {σ : L2.St} {s : Shared} {a : Addr} {vs : List V} (I : Inv X pins σ H s) (h : H a = some (.lst vs)) : ∃ its : List Value, Vals vs its ∧ s.heap.IsList a its.toArray := by
  obtain ⟨its, r, p, _⟩ := I.list (SqL.of h)
  exact ⟨its, r, p.isList⟩
open PySem.SeqAt PySem.W in
/-- == of unlike or flat data, for any run around: eqBool -/
theorem atLeaf {X : Cx} {pins : List (Addr × Obj)} {σ : L2.St} {s : Shared} (I : Inv X pins σ H s) (k : C.K = X.K) (l : Le F H) {d e : D} {v u : V} {x y : Value} (rd : Rep C F d v) (re : Rep C F e u) (rx : RelV v x) (ry : RelV u y)
    (ho : (d.odd || e.odd) = false) (ht : ∀ a b, ¬ (d = .tup a ∧ e = .tup b)) (hl : ∀ a b, ¬ (d = .lst a ∧ e = .lst b)) {A : Around} (hu' : A.units < cLine) : EqAt A s x y (eqF d e) := by
  cases rd with
  | non =>
    cases rx
    cases re with
    | non => cases ry; exact EqAt.same _
    | bl b => cases ry; exact EqAt.none_bool b
    | int i => obtain ⟨t, rfl⟩ := ry; exact EqAt.none_int i t
    | str z => obtain ⟨t, rfl⟩ := ry; exact EqAt.none_str z t
    | tup s2 r2 =>
      cases ry
      have hs := l.sqT s2
      rw [k] at hs
      obtain ⟨its, _, p⟩ := sqT_tuple I hs
      exact EqAt.none_tuple p hu'
    | lst s2 r2 => cases ry; obtain ⟨its, _, p⟩ := lst_list I (l.ins _ _ rfl s2); exact EqAt.none_list p hu'
    | scr _ => simp [D.odd] at ho
    | dic _ _ => simp [D.odd] at ho
    | ins _ _ => simp [D.odd] at ho
  | bl b0 =>
    cases rx
    cases re with
    | non => cases ry; exact EqAt.bool_none b0
    | bl b => cases ry; exact EqAt.bool_bool b0 b
    | int i => obtain ⟨t, rfl⟩ := ry; exact EqAt.bool_int b0 i t
    | str z => obtain ⟨t, rfl⟩ := ry; exact EqAt.bool_str b0 z t
    | tup s2 r2 =>
      cases ry
      have hs := l.sqT s2
      rw [k] at hs
      obtain ⟨its, _, p⟩ := sqT_tuple I hs
      exact EqAt.bool_tuple b0 p hu'
    | lst s2 r2 => cases ry; obtain ⟨its, _, p⟩ := lst_list I (l.ins _ _ rfl s2); exact EqAt.bool_list b0 p hu'
    | scr _ => simp [D.odd] at ho
    | dic _ _ => simp [D.odd] at ho
    | ins _ _ => simp [D.odd] at ho
  | int i0 =>
    obtain ⟨t0, rfl⟩ := rx
    cases re with
    | non => cases ry; exact EqAt.int_none i0 t0
    | bl b => cases ry; exact EqAt.int_bool i0 t0 b
    | int i => obtain ⟨t, rfl⟩ := ry; exact EqAt.int_int i0 t0 i t
    | str z => obtain ⟨t, rfl⟩ := ry; exact EqAt.int_str i0 t0 z t
    | tup s2 r2 =>
      cases ry
      have hs := l.sqT s2
      rw [k] at hs
      obtain ⟨its, _, p⟩ := sqT_tuple I hs
      exact EqAt.int_tuple i0 t0 p hu'
    | lst s2 r2 => cases ry; obtain ⟨its, _, p⟩ := lst_list I (l.ins _ _ rfl s2); exact EqAt.int_list i0 t0 p hu'
    | scr _ => simp [D.odd] at ho
    | dic _ _ => simp [D.odd] at ho
    | ins _ _ => simp [D.odd] at ho
  | str z0 =>
    obtain ⟨t0, rfl⟩ := rx
    cases re with
    | non => cases ry; exact EqAt.str_none z0 t0
    | bl b => cases ry; exact EqAt.str_bool z0 t0 b
    | int i => obtain ⟨t, rfl⟩ := ry; exact EqAt.str_int z0 t0 i t
    | str z => obtain ⟨t, rfl⟩ := ry; exact EqAt.str_str z0 t0 z t
    | tup s2 r2 =>
      cases ry
      have hs := l.sqT s2
      rw [k] at hs
      obtain ⟨its, _, p⟩ := sqT_tuple I hs
      exact EqAt.str_tuple z0 t0 p hu'
    | lst s2 r2 => cases ry; obtain ⟨its, _, p⟩ := lst_list I (l.ins _ _ rfl s2); exact EqAt.str_list z0 t0 p hu'
    | scr _ => simp [D.odd] at ho
    | dic _ _ => simp [D.odd] at ho
    | ins _ _ => simp [D.odd] at ho
  | tup s1 r1 =>
    cases rx
    have hs := l.sqT s1
    rw [k] at hs
    obtain ⟨its, _, p⟩ := sqT_tuple I hs
    cases re with
    | non => cases ry; exact EqAt.tuple_none p hu'
    | bl b => cases ry; exact EqAt.tuple_bool b p hu'
    | int i => obtain ⟨t, rfl⟩ := ry; exact EqAt.tuple_int i t p hu'
    | str z => obtain ⟨t, rfl⟩ := ry; exact EqAt.tuple_str z t p hu'
    | tup s2 r2 => exact absurd ⟨rfl, rfl⟩ (ht _ _)
    | lst s2 r2 => cases ry; obtain ⟨its2, _, p2⟩ := lst_list I (l.ins _ _ rfl s2); exact EqAt.tuple_list p p2 hu'
    | scr _ => simp [D.odd] at ho
    | dic _ _ => simp [D.odd] at ho
    | ins _ _ => simp [D.odd] at ho
  | lst s1 r1 =>
    cases rx
    obtain ⟨its, _, p⟩ := lst_list I (l.ins _ _ rfl s1)
    cases re with
    | non => cases ry; exact EqAt.list_none p hu'
    | bl b => cases ry; exact EqAt.list_bool b p hu'
    | int i => obtain ⟨t, rfl⟩ := ry; exact EqAt.list_int i t p hu'
    | str z => obtain ⟨t, rfl⟩ := ry; exact EqAt.list_str z t p hu'
    | tup s2 r2 =>
      cases ry
      have hs := l.sqT s2
      rw [k] at hs
      obtain ⟨its2, _, p2⟩ := sqT_tuple I hs
      exact EqAt.list_tuple p p2 hu'
    | lst s2 r2 => exact absurd ⟨rfl, rfl⟩ (hl _ _)
    | scr _ => simp [D.odd] at ho
    | dic _ _ => simp [D.odd] at ho
    | ins _ _ => simp [D.odd] at ho
  | scr _ => simp [D.odd] at ho
  | dic _ _ => simp [D.odd] at ho
  | ins _ _ => simp [D.odd] at ho
open PySem.SeqAt PySem.W in
/-- == of unlike or flat data, for any run around: == -/
theorem rcLeaf {X : Cx} {pins : List (Addr × Obj)} {σ : L2.St} {s : Shared} (I : Inv X pins σ H s) (k : C.K = X.K) (l : Le F H) {d e : D} {v u : V} {x y : Value} (rd : Rep C F d v) (re : Rep C F e u) (rx : RelV v x) (ry : RelV u y)
    (ho : (d.odd || e.odd) = false) (ht : ∀ a b, ¬ (d = .tup a ∧ e = .tup b)) (hl : ∀ a b, ¬ (d = .lst a ∧ e = .lst b)) {A : Around} (hu' : A.units < cLine) : RcAt A s x y (eqF d e) := by
  cases rd with
  | non =>
    cases rx
    cases re with
    | non => cases ry; exact RcAt.none_none
    | bl b => cases ry; exact RcAt.none_bool b
    | int i => obtain ⟨t, rfl⟩ := ry; exact RcAt.none_int i t
    | str z => obtain ⟨t, rfl⟩ := ry; exact RcAt.none_str z t
    | tup s2 r2 =>
      cases ry
      have hs := l.sqT s2
      rw [k] at hs
      obtain ⟨its, _, p⟩ := sqT_tuple I hs
      exact RcAt.none_tuple p hu'
    | lst s2 r2 => cases ry; obtain ⟨its, _, p⟩ := lst_list I (l.ins _ _ rfl s2); exact RcAt.none_list p hu'
    | scr _ => simp [D.odd] at ho
    | dic _ _ => simp [D.odd] at ho
    | ins _ _ => simp [D.odd] at ho
  | bl b0 =>
    cases rx
    cases re with
    | non => cases ry; exact RcAt.bool_none b0
    | bl b => cases ry; exact RcAt.bool_bool b0 b
    | int i => obtain ⟨t, rfl⟩ := ry; exact RcAt.bool_int b0 i t
    | str z => obtain ⟨t, rfl⟩ := ry; exact RcAt.bool_str b0 z t
    | tup s2 r2 =>
      cases ry
      have hs := l.sqT s2
      rw [k] at hs
      obtain ⟨its, _, p⟩ := sqT_tuple I hs
      exact RcAt.bool_tuple b0 p hu'
    | lst s2 r2 => cases ry; obtain ⟨its, _, p⟩ := lst_list I (l.ins _ _ rfl s2); exact RcAt.bool_list b0 p hu'
    | scr _ => simp [D.odd] at ho
    | dic _ _ => simp [D.odd] at ho
    | ins _ _ => simp [D.odd] at ho
  | int i0 =>
    obtain ⟨t0, rfl⟩ := rx
    cases re with
    | non => cases ry; exact RcAt.int_none i0 t0
    | bl b => cases ry; exact RcAt.int_bool i0 t0 b
    | int i => obtain ⟨t, rfl⟩ := ry; exact RcAt.int_int i0 t0 i t
    | str z => obtain ⟨t, rfl⟩ := ry; exact RcAt.int_str i0 t0 z t
    | tup s2 r2 =>
      cases ry
      have hs := l.sqT s2
      rw [k] at hs
      obtain ⟨its, _, p⟩ := sqT_tuple I hs
      exact RcAt.int_tuple i0 t0 p hu'
    | lst s2 r2 => cases ry; obtain ⟨its, _, p⟩ := lst_list I (l.ins _ _ rfl s2); exact RcAt.int_list i0 t0 p hu'
    | scr _ => simp [D.odd] at ho
    | dic _ _ => simp [D.odd] at ho
    | ins _ _ => simp [D.odd] at ho
  | str z0 =>
    obtain ⟨t0, rfl⟩ := rx
    cases re with
    | non => cases ry; exact RcAt.str_none z0 t0
    | bl b => cases ry; exact RcAt.str_bool z0 t0 b
    | int i => obtain ⟨t, rfl⟩ := ry; exact RcAt.str_int z0 t0 i t
    | str z => obtain ⟨t, rfl⟩ := ry; exact RcAt.str_str z0 t0 z t
    | tup s2 r2 =>
      cases ry
      have hs := l.sqT s2
      rw [k] at hs
      obtain ⟨its, _, p⟩ := sqT_tuple I hs
      exact RcAt.str_tuple z0 t0 p hu'
    | lst s2 r2 => cases ry; obtain ⟨its, _, p⟩ := lst_list I (l.ins _ _ rfl s2); exact RcAt.str_list z0 t0 p hu'
    | scr _ => simp [D.odd] at ho
    | dic _ _ => simp [D.odd] at ho
    | ins _ _ => simp [D.odd] at ho
  | tup s1 r1 =>
    cases rx
    have hs := l.sqT s1
    rw [k] at hs
    obtain ⟨its, _, p⟩ := sqT_tuple I hs
    cases re with
    | non => cases ry; exact RcAt.tuple_none p hu'
    | bl b => cases ry; exact RcAt.tuple_bool b p hu'
    | int i => obtain ⟨t, rfl⟩ := ry; exact RcAt.tuple_int i t p hu'
    | str z => obtain ⟨t, rfl⟩ := ry; exact RcAt.tuple_str z t p hu'
    | tup s2 r2 => exact absurd ⟨rfl, rfl⟩ (ht _ _)
    | lst s2 r2 => cases ry; obtain ⟨its2, _, p2⟩ := lst_list I (l.ins _ _ rfl s2); exact RcAt.tuple_list p p2 hu'
    | scr _ => simp [D.odd] at ho
    | dic _ _ => simp [D.odd] at ho
    | ins _ _ => simp [D.odd] at ho
  | lst s1 r1 =>
    cases rx
    obtain ⟨its, _, p⟩ := lst_list I (l.ins _ _ rfl s1)
    cases re with
    | non => cases ry; exact RcAt.list_none p hu'
    | bl b => cases ry; exact RcAt.list_bool b p hu'
    | int i => obtain ⟨t, rfl⟩ := ry; exact RcAt.list_int i t p hu'
    | str z => obtain ⟨t, rfl⟩ := ry; exact RcAt.list_str z t p hu'
    | tup s2 r2 =>
      cases ry
      have hs := l.sqT s2
      rw [k] at hs
      obtain ⟨its2, _, p2⟩ := sqT_tuple I hs
      exact RcAt.list_tuple p p2 hu'
    | lst s2 r2 => exact absurd ⟨rfl, rfl⟩ (hl _ _)
    | scr _ => simp [D.odd] at ho
    | dic _ _ => simp [D.odd] at ho
    | ins _ _ => simp [D.odd] at ho
  | scr _ => simp [D.odd] at ho
  | dic _ _ => simp [D.odd] at ho
  | ins _ _ => simp [D.odd] at ho
open PySem.SeqAt PySem.W in
/-- == of unlike or flat data, for any run around: != -/
theorem neLeaf {X : Cx} {pins : List (Addr × Obj)} {σ : L2.St} {s : Shared} (I : Inv X pins σ H s) (k : C.K = X.K) (l : Le F H) {d e : D} {v u : V} {x y : Value} (rd : Rep C F d v) (re : Rep C F e u) (rx : RelV v x) (ry : RelV u y)
    (ho : (d.odd || e.odd) = false) (ht : ∀ a b, ¬ (d = .tup a ∧ e = .tup b)) (hl : ∀ a b, ¬ (d = .lst a ∧ e = .lst b)) {A : Around} (hu' : A.units < cLine) : RcNeAt A s x y (!eqF d e) := by
  cases rd with
  | non =>
    cases rx
    cases re with
    | non => cases ry; exact RcNeAt.none_none
    | bl b => cases ry; exact RcNeAt.none_bool b
    | int i => obtain ⟨t, rfl⟩ := ry; exact RcNeAt.none_int i t
    | str z => obtain ⟨t, rfl⟩ := ry; exact RcNeAt.none_str z t
    | tup s2 r2 =>
      cases ry
      have hs := l.sqT s2
      rw [k] at hs
      obtain ⟨its, _, p⟩ := sqT_tuple I hs
      exact RcNeAt.none_tuple p hu'
    | lst s2 r2 => cases ry; obtain ⟨its, _, p⟩ := lst_list I (l.ins _ _ rfl s2); exact RcNeAt.none_list p hu'
    | scr _ => simp [D.odd] at ho
    | dic _ _ => simp [D.odd] at ho
    | ins _ _ => simp [D.odd] at ho
  | bl b0 =>
    cases rx
    cases re with
    | non => cases ry; exact RcNeAt.bool_none b0
    | bl b => cases ry; exact RcNeAt.bool_bool b0 b
    | int i => obtain ⟨t, rfl⟩ := ry; exact RcNeAt.bool_int b0 i t
    | str z => obtain ⟨t, rfl⟩ := ry; exact RcNeAt.bool_str b0 z t
    | tup s2 r2 =>
      cases ry
      have hs := l.sqT s2
      rw [k] at hs
      obtain ⟨its, _, p⟩ := sqT_tuple I hs
      exact RcNeAt.bool_tuple b0 p hu'
    | lst s2 r2 => cases ry; obtain ⟨its, _, p⟩ := lst_list I (l.ins _ _ rfl s2); exact RcNeAt.bool_list b0 p hu'
    | scr _ => simp [D.odd] at ho
    | dic _ _ => simp [D.odd] at ho
    | ins _ _ => simp [D.odd] at ho
  | int i0 =>
    obtain ⟨t0, rfl⟩ := rx
    cases re with
    | non => cases ry; exact RcNeAt.int_none i0 t0
    | bl b => cases ry; exact RcNeAt.int_bool i0 t0 b
    | int i => obtain ⟨t, rfl⟩ := ry; exact RcNeAt.int_int i0 t0 i t
    | str z => obtain ⟨t, rfl⟩ := ry; exact RcNeAt.int_str i0 t0 z t
    | tup s2 r2 =>
      cases ry
      have hs := l.sqT s2
      rw [k] at hs
      obtain ⟨its, _, p⟩ := sqT_tuple I hs
      exact RcNeAt.int_tuple i0 t0 p hu'
    | lst s2 r2 => cases ry; obtain ⟨its, _, p⟩ := lst_list I (l.ins _ _ rfl s2); exact RcNeAt.int_list i0 t0 p hu'
    | scr _ => simp [D.odd] at ho
    | dic _ _ => simp [D.odd] at ho
    | ins _ _ => simp [D.odd] at ho
  | str z0 =>
    obtain ⟨t0, rfl⟩ := rx
    cases re with
    | non => cases ry; exact RcNeAt.str_none z0 t0
    | bl b => cases ry; exact RcNeAt.str_bool z0 t0 b
    | int i => obtain ⟨t, rfl⟩ := ry; exact RcNeAt.str_int z0 t0 i t
    | str z => obtain ⟨t, rfl⟩ := ry; exact RcNeAt.str_str z0 t0 z t
    | tup s2 r2 =>
      cases ry
      have hs := l.sqT s2
      rw [k] at hs
      obtain ⟨its, _, p⟩ := sqT_tuple I hs
      exact RcNeAt.str_tuple z0 t0 p hu'
    | lst s2 r2 => cases ry; obtain ⟨its, _, p⟩ := lst_list I (l.ins _ _ rfl s2); exact RcNeAt.str_list z0 t0 p hu'
    | scr _ => simp [D.odd] at ho
    | dic _ _ => simp [D.odd] at ho
    | ins _ _ => simp [D.odd] at ho
  | tup s1 r1 =>
    cases rx
    have hs := l.sqT s1
    rw [k] at hs
    obtain ⟨its, _, p⟩ := sqT_tuple I hs
    cases re with
    | non => cases ry; exact RcNeAt.tuple_none p hu'
    | bl b => cases ry; exact RcNeAt.tuple_bool b p hu'
    | int i => obtain ⟨t, rfl⟩ := ry; exact RcNeAt.tuple_int i t p hu'
    | str z => obtain ⟨t, rfl⟩ := ry; exact RcNeAt.tuple_str z t p hu'
    | tup s2 r2 => exact absurd ⟨rfl, rfl⟩ (ht _ _)
    | lst s2 r2 => cases ry; obtain ⟨its2, _, p2⟩ := lst_list I (l.ins _ _ rfl s2); exact RcNeAt.tuple_list p p2 hu'
    | scr _ => simp [D.odd] at ho
    | dic _ _ => simp [D.odd] at ho
    | ins _ _ => simp [D.odd] at ho
  | lst s1 r1 =>
    cases rx
    obtain ⟨its, _, p⟩ := lst_list I (l.ins _ _ rfl s1)
    cases re with
    | non => cases ry; exact RcNeAt.list_none p hu'
    | bl b => cases ry; exact RcNeAt.list_bool b p hu'
    | int i => obtain ⟨t, rfl⟩ := ry; exact RcNeAt.list_int i t p hu'
    | str z => obtain ⟨t, rfl⟩ := ry; exact RcNeAt.list_str z t p hu'
    | tup s2 r2 =>
      cases ry
      have hs := l.sqT s2
      rw [k] at hs
      obtain ⟨its2, _, p2⟩ := sqT_tuple I hs
      exact RcNeAt.list_tuple p p2 hu'
    | lst s2 r2 => exact absurd ⟨rfl, rfl⟩ (hl _ _)
    | scr _ => simp [D.odd] at ho
    | dic _ _ => simp [D.odd] at ho
    | ins _ _ => simp [D.odd] at ho
  | scr _ => simp [D.odd] at ho
  | dic _ _ => simp [D.odd] at ho
  | ins _ _ => simp [D.odd] at ho
open PySem.SeqAt PySem.W in
/-- == of data, as a tree -/
theorem eqLeaf {X : Cx} {pins : List (Addr × Obj)} {σ : L2.St} {s : Shared} (I : Inv X pins σ H s) (k : C.K = X.K) (l : Le F H) {d e : D} {v u : V} {x y : Value} (rd : Rep C F d v) (re : Rep C F e u) (rx : RelV v x) (ry : RelV u y)
    (ho : (d.odd || e.odd) = false) (ht : ∀ a b, ¬ (d = .tup a ∧ e = .tup b)) (hl : ∀ a b, ¬ (d = .lst a ∧ e = .lst b)) (n : Nat) : EqTree X.prog X.w s n x y (eqF d e) := by
  exact .leaf fun A hu => atLeaf I k l rd re rx ry ho ht hl (by omega)
theorem dep_le {n : Nat} : ∀ {ds : List D}, depL ds ≤ n → ∀ {j : Nat} {d : D}, ds[j]? = some d → d.dep ≤ n
  | [], _, _, _, h => by simp at h
  | x :: xs, hn, j, d, h => by
    simp only [depL] at hn
    cases j with
    | zero => simp at h; subst h; omega
    | succ j => exact dep_le (ds := xs) (by omega) (j := j) (by simpa using h)
theorem depK_le {n : Nat} : ∀ {ds : List (Key × D)}, depK ds ≤ n → ∀ {k : Key} {d : D}, (k, d) ∈ ds → d.dep ≤ n
  | [], _, _, _, h => by simp at h
  | (k0, x) :: xs, hn, k, d, h => by
    simp only [depK] at hn
    rcases List.mem_cons.mp h with q | q
    · cases q; omega
    · exact depK_le (by omega) q
theorem kv_mem {k : Key} {x : Value} : ∀ {kvs : List (Key × V)} {vs : List (Key × Value)}, KV kvs vs → (k, x) ∈ vs → ∃ v, (k, v) ∈ kvs ∧ RelV v x
  | _, _, .nil, m => by simp at m
  | _, _, .cons (a := p) (b := q) h t, m => by
    rcases List.mem_cons.mp m with e | e
    · subst e
      exact ⟨p.2, by rw [show (k, p.2) = p from Prod.ext h.1.symm rfl]; exact List.mem_cons_self, h.2⟩
    · obtain ⟨v, m1, r⟩ := kv_mem t e
      exact ⟨v, List.mem_cons_of_mem _ m1, r⟩
theorem look_in {k : Key} {d : D} {ds : List (Key × D)} (h : look ds k = some d) : (k, d) ∈ ds := by
  unfold look at h
  cases hf : ds.find? fun kv => decide (kv.1 = k) with
  | none => rw [hf] at h; simp at h
  | some p =>
    rw [hf] at h
    simp at h
    have m1 := List.mem_of_find?_eq_some hf
    have m2 := List.find?_some hf
    have m3 : p.1 = k := of_decide_eq_true m2
    rw [← m3, ← h]; exact m1
/-- two tables, one beside the other -/
theorem dicts_at {X : Cx} {pins : List (Addr × Obj)} {σ : L2.St} {s : Shared} (I : Inv X pins σ H s) (l : Le F H) {a1 a2 : Addr} {kvs1 kvs2 : List (Key × V)} {ds es : List (Key × D)} {c : Bool}
    (s1 : Rd F a1 (.dK kvs1)) (s2 : Rd F a2 (.dK kvs2)) (r1 : RepK C F ds kvs1) (r2 : RepK C F es kvs2) (hq : eqvK ds es = some c) :
    (a1 == sysModules) = false ∧ (a2 == sysModules) = false ∧ ∃ vs1 vs2, s.heap.DictOf (mixKind X.prog X.w) a1 vs1 ∧ s.heap.DictOf (mixKind X.prog X.w) a2 vs2 ∧ vs1.length = ds.length ∧ vs2.length = es.length ∧
      c = (vs1.all fun p => (valueAt vs2 p.1).isSome && atK ds es p.1) ∧
      ∀ k x y, (k, x) ∈ vs1 → valueAt vs2 k = some y → ∃ d e v u, (k, d) ∈ ds ∧ Rep C F d v ∧ Rep C F e u ∧ RelV v x ∧ RelV u y ∧ eqv d e = some (atK ds es k) := by
  have nd1 := rdK_nodup I (l.rd _ _ s1)
  obtain ⟨_, b1, vs1, q1, dd1⟩ := dk_rd I.hok (l.rd _ _ s1)
  obtain ⟨_, b2, vs2, q2, dd2⟩ := dk_rd I.hok (l.rd _ _ s2)
  have ndd := nd1
  rw [r1.keys] at ndd
  have hc := eqvK_val ds es hq fun k d m => look_mem ndd m
  refine ⟨b1, b2, vs1, vs2, dd1, dd2, by rw [← q1.length, r1.length], by rw [← q2.length, r2.length], ?_, fun k' x' y' m hy' => ?_⟩
  · have i2 : ∀ k, (look es k).isSome = (valueAt vs2 k).isSome := fun k => by
      have a := r2.look k
      have b := q2.val k
      cases h1 : look es k <;> cases h2 : valV kvs2 k <;> cases h3 : valueAt vs2 k <;> rw [h1, h2] at a <;> rw [h2, h3] at b <;> first | rfl | exact a.elim | exact b.elim
    have e1 : (ds.all fun p => (look es p.1).isSome && atK ds es p.1) = ((ds.map (·.1)).all fun k => (look es k).isSome && atK ds es k) := by rw [List.all_map]; rfl
    have e2 : (vs1.all fun p => (valueAt vs2 p.1).isSome && atK ds es p.1) = ((vs1.map (·.1)).all fun k => (valueAt vs2 k).isSome && atK ds es k) := by rw [List.all_map]; rfl
    rw [hc, e1, e2, ← r1.keys, q1.keys]
    congr 1
    funext k
    rw [i2]
  · obtain ⟨v', hv', rx'⟩ := kv_mem q1 m
    have a := r1.look k'
    rw [valV_mem nd1 hv'] at a
    cases hd1 : look ds k' with
    | none => rw [hd1] at a; exact a.elim
    | some d' =>
      rw [hd1] at a
      have b2 := q2.val k'
      rw [hy'] at b2
      cases hu1 : valV kvs2 k' with
      | none => rw [hu1] at b2; exact b2.elim
      | some u' =>
        rw [hu1] at b2
        have a2 := r2.look k'
        rw [hu1] at a2
        cases he1 : look es k' with
        | none => rw [he1] at a2; exact a2.elim
        | some e' =>
          rw [he1] at a2
          obtain ⟨c', hc'⟩ := eqvK_at es hq k' d' e' (look_in hd1) he1
          exact ⟨d', e', v', u', look_in hd1, a, a2, rx', b2, by rw [hc']; simp [atK, hd1, he1, hc']⟩
open PySem.SeqAt PySem.W in
theorem eqTree {X : Cx} {pins : List (Addr × Obj)} {σ : L2.St} {s : Shared} (I : Inv X pins σ H s) (k : C.K = X.K) (l : Le F H) : ∀ (n : Nat) {d e : D} {v u : V} {x y : Value} {b : Bool}, d.dep ≤ n → Rep C F d v → Rep C F e u → RelV v x → RelV u y → eqv d e = some b → EqTree X.prog X.w s n x y b := by
  intro n
  induction n with
  | zero =>
    intro d e v u x y b hd rd re rx ry h
    cases d with
    | tup ds => simp [D.dep] at hd
    | lst ds => simp [D.dep] at hd
    | dic ds => simp [D.dep] at hd
    | ins c fs => simp [eqv, D.odd] at h
    | scr ns => simp [eqv, D.odd] at h
    | _ =>
      simp only [eqv] at h
      split at h
      · cases h
      · rename_i ho
        cases h
        exact eqLeaf I k l rd re rx ry (by simpa using ho) (fun _ _ z => nomatch z.1) (fun _ _ z => nomatch z.1) 0
  | succ n ih =>
    intro d e v u x y b hd rd re rx ry h
    cases d with
    | ins c fs => simp [eqv, D.odd] at h
    | scr ns => simp [eqv, D.odd] at h
    | tup ds =>
      cases e with
      | tup es =>
        cases rd with
        | @tup a1 vs1 _ s1 r1 =>
        cases re with
        | @tup a2 vs2 _ s2 r2 =>
          cases rx
          cases ry
          by_cases ea : a1 = a2
          · subst ea
            rw [eqv_same I k l (.tup s1 r1) (.tup s2 r2) h]
            exact .same
          · simp only [eqv] at h
            obtain ⟨eb, ej⟩ := eqvL_at h
            have hs1 := l.sqT s1
            have hs2 := l.sqT s2
            rw [k] at hs1 hs2
            obtain ⟨its1, q1, p1⟩ := sqT_tuple I hs1
            obtain ⟨its2, q2, p2⟩ := sqT_tuple I hs2
            have n1 : its1.toArray.size = ds.length := by rw [List.size_toArray, ← q1.length, r1.length]
            have n2 : its2.toArray.size = es.length := by rw [List.size_toArray, ← q2.length, r2.length]
            rw [eb, ← n1, ← n2]
            refine .tuples ea p1 p2 fun j j1 j2 => ?_
            obtain ⟨d', hd'⟩ : ∃ d', ds[j]? = some d' := ⟨ds[j]'(by omega), List.getElem?_eq_getElem _⟩
            obtain ⟨e', he'⟩ : ∃ e', es[j]? = some e' := ⟨es[j]'(by omega), List.getElem?_eq_getElem _⟩
            obtain ⟨v', hv', rv'⟩ := r1.get hd'
            obtain ⟨u', hu', ru'⟩ := r2.get he'
            obtain ⟨x', hx', rx'⟩ := q1.get hv'
            obtain ⟨y', hy', ry'⟩ := q2.get hu'
            have ex : its1.toArray[j] = x' := by
              have : its1[j]? = some x' := hx'
              rw [List.getElem?_eq_getElem (by simpa using j1)] at this
              simpa using this
            have ey : its2.toArray[j] = y' := by
              have : its2[j]? = some y' := hy'
              rw [List.getElem?_eq_getElem (by simpa using j2)] at this
              simpa using this
            rw [ex, ey]
            exact ih (dep_le (by simp only [D.dep] at hd; omega) hd') rv' ru' rx' ry' (ej j d' e' hd' he')
      | dic _ => simp [eqv, D.odd] at h
      | ins _ _ => simp [eqv, D.odd] at h
      | scr _ => simp [eqv, D.odd] at h
      | _ =>
        simp only [eqv] at h
        split at h
        · cases h
        · rename_i ho
          cases h
          exact eqLeaf I k l rd re rx ry (by simpa using ho) (fun _ _ z => nomatch z.2) (fun _ _ z => nomatch z.1) _
    | lst ds =>
      cases e with
      | lst es =>
        cases rd with
        | @lst a1 vs1 _ s1 r1 =>
        cases re with
        | @lst a2 vs2 _ s2 r2 =>
          cases rx
          cases ry
          by_cases ea : a1 = a2
          · subst ea
            rw [eqv_same I k l (.lst s1 r1) (.lst s2 r2) h]
            exact .same
          · simp only [eqv] at h
            obtain ⟨eb, ej⟩ := eqvL_at h
            obtain ⟨its1, q1, p1⟩ := lst_list I (l.ins _ _ rfl s1)
            obtain ⟨its2, q2, p2⟩ := lst_list I (l.ins _ _ rfl s2)
            have n1 : its1.toArray.size = ds.length := by rw [List.size_toArray, ← q1.length, r1.length]
            have n2 : its2.toArray.size = es.length := by rw [List.size_toArray, ← q2.length, r2.length]
            by_cases hsz : ds.length = es.length
            · rw [eb, hsz, Nat.min_self, beq_self_eq_true, Bool.and_true, ← hsz, ← n1]
              refine .lists ea p1 p2 (by omega) fun j j1 j2 => ?_
              obtain ⟨d', hd'⟩ : ∃ d', ds[j]? = some d' := ⟨ds[j]'(by omega), List.getElem?_eq_getElem _⟩
              obtain ⟨e', he'⟩ : ∃ e', es[j]? = some e' := ⟨es[j]'(by omega), List.getElem?_eq_getElem _⟩
              obtain ⟨v', hv', rv'⟩ := r1.get hd'
              obtain ⟨u', hu', ru'⟩ := r2.get he'
              obtain ⟨x', hx', rx'⟩ := q1.get hv'
              obtain ⟨y', hy', ry'⟩ := q2.get hu'
              have ex : its1.toArray[j] = x' := by
                have : its1[j]? = some x' := hx'
                rw [List.getElem?_eq_getElem (by simpa using j1)] at this
                simpa using this
              have ey : its2.toArray[j] = y' := by
                have : its2[j]? = some y' := hy'
                rw [List.getElem?_eq_getElem (by simpa using j2)] at this
                simpa using this
              rw [ex, ey]
              exact ih (dep_le (by simp only [D.dep] at hd; omega) hd') rv' ru' rx' ry' (ej j d' e' hd' he')
            · have ebf : b = false := by rw [eb, beq_eq_false_iff_ne.mpr hsz, Bool.and_false]
              rw [ebf]
              exact .listsLen ea p1 p2 (by rw [n1, n2]; exact bne_iff_ne.mpr hsz)
      | dic _ => simp [eqv, D.odd] at h
      | ins _ _ => simp [eqv, D.odd] at h
      | scr _ => simp [eqv, D.odd] at h
      | _ =>
        simp only [eqv] at h
        split at h
        · cases h
        · rename_i ho
          cases h
          exact eqLeaf I k l rd re rx ry (by simpa using ho) (fun _ _ z => nomatch z.1) (fun _ _ z => nomatch z.2) _
    | dic ds =>
      cases e with
      | dic es =>
        cases rd with
        | @dic a1 kvs1 _ s1 r1 =>
        cases re with
        | @dic a2 kvs2 _ s2 r2 =>
          cases rx
          cases ry
          by_cases ea : a1 = a2
          · subst ea
            rw [eqv_same I k l (.dic s1 r1) (.dic s2 r2) h]
            exact .same
          · simp only [eqv] at h
            cases hq : eqvK ds es with
            | none => rw [hq] at h; simp at h
            | some c =>
              rw [hq] at h
              simp only [Option.map_some, Option.some.injEq] at h
              obtain ⟨b1, b2, vs1, vs2, dd1, dd2, l1, l2, ec, pts⟩ := dicts_at I l s1 s2 r1 r2 hq
              rw [← h, ec, ← l1, ← l2]
              refine .dicts ea b1 b2 dd1 dd2 fun k' x' y' m hy' => ?_
              obtain ⟨d', e', v', u', hm, rv', ru', rx', ry', hc'⟩ := pts k' x' y' m hy'
              exact ih (depK_le (by simp only [D.dep] at hd; omega) hm) rv' ru' rx' ry' hc'
      | _ => simp [eqv, D.odd] at h
    | _ =>
      simp only [eqv] at h
      split at h
      · cases h
      · rename_i ho
        cases h
        exact eqLeaf I k l rd re rx ry (by simpa using ho) (fun _ _ z => nomatch z.1) (fun _ _ z => nomatch z.1) _

/-! ### data without tables -/
mutual
@[simp] def D.nod : D → Bool
  | .tup xs => nodL xs
  | .lst xs => nodL xs
  | .dic _ => false
  | _ => true
@[simp] def nodL : List D → Bool
  | [] => true
  | x :: xs => x.nod && nodL xs
end
theorem nod_at : ∀ {ds : List D}, nodL ds = true → ∀ {j : Nat} {d : D}, ds[j]? = some d → d.nod = true
  | [], _, _, _, h => by simp at h
  | x :: xs, hn, j, d, h => by
    simp only [nodL, Bool.and_eq_true] at hn
    cases j with
    | zero => simp at h; subst h; exact hn.1
    | succ j => exact nod_at (ds := xs) hn.2 (j := j) (by simpa using h)
/-- the places of two rows, one beside the other -/
theorem rows_at {vs1 vs2 : List V} {ds es : List D} {its1 its2 : List Value} (r1 : RepL C F ds vs1) (r2 : RepL C F es vs2) (q1 : Vals vs1 its1) (q2 : Vals vs2 its2) {j : Nat} (j1 : j < its1.toArray.size) (j2 : j < its2.toArray.size) :
    ∃ d e v u, ds[j]? = some d ∧ es[j]? = some e ∧ Rep C F d v ∧ Rep C F e u ∧ RelV v its1.toArray[j] ∧ RelV u its2.toArray[j] := by
  have n1 : its1.length = ds.length := by rw [← q1.length, r1.length]
  have n2 : its2.length = es.length := by rw [← q2.length, r2.length]
  simp only [List.size_toArray] at j1 j2
  obtain ⟨d', hd'⟩ : ∃ d', ds[j]? = some d' := ⟨ds[j]'(by omega), List.getElem?_eq_getElem _⟩
  obtain ⟨e', he'⟩ : ∃ e', es[j]? = some e' := ⟨es[j]'(by omega), List.getElem?_eq_getElem _⟩
  obtain ⟨v', hv', rv'⟩ := r1.get hd'
  obtain ⟨u', hu', ru'⟩ := r2.get he'
  obtain ⟨x', hx', rx'⟩ := q1.get hv'
  obtain ⟨y', hy', ry'⟩ := q2.get hu'
  have ex : its1.toArray[j]'(by simpa using j1) = x' := by
    rw [List.getElem?_eq_getElem j1] at hx'
    simpa using hx'
  have ey : its2.toArray[j]'(by simpa using j2) = y' := by
    rw [List.getElem?_eq_getElem j2] at hy'
    simpa using hy'
  exact ⟨d', e', v', u', hd', he', rv', ru', by rw [ex]; exact rx', by rw [ey]; exact ry'⟩
open PySem.SeqAt PySem.W in
theorem eqAtD {X : Cx} {pins : List (Addr × Obj)} {σ : L2.St} {s : Shared} (I : Inv X pins σ H s) (k : C.K = X.K) (l : Le F H) : ∀ (n : Nat) {A : Around} {d e : D} {v u : V} {x y : Value} {b : Bool}, A.units + n < cLine → d.dep ≤ n → d.nod = true →
    Rep C F d v → Rep C F e u → RelV v x → RelV u y → eqv d e = some b → EqAt A s x y b := by
  intro n
  induction n with
  | zero =>
    intro A d e v u x y b hu hd hn rd re rx ry h
    cases d with
    | tup ds => simp [D.dep] at hd
    | lst ds => simp [D.dep] at hd
    | dic ds => simp [D.dep] at hd
    | ins c fs => simp [eqv, D.odd] at h
    | scr ns => simp [eqv, D.odd] at h
    | _ =>
      simp only [eqv] at h
      split at h
      · cases h
      · rename_i ho
        cases h
        exact atLeaf I k l rd re rx ry (by simpa using ho) (fun _ _ z => nomatch z.1) (fun _ _ z => nomatch z.1) (by omega)
  | succ n ih =>
    intro A d e v u x y b hu hd hn rd re rx ry h
    have hu' : A.units < cLine := by omega
    have hin : A.in1.units + n < cLine := by show A.units + 1 + n < cLine; omega
    cases d with
    | ins c fs => simp [eqv, D.odd] at h
    | scr ns => simp [eqv, D.odd] at h
    | dic ds => simp [D.nod] at hn
    | tup ds =>
      cases e with
      | tup es =>
        cases rd with
        | @tup a1 vs1 _ s1 r1 =>
        cases re with
        | @tup a2 vs2 _ s2 r2 =>
          cases rx
          cases ry
          by_cases ea : a1 = a2
          · subst ea
            rw [eqv_same I k l (.tup s1 r1) (.tup s2 r2) h]
            exact EqAt.same _
          · simp only [eqv] at h
            obtain ⟨eb, ej⟩ := eqvL_at h
            have hs1 := l.sqT s1
            have hs2 := l.sqT s2
            rw [k] at hs1 hs2
            obtain ⟨its1, q1, p1⟩ := sqT_tuple I hs1
            obtain ⟨its2, q2, p2⟩ := sqT_tuple I hs2
            have n1 : its1.toArray.size = ds.length := by rw [List.size_toArray, ← q1.length, r1.length]
            have n2 : its2.toArray.size = es.length := by rw [List.size_toArray, ← q2.length, r2.length]
            rw [eb, ← n1, ← n2]
            refine EqAt.of_refs ea (RcAt.tuples p1 p2 hu' fun j j1 j2 => ?_)
            obtain ⟨d', e', v', u', hd', he', rv', ru', rx', ry'⟩ := rows_at r1 r2 q1 q2 j1 j2
            exact ih hin (dep_le (by simp only [D.dep] at hd; omega) hd') (nod_at hn hd') rv' ru' rx' ry' (ej j d' e' hd' he')
      | dic _ => simp [eqv, D.odd] at h
      | ins _ _ => simp [eqv, D.odd] at h
      | scr _ => simp [eqv, D.odd] at h
      | _ =>
        simp only [eqv] at h
        split at h
        · cases h
        · rename_i ho
          cases h
          exact atLeaf I k l rd re rx ry (by simpa using ho) (fun _ _ z => nomatch z.2) (fun _ _ z => nomatch z.1) hu'
    | lst ds =>
      cases e with
      | lst es =>
        cases rd with
        | @lst a1 vs1 _ s1 r1 =>
        cases re with
        | @lst a2 vs2 _ s2 r2 =>
          cases rx
          cases ry
          by_cases ea : a1 = a2
          · subst ea
            rw [eqv_same I k l (.lst s1 r1) (.lst s2 r2) h]
            exact EqAt.same _
          · simp only [eqv] at h
            obtain ⟨eb, ej⟩ := eqvL_at h
            obtain ⟨its1, q1, p1⟩ := lst_list I (l.ins _ _ rfl s1)
            obtain ⟨its2, q2, p2⟩ := lst_list I (l.ins _ _ rfl s2)
            have n1 : its1.toArray.size = ds.length := by rw [List.size_toArray, ← q1.length, r1.length]
            have n2 : its2.toArray.size = es.length := by rw [List.size_toArray, ← q2.length, r2.length]
            by_cases hsz : ds.length = es.length
            · rw [eb, hsz, Nat.min_self, beq_self_eq_true, Bool.and_true, ← hsz, ← n1]
              refine EqAt.of_refs ea (RcAt.lists p1 p2 (by omega) hu' fun j j1 j2 => ?_)
              obtain ⟨d', e', v', u', hd', he', rv', ru', rx', ry'⟩ := rows_at r1 r2 q1 q2 j1 j2
              exact ih hin (dep_le (by simp only [D.dep] at hd; omega) hd') (nod_at hn hd') rv' ru' rx' ry' (ej j d' e' hd' he')
            · have ebf : b = false := by rw [eb, beq_eq_false_iff_ne.mpr hsz, Bool.and_false]
              rw [ebf]
              exact EqAt.of_refs ea (RcAt.lists_lengths p1 p2 (by rw [n1, n2]; exact bne_iff_ne.mpr hsz) hu')
      | dic _ => simp [eqv, D.odd] at h
      | ins _ _ => simp [eqv, D.odd] at h
      | scr _ => simp [eqv, D.odd] at h
      | _ =>
        simp only [eqv] at h
        split at h
        · cases h
        · rename_i ho
          cases h
          exact atLeaf I k l rd re rx ry (by simpa using ho) (fun _ _ z => nomatch z.1) (fun _ _ z => nomatch z.2) hu'
    | _ =>
      simp only [eqv] at h
      split at h
      · cases h
      · rename_i ho
        cases h
        exact atLeaf I k l rd re rx ry (by simpa using ho) (fun _ _ z => nomatch z.1) (fun _ _ z => nomatch z.1) hu'

def nodK : List (Key × D) → Bool
  | [] => true
  | (_, x) :: xs => x.nod && nodK xs
theorem nodK_at : ∀ {ds : List (Key × D)}, nodK ds = true → ∀ {k : Key} {d : D}, (k, d) ∈ ds → d.nod = true
  | [], _, _, _, h => by simp at h
  | (k0, x) :: xs, hn, k, d, h => by
    simp only [nodK, Bool.and_eq_true] at hn
    rcases List.mem_cons.mp h with q | q
    · cases q; exact hn.1
    · exact nodK_at hn.2 q
open PySem.SeqAt PySem.W in
/-- a == b -/
theorem eqCmp {X : Cx} {pins : List (Addr × Obj)} {σ : L2.St} {s : Shared} (I : Inv X pins σ H s) (k : C.K = X.K) (l : Le F H) {A : Around} {E : Value → Shared → Prop} {d e : D} {v u : V} {x y : Value} {b : Bool} {Q : Value → Shared → Prop} (hu : A.units + 150 < cLine) (hd : d.dep ≤ 100)
    (rd : Rep C F d v) (re : Rep C F e u) (rx : RelV v x) (ry : RelV u y) (h : eqv d e = some b) (hq : Q (.bool b) s) : wpAny (model X.prog X.w) A (compareOp .Eq x y) Q E s := by
  have hu' : A.units < cLine := by omega
  have hin : ∀ n, n ≤ 100 → A.in1.units + n < cLine := fun n z => by show A.units + 1 + n < cLine; omega
  cases d with
  | ins c fs => simp [eqv, D.odd] at h
  | scr ns => simp [eqv, D.odd] at h
  | tup ds =>
    cases e with
    | tup es =>
      cases rd with
      | @tup a1 vs1 _ s1 r1 =>
      cases re with
      | @tup a2 vs2 _ s2 r2 =>
        cases rx
        cases ry
        simp only [eqv] at h
        obtain ⟨eb, ej⟩ := eqvL_at h
        have hs1 := l.sqT s1
        have hs2 := l.sqT s2
        rw [k] at hs1 hs2
        obtain ⟨its1, q1, p1⟩ := sqT_tuple I hs1
        obtain ⟨its2, q2, p2⟩ := sqT_tuple I hs2
        have n1 : its1.toArray.size = ds.length := by rw [List.size_toArray, ← q1.length, r1.length]
        have n2 : its2.toArray.size = es.length := by rw [List.size_toArray, ← q2.length, r2.length]
        rw [eb, ← n1, ← n2] at hq
        simp only [D.dep] at hd
        refine rcIn_tuples p1 p2 hu' (fun j j1 j2 => ?_) hq
        obtain ⟨d', e', v', u', hd', he', rv', ru', rx', ry'⟩ := rows_at r1 r2 q1 q2 j1 j2
        exact (eqTree I k l (depL ds) (dep_le (Nat.le_refl _) hd') rv' ru' rx' ry' (ej j d' e' hd' he')).at _ (hin _ (by omega))
    | dic _ => simp [eqv, D.odd] at h
    | ins _ _ => simp [eqv, D.odd] at h
    | scr _ => simp [eqv, D.odd] at h
    | _ =>
      simp only [eqv] at h
      split at h
      · cases h
      · rename_i ho
        cases h
        exact rcLeaf I k l rd re rx ry (by simpa using ho) (fun _ _ z => nomatch z.2) (fun _ _ z => nomatch z.1) hu' _ _ _ _ hq
  | lst ds =>
    cases e with
    | lst es =>
      cases rd with
      | @lst a1 vs1 _ s1 r1 =>
      cases re with
      | @lst a2 vs2 _ s2 r2 =>
        cases rx
        cases ry
        simp only [eqv] at h
        obtain ⟨eb, ej⟩ := eqvL_at h
        obtain ⟨its1, q1, p1⟩ := lst_list I (l.ins _ _ rfl s1)
        obtain ⟨its2, q2, p2⟩ := lst_list I (l.ins _ _ rfl s2)
        have n1 : its1.toArray.size = ds.length := by rw [List.size_toArray, ← q1.length, r1.length]
        have n2 : its2.toArray.size = es.length := by rw [List.size_toArray, ← q2.length, r2.length]
        simp only [D.dep] at hd
        by_cases hsz : ds.length = es.length
        · rw [eb, hsz, Nat.min_self, beq_self_eq_true, Bool.and_true, ← hsz, ← n1] at hq
          refine rcIn_lists p1 p2 (by omega) hu' (fun j j1 j2 => ?_) hq
          obtain ⟨d', e', v', u', hd', he', rv', ru', rx', ry'⟩ := rows_at r1 r2 q1 q2 j1 j2
          exact (eqTree I k l (depL ds) (dep_le (Nat.le_refl _) hd') rv' ru' rx' ry' (ej j d' e' hd' he')).at _ (hin _ (by omega))
        · have ebf : b = false := by rw [eb, beq_eq_false_iff_ne.mpr hsz, Bool.and_false]
          rw [ebf] at hq
          exact RcAt.lists_lengths p1 p2 (by rw [n1, n2]; exact bne_iff_ne.mpr hsz) hu' _ _ _ _ hq
    | dic _ => simp [eqv, D.odd] at h
    | ins _ _ => simp [eqv, D.odd] at h
    | scr _ => simp [eqv, D.odd] at h
    | _ =>
      simp only [eqv] at h
      split at h
      · cases h
      · rename_i ho
        cases h
        exact rcLeaf I k l rd re rx ry (by simpa using ho) (fun _ _ z => nomatch z.1) (fun _ _ z => nomatch z.2) hu' _ _ _ _ hq
  | dic ds =>
    cases e with
    | dic es =>
      cases rd with
      | @dic a1 kvs1 _ s1 r1 =>
      cases re with
      | @dic a2 kvs2 _ s2 r2 =>
        cases rx
        cases ry
        simp only [eqv] at h
        simp only [D.dep] at hd
        cases hq' : eqvK ds es with
        | none => rw [hq'] at h; simp at h
        | some c =>
          rw [hq'] at h
          simp only [Option.map_some, Option.some.injEq] at h
          obtain ⟨b1, b2, vs1, vs2, dd1, dd2, l1, l2, ec, pts⟩ := dicts_at I l s1 s2 r1 r2 hq'
          rw [← h, ec, ← l1, ← l2] at hq
          refine keq_eqIn b1 b2 dd1 dd2 hu' (fun _ => KeqHitsIn.of _ fun k' x' y' m hy' => ?_) hq
          obtain ⟨d', e', v', u', hm, rv', ru', rx', ry', hc'⟩ := pts k' x' y' m hy'
          exact (eqTree I k l (depK ds) (depK_le (Nat.le_refl _) hm) rv' ru' rx' ry' hc').at _ (hin _ (by omega))
    | _ => simp [eqv, D.odd] at h
  | _ =>
    simp only [eqv] at h
    split at h
    · cases h
    · rename_i ho
      cases h
      exact rcLeaf I k l rd re rx ry (by simpa using ho) (fun _ _ z => nomatch z.1) (fun _ _ z => nomatch z.1) hu' _ _ _ _ hq
/-- what != has an answer for -/
@[simp] def D.neOk : D → Bool
  | .dic kvs => nodK kvs
  | d => d.nod
theorem keqHits_of {kb : List (Key × Value)} {A : Around} {s : Shared} {e : Key → Bool} : ∀ (r : List (Key × Value)), (∀ k v y, (k, v) ∈ r → valueAt kb k = some y → SeqAt.EqAt A s v y (e k)) →
    PySem.W.KeqHits A s kb r (r.all fun p => (valueAt kb p.1).isSome && e p.1)
  | [], _ => .nil
  | (k, v) :: r, h => by
    rw [List.all_cons]
    cases hv : valueAt kb k with
    | none => simp only [hv, Option.isSome_none, Bool.false_and]; exact .miss hv
    | some y =>
      simp only [hv, Option.isSome_some, Bool.true_and]
      exact .hit hv (h k v y List.mem_cons_self hv) (keqHits_of r fun k' v' y' m hv' => h k' v' y' (List.mem_cons_of_mem _ m) hv')
open PySem.SeqAt PySem.W in
/-- a != b -/
theorem neCmp {X : Cx} {pins : List (Addr × Obj)} {σ : L2.St} {s : Shared} (I : Inv X pins σ H s) (k : C.K = X.K) (l : Le F H) {A : Around} {E : Value → Shared → Prop} {d e : D} {v u : V} {x y : Value} {b : Bool} {Q : Value → Shared → Prop} (hu : A.units + 150 < cLine) (hd : d.dep ≤ 100) (hn : d.neOk = true)
    (rd : Rep C F d v) (re : Rep C F e u) (rx : RelV v x) (ry : RelV u y) (h : eqv d e = some b) (hq : Q (.bool (!b)) s) : wpAny (model X.prog X.w) A (compareOp .NotEq x y) Q E s := by
  have hu' : A.units < cLine := by omega
  have hin : ∀ n, n ≤ 100 → A.in1.units + n < cLine := fun n z => by show A.units + 1 + n < cLine; omega
  cases d with
  | ins c fs => simp [eqv, D.odd] at h
  | scr ns => simp [eqv, D.odd] at h
  | tup ds =>
    cases e with
    | tup es =>
      cases rd with
      | @tup a1 vs1 _ s1 r1 =>
      cases re with
      | @tup a2 vs2 _ s2 r2 =>
        cases rx
        cases ry
        simp only [eqv] at h
        obtain ⟨eb, ej⟩ := eqvL_at h
        have hs1 := l.sqT s1
        have hs2 := l.sqT s2
        rw [k] at hs1 hs2
        obtain ⟨its1, q1, p1⟩ := sqT_tuple I hs1
        obtain ⟨its2, q2, p2⟩ := sqT_tuple I hs2
        have n1 : its1.toArray.size = ds.length := by rw [List.size_toArray, ← q1.length, r1.length]
        have n2 : its2.toArray.size = es.length := by rw [List.size_toArray, ← q2.length, r2.length]
        rw [eb, ← n1, ← n2] at hq
        simp only [D.dep] at hd
        refine RcNeAt.tuples p1 p2 hu' (fun j j1 j2 => ?_) _ _ _ _ hq
        obtain ⟨d', e', v', u', hd', he', rv', ru', rx', ry'⟩ := rows_at r1 r2 q1 q2 j1 j2
        exact eqAtD I k l (depL ds) (hin _ (by omega)) (dep_le (Nat.le_refl _) hd') (nod_at hn hd') rv' ru' rx' ry' (ej j d' e' hd' he')
    | dic _ => simp [eqv, D.odd] at h
    | ins _ _ => simp [eqv, D.odd] at h
    | scr _ => simp [eqv, D.odd] at h
    | _ =>
      simp only [eqv] at h
      split at h
      · cases h
      · rename_i ho
        cases h
        exact neLeaf I k l rd re rx ry (by simpa using ho) (fun _ _ z => nomatch z.2) (fun _ _ z => nomatch z.1) hu' _ _ _ _ hq
  | lst ds =>
    cases e with
    | lst es =>
      cases rd with
      | @lst a1 vs1 _ s1 r1 =>
      cases re with
      | @lst a2 vs2 _ s2 r2 =>
        cases rx
        cases ry
        simp only [eqv] at h
        obtain ⟨eb, ej⟩ := eqvL_at h
        obtain ⟨its1, q1, p1⟩ := lst_list I (l.ins _ _ rfl s1)
        obtain ⟨its2, q2, p2⟩ := lst_list I (l.ins _ _ rfl s2)
        have n1 : its1.toArray.size = ds.length := by rw [List.size_toArray, ← q1.length, r1.length]
        have n2 : its2.toArray.size = es.length := by rw [List.size_toArray, ← q2.length, r2.length]
        simp only [D.dep] at hd
        by_cases hsz : ds.length = es.length
        · rw [eb, hsz, Nat.min_self, beq_self_eq_true, Bool.and_true, ← hsz, ← n1] at hq
          refine RcNeAt.lists p1 p2 (by omega) hu' (fun j j1 j2 => ?_) _ _ _ _ hq
          obtain ⟨d', e', v', u', hd', he', rv', ru', rx', ry'⟩ := rows_at r1 r2 q1 q2 j1 j2
          exact eqAtD I k l (depL ds) (hin _ (by omega)) (dep_le (Nat.le_refl _) hd') (nod_at hn hd') rv' ru' rx' ry' (ej j d' e' hd' he')
        · have ebf : b = false := by rw [eb, beq_eq_false_iff_ne.mpr hsz, Bool.and_false]
          rw [ebf] at hq
          exact RcNeAt.lists_lengths p1 p2 (by rw [n1, n2]; exact bne_iff_ne.mpr hsz) hu' _ _ _ _ hq
    | dic _ => simp [eqv, D.odd] at h
    | ins _ _ => simp [eqv, D.odd] at h
    | scr _ => simp [eqv, D.odd] at h
    | _ =>
      simp only [eqv] at h
      split at h
      · cases h
      · rename_i ho
        cases h
        exact neLeaf I k l rd re rx ry (by simpa using ho) (fun _ _ z => nomatch z.1) (fun _ _ z => nomatch z.2) hu' _ _ _ _ hq
  | dic ds =>
    cases e with
    | dic es =>
      cases rd with
      | @dic a1 kvs1 _ s1 r1 =>
      cases re with
      | @dic a2 kvs2 _ s2 r2 =>
        cases rx
        cases ry
        simp only [eqv] at h
        simp only [D.dep] at hd
        cases hq' : eqvK ds es with
        | none => rw [hq'] at h; simp at h
        | some c =>
          rw [hq'] at h
          simp only [Option.map_some, Option.some.injEq] at h
          obtain ⟨b1, b2, vs1, vs2, dd1, dd2, l1, l2, ec, pts⟩ := dicts_at I l s1 s2 r1 r2 hq'
          rw [← h, ec, ← l1, ← l2] at hq
          refine keq_ne b1 b2 dd1 dd2 hu' (fun _ => keqHits_of _ fun k' x' y' m hy' => ?_) hq
          obtain ⟨d', e', v', u', hm, rv', ru', rx', ry', hc'⟩ := pts k' x' y' m hy'
          exact eqAtD I k l (depK ds) (hin _ (by omega)) (depK_le (Nat.le_refl _) hm) (nodK_at hn hm) rv' ru' rx' ry' hc'
    | _ => simp [eqv, D.odd] at h
  | _ =>
    simp only [eqv] at h
    split at h
    · cases h
    · rename_i ho
      cases h
      exact neLeaf I k l rd re rx ry (by simpa using ho) (fun _ _ z => nomatch z.1) (fun _ _ z => nomatch z.1) hu' _ _ _ _ hq
end
/-- read in H: there with all its parts -/
theorem RepS.up {C : Ct} {F H : Hp} {d : D} {v : V} (l : Le F H) (r : RepS C F H d v) : Rep C H d v := by
  cases r with
  | non => exact .non
  | bl b => exact .bl b
  | int i => exact .int i
  | str x => exact .str x
  | tup s r => exact .tup (l.sqT s) (r.mono l)
  | lst s r => exact .lst s (r.mono l)
  | scr s => exact .scr s
  | dic s r => exact .dic s (r.mono l)
  | ins s r => exact .ins s (r.mono l)
end PyI
set_option maxHeartbeats 1000000
/-! PyI5: comparisons, subscripts, slices, truth, isinstance, built-ins on data. -/
namespace PyI
open PySem PySem.Spec PyProof.Rows L2

@[simp] def eqOp (d e : D) : Option Bool := if d.dep ≤ 100 then eqv d e else none
@[simp] def neOp (d e : D) : Option Bool := if d.dep ≤ 100 ∧ d.neOk = true then (eqv d e).map not else none
def inOp : D → D → Option Bool
  | x, .lst xs => if x.flat = true ∧ xs.all D.flat = true then some (inD x xs) else none
  | x, .tup xs => if x.flat = true ∧ xs.all D.flat = true then some (inD x xs) else none
  | .str x, .str z => if x.length = 1 then some (decide (x.cps.getD 0 0 ∈ z.cps.toList)) else none
  | x, .dic kvs => (keyD x).map fun k => (look kvs k).isSome
  | _, _ => none
@[simp] def isOp : D → D → Option Bool
  | .non, .non => some true
  | _, .non => some false
  | .bl a, .bl b => some (a == b)
  | _, _ => none
@[simp] def copB : Cop → D → D → Option Bool
  | .eq, d, e => eqOp d e
  | .ne, d, e => neOp d e
  | .lt, .int i, .int j => some (decide (i < j))
  | .le, .int i, .int j => some (decide (i ≤ j))
  | .gt, .int i, .int j => some (decide (j < i))
  | .ge, .int i, .int j => some (decide (j ≤ i))
  | .isin, d, e => inOp d e
  | .notin, d, e => (inOp d e).map not
  | .is_, d, e => isOp d e
  | .isnot, d, e => (isOp d e).map not
  | _, _, _ => none
@[simp] def cop (o : Cop) (d e : D) : Option Op := (copB o d e).map fun b => .v (.bl b)
def cmpOf : Cop → CmpOp
  | .eq => .Eq | .ne => .NotEq | .lt => .Lt | .le => .LtE | .gt => .Gt | .ge => .GtE | .isin => .In | .notin => .NotIn | .is_ => .Is | .isnot => .IsNot
theorem cop_nos (o : Cop) : NoS2 (cop o) := by
  intro d e i h
  unfold cop at h
  cases hb : copB o d e with
  | none => rw [hb] at h; cases h
  | some b => rw [hb] at h; cases h
def rEqX (C : Ct) : R2 := fun x y H Q => ∃ d e b, Rep C H d x ∧ Rep C H e y ∧ d.dep ≤ 100 ∧ eqv d e = some b ∧ Q (.bl b) H
def rNeX (C : Ct) : R2 := fun x y H Q => ∃ d e b, Rep C H d x ∧ Rep C H e y ∧ d.dep ≤ 100 ∧ d.neOk = true ∧ eqv d e = some b ∧ Q (.bl (!b)) H
def rInK : R2 := fun x y H Q => ∃ a k kvs, y = .ref a ∧ x = kV k ∧ Rd H a (.dK kvs) ∧ Q (.bl (valV kvs k).isSome) H
def rNotInK : R2 := fun x y H Q => ∃ a k kvs, y = .ref a ∧ x = kV k ∧ Rd H a (.dK kvs) ∧ Q (.bl (!(valV kvs k).isSome)) H
def rIsB : R2 := fun x y H Q => ∃ a b, x = .bl a ∧ y = .bl b ∧ Q (.bl (a == b)) H
def rIsNotB : R2 := fun x y H Q => ∃ a b, x = .bl a ∧ y = .bl b ∧ Q (.bl (!(a == b))) H
section
variable {X : Cx} {C : Ct}
theorem op_eqX (k : C.K = X.K) (hu : X.A.units + 150 < cLine) : OpR X (compareOp .Eq) (rEqX C) := by
  intro pins s σ H x y v u Q I rx ry h
  obtain ⟨d, e, b, rd, re, hd, he, q⟩ := h
  exact eqCmp I k (Le.refl _) hu hd rd re rx ry he ⟨.bl b, H, I, rfl, q⟩
theorem op_neX (k : C.K = X.K) (hu : X.A.units + 150 < cLine) : OpR X (compareOp .NotEq) (rNeX C) := by
  intro pins s σ H x y v u Q I rx ry h
  obtain ⟨d, e, b, rd, re, hd, hn, he, q⟩ := h
  exact neCmp I k (Le.refl _) hu hd hn rd re rx ry he ⟨.bl _, H, I, rfl, q⟩
theorem op_inK (hu : X.A.units + 150 < cLine) : OpR X (compareOp .In) rInK := by
  intro pins s σ H x y v u Q I rx ry h
  obtain ⟨a, k, kvs, rfl, rfl, rd, q⟩ := h
  cases ry
  exact d_in (by omega) I (.inl ⟨kvs, k, rd, rfl, rfl⟩) rx fun s' I' => ⟨.bl _, H, I', rfl, q⟩
theorem op_notInK (hu : X.A.units + 150 < cLine) : OpR X (compareOp .NotIn) rNotInK := by
  intro pins s σ H x y v u Q I rx ry h
  obtain ⟨a, k, kvs, rfl, rfl, rd, q⟩ := h
  cases ry
  exact d_notIn (by omega) I (.inl ⟨kvs, k, rd, rfl, rfl⟩) rx fun s' I' => ⟨.bl _, H, I', rfl, q⟩
theorem op_isB : OpR X (compareOp .Is) rIsB := by
  intro pins s σ H x y v u Q I rx ry h
  obtain ⟨a, b, rfl, rfl, q⟩ := h
  cases rx
  cases ry
  exact is_bool ⟨.bl _, H, I, rfl, q⟩
theorem op_isNotB : OpR X (compareOp .IsNot) rIsNotB := by
  intro pins s σ H x y v u Q I rx ry h
  obtain ⟨a, b, rfl, rfl, q⟩ := h
  cases rx
  cases ry
  exact isnot_bool ⟨.bl _, H, I, rfl, q⟩
end
def rCop (C : Ct) : Cop → R2
  | .eq => rEqX C
  | .ne => rNeX C
  | .lt => rI0 fun i j => .bl (decide (i < j))
  | .le => rI0 fun i j => .bl (decide (i ≤ j))
  | .gt => rI0 fun i j => .bl (decide (j < i))
  | .ge => rI0 fun i j => .bl (decide (j ≤ i))
  | .isin => fun x y H Q => (rIn C.K false x y H Q ∨ (∃ (c : Nat) (z : Str), x = .str ⟨#[c]⟩ ∧ y = .str z ∧ Q (.bl (decide (c ∈ z.cps.toList))) H)) ∨ rInK x y H Q
  | .notin => fun x y H Q => (rIn C.K true x y H Q ∨ (∃ (c : Nat) (z : Str), x = .str ⟨#[c]⟩ ∧ y = .str z ∧ Q (.bl (!decide (c ∈ z.cps.toList))) H)) ∨ rNotInK x y H Q
  | .is_ => fun x y H Q => (y = .non ∧ Q (.bl (decide (x = .non))) H) ∨ rIsB x y H Q
  | .isnot => fun x y H Q => (y = .non ∧ Q (.bl (!decide (x = .non))) H) ∨ rIsNotB x y H Q
theorem opr_cop {X : Cx} {C : Ct} (k : C.K = X.K) (hu : X.A.units + 150 < cLine) : ∀ o : Cop, OpR X (compareOp (cmpOf o)) (rCop C o)
  | .eq => op_eqX k hu
  | .ne => op_neX k hu
  | .lt => op_lt
  | .le => op_le
  | .gt => op_gt
  | .ge => op_ge
  | .isin => by
    have h : OpR X (compareOp .In) (rIn C.K false) := k ▸ op_in_seq
    exact (h.or op_in_sign).or (op_inK hu)
  | .notin => by
    have h : OpR X (compareOp .NotIn) (rIn C.K true) := k ▸ op_notIn_seq
    exact (h.or op_notIn_sign).or (op_notInK hu)
  | .is_ => op_isN.or op_isB
  | .isnot => op_notN.or op_isNotB
section
variable {C : Ct} {F H : Hp}
theorem str_one {x : Str} (h : x.length = 1) : x = ⟨#[x.cps.getD 0 0]⟩ := by
  obtain ⟨⟨l⟩⟩ := x
  have h' : l.length = 1 := h
  match l, h' with
  | [c], _ => rfl
theorem look_some {k : Key} {ds : List (Key × D)} {kvs : List (Key × V)} (r : RepK C F ds kvs) : (valV kvs k).isSome = (look ds k).isSome := by
  have a := r.look k
  cases h1 : look ds k <;> cases h2 : valV kvs k <;> rw [h1, h2] at a <;> first | rfl | exact a.elim
/-- what «in» asks, in the layer's words -/
theorem in_serves {d e : D} {v u : V} {b : Bool} (l : Le F H) (rd : RepS C F H d v) (re : RepS C F H e u) (h : inOp d e = some b) :
    (∃ p xs, u = .ref p ∧ (SqL C.K H p xs ∨ SqT C.K H p xs) ∧ flatV v = true ∧ xs.all flatV = true ∧ b = inV v xs) ∨ (∃ (c : Nat) (z : Str), v = .str ⟨#[c]⟩ ∧ u = .str z ∧ b = decide (c ∈ z.cps.toList)) ∨
      ∃ a k kvs, u = .ref a ∧ v = kV k ∧ Rd H a (.dK kvs) ∧ b = (valV kvs k).isSome := by
  cases re with
  | @lst a0 vs0 ds0 e1 r1 =>
    have h' : (if d.flat = true ∧ ds0.all D.flat = true then some (inD d ds0) else none) = some b := by
      cases d <;> exact h
    split at h'
    · rename_i hz
      cases h'
      exact .inl ⟨_, _, rfl, .inl (.of e1), flat_s hz.1 rd, flat_all r1 hz.2, (inD_s hz.1 rd r1 hz.2).symm⟩
    · cases h'
  | @tup a0 vs0 ds0 e1 r1 =>
    have h' : (if d.flat = true ∧ ds0.all D.flat = true then some (inD d ds0) else none) = some b := by
      cases d <;> exact h
    split at h'
    · rename_i hz
      cases h'
      exact .inl ⟨_, _, rfl, .inr (l.sqT e1), flat_s hz.1 rd, flat_all r1 hz.2, (inD_s hz.1 rd r1 hz.2).symm⟩
    · cases h'
  | @dic a0 vs0 ds0 e1 r1 =>
    have h' : ((keyD d).map fun k => (look ds0 k).isSome) = some b := by
      cases d <;> exact h
    cases hk : keyD d with
    | none => rw [hk] at h'; cases h'
    | some k =>
      rw [hk] at h'
      simp only [Option.map_some, Option.some.injEq] at h'
      exact .inr (.inr ⟨_, k, _, rfl, key_s hk rd, e1, by rw [look_some r1, h']⟩)
  | str z =>
    cases rd with
    | str x =>
      simp only [inOp] at h
      split at h
      · rename_i hz
        cases h
        exact .inr (.inl ⟨_, z, by rw [← str_one hz], rfl, rfl⟩)
      · cases h
    | _ => simp [inOp] at h
  | _ => cases rd <;> simp [inOp] at h
theorem is_serves {d e : D} {v u : V} {b : Bool} (rd : RepS C F H d v) (re : RepS C F H e u) (h : isOp d e = some b) :
    (u = .non ∧ b = decide (v = .non)) ∨ ∃ p q, v = .bl p ∧ u = .bl q ∧ b = (p == q) := by
  cases re with
  | non => cases rd <;> (simp [isOp] at h; subst h; exact .inl ⟨rfl, by simp⟩)
  | bl c => cases rd <;> simp [isOp] at h; subst h; exact .inr ⟨_, _, rfl, rfl, rfl⟩
  | _ => cases rd <;> simp [isOp] at h
end
theorem serves_cop (C : Ct) (o : Cop) : Serves2 C (cop o) (rCop C o) := by
  intro F H d e v u op Q l rd re eo dn
  unfold cop at eo
  cases hb : copB o d e with
  | none => rw [hb] at eo; cases eo
  | some b =>
    rw [hb] at eo
    simp only [Option.map_some, Option.some.injEq] at eo
    subst eo
    have q : Q (.bl b) H := dn.val (.bl b)
    cases o with
    | eq =>
      have hb' : (if d.dep ≤ 100 then eqv d e else none) = some b := hb
      split at hb'
      · rename_i hz; exact ⟨d, e, b, rd.up l, re.up l, hz, hb', q⟩
      · cases hb'
    | ne =>
      have hb' : (if d.dep ≤ 100 ∧ d.neOk = true then (eqv d e).map not else none) = some b := hb
      split at hb'
      · rename_i hz
        cases hq : eqv d e with
        | none => rw [hq] at hb'; cases hb'
        | some c =>
          rw [hq] at hb'
          simp only [Option.map_some, Option.some.injEq] at hb'
          exact ⟨d, e, c, rd.up l, re.up l, hz.1, hz.2, hq, by rw [hb']; exact q⟩
      · cases hb'
    | lt => cases rd <;> cases re <;> simp [copB] at hb; subst hb; exact ⟨_, _, rfl, rfl, q⟩
    | le => cases rd <;> cases re <;> simp [copB] at hb; subst hb; exact ⟨_, _, rfl, rfl, q⟩
    | gt => cases rd <;> cases re <;> simp [copB] at hb; subst hb; exact ⟨_, _, rfl, rfl, q⟩
    | ge => cases rd <;> cases re <;> simp [copB] at hb; subst hb; exact ⟨_, _, rfl, rfl, q⟩
    | isin =>
      have hb' : inOp d e = some b := by cases d <;> exact hb
      rcases in_serves l rd re hb' with ⟨p, xs, h1, h2, h3, h4, h5⟩ | ⟨c, z, h1, h2, h3⟩ | ⟨a, k, kvs, h1, h2, h3, h4⟩
      · exact .inl (.inl ⟨p, xs, h1, h2, h3, h4, by rw [h5] at q; exact q⟩)
      · exact .inl (.inr ⟨c, z, h1, h2, by rw [h3] at q; exact q⟩)
      · exact .inr ⟨a, k, kvs, h1, h2, h3, by rw [h4] at q; exact q⟩
    | notin =>
      have hb' : (inOp d e).map not = some b := by cases d <;> exact hb
      cases hq : inOp d e with
      | none => rw [hq] at hb'; cases hb'
      | some c =>
        rw [hq] at hb'
        simp only [Option.map_some, Option.some.injEq] at hb'
        subst hb'
        rcases in_serves l rd re hq with ⟨p, xs, h1, h2, h3, h4, h5⟩ | ⟨c', z, h1, h2, h3⟩ | ⟨a, k, kvs, h1, h2, h3, h4⟩
        · exact .inl (.inl ⟨p, xs, h1, h2, h3, h4, by rw [h5] at q; exact q⟩)
        · exact .inl (.inr ⟨c', z, h1, h2, by rw [h3] at q; exact q⟩)
        · exact .inr ⟨a, k, kvs, h1, h2, h3, by rw [h4] at q; exact q⟩
    | is_ =>
      have hb' : isOp d e = some b := by cases d <;> exact hb
      rcases is_serves rd re hb' with ⟨h1, h2⟩ | ⟨p, q', h1, h2, h3⟩
      · exact .inl ⟨h1, by rw [h2] at q; exact q⟩
      · exact .inr ⟨p, q', h1, h2, by rw [h3] at q; exact q⟩
    | isnot =>
      have hb' : (isOp d e).map not = some b := by cases d <;> exact hb
      cases hq : isOp d e with
      | none => rw [hq] at hb'; cases hb'
      | some c =>
        rw [hq] at hb'
        simp only [Option.map_some, Option.some.injEq] at hb'
        subst hb'
        rcases is_serves rd re hq with ⟨h1, h2⟩ | ⟨p, q', h1, h2, h3⟩
        · exact .inl ⟨h1, by rw [h2] at q; exact q⟩
        · exact .inr ⟨p, q', h1, h2, by rw [h3] at q; exact q⟩

/-! ### subscripts -/
@[simp] def ixD : D → D → Option Op
  | .lst xs, .int i => (atI xs i).map .v
  | .tup xs, .int i => (atI xs i).map .v
  | .str z, .int i => if z.length ≤ 100000 then (atI z.cps.toList i).map fun c => .v (.str ⟨#[c]⟩) else none
  | .dic kvs, d => ((keyD d).bind (look kvs)).map .v
  | _, _ => none
theorem ixD_nos : NoS2 ixD := by
  intro d e i h
  unfold ixD at h
  split at h
  · cases hq : atI _ _ <;> rw [hq] at h <;> cases h
  · cases hq : atI _ _ <;> rw [hq] at h <;> cases h
  · split at h
    · cases hq : atI _ _ <;> rw [hq] at h <;> cases h
    · cases h
  · cases hq : (keyD e).bind (look _) <;> rw [hq] at h <;> cases h
  · cases h
def rIxK : R2 := fun x y H Q => ∃ a k kvs v, x = .ref a ∧ y = kV k ∧ Rd H a (.dK kvs) ∧ valV kvs k = some v ∧ Q v H
theorem ix_dic {X : Cx} (hu : X.A.units + 150 < cLine) : IxR X rIxK := by
  intro value slice pins s σ H x y v u Q I rx ry h hs
  obtain ⟨a, k, kvs, z, rfl, rfl, rd, hv, q⟩ := h
  cases rx
  have g : DGet H a (kV k) (some z) := .inl ⟨kvs, k, rd, rfl, hv.symm⟩
  have hT := dict_typeIs I g
  unfold subscriptTail
  refine wpAny_bind ?_
  rw [getitemInPython_of_ne hT.not_modules]
  refine wpAny_bind (wpAny_specialOf hT PySem.F.slot_dict_getitem.lookup ?_)
  have fin : wpAny (model X.prog X.w) X.A (subscripted slice false (.ref a) u) (fun r s₃ => wpAny (model X.prog X.w) X.A (letTemporaryGo value (.ref a) r >>= fun _ => pure r) (EP X pins σ Q) X.xe s₃) X.xe s := by
    rw [hs]
    refine wpAny_operating (wpAny_mono (Q := EP X pins σ Q) (d_getItem (by omega) I g ry fun w' s3 I3 rw' => ⟨z, H, I3, rw', q⟩) (fun r s₃ h₃ => wpAny_bind (wpAny_letTemporaryGo (wpAny_pure h₃))) fun _ _ x => x)
  first
    | exact wpAny_pure (wpAny_bind fin)
    | exact wpAny_bind fin
    | exact fin
def rIxA (C : Ct) : R2 := fun x y H Q => (rIxL C.K x y H Q ∨ rIxT C.K x y H Q ∨ rIxS x y H Q) ∨ rIxK x y H Q
theorem ixr_all {X : Cx} {C : Ct} (k : C.K = X.K) (hu : X.A.units + 150 < cLine) : IxR X (rIxA C) := by
  have h : IxR X (rIx C.K) := k ▸ ix_seq
  exact h.or (ix_dic hu)
theorem atI_rep {C : Ct} {F : Hp} {ds : List D} {vs : List V} {i : Int} {d : D} (r : RepL C F ds vs) (h : atI ds i = some d) : ∃ v, atI vs i = some v ∧ Rep C F d v := by
  unfold atI at h ⊢
  rw [r.length]
  cases hj : ixN ds.length i with
  | none => rw [hj] at h; cases h
  | some j =>
    rw [hj] at h
    exact r.get h
theorem serves_ix (C : Ct) : Serves2 C ixD (rIxA C) := by
  intro F H d e v u op Q l rd re eo dn
  unfold ixD at eo
  split at eo
  · cases hq : atI _ _ with
    | none => rw [hq] at eo; cases eo
    | some d' =>
      rw [hq] at eo; cases eo
      cases rd with
      | lst e1 r1 =>
        cases re
        obtain ⟨v', h1, h2⟩ := atI_rep r1 hq
        exact .inl (.inl ⟨_, _, _, v', rfl, rfl, .of e1, h1, dn.val h2⟩)
  · cases hq : atI _ _ with
    | none => rw [hq] at eo; cases eo
    | some d' =>
      rw [hq] at eo; cases eo
      cases rd with
      | tup e1 r1 =>
        cases re
        obtain ⟨v', h1, h2⟩ := atI_rep r1 hq
        exact .inl (.inr (.inl ⟨_, _, _, v', rfl, rfl, l.sqT e1, h1, dn.val h2⟩))
  · split at eo
    · rename_i hz
      cases hq : atI _ _ with
      | none => rw [hq] at eo; cases eo
      | some c =>
        rw [hq] at eo; cases eo
        cases rd
        cases re
        exact .inl (.inr (.inr ⟨_, _, c, rfl, rfl, szl hz, hq, dn.val (.str _)⟩))
    · cases eo
  · cases hk : keyD e with
    | none => rw [hk] at eo; cases eo
    | some k =>
      rw [hk] at eo
      simp only [Option.bind_some] at eo
      cases hq : look _ k with
      | none => rw [hq] at eo; cases eo
      | some d' =>
        rw [hq] at eo; cases eo
        cases rd with
        | dic e1 r1 =>
          have a := r1.look k
          rw [hq] at a
          cases hv : valV _ k with
          | none => rw [hv] at a; exact a.elim
          | some v' =>
            rw [hv] at a
            exact .inr ⟨_, k, _, v', rfl, key_s hk re, e1, hv, dn.val a⟩
  · cases eo
end PyI
set_option maxHeartbeats 1000000
/-! PyI0: rules that the layer lacks: enumerate of a tuple, list(dict) of a dict that may be locked. -/
namespace PyI
open PySem PySem.Spec PyProof.Rows L2
theorem meets_enumB1 {v : Value} {o : Obj} {G : Heap → Prop} (B : Begins v o G) :
    Meets (Builtin.«enumerate.__new__» ⟨[.type "enumerate", v], []⟩) (fun _ R s => G s.heap ∧
      R (.ok (.ret (.ref (s.heap.push o).objs.size))) { s with heap := (s.heap.push o).push { cls := .type "enumerate", data := .fields #[.none, .bool false, .ref s.heap.objs.size, rawInt 0, .none, .none] } }) :=
  .of_wp fun prog w A R s h => by
    obtain ⟨hp, g, d, tk, os⟩ := s
    obtain ⟨h1, h⟩ := h
    have hsub := sub_enumerate
    have q1 : ∀ {A' : Around} {E : Value → Shared → Prop} {Q : Value → Shared → Prop}, Q (.ref hp.objs.size) ⟨hp.push o, g, d, tk, os⟩ → wpAny (model prog w) A' (pyIter v) Q E ⟨hp, g, d, tk, os⟩ :=
      fun q => B.iter prog w _ _ ⟨hp, g, d, tk, os⟩ _ h1 q
    wp_walk using q1
    refine wpAny_stack_any fun st => wpAny_pure ?_
    split
    · rename_i c _ _ _ _ _
      cases (c == Value.type "enumerate")
      · wp_walk using q1
        exact ⟨_, rfl, h⟩
      · wp_walk using q1
        exact ⟨_, rfl, h⟩
    · wp_walk using q1
      exact ⟨_, rfl, h⟩
section
variable {prog : Program} {w : World} {A : Around} {E : Value → Shared → Prop} {s : Shared}
theorem call_enumB1 {v : Value} {o : Obj} {G : Heap → Prop} {Q : Value → Shared → Prop} (B : Begins v o G) (h1 : G s.heap)
    (h : ∀ h', IsEnum h' (s.heap.objs.size + 1) s.heap.objs.size 0 .none → h'.get? s.heap.objs.size = some o → h'.objs.size = s.heap.objs.size + 2 →
      (∀ b o, s.heap.get? b = some o → h'.get? b = some o) → Q (.ref (s.heap.objs.size + 1)) { s with heap := h' }) :
    wpAny (model prog w) A (call (.type "enumerate") [v]) Q E s := by
  refine callType_new F.called_enumerate (by decide) (F.typeCall_enumerate_1 _) (F.newCall_enumerate_1 _) (fun obj => F.args_object_init_2 obj _) F.entry_enumerate_new (meets_enumB1 B) ⟨h1, ?_⟩
  have hz : (s.heap.push o).objs.size = s.heap.objs.size + 1 := Heap.size_push ..
  show _ ∧ _
  rw [hz]
  have he : IsEnum ((s.heap.push o).push { cls := .type "enumerate", data := .fields #[.none, .bool false, .ref s.heap.objs.size, rawInt 0, .none, .none] }) (s.heap.objs.size + 1) s.heap.objs.size 0 .none := by
    have := Heap.get?_push_size (s.heap.push o) (o := { cls := .type "enumerate", data := .fields #[.none, .bool false, .ref s.heap.objs.size, rawInt 0, .none, .none] }) rfl
    rw [hz] at this; exact this
  exact ⟨⟨_, he, rfl⟩, h _ he (Heap.get?_push_of_some _ (Heap.get?_push_size _ B.free)) (by rw [Heap.size_push, hz]) fun b o x => Heap.get?_push_of_some _ (Heap.get?_push_of_some _ x)⟩
end
section
variable {prog : Program} {w : World} {A : Around} {E : Value → Shared → Prop} {s : Shared}
theorem enumT_end {e it l : Addr} {i : Nat} {items : Array Value} {old : Value} {Q : Option Value → Shared → Prop} (hh : A.handled = none)
    (he : IsEnum s.heap e it i old) (hit : s.heap.IsTupleIter it l i) (hl : s.heap.IsTuple l items) (hx : items[i]? = none)
    (hQ : ∀ h', Heap.ExtBut it s.heap h' → Q none { s with heap := h' }) : wpAny (model prog w) A (pyNext (.ref e)) Q E s := by
  have hT : s.TypeIs (.ref e) "enumerate" := ⟨_, he, rfl⟩
  unfold pyNext
  refine wpAny_bind (wpAny_attempt (wpAny_callSpecial?_slot (name := Str.ofString "__next__") hT F.slot_enumerate_next
    (wpAny_call_entry F.slot_enumerate_next hT F.entry_enumerate_next ?_ (F.args_enumerate_next_1 _))))
  show wpAny _ _ (field (.ref e) 2 >>= _) _ _ _
  refine wpAny_bind (wpAny_field he rfl (x := .ref it) rfl ?_)
  refine wpAny_bind (wpAny_nextOf_tuple_end hh hit hl hx fun h' x he' hx' => ?_)
  obtain ⟨o, ho, hc⟩ := hx'
  refine wpAny_bind (wpAny_isInstance (T := "StopIteration") (b := true) ⟨o, ho, hc⟩ isSubtype_stop ?_)
  exact wpAny_pure (hQ _ he')
end
/-- the tuple at a as it stands, each item in a new pair -/
def IteT (K : PySem.W.Frag) (a : Addr) : It :=
  ⟨fun i H => ∃ (xs : List V) (x : V), SqT K H a xs ∧ xs[i]? = some x, fun i H v H' => ∃ T x, v = .ref T ∧ H T = none ∧ H' = upd H T (.tup [.int (i : Nat), x]) ∧ ∀ xs, SqT K H a xs → xs[i]? = some x, fun i H => ∃ xs : List V, SqT K H a xs ∧ xs.length ≤ i⟩
theorem turn_enumT {P : Program} {w : World} {K : PySem.W.Frag} {elts : List Expr} {kk : Nat} {tpos : Pos} (a e it : Addr) (hea : e ≠ a) (hia : a ≠ it) :
    Turn P w K (.Tuple elts kk tpos) (IteT K a) [e, it] e (fun i h => (∃ old, IsEnum h e it ((i : Nat) : Int) old) ∧ h.IsTupleIter it a i ∧ e ≠ it) where
  mem := by simp
  obj := fun i h st b hb => by
    obtain ⟨⟨old, he⟩, ⟨o, ho, hc, hd⟩, _⟩ := st
    have e' : b = e ∨ b = it := by simpa using hb
    rcases e' with z | z
    · rw [z]; exact ⟨_, he, fun v q => nomatch q⟩
    · rw [z]; exact ⟨o, ho, fun v q => by rw [hd] at q; cases q⟩
  keep := fun i h h' st k => let ⟨⟨old, he⟩, hi, hne⟩ := st; ⟨⟨old, k e (by simp) _ he⟩, hi.at fun o q => k it (by simp) o q, hne⟩
  item := by
    intro X hP hw hK hc i pins s σ H E I hf st hg
    subst hP hw hK
    obtain ⟨⟨old, he⟩, hit, hne⟩ := st
    obtain ⟨xs, x, hq, hx⟩ := hg
    obtain ⟨its, rv, p, hz⟩ := I.tuple hq
    obtain ⟨u, hu, ru⟩ := rv.get hx
    have hel : e < s.heap.objs.size := Heap.lt_size he
    have hil : it < s.heap.objs.size := by obtain ⟨_, q, _⟩ := hit; exact Heap.lt_size q
    have hi : i < its.toArray.size := by
      rw [List.size_toArray]
      exact (List.getElem?_eq_some_iff.mp hu).1
    refine wpAny_pyNext_enum_itemD (Draws.tuple (prog := X.prog) (w := X.w) (A := X.A.in1) (show X.A.in1.handled = none from I.ok.hd hc) it a hia its.toArray) he ⟨hit, p⟩ hi hne (by simp [hne, hea]) fun u' h' tk hu' ho hst' hT hsz hk => ?_
    have eu : u' = u := by
      have q : its[i]? = some u' := by simpa using hu'
      rw [hu] at q; exact (Option.some.inj q).symm
    subst eu
    refine ⟨_, rfl, wpAny_letOwnedTupleGo_enum (s := { s with heap := h', toks := tk + 1 }) ho fun h'' he' sb => ?_⟩
    have hT2 : h''.get? s.heap.objs.size = some { cls := .type "tuple", data := .seq #[.int i tk, u'] } := (sb.2 _ (Nat.ne_of_gt hel)).trans hT
    have new : ObjOk X.prog X.w (upd H s.heap.objs.size (.tup [.int (i : Nat), x])) h'' s.heap.objs.size (.tup [.int (i : Nat), x]) :=
      ⟨by show 2 ≤ sizeLine; decide, [.int i tk, u'], .cons ⟨_, rfl⟩ (.cons ru .nil), ⟨_, hT2, rfl, _, rfl⟩⟩
    have I1 : L2.Inv X pins σ (upd H s.heap.objs.size (.tup [.int (i : Nat), x])) { s with heap := h'', toks := tk + 1 } :=
      I.turnedNew (ch := [e, it]) (fun b ob hb q => (sb.2 b (fun z => hb (by simp [z]))).trans (hk b ob (fun z => hb (by simp [z])) (fun z => hb (by simp [z])) q)) hf (Nat.le_refl _) new
    refine ⟨.ref s.heap.objs.size, _, I1, rfl, ⟨_, x, rfl, I.hok.fresh (Nat.le_refl _), rfl, fun ys hy => by rw [I.tuple_inj hy hq]; exact hx⟩, ⟨⟨u', ?_⟩, hst'.1.at fun o q => (sb.2 it (Ne.symm hne)).trans q, hne⟩, fun b hb => ?_⟩
    · have e1 : ((i + 1 : Nat) : Int) = (i : Int) + 1 := by omega
      rw [e1]; exact he'
    · have hb' : b < s.heap.objs.size := by
        have e' : b = e ∨ b = it := by simpa using hb
        rcases e' with z | z
        · rw [z]; exact hel
        · rw [z]; exact hil
      rw [upd_ne (Nat.ne_of_lt hb')]
      exact (hf b hb).1
  done := by
    intro X hP hw hK hc i pins s σ H E I hf st hg
    subst hP hw hK
    obtain ⟨⟨old, he⟩, hit, hne⟩ := st
    obtain ⟨xs, hq, hx⟩ := hg
    obtain ⟨its, rv, p, hz⟩ := I.tuple hq
    obtain ⟨f0, f1, f2, f3, f4, f5⟩ := hf it (by simp)
    have hl := rv.length
    exact enumT_end (I.ok.hd hc) he hit p (by simp; omega) fun h' eb => ⟨rfl, I.turned (t' := s.toks) (fun b o hb q => eb b o hb q) f0 f1 f3 f4 f5⟩
  self := fun A i s Q E st h => let ⟨⟨_, he⟩, _⟩ := st; wpAny_pyIter_enum he h
def iEnumT (K : PySem.W.Frag) (ta : TA) : TI := fun σ H R => ta σ H fun vs H1 => ∃ a xs, vs = [.ref a] ∧ SqT K H1 a xs ∧ R (IteT K a) H1
theorem pi_enumT {X : Cx} {e : Expr} {ta : TA} {p pos tpos : Pos} {elts : List Expr} {kk : Nat} (hg : Gl X "enumerate") (hm : X.mg "enumerate" = none) (ha : PA X [e] ta) (hs : starEach [e] X.env = [(false, eval e X.env)] := by rfl) :
    PI X (.Tuple elts kk tpos) (.Call (.Name "enumerate" p) [e] [] pos) (iEnumT X.K ta) := by
  refine ⟨fun pins s σ H R I h => ?_⟩
  refine Call_ (ld_blt I hg hm boot_enumerate (PyProof.Rows.callWith_type1 (thn (ha.run pos pins s σ H _ I h) fun us s1 ⟨vs, H1, I1, r1, q1⟩ => ?_) hs rfl))
  obtain ⟨a, xs, ex, hq, q⟩ := q1
  subst ex
  cases r1 with
  | cons r rr =>
    cases rr
    cases r
    obtain ⟨its, rv, p', hz⟩ := I1.tuple hq
    have hal : a < s1.heap.objs.size := by obtain ⟨_, q, _⟩ := p'; exact Heap.lt_size q
    refine call_enumB1 (begins_tuple a its.toArray) p' fun h' he hit hsz hk => wpAny_pyIter_enum he ?_
    have I2 : L2.Inv X pins σ H1 { s1 with heap := h' } := I1.kept (t' := s1.toks) hk
    refine ⟨s1.heap.objs.size + 1, [s1.heap.objs.size + 1, s1.heap.objs.size], _, _, H1, rfl, I2, turn_enumT a (s1.heap.objs.size + 1) s1.heap.objs.size (Nat.ne_of_gt (Nat.lt_succ_of_lt hal)) (Nat.ne_of_lt hal), ⟨⟨.none, he⟩, ⟨_, hit, rfl, rfl⟩, Nat.succ_ne_self _⟩, fun b hb => ?_, q⟩
    have e' : b = s1.heap.objs.size + 1 ∨ b = s1.heap.objs.size := by simpa using hb
    have hle : s1.heap.objs.size ≤ b := by
      rcases e' with z | z
      · rw [z]; exact Nat.le_add_right _ _
      · rw [z]; exact Nat.le_refl _
    exact I1.fpOk hle (I1.hok.fresh hle)
/-- list(d) -/
def rListR : List V → Hp → VK → Prop := fun xs H Q => ∃ p kvs, xs = [.ref p] ∧ Rd H p (.dK kvs) ∧ ∀ q, H q = none → Q (.ref q) (upd H q (.lst (kvs.map fun kv => kV kv.1)))
theorem call_list_rd {X : Cx} (hc : X.calm = true) : CallR X (.type "list") rListR := by
  intro pins s σ H xs us Q I r h
  obtain ⟨p, kvs, rfl, hk, q⟩ := h
  cases r with
  | cons rx rr =>
    cases rr
    cases rx
    obtain ⟨z, lo, vs, rk, hd⟩ := dk_rd I.hok hk
    obtain ⟨ep, hat⟩ := hd.dictAt
    have hl : kvs.length = vs.length := Paired.length rk
    refine PySem.W.kdl_call (PySem.W.kdl_dict (knd := mixKind X.prog X.w) (kvs := vs) (ep := ep) lo) (I.ok.hd hc) hat (by rw [← hl]; exact z) fun h' tk acc' c' hkeep hS hacc => ?_
    refine ⟨.ref s.heap.objs.size, upd H s.heap.objs.size (.lst (kvs.map fun kv => kV kv.1)), I.laid hkeep (Nat.le_refl _) (show ObjOk X.prog X.w _ _ _ (.lst (kvs.map fun kv => kV kv.1)) from ⟨by rw [List.length_map]; exact z, acc'.toList, c', ?_, by rw [Array.toArray_toList]; exact hS⟩), rfl, q _ (I.hok.fresh (Nat.le_refl _))⟩
    have el : acc'.toList.length = acc'.size := by simp
    refine vals_of_at (by rw [List.length_map, el, hacc.1, hl]) fun j x w h1 h2 => ?_
    obtain ⟨k, y, hky, hi⟩ := hacc.2 j w (by rw [← Array.getElem?_toList]; exact h2)
    have e1 : (kvs.map (·.1))[j]? = some k := by
      rw [KV.keys rk, List.getElem?_map, hky]; rfl
    have e2 : (kvs.map fun kv => kV kv.1)[j]? = some (kV k) := by
      have e3 : (kvs.map fun kv => kV kv.1) = (kvs.map (·.1)).map kV := by rw [List.map_map]; rfl
      rw [e3, List.getElem?_map, e1]; rfl
    rw [e2] at h1
    cases h1
    exact keyIs_rel hi
end PyI
set_option maxHeartbeats 1000000
/-! PyI6: slices, truth, isinstance, built-ins on data. -/
namespace PyI
open PySem PySem.Spec PyProof.Rows L2

/-! ### slices -/
def cutD {α : Type} (xs : List α) (lo hi : Option Int) : List α := (xs.drop (HT.sIx xs.length 0 lo)).take (HT.sIx xs.length xs.length hi - HT.sIx xs.length 0 lo)
@[simp] def slD : D → Option Int → Option Int → Option Op
  | .lst xs, lo, hi => some (.f (.lst (cutD xs lo hi)))
  | .scr ns, lo, hi => some (.f (.lst ((cutD ns lo hi).map .int)))
  | .tup xs, lo, hi => some (.v (.tup (cutD xs lo hi)))
  | .str z, lo, hi => if z.length ≤ 100000 then some (.v (.str (cutS z lo hi))) else none
  | _, _, _ => none
@[simp] def partE : Option Fe → Env → Res (Option Int)
  | none, ρ => .ok none ρ
  | some f, ρ => (f ρ).bind fun op ρ1 => match deref ρ1 op with
    | some (.int i) => .ok (some i) ρ1
    | _ => .bad
@[simp] def sl3 (x : Op) (lo hi : Option Int) (ρ : Env) : Res Op := match deref ρ x with
  | some d => res (slD d lo hi) ρ
  | none => .bad
@[simp] def seqSl (f : Fe) (lo hi : Option Fe) : Fe := fun ρ => (f ρ).bind fun x ρ1 => (partE lo ρ1).bind fun l ρ2 => (partE hi ρ2).bind fun u ρ3 => sl3 x l u ρ3
def tO (C : Ct) (W : WX) (f : Env → Res (Option Int)) : TO := fun σ H Q => ∃ F ρ, SR C ⟨F, H, σ, ρ⟩ ∧ Kw C W ⟨F, H, σ, ρ⟩ (fun w' o => Q o w'.H) (f ρ)
section
variable {X : Cx} {C : Ct} {W : WX} {f : Fe} {lo hi : Option Fe}
theorem POimp {e : Option Expr} {t t' : TO} (h : PO X e t) (k : ∀ σ H Q, t' σ H Q → t σ H Q) : PO X e t' := ⟨fun pins s σ H Q I q => h.run pins s σ H Q I (k σ H Q q)⟩
theorem po_n : PO X none (tO C W (partE none)) := POimp po_none fun σ H Q ⟨F, ρ, s, h⟩ => h F H (Go.refl s)
theorem po_s {e : Expr} (h : PE X e (tE C W f)) : PO X (some e) (tO C W (partE (some f))) := POimp (po_some h) fun σ H Q ⟨F, ρ, s, h⟩ =>
  ⟨F, ρ, s, Kw.bind h fun x ρ1 F1 H1 e1 g1 h1 v rv => by
    split at h1
    · rename_i i hd
      have r := rv.read g1.sr hd
      cases r
      exact ⟨i, rfl, h1 F1 H1 (Go.refl g1.sr)⟩
    · exact h1.elim⟩
def rSlX (C : Ct) : V → Option Int → Option Int → Hp → VK → Prop := fun x lo hi H Q => (rSlL C.K x lo hi H Q ∨ rSlA C.K x lo hi H Q) ∨ rSlS x lo hi H Q
theorem slr_all (k : C.K = X.K) : SlR X (rSlX C) := by
  have h1 : SlR X (rSlL C.K) := k ▸ sl_list
  have h2 : SlR X (rSlA C.K) := k ▸ sl_tupA
  exact (h1.or h2).or sl_str
theorem cut_rep {F : Hp} {ds : List D} {vs : List V} (lo hi : Option Int) (r : RepL C F ds vs) : RepL C F (cutD ds lo hi) (cutV vs lo hi) := by
  unfold cutD cutV
  rw [r.length]
  exact (r.drop _).take _
theorem cut_whole {α : Type} {xs : List α} {lo hi : Option Int} (h : HT.sIx xs.length 0 lo = 0 ∧ HT.sIx xs.length xs.length hi = xs.length) : cutD xs lo hi = xs := by
  unfold cutD
  rw [h.1, h.2]
  simp
theorem ints_rep (F : Hp) : ∀ ns : List Int, RepL C F (ns.map D.int) (ns.map V.int)
  | [] => .nil
  | n :: ns => .cons (.int n) (ints_rep F ns)
theorem serves_sl {F H : Hp} {d : D} {v : V} {op : Op} {lo hi : Option Int} {Q : VK} (l : Le F H) (rd : RepS C F H d v) (eo : slD d lo hi = some op) (dn : Done C F H Q op) : rSlX C v lo hi H Q := by
  cases rd with
  | lst e1 r1 => cases eo; exact .inl (.inl ⟨_, _, rfl, .of e1, fun p n => dn.lst (cut_rep lo hi r1) n⟩)
  | @scr a ns e1 =>
    cases eo
    refine .inl (.inl ⟨_, _, rfl, e1, fun p n => ?_⟩)
    have e : cutV (ns.map V.int) lo hi = (cutD ns lo hi).map V.int := by
      unfold cutV cutD
      simp only [List.length_map, List.map_take, List.map_drop]
    rw [e]
    exact dn.lst (ints_rep F _) n
  | tup e1 r1 =>
    cases eo
    refine .inl (.inr ⟨_, _, rfl, l.sqT e1, fun z => ?_, fun _ p n => dn.tup l (cut_rep lo hi r1) n⟩)
    rw [r1.length] at z
    rw [cut_whole z] at dn
    exact dn.val (.tup e1 r1)
  | str z =>
    simp only [slD] at eo
    split at eo
    · rename_i hz; cases eo; exact .inr ⟨z, rfl, szl hz, dn.val (.str _)⟩
    · cases eo
  | _ => cases eo
theorem pe_sl {a : Expr} {elo ehi : Option Expr} {p2 pos : Pos} (k : C.K = X.K) (ha : PE X a (tE C W f)) (hl : PO X elo (tO C W (partE lo))) (hu : PO X ehi (tO C W (partE hi))) : PE X (.Subscript a (.Slice elo ehi none p2) pos) (tE C W (seqSl f lo hi)) :=
  PEimp (pe_slice (slr_all k) ha hl hu) fun σ H Q ⟨F, ρ, s, h⟩ => ⟨F, ρ, s, Kw.bind h fun x ρ1 F1 H1 e1 g1 h1 v rv => ⟨F1, ρ1, g1.sr, Kw.bind h1 fun l ρ2 F2 H2 e2 g2 h2 => ⟨F2, ρ2, g2.sr, Kw.bind h2 fun u ρ3 F3 H3 e3 g3 h3 => by
    unfold sl3 at h3
    split at h3
    · rename_i d hd
      have r := (rv.carry (g2.trans g3) rfl).read g3.sr hd
      obtain ⟨op, eo, dn⟩ := done_of g3.sr (fun x z => g1.h0 (g2.h0 (g3.h0 z))) (fun i z => by
        unfold slD at z
        split at z <;> first | cases z | (split at z <;> cases z)) h3
      exact serves_sl g3.sr.le r eo dn
    · exact h3.elim⟩⟩⟩
end

/-! ### truth -/
@[simp] def truD : D → Option Bool
  | .non => some false
  | .bl b => some b
  | .int i => some (i != 0)
  | .str z => if z.length ≤ 100000 then some ((z.length : Int) != 0) else none
  | .lst xs => some (!xs.isEmpty)
  | .tup xs => some (!xs.isEmpty)
  | _ => none
theorem RepL.empty {C : Ct} {F : Hp} {ds : List D} {vs : List V} (r : RepL C F ds vs) : vs.isEmpty = ds.isEmpty := by cases r <;> rfl
theorem tru_s {C : Ct} {F H : Hp} {d : D} {v : V} {b : Bool} (l : Le F H) (r : RepS C F H d v) (h : truD d = some b) : TruV C.K v H b := by
  cases r with
  | non => cases h; rfl
  | bl b => cases h; rfl
  | int i => cases h; rfl
  | str z =>
    simp only [truD] at h
    split at h
    · rename_i hz; cases h; exact ⟨szl hz, rfl⟩
    · cases h
  | lst e1 r1 => cases h; exact .inl ⟨_, .of e1, by rw [r1.empty]⟩
  | tup e1 r1 => cases h; exact .inr (.inl ⟨_, l.sqT e1, by rw [r1.empty]⟩)
  | _ => cases h
@[simp] def truE (f : Fe) : Ft := fun ρ => (f ρ).bind fun op ρ1 => match (deref ρ1 op).bind truD with
  | some b => .ok b ρ1
  | none => .bad
theorem truE_imp {C : Ct} {W : WX} {f : Fe} : ∀ σ H Q, tT C W (truE f) σ H Q → tE C W f σ H fun x H' => ∃ k, TruV C.K x H' k ∧ Q k H' := by
  intro σ H Q ⟨F, ρ, s, h⟩
  refine ⟨F, ρ, s, Kw.bind h fun x ρ1 F1 H1 e1 g1 h1 v rv => ?_⟩
  cases hd : deref ρ1 x with
  | none => simp only [hd, Option.bind_none] at h1; exact h1.elim
  | some d =>
    simp only [hd, Option.bind_some] at h1
    cases hb : truD d with
    | none => simp only [hb] at h1; exact h1.elim
    | some b =>
      simp only [hb] at h1
      exact ⟨b, tru_s g1.sr.le (rv.read g1.sr hd) hb, h1 F1 H1 (Go.refl g1.sr)⟩

/-! ### isinstance -/
inductive Ty where
  | int | bool | str | tuple | list | dict
  deriving DecidableEq, Inhabited
def Ty.name : Ty → String
  | .int => "int" | .bool => "bool" | .str => "str" | .tuple => "tuple" | .list => "list" | .dict => "dict"
@[simp] def isiD : D → Ty → Option Bool
  | .non, _ => some false
  | .bl _, t => some (t == .bool || t == .int)
  | .int _, t => some (t == .int)
  | .str _, t => some (t == .str)
  | .tup _, t => some (t == .tuple)
  | .lst _, t => some (t == .list)
  | .dic _, t => some (t == .dict)
  | .scr _, t => some (t == .list)
  | .ins _ _, _ => none
theorem isi_s {C : Ct} {F H : Hp} {d : D} {v : V} {t : Ty} {b : Bool} (l : Le F H) (r : RepS C F H d v) (h : isiD d t = some b) : ∃ ty, TyX C.K H v ty ∧ PySem.W.kitOne C.K ty (.type t.name) = some b := by
  cases r with
  | non => cases h; exact ⟨_, .base .non, kit_ty (by cases t <;> decide +kernel)⟩
  | bl b => cases h; exact ⟨_, .base (.bl b), kit_ty (by cases t <;> decide +kernel)⟩
  | int i => cases h; exact ⟨_, .base (.int i), kit_ty (by cases t <;> decide +kernel)⟩
  | str z => cases h; exact ⟨_, .base (.str z), kit_ty (by cases t <;> decide +kernel)⟩
  | lst e1 r1 => cases h; exact ⟨_, .base (.lst e1), kit_ty (by cases t <;> decide +kernel)⟩
  | tup e1 r1 =>
    cases h
    have e : PySem.W.kitOne C.K (.type "tuple") (.type t.name) = some (t == .tuple) := kit_ty (by cases t <;> decide +kernel)
    rcases l.sqT e1 with (q | ⟨o, q⟩) | ⟨o, its, n, q, c, _⟩
    · exact ⟨_, .base (.tup q), e⟩
    · exact ⟨_, .fTuple q, e⟩
    · exact ⟨_, .kTuple q c, e⟩
  | dic e1 r1 =>
    cases h
    have e : PySem.W.kitOne C.K (.type "dict") (.type t.name) = some (t == .dict) := kit_ty (by cases t <;> decide +kernel)
    rcases e1 with q | ⟨o, q⟩
    · exact ⟨_, .base (.dK q), e⟩
    · exact ⟨_, .fDict q, e⟩
  | scr e1 =>
    cases h
    have e : PySem.W.kitOne C.K (.type "list") (.type t.name) = some (t == .list) := kit_ty (by cases t <;> decide +kernel)
    rcases e1 with (q | ⟨o, q⟩) | ⟨o, its, n, q, c, _⟩
    · exact ⟨_, .base (.lst q), e⟩
    · exact ⟨_, .base (.frz q), e⟩
    · exact ⟨_, .kList q c, e⟩
  | ins e1 r1 => cases h
@[simp] def isi (t : Ty) (d : D) : Option Op := (isiD d t).map fun b => .v (.bl b)
theorem isi_nos (t : Ty) : NoS1 (isi t) := by
  intro d i h
  unfold isi at h
  cases hb : isiD d t <;> rw [hb] at h <;> cases h
theorem isi_imp {C : Ct} {W : WX} {f : Fe} {t : Ty} : ∀ σ H Q, tE C W (seq1 f (op1 (isi t))) σ H Q → tCB (rIsi C.K) (tCons (tE C W f) (tCons (tC (.ty t.name)) tNil)) σ H Q := by
  intro σ H Q ⟨F, ρ, s, h⟩
  refine ⟨F, ρ, s, Kw.bind h fun x ρ1 F1 H1 e1 g1 h1 v rv => ?_⟩
  unfold op1 at h1
  split at h1
  · rename_i d hd
    obtain ⟨op, eo, dn⟩ := done_of g1.sr (fun x z => g1.h0 z) (isi_nos t d) h1
    unfold isi at eo
    cases hb : isiD d t with
    | none => rw [hb] at eo; cases eo
    | some b =>
      rw [hb] at eo; cases eo
      obtain ⟨ty, h1, h2⟩ := isi_s g1.sr.le (rv.read g1.sr hd) hb
      exact ⟨v, .ty t.name, ty, .type t.name, b, rfl, .ty _, h1, h2, dn.val (.bl b)⟩
  · exact h1.elim

/-! ### built-ins of one argument -/
def keyOf : Key → D
  | .inl i => .int i
  | .inr x => .str x
theorem keyOf_rep {C : Ct} (F : Hp) (k : Key) : Rep C F (keyOf k) (kV k) := by
  cases k with
  | inl i => exact .int i
  | inr x => exact .str x
theorem keys_rep {C : Ct} {F : Hp} : ∀ {ds : List (Key × D)} {vs : List (Key × V)}, RepK C F ds vs → RepL C F (ds.map fun p => keyOf p.1) (vs.map fun p => kV p.1)
  | _, _, .nil => .nil
  | _, _, .cons (k := k) _ t => .cons (keyOf_rep F k) (keys_rep t)
inductive Bi where
  | len | abs | int | list | tuple | all | any | sum
  deriving DecidableEq, Inhabited
def bls : List D → Option (List Bool)
  | [] => some []
  | .bl b :: r => (bls r).map (b :: ·)
  | _ => none
def nums : List D → Option (List Int)
  | [] => some []
  | .int b :: r => (nums r).map (b :: ·)
  | _ => none
def strz : List D → Option (List Str)
  | [] => some []
  | .str b :: r => (strz r).map (b :: ·)
  | _ => none
@[simp] def biD : Bi → D → Option Op
  | .len, .str z => if z.length ≤ 100000 then some (.v (.int z.length)) else none
  | .len, .lst xs => some (.v (.int xs.length))
  | .len, .tup xs => some (.v (.int xs.length))
  | .len, .dic kvs => some (.v (.int kvs.length))
  | .abs, .int i => some (.v (.int (if i < 0 then -i else i)))
  | .int, .int i => some (.v (.int i))
  | .int, .bl b => some (.v (.int (if b then 1 else 0)))
  | .list, .lst xs => some (.f (.lst xs))
  | .list, .tup xs => some (.f (.lst xs))
  | .list, .dic kvs => some (.f (.lst (kvs.map fun p => keyOf p.1)))
  | .tuple, .lst xs => some (.v (.tup xs))
  | .tuple, .tup xs => some (.v (.tup xs))
  | .all, .lst xs => (bls xs).map fun bs => .v (.bl (bs.all id))
  | .any, .lst xs => (bls xs).map fun bs => .v (.bl (bs.any id))
  | .sum, .lst xs => (nums xs).map fun bs => .v (.int bs.sum)
  | _, _ => none
theorem biD_nos (o : Bi) : NoS1 (biD o) := by
  intro d i h
  unfold biD at h
  split at h <;> first
    | (split at h <;> cases h)
    | (cases hq : bls _ <;> rw [hq] at h <;> cases h; done)
    | (cases hq : nums _ <;> rw [hq] at h <;> cases h; done)
    | cases h
section
variable {C : Ct} {F : Hp}
theorem bls_rep : ∀ {ds : List D} {vs : List V} {bs : List Bool}, RepL C F ds vs → bls ds = some bs → vs = bs.map V.bl
  | _, _, _, .nil, h => by cases h; rfl
  | _, _, _, .cons (d := d) r t, h => by
    cases r with
    | bl b =>
      simp only [bls] at h
      cases hq : bls _ with
      | none => rw [hq] at h; cases h
      | some bs => rw [hq] at h; cases h; rw [bls_rep t hq]; rfl
    | _ => cases h
theorem nums_rep : ∀ {ds : List D} {vs : List V} {bs : List Int}, RepL C F ds vs → nums ds = some bs → vs = bs.map V.int
  | _, _, _, .nil, h => by cases h; rfl
  | _, _, _, .cons (d := d) r t, h => by
    cases r with
    | int b =>
      simp only [nums] at h
      cases hq : nums _ with
      | none => rw [hq] at h; cases h
      | some bs => rw [hq] at h; cases h; rw [nums_rep t hq]; rfl
    | _ => cases h
theorem strz_rep : ∀ {ds : List D} {vs : List V} {bs : List Str}, RepL C F ds vs → strz ds = some bs → vs = bs.map V.str
  | _, _, _, .nil, h => by cases h; rfl
  | _, _, _, .cons (d := d) r t, h => by
    cases r with
    | str b =>
      simp only [strz] at h
      cases hq : strz _ with
      | none => rw [hq] at h; cases h
      | some bs => rw [hq] at h; cases h; rw [strz_rep t hq]; rfl
    | _ => cases h
end
def rLenK : List V → Hp → VK → Prop := fun xs H Q => ∃ a kvs, xs = [.ref a] ∧ Rd H a (.dK kvs) ∧ Q (.int kvs.length) H
theorem call_lenK {X : Cx} : CallR X (.builtin "len") rLenK := by
  intro pins s σ H xs us Q I r h
  obtain ⟨a, kvs, rfl, rd, q⟩ := h
  obtain rfl := Vals.ref1 r
  exact d_len I rd fun t s' I' => ⟨.int kvs.length, H, I', ⟨t, rfl⟩, q⟩
def rBi (C : Ct) : Bi → List V → Hp → VK → Prop
  | .len => fun xs H Q => ((∃ p ys, xs = [.ref p] ∧ (SqL C.K H p ys ∨ SqT C.K H p ys) ∧ Q (.int ys.length) H) ∨ (∃ z, xs = [.str z] ∧ z.length ≤ sizeLine ∧ Q (.int z.length) H)) ∨ rLenK xs H Q
  | .abs => fun xs H Q => ∃ i, xs = [.int i] ∧ Q (.int (if i < 0 then -i else i)) H
  | .int => fun xs H Q => (∃ i, xs = [.int i] ∧ Q (.int i) H) ∨ ∃ k, xs = [.bl k] ∧ Q (.int (if k then 1 else 0)) H
  | .list => fun xs H Q => (∃ p ys, xs = [.ref p] ∧ (SqL C.K H p ys ∨ SqT C.K H p ys) ∧ ∀ l, H l = none → Q (.ref l) (upd H l (.lst ys))) ∨ rListR xs H Q
  | .tuple => fun xs H Q => ∃ p ys, xs = [.ref p] ∧ ((SqL C.K H p ys ∧ ∀ l, H l = none → Q (.ref l) (upd H l (.tup ys))) ∨ (SqT C.K H p ys ∧ Q (.ref p) H))
  | .all => rAll C.K
  | .any => rAny C.K
  | .sum => rSum C.K
theorem serves_bi (C : Ct) (o : Bi) : Serves1 C (biD o) (fun x H Q => rBi C o [x] H Q) := by
  intro F H d v op Q l rd eo dn
  unfold biD at eo
  split at eo
  · split at eo
    · rename_i hz; cases eo; cases rd; exact .inl (.inr ⟨_, rfl, szl hz, dn.val (.int _)⟩)
    · cases eo
  · cases eo
    cases rd with
    | lst e1 r1 => exact .inl (.inl ⟨_, _, rfl, .inl (.of e1), by rw [r1.length]; exact dn.val (.int _)⟩)
  · cases eo
    cases rd with
    | tup e1 r1 => exact .inl (.inl ⟨_, _, rfl, .inr (l.sqT e1), by rw [r1.length]; exact dn.val (.int _)⟩)
  · cases eo
    cases rd with
    | dic e1 r1 => exact .inr ⟨_, _, rfl, e1, by rw [r1.length]; exact dn.val (.int _)⟩
  · cases eo; cases rd; exact ⟨_, rfl, dn.val (.int _)⟩
  · cases eo; cases rd; exact .inl ⟨_, rfl, dn.val (.int _)⟩
  · cases eo; cases rd; exact .inr ⟨_, rfl, dn.val (.int _)⟩
  · cases eo
    cases rd with
    | lst e1 r1 => exact .inl ⟨_, _, rfl, .inl (.of e1), fun p n => dn.lst r1 n⟩
  · cases eo
    cases rd with
    | tup e1 r1 => exact .inl ⟨_, _, rfl, .inr (l.sqT e1), fun p n => dn.lst r1 n⟩
  · cases eo
    cases rd with
    | dic e1 r1 => exact .inr ⟨_, _, rfl, e1, fun p n => dn.lst (keys_rep r1) n⟩
  · cases eo
    cases rd with
    | lst e1 r1 => exact ⟨_, _, rfl, .inl ⟨.of e1, fun p n => dn.tup l r1 n⟩⟩
  · cases eo
    cases rd with
    | tup e1 r1 => exact ⟨_, _, rfl, .inr ⟨l.sqT e1, dn.val (.tup e1 r1)⟩⟩
  · cases hq : bls _ with
    | none => rw [hq] at eo; cases eo
    | some bs =>
      rw [hq] at eo; cases eo
      cases rd with
      | lst e1 r1 => exact ⟨_, bs, rfl, by rw [← bls_rep r1 hq]; exact .of e1, dn.val (.bl _)⟩
  · cases hq : bls _ with
    | none => rw [hq] at eo; cases eo
    | some bs =>
      rw [hq] at eo; cases eo
      cases rd with
      | lst e1 r1 => exact ⟨_, bs, rfl, by rw [← bls_rep r1 hq]; exact .of e1, dn.val (.bl _)⟩
  · cases hq : nums _ with
    | none => rw [hq] at eo; cases eo
    | some bs =>
      rw [hq] at eo; cases eo
      cases rd with
      | lst e1 r1 => exact ⟨_, bs, rfl, by rw [← nums_rep r1 hq]; exact .of e1, dn.val (.int _)⟩
  · cases eo
def biName : Bi → Str
  | .len => "len" | .abs => "abs" | .int => "int" | .list => "list" | .tuple => "tuple" | .all => "all" | .any => "any" | .sum => "sum"
theorem pe_bi {X : Cx} {C : Ct} {W : WX} {f : Fe} {e : Expr} {p pos : Pos} (k : C.K = X.K) (hc : X.calm = true) (o : Bi) (hg : Gl X (biName o)) (hm : X.mg (biName o) = none) (ha : PE X e (tE C W f)) (hs : starEach [e] X.env = [(false, eval e X.env)]) :
    PE X (.Call (.Name (biName o) p) [e] [] pos) (tE C W (seq1 f (op1 (biD o)))) := by
  refine PEimp ?_ (one_call (r := rBi C o) (biD_nos o) (serves_bi C o))
  have pa : PA X [e] (tCons (tE C W f) tNil) := pa_cons ha pa_nil hs
  have hs' : starEach (e :: []) X.env = (false, eval e X.env) :: starEach [] X.env := hs
  cases o with
  | len =>
    have r1 : CallR X (.builtin "len") (fun xs H Q => ∃ p ys, xs = [.ref p] ∧ (SqL C.K H p ys ∨ SqT C.K H p ys) ∧ Q (.int ys.length) H) := k ▸ call_len_seq
    exact pe_callB ((r1.or call_len_str).or call_lenK) hg hm (by decide +kernel) pa (by decide) (by decide) hs'
  | abs => exact pe_callB call_abs hg hm (by decide +kernel) pa (by decide) (by decide) hs'
  | int => exact pe_callTy call_int1 hg hm (by decide +kernel) pa (by decide) (by decide) hs'
  | list =>
    have r1 : CallR X (.type "list") (rBi C .list) := by simp only [rBi]; rw [k]; exact CallR.or call_list_of (call_list_rd hc)
    exact pe_callTy r1 hg hm (by decide +kernel) pa (by decide) (by decide) hs'
  | tuple =>
    have r1 : CallR X (.type "tuple") (rBi C .tuple) := by simp only [rBi]; rw [k]; exact call_tuple_of
    exact pe_callTy r1 hg hm (by decide +kernel) pa (by decide) (by decide) hs'
  | all =>
    have r1 : CallR X (.builtin "all") (rBi C .all) := by simp only [rBi]; rw [k]; exact cr_all hc
    exact pe_callB r1 hg hm (by decide +kernel) pa (by decide) (by decide) hs'
  | any =>
    have r1 : CallR X (.builtin "any") (rBi C .any) := by simp only [rBi]; rw [k]; exact cr_any hc
    exact pe_callB r1 hg hm (by decide +kernel) pa (by decide) (by decide) hs'
  | sum =>
    have r1 : CallR X (.builtin "sum") (rBi C .sum) := by simp only [rBi]; rw [k]; exact cr_sum hc
    exact pe_callB r1 hg hm (by decide +kernel) pa (by decide) (by decide) hs'
end PyI
set_option maxHeartbeats 1000000
/-! PyI7: names, constants, displays, tests, and, or, not, comparisons; argument lists; calls. -/
namespace PyI
open PySem PySem.Spec PyProof.Rows L2

/-! ### names, constants -/
@[simp] def varE (i : Nat) : Fe := fun ρ => match ρ[i]? with
  | some (.val d) => .ok (.v d) ρ
  | some (.own _ _) => .ok (.s i) ρ
  | _ => .bad
@[simp] def cstE (d : D) : Fe := fun ρ => .ok (.v d) ρ
section
variable {X : Cx} {C : Ct} {W : WX} {f g h : Fe} {pos : Pos}
theorem pe_v {i : Nat} {x : Str} (hN : X.N[i]? = some x) (hv : Vis X.env.scope x) (hd : (x == ("__debug__" : Str)) = false) (hcd : (x == ("__classdict__" : Str)) = false) : PE X (.Name x pos) (tE C W (varE i)) :=
  PEimp (pe_var hN hv hd hcd) fun σ H Q ⟨F, ρ, s, h⟩ => by
    unfold varE at h
    split at h
    · rename_i d hi
      obtain ⟨v, e1, e2⟩ := s.val i d hi
      exact ⟨v, e1, h F H (Go.refl s) v e2⟩
    · rename_i k d hi
      obtain ⟨a, e1, _⟩ := s.own i k d hi
      exact ⟨.ref a, e1, h F H (Go.refl s) (.ref a) e1⟩
    · exact h.elim
theorem tC_imp {d : D} {v : V} (r : ∀ F, Rep C F d v) : ∀ σ H Q, tE C W (cstE d) σ H Q → tC v σ H Q := fun σ H Q ⟨F, ρ, s, h⟩ => h F H (Go.refl s) v (r F)
theorem pe_c {d : D} {v : V} {e : Expr} (h : PE X e (tC v)) (r : ∀ F, Rep C F d v) : PE X e (tE C W (cstE d)) := PEimp h (tC_imp r)

/-! ### frozen -/
@[simp] def frzE (f : Fe) : Fe := fun ρ => (f ρ).bind fun op ρ1 => match frz ρ1 op with
  | some (d, ρ2) => .ok (.v d) ρ2
  | none => .bad
theorem Kw.out {w : Wd} {α β : Type} {R : Wd → β → Prop} {r : Res α} {q : α → Env → Res β} (h : Kw C W w R (r.bind q)) {R' : Wd → α → Prop}
    (k : ∀ a ρ1 F1 H1, r = .ok a ρ1 → Go C w ⟨F1, H1, w.sg, ρ1⟩ → Kw C W w R (q a ρ1) → R' ⟨F1, H1, w.sg, ρ1⟩ a) : Kw C W w R' r := by
  cases r with
  | ok a ρ' => exact fun F' H' g => k a ρ' F' H' rfl g h
  | exc c fs ρ' => exact h
  | bad => exact h
theorem frz_imp : ∀ σ H Q, tE C W (frzE f) σ H Q → tE C W f σ H Q := fun σ H Q ⟨F, ρ, s, h⟩ =>
  ⟨F, ρ, s, Kw.out h fun x ρ1 F1 H1 e1 g1 h1 v rv => by
    split at h1
    · rename_i d ρ2 hz
      obtain ⟨F', g2, r2⟩ := Go.frz g1 hz rv
      exact h1 F' H1 g2 v r2
    · exact h1.elim⟩
theorem pe_frz {e : Expr} (h : PE X e (tE C W f)) : PE X e (tE C W (frzE f)) := PEimp h frz_imp

/-! ### argument lists -/
@[simp] def seqA : List Fe → Fa
  | [], ρ => .ok [] ρ
  | f :: fs, ρ => (f ρ).bind fun op ρ1 => (seqA fs ρ1).bind fun ops ρ2 => .ok (op :: ops) ρ2
theorem pa_n : PA X [] (tA C W (seqA [])) := PAimp pa_nil fun σ H Q ⟨F, ρ, s, h⟩ => h F H (Go.refl s) [] .nil
theorem pa_c {e : Expr} {es : List Expr} {fs : List Fe} (ha : PE X e (tE C W f)) (hr : PA X es (tA C W (seqA fs))) (hs : starEach (e :: es) X.env = (false, eval e X.env) :: starEach es X.env) : PA X (e :: es) (tA C W (seqA (f :: fs))) :=
  PAimp (pa_cons ha hr hs) fun σ H Q ⟨F, ρ, s, h⟩ => ⟨F, ρ, s, Kw.bind h fun x ρ1 F1 H1 e1 g1 h1 v rv =>
    ⟨F1, ρ1, g1.sr, Kw.bind h1 fun ops ρ2 F2 H2 e2 g2 h2 vs rvs => h2 F2 H2 (Go.refl g2.sr) (v :: vs) (.cons (rv.carry g2 rfl) (rvs.weaken fun x z => g1.h0 z))⟩⟩
/-- all of them frozen values -/
@[simp] def vals : List Op → Option (List D)
  | [] => some []
  | .v d :: r => (vals r).map (d :: ·)
  | _ => none
theorem vals_rep {H0 : Hp} {w : Wd} : ∀ {ops : List Op} {vs : List V} {ds : List D}, RepOps C H0 w ops vs → vals ops = some ds → RepL C w.F ds vs
  | _, _, _, .nil, h => by cases h; exact .nil
  | _, _, _, .cons (op := op) r t, h => by
    cases op with
    | v d =>
      simp only [vals] at h
      cases hq : vals _ with
      | none => rw [hq] at h; cases h
      | some ds => rw [hq] at h; cases h; exact .cons r (vals_rep t hq)
    | f d => cases h
    | s i => cases h
@[simp] def seqV (fa : Fa) (h : List D → Option Op) : Fe := fun ρ => (fa ρ).bind fun ops ρ1 => match vals ops with
  | some ds => res (h ds) ρ1
  | none => .bad
@[simp] def tupD (ds : List D) : Option Op := if ds.length ≤ 100000 then some (.v (.tup ds)) else none
@[simp] def lstD (ds : List D) : Option Op := if ds.length ≤ 100000 then some (.f (.lst ds)) else none
theorem pe_t {es : List Expr} {x1 : Nat} {fa : Fa} (h : PA X es (tA C W fa)) : PE X (.Tuple es x1 pos) (tE C W (seqV fa tupD)) :=
  PEimp (pe_tup h) fun σ H Q ⟨F, ρ, s, h⟩ => ⟨F, ρ, s, Kw.bind h fun ops ρ1 F1 H1 e1 g1 h1 vs rvs => by
    split at h1
    · rename_i ds hd
      have r := vals_rep rvs hd
      unfold tupD at h1
      split at h1
      · rename_i hz
        obtain ⟨op, eo, dn⟩ := done_of g1.sr (fun x z => g1.h0 z) (fun i z => by cases z) h1
        cases eo
        exact ⟨szl (by rw [r.length]; exact hz), fun p n => dn.tup g1.sr.le r n⟩
      · exact h1.elim
    · exact h1.elim⟩
theorem pe_l {es : List Expr} {fa : Fa} (h : PA X es (tA C W fa)) : PE X (.List es pos) (tE C W (seqV fa lstD)) :=
  PEimp (pe_lst h) fun σ H Q ⟨F, ρ, s, h⟩ => ⟨F, ρ, s, Kw.bind h fun ops ρ1 F1 H1 e1 g1 h1 vs rvs => by
    split at h1
    · rename_i ds hd
      have r := vals_rep rvs hd
      unfold lstD at h1
      split at h1
      · rename_i hz
        obtain ⟨op, eo, dn⟩ := done_of g1.sr (fun x z => g1.h0 z) (fun i z => by cases z) h1
        cases eo
        exact ⟨szl (by rw [r.length]; exact hz), fun p n => dn.lst r n⟩
      · exact h1.elim
    · exact h1.elim⟩
/-- {} -/
@[simp] def dnewE : Fe := fun ρ => .ok (.f (.dic [])) ρ
theorem pe_dn : PE X (.Dict [] [] pos) (tE C W dnewE) := PEimp pe_dnewK fun σ H Q ⟨F, ρ, s, h⟩ p n => by
  obtain ⟨op, eo, dn⟩ := done_of (o := some (.f (.dic []))) s (fun x z => z) (fun i z => by cases z) h
  cases eo
  exact dn.dic .nil n

/-! ### operators -/
theorem pe_bin {a b : Expr} (k : C.K = X.K) (o : Bop) (ha : PE X a (tE C W f)) (hb : PE X b (tE C W g)) : PE X (.BinOp a (oprOf o) b pos) (tE C W (seq2 f g (op2 (bop o)))) := by
  have h := opr_bop (X := X) o
  rw [← k] at h
  exact PEimp (pe_op h ha hb) (two_op (bop_nos o) (serves_bop C o))
@[simp] def negD : D → Option Op
  | .int i => some (.v (.int (-i)))
  | _ => none
theorem pe_neg {a : Expr} (ha : PE X a (tE C W f)) : PE X (.UnaryOp .USub a pos) (tE C W (seq1 f (op1 negD))) :=
  PEimp (pe_un un_neg ha) (one_op (fun d i h => by unfold negD at h; split at h <;> cases h) fun F H d v op Q l r e dn => by
    unfold negD at e
    split at e
    · cases e; cases r; exact ⟨_, rfl, dn.val (.int _)⟩
    · cases e)
theorem pe_sub2 {a b : Expr} (k : C.K = X.K) (hu : X.A.units + 150 < cLine) (ha : PE X a (tE C W f)) (hb : PE X b (tE C W g)) (hs : PlainIx b) : PE X (.Subscript a b pos) (tE C W (seq2 f g (op2 ixD))) :=
  PEimp (pe_ix (ixr_all k hu) ha hb hs) (two_op ixD_nos (serves_ix C))
/-- not, by truth -/
@[simp] def notE (f : Fe) : Fe := fun ρ => (truE f ρ).bind fun b ρ1 => .ok (.v (.bl (!b))) ρ1
theorem pe_no {a : Expr} (k : C.K = X.K) (ha : PE X a (tE C W f)) : PE X (.UnaryOp .Not a pos) (tE C W (notE f)) := by
  have hp := pe_notT (X := X) (pos := pos) ha
  rw [← k] at hp
  refine PEimp hp fun σ H Q ⟨F, ρ, s, h⟩ => ?_
  exact truE_imp σ H (fun b H' => Q (.bl (!b)) H') ⟨F, ρ, s, Kw.bind h fun b ρ1 F1 H1 e1 g1 h1 => h1 F1 H1 (Go.refl g1.sr) (.bl (!b)) (Rep.bl (!b))⟩
@[simp] def andE (f g : Fe) : Fe := fun ρ => (f ρ).bind fun op ρ1 => match deref ρ1 op with
  | some (.bl true) => g ρ1
  | some (.bl false) => .ok (.v (.bl false)) ρ1
  | _ => .bad
@[simp] def orE (f g : Fe) : Fe := fun ρ => (f ρ).bind fun op ρ1 => match deref ρ1 op with
  | some (.bl true) => .ok (.v (.bl true)) ρ1
  | some (.bl false) => g ρ1
  | _ => .bad
theorem RE_weaken {w : Wd} {H H1 : Hp} {Q : VK} {r : Res Op} (z : ∀ x, H1 x = none → H x = none) (h : Kw C W w (RE C H Q) r) : Kw C W w (RE C H1 Q) r := Kw.imp h fun a ρ1 F1 H1 e g q v rv => q v (rv.weaken z)
theorem pe_an {a b : Expr} {rest : List Expr} (ha : PE X a (tE C W f)) (hb : PE X (.BoolOp .And (b :: rest) pos) (tE C W g)) : PE X (.BoolOp .And (a :: b :: rest) pos) (tE C W (andE f g)) :=
  PEimp (L2.pe_and ha hb) fun σ H Q ⟨F, ρ, s, h⟩ => ⟨F, ρ, s, Kw.bind h fun x ρ1 F1 H1 e1 g1 h1 v rv => by
    split at h1
    · rename_i hd
      have r := rv.read g1.sr hd
      cases r
      exact ⟨true, rfl, F1, ρ1, g1.sr, RE_weaken (fun x z => g1.h0 z) h1⟩
    · rename_i hd
      have r := rv.read g1.sr hd
      cases r
      exact ⟨false, rfl, h1 F1 H1 (Go.refl g1.sr) _ (Rep.bl false)⟩
    · exact h1.elim⟩
theorem pe_o {a b : Expr} {rest : List Expr} (ha : PE X a (tE C W f)) (hb : PE X (.BoolOp .Or (b :: rest) pos) (tE C W g)) : PE X (.BoolOp .Or (a :: b :: rest) pos) (tE C W (orE f g)) :=
  PEimp (L2.pe_or ha hb) fun σ H Q ⟨F, ρ, s, h⟩ => ⟨F, ρ, s, Kw.bind h fun x ρ1 F1 H1 e1 g1 h1 v rv => by
    split at h1
    · rename_i hd
      have r := rv.read g1.sr hd
      cases r
      exact ⟨true, rfl, h1 F1 H1 (Go.refl g1.sr) _ (Rep.bl true)⟩
    · rename_i hd
      have r := rv.read g1.sr hd
      cases r
      exact ⟨false, rfl, F1, ρ1, g1.sr, RE_weaken (fun x z => g1.h0 z) h1⟩
    · exact h1.elim⟩
theorem pe_cp {a b : Expr} (k : C.K = X.K) (hu : X.A.units + 150 < cLine) (o : Cop) (ha : PE X a (tE C W f)) (hb : PE X b (tE C W g)) (hm : behindInMarks (cmpOf o) b = false) : PE X (.Compare a [cmpOf o] [b] pos) (tE C W (seq2 f g (op2 (cop o)))) :=
  PEimp (pe_cmpR (opr_cop k hu o) ha hb hm) (two_op (cop_nos o) (serves_cop C o))
@[simp] def chain3 (o p : Cop) (x y : Op) (h : Fe) : Fe := fun ρ => match deref ρ x, deref ρ y with
  | some d, some e => (match copB o d e with
    | some true => (h ρ).bind fun z ρ1 => (match deref ρ1 y, deref ρ1 z with
      | some e', some g => res (cop p e' g) ρ1
      | _, _ => .bad)
    | some false => .ok (.v (.bl false)) ρ
    | none => .bad)
  | _, _ => .bad
@[simp] def chainE (o p : Cop) (f g h : Fe) : Fe := fun ρ => (f ρ).bind fun x ρ1 => (g ρ1).bind fun y ρ2 => chain3 o p x y h ρ2
theorem chain_imp {o p : Cop} : ∀ σ H Q, tE C W (chainE o p f g h) σ H Q → tChain (rCop C o) (rCop C p) (tE C W f) (tE C W g) (tE C W h) σ H Q := by
  intro σ H Q ⟨F, ρ, s, hh⟩
  refine ⟨F, ρ, s, Kw.bind hh fun x ρ1 F1 H1 e1 g1 h1 v rv => ⟨F1, ρ1, g1.sr, Kw.bind h1 fun y ρ2 F2 H2 e2 g2 h2 u ru => ?_⟩⟩
  unfold chain3 at h2
  split at h2
  · rename_i d e hd he
    have rx := (rv.carry g2 rfl).read g2.sr hd
    have ry := ru.read g2.sr he
    cases hb : copB o d e with
    | none => rw [hb] at h2; exact h2.elim
    | some b =>
      rw [hb] at h2
      refine serves_cop C o F2 H2 d e v u (.v (.bl b)) _ g2.sr.le rx ry (by unfold cop; rw [hb]; rfl) ⟨fun v' rv' => ?_, fun p' o' n' rv' => by cases rv'⟩
      cases rv'
      refine ⟨b, rfl, ?_⟩
      cases b with
      | false => exact h2 F2 H2 (Go.refl g2.sr) _ (Rep.bl false)
      | true =>
        refine ⟨F2, ρ2, g2.sr, Kw.bind h2 fun z ρ3 F3 H3 e3 g3 h3 t rt => ?_⟩
        split at h3
        · rename_i e' q he' hq
          have ry' := (ru.carry g3 rfl).read g3.sr he'
          have rz := rt.read g3.sr hq
          obtain ⟨op, eo, dn⟩ := done_of g3.sr (fun x z => g1.h0 (g2.h0 (g3.h0 z))) (cop_nos p e' q) h3
          exact serves_cop C p F3 H3 e' q u t op _ g3.sr.le ry' rz eo dn
        · exact h3.elim
  · exact h2.elim
theorem pe_ch {a b c : Expr} (k : C.K = X.K) (hu : X.A.units + 150 < cLine) (o p : Cop) (ha : PE X a (tE C W f)) (hb : PE X b (tE C W g)) (hc : PE X c (tE C W h)) (hm : lastMarks [cmpOf o, cmpOf p] [b, c] = false) :
    PE X (.Compare a [cmpOf o, cmpOf p] [b, c] pos) (tE C W (chainE o p f g h)) :=
  PEimp (L2.pe_chain (opr_cop k hu o) (opr_cop k hu p) ha hb hc hm) chain_imp
theorem pe_ii {e : Expr} {p p2 : Pos} {t : Ty} (k : C.K = X.K) (hg : Gl X "isinstance") (hm : X.mg "isinstance" = none) (hg2 : Gl X (t.name : Str)) (hm2 : X.mg (t.name : Str) = none) (ha : PE X e (tE C W f)) (hs : starEach (e :: [.Name (t.name : Str) p2]) X.env = (false, eval e X.env) :: starEach [.Name (t.name : Str) p2] X.env)
    (hpl : (backTo pos (starEach [.Name (t.name : Str) p2] X.env)).any (·.1) = false) : PE X (.Call (.Name "isinstance" p) [e, .Name (t.name : Str) p2] [] pos) (tE C W (seq1 f (op1 (isi t)))) := by
  have hb : PE X (.Name (t.name : Str) p2) (tC (.ty t.name)) := pe_bltn hg2 hm2 (u := .type t.name) (by cases t <;> decide +kernel) rfl (by cases t <;> decide +kernel) (by cases t <;> decide +kernel)
  have hc : CallR X (.builtin "isinstance") (rIsi C.K) := by rw [k]; exact call_isi
  exact PEimp (pe_callB hc hg hm (by decide +kernel) (pa_cons ha (pa_cons hb pa_nil (by cases t <;> rfl)) hs) (by decide) (by decide) hs hpl) isi_imp
def joinD (a : Str) : D → Option Op
  | .lst xs => match strz xs with
    | some ys => if (ys.map (·.length)).sum + ys.length * a.length ≤ 100000 then some (.v (.str (Txt.join a ys))) else none
    | none => none
  | _ => none
theorem joinD_nos (a : Str) : NoS1 (joinD a) := by
  intro d i h
  unfold joinD at h
  split at h
  · split at h
    · split at h <;> cases h
    · cases h
  · cases h
def joinE (f g : Fe) : Fe := fun ρ => (f ρ).bind fun x ρ1 => match x with
  | .v (.str a) => (g ρ1).bind (op1 (joinD a))
  | _ => .bad
theorem pe_jn {o e : Expr} {apos : Pos} (k : C.K = X.K) (ho : PE X o (tE C W f)) (ha : PE X e (tE C W g)) (hs : starEach [e] X.env = [(false, eval e X.env)]) (hbase : attributeBase o "join" X.env (eval o X.env) = eval o X.env) (hline : (apos.endLine == pos.line) = true) :
    PE X (.Call (.Attribute o "join" apos) [e] [] pos) (tE C W (joinE f g)) := by
  have hp := pe_join ho ha hs hbase hline
  rw [← k] at hp
  refine PEimp hp fun σ H Q ⟨F, ρ, s, h⟩ => ⟨F, ρ, s, Kw.bind h fun x ρ1 F1 H1 e1 g1 h1 v rv => ?_⟩
  split at h1
  · rename_i a
    cases rv
    refine ⟨⟨a, rfl⟩, F1, ρ1, g1.sr, Kw.bind h1 fun y ρ2 F2 H2 e2 g2 h2 u ru => ?_⟩
    unfold op1 at h2
    split at h2
    · rename_i d hd
      have r := ru.read g2.sr hd
      obtain ⟨op, eo, dn⟩ := done_of g2.sr (fun x z => g1.h0 (g2.h0 z)) (joinD_nos a d) h2
      cases r with
      | lst s1 r1 =>
        simp only [joinD] at eo
        split at eo
        · rename_i ys hy
          split at eo
          · rename_i hz
            cases eo
            exact ⟨a, _, ys, rfl, rfl, .inl (by rw [← strz_rep r1 hy]; exact .of s1), by omega, dn.val (.str _)⟩
          · cases eo
        · cases eo
      | _ => simp [joinD] at eo
    · exact h2.elim
  · exact h1.elim

/-! ### tests -/
@[simp] def testE (f : Fe) : Ft := fun ρ => (f ρ).bind fun op ρ1 => match deref ρ1 op with
  | some (.bl b) => .ok b ρ1
  | _ => .bad
theorem test_imp : ∀ σ H Q, tT C W (testE f) σ H Q → tE C W f σ H fun x H' => ∃ k, x = .bl k ∧ Q k H' := fun σ H Q ⟨F, ρ, s, h⟩ =>
  ⟨F, ρ, s, Kw.bind h fun x ρ1 F1 H1 e1 g1 h1 v rv => by
    split at h1
    · rename_i b hd
      have r := rv.read g1.sr hd
      cases r
      exact ⟨b, rfl, h1 F1 H1 (Go.refl g1.sr)⟩
    · exact h1.elim⟩
theorem pt_tru {e : Expr} (k : C.K = X.K) (he : PE X e (tE C W f)) (hw : ∀ whole, isTrue e X.env whole = (do let v ← whole; standAt e.pos; holding [v] (truthy v))) : PT X e (tT C W (truE f)) := by
  have hp := pt_truth (X := X) he hw
  rw [← k] at hp
  exact PTimp hp truE_imp
theorem pt_cp {a b : Expr} (k : C.K = X.K) (hu : X.A.units + 150 < cLine) (o : Cop) (ha : PE X a (tE C W f)) (hb : PE X b (tE C W g)) (hm : behindInMarks (cmpOf o) b = false) : PT X (.Compare a [cmpOf o] [b] pos) (tT C W (testE (seq2 f g (op2 (cop o))))) :=
  PTimp (pt_cmpR (opr_cop k hu o) ha hb hm) fun σ H Q q => two_op (cop_nos o) (serves_cop C o) _ _ _ (test_imp σ H Q q)
theorem pt_ch {a b c : Expr} (k : C.K = X.K) (hu : X.A.units + 150 < cLine) (o p : Cop) (ha : PE X a (tE C W f)) (hb : PE X b (tE C W g)) (hc : PE X c (tE C W h)) (hm : lastMarks [cmpOf o, cmpOf p] [b, c] = false) :
    PT X (.Compare a [cmpOf o, cmpOf p] [b, c] pos) (tT C W (testE (chainE o p f g h))) :=
  PTimp (L2.pt_chain (opr_cop k hu o) (opr_cop k hu p) ha hb hc hm) fun σ H Q q => chain_imp _ _ _ (test_imp σ H Q q)
variable {t u : Ft}
@[simp] def notT (t : Ft) : Ft := fun ρ => (t ρ).bind fun b ρ1 => .ok (!b) ρ1
theorem pt_no {a : Expr} (ha : PT X a (tT C W t)) : PT X (.UnaryOp .Not a pos) (tT C W (notT t)) :=
  PTimp (pt_not ha) fun σ H Q ⟨F, ρ, s, h⟩ => ⟨F, ρ, s, Kw.bind h fun b ρ1 F1 H1 e1 g1 h1 => h1 F1 H1 (Go.refl g1.sr)⟩
@[simp] def andT (t u : Ft) : Ft := fun ρ => (t ρ).bind fun b ρ1 => if b = true then u ρ1 else .ok false ρ1
@[simp] def orT (t u : Ft) : Ft := fun ρ => (t ρ).bind fun b ρ1 => if b = true then .ok true ρ1 else u ρ1
theorem pw_an {a b : Expr} {rest : List Expr} (ha : PT X a (tT C W t)) (hb : PW X (.BoolOp .And (b :: rest) pos) (tT C W u)) : PW X (.BoolOp .And (a :: b :: rest) pos) (tT C W (andT t u)) :=
  PWimp (pw_and ha hb) fun σ H Q ⟨F, ρ, s, h⟩ => ⟨F, ρ, s, Kw.bind h fun b ρ1 F1 H1 e1 g1 h1 => by
    cases b with
    | true => exact ⟨F1, ρ1, g1.sr, h1⟩
    | false => exact h1 F1 H1 (Go.refl g1.sr)⟩
theorem pw_o {a b : Expr} {rest : List Expr} (ha : PT X a (tT C W t)) (hb : PW X (.BoolOp .Or (b :: rest) pos) (tT C W u)) : PW X (.BoolOp .Or (a :: b :: rest) pos) (tT C W (orT t u)) :=
  PWimp (pw_or ha hb) fun σ H Q ⟨F, ρ, s, h⟩ => ⟨F, ρ, s, Kw.bind h fun b ρ1 F1 H1 e1 g1 h1 => by
    cases b with
    | false => exact ⟨F1, ρ1, g1.sr, h1⟩
    | true => exact h1 F1 H1 (Go.refl g1.sr)⟩
/-- a if t else b -/
@[simp] def iteE (t : Ft) (f g : Fe) : Fe := fun ρ => (t ρ).bind fun b ρ1 => if b = true then f ρ1 else g ρ1
theorem pe_if {c a b : Expr} (hc : PT X c (tT C W t)) (ha : PE X a (tE C W f)) (hb : PE X b (tE C W g)) : PE X (.IfExp c a b pos) (tE C W (iteE t f g)) :=
  PEimp (pe_ifExp hc ha hb) fun σ H Q ⟨F, ρ, s, h⟩ => ⟨F, ρ, s, Kw.bind h fun b ρ1 F1 H1 e1 g1 h1 => by
    cases b with
    | true => exact ⟨F1, ρ1, g1.sr, RE_weaken (fun x z => g1.h0 z) h1⟩
    | false => exact ⟨F1, ρ1, g1.sr, RE_weaken (fun x z => g1.h0 z) h1⟩⟩
end
end PyI
set_option maxHeartbeats 1000000
/-! PyI8: what a def of the text promises, its call. -/
namespace PyI
open PySem PySem.Spec PyProof.Rows L2

/-- an argument: a value, or an object that the callee may change -/
inductive Arg where
  | v (d : D) | r (d : D)
  deriving Inhabited
inductive CRes where
  | ok (op : Op) (outs : List D) | exc (c : Str) (fs : List (Str × D)) (outs : List D) | bad
  deriving Inhabited
def ArgOk (C : Ct) (F H : Hp) : Arg → V → Prop
  | .v d, v => Rep C F d v
  | .r d, v => ∃ a, v = .ref a ∧ F a = none ∧ Own C F H a d
inductive ArgsOk (C : Ct) (F H : Hp) : List Arg → List V → Prop
  | nil : ArgsOk C F H [] []
  | cons {a : Arg} {v : V} {ar : List Arg} {vs : List V} : ArgOk C F H a v → ArgsOk C F H ar vs → ArgsOk C F H (a :: ar) (v :: vs)
theorem ArgsOk.length {C : Ct} {F H : Hp} : ∀ {ar : List Arg} {vs : List V}, ArgsOk C F H ar vs → vs.length = ar.length
  | _, _, .nil => rfl
  | _, _, .cons _ t => by simp [ArgsOk.length t]
theorem ArgsOk.get {C : Ct} {F H : Hp} : ∀ {ar : List Arg} {vs : List V} {i : Nat} {a : Arg}, ArgsOk C F H ar vs → ar[i]? = some a → ∃ v, vs[i]? = some v ∧ ArgOk C F H a v
  | _, _, _, _, .nil, e => by simp at e
  | _, _, 0, _, .cons r _, e => by simp at e; subst e; exact ⟨_, rfl, r⟩
  | _, _, i + 1, a, .cons _ r, e => by
    obtain ⟨v, h1, h2⟩ := ArgsOk.get (i := i) (a := a) r (by simpa using e)
    exact ⟨v, by simpa using h1, h2⟩
/-- the objects that are handed over stand apart -/
def Apart (ar : List Arg) (vs : List V) : Prop := ∀ (i j : Nat) (d e : D) (a : Addr), ar[i]? = some (Arg.r d) → ar[j]? = some (Arg.r e) → vs[i]? = some (V.ref a) → vs[j]? = some (.ref a) → i = j
/-- from the call to its end -/
structure CGo (C : Ct) (F H F' H' : Hp) (ar : List Arg) (vs : List V) (outs : List D) : Prop where
  le : Le F F'
  lh : Le F' H'
  fr : ∀ x, F' x ≠ none → F x ≠ none ∨ H x = none
  kp : ∀ x o, H x = some o → (∀ (i : Nat) (d : D), ar[i]? = some (Arg.r d) → vs[i]? ≠ some (V.ref x)) → KpR F' H' x o
  nv : ∀ x, H x ≠ none → H' x ≠ none
  out : ∀ (i : Nat) (d : D) (a : Addr), ar[i]? = some (Arg.r d) → vs[i]? = some (.ref a) → ∃ d', outs[i]? = some d' ∧ F' a = none ∧ Own C F' H' a d'
def RepC (C : Ct) (H F' H' : Hp) : Op → V → Prop
  | .v d, v => Rep C F' d v
  | .f d, v => ∃ x, v = .ref x ∧ H x = none ∧ F' x = none ∧ Own C F' H' x d
  | .s _, _ => False
def spI (C : Ct) (np : Nat) (call : List Arg → CRes) : Sp := fun vs H Q E => vs.length = np ∧ ∃ F ar, Le F H ∧ ArgsOk C F H ar vs ∧ Apart ar vs ∧ match call ar with
  | .ok op outs => ∀ v F' H', CGo C F H F' H' ar vs outs → RepC C H F' H' op v → Q v H'
  | .exc c fs outs => ∀ cls d F' H', CGo C F H F' H' ar vs outs → ExcOf C c fs cls d F' H' → E cls d H'
  | .bad => False

/-! ### the caller -/
@[simp] def argsOf (ρ : Env) : List Op → Option (List Arg)
  | [] => some []
  | .v d :: r => (argsOf ρ r).map (.v d :: ·)
  | .s i :: r => (match ρ[i]? with
    | some (.own _ d) => (argsOf ρ r).map (.r d :: ·)
    | _ => none)
  | _ => none
@[simp] def slotI : Op → Option Nat
  | .s i => some i
  | _ => none
@[simp] def setOwn (ρ : Env) (i : Nat) (d : D) : Env := match ρ[i]? with
  | some (.own k _) => ρ.set i (.own k d)
  | _ => ρ
@[simp] def wback (ρ : Env) : List Op → List D → Env
  | .s i :: ops, d :: outs => wback (setOwn ρ i d) ops outs
  | _ :: ops, _ :: outs => wback ρ ops outs
  | _, _ => ρ
@[simp] def callR (call : List Arg → CRes) (ops : List Op) (ρ : Env) : Res Op := match argsOf ρ ops with
  | none => .bad
  | some ar => if (ops.filterMap slotI).Nodup then (match call ar with
    | .ok op outs => (match op with
      | .s _ => .bad
      | op => .ok op (wback ρ ops outs))
    | .exc c fs outs => .exc c fs (wback ρ ops outs)
    | .bad => .bad) else .bad
@[simp] def callE (call : List Arg → CRes) (fa : Fa) : Fe := fun ρ => (fa ρ).bind (callR call)
section
theorem setOwn_len (ρ : Env) (i : Nat) (d : D) : (setOwn ρ i d).length = ρ.length := by
  unfold setOwn; split <;> simp
theorem wback_len : ∀ (ops : List Op) (outs : List D) (ρ : Env), (wback ρ ops outs).length = ρ.length
  | [], _, _ => by simp [wback]
  | .v _ :: ops, [], ρ => by simp [wback]
  | .f _ :: ops, [], ρ => by simp [wback]
  | .s _ :: ops, [], ρ => by simp [wback]
  | .v _ :: ops, _ :: outs, ρ => by simp only [wback]; exact wback_len ops outs ρ
  | .f _ :: ops, _ :: outs, ρ => by simp only [wback]; exact wback_len ops outs ρ
  | .s i :: ops, d :: outs, ρ => by simp only [wback]; rw [wback_len ops outs, setOwn_len]
theorem setOwn_ne {ρ : Env} {i j : Nat} {d : D} (h : j ≠ i) : (setOwn ρ i d)[j]? = ρ[j]? := by
  unfold setOwn; split
  · rw [List.getElem?_set_ne (Ne.symm h)]
  · rfl
theorem setOwn_eq {ρ : Env} {i : Nat} {d e : D} {k : Bool} (h : ρ[i]? = some (.own k e)) : (setOwn ρ i d)[i]? = some (.own k d) := by
  unfold setOwn
  rw [h]
  have hl : i < ρ.length := (List.getElem?_eq_some_iff.mp h).1
  exact List.getElem?_set_self hl
/-- slots that no argument names stay -/
theorem wback_out {i : Nat} : ∀ {ops : List Op} {outs : List D} {ρ : Env}, i ∉ ops.filterMap slotI → (wback ρ ops outs)[i]? = ρ[i]?
  | [], _, _, _ => by simp [wback]
  | .v _ :: ops, [], _, _ => by simp [wback]
  | .f _ :: ops, [], _, _ => by simp [wback]
  | .s _ :: ops, [], _, _ => by simp [wback]
  | .v _ :: ops, _ :: outs, ρ, h => by simp only [wback]; exact wback_out (by simpa [slotI] using h)
  | .f _ :: ops, _ :: outs, ρ, h => by simp only [wback]; exact wback_out (by simpa [slotI] using h)
  | .s j :: ops, d :: outs, ρ, h => by
    simp only [wback]
    have h2 : i ≠ j ∧ i ∉ ops.filterMap slotI := by simpa [slotI] using h
    rw [wback_out h2.2, setOwn_ne h2.1]
/-- a slot that an argument names has what came back -/
theorem wback_in {i : Nat} {k : Bool} : ∀ {ops : List Op} {outs : List D} {ρ : Env} {j : Nat} {e d' : D}, (ops.filterMap slotI).Nodup → ops[j]? = some (.s i) → outs[j]? = some d' → ρ[i]? = some (.own k e) → (wback ρ ops outs)[i]? = some (.own k d')
  | [], _, _, _, _, _, _, h, _, _ => by simp at h
  | _ :: _, [], _, _, _, _, _, _, h, _ => by simp at h
  | op :: ops, d :: outs, ρ, 0, e, d', nd, h1, h2, h3 => by
    simp at h1 h2
    subst h1 h2
    simp only [wback]
    have nd' : i ∉ ops.filterMap slotI ∧ (ops.filterMap slotI).Nodup := by simpa [slotI, List.filterMap_cons] using nd
    rw [wback_out nd'.1, setOwn_eq h3]
  | op :: ops, d :: outs, ρ, j + 1, e, d', nd, h1, h2, h3 => by
    simp at h1 h2
    cases op with
    | v d0 => simp only [wback]; exact wback_in (by simpa [slotI, List.filterMap_cons] using nd) h1 h2 h3
    | f d0 => simp only [wback]; exact wback_in (by simpa [slotI, List.filterMap_cons] using nd) h1 h2 h3
    | s i0 =>
      have nd' : i0 ∉ ops.filterMap slotI ∧ (ops.filterMap slotI).Nodup := by simpa [slotI, List.filterMap_cons] using nd
      have ne : i ≠ i0 := fun z => nd'.1 (by
        rw [← z]
        exact List.mem_filterMap.mpr ⟨.s i, List.mem_of_getElem? h1, rfl⟩)
      simp only [wback]
      exact wback_in nd'.2 h1 h2 (by rw [setOwn_ne ne]; exact h3)
end
section
variable {C : Ct} {H0 : Hp} {w : Wd}
theorem argsOf_len {ρ : Env} : ∀ {ops : List Op} {ar : List Arg}, argsOf ρ ops = some ar → ar.length = ops.length
  | [], _, h => by cases h; rfl
  | .v d :: r, ar, h => by
    simp only [argsOf] at h
    cases hq : argsOf ρ r with
    | none => rw [hq] at h; cases h
    | some q => rw [hq] at h; cases h; simp [argsOf_len hq]
  | .f d :: r, ar, h => by cases h
  | .s i :: r, ar, h => by
    simp only [argsOf] at h
    split at h
    · cases hq : argsOf ρ r with
      | none => rw [hq] at h; cases h
      | some q => rw [hq] at h; cases h; simp [argsOf_len hq]
    · cases h
/-- an argument handed over is a slot of one's own -/
theorem argsOf_r {ρ : Env} {d : D} : ∀ {ops : List Op} {ar : List Arg} {j : Nat}, argsOf ρ ops = some ar → ar[j]? = some (.r d) → ∃ i k, ops[j]? = some (.s i) ∧ ρ[i]? = some (.own k d)
  | [], _, _, h, e => by cases h; simp at e
  | .v d0 :: r, ar, j, h, e => by
    simp only [argsOf] at h
    cases hq : argsOf ρ r with
    | none => rw [hq] at h; cases h
    | some q =>
      rw [hq] at h; cases h
      cases j with
      | zero => simp at e
      | succ j => simpa using argsOf_r hq (by simpa using e)
  | .f d0 :: r, ar, j, h, e => by cases h
  | .s i :: r, ar, j, h, e => by
    simp only [argsOf] at h
    split at h
    · rename_i k d1 hi
      cases hq : argsOf ρ r with
      | none => rw [hq] at h; cases h
      | some q =>
        rw [hq] at h; cases h
        cases j with
        | zero => simp at e; subst e; exact ⟨i, k, rfl, hi⟩
        | succ j => simpa using argsOf_r hq (by simpa using e)
    · cases h
theorem argsOf_s {ρ : Env} {i : Nat} : ∀ {ops : List Op} {ar : List Arg} {j : Nat}, argsOf ρ ops = some ar → ops[j]? = some (.s i) → ∃ k d, ρ[i]? = some (.own k d) ∧ ar[j]? = some (.r d)
  | [], _, _, h, e => by simp at e
  | .v d0 :: r, ar, j, h, e => by
    simp only [argsOf] at h
    cases hq : argsOf ρ r with
    | none => rw [hq] at h; cases h
    | some q =>
      rw [hq] at h; cases h
      cases j with
      | zero => simp at e
      | succ j => simpa using argsOf_s hq (by simpa using e)
  | .f d0 :: r, ar, j, h, e => by cases h
  | .s i0 :: r, ar, j, h, e => by
    simp only [argsOf] at h
    split at h
    · rename_i k d1 hi
      cases hq : argsOf ρ r with
      | none => rw [hq] at h; cases h
      | some q =>
        rw [hq] at h; cases h
        cases j with
        | zero => simp at e; subst e; exact ⟨k, d1, hi, rfl⟩
        | succ j => simpa using argsOf_s hq (by simpa using e)
    · cases h
theorem RepOps.get : ∀ {ops : List Op} {vs : List V} {j : Nat} {op : Op}, RepOps C H0 w ops vs → ops[j]? = some op → ∃ v, vs[j]? = some v ∧ RepOp C H0 w op v
  | _, _, _, _, .nil, e => by simp at e
  | _, _, 0, _, .cons r _, e => by simp at e; subst e; exact ⟨_, rfl, r⟩
  | _, _, i + 1, a, .cons _ r, e => by
    obtain ⟨v, h1, h2⟩ := RepOps.get (j := i) (op := a) r (by simpa using e)
    exact ⟨v, by simpa using h1, h2⟩
theorem args_ok (s : SR C w) : ∀ {ops : List Op} {vs : List V} {ar : List Arg}, RepOps C H0 w ops vs → argsOf w.en ops = some ar → ArgsOk C w.F w.H ar vs
  | _, _, _, .nil, h => by cases h; exact .nil
  | _, _, _, .cons (op := op) r t, h => by
    cases op with
    | v d =>
      simp only [argsOf] at h
      cases hq : argsOf w.en _ with
      | none => rw [hq] at h; cases h
      | some q => rw [hq] at h; cases h; exact .cons r (args_ok s t hq)
    | f d => cases h
    | s i =>
      simp only [argsOf] at h
      split at h
      · rename_i k d hi
        cases hq : argsOf w.en _ with
        | none => rw [hq] at h; cases h
        | some q =>
          rw [hq] at h; cases h
          obtain ⟨a, e1, e2, e3⟩ := s.own i k d hi
          have r' : w.sg[i]? = some (some _) := r
          rw [r'] at e1; cases e1
          exact .cons ⟨a, rfl, e2, e3⟩ (args_ok s t hq)
      · cases h
theorem args_apart (s : SR C w) {ops : List Op} {vs : List V} {ar : List Arg} (r : RepOps C H0 w ops vs) (h : argsOf w.en ops = some ar) (nd : (ops.filterMap slotI).Nodup) : Apart ar vs := by
  intro i j d e a h1 h2 h3 h4
  obtain ⟨si, ki, o1, p1⟩ := argsOf_r h h1
  obtain ⟨sj, kj, o2, p2⟩ := argsOf_r h h2
  obtain ⟨v1, q1, t1⟩ := r.get o1
  obtain ⟨v2, q2, t2⟩ := r.get o2
  rw [h3] at q1; cases q1
  rw [h4] at q2; cases q2
  have es : si = sj := s.sep si sj ki kj d e a p1 p2 t1 t2
  subst es
  -- one slot stands once
  clear h h1 h2 h3 h4 r t1 t2
  induction ops generalizing i j with
  | nil => simp at o1
  | cons op ops ih =>
    cases op with
    | s k0 =>
      have nd' : k0 ∉ ops.filterMap slotI ∧ (ops.filterMap slotI).Nodup := by simpa [slotI, List.filterMap_cons] using nd
      have inn : ∀ {n : Nat}, ops[n]? = some (.s si) → si ∈ ops.filterMap slotI := fun z => List.mem_filterMap.mpr ⟨.s si, List.mem_of_getElem? z, rfl⟩
      cases i with
      | zero =>
        cases j with
        | zero => rfl
        | succ j =>
          simp at o1 o2
          exact absurd (inn o2) (by rw [← o1]; exact nd'.1)
      | succ i =>
        cases j with
        | zero =>
          simp at o1 o2
          exact absurd (inn o1) (by rw [← o2]; exact nd'.1)
        | succ j =>
          simp at o1 o2
          rw [ih nd'.2 i j o1 o2]
    | v d0 =>
      cases i with
      | zero => simp at o1
      | succ i =>
        cases j with
        | zero => simp at o2
        | succ j =>
          simp at o1 o2
          rw [ih (by simpa [slotI, List.filterMap_cons] using nd) i j o1 o2]
    | f d0 =>
      cases i with
      | zero => simp at o1
      | succ i =>
        cases j with
        | zero => simp at o2
        | succ j =>
          simp at o1 o2
          rw [ih (by simpa [slotI, List.filterMap_cons] using nd) i j o1 o2]
/-- the caller's step -/
theorem CGo.go (s : SR C w) {ops : List Op} {vs : List V} {ar : List Arg} {outs : List D} {F' H' : Hp} (r : RepOps C H0 w ops vs) (h : argsOf w.en ops = some ar) (nd : (ops.filterMap slotI).Nodup) (g : CGo C w.F w.H F' H' ar vs outs) :
    Go C w ⟨F', H', w.sg, wback w.en ops outs⟩ ∧ ∀ x, Ow ⟨F', H', w.sg, wback w.en ops outs⟩ x → Ow w x := by
  -- every slot of the new row
  have cell : ∀ (i : Nat), (i ∉ ops.filterMap slotI ∧ (wback w.en ops outs)[i]? = w.en[i]?) ∨ ∃ (j : Nat) (k : Bool) (d d' : D) (a : Addr), ops[j]? = some (Op.s i) ∧ w.en[i]? = some (.own k d) ∧ ar[j]? = some (.r d) ∧ vs[j]? = some (.ref a) ∧ w.sg[i]? = some (some (.ref a)) ∧ outs[j]? = some d' ∧ F' a = none ∧ Own C F' H' a d' ∧ (wback w.en ops outs)[i]? = some (.own k d') := by
    intro i
    by_cases hi : i ∈ ops.filterMap slotI
    · obtain ⟨op, m, e⟩ := List.mem_filterMap.mp hi
      cases op with
      | s i0 =>
        simp [slotI] at e
        subst e
        obtain ⟨j, hj⟩ := List.getElem?_of_mem m
        obtain ⟨k, d, p1, p2⟩ := argsOf_s h hj
        obtain ⟨v, q1, q2⟩ := r.get hj
        obtain ⟨a, e1, e2, e3⟩ := s.own i0 k d p1
        have q2' : w.sg[i0]? = some (some v) := q2
        rw [q2'] at e1; cases e1
        obtain ⟨d', t1, t2, t3⟩ := g.out j d a p2 q1
        exact .inr ⟨j, k, d, d', a, hj, p1, p2, q1, q2', t1, t2, t3, wback_in nd hj t1 p1⟩
      | v d => simp [slotI] at e
      | f d => simp [slotI] at e
    · exact .inl ⟨hi, wback_out hi⟩
  have owk : ∀ x, w.H x ≠ none → ¬ Ow w x → ∀ (i : Nat) (d : D), ar[i]? = some (Arg.r d) → vs[i]? ≠ some (V.ref x) := fun x hx ho i d q1 q2 => by
    obtain ⟨si, ki, o1, p1⟩ := argsOf_r h q1
    obtain ⟨v1, t1, t2⟩ := r.get o1
    rw [q2] at t1; cases t1
    exact ho ⟨si, ki, d, p1, t2⟩
  have owb : ∀ x, Ow ⟨F', H', w.sg, wback w.en ops outs⟩ x → Ow w x := fun x ⟨i, k, d, q1, q2⟩ => by
    rcases cell i with ⟨_, e⟩ | ⟨j, k', d0, d', a, _, p1, _, _, p4, _⟩
    · exact ⟨i, k, d, by rw [← e]; exact q1, q2⟩
    · rw [p4] at q2; cases q2
      exact ⟨i, k', d0, p1, p4⟩
  refine ⟨⟨⟨g.lh, by rw [wback_len]; exact s.len, fun i d q => ?_, fun i k d q => ?_, fun i j k k' d e a q1 q2 q3 q4 => ?_⟩, g.le, fun x q => ?_, fun x o e n => ?_, fun x q => .inl (owb x q), g.nv, fun i d q => ?_, by rw [wback_len]⟩, owb⟩
  · rcases cell i with ⟨_, e⟩ | ⟨j, k', d0, d', a, _, _, _, _, _, _, _, _, p⟩
    · obtain ⟨v, h1, h2⟩ := s.val i d (by rw [← e]; exact q)
      exact ⟨v, h1, h2.mono g.le⟩
    · have q : (wback w.en ops outs)[i]? = some (.val d) := q
      rw [p] at q; cases q
  · rcases cell i with ⟨hi, e⟩ | ⟨j, k', d0, d', a, _, p1, p2, p3, p4, _, p6, p7, p⟩
    · obtain ⟨a, e1, e2, e3⟩ := s.own i k d (by rw [← e]; exact q)
      obtain ⟨u, hu, _⟩ := e3.ex
      have na : ∀ (j : Nat) (d : D), ar[j]? = some (Arg.r d) → vs[j]? ≠ some (V.ref a) := fun j d0 q1 q2 => by
        obtain ⟨sj, kj, o1, p1⟩ := argsOf_r h q1
        obtain ⟨v1, t1, t2⟩ := r.get o1
        rw [q2] at t1; cases t1
        have := s.sep i sj k kj d d0 a (by rw [← e]; exact q) p1 e1 t2
        subst this
        exact hi (List.mem_filterMap.mpr ⟨.s i, List.mem_of_getElem? o1, rfl⟩)
      have fn : F' a = none := Classical.byContradiction fun z => by
        rcases g.fr a z with y | y
        · exact y e2
        · rw [hu] at y; cases y
      have hk := (g.kp a u hu na).eqF fn
      exact ⟨a, e1, fn, e3.keep g.le (hk.trans hu.symm)⟩
    · have q : (wback w.en ops outs)[i]? = some (.own k d) := q
      rw [p] at q; cases q
      exact ⟨a, p4, p6, p7⟩
  · obtain ⟨ki, di, e1⟩ : ∃ k d, w.en[i]? = some (.own k d) := by
      rcases cell i with ⟨_, e⟩ | ⟨j, k', d0, d', a, _, p1, _⟩
      · exact ⟨k, d, by rw [← e]; exact q1⟩
      · exact ⟨_, _, p1⟩
    obtain ⟨kj, dj, e2⟩ : ∃ k d, w.en[j]? = some (.own k d) := by
      rcases cell j with ⟨_, e⟩ | ⟨j, k', d0, d', a, _, p1, _⟩
      · exact ⟨k', _, by rw [← e]; exact q2⟩
      · exact ⟨_, _, p1⟩
    exact s.sep i j _ _ _ _ a e1 e2 q3 q4
  · rcases g.fr x q with y | y
    · exact .inl y
    · exact .inr (.inl y)
  · exact g.kp x o e (owk x (by rw [e]; exact fun z => nomatch z) n)
  · rcases cell i with ⟨_, e⟩ | ⟨j, k', d0, d', a, _, p1, _, _, _, _, _, _, p⟩
    · exact ⟨⟨d, by show (wback w.en ops outs)[i]? = _; rw [e]; exact q⟩, rfl⟩
    · rw [q] at p1; cases p1
      exact ⟨⟨d', p⟩, rfl⟩
/-- f(..) -/
theorem call_imp {W : WX} {fa : Fa} {call : List Arg → CRes} {np : Nat} (hn : ∀ ρ ops ρ1, fa ρ = .ok ops ρ1 → ops.length = np) : ∀ σ H Q, tE C W (callE call fa) σ H Q → tCallS (spI C np call) (WE W) (tA C W fa) σ H Q := by
  intro σ H Q ⟨F, ρ, s, h⟩
  refine ⟨F, ρ, s, Kw.bind h fun ops ρ1 F1 H1 e1 g1 h1 vs rvs => ?_⟩
  unfold callR at h1
  split at h1
  · exact h1.elim
  · rename_i ar ha
    split at h1
    · rename_i nd
      refine ⟨by rw [rvs.length]; exact hn _ _ _ e1, F1, ar, g1.sr.le, args_ok g1.sr rvs ha, args_apart g1.sr rvs ha nd, ?_⟩
      cases hc : call ar with
      | bad => rw [hc] at h1; exact h1.elim
      | exc c fs outs =>
        rw [hc] at h1
        exact fun cls d F' H' g x => h1 cls d F' H' (g.go g1.sr rvs ha nd).1 x
      | ok op outs =>
        rw [hc] at h1
        intro v F' H' g rv
        obtain ⟨gg, owb⟩ := g.go g1.sr rvs ha nd
        cases op with
        | s i => exact h1.elim
        | v d => exact h1 F' H' gg v rv
        | f d =>
          obtain ⟨x, rfl, x1, x2, x3⟩ := rv
          exact h1 F' H' gg (.ref x) ⟨x, rfl, g1.h0 x1, x2, fun z => (g1.sr.owF (owb x z)).2 x1, x3⟩
    · exact h1.elim
end
end PyI
set_option maxHeartbeats 1000000
/-! PyI9: targets, what is walked, comprehensions. -/
namespace PyI
open PySem PySem.Spec PyProof.Rows L2

/-! ### targets -/
inductive T where
  | n (i : Nat) | tup (ts : List T)
  deriving Inhabited
@[simp] def setVal (i : Nat) (d : D) (ρ : Env) : Option Env := match ρ[i]? with
  | some sl => if sl.keep = true then none else some (ρ.set i (.val d))
  | none => none
mutual
@[simp] def asgT : T → D → Env → Option Env
  | .n i, d, ρ => setVal i d ρ
  | .tup ts, .tup ds, ρ => asgTs ts ds ρ
  | .tup _, _, _ => none
@[simp] def asgTs : List T → List D → Env → Option Env
  | [], [], ρ => some ρ
  | t :: ts, d :: ds, ρ => (asgT t d ρ).bind fun ρ1 => asgTs ts ds ρ1
  | _, _, _ => none
end
mutual
def slotsT : T → List Nat
  | .n i => [i]
  | .tup ts => slotsTs ts
def slotsTs : List T → List Nat
  | [] => []
  | t :: ts => slotsT t ++ slotsTs ts
end
/-- only the slots at l are changed -/
def But (l : List Nat) (σ σ' : L2.St) : Prop := σ'.length = σ.length ∧ ∀ (j : Nat), j ∉ l → σ'[j]? = σ[j]?
theorem But.refl (l : List Nat) (σ : L2.St) : But l σ σ := ⟨rfl, fun _ _ => rfl⟩
theorem But.trans {l m : List Nat} {a b c : L2.St} (h : But l a b) (k : But m b c) : But (l ++ m) a c :=
  ⟨k.1.trans h.1, fun j q => by
    have q' : j ∉ l ∧ j ∉ m := by simpa using q
    exact (k.2 j q'.2).trans (h.2 j q'.1)⟩
theorem But.mono {l m : List Nat} {a b : L2.St} (h : But l a b) (s : ∀ j ∈ l, j ∈ m) : But m a b := ⟨h.1, fun j q => h.2 j fun z => q (s j z)⟩
section
variable {X : Cx} {C : Ct} {W : WX}
/-- a slot takes a value -/
theorem SR.setVal {w : Wd} (s : SR C w) {i : Nat} {d : D} {v : V} {ρ' : Env} (e : PyI.setVal i d w.en = some ρ') (r : Rep C w.F d v) : Go C w ⟨w.F, w.H, w.sg.set i (some v), ρ'⟩ := by
  have hi : i < w.en.length ∧ ρ' = w.en.set i (.val d) ∧ ∀ d0, w.en[i]? ≠ some (.own true d0) := by
    unfold PyI.setVal at e
    split at e
    · rename_i sl hs
      split at e
      · cases e
      · rename_i hne
        cases e
        exact ⟨(List.getElem?_eq_some_iff.mp hs).1, rfl, fun d0 z => by
          rw [hs] at z; cases z; exact hne rfl⟩
    · cases e
  obtain ⟨hl, rfl, nk⟩ := hi
  have hσ : i < w.sg.length := by rw [s.len]; exact hl
  have old : ∀ (j : Nat) (k : Bool) (d' : D), (w.en.set i (.val d))[j]? = some (.own k d') → j ≠ i ∧ w.en[j]? = some (.own k d') := fun j k d' q => by
    rcases get_set_some q with ⟨_, z⟩ | z
    · cases z
    · exact z
  refine ⟨⟨s.le, by simpa using s.len, fun j d' q => ?_, fun j k d' q => ?_, fun j j' k k' d' e' a q1 q2 q3 q4 => ?_⟩, Le.refl _, fun x q => .inl q, fun _ _ h _ => .inl h, fun x q => ?_, fun _ h => h, fun j d' q => ?_, by simp⟩
  · rcases get_set_some q with ⟨z1, z2⟩ | ⟨z1, z2⟩
    · cases z2; subst z1
      exact ⟨v, List.getElem?_set_self hσ, r⟩
    · obtain ⟨u, h1, h2⟩ := s.val j d' z2
      exact ⟨u, by show (w.sg.set i (some v))[j]? = _; rw [List.getElem?_set_ne (Ne.symm z1)]; exact h1, h2⟩
  · obtain ⟨z1, z2⟩ := old j k d' q
    obtain ⟨a, h1, h2, h3⟩ := s.own j k d' z2
    exact ⟨a, by show (w.sg.set i (some v))[j]? = _; rw [List.getElem?_set_ne (Ne.symm z1)]; exact h1, h2, h3⟩
  · obtain ⟨z1, z2⟩ := old j k d' q1
    obtain ⟨z3, z4⟩ := old j' k' e' q2
    have q3' : (w.sg.set i (some v))[j]? = some (some (.ref a)) := q3
    have q4' : (w.sg.set i (some v))[j']? = some (some (.ref a)) := q4
    rw [List.getElem?_set_ne (Ne.symm z1)] at q3'
    rw [List.getElem?_set_ne (Ne.symm z3)] at q4'
    exact s.sep j j' k k' d' e' a z2 z4 q3' q4'
  · obtain ⟨j, k, d', q1, q2⟩ := q
    obtain ⟨z1, z2⟩ := old j k d' q1
    have q2' : (w.sg.set i (some v))[j]? = some (some (.ref x)) := q2
    rw [List.getElem?_set_ne (Ne.symm z1)] at q2'
    exact .inl ⟨j, k, d', z2, q2'⟩
  · have ne : j ≠ i := fun z => by subst z; exact nk d' q
    refine ⟨⟨d', ?_⟩, ?_⟩
    · show (w.en.set i (.val d))[j]? = _; rw [List.getElem?_set_ne (Ne.symm ne)]; exact q
    · show (w.sg.set i (some v))[j]? = _; rw [List.getElem?_set_ne (Ne.symm ne)]
/-- a target's reading -/
def tG (C : Ct) (t : T) : TG := fun v σ H Q => ∃ F ρ d ρ', SR C ⟨F, H, σ, ρ⟩ ∧ Rep C F d v ∧ asgT t d ρ = some ρ' ∧ ∀ σ', Go C ⟨F, H, σ, ρ⟩ ⟨F, H, σ', ρ'⟩ → But (slotsT t) σ σ' → Q σ' H
def tGs (C : Ct) (ts : List T) : TGs := fun vs σ H Q => ∃ F ρ ds ρ', SR C ⟨F, H, σ, ρ⟩ ∧ RepL C F ds vs ∧ asgTs ts ds ρ = some ρ' ∧ ∀ σ', Go C ⟨F, H, σ, ρ⟩ ⟨F, H, σ', ρ'⟩ → But (slotsTs ts) σ σ' → Q σ' H
theorem PGimp {e : Expr} {t t' : TG} (h : PG X e t) (k : ∀ v σ H Q, t' v σ H Q → t v σ H Q) : PG X e t' := ⟨fun pins s σ H v u Q I r q => h.run pins s σ H v u Q I r (k v σ H Q q)⟩
theorem PGsimp {e : List Expr} {t t' : TGs} (h : PGs X e t) (k : ∀ v σ H Q, t' v σ H Q → t v σ H Q) : PGs X e t' := ⟨fun pins s σ H v u Q I r q => h.run pins s σ H v u Q I r (k v σ H Q q)⟩
theorem pg_n {i : Nat} {x : Str} {pos : Pos} (hN : X.N.Nodup) (hi : X.N[i]? = some x) (hx : Loc X.env.scope x) (hf : X.fn x = true ∨ X.env.scope.names.lookup x = some .local) : PG X (.Name x pos) (tG C (.n i)) :=
  PGimp (pg_name hN hi hx hf) fun v σ H Q ⟨F, ρ, d, ρ', s, r, e, q⟩ => by
    have e' : PyI.setVal i d ρ = some ρ' := by simpa only [asgT] using e
    exact q _ (s.setVal (v := v) e' r) ⟨by simp, fun j z => by
      have ne : j ≠ i := by simpa [slotsT] using z
      rw [List.getElem?_set_ne (Ne.symm ne)]⟩
theorem pgs_n : PGs X [] (tGs C []) := PGsimp pgs_nil fun vs σ H Q ⟨F, ρ, ds, ρ', s, r, e, q⟩ => by
  cases r with
  | nil =>
    simp only [asgTs, Option.some.injEq] at e
    subst e
    exact ⟨rfl, q σ (Go.refl s) (.refl _ _)⟩
  | cons _ _ => simp [asgTs] at e
theorem pgs_c {e : Expr} {es : List Expr} {t : T} {ts : List T} (h1 : PG X e (tG C t)) (h2 : PGs X es (tGs C ts)) (hs : (assignEach (e :: es) X.env).map (·.2) = assign e X.env :: (assignEach es X.env).map (·.2)) : PGs X (e :: es) (tGs C (t :: ts)) :=
  PGsimp (pgs_cons h1 h2 hs) fun vs σ H Q ⟨F, ρ, ds, ρ', s, r, e, q⟩ => by
    cases r with
    | nil => simp [asgTs] at e
    | @cons d v ds vs r1 r2 =>
      simp only [asgTs] at e
      cases hq : asgT t d ρ with
      | none => rw [hq] at e; cases e
      | some ρ1 =>
        rw [hq] at e
        refine ⟨v, vs, rfl, F, ρ, d, ρ1, s, r1, hq, fun σ1 g1 b1 => ⟨F, ρ1, ds, ρ', g1.sr, r2, e, fun σ2 g2 b2 => q σ2 (g1.trans g2) (by simpa [slotsTs] using b1.trans b2)⟩⟩
theorem pg_t {es : List Expr} {ts : List T} {k : Nat} {pos : Pos} (hk : C.K = X.K) (hc : X.calm = true) (hl : es.length = ts.length) (h : PGs X es (tGs C ts)) (hn : (assignEach es X.env).length = es.length) (hst : (assignEach es X.env).findIdx? (·.1) = none) : PG X (.Tuple es k pos) (tG C (.tup ts)) :=
  PGimp (pg_tup hc h hn hst) fun v σ H Q ⟨F, ρ, d, ρ', s, r, e, q⟩ => by
    cases r with
    | @tup a vs ds s1 r1 =>
      simp only [asgT] at e
      have len : ∀ {ts : List T} {ds : List D} {ρ ρ' : Env}, asgTs ts ds ρ = some ρ' → ds.length = ts.length := by
        intro ts
        induction ts with
        | nil => intro ds ρ ρ' e; cases ds <;> simp [asgTs] at e ⊢
        | cons t ts ih =>
          intro ds ρ ρ' e
          cases ds with
          | nil => simp [asgTs] at e
          | cons d ds =>
            simp only [asgTs] at e
            cases hq : asgT t d ρ with
            | none => rw [hq] at e; cases e
            | some ρ1 => rw [hq] at e; simp [ih e]
      have hs := s.le.sqT s1
      rw [hk] at hs
      exact ⟨a, vs, rfl, hs, by rw [r1.length, len e, hl], F, ρ, ds, ρ', s, r1, e, fun σ' g b => q σ' g (by simpa [slotsT] using b)⟩
    | _ => simp [asgT] at e
end

/-! ### what is walked -/
/-- the walk J goes through the items, in the worlds behind w0 -/
structure ItOk (C : Ct) (J : It) (items : List D) (w0 : Wd) : Prop where
  go : ∀ (i : Nat) (w : Wd), i < items.length → Go C w0 w → J.go i w.H ∧ ∀ x H', J.yld i w.H x H' → ∃ d F', items[i]? = some d ∧ Go C w ⟨F', H', w.sg, w.en⟩ ∧ Rep C F' d x
  stop : ∀ (w : Wd), Go C w0 w → J.stop items.length w.H
abbrev Fi := Env → Res (List D)
/-- .. from every world over these heaps -/
def ItOks (C : Ct) (J : It) (items : List D) (F H : Hp) : Prop := ∀ w0 : Wd, w0.F = F → w0.H = H → SR C w0 → ItOk C J items w0
abbrev RI (C : Ct) (R : It → Hp → Prop) : Wd → List D → Prop := fun w' items => ∀ J, ItOks C J items w'.F w'.H → R J w'.H
def tI (C : Ct) (W : WX) (f : Fi) : TI := fun σ H R => ∃ F ρ, SR C ⟨F, H, σ, ρ⟩ ∧ Kw C W ⟨F, H, σ, ρ⟩ (RI C R) (f ρ)
section
variable {X : Cx} {C : Ct} {W : WX} {tg : Expr} {f g : Fe}
theorem PIimp {e : Expr} {t t' : TI} (h : PI X tg e t) (k : ∀ σ H R, t' σ H R → t σ H R) : PI X tg e t' := ⟨fun pins s σ H R I q => h.run pins s σ H R I (k σ H R q)⟩
/-- over an op of the world, the same -/
theorem it_list {w0 : Wd} {a : Addr} {vs : List V} {ds : List D} (e : w0.F a = some (.lst vs)) (r : RepL C w0.F ds vs) : ItOk C (Itl C.K a) ds w0 where
  go := fun i w hi g => by
    have e' : w.H a = some (.lst vs) := g.sr.le.ins _ _ rfl (g.le.ins _ _ rfl e)
    obtain ⟨v, h1, h2⟩ := r.get (List.getElem?_eq_getElem hi)
    refine ⟨⟨vs, v, .of e', h1⟩, fun x H' ⟨y1, y2⟩ => ?_⟩
    have := y2 vs (.of e')
    rw [h1] at this; cases this
    subst y1
    exact ⟨_, w.F, List.getElem?_eq_getElem hi, Go.refl g.sr, h2.mono g.le⟩
  stop := fun w g => ⟨vs, .of (g.sr.le.ins _ _ rfl (g.le.ins _ _ rfl e)), by rw [r.length]; exact Nat.le_refl _⟩
theorem it_tup {w0 : Wd} {a : Addr} {vs : List V} {ds : List D} (e : SqT C.K w0.F a vs) (r : RepL C w0.F ds vs) : ItOk C (Itt C.K a) ds w0 where
  go := fun i w hi g => by
    have e' : SqT C.K w.H a vs := g.sr.le.sqT (g.le.sqT e)
    obtain ⟨v, h1, h2⟩ := r.get (List.getElem?_eq_getElem hi)
    refine ⟨⟨vs, v, e', h1⟩, fun x H' ⟨y1, y2⟩ => ?_⟩
    have := y2 vs e'
    rw [h1] at this; cases this
    subst y1
    exact ⟨_, w.F, List.getElem?_eq_getElem hi, Go.refl g.sr, h2.mono g.le⟩
  stop := fun w g => ⟨vs, g.sr.le.sqT (g.le.sqT e), by rw [r.length]; exact Nat.le_refl _⟩
theorem it_str {w0 : Wd} {z : Str} : ItOk C (Its z) (z.cps.toList.map fun c => D.str ⟨#[c]⟩) w0 where
  go := fun i w hi g => by
    have hi' : i < z.cps.size := by simpa using hi
    refine ⟨hi', fun x H' ⟨y1, c, y2, y3⟩ => ?_⟩
    subst y1
    refine ⟨.str ⟨#[c]⟩, w.F, ?_, Go.refl g.sr, by rw [y3]; exact .str _⟩
    rw [List.getElem?_map, Array.getElem?_toList, y2]; rfl
  stop := fun w g => by
    show z.cps.size ≤ _
    simp
theorem it_rng {w0 : Wd} {lo : Int} {n : Nat} : ItOk C (Itr lo n) ((List.range n).map fun (i : Nat) => D.int (lo + (i : Int))) w0 where
  go := fun i w hi g => by
    have hi' : i < n := by simpa using hi
    refine ⟨hi', fun x H' ⟨y1, y2⟩ => ?_⟩
    subst y1
    refine ⟨.int (lo + (i : Int)), w.F, ?_, Go.refl g.sr, by rw [y2]; exact .int _⟩
    rw [List.getElem?_map, List.getElem?_range hi']; rfl
  stop := fun w g => by
    show n ≤ _
    simp
/-- the pairs that enumerate gives -/
def pairs (i : Nat) : List D → List D
  | [] => []
  | d :: r => .tup [.int (i : Int), d] :: pairs (i + 1) r
theorem pairs_len : ∀ (ds : List D) (i : Nat), (pairs i ds).length = ds.length
  | [], _ => rfl
  | _ :: r, i => by simp [pairs, pairs_len r]
theorem pairs_get : ∀ {ds : List D} {i j : Nat} {d : D}, ds[j]? = some d → (pairs i ds)[j]? = some (.tup [.int ((i + j : Nat) : Int), d])
  | [], _, _, _, h => by simp at h
  | d0 :: r, i, 0, d, h => by simp at h; subst h; simp [pairs]
  | d0 :: r, i, j + 1, d, h => by
    have := pairs_get (i := i + 1) (j := j) (d := d) (ds := r) (by simpa using h)
    simp only [pairs, List.getElem?_cons_succ, this]
    rw [show i + 1 + j = i + (j + 1) by omega]
theorem it_enum {w0 : Wd} {a : Addr} {vs : List V} {ds : List D} (e : w0.F a = some (.lst vs)) (r : RepL C w0.F ds vs) : ItOk C (Ite C.K a) (pairs 0 ds) w0 where
  go := fun i w hi g => by
    have hi' : i < ds.length := by rw [← pairs_len ds 0]; exact hi
    have e' : w.H a = some (.lst vs) := g.sr.le.ins _ _ rfl (g.le.ins _ _ rfl e)
    obtain ⟨v, h1, h2⟩ := r.get (List.getElem?_eq_getElem hi')
    refine ⟨⟨vs, v, .of e', h1⟩, fun x H' ⟨p, y, y1, y2, y3, y4⟩ => ?_⟩
    have := y4 vs (.of e')
    rw [h1] at this; cases this
    subst y1 y3
    have gg := g.sr.newBoth (o := .tup [.int (i : Nat), v]) y2
    refine ⟨_, _, pairs_get (i := 0) (List.getElem?_eq_getElem hi'), gg, ?_⟩
    rw [Nat.zero_add]
    exact .tup (.of upd_same) (.cons (.int _) (.cons ((h2.mono g.le).mono gg.le) .nil))
  stop := fun w g => ⟨vs, .of (g.sr.le.ins _ _ rfl (g.le.ins _ _ rfl e)), by rw [r.length, pairs_len]; exact Nat.le_refl _⟩

theorem it_enumT {w0 : Wd} {a : Addr} {vs : List V} {ds : List D} (e : SqT C.K w0.F a vs) (r : RepL C w0.F ds vs) : ItOk C (IteT C.K a) (pairs 0 ds) w0 where
  go := fun i w hi g => by
    have hi' : i < ds.length := by rw [← pairs_len ds 0]; exact hi
    have e' : SqT C.K w.H a vs := g.sr.le.sqT (g.le.sqT e)
    obtain ⟨v, h1, h2⟩ := r.get (List.getElem?_eq_getElem hi')
    refine ⟨⟨vs, v, e', h1⟩, fun x H' ⟨p, y, y1, y2, y3, y4⟩ => ?_⟩
    have := y4 vs e'
    rw [h1] at this; cases this
    subst y1 y3
    have gg := g.sr.newBoth (o := .tup [.int (i : Nat), v]) y2
    refine ⟨_, _, pairs_get (i := 0) (List.getElem?_eq_getElem hi'), gg, ?_⟩
    rw [Nat.zero_add]
    exact .tup (.of upd_same) (.cons (.int _) (.cons ((h2.mono g.le).mono gg.le) .nil))
  stop := fun w g => ⟨vs, g.sr.le.sqT (g.le.sqT e), by rw [r.length, pairs_len]; exact Nat.le_refl _⟩

/-! ### a dict, by its keys -/
/-- a dict of the frozen part is locked -/
theorem SR.lock {w : Wd} (s : SR C w) {d : Addr} {kvs : List (Key × V)} {od : Obj} (h : w.H d = some (.dK kvs)) (f : w.F d ≠ none) : Go C w ⟨w.F, upd w.H d (.frz od (.dK kvs)), w.sg, w.en⟩ := by
  have le : Le w.F (upd w.H d (.frz od (.dK kvs))) := by
    refine ⟨fun a u r => ?_, fun a o p r => ?_⟩
    · by_cases e : a = d
      · subst e
        rcases s.le.rd a u r with q | ⟨o, q⟩
        · rw [h] at q; cases q; exact .inr ⟨od, upd_same⟩
        · rw [h] at q; cases q
      · rcases s.le.rd a u r with q | ⟨o, q⟩
        · exact .inl (by rw [upd_ne e]; exact q)
        · exact .inr ⟨o, by rw [upd_ne e]; exact q⟩
    · have q := s.le.ins a o p r
      by_cases e : a = d
      · subst e; rw [h] at q; cases q; cases p
      · rw [upd_ne e]; exact q
  refine ⟨⟨le, s.len, s.val, fun i k d' q => ?_, s.sep⟩, Le.refl _, fun x q => .inl q, fun x o q n => ?_, fun x q => .inl q, fun x q => ?_, fun i d' q => ⟨⟨d', q⟩, rfl⟩, rfl⟩
  · obtain ⟨a, q1, q2, q3⟩ := s.own i k d' q
    have ne : a ≠ d := fun e => f (by rw [← e]; exact q2)
    exact ⟨a, q1, q2, q3.keep (Le.refl _) (upd_ne ne)⟩
  · by_cases e : x = d
    · subst e
      rw [h] at q; cases q
      exact .inr ⟨f, kvs, od, rfl, upd_same⟩
    · exact .inl (by show upd w.H d _ x = _; rw [upd_ne e]; exact q)
  · show upd w.H d _ x ≠ none
    by_cases e : x = d
    · rw [e, upd_same]; exact fun z => nomatch z
    · rw [upd_ne e]; exact q
theorem RepK.getK {F : Hp} : ∀ {ds : List (Key × D)} {vs : List (Key × V)} {i : Nat} {k : Key} {v : V}, RepK C F ds vs → vs[i]? = some (k, v) → (ds.map fun p => keyOf p.1)[i]? = some (keyOf k)
  | _, _, i, k, v, r, e => by
    obtain ⟨d, h, _⟩ := r.getV e
    rw [List.getElem?_map, h]; rfl
theorem it_keys {w0 : Wd} {d : Addr} {od : Obj} {kvs : List (Key × V)} {ds : List (Key × D)} (e : w0.H d = some (.frz od (.dK kvs))) (f : w0.F d ≠ none) (s0 : SR C w0) (r : RepK C w0.F ds kvs) : ItOk C (Itk d od kvs) (ds.map fun p => keyOf p.1) w0 := by
  have ln : kvs.length = (ds.map fun p => keyOf p.1).length := by rw [List.length_map]; exact r.length
  have hd : ∀ w, Go C w0 w → w.H d = some (.frz od (.dK kvs)) := fun w g => (g.kp d _ e fun z => f (s0.owF z).1).eqN fun _ z => nomatch z
  refine ⟨fun i w hi g => ⟨⟨hd w g, by rw [ln]; exact hi⟩, fun x H' ⟨y1, k, v, y2, y3⟩ => ?_⟩, fun w g => ⟨hd w g, by rw [ln]; exact Nat.le_refl _⟩⟩
  subst y1 y3
  exact ⟨_, w.F, r.getK y2, Go.refl g.sr, keyOf_rep _ k⟩
def iKeysL (td : TE) : TI := fun σ H R => td σ H fun x H1 => ∃ d kvs, x = .ref d ∧ ((H1 d = some (.dK kvs) ∧ ∀ od, R (Itk d od kvs) (upd H1 d (.frz od (.dK kvs)))) ∨ ∃ od, H1 d = some (.frz od (.dK kvs)) ∧ R (Itk d od kvs) H1)
theorem pi_keysL {e : Expr} {td : TE} (he : PE X e td) : PI X tg e (iKeysL td) := by
  refine ⟨fun pins s σ H R I h => ?_⟩
  refine thn (he.run pins s σ H _ I h) fun u s1 ⟨x, H1, I1, rx, d, kvs, ex, q⟩ => ?_
  subst ex
  obtain rfl : u = Value.ref d := rx
  have fin : ∀ {H2 : Hp} {o : Obj}, Inv X pins σ H2 s1 → H2 d = some (.frz o (.dK kvs)) → R (Itk d o kvs) H2 → wpAny (model X.prog X.w) X.A (pyIter (.ref d)) (PIE X pins σ tg R) X.xe s1 := fun {H2 o} I2 hd q => by
    obtain ⟨hs, hgd, hx, es, ep, vs, hdt, hsz, kv, hm⟩ := I2.frzK hd
    refine iter_keys hs hgd hx hdt (pi_one (tk := s1.toks) I2 _ (turn_keys _ hdt) ⟨_, Heap.get?_push_size _ rfl, rfl, ?_⟩ q)
    rw [hsz] <;> rfl
  rcases q with ⟨hd, q⟩ | ⟨od, hd, q⟩
  · obtain ⟨od, I2⟩ := I1.lock hd trivial
    exact fin I2 upd_same (q od)
  · exact fin I1 hd q

/-! the walks, by what the expression gives (frozen) -/
@[simp] def seqD : D → Option (List D)
  | .lst xs => some xs
  | .tup xs => some xs
  | .str z => some (z.cps.toList.map fun c => D.str ⟨#[c]⟩)
  | .dic kvs => some (kvs.map fun p => keyOf p.1)
  | _ => none
@[simp] def it1 (q : D → Option (List D)) (f : Fe) : Fi := fun ρ => (frzE f ρ).bind fun op ρ1 => match op with
  | .v d => (match q d with
    | some items => .ok items ρ1
    | none => .bad)
  | _ => .bad
theorem it1_imp {q : D → Option (List D)} {R : It → Hp → Prop} {P : V → Hp → Prop} (k : ∀ (F H : Hp) (σ : L2.St) (ρ : Env) (d : D) (v : V) (items : List D), SR C ⟨F, H, σ, ρ⟩ → Rep C F d v → q d = some items → (∀ J, ItOks C J items F H → R J H) → P v H) :
    ∀ σ H, tI C W (it1 q f) σ H R → tE C W (frzE f) σ H P := fun σ H ⟨F, ρ, s, h⟩ => ⟨F, ρ, s, Kw.bind h fun x ρ1 F1 H1 e1 g1 h1 v rv => by
    split at h1
    · rename_i d
      split at h1
      · rename_i items hq
        exact k F1 H1 σ ρ1 d v items g1.sr rv hq (h1 F1 H1 (Go.refl g1.sr))
      · exact h1.elim
    · exact h1.elim⟩
theorem pi_seq {e : Expr} (hk : C.K = X.K) (he : PE X e (tE C W f)) : PI X tg e (tI C W (it1 seqD f)) := by
  have h1 := pi_list (tg := tg) (pe_frz he)
  have h2 := pi_tup (tg := tg) (pe_frz he)
  have h3 := pi_str (tg := tg) (pe_frz he)
  have h4 := pi_keysL (tg := tg) (pe_frz he)
  refine PIimp (PIor (PIor (PIor h1 h2) h3) h4) fun σ H R q => ?_
  obtain ⟨F, ρ, s, h⟩ := q
  -- by what the expression gives
  cases hf : frzE f ρ with
  | bad => unfold it1 at h; rw [hf] at h; exact h.elim
  | exc c fs ρ' =>
    refine .inl (.inl (.inl ⟨F, ρ, s, ?_⟩))
    unfold it1 at h
    rw [hf] at h ⊢
    exact h
  | ok op ρ1 =>
    have hq := h
    unfold it1 at hq
    rw [hf] at hq
    simp only [Res.bind] at hq
    split at hq
    · rename_i d
      cases d with
      | lst xs =>
        refine .inl (.inl (.inl ⟨F, ρ, s, ?_⟩))
        rw [hf]
        intro F1 H1 g1 v rv
        cases rv with
        | @lst a vs _ e1 r1 =>
          exact ⟨a, rfl, ⟨vs, by rw [← hk]; exact .of (g1.sr.le.ins _ _ rfl e1)⟩, by rw [← hk]; exact hq F1 H1 g1 _ fun w0 z1 z2 z3 => it_list (by rw [z1]; exact e1) (by rw [z1]; exact r1)⟩
      | tup xs =>
        refine .inl (.inl (.inr ⟨F, ρ, s, ?_⟩))
        rw [hf]
        intro F1 H1 g1 v rv
        cases rv with
        | @tup a vs _ e1 r1 =>
          exact ⟨a, rfl, ⟨vs, by rw [← hk]; exact g1.sr.le.sqT e1⟩, by rw [← hk]; exact hq F1 H1 g1 _ fun w0 z1 z2 z3 => it_tup (by rw [z1]; exact e1) (by rw [z1]; exact r1)⟩
      | str z =>
        refine .inl (.inr ⟨F, ρ, s, ?_⟩)
        rw [hf]
        intro F1 H1 g1 v rv
        cases rv
        exact ⟨z, rfl, hq F1 H1 g1 _ fun w0 z1 z2 z3 => it_str⟩
      | dic ds =>
        refine .inr ⟨F, ρ, s, ?_⟩
        rw [hf]
        intro F1 H1 g1 v rv
        cases rv with
        | @dic a kvs _ e1 r1 =>
          have fne : F1 a ≠ none := by
            intro z
            rcases e1 with e1 | ⟨o, e1⟩
            · have e1' : F1 a = _ := e1
              rw [z] at e1'; cases e1'
            · have e1' : F1 a = _ := e1
              rw [z] at e1'; cases e1'
          refine ⟨a, kvs, rfl, ?_⟩
          rcases g1.sr.le.rd _ _ e1 with e2 | ⟨od, e2⟩
          · refine .inl ⟨e2, fun od => ?_⟩
            have gl := g1.sr.lock (od := od) e2 fne
            exact hq F1 _ (g1.trans gl) _ fun w0 z1 z2 z3 => it_keys (by rw [z2]; exact upd_same) (by rw [z1]; exact fne) z3 (by rw [z1]; exact r1)
          · exact .inr ⟨od, e2, hq F1 H1 g1 _ fun w0 z1 z2 z3 => it_keys (by rw [z2]; exact e2) (by rw [z1]; exact fne) z3 (by rw [z1]; exact r1)⟩
      | _ => simp only [seqD] at hq; exact hq.elim
    · exact hq.elim
def rngD : D → Option (List D)
  | .int j => if -(2 ^ 62) ≤ j ∧ j < 2 ^ 62 then some ((List.range j.toNat).map fun (i : Nat) => D.int (0 + (i : Int))) else none
  | _ => none
theorem pi_rng {a : Expr} {p pos : Pos} (hg : Gl X "range") (hm : X.mg "range" = none) (ha : PE X a (tE C W f)) (hs : starEach [a] X.env = [(false, eval a X.env)]) : PI X tg (.Call (.Name "range" p) [a] [] pos) (tI C W (it1 rngD f)) :=
  PIimp (pi_range1 hg hm (pa_cons (pe_frz ha) pa_nil hs) hs) fun σ H R q => it1_imp (P := fun x H1 => tNil σ H1 fun xs H2 => ∃ j : Int, x :: xs = [.int j] ∧ -(2 ^ 62) ≤ j ∧ j < 2 ^ 62 ∧ R (Itr 0 j.toNat) H2) (fun F H σ ρ d v items s r hq hj => by
    unfold rngD at hq
    split at hq
    · split at hq
      · rename_i hz
        cases hq
        cases r
        exact ⟨_, rfl, hz.1, hz.2, hj _ fun w0 z1 z2 z3 => it_rng⟩
      · cases hq
    · cases hq) σ H q
@[simp] def enumD : D → Option (List D)
  | .lst xs => some (pairs 0 xs)
  | .tup xs => some (pairs 0 xs)
  | _ => none
theorem pi_en {e : Expr} {p pos tpos : Pos} {elts : List Expr} {kk : Nat} (hk : C.K = X.K) (hg : Gl X "enumerate") (hm : X.mg "enumerate" = none) (ha : PE X e (tE C W f)) (hs : starEach [e] X.env = [(false, eval e X.env)]) :
    PI X (.Tuple elts kk tpos) (.Call (.Name "enumerate" p) [e] [] pos) (tI C W (it1 enumD f)) := by
  have hp := pi_enum (elts := elts) (kk := kk) (tpos := tpos) (p := p) (pos := pos) hg hm (pa_cons (pe_frz ha) pa_nil hs) hs
  have hp2 := pi_enumT (elts := elts) (kk := kk) (tpos := tpos) (p := p) (pos := pos) hg hm (pa_cons (pe_frz ha) pa_nil hs) hs
  rw [← hk] at hp hp2
  refine PIimp (PIor hp hp2) fun σ H R q => ?_
  obtain ⟨F, ρ, s, h⟩ := q
  cases hf : frzE f ρ with
  | bad => unfold it1 at h; rw [hf] at h; exact h.elim
  | exc c fs ρ' =>
    refine .inl ⟨F, ρ, s, ?_⟩
    unfold it1 at h
    rw [hf] at h ⊢
    exact h
  | ok op ρ1 =>
    have hq := h
    unfold it1 at hq
    rw [hf] at hq
    simp only [Res.bind] at hq
    split at hq
    · rename_i d
      cases d with
      | lst xs =>
        refine .inl ⟨F, ρ, s, ?_⟩
        rw [hf]
        intro F1 H1 g1 v rv
        cases rv with
        | @lst a vs _ e1 r1 =>
          exact ⟨a, vs, rfl, .of (g1.sr.le.ins _ _ rfl e1), hq F1 H1 g1 _ fun w0 z1 z2 z3 => it_enum (by rw [z1]; exact e1) (by rw [z1]; exact r1)⟩
      | tup xs =>
        refine .inr ⟨F, ρ, s, ?_⟩
        rw [hf]
        intro F1 H1 g1 v rv
        cases rv with
        | @tup a vs _ e1 r1 =>
          exact ⟨a, vs, rfl, g1.sr.le.sqT e1, hq F1 H1 g1 _ fun w0 z1 z2 z3 => it_enumT (by rw [z1]; exact e1) (by rw [z1]; exact r1)⟩
      | _ => simp only [enumD] at hq; exact hq.elim
    · exact hq.elim
end
end PyI
set_option maxHeartbeats 1000000
/-! PyI10: comprehensions. -/
namespace PyI
open PySem PySem.Spec PyProof.Rows L2

def wipeR (ρ : Env) : List Nat → Env
  | [] => ρ
  | v :: vs => (wipeR ρ vs).set v .no
def rst (ρ0 ρ1 : Env) : List Nat → Env
  | [] => ρ1
  | v :: vs => (rst ρ0 ρ1 vs).set v (ρ0[v]?.getD .no)
def notOwn : Option Slot → Bool
  | some (.own _ _) => false
  | some _ => true
  | none => false
def noOwn (ρ : Env) (vs : List Nat) : Bool := vs.all fun v => notOwn ρ[v]?
section
theorem wipeR_len (ρ : Env) : ∀ vs, (wipeR ρ vs).length = ρ.length
  | [] => rfl
  | v :: vs => by simp [wipeR, wipeR_len ρ vs]
theorem rst_len (ρ0 ρ1 : Env) : ∀ vs, (rst ρ0 ρ1 vs).length = ρ1.length
  | [] => rfl
  | v :: vs => by simp [rst, rst_len ρ0 ρ1 vs]
theorem wipeR_out {ρ : Env} {i : Nat} : ∀ {vs : List Nat}, i ∉ vs → (wipeR ρ vs)[i]? = ρ[i]?
  | [], _ => rfl
  | v :: vs, h => by
    have h' : i ≠ v ∧ i ∉ vs := by simpa using h
    simp only [wipeR]
    rw [List.getElem?_set_ne (Ne.symm h'.1), wipeR_out h'.2]
theorem wipeR_in {ρ : Env} {i : Nat} {s : Slot} : ∀ {vs : List Nat}, i ∈ vs → (wipeR ρ vs)[i]? = some s → s = .no
  | [], h, _ => by simp at h
  | v :: vs, h, e => by
    simp only [wipeR] at e
    rcases get_set_some e with ⟨_, z⟩ | ⟨z, q⟩
    · exact z
    · rcases List.mem_cons.mp h with y | y
      · exact absurd y z
      · exact wipeR_in y q
theorem rst_out {ρ0 ρ1 : Env} {i : Nat} : ∀ {vs : List Nat}, i ∉ vs → (rst ρ0 ρ1 vs)[i]? = ρ1[i]?
  | [], _ => rfl
  | v :: vs, h => by
    have h' : i ≠ v ∧ i ∉ vs := by simpa using h
    simp only [rst]
    rw [List.getElem?_set_ne (Ne.symm h'.1), rst_out h'.2]
theorem rst_in {ρ0 ρ1 : Env} {i : Nat} {s : Slot} : ∀ {vs : List Nat}, i ∈ vs → (rst ρ0 ρ1 vs)[i]? = some s → s = ρ0[i]?.getD .no
  | [], h, _ => by simp at h
  | v :: vs, h, e => by
    simp only [rst] at e
    rcases get_set_some e with ⟨z1, z⟩ | ⟨z, q⟩
    · rw [z, z1]
    · rcases List.mem_cons.mp h with y | y
      · exact absurd y z
      · exact rst_in y q
theorem noOwn_at {ρ : Env} {vs : List Nat} (h : noOwn ρ vs = true) {i : Nat} (m : i ∈ vs) : ∀ k d, ρ[i]? ≠ some (.own k d) := fun k d e => by
  have := List.all_eq_true.mp h i m
  rw [e] at this; cases this
theorem wipe_in {σ : L2.St} {i : Nat} {x : Option V} : ∀ {vs : List Nat}, i ∈ vs → (wipe σ vs)[i]? = some x → x = none
  | [], h, _ => by simp at h
  | v :: vs, h, e => by
    simp only [wipe] at e
    rcases get_set_some e with ⟨_, z⟩ | ⟨z, q⟩
    · exact z
    · rcases List.mem_cons.mp h with y | y
      · exact absurd y z
      · exact wipe_in y q
theorem wipe_but {l vs : List Nat} {σ σ' : L2.St} (b : But l (wipe σ vs) σ') (s : ∀ j ∈ l, j ∈ vs) : wipe σ' vs = wipe σ vs := by
  apply List.ext_getElem?
  intro j
  by_cases m : j ∈ vs
  · have l1 : (wipe σ' vs).length = (wipe σ vs).length := by rw [wipe_length, b.1]
    cases h1 : (wipe σ' vs)[j]? with
    | none =>
      have := List.getElem?_eq_none_iff.mp h1
      exact (List.getElem?_eq_none_iff.mpr (by omega)).symm
    | some x =>
      cases h2 : (wipe σ vs)[j]? with
      | none =>
        have := List.getElem?_eq_none_iff.mp h2
        have := (List.getElem?_eq_some_iff.mp h1).1
        omega
      | some y => rw [wipe_in m h1, wipe_in m h2]
  · rw [wipe_out m, b.2 j (fun z => m (s j z))]
end
section
variable {C : Ct}
/-- slots that own nothing are forgotten -/
theorem SR.wipe {w : Wd} (s : SR C w) {vs : List Nat} (n : noOwn w.en vs = true) : Go C w ⟨w.F, w.H, L2.wipe w.sg vs, wipeR w.en vs⟩ := by
  have old : ∀ (j : Nat) (sl : Slot), (wipeR w.en vs)[j]? = some sl → sl ≠ .no → j ∉ vs ∧ w.en[j]? = some sl := fun j sl q ne => by
    have m : j ∉ vs := fun z => ne (wipeR_in z q)
    exact ⟨m, by rw [← wipeR_out m]; exact q⟩
  refine ⟨⟨s.le, by rw [wipe_length, wipeR_len]; exact s.len, fun j d q => ?_, fun j k d q => ?_, fun j j' k k' d e a q1 q2 q3 q4 => ?_⟩, Le.refl _, fun x q => .inl q, fun _ _ h _ => .inl h, fun x q => ?_, fun _ h => h, fun j d q => ?_, wipeR_len _ _⟩
  · obtain ⟨m, h⟩ := old j _ q (fun z => nomatch z)
    obtain ⟨v, h1, h2⟩ := s.val j d h
    exact ⟨v, by show (L2.wipe w.sg vs)[j]? = _; rw [wipe_out m]; exact h1, h2⟩
  · obtain ⟨m, h⟩ := old j _ q (fun z => nomatch z)
    obtain ⟨a, h1, h2, h3⟩ := s.own j k d h
    exact ⟨a, by show (L2.wipe w.sg vs)[j]? = _; rw [wipe_out m]; exact h1, h2, h3⟩
  · obtain ⟨m1, h1⟩ := old j _ q1 (fun z => nomatch z)
    obtain ⟨m2, h2⟩ := old j' _ q2 (fun z => nomatch z)
    have q3' : (L2.wipe w.sg vs)[j]? = some (some (.ref a)) := q3
    have q4' : (L2.wipe w.sg vs)[j']? = some (some (.ref a)) := q4
    rw [wipe_out m1] at q3'
    rw [wipe_out m2] at q4'
    exact s.sep j j' k k' d e a h1 h2 q3' q4'
  · obtain ⟨j, k, d, q1, q2⟩ := q
    obtain ⟨m1, h1⟩ := old j _ q1 (fun z => nomatch z)
    have q2' : (L2.wipe w.sg vs)[j]? = some (some (.ref x)) := q2
    rw [wipe_out m1] at q2'
    exact .inl ⟨j, k, d, h1, q2'⟩
  · have m : j ∉ vs := fun z => noOwn_at n z _ _ q
    exact ⟨⟨d, by show (wipeR w.en vs)[j]? = _; rw [wipeR_out m]; exact q⟩, wipe_out m⟩
/-- and known again behind the block -/
theorem Go.unwipe {w : Wd} (s : SR C w) {vs : List Nat} (n : noOwn w.en vs = true) {F' H' : Hp} {ρ' : Env} (g : Go C ⟨w.F, w.H, L2.wipe w.sg vs, wipeR w.en vs⟩ ⟨F', H', L2.wipe w.sg vs, ρ'⟩) : Go C w ⟨F', H', w.sg, rst w.en ρ' vs⟩ := by
  have g0 := s.wipe n
  have owb : ∀ x, Ow ⟨w.F, w.H, L2.wipe w.sg vs, wipeR w.en vs⟩ x → Ow w x := fun x ⟨j, k, d, q1, q2⟩ => by
    have m : j ∉ vs := fun z => nomatch (wipeR_in z q1)
    have q1' : (wipeR w.en vs)[j]? = some (.own k d) := q1
    have q2' : (L2.wipe w.sg vs)[j]? = some (some (.ref x)) := q2
    rw [wipeR_out m] at q1'
    rw [wipe_out m] at q2'
    exact ⟨j, k, d, q1', q2'⟩
  have owf : ∀ x, Ow w x → Ow ⟨w.F, w.H, L2.wipe w.sg vs, wipeR w.en vs⟩ x := fun x ⟨j, k, d, q1, q2⟩ => by
    have m : j ∉ vs := fun z => noOwn_at n z _ _ q1
    exact ⟨j, k, d, by show (wipeR w.en vs)[j]? = _; rw [wipeR_out m]; exact q1, by show (L2.wipe w.sg vs)[j]? = _; rw [wipe_out m]; exact q2⟩
  -- a slot of the end
  have old : ∀ (j : Nat) (sl : Slot), (rst w.en ρ' vs)[j]? = some sl → (j ∈ vs ∧ sl = w.en[j]?.getD .no) ∨ (j ∉ vs ∧ ρ'[j]? = some sl) := fun j sl q => by
    by_cases m : j ∈ vs
    · exact .inl ⟨m, rst_in m q⟩
    · exact .inr ⟨m, by rw [← rst_out m]; exact q⟩
  have oldv : ∀ (j : Nat), j ∈ vs → ∀ k d, w.en[j]?.getD .no ≠ .own k d := fun j m k d e => by
    cases h : w.en[j]? with
    | none => rw [h] at e; cases e
    | some sl => rw [h] at e; simp at e; subst e; exact noOwn_at n m _ _ h
  have oldo : ∀ (j : Nat) (k : Bool) (d : D), (rst w.en ρ' vs)[j]? = some (.own k d) → j ∉ vs ∧ ρ'[j]? = some (.own k d) := fun j k d q => by
    rcases old j _ q with ⟨m, e⟩ | h
    · exact absurd e.symm (oldv j m k d)
    · exact h
  have sg : ∀ {j : Nat} {y : Option V}, j ∉ vs → (L2.wipe w.sg vs)[j]? = some y → w.sg[j]? = some y := fun m e => by rw [wipe_out m] at e; exact e
  have gl : ρ'.length = w.en.length := by rw [g.ln]; exact wipeR_len _ _
  refine ⟨⟨g.sr.le, by rw [rst_len, gl]; exact s.len, fun j d q => ?_, fun j k d q => ?_, fun j j' k k' d e a q1 q2 q3 q4 => ?_⟩, g.le, fun x q => ?_, fun x o q1 q2 => ?_, fun x q => ?_, g.nv, fun j d q => ?_, by rw [rst_len, gl]⟩
  · rcases old j _ q with ⟨m, e⟩ | ⟨m, h⟩
    · cases h : w.en[j]? with
      | none => rw [h] at e; cases e
      | some sl =>
        rw [h] at e
        simp at e
        subst e
        obtain ⟨v, h1, h2⟩ := s.val j d h
        exact ⟨v, h1, h2.mono g.le⟩
    · obtain ⟨v, h1, h2⟩ := g.sr.val j d h
      exact ⟨v, sg m h1, h2⟩
  · obtain ⟨m, h⟩ := oldo j k d q
    obtain ⟨a, h1, h2, h3⟩ := g.sr.own j k d h
    exact ⟨a, sg m h1, h2, h3⟩
  · obtain ⟨m1, h1⟩ := oldo j k d q1
    obtain ⟨m2, h2⟩ := oldo j' k' e q2
    have q3' : w.sg[j]? = some (some (.ref a)) := q3
    have q4' : w.sg[j']? = some (some (.ref a)) := q4
    exact g.sr.sep j j' k k' d e a h1 h2 (by show (L2.wipe w.sg vs)[j]? = _; rw [wipe_out m1]; exact q3') (by show (L2.wipe w.sg vs)[j']? = _; rw [wipe_out m2]; exact q4')
  · rcases g.fr x q with y | y | y
    · exact .inl y
    · exact .inr (.inl y)
    · exact .inr (.inr (owb x y))
  · exact g.kp x o q1 fun z => q2 (owb x z)
  · obtain ⟨j, k, d, q1, q2⟩ := q
    obtain ⟨m, h⟩ := oldo j k d q1
    have q2' : w.sg[j]? = some (some (.ref x)) := q2
    rcases g.ow x ⟨j, k, d, h, by show (L2.wipe w.sg vs)[j]? = _; rw [wipe_out m]; exact q2'⟩ with y | y
    · exact .inl (owb x y)
    · exact .inr y
  · have m : j ∉ vs := fun z => noOwn_at n z _ _ q
    obtain ⟨⟨d', h1⟩, h2⟩ := g.kt j d (by show (wipeR w.en vs)[j]? = _; rw [wipeR_out m]; exact q)
    exact ⟨⟨d', by show (rst w.en ρ' vs)[j]? = _; rw [rst_out m]; exact h1⟩, rfl⟩
/-- an object that is nobody's as yet changes -/
theorem Go.chg {a b : Wd} (g : Go C a b) {x : Addr} {o : HO} (h0 : a.H x = none) (hf : b.F x = none) (ho : ¬ Ow b x) : Go C a ⟨b.F, upd b.H x o, b.sg, b.en⟩ := by
  refine ⟨⟨g.sr.le.chg hf, g.sr.len, g.sr.val, fun i k d q => ?_, g.sr.sep⟩, g.le, g.fr, fun y u q1 q2 => ?_, g.ow, fun y q => ?_, g.kt, g.ln⟩
  · obtain ⟨y, q1, q2, q3⟩ := g.sr.own i k d q
    have ne : y ≠ x := fun e => ho ⟨i, k, d, q, by rw [← e]; exact q1⟩
    exact ⟨y, q1, q2, q3.keep (Le.refl _) (upd_ne ne)⟩
  · have ne := ne_of_none q1 h0
    rcases g.kp y u q1 q2 with q | ⟨f, kvs, od, e, q⟩
    · left; show upd b.H x o y = _; rw [upd_ne ne]; exact q
    · exact .inr ⟨f, kvs, od, e, by show upd b.H x o y = _; rw [upd_ne ne]; exact q⟩
  · show upd b.H x o y ≠ none
    by_cases e : y = x
    · rw [e, upd_same]; exact fun z => nomatch z
    · rw [upd_ne e]; exact g.nv y q
end

/-! ### [e for t in it if c] -/
theorem nn_of {α : Type} {o : Option α} {a : α} (h : o = some a) : o ≠ none := by rw [h]; exact fun z => nomatch z
abbrev WF : WX := fun _ _ _ _ => False
def lcL (vs : List Nat) (t : T) (c : Ft) (e : Fe) : List D → List D → Env → Res (List D)
  | [], acc, ρ => .ok acc ρ
  | d :: ds, acc, ρ => match asgT t d ρ with
    | none => .bad
    | some ρ1 => (match c ρ1 with
      | .ok true ρ2 => (match e ρ2 with
        | .ok (.v d') ρ3 => if noOwn ρ3 vs = true then lcL vs t c e ds (acc ++ [d']) (wipeR ρ3 vs) else .bad
        | _ => .bad)
      | .ok false ρ2 => if noOwn ρ2 vs = true then lcL vs t c e ds acc (wipeR ρ2 vs) else .bad
      | _ => .bad)
def lcE (vs : List Nat) (t : T) (fi : Fi) (c : Ft) (e : Fe) : Fe := fun ρ => (fi ρ).bind fun items ρ1 => if noOwn ρ1 vs = true ∧ items.length ≤ 100000 then (match lcL vs t c e items [] (wipeR ρ1 vs) with
  | .ok acc ρ2 => .ok (.f (.lst acc)) (rst ρ1 ρ2 vs)
  | _ => .bad) else .bad
section
variable {C : Ct} {W : WX}
theorem lc_imp {vs : List Nat} {t : T} {fi : Fi} {c : Ft} {e : Fe} (ht : ∀ j ∈ slotsT t, j ∈ vs) : ∀ σ H Q, tE C W (lcE vs t fi c e) σ H Q → tLc (tI C W fi) (tG C t) (tT C WF c) (tE C WF e) vs σ H Q := by
  intro σ H Q ⟨F, ρ, s, h⟩
  refine ⟨F, ρ, s, Kw.bind h fun items ρ1 F1 H1 e1 g1 h1 J hJ D hD => ?_⟩
  split at h1
  case isFalse => exact h1.elim
  case isTrue hz =>
  obtain ⟨nw, hlen⟩ := hz
  have gw := g1.sr.wipe nw
  have hJ' := hJ ⟨F1, H1, wipe σ vs, wipeR ρ1 vs⟩ rfl rfl gw.sr
  cases hR : lcL vs t c e items [] (wipeR ρ1 vs) with
  | bad => rw [hR] at h1; exact h1.elim
  | exc _ _ _ => rw [hR] at h1; exact h1.elim
  | ok accE ρE =>
  rw [hR] at h1
  refine ⟨fun i m H => m = items.length - i ∧ i ≤ items.length ∧ ∃ F ρ acc accV, Go C ⟨F1, H1, wipe σ vs, wipeR ρ1 vs⟩ ⟨F, H, wipe σ vs, ρ⟩ ∧ ¬ Ow ⟨F, H, wipe σ vs, ρ⟩ D ∧ H D = some (.lst accV) ∧ F D = none ∧ RepL C F acc accV ∧ acc.length ≤ i ∧
    lcL vs t c e (items.drop i) acc ρ = .ok accE ρE, ⟨_, rfl, Nat.zero_le _, F1, wipeR ρ1 vs, [], [], gw.sr.newHeap (o := .lst []) hD, fun z => (gw.sr.owF z).2 hD, upd_same, gw.sr.le.nn hD, .nil, Nat.le_refl _, by rw [List.drop_zero]; exact hR⟩, ?_⟩
  intro i m H2 ⟨hm, hi, F2, ρ2, acc, accV, g2, no2, hd2, hf2, r2, hl2, eq2⟩
  by_cases he : i = items.length
  · -- the end
    left
    subst he
    refine ⟨hJ'.stop _ g2, ?_⟩
    rw [List.drop_length] at eq2
    simp only [lcL, Res.ok.injEq] at eq2
    obtain ⟨rfl, rfl⟩ := eq2
    have gu := Go.unwipe g1.sr nw g2
    refine h1 F2 H2 gu (.ref D) ⟨D, rfl, g1.h0 hD, hf2, fun z => ?_, .lst hd2 r2⟩
    rcases gu.ow D z with y | y
    · exact (g1.sr.owF y).2 hD
    · obtain ⟨j, k, d, q1, q2⟩ := z
      have q1' : (rst ρ1 ρ2 vs)[j]? = some (.own k d) := q1
      by_cases m : j ∈ vs
      · have := rst_in m q1'
        cases hh : ρ1[j]? with
        | none => rw [hh] at this; cases this
        | some sl => rw [hh] at this; simp at this; subst this; exact noOwn_at nw m _ _ hh
      · rw [rst_out m] at q1'
        exact no2 ⟨j, k, d, q1', by show (wipe σ vs)[j]? = _; rw [wipe_out m]; exact q2⟩
  · right
    have hlt : i < items.length := by omega
    obtain ⟨q1, q2⟩ := hJ'.go i _ hlt g2
    refine ⟨q1, fun H' => ∃ m', m' < m ∧ m' = items.length - (i + 1) ∧ i + 1 ≤ items.length ∧ ∃ F ρ acc accV, Go C ⟨F1, H1, wipe σ vs, wipeR ρ1 vs⟩ ⟨F, H', wipe σ vs, ρ⟩ ∧ ¬ Ow ⟨F, H', wipe σ vs, ρ⟩ D ∧ H' D = some (.lst accV) ∧ F D = none ∧ RepL C F acc accV ∧ acc.length ≤ i + 1 ∧
      lcL vs t c e (items.drop (i + 1)) acc ρ = .ok accE ρE, fun H' ⟨m', z1, z2, z3, z4⟩ => ⟨m', z1, z2, z3, z4⟩, fun x H' hy => ?_⟩
    obtain ⟨d, F3, hd, g3, rx⟩ := q2 x H' hy
    rw [List.drop_eq_getElem_cons hlt] at eq2
    have hd' : items[i] = d := by rw [List.getElem?_eq_getElem hlt] at hd; exact Option.some.inj hd
    rw [hd'] at eq2
    simp only [lcL] at eq2
    cases ha : asgT t d ρ2 with
    | none => rw [ha] at eq2; cases eq2
    | some ρ3 =>
    rw [ha] at eq2
    simp only at eq2
    refine ⟨F3, ρ2, d, ρ3, g3.sr, rx, ha, fun σ4 g4 b4 => ?_⟩
    have hw4 : wipe σ4 vs = wipe σ vs := wipe_but b4 ht
    refine ⟨hw4, F3, ρ3, g4.sr, ?_⟩
    cases hc : c ρ3 with
    | bad => rw [hc] at eq2; cases eq2
    | exc _ _ _ => rw [hc] at eq2; cases eq2
    | ok b ρ4 =>
    rw [hc] at eq2
    intro F5 H5 g5
    have g25 := g3.trans (g4.trans g5)
    have hd5 : H5 D = some (.lst accV) := (g25.kp D _ hd2 no2).eqN fun _ z => nomatch z
    have hf5 : F5 D = none := g25.nF hf2 (nn_of hd2) no2
    have no5 : ¬ Ow ⟨F5, H5, σ4, ρ4⟩ D := g25.nO (nn_of hd2) no2
    cases b with
    | false =>
      simp only at eq2
      split at eq2
      case isFalse => cases eq2
      case isTrue n4 =>
      have gx := g5.sr.wipe n4
      have gall := g2.trans (g25.trans gx)
      have nox : ¬ Ow ⟨F5, H5, wipe σ4 vs, wipeR ρ4 vs⟩ D := gx.nO (nn_of hd5) no5
      rw [show (⟨F5, H5, wipe σ4 vs, wipeR ρ4 vs⟩ : Wd) = ⟨F5, H5, wipe σ vs, wipeR ρ4 vs⟩ by rw [hw4]] at gall nox
      show ∃ m', _
      exact ⟨_, by omega, rfl, by omega, F5, wipeR ρ4 vs, acc, accV, gall, nox, hd5, hf5, r2.mono (g25.le), by omega, eq2⟩
    | true =>
      simp only at eq2
      show tE C WF e σ4 H5 _
      refine ⟨F5, ρ4, g5.sr, ?_⟩
      cases hee : e ρ4 with
      | bad => rw [hee] at eq2; cases eq2
      | exc _ _ _ => rw [hee] at eq2; cases eq2
      | ok op ρ5 =>
      rw [hee] at eq2
      cases op with
      | f d' => cases eq2
      | s i => cases eq2
      | v d' =>
      simp only at eq2
      split at eq2
      case isFalse => cases eq2
      case isTrue n5 =>
      intro F6 H6 g6 v rv
      have hd6 : H6 D = some (.lst accV) := (g6.kp D _ hd5 no5).eqN fun _ z => nomatch z
      have hf6 : F6 D = none := g6.nF hf5 (nn_of hd5) no5
      have no6 : ¬ Ow ⟨F6, H6, σ4, ρ5⟩ D := g6.nO (nn_of hd5) no5
      have gx := g6.sr.wipe n5
      have gall := g2.trans (g25.trans (g6.trans gx))
      have nox : ¬ Ow ⟨F6, H6, wipe σ4 vs, wipeR ρ5 vs⟩ D := gx.nO (nn_of hd6) no6
      rw [show (⟨F6, H6, wipe σ4 vs, wipeR ρ5 vs⟩ : Wd) = ⟨F6, H6, wipe σ vs, wipeR ρ5 vs⟩ by rw [hw4]] at gall nox
      have gch := gall.chg (o := .lst (accV ++ [v])) hD hf6 nox
      have r6 : RepL C F6 acc accV := r2.mono (g25.le.trans g6.le)
      refine ⟨accV, hd6, by rw [r2.length]; unfold sizeLine; omega, _, by omega, rfl, by omega, F6, wipeR ρ5 vs, acc ++ [d'], accV ++ [v], gch, nox, upd_same, hf6, r6.append (.cons rv .nil), by simp; omega, eq2⟩
end
/-! ### {k: v for t in it if c} -/
def dcL (vs : List Nat) (t : T) (c : Ft) (ek e : Fe) : List D → List (Key × D) → Env → Res (List (Key × D))
  | [], acc, ρ => .ok acc ρ
  | d :: ds, acc, ρ => match asgT t d ρ with
    | none => .bad
    | some ρ1 => (match c ρ1 with
      | .ok true ρ2 => (match ek ρ2 with
        | .ok (.v kd) ρ6 => (match keyD kd with
          | some k => (match e ρ6 with
            | .ok (.v d') ρ3 => if noOwn ρ3 vs = true then dcL vs t c ek e ds (put acc k d') (wipeR ρ3 vs) else .bad
            | _ => .bad)
          | none => .bad)
        | _ => .bad)
      | .ok false ρ2 => if noOwn ρ2 vs = true then dcL vs t c ek e ds acc (wipeR ρ2 vs) else .bad
      | _ => .bad)
def dcE (vs : List Nat) (t : T) (fi : Fi) (c : Ft) (ek e : Fe) : Fe := fun ρ => (fi ρ).bind fun items ρ1 => if noOwn ρ1 vs = true ∧ items.length ≤ 100000 then (match dcL vs t c ek e items [] (wipeR ρ1 vs) with
  | .ok acc ρ2 => .ok (.f (.dic acc)) (rst ρ1 ρ2 vs)
  | _ => .bad) else .bad
section
variable {C : Ct} {W : WX}
theorem dc_imp {vs : List Nat} {t : T} {fi : Fi} {c : Ft} {ek e : Fe} (ht : ∀ j ∈ slotsT t, j ∈ vs) : ∀ σ H Q, tE C W (dcE vs t fi c ek e) σ H Q → tDc (tI C W fi) (tG C t) (tT C WF c) (tE C WF ek) (tE C WF e) vs σ H Q := by
  intro σ H Q ⟨F, ρ, s, h⟩
  refine ⟨F, ρ, s, Kw.bind h fun items ρ1 F1 H1 e1 g1 h1 J hJ D hD => ?_⟩
  split at h1
  case isFalse => exact h1.elim
  case isTrue hz =>
  obtain ⟨nw, hlen⟩ := hz
  have gw := g1.sr.wipe nw
  have hJ' := hJ ⟨F1, H1, wipe σ vs, wipeR ρ1 vs⟩ rfl rfl gw.sr
  cases hR : dcL vs t c ek e items [] (wipeR ρ1 vs) with
  | bad => rw [hR] at h1; exact h1.elim
  | exc _ _ _ => rw [hR] at h1; exact h1.elim
  | ok accE ρE =>
  rw [hR] at h1
  refine ⟨fun i m H => m = items.length - i ∧ i ≤ items.length ∧ ∃ F ρ acc accV, Go C ⟨F1, H1, wipe σ vs, wipeR ρ1 vs⟩ ⟨F, H, wipe σ vs, ρ⟩ ∧ ¬ Ow ⟨F, H, wipe σ vs, ρ⟩ D ∧ H D = some (.dK accV) ∧ F D = none ∧ RepK C F acc accV ∧ acc.length ≤ i ∧
    dcL vs t c ek e (items.drop i) acc ρ = .ok accE ρE, ⟨_, rfl, Nat.zero_le _, F1, wipeR ρ1 vs, [], [], gw.sr.newHeap (o := .dK []) hD, fun z => (gw.sr.owF z).2 hD, upd_same, gw.sr.le.nn hD, .nil, Nat.le_refl _, by rw [List.drop_zero]; exact hR⟩, ?_⟩
  intro i m H2 ⟨hm, hi, F2, ρ2, acc, accV, g2, no2, hd2, hf2, r2, hl2, eq2⟩
  by_cases he : i = items.length
  · -- the end
    left
    subst he
    refine ⟨hJ'.stop _ g2, ?_⟩
    rw [List.drop_length] at eq2
    simp only [dcL, Res.ok.injEq] at eq2
    obtain ⟨rfl, rfl⟩ := eq2
    have gu := Go.unwipe g1.sr nw g2
    refine h1 F2 H2 gu (.ref D) ⟨D, rfl, g1.h0 hD, hf2, fun z => ?_, .dic hd2 r2⟩
    rcases gu.ow D z with y | y
    · exact (g1.sr.owF y).2 hD
    · obtain ⟨j, k, d, q1, q2⟩ := z
      have q1' : (rst ρ1 ρ2 vs)[j]? = some (.own k d) := q1
      by_cases m : j ∈ vs
      · have := rst_in m q1'
        cases hh : ρ1[j]? with
        | none => rw [hh] at this; cases this
        | some sl => rw [hh] at this; simp at this; subst this; exact noOwn_at nw m _ _ hh
      · rw [rst_out m] at q1'
        exact no2 ⟨j, k, d, q1', by show (wipe σ vs)[j]? = _; rw [wipe_out m]; exact q2⟩
  · right
    have hlt : i < items.length := by omega
    obtain ⟨q1, q2⟩ := hJ'.go i _ hlt g2
    refine ⟨q1, fun H' => ∃ m', m' < m ∧ m' = items.length - (i + 1) ∧ i + 1 ≤ items.length ∧ ∃ F ρ acc accV, Go C ⟨F1, H1, wipe σ vs, wipeR ρ1 vs⟩ ⟨F, H', wipe σ vs, ρ⟩ ∧ ¬ Ow ⟨F, H', wipe σ vs, ρ⟩ D ∧ H' D = some (.dK accV) ∧ F D = none ∧ RepK C F acc accV ∧ acc.length ≤ i + 1 ∧
      dcL vs t c ek e (items.drop (i + 1)) acc ρ = .ok accE ρE, fun H' ⟨m', z1, z2, z3, z4⟩ => ⟨m', z1, z2, z3, z4⟩, fun x H' hy => ?_⟩
    obtain ⟨d, F3, hd, g3, rx⟩ := q2 x H' hy
    rw [List.drop_eq_getElem_cons hlt] at eq2
    have hd' : items[i] = d := by rw [List.getElem?_eq_getElem hlt] at hd; exact Option.some.inj hd
    rw [hd'] at eq2
    simp only [dcL] at eq2
    cases ha : asgT t d ρ2 with
    | none => rw [ha] at eq2; cases eq2
    | some ρ3 =>
    rw [ha] at eq2
    simp only at eq2
    refine ⟨F3, ρ2, d, ρ3, g3.sr, rx, ha, fun σ4 g4 b4 => ?_⟩
    have hw4 : wipe σ4 vs = wipe σ vs := wipe_but b4 ht
    refine ⟨hw4, F3, ρ3, g4.sr, ?_⟩
    cases hc : c ρ3 with
    | bad => rw [hc] at eq2; cases eq2
    | exc _ _ _ => rw [hc] at eq2; cases eq2
    | ok b ρ4 =>
    rw [hc] at eq2
    intro F5 H5 g5
    have g25 := g3.trans (g4.trans g5)
    have hf5 : F5 D = none := g25.nF hf2 (nn_of hd2) no2
    have hd5 : H5 D = some (.dK accV) := (g25.kp D _ hd2 no2).eqF hf5
    have no5 : ¬ Ow ⟨F5, H5, σ4, ρ4⟩ D := g25.nO (nn_of hd2) no2
    cases b with
    | false =>
      simp only at eq2
      split at eq2
      case isFalse => cases eq2
      case isTrue n4 =>
      have gx := g5.sr.wipe n4
      have gall := g2.trans (g25.trans gx)
      have nox : ¬ Ow ⟨F5, H5, wipe σ4 vs, wipeR ρ4 vs⟩ D := gx.nO (nn_of hd5) no5
      rw [show (⟨F5, H5, wipe σ4 vs, wipeR ρ4 vs⟩ : Wd) = ⟨F5, H5, wipe σ vs, wipeR ρ4 vs⟩ by rw [hw4]] at gall nox
      show ∃ m', _
      exact ⟨_, by omega, rfl, by omega, F5, wipeR ρ4 vs, acc, accV, gall, nox, hd5, hf5, r2.mono (g25.le), by omega, eq2⟩
    | true =>
      simp only at eq2
      show tE C WF ek σ4 H5 _
      refine ⟨F5, ρ4, g5.sr, ?_⟩
      cases hek : ek ρ4 with
      | bad => rw [hek] at eq2; cases eq2
      | exc _ _ _ => rw [hek] at eq2; cases eq2
      | ok op ρ6 =>
      rw [hek] at eq2
      cases op with
      | f d' => cases eq2
      | s i => cases eq2
      | v kd =>
      simp only at eq2
      cases hkd : keyD kd with
      | none => rw [hkd] at eq2; cases eq2
      | some k =>
      rw [hkd] at eq2
      simp only at eq2
      intro F7 H7 g7 y ry
      have hy := key_s hkd (ry.s g7.sr.le)
      have hf7 : F7 D = none := g7.nF hf5 (nn_of hd5) no5
      have hd7 : H7 D = some (.dK accV) := (g7.kp D _ hd5 no5).eqF hf7
      have no7 : ¬ Ow ⟨F7, H7, σ4, ρ6⟩ D := g7.nO (nn_of hd5) no5
      show tE C WF e σ4 H7 _
      refine ⟨F7, ρ6, g7.sr, ?_⟩
      cases hee : e ρ6 with
      | bad => rw [hee] at eq2; cases eq2
      | exc _ _ _ => rw [hee] at eq2; cases eq2
      | ok op ρ5 =>
      rw [hee] at eq2
      cases op with
      | f d' => cases eq2
      | s i => cases eq2
      | v d' =>
      simp only at eq2
      split at eq2
      case isFalse => cases eq2
      case isTrue n5 =>
      intro F6 H6 g6 v rv
      have hf6 : F6 D = none := g6.nF hf7 (nn_of hd7) no7
      have hd6 : H6 D = some (.dK accV) := (g6.kp D _ hd7 no7).eqF hf6
      have no6 : ¬ Ow ⟨F6, H6, σ4, ρ5⟩ D := g6.nO (nn_of hd7) no7
      have gx := g6.sr.wipe n5
      have gall := g2.trans (g25.trans (g7.trans (g6.trans gx)))
      have nox : ¬ Ow ⟨F6, H6, wipe σ4 vs, wipeR ρ5 vs⟩ D := gx.nO (nn_of hd6) no6
      rw [show (⟨F6, H6, wipe σ4 vs, wipeR ρ5 vs⟩ : Wd) = ⟨F6, H6, wipe σ vs, wipeR ρ5 vs⟩ by rw [hw4]] at gall nox
      have gch := gall.chg (o := .dK (putK accV k v)) hD hf6 nox
      have r6 : RepK C F6 acc accV := r2.mono (g25.le.trans (g7.le.trans g6.le))
      have pl : (PyI.put acc k d').length ≤ acc.length + 1 := by unfold PyI.put; split <;> simp
      refine ⟨accV, k, hy, hd6, by rw [r2.length]; unfold sizeLine; omega, _, by omega, rfl, by omega, F6, wipeR ρ5 vs, PyI.put acc k d', putK accV k v, gch, nox, upd_same, hf6, r6.put k rv, by omega, eq2⟩
end
end PyI
set_option maxHeartbeats 1000000
/-! PyI11: statements. -/
namespace PyI
open PySem PySem.Spec PyProof.Rows L2

inductive SRes where
  | nx (ρ : Env) | bk (ρ : Env) | ct (ρ : Env) | ret (op : Op) (ρ : Env) | exc (c : Str) (fs : List (Str × D)) (ρ : Env) | bad
  deriving Inhabited
abbrev Fs := Env → SRes
@[simp] def Res.bindS {α : Type} (r : Res α) (f : α → Env → SRes) : SRes := match r with
  | .ok a ρ => f a ρ
  | .exc c fs ρ => .exc c fs ρ
  | .bad => .bad
/-- what a return gives: from w to w' -/
def RepRet (C : Ct) (w w' : Wd) : Op → V → Prop
  | .v d, v => Rep C w'.F d v
  | .f d, v => ∃ x, v = .ref x ∧ (Ow w x ∨ w.H x = none) ∧ w'.F x = none ∧ ¬ Ow w' x ∧ Own C w'.F w'.H x d
  | .s _, _ => False
theorem RepRet.back {C : Ct} {a b c : Wd} (g : Go C a b) {op : Op} {v : V} (r : RepRet C b c op v) : RepRet C a c op v := by
  cases op with
  | v d => exact r
  | f d =>
    obtain ⟨x, h1, h2, h3⟩ := r
    refine ⟨x, h1, ?_, h3⟩
    rcases h2 with h2 | h2
    · exact g.ow x h2
    · exact .inr (g.h0 h2)
  | s i => exact r
def KwS (C : Ct) (W : WX) (w : Wd) (D : Ends) (r : SRes) : Prop := match r with
  | .nx ρ' => ∀ σ' F' H', Go C w ⟨F', H', σ', ρ'⟩ → D.nx σ' H'
  | .bk ρ' => ∀ σ' F' H', Go C w ⟨F', H', σ', ρ'⟩ → D.bk σ' H'
  | .ct ρ' => ∀ σ' F' H', Go C w ⟨F', H', σ', ρ'⟩ → D.ct σ' H'
  | .ret op ρ' => ∀ v σ' F' H', Go C w ⟨F', H', σ', ρ'⟩ → RepRet C w ⟨F', H', σ', ρ'⟩ op v → D.rt v H'
  | .exc c fs ρ' => ∀ cls d σ' F' H', Go C w ⟨F', H', σ', ρ'⟩ → ExcOf C c fs cls d F' H' → W cls d σ' H'
  | .bad => False
def tS (C : Ct) (W : WX) (f : Fs) : TS := fun D σ H => ∃ F ρ, SR C ⟨F, H, σ, ρ⟩ ∧ KwS C W ⟨F, H, σ, ρ⟩ D (f ρ)
section
variable {C : Ct} {W : WX} {w w1 : Wd} {D : Ends}
theorem KwS.shift {r : SRes} (g : Go C w w1) (h : KwS C W w D r) : KwS C W w1 D r := by
  cases r with
  | nx ρ' => exact fun σ' F' H' g' => h σ' F' H' (g.trans g')
  | bk ρ' => exact fun σ' F' H' g' => h σ' F' H' (g.trans g')
  | ct ρ' => exact fun σ' F' H' g' => h σ' F' H' (g.trans g')
  | ret op ρ' => exact fun v σ' F' H' g' r => h v σ' F' H' (g.trans g') (r.back g)
  | exc c fs ρ' => exact fun cls d σ' F' H' g' x => h cls d σ' F' H' (g.trans g') x
  | bad => exact h
theorem KwS.bind {α : Type} {R' : Wd → α → Prop} {r : Res α} {f : α → Env → SRes} (h : KwS C W w D (r.bindS f))
    (k : ∀ a ρ1 F1 H1, r = .ok a ρ1 → Go C w ⟨F1, H1, w.sg, ρ1⟩ → KwS C W w D (f a ρ1) → R' ⟨F1, H1, w.sg, ρ1⟩ a) : Kw C W w R' r := by
  cases r with
  | ok a ρ' => exact fun F' H' g => k a ρ' F' H' rfl g h
  | exc c fs ρ' => exact fun cls d F' H' g x => h cls d w.sg F' H' g x
  | bad => exact h
/-- other ends -/
theorem KwS.ends {D' : Ends} {r : SRes} (h : KwS C W w D r) (h1 : ∀ ρ' σ' F' H', r = .nx ρ' → Go C w ⟨F', H', σ', ρ'⟩ → D.nx σ' H' → D'.nx σ' H') (h2 : ∀ ρ' σ' F' H', r = .bk ρ' → Go C w ⟨F', H', σ', ρ'⟩ → D.bk σ' H' → D'.bk σ' H')
    (h3 : ∀ ρ' σ' F' H', r = .ct ρ' → Go C w ⟨F', H', σ', ρ'⟩ → D.ct σ' H' → D'.ct σ' H') (h4 : ∀ v H', D.rt v H' → D'.rt v H') : KwS C W w D' r := by
  cases r with
  | nx ρ' => exact fun σ' F' H' g' => h1 ρ' σ' F' H' rfl g' (h σ' F' H' g')
  | bk ρ' => exact fun σ' F' H' g' => h2 ρ' σ' F' H' rfl g' (h σ' F' H' g')
  | ct ρ' => exact fun σ' F' H' g' => h3 ρ' σ' F' H' rfl g' (h σ' F' H' g')
  | ret op ρ' => exact fun v σ' F' H' g' r => h4 v H' (h v σ' F' H' g' r)
  | exc c fs ρ' => exact h
  | bad => exact h
end

/-! ### slots -/
section
variable {C : Ct} {W : WX} {a b w : Wd}
/-- a slot takes an object that is new since a -/
theorem Go.setOwn (g : Go C a b) {i : Nat} {x : Addr} {d : D} (hi : i < b.en.length) (nk : ∀ d0, b.en[i]? ≠ some (.own true d0)) (h0 : a.H x = none) (hf : b.F x = none) (ho : ¬ Ow b x) (hn : Own C b.F b.H x d) :
    Go C a ⟨b.F, b.H, b.sg.set i (some (.ref x)), b.en.set i (.own false d)⟩ := by
  have s := g.sr
  have hσ : i < b.sg.length := by rw [s.len]; exact hi
  have old : ∀ (j : Nat) (k : Bool) (d' : D), (b.en.set i (.own false d))[j]? = some (.own k d') → (j = i ∧ d' = d) ∨ (j ≠ i ∧ b.en[j]? = some (.own k d')) := fun j k d' q => by
    rcases get_set_some q with ⟨z1, z⟩ | z
    · cases z; exact .inl ⟨z1, rfl⟩
    · exact .inr z
  have sg : ∀ {j : Nat}, j ≠ i → (b.sg.set i (some (V.ref x)))[j]? = b.sg[j]? := fun z => List.getElem?_set_ne (Ne.symm z)
  refine ⟨⟨s.le, by simpa using s.len, fun j d' q => ?_, fun j k d' q => ?_, fun j j' k k' d' e' y q1 q2 q3 q4 => ?_⟩, g.le, g.fr, g.kp, fun y q => ?_, g.nv, fun j d' q => ?_, by simpa using g.ln⟩
  · rcases get_set_some q with ⟨z1, z2⟩ | ⟨z1, z2⟩
    · cases z2
    · obtain ⟨u, h1, h2⟩ := s.val j d' z2
      exact ⟨u, (sg z1).trans h1, h2⟩
  · rcases old j k d' q with ⟨rfl, rfl⟩ | ⟨z1, z2⟩
    · exact ⟨x, List.getElem?_set_self hσ, hf, hn⟩
    · obtain ⟨y, h1, h2, h3⟩ := s.own j k d' z2
      exact ⟨y, (sg z1).trans h1, h2, h3⟩
  · have q3' : (b.sg.set i (some (V.ref x)))[j]? = some (some (.ref y)) := q3
    have q4' : (b.sg.set i (some (V.ref x)))[j']? = some (some (.ref y)) := q4
    rcases old j k d' q1 with ⟨rfl, rfl⟩ | ⟨z1, z2⟩
    · rcases old j' k' e' q2 with ⟨rfl, rfl⟩ | ⟨z3, z4⟩
      · rfl
      · rw [List.getElem?_set_self hσ] at q3'
        cases q3'
        rw [sg z3] at q4'
        exact absurd ⟨j', k', e', z4, q4'⟩ ho
    · rcases old j' k' e' q2 with ⟨rfl, rfl⟩ | ⟨z3, z4⟩
      · rw [List.getElem?_set_self hσ] at q4'
        cases q4'
        rw [sg z1] at q3'
        exact absurd ⟨j, k, d', z2, q3'⟩ ho
      · rw [sg z1] at q3'
        rw [sg z3] at q4'
        exact s.sep j j' k k' d' e' y z2 z4 q3' q4'
  · obtain ⟨j, k, d', q1, q2⟩ := q
    have q2' : (b.sg.set i (some (V.ref x)))[j]? = some (some (.ref y)) := q2
    rcases old j k d' q1 with ⟨rfl, rfl⟩ | ⟨z1, z2⟩
    · rw [List.getElem?_set_self hσ] at q2'
      cases q2'
      exact .inr h0
    · rw [sg z1] at q2'
      exact g.ow y ⟨j, k, d', z2, q2'⟩
  · obtain ⟨⟨d2, h1⟩, h2⟩ := g.kt j d' q
    have ne : j ≠ i := fun z => by subst z; exact nk d2 h1
    exact ⟨⟨d2, by show (b.en.set i (.own false d))[j]? = _; rw [List.getElem?_set_ne (Ne.symm ne)]; exact h1⟩, (sg ne).trans h2⟩
/-- a slot is forgotten -/
theorem SR.drop {i : Nat} (s : SR C w) (nk : ∀ d0, w.en[i]? ≠ some (.own true d0)) : Go C w ⟨w.F, w.H, w.sg, w.en.set i .no⟩ := by
  have old : ∀ (j : Nat) (sl : Slot), (w.en.set i .no)[j]? = some sl → sl ≠ .no → j ≠ i ∧ w.en[j]? = some sl := fun j sl q ne => by
    rcases get_set_some q with ⟨_, z⟩ | z
    · exact absurd z ne
    · exact z
  refine ⟨⟨s.le, by simpa using s.len, fun j d q => ?_, fun j k d q => ?_, fun j j' k k' d e a q1 q2 q3 q4 => ?_⟩, Le.refl _, fun x q => .inl q, fun _ _ h _ => .inl h, fun x q => ?_, fun _ h => h, fun j d q => ?_, by simp⟩
  · exact s.val j d (old j _ q (fun z => nomatch z)).2
  · exact s.own j k d (old j _ q (fun z => nomatch z)).2
  · exact s.sep j j' k k' d e a (old j _ q1 (fun z => nomatch z)).2 (old j' _ q2 (fun z => nomatch z)).2 q3 q4
  · obtain ⟨j, k, d, q1, q2⟩ := q
    exact .inl ⟨j, k, d, (old j _ q1 (fun z => nomatch z)).2, q2⟩
  · have ne : j ≠ i := fun z => by subst z; exact nk d q
    exact ⟨⟨d, by show (w.en.set i .no)[j]? = _; rw [List.getElem?_set_ne (Ne.symm ne)]; exact q⟩, rfl⟩
/-- the object of a slot is changed -/
theorem SR.putOwn (s : SR C w) {j : Nat} {k : Bool} {d d' : D} {x : Addr} {o : HO} (h : w.en[j]? = some (.own k d)) (hx : w.sg[j]? = some (some (.ref x))) (hn : Own C w.F (upd w.H x o) x d') : Go C w ⟨w.F, upd w.H x o, w.sg, w.en.set j (.own k d')⟩ := by
  obtain ⟨x', e1, e2, e3⟩ := s.own j k d h
  rw [hx] at e1; cases e1
  have hj : j < w.en.length := (List.getElem?_eq_some_iff.mp h).1
  have old : ∀ (i : Nat) (k' : Bool) (d2 : D), (w.en.set j (.own k d'))[i]? = some (.own k' d2) → (i = j ∧ k' = k ∧ d2 = d') ∨ (i ≠ j ∧ w.en[i]? = some (.own k' d2)) := fun i k' d2 q => by
    rcases get_set_some q with ⟨z1, z⟩ | z
    · cases z; exact .inl ⟨z1, rfl, rfl⟩
    · exact .inr z
  have old2 : ∀ (i : Nat) (k' : Bool) (d2 : D), (w.en.set j (.own k d'))[i]? = some (.own k' d2) → ∃ d3, w.en[i]? = some (.own k' d3) := fun i k' d2 q => by
    rcases old i k' d2 q with ⟨rfl, rfl, rfl⟩ | ⟨_, z⟩
    · exact ⟨_, h⟩
    · exact ⟨_, z⟩
  refine ⟨⟨s.le.chg e2, by simpa using s.len, fun i d2 q => ?_, fun i k' d2 q => ?_, fun i i' k' k2 d2 e' y q1 q2 q3 q4 => ?_⟩, Le.refl _, fun y q => .inl q, fun y u q n => ?_, fun y q => ?_, fun y q => ?_, fun i d2 q => ?_, by simp⟩
  · rcases get_set_some q with ⟨_, z⟩ | ⟨_, z⟩
    · cases z
    · exact s.val i d2 z
  · rcases old i k' d2 q with ⟨rfl, rfl, rfl⟩ | ⟨z1, z2⟩
    · exact ⟨x, hx, e2, hn⟩
    · obtain ⟨y, h1, h2, h3⟩ := s.own i k' d2 z2
      have ne : y ≠ x := fun e => z1 (s.sep i j k' k d2 d x z2 h (by rw [← e]; exact h1) hx)
      exact ⟨y, h1, h2, h3.keep (Le.refl _) (upd_ne ne)⟩
  · obtain ⟨d3, p1⟩ := old2 i k' d2 q1
    obtain ⟨d4, p2⟩ := old2 i' k2 e' q2
    exact s.sep i i' k' k2 d3 d4 y p1 p2 q3 q4
  · have ne : y ≠ x := fun e => n ⟨j, k, d, h, by rw [e]; exact hx⟩
    left; show upd w.H x o y = _; rw [upd_ne ne]; exact q
  · obtain ⟨i, k', d2, q1, q2⟩ := q
    obtain ⟨d3, p1⟩ := old2 i k' d2 q1
    exact .inl ⟨i, k', d3, p1, q2⟩
  · show upd w.H x o y ≠ none
    by_cases e : y = x
    · rw [e, upd_same]; exact fun z => nomatch z
    · rw [upd_ne e]; exact q
  · by_cases e : i = j
    · subst e
      have q' : w.en[i]? = some (.own true d2) := q
      rw [h] at q'
      cases q'
      exact ⟨⟨d', List.getElem?_set_self hj⟩, rfl⟩
    · exact ⟨⟨d2, by show (w.en.set j (.own k d'))[i]? = _; rw [List.getElem?_set_ne (Ne.symm e)]; exact q⟩, rfl⟩
end

/-! ### small statements -/
@[simp] def nextS : Fs := fun ρ => .nx ρ
@[simp] def breakS : Fs := fun ρ => .bk ρ
@[simp] def contS : Fs := fun ρ => .ct ρ
@[simp] def seqS (f g : Fs) : Fs := fun ρ => match f ρ with
  | .nx ρ1 => g ρ1
  | r => r
@[simp] def dropS (f : Fe) : Fs := fun ρ => (f ρ).bindS fun _ ρ1 => .nx ρ1
@[simp] def retOp (op : Op) (ρ : Env) : SRes := match op with
  | .v d => .ret (.v d) ρ
  | .f d => .ret (.f d) ρ
  | .s i => match ρ[i]? with
    | some (.own false d) => .ret (.f d) (ρ.set i .no)
    | some (.val d) => .ret (.v d) ρ
    | _ => .bad
@[simp] def retS (f : Fe) : Fs := fun ρ => (f ρ).bindS retOp
@[simp] def retNS : Fs := fun ρ => .ret (.v .non) ρ
@[simp] def ifS (t : Ft) (f g : Fs) : Fs := fun ρ => (t ρ).bindS fun b ρ1 => if b = true then f ρ1 else g ρ1
@[simp] def putS (i : Nat) (op : Op) (ρ : Env) : Option Env := match op with
  | .v d => setVal i d ρ
  | .f d => (match ρ[i]? with
    | some sl => if sl.keep = true then none else some (ρ.set i (.own false d))
    | none => none)
  | .s j => (match frz ρ (.s j) with
    | some (d, ρ2) => setVal i d ρ2
    | none => none)
@[simp] def setS (i : Nat) (f : Fe) : Fs := fun ρ => (f ρ).bindS fun op ρ1 => match putS i op ρ1 with
  | some ρ2 => .nx ρ2
  | none => .bad
@[simp] def asgS (t : T) (f : Fe) : Fs := fun ρ => (frzE f ρ).bindS fun op ρ1 => match op with
  | .v d => (match asgT t d ρ1 with
    | some ρ2 => .nx ρ2
    | none => .bad)
  | _ => .bad
section
variable {X : Cx} {C : Ct} {W : WX} {f g : Fe} {t : Ft} {p q : Fs} {pos : Pos} {st : Stmt} {rest : List Stmt} {e : Expr}
theorem ps_nx {st : Stmt} (h : PS X st tNext) : PS X st (tS C W nextS) := PSimp h fun D σ H ⟨F, ρ, s, h⟩ => h σ F H (Go.refl s)
theorem ps_br : PS X (.Break pos) (tS C W breakS) := PSimp L2.ps_break fun D σ H ⟨F, ρ, s, h⟩ => h σ F H (Go.refl s)
theorem ps_cont : PS X (.Continue pos) (tS C W contS) := PSimp L2.ps_continue fun D σ H ⟨F, ρ, s, h⟩ => h σ F H (Go.refl s)
theorem pss_n : PSs X [] (tS C W nextS) := PSsimp pss_nil fun D σ H ⟨F, ρ, s, h⟩ => h σ F H (Go.refl s)
theorem pss_c (h1 : PS X st (tS C W p)) (h2 : PSs X rest (tS C W q)) : PSs X (st :: rest) (tS C W (seqS p q)) :=
  PSsimp (pss_cons h1 h2) fun D σ H ⟨F, ρ, s, h⟩ => by
    refine ⟨F, ρ, s, ?_⟩
    unfold seqS at h
    cases hp : p ρ with
    | nx ρ1 =>
      rw [hp] at h
      exact fun σ' F' H' g => ⟨F', ρ1, g.sr, KwS.shift g h⟩
    | bk ρ1 => rw [hp] at h; exact h
    | ct ρ1 => rw [hp] at h; exact h
    | ret op ρ1 => rw [hp] at h; exact h
    | exc c fs ρ1 => rw [hp] at h; exact h
    | bad => rw [hp] at h; exact h
theorem ps_drop (he : PE X e (tE C W f)) (hs : swapsWith e none pos.line X.env = pure false) : PS X (.Expr e pos) (tS C W (dropS f)) :=
  PSimp (ps_expr he hs) fun D σ H ⟨F, ρ, s, h⟩ => ⟨F, ρ, s, KwS.bind h fun x ρ1 F1 H1 e1 g1 h1 v rv => h1 σ F1 H1 g1⟩
theorem ret_imp : ∀ D σ H, tS C W (retS f) D σ H → tRet (tE C W f) D σ H := fun D σ H ⟨F, ρ, s, h⟩ => ⟨F, ρ, s, KwS.bind h fun x ρ1 F1 H1 e1 g1 h1 v rv => by
  cases x with
  | v d => exact h1 v σ F1 H1 g1 rv
  | f d =>
    obtain ⟨x, rfl, z1, z2, z3, z4⟩ := rv
    exact h1 (.ref x) σ F1 H1 g1 ⟨x, rfl, .inr z1, z2, z3, z4⟩
  | s i =>
    have rv' : σ[i]? = some (some v) := rv
    simp only [retOp] at h1
    split at h1
    · rename_i d hi
      obtain ⟨x, e1', e2, e3⟩ := g1.sr.own i false d hi
      have e1'' : σ[i]? = some (some (.ref x)) := e1'
      rw [rv'] at e1''; cases e1''
      have gd := g1.sr.drop (i := i) (fun d0 z => by
        have z' : ρ1[i]? = some (.own true d0) := z
        rw [hi] at z'; cases z')
      refine h1 (.ref x) σ F1 H1 (g1.trans gd) ⟨x, rfl, g1.ow x ⟨i, false, d, hi, rv'⟩, e2, fun z => ?_, e3⟩
      obtain ⟨j, k, d', q1, q2⟩ := z
      rcases get_set_some q1 with ⟨_, y⟩ | ⟨y1, y2⟩
      · cases y
      · exact y1 (g1.sr.sep j i k false d' d x y2 hi q2 rv')
    · rename_i d hi
      obtain ⟨u, e1', e2⟩ := g1.sr.val i d hi
      have e1'' : σ[i]? = some (some u) := e1'
      rw [rv'] at e1''; cases e1''
      exact h1 v σ F1 H1 g1 e2
    · exact h1.elim⟩
theorem ps_rt (he : PE X e (tE C W f)) : PS X (.Return (some e) pos) (tS C W (retS f)) := PSimp (L2.ps_ret he) ret_imp
theorem ps_rtN : PS X (.Return none pos) (tS C W retNS) := PSimp L2.ps_retN fun D σ H ⟨F, ρ, s, h⟩ => h .non σ F H (Go.refl s) .non
theorem ps_ifs {c : Expr} {a b : List Stmt} (hc : PT X c (tT C W t)) (ha : PSs X a (tS C W p)) (hb : PSs X b (tS C W q)) : PS X (.If c a b pos) (tS C W (ifS t p q)) :=
  PSimp (L2.ps_if hc ha hb) fun D σ H ⟨F, ρ, s, h⟩ => ⟨F, ρ, s, KwS.bind h fun b ρ1 F1 H1 e1 g1 h1 => by
    cases b with
    | true => exact ⟨F1, ρ1, g1.sr, KwS.shift g1 h1⟩
    | false => exact ⟨F1, ρ1, g1.sr, KwS.shift g1 h1⟩⟩
theorem set_imp {i : Nat} : ∀ D σ H, tS C W (setS i f) D σ H → tAsg (tE C W f) (gName i) D σ H := fun D σ H ⟨F, ρ, s, h⟩ => ⟨F, ρ, s, KwS.bind h fun x ρ1 F1 H1 e1 g1 h1 v rv => by
  show D.nx (σ.set i (some v)) H1
  split at h1
  · rename_i ρ2 hp
    cases x with
    | v d =>
      have gs := g1.sr.setVal (i := i) (d := d) (v := v) (ρ' := ρ2) hp rv
      exact h1 _ F1 H1 (g1.trans gs)
    | f d =>
      obtain ⟨x, rfl, z1, z2, z3, z4⟩ := rv
      simp only [putS] at hp
      split at hp
      · rename_i sl hs
        split at hp
        · cases hp
        · rename_i hne
          cases hp
          exact h1 _ F1 H1 (g1.setOwn (List.getElem?_eq_some_iff.mp hs).1 (fun d0 z => by
            have z' : ρ1[i]? = some (.own true d0) := z
            rw [hs] at z'; cases z'; exact hne rfl) z1 z2 z3 z4)
      · cases hp
    | s j =>
      simp only [putS] at hp
      split at hp
      · rename_i d ρ3 hz
        obtain ⟨F', g2, r2⟩ := Go.frz g1 hz rv
        have gs := g2.sr.setVal (i := i) (d := d) (v := v) (ρ' := ρ2) hp r2
        exact h1 _ F' H1 (g2.trans gs)
      · cases hp
  · exact h1.elim⟩
theorem ps_sets {i : Nat} {x : Str} {pos' : Pos} (hN : X.N.Nodup) (hi : X.N[i]? = some x) (hx : Loc X.env.scope x) (he : PE X e (tE C W f)) (hs : swapsWith e (some (.Name x pos')) pos.line X.env = pure false) (hf : X.fn x = true ∨ X.env.scope.names.lookup x = some .local) :
    PS X (.Assign [.Name x pos'] e pos) (tS C W (setS i f)) := PSimp (ps_set hN hi hx he hs hf) set_imp
theorem ps_asgT {tg : Expr} {tt : T} (he : PE X e (tE C W f)) (hg : PG X tg (tG C tt)) (hs : swapsWithSole [tg] e pos.line X.env = pure false) (hw : swappedStores [tg] e X.env = pure none)
    (h1 : (assignEach [tg] X.env).map (·.2) = [assign tg X.env]) : PS X (.Assign [tg] e pos) (tS C W (asgS tt f)) :=
  PSimp (ps_asg (pe_frz he) hg hs hw h1) fun D σ H ⟨F, ρ, s, h⟩ => ⟨F, ρ, s, KwS.bind h fun x ρ1 F1 H1 e1 g1 h1 v rv => by
    split at h1
    · rename_i d
      split at h1
      · rename_i ρ2 ha
        exact ⟨F1, ρ1, d, ρ2, g1.sr, rv, ha, fun σ' g' b' => h1 σ' F1 H1 (g1.trans g')⟩
      · exact h1.elim
    · exact h1.elim⟩
end

/-! ### loops -/
def forL (t : T) (body : Fs) : List D → Env → SRes
  | [], ρ => .nx ρ
  | d :: ds, ρ => match asgT t d ρ with
    | none => .bad
    | some ρ1 => (match body ρ1 with
      | .nx ρ2 => forL t body ds ρ2
      | .ct ρ2 => forL t body ds ρ2
      | .bk ρ2 => .nx ρ2
      | .ret op ρ2 => .ret op ρ2
      | .exc c fs ρ2 => .exc c fs ρ2
      | .bad => .bad)
@[simp] def forS (t : T) (fi : Fi) (body : Fs) : Fs := fun ρ => (fi ρ).bindS fun items ρ1 => forL t body items ρ1
def whileL (t : Ft) (body : Fs) : Nat → Env → SRes
  | 0, _ => .bad
  | n + 1, ρ => (t ρ).bindS fun b ρ1 => if b = true then (match body ρ1 with
      | .nx ρ2 => whileL t body n ρ2
      | .ct ρ2 => whileL t body n ρ2
      | .bk ρ2 => .nx ρ2
      | .ret op ρ2 => .ret op ρ2
      | .exc c fs ρ2 => .exc c fs ρ2
      | .bad => .bad) else .nx ρ1
section
variable {X : Cx} {C : Ct} {W : WX} {fi : Fi} {t : Ft} {p : Fs} {pos : Pos}
theorem for_imp {tt : T} : ∀ D σ H, tS C W (forS tt fi p) D σ H → tFor (tI C W fi) (tG C tt) (tS C W p) D σ H := by
  intro D σ H ⟨F, ρ, s, h⟩
  refine ⟨F, ρ, s, KwS.bind h fun items ρ1 F1 H1 e1 g1 h1 J hJ => ?_⟩
  have hJ' := hJ ⟨F1, H1, σ, ρ1⟩ rfl rfl g1.sr
  refine ⟨fun i m σ2 H2 => m = items.length - i ∧ i ≤ items.length ∧ ∃ F2 ρ2, Go C ⟨F1, H1, σ, ρ1⟩ ⟨F2, H2, σ2, ρ2⟩ ∧ KwS C W ⟨F2, H2, σ2, ρ2⟩ D (forL tt p (items.drop i) ρ2), ⟨_, rfl, Nat.zero_le _, F1, ρ1, Go.refl g1.sr, KwS.shift g1 (by rw [List.drop_zero]; exact h1)⟩, ?_⟩
  intro i m σ2 H2 ⟨hm, hi, F2, ρ2, g2, h2⟩
  by_cases he : i = items.length
  · left
    subst he
    rw [List.drop_length] at h2
    exact ⟨hJ'.stop _ g2, h2 σ2 F2 H2 (Go.refl g2.sr)⟩
  · right
    have hlt : i < items.length := by omega
    obtain ⟨q1, q2⟩ := hJ'.go i _ hlt g2
    refine ⟨q1, fun σ3 H3 => ∃ m', m' < m ∧ m' = items.length - (i + 1) ∧ i + 1 ≤ items.length ∧ ∃ F3 ρ3, Go C ⟨F1, H1, σ, ρ1⟩ ⟨F3, H3, σ3, ρ3⟩ ∧ KwS C W ⟨F3, H3, σ3, ρ3⟩ D (forL tt p (items.drop (i + 1)) ρ3), fun σ' H' ⟨m', z1, z2, z3, z4⟩ => ⟨m', z1, z2, z3, z4⟩, fun x H' hy => ?_⟩
    obtain ⟨d, F3, hd, g3, rx⟩ := q2 x H' hy
    rw [List.drop_eq_getElem_cons hlt] at h2
    have hd' : items[i] = d := by rw [List.getElem?_eq_getElem hlt] at hd; exact Option.some.inj hd
    rw [hd'] at h2
    simp only [forL] at h2
    cases ha : asgT tt d ρ2 with
    | none => rw [ha] at h2; exact h2.elim
    | some ρ3 =>
    rw [ha] at h2
    simp only at h2
    refine ⟨F3, ρ2, d, ρ3, g3.sr, rx, ha, fun σ4 g4 b4 => ⟨F3, ρ3, g4.sr, ?_⟩⟩
    have g34 := g3.trans g4
    have h3 := KwS.shift g34 h2
    have fin : ∀ {ρ5 : Env} {σ5 : L2.St} {F5 H5 : Hp}, Go C ⟨F3, H', σ4, ρ3⟩ ⟨F5, H5, σ5, ρ5⟩ → KwS C W ⟨F3, H', σ4, ρ3⟩ D (forL tt p (items.drop (i + 1)) ρ5) →
        ∃ m', m' < m ∧ m' = items.length - (i + 1) ∧ i + 1 ≤ items.length ∧ ∃ F3 ρ3, Go C ⟨F1, H1, σ, ρ1⟩ ⟨F3, H5, σ5, ρ3⟩ ∧ KwS C W ⟨F3, H5, σ5, ρ3⟩ D (forL tt p (items.drop (i + 1)) ρ3) := fun {ρ5 σ5 F5 H5} g5 h5 =>
      ⟨_, by omega, rfl, by omega, F5, ρ5, g2.trans (g34.trans g5), KwS.shift g5 h5⟩
    cases hp : p ρ3 with
    | nx ρ5 => rw [hp] at h3; exact fun σ5 F5 H5 g5 => fin g5 h3
    | ct ρ5 => rw [hp] at h3; exact fun σ5 F5 H5 g5 => fin g5 h3
    | bk ρ5 => rw [hp] at h3; exact h3
    | ret op ρ5 => rw [hp] at h3; exact h3
    | exc c fs ρ5 => rw [hp] at h3; exact h3
    | bad => rw [hp] at h3; exact h3
theorem ps_fors {tg iter : Expr} {body : List Stmt} {tt : T} (hp : PassesOwn (model X.prog X.w) X.A X.env X.xe) (hc : X.calm = true) (hi : PI X tg iter (tI C W fi)) (hg : PG X tg (tG C tt)) (hb : PSs X body (tS C W p))
    (hs : ∀ x, foldedSetIterable iter X.env x = pure x) : PS X (.For tg iter body [] pos) (tS C W (forS tt fi p)) := PSimp (ps_for hp hc hi hg hb hs) for_imp
theorem while_imp {n : Nat} : ∀ D σ H, tS C W (whileL t p n) D σ H → tWhile (tT C W t) (tS C W p) D σ H := by
  intro D σ H ⟨F, ρ, s, h⟩
  refine ⟨fun m σ2 H2 => ∃ F2 ρ2, SR C ⟨F2, H2, σ2, ρ2⟩ ∧ KwS C W ⟨F2, H2, σ2, ρ2⟩ D (whileL t p m ρ2), ⟨n, F, ρ, s, h⟩, ?_⟩
  intro m σ2 H2 ⟨F2, ρ2, s2, h2⟩
  cases m with
  | zero => exact h2.elim
  | succ m =>
  simp only [whileL] at h2
  refine ⟨F2, ρ2, s2, KwS.bind h2 fun b ρ3 F3 H3 e3 g3 h3 => ?_⟩
  cases b with
  | false => exact h3 σ2 F3 H3 g3
  | true =>
    have h3' := KwS.shift g3 h3
    rw [if_pos rfl] at h3'
    refine ⟨fun σ4 H4 => ∃ m', m' < m + 1 ∧ ∃ F2 ρ2, SR C ⟨F2, H4, σ4, ρ2⟩ ∧ KwS C W ⟨F2, H4, σ4, ρ2⟩ D (whileL t p m' ρ2), fun σ' H' z => z, F3, ρ3, g3.sr, ?_⟩
    cases hp : p ρ3 with
    | nx ρ5 => rw [hp] at h3'; exact fun σ5 F5 H5 g5 => ⟨m, by omega, F5, ρ5, g5.sr, KwS.shift g5 h3'⟩
    | ct ρ5 => rw [hp] at h3'; exact fun σ5 F5 H5 g5 => ⟨m, by omega, F5, ρ5, g5.sr, KwS.shift g5 h3'⟩
    | bk ρ5 => rw [hp] at h3'; exact h3'
    | ret op ρ5 => rw [hp] at h3'; exact h3'
    | exc c fs ρ5 => rw [hp] at h3'; exact h3'
    | bad => rw [hp] at h3'; exact h3'
theorem ps_whiles {c : Expr} {body : List Stmt} (n : Nat) (hp : PassesOwn (model X.prog X.w) X.A X.env X.xe) (hc : PT X c (tT C W t)) (hb : PSs X body (tS C W p)) : PS X (.While c body [] pos) (tS C W (whileL t p n)) := PSimp (ps_while hp hc hb) while_imp
end
end PyI
set_option maxHeartbeats 1000000
/-! PyI12: comprehensions as values and stored, stores into objects of one's own, methods, op=. -/
namespace PyI
open PySem PySem.Spec PyProof.Rows L2

@[simp] def yesT : Ft := fun ρ => .ok true ρ
section
variable {X : Cx} {C : Ct} {W : WX}
theorem PTsimp {ifs : List Expr} {t t' : TT} (h : PTs X ifs t) (k : ∀ σ H Q, t' σ H Q → t σ H Q) : PTs X ifs t' := ⟨fun pins s σ H Q I q => h.run pins s σ H Q I (k σ H Q q)⟩
theorem pts_n : PTs X [] (tT C W yesT) := PTsimp pts_nil fun σ H Q ⟨F, ρ, s, h⟩ => h F H (Go.refl s)
theorem pe_lcs {elt tg iter : Expr} {ifs : List Expr} {scope : Scope} {own : List (Str × Nat)} {pos : Pos} {t : T} {fi : Fi} {c : Ft} {e : Fe} (ht0 : ∀ j ∈ slotsT t, j ∈ own.map (·.2)) (hc : X.calm = true) (hN : X.N.Nodup) (hi : PI X tg iter (tI C W fi)) (ok : BlkOk X.N X.env.scope scope own)
    (hg : ∀ (s : Shared) (H : Hp) (A : Addr) (cl : List (Str × Addr)) (fp : List Addr), PG (X.blk s H scope (compEnvC scope cl A X.env) fp) tg (tG C t)) (ht : ∀ (s : Shared) (H : Hp) (A : Addr) (cl : List (Str × Addr)) (fp : List Addr), PTs (X.blk s H scope (compEnvC scope cl A X.env) fp) ifs (tT C WF c))
    (he : ∀ (s : Shared) (H : Hp) (A : Addr) (cl : List (Str × Addr)) (fp : List Addr), PE (X.blk s H scope (compEnvC scope cl A X.env) fp) elt (tE C WF e)) (hs : ∀ x, foldedSetIterable iter X.env x = pure x) :
    PE X (.ListComp elt [⟨tg, iter, ifs, 0⟩] scope pos) (tE C W (lcE (own.map (·.2)) t fi c (frzE e))) :=
  PEimp (pe_lc hc hN hi ok hg ht (fun s H A cl fp => pe_frz (he s H A cl fp)) hs) (lc_imp ht0)
theorem ps_setLcs {i : Nat} {y : Str} {py : Pos} {elt tg iter : Expr} {ifs : List Expr} {scope : Scope} {own : List (Str × Nat)} {pos spos : Pos} {t : T} {fi : Fi} {c : Ft} {e : Fe} (ht0 : ∀ j ∈ slotsT t, j ∈ own.map (·.2)) (hc : X.calm = true) (hN : X.N.Nodup) (hy : X.N[i]? = some y) (hyl : X.env.scope.names.lookup y = some .local)
    (hsw : swapsWith (.ListComp elt [⟨tg, iter, ifs, 0⟩] scope pos) (some (.Name y py)) spos.line X.env = pure true) (hi : PI X tg iter (tI C W fi)) (ok : BlkOk X.N X.env.scope scope own)
    (hg : ∀ (s : Shared) (H : Hp) (A : Addr) (cl : List (Str × Addr)) (fp : List Addr), PG (X.blk s H scope (compEnvC scope cl A X.env) fp) tg (tG C t)) (ht : ∀ (s : Shared) (H : Hp) (A : Addr) (cl : List (Str × Addr)) (fp : List Addr), PTs (X.blk s H scope (compEnvC scope cl A X.env) fp) ifs (tT C WF c))
    (he : ∀ (s : Shared) (H : Hp) (A : Addr) (cl : List (Str × Addr)) (fp : List Addr), PE (X.blk s H scope (compEnvC scope cl A X.env) fp) elt (tE C WF e)) (hs : ∀ x, foldedSetIterable iter X.env x = pure x) :
    PS X (.Assign [.Name y py] (.ListComp elt [⟨tg, iter, ifs, 0⟩] scope pos) spos) (tS C W (setS i (lcE (own.map (·.2)) t fi c (frzE e)))) :=
  PSimp (ps_setLc hc hN hy hyl hsw hi ok hg ht (fun s H A cl fp => pe_frz (he s H A cl fp)) hs) fun D σ H ⟨F, ρ, s, h⟩ => by
    have := set_imp D σ H ⟨F, ρ, s, h⟩
    exact lc_imp ht0 σ H _ this
end

/-! ### stores into objects of one's own -/
@[simp] def setD : D → D → D → Option D
  | .lst xs, .int i, d => (ixN xs.length i).map fun j => .lst (xs.set j d)
  | .dic kvs, k, d => if kvs.length ≤ 100000 then (keyD k).map fun k' => .dic (put kvs k' d) else none
  | _, _, _ => none
def rSetX : V → V → V → Hp → (Hp → Prop) → Prop := fun o i v H Q => rSetL o i v H Q ∨ ∃ a H', o = .ref a ∧ DPut H a i v H' ∧ Q H'
theorem pset_x {X : Cx} (hu : X.A.units + 150 < cLine) : PSet X rSetX := fun pins s σ H o i v ov iv u Q I ro ri rv h => by
  rcases h with h | ⟨a, H', ea, g, q⟩
  · exact set_list pins s σ H o i v ov iv u Q I ro ri rv h
  · subst ea
    obtain rfl : ov = Value.ref a := ro
    exact d_setItem (by omega) I g ri rv fun s' I' => ⟨H', I', q⟩
section
variable {X : Cx} {C : Ct} {W : WX}
theorem set_serves {F H : Hp} {a : Addr} {c k d c' : D} {i v : V} {Q : Hp → Prop} (l : Le F H) (o : Own C F H a c) (rk : RepS C F H k i) (rd : Rep C F d v) (e : setD c k d = some c') (h : ∀ u, Own C F (upd H a u) a c' → Q (upd H a u)) : rSetX (.ref a) i v H Q := by
  cases o with
  | @lst vs ds e1 r1 =>
    cases rk with
    | int j =>
      simp only [setD] at e
      cases hj : ixN ds.length j with
      | none => rw [hj] at e; cases e
      | some n =>
        rw [hj] at e; cases e
        exact .inl ⟨a, vs, j, n, rfl, rfl, e1, by rw [r1.length]; exact hj, h _ (.lst upd_same (r1.set rd n))⟩
    | _ => cases e
  | @dic kvs ds e1 r1 =>
    simp only [setD] at e
    split at e
    · rename_i hz
      cases hk : keyD k with
      | none => rw [hk] at e; cases e
      | some k' =>
        rw [hk] at e; cases e
        have hi := key_s hk rk
        subst hi
        exact .inr ⟨a, _, rfl, DPut.k e1 (by rw [r1.length]; unfold sizeLine; omega), h _ (.dic upd_same (r1.put k' rd))⟩
    · cases e
  | ins e1 r1 => cases e
@[simp] def store3 (j : Nat) (d : D) (opi : Op) (ρ : Env) : SRes := match ρ[j]?, deref ρ opi with
  | some (.own k c), some i => (match setD c i d with
    | some c' => .nx (ρ.set j (.own k c'))
    | none => .bad)
  | _, _ => .bad
/-- o[i] = e, the name o at the slot j -/
@[simp] def storeS (j : Nat) (fi fv : Fe) : Fs := fun ρ => (frzE fv ρ).bindS fun op ρ1 => match op with
  | .v d => (match ρ1[j]? with
    | some (.own _ _) => (fi ρ1).bindS fun opi ρ2 => store3 j d opi ρ2
    | _ => .bad)
  | _ => .bad
theorem own_var {i : Nat} {σ : L2.St} {H : Hp} {Q : VK} {F : Hp} {ρ : Env} (s : SR C ⟨F, H, σ, ρ⟩) {k : Bool} {d : D} (hi : ρ[i]? = some (.own k d)) (h : ∀ a, σ[i]? = some (some (.ref a)) → F a = none → Own C F H a d → Q (.ref a) H) : tVar i σ H Q := by
  obtain ⟨a, e1, e2, e3⟩ := s.own i k d hi
  exact ⟨.ref a, e1, h a e1 e2 e3⟩
theorem ps_store {j : Nat} {x : Str} {px pos spos : Pos} {ei ev : Expr} {fi fv : Fe} (hu : X.A.units + 150 < cLine) (hN : X.N[j]? = some x) (hv : Vis X.env.scope x) (hd : (x == ("__debug__" : Str)) = false) (hcd : (x == ("__classdict__" : Str)) = false)
    (hi : PE X ei (tE C W fi)) (he : PE X ev (tE C W fv))
    (ha : ∀ v, assign (.Subscript (.Name x px) ei pos) X.env v = (do
      let ov ← holding [v] (eval (.Name x px) X.env)
      let iv ← holding [v, ov] (eval ei X.env)
      standAt pos
      holding [v, ov, iv] (setItem ov iv v)
      release [v, ov, iv] [])) (hs : swapsWithSole [.Subscript (.Name x px) ei pos] ev spos.line X.env = pure false) (hw : swappedStores [.Subscript (.Name x px) ei pos] ev X.env = pure none)
    (h1 : (assignEach [.Subscript (.Name x px) ei pos] X.env).map (·.2) = [assign (.Subscript (.Name x px) ei pos) X.env]) :
    PS X (.Assign [.Subscript (.Name x px) ei pos] ev spos) (tS C W (storeS j fi fv)) :=
  PSimp (ps_asg (pe_frz he) (pg_sub (pe_var hN hv hd hcd) hi (pset_x hu) ha) hs hw h1) fun D σ H ⟨F, ρ, s, h⟩ => ⟨F, ρ, s, KwS.bind h fun x ρ1 F1 H1 e1 g1 h1 v rv => by
    split at h1
    · rename_i d
      split at h1
      · rename_i k0 c0 hj
        refine own_var g1.sr hj fun a ea fa oa => ⟨F1, ρ1, g1.sr, KwS.bind (KwS.shift g1 h1) fun opi ρ2 F2 H2 e2 g2 h2 u ru => ?_⟩
        unfold store3 at h2
        split at h2
        · rename_i k c i hj2 hi2
          split at h2
          · rename_i c' hc
            obtain ⟨a', ea', fa', oa'⟩ := g2.sr.own j k c hj2
            have ea'' : σ[j]? = some (some (.ref a')) := ea'
            have ea1 : σ[j]? = some (some (.ref a)) := ea
            rw [ea1] at ea''; cases ea''
            refine set_serves g2.sr.le oa' (ru.read g2.sr hi2) (rv.mono g2.le) hc fun u hn => ?_
            exact h2 σ F2 _ (g2.trans (g2.sr.putOwn hj2 ea1 hn))
          · exact h2.elim
        · exact h2.elim
      · exact h1.elim
    · exact h1.elim⟩
end

/-! ### methods that change their object -/
inductive Mt where
  | append | insert | reverse | lclear | extend | dclear
  deriving DecidableEq, Inhabited
@[simp] def mtD : Mt → D → List D → Option D
  | .append, .lst xs, [d] => if xs.length ≤ 100000 then some (.lst (xs ++ [d])) else none
  | .insert, .lst xs, [.int i, d] => if xs.length ≤ 100000 ∧ 0 ≤ i ∧ i < 2 ^ 63 then some (.lst (xs.take i.toNat ++ [d] ++ xs.drop i.toNat)) else none
  | .reverse, .lst xs, [] => some (.lst xs.reverse)
  | .lclear, .lst _, [] => some (.lst [])
  | .extend, .lst xs, [.lst ys] => if xs.length + ys.length ≤ 100000 then some (.lst (xs ++ ys)) else none
  | .dclear, .dic _, [] => some (.dic [])
  | _, _, _ => none
def Mt.ty : Mt → String
  | .dclear => "dict"
  | _ => "list"
def isTy (t : String) : D → Bool
  | .lst _ => decide (t = "list")
  | .dic _ => decide (t = "dict")
  | _ => false
@[simp] def mt2 (o : Mt) (j : Nat) (ops : List Op) (ρ : Env) : Res Op := match vals ops, ρ[j]? with
  | some ds, some (.own k c) => (match mtD o c ds with
    | some c' => .ok (.v .non) (ρ.set j (.own k c'))
    | none => .bad)
  | _, _ => .bad
@[simp] def mtE (o : Mt) (j : Nat) (fa : Fa) : Fe := fun ρ => match ρ[j]? with
  | some (.own _ c) => if isTy o.ty c = true then (fa ρ).bind (mt2 o j) else .bad
  | _ => .bad
def rMt : Mt → V → List V → Hp → VK → Prop
  | .append => rAppend
  | .insert => fun x vs H Q => ∃ (l : Addr) (xs : List V) (i : Int) (y : V), x = .ref l ∧ vs = [.int i, y] ∧ H l = some (.lst xs) ∧ xs.length < sizeLine ∧ 0 ≤ i ∧ i < 2 ^ 63 ∧ Q .non (upd H l (.lst (xs.take i.toNat ++ [y] ++ xs.drop i.toNat)))
  | .reverse => rReverse
  | .lclear => rClear
  | .extend => rExtend
  | .dclear => rDClear
section
variable {X : Cx} {C : Ct} {W : WX}
theorem mt_serves {o : Mt} {F H : Hp} {a : Addr} {c c' : D} {ds : List D} {vs : List V} {Q : VK} (l : Le F H) (ow : Own C F H a c) (r : RepL C F ds vs) (e : mtD o c ds = some c') (h : ∀ u, Own C F (upd H a u) a c' → Q .non (upd H a u)) : rMt o (.ref a) vs H Q := by
  cases ow with
  | @lst xs es e1 r1 =>
    have len := r1.length
    cases o with
    | append =>
      cases r with
      | nil => simp [mtD] at e
      | @cons d v ds vs q1 q2 =>
        cases q2 with
        | nil =>
          simp only [mtD] at e
          split at e
          · cases e
            exact ⟨a, xs, v, rfl, rfl, e1, by unfold sizeLine; omega, h _ (.lst upd_same (r1.append (.cons q1 .nil)))⟩
          · cases e
        | cons _ _ => simp [mtD] at e
    | insert =>
      cases r with
      | nil => simp [mtD] at e
      | @cons d v ds vs q1 q2 =>
        cases q1 with
        | int i =>
          cases q2 with
          | nil => simp [mtD] at e
          | @cons d2 v2 ds2 vs2 q2 q3 =>
            cases q3 with
            | nil =>
              simp only [mtD] at e
              split at e
              · rename_i hz
                cases e
                exact ⟨a, xs, i, v2, rfl, rfl, e1, by unfold sizeLine; omega, hz.2.1, hz.2.2, h _ (.lst upd_same (((r1.take _).append (.cons q2 .nil)).append (r1.drop _)))⟩
              · cases e
            | cons _ _ => simp [mtD] at e
        | _ => simp [mtD] at e
    | reverse =>
      cases r with
      | nil => simp only [mtD] at e; cases e; exact ⟨a, xs, rfl, rfl, e1, h _ (.lst upd_same r1.reverse)⟩
      | cons _ _ => simp [mtD] at e
    | lclear =>
      cases r with
      | nil => simp only [mtD] at e; cases e; exact ⟨a, xs, rfl, rfl, e1, h _ (.lst upd_same .nil)⟩
      | cons _ _ => simp [mtD] at e
    | extend =>
      cases r with
      | nil => simp [mtD] at e
      | @cons d v ds vs q1 q2 =>
        cases q1 with
        | @lst b ys fs e2 r2 =>
          cases q2 with
          | nil =>
            simp only [mtD] at e
            split at e
            · cases e
              exact ⟨a, b, xs, ys, rfl, rfl, e1, l.ins _ _ rfl e2, by rw [len, r2.length]; unfold sizeLine; omega, h _ (.lst upd_same (r1.append r2))⟩
            · cases e
          | cons _ _ => simp [mtD] at e
        | _ => simp [mtD] at e
    | dclear => simp [mtD] at e
  | @dic kvs es e1 r1 =>
    cases o with
    | dclear =>
      cases r with
      | nil => simp only [mtD] at e; cases e; exact ⟨a, kvs, rfl, rfl, e1, h _ (.dic upd_same .nil)⟩
      | cons _ _ => simp [mtD] at e
    | _ => simp [mtD] at e
  | ins e1 r1 => cases o <;> simp [mtD] at e
theorem mt_ty {K : PySem.W.Frag} {o : Mt} {F H : Hp} {a : Addr} {c : D} (ow : Own C F H a c) (h : isTy o.ty c = true) : tyV K o.ty (.ref a) H := by
  cases ow with
  | @lst xs es e1 r1 => exact .inl ⟨by simpa [isTy] using h, xs, .of e1⟩
  | @dic kvs es e1 r1 => exact .inr (.inr (.inl ⟨by simpa [isTy] using h, .inl ⟨kvs, e1⟩⟩))
  | ins _ _ => cases h
/-- o.m(e, ..) -/
theorem mt_imp {o : Mt} {j : Nat} {fa : Fa} {K : PySem.W.Frag} : ∀ σ H Q, tE C W (mtE o j fa) σ H Q → tBM K o.ty (rMt o) (tVar j) (tA C W fa) σ H Q := by
  intro σ H Q ⟨F, ρ, s, h⟩
  unfold mtE at h
  split at h
  · rename_i k0 c0 hj
    split at h
    · rename_i hty
      refine own_var s hj fun a ea fa' oa => ⟨mt_ty oa hty, F, ρ, s, Kw.bind h fun ops ρ1 F1 H1 e1 g1 h1 vs rvs => ?_⟩
      unfold mt2 at h1
      split at h1
      · rename_i ds k c hv hj1
        split at h1
        · rename_i c' hc
          obtain ⟨a', ea', _, oa'⟩ := g1.sr.own j k c hj1
          have ea'' : σ[j]? = some (some (.ref a')) := ea'
          rw [ea] at ea''; cases ea''
          exact mt_serves g1.sr.le oa' (vals_rep rvs hv) hc fun u hn => h1 F1 _ (g1.sr.putOwn hj1 ea hn) .non .non
        · exact h1.elim
      · exact h1.elim
    · exact h.elim
  · exact h.elim
theorem mt_imp0 {o : Mt} {j : Nat} {K : PySem.W.Frag} : ∀ σ H Q, tE C W (mtE o j (seqA [])) σ H Q → tBM0 K o.ty (rMt o) (tVar j) σ H Q := by
  intro σ H Q q
  have := mt_imp (K := K) σ H Q q
  obtain ⟨v, hv, ty, F, ρ, s, h⟩ := this
  exact ⟨v, hv, ty, h F H (Go.refl s) [] .nil⟩
def mtName : Mt → Str
  | .append => "append" | .insert => "insert" | .reverse => "reverse" | .lclear => "clear" | .extend => "extend" | .dclear => "clear"
def mtN : Mt → Nat
  | .append => 1 | .insert => 2 | .reverse => 0 | .lclear => 0 | .extend => 1 | .dclear => 0
theorem pe_mt {o : Mt} {j : Nat} {x : Str} {px apos pos : Pos} {e : Expr} {es : List Expr} {fa : Fa} (ho : mtN o ≠ 0) (hN : X.N[j]? = some x) (hv : Vis X.env.scope x) (hd : (x == ("__debug__" : Str)) = false) (hcd : (x == ("__classdict__" : Str)) = false) (ha : PA X (e :: es) (tA C W fa))
    (hbase : attributeBase (.Name x px) (mtName o) X.env (eval (.Name x px) X.env) = eval (.Name x px) X.env)
    (hfew : ((backTo pos (starEach (e :: es) X.env)).all (fun x => !x.1) && (backToKw pos (keywordEach [] X.env)).all (fun x => x.1.isSome)
      && decide ((e :: es).length + ([] : List Keyword).length + (if ([] : List Keyword).isEmpty then 0 else 1) < 30)) = true)
    (hline : (apos.endLine == pos.line) = true) (hs : starEach (e :: es) X.env = (false, eval e X.env) :: starEach es X.env) (hplain : (backTo pos (starEach es X.env)).any (·.1) = false) :
    PE X (.Call (.Attribute (.Name x px) (mtName o) apos) (e :: es) [] pos) (tE C W (mtE o j fa)) := by
  have h0 := pe_var (pos := px) hN hv hd hcd
  cases o with
  | append => exact PEimp (pe_bm PySem.F.plainAttrs_list PySem.F.slot_list_append PySem.F.type_list_append mt_append h0 ha hbase hfew hline hs hplain) (mt_imp (o := .append))
  | insert => exact PEimp (pe_bm PySem.F.plainAttrs_list PySem.F.slot_list_insert PySem.F.type_list_insert mt_insert h0 ha hbase hfew hline hs hplain) (mt_imp (o := .insert))
  | extend => exact PEimp (pe_bm PySem.F.plainAttrs_list PySem.F.slot_list_extend PySem.F.type_list_extend mt_extend h0 ha hbase hfew hline hs hplain) (mt_imp (o := .extend))
  | reverse => exact absurd rfl ho
  | lclear => exact absurd rfl ho
  | dclear => exact absurd rfl ho
theorem pe_mt0 {o : Mt} {j : Nat} {x : Str} {px apos pos : Pos} (ho : mtN o = 0) (hN : X.N[j]? = some x) (hv : Vis X.env.scope x) (hd : (x == ("__debug__" : Str)) = false) (hcd : (x == ("__classdict__" : Str)) = false)
    (hbase : attributeBase (.Name x px) (mtName o) X.env (eval (.Name x px) X.env) = eval (.Name x px) X.env) (hline : (apos.endLine == pos.line) = true) :
    PE X (.Call (.Attribute (.Name x px) (mtName o) apos) [] [] pos) (tE C W (mtE o j (seqA []))) := by
  have h0 := pe_var (pos := px) hN hv hd hcd
  cases o with
  | append => cases ho
  | insert => cases ho
  | extend => cases ho
  | reverse => exact PEimp (pe_bm0 PySem.F.plainAttrs_list PySem.F.slot_list_reverse PySem.F.type_list_reverse mt_reverse h0 hbase hline) (mt_imp0 (o := .reverse))
  | lclear => exact PEimp (pe_bm0 PySem.F.plainAttrs_list PySem.F.slot_list_clear PySem.F.type_list_clear mt_clear h0 hbase hline) (mt_imp0 (o := .lclear))
  | dclear => exact PEimp (pe_bm0 PySem.F.plainAttrs_dict PySem.F.slot_dict_clear PySem.F.type_dict_clear mtd_clear h0 hbase hline) (mt_imp0 (o := .dclear))
end

/-! ### name op= e, ints -/
@[simp] def augD : Bop → D → D → Option Op
  | .add, .int i, .int j => some (.v (.int (i + j)))
  | .sub, .int i, .int j => some (.v (.int (i - j)))
  | _, _, _ => none
@[simp] def augS (o : Bop) (i : Nat) (f : Fe) : Fs := fun ρ => match ρ[i]? with
  | some (.val d) => (f ρ).bindS fun op ρ1 => (match (deref ρ1 op).bind (augD o d) with
    | some (.v d') => (match setVal i d' ρ1 with
      | some ρ2 => .nx ρ2
      | none => .bad)
    | _ => .bad)
  | _ => .bad
section
variable {X : Cx} {C : Ct} {W : WX} {f : Fe} {e : Expr}
def rAug : Bop → TIp
  | .add => ipI fun i j => i + j
  | .sub => ipI fun i j => i - j
  | _ => fun _ _ _ _ => False
theorem pip_aug : ∀ o : Bop, PIp X (oprOf o) (rAug o)
  | .add => ip_add
  | .sub => ip_sub
  | .mul => fun _ _ _ _ _ _ _ _ _ _ _ _ h => h.elim
  | .fdiv => fun _ _ _ _ _ _ _ _ _ _ _ _ h => h.elim
  | .mod => fun _ _ _ _ _ _ _ _ _ _ _ _ h => h.elim
  | .pow => fun _ _ _ _ _ _ _ _ _ _ _ _ h => h.elim
theorem ps_augs {o : Bop} {i : Nat} {x : Str} {pos pos' : Pos} (hN : X.N.Nodup) (hi : X.N[i]? = some x) (hx : Loc X.env.scope x) (he : PE X e (tE C W f)) (hf : X.fn x = true ∨ X.env.scope.names.lookup x = some .local) :
    PS X (.AugAssign (.Name x pos') (oprOf o) e pos) (tS C W (augS o i f)) :=
  PSimp (ps_aug hN hi hx he (pip_aug o) hf) fun D σ H ⟨F, ρ, s, h⟩ => by
    unfold augS at h
    split at h
    · rename_i d hd
      obtain ⟨v, e1, r1⟩ := s.val i d hd
      refine ⟨v, e1, F, ρ, s, KwS.bind h fun op ρ1 F1 H1 e2 g1 h1 u ru => ?_⟩
      split at h1
      · rename_i d' ha
        split at h1
        · rename_i ρ2 hs
          cases hq : deref ρ1 op with
          | none => rw [hq] at ha; cases ha
          | some d2 =>
            rw [hq] at ha
            simp only [Option.bind_some] at ha
            have r2 := ru.read g1.sr hq
            have fin : ∀ n : Int, d' = .int n → D.nx (σ.set i (some (.int n))) H1 := fun n en => by
              subst en
              exact h1 _ F1 H1 (g1.trans (g1.sr.setVal (v := .int n) hs (.int n)))
            cases o with
            | add =>
              cases r1 <;> cases r2 <;> first | (cases ha; exact ⟨_, _, rfl, rfl, fin _ rfl⟩) | (simp [augD] at ha)
            | sub =>
              cases r1 <;> cases r2 <;> first | (cases ha; exact ⟨_, _, rfl, rfl, fin _ rfl⟩) | (simp [augD] at ha)
            | _ => simp [augD] at ha
        · exact h1.elim
      · exact h1.elim
    · exact h.elim
end
end PyI
set_option maxHeartbeats 1000000
/-! PyI12b: dict comprehensions as values and stored, get, copy. -/
namespace PyI
open PySem PySem.Spec PyProof.Rows L2
section
variable {X : Cx} {C : Ct} {W : WX}
/-- name = {..} on one line, the name a local (the order of HandS.Comp's ps_setLc) -/
theorem ps_setDc {i : Nat} {y : Str} {py : Pos} {kx vx tg iter : Expr} {ifs : List Expr} {scope : Scope} {own : List (Str × Nat)} {pos spos : Pos} {wi : TI} {g : TG} {tt : TT} {tk tv : TE} (hc : X.calm = true) (hN : X.N.Nodup) (hy : X.N[i]? = some y) (hyl : X.env.scope.names.lookup y = some .local)
    (hsw : swapsWith (.DictComp kx vx [⟨tg, iter, ifs, 0⟩] scope pos) (some (.Name y py)) spos.line X.env = pure true) (hi : PI X tg iter wi) (ok : BlkOk X.N X.env.scope scope own)
    (hg : ∀ (s : Shared) (H : Hp) (A : Addr) (cl : List (Str × Addr)) (fp : List Addr), PG (X.blk s H scope (compEnvC scope cl A X.env) fp) tg g) (ht : ∀ (s : Shared) (H : Hp) (A : Addr) (cl : List (Str × Addr)) (fp : List Addr), PTs (X.blk s H scope (compEnvC scope cl A X.env) fp) ifs tt)
    (hk : ∀ (s : Shared) (H : Hp) (A : Addr) (cl : List (Str × Addr)) (fp : List Addr), PE (X.blk s H scope (compEnvC scope cl A X.env) fp) kx tk)
    (he : ∀ (s : Shared) (H : Hp) (A : Addr) (cl : List (Str × Addr)) (fp : List Addr), PE (X.blk s H scope (compEnvC scope cl A X.env) fp) vx tv) (hs : ∀ x, foldedSetIterable iter X.env x = pure x) :
    PS X (.Assign [.Name y py] (.DictComp kx vx [⟨tg, iter, ifs, 0⟩] scope pos) spos) (tAsg (tDc wi g tt tk tv (own.map (·.2))) (gName i)) := by
  refine ⟨fun pins s σ H D I h => ?_⟩
  rw [exec_Assign_Name_used _ _ _ _ hsw]
  refine wpAny_bind (wpAny_standAt (wpAny_bind ?_))
  show wpAny _ X.A (do let _ ← comprehension (.DictComp kx vx [⟨tg, iter, ifs, 0⟩] scope pos) scope X.env (firstIterPos [⟨tg, iter, ifs, 0⟩] pos) newDict false (eval iter X.env) (some (assign (.Name y py) X.env))) _ _ s
  have h : tDc wi g tt tk tv (own.map (·.2)) σ H (fun x H1 => gName i x σ H1 D.nx) := h
  refine wpAny_bind (thn (dc_core (Qf := fun _ s' => SP X pins D .next s') hc hN I hi ok hg ht hk he hs h fun L A s' m H' I' q hn f => ?_) fun _ s' hq => wpAny_pure (wpAny_pure hq))
  show wpAny _ _ (assign (.Name y py) X.env (.ref L)) _ _ _
  refine wpAny_assign_Name (store_ok2 (v := V.ref L) I' hN hy (.inl hyl) rfl (fun s2 I2 ⟨a, sb, ha⟩ => ?_) (.inr hyl))
  obtain ⟨f0, f1, f2, f3, f4, f5⟩ := f
  have haC : A ≠ a := by
    rcases ha with z | z
    · rw [z]; exact f1
    · exact fun e => f4 y a z e.symm
  refine ⟨m, hn.sameBut sb haC, fun h3 sb3 => ?_⟩
  exact ⟨_, H', I2.turned (t' := s2.toks) (fun b o hb e => (sb3.2 b hb).trans e) f0 f1 f3 f4 f5, q⟩
theorem sw_trueD {kx vx : Expr} {gs : List Comprehension} {scope : Scope} {pos py : Pos} {y : Str} {l : Nat} {env : PySem.Env} (hk : env.scope.kind = .function) (hy : env.scope.names.lookup y = some .local) (hl : (py.line == pos.line) = true)
    (ha : (scope.names.any fun (n, k) => n == y && (k == .local || k == .cell)) = false) : swapsWith (.DictComp kx vx gs scope pos) (some (.Name y py)) l env = pure true := by
  have ky : env.kindOf y = some .local := hy
  have hb : env.blockKind = .function := by unfold PySem.Env.blockKind; rw [hk]; rfl
  unfold swapsWith
  simp only [hb, ky, ha, Expr.pos, hl]
  rfl
theorem pe_dcs {kx vx tg iter : Expr} {ifs : List Expr} {scope : Scope} {own : List (Str × Nat)} {pos : Pos} {t : T} {fi : Fi} {c : Ft} {ek e : Fe} (ht0 : ∀ j ∈ slotsT t, j ∈ own.map (·.2)) (hc : X.calm = true) (hN : X.N.Nodup) (hi : PI X tg iter (tI C W fi)) (ok : BlkOk X.N X.env.scope scope own)
    (hg : ∀ (s : Shared) (H : Hp) (A : Addr) (cl : List (Str × Addr)) (fp : List Addr), PG (X.blk s H scope (compEnvC scope cl A X.env) fp) tg (tG C t)) (ht : ∀ (s : Shared) (H : Hp) (A : Addr) (cl : List (Str × Addr)) (fp : List Addr), PTs (X.blk s H scope (compEnvC scope cl A X.env) fp) ifs (tT C WF c))
    (hk : ∀ (s : Shared) (H : Hp) (A : Addr) (cl : List (Str × Addr)) (fp : List Addr), PE (X.blk s H scope (compEnvC scope cl A X.env) fp) kx (tE C WF ek))
    (he : ∀ (s : Shared) (H : Hp) (A : Addr) (cl : List (Str × Addr)) (fp : List Addr), PE (X.blk s H scope (compEnvC scope cl A X.env) fp) vx (tE C WF e)) (hs : ∀ x, foldedSetIterable iter X.env x = pure x) :
    PE X (.DictComp kx vx [⟨tg, iter, ifs, 0⟩] scope pos) (tE C W (dcE (own.map (·.2)) t fi c (frzE ek) (frzE e))) :=
  PEimp (pe_dc hc hN hi ok hg ht (fun s H A cl fp => pe_frz (hk s H A cl fp)) (fun s H A cl fp => pe_frz (he s H A cl fp)) hs) (dc_imp ht0)
theorem ps_setDcs {i : Nat} {y : Str} {py : Pos} {kx vx tg iter : Expr} {ifs : List Expr} {scope : Scope} {own : List (Str × Nat)} {pos spos : Pos} {t : T} {fi : Fi} {c : Ft} {ek e : Fe} (ht0 : ∀ j ∈ slotsT t, j ∈ own.map (·.2)) (hc : X.calm = true) (hN : X.N.Nodup) (hy : X.N[i]? = some y) (hyl : X.env.scope.names.lookup y = some .local)
    (hsw : swapsWith (.DictComp kx vx [⟨tg, iter, ifs, 0⟩] scope pos) (some (.Name y py)) spos.line X.env = pure true) (hi : PI X tg iter (tI C W fi)) (ok : BlkOk X.N X.env.scope scope own)
    (hg : ∀ (s : Shared) (H : Hp) (A : Addr) (cl : List (Str × Addr)) (fp : List Addr), PG (X.blk s H scope (compEnvC scope cl A X.env) fp) tg (tG C t)) (ht : ∀ (s : Shared) (H : Hp) (A : Addr) (cl : List (Str × Addr)) (fp : List Addr), PTs (X.blk s H scope (compEnvC scope cl A X.env) fp) ifs (tT C WF c))
    (hk : ∀ (s : Shared) (H : Hp) (A : Addr) (cl : List (Str × Addr)) (fp : List Addr), PE (X.blk s H scope (compEnvC scope cl A X.env) fp) kx (tE C WF ek))
    (he : ∀ (s : Shared) (H : Hp) (A : Addr) (cl : List (Str × Addr)) (fp : List Addr), PE (X.blk s H scope (compEnvC scope cl A X.env) fp) vx (tE C WF e)) (hs : ∀ x, foldedSetIterable iter X.env x = pure x) :
    PS X (.Assign [.Name y py] (.DictComp kx vx [⟨tg, iter, ifs, 0⟩] scope pos) spos) (tS C W (setS i (dcE (own.map (·.2)) t fi c (frzE ek) (frzE e)))) :=
  PSimp (ps_setDc hc hN hy hyl hsw hi ok hg ht (fun s H A cl fp => pe_frz (hk s H A cl fp)) (fun s H A cl fp => pe_frz (he s H A cl fp)) hs) fun D σ H ⟨F, ρ, s, h⟩ => by
    have := set_imp D σ H ⟨F, ρ, s, h⟩
    exact dc_imp ht0 σ H _ this

/-! ### d.get(k, x) -/
@[simp] def get3 (x y z : Op) (ρ : Env) : Res Op := match deref ρ x, deref ρ y, z with
  | some (.dic kvs), some k, .v d => (match keyD k with
    | some k' => .ok (.v ((look kvs k').getD d)) ρ
    | none => .bad)
  | _, _, _ => .bad
@[simp] def getE (f g h : Fe) : Fe := fun ρ => (f ρ).bind fun x ρ1 => match deref ρ1 x with
  | some (.dic _) => (g ρ1).bind fun y ρ2 => (h ρ2).bind fun z ρ3 => get3 x y z ρ3
  | _ => .bad
theorem getD_rep {F : Hp} {o : Option D} {u : Option V} {d : D} {v : V} (r : RepO C F o u) (rd : Rep C F d v) : Rep C F (o.getD d) (u.getD v) := by
  cases o with
  | none => cases u with
    | none => exact rd
    | some u => exact r.elim
  | some e => cases u with
    | none => exact r.elim
    | some u => exact r
theorem get_imp {f g h : Fe} : ∀ σ H Q, tE C W (getE f g h) σ H Q → tDGet2 (tE C W f) (tE C W g) (tE C W h) σ H Q := by
  intro σ H Q ⟨F, ρ, s, hh⟩
  refine ⟨F, ρ, s, Kw.bind hh fun x ρ1 F1 H1 e1 g1 h1 v rv => ?_⟩
  split at h1
  · rename_i kvs0 hd
    have rx := rv.read g1.sr hd
    cases rx with
    | @dic a kv0 _ s0 r0 =>
      refine ⟨a, rfl, .inl ⟨_, s0⟩, F1, ρ1, g1.sr, Kw.bind h1 fun y ρ2 F2 H2 e2 g2 h2 u ru => ⟨F2, ρ2, g2.sr, Kw.bind h2 fun z ρ3 F3 H3 e3 g3 h3 t rt => ?_⟩⟩
      unfold get3 at h3
      split at h3
      · rename_i kvs k d hx hy
        have rx := ((rv.carry g2 rfl).carry g3 rfl).read g3.sr hx
        have ry := (ru.carry g3 rfl).read g3.sr hy
        split at h3
        · rename_i k' hk
          have hk' := key_s hk ry
          cases rx with
          | @dic _ kv _ s1 r1 =>
            exact ⟨valV kv k', .inl ⟨kv, k', s1, hk', rfl⟩, h3 F3 H3 (Go.refl g3.sr) _ (getD_rep (r1.look k') rt)⟩
        · exact h3.elim
      · exact h3.elim
  · exact h1.elim
theorem pe_get {o ek ed : Expr} {apos pos : Pos} {f g h : Fe} (hu : X.A.units + 150 < cLine) (ho : PE X o (tE C W f)) (hk : PE X ek (tE C W g)) (hd : PE X ed (tE C W h)) (m : M2 X o "get" apos ek ed pos) :
    PE X (.Call (.Attribute o "get" apos) [ek, ed] [] pos) (tE C W (getE f g (frzE h))) := PEimp (pe_dget2 (by omega) ho hk (pe_frz hd) m) get_imp
/-! ### d.get(k) -/
@[simp] def get1E (f g : Fe) : Fe := fun ρ => (f ρ).bind fun x ρ1 => match deref ρ1 x with
  | some (.dic _) => (g ρ1).bind fun y ρ2 => get3 x y (.v .non) ρ2
  | _ => .bad
theorem get1_imp {f g : Fe} : ∀ σ H Q, tE C W (get1E f g) σ H Q → tDGet1 (tE C W f) (tE C W g) σ H Q := by
  intro σ H Q ⟨F, ρ, s, hh⟩
  refine ⟨F, ρ, s, Kw.bind hh fun x ρ1 F1 H1 e1 g1 h1 v rv => ?_⟩
  split at h1
  · rename_i kvs0 hd
    have rx := rv.read g1.sr hd
    cases rx with
    | @dic a kv0 _ s0 r0 =>
      refine ⟨a, rfl, .inl ⟨_, s0⟩, F1, ρ1, g1.sr, Kw.bind h1 fun y ρ2 F2 H2 e2 g2 h2 u ru => ?_⟩
      unfold get3 at h2
      split at h2
      · rename_i kvs k d hx hy hz
        cases hz
        have rx := (rv.carry g2 rfl).read g2.sr hx
        have ry := ru.read g2.sr hy
        split at h2
        · rename_i k' hk
          have hk' := key_s hk ry
          cases rx with
          | @dic _ kv _ s1 r1 =>
            exact ⟨valV kv k', .inl ⟨kv, k', s1, hk', rfl⟩, h2 F2 H2 (Go.refl g2.sr) _ (getD_rep (r1.look k') .non)⟩
        · exact h2.elim
      · exact h2.elim
  · exact h1.elim
theorem pe_get1 {o ek : Expr} {apos pos : Pos} {f g : Fe} (hu : X.A.units + 150 < cLine) (ho : PE X o (tE C W f)) (hk : PE X ek (tE C W g)) (m : M1 X o "get" apos ek pos) :
    PE X (.Call (.Attribute o "get" apos) [ek] [] pos) (tE C W (get1E f g)) := PEimp (pe_dget1 (by omega) ho hk m) get1_imp

/-! ### d.copy() -/
def tDCopy (td : TE) : TE := fun σ H Q => td σ H fun x H1 => ∃ a kvs, x = .ref a ∧ Rd H1 a (.dK kvs) ∧ ∀ p, H1 p = none → Q (.ref p) (upd H1 p (.dK kvs))
theorem pe_dcopy {o : Expr} {to : TE} {apos cpos : Pos} (ho : PE X o to) (hbase : attributeBase o "copy" X.env (eval o X.env) = eval o X.env) (hline : (apos.endLine == cpos.line) = true) : PE X (.Call (.Attribute o "copy" apos) [] [] cpos) (tDCopy to) := by
  refine ⟨fun pins s σ H Q I h => ?_⟩
  refine wpAny_Call_method0_late hbase hline (thn (ho.run pins s σ H _ I h) fun v s1 ⟨x, H1, I1, r1, a, kvs, ex, e, q1⟩ => ?_)
  subst ex
  obtain rfl : v = Value.ref a := r1
  obtain ⟨t1, t2, _⟩ := isD_at I1 (.inl ⟨kvs, e⟩)
  obtain ⟨z, hd, vs, rel, dd⟩ := dk_rd I1.hok e
  refine ⟨"dict", "dict.copy", PySem.F.plainAttrs_dict, PySem.F.slot_dict_copy, PySem.F.type_dict_copy, t1, t2, Calls.callWith_builtin rfl (PySem.evalArgs_none ?_)⟩
  refine call_meetsIn PySem.F.slot_dict_copy dd.typeIs PySem.F.entry_dict_copy (PySem.F.args_dict_copy_1 _) (meets_dict_copy (mixKind X.prog X.w) a hd) ⟨vs, dd, by rw [← rel.length]; exact z, fun h' d1 d2 keep => ?_⟩
  have hs : (s1.heap.objs.size == sysModules) = false := by
    have := I1.big
    exact beq_eq_false_iff_ne.mpr (Nat.ne_of_gt this)
  exact ⟨.ref s1.heap.objs.size, _, I1.laid (t' := s1.toks) keep (Nat.le_refl _) (dk_new z hs rel d1), rfl, q1 _ (I1.hok.fresh (Nat.le_refl _))⟩
@[simp] def copyD : D → Option Op
  | .dic kvs => some (.f (.dic kvs))
  | _ => none
theorem pe_copy {o : Expr} {apos pos : Pos} {f : Fe} (ho : PE X o (tE C W f)) (hbase : attributeBase o "copy" X.env (eval o X.env) = eval o X.env) (hline : (apos.endLine == pos.line) = true) : PE X (.Call (.Attribute o "copy" apos) [] [] pos) (tE C W (seq1 f (op1 copyD))) :=
  PEimp (pe_dcopy ho hbase hline) (one_op (r := fun x H1 Q => ∃ a kvs, x = .ref a ∧ Rd H1 a (.dK kvs) ∧ ∀ p, H1 p = none → Q (.ref p) (upd H1 p (.dK kvs))) (fun d i h => by unfold copyD at h; split at h <;> cases h) fun F H d v op Q l r e dn => by
    unfold copyD at e
    split at e
    · cases e
      cases r with
      | dic s1 r1 => exact ⟨_, _, rfl, s1, fun p n => dn.dic r1 n⟩
    · cases e)
end
end PyI
set_option maxHeartbeats 1000000
/-! PyI12c: sorted texts. -/
namespace PyI
open PySem PySem.Spec PyProof.Rows L2
def sle (a b : Str) : Bool := decide (a.cps.toList ≤ b.cps.toList)
def sortS (l : List Str) : List Str := l.mergeSort sle
theorem sle_lt (a b : Str) : (!ltCps b.cps.toList a.cps.toList) = sle a b := by
  rw [ltCps_eq]
  unfold sle
  by_cases h : a.cps.toList ≤ b.cps.toList
  · rw [decide_eq_true h, decide_eq_false (fun q => (List.not_lt.mpr h) q)]; rfl
  · rw [decide_eq_false h, decide_eq_true (Classical.byContradiction fun q => h (List.not_lt.mp q))]; rfl
theorem sle_trans (a b c : Str) (h1 : sle a b = true) (h2 : sle b c = true) : sle a c = true :=
  decide_eq_true (List.le_trans (of_decide_eq_true h1) (of_decide_eq_true h2))
theorem sle_total (a b : Str) : (sle a b || sle b a) = true := by
  rcases List.le_total a.cps.toList b.cps.toList with h | h
  · unfold sle; rw [decide_eq_true h]; rfl
  · unfold sle; rw [decide_eq_true h, Bool.or_true]
theorem sle_anti (a b : Str) (h1 : sle a b = true) (h2 : sle b a = true) : a = b := by
  have := List.le_antisymm (of_decide_eq_true h1) (of_decide_eq_true h2)
  cases a; cases b
  exact congrArg Str.mk (Array.toList_inj.mp this)
theorem rising_pair : ∀ {l : List Str} {p : Str}, risingS p l = true → (∀ x ∈ l, sle p x = true) ∧ l.Pairwise (fun a b => sle a b = true)
  | [], _, _ => ⟨fun x h => (by cases h), .nil⟩
  | x :: r, p, h => by
    simp only [risingS, Bool.and_eq_true] at h
    obtain ⟨h1, h2⟩ := h
    rw [sle_lt] at h1
    obtain ⟨i1, i2⟩ := rising_pair h2
    exact ⟨fun y hy => by
      rcases List.mem_cons.mp hy with e | e
      · rw [e]; exact h1
      · exact sle_trans p x y h1 (i1 y e), List.pairwise_cons.mpr ⟨i1, i2⟩⟩
theorem sorted_pair {l : List Str} (h : sortedS l = true) : l.Pairwise (fun a b => sle a b = true) := by
  cases l with
  | nil => exact .nil
  | cons x r =>
    obtain ⟨h1, h2⟩ := rising_pair (show risingS x r = true from h)
    exact List.pairwise_cons.mpr ⟨h1, h2⟩
theorem sort_eq {ys l : List Str} (hp : ys.Perm l) (hs : sortedS ys = true) : ys = sortS l := by
  refine List.Perm.eq_of_pairwise (le := fun a b => sle a b = true) (fun a b _ _ h1 h2 => sle_anti a b h1 h2) (sorted_pair hs) (List.pairwise_mergeSort sle_trans (fun a b => by simpa using sle_total a b) l) (hp.trans (List.mergeSort_perm l sle).symm)
theorem sort_pair (l : List Str) : (sortS l).Pairwise (fun a b => sle a b = true) := List.pairwise_mergeSort sle_trans (fun a b => by simpa using sle_total a b) l
theorem sort_perm (l : List Str) : (sortS l).Perm l := List.mergeSort_perm l sle
/-! ### sorted(d), sorted(xs) -/
def keysS : List (Key × D) → Option (List Str)
  | [] => some []
  | (.inr x, _) :: r => (keysS r).map (x :: ·)
  | _ => none
def sortD : D → Option Op
  | .dic kvs => (keysS kvs).bind fun ks => if ks.length < 64 then some (.f (.lst ((sortS ks).map .str))) else none
  | .lst xs => (strz xs).bind fun ks => if ks.length < 64 then some (.f (.lst ((sortS ks).map .str))) else none
  | _ => none
theorem keysS_of : ∀ {kvs : List (Key × D)} {ks : List Str}, keysS kvs = some ks → kvs.map (·.1) = ks.map Sum.inr
  | [], ks, h => by cases h; rfl
  | (.inr x, d) :: r, ks, h => by
    simp only [keysS] at h
    cases hr : keysS r with
    | none => rw [hr] at h; cases h
    | some k => rw [hr] at h; cases h; simp [keysS_of hr]
  | (.inl i, d) :: r, ks, h => by cases h
theorem strs_rep (C : Ct) (F : Hp) : ∀ ks : List Str, RepL C F (ks.map D.str) (ks.map V.str)
  | [] => .nil
  | k :: ks => .cons (.str k) (strs_rep C F ks)
theorem sortD_nos : NoS1 sortD := by
  intro d i h
  unfold sortD at h
  split at h
  · cases hk : keysS _ with
    | none => rw [hk] at h; cases h
    | some ks => rw [hk] at h; simp only [Option.bind_some] at h; split at h <;> cases h
  · cases hk : strz _ with
    | none => rw [hk] at h; cases h
    | some ks => rw [hk] at h; simp only [Option.bind_some] at h; split at h <;> cases h
  · cases h
def rSortX (C : Ct) : List V → Hp → VK → Prop := fun xs H Q => (∃ (a : Addr) (kvs : List (Key × V)) (ks : List Str), xs = [.ref a] ∧ Rd H a (.dK kvs) ∧ kvs.map (·.1) = ks.map Sum.inr ∧ ks.length < 64 ∧
    ∀ ys p, ys.Perm ks → sortedS ys = true → H p = none → Q (.ref p) (upd H p (.lst (ys.map V.str)))) ∨ rSortedS C.K xs H Q
section
variable {X : Cx} {C : Ct} {W : WX} {f : Fe}
theorem pe_sorted {e : Expr} {p pos : Pos} (k : C.K = X.K) (hc : X.calm = true) (hg : Gl X "sorted") (hm : X.mg "sorted" = none) (ha : PE X e (tE C W f)) (hs : starEach [e] X.env = [(false, eval e X.env)]) :
    PE X (.Call (.Name "sorted" p) [e] [] pos) (tE C W (seq1 f (op1 sortD))) := by
  refine PEimp ?_ (one_call (r := rSortX C) sortD_nos fun F H d v op Q l r e dn => ?_)
  · have pa : PA X [e] (tCons (tE C W f) tNil) := pa_cons ha pa_nil hs
    have r2 : CallR X (.builtin "sorted") (rSortedS C.K) := k ▸ cr_sortedS
    exact pe_callB ((call_sortedD hc).or r2) hg hm (by decide +kernel) pa (by decide) (by decide) hs
  · unfold sortD at e
    split at e
    · rename_i kvs
      cases hk : keysS kvs with
      | none => rw [hk] at e; cases e
      | some ks =>
        rw [hk] at e
        simp only [Option.bind_some] at e
        split at e
        · rename_i h64
          cases e
          cases r with
          | @dic a vs _ s1 r1 =>
            refine .inl ⟨a, vs, ks, rfl, s1, by rw [r1.keys]; exact keysS_of hk, h64, fun ys p hp hsd n => ?_⟩
            rw [sort_eq hp hsd]
            exact dn.lst (strs_rep C F _) n
        · cases e
    · rename_i xs
      cases hk : strz xs with
      | none => rw [hk] at e; cases e
      | some ks =>
        rw [hk] at e
        simp only [Option.bind_some] at e
        split at e
        · rename_i h64
          cases e
          cases r with
          | @lst a vs _ s1 r1 =>
            refine .inr ⟨a, ks, rfl, by rw [← strz_rep r1 hk]; exact .of s1, h64, fun ys p hp hsd n => ?_⟩
            rw [sort_eq hp hsd]
            exact dn.lst (strs_rep C F _) n
        · cases e
    · cases e
end
end PyI
set_option maxHeartbeats 3200000
/-! PyI12s: sorted(set(texts)). -/
namespace PyI
open PySem PySem.Spec PyProof.Rows L2
def txtOf (e : Int × Value) : Str := match e.2 with
  | .str x _ => x
  | _ => Str.empty
def GoodS (w : World) (e : Int × Value) : Prop := ∃ x tk, e.2 = Value.str x tk ∧ e.1 = hashStr w x
abbrev SKd (P : Program) (w : World) := PySem.strKind P w
/-- the set of the texts l at a -/
def SetS (w : World) (h : Heap) (a : Addr) (l : List Str) : Prop :=
  ∃ o es ep t, h.get? a = some o ∧ o.ExactSet ∧ o.data = .set es ep t ∧ (∀ e ∈ es.toList, GoodS w e) ∧ (es.toList.map txtOf).Perm l ∧ l.length < scanBound ∧ t.fits es.size = true ∧ Ris t.place.toList ∧
    (w.params.followText "set-order" = true ∨ t.led = true)
section
variable {P : Program} {w : World} {A : Around} {E : Value → Shared → Prop} {s : Shared} {a : Addr} {l : List Str}
theorem SetS.at {h h' : Heap} (R : SetS w h a l) (k : ∀ o, h.get? a = some o → h'.get? a = some o) : SetS w h' a l := by
  obtain ⟨o, es, ep, t, ho, r⟩ := R
  exact ⟨o, es, ep, t, k o ho, r⟩
theorem goodS_elems {es : List (Int × Value)} (g : ∀ e ∈ es, GoodS w e) : ElemsOf (SKd P w) es := fun e he => by
  obtain ⟨x, tk, h1, h2⟩ := g e he
  exact ⟨⟨x, by rw [h1]; exact strKind_is P w x tk, h2⟩, by rw [h1]; rfl⟩
theorem size_of {es : Array (Int × Value)} (p : (es.toList.map txtOf).Perm l) : es.size = l.length := by
  have := p.length_eq
  rw [List.length_map, Array.length_toList] at this
  exact this
/-- behind the search: the new element is laid -/
theorem setS_tail {g : Bool → Sem Unit} (hg : ∀ (b : Bool) (s₁ : Shared) (Q' : Unit → Shared → Prop), Q' () s₁ → wpAny (model P w) A (g b) Q' E s₁)
    {o : Obj} {es : Array (Int × Value)} {ep : Nat} {t : SetTable} (ho : s.heap.get? a = some o) (hex : o.ExactSet) (hd : o.data = .set es ep t)
    {es1 : Array (Int × Value)} {t2 : SetTable} {l1 : List Str} (g1 : ∀ e ∈ es1.toList, GoodS w e) (p1 : (es1.toList.map txtOf).Perm l1) (hb1 : l1.length < scanBound)
    (hf2 : t2.fits es1.size = true) (hr : Ris t2.place.toList) (hl : w.params.followText "set-order" = true ∨ t2.led = true) {wasDummy : Bool} {R : Option Bool → Shared → Prop}
    (hR : ∀ h', Heap.SameBut a s.heap h' → SetS w h' a l1 → R (some true) { s with heap := h' }) :
    wpAny (model P w) A (do
        storeSet a es1 t2
        if (!wasDummy && t2.tooFull) = true then do
            g (relayAll t2 es1 (SetTable.grown es1.size)).2.2
            storeSet a (relayAll t2 es1 (SetTable.grown es1.size)).1 (relayAll t2 es1 (SetTable.grown es1.size)).2.1
            pure (some true)
          else pure (some true)) R E s := by
  have hz1 : es1.size < scanBound := by rw [size_of p1]; exact hb1
  refine wpAny_bind (wpAny_storeSet_of ho hd ?_ (fits_of_scanBound hz1))
  have ho1 := store_at (es' := es1) (t' := t2) ho hd
  have sb1 := Heap.SameBut.update s.heap a (Obj.putSet es1 t2)
  split
  · have pm := relayAll_perm t2 es1 (SetTable.grown es1.size)
    have q1 := relayAll_fits t2 es1 (SetTable.grown es1.size)
    have q2 := relayAll_ris t2 es1 (SetTable.grown es1.size)
    have q3 := relayAll_led t2 es1 (SetTable.grown es1.size)
    generalize relayAll t2 es1 (SetTable.grown es1.size) = Z at pm q1 q2 q3 ⊢
    obtain ⟨es2, t3, gave⟩ := Z
    dsimp only at pm q1 q2 q3 ⊢
    have p2 : (es2.toList.map txtOf).Perm l1 := (pm.map txtOf).trans p1
    refine wpAny_bind (hg _ _ _ ?_)
    refine wpAny_bind (wpAny_storeSet_of ho1 rfl ?_ (fits_of_scanBound (by rw [size_of p2]; exact hb1)))
    refine wpAny_pure (hR _ (sb1.trans (Heap.SameBut.update _ a _)) ?_)
    exact ⟨_, es2, _, t3, store_at (es' := es2) (t' := t3) ho1 rfl, hex, rfl, fun e he => g1 e (pm.mem_iff.mp he), p2, hb1, q1, q2, hl.imp id fun z => by rw [q3]; exact z⟩
  · exact wpAny_pure (hR _ sb1 ⟨_, es1, _, t2, ho1, hex, rfl, g1, p1, hb1, hf2, hr, hl⟩)
/-- a text that is not there yet -/
theorem setS_add {x : Str} {tk : Tok} {Q : Bool → Shared → Prop} (R : SetS w s.heap a l) (room : l.length + 1 < scanBound) (hx : x ∉ l)
    (hQ : ∀ h', Heap.SameBut a s.heap h' → SetS w h' a (l ++ [x]) → Q true { s with heap := h' }) :
    wpAny (model P w) A (setAddHashed a (.str x tk) ((SKd P w).hash x)) Q E s := by
  obtain ⟨o, es, ep, t, ho, hex, hd, g, pm0, hb, hf, hr, hl⟩ := R
  have hkey : (SKd P w).is x (.str x tk) = true := strKind_is P w x tk
  have hsc : (Value.str x tk).scannable = true := rfl
  have hel : ElemsOf (SKd P w) es.toList := goodS_elems g
  have hbs : es.size < scanBound := by rw [size_of pm0]; exact hb
  have hno : List.findIdx? (fun e => (SKd P w).is x e.2) es.toList = none := by
    refine List.findIdx?_eq_none_iff.mpr fun e he => ?_
    obtain ⟨y, ty, h1, _⟩ := g e he
    have hy : y ∈ l := pm0.mem_iff.mp (List.mem_map.mpr ⟨e, he, by unfold txtOf; rw [h1]⟩)
    have ne : y ≠ x := fun z => hx (z ▸ hy)
    rw [h1]
    show (y == x) = false
    exact beq_eq_false_iff_ne.mpr ne
  unfold setAddHashed setAddHashedIn
  refine wpAny_holding (wpAny_bind (wpAny_setState_of ho hd hf ?_))
  dsimp only
  rw [byScan_of hsc hbs hel]
  simp only [↓reduceIte]
  unfold setAddByScan
  refine wpAny_bind ?_
  refine wpAny_bind (wpAny_rule ?_)
  refine wpAny_bind (wpAny_setScan_of hkey ho hd hf hel ?_)
  rw [hno]
  dsimp only
  have hgw : ∀ (b : Bool) {s₁ : Shared} {Q' : Unit → Shared → Prop}, Q' () s₁ → wpAny (model P w) A (match b with | true => rule "set.scan.the-table-gave-way" | false => pure ()) Q' E s₁ :=
    fun b s₁ Q' q => by cases b <;> first | exact wpAny_pure q | exact wpAny_rule q
  have pm := layNew_perm t es ((SKd P w).hash x) (.str x tk)
  have hf1 := layNew_fits t es ((SKd P w).hash x) (.str x tk)
  have hr1 := layNew_ris t es ((SKd P w).hash x) (.str x tk) hr
  have hl1 := layNew_led t es ((SKd P w).hash x) (.str x tk)
  generalize layNew t es ((SKd P w).hash x) (.str x tk) = Z at pm hf1 hr1 hl1 ⊢
  obtain ⟨es1, t1, wasDummy, gave⟩ := Z
  dsimp only at pm hf1 hr1 hl1 ⊢
  rw [Array.toList_push] at pm
  have g1 : ∀ e ∈ es1.toList, GoodS w e := fun e he => by
    rcases List.mem_append.mp (pm.mem_iff.mp he) with z | z
    · exact g e z
    · have z' : e = ((SKd P w).hash x, Value.str x tk) := by simpa using z
      rw [z']; exact ⟨x, tk, rfl, rfl⟩
  have p1 : (es1.toList.map txtOf).Perm (l ++ [x]) := by
    have q := pm.map txtOf
    rw [List.map_append] at q
    exact q.trans (pm0.append (List.Perm.refl _))
  have hb1 : (l ++ [x]).length < scanBound := by simpa using room
  have hled : w.params.followText "set-order" = true ∨ t1.led = true := hl.imp id fun z => by rw [hl1]; exact z
  refine wpAny_bind (hgw _ ?_)
  split
  · refine wpAny_bind ?_
    rw [hashByValue_scannable 8 hsc]
    refine wpAny_pure ?_
    refine setS_tail ?_ ho hex hd g1 p1 hb1 ?_ ?_ ?_ ?_
    · intro b s₁ Q' q; cases b <;> first | exact wpAny_pure q | exact wpAny_rule q
    · first | (split <;> first | exact hf1 | exact SetTable.fits_plain_off hf1) | exact hf1
    · first | (split <;> exact hr1) | exact hr1
    · first | (split <;> exact hled) | exact hled
    · intro h' sb r; dsimp only; exact wpAny_pure (hQ h' sb r)
  · refine wpAny_bind (wpAny_pure ?_)
    simp only [↓reduceIte]
    refine setS_tail ?_ ho hex hd g1 p1 hb1 hf1 hr1 hled ?_
    · intro b s₁ Q' q; cases b <;> first | exact wpAny_pure q | exact wpAny_rule q
    · intro h' sb r; dsimp only; exact wpAny_pure (hQ h' sb r)
/-- a text that is there already -/
theorem setS_same {x : Str} {tk : Tok} {Q : Bool → Shared → Prop} (R : SetS w s.heap a l) (hx : x ∈ l) (hQ : Q false s) :
    wpAny (model P w) A (setAddHashed a (.str x tk) ((SKd P w).hash x)) Q E s := by
  obtain ⟨o, es, ep, t, ho, hex, hd, g, pm0, hb, hf, hr, hl⟩ := R
  have hkey : (SKd P w).is x (.str x tk) = true := strKind_is P w x tk
  have hsc : (Value.str x tk).scannable = true := rfl
  have hel : ElemsOf (SKd P w) es.toList := goodS_elems g
  have hbs : es.size < scanBound := by rw [size_of pm0]; exact hb
  unfold setAddHashed setAddHashedIn
  refine wpAny_holding (wpAny_bind (wpAny_setState_of ho hd hf ?_))
  dsimp only
  rw [byScan_of hsc hbs hel]
  simp only [↓reduceIte]
  unfold setAddByScan
  refine wpAny_bind ?_
  refine wpAny_bind (wpAny_rule ?_)
  refine wpAny_bind (wpAny_setScan_of hkey ho hd hf hel ?_)
  cases hfi : List.findIdx? (fun e => (SKd P w).is x e.2) es.toList with
  | some j => exact wpAny_pure (wpAny_pure hQ)
  | none =>
    obtain ⟨e, he, q⟩ := List.mem_map.mp (pm0.mem_iff.mpr hx)
    have c := List.findIdx?_eq_none_iff.mp hfi e he
    obtain ⟨y, ty, h1, _⟩ := g e he
    have hy : y = x := by unfold txtOf at q; rw [h1] at q; exact q
    subst hy
    rw [h1] at c
    rw [strKind_is P w y ty] at c
    cases c
end
def insS (l : List Str) (x : Str) : List Str := if x ∈ l then l else l ++ [x]
def ded (xs : List Str) : List Str := xs.foldl insS []
theorem insS_len (l : List Str) (x : Str) : (insS l x).length ≤ l.length + 1 := by unfold insS; split <;> simp
theorem fold_len : ∀ (xs l : List Str), (xs.foldl insS l).length ≤ l.length + xs.length
  | [], l => by simp
  | x :: xs, l => by
    have h1 := fold_len xs (insS l x)
    have h2 := insS_len l x
    simp only [List.foldl_cons, List.length_cons]; omega
theorem ded_len (xs : List Str) : (ded xs).length ≤ xs.length := by have := fold_len xs []; simpa [ded] using this
theorem insS_nodup {l : List Str} {x : Str} (h : l.Nodup) : (insS l x).Nodup := by
  unfold insS
  split
  · exact h
  · rename_i hx
    rw [List.nodup_append]
    refine ⟨h, by simp, fun a ha b hb e => hx ?_⟩
    have hb' : b = x := by simpa using hb
    rw [← hb', ← e]; exact ha
theorem fold_nodup : ∀ (xs : List Str) {l : List Str}, l.Nodup → (xs.foldl insS l).Nodup
  | [], _, h => h
  | x :: xs, l, h => fold_nodup xs (insS_nodup h)
theorem ded_nodup (xs : List Str) : (ded xs).Nodup := fold_nodup xs List.nodup_nil
theorem insS_mem {l : List Str} {x y : Str} : y ∈ insS l x ↔ y ∈ l ∨ y = x := by
  unfold insS
  split
  · rename_i hx
    exact ⟨.inl, fun h => h.elim id fun e => e ▸ hx⟩
  · simp
theorem fold_mem {y : Str} : ∀ {xs l : List Str}, y ∈ xs.foldl insS l ↔ y ∈ l ∨ y ∈ xs
  | [], l => by simp
  | x :: xs, l => by
    rw [List.foldl_cons, fold_mem, insS_mem, List.mem_cons]
    constructor
    · rintro ((h | h) | h)
      · exact .inl h
      · exact .inr (.inl h)
      · exact .inr (.inr h)
    · rintro (h | h | h)
      · exact .inl (.inl h)
      · exact .inl (.inr h)
      · exact .inr h
theorem ded_mem {y : Str} {xs : List Str} : y ∈ ded xs ↔ y ∈ xs := by unfold ded; rw [fold_mem]; simp
theorem ded_take {xs : List Str} {i : Nat} {x : Str} (h : xs[i]? = some x) : ded (xs.take (i + 1)) = insS (ded (xs.take i)) x := by
  unfold ded
  rw [List.take_succ, h]
  show (xs.take i ++ [x]).foldl insS [] = _
  rw [List.foldl_append]; rfl
section
variable {prog : Program} {w : World} {A : Around} {R : Result → Shared → Prop} {I : Addr} {fp wr : List Addr} {G : Array GenState → Array GenState → Prop} {n : Nat} {Pv : Nat → Value → Prop} {St : Nat → Shared → Prop}
/-- set.update's loop over unlike texts -/
theorem loopSet (W : WalksS prog w A.in1 I fp wr G n Pv St) (S : Addr) (hSf : S ∉ fp) (xs : List Str) (hsz : xs.length = n) (hfew : xs.length + 1 < scanBound)
    (hval : ∀ i v, Pv i v → ∃ x t, xs[i]? = some x ∧ v = .str x t) :
    ∀ (k i : Nat) (s : Shared), n - i = k → i ≤ n → St i s → SetS w s.heap S (ded (xs.take i)) →
      (∀ s', Moved (S :: wr) G s s' → SetS w s'.heap S (ded xs) → R (.ok (.ret .none)) s') →
      codeAny (model prog w) A (.builtin "set.update.loop" ⟨[.ref S, .ref I], []⟩) R s := by
  have hSw : S ∉ wr := fun h => hSf (W.sub _ h)
  have hsub : ∀ b ∈ wr, b ∈ S :: wr := fun b hb => List.mem_cons_of_mem _ hb
  intro k
  induction k with
  | zero =>
    intro i s hk hi hst hS hR
    have hin : i = n := by omega
    rw [hin, ← hsz, List.take_length] at hS
    rw [hin] at hst
    refine codeAny_builtin PyProof.Rows.F.entry_set_update_loop ?_
    rw [Around.under_plainId PyProof.Rows.F.plain_set_update_loop _]
    show wpAny _ A.in1 (pyNext (.ref I) >>= _) _ _ s
    refine wpAny_bind (W.done s _ _ hst fun s' hm => ?_)
    show wpAny _ A.in1 (ret Value.none) _ _ s'
    exact wpAny_pure (hR s' (hm.mono hsub) (hS.at fun o e => hm.heap S o hSw e))
  | succ k ih =>
    intro i s hk hi hst hS hR
    have hlt : i < n := by omega
    refine codeAny_builtin PyProof.Rows.F.entry_set_update_loop ?_
    rw [Around.under_plainId PyProof.Rows.F.plain_set_update_loop _]
    show wpAny _ A.in1 (pyNext (.ref I) >>= _) _ _ s
    refine wpAny_bind (W.item i s _ _ hlt hst fun v s' hP hst' hm => ?_)
    obtain ⟨x, t, hx, rfl⟩ := hval i v hP
    have hS' : SetS w s'.heap S (ded (xs.take i)) := hS.at fun o e => hm.heap S o hSw e
    show wpAny _ A.in1 (holding [Value.str x t] (setAdd S (.str x t)) >>= _) _ _ s'
    refine wpAny_bind (wpAny_holding ?_)
    unfold setAdd
    refine wpAny_holding ?_
    refine wpAny_bind ((SKd prog w).pyHash (k := x) (strKind_is _ _ _ _) ?_)
    by_cases hin : x ∈ ded (xs.take i)
    · refine setS_same (s := { s' with toks := s'.toks + 1 }) hS' hin ?_
      have hS3 : SetS w s'.heap S (ded (xs.take (i + 1))) := by
        rw [ded_take hx]; unfold insS; rw [if_pos hin]; exact hS'
      refine wpAny_pure ⟨plainId_quiet PyProof.Rows.F.plain_set_update_loop _, ih (i + 1) _ (by omega) hlt (W.frame _ s' _ _ hst' (Nat.le_succ _) fun b hb o e => e) hS3 fun s'' hm'' hS'' => ?_⟩
      exact hR s'' (Moved.trans W.gtrans ((hm.mono hsub).then_heap (Nat.le_succ _) fun b o hb e => e) hm'') hS''
    · refine setS_add (s := { s' with toks := s'.toks + 1 }) hS' (by have h1 := ded_len (xs.take i); rw [List.length_take] at h1; omega) hin fun h' hsb hS2 => ?_
      have hS3 : SetS w h' S (ded (xs.take (i + 1))) := by
        rw [ded_take hx]; unfold insS; rw [if_neg hin]; exact hS2
      refine wpAny_pure ⟨plainId_quiet PyProof.Rows.F.plain_set_update_loop _, ih (i + 1) _ (by omega) hlt (W.frame _ s' _ _ hst' (Nat.le_succ _) fun b hb o e => ?_) hS3 fun s'' hm'' hS'' => ?_⟩
      · rw [hsb.2 b (fun h : b = S => hSf (by rw [← h]; exact hb))]; exact e
      · refine hR s'' (Moved.trans W.gtrans ((hm.mono hsub).then_heap (Nat.le_succ _) fun b o hb e => ?_) hm'') hS''
        rw [hsb.2 b (fun h : b = S => hb (by rw [h]; exact List.mem_cons_self))]; exact e
end
section
variable {prog : Program} {w : World} {A : Around} {E : Value → Shared → Prop} {s : Shared}
theorem txts_at : ∀ {vs : List Value} {xs : List Str}, StrsAre vs xs → ∀ (i : Nat) (v : Value), vs[i]? = some v → ∃ t, v = .str (xs.getD i Str.empty) t
  | _, _, .nil, i, v, h => by simp at h
  | _, _, .cons n t r, 0, v, h => ⟨t, (Option.some.inj h).symm⟩
  | _, _, .cons n t r, i + 1, v, h => txts_at r i v (by simpa using h)
abbrev newSet (w : World) : Obj := { cls := .type "set", dict := none, data := .set #[] 0 (.fresh 0 0 (!w.params.followText "set-order")) }
theorem setS_fresh {h : Heap} {a : Addr} (ho : h.get? a = some (newSet w)) : SetS w h a [] :=
  ⟨_, #[], 0, _, ho, ⟨rfl, rfl, rfl⟩, rfl, (fun e he => by simp at he), .refl _, (by decide), (by rfl), List.Pairwise.nil, by
    show _ ∨ (!w.params.followText "set-order") = true
    cases w.params.followText "set-order"
    · exact .inr rfl
    · exact .inl rfl⟩
/-- set(xs), xs a list of unlike texts -/
theorem call_set_txts {l : Addr} {items : Array Value} {xs : List Str} {Q : Value → Shared → Prop}
    (hh : A.handled = none) (hl : s.heap.IsList l items) (hi : PyProof.Rows.StrsAre items.toList xs) (hfew : xs.length + 1 < scanBound)
    (h : ∀ (h' : Heap) (tk : Nat), SetS w h' s.heap.objs.size (ded xs) → (∀ b o, b < s.heap.objs.size → s.heap.get? b = some o → h'.get? b = some o) → Q (.ref s.heap.objs.size) { s with heap := h', toks := tk }) :
    wpAny (model prog w) A (call (.type "set") [.ref l]) Q E s := by
  obtain ⟨c, tl, hmro⟩ := F.called_set.mro
  have hmade := F.called_set.made
  have hsub := F.called_set.sub
  refine wpAny_call (codeAny_of_tree ?_)
  show wpAny _ _ (callAny (.type "set") _) _ _ _
  refine wpAny_pure ⟨Code.quiet_builtin _ (by decide +kernel), codeAny_builtin F.entry_type_call ?_⟩
  rw [Around.under_plain (weight_type_call_type "set" [.ref l] []) rfl]
  have h1 := F.called_set.notType
  have h2 := F.called_set.canCreate
  have hct := F.typeCall_set_1 (.ref l)
  repeat (any_goals (first | assumption | wp_step))
  refine codeAny_mono (code_set_led1 (.ref l) (E := E) (Q₁ := fun obj s₁ => obj = .ref s.heap.objs.size ∧ s₁ = { s with heap := s.heap.push (newSet w) }) ⟨rfl, rfl⟩) fun r s₁ hr => ?_
  cases r with
  | error e => exact hr
  | ok fl =>
    cases fl with
    | ret obj =>
      obtain ⟨rfl, rfl⟩ := hr
      have hS : (s.heap.push (newSet w)).get? s.heap.objs.size = some (newSet w) := Heap.get?_push_size _ rfl
      have hT : Shared.TypeIs { s with heap := s.heap.push (newSet w) } (.ref s.heap.objs.size) "set" := ⟨_, hS, rfl⟩
      have hli := F.called_set.init.lookup
      have hbi := F.called_set.init.bind (.ref s.heap.objs.size)
      repeat (any_goals (first | assumption | wp_step))
      refine codeAny_mono (codeAny_call_builtin (R := wants (fun r s₂ => r = .none ∧ ∃ h' tk, s₂ = { s with heap := h', toks := tk } ∧ SetS w h' s.heap.objs.size (ded xs) ∧
          (∀ b o, b < s.heap.objs.size → s.heap.get? b = some o → h'.get? b = some o)) E) F.called_set.init.plain F.entry_set_init (check_set_init_1 hT ?_)) fun r₂ s₂ hr₂ => ?_
      · obtain ⟨ol, hol, hcl, nl, hdl⟩ := hl
        obtain ⟨ocls, odict, odata, oslots⟩ := ol
        simp only at hcl hdl
        subst hcl; subst hdl
        have hol' : (s.heap.push (newSet w)).get? l = some { cls := .type "list", dict := odict, data := .seq items nl, slots := oslots } := Heap.get?_push_of_some _ hol
        have hsls := F.sub_list_set
        have hslf := F.sub_list_frozenset
        have hne : (Value.type "list" == Value.type "dict") = false := by decide
        have hl1 : (s.heap.push (newSet w)).IsList l items := ⟨_, hol', rfl, nl, rfl⟩
        unfold Builtin.«set.__init__» noKeywords Builtin.Frozenset.updateFrom
        generalize hPI : pyIter = PI
        wp_walk
        subst hPI
        refine wpAny_pyIter_list hl1 ?_
        refine wpAny_bind (wpAny_runValue ?_)
        have hlS : l < s.heap.objs.size := Heap.lt_size hol
        have hh3 : A.in1.in1.in1.handled = none := by simp [hh]
        have hneI : l ≠ (s.heap.push (newSet w)).objs.size := by
          rw [Heap.size_push]; exact Nat.ne_of_lt (Nat.lt_succ_of_lt hlS)
        have hSf : s.heap.objs.size ∉ [(s.heap.push (newSet w)).objs.size, l] := by
          rw [Heap.size_push]; simp only [List.mem_cons, List.mem_singleton, List.not_mem_nil, or_false, not_or]
          exact ⟨Nat.ne_of_lt (Nat.lt_succ_self _), Nat.ne_of_gt hlS⟩
        have hsz : xs.length = items.size := by rw [← StrsAre.len_eq hi, Array.length_toList]
        have hval : ∀ (i : Nat) (v : Value), items[i]? = some v → ∃ x t, xs[i]? = some x ∧ v = .str x t := fun i v hv => by
          have hlt : i < xs.length := by
            obtain ⟨q, _⟩ := Array.getElem?_eq_some_iff.mp hv
            rw [hsz]; exact q
          obtain ⟨t, e⟩ := txts_at hi i v (by rw [Array.getElem?_toList]; exact hv)
          exact ⟨xs[i], t, List.getElem?_eq_getElem hlt, by rw [e, List.getD_eq_getElem?_getD, List.getElem?_eq_getElem hlt]; rfl⟩
        refine loopSet ((Walks.list hh3 _ l hneI items).toS) s.heap.objs.size hSf xs hsz hfew hval (items.size - 0) 0 _ (by omega) (Nat.zero_le _)
          ⟨⟨_, Heap.get?_push_size _ rfl, rfl, rfl⟩, (hl1.push _)⟩ (setS_fresh (Heap.get?_push_of_some _ hS)) ?hR
        case hR =>
          intro s' hm hS'
          obtain ⟨h', g', d', tk', os'⟩ := s'
          have eg : g' = s.gens := hm.gens
          have ed : d' = s.drawn := hm.drawn
          have eo : os' = s.os := hm.os
          subst eg; subst ed; subst eo
          show wpAny _ _ _ _ _ _
          refine wpAny_pure ?_
          show wpAny _ _ (ret Value.none) _ _ _
          refine wpAny_pure ⟨rfl, h', tk', rfl, hS', fun b o hb e => ?_⟩
          have hb1 : b ≠ s.heap.objs.size := Nat.ne_of_lt hb
          have hb2 : b ≠ (s.heap.push (newSet w)).objs.size := by
            rw [Heap.size_push]; exact Nat.ne_of_lt (Nat.lt_succ_of_lt hb)
          exact hm.heap b o (by simp only [List.mem_cons, List.mem_singleton, List.not_mem_nil, or_false, not_or]; exact ⟨hb1, hb2⟩) (Heap.get?_push_of_some _ (Heap.get?_push_of_some _ e))
      · cases r₂ with
        | error e => exact hr₂
        | ok fl₂ =>
          cases fl₂ with
          | ret r =>
            obtain ⟨rfl, h', tk, rfl, hS', hk'⟩ := hr₂
            repeat (any_goals (first | assumption | wp_step))
            exact h _ _ hS' hk'
          | _ => exact hr₂.elim
    | _ => exact hr.elim
/-- sorted of it -/
theorem sorted_txts {a : Addr} {xs : List Str} {Q : Value → Shared → Prop} (R : SetS w s.heap a xs) (hh : A.handled = none) (h64 : xs.length < 64)
    (hQ : ∀ s' p (out : Array Value) (c : Nat) (ys : List Str), (∀ b o, s.heap.get? b = some o → s'.heap.get? b = some o) → s'.gens = s.gens → s'.os = s.os → s.heap.objs.size ≤ p →
      s'.heap.get? p = some (seqObj "list" out c) → StrsAre out.toList ys → ys.Perm xs → sortedS ys = true → Q (.ref p) s') :
    wpAny (model prog w) A (call (.builtin "sorted") [.ref a]) Q E s := by
  obtain ⟨o, es, ep, t, ho, hex, hd, g, pm0, hb, hf, hr, hl⟩ := R
  refine Calls.call_function_entry PyProof.Rows.kind_sorted PyProof.Rows.plain_sorted PyProof.Rows.entry_sorted (PyProof.Rows.args_sorted1 _) ?_
  unfold Builtin.«sorted»
  refine wpAny_bind (m := checkCount "sorted" 1 1 _) (wpAny_pure ?_)
  refine wpAny_bind (L2.collect_set (A := A.in1) hh ⟨o, ho, hex.1, hd⟩ hf (by rw [size_of pm0]; exact hb) hr hl fun s1 vs k1 hz g1 o1 pm => ?_)
  have hvs : ∀ l : List Value, (∀ v ∈ l, ∃ x tk, v = Value.str x tk) → StrsAre l (l.map fun v => txtOf (0, v)) := by
    intro l
    induction l with
    | nil => intro _; exact .nil
    | cons v l ih =>
      intro hv
      obtain ⟨x, tk, rfl⟩ := hv v List.mem_cons_self
      exact .cons x tk (ih fun u hu => hv u (List.mem_cons_of_mem _ hu))
  have hS : StrsAre vs (vs.map fun v => txtOf (0, v)) := hvs vs fun v hv => by
    obtain ⟨e, he, q⟩ := List.mem_map.mp (pm.mem_iff.mp hv)
    obtain ⟨x, tk, h1, _⟩ := g e he
    exact ⟨x, tk, by rw [← q]; exact h1⟩
  have pk : (vs.map fun v => txtOf (0, v)).Perm xs := by
    have q := pm.map (fun v => txtOf (0, v))
    rw [List.map_map] at q
    exact q.trans pm0
  have hvl : vs.length < 64 := by
    have := pk.length_eq
    rw [List.length_map] at this
    omega
  refine wpAny_bind (wpAny_newList ?_ (by rw [sizeLine_eq]; omega))
  have hoL : (s1.heap.push (seqObj "list" vs.toArray 0)).get? s1.heap.objs.size = some (seqObj "list" vs.toArray 0) := Heap.get?_push_size _ rfl
  refine wpAny_bind (wpAny_holding (wpAny_call_entry PyProof.Rows.slot_list_sort ⟨_, hoL, rfl⟩ PyProof.Rows.entry_list_sort
    (list_sort_treeK strKind_oneLt (s := { s1 with heap := s1.heap.push (seqObj "list" vs.toArray 0) }) hoL hS.keysOf (fun v₁ v₂ rest e => keyKind_strs (by rw [← e]; exact hS)) hvl fun st' hp hs => ⟨_, rfl, ?_⟩)
    (PyProof.Rows.args_list_sort _)))
  obtain ⟨ys, q1, q2, q3⟩ := sorted_out_str hS hp hs
  obtain ⟨c, hc⟩ := PyProof.Rows.sortedHeap_at (vs := vs) (out := (arrOf st').map (·.2)) hoL
  refine wpAny_pure ⟨_, rfl, hQ _ s1.heap.objs.size _ c ys (fun b u e => ?_) g1 o1 hz hc q1 (q2.trans pk) q3⟩
  have q := k1 b u e
  have hlt := Heap.lt_size q
  show (sortedHeap (s1.heap.push (seqObj "list" vs.toArray 0)) s1.heap.objs.size vs _).get? b = some u
  rw [PyProof.Rows.sortedHeap_old (Nat.ne_of_lt hlt) (by rw [size_push']; exact Nat.lt_succ_of_lt hlt)]
  exact Heap.get?_push_of_some _ q
end
/-! ### the rule -/
def ssetD : D → Option Op
  | .lst xs => (strz xs).bind fun ks => if ks.length < 64 then some (.f (.lst ((sortS (ded ks)).map .str))) else none
  | _ => none
theorem ssetD_nos : NoS1 ssetD := by
  intro d i h
  unfold ssetD at h
  split at h
  · cases hk : strz _ with
    | none => rw [hk] at h; cases h
    | some ks => rw [hk] at h; simp only [Option.bind_some] at h; split at h <;> cases h
  · cases h
def tSset (K : PySem.W.Frag) (ta : TE) : TE := fun σ H Q => ta σ H fun x H1 => ∃ (a : Addr) (xs : List Str), x = .ref a ∧ SqL K H1 a (xs.map V.str) ∧ xs.length < 64 ∧
  ∀ ys p, ys.Perm (ded xs) → sortedS ys = true → H1 p = none → Q (.ref p) (upd H1 p (.lst (ys.map V.str)))
section
variable {X : Cx} {C : Ct} {W : WX} {f : Fe}
theorem pe_tSset {a : Expr} {ta : TE} {p p2 q pos : Pos} (hc : X.calm = true) (hg : Gl X "sorted") (hm : X.mg "sorted" = none) (hg2 : Gl X "set") (hm2 : X.mg "set" = none) (ha : PE X a ta)
    (na : starEach [a] X.env = [(false, eval a X.env)]) : PE X (.Call (.Name "sorted" p) [.Call (.Name "set" p2) [a] [] q] [] pos) (tSset X.K ta) := by
  refine ⟨fun pins s σ H Q I h => ?_⟩
  have hb : bootBuiltins ("sorted" : Str) = some (.builtin "sorted") := by decide +kernel
  refine Call_ (ld_blt I hg hm hb ?_)
  refine PyProof.Rows.callWith_builtin1 (PyProof.Rows.args_cons ?_ rfl) rfl rfl
  refine Call_ (ld_blt I hg2 hm2 boot_set ?_)
  refine PyProof.Rows.callWith_type1 (PyProof.Rows.args_cons (thn (ha.run pins s σ H _ I h) fun v s1 ⟨x, H1, I1, r1, q1⟩ => PyProof.Rows.args_nil ?_) na) na rfl
  obtain ⟨l, xs, rfl, hq, h64, q1⟩ := q1
  cases r1
  obtain ⟨its, r, pl, hz⟩ := I1.list hq
  refine call_set_txts (I1.ok.hd hc) pl.isList (by simpa using r.strs) (by unfold scanBound; omega) fun h' tk hS hk => ?_
  have h64' : (ded xs).length < 64 := Nat.lt_of_le_of_lt (ded_len xs) h64
  refine PyProof.Rows.args_nil ?_
  have I2 : Inv X pins σ H1 { s1 with heap := h', toks := tk } := I1.kept fun b o e => hk b o (Heap.lt_size e) e
  refine sorted_txts (s := { s1 with heap := h', toks := tk }) hS (I2.ok.hd hc) h64' fun s' p out c ys k g o hp hgt hi hperm hsd => ?_
  have hlen : (ys.map V.str).length ≤ sizeLine := by rw [List.length_map, hperm.length_eq, sizeLine_eq]; omega
  have hn : H1 p = none := I2.hok.fresh hp
  have J : Inv X pins σ (upd H1 p (.lst (ys.map V.str))) { ({ s1 with heap := h', toks := tk } : Shared) with heap := s'.heap, gens := s'.gens, drawn := s'.drawn, toks := s'.toks } :=
    I2.call (ch := []) (Un.laid k hp hn) (I2.hok.laid k hp ⟨hlen, out.toList, c, vals_of_strs hi, hgt⟩) (by rw [g]; exact I2.bare) (fun _ z => nomatch z)
  have e : s' = { ({ s1 with heap := h', toks := tk } : Shared) with heap := s'.heap, gens := s'.gens, drawn := s'.drawn, toks := s'.toks } := by
    cases s'
    cases s1
    cases o
    rfl
  rw [e]
  exact ⟨.ref p, _, J, rfl, q1 ys p hperm hsd hn⟩
theorem pe_sset {e : Expr} {p p2 q pos : Pos} (k : C.K = X.K) (hc : X.calm = true) (hg : Gl X "sorted") (hm : X.mg "sorted" = none) (hg2 : Gl X "set") (hm2 : X.mg "set" = none) (ha : PE X e (tE C W f)) (hs : starEach [e] X.env = [(false, eval e X.env)]) :
    PE X (.Call (.Name "sorted" p) [.Call (.Name "set" p2) [e] [] q] [] pos) (tE C W (seq1 f (op1 ssetD))) := by
  refine PEimp (pe_tSset hc hg hm hg2 hm2 ha hs) fun σ H Q ⟨F, ρ, s, h⟩ => ?_
  refine ⟨F, ρ, s, Kw.bind h fun x ρ1 F1 H1 e1 g1 h1 v rv => ?_⟩
  unfold op1 at h1
  split at h1
  · rename_i d hd
    have rx := rv.read g1.sr hd
    obtain ⟨op, eo, dn⟩ := done_of g1.sr (fun x z => g1.h0 z) (ssetD_nos d) h1
    unfold ssetD at eo
    split at eo
    · rename_i xs
      cases hk : strz xs with
      | none => rw [hk] at eo; cases eo
      | some ks =>
        rw [hk] at eo
        simp only [Option.bind_some] at eo
        split at eo
        · rename_i hz
          cases eo
          cases rx with
          | @lst a vs _ s1 r1 =>
            refine ⟨a, ks, rfl, by rw [← strz_rep r1 hk]; exact .of s1, hz, fun ys p hp hsd n => ?_⟩
            rw [sort_eq hp hsd]
            exact dn.lst (strs_rep C _ _) n
        · cases eo
    · cases eo
  · exact h1.elim
end
end PyI
set_option maxHeartbeats 1000000
/-! PyI12d: displays of dicts, x[::-1], range(a, b), tuple(range(..)). -/
namespace PyI
open PySem PySem.Spec PyProof.Rows L2
/-! ### {k: v, ..} -/
@[simp] def dispL : List (Fe × Fe) → Env → Res (List (Key × D))
  | [], ρ => .ok [] ρ
  | (k, v) :: r, ρ => (frzE k ρ).bind fun x ρ1 => match x with
    | .v kd => (match keyD kd with
      | some key => (frzE v ρ1).bind fun y ρ2 => (match y with
        | .v d => (dispL r ρ2).bind fun kvs ρ3 => .ok ((key, d) :: kvs) ρ3
        | _ => .bad)
      | none => .bad)
    | _ => .bad
def mergeD (kvs : List (Key × D)) : List (Key × D) := kvs.foldl (fun a p => PyI.put a p.1 p.2) []
@[simp] def dispE (l : List (Fe × Fe)) : Fe := fun ρ => (dispL l ρ).bind fun kvs ρ1 => if kvs.length ≤ 15 then .ok (.f (.dic (mergeD kvs))) ρ1 else .bad
section
variable {C : Ct} {W : WX}
theorem repK_merge {F : Hp} {ds : List (Key × D)} : ∀ {vs : List (Key × V)} {as : List (Key × D)} {bs : List (Key × V)}, RepK C F ds vs → RepK C F as bs → RepK C F (ds.foldl (fun a p => PyI.put a p.1 p.2) as) (mergeK bs vs) := by
  induction ds with
  | nil => intro vs as bs h r; cases h; exact r
  | cons p ds ih =>
    intro vs as bs h r
    cases h with
    | @cons k d v _ vs' q t =>
      have h1 : RepK C F (ds.foldl (fun a p => PyI.put a p.1 p.2) (PyI.put as k d)) (mergeK (putK bs k v) vs') := ih t (r.put k q)
      exact h1
theorem pairs_imp : ∀ (l : List (Fe × Fe)) (w : Wd) (P : List (V × V) → Hp → Prop), SR C w → Kw C W w (fun _ _ => True) (dispL l w.en) →
    (∀ F2 H2 ρ2 kvs kvs', Go C w ⟨F2, H2, w.sg, ρ2⟩ → dispL l w.en = .ok kvs ρ2 → RepK C F2 kvs kvs' → P (kvs'.map fun kv => (kV kv.1, kv.2)) H2) →
    tPairs (l.map fun p => (tE C W (frzE p.1), tE C W (frzE p.2))) w.sg w.H P
  | [], w, P, s, h, k => k w.F w.H w.en [] [] (Go.refl s) rfl .nil
  | (fk, fv) :: r, w, P, s, h, k => by
    refine ⟨w.F, w.en, s, ?_⟩
    have h0 : Kw C W w (fun _ _ => True) ((frzE fk w.en).bind fun x ρ1 => match x with
      | .v kd => (match keyD kd with
        | some key => (frzE fv ρ1).bind fun y ρ2 => (match y with
          | .v d => (dispL r ρ2).bind fun kvs ρ3 => .ok ((key, d) :: kvs) ρ3
          | _ => .bad)
        | none => .bad)
      | _ => .bad) := h
    refine Kw.bind (R' := RE C w.H _) h0 fun x ρ1 F1 H1 e1 g1 h1 v rv => ?_
    cases x with
    | f d => exact h1.elim
    | s i => exact h1.elim
    | v kd =>
    cases hk : keyD kd with
    | none => simp only [hk] at h1; exact h1.elim
    | some key =>
    simp only [hk] at h1
    have hv : v = kV key := key_s hk (Rep.s g1.sr.le rv)
    refine ⟨F1, ρ1, g1.sr, Kw.bind (R' := RE C H1 _) h1 fun y ρ2 F2 H2 e2 g2 h2 u ru => ?_⟩
    cases y with
    | f d => exact h2.elim
    | s i => exact h2.elim
    | v d =>
    have ru' : Rep C F2 d u := ru
    have g12 := g1.trans g2
    refine pairs_imp r ⟨F2, H2, w.sg, ρ2⟩ _ g2.sr (Kw.bind (R' := fun _ _ => True) h2 fun _ _ _ _ _ _ _ => trivial) fun F3 H3 ρ3 kvs kvs' g3 e3 r3 => ?_
    have := k F3 H3 ρ3 ((key, d) :: kvs) ((key, u) :: kvs') (g12.trans g3) (by
        have e1' : frzE fk w.en = .ok (.v kd) ρ1 := e1
        have e2' : frzE fv ρ1 = .ok (.v d) ρ2 := e2
        have e3' : dispL r ρ2 = .ok kvs ρ3 := e3
        simp only [dispL, e1', Res.bind, hk, e2', e3']) (.cons (ru'.mono g3.le) r3)
    rw [hv]
    exact this
theorem disp_imp {l : List (Fe × Fe)} : ∀ σ H Q, tE C W (dispE l) σ H Q → tDisp (l.map fun p => (tE C W (frzE p.1), tE C W (frzE p.2))) σ H Q := by
  intro σ H Q ⟨F, ρ, s, h⟩ p hp
  have g0 := s.newHeap (o := .dK []) hp
  have no0 : ¬ Ow ⟨F, upd H p (.dK []), σ, ρ⟩ p := fun z => (s.owF z).2 hp
  refine pairs_imp l ⟨F, upd H p (.dK []), σ, ρ⟩ _ g0.sr (Kw.bind (R' := fun _ _ => True) (Kw.shift g0 h) fun _ _ _ _ _ _ _ => trivial) fun F2 H2 ρ2 kvs kvs' g2 e2 r2 => ?_
  have e2' : dispL l ρ = .ok kvs ρ2 := e2
  have h' : Kw C W ⟨F, H, σ, ρ⟩ (RE C H Q) (if kvs.length ≤ 15 then .ok (.f (.dic (mergeD kvs))) ρ2 else .bad) := by
    have h0 := h
    unfold dispE at h0
    rw [show dispL l (⟨F, H, σ, ρ⟩ : Wd).en = .ok kvs ρ2 from e2'] at h0
    exact h0
  split at h'
  · rename_i hz
    have hp0 : F p = none := s.le.nn hp
    have n0 : (upd H p (.dK [])) p ≠ none := by rw [upd_same]; exact fun z => nomatch z
    have hf2 : F2 p = none := g2.nF hp0 n0 no0
    have no2 : ¬ Ow ⟨F2, H2, σ, ρ2⟩ p := g2.nO n0 no0
    have hd2 : H2 p = some (.dK []) := (g2.kp p _ upd_same no0).eqF hf2
    refine ⟨hd2, kvs', rfl, by rw [r2.length]; exact hz, ?_⟩
    have gch := (g0.trans g2).chg (o := .dK (mergeK [] kvs')) hp hf2 no2
    exact h' F2 _ gch (.ref p) ⟨p, rfl, hp, hf2, no2, .dic upd_same (repK_merge r2 .nil)⟩
  · exact h'.elim
variable {X : Cx}
theorem pe_disps {pos : Pos} {ks : List (Option Expr)} {vs : List Expr} {l : List (Fe × Fe)} (h : PPs X pos ks vs (l.map fun p => (tE C W (frzE p.1), tE C W (frzE p.2)))) (hall : ks.all (·.isSome) = true) (hl : ks.length = vs.length) (h0 : ks ≠ []) (h15 : ks.length ≤ 15) :
    PE X (.Dict ks vs pos) (tE C W (dispE l)) := PEimp (pe_disp h hall hl h0 h15) disp_imp
end

/-! ### x[::-1] -/
theorem rev_places (n : Nat) : Builtin.Slice.sliceAdjust none none (-1) (n : Int) = ((n : Int) - 1, -1) ∧ Builtin.Slice.slicePlaces ((n : Int) - 1) (-1) (-1) = n := by
  refine ⟨rfl, ?_⟩
  unfold Builtin.Slice.slicePlaces
  rw [if_neg (by decide)]
  have e : -(-1 : Int) = 1 := rfl
  rw [e, Int.ediv_one]
  split <;> omega
theorem fm_some {α β : Type} {f : α → Option β} {g : α → β} : ∀ {l : List α}, (∀ x ∈ l, f x = some (g x)) → l.filterMap f = l.map g
  | [], _ => rfl
  | a :: l, h => by rw [List.filterMap_cons_some (h a (by simp)), List.map_cons, fm_some (l := l) fun x hx => h x (by simp [hx])]
theorem rev_pick (xs : Array Value) : ((List.range xs.size).filterMap fun (k : Nat) => xs[(((xs.size : Nat) : Int) - 1 + (k : Int) * (-1)).toNat]?) = xs.toList.reverse := by
  have h := fm_some (l := List.range xs.size) (f := fun (k : Nat) => xs[(((xs.size : Nat) : Int) - 1 + (k : Int) * (-1)).toNat]?) (g := fun k => xs.toList.getD (xs.size - 1 - k) .none) fun k hk => by
    have hk' := List.mem_range.mp hk
    have e : (((xs.size : Nat) : Int) - 1 + (k : Int) * (-1)).toNat = xs.size - 1 - k := by omega
    show xs[_]? = _
    have hlt : xs.size - 1 - k < xs.toList.length := by rw [Array.length_toList]; omega
    rw [e, ← Array.getElem?_toList, List.getD_eq_getElem?_getD, List.getElem?_eq_getElem hlt]
    rfl
  rw [h]
  refine List.ext_getElem (by simp) fun i h1 h2 => ?_
  have hi : i < xs.toList.length := by simpa using h2
  rw [List.getElem_map, List.getElem_range, List.getElem_reverse, List.getD_eq_getElem?_getD, List.getElem?_eq_getElem (by rw [Array.length_toList] at hi ⊢; omega)]
  simp only [Option.getD_some, Array.length_toList]
section
variable {prog : Program} {w : World} {A : Around} {E : Value → Shared → Prop} {s : Shared}
theorem applied_rev {sl : Addr} {n : Nat} {u : Tok} {Q : Int × Int × Nat → Shared → Prop} (hs : s.heap.IsSliceOf sl .none .none (.int (-1) u)) (h : Q ((n : Int) - 1, -1, n) s) :
    wpAny (model prog w) A (Builtin.Slice.sliceApplied (.ref sl) (pure (n : Int))) Q E s := by
  obtain ⟨os, hos, hcs, hds⟩ := id hs
  unfold Builtin.Slice.sliceApplied Builtin.Slice.sliceFields
  refine wpAny_bind (wpAny_bind (wpAny_field hos hds (x := .none) rfl (wpAny_bind (wpAny_field hos hds (x := .none) rfl (wpAny_bind (wpAny_field hos hds (x := .int (-1) u) rfl (wpAny_pure ?_)))))))
  refine wpAny_bind (slicePart_int ?_)
  show wpAny _ _ (if ((-1 : Int) == 0) = true then _ else _) _ _ s
  rw [if_neg (by decide)]
  refine wpAny_bind (slicePart_none (wpAny_bind (slicePart_none (wpAny_bind (wpAny_pure ?_)))))
  show wpAny _ _ (match Builtin.Slice.sliceAdjust none none (-1) (n : Int) with | (lo, hi) => pure (lo, (-1 : Int), Builtin.Slice.slicePlaces lo hi (-1))) _ _ s
  rw [(rev_places n).1]
  show wpAny _ _ (pure ((n : Int) - 1, (-1 : Int), Builtin.Slice.slicePlaces ((n : Int) - 1) (-1) (-1))) _ _ s
  rw [(rev_places n).2]
  exact wpAny_pure h
theorem getItem_tuple_rev {t sl : Addr} {items : Array Value} {u : Tok} {Q : Value → Shared → Prop} (ht : IsTup s.heap t items) (hs : s.heap.IsSliceOf sl .none .none (.int (-1) u)) (hz : items.size ≤ sizeLine)
    (h : Q (.ref s.heap.objs.size) { s with heap := s.heap.push { cls := .type "tuple", data := .seq items.toList.reverse.toArray } }) : wpAny (model prog w) A (getItem (.ref t) (.ref sl)) Q E s := by
  have hsz : sizeOk (.seq items.toList.reverse.toArray) := by
    show items.toList.reverse.toArray.size ≤ sizeLine
    rw [List.size_toArray, List.length_reverse, Array.length_toList]
    exact hz
  obtain ⟨os, hos, hcs, hds⟩ := id hs
  have hTs : s.TypeIs (.ref sl) "slice" := ⟨os, hos, hcs⟩
  unfold getItem
  try with_reducible refine wpAny_holding ?_
  first | refine wpAny_bind (wpAny_pure ?_) | skip
  refine wpAny_bind (wpAny_sequenceKey ht.typeIs (by decide) ?_)
  refine wpAny_bind (wpAny_callSpecial?_slot (name := Str.ofString "__getitem__") ht.typeIs PyProof.Rows.slot_tuple_getitem
    (wpAny_call_entry PyProof.Rows.slot_tuple_getitem ht.typeIs PyProof.Rows.entry_tuple_getitem ?_ (PyProof.Rows.args_tuple_getitem _ _)))
  show wpAny _ _ (Builtin.Tuple.tupleItemsOf (.ref t) >>= _) _ _ s
  refine wpAny_bind (tupleItemsOf_ ht ?_)
  refine wpAny_bind (wpAny_typeOf hTs ?_)
  rw [if_pos (by decide)]
  refine wpAny_bind (applied_rev hs ?_)
  have hno : ¬ ((((items.size : Int) - 1) == 0 && (-1 : Int) == 1 && items.size == items.size) = true) := by
    rw [show ((-1 : Int) == 1) = false from rfl, Bool.and_false, Bool.false_and]
    exact Bool.false_ne_true
  show wpAny _ _ (if (((items.size : Int) - 1) == 0 && (-1 : Int) == 1 && items.size == items.size) = true then _ else _) _ _ s
  rw [if_neg hno, rev_pick items]
  first
    | exact wpAny_bind (m := Builtin.Tuple.tupleExact _) (wpAny_newObj_type (wpAny_pure ⟨_, rfl, wpAny_pure h⟩) hsz)
    | exact wpAny_bind (m := Builtin.Tuple.tupleExact _) (wpAny_newObj_type (wpAny_bind (wpAny_pure (wpAny_pure ⟨_, rfl, wpAny_pure h⟩))) hsz)
    | exact wpAny_bind (wpAny_bind (m := Builtin.Tuple.tupleExact _) (wpAny_newObj_type (wpAny_pure (wpAny_pure ⟨_, rfl, wpAny_pure h⟩)) hsz))
    | exact wpAny_bind (wpAny_bind (m := Builtin.Tuple.tupleExact _) (wpAny_newObj_type (wpAny_pure ⟨_, rfl, wpAny_pure h⟩) hsz))
end
def tRevT (K : PySem.W.Frag) (te : TE) : TE := fun σ H Q => te σ H fun x H1 => ∃ a xs, x = .ref a ∧ SqT K H1 a xs ∧ ∀ p, H1 p = none → Q (.ref p) (upd H1 p (.tup xs.reverse))
abbrev revX (e : Expr) (k : Nat) (p1 p2 p3 pos : Pos) : Expr := .Subscript e (.Slice none none (some (.UnaryOp .USub (.Constant (.int 1) k p1) p2)) p3) pos
section
variable {X : Cx}
theorem pe_revT {e : Expr} {te : TE} {k : Nat} {p1 p2 p3 pos : Pos} (he : PE X e te) : PE X (revX e k p1 p2 p3 pos) (tRevT X.K te) := by
  refine ⟨fun pins s σ H Q I h => ?_⟩
  refine Subscript_ (thn (he.run pins s σ H _ I h) fun v s1 ⟨x, H1, I1, r1, q1⟩ => ?_)
  obtain ⟨a, xs, ex, hx, q⟩ := q1
  subst ex
  cases r1
  have hst : PO X (some (.UnaryOp .USub (.Constant (.int 1) k p1) p2)) (tPart (tUn (rU fun i => .int (-i)) (tC (.int 1)))) := po_some (pe_un un_neg pe_int)
  refine wpAny_Slice (thn (po_none.run pins s1 σ H1 (fun o H2 => o = none ∧ H2 = H1) I1 ⟨rfl, rfl⟩) fun vl s2 ⟨l, H2, I2, pl, el, e2⟩ => ?_)
  subst el e2
  refine thn (po_none.run pins s2 σ H2 (fun o H3 => o = none ∧ H3 = H2) I2 ⟨rfl, rfl⟩) fun vu s3 ⟨u, H3, I3, pu, eu, e3⟩ => ?_
  subst eu e3
  refine thn (hst.run pins s3 σ H3 (fun o H4 => o = some (-1) ∧ H4 = H3) I3 ⟨1, rfl, -1, rfl, rfl, rfl⟩) fun vs s4 ⟨o, H4, I4, ps, eo, e4⟩ => ?_
  subst eo e4
  cases pl
  cases pu
  obtain ⟨tk, rfl⟩ : ∃ t, vs = Value.int (-1) t := by cases ps; exact ⟨_, rfl⟩
  have I5 : Inv X pins σ H4 { s4 with heap := s4.heap.push { cls := .type "slice", data := .fields #[.none, .none, .int (-1) tk] } } := I4.kept (t' := s4.toks) fun b ob q => Heap.get?_push_of_some _ q
  obtain ⟨its, r, ht, hz⟩ := I5.tuple hx
  have hlen := r.length
  show wpAny (model X.prog X.w) X.A (subscriptTail e (.Slice none none (some (.UnaryOp .USub (.Constant (.int 1) k p1) p2)) p3) (.ref a) (.ref s4.heap.objs.size)) (EP X pins σ Q) X.xe { s4 with heap := s4.heap.push { cls := .type "slice", data := .fields #[.none, .none, .int (-1) tk] } }
  refine tail_any (ops := [.ref a, .ref s4.heap.objs.size]) ht.typeIs (PyProof.Rows.slot_tuple_getitem.lookup) ?_ (by with_unfolding_all rfl)
  refine getItem_tuple_rev ht (Heap.IsSliceOf.new _ .none .none _) (by rw [List.size_toArray]; omega) ?_
  refine ⟨.ref _, _, I5.laid (t' := s4.toks) (o := .tup xs.reverse) (fun b ob q => Heap.get?_push_of_some _ q) (Nat.le_refl _) ?_, rfl, q _ (I5.hok.fresh (Nat.le_refl _))⟩
  exact ⟨by rw [List.length_reverse]; exact hz, _, r.reverse, IsTup.new _ _⟩
@[simp] def revD : D → Option Op
  | .lst xs => some (.f (.lst xs.reverse))
  | .tup xs => some (.v (.tup xs.reverse))
  | _ => none
theorem revD_nos : NoS1 revD := by
  intro d i h
  unfold revD at h
  split at h <;> cases h
variable {C : Ct} {W : WX} {f : Fe}
theorem rev_imp (K : PySem.W.Frag) (hk : C.K = K) : ∀ σ H Q, tE C W (seq1 f (op1 revD)) σ H Q → tRevL K (tE C W f) σ H Q ∨ tRevT K (tE C W f) σ H Q := by
  subst hk
  intro σ H Q ⟨F, ρ, s, h⟩
  cases hf : f ρ with
  | bad => unfold seq1 at h; rw [show f (⟨F, H, σ, ρ⟩ : Wd).en = .bad from hf] at h; exact h.elim
  | exc c fs ρ1 =>
    left
    refine ⟨F, ρ, s, ?_⟩
    unfold seq1 at h
    rw [hf] at h
    rw [hf]
    exact h
  | ok op ρ1 =>
    have hs : seq1 f (op1 revD) ρ = op1 revD op ρ1 := by unfold seq1; rw [hf]; rfl
    cases hd : deref ρ1 op with
    | none => rw [hs] at h; unfold op1 at h; rw [hd] at h; exact h.elim
    | some d =>
      have fin : ∀ F1 H1, Go C ⟨F, H, σ, ρ⟩ ⟨F1, H1, σ, ρ1⟩ → ∀ v, RepOp C H ⟨F1, H1, σ, ρ1⟩ op v → ∃ op', revD d = some op' ∧ RepS C F1 H1 d v ∧ Le F1 H1 ∧ Done C F1 H1 Q op' := fun F1 H1 g1 v rv => by
        have h1 := Kw.shift (w := ⟨F, H, σ, ρ⟩) (F1 := F1) (H1 := H1) (ρ1 := ρ1) g1 h
        rw [hs] at h1
        unfold op1 at h1
        rw [hd] at h1
        obtain ⟨op', e1, e2⟩ := done_of g1.sr (fun x z => g1.h0 z) (revD_nos d) h1
        exact ⟨op', e1, rv.read g1.sr hd, g1.sr.le, e2⟩
      cases d with
      | lst xs =>
        left
        refine ⟨F, ρ, s, ?_⟩
        rw [hf]
        intro F1 H1 g1 v rv
        obtain ⟨op', e1, e2, le, dn⟩ := fin F1 H1 g1 v rv
        cases e1
        cases e2 with
        | @lst a vs _ s1 r1 => exact ⟨a, vs, rfl, .of s1, fun p n => dn.lst r1.reverse n⟩
      | tup xs =>
        right
        refine ⟨F, ρ, s, ?_⟩
        rw [hf]
        intro F1 H1 g1 v rv
        obtain ⟨op', e1, e2, le, dn⟩ := fin F1 H1 g1 v rv
        cases e1
        cases e2 with
        | @tup a vs _ s1 r1 => exact ⟨a, vs, rfl, le.sqT s1, fun p n => dn.tup le r1.reverse n⟩
      | _ =>
        rw [hs] at h; unfold op1 at h; rw [hd] at h; exact h.elim
theorem pe_rev {e : Expr} {k : Nat} {p1 p2 p3 pos : Pos} (hk : C.K = X.K) (he : PE X e (tE C W f)) : PE X (revX e k p1 p2 p3 pos) (tE C W (seq1 f (op1 revD))) :=
  PEimp (PEor (pe_revL he) (pe_revT he)) (rev_imp X.K hk)

/-! ### range(a, b), walked; tuple(range(n)) -/
@[simp] def rng2D (i j : Int) : Option (List D) := if -(2 ^ 62) ≤ i ∧ i < 2 ^ 62 ∧ -(2 ^ 62) ≤ j ∧ j < 2 ^ 62 then some ((List.range (j - i).toNat).map fun (k : Nat) => D.int (i + (k : Int))) else none
@[simp] def it2 (fa fb : Fe) : Fi := fun ρ => (frzE fa ρ).bind fun x ρ1 => match x with
  | .v (.int i) => (frzE fb ρ1).bind fun y ρ2 => (match y with
    | .v (.int j) => (match rng2D i j with
      | some l => .ok l ρ2
      | none => .bad)
    | _ => .bad)
  | _ => .bad
theorem rep_int {F : Hp} {i : Int} {v : V} (r : Rep C F (.int i) v) : v = .int i := by cases r; rfl
theorem pi_rng2 {tg a b : Expr} {p pos : Pos} {fa fb : Fe} (hg : Gl X "range") (hm : X.mg "range" = none) (ha : PE X a (tE C W fa)) (hb : PE X b (tE C W fb)) (hs : starEach [a, b] X.env = (false, eval a X.env) :: starEach [b] X.env) (hs2 : starEach [b] X.env = (false, eval b X.env) :: starEach [] X.env) :
    PI X tg (.Call (.Name "range" p) [a, b] [] pos) (tI C W (it2 fa fb)) := by
  refine PIimp (pi_range2 hg hm (pa_cons (pe_frz ha) (pa_cons (pe_frz hb) pa_nil hs2) hs) (by rw [hs, hs2]; rfl) hs2) ?_
  intro σ H R ⟨F, ρ, s, h⟩
  refine ⟨F, ρ, s, Kw.bind h fun x ρ1 F1 H1 e1 g1 h1 v rv => ?_⟩
  split at h1
  · rename_i i
    have ev := rep_int (C := C) (F := F1) rv
    subst ev
    refine ⟨F1, ρ1, g1.sr, Kw.bind h1 fun y ρ2 F2 H2 e2 g2 h2 u ru => ?_⟩
    split at h2
    · rename_i j
      have eu := rep_int (C := C) (F := F2) ru
      subst eu
      unfold rng2D at h2
      split at h2
      · rename_i l hl
        split at hl
        · rename_i hz
          cases hl
          exact ⟨i, j, rfl, hz, h2 F2 H2 (Go.refl g2.sr) _ fun w0 _ _ _ => it_rng⟩
        · cases hl
      · exact h2.elim
    · exact h2.elim
  · exact h1.elim
@[simp] def trgD : D → Option Op
  | .int n => if 0 ≤ n ∧ n ≤ 16777216 then some (.v (.tup ((List.range n.toNat).map fun (k : Nat) => D.int (0 + (k : Int))))) else none
  | _ => none
theorem trgD_nos : NoS1 trgD := by
  intro d i h
  unfold trgD at h
  split at h
  · split at h <;> cases h
  · cases h
theorem rg_rep {F : Hp} (a : Int) : ∀ l : List Nat, RepL C F (l.map fun (k : Nat) => D.int (a + (k : Int))) (l.map fun (k : Nat) => V.int (a + (k : Nat)))
  | [] => .nil
  | k :: l => .cons (.int _) (rg_rep a l)
theorem pe_tuprg {a : Expr} {p p2 q pos : Pos} (hc : X.calm = true) (hg : Gl X "tuple") (hm : X.mg "tuple" = none) (hg2 : Gl X "range") (hm2 : X.mg "range" = none) (ha : PE X a (tE C W f)) (na : starEach [a] X.env = (false, eval a X.env) :: starEach [] X.env) :
    PE X (.Call (.Name "tuple" p) [.Call (.Name "range" p2) [a] [] q] [] pos) (tE C W (seq1 f (op1 trgD))) := by
  refine PEimp (pe_tupRg hc hg hm (prg_1 hg2 hm2 ha na) rfl) fun σ H Q ⟨F, ρ, s, h⟩ => ?_
  refine ⟨F, ρ, s, Kw.bind h fun x ρ1 F1 H1 e1 g1 h1 v rv => ?_⟩
  unfold op1 at h1
  split at h1
  · rename_i d hd
    have rx := rv.read g1.sr hd
    obtain ⟨op, eo, dn⟩ := done_of g1.sr (fun x z => g1.h0 z) (trgD_nos d) h1
    unfold trgD at eo
    split at eo
    · rename_i n
      split at eo
      · rename_i hz
        cases eo
        cases rx
        refine ⟨n, rfl, .of_le (by omega) hz.2 (by omega) hz.1, fun p hp => ?_⟩
        have e : rgV 0 n = (List.range n.toNat).map fun (k : Nat) => V.int (0 + (k : Nat)) := by unfold rgV; rw [Int.sub_zero]
        rw [e]
        exact dn.tup g1.sr.le (rg_rep 0 _) hp
      · cases eo
    · cases eo
  · exact h1.elim
end
end PyI
set_option maxHeartbeats 1000000
/-! PyI13: the program as data, what it means, and how it is read off the text. -/
namespace PyI
open PySem PySem.Spec PyProof.Rows L2

/-- expressions, tests, walks, lists of expressions -/
inductive E where
  | var (i : Nat) | cst (d : D) | bin (o : Bop) (a b : E) | neg (a : E) | nt (a : E) | cmp (o : Cop) (a b : E) | chn (o p : Cop) (a b c : E)
  | an (a b : E) | orr (a b : E) | ite (t a b : E) | tup (a : E) | lst (a : E) | dnew | sub (a b : E) | slc (a lo hi : E) | nopart
  | bi (o : Bi) (a : E) | isi (t : Ty) (a : E) | join (a b : E) | call (f : Nat) (a : E) | frz (a : E) | mt (o : Mt) (j : Nat) (a : E)
  | lc (vs : List Nat) (t : T) (it c e : E) | dc (vs : List Nat) (t : T) (it c k e : E) | get (a k d : E) | get1 (a k : E) | copy (a : E) | sorted (a : E)
  | disp (a : E) | rev (a : E) | sset (a : E) | trg (a : E)
  -- tests
  | tv (a : E) | tt (a : E) | tnot (a : E) | tand (a b : E) | tor (a b : E) | tyes
  -- walks
  | iseq (a : E) | irng (a : E) | ien (a : E) | irng2 (a b : E)
  -- lists
  | anil | acons (a r : E)
  deriving Inhabited
abbrev CF := Nat → List Arg → CRes
def badE : Fe := fun _ => .bad
mutual
@[simp] def evE (cf : CF) : E → Fe
  | .var i => varE i
  | .cst d => cstE d
  | .bin o a b => seq2 (evE cf a) (evE cf b) (op2 (bop o))
  | .neg a => seq1 (evE cf a) (op1 negD)
  | .nt a => notE (evE cf a)
  | .cmp o a b => seq2 (evE cf a) (evE cf b) (op2 (cop o))
  | .chn o p a b c => chainE o p (evE cf a) (evE cf b) (evE cf c)
  | .an a b => andE (evE cf a) (evE cf b)
  | .orr a b => orE (evE cf a) (evE cf b)
  | .ite t a b => iteE (evT cf t) (evE cf a) (evE cf b)
  | .tup a => seqV (seqA (evL cf a)) tupD
  | .lst a => seqV (seqA (evL cf a)) lstD
  | .dnew => dnewE
  | .sub a b => seq2 (evE cf a) (evE cf b) (op2 ixD)
  | .slc a lo hi => seqSl (evE cf a) (evP cf lo) (evP cf hi)
  | .bi o a => seq1 (evE cf a) (op1 (biD o))
  | .isi t a => seq1 (evE cf a) (op1 (PyI.isi t))
  | .join a b => joinE (evE cf a) (evE cf b)
  | .call f a => callE (cf f) (seqA (evL cf a))
  | .frz a => frzE (evE cf a)
  | .mt o j a => mtE o j (seqA (evL cf a))
  | .lc vs t it c e => lcE vs t (evI cf it) (evT cf c) (frzE (evE cf e))
  | .dc vs t it c k e => dcE vs t (evI cf it) (evT cf c) (frzE (evE cf k)) (frzE (evE cf e))
  | .get a k d => getE (evE cf a) (evE cf k) (frzE (evE cf d))
  | .get1 a k => get1E (evE cf a) (evE cf k)
  | .copy a => seq1 (evE cf a) (op1 copyD)
  | .sorted a => seq1 (evE cf a) (op1 sortD)
  | .disp a => dispE (evPr cf a)
  | .rev a => seq1 (evE cf a) (op1 revD)
  | .sset a => seq1 (evE cf a) (op1 ssetD)
  | .trg a => seq1 (evE cf a) (op1 trgD)
  | _ => badE
@[simp] def evT (cf : CF) : E → Ft
  | .tv a => testE (evE cf a)
  | .tt a => truE (evE cf a)
  | .tnot a => notT (evT cf a)
  | .tand a b => andT (evT cf a) (evT cf b)
  | .tor a b => orT (evT cf a) (evT cf b)
  | .tyes => yesT
  | _ => fun _ => .bad
@[simp] def evI (cf : CF) : E → Fi
  | .iseq a => it1 seqD (evE cf a)
  | .irng a => it1 rngD (evE cf a)
  | .ien a => it1 enumD (evE cf a)
  | .irng2 a b => it2 (evE cf a) (evE cf b)
  | _ => fun _ => .bad
@[simp] def evPr (cf : CF) : E → List (Fe × Fe)
  | .acons k (.acons v r) => (evE cf k, evE cf v) :: evPr cf r
  | _ => []
@[simp] def evL (cf : CF) : E → List Fe
  | .acons a r => evE cf a :: evL cf r
  | _ => []
@[simp] def evP (cf : CF) : E → Option Fe
  | .nopart => none
  | .acons a _ => some (evE cf a)
  | _ => some badE
end
inductive S where
  | nx | br | ct | seq (a b : S) | drop (e : E) | ret (e : E) | retn | ifs (t : E) (a b : S) | set (i : Nat) (e : E) | asg (t : T) (e : E)
  | fors (t : T) (it : E) (b : S) | whil (n : Nat) (t : E) (b : S) | store (j : Nat) (i v : E) | aug (o : Bop) (i : Nat) (e : E)
  deriving Inhabited
@[simp] def evS (cf : CF) : S → Fs
  | .nx => nextS
  | .br => breakS
  | .ct => contS
  | .seq a b => seqS (evS cf a) (evS cf b)
  | .drop e => dropS (evE cf e)
  | .ret e => retS (evE cf e)
  | .retn => retNS
  | .ifs t a b => ifS (evT cf t) (evS cf a) (evS cf b)
  | .set i e => setS i (evE cf e)
  | .asg t e => asgS t (evE cf e)
  | .fors t it b => forS t (evI cf it) (evS cf b)
  | .whil n t b => whileL (evT cf t) (evS cf b) n
  | .store j i v => storeS j (evE cf i) (evE cf v)
  | .aug o i e => augS o i (evE cf e)

/-! ### reading the text -/
structure SE where
  N : List Str
  sc : Scope
  /-- may be stored though a cell -/
  asg : Str → Bool
  fns : List (Str × Nat × List Bool)
  cst : List (Str × D)
def SE.blk (se : SE) (scope : Scope) : SE := { se with sc := relS scope se.sc, asg := fun x => scope.names.lookup x == some .cell }
def visB (sc : Scope) (x : Str) : Bool := match sc.names.lookup x with
  | some .local => true
  | some .cell => true
  | some .free => true
  | _ => false
def locB (sc : Scope) (x : Str) : Bool := match sc.names.lookup x with
  | some .local => true
  | some .cell => true
  | _ => false
def okName (x : Str) : Bool := !(x == ("__debug__" : Str)) && !(x == ("__classdict__" : Str))
def glB (sc : Scope) (x : Str) : Bool := match sc.names.lookup x with
  | some .globalImplicit => true
  | _ => false
def ixN? (N : List Str) (x : Str) : Option Nat := N.findIdx? fun y => decide (y = x)
def cVar (se : SE) (x : Str) : Option Nat := if visB se.sc x && okName x then ixN? se.N x else none
def isLoc (sc : Scope) (x : Str) : Bool := match sc.names.lookup x with
  | some .local => true
  | _ => false
def isFn (sc : Scope) : Bool := match sc.kind with
  | .function => true
  | _ => false
def cLoc (se : SE) (x : Str) : Option Nat := if locB se.sc x && (se.asg x || isLoc se.sc x) then ixN? se.N x else none
def cName (se : SE) (x : Str) : Option E := match cVar se x with
  | some i => some (.var i)
  | none => if glB se.sc x && okName x then (se.cst.lookup x).map .cst else none
def cConst : Const → Option E
  | .none => some (.cst .non)
  | .bool b => some (.cst (.bl b))
  | .int i => some (.cst (.int i))
  | .str x => some (.cst (.str x))
  | _ => none
def bopOf : Operator → Option Bop
  | .Add => some .add | .Sub => some .sub | .Mult => some .mul | .FloorDiv => some .fdiv | .Mod => some .mod | .Pow => some .pow
  | _ => none
def copOf : CmpOp → Option Cop
  | .Eq => some .eq | .NotEq => some .ne | .Lt => some .lt | .LtE => some .le | .Gt => some .gt | .GtE => some .ge | .In => some .isin | .NotIn => some .notin | .Is => some .is_ | .IsNot => some .isnot
def notStar : Expr → Bool
  | .Starred _ _ => false
  | _ => true
def notSet : Expr → Bool
  | .Set _ _ _ => false
  | _ => true
def notSlice : Expr → Bool
  | .Slice _ _ _ _ => false
  | _ => true
def notCall : Expr → Bool
  | .Call _ _ _ _ => false
  | _ => true
def notComp : Expr → Bool
  | .ListComp _ _ _ _ => false
  | .SetComp _ _ _ _ => false
  | .DictComp _ _ _ _ _ => false
  | _ => true
def notTup : Expr → Bool
  | .Tuple _ _ _ => false
  | _ => true
/-- its test is its value's truth -/
def plainT : Expr → Bool
  | .UnaryOp _ _ _ => false
  | .BoolOp _ _ _ => false
  | .IfExp _ _ _ _ => false
  | .Compare _ _ _ _ => false
  | _ => true
structure Rec where
  e : SE → Expr → Option E
  t : SE → Expr → Option E
def cArgs (R : Rec) (se : SE) : List Expr → Option E
  | [] => some .anil
  | e :: es => if notStar e then (match R.e se e, cArgs R se es with
    | some a, some r => some (.acons (.frz a) r)
    | _, _ => none) else none
/-- arguments: true a reference, false a value -/
def cArgsM (R : Rec) (se : SE) : List Bool → List Expr → Option E
  | [], [] => some .anil
  | m :: ms, e :: es => if notStar e then (match R.e se e, cArgsM R se ms es with
    | some a, some r => some (.acons (if m then a else .frz a) r)
    | _, _ => none) else none
  | _, _ => none
def cPart (R : Rec) (se : SE) : Option Expr → Option E
  | none => some .nopart
  | some e => (R.e se e).map fun a => .acons a .anil
mutual
def cTg (se : SE) : Nat → Expr → Option T
  | 0, _ => none
  | n + 1, e => (match e with
    | .Name x _ => (cLoc se x).map .n
    | .Tuple es _ _ => (cTgs se n es).map .tup
    | _ => none)
def cTgs (se : SE) : Nat → List Expr → Option (List T)
  | 0, _ => none
  | n + 1, l => (match l with
    | [] => some []
    | e :: es => if notStar e then (match cTg se n e, cTgs se n es with
      | some t, some ts => some (t :: ts)
      | _, _ => none) else none)
end
def isTup : Expr → Bool
  | .Tuple _ _ _ => true
  | _ => false
def cIter (R : Rec) (se : SE) (tg : Expr) (e : Expr) : Option E := match e with
  | .Call (.Name x _) [a] [] _ => if notStar a && glB se.sc x && decide (x = "range") then (R.e se a).map .irng
    else if notStar a && glB se.sc x && decide (x = "enumerate") && isTup tg then (R.e se a).map .ien
    else (R.e se e).map .iseq
  | .Call (.Name x _) [a, b] [] _ => if notStar a && notStar b && glB se.sc x && decide (x = "range") then (match R.e se a, R.e se b with
      | some f, some g => some (.irng2 f g)
      | _, _ => none)
    else (R.e se e).map .iseq
  | _ => if notSet e then (R.e se e).map .iseq else none
def biOf (x : Str) : Option Bi :=
  if x = "len" then some .len else if x = "abs" then some .abs else if x = "int" then some .int else if x = "list" then some .list else if x = "tuple" then some .tuple
  else if x = "all" then some .all else if x = "any" then some .any else if x = "sum" then some .sum else none
def tyOf (x : Str) : Option Ty :=
  if x = "bool" then some .bool else if x = "int" then some .int else if x = "str" then some .str else if x = "tuple" then some .tuple else if x = "list" then some .list else if x = "dict" then some .dict else none
def mtOf (x : Str) (n : Nat) : Option Mt :=
  if x = "append" ∧ n = 1 then some .append else if x = "insert" ∧ n = 2 then some .insert else if x = "reverse" ∧ n = 0 then some .reverse else if x = "extend" ∧ n = 1 then some .extend else none
def cSorted (R : Rec) (se : SE) (a : Expr) : Option E := match a with
  | .Call (.Name y _) [b] [] _ => if decide (y = "set") && glB se.sc y && notStar b then (R.e se b).map .sset else (R.e se a).map .sorted
  | _ => (R.e se a).map .sorted
def cTrg (R : Rec) (se : SE) (x : Str) (a : Expr) : Option E := match a with
  | .Call (.Name y _) [b] [] _ => if decide (x = "tuple") && decide (y = "range") && glB se.sc y && notStar b then (R.e se b).map .trg else none
  | _ => none
def cCallN (R : Rec) (se : SE) (x : Str) (args : List Expr) : Option E := if glB se.sc x && okName x then (match se.fns.lookup x with
  | some (f, ms) => if args.isEmpty then none else (cArgsM R se ms args).map fun a => .call f a
  | none => (match args with
    | [a] => if notStar a then (if x = "sorted" then cSorted R se a else match cTrg R se x a with
      | some e => some e
      | none => (match biOf x, R.e se a with
        | some o, some r => some (.bi o r)
        | _, _ => none)) else none
    | [a, .Name y _] => if notStar a && decide (x = "isinstance") && glB se.sc y then (match tyOf y, R.e se a with
      | some t, some r => some (.isi t r)
      | _, _ => none) else none
    | _ => none)) else none
def cCallA (R : Rec) (se : SE) (o : Expr) (name : Str) (args : List Expr) (line : Bool) : Option E := if line = false then none else
  if name = "join" then (match args with
    | [a] => if notStar a && notCall o then (match R.e se o, R.e se a with
      | some f, some g => some (.join f g)
      | _, _ => none) else none
    | _ => none)
  else if name = "get" then (match args with
    | [k] => if notStar k && notCall o then (match R.e se o, R.e se k with
      | some f, some g => some (.get1 f g)
      | _, _ => none) else none
    | [k, d] => if notStar k && notStar d && notCall o then (match R.e se o, R.e se k, R.e se d with
      | some f, some g, some h => some (.get f g h)
      | _, _, _ => none) else none
    | _ => none)
  else if name = "copy" then (match args with
    | [] => if notCall o then (R.e se o).map .copy else none
    | _ => none)
  else (match o with
    | .Name x _ => (match cVar se x, mtOf name args.length with
      | some j, some m => if args.length < 29 then (cArgs R se args).map fun a => .mt m j a else none
      | _, _ => none)
    | _ => none)
def ownOf (N : List Str) (scope : Scope) : List (Str × Nat) := scope.names.filterMap fun y => match y.2 with
  | .local => (ixN? N y.1).map fun i => (y.1, i)
  | .cell => (ixN? N y.1).map fun i => (y.1, i)
  | _ => none
def cIfs (R : Rec) (se : SE) : List Expr → Option E
  | [] => some .tyes
  | [c] => R.t se c
  | _ => none
def cLc (R : Rec) (se : SE) (elt tg iter : Expr) (ifs : List Expr) (scope : Scope) : Option E :=
  if blkC se.N se.sc scope (ownOf se.N scope) && notSet iter then
    (match cIter R se tg iter, cTg (se.blk scope) 9 tg, cIfs R (se.blk scope) ifs, R.e (se.blk scope) elt with
    | some it, some t, some c, some e => if (slotsT t).all fun j => ((ownOf se.N scope).map (·.2)).contains j then some (.lc ((ownOf se.N scope).map (·.2)) t it c e) else none
    | _, _, _, _ => none) else none
def cDc (R : Rec) (se : SE) (kx elt tg iter : Expr) (ifs : List Expr) (scope : Scope) : Option E :=
  if blkC se.N se.sc scope (ownOf se.N scope) && notSet iter then
    (match cIter R se tg iter, cTg (se.blk scope) 9 tg, cIfs R (se.blk scope) ifs, R.e (se.blk scope) kx, R.e (se.blk scope) elt with
    | some it, some t, some c, some k, some e => if (slotsT t).all fun j => ((ownOf se.N scope).map (·.2)).contains j then some (.dc ((ownOf se.N scope).map (·.2)) t it c k e) else none
    | _, _, _, _, _ => none) else none
def cBool (R : Rec) (se : SE) (isAnd : Bool) : List Expr → Option E
  | [] => none
  | [a] => R.e se a
  | a :: b :: r => (match R.e se a, cBool R se isAnd (b :: r) with
    | some f, some g => some (if isAnd then .an f g else .orr f g)
    | _, _ => none)
def cBoolT (R : Rec) (se : SE) (isAnd : Bool) : List Expr → Option E
  | [] => none
  | [a] => R.t se a
  | a :: b :: r => (match R.t se a, cBoolT R se isAnd (b :: r) with
    | some f, some g => some (if isAnd then .tand f g else .tor f g)
    | _, _ => none)
def cCmp (R : Rec) (se : SE) (a : Expr) (ops : List CmpOp) (bs : List Expr) : Option E := match ops, bs with
  | [o], [b] => if notSet b then (match copOf o, R.e se a, R.e se b with
    | some o', some f, some g => some (.cmp o' f g)
    | _, _, _ => none) else none
  | [o, p], [b, c] => if notSet c then (match copOf o, copOf p, R.e se a, R.e se b, R.e se c with
    | some o', some p', some f, some g, some h => some (.chn o' p' f g h)
    | _, _, _, _, _ => none) else none
  | _, _ => none
def isAndB : BoolOp → Bool
  | .And => true
  | .Or => false
def cBin (R : Rec) (se : SE) (a : Expr) (o : Operator) (b : Expr) : Option E := match bopOf o, R.e se a, R.e se b with
  | some o', some f, some g => some (.bin o' f g)
  | _, _, _ => none
def cUn (R : Rec) (se : SE) (o : UnaryOp) (a : Expr) : Option E := match o with
  | .USub => (R.e se a).map .neg
  | .Not => (R.e se a).map .nt
  | _ => none
def cIte (R : Rec) (se : SE) (c a b : Expr) : Option E := match R.t se c, R.e se a, R.e se b with
  | some t, some f, some g => some (.ite t f g)
  | _, _, _ => none
def cSub (R : Rec) (se : SE) (a i : Expr) : Option E := match i with
  | .Slice none none (some (.UnaryOp .USub (.Constant (.int 1) _ _) _)) _ => (R.e se a).map .rev
  | .Slice lo hi none _ => (match R.e se a, cPart R se lo, cPart R se hi with
    | some f, some l, some h => some (.slc f l h)
    | _, _, _ => none)
  | i => if notSlice i then (match R.e se a, R.e se i with
    | some f, some g => some (.sub f g)
    | _, _ => none) else none
def cDisp (R : Rec) (se : SE) : List (Option Expr) → List Expr → Option E
  | [], [] => some .anil
  | some k :: ks, v :: vs => (match R.e se k, R.e se v, cDisp R se ks vs with
    | some f, some g, some r => some (.acons f (.acons g r))
    | _, _, _ => none)
  | _, _ => none
def stepE (R : Rec) (se : SE) : Expr → Option E
  | .Name x _ => cName se x
  | .Constant c _ _ => cConst c
  | .BinOp a o b _ => cBin R se a o b
  | .UnaryOp o a _ => cUn R se o a
  | .Compare a ops bs _ => cCmp R se a ops bs
  | .BoolOp o vs _ => cBool R se (isAndB o) vs
  | .IfExp c a b _ => cIte R se c a b
  | .Tuple es _ _ => (cArgs R se es).map .tup
  | .List es _ => (cArgs R se es).map .lst
  | .Dict [] [] _ => some .dnew
  | .Dict (k :: ks) vs _ => if ks.length < 15 then (cDisp R se (k :: ks) vs).map .disp else none
  | .Subscript a i _ => cSub R se a i
  | .Call (.Name x _) args [] _ => cCallN R se x args
  | .Call (.Attribute o name apos) args [] pos => cCallA R se o name args (apos.endLine == pos.line)
  | .ListComp elt [⟨tg, iter, ifs, 0⟩] scope _ => cLc R se elt tg iter ifs scope
  | .DictComp kx elt [⟨tg, iter, ifs, 0⟩] scope _ => cDc R se kx elt tg iter ifs scope
  | _ => none
def stepT (R : Rec) (se : SE) : Expr → Option E
  | .Compare a ops bs _ => (cCmp R se a ops bs).map .tv
  | .UnaryOp .Not a _ => (R.t se a).map .tnot
  | .BoolOp o vs _ => cBoolT R se (isAndB o) vs
  | e => if plainT e then (R.e se e).map .tt else none
def recN : Nat → Rec
  | 0 => ⟨fun _ _ => none, fun _ _ => none⟩
  | n + 1 => ⟨stepE (recN n), stepT (recN n)⟩
/-! statements -/
def cAssign (R : Rec) (se : SE) (line : Nat) (tg e : Expr) : Option S := match tg with
  | .Name x py => (match cLoc se x, R.e se e with
    | some i, some f => (match e with
      | .ListComp _ _ _ _ => if isFn se.sc then some (.set i f) else none
      | .DictComp _ _ _ _ _ => if isFn se.sc then some (.set i f) else none
      | e => if notComp e then some (.set i f) else none)
    | _, _ => none)
  | .Tuple es k p => if notComp e && notTup e then (match cTg se 9 (.Tuple es k p), R.e se e with
    | some t, some f => some (.asg t f)
    | _, _ => none) else none
  | .Subscript (.Name x _) i _ => if notComp e && notSlice i then (match cVar se x, R.e se i, R.e se e with
    | some j, some f, some g => some (.store j f g)
    | _, _, _ => none) else none
  | _ => none
def cStep (R : Rec) (B : SE → List Stmt → Option S) (se : SE) : Stmt → Option S
  | .Return (some e) _ => (R.e se e).map .ret
  | .Return none _ => some .retn
  | .Assign [tg] e pos => cAssign R se pos.line tg e
  | .AugAssign (.Name x _) o e _ => (match cLoc se x, bopOf o, R.e se e with
    | some i, some o', some f => some (.aug o' i f)
    | _, _, _ => none)
  | .If c a b _ => (match R.t se c, B se a, B se b with
    | some t, some p, some q => some (.ifs t p q)
    | _, _, _ => none)
  | .For tg iter body [] _ => if notSet iter then (match cIter R se tg iter, cTg se 9 tg, B se body with
    | some it, some t, some p => some (.fors t it p)
    | _, _, _ => none) else none
  | .While c body [] _ => (match R.t se c, B se body with
    | some t, some p => some (.whil 100000 t p)
    | _, _ => none)
  | .Expr (.Constant (.str _) _ _) _ => some .nx
  | .Expr e _ => if notComp e then (R.e se e).map .drop else none
  | .Pass _ => some .nx
  | .Break _ => some .br
  | .Continue _ => some .ct
  | _ => none
def cBlk (S1 : SE → Stmt → Option S) (se : SE) : List Stmt → Option S
  | [] => some .nx
  | s :: r => (match S1 se s, cBlk S1 se r with
    | some a, some b => some (match r with | [] => a | _ => .seq a b)
    | _, _ => none)
def stmtN (R : Rec) : Nat → SE → Stmt → Option S
  | 0, _, _ => none
  | n + 1, se, st => cStep R (fun se l => cBlk (stmtN R n) se l) se st
def blockN (n : Nat) (se : SE) (l : List Stmt) : Option S := cBlk (stmtN (recN n) n) se l
end PyI
set_option maxHeartbeats 1000000
/-! PyI14: the text keeps to its reading. -/
namespace PyI
open PySem PySem.Spec PyProof.Rows L2

/-- a def's data -/
structure FnI where
  slots : Nat
  np : Nat
  body : S
  deriving Inhabited
@[simp] def slotOf : Arg → Slot
  | .v d => .val d
  | .r d => .own true d
@[simp] def outD : Slot → D
  | .own _ d => d
  | _ => .non
@[simp] def outsOf (n : Nat) (ρ : Env) : List D := (ρ.take n).map outD
@[simp] def callBody (cf : CF) (g : FnI) (ar : List Arg) : CRes := match evS cf g.body (ar.map slotOf ++ List.replicate (g.slots - ar.length) .no) with
  | .nx ρ => .ok (.v .non) (outsOf ar.length ρ)
  | .ret (.v d) ρ => .ok (.v d) (outsOf ar.length ρ)
  | .ret (.f d) ρ => .ok (.f d) (outsOf ar.length ρ)
  | .exc c fs ρ => .exc c fs (outsOf ar.length ρ)
  | _ => .bad
def callF (G : List FnI) : Nat → CF
  | 0, _, _ => .bad
  | n + 1, f, ar => match G[f]? with
    | some g => callBody (callF G n) g ar
    | none => .bad

/-! ### what the context grants -/
def bltN : List Str := ["range", "enumerate", "len", "abs", "int", "list", "tuple", "all", "any", "sum", "isinstance", "bool", "str", "dict", "sorted", "set"]
structure Good (C : Ct) (cf : CF) (X : Cx) (se : SE) : Prop where
  N : X.N = se.N
  nd : X.N.Nodup
  sc : X.env.scope = se.sc
  fn : ∀ x, se.asg x = true → X.fn x = true
  calm : X.calm = true
  K : C.K = X.K
  un : X.A.units + 150 < cLine
  fns : ∀ x f ms, se.fns.lookup x = some (f, ms) → ∃ k a fd ps, X.mg x = some (.ref a) ∧ PySem.W.keepIn X.K (.ref a) = true ∧ FnOk X.prog X.w X.K X.mg X.base (L2.CX X.prog X.w) k a fd ps (spI C ms.length (cf f)) ∧ Room k X.A ∧ Binds X.K fd ps []
  cst : ∀ x d, se.cst.lookup x = some d → ∃ u v, X.mg x = some u ∧ RelV v u ∧ ∀ F, Rep C F d v
  blt : ∀ x ∈ bltN, X.mg x = none
theorem Good.blk {C : Ct} {cf : CF} {X : Cx} {se : SE} (g : Good C cf X se) (scope : Scope) (s : Shared) (H : Hp) (A : Addr) (cl : List (Str × Addr)) (fp : List Addr) : Good C cf (X.blk s H scope (compEnvC scope cl A X.env) fp) (se.blk scope) where
  N := g.N
  nd := g.nd
  sc := by
    show relabel scope X.env = relS scope se.sc
    rw [← g.sc]
    rfl
  fn := fun x h => h
  calm := g.calm
  K := g.K
  un := g.un
  fns := g.fns
  cst := g.cst
  blt := g.blt
theorem takes_blk {X : Cx} (scope : Scope) (s : Shared) (H : Hp) (cenv : L2.St → Env → Env) {env : PySem.Env} (fp : List Addr) : Takes (X.blk s H scope env fp) WF := by
  intro u s' h
  obtain ⟨_, _, _, _, _, _, _, _, _, _, _, _, _, _, _, _, w⟩ := h
  exact w
structure Snd (C : Ct) (cf : CF) (R : Rec) : Prop where
  e : ∀ {X : Cx} {W : WX} {se : SE} {e : Expr} {ir : E}, Good C cf X se → Takes X W → R.e se e = some ir → PE X e (tE C W (evE cf ir))
  t : ∀ {X : Cx} {W : WX} {se : SE} {e : Expr} {ir : E}, Good C cf X se → Takes X W → R.t se e = some ir → PT X e (tT C W (evT cf ir))
  s : ∀ {X : Cx} {W : WX} {se : SE} {elt : Expr} {gs : List Comprehension} {scope : Scope} {lpos : Pos} {i : Nat} {x : Str} {py spos : Pos} {ir : E}, Good C cf X se → Takes X W → X.N[i]? = some x → X.env.scope.names.lookup x = some .local →
    swapsWith (.ListComp elt gs scope lpos) (some (.Name x py)) spos.line X.env = pure true → R.e se (.ListComp elt gs scope lpos) = some ir → PS X (.Assign [.Name x py] (.ListComp elt gs scope lpos) spos) (tS C W (evS cf (.set i ir)))
  sd : ∀ {X : Cx} {W : WX} {se : SE} {kx elt : Expr} {gs : List Comprehension} {scope : Scope} {lpos : Pos} {i : Nat} {x : Str} {py spos : Pos} {ir : E}, Good C cf X se → Takes X W → X.N[i]? = some x → X.env.scope.names.lookup x = some .local →
    swapsWith (.DictComp kx elt gs scope lpos) (some (.Name x py)) spos.line X.env = pure true → R.e se (.DictComp kx elt gs scope lpos) = some ir → PS X (.Assign [.Name x py] (.DictComp kx elt gs scope lpos) spos) (tS C W (evS cf (.set i ir)))

/-! ### names -/
theorem ixN_get {N : List Str} {x : Str} {i : Nat} (h : ixN? N x = some i) : N[i]? = some x := by
  unfold ixN? at h
  obtain ⟨hl, hp, _⟩ := List.findIdx?_eq_some_iff_getElem.mp h
  rw [List.getElem?_eq_getElem hl]
  exact congrArg some (of_decide_eq_true hp)
theorem visB_vis {sc : Scope} {x : Str} (h : visB sc x = true) : Vis sc x := by
  unfold visB at h
  unfold Vis
  split at h
  · rename_i e; exact .inl e
  · rename_i e; exact .inr (.inl e)
  · rename_i e; exact .inr (.inr e)
  · cases h
theorem isLoc_of {sc : Scope} {x : Str} (h : isLoc sc x = true) : sc.names.lookup x = some .local := by
  unfold isLoc at h
  split at h
  · rename_i e; exact e
  · cases h
theorem isFn_of {sc : Scope} (h : isFn sc = true) : sc.kind = .function := by
  unfold isFn at h
  split at h
  · rename_i e; exact e
  · cases h
theorem locB_loc {sc : Scope} {x : Str} (h : locB sc x = true) : L2.Loc sc x := by
  unfold locB at h
  unfold L2.Loc
  split at h
  · rename_i e; exact .inl e
  · rename_i e; exact .inr e
  · cases h
theorem okName_of {x : Str} (h : okName x = true) : (x == ("__debug__" : Str)) = false ∧ (x == ("__classdict__" : Str)) = false := by
  unfold okName at h
  simpa using h
theorem glB_gl {X : Cx} {sc : Scope} {x : Str} (e : X.env.scope = sc) (h : glB sc x = true) : Gl X x := by
  unfold glB at h
  split at h
  · rename_i q
    show X.env.scope.names.lookup x = _
    rw [e]; exact q
  · cases h
section
variable {C : Ct} {cf : CF} {X : Cx} {W : WX} {se : SE} {R : Rec}
theorem cVar_ok (g : Good C cf X se) {x : Str} {i : Nat} (h : cVar se x = some i) : X.N[i]? = some x ∧ Vis X.env.scope x ∧ (x == ("__debug__" : Str)) = false ∧ (x == ("__classdict__" : Str)) = false := by
  unfold cVar at h
  split at h
  · rename_i hb
    obtain ⟨h1, h2⟩ := Bool.and_eq_true_iff.mp hb
    obtain ⟨h3, h4⟩ := okName_of h2
    exact ⟨by rw [g.N]; exact ixN_get h, by rw [g.sc]; exact visB_vis h1, h3, h4⟩
  · cases h
theorem cLoc_ok (g : Good C cf X se) {x : Str} {i : Nat} (h : cLoc se x = some i) : X.N[i]? = some x ∧ L2.Loc X.env.scope x ∧ (X.fn x = true ∨ X.env.scope.names.lookup x = some .local) := by
  unfold cLoc at h
  split at h
  · rename_i hb
    obtain ⟨h1, h2⟩ := Bool.and_eq_true_iff.mp hb
    refine ⟨by rw [g.N]; exact ixN_get h, by rw [g.sc]; exact locB_loc h1, ?_⟩
    rcases Bool.or_eq_true_iff.mp h2 with h3 | h3
    · exact .inl (g.fn x h3)
    · right
      rw [g.sc]
      exact isLoc_of h3
  · cases h
theorem snd_name (g : Good C cf X se) {x : Str} {p : Pos} {ir : E} (h : cName se x = some ir) : PE X (.Name x p) (tE C W (evE cf ir)) := by
  unfold cName at h
  split at h
  · rename_i i hi
    cases h
    obtain ⟨h1, h2, h3, h4⟩ := cVar_ok g hi
    exact pe_v h1 h2 h3 h4
  · split at h
    · rename_i hb
      obtain ⟨h1, h2⟩ := Bool.and_eq_true_iff.mp hb
      cases hc : se.cst.lookup x with
      | none => rw [hc] at h; cases h
      | some d =>
        rw [hc] at h
        cases h
        obtain ⟨u, v, m1, m2, m3⟩ := g.cst x d hc
        exact pe_c (pe_glob (glB_gl g.sc h1) m1 m2 (okName_of h2).1) m3
    · cases h
theorem snd_const {c : Const} {k : Nat} {p : Pos} {ir : E} (h : cConst c = some ir) : PE X (.Constant c k p) (tE C W (evE cf ir)) := by
  cases c with
  | none => cases h; exact pe_c pe_non fun F => .non
  | bool b => cases h; exact pe_c pe_bl fun F => .bl b
  | int i => cases h; exact pe_c pe_int fun F => .int i
  | str x => cases h; exact pe_c pe_str fun F => .str x
  | _ => cases h

/-! ### side conditions by the form -/
theorem star_of {e : Expr} {es : List Expr} {env : PySem.Env} (h : notStar e = true) : starEach (e :: es) env = (false, eval e env) :: starEach es env := by
  cases e <;> first | rfl | cases h
theorem plain_of : ∀ {es : List Expr} {env : PySem.Env} {pos : Pos}, es.all notStar = true → (backTo pos (starEach es env)).any (·.1) = false
  | [], _, _, _ => rfl
  | e :: es, env, pos, h => by
    have h' : notStar e = true ∧ es.all notStar = true := by simpa using h
    rw [star_of h'.1]
    have := plain_of (env := env) (pos := pos) h'.2
    unfold backTo at this ⊢
    rw [List.map_cons, List.any_cons, this]
    rfl
theorem few_of : ∀ {es : List Expr} {env : PySem.Env} {pos : Pos}, es.all notStar = true → (backTo pos (starEach es env)).all (fun x => !x.1) = true
  | [], _, _, _ => rfl
  | e :: es, env, pos, h => by
    have h' : notStar e = true ∧ es.all notStar = true := by simpa using h
    rw [star_of h'.1]
    have := few_of (env := env) (pos := pos) h'.2
    unfold backTo at this ⊢
    rw [List.map_cons, List.all_cons, this]
    rfl
theorem asgEach_of {e : Expr} {es : List Expr} {env : PySem.Env} (h : notStar e = true) : assignEach (e :: es) env = (false, assign e env) :: assignEach es env := by
  cases e <;> first | rfl | cases h
theorem base_of {o : Expr} {a : Str} {env : PySem.Env} (h : notCall o = true) : attributeBase o a env (eval o env) = eval o env := by
  cases o <;> first | rfl | cases h
theorem set_of {e : Expr} {env : PySem.Env} (h : notSet e = true) : ∀ x, foldedSetIterable e env x = pure x := by
  intro x
  cases e <;> first | rfl | cases h
theorem marks_of {op : CmpOp} {b : Expr} (h : notSet b = true) : behindInMarks op b = false := by
  cases b <;> first | rfl | cases h
theorem lmarks_of {o p : CmpOp} {b c : Expr} (h : notSet c = true) : lastMarks [o, p] [b, c] = false := by
  show behindInMarks p c = false
  exact marks_of h
theorem slice_of {b : Expr} (h : notSlice b = true) : PlainIx b := by
  intro o i
  cases b <;> first | rfl | cases h
theorem tru_of {e : Expr} {env : PySem.Env} (h : plainT e = true) : ∀ whole, isTrue e env whole = (do let v ← whole; standAt e.pos; holding [v] (truthy v)) := by
  intro whole
  cases e <;> first | rfl | cases h
theorem swap_of {e : Expr} {t : Option Expr} {l : Nat} {env : PySem.Env} (h : notComp e = true) : swapsWith e t l env = pure false := by
  cases e <;> first | rfl | cases h
theorem swapS_of {e t : Expr} {l : Nat} {env : PySem.Env} (h : notComp e = true) : swapsWithSole [t] e l env = pure false := swap_of h
theorem swapped_of {e t : Expr} {env : PySem.Env} (h : notTup e = true) : swappedStores [t] e env = pure none := by
  cases t <;> cases e <;> first | rfl | cases h
theorem swapped_of2 {o i e : Expr} {p : Pos} {env : PySem.Env} : swappedStores [.Subscript o i p] e env = pure none := by
  cases e <;> rfl
theorem asgSub_of {o i : Expr} {pos : Pos} {env : PySem.Env} (h : notSlice i = true) : ∀ v, assign (.Subscript o i pos) env v = (do
      let ov ← holding [v] (eval o env)
      let iv ← holding [v, ov] (eval i env)
      standAt pos
      holding [v, ov, iv] (setItem ov iv v)
      release [v, ov, iv] []) := by
  intro v
  cases i <;> first | rfl | cases h
end
end PyI
set_option maxHeartbeats 1000000
/-! PyI15: the text keeps to its reading: expressions. -/
namespace PyI
open PySem PySem.Spec PyProof.Rows L2
section
variable {C : Ct} {cf : CF} {X : Cx} {W : WX} {se : SE} {R : Rec}
theorem snd_args (sn : Snd C cf R) (g : Good C cf X se) (tk : Takes X W) : ∀ {es : List Expr} {ir : E}, cArgs R se es = some ir → PA X es (tA C W (seqA (evL cf ir))) ∧ es.all notStar = true
  | [], ir, h => by cases h; exact ⟨pa_n, rfl⟩
  | e :: es, ir, h => by
    simp only [cArgs] at h
    split at h
    · rename_i hs
      split at h
      · rename_i a r h1 h2
        cases h
        obtain ⟨i1, i2⟩ := snd_args sn g tk h2
        exact ⟨pa_c (pe_frz (sn.e g tk h1)) i1 (star_of hs), by simp [hs, i2]⟩
      · cases h
    · cases h
theorem snd_argsM (sn : Snd C cf R) (g : Good C cf X se) (tk : Takes X W) : ∀ {ms : List Bool} {es : List Expr} {ir : E}, cArgsM R se ms es = some ir → PA X es (tA C W (seqA (evL cf ir))) ∧ es.all notStar = true ∧ (evL cf ir).length = ms.length
  | [], [], ir, h => by cases h; exact ⟨pa_n, rfl, rfl⟩
  | [], _ :: _, ir, h => by cases h
  | _ :: _, [], ir, h => by cases h
  | m :: ms, e :: es, ir, h => by
    simp only [cArgsM] at h
    split at h
    · rename_i hs
      split at h
      · rename_i a r h1 h2
        cases h
        obtain ⟨i1, i2, i3⟩ := snd_argsM sn g tk h2
        refine ⟨?_, by simp [hs, i2], by simp [evL, i3]⟩
        cases m with
        | true => exact pa_c (sn.e g tk h1) i1 (star_of hs)
        | false => exact pa_c (pe_frz (sn.e g tk h1)) i1 (star_of hs)
      · cases h
    · cases h
theorem seqA_len : ∀ {fs : List Fe} {ρ ρ1 : Env} {ops : List Op}, seqA fs ρ = .ok ops ρ1 → ops.length = fs.length
  | [], ρ, ρ1, ops, h => by cases h; rfl
  | f :: fs, ρ, ρ1, ops, h => by
    simp only [seqA] at h
    cases hf : f ρ with
    | bad => rw [hf] at h; cases h
    | exc _ _ _ => rw [hf] at h; cases h
    | ok op ρ2 =>
      rw [hf] at h
      simp only [Res.bind] at h
      cases hr : seqA fs ρ2 with
      | bad => rw [hr] at h; cases h
      | exc _ _ _ => rw [hr] at h; cases h
      | ok ops2 ρ3 => rw [hr] at h; cases h; simp [seqA_len hr]
/-! targets -/
mutual
theorem snd_tg (g : Good C cf X se) : ∀ {n : Nat} {e : Expr} {t : T}, cTg se n e = some t → PG X e (tG C t)
  | 0, _, _, h => by cases h
  | n + 1, e, t, h => by
    simp only [cTg] at h
    split at h
    · rename_i x p
      cases hi : cLoc se x with
      | none => rw [hi] at h; cases h
      | some i =>
        rw [hi] at h; cases h
        obtain ⟨h1, h2, h3⟩ := cLoc_ok g hi
        exact pg_n g.nd h1 h2 h3
    · rename_i es k p
      cases hi : cTgs se n es with
      | none => rw [hi] at h; cases h
      | some ts =>
        rw [hi] at h; cases h
        obtain ⟨h1, h2, h3, h4⟩ := snd_tgs g hi
        exact pg_t g.K g.calm h2 h1 h3 h4
    · cases h
theorem snd_tgs (g : Good C cf X se) : ∀ {n : Nat} {es : List Expr} {ts : List T}, cTgs se n es = some ts → PGs X es (tGs C ts) ∧ es.length = ts.length ∧ (assignEach es X.env).length = es.length ∧ (assignEach es X.env).findIdx? (·.1) = none
  | 0, _, _, h => by cases h
  | n + 1, es, ts, h => by
    simp only [cTgs] at h
    split at h
    · cases h; exact ⟨pgs_n, rfl, rfl, rfl⟩
    · rename_i e es
      split at h
      · rename_i hs
        split at h
        · rename_i t ts h1 h2
          cases h
          obtain ⟨i1, i2, i3, i4⟩ := snd_tgs g h2
          have ha := asgEach_of (es := es) (env := X.env) hs
          refine ⟨pgs_c (snd_tg g h1) i1 (by rw [ha]; rfl), by simp [i2], by rw [ha]; simp [i3], ?_⟩
          rw [ha, List.findIdx?_cons]
          simp [i4]
        · cases h
      · cases h
end
/-! walks -/
theorem snd_iter (sn : Snd C cf R) (g : Good C cf X se) (tk : Takes X W) {tg e : Expr} {ir : E} (h : cIter R se tg e = some ir) : PI X tg e (tI C W (evI cf ir)) := by
  have gen : ∀ {ir : E}, (R.e se e).map .iseq = some ir → PI X tg e (tI C W (evI cf ir)) := fun {ir} h => by
    cases hr : R.e se e with
    | none => rw [hr] at h; cases h
    | some a => rw [hr] at h; cases h; exact pi_seq g.K (sn.e g tk hr)
  unfold cIter at h
  split at h
  · rename_i x p a pos
    split at h
    · rename_i hb
      have hb' : (notStar a = true ∧ glB se.sc x = true) ∧ x = "range" := by simpa using hb
      obtain ⟨⟨b1, b2⟩, rfl⟩ := hb'
      cases hr : R.e se a with
      | none => rw [hr] at h; cases h
      | some f =>
        rw [hr] at h; cases h
        exact pi_rng (glB_gl g.sc b2) (g.blt _ (by decide +kernel)) (sn.e g tk hr) (star_of b1)
    · split at h
      · rename_i hb
        have hb' : ((notStar a = true ∧ glB se.sc x = true) ∧ x = "enumerate") ∧ isTup tg = true := by simpa using hb
        obtain ⟨⟨⟨b1, b2⟩, rfl⟩, b3⟩ := hb'
        cases hr : R.e se a with
        | none => rw [hr] at h; cases h
        | some f =>
          rw [hr] at h; cases h
          cases tg with
          | Tuple es k p => exact pi_en g.K (glB_gl g.sc b2) (g.blt _ (by decide +kernel)) (sn.e g tk hr) (star_of b1)
          | _ => cases b3
      · exact gen h
  · rename_i x p a b pos
    split at h
    · rename_i hb
      have hb' : ((notStar a = true ∧ notStar b = true) ∧ glB se.sc x = true) ∧ x = "range" := by simpa using hb
      obtain ⟨⟨⟨b1, b2⟩, b3⟩, rfl⟩ := hb'
      split at h
      · rename_i f f2 h1 h2
        cases h
        exact pi_rng2 (glB_gl g.sc b3) (g.blt _ (by decide +kernel)) (sn.e g tk h1) (sn.e g tk h2) (star_of b1) (star_of b2)
      · cases h
    · exact gen h
  · split at h
    · exact gen h
    · cases h
/-! calls -/
theorem biOf_ok {x : Str} {o : Bi} (h : biOf x = some o) : x = biName o ∧ x ∈ bltN := by
  unfold biOf at h
  repeat' (split at h)
  all_goals first | (cases h; rename_i e; subst e; exact ⟨rfl, by decide +kernel⟩) | cases h
theorem tyOf_ok {x : Str} {t : Ty} (h : tyOf x = some t) : x = (t.name : Str) ∧ x ∈ bltN := by
  unfold tyOf at h
  repeat' (split at h)
  all_goals first | (cases h; rename_i e; subst e; exact ⟨rfl, by decide +kernel⟩) | cases h
theorem snd_call (sn : Snd C cf R) (g : Good C cf X se) (tk : Takes X W) {x : Str} {p pos : Pos} {args : List Expr} {ir : E} (h : cCallN R se x args = some ir) : PE X (.Call (.Name x p) args [] pos) (tE C W (evE cf ir)) := by
  unfold cCallN at h
  split at h
  · rename_i hb
    obtain ⟨b1, b2⟩ := Bool.and_eq_true_iff.mp hb
    have hg := glB_gl g.sc b1
    split at h
    · rename_i f ms hf
      split at h
      · cases h
      · cases ha : cArgsM R se ms args with
        | none => rw [ha] at h; cases h
        | some a =>
          rw [ha] at h; cases h
          obtain ⟨i1, i2, i3⟩ := snd_argsM sn g tk ha
          obtain ⟨k, ad, fd, ps, m1, m2, m3, m4, m5⟩ := g.fns x f ms hf
          cases args with
          | nil => rename_i z; exact absurd rfl z
          | cons e es =>
            have i2' : notStar e = true ∧ es.all notStar = true := by simpa using i2
            refine PEimp (pe_callS (E := WE W) m3 m4 hg m1 m2 m5 (fun σ => passAt tk σ) i1 (okName_of b2).1 (star_of i2'.1) (plain_of i2'.2)) ?_
            exact call_imp fun ρ ops ρ1 e1 => by rw [seqA_len e1, i3]
    · split at h
      · rename_i a
        split at h
        · rename_i hs
          split at h
          · rename_i hx
            subst hx
            have plain : ∀ {ir : E}, (R.e se a).map .sorted = some ir → PE X (.Call (.Name "sorted" p) [a] [] pos) (tE C W (evE cf ir)) := fun {ir} h => by
              cases hr : R.e se a with
              | none => rw [hr] at h; cases h
              | some r => rw [hr] at h; cases h; exact pe_sorted g.K g.calm hg (g.blt _ (by decide +kernel)) (sn.e g tk hr) (star_of hs)
            unfold cSorted at h
            split at h
            · rename_i y py b q
              split at h
              · rename_i hb2
                have hb' : (y = "set" ∧ glB se.sc y = true) ∧ notStar b = true := by simpa using hb2
                obtain ⟨⟨rfl, c2⟩, c3⟩ := hb'
                cases hr : R.e se b with
                | none => rw [hr] at h; cases h
                | some r => rw [hr] at h; cases h; exact pe_sset g.K g.calm hg (g.blt _ (by decide +kernel)) (glB_gl g.sc c2) (g.blt _ (by decide +kernel)) (sn.e g tk hr) (star_of c3)
              · exact plain h
            · exact plain h
          split at h
          · rename_i e he
            cases h
            unfold cTrg at he
            split at he
            · rename_i y py b q
              split at he
              · rename_i hb2
                have hb' : ((x = "tuple" ∧ y = "range") ∧ glB se.sc y = true) ∧ notStar b = true := by simpa using hb2
                obtain ⟨⟨⟨rfl, rfl⟩, c2⟩, c3⟩ := hb'
                cases hr : R.e se b with
                | none => rw [hr] at he; cases he
                | some r => rw [hr] at he; cases he; exact pe_tuprg g.calm hg (g.blt _ (by decide +kernel)) (glB_gl g.sc c2) (g.blt _ (by decide +kernel)) (sn.e g tk hr) (star_of c3)
              · cases he
            · cases he
          split at h
          · rename_i o r h1 h2
            cases h
            obtain ⟨e1, e2⟩ := biOf_ok h1
            subst e1
            exact pe_bi g.K g.calm o hg (g.blt _ e2) (sn.e g tk h2) (star_of hs)
          · cases h
        · cases h
      · rename_i a y py
        split at h
        · rename_i hs
          have hs' : (notStar a = true ∧ x = "isinstance") ∧ glB se.sc y = true := by simpa using hs
          obtain ⟨⟨s1, rfl⟩, s3⟩ := hs'
          split at h
          · rename_i t r h1 h2
            cases h
            obtain ⟨e1, e2⟩ := tyOf_ok h1
            subst e1
            exact pe_ii g.K hg (g.blt _ (by decide +kernel)) (glB_gl g.sc s3) (g.blt _ e2) (sn.e g tk h2) (star_of s1) (plain_of (es := [.Name _ _]) rfl)
          · cases h
        · cases h
      · cases h
  · cases h
theorem mtOf_ok {x : Str} {n : Nat} {m : Mt} (h : mtOf x n = some m) : x = mtName m ∧ n = mtN m := by
  unfold mtOf at h
  repeat' (split at h)
  all_goals first | (cases h; rename_i e; obtain ⟨e1, e2⟩ := e; subst e1; subst e2; exact ⟨rfl, rfl⟩) | cases h
theorem snd_attr (sn : Snd C cf R) (g : Good C cf X se) (tk : Takes X W) {o : Expr} {name : Str} {apos pos : Pos} {args : List Expr} {ir : E} (h : cCallA R se o name args (apos.endLine == pos.line) = some ir) : PE X (.Call (.Attribute o name apos) args [] pos) (tE C W (evE cf ir)) := by
  unfold cCallA at h
  split at h
  · cases h
  · rename_i hl
    have hline : (apos.endLine == pos.line) = true := by simpa using hl
    split at h
    · rename_i hn
      subst hn
      split at h
      · rename_i a
        split at h
        · rename_i hs
          obtain ⟨s1, s2⟩ := Bool.and_eq_true_iff.mp hs
          split at h
          · rename_i f f2 h1 h2
            cases h
            exact pe_jn g.K (sn.e g tk h1) (sn.e g tk h2) (star_of s1) (base_of s2) hline
          · cases h
        · cases h
      · cases h
    · split at h
      · rename_i _ hn
        subst hn
        split at h
        · rename_i k
          split at h
          · rename_i hs
            obtain ⟨s1, s2⟩ := Bool.and_eq_true_iff.mp hs
            split at h
            · rename_i f f2 h1 h2
              cases h
              exact pe_get1 g.un (sn.e g tk h1) (sn.e g tk h2) ⟨base_of s2, by rw [few_of (by simp [s1])]; rfl, hline, by rw [star_of s1]; rfl⟩
            · cases h
          · cases h
        · rename_i k d
          split at h
          · rename_i hs
            have hs' : (notStar k = true ∧ notStar d = true) ∧ notCall o = true := by simpa using hs
            obtain ⟨⟨s1, s2⟩, s3⟩ := hs'
            split at h
            · rename_i f f2 f3 h1 h2 h3
              cases h
              exact pe_get g.un (sn.e g tk h1) (sn.e g tk h2) (sn.e g tk h3) ⟨base_of s3, by rw [few_of (by simp [s1, s2])]; rfl, hline, by rw [star_of s1, star_of s2]; rfl⟩
            · cases h
          · cases h
        · cases h
      · split at h
        · rename_i _ _ hn
          subst hn
          split at h
          · split at h
            · rename_i hs
              cases hr : R.e se o with
              | none => rw [hr] at h; cases h
              | some f => rw [hr] at h; cases h; exact pe_copy (sn.e g tk hr) (base_of hs) hline
            · cases h
          · cases h
        · split at h
          · rename_i x px
            split at h
            · rename_i j m hj hm
              split at h
              · rename_i hlen
                cases ha : cArgs R se args with
                | none => rw [ha] at h; cases h
                | some a =>
                  rw [ha] at h; cases h
                  obtain ⟨i1, i2⟩ := snd_args sn g tk ha
                  obtain ⟨v1, v2, v3, v4⟩ := cVar_ok g hj
                  obtain ⟨e1, e2⟩ := mtOf_ok hm
                  subst e1
                  cases args with
                  | nil =>
                    cases ha
                    exact pe_mt0 e2.symm v1 v2 v3 v4 (base_of rfl) hline
                  | cons e es =>
                    have i2' : notStar e = true ∧ es.all notStar = true := by simpa using i2
                    refine pe_mt (by rw [← e2]; simp) v1 v2 v3 v4 i1 (base_of rfl) ?_ hline (star_of i2'.1) (plain_of i2'.2)
                    rw [few_of i2]
                    simp only [List.length_cons] at hlen
                    simp [keywordEach, backToKw]
                    omega
              · cases h
            · cases h
          · cases h
end
end PyI
set_option maxHeartbeats 1000000
/-! PyI16: the text keeps to its reading: all expressions, tests. -/
namespace PyI
open PySem PySem.Spec PyProof.Rows L2
section
variable {C : Ct} {cf : CF} {X : Cx} {W : WX} {se : SE} {R : Rec}
theorem ownOf_ix {N : List Str} {scope : Scope} : ∀ p ∈ ownOf N scope, N[p.2]? = some p.1 := by
  intro p hp
  unfold ownOf at hp
  obtain ⟨y, _, h⟩ := List.mem_filterMap.mp hp
  split at h
  · cases hi : ixN? N y.1 with
    | none => rw [hi] at h; cases h
    | some i => rw [hi] at h; cases h; exact ixN_get hi
  · cases hi : ixN? N y.1 with
    | none => rw [hi] at h; cases h
    | some i => rw [hi] at h; cases h; exact ixN_get hi
  · cases h
theorem takesB {X : Cx} (scope : Scope) (s : Shared) (H : Hp) (A : Addr) (cl : List (Str × Addr)) (fp : List Addr) : Takes (X.blk s H scope (compEnvC scope cl A X.env) fp) WF := by
  intro u s' h
  obtain ⟨_, _, _, _, _, _, _, _, _, _, _, _, _, _, _, _, w⟩ := h
  exact w
/-- what a comprehension's parts are -/
structure LcOk (C : Ct) (cf : CF) (X : Cx) (W : WX) (se : SE) (scope : Scope) (elt tg iter : Expr) (ifs : List Expr) (t : T) (it c e : E) : Prop where
  sub : ∀ j ∈ slotsT t, j ∈ (ownOf se.N scope).map (·.2)
  hi : PI X tg iter (tI C W (evI cf it))
  ok : BlkOk X.N X.env.scope scope (ownOf se.N scope)
  hg : ∀ (s : Shared) (H : Hp) (A : Addr) (cl : List (Str × Addr)) (fp : List Addr), PG (X.blk s H scope (compEnvC scope cl A X.env) fp) tg (tG C t)
  ht : ∀ (s : Shared) (H : Hp) (A : Addr) (cl : List (Str × Addr)) (fp : List Addr), PTs (X.blk s H scope (compEnvC scope cl A X.env) fp) ifs (tT C WF (evT cf c))
  he : ∀ (s : Shared) (H : Hp) (A : Addr) (cl : List (Str × Addr)) (fp : List Addr), PE (X.blk s H scope (compEnvC scope cl A X.env) fp) elt (tE C WF (evE cf e))
  hs : ∀ x, foldedSetIterable iter X.env x = pure x
theorem cLc_ok (sn : Snd C cf R) (g : Good C cf X se) (tk : Takes X W) {elt tg iter : Expr} {ifs : List Expr} {scope : Scope} {ir : E} (h : cLc R se elt tg iter ifs scope = some ir) :
    ∃ t it c e, ir = .lc ((ownOf se.N scope).map (·.2)) t it c e ∧ LcOk C cf X W se scope elt tg iter ifs t it c e := by
  unfold cLc at h
  split at h
  · rename_i hb
    obtain ⟨b1, b2⟩ := Bool.and_eq_true_iff.mp hb
    split at h
    · rename_i it t c e h1 h2 h3 h4
      split at h
      · rename_i hsub
        cases h
        refine ⟨t, it, c, e, rfl, fun j hj => ?_, snd_iter sn g tk h1, ?_, fun s H A cl fp => snd_tg (g.blk scope s H A cl fp) h2, fun s H A cl fp => ?_, fun s H A cl fp => sn.e (g.blk scope s H A cl fp) (takesB scope s H A cl fp) h4, set_of b2⟩
        · exact List.contains_iff_mem.mp (List.all_eq_true.mp hsub j hj)
        · have := blkOk_by b1
          rw [← g.N, ← g.sc] at this
          exact g.N ▸ this
        · have gb := g.blk scope s H A cl fp
          have tb := takesB (X := X) scope s H A cl fp
          unfold cIfs at h3
          split at h3
          · cases h3; exact pts_n
          · exact pts_one (sn.t gb tb h3)
          · cases h3
      · cases h
    · cases h
  · cases h
theorem snd_lc (sn : Snd C cf R) (g : Good C cf X se) (tk : Takes X W) {elt tg iter : Expr} {ifs : List Expr} {scope : Scope} {pos : Pos} {ir : E} (h : cLc R se elt tg iter ifs scope = some ir) :
    PE X (.ListComp elt [⟨tg, iter, ifs, 0⟩] scope pos) (tE C W (evE cf ir)) := by
  obtain ⟨t, it, c, e, rfl, k⟩ := cLc_ok sn g tk h
  exact pe_lcs k.sub g.calm g.nd k.hi k.ok k.hg k.ht k.he k.hs
theorem cDc_ok (sn : Snd C cf R) (g : Good C cf X se) (tk : Takes X W) {kx elt tg iter : Expr} {ifs : List Expr} {scope : Scope} {ir : E} (h : cDc R se kx elt tg iter ifs scope = some ir) :
    ∃ t it c k e, ir = .dc ((ownOf se.N scope).map (·.2)) t it c k e ∧ LcOk C cf X W se scope elt tg iter ifs t it c e ∧ ∀ (s : Shared) (H : Hp) (A : Addr) (cl : List (Str × Addr)) (fp : List Addr), PE (X.blk s H scope (compEnvC scope cl A X.env) fp) kx (tE C WF (evE cf k)) := by
  unfold cDc at h
  split at h
  · rename_i hb
    obtain ⟨b1, b2⟩ := Bool.and_eq_true_iff.mp hb
    split at h
    · rename_i it t c k e h1 h2 h3 h5 h4
      split at h
      · rename_i hsub
        cases h
        refine ⟨t, it, c, k, e, rfl, ⟨fun j hj => ?_, snd_iter sn g tk h1, ?_, fun s H A cl fp => snd_tg (g.blk scope s H A cl fp) h2, fun s H A cl fp => ?_, fun s H A cl fp => sn.e (g.blk scope s H A cl fp) (takesB scope s H A cl fp) h4, set_of b2⟩, fun s H A cl fp => sn.e (g.blk scope s H A cl fp) (takesB scope s H A cl fp) h5⟩
        · exact List.contains_iff_mem.mp (List.all_eq_true.mp hsub j hj)
        · have := blkOk_by b1
          rw [← g.N, ← g.sc] at this
          exact g.N ▸ this
        · have gb := g.blk scope s H A cl fp
          have tb := takesB (X := X) scope s H A cl fp
          unfold cIfs at h3
          split at h3
          · cases h3; exact pts_n
          · exact pts_one (sn.t gb tb h3)
          · cases h3
      · cases h
    · cases h
  · cases h
theorem snd_dc (sn : Snd C cf R) (g : Good C cf X se) (tk : Takes X W) {kx elt tg iter : Expr} {ifs : List Expr} {scope : Scope} {pos : Pos} {ir : E} (h : cDc R se kx elt tg iter ifs scope = some ir) :
    PE X (.DictComp kx elt [⟨tg, iter, ifs, 0⟩] scope pos) (tE C W (evE cf ir)) := by
  obtain ⟨t, it, c, k, e, rfl, q, q2⟩ := cDc_ok sn g tk h
  exact pe_dcs q.sub g.calm g.nd q.hi q.ok q.hg q.ht q2 q.he q.hs
theorem snd_bool (sn : Snd C cf R) (g : Good C cf X se) (tk : Takes X W) {pos : Pos} {o : BoolOp} : ∀ {vs : List Expr} {ir : E}, cBool R se (isAndB o) vs = some ir → PE X (.BoolOp o vs pos) (tE C W (evE cf ir))
  | [], _, h => by cases h
  | [a], ir, h => pe_one (sn.e g tk h)
  | a :: b :: r, ir, h => by
    simp only [cBool] at h
    split at h
    · rename_i f f2 h1 h2
      have ih := snd_bool sn g tk (pos := pos) (o := o) h2
      cases o with
      | And => cases h; exact pe_an (sn.e g tk h1) ih
      | Or => cases h; exact pe_o (sn.e g tk h1) ih
    · cases h
theorem snd_boolT (sn : Snd C cf R) (g : Good C cf X se) (tk : Takes X W) {pos : Pos} {o : BoolOp} : ∀ {vs : List Expr} {ir : E}, cBoolT R se (isAndB o) vs = some ir → PW X (.BoolOp o vs pos) (tT C W (evT cf ir))
  | [], _, h => by cases h
  | [a], ir, h => by
    cases o with
    | And => exact pw_and1 (sn.t g tk h)
    | Or => exact pw_or1 (sn.t g tk h)
  | a :: b :: r, ir, h => by
    simp only [cBoolT] at h
    split at h
    · rename_i f f2 h1 h2
      have ih := snd_boolT sn g tk (pos := pos) (o := o) h2
      cases o with
      | And => cases h; exact pw_an (sn.t g tk h1) ih
      | Or => cases h; exact pw_o (sn.t g tk h1) ih
    · cases h
theorem copOf_ok {o : CmpOp} {o' : Cop} (h : copOf o = some o') : o = cmpOf o' := by
  cases o <;> (cases h; rfl)
theorem bopOf_ok {o : Operator} {o' : Bop} (h : bopOf o = some o') : o = oprOf o' := by
  cases o <;> first | (cases h; rfl) | cases h
theorem snd_cmp (sn : Snd C cf R) (g : Good C cf X se) (tk : Takes X W) {a : Expr} {ops : List CmpOp} {bs : List Expr} {pos : Pos} {ir : E} (h : cCmp R se a ops bs = some ir) :
    PE X (.Compare a ops bs pos) (tE C W (evE cf ir)) ∧ PT X (.Compare a ops bs pos) (tT C W (evT cf (.tv ir))) := by
  unfold cCmp at h
  split at h
  · rename_i o b
    split at h
    · rename_i hs
      split at h
      · rename_i o' f f2 h1 h2 h3
        cases h
        have := copOf_ok h1
        subst this
        exact ⟨pe_cp g.K g.un o' (sn.e g tk h2) (sn.e g tk h3) (marks_of hs), pt_cp g.K g.un o' (sn.e g tk h2) (sn.e g tk h3) (marks_of hs)⟩
      · cases h
    · cases h
  · rename_i o p b c
    split at h
    · rename_i hs
      split at h
      · rename_i o' p' f f2 f3 h1 h2 h3 h4 h5
        cases h
        have := copOf_ok h1
        subst this
        have := copOf_ok h2
        subst this
        exact ⟨pe_ch g.K g.un o' p' (sn.e g tk h3) (sn.e g tk h4) (sn.e g tk h5) (lmarks_of hs), pt_ch g.K g.un o' p' (sn.e g tk h3) (sn.e g tk h4) (sn.e g tk h5) (lmarks_of hs)⟩
      · cases h
    · cases h
  · cases h
theorem snd_part (sn : Snd C cf R) (g : Good C cf X se) (tk : Takes X W) {o : Option Expr} {ir : E} (h : cPart R se o = some ir) : PO X o (tO C W (partE (evP cf ir))) := by
  cases o with
  | none => cases h; exact po_n
  | some e =>
    simp only [cPart] at h
    cases hr : R.e se e with
    | none => rw [hr] at h; cases h
    | some a => rw [hr] at h; cases h; exact po_s (sn.e g tk hr)
theorem snd_disp (sn : Snd C cf R) (g : Good C cf X se) (tk : Takes X W) {pos : Pos} : ∀ {ks : List (Option Expr)} {vs : List Expr} {ir : E}, cDisp R se ks vs = some ir →
    PPs X pos ks vs ((evPr cf ir).map fun p => (tE C W (frzE p.1), tE C W (frzE p.2))) ∧ ks.all (·.isSome) = true ∧ ks.length = vs.length
  | [], [], ir, h => by cases h; exact ⟨pps_nil, rfl, rfl⟩
  | [], _ :: _, ir, h => by cases h
  | none :: _, _, ir, h => by cases h
  | some _ :: _, [], ir, h => by cases h
  | some k :: ks, v :: vs, ir, h => by
    simp only [cDisp] at h
    split at h
    · rename_i f f2 r h1 h2 h3
      cases h
      obtain ⟨i1, i2, i3⟩ := snd_disp sn g tk (pos := pos) h3
      exact ⟨pps_cons (pe_frz (sn.e g tk h1)) (pe_frz (sn.e g tk h2)) i1, by simp [i2], by simp [i3]⟩
    · cases h
theorem snd_sub (sn : Snd C cf R) (g : Good C cf X se) (tk : Takes X W) {a i : Expr} {pos : Pos} {ir : E} (h : cSub R se a i = some ir) : PE X (.Subscript a i pos) (tE C W (evE cf ir)) := by
  unfold cSub at h
  split at h
  · cases hr : R.e se a with
    | none => rw [hr] at h; cases h
    | some f => rw [hr] at h; cases h; exact pe_rev g.K (sn.e g tk hr)
  · split at h
    · rename_i f l u h1 h2 h3
      cases h
      exact pe_sl g.K (sn.e g tk h1) (snd_part sn g tk h2) (snd_part sn g tk h3)
    · cases h
  · split at h
    · rename_i hs
      split at h
      · rename_i f f2 h1 h2
        cases h
        exact pe_sub2 g.K g.un (sn.e g tk h1) (sn.e g tk h2) (slice_of hs)
      · cases h
    · cases h
theorem snd_step (sn : Snd C cf R) : Snd C cf ⟨stepE R, stepT R⟩ where
  s := fun {X W se elt gs scope lpos i x py spos ir} g tk v1 hl hsw h => by
    have h : stepE R se (.ListComp elt gs scope lpos) = some ir := h
    unfold stepE at h
    split at h
    all_goals first | (rename_i heq; cases heq; done) | cases h | skip
    rename_i heq
    cases heq
    obtain ⟨t, it, c, e, rfl, k⟩ := cLc_ok sn g tk h
    exact ps_setLcs k.sub g.calm g.nd v1 hl hsw k.hi k.ok k.hg k.ht k.he k.hs
  sd := fun {X W se kx elt gs scope lpos i x py spos ir} g tk v1 hl hsw h => by
    have h : stepE R se (.DictComp kx elt gs scope lpos) = some ir := h
    unfold stepE at h
    split at h
    all_goals first | (rename_i heq; cases heq; done) | cases h | skip
    rename_i heq
    cases heq
    obtain ⟨t, it, c, k, e, rfl, q, q2⟩ := cDc_ok sn g tk h
    exact ps_setDcs q.sub g.calm g.nd v1 hl hsw q.hi q.ok q.hg q.ht q2 q.he q.hs
  e := fun {X W se e ir} g tk h => by
    have h : stepE R se e = some ir := h
    unfold stepE at h
    split at h
    · exact snd_name g h
    · exact snd_const h
    · unfold cBin at h
      split at h
      · rename_i o' f f2 h1 h2 h3
        cases h
        have := bopOf_ok h1
        subst this
        exact pe_bin g.K o' (sn.e g tk h2) (sn.e g tk h3)
      · cases h
    · rename_i o a p _
      unfold cUn at h
      split at h
      · cases hr : R.e se a with
        | none => rw [hr] at h; cases h
        | some f => rw [hr] at h; cases h; exact pe_neg (sn.e g tk hr)
      · cases hr : R.e se a with
        | none => rw [hr] at h; cases h
        | some f => rw [hr] at h; cases h; exact pe_no g.K (sn.e g tk hr)
      · cases h
    · exact (snd_cmp sn g tk h).1
    · exact snd_bool sn g tk h
    · unfold cIte at h
      split at h
      · rename_i t f f2 h1 h2 h3
        cases h
        exact pe_if (sn.t g tk h1) (sn.e g tk h2) (sn.e g tk h3)
      · cases h
    · rename_i es k p _
      cases ha : cArgs R se es with
      | none => rw [ha] at h; cases h
      | some a => rw [ha] at h; cases h; exact pe_t (snd_args sn g tk ha).1
    · rename_i es p _
      cases ha : cArgs R se es with
      | none => rw [ha] at h; cases h
      | some a => rw [ha] at h; cases h; exact pe_l (snd_args sn g tk ha).1
    · cases h; exact pe_dn
    · rename_i k ks vs p _
      split at h
      · rename_i hl
        cases hd : cDisp R se (k :: ks) vs with
        | none => rw [hd] at h; cases h
        | some r =>
          rw [hd] at h; cases h
          obtain ⟨i1, i2, i3⟩ := snd_disp sn g tk (pos := p) hd
          exact pe_disps i1 i2 i3 (by simp) (by simp; omega)
      · cases h
    · exact snd_sub sn g tk h
    · exact snd_call sn g tk h
    · exact snd_attr sn g tk h
    · exact snd_lc sn g tk h
    · exact snd_dc sn g tk h
    · cases h
  t := fun {X W se e ir} g tk h => by
    have h : stepT R se e = some ir := h
    unfold stepT at h
    split at h
    · rename_i a ops bs p _
      cases hc : cCmp R se a ops bs with
      | none => rw [hc] at h; cases h
      | some f => rw [hc] at h; cases h; exact (snd_cmp sn g tk hc).2
    · rename_i a p _
      cases hr : R.t se a with
      | none => rw [hr] at h; cases h
      | some f => rw [hr] at h; cases h; exact pt_no (sn.t g tk hr)
    · exact (snd_boolT sn g tk h).pt
    · split at h
      · rename_i hp
        cases hr : R.e se e with
        | none => rw [hr] at h; cases h
        | some f => rw [hr] at h; cases h; exact pt_tru g.K (sn.e g tk hr) (tru_of hp)
      · cases h
theorem snd_all : ∀ n, Snd C cf (recN n)
  | 0 => ⟨fun {X W se e ir} _ _ h => (by cases h), fun {X W se e ir} _ _ h => (by cases h), fun {X W se elt gs scope lpos i x py spos ir} _ _ _ _ _ h => (by cases h), fun {X W se kx elt gs scope lpos i x py spos ir} _ _ _ _ _ h => (by cases h)⟩
  | n + 1 => snd_step (snd_all n)

/-! ### statements -/
theorem sw_eq {elt : Expr} {gs : List Comprehension} {scope : Scope} {pos py : Pos} {y : Str} {l : Nat} {env : PySem.Env} (hk : env.scope.kind = .function) :
    swapsWith (.ListComp elt gs scope pos) (some (.Name y py)) l env = pure (env.scope.names.lookup y == some .local && (py.line == pos.line) && !(scope.names.any fun (n, k) => n == y && (k == .local || k == .cell))) := by
  have hb : env.blockKind = .function := by unfold PySem.Env.blockKind; rw [hk]; rfl
  unfold swapsWith
  simp only [hb]
  rfl
theorem sw_eqD {kx vx : Expr} {gs : List Comprehension} {scope : Scope} {pos py : Pos} {y : Str} {l : Nat} {env : PySem.Env} (hk : env.scope.kind = .function) :
    swapsWith (.DictComp kx vx gs scope pos) (some (.Name y py)) l env = pure (env.scope.names.lookup y == some .local && (py.line == pos.line) && !(scope.names.any fun (n, k) => n == y && (k == .local || k == .cell))) := by
  have hb : env.blockKind = .function := by unfold PySem.Env.blockKind; rw [hk]; rfl
  unfold swapsWith
  simp only [hb]
  rfl
theorem snd_assign (sn : Snd C cf R) (g : Good C cf X se) (tk : Takes X W) {tg e : Expr} {pos : Pos} {s : S} (h : cAssign R se pos.line tg e = some s) : PS X (.Assign [tg] e pos) (tS C W (evS cf s)) := by
  unfold cAssign at h
  split at h
  · rename_i x py
    split at h
    · rename_i i f hi hf
      obtain ⟨v1, v2, v3⟩ := cLoc_ok g hi
      have plain : notComp e = true → PS X (.Assign [.Name x py] e pos) (tS C W (evS cf (.set i f))) := fun hn => ps_sets g.nd v1 v2 (sn.e g tk hf) (swap_of hn) v3
      split at h
      · rename_i elt gs scope lpos
        split at h
        · rename_i hb
          cases h
          have hk : X.env.scope.kind = .function := by rw [g.sc]; exact isFn_of hb
          have hw := sw_eq (elt := elt) (gs := gs) (scope := scope) (pos := lpos) (py := py) (y := x) (l := pos.line) hk
          cases hz : (X.env.scope.names.lookup x == some .local && (py.line == lpos.line) && !(scope.names.any fun (n, k) => n == x && (k == .local || k == .cell))) with
          | true =>
            rw [hz] at hw
            have hl : X.env.scope.names.lookup x = some .local := by
              simp only [Bool.and_eq_true] at hz
              exact eq_of_beq hz.1.1
            exact sn.s g tk v1 hl hw hf
          | false =>
            rw [hz] at hw
            exact ps_sets g.nd v1 v2 (sn.e g tk hf) hw v3
        · cases h
      · rename_i kx elt gs scope lpos
        split at h
        · rename_i hb
          cases h
          have hk : X.env.scope.kind = .function := by rw [g.sc]; exact isFn_of hb
          have hw := sw_eqD (kx := kx) (vx := elt) (gs := gs) (scope := scope) (pos := lpos) (py := py) (y := x) (l := pos.line) hk
          cases hz : (X.env.scope.names.lookup x == some .local && (py.line == lpos.line) && !(scope.names.any fun (n, k) => n == x && (k == .local || k == .cell))) with
          | true =>
            rw [hz] at hw
            have hl : X.env.scope.names.lookup x = some .local := by
              simp only [Bool.and_eq_true] at hz
              exact eq_of_beq hz.1.1
            exact sn.sd g tk v1 hl hw hf
          | false =>
            rw [hz] at hw
            exact ps_sets g.nd v1 v2 (sn.e g tk hf) hw v3
        · cases h
      · split at h
        · rename_i hn
          cases h
          exact plain hn
        · cases h
    · cases h
  · rename_i es k p
    split at h
    · rename_i hb
      obtain ⟨b1, b2⟩ := Bool.and_eq_true_iff.mp hb
      split at h
      · rename_i t f h1 h2
        cases h
        exact ps_asgT (sn.e g tk h2) (snd_tg g h1) (swapS_of b1) (swapped_of b2) (by rw [asgEach_of rfl]; rfl)
      · cases h
    · cases h
  · rename_i x px i ip
    split at h
    · rename_i hb
      obtain ⟨b1, b2⟩ := Bool.and_eq_true_iff.mp hb
      split at h
      · rename_i j f f2 h1 h2 h3
        cases h
        obtain ⟨v1, v2, v3, v4⟩ := cVar_ok g h1
        exact ps_store g.un v1 v2 v3 v4 (sn.e g tk h2) (sn.e g tk h3) (asgSub_of b2) (swapS_of b1) swapped_of2 (by rw [asgEach_of rfl]; rfl)
      · cases h
    · cases h
  · cases h

/-- all statements, their blocks -/
structure SndS (C : Ct) (cf : CF) (S1 : SE → Stmt → Option S) : Prop where
  s : ∀ {X : Cx} {W : WX} {se : SE} {st : Stmt} {ir : S}, Good C cf X se → Takes X W → PassesOwn (model X.prog X.w) X.A X.env X.xe → S1 se st = some ir → PS X st (tS C W (evS cf ir))
theorem seq_nx {p : Fs} : seqS p nextS = p := by
  funext ρ
  unfold seqS nextS
  cases p ρ <;> rfl
theorem snd_blk {S1 : SE → Stmt → Option S} (sn : SndS C cf S1) (g : Good C cf X se) (tk : Takes X W) (po : PassesOwn (model X.prog X.w) X.A X.env X.xe) : ∀ {l : List Stmt} {ir : S}, cBlk S1 se l = some ir → PSs X l (tS C W (evS cf ir))
  | [], ir, h => by cases h; exact pss_n
  | s :: r, ir, h => by
    simp only [cBlk] at h
    split at h
    · rename_i a b h1 h2
      have i1 := sn.s g tk po h1
      have i2 := snd_blk sn g tk po h2
      have i3 := pss_c i1 i2
      cases r with
      | nil =>
        cases h
        cases h2
        have : evS cf .nx = nextS := rfl
        rw [this, seq_nx] at i3
        exact i3
      | cons s2 r2 => cases h; exact i3
    · cases h
theorem snd_stmt (sn : Snd C cf R) {B : SE → List Stmt → Option S} (hb : ∀ {X : Cx} {W : WX} {se : SE} {l : List Stmt} {ir : S}, Good C cf X se → Takes X W → PassesOwn (model X.prog X.w) X.A X.env X.xe → B se l = some ir → PSs X l (tS C W (evS cf ir))) : SndS C cf (cStep R B) where
  s := fun {X W se st ir} g tk po h => by
    unfold cStep at h
    split at h
    · rename_i _ e p
      cases hr : R.e se e with
      | none => rw [hr] at h; cases h
      | some f => rw [hr] at h; cases h; exact ps_rt (sn.e g tk hr)
    · cases h; exact ps_rtN
    · exact snd_assign sn g tk h
    · split at h
      · rename_i i o' f h1 h2 h3
        cases h
        obtain ⟨v1, v2, v3⟩ := cLoc_ok g h1
        have := bopOf_ok h2
        subst this
        exact ps_augs g.nd v1 v2 (sn.e g tk h3) v3
      · cases h
    · split at h
      · rename_i t p q h1 h2 h3
        cases h
        exact ps_ifs (sn.t g tk h1) (hb g tk po h2) (hb g tk po h3)
      · cases h
    · split at h
      · rename_i hs
        split at h
        · rename_i it t p h1 h2 h3
          cases h
          exact ps_fors po g.calm (snd_iter sn g tk h1) (snd_tg g h2) (hb g tk po h3) (set_of hs)
        · cases h
      · cases h
    · split at h
      · rename_i t p h1 h2
        cases h
        exact ps_whiles 100000 po (sn.t g tk h1) (hb g tk po h2)
      · cases h
    · cases h; exact ps_nx L2.ps_doc
    · split at h
      · rename_i hn
        rename_i _ e p _
        cases hr : R.e se e with
        | none => rw [hr] at h; cases h
        | some f => rw [hr] at h; cases h; exact ps_drop (sn.e g tk hr) (swap_of hn)
      · cases h
    · cases h; exact ps_nx L2.ps_pass
    · cases h; exact ps_br
    · cases h; exact ps_cont
    · cases h
theorem snd_stmtN (sn : Snd C cf R) : ∀ n, SndS C cf (stmtN R n)
  | 0 => ⟨fun {X W se st ir} _ _ _ h => (by cases h)⟩
  | n + 1 => ⟨fun {X W se st ir} g tk po h => (snd_stmt sn (B := fun se l => cBlk (stmtN R n) se l) (fun g tk po h => snd_blk (snd_stmtN sn n) g tk po h)).s g tk po h⟩
/-- a block of the text -/
theorem snd_block {n : Nat} (g : Good C cf X se) (tk : Takes X W) (po : PassesOwn (model X.prog X.w) X.A X.env X.xe) {l : List Stmt} {ir : S} (h : blockN n se l = some ir) : PSs X l (tS C W (evS cf ir)) :=
  snd_blk (snd_stmtN (snd_all n) n) g tk po h
end
end PyI
set_option maxHeartbeats 1000000
/-! PyI17: the defs of the text keep what the reading says. -/
namespace PyI
open PySem PySem.Spec PyProof.Rows L2
/-! ### parameters -/
theorem fm_congr {α β : Type} {f g : α → Option β} : ∀ {l : List α}, (∀ x ∈ l, f x = g x) → l.filterMap f = l.filterMap g
  | [], _ => rfl
  | a :: l, h => by
    rw [List.filterMap_cons, List.filterMap_cons, h a (by simp), fm_congr (l := l) fun x hx => h x (by simp [hx])]
theorem lookup_zip {α : Type} : ∀ {ps : List Str} {us : List α}, ps.Nodup → us.length = ps.length → ps.filterMap (fun n => ((ps.zip us).lookup n).map fun x => (n, x)) = ps.zip us ∧ ∀ n ∈ ps, ((ps.zip us).lookup n).isSome = true
  | [], [], _, _ => ⟨rfl, fun n h => by cases h⟩
  | [], _ :: _, _, h => by cases h
  | _ :: _, [], _, h => by cases h
  | p :: ps, u :: us, nd, h => by
    have nd' := List.nodup_cons.mp nd
    obtain ⟨i1, i2⟩ := lookup_zip (ps := ps) (us := us) nd'.2 (by simpa using h)
    have hp : ((p :: ps).zip (u :: us)).lookup p = some u := by simp
    have hr : ∀ n ∈ ps, ((p :: ps).zip (u :: us)).lookup n = (ps.zip us).lookup n := fun n hn => by
      have ne : n ≠ p := fun e => nd'.1 (by rw [← e]; exact hn)
      simp only [List.zip_cons_cons, List.lookup_cons]
      have : (n == p) = false := by simpa using ne
      rw [this]
    refine ⟨?_, fun n hn => ?_⟩
    · rw [List.filterMap_cons, hp]
      simp only [Option.map_some, List.zip_cons_cons]
      congr 1
      refine Eq.trans (fm_congr fun n hn => ?_) i1
      have := hr n hn
      simp only [List.zip_cons_cons] at this
      rw [this]
    · rcases List.mem_cons.mp hn with e | e
      · rw [e, hp]; rfl
      · rw [hr n e]; exact i2 n e
theorem bind_plain {x qual : Str} {args : List PySem.Arg} {kd : List (Option Expr)} {body : List Stmt} {scope : Scope} {kV doc pm : Value} {an : Option Addr} {cdv ct : Value} {us : List Value} (nd : (args.map (·.arg)).Nodup) (hl : us.length = args.length) :
    bindArgs (PySem.W.fnOf x qual ⟨[], args, none, [], kd, none, []⟩ body scope .none kV doc pm an cdv ct) ⟨us, []⟩ = pure ((args.map (·.arg)).zip us) := by
  unfold bindArgs PySem.W.fnOf
  have h1 : seqItems? Value.none = pure none := rfl
  obtain ⟨i1, i2⟩ := lookup_zip (ps := args.map (·.arg)) (us := us) nd (by simpa using hl)
  have h2 : ¬ args.length < us.length := by omega
  have h3 : (List.filter (fun n => (List.lookup n ((List.map (fun x => x.arg) args).zip us)).isNone) (List.map (fun x => x.arg) args)) = [] := by
    rw [List.filter_eq_nil_iff]
    intro n hn
    have := i2 n hn
    cases hq : List.lookup n ((List.map (fun x => x.arg) args).zip us) with
    | none => rw [hq] at this; cases this
    | some u => simp
  have h4 : List.take args.length (List.map (fun x => x.arg) args) = List.map (fun x => x.arg) args := by rw [List.take_of_length_le]; simp
  have h5 : List.filterMap ((fun n => Option.map (fun x => (n, x)) (List.lookup n ((List.map (fun x => x.arg) args).zip us))) ∘ fun x => x.arg) args = (List.map (fun x => x.arg) args).zip us := by
    rw [← List.filterMap_map]; exact i1
  simp [h1, h2, h3, h4, h5]
/-- plain parameters -/
def parsB (p : Arguments) (ps : List Str) : Bool := p.posonlyargs.isEmpty && p.vararg.isNone && p.kwonlyargs.isEmpty && p.kwarg.isNone && p.defaults.isEmpty && decide (p.args.map (·.arg) = ps) && decide ps.Nodup
theorem binds_of {K : PySem.W.Frag} {x qual : Str} {params : Arguments} {body : List Stmt} {scope : Scope} {f : Addr} {fd : FuncData} {ps : List Str} (F : FunD K x qual params body scope [] [] f fd) (h : parsB params ps = true) : Binds K fd ps [] := by
  unfold parsB at h
  simp only [Bool.and_eq_true, List.isEmpty_iff, Option.isNone_iff_eq_none, decide_eq_true_eq] at h
  obtain ⟨⟨⟨⟨⟨⟨h1, h2⟩, h3⟩, h4⟩, h5⟩, h6⟩, h7⟩ := h
  obtain ⟨a1, a2, a3, a4, a5, a6, a7⟩ := params
  simp only at h1 h2 h3 h4 h5 h6
  subst h1 h2 h3 h4 h5
  refine F.bindsN fun kV doc pm an cdv ct us hl => ?_
  rw [bind_plain (by rw [h6]; exact h7) (by rw [hl, ← h6]; simp), h6]
theorem bindsA_of {K : PySem.W.Frag} {x qual : Str} {params : Arguments} {body : List Stmt} {scope : Scope} {f : Addr} {fd : FuncData} {y : Str} (F : FunD K x qual params body scope [] [] f fd) (h : parsB params [y] = true) (s : Shared) (u : Value) : BindsTo s fd ⟨[u], []⟩ [(y, u)] := by
  unfold parsB at h
  simp only [Bool.and_eq_true, List.isEmpty_iff, Option.isNone_iff_eq_none, decide_eq_true_eq] at h
  obtain ⟨⟨⟨⟨⟨⟨h1, h2⟩, h3⟩, h4⟩, h5⟩, h6⟩, h7⟩ := h
  obtain ⟨a1, a2, a3, a4, a5, a6, a7⟩ := params
  simp only at h1 h2 h3 h4 h5 h6
  subst h1 h2 h3 h4 h5
  refine FunD.bindsA (ps := [y]) F (fun kV doc pm an cdv ct us hl => ?_) s [u] rfl
  rw [bind_plain (by rw [h6]; exact h7) (by rw [hl, ← h6]; simp), h6]
def scopeB (N ps : List Str) (sc : Scope) : Bool := isFn sc && !sc.isCoroutine && !sc.isGenerator && decide N.Nodup && decide (N.take ps.length = ps) && (ps.all fun x => locB sc x) && (sc.names.all fun y => match y.2 with | .free => false | _ => true)
theorem scope_of {N ps : List Str} {sc : Scope} (h : scopeB N ps sc = true) : FnScope N ps sc := by
  unfold scopeB at h
  simp only [Bool.and_eq_true, decide_eq_true_eq, Bool.not_eq_true', List.all_eq_true] at h
  obtain ⟨⟨⟨⟨⟨⟨h1, h2⟩, h3⟩, h4⟩, h5⟩, h6⟩, h7⟩ := h
  exact ⟨isFn_of h1, h2, h3, h4, h5, fun x hx => locB_loc (h6 x hx), fun y hy e => by have := h7 y hy; rw [e] at this; cases this⟩

/-! ### the entry, the end -/
section
variable {C : Ct}
theorem args_slots {F H : Hp} {ar : List Arg} {vs : List V} {n : Nat} (le : Le F H) (ok : ArgsOk C F H ar vs) (ap : Apart ar vs) (N : List Str) (hn : N.length = n) :
    SR C ⟨F, H, start N vs, ar.map slotOf ++ List.replicate (n - ar.length) .no⟩ := by
  have len := ok.length
  have at_ : ∀ (i : Nat) (sl : Slot), (ar.map slotOf ++ List.replicate (n - ar.length) Slot.no)[i]? = some sl → sl ≠ .no → ∃ a v, ar[i]? = some a ∧ slotOf a = sl ∧ vs[i]? = some v ∧ ArgOk C F H a v ∧ (start N vs)[i]? = some (some v) := fun i sl h ne => by
    by_cases hi : i < ar.length
    · rw [List.getElem?_append_left (by simpa using hi), List.getElem?_map, List.getElem?_eq_getElem hi] at h
      simp only [Option.map_some, Option.some.injEq] at h
      obtain ⟨v, h1, h2⟩ := ok.get (List.getElem?_eq_getElem hi)
      refine ⟨_, v, List.getElem?_eq_getElem hi, h, h1, h2, ?_⟩
      unfold L2.start
      rw [List.getElem?_append_left (by simp; omega), List.getElem?_map, h1]; rfl
    · rw [List.getElem?_append_right (by simp; omega)] at h
      have := List.mem_of_getElem? h
      exact absurd (List.eq_of_mem_replicate this) ne
  refine ⟨le, ?_, fun i d h => ?_, fun i k d h => ?_, fun i j k k' d e a h1 h2 h3 h4 => ?_⟩
  · show (start N vs).length = _
    unfold L2.start
    simp only [List.length_append, List.length_map, List.length_replicate]
    rw [len, hn]
  · obtain ⟨a, v, h1, h2, h3, h4, h5⟩ := at_ i _ h (fun z => nomatch z)
    cases a with
    | v d' => cases h2; exact ⟨v, h5, h4⟩
    | r d' => cases h2
  · obtain ⟨a, v, h1, h2, h3, h4, h5⟩ := at_ i _ h (fun z => nomatch z)
    cases a with
    | v d' => cases h2
    | r d' => cases h2; obtain ⟨x, rfl, q1, q2⟩ := h4; exact ⟨x, h5, q1, q2⟩
  · obtain ⟨a1, v1, p1, p2, p3, p4, p5⟩ := at_ i _ h1 (fun z => nomatch z)
    obtain ⟨a2, v2, q1, q2, q3, q4, q5⟩ := at_ j _ h2 (fun z => nomatch z)
    have h3' : (start N vs)[i]? = some (some (.ref a)) := h3
    have h4' : (start N vs)[j]? = some (some (.ref a)) := h4
    rw [h3'] at p5; cases p5
    rw [h4'] at q5; cases q5
    cases a1 with
    | v d' => cases p2
    | r d' =>
      cases p2
      cases a2 with
      | v d' => cases q2
      | r d' => cases q2; exact ap i j d e a p1 q1 p3 q3
/-- from the entry to the end -/
theorem args_end {F H F' H' : Hp} {σ' : L2.St} {ρ' : Env} {ar : List Arg} {vs : List V} {n : Nat} (ok : ArgsOk C F H ar vs) (N : List Str) (g : Go C ⟨F, H, start N vs, ar.map slotOf ++ List.replicate (n - ar.length) .no⟩ ⟨F', H', σ', ρ'⟩) :
    CGo C F H F' H' ar vs (outsOf ar.length ρ') ∧ ∀ x, Ow ⟨F, H, start N vs, ar.map slotOf ++ List.replicate (n - ar.length) .no⟩ x → Ow ⟨F', H', σ', ρ'⟩ x := by
  have len := ok.length
  have at_ : ∀ (i : Nat) (k : Bool) (d : D), (ar.map slotOf ++ List.replicate (n - ar.length) Slot.no)[i]? = some (.own k d) → k = true ∧ i < ar.length ∧ ar[i]? = some (.r d) ∧ (start N vs)[i]? = (vs[i]?).map some := fun i k d h => by
    by_cases hi : i < ar.length
    · rw [List.getElem?_append_left (by simpa using hi), List.getElem?_map, List.getElem?_eq_getElem hi] at h
      simp only [Option.map_some, Option.some.injEq] at h
      rw [List.getElem?_eq_getElem hi]
      cases ha : ar[i] with
      | v d' => rw [ha] at h; cases h
      | r d' =>
        rw [ha] at h; cases h
        refine ⟨rfl, hi, rfl, ?_⟩
        unfold L2.start
        rw [List.getElem?_append_left (by simp; omega), List.getElem?_map]
    · rw [List.getElem?_append_right (by simp; omega)] at h
      have := List.mem_of_getElem? h
      cases (List.eq_of_mem_replicate this)
  have up : ∀ x, Ow ⟨F, H, start N vs, ar.map slotOf ++ List.replicate (n - ar.length) .no⟩ x → Ow ⟨F', H', σ', ρ'⟩ x := fun x ⟨i, k, d, h1, h2⟩ => by
    obtain ⟨rfl, _, _, _⟩ := at_ i k d h1
    obtain ⟨⟨d', h3⟩, h4⟩ := g.kt i d h1
    exact ⟨i, true, d', h3, h4.trans h2⟩
  have own : ∀ (i : Nat) (d : D) (a : Addr), ar[i]? = some (Arg.r d) → vs[i]? = some (.ref a) → (ar.map slotOf ++ List.replicate (n - ar.length) Slot.no)[i]? = some (.own true d) ∧ (start N vs)[i]? = some (some (.ref a)) := fun i d a h1 h2 => by
    have hi : i < ar.length := (List.getElem?_eq_some_iff.mp h1).1
    refine ⟨?_, ?_⟩
    · rw [List.getElem?_append_left (by simpa using hi), List.getElem?_map, h1]; rfl
    · unfold L2.start
      rw [List.getElem?_append_left (by simp; omega), List.getElem?_map, h2]; rfl
  refine ⟨⟨g.le, g.sr.le, fun x h => ?_, fun x o h1 h2 => ?_, g.nv, fun i d a h1 h2 => ?_⟩, up⟩
  · rcases g.fr x h with q | q | q
    · exact .inl q
    · exact .inr q
    · exact absurd (g.sr.owF (up x q)).1 h
  · refine g.kp x o h1 fun ⟨i, k, d, q1, q2⟩ => ?_
    obtain ⟨rfl, hi, q3, q4⟩ := at_ i k d q1
    have q2' : (start N vs)[i]? = some (some (.ref x)) := q2
    rw [q4] at q2'
    refine h2 i d q3 ?_
    cases hv : vs[i]? with
    | none => rw [hv] at q2'; cases q2'
    | some v => rw [hv] at q2'; simp at q2'; rw [q2']
  · obtain ⟨q1, q2⟩ := own i d a h1 h2
    obtain ⟨⟨d', h3⟩, h4⟩ := g.kt i d q1
    obtain ⟨a', e1, e2, e3⟩ := g.sr.own i true d' h3
    have h4' : σ'[i]? = some (some (.ref a)) := h4.trans q2
    have e1' : σ'[i]? = some (some (.ref a')) := e1
    rw [h4'] at e1'; cases e1'
    refine ⟨d', ?_, e2, e3⟩
    have hi : i < ar.length := (List.getElem?_eq_some_iff.mp h1).1
    have h3' : ρ'[i]? = some (.own true d') := h3
    unfold outsOf
    rw [List.getElem?_map, List.getElem?_take_of_lt hi, h3']; rfl
end

/-! ### all defs of a text -/
/-- what the module holds of a def -/
structure DefOk (C : Ct) (mg : Str → Option Value) (T : List (Str × Nat × List Bool)) (cs : List (Str × D)) (G : List FnI) (x : Str) (f : Nat) (ms : List Bool) (a : Addr) (fd : FuncData) (ps : List Str) : Prop where
  ex : ∃ params body scope N ir, G[f]? = some ⟨N.length, ps.length, ir⟩ ∧ FunD C.K x x params body scope [] [] a fd ∧ FnScope N ps scope ∧ blockN 40 ⟨N, scope, fun _ => true, T, cs⟩ body = some ir ∧ parsB params ps = true
  len : ms.length = ps.length
  mg : mg x = some (.ref a)
  kp : PySem.W.keepIn C.K (.ref a) = true
  bind : Binds C.K fd ps []
structure PrgOk (C : Ct) (mg : Str → Option Value) (T : List (Str × Nat × List Bool)) (cs : List (Str × D)) (G : List FnI) : Prop where
  fns : ∀ x f ms, T.lookup x = some (f, ms) → ∃ a fd ps, DefOk C mg T cs G x f ms a fd ps
  cst : ∀ x d, cs.lookup x = some d → ∃ u v, mg x = some u ∧ RelV v u ∧ ∀ F, Rep C F d v
  blt : ∀ x ∈ bltN, mg x = none
section
variable {C : Ct} {P : Program} {w : World} {mg : Str → Option Value} {base : Heap} {T : List (Str × Nat × List Bool)} {cs : List (Str × D)} {G : List FnI}
theorem prg_ok (pk : PrgOk C mg T cs G) : ∀ (n : Nat) {x : Str} {f : Nat} {ms : List Bool} {a : Addr} {fd : FuncData} {ps : List Str}, DefOk C mg T cs G x f ms a fd ps →
    FnOk P w C.K mg base (L2.CX P w) n a fd ps (spI C ps.length (callF G n f))
  | 0, x, f, ms, a, fd, ps, dk => by
    refine ⟨fun vs H Q E h => h.1, fun A outer s H args us vs Q E _ _ _ _ h => ?_⟩
    obtain ⟨_, F, ar, _, _, _, h⟩ := h
    exact h.elim
  | n + 1, x, f, ms, a, fd, ps, dk => by
    obtain ⟨params, body, scope, N, ir, hG, FD, S, hB, _⟩ := dk.ex
    refine FD.ok S (fun vs H Q E h => h.1) (fun cdv A outer s H vs Q E hr h => ?_)
    refine ⟨tS C (fun cls d _ H => E cls d H) (evS (callF G n) ir), snd_block (cf := callF G n) (n := 40) (se := ⟨N, scope, fun _ => true, T, cs⟩) ?_ (takes_of rfl rfl rfl rfl) (passes_of rfl) hB, ?_⟩
    · exact ⟨rfl, S.nd, rfl, fun _ _ => rfl, rfl, rfl, by have := hr.un; show (A.deeper (envOfC x scope s.heap.objs.size a cdv)).units + 150 < cLine; omega, fun y g ms' hy => by
        obtain ⟨a', fd', ps', dk'⟩ := pk.fns y g ms' hy
        exact ⟨n, a', fd', ps', dk'.mg, dk'.kp, dk'.len ▸ prg_ok pk n dk', hr, dk'.bind⟩, pk.cst, pk.blt⟩
    · obtain ⟨hl, F, ar, le, ok, ap, h⟩ := h
      simp only [callF, hG, callBody] at h
      refine ⟨F, _, args_slots le ok ap N rfl, ?_⟩
      cases hv : evS (callF G n) ir (ar.map slotOf ++ List.replicate (N.length - ar.length) .no) with
      | bk ρ' => rw [hv] at h; exact h.elim
      | ct ρ' => rw [hv] at h; exact h.elim
      | bad => rw [hv] at h; exact h.elim
      | nx ρ' =>
        rw [hv] at h
        exact fun σ' F' H' g => h .non F' H' (args_end ok N g).1 .non
      | exc c fs ρ' =>
        rw [hv] at h
        exact fun cls d σ' F' H' g x => h cls d F' H' (args_end ok N g).1 x
      | ret op ρ' =>
        rw [hv] at h
        cases op with
        | s i => exact h.elim
        | v d => exact fun v σ' F' H' g r => h v F' H' (args_end ok N g).1 r
        | f d =>
          intro v σ' F' H' g r
          obtain ⟨x, rfl, r1, r2, r3, r4⟩ := r
          obtain ⟨cg, up⟩ := args_end ok N g
          refine h (.ref x) F' H' cg ⟨x, rfl, ?_, r2, r4⟩
          rcases r1 with q | q
          · exact absurd (up x q) r3
          · exact q
end
end PyI
set_option maxHeartbeats 1000000
/-! PyI18: the head's facts grant the reading; a law's end. -/
namespace PyI
open PySem PySem.Spec PyProof.Rows L2
/-- a def of the text: its name, its place among the top's statements, its slots' names, which parameters are references -/
structure Ent where
  x : Str
  i : Nat
  N : List Str
  ms : List Bool
def topOf (p : Program) (i : Nat) : Stmt := p.main.body.getD i (.Pass ⟨0, 0, 0, 0⟩)
def entDef (p : Program) (e : Ent) : He.DefD := ⟨(e.x, none), e.x, e.x, defArgs (topOf p e.i), defBody (topOf p e.i), defScope (topOf p e.i), [], []⟩
def tabOf (es : List Ent) : List (Str × Nat × List Bool) := es.zipIdx.map fun q => (q.1.x, q.2, q.1.ms)
def entSE (p : Program) (T : List (Str × Nat × List Bool)) (cs : List (Str × D)) (e : Ent) : SE := ⟨e.N, defScope (topOf p e.i), fun _ => true, T, cs⟩
def entB (p : Program) (T : List (Str × Nat × List Bool)) (cs : List (Str × D)) (e : Ent) : Option S := blockN 40 (entSE p T cs e) (defBody (topOf p e.i))
def entPs (p : Program) (e : Ent) : List Str := (defArgs (topOf p e.i)).args.map (·.arg)
def entI (p : Program) (T : List (Str × Nat × List Bool)) (cs : List (Str × D)) (e : Ent) : FnI := ⟨e.N.length, e.ms.length, (entB p T cs e).getD .nx⟩
def entC (p : Program) (T : List (Str × Nat × List Bool)) (cs : List (Str × D)) (e : Ent) : Bool := (entB p T cs e).isSome && parsB (defArgs (topOf p e.i)) (entPs p e) && scopeB e.N (entPs p e) (defScope (topOf p e.i)) && decide (e.ms.length = (entPs p e).length)
/-- a constant of the module, as a fact -/
def csFa : Str × D → List He.Fa
  | (x, .int i) => [.int x i]
  | (x, .str z) => [.str x z]
  | _ => []
def csB : Str × D → Bool
  | (_, .int _) => true
  | (_, .str _) => true
  | _ => false
def entFa (es : List Ent) (cs : List (Str × D)) : List He.Fa := es.map (fun e => .glo e.x) ++ bltN.map .free ++ cs.flatMap csFa
def entFn (p : Program) (es : List Ent) : List He.DefD := es.map (entDef p)
theorem tab_lookup : ∀ {es : List Ent} {n : Nat} {x : Str} {f : Nat} {ms : List Bool}, ((es.zipIdx n).map fun q => (q.1.x, q.2, q.1.ms)).lookup x = some (f, ms) → ∃ e j, f = n + j ∧ es[j]? = some e ∧ e.x = x ∧ e.ms = ms
  | [], _, _, _, _, h => by cases h
  | e :: es, n, x, f, ms, h => by
    simp only [List.zipIdx_cons, List.map_cons, List.lookup_cons] at h
    cases hx : x == e.x with
    | true =>
      rw [hx] at h
      cases h
      exact ⟨e, 0, rfl, rfl, (eq_of_beq hx).symm, rfl⟩
    | false =>
      rw [hx] at h
      obtain ⟨e', j, h1, h2, h3, h4⟩ := tab_lookup (es := es) (n := n + 1) h
      exact ⟨e', j + 1, by omega, by simpa using h2, h3, h4⟩
theorem cs_mem {x : Str} {d : D} : ∀ {cs : List (Str × D)}, cs.lookup x = some d → (x, d) ∈ cs
  | [], h => by cases h
  | (y, e) :: cs, h => by
    rw [List.lookup_cons] at h
    cases hx : x == y with
    | true => rw [hx] at h; cases h; rw [eq_of_beq hx]; exact List.mem_cons_self ..
    | false => rw [hx] at h; exact List.mem_cons_of_mem _ (cs_mem h)
section
variable {p : Program} {es : List Ent} {cs : List (Str × D)} {K : PySem.W.Frag} {h : Heap} {mg : Str → Option Value}
/-- what a head's facts hold: every def stands, the names of the built-ins are free -/
structure HeadOk (K : PySem.W.Frag) (mg : Str → Option Value) (p : Program) (es : List Ent) (cs : List (Str × D)) : Prop where
  d : ∀ e ∈ es, mg e.x = some (.ref (He.ga K e.x)) ∧ ∃ fd, FunD K e.x e.x (defArgs (topOf p e.i)) (defBody (topOf p e.i)) (defScope (topOf p e.i)) [] [] (He.ga K e.x) fd
  c : ∀ x d, cs.lookup x = some d → ∃ u v, mg x = some u ∧ RelV v u ∧ ∀ C F, C.K = K → Rep C F d v
  b : ∀ x ∈ bltN, mg x = none
theorem head_of {fa : List He.Fa} {fn : List He.DefD} (X : K.In h) (G : h.Ns mainGlobals mg) (c : He.SaysD fa fn K) (hfa : ∀ f ∈ entFa es cs, f ∈ fa) (hfn : ∀ d ∈ entFn p es, d ∈ fn) (hcs : cs.all csB = true) : HeadOk K mg p es cs where
  d := fun e me => by
    obtain ⟨fd, FD⟩ := c.defs (hfn (entDef p e) (List.mem_map.mpr ⟨e, me, rfl⟩))
    exact ⟨He.glo_ok X G (c.facts (hfa (.glo e.x) (by unfold entFa; exact List.mem_append_left _ (List.mem_append_left _ (List.mem_map.mpr ⟨e, me, rfl⟩))))), fd, FD⟩
  c := fun x d hl => by
    have me := cs_mem hl
    have hd := List.all_eq_true.mp hcs _ me
    have hf : ∀ f ∈ csFa (x, d), f.ok K = true := fun f hf => c.facts (hfa f (by unfold entFa; exact List.mem_append_right _ (List.mem_flatMap.mpr ⟨_, me, hf⟩)))
    cases d with
    | int i =>
      obtain ⟨t, ht⟩ := He.int_ok X G (hf (.int x i) (by simp [csFa]))
      exact ⟨_, .int i, ht, ⟨t, rfl⟩, fun C F _ => .int i⟩
    | str z =>
      obtain ⟨t, ht⟩ := He.str_ok X G (hf (.str x z) (by simp [csFa]))
      exact ⟨_, .str z, ht, ⟨t, rfl⟩, fun C F _ => .str z⟩
    | _ => cases hd
  b := fun x hx => He.free_ok X G (c.facts (hfa (.free x) (by unfold entFa; exact List.mem_append_left _ (List.mem_append_right _ (List.mem_map.mpr ⟨x, hx, rfl⟩)))))
theorem def_of (cm : Str → Addr) (k : HeadOk K mg p es cs) (hb : es.all (entC p (tabOf es) cs) = true) {e : Ent} {j : Nat} (he : es[j]? = some e) :
    ∃ fd, DefOk ⟨K, cm⟩ mg (tabOf es) cs (es.map (entI p (tabOf es) cs)) e.x j e.ms (He.ga K e.x) fd (entPs p e) := by
  have me : e ∈ es := List.mem_of_getElem? he
  have hc := List.all_eq_true.mp hb e me
  unfold entC at hc
  simp only [Bool.and_eq_true, decide_eq_true_eq] at hc
  obtain ⟨⟨⟨c1, c2⟩, c3⟩, c4⟩ := hc
  obtain ⟨hg, fd, FD⟩ := k.d e me
  cases hB : entB p (tabOf es) cs e with
  | none => rw [hB] at c1; cases c1
  | some ir =>
    refine ⟨fd, ⟨⟨_, _, _, e.N, ir, ?_, FD, scope_of c3, hB, c2⟩, c4, hg, FD.kp, binds_of FD c2⟩⟩
    rw [List.getElem?_map, he]
    simp only [Option.map_some, entI, hB, Option.getD_some, c4]
theorem prg_of (cm : Str → Addr) (k : HeadOk K mg p es cs) (hb : es.all (entC p (tabOf es) cs) = true) : PrgOk ⟨K, cm⟩ mg (tabOf es) cs (es.map (entI p (tabOf es) cs)) where
  fns := fun x f ms hl => by
    obtain ⟨e, j, h1, h2, h3, h4⟩ := tab_lookup (n := 0) hl
    have hj : f = j := by omega
    subst hj
    subst h3 h4
    obtain ⟨fd, dk⟩ := def_of cm k hb h2
    exact ⟨_, fd, _, dk⟩
  cst := fun x d hl => by
    obtain ⟨u, v, h1, h2, h3⟩ := k.c x d hl
    exact ⟨u, v, h1, h2, fun F => h3 _ F rfl⟩
  blt := k.b
/-- the law's promise -/
theorem law_sp {C : Ct} {call : List Arg → CRes} (hl : ∀ ns : List Int, ns.length ≤ 63 → ∃ outs, call [.v (.scr ns)] = .ok (.v (.bl true)) outs) (H : Hp) (a : Addr) (ns : List Int) (hn : ns.length ≤ 63) (hS : SqL C.K H a (ns.map V.int)) :
    spI C 1 call [.ref a] H (fun v _ => v = .bl true) fun _ _ _ => False := by
  obtain ⟨outs, e⟩ := hl ns hn
  refine ⟨rfl, H, [.v (.scr ns)], Le.refl _, .cons (.scr hS) .nil, fun i j d e a h1 h2 => ?_, ?_⟩
  · cases i with
    | zero => cases h1
    | succ i => simp at h1
  · rw [e]
    intro v F' H' _ r
    cases r
    rfl
/-- an exception that is wished for -/
def CXU : CXT := fun _ _ _ E _ _ => ∃ cls d H, E cls d H
theorem fnOk_uni {P : Program} {w : World} {K : PySem.W.Frag} {mg : Str → Option Value} {base : Heap} {k : Nat} {f : Addr} {fd : FuncData} {ps : List Str} {sp : Sp} (F : FnOk P w K mg base (L2.CX P w) k f fd ps sp) : FnOk P w K mg base CXU k f fd ps sp where
  len := F.len
  run := fun A outer s H args us vs Q E hr e0 hb r h => codeAny_mono (F.run A outer s H args us vs Q E hr e0 hb r h) fun res s' q => by
    cases res with
    | ok fl =>
      cases fl with
      | ret u => exact q
      | _ => exact q
    | error e =>
      obtain ⟨_, _, H', cls, d, _, _, _, _, _, _, _, hE⟩ := q
      exact ⟨cls, d, H', hE⟩
/-- the law's def: what walk_ofE wants -/
theorem law_F {w : World} {k j : Nat} {y : Str} {fa : Addr} {e : Ent} (cm : Str → Addr) (X : K.In h) (hd : HeadOk K mg p es cs) (hb : es.all (entC p (tabOf es) cs) = true) (he : es[j]? = some e) (hp : entPs p e = [y]) (hm : mg e.x = some (.ref fa))
    (hl : ∀ ns : List Int, ns.length ≤ 63 → ∃ outs, callF (es.map (entI p (tabOf es) cs)) k j [.v (.scr ns)] = .ok (.v (.bl true)) outs) :
    ∃ (K' : PySem.W.Frag) (fd : FuncData) (sp : Sp), K'.In h ∧ (∀ (s : Shared) (u : Value), BindsTo s fd ⟨[u], []⟩ [(y, u)]) ∧
      (∀ (H : Hp) (a : Addr) (ns : List Int), ns.length ≤ 63 → Only H → SqL K' H a (ns.map V.int) → sp [.ref a] H (fun v _ => v = .bl true) fun _ _ _ => False) ∧
      ∀ base : Heap, K'.In base → base.Ns mainGlobals mg → FnOk p w K' mg base CXU k fa fd [y] sp := by
  have pk := prg_of cm hd hb
  obtain ⟨fd, dk⟩ := def_of cm hd hb he
  have e1 : He.ga K e.x = fa := by have := dk.mg.symm.trans hm; cases this; rfl
  subst e1
  rw [hp] at dk
  obtain ⟨params, body, scope, N, ir, hG, FD, S, hB, hpar⟩ := dk.ex
  exact ⟨K, fd, spI ⟨K, cm⟩ 1 (callF (es.map (entI p (tabOf es) cs)) k j), X, bindsA_of FD hpar, fun H a ns hn _ hS => law_sp hl H a ns hn hS, fun base _ _ => fnOk_uni (prg_ok pk k dk)⟩
end
end PyI
set_option maxHeartbeats 1000000
/-! PyM1: the mathematics of the evaluator: steps, loops; the pool of draws that the laws share. -/
namespace PyI
open PySem PySem.Spec PyProof.Rows L2
section
variable {cf : CF} {a b : S} {ρ ρ1 : Env}
theorem s_seq (h : evS cf a ρ = .nx ρ1) : evS cf (.seq a b) ρ = evS cf b ρ1 := by
  show seqS (evS cf a) (evS cf b) ρ = _
  unfold seqS
  rw [h]
theorem s_ret {op : Op} (h : evS cf a ρ = .ret op ρ1) : evS cf (.seq a b) ρ = .ret op ρ1 := by
  show seqS (evS cf a) (evS cf b) ρ = _
  unfold seqS
  rw [h]
theorem s_if {t : E} {k : Bool} (h : evT cf t ρ = .ok k ρ1) : evS cf (.ifs t a b) ρ = if k = true then evS cf a ρ1 else evS cf b ρ1 := by
  show ifS (evT cf t) (evS cf a) (evS cf b) ρ = _
  unfold ifS
  rw [h]; rfl
theorem forL_inv {t : T} {p : Fs} (I : Nat → Env → Prop) : ∀ (l : List D) (k : Nat) (ρ : Env), I k ρ →
    (∀ i d ρ, l[i]? = some d → I (k + i) ρ → ∃ ρ1 ρ2, asgT t d ρ = some ρ1 ∧ (p ρ1 = .nx ρ2 ∨ p ρ1 = .ct ρ2) ∧ I (k + i + 1) ρ2) → ∃ ρ', forL t p l ρ = .nx ρ' ∧ I (k + l.length) ρ'
  | [], k, ρ, h, _ => ⟨ρ, rfl, h⟩
  | d :: l, k, ρ, h, st => by
    obtain ⟨ρ1, ρ2, h1, h2, h3⟩ := st 0 d ρ rfl h
    obtain ⟨ρ', h4, h5⟩ := forL_inv I l (k + 1) ρ2 h3 fun i d' ρ hi hI => by
      have := st (i + 1) d' ρ (by simpa using hi) (by rw [show k + (i + 1) = k + 1 + i by omega]; exact hI)
      rw [show k + (i + 1) + 1 = k + 1 + i + 1 by omega] at this
      exact this
    refine ⟨ρ', ?_, by rw [List.length_cons, show k + (l.length + 1) = k + 1 + l.length by omega]; exact h5⟩
    simp only [forL, h1]
    rcases h2 with h2 | h2 <;> rw [h2] <;> exact h4
theorem s_for {t : T} {it : E} {p : S} {items : List D} (h : evI cf it ρ = .ok items ρ1) : evS cf (.fors t it p) ρ = forL t (evS cf p) items ρ1 := by
  show forS t (evI cf it) (evS cf p) ρ = _
  unfold forS
  rw [h]; rfl
end
/-! ### calls -/
theorem keep_no : Slot.keep .no = false := rfl
theorem keep_val {d : D} : Slot.keep (.val d) = false := rfl
theorem keep_ownf {d : D} : Slot.keep (.own false d) = false := rfl
theorem fm_v {d : D} {l : List Op} : (Op.v d :: l).filterMap slotI = l.filterMap slotI := rfl
theorem fm_f {d : D} {l : List Op} : (Op.f d :: l).filterMap slotI = l.filterMap slotI := rfl
theorem fm_s {i : Nat} {l : List Op} : (Op.s i :: l).filterMap slotI = i :: l.filterMap slotI := rfl
theorem c_ret {sl np : Nat} {b : S} {ar : List Arg} {cf : CF} {d : D} {ρ' : Env} (h : evS cf b (ar.map slotOf ++ List.replicate (sl - ar.length) .no) = .ret (.v d) ρ') : callBody cf ⟨sl, np, b⟩ ar = .ok (.v d) (outsOf ar.length ρ') := by
  unfold callBody
  rw [h]
theorem c_retf {sl np : Nat} {b : S} {ar : List Arg} {cf : CF} {d : D} {ρ' : Env} (h : evS cf b (ar.map slotOf ++ List.replicate (sl - ar.length) .no) = .ret (.f d) ρ') : callBody cf ⟨sl, np, b⟩ ar = .ok (.f d) (outsOf ar.length ρ') := by
  unfold callBody
  rw [h]
theorem cut_tail {x : Int} {g : List Int} : cutD ((x :: g).map D.int) (some 1) none = g.map D.int := by
  have h1 : HT.sIx (((x :: g).map D.int).length) 0 (some 1) = 1 := by
    rw [show (1 : Int) = ((1 : Nat) : Int) from rfl, HT.sIx_nat]; simp
  have h2 : HT.sIx (((x :: g).map D.int).length) (((x :: g).map D.int).length) none = ((x :: g).map D.int).length := rfl
  unfold cutD
  rw [h1, h2]
  simp [List.take_of_length_le]

/-! ### the draw -/
def pool (g s : List Int) (a b : Int) : D := .lst [.lst (g.map .int), .lst (s.map .int), .int a, .int b]
def IsPool (p : D) : Prop := ∃ (g s : List Int) (a b : Int), p = pool g s a b
def dr1 : S := .ifs (.tand (.tv (.cmp .eq (.sub (.var 0) (.cst (.int 2))) (.cst (.int 0)))) (.tv (.cmp .gt (.bi .len (.sub (.var 0) (.cst (.int 0)))) (.cst (.int 0))))) (.seq (.set 2 (.sub (.var 0) (.cst (.int 0)))) (.seq (.store 0 (.cst (.int 2)) (.sub (.var 2) (.cst (.int 0)))) (.store 0 (.cst (.int 0)) (.slc (.var 2) (.acons (.cst (.int 1)) .anil) .nopart)))) .nx
def dr2 : S := .ifs (.tv (.cmp .gt (.sub (.var 0) (.cst (.int 2))) (.cst (.int 0)))) (.seq (.set 3 (.bin .mod (.bi .int (.sub (.var 0) (.cst (.int 2)))) (.var 1))) (.seq (.store 0 (.cst (.int 2)) (.bin .fdiv (.sub (.var 0) (.cst (.int 2))) (.var 1))) (.ret (.var 3)))) .nx
def dr3 : S := .store 0 (.cst (.int 3)) (.bin .add (.sub (.var 0) (.cst (.int 3))) (.cst (.int 1)))
def dr4 : S := .ifs (.tv (.cmp .gt (.bi .len (.sub (.var 0) (.cst (.int 1)))) (.cst (.int 0)))) (.set 4 (.sub (.sub (.var 0) (.cst (.int 1))) (.bin .mod (.bi .int (.sub (.var 0) (.cst (.int 3)))) (.bi .len (.sub (.var 0) (.cst (.int 1))))))) .nx
def dr5 : S := .seq (.set 5 (.bin .mod (.bi .int (.bin .mul (.bin .add (.bin .add (.var 4) (.bin .mul (.cst (.int 7919)) (.sub (.var 0) (.cst (.int 3))))) (.cst (.int 1))) (.cst (.int 48271)))) (.cst (.int 2147483647)))) (.seq (.set 5 (.bin .mod (.bi .int (.bin .mul (.var 5) (.bin .add (.bin .fdiv (.var 5) (.cst (.int 1009))) (.cst (.int 69621))))) (.cst (.int 2147483647)))) (.seq (.set 5 (.bin .mod (.bi .int (.bin .mul (.var 5) (.bin .add (.bin .fdiv (.var 5) (.cst (.int 2003))) (.cst (.int 40692))))) (.cst (.int 2147483399)))) (.ret (.bin .mod (.bi .int (.bin .fdiv (.var 5) (.cst (.int 16)))) (.var 1)))))
def drawB : S := .seq dr1 (.seq dr2 (.seq dr3 (.seq (.set 4 (.cst (.int 0))) (.seq dr4 dr5))))
section
variable {cf : CF} {g s : List Int} {a b m c z : Int} {sl : Slot}
theorem dr1_ok : ∃ (g' : List Int) (a' : Int) (sl : Slot), evS cf dr1 [.own true (pool g s a b), .val (.int m), .no, .no, .no, .no] = .nx [.own true (pool g' s a' b), .val (.int m), sl, .no, .no, .no] ∧ (∀ d, sl ≠ .own true d) := by
  cases ha : (a == 0) with
  | false => exact ⟨g, a, .no, by simp [dr1, ha, pool, evS, evE, evT, evI, evL, evP, nextS, breakS, contS, seqS, setS, putS, setVal, keep_no, keep_val, keep_ownf, asgS, asgT, asgTs, retS, retNS, retOp, ifS, storeS, store3, setD, forS, dropS, seq1, seq2, op1, op2, PyI.res, bop, PyI.cop, copB, eqOp, neOp, D.dep, depL, depK, eqv, eqvL, eqF, D.odd, D.neOk, D.nod, nodL, isOp, inOp, D.flat, varE, cstE, frzE, PyI.frz, seqA, seqV, vals, tupD, lstD, dnewE, testE, truE, truD, notT, andT, orT, yesT, andE, orE, notE, iteE, Res.bind, Res.bindS, deref, slotOf, outsOf, outD, PyI.isi, isiD, biD, ixD, atI, ixN, keyD, slD, partE, seqSl, sl3, negD, callE, callR, argsOf, slotI, fm_v, fm_f, fm_s, wback, setOwn, mtE, mt2, mtD, isTy, Mt.ty, it1, seqD, enumD], by simp⟩
  | true =>
    cases g with
    | nil => exact ⟨[], a, .no, by simp [dr1, ha, pool, evS, evE, evT, evI, evL, evP, nextS, breakS, contS, seqS, setS, putS, setVal, keep_no, keep_val, keep_ownf, asgS, asgT, asgTs, retS, retNS, retOp, ifS, storeS, store3, setD, forS, dropS, seq1, seq2, op1, op2, PyI.res, bop, PyI.cop, copB, eqOp, neOp, D.dep, depL, depK, eqv, eqvL, eqF, D.odd, D.neOk, D.nod, nodL, isOp, inOp, D.flat, varE, cstE, frzE, PyI.frz, seqA, seqV, vals, tupD, lstD, dnewE, testE, truE, truD, notT, andT, orT, yesT, andE, orE, notE, iteE, Res.bind, Res.bindS, deref, slotOf, outsOf, outD, PyI.isi, isiD, biD, ixD, atI, ixN, keyD, slD, partE, seqSl, sl3, negD, callE, callR, argsOf, slotI, fm_v, fm_f, fm_s, wback, setOwn, mtE, mt2, mtD, isTy, Mt.ty, it1, seqD, enumD], by simp⟩
    | cons x g =>
      have hc := cut_tail (x := x) (g := g)
      rw [List.map_cons] at hc
      exact ⟨g, x, .val (.lst ((x :: g).map .int)), by simp [dr1, ha, pool, hc, evS, evE, evT, evI, evL, evP, nextS, breakS, contS, seqS, setS, putS, setVal, keep_no, keep_val, keep_ownf, asgS, asgT, asgTs, retS, retNS, retOp, ifS, storeS, store3, setD, forS, dropS, seq1, seq2, op1, op2, PyI.res, bop, PyI.cop, copB, eqOp, neOp, D.dep, depL, depK, eqv, eqvL, eqF, D.odd, D.neOk, D.nod, nodL, isOp, inOp, D.flat, varE, cstE, frzE, PyI.frz, seqA, seqV, vals, tupD, lstD, dnewE, testE, truE, truD, notT, andT, orT, yesT, andE, orE, notE, iteE, Res.bind, Res.bindS, deref, slotOf, outsOf, outD, PyI.isi, isiD, biD, ixD, atI, ixN, keyD, slD, partE, seqSl, sl3, negD, callE, callR, argsOf, slotI, fm_v, fm_f, fm_s, wback, setOwn, mtE, mt2, mtD, isTy, Mt.ty, it1, seqD, enumD], by simp⟩
theorem dr2_t (hm : 0 < m) (hm2 : m < 1073741824) (ha : 0 < a) : evS cf dr2 [.own true (pool g s a b), .val (.int m), sl, .no, .no, .no] = .ret (.v (.int (a % m))) [.own true (pool g s (a / m) b), .val (.int m), sl, .val (.int (a % m)), .no, .no] := by
  simp [dr2, ha, hm, hm2, pool, evS, evE, evT, evI, evL, evP, nextS, breakS, contS, seqS, setS, putS, setVal, keep_no, keep_val, keep_ownf, asgS, asgT, asgTs, retS, retNS, retOp, ifS, storeS, store3, setD, forS, dropS, seq1, seq2, op1, op2, PyI.res, bop, PyI.cop, copB, eqOp, neOp, D.dep, depL, depK, eqv, eqvL, eqF, D.odd, D.neOk, D.nod, nodL, isOp, inOp, D.flat, varE, cstE, frzE, PyI.frz, seqA, seqV, vals, tupD, lstD, dnewE, testE, truE, truD, notT, andT, orT, yesT, andE, orE, notE, iteE, Res.bind, Res.bindS, deref, slotOf, outsOf, outD, PyI.isi, isiD, biD, ixD, atI, ixN, keyD, slD, partE, seqSl, sl3, negD, callE, callR, argsOf, slotI, fm_v, fm_f, fm_s, wback, setOwn, mtE, mt2, mtD, isTy, Mt.ty, it1, seqD, enumD]
theorem dr2_f (ha : ¬ 0 < a) : evS cf dr2 [.own true (pool g s a b), .val (.int m), sl, .no, .no, .no] = .nx [.own true (pool g s a b), .val (.int m), sl, .no, .no, .no] := by
  simp [dr2, ha, pool, evS, evE, evT, evI, evL, evP, nextS, breakS, contS, seqS, setS, putS, setVal, keep_no, keep_val, keep_ownf, asgS, asgT, asgTs, retS, retNS, retOp, ifS, storeS, store3, setD, forS, dropS, seq1, seq2, op1, op2, PyI.res, bop, PyI.cop, copB, eqOp, neOp, D.dep, depL, depK, eqv, eqvL, eqF, D.odd, D.neOk, D.nod, nodL, isOp, inOp, D.flat, varE, cstE, frzE, PyI.frz, seqA, seqV, vals, tupD, lstD, dnewE, testE, truE, truD, notT, andT, orT, yesT, andE, orE, notE, iteE, Res.bind, Res.bindS, deref, slotOf, outsOf, outD, PyI.isi, isiD, biD, ixD, atI, ixN, keyD, slD, partE, seqSl, sl3, negD, callE, callR, argsOf, slotI, fm_v, fm_f, fm_s, wback, setOwn, mtE, mt2, mtD, isTy, Mt.ty, it1, seqD, enumD]
theorem dr3_ok : evS cf dr3 [.own true (pool g s a b), .val (.int m), sl, .no, .no, .no] = .nx [.own true (pool g s a (b + 1)), .val (.int m), sl, .no, .no, .no] := by
  simp [dr3, pool, evS, evE, evT, evI, evL, evP, nextS, breakS, contS, seqS, setS, putS, setVal, keep_no, keep_val, keep_ownf, asgS, asgT, asgTs, retS, retNS, retOp, ifS, storeS, store3, setD, forS, dropS, seq1, seq2, op1, op2, PyI.res, bop, PyI.cop, copB, eqOp, neOp, D.dep, depL, depK, eqv, eqvL, eqF, D.odd, D.neOk, D.nod, nodL, isOp, inOp, D.flat, varE, cstE, frzE, PyI.frz, seqA, seqV, vals, tupD, lstD, dnewE, testE, truE, truD, notT, andT, orT, yesT, andE, orE, notE, iteE, Res.bind, Res.bindS, deref, slotOf, outsOf, outD, PyI.isi, isiD, biD, ixD, atI, ixN, keyD, slD, partE, seqSl, sl3, negD, callE, callR, argsOf, slotI, fm_v, fm_f, fm_s, wback, setOwn, mtE, mt2, mtD, isTy, Mt.ty, it1, seqD, enumD]
theorem dr4_ok : ∃ z : Int, evS cf dr4 [.own true (pool g s a b), .val (.int m), sl, .no, .val (.int 0), .no] = .nx [.own true (pool g s a b), .val (.int m), sl, .no, .val (.int z), .no] := by
  cases s with
  | nil => exact ⟨0, by simp [dr4, pool, evS, evE, evT, evI, evL, evP, nextS, breakS, contS, seqS, setS, putS, setVal, keep_no, keep_val, keep_ownf, asgS, asgT, asgTs, retS, retNS, retOp, ifS, storeS, store3, setD, forS, dropS, seq1, seq2, op1, op2, PyI.res, bop, PyI.cop, copB, eqOp, neOp, D.dep, depL, depK, eqv, eqvL, eqF, D.odd, D.neOk, D.nod, nodL, isOp, inOp, D.flat, varE, cstE, frzE, PyI.frz, seqA, seqV, vals, tupD, lstD, dnewE, testE, truE, truD, notT, andT, orT, yesT, andE, orE, notE, iteE, Res.bind, Res.bindS, deref, slotOf, outsOf, outD, PyI.isi, isiD, biD, ixD, atI, ixN, keyD, slD, partE, seqSl, sl3, negD, callE, callR, argsOf, slotI, fm_v, fm_f, fm_s, wback, setOwn, mtE, mt2, mtD, isTy, Mt.ty, it1, seqD, enumD]⟩
  | cons x s =>
    have hp : (0 : Int) < ((s.length + 1 : Nat) : Int) := by omega
    have h0 : 0 ≤ b % ((s.length + 1 : Nat) : Int) := Int.emod_nonneg _ (by omega)
    have h1 : b % ((s.length + 1 : Nat) : Int) < ((s.length + 1 : Nat) : Int) := Int.emod_lt_of_pos _ hp
    have hn : (b % ((s.length + 1 : Nat) : Int)).toNat < (x :: s).length := by simp only [List.length_cons]; omega
    have h0' : 0 ≤ b % ((s.length : Int) + 1) := by exact_mod_cast h0
    have h1' : b % ((s.length : Int) + 1) < (s.length : Int) + 1 := by exact_mod_cast h1
    have hn' : (b % ((s.length : Int) + 1)).toNat < (x :: s).length := by exact_mod_cast hn
    have hp' : (0 : Int) < (s.length : Int) + 1 := by omega
    have hg : (D.int x :: s.map D.int)[(b % ((s.length : Int) + 1)).toNat]? = some (.int ((x :: s)[(b % ((s.length : Int) + 1)).toNat])) := by
      rw [← List.map_cons, List.getElem?_map, List.getElem?_eq_getElem hn']; rfl
    exact ⟨(x :: s)[(b % ((s.length : Int) + 1)).toNat], by simp [dr4, pool, h0', h1', hp', evS, evE, evT, evI, evL, evP, nextS, breakS, contS, seqS, setS, putS, setVal, keep_no, keep_val, keep_ownf, asgS, asgT, asgTs, retS, retNS, retOp, ifS, storeS, store3, setD, forS, dropS, seq1, seq2, op1, op2, PyI.res, bop, PyI.cop, copB, eqOp, neOp, D.dep, depL, depK, eqv, eqvL, eqF, D.odd, D.neOk, D.nod, nodL, isOp, inOp, D.flat, varE, cstE, frzE, PyI.frz, seqA, seqV, vals, tupD, lstD, dnewE, testE, truE, truD, notT, andT, orT, yesT, andE, orE, notE, iteE, Res.bind, Res.bindS, deref, slotOf, outsOf, outD, PyI.isi, isiD, biD, ixD, atI, ixN, keyD, slD, partE, seqSl, sl3, negD, callE, callR, argsOf, slotI, fm_v, fm_f, fm_s, wback, setOwn, mtE, mt2, mtD, isTy, Mt.ty, it1, seqD, enumD]; exact Option.some.inj ((List.getElem?_eq_getElem _).symm.trans hg)⟩
theorem dr5_ok (hm : 0 < m) : ∃ r ρ', evS cf dr5 [.own true (pool g s a b), .val (.int m), sl, .no, .val (.int z), .no] = .ret (.v (.int r)) (.own true (pool g s a b) :: .val (.int m) :: ρ') ∧ 0 ≤ r ∧ r < m := by
  have b1 : ∀ x : Int, 0 ≤ x % 2147483647 ∧ x % 2147483647 < 2147483647 := fun x => ⟨Int.emod_nonneg _ (by decide), Int.emod_lt_of_pos _ (by decide)⟩
  have hc : ∀ x y : Int, cmul (x % 2147483647) y = true := fun x y => by
    obtain ⟨h1, h2⟩ := b1 x
    unfold cmul
    have e1 : decide (-(2 ^ 64) < x % 2147483647) = true := decide_eq_true (by omega)
    have e2 : decide (x % 2147483647 < 2 ^ 64) = true := decide_eq_true (by omega)
    rw [e1, e2]; rfl
  have hc1 : ∀ x : Int, cmul x 48271 = true := fun x => by unfold cmul; simp
  have hc2 : ∀ x : Int, cmul 7919 x = true := fun x => by unfold cmul; simp
  refine ⟨_, _, by simp [dr5, pool, hm, hc, hc1, hc2, evS, evE, evT, evI, evL, evP, nextS, breakS, contS, seqS, setS, putS, setVal, keep_no, keep_val, keep_ownf, asgS, asgT, asgTs, retS, retNS, retOp, ifS, storeS, store3, setD, forS, dropS, seq1, seq2, op1, op2, PyI.res, bop, PyI.cop, copB, eqOp, neOp, D.dep, depL, depK, eqv, eqvL, eqF, D.odd, D.neOk, D.nod, nodL, isOp, inOp, D.flat, varE, cstE, frzE, PyI.frz, seqA, seqV, vals, tupD, lstD, dnewE, testE, truE, truD, notT, andT, orT, yesT, andE, orE, notE, iteE, Res.bind, Res.bindS, deref, slotOf, outsOf, outD, PyI.isi, isiD, biD, ixD, atI, ixN, keyD, slD, partE, seqSl, sl3, negD, callE, callR, argsOf, slotI, fm_v, fm_f, fm_s, wback, setOwn, mtE, mt2, mtD, isTy, Mt.ty, it1, seqD, enumD]; exact ⟨rfl, rfl⟩, Int.emod_nonneg _ (by omega), Int.emod_lt_of_pos _ hm⟩
end
def DrawOk (c : List Arg → CRes) : Prop := ∀ (p : D) (m : Int), IsPool p → 0 < m → m < 1073741824 → ∃ r p', c [.r p, .v (.int m)] = .ok (.v (.int r)) [p', .non] ∧ IsPool p' ∧ 0 ≤ r ∧ r < m
theorem draw_ok (cf : CF) : DrawOk (callBody cf ⟨6, 2, drawB⟩) := by
  intro p m ⟨g, s, a, b, e⟩ hm hm2
  subst e
  obtain ⟨g1, a1, sl, h1, _⟩ := dr1_ok (cf := cf) (g := g) (s := s) (a := a) (b := b) (m := m)
  by_cases ha : 0 < a1
  · have h2 := dr2_t (cf := cf) (g := g1) (s := s) (b := b) (sl := sl) hm hm2 ha
    have e := c_ret (sl := 6) (np := 2) (b := drawB) (ar := [.r (pool g s a b), .v (.int m)]) (cf := cf) ((s_seq h1).trans (s_ret h2))
    exact ⟨_, _, e, ⟨_, _, _, _, rfl⟩, Int.emod_nonneg _ (by omega), Int.emod_lt_of_pos _ hm⟩
  · have h2 := dr2_f (cf := cf) (g := g1) (s := s) (b := b) (m := m) (sl := sl) ha
    have h3 := dr3_ok (cf := cf) (g := g1) (s := s) (a := a1) (b := b) (m := m) (sl := sl)
    obtain ⟨z, h4⟩ := dr4_ok (cf := cf) (g := g1) (s := s) (a := a1) (b := b + 1) (m := m) (sl := sl)
    obtain ⟨r, ρ', h5, q1, q2⟩ := dr5_ok (cf := cf) (g := g1) (s := s) (a := a1) (b := b + 1) (sl := sl) (z := z) hm
    have h35 : evS cf (.set 4 (.cst (.int 0))) [.own true (pool g1 s a1 (b + 1)), .val (.int m), sl, .no, .no, .no] = .nx [.own true (pool g1 s a1 (b + 1)), .val (.int m), sl, .no, .val (.int 0), .no] := rfl
    have e := c_ret (sl := 6) (np := 2) (b := drawB) (ar := [.r (pool g s a b), .v (.int m)]) (cf := cf) ((s_seq h1).trans ((s_seq h2).trans ((s_seq h3).trans ((s_seq h35).trans ((s_seq h4).trans h5)))))
    exact ⟨r, _, e, ⟨_, _, _, _, rfl⟩, q1, q2⟩
end PyI
set_option maxHeartbeats 1000000
/-! PyM2: comprehensions; what the laws draw. -/
namespace PyI
open PySem PySem.Spec PyProof.Rows L2
def Slot.idle : Slot → Bool
  | .own _ _ => false
  | _ => true
theorem idle_keep {sl : Slot} (h : sl.idle = true) : sl.keep = false := by
  cases sl with
  | own k d => cases h
  | _ => rfl
theorem idle_not {sl : Slot} (h : sl.idle = true) : notOwn (some sl) = true := by
  cases sl with
  | own k d => cases h
  | _ => rfl
/-! ### comprehensions -/
theorem lcL_inv {vs : List Nat} {t : T} {c : Ft} {e : Fe} (I : Env → Prop) (P : D → Prop) : ∀ (l : List D) (acc : List D) (ρ : Env), I ρ →
    (∀ d ∈ l, ∀ ρ, I ρ → ∃ ρ1 ρ2, asgT t d ρ = some ρ1 ∧ ((∃ ρ3 d', c ρ1 = .ok true ρ2 ∧ e ρ2 = .ok (.v d') ρ3 ∧ noOwn ρ3 vs = true ∧ I (wipeR ρ3 vs) ∧ P d') ∨ (c ρ1 = .ok false ρ2 ∧ noOwn ρ2 vs = true ∧ I (wipeR ρ2 vs)))) →
    ∃ out ρ', lcL vs t c e l acc ρ = .ok (acc ++ out) ρ' ∧ I ρ' ∧ (∀ d ∈ out, P d) ∧ out.length ≤ l.length
  | [], acc, ρ, h, _ => ⟨[], ρ, by simp [lcL], h, by simp, Nat.le_refl _⟩
  | d :: l, acc, ρ, h, st => by
    obtain ⟨ρ1, ρ2, h1, h2⟩ := st d (by simp) ρ h
    rcases h2 with ⟨ρ3, d', h3, h4, h5, h6, h7⟩ | ⟨h3, h5, h6⟩
    · obtain ⟨out, ρ', h8, h9, h10, h11⟩ := lcL_inv I P l (acc ++ [d']) _ h6 fun d hd => st d (by simp [hd])
      refine ⟨d' :: out, ρ', ?_, h9, fun x hx => ?_, by simp; omega⟩
      · simp only [lcL, h1, h3, h4, h5, if_true]
        rw [h8]; simp
      · rcases List.mem_cons.mp hx with e | e
        · rw [e]; exact h7
        · exact h10 x e
    · obtain ⟨out, ρ', h8, h9, h10, h11⟩ := lcL_inv I P l acc _ h6 fun d hd => st d (by simp [hd])
      refine ⟨out, ρ', ?_, h9, h10, by simp; omega⟩
      simp only [lcL, h1, h3, h5, if_true]
      exact h8
/-- .. all of them kept -/
theorem lcL_each {vs : List Nat} {t : T} {e : Fe} (I : Env → Prop) (P : D → Prop) : ∀ (l : List D) (acc : List D) (ρ : Env), I ρ →
    (∀ d ∈ l, ∀ ρ, I ρ → ∃ ρ1 ρ3 d', asgT t d ρ = some ρ1 ∧ e ρ1 = .ok (.v d') ρ3 ∧ noOwn ρ3 vs = true ∧ I (wipeR ρ3 vs) ∧ P d') →
    ∃ out ρ', lcL vs t yesT e l acc ρ = .ok (acc ++ out) ρ' ∧ I ρ' ∧ (∀ d ∈ out, P d) ∧ out.length = l.length
  | [], acc, ρ, h, _ => ⟨[], ρ, by simp [lcL], h, by simp, rfl⟩
  | d :: l, acc, ρ, h, st => by
    obtain ⟨ρ1, ρ3, d', h1, h4, h5, h6, h7⟩ := st d (by simp) ρ h
    obtain ⟨out, ρ', h8, h9, h10, h11⟩ := lcL_each I P l (acc ++ [d']) _ h6 fun d hd => st d (by simp [hd])
    refine ⟨d' :: out, ρ', ?_, h9, fun x hx => ?_, by simp [h11]⟩
    · have hy : ∀ ρ, yesT ρ = .ok true ρ := fun _ => rfl
      simp only [lcL, h1, hy, h4, h5, if_true]
      rw [h8]; simp
    · rcases List.mem_cons.mp hx with e | e
      · rw [e]; exact h7
      · exact h10 x e
/-- .. that leaves its context as it is -/
theorem lcL_pure {vs : List Nat} {t : T} {c : Ft} {e : Fe} {ρ0 : Env} (p : D → Bool) (f : D → D) : ∀ (l : List D) (acc : List D),
    (∀ d ∈ l, ∃ ρ1 ρ2, asgT t d ρ0 = some ρ1 ∧ c ρ1 = .ok (p d) ρ2 ∧ (p d = true → ∃ ρ3, e ρ2 = .ok (.v (f d)) ρ3 ∧ noOwn ρ3 vs = true ∧ wipeR ρ3 vs = ρ0) ∧ (p d = false → noOwn ρ2 vs = true ∧ wipeR ρ2 vs = ρ0)) →
    lcL vs t c e l acc ρ0 = .ok (acc ++ (l.filter p).map f) ρ0
  | [], acc, _ => by simp [lcL]
  | d :: l, acc, st => by
    obtain ⟨ρ1, ρ2, h1, h2, h3, h4⟩ := st d (by simp)
    cases hp : p d with
    | true =>
      obtain ⟨ρ3, h5, h6, h7⟩ := h3 hp
      simp only [lcL, h1, h2, hp, h5, h6, if_true, h7]
      rw [lcL_pure p f l _ fun d hd => st d (by simp [hd])]
      simp [List.filter_cons, hp]
    | false =>
      obtain ⟨h6, h7⟩ := h4 hp
      simp only [lcL, h1, h2, hp, h6, if_true, h7]
      rw [lcL_pure p f l _ fun d hd => st d (by simp [hd])]
      simp [List.filter_cons, hp]
theorem e_lc {cf : CF} {vs : List Nat} {t : T} {it c e : E} {ρ ρ1 ρ2 : Env} {items acc : List D} (h1 : evI cf it ρ = .ok items ρ1) (h2 : noOwn ρ1 vs = true) (h3 : items.length ≤ 100000) (h4 : lcL vs t (evT cf c) (frzE (evE cf e)) items [] (wipeR ρ1 vs) = .ok acc ρ2) :
    evE cf (.lc vs t it c e) ρ = .ok (.f (.lst acc)) (rst ρ1 ρ2 vs) := by
  show lcE vs t (evI cf it) (evT cf c) (frzE (evE cf e)) ρ = _
  unfold lcE
  rw [h1]
  simp only [Res.bind, h2, h3, and_self, if_true]
  rw [h4]

/-! ### picks -/
def pickB (fd : Nat) : S := .ret (.sub (.var 1) (.call fd (.acons (.var 0) (.acons (.frz (.bi .len (.var 1))) .anil))))
def PickOk (c : List Arg → CRes) : Prop := ∀ (p items : D) (xs : List D), IsPool p → (items = .lst xs ∨ items = .tup xs) → xs ≠ [] → xs.length ≤ 100000 → ∃ d p', c [.r p, .v items] = .ok (.v d) [p', .non] ∧ IsPool p' ∧ d ∈ xs
def PickS (c : List Arg → CRes) : Prop := ∀ (p : D) (z : Str), IsPool p → 0 < z.length → z.length ≤ 100000 → ∃ ch p', c [.r p, .v (.str z)] = .ok (.v (.str ⟨#[ch]⟩)) [p', .non] ∧ IsPool p' ∧ ch ∈ z.cps.toList
section
variable {cf : CF} {fd : Nat}
theorem pick_ok (hd : DrawOk (cf fd)) : PickOk (callBody cf ⟨2, 2, pickB fd⟩) := by
  intro p items xs hp hi hn hl
  have h0 : 0 < xs.length := by cases xs with | nil => exact absurd rfl hn | cons _ _ => simp
  obtain ⟨r, p', e, hp', r0, r1⟩ := hd p (xs.length : Int) hp (by omega) (by omega)
  have hr : r.toNat < xs.length := by omega
  have hg : xs[r.toNat]? = some xs[r.toNat] := List.getElem?_eq_getElem hr
  refine ⟨xs[r.toNat], p', ?_, hp', List.getElem_mem hr⟩
  have r0' : ¬ r < 0 := by omega
  rcases hi with rfl | rfl
  · exact c_ret (ρ' := [.own true p', .val (.lst xs)]) (by simp [pickB, e, r0, r1, hg, evS, evE, evT, evI, evL, evP, nextS, breakS, contS, seqS, setS, putS, setVal, keep_no, keep_val, keep_ownf, asgS, asgT, asgTs, retS, retNS, retOp, ifS, storeS, store3, setD, forS, dropS, seq1, seq2, op1, op2, PyI.res, bop, PyI.cop, copB, eqOp, neOp, D.dep, depL, depK, eqv, eqvL, eqF, D.odd, D.neOk, D.nod, nodL, isOp, inOp, D.flat, varE, cstE, frzE, PyI.frz, seqA, seqV, vals, tupD, lstD, dnewE, testE, truE, truD, notT, andT, orT, yesT, andE, orE, notE, iteE, Res.bind, Res.bindS, deref, slotOf, outsOf, outD, PyI.isi, isiD, biD, ixD, atI, ixN, keyD, slD, partE, seqSl, sl3, negD, callE, callR, argsOf, slotI, fm_v, fm_f, fm_s, wback, setOwn, mtE, mt2, mtD, isTy, Mt.ty, it1, seqD, enumD])
  · exact c_ret (ρ' := [.own true p', .val (.tup xs)]) (by simp [pickB, e, r0, r1, hg, evS, evE, evT, evI, evL, evP, nextS, breakS, contS, seqS, setS, putS, setVal, keep_no, keep_val, keep_ownf, asgS, asgT, asgTs, retS, retNS, retOp, ifS, storeS, store3, setD, forS, dropS, seq1, seq2, op1, op2, PyI.res, bop, PyI.cop, copB, eqOp, neOp, D.dep, depL, depK, eqv, eqvL, eqF, D.odd, D.neOk, D.nod, nodL, isOp, inOp, D.flat, varE, cstE, frzE, PyI.frz, seqA, seqV, vals, tupD, lstD, dnewE, testE, truE, truD, notT, andT, orT, yesT, andE, orE, notE, iteE, Res.bind, Res.bindS, deref, slotOf, outsOf, outD, PyI.isi, isiD, biD, ixD, atI, ixN, keyD, slD, partE, seqSl, sl3, negD, callE, callR, argsOf, slotI, fm_v, fm_f, fm_s, wback, setOwn, mtE, mt2, mtD, isTy, Mt.ty, it1, seqD, enumD])
theorem pick_s (hd : DrawOk (cf fd)) : PickS (callBody cf ⟨2, 2, pickB fd⟩) := by
  intro p z hp h0 hl
  obtain ⟨r, p', e, hp', r0, r1⟩ := hd p (z.length : Int) hp (by omega) (by omega)
  have hz : z.length = z.cps.toList.length := rfl
  have hr : r.toNat < z.cps.toList.length := by omega
  have hg : z.cps.toList[r.toNat]? = some z.cps.toList[r.toNat] := List.getElem?_eq_getElem hr
  have hi : ixN z.cps.toList.length r = some r.toNat := by
    unfold ixN
    rw [if_pos r0, if_pos (by omega)]
  have ha : atI z.cps.toList r = some z.cps.toList[r.toNat] := by
    unfold atI
    rw [hi]
    exact hg
  refine ⟨z.cps.toList[r.toNat], p', ?_, hp', List.getElem_mem hr⟩
  refine c_ret (ρ' := [.own true p', .val (.str z)]) ?_
  have hix : ixD (.str z) (.int r) = some (.v (.str ⟨#[z.cps.toList[r.toNat]]⟩)) := by
    simp only [ixD, hl, if_true, ha, Option.map_some]
  simp only [pickB, evS, evE, evL, retS, seq2, seq1, varE, slotOf, op1, op2, deref, biD, callE, seqA, frzE, PyI.frz, Res.bind, Res.bindS, List.map_cons, List.map_nil, List.length_cons, List.length_nil, PyI.res, hl, if_true]
  simp [callR, argsOf, slotI, fm_v, fm_s, e, wback, setOwn, deref, hix, ha, PyI.res, Res.bind, Res.bindS, retOp, hl]
/-! ### numbers -/
def numberB (fd : Nat) : S := .seq (.set 1 (.call fd (.acons (.var 0) (.acons (.frz (.cst (.int 12))) .anil)))) (.seq (.set 2 (.bin .sub (.call fd (.acons (.var 0) (.acons (.frz (.cst (.int 7))) .anil))) (.cst (.int 3)))) (.seq (.ifs (.tv (.cmp .eq (.var 1) (.cst (.int 0)))) (.set 2 (.bin .sub (.call fd (.acons (.var 0) (.acons (.frz (.cst (.int 2001))) .anil))) (.cst (.int 1000)))) .nx) (.seq (.ifs (.tv (.cmp .eq (.var 1) (.cst (.int 1)))) (.set 2 (.bin .add (.bin .mul (.bin .sub (.call fd (.acons (.var 0) (.acons (.frz (.cst (.int 3))) .anil))) (.cst (.int 1))) (.bin .pow (.cst (.int 10)) (.cst (.int 40)))) (.var 2))) .nx) (.ret (.var 2)))))
def NumOk (c : List Arg → CRes) : Prop := ∀ (p : D), IsPool p → ∃ n p', c [.r p] = .ok (.v (.int n)) [p'] ∧ IsPool p'
theorem number_ok (hd : DrawOk (cf fd)) : NumOk (callBody cf ⟨3, 1, numberB fd⟩) := by
  intro p hp
  obtain ⟨k, p1, e1, hp1, k0, k1⟩ := hd p 12 hp (by decide) (by decide)
  obtain ⟨r, p2, e2, hp2, r0, r1⟩ := hd p1 7 hp1 (by decide) (by decide)
  obtain ⟨a, p3, e3, hp3, a0, a1⟩ := hd p2 2001 hp2 (by decide) (by decide)
  obtain ⟨b, p4, e4, hp4, b0, b1⟩ := hd p2 3 hp2 (by decide) (by decide)
  have hc : ∀ y : Int, cmul (b - 1) y = true := fun y => by
    unfold cmul
    have e1 : decide (-(2 ^ 64) < b - 1) = true := decide_eq_true (by omega)
    have e2 : decide (b - 1 < 2 ^ 64) = true := decide_eq_true (by omega)
    rw [e1, e2]; rfl
  by_cases h0 : k = 0
  · subst h0
    exact ⟨_, _, c_ret (d := .int (a - 1000)) (ρ' := [.own true p3, .val (.int 0), .val (.int (a - 1000))]) (by simp [numberB, e1, e2, e3, evS, evE, evT, evI, evL, evP, nextS, breakS, contS, seqS, setS, putS, setVal, keep_no, keep_val, keep_ownf, asgS, asgT, asgTs, retS, retNS, retOp, ifS, storeS, store3, setD, forS, dropS, seq1, seq2, op1, op2, PyI.res, bop, PyI.cop, copB, eqOp, neOp, D.dep, depL, depK, eqv, eqvL, eqF, D.odd, D.neOk, D.nod, nodL, isOp, inOp, D.flat, varE, cstE, frzE, PyI.frz, seqA, seqV, vals, tupD, lstD, dnewE, testE, truE, truD, notT, andT, orT, yesT, andE, orE, notE, iteE, Res.bind, Res.bindS, deref, slotOf, outsOf, outD, PyI.isi, isiD, biD, ixD, atI, ixN, keyD, slD, partE, seqSl, sl3, negD, callE, callR, argsOf, slotI, fm_v, fm_f, fm_s, wback, setOwn, mtE, mt2, mtD, isTy, Mt.ty, it1, seqD, enumD]), hp3⟩
  · by_cases h1 : k = 1
    · subst h1
      exact ⟨_, _, c_ret (d := .int ((b - 1) * 10 ^ 40 + (r - 3))) (ρ' := [.own true p4, .val (.int 1), .val (.int ((b - 1) * 10 ^ 40 + (r - 3)))]) (by simp [numberB, e1, e2, e4, hc, evS, evE, evT, evI, evL, evP, nextS, breakS, contS, seqS, setS, putS, setVal, keep_no, keep_val, keep_ownf, asgS, asgT, asgTs, retS, retNS, retOp, ifS, storeS, store3, setD, forS, dropS, seq1, seq2, op1, op2, PyI.res, bop, PyI.cop, copB, eqOp, neOp, D.dep, depL, depK, eqv, eqvL, eqF, D.odd, D.neOk, D.nod, nodL, isOp, inOp, D.flat, varE, cstE, frzE, PyI.frz, seqA, seqV, vals, tupD, lstD, dnewE, testE, truE, truD, notT, andT, orT, yesT, andE, orE, notE, iteE, Res.bind, Res.bindS, deref, slotOf, outsOf, outD, PyI.isi, isiD, biD, ixD, atI, ixN, keyD, slD, partE, seqSl, sl3, negD, callE, callR, argsOf, slotI, fm_v, fm_f, fm_s, wback, setOwn, mtE, mt2, mtD, isTy, Mt.ty, it1, seqD, enumD]), hp4⟩
    · exact ⟨_, _, c_ret (d := .int (r - 3)) (ρ' := [.own true p2, .val (.int k), .val (.int (r - 3))]) (by simp [numberB, e1, e2, h0, h1, evS, evE, evT, evI, evL, evP, nextS, breakS, contS, seqS, setS, putS, setVal, keep_no, keep_val, keep_ownf, asgS, asgT, asgTs, retS, retNS, retOp, ifS, storeS, store3, setD, forS, dropS, seq1, seq2, op1, op2, PyI.res, bop, PyI.cop, copB, eqOp, neOp, D.dep, depL, depK, eqv, eqvL, eqF, D.odd, D.neOk, D.nod, nodL, isOp, inOp, D.flat, varE, cstE, frzE, PyI.frz, seqA, seqV, vals, tupD, lstD, dnewE, testE, truE, truD, notT, andT, orT, yesT, andE, orE, notE, iteE, Res.bind, Res.bindS, deref, slotOf, outsOf, outD, PyI.isi, isiD, biD, ixD, atI, ixN, keyD, slD, partE, seqSl, sl3, negD, callE, callR, argsOf, slotI, fm_v, fm_f, fm_s, wback, setOwn, mtE, mt2, mtD, isTy, Mt.ty, it1, seqD, enumD]), hp2⟩
/-! ### literals, clauses -/
def literalB (fp fn : Nat) : S := .ret (.tup (.acons (.frz (.call fp (.acons (.var 0) (.acons (.frz (.var 1)) .anil)))) (.acons (.frz (.call fp (.acons (.var 0) (.acons (.frz (.var 1)) .anil)))) (.acons (.frz (.call fn (.acons (.var 0) .anil))) .anil))))
/-- a literal over the terms ts -/
def IsLit (ts : List D) (l : D) : Prop := ∃ t1 t2 n, l = .tup [t1, t2, .int n] ∧ t1 ∈ ts ∧ t2 ∈ ts
def LitOk (c : List Arg → CRes) : Prop := ∀ (p : D) (ts : List D), IsPool p → ts ≠ [] → ts.length ≤ 100000 → ∃ l p', c [.r p, .v (.lst ts)] = .ok (.v l) [p', .non] ∧ IsPool p' ∧ IsLit ts l
theorem literal_ok {fp fn : Nat} (hp : PickOk (cf fp)) (hn : NumOk (cf fn)) : LitOk (callBody cf ⟨2, 2, literalB fp fn⟩) := by
  intro p ts h0 h1 h2
  obtain ⟨t1, p1, e1, q1, m1⟩ := hp p (.lst ts) ts h0 (.inl rfl) h1 h2
  obtain ⟨t2, p2, e2, q2, m2⟩ := hp p1 (.lst ts) ts q1 (.inl rfl) h1 h2
  obtain ⟨n, p3, e3, q3⟩ := hn p2 q2
  exact ⟨_, p3, c_ret (d := .tup [t1, t2, .int n]) (ρ' := [.own true p3, .val (.lst ts)]) (by simp [literalB, e1, e2, e3, evS, evE, evT, evI, evL, evP, nextS, breakS, contS, seqS, setS, putS, setVal, keep_no, keep_val, keep_ownf, asgS, asgT, asgTs, retS, retNS, retOp, ifS, storeS, store3, setD, forS, dropS, seq1, seq2, op1, op2, PyI.res, bop, PyI.cop, copB, eqOp, neOp, D.dep, depL, depK, eqv, eqvL, eqF, D.odd, D.neOk, D.nod, nodL, isOp, inOp, D.flat, varE, cstE, frzE, PyI.frz, seqA, seqV, vals, tupD, lstD, dnewE, testE, truE, truD, notT, andT, orT, yesT, andE, orE, notE, iteE, Res.bind, Res.bindS, deref, slotOf, outsOf, outD, PyI.isi, isiD, biD, ixD, atI, ixN, keyD, slD, partE, seqSl, sl3, negD, callE, callR, argsOf, slotI, fm_v, fm_f, fm_s, wback, setOwn, mtE, mt2, mtD, isTy, Mt.ty, it1, seqD, enumD]), q3, t1, t2, n, rfl, m1, m2⟩
def clauseB (fd fl : Nat) : S := .seq (.set 3 (.tup (.acons (.frz (.call fl (.acons (.var 0) (.acons (.frz (.var 1)) .anil)))) .anil))) (.seq (.ifs (.tv (.cmp .lt (.call fd (.acons (.var 0) (.acons (.frz (.cst (.int 4))) .anil))) (.var 2))) (.set 3 (.bin .add (.var 3) (.tup (.acons (.frz (.call fl (.acons (.var 0) (.acons (.frz (.var 1)) .anil)))) .anil)))) .nx) (.ret (.var 3)))
def ClauseOk (c : List Arg → CRes) : Prop := ∀ (p : D) (ts : List D) (k : Int), IsPool p → ts ≠ [] → ts.length ≤ 100000 → ∃ l more p', c [.r p, .v (.lst ts), .v (.int k)] = .ok (.v (.tup (l :: more))) [p', .non, .non] ∧ IsPool p' ∧ IsLit ts l ∧ more.length ≤ 1 ∧ ∀ x ∈ more, IsLit ts x
theorem clause_ok {fl : Nat} (hd : DrawOk (cf fd)) (hl : LitOk (cf fl)) : ClauseOk (callBody cf ⟨4, 3, clauseB fd fl⟩) := by
  intro p ts k h0 h1 h2
  obtain ⟨l, p1, e1, q1, m1⟩ := hl p ts h0 h1 h2
  obtain ⟨r, p2, e2, q2, _, _⟩ := hd p1 4 q1 (by decide) (by decide)
  by_cases hk : r < k
  · obtain ⟨l2, p3, e3, q3, m3⟩ := hl p2 ts q2 h1 h2
    exact ⟨l, [l2], p3, c_ret (ρ' := [.own true p3, .val (.lst ts), .val (.int k), .val (.tup [l, l2])]) (by simp [clauseB, e1, e2, e3, hk, evS, evE, evT, evI, evL, evP, nextS, breakS, contS, seqS, setS, putS, setVal, keep_no, keep_val, keep_ownf, asgS, asgT, asgTs, retS, retNS, retOp, ifS, storeS, store3, setD, forS, dropS, seq1, seq2, op1, op2, PyI.res, bop, PyI.cop, copB, eqOp, neOp, D.dep, depL, depK, eqv, eqvL, eqF, D.odd, D.neOk, D.nod, nodL, isOp, inOp, D.flat, varE, cstE, frzE, PyI.frz, seqA, seqV, vals, tupD, lstD, dnewE, testE, truE, truD, notT, andT, orT, yesT, andE, orE, notE, iteE, Res.bind, Res.bindS, deref, slotOf, outsOf, outD, PyI.isi, isiD, biD, ixD, atI, ixN, keyD, slD, partE, seqSl, sl3, negD, callE, callR, argsOf, slotI, fm_v, fm_f, fm_s, wback, setOwn, mtE, mt2, mtD, isTy, Mt.ty, it1, seqD, enumD]), q3, m1, by simp, by simpa using m3⟩
  · exact ⟨l, [], p2, c_ret (ρ' := [.own true p2, .val (.lst ts), .val (.int k), .val (.tup [l])]) (by simp [clauseB, e1, e2, hk, evS, evE, evT, evI, evL, evP, nextS, breakS, contS, seqS, setS, putS, setVal, keep_no, keep_val, keep_ownf, asgS, asgT, asgTs, retS, retNS, retOp, ifS, storeS, store3, setD, forS, dropS, seq1, seq2, op1, op2, PyI.res, bop, PyI.cop, copB, eqOp, neOp, D.dep, depL, depK, eqv, eqvL, eqF, D.odd, D.neOk, D.nod, nodL, isOp, inOp, D.flat, varE, cstE, frzE, PyI.frz, seqA, seqV, vals, tupD, lstD, dnewE, testE, truE, truD, notT, andT, orT, yesT, andE, orE, notE, iteE, Res.bind, Res.bindS, deref, slotOf, outsOf, outD, PyI.isi, isiD, biD, ixD, atI, ixN, keyD, slD, partE, seqSl, sl3, negD, callE, callR, argsOf, slotI, fm_v, fm_f, fm_s, wback, setOwn, mtE, mt2, mtD, isTy, Mt.ty, it1, seqD, enumD]), q2, m1, by simp, by simp⟩
end
end PyI
set_option maxHeartbeats 1000000
/-! PyM3: the terms that the laws draw; the pool at the start. -/
namespace PyI
open PySem PySem.Spec PyProof.Rows L2
/-! ### the pool -/
def poolB : S := .seq (.set 1 (.lc [4, 5] (.n 5) (.iseq (.slc (.var 0) .nopart (.acons (.cst (.int 63)) .anil))) .tyes (.bi .abs (.bi .int (.var 5))))) (.seq (.set 2 (.lc [4, 5] (.n 5) (.iseq (.var 1)) (.tv (.cmp .ge (.var 5) (.bin .pow (.cst (.int 10)) (.cst (.int 18))))) (.var 5))) (.seq (.set 3 (.lc [4, 5] (.n 5) (.iseq (.var 1)) (.tv (.cmp .lt (.var 5) (.bin .pow (.cst (.int 10)) (.cst (.int 18))))) (.bin .mod (.bi .int (.var 5)) (.cst (.int 1000003))))) (.ret (.lst (.acons (.frz (.var 2)) (.acons (.frz (.var 3)) (.acons (.frz (.cst (.int 0))) (.acons (.frz (.cst (.int 0))) .anil))))))))
def absI (n : Int) : Int := if n < 0 then -n else n
theorem cut63 {ns : List Int} (h : ns.length ≤ 63) : cutD ns none (some 63) = ns := by
  unfold cutD
  have h1 : HT.sIx ns.length 0 none = 0 := rfl
  have h2 : HT.sIx ns.length ns.length (some 63) = ns.length := by
    rw [show (63 : Int) = ((63 : Nat) : Int) from rfl, HT.sIx_nat]; omega
  rw [h1, h2]; simp
def unInt : D → Int
  | .int n => n
  | _ => 0
theorem map_unInt (f : Int → Int) (l : List Int) : (l.map D.int).map (fun d => D.int (f (unInt d))) = (l.map f).map D.int := by
  simp [unInt]
theorem pool_ok (cf : CF) (ns : List Int) (h : ns.length ≤ 63) : ∃ p, callBody cf ⟨6, 1, poolB⟩ [.v (.scr ns)] = .ok (.f p) [.non] ∧ IsPool p := by
  have ha : ∀ i : Int, biD .abs (.int i) = some (.v (.int (absI i))) := fun i => rfl
  have c1 : evE cf (.lc [4, 5] (.n 5) (.iseq (.slc (.var 0) .nopart (.acons (.cst (.int 63)) .anil))) .tyes (.bi .abs (.bi .int (.var 5)))) [.val (.scr ns), .no, .no, .no, .no, .no] = .ok (.f (.lst ((ns.map absI).map .int))) [.val (.scr ns), .no, .no, .no, .no, .no] := by
    refine e_lc (items := ns.map .int) (ρ1 := [.val (.scr ns), .no, .no, .no, .no, .no]) (ρ2 := [.val (.scr ns), .no, .no, .no, .no, .no]) (by simp [cut63 h, evS, evE, evT, evI, evL, evP, nextS, breakS, contS, seqS, setS, putS, setVal, keep_no, keep_val, keep_ownf, asgS, asgT, asgTs, retS, retNS, retOp, ifS, storeS, store3, setD, forS, dropS, seq1, seq2, op1, op2, PyI.res, bop, PyI.cop, copB, eqOp, neOp, D.dep, depL, depK, eqv, eqvL, eqF, D.odd, D.neOk, D.nod, nodL, isOp, inOp, D.flat, varE, cstE, frzE, PyI.frz, seqA, seqV, vals, tupD, lstD, dnewE, testE, truE, truD, notT, andT, orT, yesT, andE, orE, notE, iteE, Res.bind, Res.bindS, deref, slotOf, outsOf, outD, PyI.isi, isiD, biD, ixD, atI, ixN, keyD, slD, partE, seqSl, sl3, negD, callE, callR, argsOf, slotI, fm_v, fm_f, fm_s, wback, setOwn, mtE, mt2, mtD, isTy, Mt.ty, it1, seqD, enumD]) rfl (by simp; omega) ?_
    have := lcL_pure (vs := [4, 5]) (t := .n 5) (c := yesT) (e := frzE (evE cf (.bi .abs (.bi .int (.var 5))))) (ρ0 := [.val (.scr ns), .no, .no, .no, .no, .no]) (fun _ => true) (fun d => .int (absI (unInt d))) (ns.map .int) [] (fun d hd => ?_)
    · refine Eq.trans this ?_
      rw [List.filter_eq_self.mpr (fun _ _ => rfl), List.nil_append, map_unInt]
    · obtain ⟨n, _, rfl⟩ := List.mem_map.mp hd
      refine ⟨[.val (.scr ns), .no, .no, .no, .no, .val (.int n)], _, rfl, rfl, fun _ => ⟨[.val (.scr ns), .no, .no, .no, .no, .val (.int n)], ?_, rfl, rfl⟩, fun z => by cases z⟩
      simp [absI, unInt, evS, evE, evT, evI, evL, evP, nextS, breakS, contS, seqS, setS, putS, setVal, keep_no, keep_val, keep_ownf, asgS, asgT, asgTs, retS, retNS, retOp, ifS, storeS, store3, setD, forS, dropS, seq1, seq2, op1, op2, PyI.res, bop, PyI.cop, copB, eqOp, neOp, D.dep, depL, depK, eqv, eqvL, eqF, D.odd, D.neOk, D.nod, nodL, isOp, inOp, D.flat, varE, cstE, frzE, PyI.frz, seqA, seqV, vals, tupD, lstD, dnewE, testE, truE, truD, notT, andT, orT, yesT, andE, orE, notE, iteE, Res.bind, Res.bindS, deref, slotOf, outsOf, outD, PyI.isi, isiD, biD, ixD, atI, ixN, keyD, slD, partE, seqSl, sl3, negD, callE, callR, argsOf, slotI, fm_v, fm_f, fm_s, wback, setOwn, mtE, mt2, mtD, isTy, Mt.ty, it1, seqD, enumD] <;> first | rfl | congr 1
  have c2 : ∀ xs : List Int, xs.length ≤ 63 → evE cf (.lc [4, 5] (.n 5) (.iseq (.var 1)) (.tv (.cmp .ge (.var 5) (.bin .pow (.cst (.int 10)) (.cst (.int 18))))) (.var 5)) [.val (.scr ns), .own false (.lst (xs.map .int)), .no, .no, .no, .no] =
      .ok (.f (.lst ((xs.filter fun n => decide (10 ^ 18 ≤ n)).map .int))) [.val (.scr ns), .val (.lst (xs.map .int)), .no, .no, .no, .no] := fun xs hx => by
    refine e_lc (items := xs.map .int) (ρ1 := [.val (.scr ns), .val (.lst (xs.map .int)), .no, .no, .no, .no]) (ρ2 := [.val (.scr ns), .val (.lst (xs.map .int)), .no, .no, .no, .no]) (by simp [evS, evE, evT, evI, evL, evP, nextS, breakS, contS, seqS, setS, putS, setVal, keep_no, keep_val, keep_ownf, asgS, asgT, asgTs, retS, retNS, retOp, ifS, storeS, store3, setD, forS, dropS, seq1, seq2, op1, op2, PyI.res, bop, PyI.cop, copB, eqOp, neOp, D.dep, depL, depK, eqv, eqvL, eqF, D.odd, D.neOk, D.nod, nodL, isOp, inOp, D.flat, varE, cstE, frzE, PyI.frz, seqA, seqV, vals, tupD, lstD, dnewE, testE, truE, truD, notT, andT, orT, yesT, andE, orE, notE, iteE, Res.bind, Res.bindS, deref, slotOf, outsOf, outD, PyI.isi, isiD, biD, ixD, atI, ixN, keyD, slD, partE, seqSl, sl3, negD, callE, callR, argsOf, slotI, fm_v, fm_f, fm_s, wback, setOwn, mtE, mt2, mtD, isTy, Mt.ty, it1, seqD, enumD]) rfl (by simp; omega) ?_
    have := lcL_pure (vs := [4, 5]) (t := .n 5) (c := evT cf (.tv (.cmp .ge (.var 5) (.bin .pow (.cst (.int 10)) (.cst (.int 18)))))) (e := frzE (evE cf (.var 5))) (ρ0 := [.val (.scr ns), .val (.lst (xs.map .int)), .no, .no, .no, .no]) (fun d => decide (10 ^ 18 ≤ unInt d)) (fun d => d) (xs.map .int) [] (fun d hd => ?_)
    · refine Eq.trans this ?_
      simp only [List.nil_append, List.map_id', List.filter_map]
      rfl
    · obtain ⟨n, _, rfl⟩ := List.mem_map.mp hd
      refine ⟨[.val (.scr ns), .val (.lst (xs.map .int)), .no, .no, .no, .val (.int n)], [.val (.scr ns), .val (.lst (xs.map .int)), .no, .no, .no, .val (.int n)], rfl, by simp [unInt, evS, evE, evT, evI, evL, evP, nextS, breakS, contS, seqS, setS, putS, setVal, keep_no, keep_val, keep_ownf, asgS, asgT, asgTs, retS, retNS, retOp, ifS, storeS, store3, setD, forS, dropS, seq1, seq2, op1, op2, PyI.res, bop, PyI.cop, copB, eqOp, neOp, D.dep, depL, depK, eqv, eqvL, eqF, D.odd, D.neOk, D.nod, nodL, isOp, inOp, D.flat, varE, cstE, frzE, PyI.frz, seqA, seqV, vals, tupD, lstD, dnewE, testE, truE, truD, notT, andT, orT, yesT, andE, orE, notE, iteE, Res.bind, Res.bindS, deref, slotOf, outsOf, outD, PyI.isi, isiD, biD, ixD, atI, ixN, keyD, slD, partE, seqSl, sl3, negD, callE, callR, argsOf, slotI, fm_v, fm_f, fm_s, wback, setOwn, mtE, mt2, mtD, isTy, Mt.ty, it1, seqD, enumD] <;> first | rfl | congr 1, fun _ => ⟨_, rfl, rfl, rfl⟩, fun _ => ⟨rfl, rfl⟩⟩
  have c3 : ∀ (xs : List Int) (g : D), xs.length ≤ 63 → evE cf (.lc [4, 5] (.n 5) (.iseq (.var 1)) (.tv (.cmp .lt (.var 5) (.bin .pow (.cst (.int 10)) (.cst (.int 18))))) (.bin .mod (.bi .int (.var 5)) (.cst (.int 1000003)))) [.val (.scr ns), .val (.lst (xs.map .int)), .own false g, .no, .no, .no] =
      .ok (.f (.lst (((xs.filter fun n => decide (n < 10 ^ 18)).map fun n => n % 1000003).map .int))) [.val (.scr ns), .val (.lst (xs.map .int)), .own false g, .no, .no, .no] := fun xs g hx => by
    refine e_lc (items := xs.map .int) (ρ1 := [.val (.scr ns), .val (.lst (xs.map .int)), .own false g, .no, .no, .no]) (ρ2 := [.val (.scr ns), .val (.lst (xs.map .int)), .own false g, .no, .no, .no]) (by simp [evS, evE, evT, evI, evL, evP, nextS, breakS, contS, seqS, setS, putS, setVal, keep_no, keep_val, keep_ownf, asgS, asgT, asgTs, retS, retNS, retOp, ifS, storeS, store3, setD, forS, dropS, seq1, seq2, op1, op2, PyI.res, bop, PyI.cop, copB, eqOp, neOp, D.dep, depL, depK, eqv, eqvL, eqF, D.odd, D.neOk, D.nod, nodL, isOp, inOp, D.flat, varE, cstE, frzE, PyI.frz, seqA, seqV, vals, tupD, lstD, dnewE, testE, truE, truD, notT, andT, orT, yesT, andE, orE, notE, iteE, Res.bind, Res.bindS, deref, slotOf, outsOf, outD, PyI.isi, isiD, biD, ixD, atI, ixN, keyD, slD, partE, seqSl, sl3, negD, callE, callR, argsOf, slotI, fm_v, fm_f, fm_s, wback, setOwn, mtE, mt2, mtD, isTy, Mt.ty, it1, seqD, enumD]) rfl (by simp; omega) ?_
    have := lcL_pure (vs := [4, 5]) (t := .n 5) (c := evT cf (.tv (.cmp .lt (.var 5) (.bin .pow (.cst (.int 10)) (.cst (.int 18)))))) (e := frzE (evE cf (.bin .mod (.bi .int (.var 5)) (.cst (.int 1000003))))) (ρ0 := [.val (.scr ns), .val (.lst (xs.map .int)), .own false g, .no, .no, .no]) (fun d => decide (unInt d < 10 ^ 18)) (fun d => .int (unInt d % 1000003)) (xs.map .int) [] (fun d hd => ?_)
    · refine Eq.trans this ?_
      simp only [List.nil_append, List.filter_map, List.map_map]
      rfl
    · obtain ⟨n, _, rfl⟩ := List.mem_map.mp hd
      refine ⟨[.val (.scr ns), .val (.lst (xs.map .int)), .own false g, .no, .no, .val (.int n)], [.val (.scr ns), .val (.lst (xs.map .int)), .own false g, .no, .no, .val (.int n)], rfl, by simp [unInt, evS, evE, evT, evI, evL, evP, nextS, breakS, contS, seqS, setS, putS, setVal, keep_no, keep_val, keep_ownf, asgS, asgT, asgTs, retS, retNS, retOp, ifS, storeS, store3, setD, forS, dropS, seq1, seq2, op1, op2, PyI.res, bop, PyI.cop, copB, eqOp, neOp, D.dep, depL, depK, eqv, eqvL, eqF, D.odd, D.neOk, D.nod, nodL, isOp, inOp, D.flat, varE, cstE, frzE, PyI.frz, seqA, seqV, vals, tupD, lstD, dnewE, testE, truE, truD, notT, andT, orT, yesT, andE, orE, notE, iteE, Res.bind, Res.bindS, deref, slotOf, outsOf, outD, PyI.isi, isiD, biD, ixD, atI, ixN, keyD, slD, partE, seqSl, sl3, negD, callE, callR, argsOf, slotI, fm_v, fm_f, fm_s, wback, setOwn, mtE, mt2, mtD, isTy, Mt.ty, it1, seqD, enumD] <;> first | rfl | congr 1, fun _ => ⟨[.val (.scr ns), .val (.lst (xs.map .int)), .own false g, .no, .no, .val (.int n)], by simp [unInt, evS, evE, evT, evI, evL, evP, nextS, breakS, contS, seqS, setS, putS, setVal, keep_no, keep_val, keep_ownf, asgS, asgT, asgTs, retS, retNS, retOp, ifS, storeS, store3, setD, forS, dropS, seq1, seq2, op1, op2, PyI.res, bop, PyI.cop, copB, eqOp, neOp, D.dep, depL, depK, eqv, eqvL, eqF, D.odd, D.neOk, D.nod, nodL, isOp, inOp, D.flat, varE, cstE, frzE, PyI.frz, seqA, seqV, vals, tupD, lstD, dnewE, testE, truE, truD, notT, andT, orT, yesT, andE, orE, notE, iteE, Res.bind, Res.bindS, deref, slotOf, outsOf, outD, PyI.isi, isiD, biD, ixD, atI, ixN, keyD, slD, partE, seqSl, sl3, negD, callE, callR, argsOf, slotI, fm_v, fm_f, fm_s, wback, setOwn, mtE, mt2, mtD, isTy, Mt.ty, it1, seqD, enumD], rfl, rfl⟩, fun _ => ⟨rfl, rfl⟩⟩
  have l1 : (ns.map absI).length ≤ 63 := by simpa using h
  refine ⟨pool ((ns.map absI).filter fun n => decide (10 ^ 18 ≤ n)) (((ns.map absI).filter fun n => decide (n < 10 ^ 18)).map fun n => n % 1000003) 0 0, ?_, ⟨_, _, _, _, rfl⟩⟩
  refine c_retf (ρ' := [.val (.scr ns), .val (.lst ((ns.map absI).map .int)), .val (.lst (((ns.map absI).filter fun n => decide (10 ^ 18 ≤ n)).map .int)), .val (.lst ((((ns.map absI).filter fun n => decide (n < 10 ^ 18)).map fun n => n % 1000003).map .int)), .no, .no]) ?_
  show evS cf poolB [.val (.scr ns), .no, .no, .no, .no, .no] = _
  have s1 : evS cf (.set 1 (.lc [4, 5] (.n 5) (.iseq (.slc (.var 0) .nopart (.acons (.cst (.int 63)) .anil))) .tyes (.bi .abs (.bi .int (.var 5))))) [.val (.scr ns), .no, .no, .no, .no, .no] = .nx [.val (.scr ns), .own false (.lst ((ns.map absI).map .int)), .no, .no, .no, .no] := by
    show setS 1 (evE cf _) _ = _
    unfold setS
    rw [c1]; rfl
  have s2 : evS cf (.set 2 (.lc [4, 5] (.n 5) (.iseq (.var 1)) (.tv (.cmp .ge (.var 5) (.bin .pow (.cst (.int 10)) (.cst (.int 18))))) (.var 5))) [.val (.scr ns), .own false (.lst ((ns.map absI).map .int)), .no, .no, .no, .no] = .nx [.val (.scr ns), .val (.lst ((ns.map absI).map .int)), .own false (.lst (((ns.map absI).filter fun n => decide (10 ^ 18 ≤ n)).map .int)), .no, .no, .no] := by
    show setS 2 (evE cf _) _ = _
    unfold setS
    rw [c2 _ l1]; rfl
  have s3 : evS cf (.set 3 (.lc [4, 5] (.n 5) (.iseq (.var 1)) (.tv (.cmp .lt (.var 5) (.bin .pow (.cst (.int 10)) (.cst (.int 18))))) (.bin .mod (.bi .int (.var 5)) (.cst (.int 1000003))))) [.val (.scr ns), .val (.lst ((ns.map absI).map .int)), .own false (.lst (((ns.map absI).filter fun n => decide (10 ^ 18 ≤ n)).map .int)), .no, .no, .no] =
      .nx [.val (.scr ns), .val (.lst ((ns.map absI).map .int)), .own false (.lst (((ns.map absI).filter fun n => decide (10 ^ 18 ≤ n)).map .int)), .own false (.lst ((((ns.map absI).filter fun n => decide (n < 10 ^ 18)).map fun n => n % 1000003).map .int)), .no, .no] := by
    show setS 3 (evE cf _) _ = _
    unfold setS
    rw [c3 _ _ l1]; rfl
  rw [show poolB = .seq _ (.seq _ (.seq _ _)) from rfl, s_seq s1, s_seq s2, s_seq s3]
  simp [pool, evS, evE, evT, evI, evL, evP, nextS, breakS, contS, seqS, setS, putS, setVal, keep_no, keep_val, keep_ownf, asgS, asgT, asgTs, retS, retNS, retOp, ifS, storeS, store3, setD, forS, dropS, seq1, seq2, op1, op2, PyI.res, bop, PyI.cop, copB, eqOp, neOp, D.dep, depL, depK, eqv, eqvL, eqF, D.odd, D.neOk, D.nod, nodL, isOp, inOp, D.flat, varE, cstE, frzE, PyI.frz, seqA, seqV, vals, tupD, lstD, dnewE, testE, truE, truD, notT, andT, orT, yesT, andE, orE, notE, iteE, Res.bind, Res.bindS, deref, slotOf, outsOf, outD, PyI.isi, isiD, biD, ixD, atI, ixN, keyD, slD, partE, seqSl, sl3, negD, callE, callR, argsOf, slotI, fm_v, fm_f, fm_s, wback, setOwn, mtE, mt2, mtD, isTy, Mt.ty, it1, seqD, enumD]
end PyI
set_option maxHeartbeats 1000000
/-! PyM4: the terms that the laws draw. -/
namespace PyI
open PySem PySem.Spec PyProof.Rows L2
def signsL : List Nat := [97, 98, 99, 120, 121, 122, 48, 49, 57, 46]
def one (c : Nat) : Str := ⟨#[c]⟩
def mkS (cs : List Nat) : Str := ⟨cs.toArray⟩
def IsTerm (d : D) : Prop := ∃ cs : List Nat, d = .str (mkS cs) ∧ cs.length ≤ 20 ∧ ∀ c ∈ cs, c ∈ signsL
theorem empty_eq : (PySem.Str.ofString "") = mkS [] := rfl
theorem app_mkS (a b : List Nat) : mkS a ++ mkS b = mkS (a ++ b) := by
  show (⟨a.toArray ++ b.toArray⟩ : Str) = _
  unfold mkS; simp
theorem join_ones' : ∀ cs : List Nat, Txt.join (PySem.Str.ofString "") (cs.map one) = mkS cs := by
  intro cs
  show Builtin.Str.glued (PySem.Str.ofString "") (cs.map one) = _
  rw [StrLaws.glued_eq_join]
  induction cs with
  | nil => rfl
  | cons c cs ih =>
    cases cs with
    | nil => rfl
    | cons c2 r =>
      show one c ++ PySem.Str.ofString "" ++ Str.join (PySem.Str.ofString "") ((c2 :: r).map one) = _
      rw [ih, empty_eq]
      show mkS [c] ++ mkS [] ++ mkS (c2 :: r) = _
      rw [app_mkS, app_mkS]; rfl
theorem strz_ones : ∀ cs : List Nat, strz (cs.map fun c => D.str (one c)) = some (cs.map one)
  | [] => rfl
  | c :: cs => by simp [strz, strz_ones cs]
theorem out_ones : ∀ {out : List D}, (∀ d ∈ out, ∃ c, d = .str (one c) ∧ c ∈ signsL) → ∃ cs : List Nat, out = cs.map (fun c => D.str (one c)) ∧ ∀ c ∈ cs, c ∈ signsL
  | [], _ => ⟨[], rfl, by simp⟩
  | d :: out, h => by
    obtain ⟨c, rfl, hc⟩ := h d (by simp)
    obtain ⟨cs, e, hcs⟩ := out_ones (out := out) fun d hd => h d (by simp [hd])
    exact ⟨c :: cs, by rw [e]; rfl, fun x hx => by
      rcases List.mem_cons.mp hx with q | q
      · rw [q]; exact hc
      · exact hcs x q⟩
theorem sum_ones : ∀ cs : List Nat, ((cs.map one).map (·.length)).sum = cs.length
  | [] => rfl
  | c :: cs => by
    have := sum_ones cs
    simp only [List.map_cons, List.sum_cons, List.length_cons] at this ⊢
    rw [this]
    show 1 + _ = _
    omega
theorem joinD_ones {cs : List Nat} (h : cs.length ≤ 1000) : joinD (PySem.Str.ofString "") (.lst (cs.map fun c => D.str (one c))) = some (.v (.str (mkS cs))) := by
  unfold joinD
  simp only [strz_ones]
  have hz : ((cs.map one).map (·.length)).sum + (cs.map one).length * (PySem.Str.ofString "").length ≤ 100000 := by
    rw [sum_ones]
    show cs.length + (cs.map one).length * 0 ≤ _
    omega
  rw [if_pos hz, join_ones']
def TermsOk (ts : List D) : Prop := (∃ r, ts = .str (mkS []) :: r) ∧ (∀ t ∈ ts, IsTerm t) ∧ ts.Nodup
theorem TermsOk.ne {ts : List D} (h : TermsOk ts) : ts ≠ [] := by obtain ⟨⟨r, e⟩, _⟩ := h; rw [e]; simp
theorem TermsOk.flat {ts : List D} (h : TermsOk ts) : ts.all D.flat = true := by
  rw [List.all_eq_true]
  intro t ht
  obtain ⟨cs, rfl, _⟩ := h.2.1 t ht
  rfl
theorem TermsOk.notin {ts : List D} (h : TermsOk ts) {z : Str} (q : inD (.str z) ts = false) : D.str z ∉ ts := fun m => by
  unfold inD at q
  rw [List.any_eq_false] at q
  exact q _ m (by simp [eqF])
theorem rng_nat {n : Nat} (h : n ≤ 1000000) : rngD (.int (n : Int)) = some ((List.range n).map fun (i : Nat) => D.int (0 + (i : Int))) := by
  have h1 : -(2 ^ 62) ≤ (n : Int) := by omega
  have h2 : (n : Int) < 2 ^ 62 := by omega
  have e : rngD (.int (n : Int)) = some ((List.range (n : Int).toNat).map fun (i : Nat) => D.int (0 + (i : Int))) := by
    unfold rngD
    exact if_pos ⟨h1, h2⟩
  rw [e, Int.toNat_natCast]
theorem it1_ok {q : D → Option (List D)} {f : Fe} {ρ ρ1 ρ2 : Env} {op : Op} {d : D} {items : List D} (h : f ρ = .ok op ρ1) (hf : PyI.frz ρ1 op = some (d, ρ2)) (hq : q d = some items) : it1 q f ρ = .ok items ρ2 := by
  unfold it1 frzE
  rw [h]
  simp only [Res.bind, hf, hq]
theorem ev_rng {cf : CF} {a : E} {ρ ρ1 ρ2 : Env} {op : Op} {n : Nat} (h : evE cf a ρ = .ok op ρ1) (hf : PyI.frz ρ1 op = some (.int (n : Int), ρ2)) (hn : n ≤ 1000000) : evI cf (.irng a) ρ = .ok ((List.range n).map fun (i : Nat) => D.int (0 + (i : Int))) ρ2 :=
  it1_ok (q := rngD) h hf (rng_nat hn)
theorem ev_seq {cf : CF} {a : E} {ρ ρ1 ρ2 : Env} {op : Op} {d : D} {items : List D} (h : evE cf a ρ = .ok op ρ1) (hf : PyI.frz ρ1 op = some (d, ρ2)) (hq : seqD d = some items) : evI cf (.iseq a) ρ = .ok items ρ2 :=
  it1_ok (q := seqD) h hf hq
theorem e_join {cf : CF} {a b : E} {ρ ρ1 ρ2 : Env} {op : Op} {z : Str} {d r : D} (ha : evE cf a ρ = .ok (.v (.str z)) ρ1) (hb : evE cf b ρ1 = .ok op ρ2) (hd : deref ρ2 op = some d) (hj : joinD z d = some (.v r)) : evE cf (.join a b) ρ = .ok (.v r) ρ2 := by
  show joinE (evE cf a) (evE cf b) ρ = _
  unfold joinE
  rw [ha]
  show Res.bind (evE cf b ρ1) (op1 (joinD z)) = _
  rw [hb]
  show op1 (joinD z) op ρ2 = _
  unfold op1
  rw [hd]
  show PyI.res (joinD z d) ρ2 = _
  rw [hj]
  rfl
theorem s_set {cf : CF} {e : E} {ρ ρ1 ρ2 : Env} {op : Op} {i : Nat} (h : evE cf e ρ = .ok op ρ1) (hp : putS i op ρ1 = some ρ2) : evS cf (.set i e) ρ = .nx ρ2 := by
  show setS i (evE cf e) ρ = _
  unfold setS
  rw [h]
  show (match putS i op ρ1 with | some ρ2 => SRes.nx ρ2 | none => SRes.bad) = _
  rw [hp]
def mkB (fd fp : Nat) : S := .seq (.set 5 (.sub (.lst (.acons (.frz (.cst (.int 1))) (.acons (.frz (.cst (.int 1))) (.acons (.frz (.cst (.int 2))) (.acons (.frz (.cst (.int 4))) (.acons (.frz (.cst (.int 20))) .anil)))))) (.call fd (.acons (.var 0) (.acons (.frz (.cst (.int 5))) .anil))))) (.seq (.set 6 (.join (.cst (.str (PySem.Str.ofString ""))) (.lc [7, 8] (.n 8) (.irng (.var 5)) .tyes (.call fp (.acons (.var 0) (.acons (.frz (.var 2)) .anil)))))) (.ifs (.tv (.cmp .notin (.var 6) (.var 3))) (.drop (.mt .append 3 (.acons (.frz (.var 6)) .anil))) .nx))
def termsB (fd fp : Nat) : S := .seq (.set 2 (.cst (.str (PySem.Str.ofString "abcxyz019.")))) (.seq (.set 3 (.lst (.acons (.frz (.cst (.str (PySem.Str.ofString "")))) .anil))) (.seq (.fors (.n 4) (.irng (.var 1)) (mkB fd fp)) (.ret (.var 3))))
def TermsC (c : List Arg → CRes) : Prop := ∀ (p : D) (k : Int), IsPool p → 0 ≤ k → k ≤ 1000 → ∃ ts p', c [.r p, .v (.int k)] = .ok (.f (.lst ts)) [p', .non] ∧ IsPool p' ∧ TermsOk ts ∧ (ts.length : Int) ≤ k + 1
section
variable {cf : CF} {fd fp : Nat}
theorem signs_len : (PySem.Str.ofString "abcxyz019.").length = 10 := by decide
theorem signs_mem {c : Nat} (h : c ∈ (PySem.Str.ofString "abcxyz019.").cps.toList) : c ∈ signsL := by
  have e : (PySem.Str.ofString "abcxyz019.").cps.toList = signsL := by decide
  rw [← e]; exact h
theorem mk_ok (hd : DrawOk (cf fd)) (hp : PickS (cf fp)) {p k : D} {ts : List D} {s4 s5 s6 : Slot} (h0 : IsPool p) (ht : TermsOk ts) (hl : ts.length ≤ 100000) (i5 : s5.idle = true) (i6 : s6.idle = true) :
    ∃ p' ts' s5' s6', evS cf (mkB fd fp) [.own true p, .val k, .val (.str (PySem.Str.ofString "abcxyz019.")), .own false (.lst ts), s4, s5, s6, .no, .no] = .nx [.own true p', .val k, .val (.str (PySem.Str.ofString "abcxyz019.")), .own false (.lst ts'), s4, s5', s6', .no, .no] ∧
      IsPool p' ∧ TermsOk ts' ∧ ts'.length ≤ ts.length + 1 ∧ s5'.idle = true ∧ s6'.idle = true := by
  obtain ⟨r, p1, e1, q1, r0, r1⟩ := hd p 5 h0 (by decide) (by decide)
  have k5 := idle_keep i5
  have k6 := idle_keep i6
  -- the size
  obtain ⟨n, hn0, hn1, s1⟩ : ∃ n : Nat, 1 ≤ n ∧ n ≤ 20 ∧ evS cf (.set 5 (.sub (.lst (.acons (.frz (.cst (.int 1))) (.acons (.frz (.cst (.int 1))) (.acons (.frz (.cst (.int 2))) (.acons (.frz (.cst (.int 4))) (.acons (.frz (.cst (.int 20))) .anil)))))) (.call fd (.acons (.var 0) (.acons (.frz (.cst (.int 5))) .anil))))) [.own true p, .val k, .val (.str (PySem.Str.ofString "abcxyz019.")), .own false (.lst ts), s4, s5, s6, .no, .no] =
      .nx [.own true p1, .val k, .val (.str (PySem.Str.ofString "abcxyz019.")), .own false (.lst ts), s4, .val (.int (n : Int)), s6, .no, .no] := by
    have hr : r = 0 ∨ r = 1 ∨ r = 2 ∨ r = 3 ∨ r = 4 := by omega
    rcases hr with rfl | rfl | rfl | rfl | rfl
    · exact ⟨1, by decide, by decide, by simp [e1, k5, evS, evE, evT, evI, evL, evP, nextS, breakS, contS, seqS, setS, putS, setVal, keep_no, keep_val, keep_ownf, asgS, asgT, asgTs, retS, retNS, retOp, ifS, storeS, store3, setD, forS, dropS, seq1, seq2, op1, op2, PyI.res, bop, PyI.cop, copB, eqOp, neOp, D.dep, depL, depK, eqv, eqvL, eqF, D.odd, D.neOk, D.nod, nodL, isOp, inOp, D.flat, varE, cstE, frzE, PyI.frz, seqA, seqV, vals, tupD, lstD, dnewE, testE, truE, truD, notT, andT, orT, yesT, andE, orE, notE, iteE, Res.bind, Res.bindS, deref, slotOf, outsOf, outD, PyI.isi, isiD, biD, ixD, atI, ixN, keyD, slD, partE, seqSl, sl3, negD, callE, callR, argsOf, slotI, fm_v, fm_f, fm_s, wback, setOwn, mtE, mt2, mtD, isTy, Mt.ty, it1, seqD, enumD]⟩
    · exact ⟨1, by decide, by decide, by simp [e1, k5, evS, evE, evT, evI, evL, evP, nextS, breakS, contS, seqS, setS, putS, setVal, keep_no, keep_val, keep_ownf, asgS, asgT, asgTs, retS, retNS, retOp, ifS, storeS, store3, setD, forS, dropS, seq1, seq2, op1, op2, PyI.res, bop, PyI.cop, copB, eqOp, neOp, D.dep, depL, depK, eqv, eqvL, eqF, D.odd, D.neOk, D.nod, nodL, isOp, inOp, D.flat, varE, cstE, frzE, PyI.frz, seqA, seqV, vals, tupD, lstD, dnewE, testE, truE, truD, notT, andT, orT, yesT, andE, orE, notE, iteE, Res.bind, Res.bindS, deref, slotOf, outsOf, outD, PyI.isi, isiD, biD, ixD, atI, ixN, keyD, slD, partE, seqSl, sl3, negD, callE, callR, argsOf, slotI, fm_v, fm_f, fm_s, wback, setOwn, mtE, mt2, mtD, isTy, Mt.ty, it1, seqD, enumD]⟩
    · exact ⟨2, by decide, by decide, by simp [e1, k5, evS, evE, evT, evI, evL, evP, nextS, breakS, contS, seqS, setS, putS, setVal, keep_no, keep_val, keep_ownf, asgS, asgT, asgTs, retS, retNS, retOp, ifS, storeS, store3, setD, forS, dropS, seq1, seq2, op1, op2, PyI.res, bop, PyI.cop, copB, eqOp, neOp, D.dep, depL, depK, eqv, eqvL, eqF, D.odd, D.neOk, D.nod, nodL, isOp, inOp, D.flat, varE, cstE, frzE, PyI.frz, seqA, seqV, vals, tupD, lstD, dnewE, testE, truE, truD, notT, andT, orT, yesT, andE, orE, notE, iteE, Res.bind, Res.bindS, deref, slotOf, outsOf, outD, PyI.isi, isiD, biD, ixD, atI, ixN, keyD, slD, partE, seqSl, sl3, negD, callE, callR, argsOf, slotI, fm_v, fm_f, fm_s, wback, setOwn, mtE, mt2, mtD, isTy, Mt.ty, it1, seqD, enumD]⟩
    · exact ⟨4, by decide, by decide, by simp [e1, k5, evS, evE, evT, evI, evL, evP, nextS, breakS, contS, seqS, setS, putS, setVal, keep_no, keep_val, keep_ownf, asgS, asgT, asgTs, retS, retNS, retOp, ifS, storeS, store3, setD, forS, dropS, seq1, seq2, op1, op2, PyI.res, bop, PyI.cop, copB, eqOp, neOp, D.dep, depL, depK, eqv, eqvL, eqF, D.odd, D.neOk, D.nod, nodL, isOp, inOp, D.flat, varE, cstE, frzE, PyI.frz, seqA, seqV, vals, tupD, lstD, dnewE, testE, truE, truD, notT, andT, orT, yesT, andE, orE, notE, iteE, Res.bind, Res.bindS, deref, slotOf, outsOf, outD, PyI.isi, isiD, biD, ixD, atI, ixN, keyD, slD, partE, seqSl, sl3, negD, callE, callR, argsOf, slotI, fm_v, fm_f, fm_s, wback, setOwn, mtE, mt2, mtD, isTy, Mt.ty, it1, seqD, enumD]⟩
    · exact ⟨20, by decide, by decide, by simp [e1, k5, evS, evE, evT, evI, evL, evP, nextS, breakS, contS, seqS, setS, putS, setVal, keep_no, keep_val, keep_ownf, asgS, asgT, asgTs, retS, retNS, retOp, ifS, storeS, store3, setD, forS, dropS, seq1, seq2, op1, op2, PyI.res, bop, PyI.cop, copB, eqOp, neOp, D.dep, depL, depK, eqv, eqvL, eqF, D.odd, D.neOk, D.nod, nodL, isOp, inOp, D.flat, varE, cstE, frzE, PyI.frz, seqA, seqV, vals, tupD, lstD, dnewE, testE, truE, truD, notT, andT, orT, yesT, andE, orE, notE, iteE, Res.bind, Res.bindS, deref, slotOf, outsOf, outD, PyI.isi, isiD, biD, ixD, atI, ixN, keyD, slD, partE, seqSl, sl3, negD, callE, callR, argsOf, slotI, fm_v, fm_f, fm_s, wback, setOwn, mtE, mt2, mtD, isTy, Mt.ty, it1, seqD, enumD]⟩
  -- the signs
  obtain ⟨out, ρ', l1, ⟨p2, q2, rfl⟩, l3, l4⟩ := lcL_each (vs := [7, 8]) (t := .n 8) (e := frzE (evE cf (.call fp (.acons (.var 0) (.acons (.frz (.var 2)) .anil)))))
    (fun ρ => ∃ p, IsPool p ∧ ρ = [.own true p, .val k, .val (.str (PySem.Str.ofString "abcxyz019.")), .own false (.lst ts), s4, .val (.int (n : Int)), s6, .no, .no]) (fun d => ∃ c, d = .str (one c) ∧ c ∈ signsL)
    ((List.range n).map fun (i : Nat) => D.int (0 + (i : Int))) [] _ ⟨p1, q1, rfl⟩ (fun d hd ρ ⟨p, q, e⟩ => by
      subst e
      obtain ⟨ch, p', e2, q2, m⟩ := hp p (PySem.Str.ofString "abcxyz019.") q (by rw [signs_len]; decide) (by rw [signs_len]; decide)
      refine ⟨[.own true p, .val k, .val (.str (PySem.Str.ofString "abcxyz019.")), .own false (.lst ts), s4, .val (.int (n : Int)), s6, .no, .val d], [.own true p', .val k, .val (.str (PySem.Str.ofString "abcxyz019.")), .own false (.lst ts), s4, .val (.int (n : Int)), s6, .no, .val d], .str (one ch), rfl, ?_, rfl, ⟨p', q2, rfl⟩, ch, rfl, signs_mem m⟩
      simp [e2, one, evS, evE, evT, evI, evL, evP, nextS, breakS, contS, seqS, setS, putS, setVal, keep_no, keep_val, keep_ownf, asgS, asgT, asgTs, retS, retNS, retOp, ifS, storeS, store3, setD, forS, dropS, seq1, seq2, op1, op2, PyI.res, bop, PyI.cop, copB, eqOp, neOp, D.dep, depL, depK, eqv, eqvL, eqF, D.odd, D.neOk, D.nod, nodL, isOp, inOp, D.flat, varE, cstE, frzE, PyI.frz, seqA, seqV, vals, tupD, lstD, dnewE, testE, truE, truD, notT, andT, orT, yesT, andE, orE, notE, iteE, Res.bind, Res.bindS, deref, slotOf, outsOf, outD, PyI.isi, isiD, biD, ixD, atI, ixN, keyD, slD, partE, seqSl, sl3, negD, callE, callR, argsOf, slotI, fm_v, fm_f, fm_s, wback, setOwn, mtE, mt2, mtD, isTy, Mt.ty, it1, seqD, enumD])
  obtain ⟨cs, ecs, mcs⟩ := out_ones l3
  have lcs : cs.length = n := by
    have := l4
    rw [ecs] at this
    simpa using this
  have s2a : evE cf (.lc [7, 8] (.n 8) (.irng (.var 5)) .tyes (.call fp (.acons (.var 0) (.acons (.frz (.var 2)) .anil)))) [.own true p1, .val k, .val (.str (PySem.Str.ofString "abcxyz019.")), .own false (.lst ts), s4, .val (.int (n : Int)), s6, .no, .no] =
      .ok (.f (.lst (cs.map fun c => D.str (one c)))) [.own true p2, .val k, .val (.str (PySem.Str.ofString "abcxyz019.")), .own false (.lst ts), s4, .val (.int (n : Int)), s6, .no, .no] := by
    rw [← ecs]
    exact e_lc (cf := cf) (vs := [7, 8]) (t := .n 8) (c := .tyes) (e := .call fp (.acons (.var 0) (.acons (.frz (.var 2)) .anil))) (acc := out) (ρ1 := [.own true p1, .val k, .val (.str (PySem.Str.ofString "abcxyz019.")), .own false (.lst ts), s4, .val (.int (n : Int)), s6, .no, .no])
      (ρ2 := [.own true p2, .val k, .val (.str (PySem.Str.ofString "abcxyz019.")), .own false (.lst ts), s4, .val (.int (n : Int)), s6, .no, .no]) (ev_rng (n := n) (op := .v (.int (n : Int))) rfl rfl (by omega)) rfl (by simp; omega) l1
  have s2 : evS cf (.set 6 (.join (.cst (.str (PySem.Str.ofString ""))) (.lc [7, 8] (.n 8) (.irng (.var 5)) .tyes (.call fp (.acons (.var 0) (.acons (.frz (.var 2)) .anil)))))) [.own true p1, .val k, .val (.str (PySem.Str.ofString "abcxyz019.")), .own false (.lst ts), s4, .val (.int (n : Int)), s6, .no, .no] =
      .nx [.own true p2, .val k, .val (.str (PySem.Str.ofString "abcxyz019.")), .own false (.lst ts), s4, .val (.int (n : Int)), .val (.str (mkS cs)), .no, .no] := by
    refine s_set (e_join (z := PySem.Str.ofString "") rfl s2a rfl (joinD_ones (cs := cs) (by omega))) ?_
    simp [putS, setVal, k6]
  cases hi : inD (.str (mkS cs)) ts with
  | true =>
    refine ⟨p2, ts, .val (.int (n : Int)), .val (.str (mkS cs)), ?_, q2, ht, by omega, rfl, rfl⟩
    rw [show mkB fd fp = .seq _ (.seq _ _) from rfl, s_seq s1, s_seq s2]
    have hf := ht.flat
    simp [hi, hf, evS, evE, evT, evI, evL, evP, nextS, breakS, contS, seqS, setS, putS, setVal, keep_no, keep_val, keep_ownf, asgS, asgT, asgTs, retS, retNS, retOp, ifS, storeS, store3, setD, forS, dropS, seq1, seq2, op1, op2, PyI.res, bop, PyI.cop, copB, eqOp, neOp, D.dep, depL, depK, eqv, eqvL, eqF, D.odd, D.neOk, D.nod, nodL, isOp, inOp, D.flat, varE, cstE, frzE, PyI.frz, seqA, seqV, vals, tupD, lstD, dnewE, testE, truE, truD, notT, andT, orT, yesT, andE, orE, notE, iteE, Res.bind, Res.bindS, deref, slotOf, outsOf, outD, PyI.isi, isiD, biD, ixD, atI, ixN, keyD, slD, partE, seqSl, sl3, negD, callE, callR, argsOf, slotI, fm_v, fm_f, fm_s, wback, setOwn, mtE, mt2, mtD, isTy, Mt.ty, it1, seqD, enumD]
  | false =>
    refine ⟨p2, ts ++ [.str (mkS cs)], .val (.int (n : Int)), .val (.str (mkS cs)), ?_, q2, ⟨?_, fun t hm => ?_, ?_⟩, by simp, rfl, rfl⟩
    · rw [show mkB fd fp = .seq _ (.seq _ _) from rfl, s_seq s1, s_seq s2]
      have hf := ht.flat
      simp [hi, hf, hl, evS, evE, evT, evI, evL, evP, nextS, breakS, contS, seqS, setS, putS, setVal, keep_no, keep_val, keep_ownf, asgS, asgT, asgTs, retS, retNS, retOp, ifS, storeS, store3, setD, forS, dropS, seq1, seq2, op1, op2, PyI.res, bop, PyI.cop, copB, eqOp, neOp, D.dep, depL, depK, eqv, eqvL, eqF, D.odd, D.neOk, D.nod, nodL, isOp, inOp, D.flat, varE, cstE, frzE, PyI.frz, seqA, seqV, vals, tupD, lstD, dnewE, testE, truE, truD, notT, andT, orT, yesT, andE, orE, notE, iteE, Res.bind, Res.bindS, deref, slotOf, outsOf, outD, PyI.isi, isiD, biD, ixD, atI, ixN, keyD, slD, partE, seqSl, sl3, negD, callE, callR, argsOf, slotI, fm_v, fm_f, fm_s, wback, setOwn, mtE, mt2, mtD, isTy, Mt.ty, it1, seqD, enumD]
    · obtain ⟨⟨r, e⟩, _⟩ := ht
      exact ⟨r ++ [.str (mkS cs)], by rw [e]; rfl⟩
    · rcases List.mem_append.mp hm with h | h
      · exact ht.2.1 t h
      · exact ⟨cs, by simpa using h, by omega, mcs⟩
    · rw [List.nodup_append]
      exact ⟨ht.2.2, by simp, fun a ha b hb => by
        have : b = .str (mkS cs) := by simpa using hb
        intro e
        exact ht.notin hi (by rw [← this, ← e]; exact ha)⟩
theorem terms_ok (hd : DrawOk (cf fd)) (hp : PickS (cf fp)) : TermsC (callBody cf ⟨9, 2, termsB fd fp⟩) := by
  intro p k h0 k0 k1
  have t0 : TermsOk [.str (mkS [])] := ⟨⟨[], rfl⟩, fun t ht => ⟨[], by simpa using ht, by simp, by simp⟩, by simp⟩
  obtain ⟨n, rfl⟩ := Int.eq_ofNat_of_zero_le k0
  obtain ⟨ρ', l1, p', ts, s4, s5, s6, rfl, q1, q2, q3, _⟩ := forL_inv (t := .n 4) (p := evS cf (mkB fd fp)) (fun i ρ => ∃ p ts s4 s5 s6, ρ = [.own true p, .val (.int (n : Int)), .val (.str (PySem.Str.ofString "abcxyz019.")), .own false (.lst ts), s4, s5, s6, .no, .no] ∧ IsPool p ∧ TermsOk ts ∧ ts.length ≤ i + 1 ∧ s4.idle = true ∧ s5.idle = true ∧ s6.idle = true)
    ((List.range n).map fun (i : Nat) => D.int (0 + (i : Int))) 0 [.own true p, .val (.int (n : Int)), .val (.str (PySem.Str.ofString "abcxyz019.")), .own false (.lst [.str (mkS [])]), .no, .no, .no, .no, .no] ⟨p, _, _, _, _, rfl, h0, t0, by simp, rfl, rfl, rfl⟩ (fun i d ρ hi ⟨p, ts, s4, s5, s6, e, q1, q2, q3, i4, i5, i6⟩ => by
      subst e
      have hi' : i < n := by
        have := (List.getElem?_eq_some_iff.mp hi).1
        simpa using this
      obtain ⟨p', ts', s5', s6', m1, m2, m3, m4, m5, m6⟩ := mk_ok (s4 := .val d) (k := .int (n : Int)) hd hp q1 q2 (by omega) i5 i6
      exact ⟨[.own true p, .val (.int (n : Int)), .val (.str (PySem.Str.ofString "abcxyz019.")), .own false (.lst ts), .val d, s5, s6, .no, .no], _, by simp [asgT, setVal, idle_keep i4], .inl m1, p', ts', .val d, s5', s6', rfl, m2, m3, by omega, rfl, m5, m6⟩)
  refine ⟨ts, p', c_retf (ρ' := [.own true p', .val (.int (n : Int)), .val (.str (PySem.Str.ofString "abcxyz019.")), .no, s4, s5, s6, .no, .no]) ?_, q1, q2, ?_⟩
  · show evS cf (termsB fd fp) [.own true p, .val (.int (n : Int)), .no, .no, .no, .no, .no, .no, .no] = _
    have a1 : evS cf (.set 2 (.cst (.str (PySem.Str.ofString "abcxyz019.")))) [.own true p, .val (.int (n : Int)), .no, .no, .no, .no, .no, .no, .no] = .nx [.own true p, .val (.int (n : Int)), .val (.str (PySem.Str.ofString "abcxyz019.")), .no, .no, .no, .no, .no, .no] := rfl
    have a2 : evS cf (.set 3 (.lst (.acons (.frz (.cst (.str (PySem.Str.ofString "")))) .anil))) [.own true p, .val (.int (n : Int)), .val (.str (PySem.Str.ofString "abcxyz019.")), .no, .no, .no, .no, .no, .no] = .nx [.own true p, .val (.int (n : Int)), .val (.str (PySem.Str.ofString "abcxyz019.")), .own false (.lst [.str (mkS [])]), .no, .no, .no, .no, .no] := rfl
    have a3 : evS cf (.fors (.n 4) (.irng (.var 1)) (mkB fd fp)) [.own true p, .val (.int (n : Int)), .val (.str (PySem.Str.ofString "abcxyz019.")), .own false (.lst [.str (mkS [])]), .no, .no, .no, .no, .no] = .nx _ :=
      (s_for (ev_rng (n := n) (op := .v (.int (n : Int))) rfl rfl (by omega))).trans l1
    rw [show termsB fd fp = .seq _ (.seq _ (.seq _ _)) from rfl, s_seq a1, s_seq a2, s_seq a3]
    rfl
  · simp at q3; omega
end
end PyI
/-! Rx: difference constraints: lowering in rounds, rings. -/
namespace Rx
section
variable {τ : Type} [DecidableEq τ]
def upf {β : Type} (f : τ → β) (x : τ) (b : β) : τ → β := fun y => if y = x then b else f y
theorem upf_same {β : Type} {f : τ → β} {x : τ} {b : β} : upf f x b x = b := by unfold upf; rw [if_pos rfl]
theorem upf_ne {β : Type} {f : τ → β} {x y : τ} {b : β} (h : y ≠ x) : upf f x b y = f y := by unfold upf; rw [if_neg h]
abbrev Lk (τ : Type) := Nat × τ × τ × Int
structure RS (τ : Type) where
  v : τ → Int
  b : τ → Option (Nat × τ × Int)
  t : τ → Nat
def rset (k : Nat) (s : RS τ) (i : Nat) (x y : τ) (w : Int) : RS τ := ⟨upf s.v x (s.v y + w), upf s.b x (some (i, y, w)), upf s.t x k⟩
def rstep (k : Nat) (p : RS τ × Option τ) (l : Lk τ) : RS τ × Option τ :=
  if p.1.v l.2.1 > p.1.v l.2.2.1 + l.2.2.2 then (rset k p.1 l.1 l.2.1 l.2.2.1 l.2.2.2, some l.2.1) else p
def sumN (w : Nat → Int) : Nat → Int
  | 0 => 0
  | n + 1 => sumN w n + w n
theorem pot_le {v : τ → Int} {q : Nat → τ} {w : Nat → Int} : ∀ n, (∀ i, i < n → v (q i) ≥ v (q (i + 1)) + w i) → v (q 0) ≥ v (q n) + sumN w n
  | 0, _ => by simp [sumN]
  | n + 1, h => by
    have := pot_le n fun i hi => h i (by omega)
    have := h n (by omega)
    simp only [sumN]; omega
theorem pot_lt {v : τ → Int} {q : Nat → τ} {w : Nat → Int} {j : Nat} : ∀ n, (∀ i, i < n → v (q i) ≥ v (q (i + 1)) + w i) → j < n → v (q j) > v (q (j + 1)) + w j → v (q 0) > v (q n) + sumN w n
  | 0, _, h, _ => by omega
  | n + 1, h, hj, hs => by
    simp only [sumN]
    by_cases e : j = n
    · subst e
      have := pot_le j fun i hi => h i (by omega)
      omega
    · have := pot_lt (j := j) n (fun i hi => h i (by omega)) (by omega) hs
      have := h n (by omega)
      omega
theorem sat_sum {a : τ → Int} {q : Nat → τ} {w : Nat → Int} : ∀ n, (∀ i, i < n → a (q i) ≤ a (q (i + 1)) + w i) → a (q 0) ≤ a (q n) + sumN w n
  | 0, _ => by simp [sumN]
  | n + 1, h => by
    have := sat_sum n fun i hi => h i (by omega)
    have := h n (by omega)
    simp only [sumN]; omega
structure RI (L : List (Lk τ)) (k : Nat) (done todo : List (Lk τ)) (s : RS τ) : Prop where
  dn : ∀ i x y w, (i, x, y, w) ∈ done → s.v x ≤ s.v y + w ∨ k ≤ s.t y
  td : ∀ i x y w, (i, x, y, w) ∈ todo → s.v x ≤ s.v y + w ∨ k ≤ s.t y + 1
  le : ∀ x, s.t x ≤ k
  bk : ∀ x i y w, s.b x = some (i, y, w) → (i, x, y, w) ∈ L ∧ s.v x ≥ s.v y + w ∧ s.t x ≤ s.t y + 1
  tb : ∀ x, 1 ≤ s.t x → s.b x ≠ none
  ng : ∀ (n : Nat) (q : Nat → τ) (i : Nat → Nat) (w : Nat → Int), 0 < n → (∀ j, j < n → s.b (q j) = some (i j, q (j + 1), w j)) → q n = q 0 → sumN w n < 0
theorem RI.step {L : List (Lk τ)} {k : Nat} {done todo : List (Lk τ)} {p : RS τ × Option τ} {l : Lk τ} (h : RI L k done (l :: todo) p.1) (hk : 1 ≤ k) (hl : l ∈ L) : RI L k (done ++ [l]) todo (rstep k p l).1 := by
  obtain ⟨s, o⟩ := p
  obtain ⟨i0, x0, y0, w0⟩ := l
  simp only at h
  unfold rstep
  simp only
  split
  · rename_i hgt
    have hty : k ≤ s.t y0 + 1 := by
      rcases h.td i0 x0 y0 w0 (by simp) with z | z
      · omega
      · exact z
    have vle : ∀ y, upf s.v x0 (s.v y0 + w0) y ≤ s.v y := fun y => by
      by_cases e : y = x0
      · subst e; rw [upf_same]; omega
      · rw [upf_ne e]; omega
    have tge : ∀ y, s.t y ≤ upf s.t x0 k y := fun y => by
      by_cases e : y = x0
      · subst e; rw [upf_same]; exact h.le y
      · rw [upf_ne e]; omega
    have keep : ∀ x y (w : Int), s.v x ≤ s.v y + w → upf s.v x0 (s.v y0 + w0) x ≤ upf s.v x0 (s.v y0 + w0) y + w ∨ k ≤ upf s.t x0 k y := fun x y w z => by
      by_cases e : y = x0
      · subst e; right; rw [upf_same]; omega
      · left; rw [upf_ne e]; have := vle x; omega
    unfold rset
    refine ⟨fun i x y w hm => ?_, fun i x y w hm => ?_, fun x => ?_, fun x i y w hb => ?_, fun x hx => ?_, fun n q i w hn hq he => ?_⟩
    · simp only
      rcases List.mem_append.mp hm with hm | hm
      · rcases h.dn i x y w hm with z | z
        · exact keep x y w z
        · right; have := tge y; omega
      · have e : (i, x, y, w) = (i0, x0, y0, w0) := by simpa using hm
        obtain ⟨rfl, rfl, rfl, rfl⟩ : i = i0 ∧ x = x0 ∧ y = y0 ∧ w = w0 := by simpa using e
        by_cases e : y = x
        · right; rw [e, upf_same]; omega
        · left; rw [upf_same, upf_ne e]; omega
    · simp only
      rcases h.td i x y w (by simp [hm]) with z | z
      · rcases keep x y w z with q | q
        · exact .inl q
        · right; omega
      · right; have := tge y; omega
    · simp only
      by_cases e : x = x0
      · subst e; rw [upf_same]; omega
      · rw [upf_ne e]; exact h.le x
    · simp only at hb ⊢
      by_cases e : x = x0
      · subst e
        rw [upf_same] at hb
        obtain ⟨rfl, rfl, rfl⟩ : i0 = i ∧ y0 = y ∧ w0 = w := by simpa using hb
        refine ⟨hl, ?_, ?_⟩
        · rw [upf_same]; have := vle y0; omega
        · rw [upf_same]; have := tge y0; omega
      · rw [upf_ne e] at hb
        obtain ⟨q1, q2, q3⟩ := h.bk x i y w hb
        refine ⟨q1, ?_, ?_⟩
        · rw [upf_ne e]; have := vle y; omega
        · rw [upf_ne e]; have := tge y; omega
    · simp only at hx ⊢
      by_cases e : x = x0
      · subst e; rw [upf_same]; exact fun z => nomatch z
      · rw [upf_ne e] at hx ⊢; exact h.tb x hx
    · simp only at hq
      by_cases ex : ∃ j, j < n ∧ q j = x0
      · obtain ⟨j, hj, ej⟩ := ex
        have hj' := hq j hj
        rw [ej, upf_same] at hj'
        have ew : w j = w0 := by cases hj'; rfl
        have ey : q (j + 1) = y0 := by cases hj'; rfl
        have all : ∀ c, c < n → s.v (q c) ≥ s.v (q (c + 1)) + w c := fun c hc => by
          by_cases e : q c = x0
          · have := hq c hc
            rw [e, upf_same] at this
            have e1 : w c = w0 := by cases this; rfl
            have e2 : q (c + 1) = y0 := by cases this; rfl
            rw [e, e1, e2]; omega
          · have := hq c hc
            rw [upf_ne e] at this
            exact (h.bk _ _ _ _ this).2.1
        have := pot_lt n all hj (by rw [ej, ew, ey]; omega)
        rw [he] at this
        omega
      · refine h.ng n q i w hn (fun j hj => ?_) he
        have := hq j hj
        rw [upf_ne (fun e => ex ⟨j, hj, e⟩)] at this
        exact this
  · rename_i hng
    refine ⟨fun i x y w hm => ?_, fun i x y w hm => h.td i x y w (by simp [hm]), h.le, h.bk, h.tb, h.ng⟩
    rcases List.mem_append.mp hm with hm | hm
    · exact h.dn i x y w hm
    · have e : (i, x, y, w) = (i0, x0, y0, w0) := by simpa using hm
      obtain ⟨rfl, rfl, rfl, rfl⟩ : i = i0 ∧ x = x0 ∧ y = y0 ∧ w = w0 := by simpa using e
      left
      have hng' : ¬ s.v x > s.v y + w := hng
      show s.v x ≤ s.v y + w
      omega
def rround (k : Nat) (L : List (Lk τ)) (s : RS τ) : RS τ × Option τ := L.foldl (rstep k) (s, none)
theorem RI.fold {L : List (Lk τ)} {k : Nat} (hk : 1 ≤ k) : ∀ (todo done : List (Lk τ)) (p : RS τ × Option τ), (∀ l ∈ todo, l ∈ L) → RI L k done todo p.1 → RI L k (done ++ todo) [] (todo.foldl (rstep k) p).1
  | [], done, p, _, h => by simpa using h
  | l :: todo, done, p, hs, h => by
    have := RI.fold hk todo (done ++ [l]) (rstep k p l) (fun x hx => hs x (by simp [hx])) (h.step hk (hs l (by simp)))
    simpa using this
theorem RI.round {L : List (Lk τ)} {k : Nat} {s : RS τ} (hk : 1 ≤ k) (h : RI L k [] L s) : RI L k L [] (rround k L s).1 := by
  have := RI.fold hk L [] (s, none) (fun _ q => q) h
  simpa [rround] using this
theorem RI.next {L : List (Lk τ)} {k : Nat} {s : RS τ} (h : RI L k L [] s) : RI L (k + 1) [] L s :=
  ⟨fun _ _ _ _ q => (by cases q), fun i x y w hm => (h.dn i x y w hm).imp id fun z => by omega, fun x => by have := h.le x; omega, h.bk, h.tb, h.ng⟩
theorem RI.init (L : List (Lk τ)) (v : τ → Int) : RI L 1 [] L ⟨v, fun _ => none, fun _ => 0⟩ :=
  ⟨fun _ _ _ _ q => (by cases q), fun _ _ _ _ _ => .inr (by simp), fun _ => by simp, fun _ _ _ _ q => (by cases q), fun _ q => (by simp at q), fun n q i w hn h _ => (by cases h 0 hn)⟩
theorem fold_none {k : Nat} : ∀ (L : List (Lk τ)) (p : RS τ × Option τ), (L.foldl (rstep k) p).2 = none → p.2 = none ∧ (L.foldl (rstep k) p) = p ∧ ∀ i x y w, (i, x, y, w) ∈ L → p.1.v x ≤ p.1.v y + w
  | [], p, h => ⟨h, rfl, fun _ _ _ _ q => (by cases q)⟩
  | (i0, x0, y0, w0) :: L, p, h => by
    obtain ⟨h1, h2, h3⟩ := fold_none L (rstep k p (i0, x0, y0, w0)) h
    have e : rstep k p (i0, x0, y0, w0) = p ∧ ¬ p.1.v x0 > p.1.v y0 + w0 := by
      unfold rstep at h1 ⊢
      simp only at h1 ⊢
      split
      · rename_i z; rw [if_pos z] at h1; cases h1
      · rename_i z; exact ⟨rfl, z⟩
    rw [e.1] at h1 h2 h3
    refine ⟨h1, by rw [List.foldl_cons, e.1]; exact h2, fun i x y w hm => ?_⟩
    rcases List.mem_cons.mp hm with q | q
    · cases q; have := e.2; omega
    · exact h3 i x y w q
theorem fold_some {k : Nat} : ∀ (L : List (Lk τ)) (p : RS τ × Option τ), (∀ x, p.2 = some x → p.1.t x = k) → ∀ x, (L.foldl (rstep k) p).2 = some x → (L.foldl (rstep k) p).1.t x = k
  | [], p, h, x, hx => h x hx
  | l :: L, p, h, x, hx => by
    refine fold_some L (rstep k p l) (fun z hz => ?_) x hx
    unfold rstep at hz ⊢
    split
    · rename_i q; rw [if_pos q] at hz
      have : l.2.1 = z := by simpa using hz
      subst this
      simp only [rset, upf_same]
    · rename_i q; rw [if_neg q] at hz; exact h z hz
theorem round_none {k : Nat} {L : List (Lk τ)} {s : RS τ} (h : (rround k L s).2 = none) : (rround k L s).1 = s ∧ ∀ i x y w, (i, x, y, w) ∈ L → s.v x ≤ s.v y + w := by
  obtain ⟨_, h2, h3⟩ := fold_none L (s, none) h
  exact ⟨congrArg Prod.fst h2, h3⟩
theorem round_some {k : Nat} {L : List (Lk τ)} {s : RS τ} {x : τ} (h : (rround k L s).2 = some x) : (rround k L s).1.t x = k :=
  fold_some L (s, none) (fun _ q => (by cases q)) x h

/-! ### the ring -/
def nxt (s : RS τ) (x : τ) : τ := match s.b x with
  | some (_, y, _) => y
  | none => x
def bi (s : RS τ) (x : τ) : Nat := match s.b x with
  | some (i, _, _) => i
  | none => 0
def bw (s : RS τ) (x : τ) : Int := match s.b x with
  | some (_, _, w) => w
  | none => 0
theorem nxt_b {s : RS τ} {x : τ} (h : s.b x ≠ none) : s.b x = some (bi s x, nxt s x, bw s x) := by
  unfold bi nxt bw
  cases e : s.b x with
  | none => exact absurd e h
  | some q => rfl
def walk (s : RS τ) (x : τ) : Nat → τ
  | 0 => x
  | n + 1 => nxt s (walk s x n)
theorem walk_add (s : RS τ) (x : τ) (a : Nat) : ∀ n, walk s (walk s x a) n = walk s x (a + n)
  | 0 => rfl
  | n + 1 => by show nxt s _ = nxt s _; rw [walk_add s x a n]; rfl
theorem pigeon {α : Type} [DecidableEq α] : ∀ (D : List α) (n : Nat) (f : Nat → α), D.length < n → (∀ i, i < n → f i ∈ D) → ∃ i j, i < j ∧ j < n ∧ f i = f j
  | [], n, f, hn, h => by
    have := h 0 (by simpa using hn)
    cases this
  | d :: D, 0, f, hn, h => by simp at hn
  | d :: D, n + 1, f, hn, h => by
    by_cases e : ∃ i, i < n ∧ f i = f n
    · obtain ⟨i, h1, h2⟩ := e
      exact ⟨i, n, h1, by omega, h2⟩
    · -- the last place is left out
      have hD : ∀ i, i < n → f i ∈ (d :: D).erase (f n) := fun i hi => by
        have ne : f i ≠ f n := fun q => e ⟨i, hi, q⟩
        exact (List.mem_erase_of_ne ne).mpr (h i (by omega))
      have hm := h n (by omega)
      have hl : ((d :: D).erase (f n)).length < n := by
        rw [List.length_erase_of_mem hm]
        simp only [List.length_cons] at hn ⊢
        omega
      obtain ⟨i, j, h1, h2, h3⟩ := pigeon_aux ((d :: D).erase (f n)) n f hl hD
      exact ⟨i, j, h1, by omega, h3⟩
where
  pigeon_aux {α : Type} [DecidableEq α] (D : List α) (n : Nat) (f : Nat → α) (hn : D.length < n) (h : ∀ i, i < n → f i ∈ D) : ∃ i j, i < j ∧ j < n ∧ f i = f j := by
    induction n generalizing D with
    | zero => simp at hn
    | succ n ih =>
      by_cases e : ∃ i, i < n ∧ f i = f n
      · obtain ⟨i, h1, h2⟩ := e
        exact ⟨i, n, h1, by omega, h2⟩
      · have hm := h n (by omega)
        have hD : ∀ i, i < n → f i ∈ D.erase (f n) := fun i hi => by
          have ne : f i ≠ f n := fun q => e ⟨i, hi, q⟩
          exact (List.mem_erase_of_ne ne).mpr (h i (by omega))
        have hl : (D.erase (f n)).length < n := by
          rw [List.length_erase_of_mem hm]
          have : 0 < D.length := List.length_pos_of_mem hm
          omega
        obtain ⟨i, j, h1, h2, h3⟩ := ih _ hl hD
        exact ⟨i, j, h1, by omega, h3⟩
theorem least {p : Nat → Prop} : ∀ n, p n → ∃ k, k ≤ n ∧ p k ∧ ∀ j, j < k → ¬ p j
  | n, h => by
    induction n using Nat.strongRecOn with
    | _ n ih =>
      by_cases e : ∃ j, j < n ∧ p j
      · obtain ⟨j, hj, hp⟩ := e
        obtain ⟨k, h1, h2, h3⟩ := ih j hj hp
        exact ⟨k, by omega, h2, h3⟩
      · exact ⟨n, by omega, h, fun j hj hp => e ⟨j, hj, hp⟩⟩
/-- what the rounds have come to: a way back from x that closes behind m steps -/
structure RingAt (L : List (Lk τ)) (s : RS τ) (x : τ) (m n : Nat) : Prop where
  pos : 0 < n
  df : ∀ i, s.b (walk s x i) ≠ none
  back : walk s x (m + n) = walk s x m
  first : ∀ j, 0 < j → j < n → walk s x (m + j) ≠ walk s x m
  apart : ∀ a b, a < b → b < n → walk s x (m + a) ≠ walk s x (m + b)
  link : ∀ j, (bi s (walk s x (m + j)), walk s x (m + j), walk s x (m + (j + 1)), bw s (walk s x (m + j))) ∈ L
  neg : sumN (fun j => bw s (walk s x (m + j))) n < 0
theorem ring_at {L : List (Lk τ)} {k : Nat} {s : RS τ} {x : τ} {D : List τ} (h : RI L k L [] s) (hx : s.t x = k) (hD : ∀ y, s.b y ≠ none → y ∈ D) (hl : D.length < k) : ∃ n, n ≤ D.length ∧ RingAt L s x D.length n := by
  have ht : ∀ i, i < k → k ≤ s.t (walk s x i) + i := by
    intro i
    induction i with
    | zero => intro _; show k ≤ s.t x + 0; omega
    | succ i ih =>
      intro hi
      have h1 := ih (by omega)
      have hb := nxt_b (h.tb (walk s x i) (by omega))
      have := (h.bk _ _ _ _ hb).2.2
      show k ≤ s.t (nxt s (walk s x i)) + (i + 1)
      omega
  have hm : ∀ i, i < D.length + 1 → walk s x i ∈ D := fun i hi => hD _ (h.tb _ (by have := ht i (by omega); omega))
  obtain ⟨i, j, hij, hj, e⟩ := pigeon D (D.length + 1) (walk s x) (by omega) hm
  have per : ∀ c, walk s x (i + c + (j - i)) = walk s x (i + c) := fun c => by
    have h1 : walk s (walk s x j) c = walk s (walk s x i) c := by rw [e]
    rw [walk_add, walk_add] at h1
    rw [show i + c + (j - i) = j + c by omega]; exact h1
  have df : ∀ a, s.b (walk s x a) ≠ none := by
    intro a
    induction a using Nat.strongRecOn with
    | _ a ih =>
      by_cases ha : a < k
      · exact h.tb _ (by have := ht a ha; omega)
      · have := per (a - j)
        rw [show i + (a - j) + (j - i) = a by omega] at this
        rw [this]
        exact ih _ (by omega)
  have hp : ∃ n, 0 < n ∧ walk s x (D.length + n) = walk s x D.length := ⟨j - i, by omega, by
    have := per (D.length - i)
    rw [show i + (D.length - i) + (j - i) = D.length + (j - i) by omega, show i + (D.length - i) = D.length by omega] at this
    exact this⟩
  obtain ⟨n0, hn0⟩ := hp
  obtain ⟨n, hnle, ⟨hn, hb⟩, hf⟩ := least (p := fun n => 0 < n ∧ walk s x (D.length + n) = walk s x D.length) n0 hn0
  have hlk : ∀ j, s.b (walk s x (D.length + j)) = some (bi s (walk s x (D.length + j)), walk s x (D.length + (j + 1)), bw s (walk s x (D.length + j))) := fun j => nxt_b (df _)
  have apart : ∀ a b, a < b → b < n → walk s x (D.length + a) ≠ walk s x (D.length + b) := fun a b hab hbn q => by
    have h1 : walk s (walk s x (D.length + a)) (n - b) = walk s (walk s x (D.length + b)) (n - b) := by rw [q]
    rw [walk_add, walk_add, show D.length + b + (n - b) = D.length + n by omega, hb, show D.length + a + (n - b) = D.length + (a + n - b) by omega] at h1
    exact hf (a + n - b) (by omega) ⟨by omega, h1⟩
  refine ⟨n, ?_, hn, df, hb, fun j h1 h2 q => hf j h2 ⟨h1, q⟩, apart, fun j => (h.bk _ _ _ _ (hlk j)).1, h.ng n (fun j => walk s x (D.length + j)) (fun j => bi s (walk s x (D.length + j))) _ hn (fun j _ => hlk j) hb⟩
  · rcases Nat.lt_or_ge D.length n with hlt | hge
    · obtain ⟨a, b, h1, h2, h3⟩ := pigeon D n (fun a => walk s x (D.length + a)) hlt fun a _ => hD _ (df _)
      exact absurd h3 (apart a b h1 h2)
    · exact hge
/-- no integers meet what has a ring below 0 -/
theorem RingAt.unsat {L : List (Lk τ)} {s : RS τ} {x : τ} {m n : Nat} (r : RingAt L s x m n) (a : τ → Int) (h : ∀ i x y w, (i, x, y, w) ∈ L → a x ≤ a y + w) : False := by
  have := sat_sum (a := a) (q := fun j => walk s x (m + j)) (w := fun j => bw s (walk s x (m + j))) n fun j _ => h _ _ _ _ (r.link j)
  have e : walk s x (m + n) = walk s x (m + 0) := r.back
  simp only [e] at this
  have := r.neg
  omega
end
end Rx
set_option maxHeartbeats 1000000
/-! PyN0: slots of no account; tables of texts; literals. -/
namespace PyI
open PySem PySem.Spec PyProof.Rows L2
/-- a slot that may be stored to -/
structure J where
  s : Slot
  k : s.keep = false
@[simp] theorem J.kp (j : J) : j.s.keep = false := j.k
def J.no : J := ⟨.no, rfl⟩
def J.v (d : D) : J := ⟨.val d, rfl⟩
def J.o (d : D) : J := ⟨.own false d, rfl⟩
/-- a slot that a comprehension may use -/
structure I where
  s : Slot
  i : s.idle = true
@[simp] theorem I.kp (j : I) : j.s.keep = false := idle_keep j.i
@[simp] theorem I.nt (j : I) : notOwn (some j.s) = true := idle_not j.i
def I.no : I := ⟨.no, rfl⟩
def I.v (d : D) : I := ⟨.val d, rfl⟩
@[simp] theorem kp_no : Slot.keep .no = false := rfl
@[simp] theorem kp_val {d : D} : Slot.keep (.val d) = false := rfl
@[simp] theorem kp_ownf {d : D} : Slot.keep (.own false d) = false := rfl
@[simp] theorem kp_ownt {d : D} : Slot.keep (.own true d) = true := rfl
@[simp] theorem fmv {d : D} {l : List Op} : (Op.v d :: l).filterMap slotI = l.filterMap slotI := rfl
@[simp] theorem fmf {d : D} {l : List Op} : (Op.f d :: l).filterMap slotI = l.filterMap slotI := rfl
@[simp] theorem fms {i : Nat} {l : List Op} : (Op.s i :: l).filterMap slotI = i :: l.filterMap slotI := rfl
@[simp] theorem atI_eq {α : Type} (xs : List α) (i : Int) : atI xs i = (ixN xs.length i).bind fun j => xs[j]? := rfl
@[simp] theorem ixN_eq (n : Nat) (i : Int) : ixN n i = if 0 ≤ i then (if i < n then some i.toNat else none) else if -(n : Int) ≤ i then some (i + n).toNat else none := rfl
@[simp] theorem isTy_l {xs : List D} : isTy "list" (.lst xs) = true := rfl
@[simp] theorem mty_app : Mt.ty .append = "list" := rfl
@[simp] theorem mty_ins : Mt.ty .insert = "list" := rfl
@[simp] theorem mty_rev : Mt.ty .reverse = "list" := rfl
@[simp] theorem mty_ext : Mt.ty .extend = "list" := rfl
@[simp] theorem wbv1 {ρ : Env} {a : D} : ∀ o, wback ρ [.v a] o = ρ
  | [] => rfl
  | _ :: _ => rfl
@[simp] theorem wbv2 {ρ : Env} {a b : D} : ∀ o, wback ρ [.v a, .v b] o = ρ
  | [] => rfl
  | _ :: o => wbv1 o
@[simp] theorem wbv3 {ρ : Env} {a b c : D} : ∀ o, wback ρ [.v a, .v b, .v c] o = ρ
  | [] => rfl
  | _ :: o => wbv2 o
@[simp] theorem wbv4 {ρ : Env} {a b c d : D} : ∀ o, wback ρ [.v a, .v b, .v c, .v d] o = ρ
  | [] => rfl
  | _ :: o => wbv3 o
@[simp] theorem wbv5 {ρ : Env} {a b c d e : D} : ∀ o, wback ρ [.v a, .v b, .v c, .v d, .v e] o = ρ
  | [] => rfl
  | _ :: o => wbv4 o
@[simp] theorem flat_non : D.flat .non = true := rfl
@[simp] theorem flat_bl {b : Bool} : D.flat (.bl b) = true := rfl
@[simp] theorem flat_int {i : Int} : D.flat (.int i) = true := rfl
@[simp] theorem flat_str {x : Str} : D.flat (.str x) = true := rfl
theorem in_lst {x : D} {xs : List D} (h : x.flat = true) (hs : xs.all D.flat = true) : inOp x (.lst xs) = some (inD x xs) := by simp only [inOp]; exact if_pos ⟨h, hs⟩
theorem in_tup {x : D} {xs : List D} (h : x.flat = true) (hs : xs.all D.flat = true) : inOp x (.tup xs) = some (inD x xs) := by simp only [inOp]; exact if_pos ⟨h, hs⟩
theorem inD_strs {x : Str} : ∀ F : List Str, inD (.str x) (F.map D.str) = decide (x ∈ F)
  | [] => rfl
  | y :: F => by
    have := inD_strs (x := x) F
    unfold inD at this ⊢
    rw [List.map_cons, List.any_cons, this]
    by_cases e : y = x
    · subst e; simp [eqF]
    · have e' : ¬ x = y := fun z => e z.symm
      simp [eqF, e, e']
theorem flat_strs (F : List Str) : (F.map D.str).all D.flat = true := by simp [List.all_map]
@[simp] theorem in_strs {x : Str} {F : List Str} : inOp (.str x) (.lst (F.map D.str)) = some (decide (x ∈ F)) := by rw [in_lst rfl (flat_strs F), inD_strs]
@[simp] theorem in_dic {x : Str} {kvs : List (Key × D)} : inOp (.str x) (.dic kvs) = some (look kvs (.inr x)).isSome := rfl
def natD (i : Nat) : D := .int (i : Int)
theorem inD_nats {i : Nat} : ∀ l : List Nat, inD (natD i) (l.map natD) = decide (i ∈ l)
  | [] => rfl
  | j :: l => by
    have := inD_nats (i := i) l
    unfold inD at this ⊢
    rw [List.map_cons, List.any_cons, this]
    by_cases e : j = i
    · subst e; simp [natD, eqF]
    · have e1 : ¬ ((j : Int) = (i : Int)) := by omega
      have e2 : ¬ (i = j) := fun z => e z.symm
      simp [natD, eqF, e1, e2]
theorem flat_nats (l : List Nat) : (l.map natD).all D.flat = true := by simp [List.all_map, natD]
@[simp] theorem in_nats {i : Nat} {l : List Nat} : inOp (.int (i : Int)) (.tup (l.map natD)) = some (decide (i ∈ l)) := by rw [in_tup rfl (flat_nats l)]; exact congrArg some (inD_nats l)
/-! ### tables of texts -/
def tabD (K : List Str) (f : Str → D) : List (Key × D) := K.map fun x => (.inr x, f x)
@[simp] theorem tab_len (K : List Str) (f : Str → D) : (tabD K f).length = K.length := by unfold tabD; simp
theorem look_tab {K : List Str} {f : Str → D} {x : Str} (h : x ∈ K) : look (tabD K f) (.inr x) = some (f x) := by
  unfold tabD
  induction K with
  | nil => cases h
  | cons y K ih =>
    by_cases e : y = x
    · subst e; simp [look]
    · have h' : x ∈ K := by
        rcases List.mem_cons.mp h with q | q
        · exact absurd q.symm e
        · exact q
      have := ih h'
      simp only [look, List.map_cons, List.find?_cons] at this ⊢
      rw [decide_eq_false (fun z => e (Sum.inr.inj z))]
      exact this
theorem look_no {K : List Str} {f : Str → D} {x : Str} (h : x ∉ K) : look (tabD K f) (.inr x) = none := by
  unfold tabD
  induction K with
  | nil => rfl
  | cons y K ih =>
    have h' : x ≠ y ∧ x ∉ K := by simpa using h
    have := ih h'.2
    simp only [look, List.map_cons, List.find?_cons] at this ⊢
    rw [decide_eq_false (fun z => h'.1 (Sum.inr.inj z).symm)]
    exact this
theorem any_tab {K : List Str} {f : Str → D} {x : Str} : ((tabD K f).any fun kv => decide (kv.1 = (.inr x : Key))) = decide (x ∈ K) := by
  unfold tabD
  rw [List.any_map, Bool.eq_iff_iff, List.any_eq_true, decide_eq_true_eq]
  constructor
  · rintro ⟨y, hy, e⟩
    have : y = x := Sum.inr.inj (of_decide_eq_true e)
    rw [← this]; exact hy
  · intro h
    exact ⟨x, h, decide_eq_true rfl⟩
theorem put_old {K : List Str} {f : Str → D} {x : Str} {d : D} (h : x ∈ K) : put (tabD K f) (.inr x) d = tabD K (Rx.upf f x d) := by
  unfold put
  rw [any_tab, if_pos (decide_eq_true h)]
  unfold tabD
  rw [List.map_map]
  refine List.map_congr_left fun y _ => ?_
  by_cases e : y = x
  · subst e; simp [Rx.upf]
  · have : ¬ (Sum.inr y : Key) = .inr x := fun z => e (Sum.inr.inj z)
    simp [Rx.upf, e, this]
theorem put_new {K : List Str} {f : Str → D} {x : Str} {d : D} (h : x ∉ K) : put (tabD K f) (.inr x) d = tabD (K ++ [x]) (Rx.upf f x d) := by
  unfold put
  rw [any_tab, if_neg (by simpa using h)]
  unfold tabD
  rw [List.map_append]
  congr 1
  · refine List.map_congr_left fun y hy => ?_
    have e : y ≠ x := fun z => h (z ▸ hy)
    rw [Rx.upf_ne e]
  · simp [Rx.upf]
theorem upf_map {β : Type} {g : β → D} {f : Str → β} {x : Str} {b : β} : Rx.upf (fun y => g (f y)) x (g b) = fun y => g (Rx.upf f x b y) := by
  funext y
  unfold Rx.upf
  split <;> rfl
theorem tab_congr {K : List Str} {f g : Str → D} (h : ∀ x ∈ K, f x = g x) : tabD K f = tabD K g := by
  unfold tabD
  exact List.map_congr_left fun x hx => by rw [h x hx]
theorem tab_keys {K : List Str} {f : Str → D} : (tabD K f).map (fun p => keyOf p.1) = K.map D.str := by
  unfold tabD; rw [List.map_map]; rfl
theorem keysS_tab : ∀ (K : List Str) (f : Str → D), keysS (tabD K f) = some K
  | [], _ => rfl
  | x :: K, f => by
    have := keysS_tab K f
    unfold tabD at this ⊢
    simp [keysS, this]
/-- a comprehension of a table that leaves its context as it is -/
theorem dcL_plain {vs : List Nat} {t : T} {c : Ft} {ek e : Fe} {ρ0 : Env} (p : D → Bool) (kf : D → Key) (f : D → D) : ∀ (l : List D) (acc : List (Key × D)),
    (∀ d ∈ l, ∃ ρ1 ρ2, asgT t d ρ0 = some ρ1 ∧ c ρ1 = .ok (p d) ρ2 ∧ (p d = true → ∃ ρ3 ρ4 kd, ek ρ2 = .ok (.v kd) ρ3 ∧ keyD kd = some (kf d) ∧ e ρ3 = .ok (.v (f d)) ρ4 ∧ noOwn ρ4 vs = true ∧ wipeR ρ4 vs = ρ0) ∧ (p d = false → noOwn ρ2 vs = true ∧ wipeR ρ2 vs = ρ0)) →
    dcL vs t c ek e l acc ρ0 = .ok ((l.filter p).foldl (fun a d => put a (kf d) (f d)) acc) ρ0
  | [], acc, _ => by simp [dcL]
  | d :: l, acc, st => by
    obtain ⟨ρ1, ρ2, h1, h2, h3, h4⟩ := st d (by simp)
    cases hp : p d with
    | true =>
      obtain ⟨ρ3, ρ4, kd, h5, h6, h7, h8, h9⟩ := h3 hp
      simp only [dcL, h1, h2, hp, h5, h6, h7, h8, if_true, h9]
      rw [dcL_plain p kf f l _ fun d hd => st d (by simp [hd])]
      simp [List.filter_cons, hp]
    | false =>
      obtain ⟨h6, h7⟩ := h4 hp
      simp only [dcL, h1, h2, hp, h6, if_true, h7]
      rw [dcL_plain p kf f l _ fun d hd => st d (by simp [hd])]
      simp [List.filter_cons, hp]
theorem ev_dc {cf : CF} {vs : List Nat} {t : T} {it c k e : E} {ρ ρ1 ρ2 : Env} {items : List D} {acc : List (Key × D)} (h1 : evI cf it ρ = .ok items ρ1) (h2 : noOwn ρ1 vs = true) (h3 : items.length ≤ 100000) (h4 : dcL vs t (evT cf c) (frzE (evE cf k)) (frzE (evE cf e)) items [] (wipeR ρ1 vs) = .ok acc ρ2) :
    evE cf (.dc vs t it c k e) ρ = .ok (.f (.dic acc)) (rst ρ1 ρ2 vs) := by
  show dcE vs t (evI cf it) (evT cf c) (frzE (evE cf k)) (frzE (evE cf e)) ρ = _
  unfold dcE
  rw [h1]
  simp only [Res.bind, h2, h3, and_self, if_true]
  rw [h4]
theorem upf_self {β : Type} {f : Str → β} {x : Str} : Rx.upf f x (f x) = f := by
  funext y
  by_cases e : y = x
  · subst e; exact Rx.upf_same
  · exact Rx.upf_ne e
theorem fold_tab {f : Str → D} : ∀ {T P : List Str}, (P ++ T).Nodup → T.foldl (fun a x => put a (.inr x) (f x)) (tabD P f) = tabD (P ++ T) f
  | [], P, _ => by simp
  | x :: T, P, h => by
    have hx : x ∉ P := fun z => by
      rw [List.nodup_append] at h
      exact h.2.2 x z x (by simp) rfl
    rw [List.foldl_cons, put_new hx, upf_self, fold_tab (by simpa using h)]
    simp
/-- a table made of texts -/
theorem dcL_tab {vs : List Nat} {t : T} {ek e : Fe} {ρ0 : Env} {T : List Str} {f : Str → D} (hT : T.Nodup)
    (st : ∀ x ∈ T, ∃ ρ1 ρ3 ρ4, asgT t (.str x) ρ0 = some ρ1 ∧ ek ρ1 = .ok (.v (.str x)) ρ3 ∧ e ρ3 = .ok (.v (f x)) ρ4 ∧ noOwn ρ4 vs = true ∧ wipeR ρ4 vs = ρ0) :
    dcL vs t yesT ek e (T.map D.str) [] ρ0 = .ok (tabD T f) ρ0 := by
  have h := dcL_plain (vs := vs) (t := t) (c := yesT) (ek := ek) (e := e) (ρ0 := ρ0) (fun _ => true) (fun d => match d with | .str x => .inr x | _ => .inl 0) (fun d => match d with | .str x => f x | _ => .non) (T.map D.str) [] fun d hd => by
    obtain ⟨x, hx, rfl⟩ := List.mem_map.mp hd
    obtain ⟨ρ1, ρ3, ρ4, h1, h2, h3, h4, h5⟩ := st x hx
    exact ⟨ρ1, ρ1, h1, rfl, fun _ => ⟨ρ3, ρ4, .str x, h2, rfl, h3, h4, h5⟩, fun z => by cases z⟩
  rw [h, List.filter_eq_self.mpr (fun _ _ => rfl), List.foldl_map]
  have := fold_tab (f := f) (T := T) (P := []) (by simpa using hT)
  simp only [List.nil_append] at this
  rw [← this]; rfl
theorem c_retO {sl np : Nat} {b : S} {ar : List Arg} {cf : CF} {d : D} {ρ' : Env} (h : evS cf b (ar.map slotOf ++ List.replicate (sl - ar.length) .no) = .ret (.v d) ρ') : ∃ o, callBody cf ⟨sl, np, b⟩ ar = .ok (.v d) o := ⟨_, c_ret h⟩
def eS : Str := PySem.Str.ofString ""
/-! ### literals, clauses -/
abbrev L3 := Str × Str × Int
def litD (l : L3) : D := .tup [.str l.1, .str l.2.1, .int l.2.2]
def clD (c : List L3) : D := .tup (c.map litD)
def csD (cs : List (List L3)) : D := .lst (cs.map clD)
end PyI
namespace PyI
open PySem PySem.Spec PyProof.Rows L2
def b_is_integer : S := .ret (.an (.isi .int (.var 0)) (.nt (.isi .bool (.var 0))))
def b_is_index (iis_integer : Nat) : S := .ret (.an (.call iis_integer (.acons (.frz (.var 0)) .anil)) (.chn .le .lt (.cst (.int 0)) (.var 0) (.var 1)))
def b_terms_of_a : S := .set 1 .dnew
def b_terms_of_1_abb_a : S := .store 1 (.var 3) (.cst (.bl true))
def b_terms_of_1_abb_1 : S := .store 1 (.var 4) (.cst (.bl true))
def b_terms_of_1_abb : S := .seq b_terms_of_1_abb_a b_terms_of_1_abb_1
def b_terms_of_1_ab : S := .fors (.tup [.n 3, .n 4, .n 5]) (.iseq (.var 2)) b_terms_of_1_abb
def b_terms_of_1_a : S := .fors (.n 2) (.iseq (.var 0)) b_terms_of_1_ab
def b_terms_of_2 : S := .ret (.lc [6, 7] (.n 7) (.iseq (.sorted (.var 1))) (.tv (.cmp .ne (.var 7) (.cst (.str (PySem.Str.ofString ""))))) (.var 7))
def b_terms_of_1 : S := .seq b_terms_of_1_a b_terms_of_2
def b_terms_of : S := .seq b_terms_of_a b_terms_of_1
def b_literal_holds : S := .ret (.cmp .le (.sub (.var 1) (.sub (.var 0) (.cst (.int 0)))) (.bin .add (.sub (.var 1) (.sub (.var 0) (.cst (.int 1)))) (.sub (.var 0) (.cst (.int 2)))))
def b_clause_holds (iliteral_holds : Nat) : S := .ret (.bi .any (.lc [2, 3] (.n 3) (.iseq (.var 0)) .tyes (.call iliteral_holds (.acons (.frz (.var 3)) (.acons (.frz (.var 1)) .anil)))))
def b_relaxed_a : S := .set 3 (.cst .non)
def b_relaxed_1_abt_a : S := .store 1 (.var 5) (.bin .add (.sub (.var 1) (.var 6)) (.var 7))
def b_relaxed_1_abt_1_a : S := .store 2 (.var 5) (.tup (.acons (.frz (.var 4)) (.acons (.frz (.var 6)) .anil)))
def b_relaxed_1_abt_2 : S := .set 3 (.var 5)
def b_relaxed_1_abt_1 : S := .seq b_relaxed_1_abt_1_a b_relaxed_1_abt_2
def b_relaxed_1_abt : S := .seq b_relaxed_1_abt_a b_relaxed_1_abt_1
def b_relaxed_1_ab : S := .ifs (.tv (.cmp .gt (.sub (.var 1) (.var 5)) (.bin .add (.sub (.var 1) (.var 6)) (.var 7)))) b_relaxed_1_abt .nx
def b_relaxed_1_a : S := .fors (.tup [.n 4, .tup [.n 5, .n 6, .n 7]]) (.iseq (.var 0)) b_relaxed_1_ab
def b_relaxed_2 : S := .ret (.var 3)
def b_relaxed_1 : S := .seq b_relaxed_1_a b_relaxed_2
def b_relaxed : S := .seq b_relaxed_a b_relaxed_1
def b_ring_from_ab : S := .set 1 (.sub (.sub (.var 0) (.var 1)) (.cst (.int 1)))
def b_ring_from_a : S := .fors (.n 2) (.iseq (.var 0)) b_ring_from_ab
def b_ring_from_1_a : S := .set 3 (.lst .anil)
def b_ring_from_2_a : S := .set 4 (.var 1)
def b_ring_from_3_ab_a : S := .drop (.mt .append 3 (.acons (.frz (.sub (.sub (.var 0) (.var 4)) (.cst (.int 0)))) .anil))
def b_ring_from_3_ab_1 : S := .set 4 (.sub (.sub (.var 0) (.var 4)) (.cst (.int 1)))
def b_ring_from_3_ab : S := .seq b_ring_from_3_ab_a b_ring_from_3_ab_1
def b_ring_from_3_a : S := .whil 100000 (.tor (.tnot (.tt (.var 3))) (.tv (.cmp .ne (.var 4) (.var 1)))) b_ring_from_3_ab
def b_ring_from_4 : S := .ret (.bi .tuple (.var 3))
def b_ring_from_3 : S := .seq b_ring_from_3_a b_ring_from_4
def b_ring_from_2 : S := .seq b_ring_from_2_a b_ring_from_3
def b_ring_from_1 : S := .seq b_ring_from_1_a b_ring_from_2
def b_ring_from : S := .seq b_ring_from_a b_ring_from_1
def b_settled_a (irelaxed iring_from : Nat) : S := .set 2 (.lc [7, 8, 9] (.tup [.n 8, .n 9]) (.ien (.var 0)) (.tv (.cmp .eq (.bi .len (.var 9)) (.cst (.int 1)))) (.tup (.acons (.frz (.var 8)) (.acons (.frz (.sub (.var 9) (.cst (.int 0)))) .anil))))
def b_settled_1_a (irelaxed iring_from : Nat) : S := .set 3 (.dc [7, 10] (.n 10) (.iseq (.var 1)) .tyes (.var 10) (.cst (.int 0)))
def b_settled_2_a (irelaxed iring_from : Nat) : S := .store 3 (.cst (.str (PySem.Str.ofString ""))) (.cst (.int 0))
def b_settled_3_a (irelaxed iring_from : Nat) : S := .set 4 .dnew
def b_settled_4_ab_a (irelaxed iring_from : Nat) : S := .set 6 (.call irelaxed (.acons (.frz (.var 2)) (.acons (.var 3) (.acons (.var 4) .anil))))
def b_settled_4_ab_1 (irelaxed iring_from : Nat) : S := .ifs (.tv (.cmp .is_ (.var 6) (.cst .non))) (.ret (.tup (.acons (.frz (.cst .non)) (.acons (.frz (.dc [7, 10] (.n 10) (.iseq (.var 3)) .tyes (.var 10) (.bin .sub (.sub (.var 3) (.var 10)) (.sub (.var 3) (.cst (.str (PySem.Str.ofString ""))))))) .anil)))) .nx
def b_settled_4_ab (irelaxed iring_from : Nat) : S := .seq (b_settled_4_ab_a irelaxed iring_from) (b_settled_4_ab_1 irelaxed iring_from)
def b_settled_4_a (irelaxed iring_from : Nat) : S := .fors (.n 5) (.irng (.bin .add (.bi .len (.var 3)) (.cst (.int 1)))) (b_settled_4_ab irelaxed iring_from)
def b_settled_5 (irelaxed iring_from : Nat) : S := .ret (.tup (.acons (.frz (.call iring_from (.acons (.frz (.var 4)) (.acons (.frz (.var 6)) .anil)))) (.acons (.frz (.cst .non)) .anil)))
def b_settled_4 (irelaxed iring_from : Nat) : S := .seq (b_settled_4_a irelaxed iring_from) (b_settled_5 irelaxed iring_from)
def b_settled_3 (irelaxed iring_from : Nat) : S := .seq (b_settled_3_a irelaxed iring_from) (b_settled_4 irelaxed iring_from)
def b_settled_2 (irelaxed iring_from : Nat) : S := .seq (b_settled_2_a irelaxed iring_from) (b_settled_3 irelaxed iring_from)
def b_settled_1 (irelaxed iring_from : Nat) : S := .seq (b_settled_1_a irelaxed iring_from) (b_settled_2 irelaxed iring_from)
def b_settled (irelaxed iring_from : Nat) : S := .seq (b_settled_a irelaxed iring_from) (b_settled_1 irelaxed iring_from)
def b_decide_a (iterms_of isettled iclause_holds idecide : Nat) : S := .set 1 (.call iterms_of (.acons (.frz (.var 0)) .anil))
def b_decide_1_a (iterms_of isettled iclause_holds idecide : Nat) : S := .asg (.tup [.n 2, .n 3]) (.call isettled (.acons (.frz (.var 0)) (.acons (.frz (.var 1)) .anil)))
def b_decide_2_a (iterms_of isettled iclause_holds idecide : Nat) : S := .ifs (.tv (.cmp .isnot (.var 2) (.cst .non))) (.ret (.tup (.acons (.frz (.cst (.str (PySem.Str.ofString "none")))) (.acons (.frz (.tup (.acons (.frz (.cst (.str (PySem.Str.ofString "ring")))) (.acons (.frz (.var 2)) .anil)))) .anil)))) .nx
def b_decide_3_abt_a (iterms_of isettled iclause_holds idecide : Nat) : S := .set 6 (.call idecide (.acons (.frz (.bin .add (.var 0) (.lst (.acons (.frz (.slc (.var 5) .nopart (.acons (.cst (.int 1)) .anil))) .anil)))) .anil))
def b_decide_3_abt_1_a (iterms_of isettled iclause_holds idecide : Nat) : S := .ifs (.tv (.cmp .eq (.sub (.var 6) (.cst (.int 0))) (.cst (.str (PySem.Str.ofString "met"))))) (.ret (.var 6)) .nx
def b_decide_3_abt_2_a (iterms_of isettled iclause_holds idecide : Nat) : S := .set 7 (.call idecide (.acons (.frz (.bin .add (.var 0) (.lst (.acons (.frz (.slc (.var 5) (.acons (.cst (.int 1)) .anil) .nopart)) .anil)))) .anil))
def b_decide_3_abt_3_a (iterms_of isettled iclause_holds idecide : Nat) : S := .ifs (.tv (.cmp .eq (.sub (.var 7) (.cst (.int 0))) (.cst (.str (PySem.Str.ofString "met"))))) (.ret (.var 7)) .nx
def b_decide_3_abt_4 (iterms_of isettled iclause_holds idecide : Nat) : S := .ret (.tup (.acons (.frz (.cst (.str (PySem.Str.ofString "none")))) (.acons (.frz (.tup (.acons (.frz (.cst (.str (PySem.Str.ofString "case")))) (.acons (.frz (.var 4)) (.acons (.frz (.sub (.var 6) (.cst (.int 1)))) (.acons (.frz (.sub (.var 7) (.cst (.int 1)))) .anil)))))) .anil)))
def b_decide_3_abt_3 (iterms_of isettled iclause_holds idecide : Nat) : S := .seq (b_decide_3_abt_3_a iterms_of isettled iclause_holds idecide) (b_decide_3_abt_4 iterms_of isettled iclause_holds idecide)
def b_decide_3_abt_2 (iterms_of isettled iclause_holds idecide : Nat) : S := .seq (b_decide_3_abt_2_a iterms_of isettled iclause_holds idecide) (b_decide_3_abt_3 iterms_of isettled iclause_holds idecide)
def b_decide_3_abt_1 (iterms_of isettled iclause_holds idecide : Nat) : S := .seq (b_decide_3_abt_1_a iterms_of isettled iclause_holds idecide) (b_decide_3_abt_2 iterms_of isettled iclause_holds idecide)
def b_decide_3_abt (iterms_of isettled iclause_holds idecide : Nat) : S := .seq (b_decide_3_abt_a iterms_of isettled iclause_holds idecide) (b_decide_3_abt_1 iterms_of isettled iclause_holds idecide)
def b_decide_3_ab (iterms_of isettled iclause_holds idecide : Nat) : S := .ifs (.tnot (.tt (.call iclause_holds (.acons (.frz (.var 5)) (.acons (.frz (.var 3)) .anil))))) (b_decide_3_abt iterms_of isettled iclause_holds idecide) .nx
def b_decide_3_a (iterms_of isettled iclause_holds idecide : Nat) : S := .fors (.tup [.n 4, .n 5]) (.ien (.var 0)) (b_decide_3_ab iterms_of isettled iclause_holds idecide)
def b_decide_4 (iterms_of isettled iclause_holds idecide : Nat) : S := .ret (.tup (.acons (.frz (.cst (.str (PySem.Str.ofString "met")))) (.acons (.frz (.dc [8, 9] (.n 9) (.iseq (.var 1)) .tyes (.var 9) (.sub (.var 3) (.var 9)))) .anil)))
def b_decide_3 (iterms_of isettled iclause_holds idecide : Nat) : S := .seq (b_decide_3_a iterms_of isettled iclause_holds idecide) (b_decide_4 iterms_of isettled iclause_holds idecide)
def b_decide_2 (iterms_of isettled iclause_holds idecide : Nat) : S := .seq (b_decide_2_a iterms_of isettled iclause_holds idecide) (b_decide_3 iterms_of isettled iclause_holds idecide)
def b_decide_1 (iterms_of isettled iclause_holds idecide : Nat) : S := .seq (b_decide_1_a iterms_of isettled iclause_holds idecide) (b_decide_2 iterms_of isettled iclause_holds idecide)
def b_decide (iterms_of isettled iclause_holds idecide : Nat) : S := .seq (b_decide_a iterms_of isettled iclause_holds idecide) (b_decide_1 iterms_of isettled iclause_holds idecide)
def b_is_ring_a (iis_index : Nat) : S := .ifs (.tor (.tnot (.tt (.isi .tuple (.var 1)))) (.tv (.cmp .eq (.bi .len (.var 1)) (.cst (.int 0))))) (.ret (.cst (.bl false))) .nx
def b_is_ring_1_a (iis_index : Nat) : S := .set 2 (.cst (.int 0))
def b_is_ring_2_ab_a (iis_index : Nat) : S := .ifs (.tor (.tnot (.tt (.call iis_index (.acons (.frz (.var 4)) (.acons (.frz (.bi .len (.var 0))) .anil))))) (.tor (.tv (.cmp .ne (.bi .len (.sub (.var 0) (.var 4))) (.cst (.int 1)))) (.tv (.cmp .isin (.var 4) (.slc (.var 1) .nopart (.acons (.var 3) .anil)))))) (.ret (.cst (.bl false))) .nx
def b_is_ring_2_ab_1 (iis_index : Nat) : S := .aug .add 2 (.sub (.sub (.sub (.var 0) (.var 4)) (.cst (.int 0))) (.cst (.int 2)))
def b_is_ring_2_ab (iis_index : Nat) : S := .seq (b_is_ring_2_ab_a iis_index) (b_is_ring_2_ab_1 iis_index)
def b_is_ring_2_a (iis_index : Nat) : S := .fors (.tup [.n 3, .n 4]) (.ien (.var 1)) (b_is_ring_2_ab iis_index)
def b_is_ring_3_a (iis_index : Nat) : S := .set 5 (.lc [7, 4] (.n 4) (.iseq (.var 1)) .tyes (.sub (.sub (.sub (.var 0) (.var 4)) (.cst (.int 0))) (.cst (.int 1))))
def b_is_ring_4_a (iis_index : Nat) : S := .set 6 (.lc [7, 4] (.n 4) (.iseq (.var 1)) .tyes (.sub (.sub (.sub (.var 0) (.var 4)) (.cst (.int 0))) (.cst (.int 0))))
def b_is_ring_5 (iis_index : Nat) : S := .ret (.an (.cmp .lt (.var 2) (.cst (.int 0))) (.cmp .eq (.var 5) (.bin .add (.slc (.var 6) (.acons (.cst (.int 1)) .anil) .nopart) (.slc (.var 6) .nopart (.acons (.cst (.int 1)) .anil)))))
def b_is_ring_4 (iis_index : Nat) : S := .seq (b_is_ring_4_a iis_index) (b_is_ring_5 iis_index)
def b_is_ring_3 (iis_index : Nat) : S := .seq (b_is_ring_3_a iis_index) (b_is_ring_4 iis_index)
def b_is_ring_2 (iis_index : Nat) : S := .seq (b_is_ring_2_a iis_index) (b_is_ring_3 iis_index)
def b_is_ring_1 (iis_index : Nat) : S := .seq (b_is_ring_1_a iis_index) (b_is_ring_2 iis_index)
def b_is_ring (iis_index : Nat) : S := .seq (b_is_ring_a iis_index) (b_is_ring_1 iis_index)
def b_closes_a (iis_ring iis_index icloses : Nat) : S := .ifs (.tor (.tnot (.tt (.isi .tuple (.var 1)))) (.tor (.tv (.cmp .eq (.bi .len (.var 1)) (.cst (.int 0)))) (.tnot (.tt (.isi .str (.sub (.var 1) (.cst (.int 0)))))))) (.ret (.cst (.bl false))) .nx
def b_closes_1_a (iis_ring iis_index icloses : Nat) : S := .ifs (.tand (.tv (.cmp .eq (.bi .len (.var 1)) (.cst (.int 2)))) (.tv (.cmp .eq (.sub (.var 1) (.cst (.int 0))) (.cst (.str (PySem.Str.ofString "ring")))))) (.ret (.call iis_ring (.acons (.frz (.var 0)) (.acons (.frz (.sub (.var 1) (.cst (.int 1)))) .anil)))) .nx
def b_closes_2_a (iis_ring iis_index icloses : Nat) : S := .ifs (.tor (.tv (.cmp .ne (.bi .len (.var 1)) (.cst (.int 4)))) (.tor (.tv (.cmp .ne (.sub (.var 1) (.cst (.int 0))) (.cst (.str (PySem.Str.ofString "case"))))) (.tnot (.tt (.call iis_index (.acons (.frz (.sub (.var 1) (.cst (.int 1)))) (.acons (.frz (.bi .len (.var 0))) .anil))))))) (.ret (.cst (.bl false))) .nx
def b_closes_3_a (iis_ring iis_index icloses : Nat) : S := .set 2 (.sub (.var 0) (.sub (.var 1) (.cst (.int 1))))
def b_closes_4_a (iis_ring iis_index icloses : Nat) : S := .ifs (.tv (.cmp .ne (.bi .len (.var 2)) (.cst (.int 2)))) (.ret (.cst (.bl false))) .nx
def b_closes_5 (iis_ring iis_index icloses : Nat) : S := .ret (.an (.call icloses (.acons (.frz (.bin .add (.var 0) (.lst (.acons (.frz (.slc (.var 2) .nopart (.acons (.cst (.int 1)) .anil))) .anil)))) (.acons (.frz (.sub (.var 1) (.cst (.int 2)))) .anil))) (.call icloses (.acons (.frz (.bin .add (.var 0) (.lst (.acons (.frz (.slc (.var 2) (.acons (.cst (.int 1)) .anil) .nopart)) .anil)))) (.acons (.frz (.sub (.var 1) (.cst (.int 3)))) .anil))))
def b_closes_4 (iis_ring iis_index icloses : Nat) : S := .seq (b_closes_4_a iis_ring iis_index icloses) (b_closes_5 iis_ring iis_index icloses)
def b_closes_3 (iis_ring iis_index icloses : Nat) : S := .seq (b_closes_3_a iis_ring iis_index icloses) (b_closes_4 iis_ring iis_index icloses)
def b_closes_2 (iis_ring iis_index icloses : Nat) : S := .seq (b_closes_2_a iis_ring iis_index icloses) (b_closes_3 iis_ring iis_index icloses)
def b_closes_1 (iis_ring iis_index icloses : Nat) : S := .seq (b_closes_1_a iis_ring iis_index icloses) (b_closes_2 iis_ring iis_index icloses)
def b_closes (iis_ring iis_index icloses : Nat) : S := .seq (b_closes_a iis_ring iis_index icloses) (b_closes_1 iis_ring iis_index icloses)
def b_l_pool_a : S := .set 1 (.lc [4, 5] (.n 5) (.iseq (.slc (.var 0) .nopart (.acons (.cst (.int 63)) .anil))) .tyes (.bi .abs (.bi .int (.var 5))))
def b_l_pool_1_a : S := .set 2 (.lc [4, 5] (.n 5) (.iseq (.var 1)) (.tv (.cmp .ge (.var 5) (.bin .pow (.cst (.int 10)) (.cst (.int 18))))) (.var 5))
def b_l_pool_2_a : S := .set 3 (.lc [4, 5] (.n 5) (.iseq (.var 1)) (.tv (.cmp .lt (.var 5) (.bin .pow (.cst (.int 10)) (.cst (.int 18))))) (.bin .mod (.bi .int (.var 5)) (.cst (.int 1000003))))
def b_l_pool_3 : S := .ret (.lst (.acons (.frz (.var 2)) (.acons (.frz (.var 3)) (.acons (.frz (.cst (.int 0))) (.acons (.frz (.cst (.int 0))) .anil)))))
def b_l_pool_2 : S := .seq b_l_pool_2_a b_l_pool_3
def b_l_pool_1 : S := .seq b_l_pool_1_a b_l_pool_2
def b_l_pool : S := .seq b_l_pool_a b_l_pool_1
def b_l_draw_at_a : S := .set 2 (.sub (.var 0) (.cst (.int 0)))
def b_l_draw_at_1_a : S := .store 0 (.cst (.int 2)) (.sub (.var 2) (.cst (.int 0)))
def b_l_draw_at_2 : S := .store 0 (.cst (.int 0)) (.slc (.var 2) (.acons (.cst (.int 1)) .anil) .nopart)
def b_l_draw_at_1 : S := .seq b_l_draw_at_1_a b_l_draw_at_2
def b_l_draw_at : S := .seq b_l_draw_at_a b_l_draw_at_1
def b_l_draw_a : S := .ifs (.tand (.tv (.cmp .eq (.sub (.var 0) (.cst (.int 2))) (.cst (.int 0)))) (.tv (.cmp .gt (.bi .len (.sub (.var 0) (.cst (.int 0)))) (.cst (.int 0))))) b_l_draw_at .nx
def b_l_draw_1_at_a : S := .set 3 (.bin .mod (.bi .int (.sub (.var 0) (.cst (.int 2)))) (.var 1))
def b_l_draw_1_at_1_a : S := .store 0 (.cst (.int 2)) (.bin .fdiv (.sub (.var 0) (.cst (.int 2))) (.var 1))
def b_l_draw_1_at_2 : S := .ret (.var 3)
def b_l_draw_1_at_1 : S := .seq b_l_draw_1_at_1_a b_l_draw_1_at_2
def b_l_draw_1_at : S := .seq b_l_draw_1_at_a b_l_draw_1_at_1
def b_l_draw_1_a : S := .ifs (.tv (.cmp .gt (.sub (.var 0) (.cst (.int 2))) (.cst (.int 0)))) b_l_draw_1_at .nx
def b_l_draw_2_a : S := .store 0 (.cst (.int 3)) (.bin .add (.sub (.var 0) (.cst (.int 3))) (.cst (.int 1)))
def b_l_draw_3_a : S := .set 4 (.cst (.int 0))
def b_l_draw_4_a : S := .ifs (.tv (.cmp .gt (.bi .len (.sub (.var 0) (.cst (.int 1)))) (.cst (.int 0)))) (.set 4 (.sub (.sub (.var 0) (.cst (.int 1))) (.bin .mod (.bi .int (.sub (.var 0) (.cst (.int 3)))) (.bi .len (.sub (.var 0) (.cst (.int 1))))))) .nx
def b_l_draw_5_a : S := .set 5 (.bin .mod (.bi .int (.bin .mul (.bin .add (.bin .add (.var 4) (.bin .mul (.cst (.int 7919)) (.sub (.var 0) (.cst (.int 3))))) (.cst (.int 1))) (.cst (.int 48271)))) (.cst (.int 2147483647)))
def b_l_draw_6_a : S := .set 5 (.bin .mod (.bi .int (.bin .mul (.var 5) (.bin .add (.bin .fdiv (.var 5) (.cst (.int 1009))) (.cst (.int 69621))))) (.cst (.int 2147483647)))
def b_l_draw_7_a : S := .set 5 (.bin .mod (.bi .int (.bin .mul (.var 5) (.bin .add (.bin .fdiv (.var 5) (.cst (.int 2003))) (.cst (.int 40692))))) (.cst (.int 2147483399)))
def b_l_draw_8 : S := .ret (.bin .mod (.bi .int (.bin .fdiv (.var 5) (.cst (.int 16)))) (.var 1))
def b_l_draw_7 : S := .seq b_l_draw_7_a b_l_draw_8
def b_l_draw_6 : S := .seq b_l_draw_6_a b_l_draw_7
def b_l_draw_5 : S := .seq b_l_draw_5_a b_l_draw_6
def b_l_draw_4 : S := .seq b_l_draw_4_a b_l_draw_5
def b_l_draw_3 : S := .seq b_l_draw_3_a b_l_draw_4
def b_l_draw_2 : S := .seq b_l_draw_2_a b_l_draw_3
def b_l_draw_1 : S := .seq b_l_draw_1_a b_l_draw_2
def b_l_draw : S := .seq b_l_draw_a b_l_draw_1
def b_l_pick (il_draw : Nat) : S := .ret (.sub (.var 1) (.call il_draw (.acons (.var 0) (.acons (.frz (.bi .len (.var 1))) .anil))))
def b_l_terms_a : S := .set 1 (.lst .anil)
def b_l_terms_1_abb : S := .set 1 (.bin .add (.var 1) (.lc [6, 7] (.n 7) (.iseq (.tup (.acons (.frz (.var 3)) (.acons (.frz (.var 4)) .anil)))) (.tand (.tv (.cmp .ne (.var 7) (.cst (.str (PySem.Str.ofString ""))))) (.tv (.cmp .notin (.var 7) (.var 1)))) (.var 7)))
def b_l_terms_1_ab : S := .fors (.tup [.n 3, .n 4, .n 5]) (.iseq (.var 2)) b_l_terms_1_abb
def b_l_terms_1_a : S := .fors (.n 2) (.iseq (.var 0)) b_l_terms_1_ab
def b_l_terms_2 : S := .ret (.sset (.var 1))
def b_l_terms_1 : S := .seq b_l_terms_1_a b_l_terms_2
def b_l_terms : S := .seq b_l_terms_a b_l_terms_1
def b_l_holds_ab_a : S := .set 5 (.ite (.tv (.cmp .eq (.var 2) (.cst (.str (PySem.Str.ofString ""))))) (.cst (.int 0)) (.sub (.var 1) (.var 2)))
def b_l_holds_ab_1_a : S := .set 6 (.ite (.tv (.cmp .eq (.var 3) (.cst (.str (PySem.Str.ofString ""))))) (.cst (.int 0)) (.sub (.var 1) (.var 3)))
def b_l_holds_ab_2 : S := .ifs (.tv (.cmp .le (.var 5) (.bin .add (.var 6) (.var 4)))) (.ret (.cst (.bl true))) .nx
def b_l_holds_ab_1 : S := .seq b_l_holds_ab_1_a b_l_holds_ab_2
def b_l_holds_ab : S := .seq b_l_holds_ab_a b_l_holds_ab_1
def b_l_holds_a : S := .fors (.tup [.n 2, .n 3, .n 4]) (.iseq (.var 0)) b_l_holds_ab
def b_l_holds_1 : S := .ret (.cst (.bl false))
def b_l_holds : S := .seq b_l_holds_a b_l_holds_1
def b_l_meets_a (il_terms il_holds : Nat) : S := .ifs (.tor (.tnot (.tt (.isi .dict (.var 1)))) (.tv (.cmp .ne (.sorted (.var 1)) (.call il_terms (.acons (.frz (.var 0)) .anil))))) (.ret (.cst (.bl false))) .nx
def b_l_meets_1_ab (il_terms il_holds : Nat) : S := .ifs (.tor (.tnot (.tt (.isi .int (.sub (.var 1) (.var 2))))) (.tt (.isi .bool (.sub (.var 1) (.var 2))))) (.ret (.cst (.bl false))) .nx
def b_l_meets_1_a (il_terms il_holds : Nat) : S := .fors (.n 2) (.iseq (.var 1)) (b_l_meets_1_ab il_terms il_holds)
def b_l_meets_2 (il_terms il_holds : Nat) : S := .ret (.cmp .eq (.bi .len (.lc [3, 4] (.n 4) (.iseq (.var 0)) (.tnot (.tt (.call il_holds (.acons (.frz (.var 4)) (.acons (.frz (.var 1)) .anil))))) (.var 4))) (.cst (.int 0)))
def b_l_meets_1 (il_terms il_holds : Nat) : S := .seq (b_l_meets_1_a il_terms il_holds) (b_l_meets_2 il_terms il_holds)
def b_l_meets (il_terms il_holds : Nat) : S := .seq (b_l_meets_a il_terms il_holds) (b_l_meets_1 il_terms il_holds)
def b_l_heights_a : S := .set 1 (.disp (.acons (.cst (.str (PySem.Str.ofString ""))) (.acons (.cst (.int 0)) .anil)))
def b_l_heights_1_ab_a : S := .store 1 (.var 2) (.cst (.int 0))
def b_l_heights_1_ab_1 : S := .store 1 (.var 3) (.cst (.int 0))
def b_l_heights_1_ab : S := .seq b_l_heights_1_ab_a b_l_heights_1_ab_1
def b_l_heights_1_a : S := .fors (.tup [.n 2, .n 3, .n 4]) (.iseq (.var 0)) b_l_heights_1_ab
def b_l_heights_2_ab_a : S := .set 6 (.cst (.bl false))
def b_l_heights_2_ab_1_abt_a : S := .store 1 (.var 2) (.bin .add (.sub (.var 1) (.var 3)) (.var 4))
def b_l_heights_2_ab_1_abt_1 : S := .set 6 (.cst (.bl true))
def b_l_heights_2_ab_1_abt : S := .seq b_l_heights_2_ab_1_abt_a b_l_heights_2_ab_1_abt_1
def b_l_heights_2_ab_1_ab : S := .ifs (.tv (.cmp .gt (.sub (.var 1) (.var 2)) (.bin .add (.sub (.var 1) (.var 3)) (.var 4)))) b_l_heights_2_ab_1_abt .nx
def b_l_heights_2_ab_1_a : S := .fors (.tup [.n 2, .n 3, .n 4]) (.iseq (.var 0)) b_l_heights_2_ab_1_ab
def b_l_heights_2_ab_2 : S := .ifs (.tnot (.tt (.var 6))) (.ret (.var 1)) .nx
def b_l_heights_2_ab_1 : S := .seq b_l_heights_2_ab_1_a b_l_heights_2_ab_2
def b_l_heights_2_ab : S := .seq b_l_heights_2_ab_a b_l_heights_2_ab_1
def b_l_heights_2_a : S := .fors (.n 5) (.irng (.bin .add (.bi .len (.var 1)) (.cst (.int 1)))) b_l_heights_2_ab
def b_l_heights_3 : S := .ret (.cst .non)
def b_l_heights_2 : S := .seq b_l_heights_2_a b_l_heights_3
def b_l_heights_1 : S := .seq b_l_heights_1_a b_l_heights_2
def b_l_heights : S := .seq b_l_heights_a b_l_heights_1
def b_l_cased_a (il_heights il_cased : Nat) : S := .set 2 (.call il_heights (.acons (.frz (.var 0)) .anil))
def b_l_cased_1_a (il_heights il_cased : Nat) : S := .ifs (.tor (.tv (.cmp .is_ (.var 2) (.cst .non))) (.tv (.cmp .eq (.bi .len (.var 1)) (.cst (.int 0))))) (.ret (.var 2)) .nx
def b_l_cased_2_ab_a (il_heights il_cased : Nat) : S := .set 4 (.call il_cased (.acons (.frz (.bin .add (.var 0) (.lst (.acons (.frz (.var 3)) .anil)))) (.acons (.frz (.slc (.var 1) (.acons (.cst (.int 1)) .anil) .nopart)) .anil)))
def b_l_cased_2_ab_1 (il_heights il_cased : Nat) : S := .ifs (.tv (.cmp .isnot (.var 4) (.cst .non))) (.ret (.var 4)) .nx
def b_l_cased_2_ab (il_heights il_cased : Nat) : S := .seq (b_l_cased_2_ab_a il_heights il_cased) (b_l_cased_2_ab_1 il_heights il_cased)
def b_l_cased_2_a (il_heights il_cased : Nat) : S := .fors (.n 3) (.iseq (.sub (.var 1) (.cst (.int 0)))) (b_l_cased_2_ab il_heights il_cased)
def b_l_cased_3 (il_heights il_cased : Nat) : S := .ret (.cst .non)
def b_l_cased_2 (il_heights il_cased : Nat) : S := .seq (b_l_cased_2_a il_heights il_cased) (b_l_cased_3 il_heights il_cased)
def b_l_cased_1 (il_heights il_cased : Nat) : S := .seq (b_l_cased_1_a il_heights il_cased) (b_l_cased_2 il_heights il_cased)
def b_l_cased (il_heights il_cased : Nat) : S := .seq (b_l_cased_a il_heights il_cased) (b_l_cased_1 il_heights il_cased)
def b_l_integers_a (il_cased il_terms : Nat) : S := .set 1 (.lc [5, 6] (.n 6) (.iseq (.var 0)) (.tv (.cmp .eq (.bi .len (.var 6)) (.cst (.int 1)))) (.sub (.var 6) (.cst (.int 0))))
def b_l_integers_1_a (il_cased il_terms : Nat) : S := .set 2 (.call il_cased (.acons (.frz (.var 1)) (.acons (.frz (.lc [5, 6] (.n 6) (.iseq (.var 0)) (.tv (.cmp .eq (.bi .len (.var 6)) (.cst (.int 2)))) (.var 6))) .anil)))
def b_l_integers_2_a (il_cased il_terms : Nat) : S := .ifs (.tv (.cmp .is_ (.var 2) (.cst .non))) (.ret (.cst .non)) .nx
def b_l_integers_3_a (il_cased il_terms : Nat) : S := .set 3 .dnew
def b_l_integers_4_ab (il_cased il_terms : Nat) : S := .store 3 (.var 4) (.bin .sub (.get (.var 2) (.var 4) (.cst (.int 0))) (.sub (.var 2) (.cst (.str (PySem.Str.ofString "")))))
def b_l_integers_4_a (il_cased il_terms : Nat) : S := .fors (.n 4) (.iseq (.call il_terms (.acons (.frz (.var 0)) .anil))) (b_l_integers_4_ab il_cased il_terms)
def b_l_integers_5 (il_cased il_terms : Nat) : S := .ret (.var 3)
def b_l_integers_4 (il_cased il_terms : Nat) : S := .seq (b_l_integers_4_a il_cased il_terms) (b_l_integers_5 il_cased il_terms)
def b_l_integers_3 (il_cased il_terms : Nat) : S := .seq (b_l_integers_3_a il_cased il_terms) (b_l_integers_4 il_cased il_terms)
def b_l_integers_2 (il_cased il_terms : Nat) : S := .seq (b_l_integers_2_a il_cased il_terms) (b_l_integers_3 il_cased il_terms)
def b_l_integers_1 (il_cased il_terms : Nat) : S := .seq (b_l_integers_1_a il_cased il_terms) (b_l_integers_2 il_cased il_terms)
def b_l_integers (il_cased il_terms : Nat) : S := .seq (b_l_integers_a il_cased il_terms) (b_l_integers_1 il_cased il_terms)
def b_l_ring_a : S := .ifs (.tor (.tnot (.tt (.isi .tuple (.var 1)))) (.tv (.cmp .eq (.bi .len (.var 1)) (.cst (.int 0))))) (.ret (.cst (.bl false))) .nx
def b_l_ring_1_ab_a : S := .ifs (.tor (.tnot (.tt (.isi .int (.sub (.var 1) (.var 2))))) (.tor (.tt (.isi .bool (.sub (.var 1) (.var 2)))) (.tnot (.tv (.chn .le .lt (.cst (.int 0)) (.sub (.var 1) (.var 2)) (.bi .len (.var 0))))))) (.ret (.cst (.bl false))) .nx
def b_l_ring_1_ab_1 : S := .ifs (.tor (.tv (.cmp .isin (.sub (.var 1) (.var 2)) (.slc (.var 1) .nopart (.acons (.var 2) .anil)))) (.tv (.cmp .ne (.bi .len (.sub (.var 0) (.sub (.var 1) (.var 2)))) (.cst (.int 1))))) (.ret (.cst (.bl false))) .nx
def b_l_ring_1_ab : S := .seq b_l_ring_1_ab_a b_l_ring_1_ab_1
def b_l_ring_1_a : S := .fors (.n 2) (.irng (.bi .len (.var 1))) b_l_ring_1_ab
def b_l_ring_2_a : S := .set 3 (.lc [4, 5] (.n 5) (.iseq (.var 1)) .tyes (.sub (.sub (.var 0) (.var 5)) (.cst (.int 0))))
def b_l_ring_3_ab : S := .ifs (.tv (.cmp .ne (.sub (.sub (.var 3) (.var 2)) (.cst (.int 1))) (.sub (.sub (.var 3) (.bin .mod (.bi .int (.bin .add (.var 2) (.cst (.int 1)))) (.bi .len (.var 3)))) (.cst (.int 0))))) (.ret (.cst (.bl false))) .nx
def b_l_ring_3_a : S := .fors (.n 2) (.irng (.bi .len (.var 3))) b_l_ring_3_ab
def b_l_ring_4 : S := .ret (.cmp .lt (.bi .sum (.lc [4, 6] (.n 6) (.iseq (.var 3)) .tyes (.sub (.var 6) (.cst (.int 2))))) (.cst (.int 0)))
def b_l_ring_3 : S := .seq b_l_ring_3_a b_l_ring_4
def b_l_ring_2 : S := .seq b_l_ring_2_a b_l_ring_3
def b_l_ring_1 : S := .seq b_l_ring_1_a b_l_ring_2
def b_l_ring : S := .seq b_l_ring_a b_l_ring_1
def b_l_closed_a (il_ring il_closed : Nat) : S := .ifs (.tor (.tnot (.tt (.isi .tuple (.var 1)))) (.tor (.tv (.cmp .eq (.bi .len (.var 1)) (.cst (.int 0)))) (.tnot (.tt (.isi .str (.sub (.var 1) (.cst (.int 0)))))))) (.ret (.cst (.bl false))) .nx
def b_l_closed_1_a (il_ring il_closed : Nat) : S := .ifs (.tv (.cmp .eq (.sub (.var 1) (.cst (.int 0))) (.cst (.str (PySem.Str.ofString "ring"))))) (.ret (.an (.cmp .eq (.bi .len (.var 1)) (.cst (.int 2))) (.call il_ring (.acons (.frz (.var 0)) (.acons (.frz (.sub (.var 1) (.cst (.int 1)))) .anil))))) .nx
def b_l_closed_2_a (il_ring il_closed : Nat) : S := .ifs (.tor (.tv (.cmp .ne (.sub (.var 1) (.cst (.int 0))) (.cst (.str (PySem.Str.ofString "case"))))) (.tor (.tv (.cmp .ne (.bi .len (.var 1)) (.cst (.int 4)))) (.tor (.tnot (.tt (.isi .int (.sub (.var 1) (.cst (.int 1)))))) (.tt (.isi .bool (.sub (.var 1) (.cst (.int 1)))))))) (.ret (.cst (.bl false))) .nx
def b_l_closed_3_a (il_ring il_closed : Nat) : S := .ifs (.tor (.tnot (.tv (.chn .le .lt (.cst (.int 0)) (.sub (.var 1) (.cst (.int 1))) (.bi .len (.var 0))))) (.tv (.cmp .ne (.bi .len (.sub (.var 0) (.sub (.var 1) (.cst (.int 1))))) (.cst (.int 2))))) (.ret (.cst (.bl false))) .nx
def b_l_closed_4_a (il_ring il_closed : Nat) : S := .asg (.tup [.n 2, .n 3]) (.sub (.var 0) (.sub (.var 1) (.cst (.int 1))))
def b_l_closed_5 (il_ring il_closed : Nat) : S := .ret (.an (.call il_closed (.acons (.frz (.bin .add (.var 0) (.lst (.acons (.frz (.tup (.acons (.frz (.var 2)) .anil))) .anil)))) (.acons (.frz (.sub (.var 1) (.cst (.int 2)))) .anil))) (.call il_closed (.acons (.frz (.bin .add (.var 0) (.lst (.acons (.frz (.tup (.acons (.frz (.var 3)) .anil))) .anil)))) (.acons (.frz (.sub (.var 1) (.cst (.int 3)))) .anil))))
def b_l_closed_4 (il_ring il_closed : Nat) : S := .seq (b_l_closed_4_a il_ring il_closed) (b_l_closed_5 il_ring il_closed)
def b_l_closed_3 (il_ring il_closed : Nat) : S := .seq (b_l_closed_3_a il_ring il_closed) (b_l_closed_4 il_ring il_closed)
def b_l_closed_2 (il_ring il_closed : Nat) : S := .seq (b_l_closed_2_a il_ring il_closed) (b_l_closed_3 il_ring il_closed)
def b_l_closed_1 (il_ring il_closed : Nat) : S := .seq (b_l_closed_1_a il_ring il_closed) (b_l_closed_2 il_ring il_closed)
def b_l_closed (il_ring il_closed : Nat) : S := .seq (b_l_closed_a il_ring il_closed) (b_l_closed_1 il_ring il_closed)
def b_l_number_a (il_draw : Nat) : S := .set 1 (.call il_draw (.acons (.var 0) (.acons (.frz (.cst (.int 12))) .anil)))
def b_l_number_1_a (il_draw : Nat) : S := .set 2 (.bin .sub (.call il_draw (.acons (.var 0) (.acons (.frz (.cst (.int 7))) .anil))) (.cst (.int 3)))
def b_l_number_2_a (il_draw : Nat) : S := .ifs (.tv (.cmp .eq (.var 1) (.cst (.int 0)))) (.set 2 (.bin .sub (.call il_draw (.acons (.var 0) (.acons (.frz (.cst (.int 2001))) .anil))) (.cst (.int 1000)))) .nx
def b_l_number_3_a (il_draw : Nat) : S := .ifs (.tv (.cmp .eq (.var 1) (.cst (.int 1)))) (.set 2 (.bin .add (.bin .mul (.bin .sub (.call il_draw (.acons (.var 0) (.acons (.frz (.cst (.int 3))) .anil))) (.cst (.int 1))) (.bin .pow (.cst (.int 10)) (.cst (.int 40)))) (.var 2))) .nx
def b_l_number_4 (il_draw : Nat) : S := .ret (.var 2)
def b_l_number_3 (il_draw : Nat) : S := .seq (b_l_number_3_a il_draw) (b_l_number_4 il_draw)
def b_l_number_2 (il_draw : Nat) : S := .seq (b_l_number_2_a il_draw) (b_l_number_3 il_draw)
def b_l_number_1 (il_draw : Nat) : S := .seq (b_l_number_1_a il_draw) (b_l_number_2 il_draw)
def b_l_number (il_draw : Nat) : S := .seq (b_l_number_a il_draw) (b_l_number_1 il_draw)
def b_l_literal (il_pick il_number : Nat) : S := .ret (.tup (.acons (.frz (.call il_pick (.acons (.var 0) (.acons (.frz (.var 1)) .anil)))) (.acons (.frz (.call il_pick (.acons (.var 0) (.acons (.frz (.var 1)) .anil)))) (.acons (.frz (.call il_number (.acons (.var 0) .anil))) .anil))))
def b_l_clause_a (il_literal il_draw : Nat) : S := .set 3 (.tup (.acons (.frz (.call il_literal (.acons (.var 0) (.acons (.frz (.var 1)) .anil)))) .anil))
def b_l_clause_1_a (il_literal il_draw : Nat) : S := .ifs (.tv (.cmp .lt (.call il_draw (.acons (.var 0) (.acons (.frz (.cst (.int 4))) .anil))) (.var 2))) (.set 3 (.bin .add (.var 3) (.tup (.acons (.frz (.call il_literal (.acons (.var 0) (.acons (.frz (.var 1)) .anil)))) .anil)))) .nx
def b_l_clause_2 (il_literal il_draw : Nat) : S := .ret (.var 3)
def b_l_clause_1 (il_literal il_draw : Nat) : S := .seq (b_l_clause_1_a il_literal il_draw) (b_l_clause_2 il_literal il_draw)
def b_l_clause (il_literal il_draw : Nat) : S := .seq (b_l_clause_a il_literal il_draw) (b_l_clause_1 il_literal il_draw)
def b_l_some_terms_a (il_draw il_pick : Nat) : S := .set 2 (.cst (.str (PySem.Str.ofString "abcxyz019.")))
def b_l_some_terms_1_a (il_draw il_pick : Nat) : S := .set 3 (.lst (.acons (.frz (.cst (.str (PySem.Str.ofString "")))) .anil))
def b_l_some_terms_2_ab_a (il_draw il_pick : Nat) : S := .set 5 (.sub (.lst (.acons (.frz (.cst (.int 1))) (.acons (.frz (.cst (.int 1))) (.acons (.frz (.cst (.int 2))) (.acons (.frz (.cst (.int 4))) (.acons (.frz (.cst (.int 20))) .anil)))))) (.call il_draw (.acons (.var 0) (.acons (.frz (.cst (.int 5))) .anil))))
def b_l_some_terms_2_ab_1_a (il_draw il_pick : Nat) : S := .set 6 (.join (.cst (.str (PySem.Str.ofString ""))) (.lc [7, 8] (.n 8) (.irng (.var 5)) .tyes (.call il_pick (.acons (.var 0) (.acons (.frz (.var 2)) .anil)))))
def b_l_some_terms_2_ab_2 (il_draw il_pick : Nat) : S := .ifs (.tv (.cmp .notin (.var 6) (.var 3))) (.drop (.mt .append 3 (.acons (.frz (.var 6)) .anil))) .nx
def b_l_some_terms_2_ab_1 (il_draw il_pick : Nat) : S := .seq (b_l_some_terms_2_ab_1_a il_draw il_pick) (b_l_some_terms_2_ab_2 il_draw il_pick)
def b_l_some_terms_2_ab (il_draw il_pick : Nat) : S := .seq (b_l_some_terms_2_ab_a il_draw il_pick) (b_l_some_terms_2_ab_1 il_draw il_pick)
def b_l_some_terms_2_a (il_draw il_pick : Nat) : S := .fors (.n 4) (.irng (.var 1)) (b_l_some_terms_2_ab il_draw il_pick)
def b_l_some_terms_3 (il_draw il_pick : Nat) : S := .ret (.var 3)
def b_l_some_terms_2 (il_draw il_pick : Nat) : S := .seq (b_l_some_terms_2_a il_draw il_pick) (b_l_some_terms_3 il_draw il_pick)
def b_l_some_terms_1 (il_draw il_pick : Nat) : S := .seq (b_l_some_terms_1_a il_draw il_pick) (b_l_some_terms_2 il_draw il_pick)
def b_l_some_terms (il_draw il_pick : Nat) : S := .seq (b_l_some_terms_a il_draw il_pick) (b_l_some_terms_1 il_draw il_pick)
def b_l_clauses_a (il_draw il_clause : Nat) : S := .set 2 (.lst .anil)
def b_l_clauses_1_a (il_draw il_clause : Nat) : S := .set 3 (.cst (.int 0))
def b_l_clauses_2_ab_a (il_draw il_clause : Nat) : S := .set 5 (.call il_clause (.acons (.var 0) (.acons (.frz (.var 1)) (.acons (.frz (.cst (.int 2))) .anil))))
def b_l_clauses_2_ab_1_a (il_draw il_clause : Nat) : S := .ifs (.tv (.cmp .eq (.var 3) (.cst (.int 7)))) (.set 5 (.slc (.var 5) .nopart (.acons (.cst (.int 1)) .anil))) .nx
def b_l_clauses_2_ab_2_a (il_draw il_clause : Nat) : S := .set 3 (.bin .sub (.bin .add (.var 3) (.bi .len (.var 5))) (.cst (.int 1)))
def b_l_clauses_2_ab_3 (il_draw il_clause : Nat) : S := .drop (.mt .append 2 (.acons (.frz (.var 5)) .anil))
def b_l_clauses_2_ab_2 (il_draw il_clause : Nat) : S := .seq (b_l_clauses_2_ab_2_a il_draw il_clause) (b_l_clauses_2_ab_3 il_draw il_clause)
def b_l_clauses_2_ab_1 (il_draw il_clause : Nat) : S := .seq (b_l_clauses_2_ab_1_a il_draw il_clause) (b_l_clauses_2_ab_2 il_draw il_clause)
def b_l_clauses_2_ab (il_draw il_clause : Nat) : S := .seq (b_l_clauses_2_ab_a il_draw il_clause) (b_l_clauses_2_ab_1 il_draw il_clause)
def b_l_clauses_2_a (il_draw il_clause : Nat) : S := .fors (.n 4) (.irng (.call il_draw (.acons (.var 0) (.acons (.frz (.cst (.int 15))) .anil)))) (b_l_clauses_2_ab il_draw il_clause)
def b_l_clauses_3 (il_draw il_clause : Nat) : S := .ret (.var 2)
def b_l_clauses_2 (il_draw il_clause : Nat) : S := .seq (b_l_clauses_2_a il_draw il_clause) (b_l_clauses_3 il_draw il_clause)
def b_l_clauses_1 (il_draw il_clause : Nat) : S := .seq (b_l_clauses_1_a il_draw il_clause) (b_l_clauses_2 il_draw il_clause)
def b_l_clauses (il_draw il_clause : Nat) : S := .seq (b_l_clauses_a il_draw il_clause) (b_l_clauses_1 il_draw il_clause)
def b_l_round_a (il_draw il_pick : Nat) : S := .set 3 (.lc [8, 2] (.n 2) (.irng (.bin .add (.cst (.int 2)) (.call il_draw (.acons (.var 0) (.acons (.frz (.cst (.int 6))) .anil))))) .tyes (.call il_pick (.acons (.var 0) (.acons (.frz (.var 1)) .anil))))
def b_l_round_1_a (il_draw il_pick : Nat) : S := .set 4 (.lst .anil)
def b_l_round_2_a (il_draw il_pick : Nat) : S := .set 5 (.cst (.int 0))
def b_l_round_3_ab_a (il_draw il_pick : Nat) : S := .set 6 (.bin .sub (.call il_draw (.acons (.var 0) (.acons (.frz (.cst (.int 9))) .anil))) (.cst (.int 4)))
def b_l_round_3_ab_1_a (il_draw il_pick : Nat) : S := .ifs (.tv (.cmp .eq (.var 2) (.bin .sub (.bi .len (.var 3)) (.cst (.int 1))))) (.set 6 (.bin .sub (.bin .sub (.call il_draw (.acons (.var 0) (.acons (.frz (.cst (.int 3))) .anil))) (.cst (.int 1))) (.var 5))) .nx
def b_l_round_3_ab_2_a (il_draw il_pick : Nat) : S := .set 5 (.bin .add (.var 5) (.var 6))
def b_l_round_3_ab_3 (il_draw il_pick : Nat) : S := .drop (.mt .append 4 (.acons (.frz (.tup (.acons (.frz (.tup (.acons (.frz (.sub (.var 3) (.var 2))) (.acons (.frz (.sub (.var 3) (.bin .mod (.bi .int (.bin .add (.var 2) (.cst (.int 1)))) (.bi .len (.var 3))))) (.acons (.frz (.var 6)) .anil))))) .anil))) .anil))
def b_l_round_3_ab_2 (il_draw il_pick : Nat) : S := .seq (b_l_round_3_ab_2_a il_draw il_pick) (b_l_round_3_ab_3 il_draw il_pick)
def b_l_round_3_ab_1 (il_draw il_pick : Nat) : S := .seq (b_l_round_3_ab_1_a il_draw il_pick) (b_l_round_3_ab_2 il_draw il_pick)
def b_l_round_3_ab (il_draw il_pick : Nat) : S := .seq (b_l_round_3_ab_a il_draw il_pick) (b_l_round_3_ab_1 il_draw il_pick)
def b_l_round_3_a (il_draw il_pick : Nat) : S := .fors (.n 2) (.irng (.bi .len (.var 3))) (b_l_round_3_ab il_draw il_pick)
def b_l_round_4_a (il_draw il_pick : Nat) : S := .set 7 (.call il_draw (.acons (.var 0) (.acons (.frz (.bi .len (.var 4))) .anil)))
def b_l_round_5 (il_draw il_pick : Nat) : S := .ret (.bin .add (.slc (.var 4) (.acons (.var 7) .anil) .nopart) (.slc (.var 4) .nopart (.acons (.var 7) .anil)))
def b_l_round_4 (il_draw il_pick : Nat) : S := .seq (b_l_round_4_a il_draw il_pick) (b_l_round_5 il_draw il_pick)
def b_l_round_3 (il_draw il_pick : Nat) : S := .seq (b_l_round_3_a il_draw il_pick) (b_l_round_4 il_draw il_pick)
def b_l_round_2 (il_draw il_pick : Nat) : S := .seq (b_l_round_2_a il_draw il_pick) (b_l_round_3 il_draw il_pick)
def b_l_round_1 (il_draw il_pick : Nat) : S := .seq (b_l_round_1_a il_draw il_pick) (b_l_round_2 il_draw il_pick)
def b_l_round (il_draw il_pick : Nat) : S := .seq (b_l_round_a il_draw il_pick) (b_l_round_1 il_draw il_pick)
def b_l_many_twos_a (il_draw il_pick : Nat) : S := .set 2 .dnew
def b_l_many_twos_1_a (il_draw il_pick : Nat) : S := .set 3 (.lst .anil)
def b_l_many_twos_2_ab (il_draw il_pick : Nat) : S := .store 2 (.var 4) (.sub (.lst (.acons (.frz (.bin .sub (.call il_draw (.acons (.var 0) (.acons (.frz (.cst (.int 9))) .anil))) (.cst (.int 4)))) (.acons (.frz (.cst (.int 0))) .anil))) (.bi .int (.cmp .eq (.var 4) (.cst (.str (PySem.Str.ofString ""))))))
def b_l_many_twos_2_a (il_draw il_pick : Nat) : S := .fors (.n 4) (.iseq (.var 1)) (b_l_many_twos_2_ab il_draw il_pick)
def b_l_many_twos_3_ab_a (il_draw il_pick : Nat) : S := .drop (.mt .append 3 (.acons (.frz (.tup (.acons (.frz (.tup (.acons (.frz (.var 4)) (.acons (.frz (.cst (.str (PySem.Str.ofString "")))) (.acons (.frz (.sub (.var 2) (.var 4))) .anil))))) .anil))) .anil))
def b_l_many_twos_3_ab_1 (il_draw il_pick : Nat) : S := .drop (.mt .append 3 (.acons (.frz (.tup (.acons (.frz (.tup (.acons (.frz (.cst (.str (PySem.Str.ofString "")))) (.acons (.frz (.var 4)) (.acons (.frz (.neg (.sub (.var 2) (.var 4)))) .anil))))) .anil))) .anil))
def b_l_many_twos_3_ab (il_draw il_pick : Nat) : S := .seq (b_l_many_twos_3_ab_a il_draw il_pick) (b_l_many_twos_3_ab_1 il_draw il_pick)
def b_l_many_twos_3_a (il_draw il_pick : Nat) : S := .fors (.n 4) (.iseq (.slc (.var 1) (.acons (.cst (.int 1)) .anil) (.acons (.bin .sub (.bi .len (.var 1)) (.bin .mul (.call il_draw (.acons (.var 0) (.acons (.frz (.cst (.int 2))) .anil))) (.bi .int (.cmp .gt (.bi .len (.var 1)) (.cst (.int 3)))))) .anil))) (b_l_many_twos_3_ab il_draw il_pick)
def b_l_many_twos_4_a (il_draw il_pick : Nat) : S := .set 5 (.bin .add (.cst (.int 8)) (.call il_draw (.acons (.var 0) (.acons (.frz (.cst (.int 7))) .anil))))
def b_l_many_twos_5_a (il_draw il_pick : Nat) : S := .set 6 (.call il_draw (.acons (.var 0) (.acons (.frz (.bin .mul (.cst (.int 2)) (.var 5))) .anil)))
def b_l_many_twos_6_a (il_draw il_pick : Nat) : S := .set 7 (.lst (.acons (.frz (.call il_draw (.acons (.var 0) (.acons (.frz (.var 5)) .anil)))) (.acons (.frz (.call il_draw (.acons (.var 0) (.acons (.frz (.var 5)) .anil)))) .anil)))
def b_l_many_twos_7_ab_a (il_draw il_pick : Nat) : S := .set 9 (.lst .anil)
def b_l_many_twos_7_ab_1_ab_a (il_draw il_pick : Nat) : S := .set 11 (.call il_pick (.acons (.var 0) (.acons (.frz (.var 1)) .anil)))
def b_l_many_twos_7_ab_1_ab_1_a (il_draw il_pick : Nat) : S := .set 12 (.call il_pick (.acons (.var 0) (.acons (.frz (.var 1)) .anil)))
def b_l_many_twos_7_ab_1_ab_2_a (il_draw il_pick : Nat) : S := .set 13 (.bin .sub (.sub (.var 2) (.var 11)) (.sub (.var 2) (.var 12)))
def b_l_many_twos_7_ab_1_ab_3_a (il_draw il_pick : Nat) : S := .set 14 (.an (.cmp .ne (.var 8) (.var 6)) (.orr (.cmp .eq (.var 10) (.cst (.int 0))) (.cmp .isin (.var 8) (.var 7))))
def b_l_many_twos_7_ab_1_ab_4 (il_draw il_pick : Nat) : S := .drop (.mt .append 9 (.acons (.frz (.tup (.acons (.frz (.var 11)) (.acons (.frz (.var 12)) (.acons (.frz (.bin .add (.var 13) (.sub (.lst (.acons (.frz (.bin .sub (.neg (.cst (.int 1))) (.call il_draw (.acons (.var 0) (.acons (.frz (.cst (.int 3))) .anil))))) (.acons (.frz (.call il_draw (.acons (.var 0) (.acons (.frz (.cst (.int 3))) .anil)))) .anil))) (.bi .int (.var 14))))) .anil))))) .anil))
def b_l_many_twos_7_ab_1_ab_3 (il_draw il_pick : Nat) : S := .seq (b_l_many_twos_7_ab_1_ab_3_a il_draw il_pick) (b_l_many_twos_7_ab_1_ab_4 il_draw il_pick)
def b_l_many_twos_7_ab_1_ab_2 (il_draw il_pick : Nat) : S := .seq (b_l_many_twos_7_ab_1_ab_2_a il_draw il_pick) (b_l_many_twos_7_ab_1_ab_3 il_draw il_pick)
def b_l_many_twos_7_ab_1_ab_1 (il_draw il_pick : Nat) : S := .seq (b_l_many_twos_7_ab_1_ab_1_a il_draw il_pick) (b_l_many_twos_7_ab_1_ab_2 il_draw il_pick)
def b_l_many_twos_7_ab_1_ab (il_draw il_pick : Nat) : S := .seq (b_l_many_twos_7_ab_1_ab_a il_draw il_pick) (b_l_many_twos_7_ab_1_ab_1 il_draw il_pick)
def b_l_many_twos_7_ab_1_a (il_draw il_pick : Nat) : S := .fors (.n 10) (.irng (.cst (.int 2))) (b_l_many_twos_7_ab_1_ab il_draw il_pick)
def b_l_many_twos_7_ab_2_a (il_draw il_pick : Nat) : S := .ifs (.tv (.cmp .eq (.call il_draw (.acons (.var 0) (.acons (.frz (.cst (.int 2))) .anil))) (.cst (.int 0)))) (.drop (.mt .reverse 9 .anil)) .nx
def b_l_many_twos_7_ab_3 (il_draw il_pick : Nat) : S := .drop (.mt .insert 3 (.acons (.frz (.call il_draw (.acons (.var 0) (.acons (.frz (.bin .add (.bi .len (.var 3)) (.cst (.int 1)))) .anil)))) (.acons (.frz (.bi .tuple (.var 9))) .anil)))
def b_l_many_twos_7_ab_2 (il_draw il_pick : Nat) : S := .seq (b_l_many_twos_7_ab_2_a il_draw il_pick) (b_l_many_twos_7_ab_3 il_draw il_pick)
def b_l_many_twos_7_ab_1 (il_draw il_pick : Nat) : S := .seq (b_l_many_twos_7_ab_1_a il_draw il_pick) (b_l_many_twos_7_ab_2 il_draw il_pick)
def b_l_many_twos_7_ab (il_draw il_pick : Nat) : S := .seq (b_l_many_twos_7_ab_a il_draw il_pick) (b_l_many_twos_7_ab_1 il_draw il_pick)
def b_l_many_twos_7_a (il_draw il_pick : Nat) : S := .fors (.n 8) (.irng (.var 5)) (b_l_many_twos_7_ab il_draw il_pick)
def b_l_many_twos_8 (il_draw il_pick : Nat) : S := .ret (.var 3)
def b_l_many_twos_7 (il_draw il_pick : Nat) : S := .seq (b_l_many_twos_7_a il_draw il_pick) (b_l_many_twos_8 il_draw il_pick)
def b_l_many_twos_6 (il_draw il_pick : Nat) : S := .seq (b_l_many_twos_6_a il_draw il_pick) (b_l_many_twos_7 il_draw il_pick)
def b_l_many_twos_5 (il_draw il_pick : Nat) : S := .seq (b_l_many_twos_5_a il_draw il_pick) (b_l_many_twos_6 il_draw il_pick)
def b_l_many_twos_4 (il_draw il_pick : Nat) : S := .seq (b_l_many_twos_4_a il_draw il_pick) (b_l_many_twos_5 il_draw il_pick)
def b_l_many_twos_3 (il_draw il_pick : Nat) : S := .seq (b_l_many_twos_3_a il_draw il_pick) (b_l_many_twos_4 il_draw il_pick)
def b_l_many_twos_2 (il_draw il_pick : Nat) : S := .seq (b_l_many_twos_2_a il_draw il_pick) (b_l_many_twos_3 il_draw il_pick)
def b_l_many_twos_1 (il_draw il_pick : Nat) : S := .seq (b_l_many_twos_1_a il_draw il_pick) (b_l_many_twos_2 il_draw il_pick)
def b_l_many_twos (il_draw il_pick : Nat) : S := .seq (b_l_many_twos_a il_draw il_pick) (b_l_many_twos_1 il_draw il_pick)
def b_l_right_a (il_meets il_terms il_closed icloses : Nat) : S := .ifs (.tor (.tnot (.tt (.isi .tuple (.var 1)))) (.tor (.tv (.cmp .ne (.bi .len (.var 1)) (.cst (.int 2)))) (.tv (.cmp .ne (.sub (.var 1) (.cst (.int 0))) (.sub (.lst (.acons (.frz (.cst (.str (PySem.Str.ofString "none")))) (.acons (.frz (.cst (.str (PySem.Str.ofString "met")))) .anil))) (.bi .int (.var 2))))))) (.ret (.cst (.bl false))) .nx
def b_l_right_1_a (il_meets il_terms il_closed icloses : Nat) : S := .ifs (.tt (.var 2)) (.ret (.an (.call il_meets (.acons (.frz (.var 0)) (.acons (.frz (.sub (.var 1) (.cst (.int 1)))) .anil))) (.cmp .eq (.bi .list (.sub (.var 1) (.cst (.int 1)))) (.call il_terms (.acons (.frz (.var 0)) .anil))))) .nx
def b_l_right_2 (il_meets il_terms il_closed icloses : Nat) : S := .ret (.an (.call il_closed (.acons (.frz (.var 0)) (.acons (.frz (.sub (.var 1) (.cst (.int 1)))) .anil))) (.cmp .is_ (.call icloses (.acons (.frz (.bi .list (.var 0))) (.acons (.frz (.sub (.var 1) (.cst (.int 1)))) .anil))) (.cst (.bl true))))
def b_l_right_1 (il_meets il_terms il_closed icloses : Nat) : S := .seq (b_l_right_1_a il_meets il_terms il_closed icloses) (b_l_right_2 il_meets il_terms il_closed icloses)
def b_l_right (il_meets il_terms il_closed icloses : Nat) : S := .seq (b_l_right_a il_meets il_terms il_closed icloses) (b_l_right_1 il_meets il_terms il_closed icloses)
def b_l_law_a (il_pool il_some_terms il_draw il_clauses il_round il_many_twos idecide il_integers il_right il_clause icloses : Nat) : S := .set 1 (.call il_pool (.acons (.frz (.var 0)) .anil))
def b_l_law_1_a (il_pool il_some_terms il_draw il_clauses il_round il_many_twos idecide il_integers il_right il_clause icloses : Nat) : S := .set 2 (.call il_some_terms (.acons (.var 1) (.acons (.frz (.bin .add (.cst (.int 1)) (.call il_draw (.acons (.var 1) (.acons (.frz (.cst (.int 6))) .anil))))) .anil)))
def b_l_law_2_a (il_pool il_some_terms il_draw il_clauses il_round il_many_twos idecide il_integers il_right il_clause icloses : Nat) : S := .set 3 (.call il_clauses (.acons (.var 1) (.acons (.frz (.var 2)) .anil)))
def b_l_law_3_a (il_pool il_some_terms il_draw il_clauses il_round il_many_twos idecide il_integers il_right il_clause icloses : Nat) : S := .ifs (.tv (.cmp .eq (.call il_draw (.acons (.var 1) (.acons (.frz (.cst (.int 2))) .anil))) (.cst (.int 0)))) (.set 3 (.slc (.bin .add (.var 3) (.call il_round (.acons (.var 1) (.acons (.frz (.var 2)) .anil)))) .nopart (.acons (.cst (.int 14)) .anil))) .nx
def b_l_law_4_a (il_pool il_some_terms il_draw il_clauses il_round il_many_twos idecide il_integers il_right il_clause icloses : Nat) : S := .ifs (.tv (.cmp .eq (.call il_draw (.acons (.var 1) (.acons (.frz (.cst (.int 4))) .anil))) (.cst (.int 0)))) (.set 3 (.call il_many_twos (.acons (.var 1) (.acons (.frz (.var 2)) .anil)))) .nx
def b_l_law_5_a (il_pool il_some_terms il_draw il_clauses il_round il_many_twos idecide il_integers il_right il_clause icloses : Nat) : S := .set 4 (.bi .list (.var 3))
def b_l_law_6_a (il_pool il_some_terms il_draw il_clauses il_round il_many_twos idecide il_integers il_right il_clause icloses : Nat) : S := .set 5 (.call idecide (.acons (.frz (.var 4)) .anil))
def b_l_law_7_a (il_pool il_some_terms il_draw il_clauses il_round il_many_twos idecide il_integers il_right il_clause icloses : Nat) : S := .set 6 (.cmp .isnot (.call il_integers (.acons (.frz (.var 3)) .anil)) (.cst .non))
def b_l_law_8_a (il_pool il_some_terms il_draw il_clauses il_round il_many_twos idecide il_integers il_right il_clause icloses : Nat) : S := .ifs (.tor (.tv (.cmp .ne (.var 4) (.var 3))) (.tnot (.tt (.call il_right (.acons (.frz (.var 3)) (.acons (.frz (.var 5)) (.acons (.frz (.var 6)) .anil))))))) (.ret (.cst (.bl false))) .nx
def b_l_law_9_a (il_pool il_some_terms il_draw il_clauses il_round il_many_twos idecide il_integers il_right il_clause icloses : Nat) : S := .set 7 (.bin .add (.var 3) (.lst (.acons (.frz (.call il_clause (.acons (.var 1) (.acons (.frz (.var 2)) (.acons (.frz (.cst (.int 0))) .anil))))) .anil)))
def b_l_law_10_a (il_pool il_some_terms il_draw il_clauses il_round il_many_twos idecide il_integers il_right il_clause icloses : Nat) : S := .set 8 (.call idecide (.acons (.frz (.var 7)) .anil))
def b_l_law_11_a (il_pool il_some_terms il_draw il_clauses il_round il_many_twos idecide il_integers il_right il_clause icloses : Nat) : S := .ifs (.tor (.tnot (.tt (.call il_right (.acons (.frz (.var 7)) (.acons (.frz (.var 8)) (.acons (.frz (.cmp .isnot (.call il_integers (.acons (.frz (.var 7)) .anil)) (.cst .non))) .anil)))))) (.tand (.tnot (.tt (.var 6))) (.tv (.cmp .eq (.sub (.var 8) (.cst (.int 0))) (.cst (.str (PySem.Str.ofString "met"))))))) (.ret (.cst (.bl false))) .nx
def b_l_law_12_a (il_pool il_some_terms il_draw il_clauses il_round il_many_twos idecide il_integers il_right il_clause icloses : Nat) : S := .ifs (.tnot (.tt (.var 6))) (.ret (.orr (.cmp .eq (.sub (.sub (.var 5) (.cst (.int 1))) (.cst (.int 0))) (.cst (.str (PySem.Str.ofString "case")))) (.cmp .is_ (.call icloses (.acons (.frz (.var 7)) (.acons (.frz (.sub (.var 5) (.cst (.int 1)))) .anil))) (.cst (.bl true))))) .nx
def b_l_law_13 (il_pool il_some_terms il_draw il_clauses il_round il_many_twos idecide il_integers il_right il_clause icloses : Nat) : S := .ret (.an (.cmp .is_ (.call icloses (.acons (.frz (.var 3)) (.acons (.frz (.tup (.acons (.frz (.cst (.str (PySem.Str.ofString "ring")))) (.acons (.frz (.tup .anil)) .anil)))) .anil))) (.cst (.bl false))) (.cmp .eq (.call idecide (.acons (.frz (.lst .anil)) .anil)) (.tup (.acons (.frz (.cst (.str (PySem.Str.ofString "met")))) (.acons (.frz .dnew) .anil)))))
def b_l_law_12 (il_pool il_some_terms il_draw il_clauses il_round il_many_twos idecide il_integers il_right il_clause icloses : Nat) : S := .seq (b_l_law_12_a il_pool il_some_terms il_draw il_clauses il_round il_many_twos idecide il_integers il_right il_clause icloses) (b_l_law_13 il_pool il_some_terms il_draw il_clauses il_round il_many_twos idecide il_integers il_right il_clause icloses)
def b_l_law_11 (il_pool il_some_terms il_draw il_clauses il_round il_many_twos idecide il_integers il_right il_clause icloses : Nat) : S := .seq (b_l_law_11_a il_pool il_some_terms il_draw il_clauses il_round il_many_twos idecide il_integers il_right il_clause icloses) (b_l_law_12 il_pool il_some_terms il_draw il_clauses il_round il_many_twos idecide il_integers il_right il_clause icloses)
def b_l_law_10 (il_pool il_some_terms il_draw il_clauses il_round il_many_twos idecide il_integers il_right il_clause icloses : Nat) : S := .seq (b_l_law_10_a il_pool il_some_terms il_draw il_clauses il_round il_many_twos idecide il_integers il_right il_clause icloses) (b_l_law_11 il_pool il_some_terms il_draw il_clauses il_round il_many_twos idecide il_integers il_right il_clause icloses)
def b_l_law_9 (il_pool il_some_terms il_draw il_clauses il_round il_many_twos idecide il_integers il_right il_clause icloses : Nat) : S := .seq (b_l_law_9_a il_pool il_some_terms il_draw il_clauses il_round il_many_twos idecide il_integers il_right il_clause icloses) (b_l_law_10 il_pool il_some_terms il_draw il_clauses il_round il_many_twos idecide il_integers il_right il_clause icloses)
def b_l_law_8 (il_pool il_some_terms il_draw il_clauses il_round il_many_twos idecide il_integers il_right il_clause icloses : Nat) : S := .seq (b_l_law_8_a il_pool il_some_terms il_draw il_clauses il_round il_many_twos idecide il_integers il_right il_clause icloses) (b_l_law_9 il_pool il_some_terms il_draw il_clauses il_round il_many_twos idecide il_integers il_right il_clause icloses)
def b_l_law_7 (il_pool il_some_terms il_draw il_clauses il_round il_many_twos idecide il_integers il_right il_clause icloses : Nat) : S := .seq (b_l_law_7_a il_pool il_some_terms il_draw il_clauses il_round il_many_twos idecide il_integers il_right il_clause icloses) (b_l_law_8 il_pool il_some_terms il_draw il_clauses il_round il_many_twos idecide il_integers il_right il_clause icloses)
def b_l_law_6 (il_pool il_some_terms il_draw il_clauses il_round il_many_twos idecide il_integers il_right il_clause icloses : Nat) : S := .seq (b_l_law_6_a il_pool il_some_terms il_draw il_clauses il_round il_many_twos idecide il_integers il_right il_clause icloses) (b_l_law_7 il_pool il_some_terms il_draw il_clauses il_round il_many_twos idecide il_integers il_right il_clause icloses)
def b_l_law_5 (il_pool il_some_terms il_draw il_clauses il_round il_many_twos idecide il_integers il_right il_clause icloses : Nat) : S := .seq (b_l_law_5_a il_pool il_some_terms il_draw il_clauses il_round il_many_twos idecide il_integers il_right il_clause icloses) (b_l_law_6 il_pool il_some_terms il_draw il_clauses il_round il_many_twos idecide il_integers il_right il_clause icloses)
def b_l_law_4 (il_pool il_some_terms il_draw il_clauses il_round il_many_twos idecide il_integers il_right il_clause icloses : Nat) : S := .seq (b_l_law_4_a il_pool il_some_terms il_draw il_clauses il_round il_many_twos idecide il_integers il_right il_clause icloses) (b_l_law_5 il_pool il_some_terms il_draw il_clauses il_round il_many_twos idecide il_integers il_right il_clause icloses)
def b_l_law_3 (il_pool il_some_terms il_draw il_clauses il_round il_many_twos idecide il_integers il_right il_clause icloses : Nat) : S := .seq (b_l_law_3_a il_pool il_some_terms il_draw il_clauses il_round il_many_twos idecide il_integers il_right il_clause icloses) (b_l_law_4 il_pool il_some_terms il_draw il_clauses il_round il_many_twos idecide il_integers il_right il_clause icloses)
def b_l_law_2 (il_pool il_some_terms il_draw il_clauses il_round il_many_twos idecide il_integers il_right il_clause icloses : Nat) : S := .seq (b_l_law_2_a il_pool il_some_terms il_draw il_clauses il_round il_many_twos idecide il_integers il_right il_clause icloses) (b_l_law_3 il_pool il_some_terms il_draw il_clauses il_round il_many_twos idecide il_integers il_right il_clause icloses)
def b_l_law_1 (il_pool il_some_terms il_draw il_clauses il_round il_many_twos idecide il_integers il_right il_clause icloses : Nat) : S := .seq (b_l_law_1_a il_pool il_some_terms il_draw il_clauses il_round il_many_twos idecide il_integers il_right il_clause icloses) (b_l_law_2 il_pool il_some_terms il_draw il_clauses il_round il_many_twos idecide il_integers il_right il_clause icloses)
def b_l_law (il_pool il_some_terms il_draw il_clauses il_round il_many_twos idecide il_integers il_right il_clause icloses : Nat) : S := .seq (b_l_law_a il_pool il_some_terms il_draw il_clauses il_round il_many_twos idecide il_integers il_right il_clause icloses) (b_l_law_1 il_pool il_some_terms il_draw il_clauses il_round il_many_twos idecide il_integers il_right il_clause icloses)
end PyI
set_option maxHeartbeats 1000000
/-! PyN1: relaxing. -/
namespace PyI
open PySem PySem.Spec PyProof.Rows L2
abbrev LkS := Rx.Lk Str
def linkD (l : LkS) : D := .tup [.int (l.1 : Int), litD l.2]
def backD : Option (Nat × Str × Int) → D
  | some (i, y, _) => .tup [.int (i : Int), .str y]
  | none => .non
def valsD (K : List Str) (v : Str → Int) : D := .dic (tabD K fun x => .int (v x))
def backsD (B : List Str) (b : Str → Option (Nat × Str × Int)) : D := .dic (tabD B fun x => backD (b x))
def lastD : Option Str → D
  | none => .non
  | some x => .str x
/-- B are the terms with a way back -/
structure BOk (K B : List Str) (b : Str → Option (Nat × Str × Int)) : Prop where
  iff : ∀ x, x ∈ B ↔ b x ≠ none
  nd : B.Nodup
  sub : ∀ x ∈ B, x ∈ K
def InK (K : List Str) (L : List LkS) : Prop := ∀ i x y w, (i, x, y, w) ∈ L → x ∈ K ∧ y ∈ K
theorem nodup_len {α : Type} [DecidableEq α] : ∀ {B K : List α}, B.Nodup → (∀ x ∈ B, x ∈ K) → B.length ≤ K.length
  | [], K, _, _ => by simp
  | x :: B, K, h, s => by
    have h' := List.nodup_cons.mp h
    have hx := s x (by simp)
    have := nodup_len (B := B) (K := K.erase x) h'.2 fun y hy => (List.mem_erase_of_ne (fun e => h'.1 (by rw [← e]; exact hy))).mpr (s y (by simp [hy]))
    rw [List.length_erase_of_mem hx] at this
    have : 0 < K.length := List.length_pos_of_mem hx
    simp only [List.length_cons]; omega
theorem BOk.len {K B : List Str} {b : Str → Option (Nat × Str × Int)} (h : BOk K B b) : B.length ≤ K.length := nodup_len h.nd h.sub
theorem put_back {K B : List Str} {b : Str → Option (Nat × Str × Int)} (h : BOk K B b) {x : Str} (hx : x ∈ K) (q : Nat × Str × Int) :
    ∃ B', put (tabD B fun x => backD (b x)) (.inr x) (backD (some q)) = tabD B' (fun y => backD (Rx.upf b x (some q) y)) ∧ BOk K B' (Rx.upf b x (some q)) := by
  have im : ∀ y, y ∈ B ∨ y = x ↔ Rx.upf b x (some q) y ≠ none := fun y => by
    by_cases e : y = x
    · subst e; simp [Rx.upf]
    · rw [Rx.upf_ne e, ← h.iff y]; simp [e]
  by_cases hb : x ∈ B
  · refine ⟨B, by rw [put_old hb, upf_map], fun y => ?_, h.nd, h.sub⟩
    rw [← im y]
    exact ⟨.inl, fun z => z.elim id fun e => by rw [e]; exact hb⟩
  · refine ⟨B ++ [x], by rw [put_new hb, upf_map], fun y => ?_, ?_, fun y hy => ?_⟩
    · rw [← im y]; simp
    · rw [List.nodup_append]
      refine ⟨h.nd, by simp, fun a ha c hc e => hb ?_⟩
      have hc' : c = x := by simpa using hc
      rw [← hc', ← e]; exact ha
    · rcases List.mem_append.mp hy with z | z
      · exact h.sub y z
      · have : y = x := by simpa using z
        rw [this]; exact hx
section
variable {cf : CF} {K : List Str} {L : List LkS} {k : Nat}
/-- one link -/
theorem relax_step {B : List Str} {p : Rx.RS Str × Option Str} {i : Nat} {x y : Str} {w : Int} {d0 : D} {j4 j5 j6 j7 : Slot} (hB : BOk K B p.1.b) (hx : x ∈ K) (hy : y ∈ K) (hK : K.length ≤ 1000) :
    ∃ B', evS cf b_relaxed_1_ab [.val d0, .own true (valsD K p.1.v), .own true (backsD B p.1.b), .val (lastD p.2), .val (.int i), .val (.str x), .val (.str y), .val (.int w)] =
      .nx [.val d0, .own true (valsD K (Rx.rstep k p (i, x, y, w)).1.v), .own true (backsD B' (Rx.rstep k p (i, x, y, w)).1.b), .val (lastD (Rx.rstep k p (i, x, y, w)).2), .val (.int i), .val (.str x), .val (.str y), .val (.int w)] ∧ BOk K B' (Rx.rstep k p (i, x, y, w)).1.b := by
  have hBl := hB.len
  have lx := look_tab (f := fun z => .int (p.1.v z)) hx
  have ly := look_tab (f := fun z => .int (p.1.v z)) hy
  by_cases hgt : p.1.v x > p.1.v y + w
  · have e : Rx.rstep k p (i, x, y, w) = (Rx.rset k p.1 i x y w, some x) := by unfold Rx.rstep; rw [if_pos hgt]
    rw [e]
    obtain ⟨B', e1, h1⟩ := put_back hB hx (i, y, w)
    refine ⟨B', ?_, h1⟩
    have e2 : put (tabD K fun z => .int (p.1.v z)) (.inr x) (.int (p.1.v y + w)) = tabD K (fun z => .int (Rx.upf p.1.v x (p.1.v y + w) z)) := by
      rw [put_old hx, upf_map]
    have e1' : put (tabD B fun x => backD (p.1.b x)) (.inr x) (.tup [.int (i : Int), .str y]) = tabD B' (fun y_1 => backD (Rx.upf p.1.b x (some (i, y, w)) y_1)) := e1
    have z1 : K.length ≤ 100000 := by omega
    have z2 : B.length ≤ 100000 := by omega
    have hgt' : p.1.v y + w < p.1.v x := hgt
    simp [b_relaxed_1_ab, b_relaxed_1_abt, b_relaxed_1_abt_a, b_relaxed_1_abt_1, b_relaxed_1_abt_1_a, b_relaxed_1_abt_2, valsD, backsD, lx, ly, hgt', z1, z2, e1', e2, Rx.rset, lastD]
  · have e : Rx.rstep k p (i, x, y, w) = p := by unfold Rx.rstep; rw [if_neg hgt]
    rw [e]
    refine ⟨B, ?_, hB⟩
    have hgt' : ¬ p.1.v y + w < p.1.v x := hgt
    simp [b_relaxed_1_ab, valsD, backsD, lx, ly, hgt', lastD]
/-- one round -/
theorem relax_loop (hL : InK K L) (hK : K.length ≤ 1000) {d0 : D} : ∀ (todo : List LkS) (p : Rx.RS Str × Option Str) (B : List Str) (j4 j5 j6 j7 : J), (∀ l ∈ todo, l ∈ L) → BOk K B p.1.b →
    ∃ (B' : List Str) (j4' j5' j6' j7' : J), forL (.tup [.n 4, .tup [.n 5, .n 6, .n 7]]) (evS cf b_relaxed_1_ab) (todo.map linkD) [.val d0, .own true (valsD K p.1.v), .own true (backsD B p.1.b), .val (lastD p.2), j4.s, j5.s, j6.s, j7.s] =
      .nx [.val d0, .own true (valsD K (todo.foldl (Rx.rstep k) p).1.v), .own true (backsD B' (todo.foldl (Rx.rstep k) p).1.b), .val (lastD (todo.foldl (Rx.rstep k) p).2), j4'.s, j5'.s, j6'.s, j7'.s] ∧ BOk K B' (todo.foldl (Rx.rstep k) p).1.b
  | [], p, B, j4, j5, j6, j7, _, hB => ⟨B, j4, j5, j6, j7, rfl, hB⟩
  | (i, x, y, w) :: todo, p, B, j4, j5, j6, j7, hs, hB => by
    obtain ⟨hx, hy⟩ := hL i x y w (hs _ (by simp))
    obtain ⟨B1, e1, h1⟩ := relax_step (cf := cf) (k := k) (i := i) (w := w) (d0 := d0) (j4 := j4.s) (j5 := j5.s) (j6 := j6.s) (j7 := j7.s) hB hx hy hK
    obtain ⟨B', k4, k5, k6, k7, e2, h2⟩ := relax_loop hL hK (d0 := d0) todo (Rx.rstep k p (i, x, y, w)) B1 (.v (.int i)) (.v (.str x)) (.v (.str y)) (.v (.int w)) (fun l hl => hs l (by simp [hl])) h1
    refine ⟨B', k4, k5, k6, k7, ?_, h2⟩
    rw [List.map_cons, forL]
    have ha : asgT (.tup [.n 4, .tup [.n 5, .n 6, .n 7]]) (linkD (i, x, y, w)) [.val d0, .own true (valsD K p.1.v), .own true (backsD B p.1.b), .val (lastD p.2), j4.s, j5.s, j6.s, j7.s] =
        some [.val d0, .own true (valsD K p.1.v), .own true (backsD B p.1.b), .val (lastD p.2), .val (.int i), .val (.str x), .val (.str y), .val (.int w)] := by
      simp [linkD, litD]
    rw [ha]
    simp only [e1]
    exact e2
theorem relaxed_ok {B : List Str} {s : Rx.RS Str} (hL : InK K L) (hK : K.length ≤ 1000) (hB : BOk K B s.b) :
    ∃ B', callBody cf ⟨8, 3, b_relaxed⟩ [.v (.lst (L.map linkD)), .r (valsD K s.v), .r (backsD B s.b)] = .ok (.v (lastD (Rx.rround k L s).2)) [.non, valsD K (Rx.rround k L s).1.v, backsD B' (Rx.rround k L s).1.b] ∧ BOk K B' (Rx.rround k L s).1.b := by
  obtain ⟨B', j4, j5, j6, j7, e, h⟩ := relax_loop (cf := cf) (k := k) hL hK (d0 := .lst (L.map linkD)) L (s, none) B .no .no .no .no (fun _ q => q) hB
  refine ⟨B', ?_, h⟩
  have e' : forL (.tup [.n 4, .tup [.n 5, .n 6, .n 7]]) (evS cf b_relaxed_1_ab) (L.map linkD) [.val (.lst (L.map linkD)), .own true (valsD K s.v), .own true (backsD B s.b), .val .non, .no, .no, .no, .no] = _ := e
  simp [b_relaxed, b_relaxed_a, b_relaxed_1, b_relaxed_1_a, b_relaxed_2, e', Rx.rround]
end
/-! ### the ring -/
def RelaxC (c : List Arg → CRes) : Prop := ∀ (K : List Str) (L : List LkS) (k : Nat) (B : List Str) (s : Rx.RS Str), InK K L → K.length ≤ 1000 → BOk K B s.b →
  ∃ B', c [.v (.lst (L.map linkD)), .r (valsD K s.v), .r (backsD B s.b)] = .ok (.v (lastD (Rx.rround k L s).2)) [.non, valsD K (Rx.rround k L s).1.v, backsD B' (Rx.rround k L s).1.b] ∧ BOk K B' (Rx.rround k L s).1.b
theorem relax_c (cf : CF) : RelaxC (callBody cf ⟨8, 3, b_relaxed⟩) := fun K L k B s h1 h2 h3 => relaxed_ok h1 h2 h3
def ringD (s : Rx.RS Str) (x : Str) (m n : Nat) : List D := (List.range n).map fun j => .int ((Rx.bi s (Rx.walk s x (m + j)) : Nat) : Int)
theorem ringD_ne {s : Rx.RS Str} {x : Str} {m c : Nat} (h : 0 < c) : ringD s x m c ≠ [] := by
  cases c with
  | zero => omega
  | succ c => unfold ringD; rw [List.range_succ_eq_map]; exact fun z => nomatch z
section
variable {cf : CF} {K B : List Str} {L : List LkS} {s : Rx.RS Str} {x : Str} {n : Nat}
theorem back_look (hB : BOk K B s.b) {z : Str} (hz : s.b z ≠ none) : look (tabD B fun x => backD (s.b x)) (.inr z) = some (.tup [.int ((Rx.bi s z : Nat) : Int), .str (Rx.nxt s z)]) := by
  rw [look_tab ((hB.iff z).mpr hz), Rx.nxt_b hz]; rfl
theorem walk_loop (hB : BOk K B s.b) (hd : ∀ i, s.b (Rx.walk s x i) ≠ none) : ∀ (l : List D) (a : Nat) (j2 j3 j4 : J), ∃ (j2' : J), forL (.n 2) (evS cf b_ring_from_ab) l [.val (backsD B s.b), .val (.str (Rx.walk s x a)), j2.s, j3.s, j4.s] = .nx [.val (backsD B s.b), .val (.str (Rx.walk s x (a + l.length))), j2'.s, j3.s, j4.s]
  | [], a, j2, j3, j4 => ⟨j2, rfl⟩
  | d :: l, a, j2, j3, j4 => by
    obtain ⟨j, e⟩ := walk_loop hB hd l (a + 1) (.v d) j3 j4
    refine ⟨j, ?_⟩
    have lk := back_look hB (hd a)
    have e1 : evS cf b_ring_from_ab [.val (backsD B s.b), .val (.str (Rx.walk s x a)), .val d, j3.s, j4.s] = .nx [.val (backsD B s.b), .val (.str (Rx.walk s x (a + 1))), .val d, j3.s, j4.s] := by
      simp [b_ring_from_ab, backsD, lk, Rx.walk]
    have e' : forL (.n 2) (evS cf b_ring_from_ab) l [.val (backsD B s.b), .val (.str (Rx.walk s x (a + 1))), .val d, j3.s, j4.s] = _ := e
    simp only [forL, asgT, setVal, List.getElem?_cons_succ, List.getElem?_cons_zero, J.kp, List.set_cons_succ, List.set_cons_zero]
    simp only [Bool.false_eq_true, if_false, e1, e']
    rw [List.length_cons, show a + 1 + l.length = a + (l.length + 1) by omega]
theorem ring_loop (hB : BOk K B s.b) {m : Nat} (hr : Rx.RingAt L s x m n) {j2 : J} (hn : n ≤ 1000) : ∀ (r c f : Nat), r + c = n → r < f →
    whileL (evT cf (.tor (.tnot (.tt (.var 3))) (.tv (.cmp .ne (.var 4) (.var 1))))) (evS cf b_ring_from_3_ab) f [.val (backsD B s.b), .val (.str (Rx.walk s x m)), j2.s, .own false (.lst (ringD s x m c)), .val (.str (Rx.walk s x (m + c)))] =
      .nx [.val (backsD B s.b), .val (.str (Rx.walk s x m)), j2.s, .own false (.lst (ringD s x m n)), .val (.str (Rx.walk s x m))]
  | 0, c, f + 1, hc, _ => by
    have hc' : c = n := by omega
    subst hc'
    have hp := hr.pos
    rw [hr.back]
    have hemp : ¬ (ringD s x m c) = [] := ringD_ne hp
    simp [whileL, hemp]
  | r + 1, c, f + 1, hc, hf => by
    have lk := back_look hB (hr.df (m + c))
    have hl : (ringD s x m c).length ≤ 100000 := by unfold ringD; rw [List.length_map, List.length_range]; omega
    have hs : ringD s x m (c + 1) = ringD s x m c ++ [.int ((Rx.bi s (Rx.walk s x (m + c)) : Nat) : Int)] := by
      unfold ringD; rw [List.range_succ, List.map_append]; rfl
    have e1 : evS cf b_ring_from_3_ab [.val (backsD B s.b), .val (.str (Rx.walk s x m)), j2.s, .own false (.lst (ringD s x m c)), .val (.str (Rx.walk s x (m + c)))] =
        .nx [.val (backsD B s.b), .val (.str (Rx.walk s x m)), j2.s, .own false (.lst (ringD s x m (c + 1))), .val (.str (Rx.walk s x (m + (c + 1))))] := by
      rw [hs]
      simp [b_ring_from_3_ab, b_ring_from_3_ab_a, b_ring_from_3_ab_1, backsD, lk, hl, Rx.walk, ← Nat.add_assoc]
    have ih := ring_loop hB hr (j2 := j2) hn r (c + 1) f (by omega) (by omega)
    have ht : evT cf (.tor (.tnot (.tt (.var 3))) (.tv (.cmp .ne (.var 4) (.var 1)))) [.val (backsD B s.b), .val (.str (Rx.walk s x m)), j2.s, .own false (.lst (ringD s x m c)), .val (.str (Rx.walk s x (m + c)))] = .ok true [.val (backsD B s.b), .val (.str (Rx.walk s x m)), j2.s, .own false (.lst (ringD s x m c)), .val (.str (Rx.walk s x (m + c)))] := by
      cases c with
      | zero => simp [ringD]
      | succ c =>
        have hemp : ¬ (ringD s x m (c + 1)) = [] := ringD_ne (by omega)
        have hne : ¬ Rx.walk s x (m + (c + 1)) = Rx.walk s x m := hr.first (c + 1) (by omega) (by omega)
        simp [hemp, hne]
    simp only [whileL, ht, e1, Res.bindS, if_true]
    exact ih
theorem ring_from_ok (hB : BOk K B s.b) (hr : Rx.RingAt L s x B.length n) (hn : n ≤ 1000) : ∃ o, callBody cf ⟨5, 2, b_ring_from⟩ [.v (backsD B s.b), .v (.str x)] = .ok (.v (.tup (ringD s x B.length n))) o := by
  have hk : evI cf (.iseq (.var 0)) [.val (backsD B s.b), .val (.str x), .no, .no, .no] = .ok (B.map D.str) [.val (backsD B s.b), .val (.str x), .no, .no, .no] := by
    have := tab_keys (K := B) (f := fun x => backD (s.b x))
    simp [backsD, this]
  obtain ⟨j2, e⟩ := walk_loop (cf := cf) hB hr.df (B.map D.str) 0 .no .no .no
  rw [Nat.zero_add, List.length_map] at e
  have e' : forL (.n 2) (evS cf b_ring_from_ab) (B.map D.str) [.val (backsD B s.b), .val (.str x), .no, .no, .no] = _ := e
  have w := ring_loop (cf := cf) hB hr (j2 := j2) hn n 0 100000 (by omega) (by omega)
  have w' : whileL (evT cf (.tor (.tnot (.tt (.var 3))) (.tv (.cmp .ne (.var 4) (.var 1))))) (evS cf b_ring_from_3_ab) 100000 [.val (backsD B s.b), .val (.str (Rx.walk s x B.length)), j2.s, .own false (.lst []), .val (.str (Rx.walk s x B.length))] = _ := w
  have a1 : evS cf b_ring_from_a [.val (backsD B s.b), .val (.str x), .no, .no, .no] = _ := (s_for hk).trans e'
  have a4 : evS cf b_ring_from_3_a [.val (backsD B s.b), .val (.str (Rx.walk s x B.length)), j2.s, .own false (.lst []), .val (.str (Rx.walk s x B.length))] = _ := w'
  have a2 : evS cf b_ring_from_1_a [.val (backsD B s.b), .val (.str (Rx.walk s x B.length)), j2.s, J.no.s, J.no.s] = .nx [.val (backsD B s.b), .val (.str (Rx.walk s x B.length)), j2.s, .own false (.lst []), J.no.s] := by simp [b_ring_from_1_a]
  have a3 : evS cf b_ring_from_2_a [.val (backsD B s.b), .val (.str (Rx.walk s x B.length)), j2.s, .own false (.lst []), J.no.s] = .nx [.val (backsD B s.b), .val (.str (Rx.walk s x B.length)), j2.s, .own false (.lst []), .val (.str (Rx.walk s x B.length))] := by simp [b_ring_from_2_a]
  exact ⟨_, c_ret ((s_seq a1).trans ((s_seq a2).trans ((s_seq a3).trans ((s_seq a4).trans (by simp [b_ring_from_4]; rfl)))))⟩
end
end PyI
set_option maxHeartbeats 1000000
/-! PyN2: settling. -/
namespace PyI
open PySem PySem.Spec PyProof.Rows L2
def singF : Nat → List (List L3) → List LkS
  | _, [] => []
  | i, c :: r => match c with
    | [l] => (i, l) :: singF (i + 1) r
    | _ => singF (i + 1) r
def is1 : D → Bool
  | .tup [.int _, .tup [_]] => true
  | _ => false
def mk1 : D → D
  | .tup [.int i, .tup (l :: _)] => .tup [.int i, l]
  | d => d
theorem sing_eq : ∀ (cs : List (List L3)) (i : Nat), ((pairs i (cs.map clD)).filter is1).map mk1 = (singF i cs).map linkD
  | [], _ => rfl
  | [] :: r, i => by simp [pairs, singF, clD, is1, sing_eq r (i + 1)]
  | [l] :: r, i => by simp [pairs, singF, clD, is1, List.filter_cons, mk1, linkD, sing_eq r (i + 1)]
  | (l :: m :: q) :: r, i => by simp [pairs, singF, clD, is1, sing_eq r (i + 1)]
theorem pairs_mem {ds : List D} : ∀ {l : List D} {i : Nat}, (∀ d ∈ l, d ∈ ds) → ∀ p ∈ pairs i l, ∃ (j : Nat) (d : D), p = .tup [.int (j : Int), d] ∧ d ∈ ds
  | [], _, _, p, hp => by cases hp
  | d :: l, i, h, p, hp => by
    rcases List.mem_cons.mp hp with e | e
    · exact ⟨i, d, e, h d (by simp)⟩
    · exact pairs_mem (fun x hx => h x (by simp [hx])) p e
section
variable {cf : CF} {ir ig : Nat}
/-- the links -/
theorem links_ok (cs : List (List L3)) (hcs : cs.length ≤ 1000) {d1 : D} : evS cf (b_settled_a ir ig) [.val (csD cs), .val d1, .no, .no, .no, .no, .no, .no, .no, .no, .no] = .nx [.val (csD cs), .val d1, .own false (.lst ((singF 0 cs).map linkD)), .no, .no, .no, .no, .no, .no, .no, .no] := by
  have hp := lcL_pure (vs := [7, 8, 9]) (t := .tup [.n 8, .n 9]) (c := evT cf (.tv (.cmp .eq (.bi .len (.var 9)) (.cst (.int 1))))) (e := frzE (evE cf (.tup (.acons (.frz (.var 8)) (.acons (.frz (.sub (.var 9) (.cst (.int 0)))) .anil)))))
    (ρ0 := [.val (csD cs), .val d1, .no, .no, .no, .no, .no, .no, .no, .no, .no]) is1 mk1 (pairs 0 (cs.map clD)) [] fun p hp => by
    obtain ⟨j, d, rfl, hd⟩ := pairs_mem (ds := cs.map clD) (fun _ q => q) p hp
    obtain ⟨c, hc, rfl⟩ := List.mem_map.mp hd
    refine ⟨[.val (csD cs), .val d1, .no, .no, .no, .no, .no, .no, .val (.int j), .val (clD c), .no], [.val (csD cs), .val d1, .no, .no, .no, .no, .no, .no, .val (.int j), .val (clD c), .no], by simp, ?_, fun h => ⟨[.val (csD cs), .val d1, .no, .no, .no, .no, .no, .no, .val (.int j), .val (clD c), .no], ?_, rfl, rfl⟩, fun _ => ⟨rfl, rfl⟩⟩
    · match c with
      | [] => simp [clD, is1]
      | [l] => simp [clD, is1]
      | l :: m :: q => simp [clD, is1]; omega
    · match c, h with
      | [l], _ => simp [clD, mk1]
  have e := e_lc (cf := cf) (vs := [7, 8, 9]) (t := .tup [.n 8, .n 9]) (it := .ien (.var 0)) (c := .tv (.cmp .eq (.bi .len (.var 9)) (.cst (.int 1)))) (e := .tup (.acons (.frz (.var 8)) (.acons (.frz (.sub (.var 9) (.cst (.int 0)))) .anil)))
    (ρ := [.val (csD cs), .val d1, .no, .no, .no, .no, .no, .no, .no, .no, .no]) (ρ1 := [.val (csD cs), .val d1, .no, .no, .no, .no, .no, .no, .no, .no, .no]) (by simp [csD]) rfl (by rw [pairs_len, List.length_map]; omega) hp
  rw [List.nil_append, sing_eq] at e
  exact s_set e (by simp [rst])
theorem zeros_ok {T : List Str} {d0 d2 : D} (hT : T.Nodup) (hl : T.length ≤ 1000) : evS cf (b_settled_1_a ir ig) [.val d0, .val (.lst (T.map .str)), .own false d2, .no, .no, .no, .no, .no, .no, .no, .no] =
    .nx [.val d0, .val (.lst (T.map .str)), .own false d2, .own false (.dic (tabD T fun _ => .int 0)), .no, .no, .no, .no, .no, .no, .no] := by
  have hp := dcL_tab (vs := [7, 10]) (t := .n 10) (ek := frzE (evE cf (.var 10))) (e := frzE (evE cf (.cst (.int 0)))) (ρ0 := [.val d0, .val (.lst (T.map .str)), .own false d2, .no, .no, .no, .no, .no, .no, .no, .no]) (f := fun _ => .int 0) hT fun x hx =>
    ⟨[.val d0, .val (.lst (T.map .str)), .own false d2, .no, .no, .no, .no, .no, .no, .no, .val (.str x)], [.val d0, .val (.lst (T.map .str)), .own false d2, .no, .no, .no, .no, .no, .no, .no, .val (.str x)], [.val d0, .val (.lst (T.map .str)), .own false d2, .no, .no, .no, .no, .no, .no, .no, .val (.str x)], by simp, by simp, by simp, rfl, rfl⟩
  have e := ev_dc (cf := cf) (vs := [7, 10]) (t := .n 10) (it := .iseq (.var 1)) (c := .tyes) (k := .var 10) (e := .cst (.int 0)) (ρ := [.val d0, .val (.lst (T.map .str)), .own false d2, .no, .no, .no, .no, .no, .no, .no, .no]) (ρ1 := [.val d0, .val (.lst (T.map .str)), .own false d2, .no, .no, .no, .no, .no, .no, .no, .no]) (by simp) rfl (by rw [List.length_map]; omega) hp
  exact s_set e (by simp [rst])
theorem shift_ok {K : List Str} {v : Str → Int} {d0 d1 d2 d4 : D} {j5 j6 : J} (hK : K.Nodup) (hl : K.length ≤ 1000) (he : eS ∈ K) :
    evS cf (b_settled_4_ab_1 ir ig) [.val d0, .val d1, .val d2, .own false (valsD K v), .own false d4, j5.s, .val .non, .no, .no, .no, .no] =
    .ret (.v (.tup [.non, valsD K fun x => v x - v eS])) [.val d0, .val d1, .val d2, .val (valsD K v), .own false d4, j5.s, .val .non, .no, .no, .no, .no] := by
  have le := look_tab (f := fun z => .int (v z)) he
  have hp := dcL_tab (vs := [7, 10]) (t := .n 10) (ek := frzE (evE cf (.var 10))) (e := frzE (evE cf (.bin .sub (.sub (.var 3) (.var 10)) (.sub (.var 3) (.cst (.str (PySem.Str.ofString "")))))))
    (ρ0 := [.val d0, .val d1, .val d2, .val (valsD K v), .own false d4, j5.s, .val .non, .no, .no, .no, .no]) (f := fun x => .int (v x - v eS)) hK fun x hx =>
    ⟨[.val d0, .val d1, .val d2, .val (valsD K v), .own false d4, j5.s, .val .non, .no, .no, .no, .val (.str x)], [.val d0, .val d1, .val d2, .val (valsD K v), .own false d4, j5.s, .val .non, .no, .no, .no, .val (.str x)], [.val d0, .val d1, .val d2, .val (valsD K v), .own false d4, j5.s, .val .non, .no, .no, .no, .val (.str x)], by simp, by simp, by
      have lx := look_tab (f := fun z => .int (v z)) hx
      have le' : look (tabD K fun z => .int (v z)) (.inr (PySem.Str.ofString "")) = some (.int (v eS)) := le
      simp [valsD, lx, le'], rfl, rfl⟩
  have e := ev_dc (cf := cf) (vs := [7, 10]) (t := .n 10) (it := .iseq (.var 3)) (c := .tyes) (k := .var 10) (e := .bin .sub (.sub (.var 3) (.var 10)) (.sub (.var 3) (.cst (.str (PySem.Str.ofString "")))))
    (ρ := [.val d0, .val d1, .val d2, .own false (valsD K v), .own false d4, j5.s, .val .non, .no, .no, .no, .no]) (ρ1 := [.val d0, .val d1, .val d2, .val (valsD K v), .own false d4, j5.s, .val .non, .no, .no, .no, .no]) (items := K.map D.str) (by
      have hk := tab_keys (K := K) (f := fun z => .int (v z))
      simp [valsD, hk]) rfl (by rw [List.length_map]; omega) hp
  have e' := e.trans (show _ = Res.ok (.f (.dic (tabD K fun x => .int (v x - v eS)))) [.val d0, .val d1, .val d2, .val (valsD K v), .own false d4, j5.s, .val .non, .no, .no, .no, .no] by simp [rst])
  unfold b_settled_4_ab_1
  generalize (E.dc [7, 10] (.n 10) (.iseq (.var 3)) .tyes (.var 10) (.bin .sub (.sub (.var 3) (.var 10)) (.sub (.var 3) (.cst (.str (PySem.Str.ofString "")))))) = X at e' ⊢
  simp [e']
  rfl
variable {K : List Str} {L : List LkS}
def SetLinks (s2 : Slot) (L : List LkS) : Prop := s2 = .own false (.lst (L.map linkD)) ∨ s2 = .val (.lst (L.map linkD))
theorem settle_loop (hr : RelaxC (cf ir)) (hL : InK K L) (hnd : K.Nodup) (hK : K.length ≤ 1000) (he : eS ∈ K) {d0 d1 : D} : ∀ (l : List D) (k : Nat) (s : Rx.RS Str) (B : List Str) (s2 : Slot) (j5 j6 : J), 1 ≤ k → Rx.RI L k [] L s → BOk K B s.b → SetLinks s2 L →
    (∃ v ρ', forL (.n 5) (evS cf (b_settled_4_ab ir ig)) l [.val d0, .val d1, s2, .own false (valsD K s.v), .own false (backsD B s.b), j5.s, j6.s, .no, .no, .no, .no] = .ret (.v (.tup [.non, valsD K v])) ρ' ∧ v eS = 0 ∧ ∀ i x y w, (i, x, y, w) ∈ L → v x ≤ v y + w) ∨
    (∃ (s' : Rx.RS Str) (B' : List Str) (s2' : Slot) (j5' : J) (s6 : Slot), forL (.n 5) (evS cf (b_settled_4_ab ir ig)) l [.val d0, .val d1, s2, .own false (valsD K s.v), .own false (backsD B s.b), j5.s, j6.s, .no, .no, .no, .no] =
      .nx [.val d0, .val d1, s2', .own false (valsD K s'.v), .own false (backsD B' s'.b), j5'.s, s6, .no, .no, .no, .no] ∧ BOk K B' s'.b ∧ SetLinks s2' L ∧ (l ≠ [] → ∃ x, s6 = .val (.str x) ∧ Rx.RI L (k + l.length - 1) L [] s' ∧ s'.t x = k + l.length - 1))
  | [], k, s, B, s2, j5, j6, _, _, hB, h2 => .inr ⟨s, B, s2, j5, j6.s, rfl, hB, h2, fun z => absurd rfl z⟩
  | d :: l, k, s, B, s2, j5, j6, hk, hI, hB, h2 => by
    obtain ⟨B1, e1, h1⟩ := hr K L k B s hL hK hB
    have a1 : evS cf (b_settled_4_ab_a ir ig) [.val d0, .val d1, s2, .own false (valsD K s.v), .own false (backsD B s.b), .val d, j6.s, .no, .no, .no, .no] =
        .nx [.val d0, .val d1, .val (.lst (L.map linkD)), .own false (valsD K (Rx.rround k L s).1.v), .own false (backsD B1 (Rx.rround k L s).1.b), .val d, .val (lastD (Rx.rround k L s).2), .no, .no, .no, .no] := by
      rcases h2 with rfl | rfl <;> simp [b_settled_4_ab_a, e1]
    have ha : asgT (.n 5) d [.val d0, .val d1, s2, .own false (valsD K s.v), .own false (backsD B s.b), j5.s, j6.s, .no, .no, .no, .no] = some [.val d0, .val d1, s2, .own false (valsD K s.v), .own false (backsD B s.b), .val d, j6.s, .no, .no, .no, .no] := by simp
    cases ho : (Rx.rround k L s).2 with
    | none =>
      left
      rw [ho] at a1
      obtain ⟨q1, q2⟩ := Rx.round_none ho
      have a2 := shift_ok (cf := cf) (ir := ir) (ig := ig) (d0 := d0) (d1 := d1) (d2 := .lst (L.map linkD)) (d4 := backsD B1 (Rx.rround k L s).1.b) (j5 := .v d) (j6 := .no) (v := (Rx.rround k L s).1.v) hnd hK he
      have a3 : evS cf (b_settled_4_ab ir ig) [.val d0, .val d1, s2, .own false (valsD K s.v), .own false (backsD B s.b), .val d, j6.s, .no, .no, .no, .no] = _ := (s_seq a1).trans a2
      refine ⟨fun x => (Rx.rround k L s).1.v x - (Rx.rround k L s).1.v eS, [.val d0, .val d1, .val (.lst (L.map linkD)), .val (valsD K (Rx.rround k L s).1.v), .own false (backsD B1 (Rx.rround k L s).1.b), .val d, .val .non, .no, .no, .no, .no], by rw [forL, ha]; simp only [a3]; rfl, by simp, fun i x y w hm => ?_⟩
      rw [q1]
      have := q2 i x y w hm
      show s.v x - s.v eS ≤ s.v y - s.v eS + w
      omega
    | some x =>
      rw [ho] at a1
      have hI' := Rx.RI.round hk hI
      have hx := Rx.round_some ho
      have a2 : evS cf (b_settled_4_ab_1 ir ig) [.val d0, .val d1, .val (.lst (L.map linkD)), .own false (valsD K (Rx.rround k L s).1.v), .own false (backsD B1 (Rx.rround k L s).1.b), .val d, .val (.str x), .no, .no, .no, .no] =
          .nx [.val d0, .val d1, .val (.lst (L.map linkD)), .own false (valsD K (Rx.rround k L s).1.v), .own false (backsD B1 (Rx.rround k L s).1.b), .val d, .val (.str x), .no, .no, .no, .no] := by simp [b_settled_4_ab_1]
      have a3 : evS cf (b_settled_4_ab ir ig) [.val d0, .val d1, s2, .own false (valsD K s.v), .own false (backsD B s.b), .val d, j6.s, .no, .no, .no, .no] = _ := (s_seq a1).trans a2
      rw [forL, ha]
      simp only [a3]
      cases l with
      | nil => exact .inr ⟨(Rx.rround k L s).1, B1, _, .v d, _, rfl, h1, .inr rfl, fun _ => ⟨x, rfl, by simpa using hI', by simpa using hx⟩⟩
      | cons d2 l2 =>
      rcases settle_loop hr hL hnd hK he (d0 := d0) (d1 := d1) (d2 :: l2) (k + 1) (Rx.rround k L s).1 B1 (.val (.lst (L.map linkD))) (.v d) (.v (.str x)) (by omega) hI'.next h1 (.inr rfl) with ⟨v, ρ', q1, q2, q3⟩ | ⟨s', B', s2', j5', s6, q1, q2, q3, q4⟩
      · exact .inl ⟨v, ρ', q1, q2, q3⟩
      · refine .inr ⟨s', B', s2', j5', s6, q1, q2, q3, fun _ => ?_⟩
        obtain ⟨x2, r1, r2, r3⟩ := q4 (by simp)
        refine ⟨x2, r1, ?_, ?_⟩
        · rw [show k + (d :: d2 :: l2).length - 1 = k + 1 + (d2 :: l2).length - 1 by simp; omega]; exact r2
        · rw [show k + (d :: d2 :: l2).length - 1 = k + 1 + (d2 :: l2).length - 1 by simp; omega]; exact r3
def RingFromC (c : List Arg → CRes) : Prop := ∀ (K B : List Str) (L : List LkS) (s : Rx.RS Str) (x : Str) (n : Nat), BOk K B s.b → Rx.RingAt L s x B.length n → n ≤ 1000 → ∃ o, c [.v (backsD B s.b), .v (.str x)] = .ok (.v (.tup (ringD s x B.length n))) o
theorem ringFrom_c (cf : CF) : RingFromC (callBody cf ⟨5, 2, b_ring_from⟩) := fun K B L s x n h1 h2 h3 => ring_from_ok h1 h2 h3
def SettledC (c : List Arg → CRes) : Prop := ∀ (cs : List (List L3)) (T : List Str), T.Nodup → eS ∉ T → T.length ≤ 900 → cs.length ≤ 1000 → InK (T ++ [eS]) (singF 0 cs) →
  (∃ v o, c [.v (csD cs), .v (.lst (T.map .str))] = .ok (.v (.tup [.non, valsD (T ++ [eS]) v])) o ∧ v eS = 0 ∧ ∀ i x y w, (i, x, y, w) ∈ singF 0 cs → v x ≤ v y + w) ∨
  (∃ (s : Rx.RS Str) (x : Str) (m n : Nat) (o : List D), c [.v (csD cs), .v (.lst (T.map .str))] = .ok (.v (.tup [.tup (ringD s x m n), .non])) o ∧ Rx.RingAt (singF 0 cs) s x m n ∧ n ≤ 1000)
theorem settled_ok (hr : RelaxC (cf ir)) (hg : RingFromC (cf ig)) : SettledC (callBody cf ⟨11, 2, b_settled ir ig⟩) := by
  intro cs T hT heT hTl hcs hL
  have hKn : (T ++ [eS]).Nodup := by
    rw [List.nodup_append]
    refine ⟨hT, by simp, fun a ha b hb e => heT ?_⟩
    have hb' : b = eS := by simpa using hb
    rw [← hb', ← e]; exact ha
  have hKl : (T ++ [eS]).length ≤ 1000 := by simp; omega
  have heK : eS ∈ T ++ [eS] := by simp
  have a1 := links_ok (cf := cf) (ir := ir) (ig := ig) cs hcs (d1 := .lst (T.map .str))
  have a2 := zeros_ok (cf := cf) (ir := ir) (ig := ig) (T := T) (d0 := csD cs) (d2 := .lst ((singF 0 cs).map linkD)) hT (by omega)
  have a3 : evS cf (b_settled_2_a ir ig) [.val (csD cs), .val (.lst (T.map .str)), .own false (.lst ((singF 0 cs).map linkD)), .own false (.dic (tabD T fun _ => .int 0)), .no, .no, .no, .no, .no, .no, .no] =
      .nx [.val (csD cs), .val (.lst (T.map .str)), .own false (.lst ((singF 0 cs).map linkD)), .own false (valsD (T ++ [eS]) fun _ => 0), .no, .no, .no, .no, .no, .no, .no] := by
    have e : put (tabD T fun _ => .int 0) (.inr (PySem.Str.ofString "")) (.int 0) = tabD (T ++ [eS]) fun _ => .int 0 := by
      have := put_new (f := fun _ => .int 0) (d := .int 0) heT
      rw [show Rx.upf (fun _ => D.int 0) eS (D.int 0) = fun _ => D.int 0 from upf_self] at this
      exact this
    have hz : T.length ≤ 100000 := by omega
    simp [b_settled_2_a, e, hz, valsD]
  have a4 : evS cf (b_settled_3_a ir ig) [.val (csD cs), .val (.lst (T.map .str)), .own false (.lst ((singF 0 cs).map linkD)), .own false (valsD (T ++ [eS]) fun _ => 0), .no, .no, .no, .no, .no, .no, .no] =
      .nx [.val (csD cs), .val (.lst (T.map .str)), .own false (.lst ((singF 0 cs).map linkD)), .own false (valsD (T ++ [eS]) fun _ => 0), .own false (backsD [] fun _ => none), .no, .no, .no, .no, .no, .no] := by
    simp [b_settled_3_a, backsD, tabD]
  have hit : evI cf (.irng (.bin .add (.bi .len (.var 3)) (.cst (.int 1)))) [.val (csD cs), .val (.lst (T.map .str)), .own false (.lst ((singF 0 cs).map linkD)), .own false (valsD (T ++ [eS]) fun _ => 0), .own false (backsD [] fun _ => none), .no, .no, .no, .no, .no, .no] =
      .ok ((List.range ((T ++ [eS]).length + 1)).map fun (i : Nat) => D.int (0 + (i : Int))) [.val (csD cs), .val (.lst (T.map .str)), .own false (.lst ((singF 0 cs).map linkD)), .own false (valsD (T ++ [eS]) fun _ => 0), .own false (backsD [] fun _ => none), .no, .no, .no, .no, .no, .no] :=
    ev_rng (n := (T ++ [eS]).length + 1) (op := .v (.int (((T ++ [eS]).length + 1 : Nat) : Int))) (by simp [valsD]) rfl (by omega)
  have hB0 : BOk (T ++ [eS]) [] (fun _ => none) := ⟨fun x => by simp, by simp, fun x h => by cases h⟩
  rcases settle_loop (cf := cf) (ir := ir) (ig := ig) hr hL hKn hKl heK (d0 := csD cs) (d1 := .lst (T.map .str)) ((List.range ((T ++ [eS]).length + 1)).map fun (i : Nat) => D.int (0 + (i : Int))) 1 ⟨fun _ => 0, fun _ => none, fun _ => 0⟩ [] (.own false (.lst ((singF 0 cs).map linkD))) .no .no (Nat.le_refl _) (Rx.RI.init _ _) hB0 (.inl rfl) with ⟨v, ρ', q1, q2, q3⟩ | ⟨s', B', s2', j5', s6, q1, q2, q3, q4⟩
  · left
    have a5 : evS cf (b_settled_4_a ir ig) [.val (csD cs), .val (.lst (T.map .str)), .own false (.lst ((singF 0 cs).map linkD)), .own false (valsD (T ++ [eS]) fun _ => 0), .own false (backsD [] fun _ => none), .no, .no, .no, .no, .no, .no] = _ := (s_for hit).trans q1
    exact ⟨v, _, c_ret ((s_seq a1).trans ((s_seq a2).trans ((s_seq a3).trans ((s_seq a4).trans (s_ret a5))))), q2, q3⟩
  · right
    have a5 : evS cf (b_settled_4_a ir ig) [.val (csD cs), .val (.lst (T.map .str)), .own false (.lst ((singF 0 cs).map linkD)), .own false (valsD (T ++ [eS]) fun _ => 0), .own false (backsD [] fun _ => none), .no, .no, .no, .no, .no, .no] = _ := (s_for hit).trans q1
    obtain ⟨x, r1, r2, r3⟩ := q4 (by rw [List.range_succ_eq_map]; simp)
    subst r1
    rw [List.length_map, List.length_range, show 1 + ((T ++ [eS]).length + 1) - 1 = (T ++ [eS]).length + 1 by omega] at r2 r3
    obtain ⟨n, hn, hR⟩ := Rx.ring_at r2 r3 (fun y hy => (q2.iff y).mpr hy) (by have := q2.len; omega)
    have hn' : n ≤ 1000 := by have := q2.len; omega
    obtain ⟨o, e⟩ := hg (T ++ [eS]) B' (singF 0 cs) s' x n q2 hR hn'
    have a6 : evS cf (b_settled_5 ir ig) [.val (csD cs), .val (.lst (T.map .str)), s2', .own false (valsD (T ++ [eS]) s'.v), .own false (backsD B' s'.b), j5'.s, .val (.str x), .no, .no, .no, .no] =
        .ret (.v (.tup [.tup (ringD s' x B'.length n), .non])) (wback [.val (csD cs), .val (.lst (T.map .str)), s2', .own false (valsD (T ++ [eS]) s'.v), .val (backsD B' s'.b), j5'.s, .val (.str x), .no, .no, .no, .no] [.v (backsD B' s'.b), .v (.str x)] o) := by
      simp [b_settled_5, e]
    exact ⟨s', x, B'.length, n, _, c_ret ((s_seq a1).trans ((s_seq a2).trans ((s_seq a3).trans ((s_seq a4).trans ((s_seq a5).trans a6))))), hR, hn'⟩
end
end PyI
set_option maxHeartbeats 1000000
/-! PyN3: clauses over integers: who meets them, rings, closed trees, terms. -/
namespace PyI
open PySem PySem.Spec PyProof.Rows L2
def holdsL (a : Str → Int) (l : L3) : Prop := a l.1 ≤ a l.2.1 + l.2.2
instance {a : Str → Int} {l : L3} : Decidable (holdsL a l) := by unfold holdsL; infer_instance
def holdsC (a : Str → Int) (c : List L3) : Prop := ∃ l ∈ c, holdsL a l
instance {a : Str → Int} {c : List L3} : Decidable (holdsC a c) := by unfold holdsC; infer_instance
def Meets3 (a : Str → Int) (cs : List (List L3)) : Prop := ∀ c ∈ cs, holdsC a c
def Sat (cs : List (List L3)) : Prop := ∃ a, Meets3 a cs
theorem holdsC_one {a : Str → Int} {l : L3} : holdsC a [l] ↔ holdsL a l := by simp [holdsC]
theorem holdsC_two {a : Str → Int} {l m : L3} : holdsC a [l, m] ↔ holdsL a l ∨ holdsL a m := by simp [holdsC]
theorem holdsL_shift {a : Str → Int} {l : L3} (k : Int) : holdsL (fun x => a x - k) l ↔ holdsL a l := by
  unfold holdsL; constructor <;> intro h <;> simp only at h ⊢ <;> omega
theorem holdsC_shift {a : Str → Int} {c : List L3} (k : Int) : holdsC (fun x => a x - k) c ↔ holdsC a c := by
  unfold holdsC
  constructor
  · rintro ⟨l, h1, h2⟩; exact ⟨l, h1, (holdsL_shift k).mp h2⟩
  · rintro ⟨l, h1, h2⟩; exact ⟨l, h1, (holdsL_shift k).mpr h2⟩
/-- clauses of one or two literals -/
def Cls (cs : List (List L3)) : Prop := ∀ c ∈ cs, c.length = 1 ∨ c.length = 2
/-! ### rings -/
def pickS (cs : List (List L3)) (i : Nat) : Option L3 := match cs[i]? with
  | some [l] => some l
  | _ => none
structure RingOk (cs : List (List L3)) (is : List Nat) (ls : List L3) : Prop where
  ne : is ≠ []
  nd : is.Nodup
  pk : is.map (pickS cs) = ls.map some
  ch : ls.map (·.2.1) = (ls.map (·.1)).drop 1 ++ (ls.map (·.1)).take 1
  neg : (ls.map (·.2.2)).sum < 0
theorem sing_get : ∀ {cs : List (List L3)} {n i : Nat} {l : L3}, (i, l) ∈ singF n cs → n ≤ i ∧ cs[i - n]? = some [l]
  | [], _, _, _, h => by cases h
  | c :: r, n, i, l, h => by
    have step : (i, l) ∈ singF (n + 1) r → n ≤ i ∧ (c :: r)[i - n]? = some [l] := fun h' => by
      obtain ⟨h1, h2⟩ := sing_get h'
      refine ⟨by omega, ?_⟩
      rw [show i - n = (i - (n + 1)) + 1 by omega, List.getElem?_cons_succ]; exact h2
    unfold singF at h
    split at h
    · rcases List.mem_cons.mp h with e | e
      · cases e; exact ⟨Nat.le_refl _, by simp⟩
      · exact step e
    · exact step h
theorem sing_mem : ∀ {cs : List (List L3)} {n : Nat} {l : L3}, [l] ∈ cs → ∃ i, (i, l) ∈ singF n cs
  | [], _, _, h => by cases h
  | c :: r, n, l, h => by
    rcases List.mem_cons.mp h with e | e
    · subst e; exact ⟨n, by simp [singF]⟩
    · obtain ⟨i, hi⟩ := sing_mem (n := n + 1) e
      refine ⟨i, ?_⟩
      unfold singF
      split
      · exact List.mem_cons_of_mem _ hi
      · exact hi
theorem sum_range (f : Nat → Int) : ∀ n, ((List.range n).map f).sum = Rx.sumN f n
  | 0 => rfl
  | n + 1 => by rw [List.range_succ, List.map_append, List.sum_append, sum_range f n]; simp [Rx.sumN]
theorem nodup_map_range {f : Nat → Nat} {n : Nat} (h : ∀ a b, a < b → b < n → f a ≠ f b) : ((List.range n).map f).Nodup := by
  rw [List.nodup_iff_pairwise_ne, List.pairwise_iff_getElem]
  intro i j hi hj hij
  simp only [List.getElem_map, List.getElem_range]
  exact h i j hij (by simpa using hj)
theorem ring_of {cs : List (List L3)} {s : Rx.RS Str} {x : Str} {m n : Nat} (r : Rx.RingAt (singF 0 cs) s x m n) :
    RingOk cs ((List.range n).map fun j => Rx.bi s (Rx.walk s x (m + j))) ((List.range n).map fun j => (Rx.walk s x (m + j), Rx.walk s x (m + (j + 1)), Rx.bw s (Rx.walk s x (m + j)))) where
  ne := by
    have := r.pos
    intro h
    have := congrArg List.length h
    simp at this
    omega
  nd := nodup_map_range fun a b hab hb e => by
    have h1 := (sing_get (r.link a)).2
    have h2 := (sing_get (r.link b)).2
    rw [e] at h1
    rw [h1] at h2
    have h3 : Rx.walk s x (m + a) = Rx.walk s x (m + b) := by
      have := Option.some.inj h2
      simp only [List.cons.injEq, Prod.mk.injEq] at this
      exact this.1.1
    exact r.apart a b hab hb h3
  pk := by
    rw [List.map_map, List.map_map]
    refine List.map_congr_left fun j _ => ?_
    have h1 := (sing_get (r.link j)).2
    show pickS cs _ = some _
    unfold pickS
    rw [Nat.sub_zero] at h1
    rw [h1]
  ch := by
    rw [List.map_map, List.map_map]
    have hp := r.pos
    obtain ⟨k, rfl⟩ : ∃ k, n = k + 1 := ⟨n - 1, by omega⟩
    have hb := r.back
    refine List.ext_getElem (by simp) fun i h1 h2 => ?_
    simp only [List.length_map, List.length_range] at h1
    simp only [List.getElem_map, List.getElem_range, Function.comp]
    by_cases hi : i < k
    · rw [List.getElem_append_left (by simp; omega)]
      simp only [List.getElem_drop, List.getElem_map, List.getElem_range, Function.comp]
      rw [Nat.add_comm 1 i]
    · have e : i = k := by omega
      subst e
      rw [List.getElem_append_right (by simp)]
      simp only [List.length_drop, List.length_map, List.length_range, List.getElem_take, List.getElem_map, List.getElem_range, Function.comp]
      rw [hb, show m + (i - (i + 1 - 1)) = m by omega]
  neg := by
    rw [List.map_map]
    show ((List.range n).map fun j => Rx.bw s (Rx.walk s x (m + j))).sum < 0
    rw [sum_range]
    exact r.neg
theorem drop_take_perm {α : Type} (l : List α) : (l.drop 1 ++ l.take 1).Perm l := by
  cases l with
  | nil => exact .refl _
  | cons a l => simpa using (List.perm_append_comm (l₁ := l) (l₂ := [a]))
theorem perm_sum {l l' : List Int} (h : l.Perm l') : l.sum = l'.sum := by
  induction h with
  | nil => rfl
  | cons x _ ih => simp [ih]
  | swap x y l => simp only [List.sum_cons]; omega
  | trans _ _ ih1 ih2 => rw [ih1, ih2]
theorem sum_le {a : Str → Int} : ∀ {ls : List L3}, (∀ l ∈ ls, holdsL a l) → (ls.map fun l => a l.1).sum ≤ (ls.map fun l => a l.2.1).sum + (ls.map (·.2.2)).sum
  | [], _ => by simp
  | l :: ls, h => by
    have h1 := h l (by simp)
    have := sum_le (ls := ls) fun x hx => h x (by simp [hx])
    simp only [List.map_cons, List.sum_cons]
    unfold holdsL at h1
    omega
theorem pick_mem {cs : List (List L3)} {is : List Nat} {ls : List L3} (h : is.map (pickS cs) = ls.map some) : ∀ l ∈ ls, [l] ∈ cs := fun l hl => by
  have h1 : some l ∈ is.map (pickS cs) := by rw [h]; exact List.mem_map.mpr ⟨l, hl, rfl⟩
  obtain ⟨i, _, e⟩ := List.mem_map.mp h1
  unfold pickS at e
  split at e
  · rename_i l' e'
    cases e
    exact List.mem_of_getElem? e'
  · cases e
theorem RingOk.unsat {cs : List (List L3)} {is : List Nat} {ls : List L3} (r : RingOk cs is ls) : ¬ Sat cs := by
  rintro ⟨a, ha⟩
  have h1 : ∀ l ∈ ls, holdsL a l := fun l hl => holdsC_one.mp (ha _ (pick_mem r.pk l hl))
  have h2 := sum_le h1
  have e1 : (ls.map fun l => a l.2.1).sum = (ls.map fun l => a l.1).sum := by
    have h3 : (ls.map fun l => a l.2.1) = (ls.map (·.2.1)).map a := by rw [List.map_map]; rfl
    have h4 : (ls.map fun l => a l.1) = (ls.map (·.1)).map a := by rw [List.map_map]; rfl
    rw [h3, h4, r.ch]
    exact perm_sum ((drop_take_perm _).map a)
  have := r.neg
  omega
/-! ### closed trees -/
def sRing : Str := PySem.Str.ofString "ring"
def sCase : Str := PySem.Str.ofString "case"
def sMet : Str := PySem.Str.ofString "met"
def sNone : Str := PySem.Str.ofString "none"
inductive Closed : List (List L3) → D → Prop
  | ring {cs : List (List L3)} {is : List Nat} {ls : List L3} : RingOk cs is ls → Closed cs (.tup [.str sRing, .tup (is.map natD)])
  | case {cs : List (List L3)} {i : Nat} {l m : L3} {t u : D} : cs[i]? = some [l, m] → Closed (cs ++ [[l]]) t → Closed (cs ++ [[m]]) u → Closed cs (.tup [.str sCase, natD i, t, u])
theorem Closed.unsat {cs : List (List L3)} {t : D} (h : Closed cs t) : ¬ Sat cs := by
  induction h with
  | ring r => exact r.unsat
  | @case cs i l m t u e _ _ ih1 ih2 =>
    rintro ⟨a, ha⟩
    rcases holdsC_two.mp (ha _ (List.mem_of_getElem? e)) with h | h
    · exact ih1 ⟨a, fun c hc => by
        rcases List.mem_append.mp hc with q | q
        · exact ha c q
        · have : c = [l] := by simpa using q
          rw [this]; exact holdsC_one.mpr h⟩
    · exact ih2 ⟨a, fun c hc => by
        rcases List.mem_append.mp hc with q | q
        · exact ha c q
        · have : c = [m] := by simpa using q
          rw [this]; exact holdsC_one.mpr h⟩
/-! ### terms -/
def allT (cs : List (List L3)) : List Str := cs.flatMap fun c => c.flatMap fun l => [l.1, l.2.1]
def Over (P : List Str) (cs : List (List L3)) : Prop := ∀ c ∈ cs, ∀ l ∈ c, l.1 ∈ P ∧ l.2.1 ∈ P
theorem allT_mem {cs : List (List L3)} {x : Str} : x ∈ allT cs ↔ ∃ c ∈ cs, ∃ l ∈ c, x = l.1 ∨ x = l.2.1 := by
  unfold allT; simp [List.mem_flatMap]
theorem Over.sub {P : List Str} {cs : List (List L3)} (h : Over P cs) : ∀ x ∈ allT cs, x ∈ P := fun x hx => by
  obtain ⟨c, hc, l, hl, e⟩ := allT_mem.mp hx
  obtain ⟨h1, h2⟩ := h c hc l hl
  rcases e with rfl | rfl
  · exact h1
  · exact h2
theorem nd_len {B K : List Str} (h : B.Nodup) (s : ∀ x ∈ B, x ∈ K) : B.length ≤ K.length := nodup_len h s
/-- the terms, ascending -/
def Tm (cs : List (List L3)) : List Str := sortS (ded ((allT cs).filter fun x => !(x == eS)))
theorem Tm_mem {cs : List (List L3)} {x : Str} : x ∈ Tm cs ↔ x ∈ allT cs ∧ x ≠ eS := by
  unfold Tm
  rw [(sort_perm _).mem_iff, ded_mem, List.mem_filter]
  simp
theorem Tm_nodup (cs : List (List L3)) : (Tm cs).Nodup := (sort_perm _).nodup_iff.mpr (ded_nodup _)
theorem Tm_sorted (cs : List (List L3)) : (Tm cs).Pairwise (fun a b => sle a b = true) := sort_pair _
theorem sorted_uniq {A B : List Str} (ha : A.Pairwise (fun a b => sle a b = true)) (hb : B.Pairwise (fun a b => sle a b = true)) (na : A.Nodup) (nb : B.Nodup) (h : ∀ x, x ∈ A ↔ x ∈ B) : A = B :=
  List.Perm.eq_of_pairwise (le := fun a b => sle a b = true) (fun a b _ _ h1 h2 => sle_anti a b h1 h2) ha hb ((List.perm_ext_iff_of_nodup na nb).mpr h)
theorem Tm_eq {cs : List (List L3)} {A : List Str} (ha : A.Pairwise (fun a b => sle a b = true)) (na : A.Nodup) (h : ∀ x, x ∈ A ↔ x ∈ allT cs ∧ x ≠ eS) : A = Tm cs :=
  sorted_uniq ha (Tm_sorted cs) na (Tm_nodup cs) fun x => by rw [h, Tm_mem]
theorem Tm_noE (cs : List (List L3)) : eS ∉ Tm cs := fun h => (Tm_mem.mp h).2 rfl
theorem Tm_len {P : List Str} {cs : List (List L3)} (h : Over P cs) : (Tm cs).length ≤ P.length := nd_len (Tm_nodup cs) fun x hx => h.sub x (Tm_mem.mp hx).1
theorem in_T {cs : List (List L3)} {x : Str} (h : x ∈ allT cs) : x ∈ Tm cs ++ [eS] := by
  by_cases e : x = eS
  · rw [e]; simp
  · exact List.mem_append_left _ (Tm_mem.mpr ⟨h, e⟩)
theorem links_in (cs : List (List L3)) : InK (Tm cs ++ [eS]) (singF 0 cs) := fun i x y w h => by
  have h1 := (sing_get h).2
  have hm : [(x, y, w)] ∈ cs := List.mem_of_getElem? h1
  exact ⟨in_T (allT_mem.mpr ⟨_, hm, (x, y, w), by simp, .inl rfl⟩), in_T (allT_mem.mpr ⟨_, hm, (x, y, w), by simp, .inr rfl⟩)⟩
/-! ### how much is left to decide -/
def und (cs : List (List L3)) (c : List L3) : Bool := c.length == 2 && c.all fun l => !(decide ([l] ∈ cs))
def mu (cs : List (List L3)) : Nat := (cs.filter (und cs)).length
theorem filter_len_lt {α : Type} {p q : α → Bool} : ∀ {l : List α} {a : α}, a ∈ l → (∀ x ∈ l, q x = true → p x = true) → p a = true → q a = false → (l.filter q).length < (l.filter p).length
  | [], a, h, _, _, _ => by cases h
  | b :: l, a, h, i, pa, qa => by
    have le : ∀ {l : List α}, (∀ x ∈ l, q x = true → p x = true) → (l.filter q).length ≤ (l.filter p).length := by
      intro l
      induction l with
      | nil => intro _; simp
      | cons c l ih =>
        intro hh
        have := ih fun x hx => hh x (by simp [hx])
        cases hq : q c with
        | true => simp [List.filter_cons, hq, hh c (by simp) hq]; exact this
        | false =>
          cases hp : p c with
          | true => simp [List.filter_cons, hq, hp]; omega
          | false => simp [List.filter_cons, hq, hp]; exact this
    rcases List.mem_cons.mp h with e | e
    · subst e
      have := le (l := l) fun x hx => i x (by simp [hx])
      simp [List.filter_cons, pa, qa]; omega
    · have := filter_len_lt e (fun x hx => i x (by simp [hx])) pa qa
      cases hq : q b with
      | true => simp [List.filter_cons, hq, i b (by simp) hq]; exact this
      | false =>
        cases hp : p b with
        | true => simp [List.filter_cons, hq, hp]; omega
        | false => simp [List.filter_cons, hq, hp]; exact this
theorem mu_lt {cs : List (List L3)} {c : List L3} {l : L3} (hc : c ∈ cs) (h2 : c.length = 2) (hl : l ∈ c) (hn : ∀ l ∈ c, [l] ∉ cs) : mu (cs ++ [[l]]) < mu cs := by
  have e : mu (cs ++ [[l]]) = (cs.filter (und (cs ++ [[l]]))).length := by
    unfold mu
    rw [List.filter_append]
    have : ([[l]] : List (List L3)).filter (und (cs ++ [[l]])) = [] := by simp [und]
    rw [this, List.append_nil]
  rw [e]
  refine filter_len_lt hc (fun x hx h => ?_) ?_ ?_
  · unfold und at h ⊢
    simp only [Bool.and_eq_true, List.all_eq_true, Bool.not_eq_true', decide_eq_false_iff_not] at h ⊢
    exact ⟨h.1, fun y hy q => h.2 y hy (by simp [q])⟩
  · unfold und
    simp only [Bool.and_eq_true, List.all_eq_true, Bool.not_eq_true', decide_eq_false_iff_not]
    exact ⟨by simp [h2], hn⟩
  · unfold und
    rw [Bool.and_eq_false_iff]
    right
    rw [List.all_eq_false]
    exact ⟨l, hl, by simp⟩
theorem mu_le (cs : List (List L3)) : mu cs ≤ (cs.filter fun c => c.length == 2).length := by
  unfold mu
  have e : cs.filter (und cs) = (cs.filter fun c => c.length == 2).filter fun c => c.all fun l => !(decide ([l] ∈ cs)) := by
    rw [List.filter_filter]
    refine List.filter_congr fun c _ => ?_
    unfold und
    rw [Bool.and_comm]
  rw [e]
  exact List.length_filter_le _ _
end PyI
set_option maxHeartbeats 1000000
/-! PyN4: terms of clauses; what holds; by the program and by the law. -/
namespace PyI
open PySem PySem.Spec PyProof.Rows L2
theorem eS_eq : PySem.Str.ofString "" = eS := rfl
def tt : Str → D := fun _ => .bl true
theorem put_ins (K : List Str) (x : Str) : put (tabD K tt) (.inr x) (.bl true) = tabD (insS K x) tt := by
  unfold insS
  split
  · rename_i h
    have := put_old (f := tt) (d := .bl true) h
    rw [show Rx.upf tt x (.bl true) = tt from upf_self] at this
    exact this
  · rename_i h
    have := put_new (f := tt) (d := .bl true) h
    rw [show Rx.upf tt x (.bl true) = tt from upf_self] at this
    exact this
def litT (c : List L3) : List Str := c.flatMap fun l => [l.1, l.2.1]
theorem litT_len (c : List L3) : (litT c).length = 2 * c.length := by
  unfold litT
  induction c with
  | nil => rfl
  | cons l c ih => simp only [List.flatMap_cons, List.length_append, ih, List.length_cons, List.length_nil]; omega
theorem allT_eq (cs : List (List L3)) : allT cs = cs.flatMap litT := rfl
section
variable {cf : CF}
theorem tof_in {d0 d2 : D} : ∀ (c : List L3) (K : List Str) (j3 j4 j5 : J), K.length + 2 * c.length ≤ 100000 →
    ∃ (k3 k4 k5 : J), forL (.tup [.n 3, .n 4, .n 5]) (evS cf b_terms_of_1_abb) (c.map litD) [.val d0, .own false (.dic (tabD K tt)), .val d2, j3.s, j4.s, j5.s, .no, .no] = .nx [.val d0, .own false (.dic (tabD ((litT c).foldl insS K) tt)), .val d2, k3.s, k4.s, k5.s, .no, .no]
  | [], K, j3, j4, j5, _ => ⟨j3, j4, j5, rfl⟩
  | (a, b, n) :: c, K, j3, j4, j5, h => by
    simp only [List.length_cons] at h
    have h1 := insS_len K a
    have h2 := insS_len (insS K a) b
    obtain ⟨k3, k4, k5, e⟩ := tof_in (d0 := d0) (d2 := d2) c (insS (insS K a) b) (.v (.str a)) (.v (.str b)) (.v (.int n)) (by omega)
    refine ⟨k3, k4, k5, ?_⟩
    have z1 : K.length ≤ 100000 := by omega
    have z2 : (insS K a).length ≤ 100000 := by omega
    have e1 : evS cf b_terms_of_1_abb [.val d0, .own false (.dic (tabD K tt)), .val d2, .val (.str a), .val (.str b), .val (.int n), .no, .no] = .nx [.val d0, .own false (.dic (tabD (insS (insS K a) b) tt)), .val d2, .val (.str a), .val (.str b), .val (.int n), .no, .no] := by
      simp [b_terms_of_1_abb, b_terms_of_1_abb_a, b_terms_of_1_abb_1, put_ins, z1, z2]
    have ha : asgT (.tup [.n 3, .n 4, .n 5]) (litD (a, b, n)) [.val d0, .own false (.dic (tabD K tt)), .val d2, j3.s, j4.s, j5.s, .no, .no] = some [.val d0, .own false (.dic (tabD K tt)), .val d2, .val (.str a), .val (.str b), .val (.int n), .no, .no] := by simp [litD]
    rw [List.map_cons, forL, ha]
    simp only [e1]
    exact e
theorem tof_out {d0 : D} : ∀ (cs : List (List L3)) (K : List Str) (j2 j3 j4 j5 : J), K.length + 2 * (allT cs).length ≤ 100000 →
    ∃ (k2 k3 k4 k5 : J), forL (.n 2) (evS cf b_terms_of_1_ab) (cs.map clD) [.val d0, .own false (.dic (tabD K tt)), j2.s, j3.s, j4.s, j5.s, .no, .no] = .nx [.val d0, .own false (.dic (tabD ((allT cs).foldl insS K) tt)), k2.s, k3.s, k4.s, k5.s, .no, .no]
  | [], K, j2, j3, j4, j5, _ => ⟨j2, j3, j4, j5, rfl⟩
  | c :: cs, K, j2, j3, j4, j5, h => by
    rw [allT_eq, List.flatMap_cons, List.length_append, litT_len] at h
    have h3 := fold_len (litT c) K
    rw [litT_len] at h3
    obtain ⟨k3, k4, k5, e1⟩ := tof_in (cf := cf) (d0 := d0) (d2 := clD c) c K j3 j4 j5 (by omega)
    obtain ⟨l2, l3, l4, l5, e2⟩ := tof_out (d0 := d0) cs ((litT c).foldl insS K) (.v (clD c)) k3 k4 k5 (by rw [allT_eq]; omega)
    refine ⟨l2, l3, l4, l5, ?_⟩
    have e3 : evS cf b_terms_of_1_ab [.val d0, .own false (.dic (tabD K tt)), .val (clD c), j3.s, j4.s, j5.s, .no, .no] = _ := (s_for (ev_seq (op := .v (clD c)) (d := clD c) rfl rfl rfl)).trans e1
    have ha : asgT (.n 2) (clD c) [.val d0, .own false (.dic (tabD K tt)), j2.s, j3.s, j4.s, j5.s, .no, .no] = some [.val d0, .own false (.dic (tabD K tt)), .val (clD c), j3.s, j4.s, j5.s, .no, .no] := by simp
    rw [List.map_cons, forL, ha]
    simp only [e3]
    rw [allT_eq, List.flatMap_cons, List.foldl_append]
    exact e2
def neE : D → Bool
  | .str x => !(x == eS)
  | _ => true
theorem filter_strs (l : List Str) : ((l.map D.str).filter neE) = (l.filter fun x => !(x == eS)).map D.str := by
  rw [List.filter_map]; rfl
theorem allT_len {cs : List (List L3)} (h : Cls cs) : (allT cs).length ≤ 4 * cs.length := by
  rw [allT_eq]
  induction cs with
  | nil => simp
  | cons c cs ih =>
    have h1 := h c (by simp)
    have := ih fun c hc => h c (by simp [hc])
    rw [List.flatMap_cons, List.length_append, litT_len, List.length_cons]; omega
def TermsOfC (c : List Arg → CRes) : Prop := ∀ (cs : List (List L3)) (P : List Str), Over P cs → P.length ≤ 30 → Cls cs → cs.length ≤ 1000 → ∃ o, c [.v (csD cs)] = .ok (.f (.lst ((Tm cs).map .str))) o
theorem terms_of_ok : TermsOfC (callBody cf ⟨8, 1, b_terms_of⟩) := by
  intro cs P hP hPl hC hcs
  have hl := allT_len hC
  obtain ⟨k2, k3, k4, k5, e⟩ := tof_out (cf := cf) (d0 := csD cs) cs [] .no .no .no .no (by simp; omega)
  have hd : (allT cs).foldl insS [] = ded (allT cs) := rfl
  rw [hd] at e
  have h64 : (ded (allT cs)).length < 64 := by
    have := nd_len (ded_nodup (allT cs)) fun x hx => hP.sub x (ded_mem.mp hx)
    omega
  have e1 : evS cf b_terms_of_a [.val (csD cs), .no, .no, .no, .no, .no, .no, .no] = .nx [.val (csD cs), .own false (.dic (tabD [] tt)), .no, .no, .no, .no, .no, .no] := by simp [b_terms_of_a, tabD]
  have e2 : evS cf b_terms_of_1_a [.val (csD cs), .own false (.dic (tabD [] tt)), .no, .no, .no, .no, .no, .no] = _ := (s_for (ev_seq (op := .v (csD cs)) (d := csD cs) rfl rfl rfl)).trans e
  have hlc := lcL_pure (vs := [6, 7]) (t := .n 7) (c := evT cf (.tv (.cmp .ne (.var 7) (.cst (.str (PySem.Str.ofString "")))))) (e := frzE (evE cf (.var 7))) (ρ0 := [.val (csD cs), .own false (.dic (tabD (ded (allT cs)) tt)), k2.s, k3.s, k4.s, k5.s, .no, .no]) neE (fun d => d) ((sortS (ded (allT cs))).map D.str) [] fun d hd => by
    obtain ⟨x, _, rfl⟩ := List.mem_map.mp hd
    exact ⟨[.val (csD cs), .own false (.dic (tabD (ded (allT cs)) tt)), k2.s, k3.s, k4.s, k5.s, .no, .val (.str x)], [.val (csD cs), .own false (.dic (tabD (ded (allT cs)) tt)), k2.s, k3.s, k4.s, k5.s, .no, .val (.str x)], by simp, by simp [neE, eS_eq], fun _ => ⟨[.val (csD cs), .own false (.dic (tabD (ded (allT cs)) tt)), k2.s, k3.s, k4.s, k5.s, .no, .val (.str x)], by simp, rfl, rfl⟩, fun _ => ⟨rfl, rfl⟩⟩
  have hit : evI cf (.iseq (.sorted (.var 1))) [.val (csD cs), .own false (.dic (tabD (ded (allT cs)) tt)), k2.s, k3.s, k4.s, k5.s, .no, .no] = .ok ((sortS (ded (allT cs))).map D.str) [.val (csD cs), .own false (.dic (tabD (ded (allT cs)) tt)), k2.s, k3.s, k4.s, k5.s, .no, .no] := by
    have hs : sortD (.dic (tabD (ded (allT cs)) tt)) = some (.f (.lst ((sortS (ded (allT cs))).map .str))) := by
      simp only [sortD, keysS_tab, Option.bind_some]
      rw [if_pos h64]
    refine ev_seq (op := .f (.lst ((sortS (ded (allT cs))).map .str))) (d := .lst ((sortS (ded (allT cs))).map .str)) (ρ1 := [.val (csD cs), .own false (.dic (tabD (ded (allT cs)) tt)), k2.s, k3.s, k4.s, k5.s, .no, .no]) ?_ rfl rfl
    simp [hs]
  have hlen : ((sortS (ded (allT cs))).map D.str).length ≤ 100000 := by
    rw [List.length_map, (sort_perm _).length_eq]; omega
  have e3 := e_lc (cf := cf) (vs := [6, 7]) (t := .n 7) (c := .tv (.cmp .ne (.var 7) (.cst (.str (PySem.Str.ofString ""))))) (e := .var 7) hit rfl hlen hlc
  have hT : (sortS (ded (allT cs))).filter (fun x => !(x == eS)) = Tm cs := by
    refine Tm_eq ((sort_pair _).sublist List.filter_sublist) (((sort_perm _).nodup_iff.mpr (ded_nodup _)).sublist List.filter_sublist) fun x => ?_
    rw [List.mem_filter, (sort_perm _).mem_iff, ded_mem]
    simp
  rw [List.nil_append, filter_strs, hT, List.map_id'] at e3
  have e4 : evS cf b_terms_of_2 [.val (csD cs), .own false (.dic (tabD (ded (allT cs)) tt)), k2.s, k3.s, k4.s, k5.s, .no, .no] = .ret (.f (.lst ((Tm cs).map .str))) (rst [.val (csD cs), .own false (.dic (tabD (ded (allT cs)) tt)), k2.s, k3.s, k4.s, k5.s, .no, .no] [.val (csD cs), .own false (.dic (tabD (ded (allT cs)) tt)), k2.s, k3.s, k4.s, k5.s, .no, .no] [6, 7]) := by
    show retS (evE cf _) _ = _
    unfold retS
    rw [e3]; rfl
  exact ⟨_, c_retf ((s_seq e1).trans ((s_seq e2).trans e4))⟩
/-! ### the law's terms -/
def pT (F : List Str) (x : Str) : Bool := !(x == eS) && !(decide (x ∈ F))
def insT (F : List Str) (l : L3) : List Str := F ++ [l.1, l.2.1].filter (pT F)
theorem insT_mem {F : List Str} {l : L3} {x : Str} : x ∈ insT F l ↔ x ∈ F ∨ ((x = l.1 ∨ x = l.2.1) ∧ x ≠ eS) := by
  unfold insT
  rw [List.mem_append, List.mem_filter]
  simp only [pT, List.mem_cons, List.not_mem_nil, or_false, Bool.and_eq_true, Bool.not_eq_true', beq_eq_false_iff_ne, decide_eq_false_iff_not]
  constructor
  · rintro (h | ⟨h1, h2, _⟩)
    · exact .inl h
    · exact .inr ⟨h1, h2⟩
  · rintro (h | ⟨h1, h2⟩)
    · exact .inl h
    · by_cases q : x ∈ F
      · exact .inl q
      · exact .inr ⟨h1, h2, q⟩
def Tw (P F : List Str) : Prop := F.length ≤ 2 * (ded F).length ∧ ∀ x ∈ F, x ∈ P
theorem ded_app {F : List Str} {x : Str} : ded (F ++ [x]) = insS (ded F) x := by unfold ded; rw [List.foldl_append]; rfl
theorem insS_new {F : List Str} {x : Str} (h : x ∉ F) : (insS (ded F) x).length = (ded F).length + 1 := by
  unfold insS
  rw [if_neg (fun q => h (ded_mem.mp q))]; simp
theorem insS_ge (l : List Str) (x : Str) : l.length ≤ (insS l x).length := by unfold insS; split <;> simp
theorem Tw.ins {P F : List Str} {l : L3} (h : Tw P F) (h1 : l.1 ∈ P) (h2 : l.2.1 ∈ P) : Tw P (insT F l) := by
  refine ⟨?_, fun x hx => ?_⟩
  · have h0 := h.1
    unfold insT
    by_cases ha : pT F l.1 = true
    · have ha' : l.1 ∉ F := by simp [pT] at ha; exact ha.2
      have q1 := insS_new ha'
      by_cases hb : pT F l.2.1 = true
      · rw [List.filter_cons_of_pos ha, List.filter_cons_of_pos hb, List.filter_nil]
        rw [show F ++ [l.1, l.2.1] = (F ++ [l.1]) ++ [l.2.1] by simp, ded_app, ded_app]
        have q2 := insS_ge (insS (ded F) l.1) l.2.1
        simp only [List.length_append, List.length_cons, List.length_nil]; omega
      · rw [List.filter_cons_of_pos ha, List.filter_cons_of_neg hb, List.filter_nil, ded_app]
        simp only [List.length_append, List.length_cons, List.length_nil]; omega
    · by_cases hb : pT F l.2.1 = true
      · have hb' : l.2.1 ∉ F := by simp [pT] at hb; exact hb.2
        have q1 := insS_new hb'
        rw [List.filter_cons_of_neg ha, List.filter_cons_of_pos hb, List.filter_nil, ded_app]
        simp only [List.length_append, List.length_cons, List.length_nil]; omega
      · rw [List.filter_cons_of_neg ha, List.filter_cons_of_neg hb, List.filter_nil, List.append_nil]; exact h0
  · rcases insT_mem.mp hx with q | ⟨q | q, _⟩
    · exact h.2 x q
    · rw [q]; exact h1
    · rw [q]; exact h2
theorem Tw.len {P F : List Str} (h : Tw P F) : F.length ≤ 2 * P.length := by
  have := nd_len (ded_nodup F) fun x hx => h.2 x (ded_mem.mp hx)
  have := h.1
  omega
theorem strz_strs : ∀ F : List Str, strz (F.map D.str) = some F
  | [] => rfl
  | x :: F => by simp [strz, strz_strs F]
def newT (F : List Str) : D → Bool
  | .str x => !(x == eS) && !(decide (x ∈ F))
  | _ => true
theorem lt_step {d0 d2 : D} {F : List Str} {a b : Str} {n : Int} (hF : F.length ≤ 1000) : evS cf b_l_terms_1_abb [.val d0, .own false (.lst (F.map .str)), .val d2, .val (.str a), .val (.str b), .val (.int n), .no, .no] =
    .nx [.val d0, .own false (.lst ((insT F (a, b, n)).map .str)), .val d2, .val (.str a), .val (.str b), .val (.int n), .no, .no] := by
  have hlc := lcL_pure (vs := [6, 7]) (t := .n 7) (c := evT cf (.tand (.tv (.cmp .ne (.var 7) (.cst (.str (PySem.Str.ofString ""))))) (.tv (.cmp .notin (.var 7) (.var 1))))) (e := frzE (evE cf (.var 7))) (ρ0 := [.val d0, .own false (.lst (F.map .str)), .val d2, .val (.str a), .val (.str b), .val (.int n), .no, .no]) (newT F) (fun d => d) ([a, b].map D.str) [] fun d hd => by
    obtain ⟨x, _, rfl⟩ := List.mem_map.mp hd
    refine ⟨[.val d0, .own false (.lst (F.map .str)), .val d2, .val (.str a), .val (.str b), .val (.int n), .no, .val (.str x)], [.val d0, .own false (.lst (F.map .str)), .val d2, .val (.str a), .val (.str b), .val (.int n), .no, .val (.str x)], by simp, ?_, fun _ => ⟨[.val d0, .own false (.lst (F.map .str)), .val d2, .val (.str a), .val (.str b), .val (.int n), .no, .val (.str x)], by simp, rfl, rfl⟩, fun _ => ⟨rfl, rfl⟩⟩
    by_cases e : x = eS
    · subst e; simp [newT, eS_eq]
    · simp [newT, eS_eq, e]
  have e3 := e_lc (cf := cf) (vs := [6, 7]) (t := .n 7) (it := .iseq (.tup (.acons (.frz (.var 3)) (.acons (.frz (.var 4)) .anil)))) (c := .tand (.tv (.cmp .ne (.var 7) (.cst (.str (PySem.Str.ofString ""))))) (.tv (.cmp .notin (.var 7) (.var 1)))) (e := .var 7)
    (ρ := [.val d0, .own false (.lst (F.map .str)), .val d2, .val (.str a), .val (.str b), .val (.int n), .no, .no]) (ρ1 := [.val d0, .own false (.lst (F.map .str)), .val d2, .val (.str a), .val (.str b), .val (.int n), .no, .no]) (items := [a, b].map D.str) (by simp) rfl (by simp) hlc
  have e4 := e3.trans (show _ = Res.ok (.f (.lst (([a, b].filter (pT F)).map D.str))) [.val d0, .own false (.lst (F.map .str)), .val d2, .val (.str a), .val (.str b), .val (.int n), .no, .no] by
    rw [List.nil_append, List.map_id', List.filter_map]; rfl)
  unfold b_l_terms_1_abb
  generalize (E.lc [6, 7] (.n 7) (.iseq (.tup (.acons (.frz (.var 3)) (.acons (.frz (.var 4)) .anil)))) (.tand (.tv (.cmp .ne (.var 7) (.cst (.str (PySem.Str.ofString ""))))) (.tv (.cmp .notin (.var 7) (.var 1)))) (.var 7)) = X at e4 ⊢
  have hle : ([a, b].filter (pT F)).length ≤ 2 := Nat.le_trans (List.length_filter_le _ _) (by simp)
  have hz : F.length + ([a, b].filter (pT F)).length ≤ 100000 := by omega
  generalize hg : ([a, b].filter (pT F)) = g at e4 hz
  have hi : insT F (a, b, n) = F ++ g := by unfold insT; rw [← hg]
  rw [hi]
  simp [e4, hz]
theorem lt_in {P : List Str} (hP : P.length ≤ 30) {d0 d2 : D} : ∀ (c : List L3) (F : List Str) (j3 j4 j5 : J), Tw P F → (∀ l ∈ c, l.1 ∈ P ∧ l.2.1 ∈ P) →
    ∃ (k3 k4 k5 : J), forL (.tup [.n 3, .n 4, .n 5]) (evS cf b_l_terms_1_abb) (c.map litD) [.val d0, .own false (.lst (F.map .str)), .val d2, j3.s, j4.s, j5.s, .no, .no] = .nx [.val d0, .own false (.lst ((c.foldl insT F).map .str)), .val d2, k3.s, k4.s, k5.s, .no, .no] ∧ Tw P (c.foldl insT F)
  | [], F, j3, j4, j5, h, _ => ⟨j3, j4, j5, rfl, h⟩
  | (a, b, n) :: c, F, j3, j4, j5, h, hs => by
    obtain ⟨h1, h2⟩ := hs (a, b, n) (by simp)
    obtain ⟨k3, k4, k5, e, ht⟩ := lt_in hP (d0 := d0) (d2 := d2) c (insT F (a, b, n)) (.v (.str a)) (.v (.str b)) (.v (.int n)) (h.ins h1 h2) fun l hl => hs l (by simp [hl])
    refine ⟨k3, k4, k5, ?_, ht⟩
    have hl := h.len
    have e1 := lt_step (cf := cf) (d0 := d0) (d2 := d2) (F := F) (a := a) (b := b) (n := n) (by omega)
    have ha : asgT (.tup [.n 3, .n 4, .n 5]) (litD (a, b, n)) [.val d0, .own false (.lst (F.map .str)), .val d2, j3.s, j4.s, j5.s, .no, .no] = some [.val d0, .own false (.lst (F.map .str)), .val d2, .val (.str a), .val (.str b), .val (.int n), .no, .no] := by simp [litD]
    rw [List.map_cons, forL, ha]
    simp only [e1]
    exact e
def foldC (F : List Str) (c : List L3) : List Str := c.foldl insT F
theorem lt_out {P : List Str} (hP : P.length ≤ 30) {d0 : D} : ∀ (cs : List (List L3)) (F : List Str) (j2 j3 j4 j5 : J), Tw P F → Over P cs →
    ∃ (k2 k3 k4 k5 : J), forL (.n 2) (evS cf b_l_terms_1_ab) (cs.map clD) [.val d0, .own false (.lst (F.map .str)), j2.s, j3.s, j4.s, j5.s, .no, .no] = .nx [.val d0, .own false (.lst ((cs.foldl foldC F).map .str)), k2.s, k3.s, k4.s, k5.s, .no, .no] ∧ Tw P (cs.foldl foldC F)
  | [], F, j2, j3, j4, j5, h, _ => ⟨j2, j3, j4, j5, rfl, h⟩
  | c :: cs, F, j2, j3, j4, j5, h, hs => by
    obtain ⟨k3, k4, k5, e1, h1⟩ := lt_in (cf := cf) hP (d0 := d0) (d2 := clD c) c F j3 j4 j5 h (hs c (by simp))
    obtain ⟨l2, l3, l4, l5, e2, h2⟩ := lt_out hP (d0 := d0) cs (foldC F c) (.v (clD c)) k3 k4 k5 h1 fun c hc => hs c (by simp [hc])
    refine ⟨l2, l3, l4, l5, ?_, h2⟩
    have e3 : evS cf b_l_terms_1_ab [.val d0, .own false (.lst (F.map .str)), .val (clD c), j3.s, j4.s, j5.s, .no, .no] = _ := (s_for (ev_seq (op := .v (clD c)) (d := clD c) rfl rfl rfl)).trans e1
    have ha : asgT (.n 2) (clD c) [.val d0, .own false (.lst (F.map .str)), j2.s, j3.s, j4.s, j5.s, .no, .no] = some [.val d0, .own false (.lst (F.map .str)), .val (clD c), j3.s, j4.s, j5.s, .no, .no] := by simp
    rw [List.map_cons, forL, ha]
    simp only [e3]
    exact e2
theorem foldC_mem {x : Str} : ∀ {c : List L3} {F : List Str}, x ∈ foldC F c ↔ x ∈ F ∨ (x ∈ litT c ∧ x ≠ eS)
  | [], F => by simp [foldC, litT]
  | l :: c, F => by
    have ih := foldC_mem (x := x) (c := c) (F := insT F l)
    unfold foldC at ih ⊢
    rw [List.foldl_cons, ih, insT_mem]
    unfold litT
    rw [List.flatMap_cons]
    simp only [List.mem_append, List.mem_cons, List.not_mem_nil, or_false]
    constructor
    · rintro ((h | ⟨h1, h2⟩) | ⟨h1, h2⟩)
      · exact .inl h
      · exact .inr ⟨.inl h1, h2⟩
      · exact .inr ⟨.inr h1, h2⟩
    · rintro (h | ⟨h1 | h1, h2⟩)
      · exact .inl (.inl h)
      · exact .inl (.inr ⟨h1, h2⟩)
      · exact .inr ⟨h1, h2⟩
theorem foldCs_mem {x : Str} : ∀ {cs : List (List L3)} {F : List Str}, x ∈ cs.foldl foldC F ↔ x ∈ F ∨ (x ∈ allT cs ∧ x ≠ eS)
  | [], F => by simp [allT]
  | c :: cs, F => by
    rw [List.foldl_cons, foldCs_mem, foldC_mem, show allT (c :: cs) = litT c ++ allT cs from rfl, List.mem_append]
    constructor
    · rintro ((h | ⟨h1, h2⟩) | ⟨h1, h2⟩)
      · exact .inl h
      · exact .inr ⟨.inl h1, h2⟩
      · exact .inr ⟨.inr h1, h2⟩
    · rintro (h | ⟨h1 | h1, h2⟩)
      · exact .inl (.inl h)
      · exact .inl (.inr ⟨h1, h2⟩)
      · exact .inr ⟨h1, h2⟩
theorem l_terms_ok : TermsOfC (callBody cf ⟨8, 1, b_l_terms⟩) := by
  intro cs P hP hPl hC hcs
  obtain ⟨k2, k3, k4, k5, e, ht⟩ := lt_out (cf := cf) hPl (d0 := csD cs) cs [] .no .no .no .no ⟨by simp, fun x h => by cases h⟩ hP
  have e1 : evS cf b_l_terms_a [.val (csD cs), .no, .no, .no, .no, .no, .no, .no] = .nx [.val (csD cs), .own false (.lst (([] : List Str).map .str)), .no, .no, .no, .no, .no, .no] := by simp [b_l_terms_a]
  have e2 : evS cf b_l_terms_1_a [.val (csD cs), .own false (.lst (([] : List Str).map .str)), .no, .no, .no, .no, .no, .no] = _ := (s_for (ev_seq (op := .v (csD cs)) (d := csD cs) rfl rfl rfl)).trans e
  have h64 : (cs.foldl foldC []).length < 64 := by have := ht.len; omega
  have hT : sortS (ded (cs.foldl foldC [])) = Tm cs := Tm_eq (sort_pair _) ((sort_perm _).nodup_iff.mpr (ded_nodup _)) fun x => by
    rw [(sort_perm _).mem_iff, ded_mem, foldCs_mem]; simp
  have e3 : ssetD (.lst ((cs.foldl foldC []).map D.str)) = some (.f (.lst ((Tm cs).map .str))) := by
    simp only [ssetD, strz_strs, Option.bind_some]
    rw [if_pos h64, hT]
  have e4 : evS cf b_l_terms_2 [.val (csD cs), .own false (.lst ((cs.foldl foldC []).map .str)), k2.s, k3.s, k4.s, k5.s, .no, .no] = .ret (.f (.lst ((Tm cs).map .str))) [.val (csD cs), .own false (.lst ((cs.foldl foldC []).map .str)), k2.s, k3.s, k4.s, k5.s, .no, .no] := by
    simp [b_l_terms_2, e3]
  exact ⟨_, c_retf ((s_seq e1).trans ((s_seq e2).trans e4))⟩
/-! ### what holds -/
def LitHC (c : List Arg → CRes) : Prop := ∀ (l : L3) (K : List Str) (v : Str → Int), l.1 ∈ K → l.2.1 ∈ K → ∃ o, c [.v (litD l), .v (valsD K v)] = .ok (.v (.bl (decide (holdsL v l)))) o
theorem literal_holds_ok : LitHC (callBody cf ⟨2, 2, b_literal_holds⟩) := by
  intro l K v h1 h2
  obtain ⟨a, b, n⟩ := l
  have e1 := look_tab (f := fun z => .int (v z)) h1
  have e2 := look_tab (f := fun z => .int (v z)) h2
  refine ⟨_, c_ret (ρ' := [.val (litD (a, b, n)), .val (valsD K v)]) ?_⟩
  simp [b_literal_holds, litD, valsD, e1, e2, holdsL]
theorem any_holds {v : Str → Int} (c : List L3) : (c.map fun l => decide (holdsL v l)).any id = decide (holdsC v c) := by
  rw [List.any_map, Bool.eq_iff_iff, List.any_eq_true, decide_eq_true_iff]
  constructor
  · rintro ⟨l, h1, h2⟩; exact ⟨l, h1, of_decide_eq_true h2⟩
  · rintro ⟨l, h1, h2⟩; exact ⟨l, h1, decide_eq_true h2⟩
theorem bls_of {α : Type} (p : α → Bool) : ∀ cs : List α, bls (cs.map fun c => D.bl (p c)) = some (cs.map p)
  | [] => rfl
  | c :: cs => by simp [bls, bls_of p cs]
def ClHC (c : List Arg → CRes) : Prop := ∀ (cl : List L3) (K : List Str) (v : Str → Int), (∀ l ∈ cl, l.1 ∈ K ∧ l.2.1 ∈ K) → cl.length ≤ 1000 → ∃ o, c [.v (clD cl), .v (valsD K v)] = .ok (.v (.bl (decide (holdsC v cl)))) o
variable {ih : Nat}
theorem clause_holds_ok (hl : LitHC (cf ih)) : ClHC (callBody cf ⟨4, 2, b_clause_holds ih⟩) := by
  intro cl K v hK hn
  have hlc := lcL_pure (vs := [2, 3]) (t := .n 3) (c := yesT) (e := frzE (evE cf (.call ih (.acons (.frz (.var 3)) (.acons (.frz (.var 1)) .anil))))) (ρ0 := [.val (clD cl), .val (valsD K v), .no, .no]) (fun _ => true) (fun d => match d with | .tup [.str a, .str b, .int n] => .bl (decide (holdsL v (a, b, n))) | _ => .non) (cl.map litD) [] fun d hd => by
    obtain ⟨l, hl', rfl⟩ := List.mem_map.mp hd
    obtain ⟨h1, h2⟩ := hK l hl'
    obtain ⟨o, e⟩ := hl l K v h1 h2
    refine ⟨[.val (clD cl), .val (valsD K v), .no, .val (litD l)], _, by simp, rfl, fun _ => ⟨[.val (clD cl), .val (valsD K v), .no, .val (litD l)], ?_, rfl, rfl⟩, fun z => by cases z⟩
    simp [e]
    simp [litD]
  have e3 := e_lc (cf := cf) (vs := [2, 3]) (t := .n 3) (it := .iseq (.var 0)) (c := .tyes) (e := .call ih (.acons (.frz (.var 3)) (.acons (.frz (.var 1)) .anil))) (ρ := [.val (clD cl), .val (valsD K v), .no, .no]) (ρ1 := [.val (clD cl), .val (valsD K v), .no, .no]) (items := cl.map litD) (by simp [clD]) rfl (by rw [List.length_map]; omega) hlc
  rw [List.filter_eq_self.mpr (fun _ _ => rfl), List.nil_append, List.map_map] at e3
  have e4 := e3.trans (show _ = Res.ok (.f (.lst (cl.map fun l => D.bl (decide (holdsL v l))))) [.val (clD cl), .val (valsD K v), .no, .no] from rfl)
  refine ⟨_, c_ret (ρ' := [.val (clD cl), .val (valsD K v), .no, .no]) ?_⟩
  show evS cf (b_clause_holds ih) [.val (clD cl), .val (valsD K v), .no, .no] = _
  unfold b_clause_holds
  generalize (E.lc [2, 3] (.n 3) (.iseq (.var 0)) .tyes (.call ih (.acons (.frz (.var 3)) (.acons (.frz (.var 1)) .anil)))) = X at e4 ⊢
  simp [e4, bls_of]
  have := any_holds (v := v) cl
  rw [List.any_map] at this
  exact this
/-! ### by the law -/
theorem lh_loop {K : List Str} {v : Str → Int} (hv : v eS = 0) {d0 : D} : ∀ (c : List L3) (j2 j3 j4 j5 j6 : J), (∀ l ∈ c, (l.1 ∈ K ∨ l.1 = eS) ∧ (l.2.1 ∈ K ∨ l.2.1 = eS)) →
    ∃ ρ', forL (.tup [.n 2, .n 3, .n 4]) (evS cf b_l_holds_ab) (c.map litD) [.val d0, .val (valsD K v), j2.s, j3.s, j4.s, j5.s, j6.s] = if holdsC v c then .ret (.v (.bl true)) ρ' else .nx ρ'
  | [], j2, j3, j4, j5, j6, _ => ⟨_, by simp [holdsC, forL]; rfl⟩
  | (a, b, n) :: c, j2, j3, j4, j5, j6, h => by
    obtain ⟨h1, h2⟩ := h (a, b, n) (by simp)
    have lk : ∀ x, (x ∈ K ∨ x = eS) → (x = eS ∧ v x = 0) ∨ (x ≠ eS ∧ look (tabD K fun z => .int (v z)) (.inr x) = some (.int (v x))) := fun x hx => by
      by_cases e : x = eS
      · left; exact ⟨e, by rw [e]; exact hv⟩
      · right
        exact ⟨e, look_tab (hx.elim id fun q => absurd q e)⟩
    have a1 : evS cf b_l_holds_ab_a [.val d0, .val (valsD K v), .val (.str a), .val (.str b), .val (.int n), j5.s, j6.s] = .nx [.val d0, .val (valsD K v), .val (.str a), .val (.str b), .val (.int n), .val (.int (v a)), j6.s] := by
      rcases lk a h1 with ⟨e, e2⟩ | ⟨e, e2⟩
      · rw [e2]; subst e; simp [b_l_holds_ab_a, eS_eq]
      · simp [b_l_holds_ab_a, eS_eq, e, e2, valsD]
    have a2 : evS cf b_l_holds_ab_1_a [.val d0, .val (valsD K v), .val (.str a), .val (.str b), .val (.int n), .val (.int (v a)), j6.s] = .nx [.val d0, .val (valsD K v), .val (.str a), .val (.str b), .val (.int n), .val (.int (v a)), .val (.int (v b))] := by
      rcases lk b h2 with ⟨e, e2⟩ | ⟨e, e2⟩
      · rw [e2]; subst e; simp [b_l_holds_ab_1_a, eS_eq]
      · simp [b_l_holds_ab_1_a, eS_eq, e, e2, valsD]
    have ha : asgT (.tup [.n 2, .n 3, .n 4]) (litD (a, b, n)) [.val d0, .val (valsD K v), j2.s, j3.s, j4.s, j5.s, j6.s] = some [.val d0, .val (valsD K v), .val (.str a), .val (.str b), .val (.int n), j5.s, j6.s] := by simp [litD]
    rw [List.map_cons, forL, ha]
    by_cases hh : v a ≤ v b + n
    · have a3 : evS cf b_l_holds_ab [.val d0, .val (valsD K v), .val (.str a), .val (.str b), .val (.int n), j5.s, j6.s] = _ := (s_seq a1).trans ((s_seq a2).trans (show evS cf b_l_holds_ab_2 _ = .ret (.v (.bl true)) [.val d0, .val (valsD K v), .val (.str a), .val (.str b), .val (.int n), .val (.int (v a)), .val (.int (v b))] by simp [b_l_holds_ab_2, hh]))
      have hc : holdsC v ((a, b, n) :: c) := ⟨(a, b, n), by simp, hh⟩
      exact ⟨_, by simp only [a3]; rw [if_pos hc]⟩
    · have a3 : evS cf b_l_holds_ab [.val d0, .val (valsD K v), .val (.str a), .val (.str b), .val (.int n), j5.s, j6.s] = _ := (s_seq a1).trans ((s_seq a2).trans (show evS cf b_l_holds_ab_2 _ = .nx [.val d0, .val (valsD K v), .val (.str a), .val (.str b), .val (.int n), .val (.int (v a)), .val (.int (v b))] by simp [b_l_holds_ab_2, hh]))
      obtain ⟨ρ', e⟩ := lh_loop hv (d0 := d0) c (.v (.str a)) (.v (.str b)) (.v (.int n)) (.v (.int (v a))) (.v (.int (v b))) fun l hl => h l (by simp [hl])
      have hc : holdsC v ((a, b, n) :: c) ↔ holdsC v c := by
        unfold holdsC
        constructor
        · rintro ⟨l, h1, h2⟩
          rcases List.mem_cons.mp h1 with q | q
          · rw [q] at h2; exact absurd h2 hh
          · exact ⟨l, q, h2⟩
        · rintro ⟨l, h1, h2⟩; exact ⟨l, by simp [h1], h2⟩
      refine ⟨ρ', ?_⟩
      simp only [a3, hc]
      exact e
def LHC (c : List Arg → CRes) : Prop := ∀ (cl : List L3) (K : List Str) (v : Str → Int), v eS = 0 → (∀ l ∈ cl, (l.1 ∈ K ∨ l.1 = eS) ∧ (l.2.1 ∈ K ∨ l.2.1 = eS)) → ∃ o, c [.v (clD cl), .v (valsD K v)] = .ok (.v (.bl (decide (holdsC v cl)))) o
theorem l_holds_ok : LHC (callBody cf ⟨7, 2, b_l_holds⟩) := by
  intro cl K v hv hK
  obtain ⟨ρ', e⟩ := lh_loop (cf := cf) hv (d0 := clD cl) cl .no .no .no .no .no hK
  have a1 : evS cf b_l_holds_a [.val (clD cl), .val (valsD K v), .no, .no, .no, .no, .no] = _ := (s_for (ev_seq (op := .v (clD cl)) (d := clD cl) rfl rfl rfl)).trans e
  by_cases h : holdsC v cl
  · rw [if_pos h] at a1
    exact ⟨_, (c_ret (s_ret a1)).trans (by rw [decide_eq_true h])⟩
  · rw [if_neg h] at a1
    exact ⟨_, (c_ret ((s_seq a1).trans (show evS cf b_l_holds_1 ρ' = .ret (.v (.bl false)) ρ' by simp [b_l_holds_1]))).trans (by rw [decide_eq_false h])⟩
end
end PyI
set_option maxHeartbeats 1000000
/-! PyN5: deciding. -/
namespace PyI
open PySem PySem.Spec PyProof.Rows L2
theorem cut_one {a b : D} : cutD [a, b] none (some 1) = [a] := rfl
theorem cut_two {a b : D} : cutD [a, b] (some 1) none = [b] := rfl
theorem csD_app (cs : List (List L3)) (l : L3) : csD (cs ++ [[l]]) = .lst (cs.map clD ++ [.tup [litD l]]) := by
  unfold csD; rw [List.map_append]; rfl
/-- what deciding tells -/
def Told (m : Nat) (cs : List (List L3)) (d : D) : Prop := (∃ w, d = .tup [.str sMet, valsD (Tm cs) w] ∧ w eS = 0 ∧ Meets3 w cs) ∨ (∃ t, d = .tup [.str sNone, t] ∧ Closed cs t ∧ t.dep ≤ m + 2)
theorem depL_nats : ∀ l : List Nat, depL (l.map natD) = 0
  | [] => rfl
  | x :: l => by
    have := depL_nats l
    simp [depL, D.dep, natD] at this ⊢
    exact this
theorem Tm_more {cs : List (List L3)} {c : List L3} {l : L3} (hc : c ∈ cs) (hl : l ∈ c) : Tm (cs ++ [[l]]) = Tm cs := by
  refine (Tm_eq (Tm_sorted _) (Tm_nodup _) fun x => ?_).symm
  rw [Tm_mem]
  have : x ∈ allT (cs ++ [[l]]) ↔ x ∈ allT cs := by
    rw [allT_mem, allT_mem]
    constructor
    · rintro ⟨c', h1, l', h2, h3⟩
      rcases List.mem_append.mp h1 with q | q
      · exact ⟨c', q, l', h2, h3⟩
      · have e : c' = [l] := by simpa using q
        subst e
        have e2 : l' = l := by simpa using h2
        subst e2
        exact ⟨c, hc, l', hl, h3⟩
    · rintro ⟨c', h1, h⟩; exact ⟨c', by simp [h1], h⟩
  rw [this]
theorem Over.more {P : List Str} {cs : List (List L3)} {c : List L3} {l : L3} (h : Over P cs) (hc : c ∈ cs) (hl : l ∈ c) : Over P (cs ++ [[l]]) := fun c' h1 l' h2 => by
  rcases List.mem_append.mp h1 with q | q
  · exact h c' q l' h2
  · have e : c' = [l] := by simpa using q
    subst e
    have e2 : l' = l := by simpa using h2
    subst e2
    exact h c hc l' hl
theorem Cls.more {cs : List (List L3)} {l : L3} (h : Cls cs) : Cls (cs ++ [[l]]) := fun c' h1 => by
  rcases List.mem_append.mp h1 with q | q
  · exact h c' q
  · have e : c' = [l] := by simpa using q
    subst e; exact .inl rfl
def DecC (m : Nat) (c : List Arg → CRes) : Prop := ∀ (cs : List (List L3)) (P : List Str), Over P cs → P.length ≤ 30 → Cls cs → cs.length + m ≤ 900 → mu cs ≤ m → ∃ d o, c [.v (csD cs)] = .ok (.v d) o ∧ Told m cs d
theorem Told.met {m k : Nat} {cs : List (List L3)} {c : List L3} {l : L3} {d : D} (hc : c ∈ cs) (hl : l ∈ c) (h : Told m (cs ++ [[l]]) d) : Told k cs d ∧ (∃ x, d = .tup [.str sMet, x]) ∨ ∃ t, d = .tup [.str sNone, t] ∧ Closed (cs ++ [[l]]) t ∧ t.dep ≤ m + 2 := by
  rcases h with ⟨w, e, h1, h2⟩ | h
  · left
    rw [Tm_more hc hl] at e
    exact ⟨.inl ⟨w, e, h1, fun c hc => h2 c (by simp [hc])⟩, _, e⟩
  · exact .inr h
section
variable {cf : CF} {it is ic id : Nat} {m : Nat}
theorem dec_branch {cs : List (List L3)} {P : List Str} (hd : m = 0 ∨ DecC (m - 1) (cf id)) (hO : Over P cs) (hP : P.length ≤ 30) (hC : Cls cs) (hl : cs.length + m ≤ 900) (hm : mu cs ≤ m) {i : Nat} {c : List L3} (hi : cs[i]? = some c) {v : Str → Int}
    (hv : ∀ j x y w, (j, x, y, w) ∈ singF 0 cs → v x ≤ v y + w) (hn : ¬ holdsC v c) {d1 d2 d3 : D} :
    ∃ d ρ', evS cf (b_decide_3_abt it is ic id) [.val (csD cs), .val d1, .val d2, .val d3, .val (natD i), .val (clD c), .no, .no, .no, .no] = .ret (.v d) ρ' ∧ Told m cs d := by
  have hc := List.mem_of_getElem? hi
  have hs : ∀ l, [l] ∈ cs → holdsL v l := fun l h => by
    obtain ⟨j, hj⟩ := sing_mem (n := 0) h
    exact hv j l.1 l.2.1 l.2.2 hj
  have hno : ∀ l ∈ c, [l] ∉ cs := fun l h1 h2 => hn ⟨l, h1, hs l h2⟩
  have h2 : c.length = 2 := by
    rcases hC c hc with q | q
    · match c, q with
      | [l], _ => exact absurd hc (hno l (by simp))
    · exact q
  match c, h2 with
  | [l, n], _ =>
  have m1 := mu_lt hc rfl (l := l) (by simp) hno
  have m2 := mu_lt hc rfl (l := n) (by simp) hno
  have hd' : DecC (m - 1) (cf id) := by
    rcases hd with q | q
    · omega
    · exact q
  obtain ⟨f, o1, e1, t1⟩ := hd' (cs ++ [[l]]) P (hO.more hc (by simp)) hP hC.more (by simp; omega) (by omega)
  obtain ⟨g, o2, e2, t2⟩ := hd' (cs ++ [[n]]) P (hO.more hc (by simp)) hP hC.more (by simp; omega) (by omega)
  rw [csD_app] at e1 e2
  have z : cs.length + 1 ≤ 100000 := by omega
  have a1 : evS cf (b_decide_3_abt_a it is ic id) [.val (csD cs), .val d1, .val d2, .val d3, .val (natD i), .val (clD [l, n]), .no, .no, .no, .no] = .nx [.val (csD cs), .val d1, .val d2, .val d3, .val (natD i), .val (clD [l, n]), .val f, .no, .no, .no] := by
    simp [b_decide_3_abt_a, csD, clD, cut_one, z, e1]
  have a3 : evS cf (b_decide_3_abt_2_a it is ic id) [.val (csD cs), .val d1, .val d2, .val d3, .val (natD i), .val (clD [l, n]), .val f, .no, .no, .no] = .nx [.val (csD cs), .val d1, .val d2, .val d3, .val (natD i), .val (clD [l, n]), .val f, .val g, .no, .no] := by
    simp [b_decide_3_abt_2_a, csD, clD, cut_two, z, e2]
  rcases t1.met (k := m) hc (by simp) with ⟨t, x, rfl⟩ | ⟨u, rfl, t, td⟩
  · have a2 : evS cf (b_decide_3_abt_1_a it is ic id) [.val (csD cs), .val d1, .val d2, .val d3, .val (natD i), .val (clD [l, n]), .val (.tup [.str sMet, x]), .no, .no, .no] = .ret (.v (.tup [.str sMet, x])) [.val (csD cs), .val d1, .val d2, .val d3, .val (natD i), .val (clD [l, n]), .val (.tup [.str sMet, x]), .no, .no, .no] := by
      simp [b_decide_3_abt_1_a, sMet]
    exact ⟨_, _, (s_seq a1).trans (s_ret a2), t⟩
  · have a2 : evS cf (b_decide_3_abt_1_a it is ic id) [.val (csD cs), .val d1, .val d2, .val d3, .val (natD i), .val (clD [l, n]), .val (.tup [.str sNone, u]), .no, .no, .no] = .nx [.val (csD cs), .val d1, .val d2, .val d3, .val (natD i), .val (clD [l, n]), .val (.tup [.str sNone, u]), .no, .no, .no] := by
      have : ¬ (PySem.Str.ofString "none" = PySem.Str.ofString "met") := by decide
      simp [b_decide_3_abt_1_a, sNone, this]
    rcases t2.met (k := m) hc (by simp) with ⟨t', x, rfl⟩ | ⟨w, rfl, t', td'⟩
    · have a4 : evS cf (b_decide_3_abt_3_a it is ic id) [.val (csD cs), .val d1, .val d2, .val d3, .val (natD i), .val (clD [l, n]), .val (.tup [.str sNone, u]), .val (.tup [.str sMet, x]), .no, .no] = .ret (.v (.tup [.str sMet, x])) [.val (csD cs), .val d1, .val d2, .val d3, .val (natD i), .val (clD [l, n]), .val (.tup [.str sNone, u]), .val (.tup [.str sMet, x]), .no, .no] := by
        simp [b_decide_3_abt_3_a, sMet]
      exact ⟨_, _, (s_seq a1).trans ((s_seq a2).trans ((s_seq a3).trans (s_ret a4))), t'⟩
    · have a4 : evS cf (b_decide_3_abt_3_a it is ic id) [.val (csD cs), .val d1, .val d2, .val d3, .val (natD i), .val (clD [l, n]), .val (.tup [.str sNone, u]), .val (.tup [.str sNone, w]), .no, .no] = .nx [.val (csD cs), .val d1, .val d2, .val d3, .val (natD i), .val (clD [l, n]), .val (.tup [.str sNone, u]), .val (.tup [.str sNone, w]), .no, .no] := by
        have : ¬ (PySem.Str.ofString "none" = PySem.Str.ofString "met") := by decide
        simp [b_decide_3_abt_3_a, sNone, this]
      have a5 : evS cf (b_decide_3_abt_4 it is ic id) [.val (csD cs), .val d1, .val d2, .val d3, .val (natD i), .val (clD [l, n]), .val (.tup [.str sNone, u]), .val (.tup [.str sNone, w]), .no, .no] = .ret (.v (.tup [.str sNone, .tup [.str sCase, natD i, u, w]])) [.val (csD cs), .val d1, .val d2, .val d3, .val (natD i), .val (clD [l, n]), .val (.tup [.str sNone, u]), .val (.tup [.str sNone, w]), .no, .no] := by
        simp [b_decide_3_abt_4, sNone, sCase]
      exact ⟨_, _, (s_seq a1).trans ((s_seq a2).trans ((s_seq a3).trans ((s_seq a4).trans a5))), .inr ⟨_, rfl, .case hi t t', by simp only [D.dep, depL, natD]; omega⟩⟩
theorem dec_loop {cs : List (List L3)} {P : List Str} (hch : ClHC (cf ic)) (hd : m = 0 ∨ DecC (m - 1) (cf id)) (hO : Over P cs) (hP : P.length ≤ 30) (hC : Cls cs) (hl : cs.length + m ≤ 900) (hm : mu cs ≤ m) {v : Str → Int}
    (hv : ∀ j x y w, (j, x, y, w) ∈ singF 0 cs → v x ≤ v y + w) {d1 d2 : D} : ∀ (rest : List (List L3)) (i : Nat) (j4 j5 : J), (∀ k c, rest[k]? = some c → cs[i + k]? = some c) →
    (∃ d ρ', forL (.tup [.n 4, .n 5]) (evS cf (b_decide_3_ab it is ic id)) (pairs i (rest.map clD)) [.val (csD cs), .val d1, .val d2, .val (valsD (Tm cs ++ [eS]) v), j4.s, j5.s, .no, .no, .no, .no] = .ret (.v d) ρ' ∧ Told m cs d) ∨
    (∃ (k4 k5 : J), forL (.tup [.n 4, .n 5]) (evS cf (b_decide_3_ab it is ic id)) (pairs i (rest.map clD)) [.val (csD cs), .val d1, .val d2, .val (valsD (Tm cs ++ [eS]) v), j4.s, j5.s, .no, .no, .no, .no] = .nx [.val (csD cs), .val d1, .val d2, .val (valsD (Tm cs ++ [eS]) v), k4.s, k5.s, .no, .no, .no, .no] ∧ ∀ c ∈ rest, holdsC v c)
  | [], i, j4, j5, _ => .inr ⟨j4, j5, rfl, fun c h => by cases h⟩
  | c :: rest, i, j4, j5, hr => by
    have hi : cs[i]? = some c := by simpa using hr 0 c rfl
    have hc := List.mem_of_getElem? hi
    have hcl : c.length ≤ 1000 := by rcases hC c hc with q | q <;> omega
    obtain ⟨o, e⟩ := hch c (Tm cs ++ [eS]) v (fun l hl => ⟨in_T (allT_mem.mpr ⟨c, hc, l, hl, .inl rfl⟩), in_T (allT_mem.mpr ⟨c, hc, l, hl, .inr rfl⟩)⟩) hcl
    have ha : asgT (.tup [.n 4, .n 5]) (.tup [.int (i : Int), clD c]) [.val (csD cs), .val d1, .val d2, .val (valsD (Tm cs ++ [eS]) v), j4.s, j5.s, .no, .no, .no, .no] = some [.val (csD cs), .val d1, .val d2, .val (valsD (Tm cs ++ [eS]) v), .val (natD i), .val (clD c), .no, .no, .no, .no] := by simp [natD]
    rw [List.map_cons, pairs, forL, ha]
    by_cases hh : holdsC v c
    · have e1 : evS cf (b_decide_3_ab it is ic id) [.val (csD cs), .val d1, .val d2, .val (valsD (Tm cs ++ [eS]) v), .val (natD i), .val (clD c), .no, .no, .no, .no] = .nx [.val (csD cs), .val d1, .val d2, .val (valsD (Tm cs ++ [eS]) v), .val (natD i), .val (clD c), .no, .no, .no, .no] := by
        simp [b_decide_3_ab, e, hh]
      simp only [e1]
      rcases dec_loop hch hd hO hP hC hl hm hv (d1 := d1) (d2 := d2) rest (i + 1) (.v (natD i)) (.v (clD c)) (fun k c' hk => by
        have := hr (k + 1) c' (by simpa using hk)
        rw [show i + (k + 1) = i + 1 + k by omega] at this; exact this) with ⟨d, ρ', q1, q2⟩ | ⟨k4, k5, q1, q2⟩
      · exact .inl ⟨d, ρ', q1, q2⟩
      · exact .inr ⟨k4, k5, q1, fun c' hc' => by
          rcases List.mem_cons.mp hc' with q | q
          · rw [q]; exact hh
          · exact q2 c' q⟩
    · left
      obtain ⟨d, ρ', q1, q2⟩ := dec_branch (cf := cf) (it := it) (is := is) (ic := ic) (id := id) hd hO hP hC hl hm hi hv hh (d1 := d1) (d2 := d2) (d3 := valsD (Tm cs ++ [eS]) v)
      have e1 : evS cf (b_decide_3_ab it is ic id) [.val (csD cs), .val d1, .val d2, .val (valsD (Tm cs ++ [eS]) v), .val (natD i), .val (clD c), .no, .no, .no, .no] = .ret (.v d) ρ' := by
        simp [b_decide_3_ab, e, hh]
        exact q1
      exact ⟨d, ρ', by simp only [e1], q2⟩
theorem decide_ok (ht : TermsOfC (cf it)) (hs : SettledC (cf is)) (hch : ClHC (cf ic)) (hd : m = 0 ∨ DecC (m - 1) (cf id)) : DecC m (callBody cf ⟨10, 1, b_decide it is ic id⟩) := by
  intro cs P hO hP hC hl hm
  obtain ⟨o1, e1⟩ := ht cs P hO hP hC (by omega)
  have hTl := Tm_len hO
  have a1 : evS cf (b_decide_a it is ic id) [.val (csD cs), .no, .no, .no, .no, .no, .no, .no, .no, .no] = .nx [.val (csD cs), .own false (.lst ((Tm cs).map .str)), .no, .no, .no, .no, .no, .no, .no, .no] := by
    simp [b_decide_a, e1]
  rcases hs cs (Tm cs) (Tm_nodup cs) (Tm_noE cs) (by omega) (by omega) (links_in cs) with ⟨v, o2, e2, hv0, hv⟩ | ⟨s, x, k, n, o2, e2, hr, hn⟩
  · have a2 : evS cf (b_decide_1_a it is ic id) [.val (csD cs), .own false (.lst ((Tm cs).map .str)), .no, .no, .no, .no, .no, .no, .no, .no] = .nx [.val (csD cs), .val (.lst ((Tm cs).map .str)), .val .non, .val (valsD (Tm cs ++ [eS]) v), .no, .no, .no, .no, .no, .no] := by
      simp [b_decide_1_a, e2]
    have a3 : evS cf (b_decide_2_a it is ic id) [.val (csD cs), .val (.lst ((Tm cs).map .str)), .val .non, .val (valsD (Tm cs ++ [eS]) v), .no, .no, .no, .no, .no, .no] = .nx [.val (csD cs), .val (.lst ((Tm cs).map .str)), .val .non, .val (valsD (Tm cs ++ [eS]) v), .no, .no, .no, .no, .no, .no] := by
      simp [b_decide_2_a]
    have hit : evI cf (.ien (.var 0)) [.val (csD cs), .val (.lst ((Tm cs).map .str)), .val .non, .val (valsD (Tm cs ++ [eS]) v), .no, .no, .no, .no, .no, .no] = .ok (pairs 0 (cs.map clD)) [.val (csD cs), .val (.lst ((Tm cs).map .str)), .val .non, .val (valsD (Tm cs ++ [eS]) v), .no, .no, .no, .no, .no, .no] := by
      simp [csD]
    rcases dec_loop (it := it) (is := is) hch hd hO hP hC hl hm hv (d1 := .lst ((Tm cs).map .str)) (d2 := .non) cs 0 .no .no (fun k c h => by simpa using h) with ⟨d, ρ', q1, q2⟩ | ⟨k4, k5, q1, q2⟩
    · have a4 : evS cf (b_decide_3_a it is ic id) [.val (csD cs), .val (.lst ((Tm cs).map .str)), .val .non, .val (valsD (Tm cs ++ [eS]) v), .no, .no, .no, .no, .no, .no] = _ := (s_for hit).trans q1
      exact ⟨d, _, c_ret ((s_seq a1).trans ((s_seq a2).trans ((s_seq a3).trans (s_ret a4)))), q2⟩
    · have a4 : evS cf (b_decide_3_a it is ic id) [.val (csD cs), .val (.lst ((Tm cs).map .str)), .val .non, .val (valsD (Tm cs ++ [eS]) v), .no, .no, .no, .no, .no, .no] = _ := (s_for hit).trans q1
      have hdc := dcL_tab (vs := [8, 9]) (t := .n 9) (ek := frzE (evE cf (.var 9))) (e := frzE (evE cf (.sub (.var 3) (.var 9)))) (ρ0 := [.val (csD cs), .val (.lst ((Tm cs).map .str)), .val .non, .val (valsD (Tm cs ++ [eS]) v), k4.s, k5.s, .no, .no, .no, .no]) (f := fun x => .int (v x)) (Tm_nodup cs) fun x hx =>
        ⟨[.val (csD cs), .val (.lst ((Tm cs).map .str)), .val .non, .val (valsD (Tm cs ++ [eS]) v), k4.s, k5.s, .no, .no, .no, .val (.str x)], [.val (csD cs), .val (.lst ((Tm cs).map .str)), .val .non, .val (valsD (Tm cs ++ [eS]) v), k4.s, k5.s, .no, .no, .no, .val (.str x)], [.val (csD cs), .val (.lst ((Tm cs).map .str)), .val .non, .val (valsD (Tm cs ++ [eS]) v), k4.s, k5.s, .no, .no, .no, .val (.str x)], by simp, by simp, by
          have lx := look_tab (K := Tm cs ++ [eS]) (f := fun z => .int (v z)) (x := x) (by simp [hx])
          simp [valsD, lx], rfl, rfl⟩
      have e5 := ev_dc (cf := cf) (vs := [8, 9]) (t := .n 9) (it := .iseq (.var 1)) (c := .tyes) (k := .var 9) (e := .sub (.var 3) (.var 9)) (ρ := [.val (csD cs), .val (.lst ((Tm cs).map .str)), .val .non, .val (valsD (Tm cs ++ [eS]) v), k4.s, k5.s, .no, .no, .no, .no]) (ρ1 := [.val (csD cs), .val (.lst ((Tm cs).map .str)), .val .non, .val (valsD (Tm cs ++ [eS]) v), k4.s, k5.s, .no, .no, .no, .no]) (by simp) rfl (by rw [List.length_map]; omega) hdc
      have e6 := e5.trans (show _ = Res.ok (.f (valsD (Tm cs) v)) [.val (csD cs), .val (.lst ((Tm cs).map .str)), .val .non, .val (valsD (Tm cs ++ [eS]) v), k4.s, k5.s, .no, .no, .no, .no] from rfl)
      have a5 : evS cf (b_decide_4 it is ic id) [.val (csD cs), .val (.lst ((Tm cs).map .str)), .val .non, .val (valsD (Tm cs ++ [eS]) v), k4.s, k5.s, .no, .no, .no, .no] = .ret (.v (.tup [.str sMet, valsD (Tm cs) v])) [.val (csD cs), .val (.lst ((Tm cs).map .str)), .val .non, .val (valsD (Tm cs ++ [eS]) v), k4.s, k5.s, .no, .no, .no, .no] := by
        unfold b_decide_4
        generalize (E.dc [8, 9] (.n 9) (.iseq (.var 1)) .tyes (.var 9) (.sub (.var 3) (.var 9))) = X at e6 ⊢
        simp [e6, sMet]
      exact ⟨_, _, c_ret ((s_seq a1).trans ((s_seq a2).trans ((s_seq a3).trans ((s_seq a4).trans a5)))), .inl ⟨v, rfl, hv0, q2⟩⟩
  · have a2 : evS cf (b_decide_1_a it is ic id) [.val (csD cs), .own false (.lst ((Tm cs).map .str)), .no, .no, .no, .no, .no, .no, .no, .no] = .nx [.val (csD cs), .val (.lst ((Tm cs).map .str)), .val (.tup (ringD s x k n)), .val .non, .no, .no, .no, .no, .no, .no] := by
      simp [b_decide_1_a, e2]
    have a3 : evS cf (b_decide_2_a it is ic id) [.val (csD cs), .val (.lst ((Tm cs).map .str)), .val (.tup (ringD s x k n)), .val .non, .no, .no, .no, .no, .no, .no] = .ret (.v (.tup [.str sNone, .tup [.str sRing, .tup (ringD s x k n)]])) [.val (csD cs), .val (.lst ((Tm cs).map .str)), .val (.tup (ringD s x k n)), .val .non, .no, .no, .no, .no, .no, .no] := by
      simp [b_decide_2_a, sNone, sRing]
    refine ⟨_, _, c_ret ((s_seq a1).trans ((s_seq a2).trans (s_ret a3))), .inr ⟨_, rfl, ?_⟩⟩
    have h1 := Closed.ring (ring_of hr)
    have h2 : ((List.range n).map fun j => Rx.bi s (Rx.walk s x (k + j))).map natD = ringD s x k n := by rw [List.map_map]; rfl
    refine ⟨by rw [h2] at h1; exact h1, ?_⟩
    rw [← h2]
    have := depL_nats ((List.range n).map fun j => Rx.bi s (Rx.walk s x (k + j)))
    simp only [D.dep, depL, this]; omega
end
end PyI
set_option maxHeartbeats 1000000
/-! PyN6: closed trees judged, by the program and by the law. -/
namespace PyI
open PySem PySem.Spec PyProof.Rows L2
mutual
/-- no instance of a class, no script inside tuples and lists -/
def D.nic : D → Bool
  | .tup xs => decide (xs.length ≤ 1000) && nicL xs
  | .lst xs => nicL xs
  | .ins _ _ => false
  | .scr _ => false
  | _ => true
def nicL : List D → Bool
  | [] => true
  | x :: xs => x.nic && nicL xs
end
theorem nicL_mem : ∀ {xs : List D}, nicL xs = true → ∀ x ∈ xs, x.nic = true
  | [], _, x, h => by cases h
  | y :: ys, h, x, hx => by
    simp only [nicL, Bool.and_eq_true] at h
    rcases List.mem_cons.mp hx with e | e
    · rw [e]; exact h.1
    · exact nicL_mem h.2 x e
theorem nic_tup {xs : List D} (h : (D.tup xs).nic = true) : xs.length ≤ 1000 ∧ nicL xs = true := by
  simpa [D.nic] using h
def idx? (n : Nat) : D → Option Nat
  | .int i => if 0 ≤ i ∧ i < n then some i.toNat else none
  | _ => none
theorem idx_some {n : Nat} {d : D} {i : Nat} (h : idx? n d = some i) : d = natD i ∧ i < n := by
  unfold idx? at h
  split at h
  · rename_i j
    split at h
    · rename_i hj
      cases h
      refine ⟨?_, by omega⟩
      unfold natD
      rw [Int.toNat_of_nonneg hj.1]
    · cases h
  · cases h
theorem idx_nat {n i : Nat} (h : i < n) : idx? n (natD i) = some i := by
  unfold idx? natD
  simp only
  rw [if_pos ⟨by omega, by omega⟩]; rfl
def ringIs (cs : List (List L3)) : List Nat → List D → Option (List Nat × List L3)
  | _, [] => some ([], [])
  | seen, d :: r => match idx? cs.length d with
    | none => none
    | some i => match pickS cs i with
      | none => none
      | some l => if i ∈ seen then none else (ringIs cs (seen ++ [i]) r).map fun q => (i :: q.1, l :: q.2)
def chainOk (ls : List L3) : Prop := ls.map (·.2.1) = (ls.map (·.1)).drop 1 ++ (ls.map (·.1)).take 1
instance {ls : List L3} : Decidable (chainOk ls) := by unfold chainOk; infer_instance
def ringB (cs : List (List L3)) : D → Bool
  | .tup ds => match ds with
    | [] => false
    | _ => match ringIs cs [] ds with
      | some (_, ls) => decide ((ls.map (·.2.2)).sum < 0) && decide (chainOk ls)
      | none => false
  | _ => false
theorem ringIs_map {cs : List (List L3)} : ∀ {ds : List D} {seen is : List Nat} {ls : List L3}, ringIs cs seen ds = some (is, ls) → ds = is.map natD ∧ is.map (pickS cs) = ls.map some ∧ (seen ++ is).Nodup ∧ (∀ i ∈ is, i < cs.length) ∨ ¬ seen.Nodup
  | [], seen, is, ls, h => by
    cases h
    by_cases hn : seen.Nodup
    · exact .inl ⟨rfl, rfl, by simpa using hn, by simp⟩
    · exact .inr hn
  | d :: r, seen, is, ls, h => by
    simp only [ringIs] at h
    split at h
    · cases h
    · rename_i i hi
      obtain ⟨e1, e2⟩ := idx_some hi
      split at h
      · cases h
      · rename_i l hl
        split at h
        · cases h
        · rename_i hs
          cases hr : ringIs cs (seen ++ [i]) r with
          | none => rw [hr] at h; cases h
          | some q =>
            rw [hr] at h
            cases h
            obtain ⟨is', ls'⟩ := q
            rcases ringIs_map hr with ⟨h1, h2, h3, h4⟩ | h1
            · left
              refine ⟨by rw [List.map_cons, e1, h1], by rw [List.map_cons, List.map_cons, hl, h2], by simpa using h3, fun j hj => ?_⟩
              rcases List.mem_cons.mp hj with q | q
              · rw [q]; exact e2
              · exact h4 j q
            · right
              intro hn
              refine h1 ?_
              rw [List.nodup_append]
              refine ⟨hn, by simp, fun a ha b hb e => hs ?_⟩
              have hb' : b = i := by simpa using hb
              rw [← hb', ← e]; exact ha
theorem pick_lt {cs : List (List L3)} {i : Nat} {l : L3} (h : pickS cs i = some l) : i < cs.length := by
  unfold pickS at h
  split at h
  · rename_i e; exact (List.getElem?_eq_some_iff.mp e).1
  · cases h
theorem ringIs_of {cs : List (List L3)} : ∀ {is seen : List Nat} {ls : List L3}, is.map (pickS cs) = ls.map some → (seen ++ is).Nodup → ringIs cs seen (is.map natD) = some (is, ls)
  | [], seen, [], _, _ => rfl
  | [], seen, _ :: _, h, _ => by cases h
  | _ :: _, seen, [], h, _ => by cases h
  | i :: is, seen, l :: ls, h, hn => by
    simp only [List.map_cons, List.cons.injEq] at h
    have hns : i ∉ seen := fun q => by
      rw [List.nodup_append] at hn
      exact hn.2.2 i q i (by simp) rfl
    simp only [List.map_cons, ringIs, idx_nat (pick_lt h.1), h.1, if_neg hns]
    rw [ringIs_of h.2 (by simpa using hn)]; rfl
def closesN : Nat → List (List L3) → D → Bool
  | 0, _, _ => false
  | n + 1, cs, t => match t with
    | .tup [.str s, r] => if s = sRing then ringB cs r else false
    | .tup [.str s, i, t, u] => if s = sCase then (match idx? cs.length i with
      | some i => (match cs[i]? with
        | some [l, m] => closesN n (cs ++ [[l]]) t && closesN n (cs ++ [[m]]) u
        | _ => false)
      | none => false) else false
    | _ => false
theorem dep4 {a b c d : D} {n : Nat} (h : (D.tup [a, b, c, d]).dep ≤ n + 1) : c.dep ≤ n ∧ d.dep ≤ n := by
  simp only [D.dep, depL] at h
  omega
/-- cases nested at most so deep -/
def CD : Nat → D → Prop
  | 0, d => ∀ xs, d ≠ .tup xs
  | n + 1, d => ∀ s i t u, d = .tup [.str s, i, t, u] → CD n t ∧ CD n u
theorem CD_dep : ∀ {n : Nat} {d : D}, d.dep ≤ n → CD n d
  | 0, d, h => fun xs e => by rw [e] at h; simp [D.dep] at h
  | n + 1, d, h => fun s i t u e => by
    subst e
    obtain ⟨h1, h2⟩ := dep4 h
    exact ⟨CD_dep h1, CD_dep h2⟩
theorem CD_up : ∀ {n : Nat} {d : D}, CD n d → CD (n + 1) d
  | 0, d, h => fun s i t u e => absurd e (h _)
  | n + 1, d, h => fun s i t u e => ⟨CD_up (h s i t u e).1, CD_up (h s i t u e).2⟩
theorem CD_le {n m : Nat} {d : D} (h : CD n d) (hm : n ≤ m) : CD m d := by
  induction hm with
  | refl => exact h
  | step _ ih => exact CD_up ih
theorem closed_closes {cs : List (List L3)} {t : D} (h : Closed cs t) : ∀ n, CD n t → closesN n cs t = true := by
  induction h with
  | @ring cs is ls r =>
    intro n hn
    cases n with
    | zero => exact absurd rfl (hn _)
    | succ n =>
      simp only [closesN, if_true]
      have hne : is.map natD ≠ [] := fun z => r.ne (by simpa using z)
      unfold ringB
      cases hd : is.map natD with
      | nil => exact absurd hd hne
      | cons d ds =>
        simp only
        rw [← hd, ringIs_of r.pk (by simpa using r.nd)]
        simp only [Bool.and_eq_true, decide_eq_true_eq]
        exact ⟨r.neg, r.ch⟩
  | @case cs i l m t u e h1 h2 ih1 ih2 =>
    intro n hn
    cases n with
    | zero => exact absurd rfl (hn _)
    | succ n =>
      obtain ⟨d1, d2⟩ := hn _ _ _ _ rfl
      have hi : i < cs.length := (List.getElem?_eq_some_iff.mp e).1
      have hc : ¬ (sCase = sRing) := by decide
      simp only [closesN, if_true, idx_nat hi, e, ih1 n d1, ih2 n d2, Bool.and_self]
theorem ring_ok_of {cs : List (List L3)} {d : D} (h : ringB cs d = true) : ∃ is ls, d = .tup (is.map natD) ∧ RingOk cs is ls := by
  unfold ringB at h
  split at h
  · rename_i ds
    split at h
    · cases h
    · rename_i hne
      split at h
      · rename_i is ls hr
        rcases ringIs_map hr with ⟨h1, h2, h3, _⟩ | q
        · simp only [Bool.and_eq_true, decide_eq_true_eq] at h
          refine ⟨is, ls, by rw [h1], ⟨fun z => hne (by rw [h1, z]; rfl), by simpa using h3, h2, h.2, h.1⟩⟩
        · exact absurd List.nodup_nil q
      · cases h
  · cases h
theorem closes_closed : ∀ {n : Nat} {cs : List (List L3)} {t : D}, closesN n cs t = true → Closed cs t
  | 0, _, _, h => by cases h
  | n + 1, cs, t, h => by
    simp only [closesN] at h
    split at h
    · rename_i s r
      split at h
      · rename_i e
        subst e
        obtain ⟨is, ls, rfl, hr⟩ := ring_ok_of h
        exact .ring hr
      · cases h
    · rename_i s i t u
      split at h
      · rename_i e
        subst e
        split at h
        · rename_i i' hi
          obtain ⟨rfl, _⟩ := idx_some hi
          split at h
          · rename_i l m hc
            obtain ⟨h1, h2⟩ := Bool.and_eq_true_iff.mp h
            exact .case hc (closes_closed h1) (closes_closed h2)
          · cases h
        · cases h
      · cases h
    · cases h
/-! ### the program's checks -/
theorem cut_to {α : Type} (xs : List α) (n : Nat) : cutD xs none (some (n : Int)) = xs.take n := by
  unfold cutD
  have h1 : HT.sIx xs.length 0 none = 0 := rfl
  rw [h1, HT.sIx_nat, List.drop_zero, Nat.sub_zero]
  by_cases h : n ≤ xs.length
  · rw [Nat.min_eq_left h] <;> rfl
  · first
      | rw [Nat.min_eq_right (by omega), List.take_length, List.take_of_length_le (by omega)]
      | (rw [List.take_of_length_le (by omega), List.take_of_length_le (by omega)])
theorem cut_to1 {α : Type} (xs : List α) : cutD xs none (some 1) = xs.take 1 := cut_to xs 1
theorem cut_from1 {α : Type} (xs : List α) : cutD xs (some 1) none = xs.drop 1 := by
  unfold cutD
  have h2 : HT.sIx xs.length xs.length none = xs.length := rfl
  rw [h2, show (1 : Int) = ((1 : Nat) : Int) from rfl, HT.sIx_nat]
  cases xs with
  | nil => rfl
  | cons x xs =>
    rw [Nat.min_eq_left (by simp)]
    rw [List.take_of_length_le (by simp)]
theorem depL_strs : ∀ l : List Str, depL (l.map D.str) = 0
  | [] => rfl
  | x :: l => by simp [depL_strs l]
theorem eqvL_strs : ∀ a b : List Str, eqvL (a.map D.str) (b.map D.str) = some (decide (a = b))
  | [], [] => by simp
  | [], y :: b => by simp
  | x :: a, [] => by simp
  | x :: a, y :: b => by
    have := eqvL_strs a b
    simp only [List.map_cons, eqvL, eqv, D.odd, Bool.or_self, Bool.false_eq_true, if_false, this, eqF]
    by_cases e : x = y
    · subst e; by_cases q : a = b <;> simp [q]
    · simp [e]
section
variable {cf : CF} {ii ix : Nat}
def IntC (c : List Arg → CRes) : Prop := ∀ d : D, d.nic = true → ∃ o, c [.v d] = .ok (.v (.bl (match d with | .int _ => true | _ => false))) o
theorem is_integer_ok : IntC (callBody cf ⟨1, 1, b_is_integer⟩) := by
  intro d hn
  refine ⟨_, c_ret (ρ' := [.val d]) ?_⟩
  cases d with
  | ins c fs => cases hn
  | scr ns => cases hn
  | _ => rfl
def IdxC (c : List Arg → CRes) : Prop := ∀ (d : D) (n : Nat), d.nic = true → ∃ o, c [.v d, .v (.int (n : Int))] = .ok (.v (.bl (idx? n d).isSome)) o
theorem is_index_ok (h : IntC (cf ii)) : IdxC (callBody cf ⟨2, 2, b_is_index ii⟩) := by
  intro d n hn
  obtain ⟨o, e⟩ := h d hn
  refine ⟨_, c_ret (ρ' := [.val d, .val (.int n)]) ?_⟩
  cases d with
  | int i =>
    by_cases h1 : 0 ≤ i <;> by_cases h2 : i < n <;> simp [b_is_index, e, idx?, h1, h2]
  | _ => simp [b_is_index, e, idx?]
/-- the clause at an index: its length -/
theorem pick_two {cs : List (List L3)} (hC : Cls cs) {i : Nat} (hi : i < cs.length) : ∃ c, cs[i]? = some c ∧ ((∃ l, c = [l] ∧ pickS cs i = some l) ∨ (∃ l m, c = [l, m] ∧ pickS cs i = none)) := by
  refine ⟨cs[i], List.getElem?_eq_getElem hi, ?_⟩
  have hc := hC cs[i] (List.getElem_mem hi)
  have hp : pickS cs i = (match (some cs[i] : Option (List L3)) with | some [l] => some l | _ => none) := by unfold pickS; rw [List.getElem?_eq_getElem hi] <;> rfl
  generalize cs[i] = c at hc hp ⊢
  match c, hc with
  | [l], _ => exact .inl ⟨l, rfl, hp⟩
  | [l, m], _ => exact .inr ⟨l, m, rfl, hp⟩
theorem at_nat {cs : List (List L3)} {i : Nat} {c : List L3} (h : cs[i]? = some c) : (cs.map clD)[i]? = some (clD c) := by rw [List.getElem?_map, h]; rfl
theorem isr_bad {cs : List (List L3)} {ds : List D} {tot k : Int} {d : D} {o : List D} (e : cf ix [.v d, .v (.int (cs.length : Int))] = .ok (.v (.bl false)) o) :
    evS cf (b_is_ring_2_ab ix) [.val (csD cs), .val (.tup ds), .val (.int tot), .val (.int k), .val d, .no, .no, .no] = .ret (.v (.bl false)) [.val (csD cs), .val (.tup ds), .val (.int tot), .val (.int k), .val d, .no, .no, .no] := by
  refine s_ret ?_
  simp [b_is_ring_2_ab_a, csD, e]
theorem isr_two {cs : List (List L3)} {ds : List D} {tot k : Int} {i : Nat} {l m : L3} {o : List D} (e : cf ix [.v (.int i), .v (.int (cs.length : Int))] = .ok (.v (.bl true)) o) (hc : cs[i]? = some [l, m]) :
    evS cf (b_is_ring_2_ab ix) [.val (csD cs), .val (.tup ds), .val (.int tot), .val (.int k), .val (.int i), .no, .no, .no] = .ret (.v (.bl false)) [.val (csD cs), .val (.tup ds), .val (.int tot), .val (.int k), .val (.int i), .no, .no, .no] := by
  refine s_ret ?_
  obtain ⟨hlt, hg⟩ := List.getElem?_eq_some_iff.mp hc
  simp [b_is_ring_2_ab_a, csD, e, hg, hlt, clD]
theorem isr_one {cs : List (List L3)} {ds : List D} {tot k : Int} {i : Nat} {l : L3} {o : List D} {seen : List Nat} (e : cf ix [.v (.int i), .v (.int (cs.length : Int))] = .ok (.v (.bl true)) o) (hc : cs[i]? = some [l]) (hct : cutD ds none (some k) = seen.map natD) :
    evS cf (b_is_ring_2_ab_a ix) [.val (csD cs), .val (.tup ds), .val (.int tot), .val (.int k), .val (.int i), .no, .no, .no] = if i ∈ seen then .ret (.v (.bl false)) [.val (csD cs), .val (.tup ds), .val (.int tot), .val (.int k), .val (.int i), .no, .no, .no] else .nx [.val (csD cs), .val (.tup ds), .val (.int tot), .val (.int k), .val (.int i), .no, .no, .no] := by
  obtain ⟨hlt, hg⟩ := List.getElem?_eq_some_iff.mp hc
  by_cases hs : i ∈ seen <;> simp [b_is_ring_2_ab_a, csD, e, hg, hlt, clD, hct, hs]
theorem isr_aug {cs : List (List L3)} {d1 : D} {tot k : Int} {i : Nat} {l : L3} (hc : cs[i]? = some [l]) :
    evS cf (b_is_ring_2_ab_1 ix) [.val (csD cs), .val d1, .val (.int tot), .val (.int k), .val (.int i), .no, .no, .no] = .nx [.val (csD cs), .val d1, .val (.int (tot + l.2.2)), .val (.int k), .val (.int i), .no, .no, .no] := by
  obtain ⟨hlt, hg⟩ := List.getElem?_eq_some_iff.mp hc
  simp [b_is_ring_2_ab_1, csD, hg, hlt, clD, litD]
theorem isr_loop {cs : List (List L3)} (hC : Cls cs) (hx : IdxC (cf ix)) {ds : List D} (hn : ∀ d ∈ ds, d.nic = true) : ∀ (rest : List D) (seen : List Nat) (tot : Int) (j3 : J) (j4 : I), ds = seen.map natD ++ rest →
    (∃ is ls, ∃ (k3 : J) (k4 : I), ringIs cs seen rest = some (is, ls) ∧ forL (.tup [.n 3, .n 4]) (evS cf (b_is_ring_2_ab ix)) (pairs seen.length rest) [.val (csD cs), .val (.tup ds), .val (.int tot), j3.s, j4.s, .no, .no, .no] = .nx [.val (csD cs), .val (.tup ds), .val (.int (tot + (ls.map (·.2.2)).sum)), k3.s, k4.s, .no, .no, .no]) ∨
    (ringIs cs seen rest = none ∧ ∃ ρ', forL (.tup [.n 3, .n 4]) (evS cf (b_is_ring_2_ab ix)) (pairs seen.length rest) [.val (csD cs), .val (.tup ds), .val (.int tot), j3.s, j4.s, .no, .no, .no] = .ret (.v (.bl false)) ρ')
  | [], seen, tot, j3, j4, _ => .inl ⟨[], [], j3, j4, rfl, by simp [forL, pairs]⟩
  | d :: r, seen, tot, j3, j4, hd => by
    have hm : d ∈ ds := by rw [hd]; simp
    obtain ⟨o, e⟩ := hx d cs.length (hn d hm)
    have ha : asgT (.tup [.n 3, .n 4]) (.tup [.int (seen.length : Int), d]) [.val (csD cs), .val (.tup ds), .val (.int tot), j3.s, j4.s, .no, .no, .no] = some [.val (csD cs), .val (.tup ds), .val (.int tot), .val (.int (seen.length : Int)), .val d, .no, .no, .no] := by simp
    have hct : cutD ds none (some (seen.length : Int)) = seen.map natD := by
      rw [cut_to, hd, List.take_append_of_le_length (by simp), List.take_of_length_le (by simp)]
    cases hi : idx? cs.length d with
    | none =>
      rw [hi] at e
      refine .inr ⟨by simp only [ringIs, hi], _, by simp only [pairs, forL, ha, isr_bad (ds := ds) (tot := tot) (k := (seen.length : Int)) e]; rfl⟩
    | some i =>
      obtain ⟨rfl, hlt⟩ := idx_some hi
      rw [hi] at e
      obtain ⟨c, hc, hp⟩ := pick_two hC hlt
      have e' : cf ix [.v (.int i), .v (.int (cs.length : Int))] = .ok (.v (.bl true)) o := e
      have ha' : asgT (.tup [.n 3, .n 4]) (.tup [.int (seen.length : Int), natD i]) [.val (csD cs), .val (.tup ds), .val (.int tot), j3.s, j4.s, .no, .no, .no] = some [.val (csD cs), .val (.tup ds), .val (.int tot), .val (.int (seen.length : Int)), .val (.int i), .no, .no, .no] := ha
      rcases hp with ⟨l, rfl, hp⟩ | ⟨l, m, rfl, hp⟩
      · have e1 := isr_one (cf := cf) (ix := ix) (ds := ds) (tot := tot) (k := (seen.length : Int)) (seen := seen) e' hc hct
        by_cases hs : i ∈ seen
        · rw [if_pos hs] at e1
          refine .inr ⟨by simp only [ringIs, hi, hp, if_pos hs], _, by simp only [pairs, forL, ha', show evS cf (b_is_ring_2_ab ix) _ = _ from s_ret e1]; rfl⟩
        · rw [if_neg hs] at e1
          have e2 : evS cf (b_is_ring_2_ab ix) [.val (csD cs), .val (.tup ds), .val (.int tot), .val (.int (seen.length : Int)), .val (.int i), .no, .no, .no] = _ := (s_seq e1).trans (isr_aug hc)
          have hlen : (seen ++ [i]).length = seen.length + 1 := by simp
          rcases isr_loop hC hx hn r (seen ++ [i]) (tot + l.2.2) (.v (.int (seen.length : Int))) (.v (.int i)) (by rw [hd]; simp) with ⟨is, ls, k3, k4, q1, q2⟩ | ⟨q1, ρ', q2⟩
          · refine .inl ⟨i :: is, l :: ls, k3, k4, by simp only [ringIs, hi, hp, if_neg hs, q1]; rfl, ?_⟩
            rw [hlen] at q2
            simp only [pairs, forL, ha', e2]
            refine q2.trans ?_
            rw [List.map_cons, List.sum_cons, Int.add_assoc]
          · refine .inr ⟨by simp only [ringIs, hi, hp, if_neg hs, q1]; rfl, ρ', ?_⟩
            rw [hlen] at q2
            simp only [pairs, forL, ha', e2]
            exact q2
      · refine .inr ⟨by simp only [ringIs, hi, hp], _, by simp only [pairs, forL, ha', isr_two (ds := ds) (tot := tot) (k := (seen.length : Int)) e' hc]; rfl⟩
theorem pick_at {cs : List (List L3)} {is : List Nat} {ls : List L3} (hp : is.map (pickS cs) = ls.map some) {i : Nat} (hi : i ∈ is) : ∃ l, pickS cs i = some l ∧ cs[i]? = some [l] := by
  have h1 : pickS cs i ∈ ls.map some := by rw [← hp]; exact List.mem_map.mpr ⟨i, hi, rfl⟩
  obtain ⟨l, _, e⟩ := List.mem_map.mp h1
  refine ⟨l, e.symm, ?_⟩
  have e' := e.symm
  unfold pickS at e'
  split at e'
  · rename_i l' h; cases e'; exact h
  · cases e'
theorem map_pick {cs : List (List L3)} {β : Type} {f : L3 → β} {z : β} : ∀ {is : List Nat} {ls : List L3}, is.map (pickS cs) = ls.map some → is.map (fun i => match pickS cs i with | some l => f l | none => z) = ls.map f
  | [], [], _ => rfl
  | [], _ :: _, h => by cases h
  | _ :: _, [], h => by cases h
  | i :: is, l :: ls, h => by
    simp only [List.map_cons, List.cons.injEq] at h
    simp only [List.map_cons, h.1, map_pick h.2]
theorem ends_ok {X : E} {cs : List (List L3)} {is : List Nat} {ls : List L3} (hp : is.map (pickS cs) = ls.map some) (hl : is.length ≤ 100000) {g : L3 → D} {d2 : D} {s3 s5 s6 : Slot} {k4 : I}
    (hev : ∀ (i : Nat) (l : L3), cs[i]? = some [l] → frzE (evE cf X) [.val (csD cs), .val (.tup (is.map natD)), .val d2, s3, .val (.int (i : Int)), s5, s6, .no] = .ok (.v (g l)) [.val (csD cs), .val (.tup (is.map natD)), .val d2, s3, .val (.int (i : Int)), s5, s6, .no]) :
    evE cf (.lc [7, 4] (.n 4) (.iseq (.var 1)) .tyes X) [.val (csD cs), .val (.tup (is.map natD)), .val d2, s3, k4.s, s5, s6, .no] = .ok (.f (.lst (ls.map g))) [.val (csD cs), .val (.tup (is.map natD)), .val d2, s3, k4.s, s5, s6, .no] := by
  have hlc := lcL_pure (vs := [7, 4]) (t := .n 4) (c := yesT) (e := frzE (evE cf X)) (ρ0 := [.val (csD cs), .val (.tup (is.map natD)), .val d2, s3, .no, s5, s6, .no]) (fun _ => true) (fun d => match d with | .int i => (match pickS cs i.toNat with | some l => g l | none => .non) | _ => .non) (is.map natD) [] fun d hd => by
    obtain ⟨i, hi, rfl⟩ := List.mem_map.mp hd
    obtain ⟨l, h1, h2⟩ := pick_at hp hi
    refine ⟨[.val (csD cs), .val (.tup (is.map natD)), .val d2, s3, .val (natD i), s5, s6, .no], _, by simp, rfl, fun _ => ⟨[.val (csD cs), .val (.tup (is.map natD)), .val d2, s3, .val (natD i), s5, s6, .no], ?_, rfl, rfl⟩, fun z => by cases z⟩
    refine (hev i l h2).trans ?_
    simp [natD, h1]
  have e := e_lc (cf := cf) (vs := [7, 4]) (t := .n 4) (it := .iseq (.var 1)) (c := .tyes) (e := X) (ρ := [.val (csD cs), .val (.tup (is.map natD)), .val d2, s3, k4.s, s5, s6, .no]) (ρ1 := [.val (csD cs), .val (.tup (is.map natD)), .val d2, s3, k4.s, s5, s6, .no]) (items := is.map natD) (by simp) (by
      have := k4.nt
      simp only [noOwn, List.all_cons, List.all_nil, List.getElem?_cons_succ, List.getElem?_cons_zero, this]; rfl) (by rw [List.length_map]; omega) hlc
  refine e.trans ?_
  rw [List.filter_eq_self.mpr (fun _ _ => rfl), List.nil_append, List.map_map]
  have hm := map_pick (f := g) (z := D.non) hp
  have hm2 : List.map ((fun d => match d with | .int i => (match pickS cs i.toNat with | some l => g l | none => .non) | _ => .non) ∘ natD) is = ls.map g := by
    rw [← hm]
    refine List.map_congr_left fun i _ => ?_
    show (match pickS cs (((i : Nat) : Int).toNat) with | some l => g l | none => D.non) = _
    rw [Int.toNat_natCast]
  rw [hm2]
  rfl
def RingC (c : List Arg → CRes) : Prop := ∀ (cs : List (List L3)) (d : D), Cls cs → cs.length ≤ 1000 → d.nic = true → ∃ o, c [.v (csD cs), .v d] = .ok (.v (.bl (ringB cs d))) o
theorem ringIs_len {cs : List (List L3)} : ∀ {ds : List D} {seen is : List Nat} {ls : List L3}, ringIs cs seen ds = some (is, ls) → is.length = ds.length ∧ ∀ i ∈ is, i < cs.length
  | [], seen, is, ls, h => by cases h; exact ⟨rfl, by simp⟩
  | d :: r, seen, is, ls, h => by
    simp only [ringIs] at h
    split at h
    · cases h
    · rename_i i hi
      split at h
      · cases h
      · split at h
        · cases h
        · cases hr : ringIs cs (seen ++ [i]) r with
          | none => rw [hr] at h; cases h
          | some q =>
            rw [hr] at h
            cases h
            obtain ⟨is', ls'⟩ := q
            obtain ⟨h1, h2⟩ := ringIs_len hr
            exact ⟨by simp [h1], fun j hj => by
              rcases List.mem_cons.mp hj with e | e
              · rw [e]; exact (idx_some hi).2
              · exact h2 j e⟩
theorem is_ring_ok (hx : IdxC (cf ix)) : RingC (callBody cf ⟨8, 2, b_is_ring ix⟩) := by
  intro cs d hC hcs hn
  have bad : ∀ d : D, evS cf (b_is_ring_a ix) [.val (csD cs), .val d, .no, .no, .no, .no, .no, .no] = .ret (.v (.bl false)) [.val (csD cs), .val d, .no, .no, .no, .no, .no, .no] → ringB cs d = false → ∃ o, callBody cf ⟨8, 2, b_is_ring ix⟩ [.v (csD cs), .v d] = .ok (.v (.bl (ringB cs d))) o := fun d h1 h2 => by
    rw [h2]; exact ⟨_, c_ret (s_ret h1)⟩
  cases d with
  | tup ds =>
    cases ds with
    | nil => exact bad _ (by simp [b_is_ring_a]) rfl
    | cons d0 ds0 =>
      have hne : (d0 :: ds0) ≠ [] := by simp
      have hB : ringB cs (.tup (d0 :: ds0)) = match ringIs cs [] (d0 :: ds0) with
        | some (_, ls) => decide ((ls.map (·.2.2)).sum < 0) && decide (chainOk ls)
        | none => false := rfl
      rw [hB]
      have hnl : ∀ d ∈ d0 :: ds0, d.nic = true := nicL_mem (nic_tup hn).2
      generalize d0 :: ds0 = ds at hne hnl
      have hlz : ¬ ((ds.length : Int) = 0) := fun z => hne (List.eq_nil_of_length_eq_zero (by omega))
      have a1 : evS cf (b_is_ring_a ix) [.val (csD cs), .val (.tup ds), .no, .no, .no, .no, .no, .no] = .nx [.val (csD cs), .val (.tup ds), .no, .no, .no, .no, .no, .no] := by simp [b_is_ring_a, hne]
      have a2 : evS cf (b_is_ring_1_a ix) [.val (csD cs), .val (.tup ds), .no, .no, .no, .no, .no, .no] = .nx [.val (csD cs), .val (.tup ds), .val (.int 0), .no, .no, .no, .no, .no] := by simp [b_is_ring_1_a]
      have hit : evI cf (.ien (.var 1)) [.val (csD cs), .val (.tup ds), .val (.int 0), .no, .no, .no, .no, .no] = .ok (pairs 0 ds) [.val (csD cs), .val (.tup ds), .val (.int 0), .no, .no, .no, .no, .no] := by simp
      rcases isr_loop (cf := cf) (ix := ix) hC hx hnl ds [] 0 .no .no rfl with ⟨is, ls, k3, k4, q1, q2⟩ | ⟨q1, ρ', q2⟩
      · rw [q1]
        show ∃ o, _ = CRes.ok (.v (.bl (decide ((ls.map (·.2.2)).sum < 0) && decide (chainOk ls)))) o
        have a3 : evS cf (b_is_ring_2_a ix) [.val (csD cs), .val (.tup ds), .val (.int 0), .no, .no, .no, .no, .no] = _ := (s_for hit).trans q2
        rw [Int.zero_add] at a3
        rcases ringIs_map q1 with ⟨h1, h2, h3, h4⟩ | q
        · subst h1
          have hle : is.length ≤ 1000 := by
            have := nodup_len (B := is) (K := List.range cs.length) (by simpa using h3) fun i hi => List.mem_range.mpr (h4 i hi)
            rw [List.length_range] at this; omega
          have hll : ls.length ≤ 1000 := by
            have := congrArg List.length h2
            simp only [List.length_map] at this; omega
          generalize (ls.map (·.2.2)).sum = tot at a3 ⊢
          have b1 := ends_ok (cf := cf) (X := .sub (.sub (.sub (.var 0) (.var 4)) (.cst (.int 0))) (.cst (.int 1))) h2 (by omega) (g := fun l => .str l.2.1) (d2 := .int tot) (s3 := k3.s) (s5 := .no) (s6 := .no) (k4 := k4) fun i l hc => by
            obtain ⟨hlt, hg⟩ := List.getElem?_eq_some_iff.mp hc
            simp [csD, hg, hlt, clD, litD]
          have a4 := s_set (i := 5) b1 (ρ2 := [.val (csD cs), .val (.tup (is.map natD)), .val (.int tot), k3.s, k4.s, .own false (.lst (ls.map fun l => .str l.2.1)), .no, .no]) (by simp)
          have b2 := ends_ok (cf := cf) (X := .sub (.sub (.sub (.var 0) (.var 4)) (.cst (.int 0))) (.cst (.int 0))) h2 (by omega) (g := fun l => .str l.1) (d2 := .int tot) (s3 := k3.s) (s5 := .own false (.lst (ls.map fun l => .str l.2.1))) (s6 := .no) (k4 := k4) fun i l hc => by
            obtain ⟨hlt, hg⟩ := List.getElem?_eq_some_iff.mp hc
            simp [csD, hg, hlt, clD, litD]
          have a5 := s_set (i := 6) b2 (ρ2 := [.val (csD cs), .val (.tup (is.map natD)), .val (.int tot), k3.s, k4.s, .own false (.lst (ls.map fun l => .str l.2.1)), .own false (.lst (ls.map fun l => .str l.1)), .no]) (by simp)
          have e1 : (ls.map fun l => D.str l.2.1) = (ls.map (·.2.1)).map D.str := by rw [List.map_map]; rfl
          have e2 : (ls.map fun l => D.str l.1) = (ls.map (·.1)).map D.str := by rw [List.map_map]; rfl
          rw [e1, e2] at a5
          rw [e1] at a4
          have a6 : evS cf (b_is_ring_5 ix) [.val (csD cs), .val (.tup (is.map natD)), .val (.int tot), k3.s, k4.s, .own false (.lst ((ls.map (·.2.1)).map D.str)), .own false (.lst ((ls.map (·.1)).map D.str)), .no] =
              .ret (.v (.bl (decide (tot < 0) && decide (chainOk ls)))) [.val (csD cs), .val (.tup (is.map natD)), .val (.int tot), k3.s, k4.s, .own false (.lst ((ls.map (·.2.1)).map D.str)), .own false (.lst ((ls.map (·.1)).map D.str)), .no] := by
            have hq := eqvL_strs (ls.map (·.2.1)) ((ls.map (·.1)).drop 1 ++ (ls.map (·.1)).take 1)
            have hdep := depL_strs (ls.map (·.2.1))
            unfold chainOk
            rw [List.map_append, List.map_drop, List.map_take] at hq
            simp only [List.drop_one] at hq ⊢
            have hz : ((ls.map (·.1)).map D.str).length - 1 + min 1 ((ls.map (·.1)).map D.str).length ≤ 100000 := by rw [List.length_map, List.length_map]; omega
            generalize (ls.map (·.1)).map D.str = bs at hq hz ⊢
            generalize (ls.map (·.2.1)).map D.str = es at hq hdep ⊢
            have hz' : bs.length - 1 + min 1 bs.length ≤ 100000 := hz
            by_cases h0 : tot < 0
            · simp [b_is_ring_5, h0, cut_to1, cut_from1, List.drop_one, hdep, hq, hz']
            · simp [b_is_ring_5, h0]
          exact ⟨_, c_ret ((s_seq a1).trans ((s_seq a2).trans ((s_seq a3).trans ((s_seq a4).trans ((s_seq a5).trans a6)))))⟩
        · exact absurd List.nodup_nil q
      · rw [q1]
        have a3 : evS cf (b_is_ring_2_a ix) [.val (csD cs), .val (.tup ds), .val (.int 0), .no, .no, .no, .no, .no] = _ := (s_for hit).trans q2
        exact ⟨_, c_ret ((s_seq a1).trans ((s_seq a2).trans (s_ret a3)))⟩
  | ins c fs => cases hn
  | scr ns => cases hn
  | _ => exact bad _ (by simp [b_is_ring_a]) rfl
end
end PyI
set_option maxHeartbeats 1000000
/-! PyN7: trees judged: the program's way and the law's. -/
namespace PyI
open PySem PySem.Spec PyProof.Rows L2
def ClosC (n : Nat) (c : List Arg → CRes) : Prop := ∀ (cs : List (List L3)) (t : D), Cls cs → cs.length + n ≤ 1000 → t.nic = true → CD n t → ∃ o, c [.v (csD cs), .v t] = .ok (.v (.bl (closesN n cs t))) o
theorem closesN_nt {n : Nat} {cs : List (List L3)} {t : D} (h : ∀ xs, t ≠ .tup xs) : closesN n cs t = false := by
  cases n with
  | zero => rfl
  | succ n => cases t with
    | tup xs => exact absurd rfl (h xs)
    | _ => rfl
theorem closesN_ns {n : Nat} {cs : List (List L3)} {x : D} {r : List D} (h : ∀ s, x ≠ .str s) : closesN n cs (.tup (x :: r)) = false := by
  cases n with
  | zero => rfl
  | succ n => cases x with
    | str s => exact absurd rfl (h s)
    | _ => rfl
theorem closesN_len {n : Nat} {cs : List (List L3)} {x : D} {r : List D} (h1 : r.length ≠ 1) (h3 : r.length ≠ 3) : closesN n cs (.tup (x :: r)) = false := by
  cases n with
  | zero => rfl
  | succ n =>
    match r, h1, h3 with
    | [], _, _ => cases x <;> rfl
    | [_, _], _, _ => cases x <;> rfl
    | _ :: _ :: _ :: _ :: _, _, _ => cases x <;> rfl
theorem closesN_nil {n : Nat} {cs : List (List L3)} : closesN n cs (.tup []) = false := by cases n <;> rfl
theorem closesN_ring {n : Nat} {cs : List (List L3)} {s : Str} {r : D} : closesN (n + 1) cs (.tup [.str s, r]) = if s = sRing then ringB cs r else false := rfl
section
variable {cf : CF} {ir ix icl : Nat} {n : Nat}
theorem closes_ok (hr : RingC (cf ir)) (hx : IdxC (cf ix)) (hc : n = 0 ∨ ClosC (n - 1) (cf icl)) : ClosC n (callBody cf ⟨3, 2, b_closes ir ix icl⟩) := by
  intro cs t hC hl hn hd
  have bad : ∀ t : D, evS cf (b_closes_a ir ix icl) [.val (csD cs), .val t, .no] = .ret (.v (.bl false)) [.val (csD cs), .val t, .no] → closesN n cs t = false → ∃ o, callBody cf ⟨3, 2, b_closes ir ix icl⟩ [.v (csD cs), .v t] = .ok (.v (.bl (closesN n cs t))) o := fun t h1 h2 => by
    rw [h2]; exact ⟨_, c_ret (s_ret h1)⟩
  cases t with
  | ins c fs => cases hn
  | scr ns => cases hn
  | tup xs =>
    cases xs with
    | nil => exact bad _ (by simp [b_closes_a]) closesN_nil
    | cons x r =>
      have hnx := nicL_mem (nic_tup hn).2
      by_cases hs : ∃ s, x = .str s
      · obtain ⟨s, rfl⟩ := hs
        have a1 : evS cf (b_closes_a ir ix icl) [.val (csD cs), .val (.tup (.str s :: r)), .no] = .nx [.val (csD cs), .val (.tup (.str s :: r)), .no] := by
          have : ¬ ((r.length : Int) + 1 = 0) := by omega
          simp [b_closes_a, this]
        have a3 : r.length ≠ 3 → evS cf (b_closes_2_a ir ix icl) [.val (csD cs), .val (.tup (.str s :: r)), .no] = .ret (.v (.bl false)) [.val (csD cs), .val (.tup (.str s :: r)), .no] := fun h => by
          have : ¬ ((r.length : Int) + 1 = 4) := by omega
          simp [b_closes_2_a, this]
        match n, hc, hd with
        | 0, _, hd => exact absurd rfl (hd _)
        | n + 1, hc, hd =>
        have hc' : ClosC n (cf icl) := by
          rcases hc with q | q
          · omega
          · exact q
        by_cases h1 : r.length = 1
        · match r, h1 with
          | [d], _ =>
          rw [closesN_ring]
          by_cases e : s = sRing
          · subst e
            obtain ⟨o, e1⟩ := hr cs d hC (by omega) (hnx d (by simp))
            rw [if_pos rfl]
            have a2 : evS cf (b_closes_1_a ir ix icl) [.val (csD cs), .val (.tup [.str sRing, d]), .no] = .ret (.v (.bl (ringB cs d))) [.val (csD cs), .val (.tup [.str sRing, d]), .no] := by
              simp [b_closes_1_a, e1, sRing]
            exact ⟨_, c_ret ((s_seq a1).trans (s_ret a2))⟩
          · rw [if_neg e]
            have e' : ¬ s = PySem.Str.ofString "ring" := e
            have a2 : evS cf (b_closes_1_a ir ix icl) [.val (csD cs), .val (.tup [.str s, d]), .no] = .nx [.val (csD cs), .val (.tup [.str s, d]), .no] := by
              simp [b_closes_1_a, e']
            exact ⟨_, c_ret ((s_seq a1).trans ((s_seq a2).trans (s_ret (a3 (by simp)))))⟩
        · have a2 : evS cf (b_closes_1_a ir ix icl) [.val (csD cs), .val (.tup (.str s :: r)), .no] = .nx [.val (csD cs), .val (.tup (.str s :: r)), .no] := by
            have : ¬ ((r.length : Int) + 1 = 2) := by omega
            simp [b_closes_1_a, this]
          by_cases h3 : r.length = 3
          · match r, h3 with
            | [i, t, u], _ =>
            obtain ⟨d1, d2⟩ := hd _ _ _ _ rfl
            have out : ∀ b, closesN (n + 1) cs (.tup [.str s, i, t, u]) = b → evS cf (b_closes_2 ir ix icl) [.val (csD cs), .val (.tup [.str s, i, t, u]), .no] = .ret (.v (.bl b)) [.val (csD cs), .val (.tup [.str s, i, t, u]), .no] ∨ (∃ ρ', evS cf (b_closes_2 ir ix icl) [.val (csD cs), .val (.tup [.str s, i, t, u]), .no] = .ret (.v (.bl b)) ρ') → ∃ o, callBody cf ⟨3, 2, b_closes ir ix icl⟩ [.v (csD cs), .v (.tup [.str s, i, t, u])] = .ok (.v (.bl (closesN (n + 1) cs (.tup [.str s, i, t, u])))) o := fun b h1 h2 => by
              rw [h1]
              rcases h2 with h2 | ⟨ρ', h2⟩
              · exact ⟨_, c_ret ((s_seq a1).trans ((s_seq a2).trans h2))⟩
              · exact ⟨_, c_ret ((s_seq a1).trans ((s_seq a2).trans h2))⟩
            by_cases e : s = sCase
            · subst e
              obtain ⟨o, e1⟩ := hx i cs.length (hnx i (by simp))
              cases hi : idx? cs.length i with
              | none =>
                rw [hi] at e1
                refine out false (by simp only [closesN, if_true, hi]) (.inl ?_)
                have e1' : cf ix [.v i, .v (.int (cs.length : Int))] = .ok (.v (.bl false)) o := e1
                refine s_ret ?_
                simp [b_closes_2_a, csD, e1', sCase]
              | some k =>
                rw [hi] at e1
                obtain ⟨rfl, hk⟩ := idx_some hi
                have e1' : cf ix [.v (.int (k : Int)), .v (.int (cs.length : Int))] = .ok (.v (.bl true)) o := e1
                have b2 : evS cf (b_closes_2_a ir ix icl) [.val (csD cs), .val (.tup [.str sCase, natD k, t, u]), .no] = .nx [.val (csD cs), .val (.tup [.str sCase, natD k, t, u]), .no] := by
                  simp [b_closes_2_a, csD, e1', sCase, natD]
                obtain ⟨c, hck, hp⟩ := pick_two hC hk
                have b3 : evS cf (b_closes_3_a ir ix icl) [.val (csD cs), .val (.tup [.str sCase, natD k, t, u]), .no] = .nx [.val (csD cs), .val (.tup [.str sCase, natD k, t, u]), .val (clD c)] := by
                  obtain ⟨hlt, hg⟩ := List.getElem?_eq_some_iff.mp hck
                  simp [b_closes_3_a, csD, natD, hg, hlt]
                rcases hp with ⟨l, rfl, _⟩ | ⟨l, m, rfl, _⟩
                · refine out false (by simp only [closesN, if_true, idx_nat hk, hck]) (.inr ⟨[.val (csD cs), .val (.tup [.str sCase, natD k, t, u]), .val (clD [l])], (s_seq b2).trans ((s_seq b3).trans (s_ret ?_))⟩)
                  simp [b_closes_4_a, clD]
                · have b4 : evS cf (b_closes_4_a ir ix icl) [.val (csD cs), .val (.tup [.str sCase, natD k, t, u]), .val (clD [l, m])] = .nx [.val (csD cs), .val (.tup [.str sCase, natD k, t, u]), .val (clD [l, m])] := by
                    simp [b_closes_4_a, clD]
                  obtain ⟨o1, f1⟩ := hc' (cs ++ [[l]]) t hC.more (by simp; omega) (hnx t (by simp)) d1
                  obtain ⟨o2, f2⟩ := hc' (cs ++ [[m]]) u hC.more (by simp; omega) (hnx u (by simp)) d2
                  rw [csD_app] at f1 f2
                  refine out (closesN n (cs ++ [[l]]) t && closesN n (cs ++ [[m]]) u) (by simp only [closesN, if_true, idx_nat hk, hck]) (.inr ⟨[.val (csD cs), .val (.tup [.str sCase, natD k, t, u]), .val (clD [l, m])], (s_seq b2).trans ((s_seq b3).trans ((s_seq b4).trans ?_))⟩)
                  have z : cs.length + 1 ≤ 100000 := by omega
                  cases g1 : closesN n (cs ++ [[l]]) t <;> rw [g1] at f1 <;> simp [b_closes_5, csD, clD, cut_one, cut_two, z, f1, f2]
            · have hnc : closesN (n + 1) cs (.tup [.str s, i, t, u]) = false := by simp only [closesN, if_neg e]
              have e' : ¬ s = PySem.Str.ofString "case" := e
              refine out false hnc (.inl (s_ret ?_))
              simp [b_closes_2_a, e']
          · rw [closesN_len h1 h3]
            exact ⟨_, c_ret ((s_seq a1).trans ((s_seq a2).trans (s_ret (a3 h3))))⟩
      · have hs' : ∀ s, x ≠ .str s := fun s e => hs ⟨s, e⟩
        refine bad _ ?_ (closesN_ns hs')
        have : ¬ ((r.length : Int) + 1 = 0) := by omega
        cases x with
        | str s => exact absurd rfl (hs' s)
        | ins c fs => have := hnx _ (List.mem_cons_self ..); cases this
        | scr ns => have := hnx _ (List.mem_cons_self ..); cases this
        | _ => simp [b_closes_a, this]
  | _ => exact bad _ (by simp [b_closes_a]) (closesN_nt (by simp))
end
end PyI
set_option maxHeartbeats 1000000
/-! PyN8: the law's rings and trees. -/
namespace PyI
open PySem PySem.Spec PyProof.Rows L2
/-- a comprehension with a condition, its context at rest -/
theorem lc_filt {cf : CF} {vs : List Nat} {t : T} {it c e : E} {ρ ρ1 : Env} {items : List D} (p : D → Bool) (f : D → D) (h1 : evI cf it ρ = .ok items ρ1) (h2 : noOwn ρ1 vs = true) (h3 : items.length ≤ 100000)
    (h4 : ∀ d ∈ items, ∃ r1 ρ2, asgT t d (wipeR ρ1 vs) = some r1 ∧ evT cf c r1 = .ok (p d) ρ2 ∧ (p d = true → ∃ ρ3, frzE (evE cf e) ρ2 = .ok (.v (f d)) ρ3 ∧ noOwn ρ3 vs = true ∧ wipeR ρ3 vs = wipeR ρ1 vs) ∧ (p d = false → noOwn ρ2 vs = true ∧ wipeR ρ2 vs = wipeR ρ1 vs)) :
    evE cf (.lc vs t it c e) ρ = .ok (.f (.lst ((items.filter p).map f))) (rst ρ1 (wipeR ρ1 vs) vs) := by
  have h := lcL_pure (vs := vs) (t := t) (c := evT cf c) (e := frzE (evE cf e)) (ρ0 := wipeR ρ1 vs) p f items [] h4
  rw [List.nil_append] at h
  exact e_lc h1 h2 h3 h
theorem lc_map {cf : CF} {vs : List Nat} {t : T} {it e : E} {ρ ρ1 : Env} {items : List D} (f : D → D) (h1 : evI cf it ρ = .ok items ρ1) (h2 : noOwn ρ1 vs = true) (h3 : items.length ≤ 100000)
    (h4 : ∀ d ∈ items, ∃ r1 ρ3, asgT t d (wipeR ρ1 vs) = some r1 ∧ frzE (evE cf e) r1 = .ok (.v (f d)) ρ3 ∧ noOwn ρ3 vs = true ∧ wipeR ρ3 vs = wipeR ρ1 vs) :
    evE cf (.lc vs t it .tyes e) ρ = .ok (.f (.lst (items.map f))) (rst ρ1 (wipeR ρ1 vs) vs) := by
  have h := lc_filt (cf := cf) (vs := vs) (t := t) (it := it) (c := .tyes) (e := e) (ρ := ρ) (ρ1 := ρ1) (fun _ => true) f h1 h2 h3 fun d hd => by
    obtain ⟨r1, ρ3, a, b, c, d⟩ := h4 d hd
    exact ⟨r1, r1, a, rfl, fun _ => ⟨ρ3, b, c, d⟩, fun z => by cases z⟩
  rw [h, List.filter_eq_self.mpr (fun _ _ => rfl)]
/-- a loop that leaves with False at the first that fails -/
theorem loop_all {t : T} {b : Env → SRes} (st : J → Env) (p : D → Bool) : ∀ items : List D, (∀ d ∈ items, ∀ j, ∃ j' ρ1, asgT t d (st j) = some ρ1 ∧ (p d = true → b ρ1 = .nx (st j')) ∧ (p d = false → ∃ ρ', b ρ1 = .ret (.v (.bl false)) ρ')) → ∀ j,
    (items.all p = true ∧ ∃ j', forL t b items (st j) = .nx (st j')) ∨ (items.all p = false ∧ ∃ ρ', forL t b items (st j) = .ret (.v (.bl false)) ρ')
  | [], _, j => .inl ⟨rfl, j, rfl⟩
  | d :: l, h, j => by
    obtain ⟨j', ρ1, h1, h2, h3⟩ := h d (by simp) j
    cases hp : p d with
    | true =>
      rcases loop_all st p l (fun d hd => h d (by simp [hd])) j' with ⟨q1, j2, q2⟩ | ⟨q1, ρ', q2⟩
      · exact .inl ⟨by simp [hp, q1], j2, by simp only [forL, h1, h2 hp]; exact q2⟩
      · exact .inr ⟨by simp [hp, q1], ρ', by simp only [forL, h1, h2 hp]; exact q2⟩
    | false =>
      obtain ⟨ρ', e⟩ := h3 hp
      exact .inr ⟨by simp [hp], ρ', by simp only [forL, h1, e]⟩
theorem chain_iff {ls : List L3} (hne : ls ≠ []) : chainOk ls ↔ ∀ k, (h : k < ls.length) → ls[k].2.1 = (ls[(k + 1) % ls.length]'(Nat.mod_lt _ (by omega))).1 := by
  have hp : 0 < ls.length := List.length_pos_iff.mpr hne
  unfold chainOk
  have key : ∀ k, (h : k < ls.length) → (h2 : k < ((ls.map (·.1)).drop 1 ++ (ls.map (·.1)).take 1).length) → ((ls.map (·.1)).drop 1 ++ (ls.map (·.1)).take 1)[k] = (ls[(k + 1) % ls.length]'(Nat.mod_lt _ (by omega))).1 := fun k h h2 => by
    by_cases hk : k + 1 < ls.length
    · rw [List.getElem_append_left (by simp; omega)]
      simp only [List.getElem_drop, List.getElem_map]
      congr 2
      rw [Nat.mod_eq_of_lt hk] <;> omega
    · have e : k + 1 = ls.length := by omega
      rw [List.getElem_append_right (by simp; omega)]
      simp only [List.getElem_take, List.getElem_map]
      congr 2
      rw [e, Nat.mod_self]; simp; omega
  constructor
  · intro h k hk
    have h2 : k < ((ls.map (·.1)).drop 1 ++ (ls.map (·.1)).take 1).length := by rw [← h, List.length_map]; exact hk
    rw [← key k hk h2]
    have : (ls.map (·.2.1))[k]'(by rw [List.length_map]; exact hk) = ls[k].2.1 := List.getElem_map ..
    rw [← this]
    exact List.getElem_of_eq h _
  · intro h
    refine List.ext_getElem (by simp; omega) fun k h1 h2 => ?_
    have hk : k < ls.length := by simpa using h1
    rw [key k hk h2, List.getElem_map]
    exact h k hk
theorem nums_ints : ∀ l : List Int, nums (l.map D.int) = some l
  | [] => rfl
  | x :: l => by simp [nums, nums_ints l]
section
variable {cf : CF}
theorem lr_bad {cs : List (List L3)} {ds : List D} {k : Nat} {d : D} {s3 s4 s5 s6 : Slot} (hlt : k < ds.length) (hg : ds[k] = d) (hn : d.nic = true) (hi : idx? cs.length d = none) :
    evS cf b_l_ring_1_ab_a [.val (csD cs), .val (.tup ds), .val (.int (k : Int)), s3, s4, s5, s6] = .ret (.v (.bl false)) [.val (csD cs), .val (.tup ds), .val (.int (k : Int)), s3, s4, s5, s6] := by
  cases d with
  | ins c fs => cases hn
  | scr ns => cases hn
  | int i =>
    unfold idx? at hi
    have hh : ¬ (0 ≤ i ∧ i < (cs.length : Int)) := fun z => by simp [z] at hi
    by_cases h0 : 0 ≤ i
    · have h1 : ¬ (i < (cs.length : Int)) := fun z => hh ⟨h0, z⟩
      simp [b_l_ring_1_ab_a, csD, hlt, hg, h0, h1]
    · simp [b_l_ring_1_ab_a, csD, hlt, hg, h0]
  | _ => simp [b_l_ring_1_ab_a, csD, hlt, hg]
theorem lr_ok {cs : List (List L3)} {ds : List D} {k i : Nat} {s3 s4 s5 s6 : Slot} (hlt : k < ds.length) (hg : ds[k] = natD i) (hi : i < cs.length) :
    evS cf b_l_ring_1_ab_a [.val (csD cs), .val (.tup ds), .val (.int (k : Int)), s3, s4, s5, s6] = .nx [.val (csD cs), .val (.tup ds), .val (.int (k : Int)), s3, s4, s5, s6] := by
  have hi' : (i : Int) < (cs.length : Int) := by omega
  have hg' : ds[k] = .int (i : Int) := hg
  simp [b_l_ring_1_ab_a, csD, hlt, hg', hi']
theorem lr_chk {cs : List (List L3)} {ds : List D} {k i : Nat} {c : List L3} {seen : List Nat} {s3 s4 s5 s6 : Slot} (hlt : k < ds.length) (hg : ds[k] = natD i) (hc : cs[i]? = some c) (hct : cutD ds none (some (k : Int)) = seen.map natD) :
    evS cf b_l_ring_1_ab_1 [.val (csD cs), .val (.tup ds), .val (.int (k : Int)), s3, s4, s5, s6] = if i ∈ seen ∨ c.length ≠ 1 then .ret (.v (.bl false)) [.val (csD cs), .val (.tup ds), .val (.int (k : Int)), s3, s4, s5, s6] else .nx [.val (csD cs), .val (.tup ds), .val (.int (k : Int)), s3, s4, s5, s6] := by
  obtain ⟨hlt2, hg2⟩ := List.getElem?_eq_some_iff.mp hc
  have hg' : ds[k] = .int (i : Int) := hg
  by_cases hs : i ∈ seen
  · simp [b_l_ring_1_ab_1, csD, hlt, hg', hct, hs]
  · by_cases h1 : c.length = 1
    · have h1' : (c.length : Int) = 1 := by omega
      simp [b_l_ring_1_ab_1, csD, hlt, hg', hct, hs, hg2, hlt2, clD, h1]
    · have h1' : ¬ (c.length : Int) = 1 := by omega
      simp [b_l_ring_1_ab_1, csD, hlt, hg', hct, hs, hg2, hlt2, clD, h1, h1']
theorem lr_loop {cs : List (List L3)} (hC : Cls cs) {ds : List D} (hn : ∀ d ∈ ds, d.nic = true) : ∀ (rest : List D) (seen : List Nat) (j : J), ds = seen.map natD ++ rest →
    (∃ q j', ringIs cs seen rest = some q ∧ forL (.n 2) (evS cf b_l_ring_1_ab) ((List.range' seen.length rest.length).map fun (i : Nat) => D.int (0 + (i : Int))) [.val (csD cs), .val (.tup ds), j.s, .no, .no, .no, .no] = .nx [.val (csD cs), .val (.tup ds), (j' : J).s, .no, .no, .no, .no]) ∨
    (ringIs cs seen rest = none ∧ ∃ ρ', forL (.n 2) (evS cf b_l_ring_1_ab) ((List.range' seen.length rest.length).map fun (i : Nat) => D.int (0 + (i : Int))) [.val (csD cs), .val (.tup ds), j.s, .no, .no, .no, .no] = .ret (.v (.bl false)) ρ')
  | [], seen, j, _ => .inl ⟨_, j, rfl, rfl⟩
  | d :: r, seen, j, hd => by
    have hm : d ∈ ds := by rw [hd]; simp
    have hlt : seen.length < ds.length := by rw [hd]; simp
    have hg : ds[seen.length] = d := by
      have : ds[seen.length]? = some d := by rw [hd, List.getElem?_append_right (by simp)]; simp
      exact (List.getElem?_eq_some_iff.mp this).2
    have hct : cutD ds none (some (seen.length : Int)) = seen.map natD := by
      rw [cut_to, hd, List.take_append_of_le_length (by simp), List.take_of_length_le (by simp)]
    have ha : asgT (.n 2) (.int (0 + (seen.length : Int))) [.val (csD cs), .val (.tup ds), j.s, .no, .no, .no, .no] = some [.val (csD cs), .val (.tup ds), .val (.int (seen.length : Int)), .no, .no, .no, .no] := by simp
    rw [show (d :: r).length = r.length + 1 from rfl, List.range'_succ, List.map_cons]
    cases hi : idx? cs.length d with
    | none =>
      have e1 := lr_bad (cf := cf) (s3 := .no) (s4 := .no) (s5 := .no) (s6 := .no) hlt hg (hn d hm) hi
      refine .inr ⟨by simp only [ringIs, hi], _, by simp only [forL, ha, show evS cf b_l_ring_1_ab _ = _ from s_ret e1]; rfl⟩
    | some i =>
      obtain ⟨rfl, hil⟩ := idx_some hi
      obtain ⟨c, hc, hp⟩ := pick_two hC hil
      have e1 := lr_ok (cf := cf) (s3 := .no) (s4 := .no) (s5 := .no) (s6 := .no) hlt hg hil
      have e2 := lr_chk (cf := cf) (s3 := .no) (s4 := .no) (s5 := .no) (s6 := .no) hlt hg hc hct
      rcases hp with ⟨l, rfl, hp⟩ | ⟨l, m, rfl, hp⟩
      · by_cases hs : i ∈ seen
        · rw [if_pos (.inl hs)] at e2
          refine .inr ⟨by simp only [ringIs, hi, hp, if_pos hs], _, by simp only [forL, ha, show evS cf b_l_ring_1_ab _ = _ from (s_seq e1).trans e2]; rfl⟩
        · rw [if_neg (by simp [hs])] at e2
          have e3 : evS cf b_l_ring_1_ab _ = _ := (s_seq e1).trans e2
          have hlen : (seen ++ [i]).length = seen.length + 1 := by simp
          rcases lr_loop hC hn r (seen ++ [i]) (.v (.int (seen.length : Int))) (by rw [hd]; simp) with ⟨q, j', q1, q2⟩ | ⟨q1, ρ', q2⟩
          · rw [hlen] at q2
            refine .inl ⟨(i :: q.1, l :: q.2), j', by simp only [ringIs, hi, hp, if_neg hs, q1]; rfl, ?_⟩
            simp only [forL, ha, e3]
            exact q2
          · rw [hlen] at q2
            refine .inr ⟨by simp only [ringIs, hi, hp, if_neg hs, q1]; rfl, ρ', ?_⟩
            simp only [forL, ha, e3]
            exact q2
      · rw [if_pos (.inr (by simp))] at e2
        refine .inr ⟨by simp only [ringIs, hi, hp], _, by simp only [forL, ha, show evS cf b_l_ring_1_ab _ = _ from (s_seq e1).trans e2]; rfl⟩
def LRingC (c : List Arg → CRes) : Prop := ∀ (cs : List (List L3)) (d : D), Cls cs → cs.length ≤ 1000 → d.nic = true → ∃ o, c [.v (csD cs), .v d] = .ok (.v (.bl (ringB cs d))) o
def pickD (cs : List (List L3)) (g : L3 → D) : D → D
  | .int i => match pickS cs i.toNat with
    | some l => g l
    | none => .non
  | _ => .non
theorem pickD_nat {cs : List (List L3)} {g : L3 → D} {i : Nat} : pickD cs g (natD i) = match pickS cs i with
    | some l => g l
    | none => .non := by
  unfold pickD natD
  simp only [Int.toNat_natCast]
theorem pickD_map {cs : List (List L3)} {g : L3 → D} {is : List Nat} {ls : List L3} (h : is.map (pickS cs) = ls.map some) : (is.map natD).map (pickD cs g) = ls.map g := by
  rw [← map_pick (f := g) (z := D.non) h, List.map_map]
  refine List.map_congr_left fun i _ => ?_
  show pickD cs g (natD i) = _
  rw [pickD_nat] <;> (cases pickS cs i <;> rfl)
def pairP (ls : List L3) : D → Bool
  | .int i => decide (ls[i.toNat]?.map (·.2.1) = ls[(i.toNat + 1) % ls.length]?.map (·.1))
  | _ => false
theorem pair_all {ls : List L3} (hne : ls ≠ []) : (((List.range ls.length).map fun (i : Nat) => D.int (0 + (i : Int))).all (pairP ls)) = decide (chainOk ls) := by
  rw [Bool.eq_iff_iff, List.all_eq_true, decide_eq_true_eq, chain_iff hne]
  have hp : 0 < ls.length := List.length_pos_iff.mpr hne
  constructor
  · intro h k hk
    have := h (.int (0 + (k : Int))) (List.mem_map.mpr ⟨k, List.mem_range.mpr hk, rfl⟩)
    unfold pairP at this
    simp only [Int.zero_add, Int.toNat_natCast, decide_eq_true_eq] at this
    rw [List.getElem?_eq_getElem hk, List.getElem?_eq_getElem (Nat.mod_lt _ hp)] at this
    exact Option.some.inj this
  · intro h d hd
    obtain ⟨k, hk, rfl⟩ := List.mem_map.mp hd
    have hk' := List.mem_range.mp hk
    unfold pairP
    simp only [Int.zero_add, Int.toNat_natCast, decide_eq_true_eq]
    rw [List.getElem?_eq_getElem hk', List.getElem?_eq_getElem (Nat.mod_lt _ hp)]
    exact congrArg some (h k hk')
theorem lr_pair {ls : List L3} {d0 d1 : D} {k q : Nat} (hk : k < ls.length) (h2 : q < ls.length) (hm : ((k : Int) + 1) % (ls.length : Int) = (q : Int)) :
    evS cf b_l_ring_3_ab [.val d0, .val d1, .val (.int (k : Int)), .own false (.lst (ls.map litD)), .no, .no, .no] = if ls[k].2.1 = ls[q].1 then .nx [.val d0, .val d1, .val (.int (k : Int)), .own false (.lst (ls.map litD)), .no, .no, .no] else .ret (.v (.bl false)) [.val d0, .val d1, .val (.int (k : Int)), .own false (.lst (ls.map litD)), .no, .no, .no] := by
  have hz : 0 < ls.length := by omega
  by_cases e : ls[k].2.1 = ls[q].1 <;> simp [b_l_ring_3_ab, hz, hm, hk, h2, litD, e]
theorem l_ring_ok : LRingC (callBody cf ⟨7, 2, b_l_ring⟩) := by
  intro cs d hC hcs hn
  have bad : ∀ d : D, evS cf b_l_ring_a [.val (csD cs), .val d, .no, .no, .no, .no, .no] = .ret (.v (.bl false)) [.val (csD cs), .val d, .no, .no, .no, .no, .no] → ringB cs d = false → ∃ o, callBody cf ⟨7, 2, b_l_ring⟩ [.v (csD cs), .v d] = .ok (.v (.bl (ringB cs d))) o := fun d h1 h2 => by
    rw [h2]; exact ⟨_, c_ret (s_ret h1)⟩
  cases d with
  | tup ds =>
    cases ds with
    | nil => exact bad _ (by simp [b_l_ring_a]) rfl
    | cons d0 ds0 =>
      have hne : (d0 :: ds0) ≠ [] := by simp
      have hB : ringB cs (.tup (d0 :: ds0)) = match ringIs cs [] (d0 :: ds0) with
        | some (_, ls) => decide ((ls.map (·.2.2)).sum < 0) && decide (chainOk ls)
        | none => false := rfl
      rw [hB]
      have hnl : ∀ d ∈ d0 :: ds0, d.nic = true := nicL_mem (nic_tup hn).2
      have hlen : (d0 :: ds0).length ≤ 1000 := (nic_tup hn).1
      generalize d0 :: ds0 = ds at hne hnl hlen
      have a1 : evS cf b_l_ring_a [.val (csD cs), .val (.tup ds), .no, .no, .no, .no, .no] = .nx [.val (csD cs), .val (.tup ds), .no, .no, .no, .no, .no] := by simp [b_l_ring_a, hne]
      have hit : evI cf (.irng (.bi .len (.var 1))) [.val (csD cs), .val (.tup ds), .no, .no, .no, .no, .no] = .ok ((List.range' 0 ds.length).map fun (i : Nat) => D.int (0 + (i : Int))) [.val (csD cs), .val (.tup ds), .no, .no, .no, .no, .no] := by
        rw [← List.range_eq_range']
        exact ev_rng (n := ds.length) (op := .v (.int (ds.length : Int))) (by simp) rfl (by omega)
      rcases lr_loop (cf := cf) hC hnl ds [] .no rfl with ⟨⟨is, ls⟩, j', q1, q2⟩ | ⟨q1, ρ', q2⟩
      · rw [q1]
        show ∃ o, _ = CRes.ok (.v (.bl (decide ((ls.map (·.2.2)).sum < 0) && decide (chainOk ls)))) o
        have a2 : evS cf b_l_ring_1_a [.val (csD cs), .val (.tup ds), .no, .no, .no, .no, .no] = _ := (s_for hit).trans q2
        rcases ringIs_map q1 with ⟨h1, h2, h3, h4⟩ | q
        · subst h1
          have hle : is.length ≤ 1000 := by
            have := nodup_len (B := is) (K := List.range cs.length) (by simpa using h3) fun i hi => List.mem_range.mpr (h4 i hi)
            rw [List.length_range] at this; omega
          have hll : ls.length = is.length := by
            have := congrArg List.length h2
            simp only [List.length_map] at this; omega
          have hls : ls ≠ [] := fun z => hne (by
            have : is.length = 0 := by rw [← hll, z]; rfl
            rw [List.eq_nil_of_length_eq_zero this]; rfl)
          have b1 := lc_map (cf := cf) (vs := [4, 5]) (t := .n 5) (it := .iseq (.var 1)) (e := .sub (.sub (.var 0) (.var 5)) (.cst (.int 0))) (ρ := [.val (csD cs), .val (.tup (is.map natD)), j'.s, .no, .no, .no, .no]) (ρ1 := [.val (csD cs), .val (.tup (is.map natD)), j'.s, .no, .no, .no, .no]) (items := is.map natD)
            (pickD cs litD) (by simp) rfl (by rw [List.length_map]; omega) fun d hd => by
              obtain ⟨i, hi, rfl⟩ := List.mem_map.mp hd
              obtain ⟨l, g1, g2⟩ := pick_at h2 hi
              obtain ⟨hlt, hg⟩ := List.getElem?_eq_some_iff.mp g2
              refine ⟨[.val (csD cs), .val (.tup (is.map natD)), j'.s, .no, .no, .val (natD i), .no], [.val (csD cs), .val (.tup (is.map natD)), j'.s, .no, .no, .val (natD i), .no], by simp [wipeR], ?_, rfl, rfl⟩
              have hpd : pickD cs litD (.int (i : Int)) = litD l := by
                have := pickD_nat (cs := cs) (g := litD) (i := i)
                rw [g1] at this; exact this
              simp [natD, csD, hg, hlt, clD, hpd]
          have hm2 := pickD_map (g := litD) h2
          rw [hm2] at b1
          have a3 : evS cf b_l_ring_2_a [.val (csD cs), .val (.tup (is.map natD)), j'.s, .no, .no, .no, .no] = .nx [.val (csD cs), .val (.tup (is.map natD)), j'.s, .own false (.lst (ls.map litD)), .no, .no, .no] := s_set b1 (by simp [rst, wipeR])
          have hit2 : evI cf (.irng (.bi .len (.var 3))) [.val (csD cs), .val (.tup (is.map natD)), j'.s, .own false (.lst (ls.map litD)), .no, .no, .no] = .ok ((List.range ls.length).map fun (i : Nat) => D.int (0 + (i : Int))) [.val (csD cs), .val (.tup (is.map natD)), j'.s, .own false (.lst (ls.map litD)), .no, .no, .no] :=
            ev_rng (n := ls.length) (op := .v (.int (ls.length : Int))) (by simp) rfl (by omega)
          have hlp := loop_all (t := .n 2) (b := evS cf b_l_ring_3_ab) (fun j => [.val (csD cs), .val (.tup (is.map natD)), j.s, .own false (.lst (ls.map litD)), .no, .no, .no]) (pairP ls) ((List.range ls.length).map fun (i : Nat) => D.int (0 + (i : Int))) (fun d hd j => by
            obtain ⟨k, hk, rfl⟩ := List.mem_map.mp hd
            have hk' := List.mem_range.mp hk
            have hq : (k + 1) % ls.length < ls.length := Nat.mod_lt _ (by omega)
            have hm : ((k : Int) + 1) % (ls.length : Int) = (((k + 1) % ls.length : Nat) : Int) := by rw [Int.natCast_emod]; rfl
            have e := lr_pair (cf := cf) (d0 := csD cs) (d1 := .tup (is.map natD)) hk' hq hm
            have hp : pairP ls (.int (0 + (k : Int))) = decide (ls[k].2.1 = ls[(k + 1) % ls.length].1) := by
              unfold pairP
              simp only [Int.zero_add, Int.toNat_natCast]
              rw [List.getElem?_eq_getElem hk', List.getElem?_eq_getElem hq]
              simp
            refine ⟨.v (.int (k : Int)), [.val (csD cs), .val (.tup (is.map natD)), .val (.int (k : Int)), .own false (.lst (ls.map litD)), .no, .no, .no], by simp, fun h => ?_, fun h => ⟨[.val (csD cs), .val (.tup (is.map natD)), .val (.int (k : Int)), .own false (.lst (ls.map litD)), .no, .no, .no], ?_⟩⟩
            · rw [hp, decide_eq_true_eq] at h
              rw [e, if_pos h]; rfl
            · rw [hp, decide_eq_false_iff_not] at h
              rw [e, if_neg h]) j'
          rw [pair_all hls] at hlp
          rcases hlp with ⟨g1, j2, g2⟩ | ⟨g1, ρ', g2⟩
          · have a4 : evS cf b_l_ring_3_a [.val (csD cs), .val (.tup (is.map natD)), j'.s, .own false (.lst (ls.map litD)), .no, .no, .no] = _ := (s_for hit2).trans g2
            rw [g1, Bool.and_true]
            have b2 := lc_map (cf := cf) (vs := [4, 6]) (t := .n 6) (it := .iseq (.var 3)) (e := .sub (.var 6) (.cst (.int 2))) (ρ := [.val (csD cs), .val (.tup (is.map natD)), j2.s, .own false (.lst (ls.map litD)), .no, .no, .no]) (ρ1 := [.val (csD cs), .val (.tup (is.map natD)), j2.s, .val (.lst (ls.map litD)), .no, .no, .no]) (items := ls.map litD)
              (fun d => match d with | .tup [_, _, n] => n | _ => .non) (by simp) rfl (by rw [List.length_map]; omega) fun d hd => by
                obtain ⟨l, hl, rfl⟩ := List.mem_map.mp hd
                exact ⟨[.val (csD cs), .val (.tup (is.map natD)), j2.s, .val (.lst (ls.map litD)), .no, .no, .val (litD l)], [.val (csD cs), .val (.tup (is.map natD)), j2.s, .val (.lst (ls.map litD)), .no, .no, .val (litD l)], by simp [wipeR], by simp [litD], rfl, rfl⟩
            have hm3 : List.map (fun d => match d with | D.tup [_, _, n] => n | _ => .non) (ls.map litD) = (ls.map (·.2.2)).map D.int := by
              rw [List.map_map, List.map_map]; rfl
            rw [hm3] at b2
            have b2' := b2.trans (show _ = Res.ok (.f (.lst ((ls.map (·.2.2)).map D.int))) [.val (csD cs), .val (.tup (is.map natD)), j2.s, .val (.lst (ls.map litD)), .no, .no, .no] from by simp [rst, wipeR])
            have a5 : evS cf b_l_ring_4 [.val (csD cs), .val (.tup (is.map natD)), j2.s, .own false (.lst (ls.map litD)), .no, .no, .no] = .ret (.v (.bl (decide ((ls.map (·.2.2)).sum < 0)))) [.val (csD cs), .val (.tup (is.map natD)), j2.s, .val (.lst (ls.map litD)), .no, .no, .no] := by
              have hnm := nums_ints (ls.map (·.2.2))
              unfold b_l_ring_4
              generalize (E.lc [4, 6] (.n 6) (.iseq (.var 3)) .tyes (.sub (.var 6) (.cst (.int 2)))) = X at b2' ⊢
              generalize (ls.map (·.2.2)) = ns at b2' hnm ⊢
              simp [b2', hnm]
            exact ⟨_, c_ret ((s_seq a1).trans ((s_seq a2).trans ((s_seq a3).trans ((s_seq a4).trans a5))))⟩
          · have a4 : evS cf b_l_ring_3_a [.val (csD cs), .val (.tup (is.map natD)), j'.s, .own false (.lst (ls.map litD)), .no, .no, .no] = _ := (s_for hit2).trans g2
            rw [g1, Bool.and_false]
            exact ⟨_, c_ret ((s_seq a1).trans ((s_seq a2).trans ((s_seq a3).trans (s_ret a4))))⟩
        · exact absurd List.nodup_nil q
      · rw [q1]
        have a2 : evS cf b_l_ring_1_a [.val (csD cs), .val (.tup ds), .no, .no, .no, .no, .no] = _ := (s_for hit).trans q2
        exact ⟨_, c_ret ((s_seq a1).trans (s_ret a2))⟩
  | ins c fs => cases hn
  | scr ns => cases hn
  | _ => exact bad _ (by simp [b_l_ring_a]) rfl
variable {ir icl : Nat} {n : Nat}
theorem l_closed_ok (hr : LRingC (cf ir)) (hc : n = 0 ∨ ClosC (n - 1) (cf icl)) : ClosC n (callBody cf ⟨4, 2, b_l_closed ir icl⟩) := by
  intro cs t hC hl hn hd
  have bad : ∀ t : D, evS cf (b_l_closed_a ir icl) [.val (csD cs), .val t, .no, .no] = .ret (.v (.bl false)) [.val (csD cs), .val t, .no, .no] → closesN n cs t = false → ∃ o, callBody cf ⟨4, 2, b_l_closed ir icl⟩ [.v (csD cs), .v t] = .ok (.v (.bl (closesN n cs t))) o := fun t h1 h2 => by
    rw [h2]; exact ⟨_, c_ret (s_ret h1)⟩
  cases t with
  | ins c fs => cases hn
  | scr ns => cases hn
  | tup xs =>
    cases xs with
    | nil => exact bad _ (by simp [b_l_closed_a]) closesN_nil
    | cons x r =>
      have hnx := nicL_mem (nic_tup hn).2
      by_cases hs : ∃ s, x = .str s
      · obtain ⟨s, rfl⟩ := hs
        have a1 : evS cf (b_l_closed_a ir icl) [.val (csD cs), .val (.tup (.str s :: r)), .no, .no] = .nx [.val (csD cs), .val (.tup (.str s :: r)), .no, .no] := by
          have : ¬ ((r.length : Int) + 1 = 0) := by omega
          simp [b_l_closed_a, this]
        match n, hc, hd with
        | 0, _, hd => exact absurd rfl (hd _)
        | n + 1, hc, hd =>
        have hc' : ClosC n (cf icl) := by
          rcases hc with q | q
          · omega
          · exact q
        by_cases e : s = sRing
        · subst e
          by_cases h1 : r.length = 1
          · match r, h1 with
            | [d], _ =>
            rw [closesN_ring, if_pos rfl]
            obtain ⟨o, e1⟩ := hr cs d hC (by omega) (hnx d (by simp))
            have a2 : evS cf (b_l_closed_1_a ir icl) [.val (csD cs), .val (.tup [.str sRing, d]), .no, .no] = .ret (.v (.bl (ringB cs d))) [.val (csD cs), .val (.tup [.str sRing, d]), .no, .no] := by
              simp [b_l_closed_1_a, e1, sRing]
            exact ⟨_, c_ret ((s_seq a1).trans (s_ret a2))⟩
          · have hf : closesN (n + 1) cs (.tup (.str sRing :: r)) = false := by
              match r, h1 with
              | [], _ => rfl
              | [_, _], _ => rfl
              | [_, _, _], _ => simp only [closesN, if_neg (show ¬ (sRing = sCase) by decide)]
              | _ :: _ :: _ :: _ :: _, _ => rfl
            rw [hf]
            have a2 : evS cf (b_l_closed_1_a ir icl) [.val (csD cs), .val (.tup (.str sRing :: r)), .no, .no] = .ret (.v (.bl false)) [.val (csD cs), .val (.tup (.str sRing :: r)), .no, .no] := by
              have : ((r.length : Int) + 1 == 2) = false := by rw [beq_eq_false_iff_ne]; omega
              simp [b_l_closed_1_a, this, sRing]
            exact ⟨_, c_ret ((s_seq a1).trans (s_ret a2))⟩
        · have e' : ¬ s = PySem.Str.ofString "ring" := e
          have a2 : evS cf (b_l_closed_1_a ir icl) [.val (csD cs), .val (.tup (.str s :: r)), .no, .no] = .nx [.val (csD cs), .val (.tup (.str s :: r)), .no, .no] := by
            simp [b_l_closed_1_a, e']
          by_cases e2 : s = sCase
          · subst e2
            by_cases h3 : r.length = 3
            · match r, h3 with
              | [i, t, u], _ =>
              obtain ⟨d1, d2⟩ := hd _ _ _ _ rfl
              have out : ∀ b, closesN (n + 1) cs (.tup [.str sCase, i, t, u]) = b → (∃ ρ', evS cf (b_l_closed_2 ir icl) [.val (csD cs), .val (.tup [.str sCase, i, t, u]), .no, .no] = .ret (.v (.bl b)) ρ') → ∃ o, callBody cf ⟨4, 2, b_l_closed ir icl⟩ [.v (csD cs), .v (.tup [.str sCase, i, t, u])] = .ok (.v (.bl (closesN (n + 1) cs (.tup [.str sCase, i, t, u])))) o := fun b h1 h2 => by
                rw [h1]
                obtain ⟨ρ', h2⟩ := h2
                exact ⟨_, c_ret ((s_seq a1).trans ((s_seq a2).trans h2))⟩
              cases hi : idx? cs.length i with
              | none =>
                refine out false (by simp only [closesN, if_true, hi]) ?_
                cases i with
                | ins c fs => have := hnx (.ins c fs) (by simp); cases this
                | scr ns => have := hnx (.scr ns) (by simp); cases this
                | int i =>
                  unfold idx? at hi
                  have hh : ¬ (0 ≤ i ∧ i < (cs.length : Int)) := fun z => by simp [z] at hi
                  have b2 : evS cf (b_l_closed_2_a ir icl) [.val (csD cs), .val (.tup [.str sCase, .int i, t, u]), .no, .no] = .nx [.val (csD cs), .val (.tup [.str sCase, .int i, t, u]), .no, .no] := by
                    simp [b_l_closed_2_a, sCase]
                  refine ⟨[.val (csD cs), .val (.tup [.str sCase, .int i, t, u]), .no, .no], (s_seq b2).trans (s_ret ?_)⟩
                  by_cases h0 : 0 ≤ i
                  · have h1 : ¬ (i < (cs.length : Int)) := fun z => hh ⟨h0, z⟩
                    simp [b_l_closed_3_a, csD, h0, h1]
                  · simp [b_l_closed_3_a, csD, h0]
                | _ => exact ⟨_, s_ret (by simp [b_l_closed_2_a, sCase]; rfl)⟩
              | some k =>
                obtain ⟨rfl, hk⟩ := idx_some hi
                have b2 : evS cf (b_l_closed_2_a ir icl) [.val (csD cs), .val (.tup [.str sCase, natD k, t, u]), .no, .no] = .nx [.val (csD cs), .val (.tup [.str sCase, natD k, t, u]), .no, .no] := by
                  simp [b_l_closed_2_a, sCase, natD]
                obtain ⟨c, hck, hp⟩ := pick_two hC hk
                obtain ⟨hlt, hg⟩ := List.getElem?_eq_some_iff.mp hck
                have hk' : (k : Int) < (cs.length : Int) := by omega
                rcases hp with ⟨l, rfl, _⟩ | ⟨l, m, rfl, _⟩
                · refine out false (by simp only [closesN, if_true, idx_nat hk, hck]) ⟨[.val (csD cs), .val (.tup [.str sCase, natD k, t, u]), .no, .no], (s_seq b2).trans (s_ret ?_)⟩
                  simp [b_l_closed_3_a, csD, natD, hlt, hg, clD]
                · have b3 : evS cf (b_l_closed_3_a ir icl) [.val (csD cs), .val (.tup [.str sCase, natD k, t, u]), .no, .no] = .nx [.val (csD cs), .val (.tup [.str sCase, natD k, t, u]), .no, .no] := by
                    simp [b_l_closed_3_a, csD, natD, hlt, hg, clD]
                  have b4 : evS cf (b_l_closed_4_a ir icl) [.val (csD cs), .val (.tup [.str sCase, natD k, t, u]), .no, .no] = .nx [.val (csD cs), .val (.tup [.str sCase, natD k, t, u]), .val (litD l), .val (litD m)] := by
                    simp [b_l_closed_4_a, csD, natD, hlt, hg, clD]
                  obtain ⟨o1, f1⟩ := hc' (cs ++ [[l]]) t hC.more (by simp; omega) (hnx t (by simp)) d1
                  obtain ⟨o2, f2⟩ := hc' (cs ++ [[m]]) u hC.more (by simp; omega) (hnx u (by simp)) d2
                  rw [csD_app] at f1 f2
                  refine out (closesN n (cs ++ [[l]]) t && closesN n (cs ++ [[m]]) u) (by simp only [closesN, if_true, idx_nat hk, hck]) ⟨[.val (csD cs), .val (.tup [.str sCase, natD k, t, u]), .val (litD l), .val (litD m)], (s_seq b2).trans ((s_seq b3).trans ((s_seq b4).trans ?_))⟩
                  have z : cs.length + 1 ≤ 100000 := by omega
                  cases g1 : closesN n (cs ++ [[l]]) t <;> rw [g1] at f1 <;> simp [b_l_closed_5, csD, z, f1, f2]
            · have hf : closesN (n + 1) cs (.tup (.str sCase :: r)) = false := by
                match r, h3 with
                | [], _ => rfl
                | [_], _ => rw [closesN_ring, if_neg (show ¬ (sCase = sRing) by decide)]
                | [_, _], _ => rfl
                | _ :: _ :: _ :: _ :: _, _ => rfl
              rw [hf]
              refine ⟨_, c_ret ((s_seq a1).trans ((s_seq a2).trans (s_ret (ρ1 := [.val (csD cs), .val (.tup (.str sCase :: r)), .no, .no]) ?_)))⟩
              have : ¬ ((r.length : Int) + 1 = 4) := by omega
              simp [b_l_closed_2_a, this, sCase]
          · have hf : closesN (n + 1) cs (.tup (.str s :: r)) = false := by
              match r with
              | [] => rfl
              | [_] => rw [closesN_ring, if_neg e]
              | [_, _] => rfl
              | [_, _, _] => simp only [closesN, if_neg e2]
              | _ :: _ :: _ :: _ :: _ => rfl
            rw [hf]
            have e2' : ¬ s = PySem.Str.ofString "case" := e2
            refine ⟨_, c_ret ((s_seq a1).trans ((s_seq a2).trans (s_ret (ρ1 := [.val (csD cs), .val (.tup (.str s :: r)), .no, .no]) ?_)))⟩
            simp [b_l_closed_2_a, e2']
      · have hs' : ∀ s, x ≠ .str s := fun s e => hs ⟨s, e⟩
        refine bad _ ?_ (closesN_ns hs')
        have : ¬ ((r.length : Int) + 1 = 0) := by omega
        cases x with
        | str s => exact absurd rfl (hs' s)
        | ins c fs => have := hnx _ (List.mem_cons_self ..); cases this
        | scr ns => have := hnx _ (List.mem_cons_self ..); cases this
        | _ => simp [b_l_closed_a, this]
  | _ => exact bad _ (by simp [b_l_closed_a]) (closesN_nt (by simp))
end
end PyI
set_option maxHeartbeats 1000000
/-! PyN9: the law's heights. -/
namespace PyI
open PySem PySem.Spec PyProof.Rows L2
def enF : Nat → List L3 → List LkS
  | _, [] => []
  | i, l :: r => (i, l) :: enF (i + 1) r
theorem enF_get : ∀ {ls : List L3} {n i : Nat} {l : L3}, (i, l) ∈ enF n ls → l ∈ ls
  | [], _, _, _, h => by cases h
  | c :: r, n, i, l, h => by
    unfold enF at h
    rcases List.mem_cons.mp h with e | e
    · cases e; simp
    · exact List.mem_cons_of_mem _ (enF_get e)
theorem enF_mem : ∀ {ls : List L3} {n : Nat} {l : L3}, l ∈ ls → ∃ i, (i, l) ∈ enF n ls
  | [], _, _, h => by cases h
  | c :: r, n, l, h => by
    rcases List.mem_cons.mp h with e | e
    · subst e; exact ⟨n, by simp [enF]⟩
    · obtain ⟨i, hi⟩ := enF_mem (n := n + 1) e
      exact ⟨i, by simp [enF, hi]⟩
def addK (K : List Str) (x : Str) : List Str := if x ∈ K then K else K ++ [x]
theorem addK_len {K : List Str} {x : Str} : (addK K x).length ≤ K.length + 1 := by
  unfold addK; split <;> simp
theorem addK_old {K : List Str} {x y : Str} (h : y ∈ K) : y ∈ addK K x := by
  unfold addK; split
  · exact h
  · simp [h]
theorem addK_new {K : List Str} {x : Str} : x ∈ addK K x := by
  unfold addK; split
  · assumption
  · simp
theorem put_add {K : List Str} {x : Str} : put (tabD K fun _ => .int 0) (.inr x) (.int 0) = tabD (addK K x) fun _ => .int 0 := by
  unfold addK
  by_cases h : x ∈ K
  · rw [if_pos h, put_old h]
    rw [show Rx.upf (fun _ => D.int 0) x (D.int 0) = fun _ => D.int 0 from upf_self]
  · rw [if_neg h, put_new h]
    rw [show Rx.upf (fun _ => D.int 0) x (D.int 0) = fun _ => D.int 0 from upf_self]
def allK : List L3 → List Str → List Str
  | [], K => K
  | l :: r, K => allK r (addK (addK K l.1) l.2.1)
theorem allK_len : ∀ {ls : List L3} {K : List Str}, (allK ls K).length ≤ K.length + 2 * ls.length
  | [], K => by simp [allK]
  | l :: r, K => by
    have := allK_len (ls := r) (K := addK (addK K l.1) l.2.1)
    have := addK_len (K := K) (x := l.1)
    have := addK_len (K := addK K l.1) (x := l.2.1)
    simp only [allK, List.length_cons]; omega
theorem allK_old : ∀ {ls : List L3} {K : List Str} {y : Str}, y ∈ K → y ∈ allK ls K
  | [], K, y, h => h
  | l :: r, K, y, h => allK_old (ls := r) (addK_old (addK_old h))
theorem allK_new : ∀ {ls : List L3} {K : List Str} {l : L3}, l ∈ ls → l.1 ∈ allK ls K ∧ l.2.1 ∈ allK ls K
  | [], K, l, h => by cases h
  | c :: r, K, l, h => by
    rcases List.mem_cons.mp h with e | e
    · subst e
      exact ⟨allK_old (ls := r) (addK_old addK_new), allK_old (ls := r) addK_new⟩
    · exact allK_new (ls := r) e
section
variable {cf : CF}
theorem hts_fill {d0 : D} : ∀ (ls : List L3) (K : List Str) (j2 j3 j4 : J), K.length + 2 * ls.length ≤ 10000 → ∃ (k2 k3 k4 : J),
    forL (.tup [.n 2, .n 3, .n 4]) (evS cf b_l_heights_1_ab) (ls.map litD) [.val d0, .own false (.dic (tabD K fun _ => .int 0)), j2.s, j3.s, j4.s, .no, .no] = .nx [.val d0, .own false (.dic (tabD (allK ls K) fun _ => .int 0)), k2.s, k3.s, k4.s, .no, .no]
  | [], K, j2, j3, j4, _ => ⟨j2, j3, j4, rfl⟩
  | l :: r, K, j2, j3, j4, hl => by
    simp only [List.length_cons] at hl
    have l1 := addK_len (K := K) (x := l.1)
    have l2 := addK_len (K := addK K l.1) (x := l.2.1)
    obtain ⟨k2, k3, k4, e⟩ := hts_fill (d0 := d0) r (addK (addK K l.1) l.2.1) (.v (.str l.1)) (.v (.str l.2.1)) (.v (.int l.2.2)) (by omega)
    refine ⟨k2, k3, k4, ?_⟩
    have ha : asgT (.tup [.n 2, .n 3, .n 4]) (litD l) [.val d0, .own false (.dic (tabD K fun _ => .int 0)), j2.s, j3.s, j4.s, .no, .no] = some [.val d0, .own false (.dic (tabD K fun _ => .int 0)), .val (.str l.1), .val (.str l.2.1), .val (.int l.2.2), .no, .no] := by simp [litD]
    have z1 : K.length ≤ 100000 := by omega
    have z2 : (addK K l.1).length ≤ 100000 := by omega
    have e1 : evS cf b_l_heights_1_ab [.val d0, .own false (.dic (tabD K fun _ => .int 0)), .val (.str l.1), .val (.str l.2.1), .val (.int l.2.2), .no, .no] = .nx [.val d0, .own false (.dic (tabD (addK (addK K l.1) l.2.1) fun _ => .int 0)), .val (.str l.1), .val (.str l.2.1), .val (.int l.2.2), .no, .no] := by
      simp [b_l_heights_1_ab, b_l_heights_1_ab_a, b_l_heights_1_ab_1, put_add, z1, z2]
    rw [List.map_cons, forL, ha]
    simp only [e1]
    exact e
variable {K : List Str} {k : Nat}
theorem hts_step {p : Rx.RS Str × Option Str} {i : Nat} {l : L3} {d0 d5 : D} (hx : l.1 ∈ K) (hy : l.2.1 ∈ K) (hK : K.length ≤ 10000) :
    evS cf b_l_heights_2_ab_1_ab [.val d0, .own false (valsD K p.1.v), .val (.str l.1), .val (.str l.2.1), .val (.int l.2.2), .val d5, .val (.bl p.2.isSome)] =
      .nx [.val d0, .own false (valsD K (Rx.rstep k p (i, l)).1.v), .val (.str l.1), .val (.str l.2.1), .val (.int l.2.2), .val d5, .val (.bl (Rx.rstep k p (i, l)).2.isSome)] := by
  have lx := look_tab (f := fun z => .int (p.1.v z)) hx
  have ly := look_tab (f := fun z => .int (p.1.v z)) hy
  by_cases hgt : p.1.v l.1 > p.1.v l.2.1 + l.2.2
  · have e : Rx.rstep k p (i, l) = (Rx.rset k p.1 i l.1 l.2.1 l.2.2, some l.1) := by unfold Rx.rstep; rw [if_pos hgt]
    rw [e]
    have e2 : put (tabD K fun z => .int (p.1.v z)) (.inr l.1) (.int (p.1.v l.2.1 + l.2.2)) = tabD K (fun z => .int (Rx.upf p.1.v l.1 (p.1.v l.2.1 + l.2.2) z)) := by
      rw [put_old hx, upf_map]
    have z1 : K.length ≤ 100000 := by omega
    have hgt' : p.1.v l.2.1 + l.2.2 < p.1.v l.1 := hgt
    simp [b_l_heights_2_ab_1_ab, b_l_heights_2_ab_1_abt, b_l_heights_2_ab_1_abt_a, b_l_heights_2_ab_1_abt_1, valsD, lx, ly, hgt', z1, e2, Rx.rset]
  · have e : Rx.rstep k p (i, l) = p := by unfold Rx.rstep; rw [if_neg hgt]
    rw [e]
    have hgt' : ¬ p.1.v l.2.1 + l.2.2 < p.1.v l.1 := hgt
    simp [b_l_heights_2_ab_1_ab, valsD, lx, ly, hgt']
theorem hts_loop {d0 d5 : D} (hK : K.length ≤ 10000) : ∀ (ls : List L3) (i : Nat) (p : Rx.RS Str × Option Str) (j2 j3 j4 : J), (∀ l ∈ ls, l.1 ∈ K ∧ l.2.1 ∈ K) → ∃ (k2 k3 k4 : J),
    forL (.tup [.n 2, .n 3, .n 4]) (evS cf b_l_heights_2_ab_1_ab) (ls.map litD) [.val d0, .own false (valsD K p.1.v), j2.s, j3.s, j4.s, .val d5, .val (.bl p.2.isSome)] =
      .nx [.val d0, .own false (valsD K ((enF i ls).foldl (Rx.rstep k) p).1.v), k2.s, k3.s, k4.s, .val d5, .val (.bl ((enF i ls).foldl (Rx.rstep k) p).2.isSome)]
  | [], i, p, j2, j3, j4, _ => ⟨j2, j3, j4, rfl⟩
  | l :: r, i, p, j2, j3, j4, h => by
    obtain ⟨hx, hy⟩ := h l (by simp)
    have e1 := hts_step (cf := cf) (k := k) (p := p) (i := i) (d0 := d0) (d5 := d5) hx hy hK
    obtain ⟨k2, k3, k4, e2⟩ := hts_loop (d0 := d0) (d5 := d5) hK r (i + 1) (Rx.rstep k p (i, l)) (.v (.str l.1)) (.v (.str l.2.1)) (.v (.int l.2.2)) fun l hl => h l (by simp [hl])
    refine ⟨k2, k3, k4, ?_⟩
    have ha : asgT (.tup [.n 2, .n 3, .n 4]) (litD l) [.val d0, .own false (valsD K p.1.v), j2.s, j3.s, j4.s, .val d5, .val (.bl p.2.isSome)] = some [.val d0, .own false (valsD K p.1.v), .val (.str l.1), .val (.str l.2.1), .val (.int l.2.2), .val d5, .val (.bl p.2.isSome)] := by simp [litD]
    rw [List.map_cons, forL, ha]
    simp only [e1]
    exact e2
theorem hts_round {ls : List L3} {d5 : D} {s : Rx.RS Str} {j2 j3 j4 j6 : J} (hK : K.length ≤ 10000) (h : ∀ l ∈ ls, l.1 ∈ K ∧ l.2.1 ∈ K) :
    ((Rx.rround k (enF 0 ls) s).2 = none → ∃ ρ', evS cf b_l_heights_2_ab [.val (.lst (ls.map litD)), .own false (valsD K s.v), j2.s, j3.s, j4.s, .val d5, j6.s] = .ret (.f (valsD K s.v)) ρ') ∧
    ((Rx.rround k (enF 0 ls) s).2 ≠ none → ∃ (k2 k3 k4 k6 : J), evS cf b_l_heights_2_ab [.val (.lst (ls.map litD)), .own false (valsD K s.v), j2.s, j3.s, j4.s, .val d5, j6.s] = .nx [.val (.lst (ls.map litD)), .own false (valsD K (Rx.rround k (enF 0 ls) s).1.v), k2.s, k3.s, k4.s, .val d5, k6.s]) := by
  obtain ⟨k2, k3, k4, e⟩ := hts_loop (cf := cf) (k := k) (d0 := .lst (ls.map litD)) (d5 := d5) hK ls 0 (s, none) j2 j3 j4 h
  have a1 : evS cf b_l_heights_2_ab_a [.val (.lst (ls.map litD)), .own false (valsD K s.v), j2.s, j3.s, j4.s, .val d5, j6.s] = .nx [.val (.lst (ls.map litD)), .own false (valsD K s.v), j2.s, j3.s, j4.s, .val d5, .val (.bl false)] := by simp [b_l_heights_2_ab_a]
  have a2 : evS cf b_l_heights_2_ab_1_a [.val (.lst (ls.map litD)), .own false (valsD K s.v), j2.s, j3.s, j4.s, .val d5, .val (.bl false)] = .nx [.val (.lst (ls.map litD)), .own false (valsD K (Rx.rround k (enF 0 ls) s).1.v), k2.s, k3.s, k4.s, .val d5, .val (.bl (Rx.rround k (enF 0 ls) s).2.isSome)] :=
    (s_for (ev_seq (op := .v (.lst (ls.map litD))) (d := .lst (ls.map litD)) rfl rfl rfl)).trans e
  constructor
  · intro h0
    rw [h0, (Rx.round_none h0).1] at a2
    refine ⟨[.val (.lst (ls.map litD)), .no, k2.s, k3.s, k4.s, .val d5, .val (.bl false)], (s_seq a1).trans ((s_seq a2).trans ?_)⟩
    simp [b_l_heights_2_ab_2]
  · intro h0
    cases hq : (Rx.rround k (enF 0 ls) s).2 with
    | none => exact absurd hq h0
    | some x =>
      rw [hq] at a2
      refine ⟨k2, k3, k4, .v (.bl true), (s_seq a1).trans ((s_seq a2).trans ?_)⟩
      simp [b_l_heights_2_ab_2]
      try rfl
theorem hts_rounds {ls : List L3} (hK : K.length ≤ 10000) (h : ∀ l ∈ ls, l.1 ∈ K ∧ l.2.1 ∈ K) : ∀ (items : List D) (k : Nat) (s : Rx.RS Str) (j2 j3 j4 j5 j6 : J), 1 ≤ k → Rx.RI (enF 0 ls) k [] (enF 0 ls) s →
    (∃ v ρ', forL (.n 5) (evS cf b_l_heights_2_ab) items [.val (.lst (ls.map litD)), .own false (valsD K s.v), j2.s, j3.s, j4.s, j5.s, j6.s] = .ret (.f (valsD K v)) ρ' ∧ ∀ l ∈ ls, holdsL v l) ∨
    (∃ (s' : Rx.RS Str) (k2 k3 k4 k5 k6 : J), forL (.n 5) (evS cf b_l_heights_2_ab) items [.val (.lst (ls.map litD)), .own false (valsD K s.v), j2.s, j3.s, j4.s, j5.s, j6.s] = .nx [.val (.lst (ls.map litD)), .own false (valsD K s'.v), k2.s, k3.s, k4.s, k5.s, k6.s] ∧ (items ≠ [] → ∃ x, Rx.RI (enF 0 ls) (k + items.length - 1) (enF 0 ls) [] s' ∧ s'.t x = k + items.length - 1))
  | [], k, s, j2, j3, j4, j5, j6, _, _ => .inr ⟨s, j2, j3, j4, j5, j6, rfl, fun z => absurd rfl z⟩
  | d :: items, k, s, j2, j3, j4, j5, j6, hk, hI => by
    have ha : asgT (.n 5) d [.val (.lst (ls.map litD)), .own false (valsD K s.v), j2.s, j3.s, j4.s, j5.s, j6.s] = some [.val (.lst (ls.map litD)), .own false (valsD K s.v), j2.s, j3.s, j4.s, .val d, j6.s] := by simp
    obtain ⟨r1, r2⟩ := hts_round (cf := cf) (k := k) (d5 := d) (s := s) (j2 := j2) (j3 := j3) (j4 := j4) (j6 := j6) hK h
    rw [forL, ha]
    by_cases h0 : (Rx.rround k (enF 0 ls) s).2 = none
    · obtain ⟨ρ', e⟩ := r1 h0
      refine .inl ⟨s.v, ρ', by simp only [e], fun l hl => ?_⟩
      obtain ⟨i, hi⟩ := enF_mem (n := 0) hl
      exact (Rx.round_none h0).2 i l.1 l.2.1 l.2.2 hi
    · obtain ⟨k2, k3, k4, k6, e⟩ := r2 h0
      have hI' := Rx.RI.round hk hI
      obtain ⟨x, hx⟩ := Option.ne_none_iff_exists'.mp h0
      have hx' := Rx.round_some hx
      simp only [e]
      cases items with
      | nil => exact .inr ⟨_, k2, k3, k4, .v d, k6, rfl, fun _ => ⟨x, by simpa using hI', by simpa using hx'⟩⟩
      | cons d2 l2 =>
        rcases hts_rounds hK h (d2 :: l2) (k + 1) (Rx.rround k (enF 0 ls) s).1 k2 k3 k4 (.v d) k6 (by omega) hI'.next with ⟨v, ρ', q1, q2⟩ | ⟨s', m2, m3, m4, m5, m6, q1, q2⟩
        · exact .inl ⟨v, ρ', q1, q2⟩
        · refine .inr ⟨s', m2, m3, m4, m5, m6, q1, fun _ => ?_⟩
          obtain ⟨x2, r2, r3⟩ := q2 (by simp)
          refine ⟨x2, ?_, ?_⟩
          · rw [show k + (d :: d2 :: l2).length - 1 = k + 1 + (d2 :: l2).length - 1 by simp; omega]; exact r2
          · rw [show k + (d :: d2 :: l2).length - 1 = k + 1 + (d2 :: l2).length - 1 by simp; omega]; exact r3
def SatL (ls : List L3) : Prop := ∃ a : Str → Int, ∀ l ∈ ls, holdsL a l
def HeightsC (c : List Arg → CRes) : Prop := ∀ ls : List L3, ls.length ≤ 1000 →
  (∃ K v o, c [.v (.lst (ls.map litD))] = .ok (.f (valsD K v)) o ∧ eS ∈ K ∧ ∀ l ∈ ls, holdsL v l) ∨ (∃ o, c [.v (.lst (ls.map litD))] = .ok (.v .non) o ∧ ¬ SatL ls)
theorem heights_ok : HeightsC (callBody cf ⟨7, 1, b_l_heights⟩) := by
  intro ls hl
  have hKl := allK_len (ls := ls) (K := [eS])
  simp only [List.length_cons, List.length_nil] at hKl
  have heK : eS ∈ allK ls [eS] := allK_old (by simp)
  have hin : ∀ l ∈ ls, l.1 ∈ allK ls [eS] ∧ l.2.1 ∈ allK ls [eS] := fun l h => allK_new h
  have a1 : evS cf b_l_heights_a [.val (.lst (ls.map litD)), .no, .no, .no, .no, .no, .no] = .nx [.val (.lst (ls.map litD)), .own false (.dic (tabD [eS] fun _ => .int 0)), .no, .no, .no, .no, .no] := by
    simp [b_l_heights_a, tabD, eS]
    rfl
  obtain ⟨k2, k3, k4, e⟩ := hts_fill (cf := cf) (d0 := .lst (ls.map litD)) ls [eS] .no .no .no (by simp; omega)
  have a2 : evS cf b_l_heights_1_a [.val (.lst (ls.map litD)), .own false (.dic (tabD [eS] fun _ => .int 0)), .no, .no, .no, .no, .no] = .nx [.val (.lst (ls.map litD)), .own false (.dic (tabD (allK ls [eS]) fun _ => .int 0)), k2.s, k3.s, k4.s, .no, .no] :=
    (s_for (ev_seq (op := .v (.lst (ls.map litD))) (d := .lst (ls.map litD)) rfl rfl rfl)).trans e
  generalize allK ls [eS] = K at hKl heK hin a2
  have hit : evI cf (.irng (.bin .add (.bi .len (.var 1)) (.cst (.int 1)))) [.val (.lst (ls.map litD)), .own false (.dic (tabD K fun _ => .int 0)), k2.s, k3.s, k4.s, .no, .no] =
      .ok ((List.range (K.length + 1)).map fun (i : Nat) => D.int (0 + (i : Int))) [.val (.lst (ls.map litD)), .own false (.dic (tabD K fun _ => .int 0)), k2.s, k3.s, k4.s, .no, .no] :=
    ev_rng (n := K.length + 1) (op := .v (.int ((K.length + 1 : Nat) : Int))) (by simp) rfl (by omega)
  rcases hts_rounds (cf := cf) (K := K) (ls := ls) (by omega) hin ((List.range (K.length + 1)).map fun (i : Nat) => D.int (0 + (i : Int))) 1 ⟨fun _ => 0, fun _ => none, fun _ => 0⟩ k2 k3 k4 .no .no (Nat.le_refl _) (Rx.RI.init _ _) with ⟨v, ρ', q1, q2⟩ | ⟨s', m2, m3, m4, m5, m6, q1, q2⟩
  · have a3 : evS cf b_l_heights_2_a [.val (.lst (ls.map litD)), .own false (.dic (tabD K fun _ => .int 0)), k2.s, k3.s, k4.s, .no, .no] = _ := (s_for hit).trans q1
    exact .inl ⟨K, v, _, c_retf ((s_seq a1).trans ((s_seq a2).trans (s_ret a3))), heK, q2⟩
  · have a3 : evS cf b_l_heights_2_a [.val (.lst (ls.map litD)), .own false (.dic (tabD K fun _ => .int 0)), k2.s, k3.s, k4.s, .no, .no] = _ := (s_for hit).trans q1
    have a4 : evS cf b_l_heights_3 [.val (.lst (ls.map litD)), .own false (valsD K s'.v), m2.s, m3.s, m4.s, m5.s, m6.s] = .ret (.v .non) [.val (.lst (ls.map litD)), .own false (valsD K s'.v), m2.s, m3.s, m4.s, m5.s, m6.s] := by simp [b_l_heights_3]
    refine .inr ⟨_, c_ret ((s_seq a1).trans ((s_seq a2).trans ((s_seq a3).trans a4))), ?_⟩
    rintro ⟨a, ha⟩
    obtain ⟨x, r1, r2⟩ := q2 (by simp [List.range_succ])
    have hn : 1 + ((List.range (K.length + 1)).map fun (i : Nat) => D.int (0 + (i : Int))).length - 1 = K.length + 1 := by simp
    rw [hn] at r1 r2
    obtain ⟨n, hn, hr⟩ := Rx.ring_at (D := K) r1 r2 (fun y hy => by
      obtain ⟨⟨i, z, w⟩, hz⟩ := Option.ne_none_iff_exists'.mp hy
      exact (hin _ (enF_get (r1.bk y i z w hz).1)).1) (by omega)
    exact hr.unsat a fun i x y w h => ha _ (enF_get h)
end
end PyI
set_option maxHeartbeats 1000000
/-! PyNa: the law decides. -/
namespace PyI
open PySem PySem.Spec PyProof.Rows L2
def SatLD (ls : List L3) (ds : List (List L3)) : Prop := ∃ a : Str → Int, (∀ l ∈ ls, holdsL a l) ∧ ∀ d ∈ ds, holdsC a d
theorem satLD_nil {ls : List L3} : SatLD ls [] ↔ SatL ls := ⟨fun ⟨a, h, _⟩ => ⟨a, h⟩, fun ⟨a, h⟩ => ⟨a, h, by simp⟩⟩
theorem satLD_cons {ls : List L3} {d : List L3} {ds : List (List L3)} : SatLD ls (d :: ds) ↔ ∃ l ∈ d, SatLD (ls ++ [l]) ds := by
  constructor
  · rintro ⟨a, h1, h2⟩
    obtain ⟨l, hl, hh⟩ := h2 d (by simp)
    refine ⟨l, hl, a, fun m hm => ?_, fun e he => h2 e (by simp [he])⟩
    rcases List.mem_append.mp hm with q | q
    · exact h1 m q
    · have : m = l := by simpa using q
      rw [this]; exact hh
  · rintro ⟨l, hl, a, h1, h2⟩
    refine ⟨a, fun m hm => h1 m (by simp [hm]), fun e he => ?_⟩
    rcases List.mem_cons.mp he with q | q
    · rw [q]; exact ⟨l, hl, h1 l (by simp)⟩
    · exact h2 e q
def FoundC (P : Prop) (r : CRes) : Prop := (∃ K v o, r = .ok (.f (valsD K v)) o ∧ eS ∈ K ∧ P) ∨ (∃ o, r = .ok (.v .non) o ∧ ¬ P)
def CasedC (n : Nat) (c : List Arg → CRes) : Prop := ∀ (ls : List L3) (ds : List (List L3)), ls.length + ds.length ≤ 1000 → ds.length ≤ n → (∀ d ∈ ds, d.length ≤ 1000) → FoundC (SatLD ls ds) (c [.v (.lst (ls.map litD)), .v (.lst (ds.map clD))])
section
variable {cf : CF} {ih ic it : Nat} {n : Nat}
theorem cased_loop {ls : List L3} {d1 : D} {ds : List (List L3)} {s2 : Slot} (hc : CasedC n (cf ic)) (hl : ls.length + ds.length + 1 ≤ 1000) (hn : ds.length ≤ n) (hd : ∀ d ∈ ds, d.length ≤ 1000) (d0 : D) : ∀ (rest : List L3) (j3 j4 : J),
    (∃ K v ρ', forL (.n 3) (evS cf (b_l_cased_2_ab ih ic)) (rest.map litD) [.val (.lst (ls.map litD)), .val (.lst (d0 :: ds.map clD)), s2, j3.s, j4.s] = .ret (.f (valsD K v)) ρ' ∧ eS ∈ K ∧ ∃ l ∈ rest, SatLD (ls ++ [l]) ds) ∨
    (∃ (k3 k4 : J), forL (.n 3) (evS cf (b_l_cased_2_ab ih ic)) (rest.map litD) [.val (.lst (ls.map litD)), .val (.lst (d0 :: ds.map clD)), s2, j3.s, j4.s] = .nx [.val (.lst (ls.map litD)), .val (.lst (d0 :: ds.map clD)), s2, k3.s, k4.s] ∧ ¬ ∃ l ∈ rest, SatLD (ls ++ [l]) ds)
  | [], j3, j4 => .inr ⟨j3, j4, rfl, by simp⟩
  | l :: rest, j3, j4 => by
    have ha : asgT (.n 3) (litD l) [.val (.lst (ls.map litD)), .val (.lst (d0 :: ds.map clD)), s2, j3.s, j4.s] = some [.val (.lst (ls.map litD)), .val (.lst (d0 :: ds.map clD)), s2, .val (litD l), j4.s] := by simp
    have z : ls.length + 1 ≤ 100000 := by omega
    have hm : (ls ++ [l]).map litD = ls.map litD ++ [litD l] := by simp
    have hcut : cutD (d0 :: ds.map clD) (some 1) none = ds.map clD := by rw [cut_from1]; rfl
    rw [List.map_cons, forL, ha]
    rcases hc (ls ++ [l]) ds (by simp; omega) hn hd with ⟨K, v, o, e, h1, h2⟩ | ⟨o, e, h2⟩
    · rw [hm] at e
      left
      have a1 : evS cf (b_l_cased_2_ab_a ih ic) [.val (.lst (ls.map litD)), .val (.lst (d0 :: ds.map clD)), s2, .val (litD l), j4.s] = .nx [.val (.lst (ls.map litD)), .val (.lst (d0 :: ds.map clD)), s2, .val (litD l), .own false (valsD K v)] := by
        simp [b_l_cased_2_ab_a, z, hcut, e]
      have a2 : evS cf (b_l_cased_2_ab_1 ih ic) [.val (.lst (ls.map litD)), .val (.lst (d0 :: ds.map clD)), s2, .val (litD l), .own false (valsD K v)] = .ret (.f (valsD K v)) [.val (.lst (ls.map litD)), .val (.lst (d0 :: ds.map clD)), s2, .val (litD l), .no] := by
        simp [b_l_cased_2_ab_1, valsD]
      have a3 : evS cf (b_l_cased_2_ab ih ic) _ = _ := (s_seq a1).trans a2
      exact ⟨K, v, _, by simp only [a3]; rfl, h1, l, by simp, h2⟩
    · rw [hm] at e
      have a1 : evS cf (b_l_cased_2_ab_a ih ic) [.val (.lst (ls.map litD)), .val (.lst (d0 :: ds.map clD)), s2, .val (litD l), j4.s] = .nx [.val (.lst (ls.map litD)), .val (.lst (d0 :: ds.map clD)), s2, .val (litD l), .val .non] := by
        simp [b_l_cased_2_ab_a, z, hcut, e]
      have a2 : evS cf (b_l_cased_2_ab_1 ih ic) [.val (.lst (ls.map litD)), .val (.lst (d0 :: ds.map clD)), s2, .val (litD l), .val .non] = .nx [.val (.lst (ls.map litD)), .val (.lst (d0 :: ds.map clD)), s2, .val (litD l), .val .non] := by
        simp [b_l_cased_2_ab_1]
      have a3 : evS cf (b_l_cased_2_ab ih ic) _ = _ := (s_seq a1).trans a2
      simp only [a3]
      rcases cased_loop hc hl hn hd (d1 := d1) (s2 := s2) d0 rest (.v (litD l)) (.v .non) with ⟨K, v, ρ', q1, q2, m, hm, q3⟩ | ⟨k3, k4, q1, q2⟩
      · exact .inl ⟨K, v, ρ', q1, q2, m, by simp [hm], q3⟩
      · refine .inr ⟨k3, k4, q1, ?_⟩
        rintro ⟨m, hm, q3⟩
        rcases List.mem_cons.mp hm with q | q
        · rw [q] at q3; exact h2 q3
        · exact q2 ⟨m, q, q3⟩
theorem cased_ok (hh : HeightsC (cf ih)) (hc : n = 0 ∨ CasedC (n - 1) (cf ic)) : CasedC n (callBody cf ⟨5, 2, b_l_cased ih ic⟩) := by
  intro ls ds hl hn hd
  rcases hh ls (by omega) with ⟨K, v, o, e, h1, h2⟩ | ⟨o, e, h2⟩
  · have a1 : evS cf (b_l_cased_a ih ic) [.val (.lst (ls.map litD)), .val (.lst (ds.map clD)), .no, .no, .no] = .nx [.val (.lst (ls.map litD)), .val (.lst (ds.map clD)), .own false (valsD K v), .no, .no] := by
      simp [b_l_cased_a, e]
    cases ds with
    | nil =>
      have a2 : evS cf (b_l_cased_1_a ih ic) [.val (.lst (ls.map litD)), .val (.lst (([] : List (List L3)).map clD)), .own false (valsD K v), .no, .no] = .ret (.f (valsD K v)) [.val (.lst (ls.map litD)), .val (.lst (([] : List (List L3)).map clD)), .no, .no, .no] := by
        simp [b_l_cased_1_a, valsD]
      exact .inl ⟨K, v, _, c_retf ((s_seq a1).trans (s_ret a2)), h1, satLD_nil.mpr ⟨v, h2⟩⟩
    | cons d ds =>
      simp only [List.length_cons] at hl hn
      have hc' : CasedC (n - 1) (cf ic) := by
        rcases hc with q | q
        · omega
        · exact q
      have a2 : evS cf (b_l_cased_1_a ih ic) [.val (.lst (ls.map litD)), .val (.lst ((d :: ds).map clD)), .own false (valsD K v), .no, .no] = .nx [.val (.lst (ls.map litD)), .val (.lst (clD d :: ds.map clD)), .own false (valsD K v), .no, .no] := by
        have : ¬ ((ds.length : Int) + 1 = 0) := by omega
        simp [b_l_cased_1_a, valsD, this]
      have hit : evI cf (.iseq (.sub (.var 1) (.cst (.int 0)))) [.val (.lst (ls.map litD)), .val (.lst (clD d :: ds.map clD)), .own false (valsD K v), .no, .no] = .ok (d.map litD) [.val (.lst (ls.map litD)), .val (.lst (clD d :: ds.map clD)), .own false (valsD K v), .no, .no] := by
        simp [clD]
      rcases cased_loop (ih := ih) (d1 := .non) (s2 := .own false (valsD K v)) hc' (by omega) (by omega) (fun e he => hd e (by simp [he])) (clD d) d .no .no with ⟨K', v', ρ', q1, q2, q3⟩ | ⟨k3, k4, q1, q2⟩
      · have a3 : evS cf (b_l_cased_2_a ih ic) [.val (.lst (ls.map litD)), .val (.lst (clD d :: ds.map clD)), .own false (valsD K v), .no, .no] = _ := (s_for hit).trans q1
        exact .inl ⟨K', v', _, c_retf ((s_seq a1).trans ((s_seq a2).trans (s_ret a3))), q2, satLD_cons.mpr q3⟩
      · have a3 : evS cf (b_l_cased_2_a ih ic) [.val (.lst (ls.map litD)), .val (.lst (clD d :: ds.map clD)), .own false (valsD K v), .no, .no] = _ := (s_for hit).trans q1
        have a4 : evS cf (b_l_cased_3 ih ic) [.val (.lst (ls.map litD)), .val (.lst (clD d :: ds.map clD)), .own false (valsD K v), k3.s, k4.s] = .ret (.v .non) [.val (.lst (ls.map litD)), .val (.lst (clD d :: ds.map clD)), .own false (valsD K v), k3.s, k4.s] := by simp [b_l_cased_3]
        exact .inr ⟨_, c_ret ((s_seq a1).trans ((s_seq a2).trans ((s_seq a3).trans a4))), fun q => q2 (satLD_cons.mp q)⟩
  · have a1 : evS cf (b_l_cased_a ih ic) [.val (.lst (ls.map litD)), .val (.lst (ds.map clD)), .no, .no, .no] = .nx [.val (.lst (ls.map litD)), .val (.lst (ds.map clD)), .val .non, .no, .no] := by
      simp [b_l_cased_a, e]
    have a2 : evS cf (b_l_cased_1_a ih ic) [.val (.lst (ls.map litD)), .val (.lst (ds.map clD)), .val .non, .no, .no] = .ret (.v .non) [.val (.lst (ls.map litD)), .val (.lst (ds.map clD)), .val .non, .no, .no] := by
      simp [b_l_cased_1_a]
    refine .inr ⟨_, c_ret ((s_seq a1).trans (s_ret a2)), ?_⟩
    rintro ⟨a, q, _⟩
    exact h2 ⟨a, q⟩
/-! ### integers -/
def lks (cs : List (List L3)) : List L3 := cs.filterMap fun c => match c with | [l] => some l | _ => none
def dbl (cs : List (List L3)) : List (List L3) := cs.filter fun c => c.length == 2
theorem sat_split {cs : List (List L3)} (hC : Cls cs) : Sat cs ↔ SatLD (lks cs) (dbl cs) := by
  constructor
  · rintro ⟨a, h⟩
    refine ⟨a, fun l hl => ?_, fun d hd => h d (List.mem_filter.mp hd).1⟩
    obtain ⟨c, hc, e⟩ := List.mem_filterMap.mp hl
    split at e
    · cases e; exact holdsC_one.mp (h _ hc)
    · cases e
  · rintro ⟨a, h1, h2⟩
    refine ⟨a, fun c hc => ?_⟩
    rcases hC c hc with q | q
    · match c, q with
      | [l], _ => exact holdsC_one.mpr (h1 l (List.mem_filterMap.mpr ⟨[l], hc, rfl⟩))
    · exact h2 c (List.mem_filter.mpr ⟨hc, by simp [q]⟩)
def isN (k : Nat) : D → Bool
  | .tup xs => xs.length == k
  | _ => false
def hdD : D → D
  | .tup (x :: _) => x
  | _ => .non
theorem filt_one : ∀ cs : List (List L3), ((cs.map clD).filter (isN 1)).map hdD = (lks cs).map litD
  | [] => rfl
  | [] :: r => by have := filt_one r; simp [isN, clD, lks] at this ⊢; exact this
  | [l] :: r => by have := filt_one r; simp [isN, clD, lks, List.filter_cons, hdD] at this ⊢; exact this
  | (l :: m :: q) :: r => by have := filt_one r; simp [isN, clD, lks, List.filter_cons] at this ⊢; exact this
theorem filt_two : ∀ cs : List (List L3), ((cs.map clD).filter (isN 2)).map (fun d => d) = (dbl cs).map clD
  | [] => rfl
  | c :: r => by
    have := filt_two r
    unfold dbl at this ⊢
    rw [List.map_id'] at this ⊢
    have e : isN 2 (clD c) = (c.length == 2) := by simp [isN, clD]
    rw [List.map_cons, List.filter_cons, List.filter_cons, e]
    split
    · rw [this]; rfl
    · exact this
theorem ints_loop {d0 d1 : D} {K : List Str} {v : Str → Int} (he : eS ∈ K) : ∀ (T P : List Str) (j4 : J), (P ++ T).Nodup → (P ++ T).length ≤ 1000 → ∃ j4' : J,
    forL (.n 4) (evS cf (b_l_integers_4_ab ic it)) (T.map D.str) [.val d0, .val d1, .own false (valsD K v), .own false (.dic (tabD P fun x => .int ((if x ∈ K then v x else 0) - v eS))), j4.s, .no, .no] = .nx [.val d0, .val d1, .own false (valsD K v), .own false (.dic (tabD (P ++ T) fun x => .int ((if x ∈ K then v x else 0) - v eS))), j4'.s, .no, .no]
  | [], P, j4, _, _ => ⟨j4, by simp [forL]⟩
  | x :: T, P, j4, hn, hl => by
    have hx : x ∉ P := fun z => by
      rw [List.nodup_append] at hn
      exact hn.2.2 x z x (by simp) rfl
    obtain ⟨j', e⟩ := ints_loop (d0 := d0) (d1 := d1) (v := v) he T (P ++ [x]) (.v (.str x)) (by simpa using hn) (by simpa using hl)
    refine ⟨j', ?_⟩
    have ha : asgT (.n 4) (.str x) [.val d0, .val d1, .own false (valsD K v), .own false (.dic (tabD P fun x => .int ((if x ∈ K then v x else 0) - v eS))), j4.s, .no, .no] = some [.val d0, .val d1, .own false (valsD K v), .own false (.dic (tabD P fun x => .int ((if x ∈ K then v x else 0) - v eS))), .val (.str x), .no, .no] := by simp
    have le : look (tabD K fun z => .int (v z)) (.inr (PySem.Str.ofString "")) = some (.int (v eS)) := look_tab he
    have hp : put (tabD P fun x => .int ((if x ∈ K then v x else 0) - v eS)) (.inr x) (.int ((if x ∈ K then v x else 0) - v eS)) = tabD (P ++ [x]) fun x => .int ((if x ∈ K then v x else 0) - v eS) := by
      rw [put_new hx]
      rw [show (D.int ((if x ∈ K then v x else 0) - v eS)) = (fun x => D.int ((if x ∈ K then v x else 0) - v eS)) x from rfl, upf_self]
    have hz : P.length ≤ 100000 := by simp at hl; omega
    have e1 : evS cf (b_l_integers_4_ab ic it) [.val d0, .val d1, .own false (valsD K v), .own false (.dic (tabD P fun x => .int ((if x ∈ K then v x else 0) - v eS))), .val (.str x), .no, .no] = .nx [.val d0, .val d1, .own false (valsD K v), .own false (.dic (tabD (P ++ [x]) fun x => .int ((if x ∈ K then v x else 0) - v eS))), .val (.str x), .no, .no] := by
      rw [← hp]
      by_cases hk : x ∈ K
      · have lx := look_tab (f := fun z => .int (v z)) hk
        simp [b_l_integers_4_ab, valsD, lx, le, hk, hz]
      · have lx := look_no (f := fun z => .int (v z)) hk
        simp [b_l_integers_4_ab, valsD, lx, le, hk, hz]
    rw [List.map_cons, forL, ha]
    simp only [e1]
    refine e.trans ?_
    rw [List.append_assoc]; rfl
def IntegersC (n : Nat) (c : List Arg → CRes) : Prop := ∀ (cs : List (List L3)) (P : List Str), Over P cs → P.length ≤ 30 → Cls cs → cs.length ≤ 400 → (dbl cs).length ≤ n → (∃ kvs o, c [.v (csD cs)] = .ok (.f (.dic kvs)) o ∧ Sat cs) ∨ (∃ o, c [.v (csD cs)] = .ok (.v .non) o ∧ ¬ Sat cs)
theorem integers_ok (hc : CasedC n (cf ic)) (ht : TermsOfC (cf it)) : IntegersC n (callBody cf ⟨7, 1, b_l_integers ic it⟩) := by
  intro cs P hO hP hC hcs hn
  have b1 := lc_filt (cf := cf) (vs := [5, 6]) (t := .n 6) (it := .iseq (.var 0)) (c := .tv (.cmp .eq (.bi .len (.var 6)) (.cst (.int 1)))) (e := .sub (.var 6) (.cst (.int 0))) (ρ := [.val (csD cs), .no, .no, .no, .no, .no, .no]) (ρ1 := [.val (csD cs), .no, .no, .no, .no, .no, .no]) (items := cs.map clD)
    (isN 1) hdD (by simp [csD]) rfl (by rw [List.length_map]; omega) fun d hd => by
      obtain ⟨c, hc, rfl⟩ := List.mem_map.mp hd
      refine ⟨[.val (csD cs), .no, .no, .no, .no, .no, .val (clD c)], [.val (csD cs), .no, .no, .no, .no, .no, .val (clD c)], by simp [wipeR], ?_, fun h => ⟨[.val (csD cs), .no, .no, .no, .no, .no, .val (clD c)], ?_, rfl, rfl⟩, fun _ => ⟨rfl, rfl⟩⟩
      · rcases hC c hc with q | q <;> simp [clD, isN, q]
      · rcases hC c hc with q | q
        · match c, q with
          | [l], _ => simp [clD, hdD]
        · simp [isN, clD, q] at h
  rw [filt_one] at b1
  have a1 : evS cf (b_l_integers_a ic it) [.val (csD cs), .no, .no, .no, .no, .no, .no] = .nx [.val (csD cs), .own false (.lst ((lks cs).map litD)), .no, .no, .no, .no, .no] := s_set b1 (by simp [rst, wipeR])
  have b2 := lc_filt (cf := cf) (vs := [5, 6]) (t := .n 6) (it := .iseq (.var 0)) (c := .tv (.cmp .eq (.bi .len (.var 6)) (.cst (.int 2)))) (e := .var 6) (ρ := [.val (csD cs), .val (.lst ((lks cs).map litD)), .no, .no, .no, .no, .no]) (ρ1 := [.val (csD cs), .val (.lst ((lks cs).map litD)), .no, .no, .no, .no, .no]) (items := cs.map clD)
    (isN 2) (fun d => d) (by simp [csD]) rfl (by rw [List.length_map]; omega) fun d hd => by
      obtain ⟨c, hc, rfl⟩ := List.mem_map.mp hd
      refine ⟨[.val (csD cs), .val (.lst ((lks cs).map litD)), .no, .no, .no, .no, .val (clD c)], [.val (csD cs), .val (.lst ((lks cs).map litD)), .no, .no, .no, .no, .val (clD c)], by simp [wipeR], ?_, fun h => ⟨[.val (csD cs), .val (.lst ((lks cs).map litD)), .no, .no, .no, .no, .val (clD c)], ?_, rfl, rfl⟩, fun _ => ⟨rfl, rfl⟩⟩
      · rcases hC c hc with q | q <;> simp [clD, isN, q]
      · simp
  rw [filt_two] at b2
  have b2' := b2.trans (show _ = Res.ok (.f (.lst ((dbl cs).map clD))) [.val (csD cs), .val (.lst ((lks cs).map litD)), .no, .no, .no, .no, .no] from by simp [rst, wipeR])
  have hll : (lks cs).length ≤ cs.length := List.length_filterMap_le ..
  have hdl : (dbl cs).length ≤ cs.length := List.length_filter_le ..
  rcases hc (lks cs) (dbl cs) (by omega) hn (fun d hd => by rcases hC d (List.mem_filter.mp hd).1 with q | q <;> omega) with ⟨K, v, o, e, h1, h2⟩ | ⟨o, e, h2⟩
  · have a2 : evS cf (b_l_integers_1_a ic it) [.val (csD cs), .own false (.lst ((lks cs).map litD)), .no, .no, .no, .no, .no] = .nx [.val (csD cs), .val (.lst ((lks cs).map litD)), .own false (valsD K v), .no, .no, .no, .no] := by
      unfold b_l_integers_1_a
      generalize (E.lc [5, 6] (.n 6) (.iseq (.var 0)) (.tv (.cmp .eq (.bi .len (.var 6)) (.cst (.int 2)))) (.var 6)) = X at b2' ⊢
      simp [b2', e]
    have a3 : evS cf (b_l_integers_2_a ic it) [.val (csD cs), .val (.lst ((lks cs).map litD)), .own false (valsD K v), .no, .no, .no, .no] = .nx [.val (csD cs), .val (.lst ((lks cs).map litD)), .own false (valsD K v), .no, .no, .no, .no] := by
      simp [b_l_integers_2_a, valsD]
    have a4 : evS cf (b_l_integers_3_a ic it) [.val (csD cs), .val (.lst ((lks cs).map litD)), .own false (valsD K v), .no, .no, .no, .no] = .nx [.val (csD cs), .val (.lst ((lks cs).map litD)), .own false (valsD K v), .own false (.dic (tabD [] fun x => .int ((if x ∈ K then v x else 0) - v eS))), .no, .no, .no] := by
      simp [b_l_integers_3_a, tabD]
    obtain ⟨o2, e2⟩ := ht cs P hO hP hC (by omega)
    have hit : evI cf (.iseq (.call it (.acons (.frz (.var 0)) .anil))) [.val (csD cs), .val (.lst ((lks cs).map litD)), .own false (valsD K v), .own false (.dic (tabD [] fun x => .int ((if x ∈ K then v x else 0) - v eS))), .no, .no, .no] = .ok ((Tm cs).map D.str) [.val (csD cs), .val (.lst ((lks cs).map litD)), .own false (valsD K v), .own false (.dic (tabD [] fun x => .int ((if x ∈ K then v x else 0) - v eS))), .no, .no, .no] := by
      simp [e2]
    have hTl := Tm_len hO
    obtain ⟨j4, e3⟩ := ints_loop (cf := cf) (ic := ic) (it := it) (d0 := csD cs) (d1 := .lst ((lks cs).map litD)) (K := K) (v := v) h1 (Tm cs) [] .no (by simpa using Tm_nodup cs) (by simp; omega)
    have a5 : evS cf (b_l_integers_4_a ic it) [.val (csD cs), .val (.lst ((lks cs).map litD)), .own false (valsD K v), .own false (.dic (tabD [] fun x => .int ((if x ∈ K then v x else 0) - v eS))), .no, .no, .no] = _ := (s_for hit).trans e3
    have a6 : evS cf (b_l_integers_5 ic it) [.val (csD cs), .val (.lst ((lks cs).map litD)), .own false (valsD K v), .own false (.dic (tabD ([] ++ Tm cs) fun x => .int ((if x ∈ K then v x else 0) - v eS))), j4.s, .no, .no] = .ret (.f (.dic (tabD ([] ++ Tm cs) fun x => .int ((if x ∈ K then v x else 0) - v eS)))) [.val (csD cs), .val (.lst ((lks cs).map litD)), .own false (valsD K v), .no, j4.s, .no, .no] := by
      simp [b_l_integers_5]
    exact .inl ⟨_, _, c_retf ((s_seq a1).trans ((s_seq a2).trans ((s_seq a3).trans ((s_seq a4).trans ((s_seq a5).trans a6))))), (sat_split hC).mpr h2⟩
  · have a2 : evS cf (b_l_integers_1_a ic it) [.val (csD cs), .own false (.lst ((lks cs).map litD)), .no, .no, .no, .no, .no] = .nx [.val (csD cs), .val (.lst ((lks cs).map litD)), .val .non, .no, .no, .no, .no] := by
      unfold b_l_integers_1_a
      generalize (E.lc [5, 6] (.n 6) (.iseq (.var 0)) (.tv (.cmp .eq (.bi .len (.var 6)) (.cst (.int 2)))) (.var 6)) = X at b2' ⊢
      simp [b2', e]
    have a3 : evS cf (b_l_integers_2_a ic it) [.val (csD cs), .val (.lst ((lks cs).map litD)), .val .non, .no, .no, .no, .no] = .ret (.v .non) [.val (csD cs), .val (.lst ((lks cs).map litD)), .val .non, .no, .no, .no, .no] := by
      simp [b_l_integers_2_a]
    exact .inr ⟨_, c_ret ((s_seq a1).trans ((s_seq a2).trans (s_ret a3))), fun q => h2 ((sat_split hC).mp q)⟩
end
end PyI
set_option maxHeartbeats 1000000
/-! PyNb: answers judged right. -/
namespace PyI
open PySem PySem.Spec PyProof.Rows L2
theorem nic_nats : ∀ l : List Nat, nicL (l.map natD) = true
  | [] => rfl
  | x :: l => by simp [nicL, natD, D.nic]; have := nic_nats l; simpa [natD] using this
theorem closed_nic {cs : List (List L3)} {t : D} (h : Closed cs t) : cs.length + t.dep ≤ 1000 → t.nic = true := by
  induction h with
  | @ring cs is ls r =>
    intro hl
    have h4 : ∀ i ∈ is, i ∈ List.range cs.length := fun i hi => by
      obtain ⟨l, g1, _⟩ := pick_at r.pk hi
      exact List.mem_range.mpr (pick_lt g1)
    have := nodup_len (B := is) (K := List.range cs.length) r.nd h4
    rw [List.length_range] at this
    have h5 := nic_nats is
    have h6 : is.length ≤ 1000 := by omega
    simp [D.nic, nicL, h5, h6]
  | @case cs i l m t u e h1 h2 ih1 ih2 =>
    intro hl
    have hd := dep4 (n := (D.tup [.str sCase, natD i, t, u]).dep - 1) (a := .str sCase) (b := natD i) (c := t) (d := u) (by omega)
    have hp : 1 ≤ (D.tup [.str sCase, natD i, t, u]).dep := by simp [D.dep]
    have g1 := ih1 (by simp only [List.length_append, List.length_cons, List.length_nil]; omega)
    have g2 := ih2 (by simp only [List.length_append, List.length_cons, List.length_nil]; omega)
    simp [D.nic, nicL, g1, g2, natD]
theorem nodL_strs : ∀ l : List Str, nodL (l.map D.str) = true
  | [] => rfl
  | x :: l => by simp [nodL_strs l]
def holdsD (w : Str → Int) : D → Bool
  | .tup ls => ls.any fun l => match l with
    | .tup [.str a, .str b, .int n] => decide (w a ≤ w b + n)
    | _ => false
  | _ => false
theorem holdsD_cl {w : Str → Int} {c : List L3} : holdsD w (clD c) = decide (holdsC w c) := by
  unfold holdsD clD
  simp only
  rw [List.any_map, Bool.eq_iff_iff, List.any_eq_true, decide_eq_true_eq]
  constructor
  · rintro ⟨l, h1, h2⟩
    exact ⟨l, h1, of_decide_eq_true h2⟩
  · rintro ⟨l, h1, h2⟩
    exact ⟨l, h1, decide_eq_true h2⟩
section
variable {cf : CF} {it ih im icl ip : Nat} {n m : Nat}
def MeetsC (c : List Arg → CRes) : Prop := ∀ (cs : List (List L3)) (P : List Str) (w : Str → Int), Over P cs → P.length ≤ 30 → Cls cs → cs.length ≤ 900 → w eS = 0 → Meets3 w cs → ∃ o, c [.v (csD cs), .v (valsD (Tm cs) w)] = .ok (.v (.bl true)) o
theorem sort_Tm (cs : List (List L3)) : sortS (Tm cs) = Tm cs := sorted_uniq (sort_pair _) (Tm_sorted cs) ((sort_perm _).nodup_iff.mpr (Tm_nodup cs)) (Tm_nodup cs) fun x => (sort_perm _).mem_iff
theorem meets_ok (ht : TermsOfC (cf it)) (hh : LHC (cf ih)) : MeetsC (callBody cf ⟨5, 2, b_l_meets it ih⟩) := by
  intro cs P w hO hP hC hcs hw hM
  obtain ⟨o, e⟩ := ht cs P hO hP hC (by omega)
  have hTl := Tm_len hO
  have h64 : (Tm cs).length < 64 := by omega
  have hk : keysS (tabD (Tm cs) fun x => .int (w x)) = some (Tm cs) := keysS_tab ..
  have hs := sort_Tm cs
  have hq : eqvL ((Tm cs).map D.str) ((Tm cs).map D.str) = some true := by rw [eqvL_strs]; simp
  have hdp := depL_strs (Tm cs)
  have hnd := nodL_strs (Tm cs)
  have a1 : evS cf (b_l_meets_a it ih) [.val (csD cs), .val (valsD (Tm cs) w), .no, .no, .no] = .nx [.val (csD cs), .val (valsD (Tm cs) w), .no, .no, .no] := by
    simp [b_l_meets_a, valsD, e, sortD, hk, h64, hs, hq, hdp, hnd]
  have hkeys := tab_keys (K := Tm cs) (f := fun z => .int (w z))
  have hit : evI cf (.iseq (.var 1)) [.val (csD cs), .val (valsD (Tm cs) w), .no, .no, .no] = .ok ((Tm cs).map D.str) [.val (csD cs), .val (valsD (Tm cs) w), .no, .no, .no] := by
    simp [valsD, hkeys]
  rcases loop_all (t := .n 2) (b := evS cf (b_l_meets_1_ab it ih)) (fun j => [.val (csD cs), .val (valsD (Tm cs) w), j.s, .no, .no]) (fun _ => true) ((Tm cs).map D.str) (fun d hd j => by
    obtain ⟨x, hx, rfl⟩ := List.mem_map.mp hd
    have lx := look_tab (f := fun z => .int (w z)) hx
    refine ⟨.v (.str x), [.val (csD cs), .val (valsD (Tm cs) w), .val (.str x), .no, .no], by simp, fun _ => ?_, fun z => by cases z⟩
    simp [b_l_meets_1_ab, valsD, lx]
    rfl) .no with ⟨_, j', q⟩ | ⟨q, _⟩
  · have a2 : evS cf (b_l_meets_1_a it ih) [.val (csD cs), .val (valsD (Tm cs) w), .no, .no, .no] = _ := (s_for hit).trans q
    have b1 := lc_filt (cf := cf) (vs := [3, 4]) (t := .n 4) (it := .iseq (.var 0)) (c := .tnot (.tt (.call ih (.acons (.frz (.var 4)) (.acons (.frz (.var 1)) .anil))))) (e := .var 4) (ρ := [.val (csD cs), .val (valsD (Tm cs) w), j'.s, .no, .no]) (ρ1 := [.val (csD cs), .val (valsD (Tm cs) w), j'.s, .no, .no]) (items := cs.map clD)
      (fun d => !(holdsD w d)) (fun d => d) (by simp [csD]) rfl (by rw [List.length_map]; omega) fun d hd => by
        obtain ⟨c, hc, rfl⟩ := List.mem_map.mp hd
        have hin : ∀ l ∈ c, (l.1 ∈ Tm cs ∨ l.1 = eS) ∧ (l.2.1 ∈ Tm cs ∨ l.2.1 = eS) := fun l hl => by
          have i1 := in_T (allT_mem.mpr ⟨c, hc, l, hl, .inl rfl⟩)
          have i2 := in_T (allT_mem.mpr ⟨c, hc, l, hl, .inr rfl⟩)
          exact ⟨by simpa using i1, by simpa using i2⟩
        obtain ⟨o2, e2⟩ := hh c (Tm cs) w hw hin
        rw [decide_eq_true (hM c hc)] at e2
        refine ⟨[.val (csD cs), .val (valsD (Tm cs) w), j'.s, .no, .val (clD c)], [.val (csD cs), .val (valsD (Tm cs) w), j'.s, .no, .val (clD c)], by simp [wipeR], ?_, fun h => ?_, fun _ => ⟨rfl, rfl⟩⟩
        · rw [holdsD_cl, decide_eq_true (hM c hc)]
          simp [e2]
        · rw [holdsD_cl, decide_eq_true (hM c hc)] at h
          cases h
    have hf : (cs.map clD).filter (fun d => !(holdsD w d)) = [] := by
      rw [List.filter_eq_nil_iff]
      intro d hd
      obtain ⟨c, hc, rfl⟩ := List.mem_map.mp hd
      rw [holdsD_cl, decide_eq_true (hM c hc)]; decide
    rw [hf] at b1
    have b1' := b1.trans (show _ = Res.ok (.f (.lst [])) [.val (csD cs), .val (valsD (Tm cs) w), j'.s, .no, .no] from by simp [rst, wipeR])
    have a3 : evS cf (b_l_meets_2 it ih) [.val (csD cs), .val (valsD (Tm cs) w), j'.s, .no, .no] = .ret (.v (.bl true)) [.val (csD cs), .val (valsD (Tm cs) w), j'.s, .no, .no] := by
      unfold b_l_meets_2
      generalize (E.lc [3, 4] (.n 4) (.iseq (.var 0)) (.tnot (.tt (.call ih (.acons (.frz (.var 4)) (.acons (.frz (.var 1)) .anil))))) (.var 4)) = X at b1' ⊢
      simp [b1']
    exact ⟨_, c_ret ((s_seq a1).trans ((s_seq a2).trans a3))⟩
  · simp at q
/-- right: the answer told, and what the law knows -/
def RightC (n : Nat) (c : List Arg → CRes) : Prop := ∀ (cs : List (List L3)) (P : List Str) (m : Nat) (d : D) (b : Bool), Over P cs → P.length ≤ 30 → Cls cs → cs.length + m ≤ 900 → m + 2 ≤ n → Told m cs d → (b = true ↔ Sat cs) → ∃ o, c [.v (csD cs), .v d, .v (.bl b)] = .ok (.v (.bl true)) o
theorem right_ok (hm : MeetsC (cf im)) (ht : TermsOfC (cf it)) (hl : ClosC n (cf icl)) (hp : ClosC n (cf ip)) (hn : n ≤ 90) : RightC n (callBody cf ⟨3, 3, b_l_right im it icl ip⟩) := by
  intro cs P m d b hO hP hC hcs hmn hT hb
  rcases hT with ⟨w, rfl, hw, hM⟩ | ⟨t, rfl, hc, hd⟩
  · have hbt : b = true := hb.mpr ⟨w, hM⟩
    subst hbt
    obtain ⟨o1, e1⟩ := hm cs P w hO hP hC (by omega) hw hM
    obtain ⟨o2, e2⟩ := ht cs P hO hP hC (by omega)
    have hkeys := tab_keys (K := Tm cs) (f := fun z => .int (w z))
    have hq : eqvL ((Tm cs).map D.str) ((Tm cs).map D.str) = some true := by rw [eqvL_strs]; simp
    have hdp := depL_strs (Tm cs)
    have hTl := Tm_len hO
    have a1 : evS cf (b_l_right_a im it icl ip) [.val (csD cs), .val (.tup [.str sMet, valsD (Tm cs) w]), .val (.bl true)] = .nx [.val (csD cs), .val (.tup [.str sMet, valsD (Tm cs) w]), .val (.bl true)] := by
      simp [b_l_right_a, sMet]
    have a2 : evS cf (b_l_right_1_a im it icl ip) [.val (csD cs), .val (.tup [.str sMet, valsD (Tm cs) w]), .val (.bl true)] = .ret (.v (.bl true)) [.val (csD cs), .val (.tup [.str sMet, valsD (Tm cs) w]), .val (.bl true)] := by
      unfold valsD at e1 ⊢
      simp [b_l_right_1_a, e1, e2, hkeys, hq, hdp]
    exact ⟨_, c_ret ((s_seq a1).trans (s_ret a2))⟩
  · have hbt : b = false := by
      cases hbb : b with
      | false => rfl
      | true => exact absurd (hb.mp hbb) hc.unsat
    subst hbt
    have hnic := closed_nic hc (by omega)
    obtain ⟨o1, e1⟩ := hl cs t hC (by omega) hnic (CD_dep (by omega))
    obtain ⟨o2, e2⟩ := hp cs t hC (by omega) hnic (CD_dep (by omega))
    rw [closed_closes hc n (CD_dep (by omega))] at e1 e2
    have a1 : evS cf (b_l_right_a im it icl ip) [.val (csD cs), .val (.tup [.str sNone, t]), .val (.bl false)] = .nx [.val (csD cs), .val (.tup [.str sNone, t]), .val (.bl false)] := by
      simp [b_l_right_a, sNone]
    have a2 : evS cf (b_l_right_1_a im it icl ip) [.val (csD cs), .val (.tup [.str sNone, t]), .val (.bl false)] = .nx [.val (csD cs), .val (.tup [.str sNone, t]), .val (.bl false)] := by
      simp [b_l_right_1_a]
    have a3 : evS cf (b_l_right_2 im it icl ip) [.val (csD cs), .val (.tup [.str sNone, t]), .val (.bl false)] = .ret (.v (.bl true)) [.val (csD cs), .val (.tup [.str sNone, t]), .val (.bl false)] := by
      unfold csD at e1 e2 ⊢
      simp [b_l_right_2, e1, e2]
    exact ⟨_, c_ret ((s_seq a1).trans ((s_seq a2).trans a3))⟩
end
end PyI
set_option maxHeartbeats 1000000
/-! PyNc: what the laws draw: clauses, rounds. -/
namespace PyI
open PySem PySem.Spec PyProof.Rows L2
theorem cut_from {α : Type} (xs : List α) (n : Nat) (h : n ≤ xs.length) : cutD xs (some (n : Int)) none = xs.drop n := by
  unfold cutD
  have h2 : HT.sIx xs.length xs.length none = xs.length := rfl
  rw [h2, HT.sIx_nat, Nat.min_eq_left h, List.take_of_length_le (by simp)]
theorem cut_mem {α : Type} {xs : List α} {a b : Option Int} {x : α} (h : x ∈ cutD xs a b) : x ∈ xs := List.mem_of_mem_drop (List.mem_of_mem_take h)
theorem cut_len {α : Type} {xs : List α} {a b : Option Int} : (cutD xs a b).length ≤ xs.length := by
  unfold cutD
  rw [List.length_take, List.length_drop]; omega
theorem terms_strs {ts : List D} (h : TermsOk ts) : ∃ P : List Str, ts = P.map D.str ∧ eS ∈ P ∧ P.Nodup ∧ P.length = ts.length := by
  obtain ⟨⟨r, e⟩, h2, h3⟩ := h
  have key : ∀ l : List D, (∀ t ∈ l, IsTerm t) → ∃ P : List Str, l = P.map D.str := fun l => by
    induction l with
    | nil => intro _; exact ⟨[], rfl⟩
    | cons x l ih =>
      intro h
      obtain ⟨P, e⟩ := ih fun t ht => h t (by simp [ht])
      obtain ⟨cs, e2, _⟩ := h x (by simp)
      exact ⟨mkS cs :: P, by rw [e, e2]; rfl⟩
  obtain ⟨P, e2⟩ := key ts h2
  refine ⟨P, e2, ?_, ?_, by rw [e2, List.length_map]⟩
  · have : D.str (mkS []) ∈ P.map D.str := by rw [← e2, e]; simp
    obtain ⟨x, hx, q⟩ := List.mem_map.mp this
    have : x = mkS [] := by cases q; rfl
    rw [this] at hx
    exact hx
  · rw [e2] at h3
    exact (List.pairwise_map.mp h3).imp fun h e => h (by rw [e])
def InP (P : List Str) (c : List L3) : Prop := ∀ l ∈ c, l.1 ∈ P ∧ l.2.1 ∈ P
theorem lit_of {P : List Str} {d : D} (h : IsLit (P.map D.str) d) : ∃ l : L3, d = litD l ∧ l.1 ∈ P ∧ l.2.1 ∈ P := by
  obtain ⟨t1, t2, n, rfl, h1, h2⟩ := h
  obtain ⟨a, ha, rfl⟩ := List.mem_map.mp h1
  obtain ⟨b, hb, rfl⟩ := List.mem_map.mp h2
  exact ⟨(a, b, n), rfl, ha, hb⟩
def ClauseL (c : List Arg → CRes) : Prop := ∀ (p : D) (P : List Str) (k : Int), IsPool p → P ≠ [] → P.length ≤ 1000 → ∃ cl p', c [.r p, .v (.lst (P.map .str)), .v (.int k)] = .ok (.v (clD cl)) [p', .non, .non] ∧ IsPool p' ∧ (cl.length = 1 ∨ cl.length = 2) ∧ InP P cl
theorem clause_l {c : List Arg → CRes} (h : ClauseOk c) : ClauseL c := by
  intro p P k hp hne hl
  obtain ⟨l, more, p', e, h1, h2, h3, h4⟩ := h p (P.map .str) k hp (by simpa using hne) (by rw [List.length_map]; omega)
  obtain ⟨x, rfl, hx⟩ := lit_of h2
  match more, h3, h4 with
  | [], _, _ => exact ⟨[x], p', e, h1, .inl rfl, fun l hl => by have : l = x := by simpa using hl
                                                                rw [this]; exact hx⟩
  | [m], _, h4 =>
    obtain ⟨y, rfl, hy⟩ := lit_of (h4 m (by simp))
    refine ⟨[x, y], p', e, h1, .inr rfl, fun l hl => ?_⟩
    rcases List.mem_cons.mp hl with q | q
    · rw [q]; exact hx
    · have : l = y := by simpa using q
      rw [this]; exact hy
  | _ :: _ :: _, h3, _ => simp at h3
def PickL (c : List Arg → CRes) : Prop := ∀ (p : D) (P : List Str), IsPool p → P ≠ [] → P.length ≤ 1000 → ∃ x p', c [.r p, .v (.lst (P.map .str))] = .ok (.v (.str x)) [p', .non] ∧ IsPool p' ∧ x ∈ P
theorem pick_l {c : List Arg → CRes} (h : PickOk c) : PickL c := by
  intro p P hp hne hl
  obtain ⟨d, p', e, h1, h2⟩ := h p (.lst (P.map .str)) (P.map .str) hp (.inl rfl) (by simpa using hne) (by rw [List.length_map]; omega)
  obtain ⟨x, hx, rfl⟩ := List.mem_map.mp h2
  exact ⟨x, p', e, h1, hx⟩
theorem Over.add {P : List Str} {cs ds : List (List L3)} (h1 : Over P cs) (h2 : Over P ds) : Over P (cs ++ ds) := fun c hc => by
  rcases List.mem_append.mp hc with q | q
  · exact h1 c q
  · exact h2 c q
theorem Cls.add {cs ds : List (List L3)} (h1 : Cls cs) (h2 : Cls ds) : Cls (cs ++ ds) := fun c hc => by
  rcases List.mem_append.mp hc with q | q
  · exact h1 c q
  · exact h2 c q
theorem Over.one {P : List Str} {c : List L3} (h : InP P c) : Over P [c] := fun d hd => by
  have : d = c := by simpa using hd
  rw [this]; exact h
theorem Cls.one {c : List L3} (h : c.length = 1 ∨ c.length = 2) : Cls [c] := fun d hd => by
  have : d = c := by simpa using hd
  rw [this]; exact h
section
variable {cf : CF} {fd fc fp : Nat} {P : List Str}
theorem clauses_loop (hc : ClauseL (cf fc)) (hne : P ≠ []) (hPl : P.length ≤ 1000) : ∀ (items : List D) (p : D) (cs : List (List L3)) (t : Int) (j4 j5 : J), IsPool p → Over P cs → Cls cs → cs.length + items.length ≤ 1000 →
    ∃ p' cs' t' j4' j5', forL (.n 4) (evS cf (b_l_clauses_2_ab fd fc)) items [.own true p, .val (.lst (P.map .str)), .own false (csD cs), .val (.int t), j4.s, j5.s] = .nx [.own true p', .val (.lst (P.map .str)), .own false (csD cs'), .val (.int t'), (j4' : J).s, (j5' : J).s] ∧ IsPool p' ∧ Over P cs' ∧ Cls cs' ∧ cs'.length = cs.length + items.length
  | [], p, cs, t, j4, j5, hp, hO, hC, _ => ⟨p, cs, t, j4, j5, rfl, hp, hO, hC, rfl⟩
  | d :: items, p, cs, t, j4, j5, hp, hO, hC, hl => by
    simp only [List.length_cons] at hl
    obtain ⟨cl, p1, e1, h1, h2, h3⟩ := hc p P 2 hp hne hPl
    have ha : asgT (.n 4) d [.own true p, .val (.lst (P.map .str)), .own false (csD cs), .val (.int t), j4.s, j5.s] = some [.own true p, .val (.lst (P.map .str)), .own false (csD cs), .val (.int t), .val d, j5.s] := by simp
    have a1 : evS cf (b_l_clauses_2_ab_a fd fc) [.own true p, .val (.lst (P.map .str)), .own false (csD cs), .val (.int t), .val d, j5.s] = .nx [.own true p1, .val (.lst (P.map .str)), .own false (csD cs), .val (.int t), .val d, .val (clD cl)] := by
      simp [b_l_clauses_2_ab_a, e1]
    have a2 : ∃ cl2 : List L3, evS cf (b_l_clauses_2_ab_1_a fd fc) [.own true p1, .val (.lst (P.map .str)), .own false (csD cs), .val (.int t), .val d, .val (clD cl)] = .nx [.own true p1, .val (.lst (P.map .str)), .own false (csD cs), .val (.int t), .val d, .val (clD cl2)] ∧ (cl2.length = 1 ∨ cl2.length = 2) ∧ InP P cl2 := by
      by_cases h7 : t = 7
      · have hcut : cutD (cl.map litD) none (some 1) = (cl.take 1).map litD := by rw [cut_to1, List.map_take]
        refine ⟨cl.take 1, by simp [b_l_clauses_2_ab_1_a, h7, clD, hcut], ?_, fun l hl => h3 l (List.mem_of_mem_take hl)⟩
        left
        rw [List.length_take]
        rcases h2 with q | q <;> omega
      · exact ⟨cl, by simp [b_l_clauses_2_ab_1_a, h7], h2, h3⟩
    obtain ⟨cl2, a2, g2, g3⟩ := a2
    have a3 : evS cf (b_l_clauses_2_ab_2_a fd fc) [.own true p1, .val (.lst (P.map .str)), .own false (csD cs), .val (.int t), .val d, .val (clD cl2)] = .nx [.own true p1, .val (.lst (P.map .str)), .own false (csD cs), .val (.int (t + cl2.length - 1)), .val d, .val (clD cl2)] := by
      simp [b_l_clauses_2_ab_2_a, clD]
    have z : cs.length ≤ 100000 := by omega
    have a4 : evS cf (b_l_clauses_2_ab_3 fd fc) [.own true p1, .val (.lst (P.map .str)), .own false (csD cs), .val (.int (t + cl2.length - 1)), .val d, .val (clD cl2)] = .nx [.own true p1, .val (.lst (P.map .str)), .own false (csD (cs ++ [cl2])), .val (.int (t + cl2.length - 1)), .val d, .val (clD cl2)] := by
      simp [b_l_clauses_2_ab_3, csD, z]
    have a5 : evS cf (b_l_clauses_2_ab fd fc) _ = _ := (s_seq a1).trans ((s_seq a2).trans ((s_seq a3).trans a4))
    obtain ⟨p', cs', t', j4', j5', q1, q2, q3, q4, q5⟩ := clauses_loop hc hne hPl items p1 (cs ++ [cl2]) (t + cl2.length - 1) (.v d) (.v (clD cl2)) h1 (hO.add (.one g3)) (hC.add (.one g2)) (by simp; omega)
    refine ⟨p', cs', t', j4', j5', ?_, q2, q3, q4, by rw [q5]; simp; omega⟩
    rw [forL, ha]
    simp only [a5]
    exact q1
def ClausesC (n : Nat) (c : List Arg → CRes) : Prop := ∀ (p : D) (P : List Str), IsPool p → P ≠ [] → P.length ≤ 1000 → ∃ cs p', c [.r p, .v (.lst (P.map .str))] = .ok (.f (csD cs)) [p', .non] ∧ IsPool p' ∧ Over P cs ∧ Cls cs ∧ cs.length ≤ n
theorem clauses_ok (hd : DrawOk (cf fd)) (hc : ClauseL (cf fc)) : ClausesC 14 (callBody cf ⟨6, 2, b_l_clauses fd fc⟩) := by
  intro p P hp hne hPl
  obtain ⟨r, p1, e1, h1, h2, h3⟩ := hd p 15 hp (by decide) (by decide)
  obtain ⟨n, rfl⟩ := Int.eq_ofNat_of_zero_le h2
  have a1 : evS cf (b_l_clauses_a fd fc) [.own true p, .val (.lst (P.map .str)), .no, .no, .no, .no] = .nx [.own true p, .val (.lst (P.map .str)), .own false (csD []), .no, .no, .no] := by simp [b_l_clauses_a, csD]
  have a2 : evS cf (b_l_clauses_1_a fd fc) [.own true p, .val (.lst (P.map .str)), .own false (csD []), .no, .no, .no] = .nx [.own true p, .val (.lst (P.map .str)), .own false (csD []), .val (.int 0), .no, .no] := by simp [b_l_clauses_1_a]
  have hit : evI cf (.irng (.call fd (.acons (.var 0) (.acons (.frz (.cst (.int 15))) .anil)))) [.own true p, .val (.lst (P.map .str)), .own false (csD []), .val (.int 0), .no, .no] = .ok ((List.range n).map fun (i : Nat) => D.int (0 + (i : Int))) [.own true p1, .val (.lst (P.map .str)), .own false (csD []), .val (.int 0), .no, .no] :=
    ev_rng (n := n) (op := .v (.int (n : Int))) (ρ1 := [.own true p1, .val (.lst (P.map .str)), .own false (csD []), .val (.int 0), .no, .no]) (by simp [e1]) rfl (by omega)
  obtain ⟨p', cs', t', j4', j5', q1, q2, q3, q4, q5⟩ := clauses_loop (fd := fd) hc hne hPl ((List.range n).map fun (i : Nat) => D.int (0 + (i : Int))) p1 [] 0 .no .no h1 (fun c hc => by cases hc) (fun c hc => by cases hc) (by simp; omega)
  have a3 : evS cf (b_l_clauses_2_a fd fc) [.own true p, .val (.lst (P.map .str)), .own false (csD []), .val (.int 0), .no, .no] = _ := (s_for hit).trans q1
  have a4 : evS cf (b_l_clauses_3 fd fc) [.own true p', .val (.lst (P.map .str)), .own false (csD cs'), .val (.int t'), j4'.s, j5'.s] = .ret (.f (csD cs')) [.own true p', .val (.lst (P.map .str)), .no, .val (.int t'), j4'.s, j5'.s] := by simp [b_l_clauses_3]
  refine ⟨cs', p', c_retf (ρ' := [.own true p', .val (.lst (P.map .str)), .no, .val (.int t'), j4'.s, j5'.s]) ((s_seq a1).trans ((s_seq a2).trans ((s_seq a3).trans a4))), q2, q3, q4, ?_⟩
  rw [q5]; simp; omega
/-! ### a round -/
theorem round_loop (hd : DrawOk (cf fd)) {R : List Str} (hR : ∀ x ∈ R, x ∈ P) (hRl : R.length ≤ 1000) : ∀ (items : List D) (p : D) (cs : List (List L3)) (t : Int) (j2 j6 : J), (∀ d ∈ items, ∃ k : Nat, d = .int (0 + (k : Int)) ∧ k < R.length) → IsPool p → Over P cs → Cls cs → cs.length + items.length ≤ 1000 →
    ∃ p' cs' t' j2' j6', forL (.n 2) (evS cf (b_l_round_3_ab fd fp)) items [.own true p, .val (.lst (P.map .str)), j2.s, .own false (.lst (R.map .str)), .own false (csD cs), .val (.int t), j6.s, .no, .no] = .nx [.own true p', .val (.lst (P.map .str)), (j2' : J).s, .own false (.lst (R.map .str)), .own false (csD cs'), .val (.int t'), (j6' : J).s, .no, .no] ∧ IsPool p' ∧ Over P cs' ∧ Cls cs' ∧ cs'.length = cs.length + items.length
  | [], p, cs, t, j2, j6, _, hp, hO, hC, _ => ⟨p, cs, t, j2, j6, rfl, hp, hO, hC, rfl⟩
  | d :: items, p, cs, t, j2, j6, hi, hp, hO, hC, hl => by
    simp only [List.length_cons] at hl
    obtain ⟨k, rfl, hk⟩ := hi d (by simp)
    rw [Int.zero_add]
    obtain ⟨r, p1, e1, h1, h2, h3⟩ := hd p 9 hp (by decide) (by decide)
    have ha : asgT (.n 2) (.int (k : Int)) [.own true p, .val (.lst (P.map .str)), j2.s, .own false (.lst (R.map .str)), .own false (csD cs), .val (.int t), j6.s, .no, .no] = some [.own true p, .val (.lst (P.map .str)), .val (.int (k : Int)), .own false (.lst (R.map .str)), .own false (csD cs), .val (.int t), j6.s, .no, .no] := by simp
    have a1 : evS cf (b_l_round_3_ab_a fd fp) [.own true p, .val (.lst (P.map .str)), .val (.int (k : Int)), .own false (.lst (R.map .str)), .own false (csD cs), .val (.int t), j6.s, .no, .no] = .nx [.own true p1, .val (.lst (P.map .str)), .val (.int (k : Int)), .own false (.lst (R.map .str)), .own false (csD cs), .val (.int t), .val (.int (r - 4)), .no, .no] := by
      simp [b_l_round_3_ab_a, e1]
    have a2 : ∃ p2 n, evS cf (b_l_round_3_ab_1_a fd fp) [.own true p1, .val (.lst (P.map .str)), .val (.int (k : Int)), .own false (.lst (R.map .str)), .own false (csD cs), .val (.int t), .val (.int (r - 4)), .no, .no] = .nx [.own true p2, .val (.lst (P.map .str)), .val (.int (k : Int)), .own false (.lst (R.map .str)), .own false (csD cs), .val (.int t), .val (.int n), .no, .no] ∧ IsPool p2 := by
      obtain ⟨r2, p2, e2, g1, _, _⟩ := hd p1 3 h1 (by decide) (by decide)
      by_cases hq : (k : Int) = (R.length : Int) - 1
      · exact ⟨p2, r2 - 1 - t, by simp [b_l_round_3_ab_1_a, hq, e2], g1⟩
      · exact ⟨p1, r - 4, by simp [b_l_round_3_ab_1_a, hq], h1⟩
    obtain ⟨p2, n, a2, hp2⟩ := a2
    have a3 : evS cf (b_l_round_3_ab_2_a fd fp) [.own true p2, .val (.lst (P.map .str)), .val (.int (k : Int)), .own false (.lst (R.map .str)), .own false (csD cs), .val (.int t), .val (.int n), .no, .no] = .nx [.own true p2, .val (.lst (P.map .str)), .val (.int (k : Int)), .own false (.lst (R.map .str)), .own false (csD cs), .val (.int (t + n)), .val (.int n), .no, .no] := by
      simp [b_l_round_3_ab_2_a]
    have hpos : 0 < R.length := by omega
    have hm : ((k : Int) + 1) % (R.length : Int) = (((k + 1) % R.length : Nat) : Int) := by rw [Int.natCast_emod]; rfl
    have hq : (k + 1) % R.length < R.length := Nat.mod_lt _ hpos
    have z : cs.length ≤ 100000 := by omega
    have a4 : evS cf (b_l_round_3_ab_3 fd fp) [.own true p2, .val (.lst (P.map .str)), .val (.int (k : Int)), .own false (.lst (R.map .str)), .own false (csD cs), .val (.int (t + n)), .val (.int n), .no, .no] = .nx [.own true p2, .val (.lst (P.map .str)), .val (.int (k : Int)), .own false (.lst (R.map .str)), .own false (csD (cs ++ [[(R[k], R[(k + 1) % R.length], n)]])), .val (.int (t + n)), .val (.int n), .no, .no] := by
      generalize (k + 1) % R.length = q at hm hq ⊢
      simp [b_l_round_3_ab_3, csD, z, hpos, hm, hk, hq, clD, litD]
    have a5 : evS cf (b_l_round_3_ab fd fp) _ = _ := (s_seq a1).trans ((s_seq a2).trans ((s_seq a3).trans a4))
    obtain ⟨p', cs', t', j2', j6', q1, q2, q3, q4, q5⟩ := round_loop hd hR hRl items p2 (cs ++ [[(R[k], R[(k + 1) % R.length], n)]]) (t + n) (.v (.int (k : Int))) (.v (.int n)) (fun d hd => hi d (by simp [hd])) hp2
      (hO.add (.one fun l hl => by
        have : l = (R[k], R[(k + 1) % R.length], n) := by simpa using hl
        rw [this]; exact ⟨hR _ (List.getElem_mem ..), hR _ (List.getElem_mem ..)⟩)) (hC.add (.one (.inl rfl))) (by simp; omega)
    refine ⟨p', cs', t', j2', j6', ?_, q2, q3, q4, by rw [q5]; simp; omega⟩
    rw [forL, ha]
    simp only [a5]
    exact q1
theorem rot_over {cs : List (List L3)} {n : Nat} (h : Over P cs) : Over P (cs.drop n ++ cs.take n) := Over.add (fun c hc => h c (List.mem_of_mem_drop hc)) (fun c hc => h c (List.mem_of_mem_take hc))
theorem rot_cls {cs : List (List L3)} {n : Nat} (h : Cls cs) : Cls (cs.drop n ++ cs.take n) := Cls.add (fun c hc => h c (List.mem_of_mem_drop hc)) (fun c hc => h c (List.mem_of_mem_take hc))
theorem round_ok (hd : DrawOk (cf fd)) (hp : PickL (cf fp)) : ClausesC 7 (callBody cf ⟨9, 2, b_l_round fd fp⟩) := by
  intro p P h0 hne hPl
  obtain ⟨r, p1, e1, h1, h2, h3⟩ := hd p 6 h0 (by decide) (by decide)
  obtain ⟨n, rfl⟩ := Int.eq_ofNat_of_zero_le h2
  obtain ⟨out, ρ', l1, ⟨p2, g2, rfl⟩, l3, l4⟩ := lcL_each (vs := [8, 2]) (t := .n 2) (e := frzE (evE cf (.call fp (.acons (.var 0) (.acons (.frz (.var 1)) .anil)))))
    (fun ρ => ∃ p, IsPool p ∧ ρ = [.own true p, .val (.lst (P.map .str)), .no, .no, .no, .no, .no, .no, .no]) (fun d => ∃ x, d = .str x ∧ x ∈ P)
    ((List.range (2 + n)).map fun (i : Nat) => D.int (0 + (i : Int))) [] _ ⟨p1, h1, rfl⟩ (fun d hd ρ ⟨p, q, e⟩ => by
      subst e
      obtain ⟨x, p', e2, q2, m⟩ := hp p P q hne hPl
      refine ⟨[.own true p, .val (.lst (P.map .str)), .val d, .no, .no, .no, .no, .no, .no], [.own true p', .val (.lst (P.map .str)), .val d, .no, .no, .no, .no, .no, .no], .str x, rfl, ?_, rfl, ⟨p', q2, rfl⟩, x, rfl, m⟩
      simp [e2])
  have hR : ∃ R : List Str, out = R.map D.str ∧ (∀ x ∈ R, x ∈ P) ∧ R.length = 2 + n := by
    have key : ∀ l : List D, (∀ d ∈ l, ∃ x, d = D.str x ∧ x ∈ P) → ∃ R : List Str, l = R.map D.str ∧ ∀ x ∈ R, x ∈ P := fun l => by
      induction l with
      | nil => intro _; exact ⟨[], rfl, by simp⟩
      | cons y l ih =>
        intro h
        obtain ⟨R, e, q⟩ := ih fun t ht => h t (by simp [ht])
        obtain ⟨x, e2, hx⟩ := h y (by simp)
        refine ⟨x :: R, by rw [e, e2]; rfl, fun z hz => ?_⟩
        rcases List.mem_cons.mp hz with w | w
        · rw [w]; exact hx
        · exact q z w
    obtain ⟨R, e, q⟩ := key out l3
    refine ⟨R, e, q, ?_⟩
    rw [e] at l4
    simpa using l4
  obtain ⟨R, rfl, hR, hRl⟩ := hR
  have b1 : evE cf (.lc [8, 2] (.n 2) (.irng (.bin .add (.cst (.int 2)) (.call fd (.acons (.var 0) (.acons (.frz (.cst (.int 6))) .anil))))) .tyes (.call fp (.acons (.var 0) (.acons (.frz (.var 1)) .anil)))) [.own true p, .val (.lst (P.map .str)), .no, .no, .no, .no, .no, .no, .no] =
      .ok (.f (.lst (R.map .str))) [.own true p2, .val (.lst (P.map .str)), .no, .no, .no, .no, .no, .no, .no] :=
    e_lc (cf := cf) (vs := [8, 2]) (t := .n 2) (c := .tyes) (e := .call fp (.acons (.var 0) (.acons (.frz (.var 1)) .anil))) (acc := R.map .str) (ρ1 := [.own true p1, .val (.lst (P.map .str)), .no, .no, .no, .no, .no, .no, .no])
      (ρ2 := [.own true p2, .val (.lst (P.map .str)), .no, .no, .no, .no, .no, .no, .no]) (ev_rng (n := 2 + n) (op := .v (.int ((2 + n : Nat) : Int))) (ρ1 := [.own true p1, .val (.lst (P.map .str)), .no, .no, .no, .no, .no, .no, .no]) (by simp [e1]) rfl (by omega)) rfl (by simp; omega) l1
  have a1 : evS cf (b_l_round_a fd fp) [.own true p, .val (.lst (P.map .str)), .no, .no, .no, .no, .no, .no, .no] = .nx [.own true p2, .val (.lst (P.map .str)), .no, .own false (.lst (R.map .str)), .no, .no, .no, .no, .no] := s_set b1 (by simp)
  have a2 : evS cf (b_l_round_1_a fd fp) [.own true p2, .val (.lst (P.map .str)), .no, .own false (.lst (R.map .str)), .no, .no, .no, .no, .no] = .nx [.own true p2, .val (.lst (P.map .str)), .no, .own false (.lst (R.map .str)), .own false (csD []), .no, .no, .no, .no] := by simp [b_l_round_1_a, csD]
  have a3 : evS cf (b_l_round_2_a fd fp) [.own true p2, .val (.lst (P.map .str)), .no, .own false (.lst (R.map .str)), .own false (csD []), .no, .no, .no, .no] = .nx [.own true p2, .val (.lst (P.map .str)), .no, .own false (.lst (R.map .str)), .own false (csD []), .val (.int 0), .no, .no, .no] := by simp [b_l_round_2_a]
  have hit : evI cf (.irng (.bi .len (.var 3))) [.own true p2, .val (.lst (P.map .str)), .no, .own false (.lst (R.map .str)), .own false (csD []), .val (.int 0), .no, .no, .no] = .ok ((List.range R.length).map fun (i : Nat) => D.int (0 + (i : Int))) [.own true p2, .val (.lst (P.map .str)), .no, .own false (.lst (R.map .str)), .own false (csD []), .val (.int 0), .no, .no, .no] :=
    ev_rng (n := R.length) (op := .v (.int (R.length : Int))) (by simp) rfl (by omega)
  obtain ⟨p3, cs, t, j2, j6, q1, q2, q3, q4, q5⟩ := round_loop (cf := cf) (fp := fp) (P := P) hd hR (by omega) ((List.range R.length).map fun (i : Nat) => D.int (0 + (i : Int))) p2 [] 0 .no .no (fun d hd => by
    obtain ⟨k, hk, rfl⟩ := List.mem_map.mp hd
    exact ⟨k, rfl, List.mem_range.mp hk⟩) g2 (fun c hc => by cases hc) (fun c hc => by cases hc) (by simp; omega)
  have a4 : evS cf (b_l_round_3_a fd fp) [.own true p2, .val (.lst (P.map .str)), .no, .own false (.lst (R.map .str)), .own false (csD []), .val (.int 0), .no, .no, .no] = _ := (s_for hit).trans q1
  have hcl : cs.length = 2 + n := by rw [q5]; simp; omega
  obtain ⟨r4, p4, e4, g4, g5, g6⟩ := hd p3 (cs.length : Int) q2 (by omega) (by omega)
  obtain ⟨a, rfl⟩ := Int.eq_ofNat_of_zero_le g5
  have a5 : evS cf (b_l_round_4_a fd fp) [.own true p3, .val (.lst (P.map .str)), j2.s, .own false (.lst (R.map .str)), .own false (csD cs), .val (.int t), j6.s, .no, .no] = .nx [.own true p4, .val (.lst (P.map .str)), j2.s, .own false (.lst (R.map .str)), .own false (csD cs), .val (.int t), j6.s, .val (.int (a : Int)), .no] := by
    unfold csD
    simp [b_l_round_4_a, e4]
  have hal : a ≤ (cs.map clD).length := by rw [List.length_map]; omega
  have c1 := cut_from (cs.map clD) a hal
  have c2 := cut_to (cs.map clD) a
  have hD : csD (cs.drop a ++ cs.take a) = .lst ((cs.map clD).drop a ++ (cs.map clD).take a) := by
    unfold csD; rw [List.map_append, List.map_drop, List.map_take]
  have z : ((cs.map clD).drop a).length + ((cs.map clD).take a).length ≤ 100000 := by rw [List.length_drop, List.length_take, List.length_map]; omega
  have a6 : evS cf (b_l_round_5 fd fp) [.own true p4, .val (.lst (P.map .str)), j2.s, .own false (.lst (R.map .str)), .own false (csD cs), .val (.int t), j6.s, .val (.int (a : Int)), .no] = .ret (.f (csD (cs.drop a ++ cs.take a))) [.own true p4, .val (.lst (P.map .str)), j2.s, .own false (.lst (R.map .str)), .own false (csD cs), .val (.int t), j6.s, .val (.int (a : Int)), .no] := by
    rw [hD]
    unfold csD
    generalize (cs.map clD).drop a = X at c1 z ⊢
    generalize (cs.map clD).take a = Y at c2 z ⊢
    simp [b_l_round_5, c1, c2, z]
  refine ⟨cs.drop a ++ cs.take a, p4, c_retf (ρ' := [.own true p4, .val (.lst (P.map .str)), j2.s, .own false (.lst (R.map .str)), .own false (csD cs), .val (.int t), j6.s, .val (.int (a : Int)), .no]) ((s_seq a1).trans ((s_seq a2).trans ((s_seq a3).trans ((s_seq a4).trans ((s_seq a5).trans a6))))), g4, rot_over q3, rot_cls q4, ?_⟩
  rw [List.length_append, List.length_drop, List.length_take]; omega
end
end PyI
set_option maxHeartbeats 1000000
/-! PyNd: many clauses of two. -/
namespace PyI
open PySem PySem.Spec PyProof.Rows L2
theorem cut_map {α β : Type} (f : α → β) (l : List α) (a b : Option Int) : cutD (l.map f) a b = (cutD l a b).map f := by
  unfold cutD
  rw [List.length_map, List.map_take, List.map_drop]
theorem InP.one {P : List Str} {l : L3} (h : l.1 ∈ P ∧ l.2.1 ∈ P) : InP P [l] := fun m hm => by
  have : m = l := by simpa using hm
  rw [this]; exact h
section
variable {cf : CF} {fd fp : Nat} {P : List Str}
theorem cmul_r {i j : Int} (h1 : -(2 ^ 64) < j) (h2 : j < 2 ^ 64) : cmul i j = true := by unfold cmul; simp; omega
theorem cmul_l {i j : Int} (h1 : -(2 ^ 64) < i) (h2 : i < 2 ^ 64) : cmul i j = true := by unfold cmul; simp; omega
theorem tw_fill (hd : DrawOk (cf fd)) : ∀ (T Q : List Str) (g : Str → Int) (p : D) (j4 : J), IsPool p → (Q ++ T).Nodup → (Q ++ T).length ≤ 1000 →
    ∃ (g' : Str → Int) (p' : D) (j4' : J), forL (.n 4) (evS cf (b_l_many_twos_2_ab fd fp)) (T.map D.str) [.own true p, .val (.lst (P.map .str)), .own false (.dic (tabD Q fun x => .int (g x))), .own false (csD ([])), j4.s, .no, .no, .no, .no, .no, .no, .no, .no, .no, .no] = .nx [.own true p', .val (.lst (P.map .str)), .own false (.dic (tabD (Q ++ T) fun x => .int (g' x))), .own false (csD ([])), j4'.s, .no, .no, .no, .no, .no, .no, .no, .no, .no, .no] ∧ IsPool p'
  | [], Q, g, p, j4, hp, _, _ => ⟨g, p, j4, by simp [forL], hp⟩
  | x :: T, Q, g, p, j4, hp, hn, hl => by
    obtain ⟨r, p1, e1, h1, _, _⟩ := hd p 9 hp (by decide) (by decide)
    have hx : x ∉ Q := fun z => by
      rw [List.nodup_append] at hn
      exact hn.2.2 x z x (by simp) rfl
    have hz : Q.length ≤ 100000 := by simp at hl; omega
    have st : ∃ n : Int, evS cf (b_l_many_twos_2_ab fd fp) [.own true p, .val (.lst (P.map .str)), .own false (.dic (tabD Q fun x => .int (g x))), .own false (csD ([])), .val (.str x), .no, .no, .no, .no, .no, .no, .no, .no, .no, .no] = .nx [.own true p1, .val (.lst (P.map .str)), .own false (.dic (put (tabD Q fun x => .int (g x)) (.inr x) (.int n))), .own false (csD ([])), .val (.str x), .no, .no, .no, .no, .no, .no, .no, .no, .no, .no] := by
      by_cases he : x = eS
      · subst he
        exact ⟨0, by simp [b_l_many_twos_2_ab, e1, hz, eS]⟩
      · have he' : ¬ x = PySem.Str.ofString "" := he
        exact ⟨r - 4, by simp [b_l_many_twos_2_ab, e1, hz, he']⟩
    obtain ⟨n, e2⟩ := st
    have hpn : put (tabD Q fun x => .int (g x)) (.inr x) (.int n) = tabD (Q ++ [x]) fun y => .int (Rx.upf g x n y) := by rw [put_new hx, upf_map]
    rw [hpn] at e2
    obtain ⟨g', p', j4', e3, h3⟩ := tw_fill hd T (Q ++ [x]) (Rx.upf g x n) p1 (.v (.str x)) h1 (by simpa using hn) (by simpa using hl)
    refine ⟨g', p', j4', ?_, h3⟩
    have ha : asgT (.n 4) (.str x) [.own true p, .val (.lst (P.map .str)), .own false (.dic (tabD Q fun x => .int (g x))), .own false (csD ([])), j4.s, .no, .no, .no, .no, .no, .no, .no, .no, .no, .no] = some [.own true p, .val (.lst (P.map .str)), .own false (.dic (tabD Q fun x => .int (g x))), .own false (csD ([])), .val (.str x), .no, .no, .no, .no, .no, .no, .no, .no, .no, .no] := by simp
    rw [List.map_cons, forL, ha]
    simp only [e2]
    refine e3.trans ?_
    rw [List.append_assoc]; rfl
theorem tw_singles {g : Str → Int} (he : eS ∈ P) : ∀ (T : List Str) (p : D) (cs : List (List L3)) (j4 : J), (∀ x ∈ T, x ∈ P) → Over P cs → Cls cs → cs.length + 2 * T.length ≤ 10000 →
    ∃ (cs' : List (List L3)) (j4' : J), forL (.n 4) (evS cf (b_l_many_twos_3_ab fd fp)) (T.map D.str) [.own true p, .val (.lst (P.map .str)), .own false (.dic (tabD P fun x => .int (g x))), .own false (csD (cs)), j4.s, .no, .no, .no, .no, .no, .no, .no, .no, .no, .no] = .nx [.own true p, .val (.lst (P.map .str)), .own false (.dic (tabD P fun x => .int (g x))), .own false (csD (cs')), j4'.s, .no, .no, .no, .no, .no, .no, .no, .no, .no, .no] ∧ Over P cs' ∧ Cls cs' ∧ cs'.length = cs.length + 2 * T.length
  | [], p, cs, j4, _, hO, hC, _ => ⟨cs, j4, rfl, hO, hC, rfl⟩
  | x :: T, p, cs, j4, hT, hO, hC, hl => by
    simp only [List.length_cons] at hl
    have hx := hT x (by simp)
    have lx := look_tab (f := fun z => .int (g z)) hx
    have ha : asgT (.n 4) (.str x) [.own true p, .val (.lst (P.map .str)), .own false (.dic (tabD P fun x => .int (g x))), .own false (csD (cs)), j4.s, .no, .no, .no, .no, .no, .no, .no, .no, .no, .no] = some [.own true p, .val (.lst (P.map .str)), .own false (.dic (tabD P fun x => .int (g x))), .own false (csD (cs)), .val (.str x), .no, .no, .no, .no, .no, .no, .no, .no, .no, .no] := by simp
    have z1 : cs.length ≤ 100000 := by omega
    have z2 : cs.length + 1 ≤ 100000 := by omega
    have a1 : evS cf (b_l_many_twos_3_ab_a fd fp) [.own true p, .val (.lst (P.map .str)), .own false (.dic (tabD P fun x => .int (g x))), .own false (csD (cs)), .val (.str x), .no, .no, .no, .no, .no, .no, .no, .no, .no, .no] = .nx [.own true p, .val (.lst (P.map .str)), .own false (.dic (tabD P fun x => .int (g x))), .own false (csD (cs ++ [[(x, eS, g x)]])), .val (.str x), .no, .no, .no, .no, .no, .no, .no, .no, .no, .no] := by
      simp [b_l_many_twos_3_ab_a, csD, lx, z1, clD, litD, eS]
    have a2 : evS cf (b_l_many_twos_3_ab_1 fd fp) [.own true p, .val (.lst (P.map .str)), .own false (.dic (tabD P fun x => .int (g x))), .own false (csD (cs ++ [[(x, eS, g x)]])), .val (.str x), .no, .no, .no, .no, .no, .no, .no, .no, .no, .no] = .nx [.own true p, .val (.lst (P.map .str)), .own false (.dic (tabD P fun x => .int (g x))), .own false (csD (cs ++ [[(x, eS, g x)]] ++ [[(eS, x, -(g x))]])), .val (.str x), .no, .no, .no, .no, .no, .no, .no, .no, .no, .no] := by
      simp [b_l_many_twos_3_ab_1, csD, lx, z2, clD, litD, eS]
    have a3 : evS cf (b_l_many_twos_3_ab fd fp) _ = _ := (s_seq a1).trans a2
    obtain ⟨cs', j4', e, h1, h2, h3⟩ := tw_singles he T p (cs ++ [[(x, eS, g x)]] ++ [[(eS, x, -(g x))]]) (.v (.str x)) (fun y hy => hT y (by simp [hy]))
      ((hO.add (.one (.one ⟨hx, he⟩))).add (.one (.one ⟨he, hx⟩)))
      ((hC.add (.one (.inl rfl))).add (.one (.inl rfl))) (by simp; omega)
    refine ⟨cs', j4', ?_, h1, h2, by rw [h3]; simp; omega⟩
    rw [List.map_cons, forL, ha]
    simp only [a3]
    exact e
theorem tw_in {i a b : Int} : ∃ z, inOp (.int i) (.lst [.int a, .int b]) = some z := ⟨_, in_lst rfl (by simp)⟩
theorem tw_inner (hd : DrawOk (cf fd)) (hp : PickL (cf fp)) (hne : P ≠ []) (hPl : P.length ≤ 1000) {g : Str → Int} {m q a b i : Int} {cs : List (List L3)} {j4 : J} : ∀ (items : List Int) (p : D) (c : List L3) (j10 j11 j12 j13 j14 : J), IsPool p → InP P c → c.length + items.length ≤ 1000 →
    ∃ (p' : D) (c' : List L3) (k10 k11 k12 k13 k14 : J), forL (.n 10) (evS cf (b_l_many_twos_7_ab_1_ab fd fp)) (items.map D.int) [.own true p, .val (.lst (P.map .str)), .own false (.dic (tabD P fun x => .int (g x))), .own false (csD (cs)), j4.s, .val (.int m), .val (.int q), .own false (.lst [.int a, .int b]), .val (.int i), .own false (.lst (c.map litD)), j10.s, j11.s, j12.s, j13.s, j14.s] = .nx [.own true p', .val (.lst (P.map .str)), .own false (.dic (tabD P fun x => .int (g x))), .own false (csD (cs)), j4.s, .val (.int m), .val (.int q), .own false (.lst [.int a, .int b]), .val (.int i), .own false (.lst (c'.map litD)), k10.s, k11.s, k12.s, k13.s, k14.s] ∧ IsPool p' ∧ InP P c' ∧ c'.length = c.length + items.length
  | [], p, c, j10, j11, j12, j13, j14, h0, hc, _ => ⟨p, c, j10, j11, j12, j13, j14, rfl, h0, hc, rfl⟩
  | k :: items, p, c, j10, j11, j12, j13, j14, h0, hc, hl => by
    simp only [List.length_cons] at hl
    obtain ⟨x, p1, e1, h1, hx⟩ := hp p P h0 hne hPl
    obtain ⟨y, p2, e2, h2, hy⟩ := hp p1 P h1 hne hPl
    have lx := look_tab (f := fun z => .int (g z)) hx
    have ly := look_tab (f := fun z => .int (g z)) hy
    have ha : asgT (.n 10) (.int k) [.own true p, .val (.lst (P.map .str)), .own false (.dic (tabD P fun x => .int (g x))), .own false (csD (cs)), j4.s, .val (.int m), .val (.int q), .own false (.lst [.int a, .int b]), .val (.int i), .own false (.lst (c.map litD)), j10.s, j11.s, j12.s, j13.s, j14.s] = some [.own true p, .val (.lst (P.map .str)), .own false (.dic (tabD P fun x => .int (g x))), .own false (csD (cs)), j4.s, .val (.int m), .val (.int q), .own false (.lst [.int a, .int b]), .val (.int i), .own false (.lst (c.map litD)), .val (.int k), j11.s, j12.s, j13.s, j14.s] := by simp
    have a1 : evS cf (b_l_many_twos_7_ab_1_ab_a fd fp) [.own true p, .val (.lst (P.map .str)), .own false (.dic (tabD P fun x => .int (g x))), .own false (csD (cs)), j4.s, .val (.int m), .val (.int q), .own false (.lst [.int a, .int b]), .val (.int i), .own false (.lst (c.map litD)), .val (.int k), j11.s, j12.s, j13.s, j14.s] = .nx [.own true p1, .val (.lst (P.map .str)), .own false (.dic (tabD P fun x => .int (g x))), .own false (csD (cs)), j4.s, .val (.int m), .val (.int q), .own false (.lst [.int a, .int b]), .val (.int i), .own false (.lst (c.map litD)), .val (.int k), .val (.str x), j12.s, j13.s, j14.s] := by
      simp [b_l_many_twos_7_ab_1_ab_a, e1]
    have a2 : evS cf (b_l_many_twos_7_ab_1_ab_1_a fd fp) [.own true p1, .val (.lst (P.map .str)), .own false (.dic (tabD P fun x => .int (g x))), .own false (csD (cs)), j4.s, .val (.int m), .val (.int q), .own false (.lst [.int a, .int b]), .val (.int i), .own false (.lst (c.map litD)), .val (.int k), .val (.str x), j12.s, j13.s, j14.s] = .nx [.own true p2, .val (.lst (P.map .str)), .own false (.dic (tabD P fun x => .int (g x))), .own false (csD (cs)), j4.s, .val (.int m), .val (.int q), .own false (.lst [.int a, .int b]), .val (.int i), .own false (.lst (c.map litD)), .val (.int k), .val (.str x), .val (.str y), j13.s, j14.s] := by
      simp [b_l_many_twos_7_ab_1_ab_1_a, e2]
    have a3 : evS cf (b_l_many_twos_7_ab_1_ab_2_a fd fp) [.own true p2, .val (.lst (P.map .str)), .own false (.dic (tabD P fun x => .int (g x))), .own false (csD (cs)), j4.s, .val (.int m), .val (.int q), .own false (.lst [.int a, .int b]), .val (.int i), .own false (.lst (c.map litD)), .val (.int k), .val (.str x), .val (.str y), j13.s, j14.s] = .nx [.own true p2, .val (.lst (P.map .str)), .own false (.dic (tabD P fun x => .int (g x))), .own false (csD (cs)), j4.s, .val (.int m), .val (.int q), .own false (.lst [.int a, .int b]), .val (.int i), .own false (.lst (c.map litD)), .val (.int k), .val (.str x), .val (.str y), .val (.int (g x - g y)), j14.s] := by
      simp [b_l_many_twos_7_ab_1_ab_2_a, lx, ly]
    have a4 : ∃ bb, evS cf (b_l_many_twos_7_ab_1_ab_3_a fd fp) [.own true p2, .val (.lst (P.map .str)), .own false (.dic (tabD P fun x => .int (g x))), .own false (csD (cs)), j4.s, .val (.int m), .val (.int q), .own false (.lst [.int a, .int b]), .val (.int i), .own false (.lst (c.map litD)), .val (.int k), .val (.str x), .val (.str y), .val (.int (g x - g y)), j14.s] = .nx [.own true p2, .val (.lst (P.map .str)), .own false (.dic (tabD P fun x => .int (g x))), .own false (csD (cs)), j4.s, .val (.int m), .val (.int q), .own false (.lst [.int a, .int b]), .val (.int i), .own false (.lst (c.map litD)), .val (.int k), .val (.str x), .val (.str y), .val (.int (g x - g y)), .val (.bl bb)] := by
      obtain ⟨zb, hzb⟩ := tw_in (i := i) (a := a) (b := b)
      by_cases q1 : i = q
      · exact ⟨false, by simp [b_l_many_twos_7_ab_1_ab_3_a, q1]⟩
      · have q1' : (i == q) = false := by simpa using q1
        by_cases q2 : k = 0
        · exact ⟨true, by simp [b_l_many_twos_7_ab_1_ab_3_a, q1', q2]⟩
        · have q2' : (k == 0) = false := by simpa using q2
          exact ⟨zb, by simp [b_l_many_twos_7_ab_1_ab_3_a, q1', q2', hzb]⟩
    obtain ⟨bb, a4⟩ := a4
    obtain ⟨r1, p3, e3, h3, _, _⟩ := hd p2 3 h2 (by decide) (by decide)
    obtain ⟨r2, p4, e4, h4, _, _⟩ := hd p3 3 h3 (by decide) (by decide)
    have z : c.length ≤ 100000 := by omega
    have a5 : ∃ n : Int, evS cf (b_l_many_twos_7_ab_1_ab_4 fd fp) [.own true p2, .val (.lst (P.map .str)), .own false (.dic (tabD P fun x => .int (g x))), .own false (csD (cs)), j4.s, .val (.int m), .val (.int q), .own false (.lst [.int a, .int b]), .val (.int i), .own false (.lst (c.map litD)), .val (.int k), .val (.str x), .val (.str y), .val (.int (g x - g y)), .val (.bl bb)] = .nx [.own true p4, .val (.lst (P.map .str)), .own false (.dic (tabD P fun x => .int (g x))), .own false (csD (cs)), j4.s, .val (.int m), .val (.int q), .own false (.lst [.int a, .int b]), .val (.int i), .own false (.lst ((c ++ [(x, y, n)]).map litD)), .val (.int k), .val (.str x), .val (.str y), .val (.int (g x - g y)), .val (.bl bb)] := by
      cases bb with
      | false => exact ⟨g x - g y + (-1 - r1), by simp [b_l_many_twos_7_ab_1_ab_4, e3, e4, z, litD]⟩
      | true => exact ⟨g x - g y + r2, by simp [b_l_many_twos_7_ab_1_ab_4, e3, e4, z, litD]⟩
    obtain ⟨n, a5⟩ := a5
    have a6 : evS cf (b_l_many_twos_7_ab_1_ab fd fp) _ = _ := (s_seq a1).trans ((s_seq a2).trans ((s_seq a3).trans ((s_seq a4).trans a5)))
    have hc' : InP P (c ++ [(x, y, n)]) := fun l hl => by
      rcases List.mem_append.mp hl with w | w
      · exact hc l w
      · have : l = (x, y, n) := by simpa using w
        rw [this]; exact ⟨hx, hy⟩
    obtain ⟨p', c', k10, k11, k12, k13, k14, e, g1, g2, g3⟩ := tw_inner hd hp hne hPl items p4 (c ++ [(x, y, n)]) (.v (.int k)) (.v (.str x)) (.v (.str y)) (.v (.int (g x - g y))) (.v (.bl bb)) h4 hc' (by simp; omega)
    refine ⟨p', c', k10, k11, k12, k13, k14, ?_, g1, g2, by rw [g3]; simp; omega⟩
    rw [List.map_cons, forL, ha]
    simp only [a6]
    exact e
theorem ins_len {cs : List (List L3)} {c : List L3} {n : Nat} : (cs.take n ++ [c] ++ cs.drop n).length = cs.length + 1 := by
  simp only [List.length_append, List.length_take, List.length_drop, List.length_cons, List.length_nil]; omega
theorem tw_outer (hd : DrawOk (cf fd)) (hp : PickL (cf fp)) (hne : P ≠ []) (hPl : P.length ≤ 1000) {g : Str → Int} {m q a b : Int} {j4 : J} : ∀ (items : List Int) (p : D) (cs : List (List L3)) (j8 s9 j10 j11 j12 j13 j14 : J), IsPool p → Over P cs → Cls cs → cs.length + items.length ≤ 10000 →
    ∃ (p' : D) (cs' : List (List L3)) (k8 k9 k10 k11 k12 k13 k14 : J), forL (.n 8) (evS cf (b_l_many_twos_7_ab fd fp)) (items.map D.int) [.own true p, .val (.lst (P.map .str)), .own false (.dic (tabD P fun x => .int (g x))), .own false (csD (cs)), j4.s, .val (.int m), .val (.int q), .own false (.lst [.int a, .int b]), j8.s, s9.s, j10.s, j11.s, j12.s, j13.s, j14.s] = .nx [.own true p', .val (.lst (P.map .str)), .own false (.dic (tabD P fun x => .int (g x))), .own false (csD (cs')), j4.s, .val (.int m), .val (.int q), .own false (.lst [.int a, .int b]), k8.s, k9.s, k10.s, k11.s, k12.s, k13.s, k14.s] ∧ IsPool p' ∧ Over P cs' ∧ Cls cs' ∧ cs'.length = cs.length + items.length
  | [], p, cs, j8, s9, j10, j11, j12, j13, j14, h0, hO, hC, _ => ⟨p, cs, j8, s9, j10, j11, j12, j13, j14, rfl, h0, hO, hC, rfl⟩
  | i :: items, p, cs, j8, s9, j10, j11, j12, j13, j14, h0, hO, hC, hl => by
    simp only [List.length_cons] at hl
    have ha : asgT (.n 8) (.int i) [.own true p, .val (.lst (P.map .str)), .own false (.dic (tabD P fun x => .int (g x))), .own false (csD (cs)), j4.s, .val (.int m), .val (.int q), .own false (.lst [.int a, .int b]), j8.s, s9.s, j10.s, j11.s, j12.s, j13.s, j14.s] = some [.own true p, .val (.lst (P.map .str)), .own false (.dic (tabD P fun x => .int (g x))), .own false (csD (cs)), j4.s, .val (.int m), .val (.int q), .own false (.lst [.int a, .int b]), .val (.int i), s9.s, j10.s, j11.s, j12.s, j13.s, j14.s] := by simp
    have a1 : evS cf (b_l_many_twos_7_ab_a fd fp) [.own true p, .val (.lst (P.map .str)), .own false (.dic (tabD P fun x => .int (g x))), .own false (csD (cs)), j4.s, .val (.int m), .val (.int q), .own false (.lst [.int a, .int b]), .val (.int i), s9.s, j10.s, j11.s, j12.s, j13.s, j14.s] = .nx [.own true p, .val (.lst (P.map .str)), .own false (.dic (tabD P fun x => .int (g x))), .own false (csD (cs)), j4.s, .val (.int m), .val (.int q), .own false (.lst [.int a, .int b]), .val (.int i), .own false (.lst (([] : List L3).map litD)), j10.s, j11.s, j12.s, j13.s, j14.s] := by
      simp [b_l_many_twos_7_ab_a]
    have hit : evI cf (.irng (.cst (.int 2))) [.own true p, .val (.lst (P.map .str)), .own false (.dic (tabD P fun x => .int (g x))), .own false (csD (cs)), j4.s, .val (.int m), .val (.int q), .own false (.lst [.int a, .int b]), .val (.int i), .own false (.lst (([] : List L3).map litD)), j10.s, j11.s, j12.s, j13.s, j14.s] = .ok (([0, 1] : List Int).map D.int) [.own true p, .val (.lst (P.map .str)), .own false (.dic (tabD P fun x => .int (g x))), .own false (csD (cs)), j4.s, .val (.int m), .val (.int q), .own false (.lst [.int a, .int b]), .val (.int i), .own false (.lst (([] : List L3).map litD)), j10.s, j11.s, j12.s, j13.s, j14.s] :=
      (ev_rng (n := 2) (op := .v (.int 2)) rfl rfl (by omega)).trans rfl
    obtain ⟨p1, c, k10, k11, k12, k13, k14, e2, h1, h2, h3⟩ := tw_inner (cf := cf) (fd := fd) (fp := fp) (g := g) (m := m) (q := q) (a := a) (b := b) (i := i) (cs := cs) (j4 := j4) hd hp hne hPl [0, 1] p [] j10 j11 j12 j13 j14 h0 (fun l hl => by cases hl) (by simp)
    have a2 : evS cf (b_l_many_twos_7_ab_1_a fd fp) [.own true p, .val (.lst (P.map .str)), .own false (.dic (tabD P fun x => .int (g x))), .own false (csD (cs)), j4.s, .val (.int m), .val (.int q), .own false (.lst [.int a, .int b]), .val (.int i), .own false (.lst (([] : List L3).map litD)), j10.s, j11.s, j12.s, j13.s, j14.s] = _ := (s_for hit).trans e2
    obtain ⟨r3, p2, e3, h4, _, _⟩ := hd p1 2 h1 (by decide) (by decide)
    have a3 : ∃ c2, evS cf (b_l_many_twos_7_ab_2_a fd fp) [.own true p1, .val (.lst (P.map .str)), .own false (.dic (tabD P fun x => .int (g x))), .own false (csD (cs)), j4.s, .val (.int m), .val (.int q), .own false (.lst [.int a, .int b]), .val (.int i), .own false (.lst (c.map litD)), k10.s, k11.s, k12.s, k13.s, k14.s] = .nx [.own true p2, .val (.lst (P.map .str)), .own false (.dic (tabD P fun x => .int (g x))), .own false (csD (cs)), j4.s, .val (.int m), .val (.int q), .own false (.lst [.int a, .int b]), .val (.int i), .own false (.lst (c2.map litD)), k10.s, k11.s, k12.s, k13.s, k14.s] ∧ c2.length = 2 ∧ InP P c2 := by
      by_cases hr : r3 = 0
      · exact ⟨c.reverse, by simp [b_l_many_twos_7_ab_2_a, e3, hr], by simpa using h3, fun l hl => h2 l (by simpa using hl)⟩
      · exact ⟨c, by simp [b_l_many_twos_7_ab_2_a, e3, hr], by simpa using h3, h2⟩
    obtain ⟨c2, a3, g2, g3⟩ := a3
    obtain ⟨r4, p3, e4, h5, h6, h7⟩ := hd p2 ((cs.length : Int) + 1) h4 (by omega) (by omega)
    obtain ⟨n, rfl⟩ := Int.eq_ofNat_of_zero_le h6
    have z1 : cs.length ≤ 100000 := by omega
    have z2 : (n : Int) < 9223372036854775808 := by omega
    have a4 : evS cf (b_l_many_twos_7_ab_3 fd fp) [.own true p2, .val (.lst (P.map .str)), .own false (.dic (tabD P fun x => .int (g x))), .own false (csD (cs)), j4.s, .val (.int m), .val (.int q), .own false (.lst [.int a, .int b]), .val (.int i), .own false (.lst (c2.map litD)), k10.s, k11.s, k12.s, k13.s, k14.s] = .nx [.own true p3, .val (.lst (P.map .str)), .own false (.dic (tabD P fun x => .int (g x))), .own false (csD (cs.take n ++ [c2] ++ cs.drop n)), j4.s, .val (.int m), .val (.int q), .own false (.lst [.int a, .int b]), .val (.int i), .own false (.lst (c2.map litD)), k10.s, k11.s, k12.s, k13.s, k14.s] := by
      unfold csD
      simp [b_l_many_twos_7_ab_3, e4, z1, z2, clD]
    have a5 : evS cf (b_l_many_twos_7_ab fd fp) _ = _ := (s_seq a1).trans ((s_seq a2).trans ((s_seq a3).trans a4))
    obtain ⟨p', cs', m8, m9, m10, m11, m12, m13, m14, q1, q2, q3, q4, q5⟩ := tw_outer hd hp hne hPl items p3 (cs.take n ++ [c2] ++ cs.drop n) (.v (.int i)) (.o (.lst (c2.map litD))) k10 k11 k12 k13 k14 h5
      ((Over.add (fun c hc => hO c (List.mem_of_mem_take hc)) (.one g3)).add (fun c hc => hO c (List.mem_of_mem_drop hc)))
      ((Cls.add (fun c hc => hC c (List.mem_of_mem_take hc)) (.one (.inr g2))).add (fun c hc => hC c (List.mem_of_mem_drop hc))) (by rw [ins_len]; omega)
    refine ⟨p', cs', m8, m9, m10, m11, m12, m13, m14, ?_, q2, q3, q4, by rw [q5, ins_len]; simp; omega⟩
    rw [List.map_cons, forL, ha]
    simp only [a5]
    exact q1
def TwosC (c : List Arg → CRes) : Prop := ∀ (p : D) (P : List Str), IsPool p → eS ∈ P → P.Nodup → P.length ≤ 1000 → ∃ cs p', c [.r p, .v (.lst (P.map .str))] = .ok (.f (csD cs)) [p', .non] ∧ IsPool p' ∧ Over P cs ∧ Cls cs ∧ cs.length ≤ 2 * P.length + 14
theorem many_twos_ok (hd : DrawOk (cf fd)) (hp : PickL (cf fp)) : TwosC (callBody cf ⟨15, 2, b_l_many_twos fd fp⟩) := by
  intro p P h0 he hnd hPl
  have hne : P ≠ [] := fun z => by rw [z] at he; cases he
  have a1 : evS cf (b_l_many_twos_a fd fp) [.own true p, .val (.lst (P.map .str)), .no, .no, .no, .no, .no, .no, .no, .no, .no, .no, .no, .no, .no] = .nx [.own true p, .val (.lst (P.map .str)), .own false (.dic (tabD [] fun x => .int ((fun _ => (0 : Int)) x))), .no, .no, .no, .no, .no, .no, .no, .no, .no, .no, .no, .no] := by simp [b_l_many_twos_a, tabD]
  have a2 : evS cf (b_l_many_twos_1_a fd fp) [.own true p, .val (.lst (P.map .str)), .own false (.dic (tabD [] fun x => .int ((fun _ => (0 : Int)) x))), .no, .no, .no, .no, .no, .no, .no, .no, .no, .no, .no, .no] = .nx [.own true p, .val (.lst (P.map .str)), .own false (.dic (tabD [] fun x => .int ((fun _ => (0 : Int)) x))), .own false (csD ([])), .no, .no, .no, .no, .no, .no, .no, .no, .no, .no, .no] := by simp [b_l_many_twos_1_a, csD]
  obtain ⟨g, p1, j4, e1, h1⟩ := tw_fill (cf := cf) (fd := fd) (fp := fp) (P := P) hd P [] (fun _ => 0) p .no h0 (by simpa using hnd) (by simpa using hPl)
  have hit1 : evI cf (.iseq (.var 1)) [.own true p, .val (.lst (P.map .str)), .own false (.dic (tabD [] fun x => .int ((fun _ => (0 : Int)) x))), .own false (csD ([])), .no, .no, .no, .no, .no, .no, .no, .no, .no, .no, .no] = .ok (P.map D.str) [.own true p, .val (.lst (P.map .str)), .own false (.dic (tabD [] fun x => .int ((fun _ => (0 : Int)) x))), .own false (csD ([])), .no, .no, .no, .no, .no, .no, .no, .no, .no, .no, .no] := by simp
  have a3 : evS cf (b_l_many_twos_2_a fd fp) [.own true p, .val (.lst (P.map .str)), .own false (.dic (tabD [] fun x => .int ((fun _ => (0 : Int)) x))), .own false (csD ([])), .no, .no, .no, .no, .no, .no, .no, .no, .no, .no, .no] = .nx [.own true p1, .val (.lst (P.map .str)), .own false (.dic (tabD P fun x => .int (g x))), .own false (csD ([])), j4.s, .no, .no, .no, .no, .no, .no, .no, .no, .no, .no] := (s_for hit1).trans e1
  obtain ⟨r, p2, e2, h2, _, _⟩ := hd p1 2 h1 (by decide) (by decide)
  have hit2 : ∃ T : List Str, evI cf (.iseq (.slc (.var 1) (.acons (.cst (.int 1)) .anil) (.acons (.bin .sub (.bi .len (.var 1)) (.bin .mul (.call fd (.acons (.var 0) (.acons (.frz (.cst (.int 2))) .anil))) (.bi .int (.cmp .gt (.bi .len (.var 1)) (.cst (.int 3)))))) .anil))) [.own true p1, .val (.lst (P.map .str)), .own false (.dic (tabD P fun x => .int (g x))), .own false (csD ([])), j4.s, .no, .no, .no, .no, .no, .no, .no, .no, .no, .no] = .ok (T.map D.str) [.own true p2, .val (.lst (P.map .str)), .own false (.dic (tabD P fun x => .int (g x))), .own false (csD ([])), j4.s, .no, .no, .no, .no, .no, .no, .no, .no, .no, .no] ∧ (∀ x ∈ T, x ∈ P) ∧ T.length ≤ P.length := by
    by_cases h3 : 3 < P.length
    · refine ⟨cutD P (some 1) (some ((P.length : Int) - r)), ?_, fun x hx => cut_mem hx, cut_len⟩
      rw [← cut_map]
      have h3' : 3 < (P.length : Int) := by omega
      have hc : cmul r 1 = true := cmul_r (by decide) (by decide)
      simp [e2, h3', hc]
    · refine ⟨cutD P (some 1) (some (P.length : Int)), ?_, fun x hx => cut_mem hx, cut_len⟩
      rw [← cut_map]
      have h3' : ¬ 3 < (P.length : Int) := by omega
      have hc : cmul r 0 = true := cmul_r (by decide) (by decide)
      simp [e2, h3', hc]
  obtain ⟨T, hit2, hT, hTl⟩ := hit2
  obtain ⟨cs1, k4, e3, hO1, hC1, hl1⟩ := tw_singles (cf := cf) (fd := fd) (fp := fp) (P := P) (g := g) he T p2 [] j4 hT (fun c hc => by cases hc) (fun c hc => by cases hc) (by simp; omega)
  have a4 : evS cf (b_l_many_twos_3_a fd fp) [.own true p1, .val (.lst (P.map .str)), .own false (.dic (tabD P fun x => .int (g x))), .own false (csD ([])), j4.s, .no, .no, .no, .no, .no, .no, .no, .no, .no, .no] = _ := (s_for hit2).trans e3
  obtain ⟨r3, p3, e4, h3, g3, g3'⟩ := hd p2 7 h2 (by decide) (by decide)
  obtain ⟨n, rfl⟩ := Int.eq_ofNat_of_zero_le g3
  have a5 : evS cf (b_l_many_twos_4_a fd fp) [.own true p2, .val (.lst (P.map .str)), .own false (.dic (tabD P fun x => .int (g x))), .own false (csD (cs1)), k4.s, .no, .no, .no, .no, .no, .no, .no, .no, .no, .no] = .nx [.own true p3, .val (.lst (P.map .str)), .own false (.dic (tabD P fun x => .int (g x))), .own false (csD (cs1)), k4.s, .val (.int (8 + (n : Int))), .no, .no, .no, .no, .no, .no, .no, .no, .no] := by simp [b_l_many_twos_4_a, e4]
  obtain ⟨q, p4, e5, h4, _, _⟩ := hd p3 (2 * (8 + (n : Int))) h3 (by omega) (by omega)
  have a6 : evS cf (b_l_many_twos_5_a fd fp) [.own true p3, .val (.lst (P.map .str)), .own false (.dic (tabD P fun x => .int (g x))), .own false (csD (cs1)), k4.s, .val (.int (8 + (n : Int))), .no, .no, .no, .no, .no, .no, .no, .no, .no] = .nx [.own true p4, .val (.lst (P.map .str)), .own false (.dic (tabD P fun x => .int (g x))), .own false (csD (cs1)), k4.s, .val (.int (8 + (n : Int))), .val (.int q), .no, .no, .no, .no, .no, .no, .no, .no] := by
    have hc : cmul 2 (8 + (n : Int)) = true := cmul_l (by decide) (by decide)
    simp [b_l_many_twos_5_a, e5, hc]
  obtain ⟨a, p5, e6, h5, _, _⟩ := hd p4 (8 + (n : Int)) h4 (by omega) (by omega)
  obtain ⟨b, p6, e7, h6, _, _⟩ := hd p5 (8 + (n : Int)) h5 (by omega) (by omega)
  have a7 : evS cf (b_l_many_twos_6_a fd fp) [.own true p4, .val (.lst (P.map .str)), .own false (.dic (tabD P fun x => .int (g x))), .own false (csD (cs1)), k4.s, .val (.int (8 + (n : Int))), .val (.int q), .no, .no, .no, .no, .no, .no, .no, .no] = .nx [.own true p6, .val (.lst (P.map .str)), .own false (.dic (tabD P fun x => .int (g x))), .own false (csD (cs1)), k4.s, .val (.int (8 + (n : Int))), .val (.int q), .own false (.lst [.int a, .int b]), .no, .no, .no, .no, .no, .no, .no] := by simp [b_l_many_twos_6_a, e6, e7]
  have hit3 : evI cf (.irng (.var 5)) [.own true p6, .val (.lst (P.map .str)), .own false (.dic (tabD P fun x => .int (g x))), .own false (csD (cs1)), k4.s, .val (.int (8 + (n : Int))), .val (.int q), .own false (.lst [.int a, .int b]), .no, .no, .no, .no, .no, .no, .no] = .ok (((List.range (8 + n)).map fun (i : Nat) => (0 + (i : Int))).map D.int) [.own true p6, .val (.lst (P.map .str)), .own false (.dic (tabD P fun x => .int (g x))), .own false (csD (cs1)), k4.s, .val (.int (8 + (n : Int))), .val (.int q), .own false (.lst [.int a, .int b]), .no, .no, .no, .no, .no, .no, .no] := by
    rw [List.map_map]
    exact ev_rng (n := 8 + n) (op := .v (.int (8 + (n : Int)))) rfl (by simp) (by omega)
  obtain ⟨p7, cs2, k8, k9, k10, k11, k12, k13, k14, e8, h7, hO2, hC2, hl2⟩ := tw_outer (cf := cf) (fd := fd) (fp := fp) (g := g) (m := 8 + (n : Int)) (q := q) (a := a) (b := b) (j4 := k4) hd hp hne hPl ((List.range (8 + n)).map fun (i : Nat) => (0 + (i : Int))) p6 cs1 .no .no .no .no .no .no .no h6 hO1 hC1 (by simp at hl1 ⊢; omega)
  have a8 : evS cf (b_l_many_twos_7_a fd fp) [.own true p6, .val (.lst (P.map .str)), .own false (.dic (tabD P fun x => .int (g x))), .own false (csD (cs1)), k4.s, .val (.int (8 + (n : Int))), .val (.int q), .own false (.lst [.int a, .int b]), .no, .no, .no, .no, .no, .no, .no] = _ := (s_for hit3).trans e8
  have a9 : evS cf (b_l_many_twos_8 fd fp) [.own true p7, .val (.lst (P.map .str)), .own false (.dic (tabD P fun x => .int (g x))), .own false (csD (cs2)), k4.s, .val (.int (8 + (n : Int))), .val (.int q), .own false (.lst [.int a, .int b]), k8.s, k9.s, k10.s, k11.s, k12.s, k13.s, k14.s] = .ret (.f (csD cs2)) [.own true p7, .val (.lst (P.map .str)), .own false (.dic (tabD P fun x => .int (g x))), .no, k4.s, .val (.int (8 + (n : Int))), .val (.int q), .own false (.lst [.int a, .int b]), k8.s, k9.s, k10.s, k11.s, k12.s, k13.s, k14.s] := by simp [b_l_many_twos_8]
  refine ⟨cs2, p7, c_retf (ρ' := [.own true p7, .val (.lst (P.map .str)), .own false (.dic (tabD P fun x => .int (g x))), .no, k4.s, .val (.int (8 + (n : Int))), .val (.int q), .own false (.lst [.int a, .int b]), k8.s, k9.s, k10.s, k11.s, k12.s, k13.s, k14.s]) ((s_seq a1).trans ((s_seq a2).trans ((s_seq a3).trans ((s_seq a4).trans ((s_seq a5).trans ((s_seq a6).trans ((s_seq a7).trans ((s_seq a8).trans a9)))))))), h7, hO2, hC2, ?_⟩
  simp at hl1 hl2
  omega
end
end PyI
set_option maxHeartbeats 1000000
/-! PyNe: the law of deciding. -/
namespace PyI
open PySem PySem.Spec PyProof.Rows L2
theorem eqvL_lits : ∀ c : List L3, eqvL (c.map litD) (c.map litD) = some true
  | [] => rfl
  | l :: c => by
    have := eqvL_lits c
    simp only [List.map_cons, eqvL, this]
    have e : eqv (litD l) (litD l) = some true := by simp [litD, eqF]
    rw [e]; rfl
theorem eqvL_cls : ∀ cs : List (List L3), eqvL (cs.map clD) (cs.map clD) = some true
  | [] => rfl
  | c :: cs => by
    have := eqvL_cls cs
    simp only [List.map_cons, eqvL, this]
    have e : eqv (clD c) (clD c) = some true := eqvL_lits c
    rw [e]; rfl
theorem depL_lits : ∀ c : List L3, depL (c.map litD) ≤ 1
  | [] => by simp
  | l :: c => by
    have := depL_lits c
    simp only [List.map_cons, depL, litD, D.dep]; omega
theorem depL_cls : ∀ cs : List (List L3), depL (cs.map clD) ≤ 2
  | [] => by simp
  | c :: cs => by
    have := depL_cls cs
    have := depL_lits c
    simp only [List.map_cons, depL, clD, D.dep]; omega
theorem nodL_lits : ∀ c : List L3, nodL (c.map litD) = true
  | [] => rfl
  | l :: c => by
    have := nodL_lits c
    simp [nodL, this, litD]
theorem nodL_cls : ∀ cs : List (List L3), nodL (cs.map clD) = true
  | [] => rfl
  | c :: cs => by
    have := nodL_cls cs
    have h := nodL_lits c
    simp [nodL, this, clD, h]
theorem pick_app {cs ds : List (List L3)} {i : Nat} {l : L3} (h : pickS cs i = some l) : pickS (cs ++ ds) i = some l := by
  have hi := pick_lt h
  unfold pickS at h ⊢
  rw [List.getElem?_append_left hi]; exact h
theorem RingOk.app {cs ds : List (List L3)} {is : List Nat} {ls : List L3} (h : RingOk cs is ls) : RingOk (cs ++ ds) is ls := by
  refine ⟨h.ne, h.nd, ?_, h.ch, h.neg⟩
  rw [← h.pk]
  refine List.map_congr_left fun i hi => ?_
  obtain ⟨l, g1, _⟩ := pick_at h.pk hi
  rw [g1, pick_app g1]
theorem Sat.sub {cs : List (List L3)} {c : List L3} (h : Sat (cs ++ [c])) : Sat cs := by
  obtain ⟨a, h⟩ := h
  exact ⟨a, fun c hc => h c (by simp [hc])⟩
theorem mu_bound {cs : List (List L3)} {n : Nat} (h : cs.length ≤ n) : mu cs ≤ n := Nat.le_trans (List.length_filter_le ..) h
def PoolC (c : List Arg → CRes) : Prop := ∀ ns : List Int, ns.length ≤ 63 → ∃ p, c [.v (.scr ns)] = .ok (.f p) [.non] ∧ IsPool p
section
variable {cf : CF} {ipool iterms idraw iclauses iround itwos idec iint iright iclause iclos : Nat}
theorem k3law_ok (hpool : PoolC (cf ipool)) (hterms : TermsC (cf iterms)) (hd : DrawOk (cf idraw)) (hcls : ClausesC 14 (cf iclauses)) (hrnd : ClausesC 7 (cf iround)) (htw : TwosC (cf itwos)) (hdec : DecC 29 (cf idec)) (hint : IntegersC 29 (cf iint)) (hright : RightC 31 (cf iright)) (hcl : ClauseL (cf iclause)) (hclos : ClosC 31 (cf iclos))
    (ns : List Int) (hns : ns.length ≤ 63) : ∃ o, callBody cf ⟨9, 1, b_l_law ipool iterms idraw iclauses iround itwos idec iint iright iclause iclos⟩ [.v (.scr ns)] = .ok (.v (.bl true)) o := by
  obtain ⟨p, e1, h1⟩ := hpool ns hns
  have a1 : evS cf (b_l_law_a ipool iterms idraw iclauses iround itwos idec iint iright iclause iclos) [.val (.scr ns), .no, .no, .no, .no, .no, .no, .no, .no] = .nx [.val (.scr ns), .own false p, .no, .no, .no, .no, .no, .no, .no] := by
    simp [b_l_law_a, e1]
  obtain ⟨r2, p2, e2, h2, h2a, h2b⟩ := hd p 6 h1 (by decide) (by decide)
  obtain ⟨ts, p3, e3, h3, ht, htl⟩ := hterms p2 (1 + r2) h2 (by omega) (by omega)
  obtain ⟨P, rfl, he, hnd, hPe⟩ := terms_strs ht
  have hPl : P.length ≤ 7 := by omega
  have hne : P ≠ [] := fun z => by rw [z] at he; cases he
  have a2 : evS cf (b_l_law_1_a ipool iterms idraw iclauses iround itwos idec iint iright iclause iclos) [.val (.scr ns), .own false p, .no, .no, .no, .no, .no, .no, .no] = .nx [.val (.scr ns), .own false p3, .own false (.lst (P.map .str)), .no, .no, .no, .no, .no, .no] := by
    simp [b_l_law_1_a, e2, e3]
  obtain ⟨cs1, p4, e4, h4, hO1, hC1, hl1⟩ := hcls p3 P h3 hne (by omega)
  have a3 : evS cf (b_l_law_2_a ipool iterms idraw iclauses iround itwos idec iint iright iclause iclos) [.val (.scr ns), .own false p3, .own false (.lst (P.map .str)), .no, .no, .no, .no, .no, .no] = .nx [.val (.scr ns), .own false p4, .val (.lst (P.map .str)), .own false (csD cs1), .no, .no, .no, .no, .no] := by
    simp [b_l_law_2_a, e4]
  have a4 : ∃ p5 cs2, evS cf (b_l_law_3_a ipool iterms idraw iclauses iround itwos idec iint iright iclause iclos) [.val (.scr ns), .own false p4, .val (.lst (P.map .str)), .own false (csD cs1), .no, .no, .no, .no, .no] = .nx [.val (.scr ns), .own false p5, .val (.lst (P.map .str)), .own false (csD cs2), .no, .no, .no, .no, .no] ∧ IsPool p5 ∧ Over P cs2 ∧ Cls cs2 ∧ cs2.length ≤ 14 := by
    obtain ⟨r, p5, e5, h5, _, _⟩ := hd p4 2 h4 (by decide) (by decide)
    by_cases hr : r = 0
    · obtain ⟨rs, p6, e6, h6, hO6, hC6, hl6⟩ := hrnd p5 P h5 hne (by omega)
      have hz : (cs1.map clD).length + (rs.map clD).length ≤ 100000 := by rw [List.length_map, List.length_map]; omega
      have hcut : cutD (cs1.map clD ++ rs.map clD) none (some 14) = ((cs1 ++ rs).take 14).map clD := by
        rw [show (14 : Int) = ((14 : Nat) : Int) from rfl, cut_to, ← List.map_append, List.map_take]
      refine ⟨p6, (cs1 ++ rs).take 14, ?_, h6, fun c hc => (hO1.add hO6) c (List.mem_of_mem_take hc), fun c hc => (hC1.add hC6) c (List.mem_of_mem_take hc), by rw [List.length_take]; omega⟩
      unfold csD at e6 ⊢
      rw [← hcut]
      have hz' : cs1.length + rs.length ≤ 100000 := by omega
      simp [b_l_law_3_a, e5, hr, e6, hz']
    · exact ⟨p5, cs1, by simp [b_l_law_3_a, e5, hr], h5, hO1, hC1, hl1⟩
  obtain ⟨p5, cs2, a4, h5, hO2, hC2, hl2⟩ := a4
  have a5 : ∃ p6 cs, evS cf (b_l_law_4_a ipool iterms idraw iclauses iround itwos idec iint iright iclause iclos) [.val (.scr ns), .own false p5, .val (.lst (P.map .str)), .own false (csD cs2), .no, .no, .no, .no, .no] = .nx [.val (.scr ns), .own false p6, .val (.lst (P.map .str)), .own false (csD cs), .no, .no, .no, .no, .no] ∧ IsPool p6 ∧ Over P cs ∧ Cls cs ∧ cs.length ≤ 28 := by
    obtain ⟨r, p6, e6, h6, _, _⟩ := hd p5 4 h5 (by decide) (by decide)
    by_cases hr : r = 0
    · obtain ⟨rs, p7, e7, h7, hO7, hC7, hl7⟩ := htw p6 P h6 he hnd (by omega)
      exact ⟨p7, rs, by simp [b_l_law_4_a, e6, hr, e7], h7, hO7, hC7, by omega⟩
    · exact ⟨p6, cs2, by simp [b_l_law_4_a, e6, hr], h6, hO2, hC2, by omega⟩
  obtain ⟨p6, cs, a5, h6, hO, hC, hl⟩ := a5
  have a6 : evS cf (b_l_law_5_a ipool iterms idraw iclauses iround itwos idec iint iright iclause iclos) [.val (.scr ns), .own false p6, .val (.lst (P.map .str)), .own false (csD cs), .no, .no, .no, .no, .no] = .nx [.val (.scr ns), .own false p6, .val (.lst (P.map .str)), .own false (csD cs), .own false (csD cs), .no, .no, .no, .no] := by
    simp [b_l_law_5_a, csD]
  obtain ⟨d, o7, e7, hT⟩ := hdec cs P hO (by omega) hC (by omega) (mu_bound (by omega))
  have a7 : evS cf (b_l_law_6_a ipool iterms idraw iclauses iround itwos idec iint iright iclause iclos) [.val (.scr ns), .own false p6, .val (.lst (P.map .str)), .own false (csD cs), .own false (csD cs), .no, .no, .no, .no] = .nx [.val (.scr ns), .own false p6, .val (.lst (P.map .str)), .own false (csD cs), .val (csD cs), .val d, .no, .no, .no] := by
    simp [b_l_law_6_a, e7]
  have a8 : ∃ b, evS cf (b_l_law_7_a ipool iterms idraw iclauses iround itwos idec iint iright iclause iclos) [.val (.scr ns), .own false p6, .val (.lst (P.map .str)), .own false (csD cs), .val (csD cs), .val d, .no, .no, .no] = .nx [.val (.scr ns), .own false p6, .val (.lst (P.map .str)), .val (csD cs), .val (csD cs), .val d, .val (.bl b), .no, .no] ∧ (b = true ↔ Sat cs) := by
    rcases hint cs P hO (by omega) hC (by omega) (Nat.le_trans (List.length_filter_le ..) (by omega)) with ⟨kvs, o, e, hs⟩ | ⟨o, e, hs⟩
    · exact ⟨true, by simp [b_l_law_7_a, e], by simp [hs]⟩
    · exact ⟨false, by simp [b_l_law_7_a, e], by simp [hs]⟩
  obtain ⟨b, a8, hb⟩ := a8
  obtain ⟨o9, e9⟩ := hright cs P 29 d b hO (by omega) hC (by omega) (by omega) hT hb
  have hq := eqvL_cls cs
  have hdp := depL_cls cs
  have hdp' : depL (cs.map clD) + 1 ≤ 100 := by omega
  have hno := nodL_cls cs
  have a9 : evS cf (b_l_law_8_a ipool iterms idraw iclauses iround itwos idec iint iright iclause iclos) [.val (.scr ns), .own false p6, .val (.lst (P.map .str)), .val (csD cs), .val (csD cs), .val d, .val (.bl b), .no, .no] = .nx [.val (.scr ns), .own false p6, .val (.lst (P.map .str)), .val (csD cs), .val (csD cs), .val d, .val (.bl b), .no, .no] := by
    unfold csD at e9 ⊢
    simp [b_l_law_8_a, e9, hq, hdp', hno]
  obtain ⟨c, p7, e10, h7, hc2, hcP⟩ := hcl p6 P 0 h6 hne (by omega)
  have hO' : Over P (cs ++ [c]) := hO.add (.one hcP)
  have hC' : Cls (cs ++ [c]) := hC.add (.one hc2)
  have hl' : (cs ++ [c]).length ≤ 29 := by simp; omega
  have a10 : evS cf (b_l_law_9_a ipool iterms idraw iclauses iround itwos idec iint iright iclause iclos) [.val (.scr ns), .own false p6, .val (.lst (P.map .str)), .val (csD cs), .val (csD cs), .val d, .val (.bl b), .no, .no] = .nx [.val (.scr ns), .own false p7, .val (.lst (P.map .str)), .val (csD cs), .val (csD cs), .val d, .val (.bl b), .own false (csD (cs ++ [c])), .no] := by
    have hz : cs.length + 1 ≤ 100000 := by omega
    simp [b_l_law_9_a, e10, csD, hz]
  obtain ⟨d2, o11, e11, hT2⟩ := hdec (cs ++ [c]) P hO' (by omega) hC' (by omega) (mu_bound hl')
  have a11 : evS cf (b_l_law_10_a ipool iterms idraw iclauses iround itwos idec iint iright iclause iclos) [.val (.scr ns), .own false p7, .val (.lst (P.map .str)), .val (csD cs), .val (csD cs), .val d, .val (.bl b), .own false (csD (cs ++ [c])), .no] = .nx [.val (.scr ns), .own false p7, .val (.lst (P.map .str)), .val (csD cs), .val (csD cs), .val d, .val (.bl b), .val (csD (cs ++ [c])), .val d2] := by
    simp [b_l_law_10_a, e11]
  have hmet : b = false → ∃ t, d2 = .tup [.str sNone, t] := fun hb0 => by
    rcases hT2 with ⟨w, _, _, hM⟩ | ⟨t, e, _⟩
    · have : b = true := hb.mpr (Sat.sub ⟨w, hM⟩)
      rw [hb0] at this; cases this
    · exact ⟨t, e⟩
  have a12 : evS cf (b_l_law_11_a ipool iterms idraw iclauses iround itwos idec iint iright iclause iclos) [.val (.scr ns), .own false p7, .val (.lst (P.map .str)), .val (csD cs), .val (csD cs), .val d, .val (.bl b), .val (csD (cs ++ [c])), .val d2] = .nx [.val (.scr ns), .own false p7, .val (.lst (P.map .str)), .val (csD cs), .val (csD cs), .val d, .val (.bl b), .val (csD (cs ++ [c])), .val d2] := by
    have hi : ∃ b2 o, (cf iint [.v (csD (cs ++ [c]))] = .ok (.v .non) o ∧ b2 = false ∨ ∃ kvs, cf iint [.v (csD (cs ++ [c]))] = .ok (.f (.dic kvs)) o ∧ b2 = true) ∧ (b2 = true ↔ Sat (cs ++ [c])) := by
      rcases hint (cs ++ [c]) P hO' (by omega) hC' (by omega) (Nat.le_trans (List.length_filter_le ..) hl') with ⟨kvs, o, e, hs⟩ | ⟨o, e, hs⟩
      · exact ⟨true, o, .inr ⟨kvs, e, rfl⟩, by simp [hs]⟩
      · exact ⟨false, o, .inl ⟨e, rfl⟩, by simp [hs]⟩
    obtain ⟨b2, o, hi, hb2⟩ := hi
    obtain ⟨o12, e12⟩ := hright (cs ++ [c]) P 29 d2 b2 hO' (by omega) hC' (by omega) (by omega) hT2 hb2
    have hnm : ¬ (PySem.Str.ofString "none" = PySem.Str.ofString "met") := by decide
    cases hbb : b with
    | true => rcases hi with ⟨e, rfl⟩ | ⟨kvs, e, rfl⟩ <;> simp [b_l_law_11_a, e, e12]
    | false =>
      obtain ⟨t, rfl⟩ := hmet hbb
      unfold sNone at e12 ⊢
      rcases hi with ⟨e, rfl⟩ | ⟨kvs, e, rfl⟩ <;> simp [b_l_law_11_a, e, e12, hnm]
  cases hbb : b with
  | false =>
    subst hbb
    rcases hT with ⟨w, _, _, hM⟩ | ⟨t, rfl, hcl, hdt⟩
    · have : false = true := hb.mpr ⟨w, hM⟩
      cases this
    · have a13 : evS cf (b_l_law_12_a ipool iterms idraw iclauses iround itwos idec iint iright iclause iclos) [.val (.scr ns), .own false p7, .val (.lst (P.map .str)), .val (csD cs), .val (csD cs), .val (.tup [.str sNone, t]), .val (.bl false), .val (csD (cs ++ [c])), .val d2] = .ret (.v (.bl true)) [.val (.scr ns), .own false p7, .val (.lst (P.map .str)), .val (csD cs), .val (csD cs), .val (.tup [.str sNone, t]), .val (.bl false), .val (csD (cs ++ [c])), .val d2] := by
        cases hcl with
        | @ring _ is ls hr =>
          have hnic := closed_nic (.ring (hr.app (ds := [c]))) (by omega)
          obtain ⟨o, e⟩ := hclos (cs ++ [c]) _ hC' (by omega) hnic (CD_dep hdt)
          rw [closed_closes (.ring (hr.app (ds := [c]))) 31 (CD_dep hdt)] at e
          have hrc : (PySem.Str.ofString "ring" == PySem.Str.ofString "case") = false := by decide
          unfold sRing at e ⊢
          simp [b_l_law_12_a, e, hrc]
        | @case _ i l m t1 t2 hi _ _ =>
          simp [b_l_law_12_a, sCase]
      exact ⟨_, c_ret ((s_seq a1).trans ((s_seq a2).trans ((s_seq a3).trans ((s_seq a4).trans ((s_seq a5).trans ((s_seq a6).trans ((s_seq a7).trans ((s_seq a8).trans ((s_seq a9).trans ((s_seq a10).trans ((s_seq a11).trans ((s_seq a12).trans (s_ret a13)))))))))))))⟩
  | true =>
    subst hbb
    have a13 : evS cf (b_l_law_12_a ipool iterms idraw iclauses iround itwos idec iint iright iclause iclos) [.val (.scr ns), .own false p7, .val (.lst (P.map .str)), .val (csD cs), .val (csD cs), .val d, .val (.bl true), .val (csD (cs ++ [c])), .val d2] = .nx [.val (.scr ns), .own false p7, .val (.lst (P.map .str)), .val (csD cs), .val (csD cs), .val d, .val (.bl true), .val (csD (cs ++ [c])), .val d2] := by
      simp [b_l_law_12_a]
    obtain ⟨o14, e14⟩ := hclos cs (.tup [.str (PySem.Str.ofString "ring"), .tup []]) hC (by omega) (by decide) (CD_dep (by simp [D.dep]))
    have hf : closesN 31 cs (.tup [.str (PySem.Str.ofString "ring"), .tup []]) = false := by
      have := closesN_ring (n := 30) (cs := cs) (s := sRing) (r := .tup [])
      rw [if_pos rfl] at this
      exact this
    rw [hf] at e14
    have h0 : ∃ o, cf idec [.v (csD [])] = .ok (.v (.tup [.str sMet, .dic []])) o := by
      obtain ⟨d0, o, e, hT0⟩ := hdec [] P (fun c hc => by cases hc) (by omega) (fun c hc => by cases hc) (by simp) (by simp [mu])
      rcases hT0 with ⟨w, rfl, _, _⟩ | ⟨t, _, hc0, _⟩
      · refine ⟨o, ?_⟩
        have ht0 : Tm [] = [] := by
          refine List.eq_nil_iff_forall_not_mem.mpr fun x hx => ?_
          have := (Tm_mem.mp hx).1
          simp [allT] at this
        rw [ht0] at e
        exact e
      · exact absurd ⟨fun _ => 0, fun c hc => by cases hc⟩ hc0.unsat
    obtain ⟨o15, e15⟩ := h0
    have a14 : evS cf (b_l_law_13 ipool iterms idraw iclauses iround itwos idec iint iright iclause iclos) [.val (.scr ns), .own false p7, .val (.lst (P.map .str)), .val (csD cs), .val (csD cs), .val d, .val (.bl true), .val (csD (cs ++ [c])), .val d2] = .ret (.v (.bl true)) [.val (.scr ns), .own false p7, .val (.lst (P.map .str)), .val (csD cs), .val (csD cs), .val d, .val (.bl true), .val (csD (cs ++ [c])), .val d2] := by
      unfold csD at e15
      unfold csD at e14 ⊢
      have e15' : cf idec [.v (.lst [])] = .ok (.v (.tup [.str (PySem.Str.ofString "met"), .dic []])) o15 := e15
      simp [b_l_law_13, e14, e15', eqvK]
    exact ⟨_, c_ret ((s_seq a1).trans ((s_seq a2).trans ((s_seq a3).trans ((s_seq a4).trans ((s_seq a5).trans ((s_seq a6).trans ((s_seq a7).trans ((s_seq a8).trans ((s_seq a9).trans ((s_seq a10).trans ((s_seq a11).trans ((s_seq a12).trans ((s_seq a13).trans a14)))))))))))))⟩
end
end PyI
namespace PyI
open PySem PySem.Spec PyProof.Rows L2
def b_negated : S := .ret (.tup (.acons (.frz (.sub (.var 0) (.cst (.int 1)))) (.acons (.frz (.sub (.var 0) (.cst (.int 0)))) (.acons (.frz (.bin .sub (.neg (.sub (.var 0) (.cst (.int 2)))) (.cst (.int 1)))) .anil))))
def b_denied (inegated : Nat) : S := .ret (.lc [1, 2] (.n 2) (.iseq (.var 0)) .tyes (.tup (.acons (.frz (.call inegated (.acons (.frz (.var 2)) .anil))) .anil)))
def b_follows_a (idecide idenied : Nat) : S := .set 2 (.call idecide (.acons (.frz (.bin .add (.bi .list (.var 0)) (.call idenied (.acons (.frz (.var 1)) .anil)))) .anil))
def b_follows_1 (idecide idenied : Nat) : S := .ret (.ite (.tv (.cmp .eq (.sub (.var 2) (.cst (.int 0))) (.cst (.str (PySem.Str.ofString "met"))))) (.sub (.var 2) (.cst (.int 1))) (.cst .non))
def b_follows (idecide idenied : Nat) : S := .seq (b_follows_a idecide idenied) (b_follows_1 idecide idenied)
def b_l_denied : S := .ret (.lc [1, 2, 3, 4] (.tup [.n 2, .n 3, .n 4]) (.iseq (.var 0)) .tyes (.tup (.acons (.frz (.tup (.acons (.frz (.var 3)) (.acons (.frz (.var 2)) (.acons (.frz (.bin .sub (.neg (.var 4)) (.cst (.int 1)))) .anil))))) .anil)))
def b_l_follows (il_integers il_denied : Nat) : S := .ret (.cmp .is_ (.call il_integers (.acons (.frz (.bin .add (.bi .list (.var 0)) (.call il_denied (.acons (.frz (.var 1)) .anil)))) .anil)) (.cst .non))
def b_l_whole : S := .ret (.an (.isi .int (.var 0)) (.nt (.isi .bool (.var 0))))
def b_l_small_a (il_pick il_draw : Nat) : S := .set 3 (.lst .anil)
def b_l_small_1_ab (il_pick il_draw : Nat) : S := .drop (.mt .append 3 (.acons (.frz (.tup (.acons (.frz (.call il_pick (.acons (.var 0) (.acons (.frz (.var 1)) .anil)))) (.acons (.frz (.call il_pick (.acons (.var 0) (.acons (.frz (.var 1)) .anil)))) (.acons (.frz (.bin .sub (.call il_draw (.acons (.var 0) (.acons (.frz (.cst (.int 5))) .anil))) (.cst (.int 2)))) .anil))))) .anil))
def b_l_small_1_a (il_pick il_draw : Nat) : S := .fors (.n 4) (.irng (.cst (.int 2))) (b_l_small_1_ab il_pick il_draw)
def b_l_small_2 (il_pick il_draw : Nat) : S := .ret (.bi .tuple (.slc (.var 3) .nopart (.acons (.bin .add (.cst (.int 1)) (.bi .int (.cmp .lt (.call il_draw (.acons (.var 0) (.acons (.frz (.cst (.int 4))) .anil))) (.var 2)))) .anil)))
def b_l_small_1 (il_pick il_draw : Nat) : S := .seq (b_l_small_1_a il_pick il_draw) (b_l_small_2 il_pick il_draw)
def b_l_small (il_pick il_draw : Nat) : S := .seq (b_l_small_a il_pick il_draw) (b_l_small_1 il_pick il_draw)
def b_l_tried_abb_a (il_holds : Nat) : S := .set 4 (.disp (.acons (.cst (.str (PySem.Str.ofString "a"))) (.acons (.var 2) (.acons (.cst (.str (PySem.Str.ofString "b"))) (.acons (.var 3) .anil)))))
def b_l_tried_abb_1 (il_holds : Nat) : S := .ifs (.tand (.tnot (.tt (.call il_holds (.acons (.frz (.var 1)) (.acons (.frz (.var 4)) .anil))))) (.tv (.cmp .eq (.bi .len (.lc [5, 6] (.n 6) (.iseq (.var 0)) (.tnot (.tt (.call il_holds (.acons (.frz (.var 6)) (.acons (.frz (.var 4)) .anil))))) (.var 6))) (.cst (.int 0))))) (.ret (.cst (.bl false))) .nx
def b_l_tried_abb (il_holds : Nat) : S := .seq (b_l_tried_abb_a il_holds) (b_l_tried_abb_1 il_holds)
def b_l_tried_ab (il_holds : Nat) : S := .fors (.n 3) (.irng2 (.neg (.cst (.int 12))) (.cst (.int 13))) (b_l_tried_abb il_holds)
def b_l_tried_a (il_holds : Nat) : S := .fors (.n 2) (.irng2 (.neg (.cst (.int 12))) (.cst (.int 13))) (b_l_tried_ab il_holds)
def b_l_tried_1 (il_holds : Nat) : S := .ret (.cst (.bl true))
def b_l_tried (il_holds : Nat) : S := .seq (b_l_tried_a il_holds) (b_l_tried_1 il_holds)
def b_l_shifted : S := .ret (.bi .tuple (.lc [2, 3, 4, 5] (.tup [.n 3, .n 4, .n 5]) (.iseq (.var 0)) .tyes (.tup (.acons (.frz (.var 3)) (.acons (.frz (.var 4)) (.acons (.frz (.bin .sub (.bin .add (.var 5) (.sub (.var 1) (.var 4))) (.sub (.var 1) (.var 3)))) .anil))))))
def b_k05l_right_a (ifollows il_terms il_whole il_holds : Nat) : S := .set 3 (.call ifollows (.acons (.frz (.bi .list (.var 0))) (.acons (.frz (.var 1)) .anil)))
def b_k05l_right_1_a (ifollows il_terms il_whole il_holds : Nat) : S := .ifs (.tv (.cmp .ne (.cmp .is_ (.var 3) (.cst .non)) (.var 2))) (.ret (.cst (.bl false))) .nx
def b_k05l_right_2_a (ifollows il_terms il_whole il_holds : Nat) : S := .ifs (.tt (.var 2)) (.ret (.cst (.bl true))) .nx
def b_k05l_right_3_a (ifollows il_terms il_whole il_holds : Nat) : S := .ifs (.tor (.tnot (.tt (.isi .dict (.var 3)))) (.tv (.cmp .ne (.bi .list (.var 3)) (.call il_terms (.acons (.frz (.bin .add (.var 0) (.lst (.acons (.frz (.var 1)) .anil)))) .anil))))) (.ret (.cst (.bl false))) .nx
def b_k05l_right_4_a (ifollows il_terms il_whole il_holds : Nat) : S := .ifs (.tv (.cmp .gt (.bi .len (.lc [4, 5] (.n 5) (.iseq (.var 3)) (.tnot (.tt (.call il_whole (.acons (.frz (.sub (.var 3) (.var 5))) .anil)))) (.var 5))) (.cst (.int 0)))) (.ret (.cst (.bl false))) .nx
def b_k05l_right_5 (ifollows il_terms il_whole il_holds : Nat) : S := .ret (.an (.cmp .eq (.bi .len (.lc [4, 6] (.n 6) (.iseq (.var 0)) (.tnot (.tt (.call il_holds (.acons (.frz (.var 6)) (.acons (.frz (.var 3)) .anil))))) (.var 6))) (.cst (.int 0))) (.nt (.call il_holds (.acons (.frz (.var 1)) (.acons (.frz (.var 3)) .anil)))))
def b_k05l_right_4 (ifollows il_terms il_whole il_holds : Nat) : S := .seq (b_k05l_right_4_a ifollows il_terms il_whole il_holds) (b_k05l_right_5 ifollows il_terms il_whole il_holds)
def b_k05l_right_3 (ifollows il_terms il_whole il_holds : Nat) : S := .seq (b_k05l_right_3_a ifollows il_terms il_whole il_holds) (b_k05l_right_4 ifollows il_terms il_whole il_holds)
def b_k05l_right_2 (ifollows il_terms il_whole il_holds : Nat) : S := .seq (b_k05l_right_2_a ifollows il_terms il_whole il_holds) (b_k05l_right_3 ifollows il_terms il_whole il_holds)
def b_k05l_right_1 (ifollows il_terms il_whole il_holds : Nat) : S := .seq (b_k05l_right_1_a ifollows il_terms il_whole il_holds) (b_k05l_right_2 ifollows il_terms il_whole il_holds)
def b_k05l_right (ifollows il_terms il_whole il_holds : Nat) : S := .seq (b_k05l_right_a ifollows il_terms il_whole il_holds) (b_k05l_right_1 ifollows il_terms il_whole il_holds)
def b_k05l_law_a (il_pool il_draw il_small il_tried il_right il_number il_shifted ifollows il_some_terms il_clause il_follows : Nat) : S := .set 1 (.call il_pool (.acons (.frz (.var 0)) .anil))
def b_k05l_law_1_a (il_pool il_draw il_small il_tried il_right il_number il_shifted ifollows il_some_terms il_clause il_follows : Nat) : S := .set 2 (.lst (.acons (.frz (.cst (.str (PySem.Str.ofString "")))) (.acons (.frz (.cst (.str (PySem.Str.ofString "a")))) (.acons (.frz (.cst (.str (PySem.Str.ofString "b")))) .anil))))
def b_k05l_law_2_a (il_pool il_draw il_small il_tried il_right il_number il_shifted ifollows il_some_terms il_clause il_follows : Nat) : S := .set 3 (.lc [9, 10] (.n 10) (.irng (.call il_draw (.acons (.var 1) (.acons (.frz (.cst (.int 7))) .anil)))) .tyes (.call il_small (.acons (.var 1) (.acons (.frz (.var 2)) (.acons (.frz (.cst (.int 1))) .anil)))))
def b_k05l_law_3_a (il_pool il_draw il_small il_tried il_right il_number il_shifted ifollows il_some_terms il_clause il_follows : Nat) : S := .set 4 (.call il_small (.acons (.var 1) (.acons (.frz (.var 2)) (.acons (.frz (.cst (.int 2))) .anil))))
def b_k05l_law_4_a (il_pool il_draw il_small il_tried il_right il_number il_shifted ifollows il_some_terms il_clause il_follows : Nat) : S := .set 5 (.call il_tried (.acons (.frz (.var 3)) (.acons (.frz (.var 4)) .anil)))
def b_k05l_law_5_a (il_pool il_draw il_small il_tried il_right il_number il_shifted ifollows il_some_terms il_clause il_follows : Nat) : S := .ifs (.tnot (.tt (.call il_right (.acons (.frz (.var 3)) (.acons (.frz (.var 4)) (.acons (.frz (.var 5)) .anil)))))) (.ret (.cst (.bl false))) .nx
def b_k05l_law_6_a (il_pool il_draw il_small il_tried il_right il_number il_shifted ifollows il_some_terms il_clause il_follows : Nat) : S := .set 6 (.disp (.acons (.cst (.str (PySem.Str.ofString ""))) (.acons (.cst (.int 0)) (.acons (.cst (.str (PySem.Str.ofString "a"))) (.acons (.call il_number (.acons (.var 1) .anil)) (.acons (.cst (.str (PySem.Str.ofString "b"))) (.acons (.call il_number (.acons (.var 1) .anil)) .anil)))))))
def b_k05l_law_7_a (il_pool il_draw il_small il_tried il_right il_number il_shifted ifollows il_some_terms il_clause il_follows : Nat) : S := .ifs (.tnot (.tt (.call il_right (.acons (.frz (.lc [9, 7] (.n 7) (.iseq (.var 3)) .tyes (.call il_shifted (.acons (.frz (.var 7)) (.acons (.frz (.var 6)) .anil))))) (.acons (.frz (.call il_shifted (.acons (.frz (.var 4)) (.acons (.frz (.var 6)) .anil)))) (.acons (.frz (.var 5)) .anil)))))) (.ret (.cst (.bl false))) .nx
def b_k05l_law_8_ab (il_pool il_draw il_small il_tried il_right il_number il_shifted ifollows il_some_terms il_clause il_follows : Nat) : S := .ifs (.tv (.cmp .isnot (.call ifollows (.acons (.frz (.var 3)) (.acons (.frz (.var 7)) .anil))) (.cst .non))) (.ret (.cst (.bl false))) .nx
def b_k05l_law_8_a (il_pool il_draw il_small il_tried il_right il_number il_shifted ifollows il_some_terms il_clause il_follows : Nat) : S := .fors (.n 7) (.iseq (.var 3)) (b_k05l_law_8_ab il_pool il_draw il_small il_tried il_right il_number il_shifted ifollows il_some_terms il_clause il_follows)
def b_k05l_law_9_a (il_pool il_draw il_small il_tried il_right il_number il_shifted ifollows il_some_terms il_clause il_follows : Nat) : S := .set 8 (.call il_small (.acons (.var 1) (.acons (.frz (.var 2)) (.acons (.frz (.cst (.int 1))) .anil))))
def b_k05l_law_10_a (il_pool il_draw il_small il_tried il_right il_number il_shifted ifollows il_some_terms il_clause il_follows : Nat) : S := .ifs (.tand (.tt (.var 5)) (.tor (.tv (.cmp .isnot (.call ifollows (.acons (.frz (.bin .add (.var 3) (.lst (.acons (.frz (.var 8)) .anil)))) (.acons (.frz (.var 4)) .anil))) (.cst .non))) (.tv (.cmp .isnot (.call ifollows (.acons (.frz (.bin .add (.lst (.acons (.frz (.var 8)) .anil)) (.var 3))) (.acons (.frz (.var 4)) .anil))) (.cst .non))))) (.ret (.cst (.bl false))) .nx
def b_k05l_law_11_a (il_pool il_draw il_small il_tried il_right il_number il_shifted ifollows il_some_terms il_clause il_follows : Nat) : S := .ifs (.tand (.tt (.var 5)) (.tand (.tv (.cmp .is_ (.call ifollows (.acons (.frz (.bin .add (.var 3) (.lst (.acons (.frz (.var 4)) .anil)))) (.acons (.frz (.var 8)) .anil))) (.cst .non))) (.tv (.cmp .isnot (.call ifollows (.acons (.frz (.var 3)) (.acons (.frz (.var 8)) .anil))) (.cst .non))))) (.ret (.cst (.bl false))) .nx
def b_k05l_law_12_a (il_pool il_draw il_small il_tried il_right il_number il_shifted ifollows il_some_terms il_clause il_follows : Nat) : S := .set 2 (.call il_some_terms (.acons (.var 1) (.acons (.frz (.cst (.int 5))) .anil)))
def b_k05l_law_13_a (il_pool il_draw il_small il_tried il_right il_number il_shifted ifollows il_some_terms il_clause il_follows : Nat) : S := .set 3 (.lc [9, 10] (.n 10) (.irng (.call il_draw (.acons (.var 1) (.acons (.frz (.cst (.int 12))) .anil)))) .tyes (.call il_clause (.acons (.var 1) (.acons (.frz (.var 2)) (.acons (.frz (.bi .int (.cmp .eq (.call il_draw (.acons (.var 1) (.acons (.frz (.cst (.int 3))) .anil))) (.cst (.int 0))))) .anil)))))
def b_k05l_law_14_a (il_pool il_draw il_small il_tried il_right il_number il_shifted ifollows il_some_terms il_clause il_follows : Nat) : S := .set 4 (.call il_clause (.acons (.var 1) (.acons (.frz (.var 2)) (.acons (.frz (.cst (.int 1))) .anil))))
def b_k05l_law_15 (il_pool il_draw il_small il_tried il_right il_number il_shifted ifollows il_some_terms il_clause il_follows : Nat) : S := .ret (.call il_right (.acons (.frz (.var 3)) (.acons (.frz (.var 4)) (.acons (.frz (.call il_follows (.acons (.frz (.var 3)) (.acons (.frz (.var 4)) .anil)))) .anil))))
def b_k05l_law_14 (il_pool il_draw il_small il_tried il_right il_number il_shifted ifollows il_some_terms il_clause il_follows : Nat) : S := .seq (b_k05l_law_14_a il_pool il_draw il_small il_tried il_right il_number il_shifted ifollows il_some_terms il_clause il_follows) (b_k05l_law_15 il_pool il_draw il_small il_tried il_right il_number il_shifted ifollows il_some_terms il_clause il_follows)
def b_k05l_law_13 (il_pool il_draw il_small il_tried il_right il_number il_shifted ifollows il_some_terms il_clause il_follows : Nat) : S := .seq (b_k05l_law_13_a il_pool il_draw il_small il_tried il_right il_number il_shifted ifollows il_some_terms il_clause il_follows) (b_k05l_law_14 il_pool il_draw il_small il_tried il_right il_number il_shifted ifollows il_some_terms il_clause il_follows)
def b_k05l_law_12 (il_pool il_draw il_small il_tried il_right il_number il_shifted ifollows il_some_terms il_clause il_follows : Nat) : S := .seq (b_k05l_law_12_a il_pool il_draw il_small il_tried il_right il_number il_shifted ifollows il_some_terms il_clause il_follows) (b_k05l_law_13 il_pool il_draw il_small il_tried il_right il_number il_shifted ifollows il_some_terms il_clause il_follows)
def b_k05l_law_11 (il_pool il_draw il_small il_tried il_right il_number il_shifted ifollows il_some_terms il_clause il_follows : Nat) : S := .seq (b_k05l_law_11_a il_pool il_draw il_small il_tried il_right il_number il_shifted ifollows il_some_terms il_clause il_follows) (b_k05l_law_12 il_pool il_draw il_small il_tried il_right il_number il_shifted ifollows il_some_terms il_clause il_follows)
def b_k05l_law_10 (il_pool il_draw il_small il_tried il_right il_number il_shifted ifollows il_some_terms il_clause il_follows : Nat) : S := .seq (b_k05l_law_10_a il_pool il_draw il_small il_tried il_right il_number il_shifted ifollows il_some_terms il_clause il_follows) (b_k05l_law_11 il_pool il_draw il_small il_tried il_right il_number il_shifted ifollows il_some_terms il_clause il_follows)
def b_k05l_law_9 (il_pool il_draw il_small il_tried il_right il_number il_shifted ifollows il_some_terms il_clause il_follows : Nat) : S := .seq (b_k05l_law_9_a il_pool il_draw il_small il_tried il_right il_number il_shifted ifollows il_some_terms il_clause il_follows) (b_k05l_law_10 il_pool il_draw il_small il_tried il_right il_number il_shifted ifollows il_some_terms il_clause il_follows)
def b_k05l_law_8 (il_pool il_draw il_small il_tried il_right il_number il_shifted ifollows il_some_terms il_clause il_follows : Nat) : S := .seq (b_k05l_law_8_a il_pool il_draw il_small il_tried il_right il_number il_shifted ifollows il_some_terms il_clause il_follows) (b_k05l_law_9 il_pool il_draw il_small il_tried il_right il_number il_shifted ifollows il_some_terms il_clause il_follows)
def b_k05l_law_7 (il_pool il_draw il_small il_tried il_right il_number il_shifted ifollows il_some_terms il_clause il_follows : Nat) : S := .seq (b_k05l_law_7_a il_pool il_draw il_small il_tried il_right il_number il_shifted ifollows il_some_terms il_clause il_follows) (b_k05l_law_8 il_pool il_draw il_small il_tried il_right il_number il_shifted ifollows il_some_terms il_clause il_follows)
def b_k05l_law_6 (il_pool il_draw il_small il_tried il_right il_number il_shifted ifollows il_some_terms il_clause il_follows : Nat) : S := .seq (b_k05l_law_6_a il_pool il_draw il_small il_tried il_right il_number il_shifted ifollows il_some_terms il_clause il_follows) (b_k05l_law_7 il_pool il_draw il_small il_tried il_right il_number il_shifted ifollows il_some_terms il_clause il_follows)
def b_k05l_law_5 (il_pool il_draw il_small il_tried il_right il_number il_shifted ifollows il_some_terms il_clause il_follows : Nat) : S := .seq (b_k05l_law_5_a il_pool il_draw il_small il_tried il_right il_number il_shifted ifollows il_some_terms il_clause il_follows) (b_k05l_law_6 il_pool il_draw il_small il_tried il_right il_number il_shifted ifollows il_some_terms il_clause il_follows)
def b_k05l_law_4 (il_pool il_draw il_small il_tried il_right il_number il_shifted ifollows il_some_terms il_clause il_follows : Nat) : S := .seq (b_k05l_law_4_a il_pool il_draw il_small il_tried il_right il_number il_shifted ifollows il_some_terms il_clause il_follows) (b_k05l_law_5 il_pool il_draw il_small il_tried il_right il_number il_shifted ifollows il_some_terms il_clause il_follows)
def b_k05l_law_3 (il_pool il_draw il_small il_tried il_right il_number il_shifted ifollows il_some_terms il_clause il_follows : Nat) : S := .seq (b_k05l_law_3_a il_pool il_draw il_small il_tried il_right il_number il_shifted ifollows il_some_terms il_clause il_follows) (b_k05l_law_4 il_pool il_draw il_small il_tried il_right il_number il_shifted ifollows il_some_terms il_clause il_follows)
def b_k05l_law_2 (il_pool il_draw il_small il_tried il_right il_number il_shifted ifollows il_some_terms il_clause il_follows : Nat) : S := .seq (b_k05l_law_2_a il_pool il_draw il_small il_tried il_right il_number il_shifted ifollows il_some_terms il_clause il_follows) (b_k05l_law_3 il_pool il_draw il_small il_tried il_right il_number il_shifted ifollows il_some_terms il_clause il_follows)
def b_k05l_law_1 (il_pool il_draw il_small il_tried il_right il_number il_shifted ifollows il_some_terms il_clause il_follows : Nat) : S := .seq (b_k05l_law_1_a il_pool il_draw il_small il_tried il_right il_number il_shifted ifollows il_some_terms il_clause il_follows) (b_k05l_law_2 il_pool il_draw il_small il_tried il_right il_number il_shifted ifollows il_some_terms il_clause il_follows)
def b_k05l_law (il_pool il_draw il_small il_tried il_right il_number il_shifted ifollows il_some_terms il_clause il_follows : Nat) : S := .seq (b_k05l_law_a il_pool il_draw il_small il_tried il_right il_number il_shifted ifollows il_some_terms il_clause il_follows) (b_k05l_law_1 il_pool il_draw il_small il_tried il_right il_number il_shifted ifollows il_some_terms il_clause il_follows)
end PyI
set_option maxHeartbeats 1000000
/-! PyNj: what follows: denials, small spaces. -/
namespace PyI
open PySem PySem.Spec PyProof.Rows L2
def negL (l : L3) : L3 := (l.2.1, l.1, -l.2.2 - 1)
def den (c : List L3) : List (List L3) := c.map fun l => [negL l]
theorem holds_neg {a : Str → Int} {l : L3} : holdsL a (negL l) ↔ ¬ holdsL a l := by
  unfold holdsL negL; constructor <;> intro h <;> simp only at h ⊢ <;> omega
theorem meets_den {a : Str → Int} {c : List L3} : Meets3 a (den c) ↔ ¬ holdsC a c := by
  unfold Meets3 den holdsC
  constructor
  · rintro h ⟨l, h1, h2⟩
    have := h [negL l] (List.mem_map.mpr ⟨l, h1, rfl⟩)
    exact holds_neg.mp (holdsC_one.mp this) h2
  · intro h d hd
    obtain ⟨l, h1, rfl⟩ := List.mem_map.mp hd
    exact holdsC_one.mpr (holds_neg.mpr fun q => h ⟨l, h1, q⟩)
theorem meets_app {a : Str → Int} {cs ds : List (List L3)} : Meets3 a (cs ++ ds) ↔ Meets3 a cs ∧ Meets3 a ds := by
  unfold Meets3
  constructor
  · intro h; exact ⟨fun c hc => h c (by simp [hc]), fun c hc => h c (by simp [hc])⟩
  · rintro ⟨h1, h2⟩ c hc
    rcases List.mem_append.mp hc with q | q
    · exact h1 c q
    · exact h2 c q
/-- no integers meet the facts and miss the clause -/
def Ents (fs : List (List L3)) (c : List L3) : Prop := ∀ a : Str → Int, Meets3 a fs → holdsC a c
theorem ent_iff {fs : List (List L3)} {c : List L3} : Ents fs c ↔ ¬ Sat (fs ++ den c) := by
  unfold Ents Sat
  constructor
  · rintro h ⟨a, ha⟩
    obtain ⟨h1, h2⟩ := meets_app.mp ha
    exact meets_den.mp h2 (h a h1)
  · intro h a ha
    exact Classical.byContradiction fun q => h ⟨a, meets_app.mpr ⟨ha, meets_den.mpr q⟩⟩
theorem den_over {P : List Str} {c : List L3} (h : InP P c) : Over P (den c) := fun d hd => by
  obtain ⟨l, hl, rfl⟩ := List.mem_map.mp hd
  intro m hm
  have : m = negL l := by simpa using hm
  rw [this]
  exact ⟨(h l hl).2, (h l hl).1⟩
theorem den_cls {c : List L3} : Cls (den c) := fun d hd => by
  obtain ⟨l, hl, rfl⟩ := List.mem_map.mp hd
  exact .inl rfl
theorem den_len {c : List L3} : (den c).length = c.length := by unfold den; rw [List.length_map]
theorem den_terms {fs : List (List L3)} {c : List L3} : Tm (fs ++ den c) = Tm (fs ++ [c]) := by
  refine (Tm_eq (Tm_sorted _) (Tm_nodup _) fun x => ?_).symm
  rw [Tm_mem]
  have : x ∈ allT (fs ++ den c) ↔ x ∈ allT (fs ++ [c]) := by
    rw [allT_mem, allT_mem]
    constructor
    · rintro ⟨d, hd, l, hl, hx⟩
      rcases List.mem_append.mp hd with q | q
      · exact ⟨d, by simp [q], l, hl, hx⟩
      · obtain ⟨m, hm, rfl⟩ := List.mem_map.mp q
        have e : l = negL m := by simpa using hl
        subst e
        exact ⟨c, by simp, m, hm, hx.symm⟩
    · rintro ⟨d, hd, l, hl, hx⟩
      rcases List.mem_append.mp hd with q | q
      · exact ⟨d, by simp [q], l, hl, hx⟩
      · have e : d = c := by simpa using q
        subst e
        exact ⟨[negL l], List.mem_append.mpr (.inr (List.mem_map.mpr ⟨l, hl, rfl⟩)), negL l, by simp, hx.symm⟩
  rw [this]
/-! ### three points -/
theorem squeeze (a b : Int) : ∃ c d : Int, (-12 ≤ c ∧ c ≤ 12 ∧ -12 ≤ d ∧ d ≤ 12) ∧ ∀ n : Int, -3 ≤ n → n ≤ 3 →
    (a ≤ n → c ≤ n) ∧ (b ≤ n → d ≤ n) ∧ (-a ≤ n → -c ≤ n) ∧ (-b ≤ n → -d ≤ n) ∧ (a - b ≤ n → c - d ≤ n) ∧ (b - a ≤ n → d - c ≤ n) := by
  have key : ∀ g : Int, 0 ≤ g → ∃ k : Int, 0 ≤ k ∧ k ≤ 3 ∧ k ≤ g ∧ (k = g ∨ k = 3) := fun g hg => by
    by_cases h : g ≤ 3
    · exact ⟨g, by omega, h, by omega, .inl rfl⟩
    · exact ⟨3, by omega, by omega, by omega, .inr rfl⟩
  by_cases h1 : 0 ≤ a <;> by_cases h2 : 0 ≤ b <;> by_cases h3 : a ≤ b
  · obtain ⟨k, k1, k2, k3, k4⟩ := key a h1
    obtain ⟨m, m1, m2, m3, m4⟩ := key (b - a) (by omega)
    exact ⟨k, k + m, by omega, fun n q1 q2 => by omega⟩
  · obtain ⟨k, k1, k2, k3, k4⟩ := key b h2
    obtain ⟨m, m1, m2, m3, m4⟩ := key (a - b) (by omega)
    exact ⟨k + m, k, by omega, fun n q1 q2 => by omega⟩
  · omega
  · obtain ⟨k, k1, k2, k3, k4⟩ := key a h1
    obtain ⟨m, m1, m2, m3, m4⟩ := key (-b) (by omega)
    exact ⟨k, -m, by omega, fun n q1 q2 => by omega⟩
  · obtain ⟨k, k1, k2, k3, k4⟩ := key (-a) (by omega)
    obtain ⟨m, m1, m2, m3, m4⟩ := key b h2
    exact ⟨-k, m, by omega, fun n q1 q2 => by omega⟩
  · omega
  · obtain ⟨k, k1, k2, k3, k4⟩ := key (-b) (by omega)
    obtain ⟨m, m1, m2, m3, m4⟩ := key (b - a) (by omega)
    exact ⟨-k - m, -k, by omega, fun n q1 q2 => by omega⟩
  · obtain ⟨k, k1, k2, k3, k4⟩ := key (-a) (by omega)
    obtain ⟨m, m1, m2, m3, m4⟩ := key (a - b) (by omega)
    exact ⟨-k, -k - m, by omega, fun n q1 q2 => by omega⟩
def sa : Str := PySem.Str.ofString "a"
def sb : Str := PySem.Str.ofString "b"
def ab (a b : Int) : Str → Int := fun x => if x = sa then a else if x = sb then b else 0
theorem ab_e {a b : Int} : ab a b eS = 0 := by unfold ab; rw [if_neg (by decide), if_neg (by decide)]
theorem ab_a {a b : Int} : ab a b sa = a := by unfold ab; rw [if_pos rfl]
theorem ab_b {a b : Int} : ab a b sb = b := by unfold ab; rw [if_neg (by decide), if_pos rfl]
/-- a literal over three terms, its number at most three -/
def SmallL (l : L3) : Prop := l.1 ∈ [eS, sa, sb] ∧ l.2.1 ∈ [eS, sa, sb] ∧ -3 ≤ l.2.2 ∧ l.2.2 ≤ 3
theorem small_sq {v : Str → Int} {c d : Int} (h : ∀ n : Int, -3 ≤ n → n ≤ 3 → (v sa - v eS ≤ n → c ≤ n) ∧ (v sb - v eS ≤ n → d ≤ n) ∧ (-(v sa - v eS) ≤ n → -c ≤ n) ∧ (-(v sb - v eS) ≤ n → -d ≤ n) ∧ (v sa - v eS - (v sb - v eS) ≤ n → c - d ≤ n) ∧ (v sb - v eS - (v sa - v eS) ≤ n → d - c ≤ n))
    {l : L3} (hs : SmallL l) (hl : holdsL v l) : holdsL (ab c d) l := by
  obtain ⟨x, y, n⟩ := l
  obtain ⟨h1, h2, h3, h4⟩ := hs
  simp only at h1 h2 h3 h4
  obtain ⟨q1, q2, q3, q4, q5, q6⟩ := h n h3 h4
  unfold holdsL at hl ⊢
  simp only at hl ⊢
  have ea := ab_a (a := c) (b := d)
  have eb := ab_b (a := c) (b := d)
  have ee := ab_e (a := c) (b := d)
  simp only [List.mem_cons, List.not_mem_nil, or_false] at h1 h2
  rcases h1 with rfl | rfl | rfl <;> rcases h2 with rfl | rfl | rfl <;> simp only [ea, eb, ee] <;> omega
def SmallCs (cs : List (List L3)) : Prop := ∀ c ∈ cs, ∀ l ∈ c, SmallL l
theorem small_sat {cs : List (List L3)} (h : SmallCs cs) : Sat cs ↔ ∃ a b : Int, (-12 ≤ a ∧ a ≤ 12 ∧ -12 ≤ b ∧ b ≤ 12) ∧ Meets3 (ab a b) cs := by
  constructor
  · rintro ⟨v, hv⟩
    obtain ⟨c, d, hb, hq⟩ := squeeze (v sa - v eS) (v sb - v eS)
    refine ⟨c, d, hb, fun cl hcl => ?_⟩
    obtain ⟨l, hl, hh⟩ := hv cl hcl
    exact ⟨l, hl, small_sq hq (h cl hcl l hl) hh⟩
  · rintro ⟨a, b, _, hm⟩; exact ⟨_, hm⟩
end PyI
set_option maxHeartbeats 1000000
/-! PyNk: what follows: the defs. -/
namespace PyI
open PySem PySem.Spec PyProof.Rows L2
def negCl : D → D
  | .tup [.str a, .str b, .int n] => .tup [.tup [.str b, .str a, .int (-n - 1)]]
  | _ => .non
theorem neg_map (c : List L3) : (c.map litD).map negCl = (den c).map clD := by
  unfold den
  rw [List.map_map, List.map_map]; rfl
section
variable {cf : CF} {ineg idec iden iint : Nat}
def NegatedC (c : List Arg → CRes) : Prop := ∀ l : L3, ∃ o, c [.v (litD l)] = .ok (.v (litD (negL l))) o
theorem negated_ok : NegatedC (callBody cf ⟨1, 1, b_negated⟩) := fun l => ⟨_, c_ret (ρ' := [.val (litD l)]) (by
  show evS cf b_negated [.val (litD l)] = _
  simp [b_negated, litD, negL])⟩
def DeniedC (c : List Arg → CRes) : Prop := ∀ cl : List L3, cl.length ≤ 1000 → ∃ o, c [.v (clD cl)] = .ok (.f (csD (den cl))) o
theorem denied_ok (h : NegatedC (cf ineg)) : DeniedC (callBody cf ⟨3, 1, b_denied ineg⟩) := by
  intro cl hl
  have b1 := lc_map (cf := cf) (vs := [1, 2]) (t := .n 2) (it := .iseq (.var 0)) (e := .tup (.acons (.frz (.call ineg (.acons (.frz (.var 2)) .anil))) .anil)) (ρ := [.val (clD cl), .no, .no]) (ρ1 := [.val (clD cl), .no, .no]) (items := cl.map litD)
    negCl (by simp [clD]) rfl (by rw [List.length_map]; omega) fun d hd => by
      obtain ⟨l, hl, rfl⟩ := List.mem_map.mp hd
      obtain ⟨o, e⟩ := h l
      refine ⟨[.val (clD cl), .no, .val (litD l)], [.val (clD cl), .no, .val (litD l)], by simp [wipeR], ?_, rfl, rfl⟩
      simp [e]
      rfl
  rw [neg_map] at b1
  have b1' := b1.trans (show _ = Res.ok (.f (csD (den cl))) [.val (clD cl), .no, .no] from by simp [rst, wipeR, csD])
  refine ⟨_, c_retf (ρ' := [.val (clD cl), .no, .no]) ?_⟩
  show evS cf (b_denied ineg) [.val (clD cl), .no, .no] = _
  unfold b_denied
  generalize (E.lc [1, 2] (.n 2) (.iseq (.var 0)) .tyes (.tup (.acons (.frz (.call ineg (.acons (.frz (.var 2)) .anil))) .anil))) = X at b1' ⊢
  simp [b1']
theorem l_denied_ok : DeniedC (callBody cf ⟨5, 1, b_l_denied⟩) := by
  intro cl hl
  have b1 := lc_map (cf := cf) (vs := [1, 2, 3, 4]) (t := .tup [.n 2, .n 3, .n 4]) (it := .iseq (.var 0)) (e := .tup (.acons (.frz (.tup (.acons (.frz (.var 3)) (.acons (.frz (.var 2)) (.acons (.frz (.bin .sub (.neg (.var 4)) (.cst (.int 1)))) .anil))))) .anil)) (ρ := [.val (clD cl), .no, .no, .no, .no]) (ρ1 := [.val (clD cl), .no, .no, .no, .no]) (items := cl.map litD)
    negCl (by simp [clD]) rfl (by rw [List.length_map]; omega) fun d hd => by
      obtain ⟨l, hl, rfl⟩ := List.mem_map.mp hd
      refine ⟨[.val (clD cl), .no, .val (.str l.1), .val (.str l.2.1), .val (.int l.2.2)], [.val (clD cl), .no, .val (.str l.1), .val (.str l.2.1), .val (.int l.2.2)], by simp [wipeR, litD], ?_, rfl, rfl⟩
      simp [litD, negCl]
  rw [neg_map] at b1
  have b1' := b1.trans (show _ = Res.ok (.f (csD (den cl))) [.val (clD cl), .no, .no, .no, .no] from by simp [rst, wipeR, csD])
  refine ⟨_, c_retf (ρ' := [.val (clD cl), .no, .no, .no, .no]) ?_⟩
  show evS cf b_l_denied [.val (clD cl), .no, .no, .no, .no] = _
  unfold b_l_denied
  generalize (E.lc [1, 2, 3, 4] (.tup [.n 2, .n 3, .n 4]) (.iseq (.var 0)) .tyes (.tup (.acons (.frz (.tup (.acons (.frz (.var 3)) (.acons (.frz (.var 2)) (.acons (.frz (.bin .sub (.neg (.var 4)) (.cst (.int 1)))) .anil))))) .anil))) = X at b1' ⊢
  simp [b1']
theorem csD_add (cs ds : List (List L3)) : csD (cs ++ ds) = .lst (cs.map clD ++ ds.map clD) := by unfold csD; rw [List.map_append]
/-- facts and a clause that are in hand -/
structure InHand (P : List Str) (fs : List (List L3)) (c : List L3) : Prop where
  o : Over P fs
  i : InP P c
  p : P.length ≤ 30
  f : Cls fs
  c : c.length ≤ 2
  n : fs.length ≤ 14
theorem InHand.over {P : List Str} {fs : List (List L3)} {c : List L3} (h : InHand P fs c) : Over P (fs ++ den c) := h.o.add (den_over h.i)
theorem InHand.cls {P : List Str} {fs : List (List L3)} {c : List L3} (h : InHand P fs c) : Cls (fs ++ den c) := h.f.add den_cls
theorem InHand.len {P : List Str} {fs : List (List L3)} {c : List L3} (h : InHand P fs c) : (fs ++ den c).length ≤ 16 := by
  have := h.n; have := h.c
  rw [List.length_append, den_len]; omega
def FollowsC (c : List Arg → CRes) : Prop := ∀ (P : List Str) (fs : List (List L3)) (cl : List L3), InHand P fs cl →
  (∃ w o, c [.v (csD fs), .v (clD cl)] = .ok (.v (valsD (Tm (fs ++ [cl])) w)) o ∧ w eS = 0 ∧ Meets3 w fs ∧ ¬ holdsC w cl) ∨ (∃ o, c [.v (csD fs), .v (clD cl)] = .ok (.v .non) o ∧ Ents fs cl)
theorem follows_ok (hdec : DecC 16 (cf idec)) (hden : DeniedC (cf iden)) : FollowsC (callBody cf ⟨3, 2, b_follows idec iden⟩) := by
  intro P fs cl h
  have hc2 := h.c
  have hn := h.n
  obtain ⟨o1, e1⟩ := hden cl (by omega)
  obtain ⟨d, o2, e2, hT⟩ := hdec (fs ++ den cl) P h.over h.p h.cls (by have := h.len; omega) (mu_bound h.len)
  rw [csD_add] at e2
  have z : fs.length + (den cl).length ≤ 100000 := by rw [den_len]; omega
  have a1 : evS cf (b_follows_a idec iden) [.val (csD fs), .val (clD cl), .no] = .nx [.val (csD fs), .val (clD cl), .val d] := by
    unfold csD at e1 ⊢
    simp [b_follows_a, e1, e2, z]
  rcases hT with ⟨w, rfl, hw, hM⟩ | ⟨t, rfl, hc, _⟩
  · left
    rw [den_terms] at a1
    have a2 : evS cf (b_follows_1 idec iden) [.val (csD fs), .val (clD cl), .val (.tup [.str sMet, valsD (Tm (fs ++ [cl])) w])] = .ret (.v (valsD (Tm (fs ++ [cl])) w)) [.val (csD fs), .val (clD cl), .val (.tup [.str sMet, valsD (Tm (fs ++ [cl])) w])] := by
      simp [b_follows_1, sMet]
    obtain ⟨m1, m2⟩ := meets_app.mp hM
    exact ⟨w, _, c_ret ((s_seq a1).trans a2), hw, m1, meets_den.mp m2⟩
  · right
    have hnm : ¬ (PySem.Str.ofString "none" = PySem.Str.ofString "met") := by decide
    have a2 : evS cf (b_follows_1 idec iden) [.val (csD fs), .val (clD cl), .val (.tup [.str sNone, t])] = .ret (.v .non) [.val (csD fs), .val (clD cl), .val (.tup [.str sNone, t])] := by
      simp [b_follows_1, sNone, hnm]
    exact ⟨_, c_ret ((s_seq a1).trans a2), ent_iff.mpr hc.unsat⟩
def LFollowsC (c : List Arg → CRes) : Prop := ∀ (P : List Str) (fs : List (List L3)) (cl : List L3), InHand P fs cl → ∃ b o, c [.v (csD fs), .v (clD cl)] = .ok (.v (.bl b)) o ∧ (b = true ↔ Ents fs cl)
theorem l_follows_ok (hint : IntegersC 16 (cf iint)) (hden : DeniedC (cf iden)) : LFollowsC (callBody cf ⟨2, 2, b_l_follows iint iden⟩) := by
  intro P fs cl h
  have hc2 := h.c
  have hn := h.n
  obtain ⟨o1, e1⟩ := hden cl (by omega)
  have z : fs.length + (den cl).length ≤ 100000 := by rw [den_len]; omega
  rcases hint (fs ++ den cl) P h.over h.p h.cls (by have := h.len; omega) (Nat.le_trans (List.length_filter_le ..) h.len) with ⟨kvs, o, e, hs⟩ | ⟨o, e, hs⟩
  · rw [csD_add] at e
    refine ⟨false, _, c_ret (ρ' := [.val (csD fs), .val (clD cl)]) ?_, by rw [ent_iff]; simp [hs]⟩
    show evS cf (b_l_follows iint iden) [.val (csD fs), .val (clD cl)] = _
    unfold csD at e1 ⊢
    simp [b_l_follows, e1, e, z]
  · rw [csD_add] at e
    refine ⟨true, _, c_ret (ρ' := [.val (csD fs), .val (clD cl)]) ?_, by rw [ent_iff]; simp [hs]⟩
    show evS cf (b_l_follows iint iden) [.val (csD fs), .val (clD cl)] = _
    unfold csD at e1 ⊢
    simp [b_l_follows, e1, e, z]
/-! ### right -/
variable {ifol it iw ih : Nat}
def Right5C (c : List Arg → CRes) : Prop := ∀ (P : List Str) (fs : List (List L3)) (cl : List L3) (b : Bool), InHand P fs cl → (cl.length = 1 ∨ cl.length = 2) → (b = true ↔ Ents fs cl) → ∃ o, c [.v (csD fs), .v (clD cl), .v (.bl b)] = .ok (.v (.bl true)) o
theorem right5_ok (hf : FollowsC (cf ifol)) (ht : TermsOfC (cf it)) (hw : IntC (cf iw)) (hh : LHC (cf ih)) : Right5C (callBody cf ⟨7, 3, b_k05l_right ifol it iw ih⟩) := by
  intro P fs cl b hP hcl hb
  have hn := hP.n
  rcases hf P fs cl hP with ⟨w, o1, e1, w0, hM, hN⟩ | ⟨o1, e1, hE⟩
  · have hbf : b = false := by
      cases hbb : b with
      | false => rfl
      | true => exact absurd (hb.mp hbb w hM) hN
    subst hbf
    have hO : Over P (fs ++ [cl]) := hP.o.add (.one hP.i)
    have hC : Cls (fs ++ [cl]) := hP.f.add (.one hcl)
    obtain ⟨o2, e2⟩ := ht (fs ++ [cl]) P hO hP.p hC (by simp; omega)
    rw [csD_add] at e2
    have hin : ∀ c ∈ fs ++ [cl], ∀ l ∈ c, (l.1 ∈ Tm (fs ++ [cl]) ∨ l.1 = eS) ∧ (l.2.1 ∈ Tm (fs ++ [cl]) ∨ l.2.1 = eS) := fun c hc l hl => by
      have i1 := in_T (allT_mem.mpr ⟨c, hc, l, hl, .inl rfl⟩)
      have i2 := in_T (allT_mem.mpr ⟨c, hc, l, hl, .inr rfl⟩)
      exact ⟨by simpa using i1, by simpa using i2⟩
    have hTl := Tm_len hO
    have hp30 := hP.p
    generalize Tm (fs ++ [cl]) = T at e1 e2 hin hTl
    have hkeys := tab_keys (K := T) (f := fun z => .int (w z))
    have hq : eqvL (T.map D.str) (T.map D.str) = some true := by rw [eqvL_strs]; simp
    have hdp := depL_strs T
    have hnd := nodL_strs T
    have z : fs.length + 1 ≤ 100000 := by omega
    have a1 : evS cf (b_k05l_right_a ifol it iw ih) [.val (csD fs), .val (clD cl), .val (.bl false), .no, .no, .no, .no] = .nx [.val (csD fs), .val (clD cl), .val (.bl false), .val (valsD T w), .no, .no, .no] := by
      unfold csD at e1 ⊢
      simp [b_k05l_right_a, e1]
    have a2 : evS cf (b_k05l_right_1_a ifol it iw ih) [.val (csD fs), .val (clD cl), .val (.bl false), .val (valsD T w), .no, .no, .no] = .nx [.val (csD fs), .val (clD cl), .val (.bl false), .val (valsD T w), .no, .no, .no] := by
      simp [b_k05l_right_1_a, valsD, eqF]
    have a3 : evS cf (b_k05l_right_2_a ifol it iw ih) [.val (csD fs), .val (clD cl), .val (.bl false), .val (valsD T w), .no, .no, .no] = .nx [.val (csD fs), .val (clD cl), .val (.bl false), .val (valsD T w), .no, .no, .no] := by
      simp [b_k05l_right_2_a]
    have a4 : evS cf (b_k05l_right_3_a ifol it iw ih) [.val (csD fs), .val (clD cl), .val (.bl false), .val (valsD T w), .no, .no, .no] = .nx [.val (csD fs), .val (clD cl), .val (.bl false), .val (valsD T w), .no, .no, .no] := by
      have e2' : cf it [.v (.lst (fs.map clD ++ [clD cl]))] = .ok (.f (.lst (T.map .str))) o2 := e2
      unfold csD
      simp [b_k05l_right_3_a, valsD, e2', hkeys, hq, hdp, hnd, z]
    have b1 := lc_filt (cf := cf) (vs := [4, 5]) (t := .n 5) (it := .iseq (.var 3)) (c := .tnot (.tt (.call iw (.acons (.frz (.sub (.var 3) (.var 5))) .anil)))) (e := .var 5) (ρ := [.val (csD fs), .val (clD cl), .val (.bl false), .val (valsD T w), .no, .no, .no]) (ρ1 := [.val (csD fs), .val (clD cl), .val (.bl false), .val (valsD T w), .no, .no, .no]) (items := T.map D.str)
      (fun _ => false) (fun d => d) (by simp [valsD, hkeys]) rfl (by rw [List.length_map]; omega) fun d hd => by
        obtain ⟨x, hx, rfl⟩ := List.mem_map.mp hd
        have lx := look_tab (f := fun z => .int (w z)) hx
        obtain ⟨o, e⟩ := hw (.int (w x)) rfl
        refine ⟨[.val (csD fs), .val (clD cl), .val (.bl false), .val (valsD T w), .no, .val (.str x), .no], [.val (csD fs), .val (clD cl), .val (.bl false), .val (valsD T w), .no, .val (.str x), .no], by simp [wipeR], ?_, (fun h => by cases h), fun _ => ⟨rfl, rfl⟩⟩
        simp [valsD, lx, e]
    have hff : (T.map D.str).filter (fun _ => false) = [] := by simp
    rw [hff] at b1
    have b1' := b1.trans (show _ = Res.ok (.f (.lst [])) [.val (csD fs), .val (clD cl), .val (.bl false), .val (valsD T w), .no, .no, .no] from by simp [rst, wipeR])
    have a5 : evS cf (b_k05l_right_4_a ifol it iw ih) [.val (csD fs), .val (clD cl), .val (.bl false), .val (valsD T w), .no, .no, .no] = .nx [.val (csD fs), .val (clD cl), .val (.bl false), .val (valsD T w), .no, .no, .no] := by
      unfold b_k05l_right_4_a
      generalize (E.lc [4, 5] (.n 5) (.iseq (.var 3)) (.tnot (.tt (.call iw (.acons (.frz (.sub (.var 3) (.var 5))) .anil)))) (.var 5)) = X at b1' ⊢
      simp [b1']
    have b2 := lc_filt (cf := cf) (vs := [4, 6]) (t := .n 6) (it := .iseq (.var 0)) (c := .tnot (.tt (.call ih (.acons (.frz (.var 6)) (.acons (.frz (.var 3)) .anil))))) (e := .var 6) (ρ := [.val (csD fs), .val (clD cl), .val (.bl false), .val (valsD T w), .no, .no, .no]) (ρ1 := [.val (csD fs), .val (clD cl), .val (.bl false), .val (valsD T w), .no, .no, .no]) (items := fs.map clD)
      (fun _ => false) (fun d => d) (by simp [csD]) rfl (by rw [List.length_map]; omega) fun d hd => by
        obtain ⟨c, hc, rfl⟩ := List.mem_map.mp hd
        obtain ⟨o, e⟩ := hh c T w w0 (hin c (by simp [hc]))
        rw [decide_eq_true (hM c hc)] at e
        refine ⟨[.val (csD fs), .val (clD cl), .val (.bl false), .val (valsD T w), .no, .no, .val (clD c)], [.val (csD fs), .val (clD cl), .val (.bl false), .val (valsD T w), .no, .no, .val (clD c)], by simp [wipeR], ?_, (fun h => by cases h), fun _ => ⟨rfl, rfl⟩⟩
        simp [e]
    have hff2 : (fs.map clD).filter (fun _ => false) = [] := by simp
    rw [hff2] at b2
    have b2' := b2.trans (show _ = Res.ok (.f (.lst [])) [.val (csD fs), .val (clD cl), .val (.bl false), .val (valsD T w), .no, .no, .no] from by simp [rst, wipeR])
    obtain ⟨o7, e7⟩ := hh cl T w w0 (hin cl (by simp))
    rw [decide_eq_false hN] at e7
    have a6 : evS cf (b_k05l_right_5 ifol it iw ih) [.val (csD fs), .val (clD cl), .val (.bl false), .val (valsD T w), .no, .no, .no] = .ret (.v (.bl true)) [.val (csD fs), .val (clD cl), .val (.bl false), .val (valsD T w), .no, .no, .no] := by
      unfold b_k05l_right_5
      generalize (E.lc [4, 6] (.n 6) (.iseq (.var 0)) (.tnot (.tt (.call ih (.acons (.frz (.var 6)) (.acons (.frz (.var 3)) .anil))))) (.var 6)) = X at b2' ⊢
      simp [b2', e7]
    exact ⟨_, c_ret ((s_seq a1).trans ((s_seq a2).trans ((s_seq a3).trans ((s_seq a4).trans ((s_seq a5).trans a6)))))⟩
  · have hbt : b = true := hb.mpr hE
    subst hbt
    have a1 : evS cf (b_k05l_right_a ifol it iw ih) [.val (csD fs), .val (clD cl), .val (.bl true), .no, .no, .no, .no] = .nx [.val (csD fs), .val (clD cl), .val (.bl true), .val .non, .no, .no, .no] := by
      unfold csD at e1 ⊢
      simp [b_k05l_right_a, e1]
    have a2 : evS cf (b_k05l_right_1_a ifol it iw ih) [.val (csD fs), .val (clD cl), .val (.bl true), .val .non, .no, .no, .no] = .nx [.val (csD fs), .val (clD cl), .val (.bl true), .val .non, .no, .no, .no] := by
      simp [b_k05l_right_1_a, eqF]
    have a3 : evS cf (b_k05l_right_2_a ifol it iw ih) [.val (csD fs), .val (clD cl), .val (.bl true), .val .non, .no, .no, .no] = .ret (.v (.bl true)) [.val (csD fs), .val (clD cl), .val (.bl true), .val .non, .no, .no, .no] := by
      simp [b_k05l_right_2_a]
    exact ⟨_, c_ret ((s_seq a1).trans ((s_seq a2).trans (s_ret a3)))⟩
end
end PyI
set_option maxHeartbeats 1000000
/-! PyNl: small clauses, tried, shifted. -/
namespace PyI
open PySem PySem.Spec PyProof.Rows L2
def P3 : List Str := [eS, sa, sb]
def Tiny (c : List L3) : Prop := (c.length = 1 ∨ c.length = 2) ∧ InP P3 c ∧ ∀ l ∈ c, -2 ≤ l.2.2 ∧ l.2.2 ≤ 2
theorem tiny_small {fs : List (List L3)} {c : List L3} (hf : ∀ f ∈ fs, Tiny f) (hc : Tiny c) : SmallCs (fs ++ den c) := fun d hd l hl => by
  rcases List.mem_append.mp hd with q | q
  · obtain ⟨h1, h2⟩ := (hf d q).2.1 l hl
    obtain ⟨h3, h4⟩ := (hf d q).2.2 l hl
    exact ⟨h1, h2, by omega, by omega⟩
  · obtain ⟨m, hm, rfl⟩ := List.mem_map.mp q
    have e : l = negL m := by simpa using hl
    subst e
    obtain ⟨h1, h2⟩ := hc.2.1 m hm
    obtain ⟨h3, h4⟩ := hc.2.2 m hm
    refine ⟨h2, h1, ?_, ?_⟩ <;> (show _; simp only [negL]; omega)
section
variable {cf : CF} {fp fd ih : Nat}
theorem small_loop (hd : DrawOk (cf fd)) (hp : PickL (cf fp)) {k : D} : ∀ (items : List D) (p : D) (c : List L3) (j4 : J), IsPool p → (InP P3 c ∧ ∀ l ∈ c, -2 ≤ l.2.2 ∧ l.2.2 ≤ 2) → c.length + items.length ≤ 1000 →
    ∃ (p' : D) (c' : List L3) (j4' : J), forL (.n 4) (evS cf (b_l_small_1_ab fp fd)) items [.own true p, .val (.lst (P3.map .str)), .val k, .own false (.lst (c.map litD)), j4.s] = .nx [.own true p', .val (.lst (P3.map .str)), .val k, .own false (.lst (c'.map litD)), j4'.s] ∧ IsPool p' ∧ (InP P3 c' ∧ ∀ l ∈ c', -2 ≤ l.2.2 ∧ l.2.2 ≤ 2) ∧ c'.length = c.length + items.length
  | [], p, c, j4, h0, h, _ => ⟨p, c, j4, rfl, h0, h, rfl⟩
  | d :: items, p, c, j4, h0, h, hl => by
    simp only [List.length_cons] at hl
    obtain ⟨x, p1, e1, h1, hx⟩ := hp p P3 h0 (by decide) (by decide)
    obtain ⟨y, p2, e2, h2, hy⟩ := hp p1 P3 h1 (by decide) (by decide)
    obtain ⟨r, p3, e3, h3, g1, g2⟩ := hd p2 5 h2 (by decide) (by decide)
    have ha : asgT (.n 4) d [.own true p, .val (.lst (P3.map .str)), .val k, .own false (.lst (c.map litD)), j4.s] = some [.own true p, .val (.lst (P3.map .str)), .val k, .own false (.lst (c.map litD)), .val d] := by simp
    have z : c.length ≤ 100000 := by omega
    have a1 : evS cf (b_l_small_1_ab fp fd) [.own true p, .val (.lst (P3.map .str)), .val k, .own false (.lst (c.map litD)), .val d] = .nx [.own true p3, .val (.lst (P3.map .str)), .val k, .own false (.lst ((c ++ [(x, y, r - 2)]).map litD)), .val d] := by
      generalize P3.map D.str = ps at e1 e2 ⊢
      simp [b_l_small_1_ab, e1, e2, e3, z, litD]
    obtain ⟨p', c', j4', e, q1, q2, q3⟩ := small_loop hd hp items p3 (c ++ [(x, y, r - 2)]) (.v d) h3 ⟨fun l hl => by
      rcases List.mem_append.mp hl with w | w
      · exact h.1 l w
      · have : l = (x, y, r - 2) := by simpa using w
        rw [this]; exact ⟨hx, hy⟩, fun l hl => by
      rcases List.mem_append.mp hl with w | w
      · exact h.2 l w
      · have : l = (x, y, r - 2) := by simpa using w
        rw [this]; exact ⟨by show -2 ≤ r - 2; omega, by show r - 2 ≤ 2; omega⟩⟩ (by simp; omega)
    refine ⟨p', c', j4', ?_, q1, q2, by rw [q3]; simp; omega⟩
    rw [forL, ha]
    simp only [a1]
    exact e
def SmallC5 (c : List Arg → CRes) : Prop := ∀ (p : D) (k : Int), IsPool p → ∃ cl p', c [.r p, .v (.lst (P3.map .str)), .v (.int k)] = .ok (.v (clD cl)) [p', .non, .non] ∧ IsPool p' ∧ Tiny cl
theorem small_ok (hd : DrawOk (cf fd)) (hp : PickL (cf fp)) : SmallC5 (callBody cf ⟨5, 3, b_l_small fp fd⟩) := by
  intro p k h0
  have a1 : evS cf (b_l_small_a fp fd) [.own true p, .val (.lst (P3.map .str)), .val (.int k), .no, .no] = .nx [.own true p, .val (.lst (P3.map .str)), .val (.int k), .own false (.lst (([] : List L3).map litD)), .no] := by simp [b_l_small_a]
  have hit : evI cf (.irng (.cst (.int 2))) [.own true p, .val (.lst (P3.map .str)), .val (.int k), .own false (.lst (([] : List L3).map litD)), .no] = .ok ((List.range 2).map fun (i : Nat) => D.int (0 + (i : Int))) [.own true p, .val (.lst (P3.map .str)), .val (.int k), .own false (.lst (([] : List L3).map litD)), .no] := ev_rng (n := 2) (op := .v (.int 2)) rfl rfl (by omega)
  obtain ⟨p1, c, j4, e1, h1, h2, h3⟩ := small_loop (cf := cf) (fd := fd) (fp := fp) (k := .int k) hd hp ((List.range 2).map fun (i : Nat) => D.int (0 + (i : Int))) p [] .no h0 ⟨(fun l hl => by cases hl), (fun l hl => by cases hl)⟩ (by simp)
  have hc2 : c.length = 2 := by rw [h3]; simp
  have a2 : evS cf (b_l_small_1_a fp fd) [.own true p, .val (.lst (P3.map .str)), .val (.int k), .own false (.lst (([] : List L3).map litD)), .no] = _ := (s_for hit).trans e1
  obtain ⟨r, p2, e2, h4, _, _⟩ := hd p1 4 h1 (by decide) (by decide)
  match c, hc2 with
  | [l, m], _ =>
  by_cases hr : r < k
  · have hcut : cutD [litD l, litD m] none (some 2) = [litD l, litD m] := rfl
    have a3 : evS cf (b_l_small_2 fp fd) [.own true p1, .val (.lst (P3.map .str)), .val (.int k), .own false (.lst ([l, m].map litD)), j4.s] = .ret (.v (clD [l, m])) [.own true p2, .val (.lst (P3.map .str)), .val (.int k), .own false (.lst ([l, m].map litD)), j4.s] := by
      simp [b_l_small_2, e2, hr, hcut, clD]
    exact ⟨[l, m], p2, c_ret (ρ' := [.own true p2, .val (.lst (P3.map .str)), .val (.int k), .own false (.lst ([l, m].map litD)), j4.s]) ((s_seq a1).trans ((s_seq a2).trans a3)), h4, .inr rfl, h2⟩
  · have a3 : evS cf (b_l_small_2 fp fd) [.own true p1, .val (.lst (P3.map .str)), .val (.int k), .own false (.lst ([l, m].map litD)), j4.s] = .ret (.v (clD [l])) [.own true p2, .val (.lst (P3.map .str)), .val (.int k), .own false (.lst ([l, m].map litD)), j4.s] := by
      simp [b_l_small_2, e2, hr, cut_one, clD]
    exact ⟨[l], p2, c_ret (ρ' := [.own true p2, .val (.lst (P3.map .str)), .val (.int k), .own false (.lst ([l, m].map litD)), j4.s]) ((s_seq a1).trans ((s_seq a2).trans a3)), h4, .inl rfl, (fun x hx => h2.1 x (by simp at hx; simp [hx])), (fun x hx => h2.2 x (by simp at hx; simp [hx]))⟩
/-! ### tried -/
def badAt (fs : List (List L3)) (c : List L3) (a b : Int) : Prop := ¬ holdsC (ab a b) c ∧ Meets3 (ab a b) fs
def okAt (fs : List (List L3)) (c : List L3) (a b : Int) : Bool := decide (holdsC (ab a b) c) || !(fs.all fun f => decide (holdsC (ab a b) f))
theorem okAt_iff {fs : List (List L3)} {c : List L3} {a b : Int} : okAt fs c a b = true ↔ ¬ badAt fs c a b := by
  unfold okAt badAt Meets3
  simp only [Bool.or_eq_true, decide_eq_true_eq, Bool.not_eq_true', List.all_eq_false, decide_eq_false_iff_not]
  constructor
  · rintro (h | ⟨f, hf, h⟩) ⟨h1, h2⟩
    · exact h1 h
    · exact h (by simpa using h2 f hf)
  · intro h
    by_cases h1 : holdsC (ab a b) c
    · exact .inl h1
    · right
      refine Classical.byContradiction fun q => h ⟨h1, fun f hf => Classical.byContradiction fun z => q ⟨f, hf, by simpa using z⟩⟩
theorem abD {a b : Int} : mergeD [(Sum.inr (PySem.Str.ofString "a"), D.int a), (Sum.inr (PySem.Str.ofString "b"), D.int b)] = tabD [sa, sb] (fun x => .int (ab a b x)) := by
  have h : tabD [sa, sb] (fun x => .int (ab a b x)) = [(.inr sa, .int a), (.inr sb, .int b)] := by
    show [(Sum.inr sa, D.int (ab a b sa)), (Sum.inr sb, D.int (ab a b sb))] = _
    rw [ab_a, ab_b]
  rw [h]; rfl
theorem tried_one (hh : LHC (cf ih)) {fs : List (List L3)} {c : List L3} (hf : Over P3 fs) (hc : InP P3 c) (hl : fs.length ≤ 1000) {a b : Int} {j4 : J} :
    (okAt fs c a b = true → ∃ j4' : J, evS cf (b_l_tried_abb ih) [.val (csD fs), .val (clD c), .val (.int a), .val (.int b), j4.s, .no, .no] = .nx [.val (csD fs), .val (clD c), .val (.int a), .val (.int b), j4'.s, .no, .no]) ∧
    (okAt fs c a b = false → ∃ ρ', evS cf (b_l_tried_abb ih) [.val (csD fs), .val (clD c), .val (.int a), .val (.int b), j4.s, .no, .no] = .ret (.v (.bl false)) ρ') := by
  have in3 : ∀ x, x ∈ P3 → x ∈ [sa, sb] ∨ x = eS := fun x hx => by
    unfold P3 at hx
    simp only [List.mem_cons, List.not_mem_nil, or_false] at hx ⊢
    rcases hx with h | h | h
    · exact .inr h
    · exact .inl (.inl h)
    · exact .inl (.inr h)
  have hin : ∀ d : List L3, InP P3 d → ∀ l ∈ d, (l.1 ∈ [sa, sb] ∨ l.1 = eS) ∧ (l.2.1 ∈ [sa, sb] ∨ l.2.1 = eS) := fun d hd l hl => ⟨in3 _ (hd l hl).1, in3 _ (hd l hl).2⟩
  have a1 : evS cf (b_l_tried_abb_a ih) [.val (csD fs), .val (clD c), .val (.int a), .val (.int b), j4.s, .no, .no] = .nx [.val (csD fs), .val (clD c), .val (.int a), .val (.int b), .own false (valsD [sa, sb] (ab a b)), .no, .no] := by
    unfold valsD
    rw [← abD]
    simp [b_l_tried_abb_a]
  obtain ⟨o1, e1⟩ := hh c [sa, sb] (ab a b) ab_e (hin c hc)
  by_cases hcc : holdsC (ab a b) c
  · rw [decide_eq_true hcc] at e1
    refine ⟨fun _ => ⟨.v (valsD [sa, sb] (ab a b)), (s_seq a1).trans ?_⟩, fun z => by unfold okAt at z; rw [decide_eq_true hcc] at z; cases z⟩
    simp [b_l_tried_abb_1, e1]
    rfl
  · rw [decide_eq_false hcc] at e1
    have b1 := lc_filt (cf := cf) (vs := [5, 6]) (t := .n 6) (it := .iseq (.var 0)) (c := .tnot (.tt (.call ih (.acons (.frz (.var 6)) (.acons (.frz (.var 4)) .anil))))) (e := .var 6) (ρ := [.val (csD fs), .val (clD c), .val (.int a), .val (.int b), .val (valsD [sa, sb] (ab a b)), .no, .no]) (ρ1 := [.val (csD fs), .val (clD c), .val (.int a), .val (.int b), .val (valsD [sa, sb] (ab a b)), .no, .no]) (items := fs.map clD)
      (fun d => !(holdsD (ab a b) d)) (fun d => d) (by simp [csD]) rfl (by rw [List.length_map]; omega) fun d hd => by
        obtain ⟨f, hf', rfl⟩ := List.mem_map.mp hd
        obtain ⟨o2, e2⟩ := hh f [sa, sb] (ab a b) ab_e (hin f (hf f hf'))
        refine ⟨[.val (csD fs), .val (clD c), .val (.int a), .val (.int b), .val (valsD [sa, sb] (ab a b)), .no, .val (clD f)], [.val (csD fs), .val (clD c), .val (.int a), .val (.int b), .val (valsD [sa, sb] (ab a b)), .no, .val (clD f)], by simp [wipeR], ?_, fun _ => ⟨[.val (csD fs), .val (clD c), .val (.int a), .val (.int b), .val (valsD [sa, sb] (ab a b)), .no, .val (clD f)], by simp, rfl, rfl⟩, fun _ => ⟨rfl, rfl⟩⟩
        rw [holdsD_cl]
        simp [e2]
    rw [List.map_id'] at b1
    have b1' := b1.trans (show _ = Res.ok (.f (.lst ((fs.map clD).filter fun d => !(holdsD (ab a b) d)))) [.val (csD fs), .val (clD c), .val (.int a), .val (.int b), .val (valsD [sa, sb] (ab a b)), .no, .no] from by simp [rst, wipeR])
    have hfil : ((fs.map clD).filter fun d => !(holdsD (ab a b) d)) = (fs.filter fun f => !(decide (holdsC (ab a b) f))).map clD := by
      rw [List.filter_map]
      congr 1
      refine List.filter_congr fun f _ => ?_
      show (!(holdsD (ab a b) (clD f))) = _
      rw [holdsD_cl]
    rw [hfil] at b1'
    by_cases hF : (fs.filter fun f => !(decide (holdsC (ab a b) f))) = []
    · have hok : okAt fs c a b = false := by
        unfold okAt
        rw [decide_eq_false hcc, Bool.false_or]
        rw [List.filter_eq_nil_iff] at hF
        have : (fs.all fun f => decide (holdsC (ab a b) f)) = true := by
          rw [List.all_eq_true]; intro f hf; simpa using hF f hf
        rw [this]; rfl
      refine ⟨(fun z => by rw [hok] at z; cases z), fun _ => ⟨[.val (csD fs), .val (clD c), .val (.int a), .val (.int b), .val (valsD [sa, sb] (ab a b)), .no, .no], (s_seq a1).trans ?_⟩⟩
      rw [hF] at b1'
      unfold b_l_tried_abb_1
      generalize (E.lc [5, 6] (.n 6) (.iseq (.var 0)) (.tnot (.tt (.call ih (.acons (.frz (.var 6)) (.acons (.frz (.var 4)) .anil))))) (.var 6)) = X at b1' ⊢
      simp [e1, b1']
    · have hok : okAt fs c a b = true := by
        unfold okAt
        rw [Bool.or_eq_true]
        right
        rw [Bool.not_eq_true', List.all_eq_false]
        obtain ⟨f, hfm⟩ := List.exists_mem_of_ne_nil _ hF
        obtain ⟨q1, q2⟩ := List.mem_filter.mp hfm
        exact ⟨f, q1, by simpa using q2⟩
      refine ⟨fun _ => ⟨.v (valsD [sa, sb] (ab a b)), (s_seq a1).trans ?_⟩, fun z => by rw [hok] at z; cases z⟩
      generalize (fs.filter fun f => !(decide (holdsC (ab a b) f))) = F at b1' hF
      unfold b_l_tried_abb_1
      generalize (E.lc [5, 6] (.n 6) (.iseq (.var 0)) (.tnot (.tt (.call ih (.acons (.frz (.var 6)) (.acons (.frz (.var 4)) .anil))))) (.var 6)) = X at b1' ⊢
      have hFl : ¬ ((F.length : Int) = 0) := fun z => hF (List.eq_nil_of_length_eq_zero (by omega))
      simp [e1, b1', hF]
      rfl
def rngB : List D := (List.range 25).map fun (k : Nat) => D.int (-12 + (k : Int))
theorem rngB_mem {d : D} : d ∈ rngB ↔ ∃ a : Int, d = .int a ∧ -12 ≤ a ∧ a ≤ 12 := by
  unfold rngB
  constructor
  · intro h
    obtain ⟨k, hk, rfl⟩ := List.mem_map.mp h
    have := List.mem_range.mp hk
    exact ⟨-12 + (k : Int), rfl, by omega, by omega⟩
  · rintro ⟨a, rfl, h1, h2⟩
    exact List.mem_map.mpr ⟨(a + 12).toNat, List.mem_range.mpr (by omega), by congr 1; omega⟩
def intOf : D → Int
  | .int a => a
  | _ => 0
def TriedC (c : List Arg → CRes) : Prop := ∀ (fs : List (List L3)) (cl : List L3), (∀ f ∈ fs, Tiny f) → Tiny cl → fs.length ≤ 1000 → ∃ b o, c [.v (csD fs), .v (clD cl)] = .ok (.v (.bl b)) o ∧ (b = true ↔ Ents fs cl)
theorem tried_ok (hh : LHC (cf ih)) : TriedC (callBody cf ⟨7, 2, b_l_tried ih⟩) := by
  intro fs c hf hc hl
  have hO : Over P3 fs := fun f h => (hf f h).2.1
  have hall : (∀ a b : Int, -12 ≤ a → a ≤ 12 → -12 ≤ b → b ≤ 12 → okAt fs c a b = true) ↔ Ents fs c := by
    rw [ent_iff, small_sat (tiny_small hf hc)]
    constructor
    · rintro h ⟨a, b, ⟨h1, h2, h3, h4⟩, hm⟩
      obtain ⟨m1, m2⟩ := meets_app.mp hm
      exact okAt_iff.mp (h a b h1 h2 h3 h4) ⟨meets_den.mp m2, m1⟩
    · intro h a b h1 h2 h3 h4
      exact okAt_iff.mpr fun ⟨q1, q2⟩ => h ⟨a, b, ⟨h1, h2, h3, h4⟩, meets_app.mpr ⟨q2, meets_den.mpr q1⟩⟩
  have hrng : ∀ ρ : Env, evI cf (.irng2 (.neg (.cst (.int 12))) (.cst (.int 13))) ρ = .ok rngB ρ := fun ρ => rfl
  have hrowE : ∀ (a : Int) (j3 j4 : J), (rngB.all (fun d => okAt fs c a (intOf d)) = true ∧ ∃ j3' j4' : J, evS cf (b_l_tried_ab ih) [.val (csD fs), .val (clD c), .val (.int a), j3.s, j4.s, .no, .no] = .nx [.val (csD fs), .val (clD c), .val (.int a), j3'.s, j4'.s, .no, .no]) ∨
      (rngB.all (fun d => okAt fs c a (intOf d)) = false ∧ ∃ ρ', evS cf (b_l_tried_ab ih) [.val (csD fs), .val (clD c), .val (.int a), j3.s, j4.s, .no, .no] = .ret (.v (.bl false)) ρ') := fun a j3 j4 => by
    have key : ∀ (items : List D) (j3 j4 : J), (∀ d ∈ items, ∃ b : Int, d = .int b) → (items.all (fun d => okAt fs c a (intOf d)) = true ∧ ∃ j3' j4' : J, forL (.n 3) (evS cf (b_l_tried_abb ih)) items [.val (csD fs), .val (clD c), .val (.int a), j3.s, j4.s, .no, .no] = .nx [.val (csD fs), .val (clD c), .val (.int a), j3'.s, j4'.s, .no, .no]) ∨
        (items.all (fun d => okAt fs c a (intOf d)) = false ∧ ∃ ρ', forL (.n 3) (evS cf (b_l_tried_abb ih)) items [.val (csD fs), .val (clD c), .val (.int a), j3.s, j4.s, .no, .no] = .ret (.v (.bl false)) ρ') := fun items => by
      induction items with
      | nil => intro j3 j4 _; exact .inl ⟨rfl, j3, j4, rfl⟩
      | cons d items ih' =>
        intro j3 j4 hi
        obtain ⟨b, rfl⟩ := hi d (by simp)
        have ha : asgT (.n 3) (.int b) [.val (csD fs), .val (clD c), .val (.int a), j3.s, j4.s, .no, .no] = some [.val (csD fs), .val (clD c), .val (.int a), .val (.int b), j4.s, .no, .no] := by simp
        obtain ⟨t1, t2⟩ := tried_one (j4 := j4) hh hO hc.2.1 hl (a := a) (b := b)
        cases hok : okAt fs c a b with
        | true =>
          obtain ⟨j4', e⟩ := t1 hok
          rcases ih' (.v (.int b)) j4' (fun d hd => hi d (by simp [hd])) with ⟨q1, k3, k4, q2⟩ | ⟨q1, ρ', q2⟩
          · exact .inl ⟨by rw [List.all_cons, q1]; show (okAt fs c a b && true) = true; rw [hok]; rfl, k3, k4, by simp only [forL, ha, e]; exact q2⟩
          · exact .inr ⟨by rw [List.all_cons, q1, Bool.and_false], ρ', by simp only [forL, ha, e]; exact q2⟩
        | false =>
          obtain ⟨ρ', e⟩ := t2 hok
          exact .inr ⟨by rw [List.all_cons]; show (okAt fs c a b && _) = false; rw [hok]; rfl, ρ', by simp only [forL, ha, e]⟩
    have hr : ∀ d ∈ rngB, ∃ b : Int, d = .int b := fun d hd => by
      obtain ⟨a, e, _⟩ := rngB_mem.mp hd
      exact ⟨a, e⟩
    rcases key rngB j3 j4 hr with ⟨q1, k3, k4, q2⟩ | ⟨q1, ρ', q2⟩
    · exact .inl ⟨q1, k3, k4, (s_for (hrng _)).trans q2⟩
    · exact .inr ⟨q1, ρ', (s_for (hrng _)).trans q2⟩
  have key2 : ∀ (items : List D) (j2 j3 j4 : J), (∀ d ∈ items, ∃ a : Int, d = .int a) → (items.all (fun e => rngB.all (fun d => okAt fs c (intOf e) (intOf d))) = true ∧ ∃ j2' j3' j4' : J, forL (.n 2) (evS cf (b_l_tried_ab ih)) items [.val (csD fs), .val (clD c), j2.s, j3.s, j4.s, .no, .no] = .nx [.val (csD fs), .val (clD c), j2'.s, j3'.s, j4'.s, .no, .no]) ∨
      (items.all (fun e => rngB.all (fun d => okAt fs c (intOf e) (intOf d))) = false ∧ ∃ ρ', forL (.n 2) (evS cf (b_l_tried_ab ih)) items [.val (csD fs), .val (clD c), j2.s, j3.s, j4.s, .no, .no] = .ret (.v (.bl false)) ρ') := fun items => by
    induction items with
    | nil => intro j2 j3 j4 _; exact .inl ⟨rfl, j2, j3, j4, rfl⟩
    | cons d items ih' =>
      intro j2 j3 j4 hi
      obtain ⟨a, rfl⟩ := hi d (by simp)
      have ha : asgT (.n 2) (.int a) [.val (csD fs), .val (clD c), j2.s, j3.s, j4.s, .no, .no] = some [.val (csD fs), .val (clD c), .val (.int a), j3.s, j4.s, .no, .no] := by simp
      rcases hrowE a j3 j4 with ⟨r1, k3, k4, r2⟩ | ⟨r1, ρ', r2⟩
      · rcases ih' (.v (.int a)) k3 k4 (fun d hd => hi d (by simp [hd])) with ⟨q1, m2, m3, m4, q2⟩ | ⟨q1, ρ', q2⟩
        · exact .inl ⟨by rw [List.all_cons, q1]; show (rngB.all (fun d => okAt fs c a (intOf d)) && true) = true; rw [r1]; rfl, m2, m3, m4, by simp only [forL, ha, r2]; exact q2⟩
        · exact .inr ⟨by rw [List.all_cons, q1, Bool.and_false], ρ', by simp only [forL, ha, r2]; exact q2⟩
      · exact .inr ⟨by rw [List.all_cons]; show (rngB.all (fun d => okAt fs c a (intOf d)) && _) = false; rw [r1]; rfl, ρ', by simp only [forL, ha, r2]⟩
  have hr : ∀ d ∈ rngB, ∃ b : Int, d = .int b := fun d hd => by
    obtain ⟨a, e, _⟩ := rngB_mem.mp hd
    exact ⟨a, e⟩
  have hbox : rngB.all (fun e => rngB.all (fun d => okAt fs c (intOf e) (intOf d))) = true ↔ Ents fs c := by
    rw [← hall]
    simp only [List.all_eq_true]
    constructor
    · intro h a b h1 h2 h3 h4
      exact h (.int a) (rngB_mem.mpr ⟨a, rfl, h1, h2⟩) (.int b) (rngB_mem.mpr ⟨b, rfl, h3, h4⟩)
    · intro h d hd e he
      obtain ⟨a, rfl, h1, h2⟩ := rngB_mem.mp hd
      obtain ⟨b, rfl, h3, h4⟩ := rngB_mem.mp he
      exact h a b h1 h2 h3 h4
  rcases key2 rngB .no .no .no hr with ⟨q1, k2, k3, k4, q2⟩ | ⟨q1, ρ', q2⟩
  · have a1 : evS cf (b_l_tried_a ih) [.val (csD fs), .val (clD c), .no, .no, .no, .no, .no] = _ := (s_for (hrng _)).trans q2
    have a2 : evS cf (b_l_tried_1 ih) [.val (csD fs), .val (clD c), k2.s, k3.s, k4.s, .no, .no] = .ret (.v (.bl true)) [.val (csD fs), .val (clD c), k2.s, k3.s, k4.s, .no, .no] := by simp [b_l_tried_1]
    exact ⟨true, _, c_ret ((s_seq a1).trans a2), by simp [hbox.mp q1]⟩
  · have a1 : evS cf (b_l_tried_a ih) [.val (csD fs), .val (clD c), .no, .no, .no, .no, .no] = _ := (s_for (hrng _)).trans q2
    exact ⟨false, _, c_ret (s_ret a1), ⟨(fun z => by cases z), fun h => by rw [hbox.mpr h] at q1; cases q1⟩⟩
end
end PyI
set_option maxHeartbeats 1000000
/-! PyNm: the law of what follows. -/
namespace PyI
open PySem PySem.Spec PyProof.Rows L2
def shL (s : Str → Int) (l : L3) : L3 := (l.1, l.2.1, l.2.2 + s l.2.1 - s l.1)
theorem sh_holds {s a : Str → Int} {l : L3} : holdsL a (shL s l) ↔ holdsL (fun x => a x + s x) l := by
  unfold holdsL shL; constructor <;> intro h <;> simp only at h ⊢ <;> omega
theorem sh_holdsC {s a : Str → Int} {c : List L3} : holdsC a (c.map (shL s)) ↔ holdsC (fun x => a x + s x) c := by
  unfold holdsC
  constructor
  · rintro ⟨l, h1, h2⟩
    obtain ⟨m, hm, rfl⟩ := List.mem_map.mp h1
    exact ⟨m, hm, sh_holds.mp h2⟩
  · rintro ⟨l, h1, h2⟩
    exact ⟨shL s l, List.mem_map.mpr ⟨l, h1, rfl⟩, sh_holds.mpr h2⟩
theorem sh_meets {s a : Str → Int} {fs : List (List L3)} : Meets3 a (fs.map fun c => c.map (shL s)) ↔ Meets3 (fun x => a x + s x) fs := by
  unfold Meets3
  constructor
  · intro h c hc
    exact sh_holdsC.mp (h _ (List.mem_map.mpr ⟨c, hc, rfl⟩))
  · intro h d hd
    obtain ⟨c, hc, rfl⟩ := List.mem_map.mp hd
    exact sh_holdsC.mpr (h c hc)
theorem sh_ents {s : Str → Int} {fs : List (List L3)} {c : List L3} : Ents (fs.map fun c => c.map (shL s)) (c.map (shL s)) ↔ Ents fs c := by
  unfold Ents
  constructor
  · intro h a ha
    have e : (fun x => (fun x => a x - s x) x + s x) = a := by funext x; simp
    have h1 := h (fun x => a x - s x) (sh_meets.mpr (by rw [e]; exact ha))
    have h2 := sh_holdsC.mp h1
    rw [e] at h2; exact h2
  · intro h a ha
    exact sh_holdsC.mpr (h _ (sh_meets.mp ha))
theorem ents_mem {fs : List (List L3)} {c : List L3} (h : c ∈ fs) : Ents fs c := fun a ha => ha c h
theorem ents_more {fs gs : List (List L3)} {c : List L3} (h : Ents fs c) (hs : ∀ f ∈ fs, f ∈ gs) : Ents gs c := fun a ha => h a fun f hf => ha f (hs f hf)
theorem ents_cut {fs : List (List L3)} {c e : List L3} (h : Ents fs c) (h2 : Ents (fs ++ [c]) e) : Ents fs e := fun a ha => h2 a (meets_app.mpr ⟨ha, fun d hd => by
  have : d = c := by simpa using hd
  rw [this]; exact h a ha⟩)
theorem tiny_list : ∀ {out : List D}, (∀ d ∈ out, ∃ cl : List L3, d = clD cl ∧ Tiny cl) → ∃ fs : List (List L3), out = fs.map clD ∧ ∀ f ∈ fs, Tiny f
  | [], _ => ⟨[], rfl, fun f h => by cases h⟩
  | d :: out, h => by
    obtain ⟨fs, e, hf⟩ := tiny_list (out := out) fun d hd => h d (by simp [hd])
    obtain ⟨cl, e2, h2⟩ := h d (by simp)
    refine ⟨cl :: fs, by rw [e, e2]; rfl, fun f hf' => ?_⟩
    rcases List.mem_cons.mp hf' with q | q
    · rw [q]; exact h2
    · exact hf f q
def shD (s : Str → Int) : D → D
  | .tup [.str a, .str b, .int n] => .tup [.str a, .str b, .int (n + s b - s a)]
  | _ => .non
theorem shD_map (s : Str → Int) (c : List L3) : (c.map litD).map (shD s) = (c.map (shL s)).map litD := by
  rw [List.map_map, List.map_map]; rfl
def shCl (s : Str → Int) : D → D
  | .tup ls => .tup (ls.map (shD s))
  | _ => .non
theorem shCl_eq (s : Str → Int) (c : List L3) : shCl s (clD c) = clD (c.map (shL s)) := by
  show D.tup ((c.map litD).map (shD s)) = _
  rw [shD_map]; rfl
section
variable {cf : CF}
def ShiftC (c : List Arg → CRes) : Prop := ∀ (cl : List L3) (s : Str → Int), InP P3 cl → cl.length ≤ 1000 → ∃ o, c [.v (clD cl), .v (valsD P3 s)] = .ok (.v (clD (cl.map (shL s)))) o
theorem shifted_ok : ShiftC (callBody cf ⟨6, 2, b_l_shifted⟩) := by
  intro cl s hP hl
  have b1 := lc_map (cf := cf) (vs := [2, 3, 4, 5]) (t := .tup [.n 3, .n 4, .n 5]) (it := .iseq (.var 0)) (e := .tup (.acons (.frz (.var 3)) (.acons (.frz (.var 4)) (.acons (.frz (.bin .sub (.bin .add (.var 5) (.sub (.var 1) (.var 4))) (.sub (.var 1) (.var 3)))) .anil)))) (ρ := [.val (clD cl), .val (valsD P3 s), .no, .no, .no, .no]) (ρ1 := [.val (clD cl), .val (valsD P3 s), .no, .no, .no, .no]) (items := cl.map litD)
    (shD s) (by simp [clD]) rfl (by rw [List.length_map]; omega) fun d hd => by
      obtain ⟨l, hl', rfl⟩ := List.mem_map.mp hd
      obtain ⟨h1, h2⟩ := hP l hl'
      have lx := look_tab (f := fun z => .int (s z)) h1
      have ly := look_tab (f := fun z => .int (s z)) h2
      refine ⟨[.val (clD cl), .val (valsD P3 s), .no, .val (.str l.1), .val (.str l.2.1), .val (.int l.2.2)], [.val (clD cl), .val (valsD P3 s), .no, .val (.str l.1), .val (.str l.2.1), .val (.int l.2.2)], by simp [wipeR, litD], ?_, rfl, rfl⟩
      simp [valsD, lx, ly, litD, shD]
  rw [shD_map] at b1
  have b1' := b1.trans (show _ = Res.ok (.f (.lst ((cl.map (shL s)).map litD))) [.val (clD cl), .val (valsD P3 s), .no, .no, .no, .no] from by simp [rst, wipeR])
  refine ⟨_, c_ret (ρ' := [.val (clD cl), .val (valsD P3 s), .no, .no, .no, .no]) ?_⟩
  show evS cf b_l_shifted [.val (clD cl), .val (valsD P3 s), .no, .no, .no, .no] = _
  unfold b_l_shifted
  generalize (E.lc [2, 3, 4, 5] (.tup [.n 3, .n 4, .n 5]) (.iseq (.var 0)) .tyes (.tup (.acons (.frz (.var 3)) (.acons (.frz (.var 4)) (.acons (.frz (.bin .sub (.bin .add (.var 5) (.sub (.var 1) (.var 4))) (.sub (.var 1) (.var 3)))) .anil))))) = X at b1' ⊢
  unfold clD
  unfold clD at b1'
  simp [b1']
theorem nums3 {a b : Int} : mergeD [(Sum.inr (PySem.Str.ofString ""), D.int 0), (Sum.inr (PySem.Str.ofString "a"), D.int a), (Sum.inr (PySem.Str.ofString "b"), D.int b)] = tabD P3 (fun x => .int (ab a b x)) := by
  have h : tabD P3 (fun x => .int (ab a b x)) = [(.inr eS, .int 0), (.inr sa, .int a), (.inr sb, .int b)] := by
    show [(Sum.inr eS, D.int (ab a b eS)), (Sum.inr sa, D.int (ab a b sa)), (Sum.inr sb, D.int (ab a b sb))] = _
    rw [ab_e, ab_a, ab_b]
  rw [h]; rfl
end
end PyI
set_option maxHeartbeats 1000000
/-! PyNn: the law of what follows, joined. -/
namespace PyI
open PySem PySem.Spec PyProof.Rows L2
theorem tiny_hand {fs : List (List L3)} {c : List L3} (hf : ∀ f ∈ fs, Tiny f) (hc : Tiny c) (hn : fs.length ≤ 14) : InHand P3 fs c :=
  ⟨fun f h => (hf f h).2.1, hc.2.1, by decide, fun f h => (hf f h).1, by rcases hc.1 with q | q <;> omega, hn⟩
theorem cls_of5 {P : List Str} : ∀ {out : List D}, (∀ d ∈ out, ∃ cl : List L3, d = clD cl ∧ (cl.length = 1 ∨ cl.length = 2) ∧ InP P cl) → ∃ cs : List (List L3), out = cs.map clD ∧ Over P cs ∧ Cls cs
  | [], _ => ⟨[], rfl, (fun c h => by cases h), (fun c h => by cases h)⟩
  | d :: out, h => by
    obtain ⟨cs, e, hO, hC⟩ := cls_of5 (out := out) fun d hd => h d (by simp [hd])
    obtain ⟨cl, e2, h2, hP⟩ := h d (by simp)
    exact ⟨[cl] ++ cs, by rw [e, e2]; rfl, Over.add (.one hP) hO, Cls.add (.one h2) hC⟩
theorem sh_in {s : Str → Int} {c : List L3} (h : InP P3 c) : InP P3 (c.map (shL s)) := fun l hl => by
  obtain ⟨m, hm, rfl⟩ := List.mem_map.mp hl
  exact h m hm
section
variable {cf : CF} {ipool idraw ismall itried iright inum ishift ifol iterms iclause ilfol : Nat}
theorem k5law_ok (hpool : PoolC (cf ipool)) (hd : DrawOk (cf idraw)) (hsm : SmallC5 (cf ismall)) (htr : TriedC (cf itried)) (hri : Right5C (cf iright)) (hnum : NumOk (cf inum)) (hsh : ShiftC (cf ishift)) (hfo : FollowsC (cf ifol)) (hterms : TermsC (cf iterms)) (hcl : ClauseL (cf iclause)) (hlf : LFollowsC (cf ilfol))
    (ns : List Int) (hns : ns.length ≤ 63) : ∃ o, callBody cf ⟨11, 1, b_k05l_law ipool idraw ismall itried iright inum ishift ifol iterms iclause ilfol⟩ [.v (.scr ns)] = .ok (.v (.bl true)) o := by
  obtain ⟨p, e1, h1⟩ := hpool ns hns
  have a1 : evS cf (b_k05l_law_a ipool idraw ismall itried iright inum ishift ifol iterms iclause ilfol) [.val (.scr ns), .no, .no, .no, .no, .no, .no, .no, .no, .no, .no] = .nx [.val (.scr ns), .own false p, .no, .no, .no, .no, .no, .no, .no, .no, .no] := by
    simp [b_k05l_law_a, e1]
  have a2 : evS cf (b_k05l_law_1_a ipool idraw ismall itried iright inum ishift ifol iterms iclause ilfol) [.val (.scr ns), .own false p, .no, .no, .no, .no, .no, .no, .no, .no, .no] = .nx [.val (.scr ns), .own false p, .own false (.lst (P3.map .str)), .no, .no, .no, .no, .no, .no, .no, .no] := by
    simp [b_k05l_law_1_a, P3, eS, sa, sb]
  obtain ⟨r, p1, e2, h2, g1, g2⟩ := hd p 7 h1 (by decide) (by decide)
  obtain ⟨n, rfl⟩ := Int.eq_ofNat_of_zero_le g1
  obtain ⟨out, ρ', l1, ⟨p2, s2, g3, hs2, rfl⟩, l3, l4⟩ := lcL_each (vs := [9, 10]) (t := .n 10) (e := frzE (evE cf (.call ismall (.acons (.var 1) (.acons (.frz (.var 2)) (.acons (.frz (.cst (.int 1))) .anil))))))
    (fun ρ => ∃ p s2, IsPool p ∧ (s2 = .own false (.lst (P3.map .str)) ∨ s2 = .val (.lst (P3.map .str))) ∧ ρ = [.val (.scr ns), .own false p, s2, .no, .no, .no, .no, .no, .no, .no, .no]) (fun d => ∃ cl : List L3, d = clD cl ∧ Tiny cl)
    ((List.range n).map fun (i : Nat) => D.int (0 + (i : Int))) [] _ ⟨p1, _, h2, .inl rfl, rfl⟩ (fun d hd' ρ ⟨p, s2, q, hs, e⟩ => by
      subst e
      obtain ⟨cl, p', e2, q2, m⟩ := hsm p 1 q
      refine ⟨[.val (.scr ns), .own false p, s2, .no, .no, .no, .no, .no, .no, .no, .val d], [.val (.scr ns), .own false p', .val (.lst (P3.map .str)), .no, .no, .no, .no, .no, .no, .no, .val d], clD cl, rfl, ?_, rfl, ⟨p', _, q2, .inr rfl, rfl⟩, cl, rfl, m⟩
      rcases hs with rfl | rfl <;> simp [e2])
  obtain ⟨fs, rfl, hf⟩ := tiny_list l3
  have hfl : fs.length = n := by simpa using l4
  have b1 : evE cf (.lc [9, 10] (.n 10) (.irng (.call idraw (.acons (.var 1) (.acons (.frz (.cst (.int 7))) .anil)))) .tyes (.call ismall (.acons (.var 1) (.acons (.frz (.var 2)) (.acons (.frz (.cst (.int 1))) .anil))))) [.val (.scr ns), .own false p, .own false (.lst (P3.map .str)), .no, .no, .no, .no, .no, .no, .no, .no] = .ok (.f (.lst (fs.map clD))) [.val (.scr ns), .own false p2, s2, .no, .no, .no, .no, .no, .no, .no, .no] :=
    e_lc (cf := cf) (vs := [9, 10]) (t := .n 10) (c := .tyes) (e := .call ismall (.acons (.var 1) (.acons (.frz (.var 2)) (.acons (.frz (.cst (.int 1))) .anil)))) (acc := fs.map clD) (ρ1 := [.val (.scr ns), .own false p1, .own false (.lst (P3.map .str)), .no, .no, .no, .no, .no, .no, .no, .no])
      (ρ2 := [.val (.scr ns), .own false p2, s2, .no, .no, .no, .no, .no, .no, .no, .no]) (ev_rng (n := n) (op := .v (.int (n : Int))) (ρ1 := [.val (.scr ns), .own false p1, .own false (.lst (P3.map .str)), .no, .no, .no, .no, .no, .no, .no, .no]) (by simp [e2]) rfl (by omega)) rfl (by simp; omega) l1
  have a3 : evS cf (b_k05l_law_2_a ipool idraw ismall itried iright inum ishift ifol iterms iclause ilfol) [.val (.scr ns), .own false p, .own false (.lst (P3.map .str)), .no, .no, .no, .no, .no, .no, .no, .no] = .nx [.val (.scr ns), .own false p2, s2, .own false (csD fs), .no, .no, .no, .no, .no, .no, .no] := s_set b1 (by simp [csD])
  obtain ⟨c, p3, e3, h3, hc⟩ := hsm p2 2 g3
  have a4 : evS cf (b_k05l_law_3_a ipool idraw ismall itried iright inum ishift ifol iterms iclause ilfol) [.val (.scr ns), .own false p2, s2, .own false (csD fs), .no, .no, .no, .no, .no, .no, .no] = .nx [.val (.scr ns), .own false p3, .val (.lst (P3.map .str)), .own false (csD fs), .val (clD c), .no, .no, .no, .no, .no, .no] := by
    rcases hs2 with rfl | rfl <;> simp [b_k05l_law_3_a, e3]
  obtain ⟨b, o4, e4, hb⟩ := htr fs c hf hc (by omega)
  have a5 : evS cf (b_k05l_law_4_a ipool idraw ismall itried iright inum ishift ifol iterms iclause ilfol) [.val (.scr ns), .own false p3, .val (.lst (P3.map .str)), .own false (csD fs), .val (clD c), .no, .no, .no, .no, .no, .no] = .nx [.val (.scr ns), .own false p3, .val (.lst (P3.map .str)), .val (csD fs), .val (clD c), .val (.bl b), .no, .no, .no, .no, .no] := by
    simp [b_k05l_law_4_a, e4]
  have hH := tiny_hand hf hc (by omega)
  obtain ⟨o5, e5⟩ := hri P3 fs c b hH hc.1 hb
  have a6 : evS cf (b_k05l_law_5_a ipool idraw ismall itried iright inum ishift ifol iterms iclause ilfol) [.val (.scr ns), .own false p3, .val (.lst (P3.map .str)), .val (csD fs), .val (clD c), .val (.bl b), .no, .no, .no, .no, .no] = .nx [.val (.scr ns), .own false p3, .val (.lst (P3.map .str)), .val (csD fs), .val (clD c), .val (.bl b), .no, .no, .no, .no, .no] := by
    simp [b_k05l_law_5_a, e5]
  obtain ⟨n1, p4, e6, h4⟩ := hnum p3 h3
  obtain ⟨n2, p5, e7, h5⟩ := hnum p4 h4
  have a7 : evS cf (b_k05l_law_6_a ipool idraw ismall itried iright inum ishift ifol iterms iclause ilfol) [.val (.scr ns), .own false p3, .val (.lst (P3.map .str)), .val (csD fs), .val (clD c), .val (.bl b), .no, .no, .no, .no, .no] = .nx [.val (.scr ns), .own false p5, .val (.lst (P3.map .str)), .val (csD fs), .val (clD c), .val (.bl b), .own false (valsD P3 (ab n1 n2)), .no, .no, .no, .no] := by
    unfold valsD
    rw [← nums3]
    simp [b_k05l_law_6_a, e6, e7]
  -- shifted
  have hH2 : InHand P3 (fs.map fun c => c.map (shL (ab n1 n2))) (c.map (shL (ab n1 n2))) :=
    ⟨fun d hd => by obtain ⟨f, hf', rfl⟩ := List.mem_map.mp hd; exact sh_in (hf f hf').2.1, sh_in hc.2.1, by decide, fun d hd => by obtain ⟨f, hf', rfl⟩ := List.mem_map.mp hd; rw [List.length_map]; exact (hf f hf').1, by rw [List.length_map]; exact hH.c, by rw [List.length_map]; omega⟩
  obtain ⟨o8, e8⟩ := hri P3 _ _ b hH2 (by rw [List.length_map]; exact hc.1) (hb.trans sh_ents.symm)
  have hsl : fs.length ≤ 100000 := by omega
  -- the comprehension takes the table from its slot at the first fact
  have b2 : ∃ s6, (s6 = .own false (valsD P3 (ab n1 n2)) ∨ s6 = .val (valsD P3 (ab n1 n2))) ∧ evE cf (.lc [9, 7] (.n 7) (.iseq (.var 3)) .tyes (.call ishift (.acons (.frz (.var 7)) (.acons (.frz (.var 6)) .anil)))) [.val (.scr ns), .own false p5, .val (.lst (P3.map .str)), .val (csD fs), .val (clD c), .val (.bl b), .own false (valsD P3 (ab n1 n2)), .no, .no, .no, .no] = .ok (.f (.lst ((fs.map fun c => c.map (shL (ab n1 n2))).map clD))) [.val (.scr ns), .own false p5, .val (.lst (P3.map .str)), .val (csD fs), .val (clD c), .val (.bl b), s6, .no, .no, .no, .no] := by
    have key : ∀ (gs : List (List L3)) (acc : List D) (s6 : Slot), (∀ f ∈ gs, Tiny f) → (s6 = .own false (valsD P3 (ab n1 n2)) ∨ s6 = .val (valsD P3 (ab n1 n2))) → ∃ s6', (s6' = .own false (valsD P3 (ab n1 n2)) ∨ s6' = .val (valsD P3 (ab n1 n2))) ∧
        lcL [9, 7] (.n 7) yesT (frzE (evE cf (.call ishift (.acons (.frz (.var 7)) (.acons (.frz (.var 6)) .anil))))) (gs.map clD) acc [.val (.scr ns), .own false p5, .val (.lst (P3.map .str)), .val (csD fs), .val (clD c), .val (.bl b), s6, .no, .no, .no, .no] = .ok (acc ++ (gs.map fun c => c.map (shL (ab n1 n2))).map clD) [.val (.scr ns), .own false p5, .val (.lst (P3.map .str)), .val (csD fs), .val (clD c), .val (.bl b), s6', .no, .no, .no, .no] := fun gs => by
      induction gs with
      | nil => intro acc s6 _ h; exact ⟨s6, h, by simp [lcL]⟩
      | cons f gs ih =>
        intro acc s6 hg h
        have hft := hg f (by simp)
        obtain ⟨o, e⟩ := hsh f (ab n1 n2) hft.2.1 (by rcases hft.1 with q | q <;> omega)
        obtain ⟨s6', h', e'⟩ := ih (acc ++ [clD (f.map (shL (ab n1 n2)))]) (.val (valsD P3 (ab n1 n2))) (fun f hf => hg f (by simp [hf])) (.inr rfl)
        refine ⟨s6', h', ?_⟩
        have ha : asgT (.n 7) (clD f) [.val (.scr ns), .own false p5, .val (.lst (P3.map .str)), .val (csD fs), .val (clD c), .val (.bl b), s6, .no, .no, .no, .no] = some [.val (.scr ns), .own false p5, .val (.lst (P3.map .str)), .val (csD fs), .val (clD c), .val (.bl b), s6, .val (clD f), .no, .no, .no] := by simp
        have he : frzE (evE cf (.call ishift (.acons (.frz (.var 7)) (.acons (.frz (.var 6)) .anil)))) [.val (.scr ns), .own false p5, .val (.lst (P3.map .str)), .val (csD fs), .val (clD c), .val (.bl b), s6, .val (clD f), .no, .no, .no] = .ok (.v (clD (f.map (shL (ab n1 n2))))) [.val (.scr ns), .own false p5, .val (.lst (P3.map .str)), .val (csD fs), .val (clD c), .val (.bl b), .val (valsD P3 (ab n1 n2)), .val (clD f), .no, .no, .no] := by
          rcases h with rfl | rfl <;> simp [e]
        have hy : ∀ ρ, yesT ρ = .ok true ρ := fun _ => rfl
        have hno : noOwn [.val (.scr ns), .own false p5, .val (.lst (P3.map .str)), .val (csD fs), .val (clD c), .val (.bl b), .val (valsD P3 (ab n1 n2)), .val (clD f), .no, .no, .no] [9, 7] = true := rfl
        have hwi : wipeR [.val (.scr ns), .own false p5, .val (.lst (P3.map .str)), .val (csD fs), .val (clD c), .val (.bl b), .val (valsD P3 (ab n1 n2)), .val (clD f), .no, .no, .no] [9, 7] = [.val (.scr ns), .own false p5, .val (.lst (P3.map .str)), .val (csD fs), .val (clD c), .val (.bl b), .val (valsD P3 (ab n1 n2)), .no, .no, .no, .no] := rfl
        rw [List.map_cons]
        simp only [lcL, ha, hy, he, hno, hwi, if_true]
        refine e'.trans ?_
        simp
    obtain ⟨s6, h, e⟩ := key fs [] (.own false (valsD P3 (ab n1 n2))) hf (.inl rfl)
    refine ⟨s6, h, ?_⟩
    have := e_lc (cf := cf) (vs := [9, 7]) (t := .n 7) (it := .iseq (.var 3)) (c := .tyes) (e := .call ishift (.acons (.frz (.var 7)) (.acons (.frz (.var 6)) .anil))) (ρ := [.val (.scr ns), .own false p5, .val (.lst (P3.map .str)), .val (csD fs), .val (clD c), .val (.bl b), .own false (valsD P3 (ab n1 n2)), .no, .no, .no, .no]) (ρ1 := [.val (.scr ns), .own false p5, .val (.lst (P3.map .str)), .val (csD fs), .val (clD c), .val (.bl b), .own false (valsD P3 (ab n1 n2)), .no, .no, .no, .no]) (items := fs.map clD) (by simp [csD]) rfl (by rw [List.length_map]; omega) e
    exact this
  obtain ⟨s6, hs6, b2⟩ := b2
  obtain ⟨o9, e9⟩ := hsh c (ab n1 n2) hc.2.1 (by rcases hc.1 with q | q <;> omega)
  have a8 : evS cf (b_k05l_law_7_a ipool idraw ismall itried iright inum ishift ifol iterms iclause ilfol) [.val (.scr ns), .own false p5, .val (.lst (P3.map .str)), .val (csD fs), .val (clD c), .val (.bl b), .own false (valsD P3 (ab n1 n2)), .no, .no, .no, .no] = .nx [.val (.scr ns), .own false p5, .val (.lst (P3.map .str)), .val (csD fs), .val (clD c), .val (.bl b), .val (valsD P3 (ab n1 n2)), .no, .no, .no, .no] := by
    unfold b_k05l_law_7_a
    unfold csD at e8
    generalize (E.lc [9, 7] (.n 7) (.iseq (.var 3)) .tyes (.call ishift (.acons (.frz (.var 7)) (.acons (.frz (.var 6)) .anil)))) = X at b2 ⊢
    generalize (fs.map fun c => c.map (shL (ab n1 n2))).map clD = GS at b2 e8
    rcases hs6 with rfl | rfl <;> simp [b2, e9, e8]
  -- each fact follows
  have hit : evI cf (.iseq (.var 3)) [.val (.scr ns), .own false p5, .val (.lst (P3.map .str)), .val (csD fs), .val (clD c), .val (.bl b), .val (valsD P3 (ab n1 n2)), .no, .no, .no, .no] = .ok (fs.map clD) [.val (.scr ns), .own false p5, .val (.lst (P3.map .str)), .val (csD fs), .val (clD c), .val (.bl b), .val (valsD P3 (ab n1 n2)), .no, .no, .no, .no] := by simp [csD]
  have a9 : ∃ j7 : J, evS cf (b_k05l_law_8_a ipool idraw ismall itried iright inum ishift ifol iterms iclause ilfol) [.val (.scr ns), .own false p5, .val (.lst (P3.map .str)), .val (csD fs), .val (clD c), .val (.bl b), .val (valsD P3 (ab n1 n2)), .no, .no, .no, .no] = .nx [.val (.scr ns), .own false p5, .val (.lst (P3.map .str)), .val (csD fs), .val (clD c), .val (.bl b), .val (valsD P3 (ab n1 n2)), j7.s, .no, .no, .no] := by
    rcases loop_all (t := .n 7) (b := evS cf (b_k05l_law_8_ab ipool idraw ismall itried iright inum ishift ifol iterms iclause ilfol)) (fun j => [.val (.scr ns), .own false p5, .val (.lst (P3.map .str)), .val (csD fs), .val (clD c), .val (.bl b), .val (valsD P3 (ab n1 n2)), j.s, .no, .no, .no]) (fun _ => true) (fs.map clD) (fun d hdm j => by
      obtain ⟨f, hf', rfl⟩ := List.mem_map.mp hdm
      refine ⟨.v (clD f), [.val (.scr ns), .own false p5, .val (.lst (P3.map .str)), .val (csD fs), .val (clD c), .val (.bl b), .val (valsD P3 (ab n1 n2)), .val (clD f), .no, .no, .no], by simp, fun _ => ?_, fun z => by cases z⟩
      rcases hfo P3 fs f (tiny_hand hf (hf f hf') (by omega)) with ⟨w, o, e, _, hM, hN⟩ | ⟨o, e, _⟩
      · exact absurd (hM f hf') hN
      · simp [b_k05l_law_8_ab, e]
        rfl) .no with ⟨_, j', q⟩ | ⟨q, _⟩
    · exact ⟨j', (s_for hit).trans q⟩
    · simp at q
  obtain ⟨j7, a9⟩ := a9
  obtain ⟨x, p6, e10, h6, hx⟩ := hsm p5 1 h5
  have a10 : evS cf (b_k05l_law_9_a ipool idraw ismall itried iright inum ishift ifol iterms iclause ilfol) [.val (.scr ns), .own false p5, .val (.lst (P3.map .str)), .val (csD fs), .val (clD c), .val (.bl b), .val (valsD P3 (ab n1 n2)), j7.s, .no, .no, .no] = .nx [.val (.scr ns), .own false p6, .val (.lst (P3.map .str)), .val (csD fs), .val (clD c), .val (.bl b), .val (valsD P3 (ab n1 n2)), j7.s, .val (clD x), .no, .no] := by
    simp [b_k05l_law_9_a, e10]
  have hfx : ∀ f ∈ fs ++ [x], Tiny f := fun f hf' => by
    rcases List.mem_append.mp hf' with q | q
    · exact hf f q
    · have : f = x := by simpa using q
      rw [this]; exact hx
  have hxf : ∀ f ∈ [x] ++ fs, Tiny f := fun f hf' => by
    rcases List.mem_append.mp hf' with q | q
    · have : f = x := by simpa using q
      rw [this]; exact hx
    · exact hf f q
  have hfc : ∀ f ∈ fs ++ [c], Tiny f := fun f hf' => by
    rcases List.mem_append.mp hf' with q | q
    · exact hf f q
    · have : f = c := by simpa using q
      rw [this]; exact hc
  have z1 : fs.length + 1 ≤ 100000 := by omega
  have z2 : 1 + fs.length ≤ 100000 := by omega
  have a11 : evS cf (b_k05l_law_10_a ipool idraw ismall itried iright inum ishift ifol iterms iclause ilfol) [.val (.scr ns), .own false p6, .val (.lst (P3.map .str)), .val (csD fs), .val (clD c), .val (.bl b), .val (valsD P3 (ab n1 n2)), j7.s, .val (clD x), .no, .no] = .nx [.val (.scr ns), .own false p6, .val (.lst (P3.map .str)), .val (csD fs), .val (clD c), .val (.bl b), .val (valsD P3 (ab n1 n2)), j7.s, .val (clD x), .no, .no] := by
    cases hbb : b with
    | false => simp [b_k05l_law_10_a]
    | true =>
      have hE := hb.mp hbb
      rcases hfo P3 (fs ++ [x]) c (tiny_hand hfx hc (by simp; omega)) with ⟨w, o, e, _, hM, hN⟩ | ⟨o, e, _⟩
      · exact absurd (ents_more hE (fun f hf => by simp [hf]) w hM) hN
      · rcases hfo P3 ([x] ++ fs) c (tiny_hand hxf hc (by simp; omega)) with ⟨w, o', e', _, hM, hN⟩ | ⟨o', e', _⟩
        · exact absurd (ents_more hE (fun f hf => by simp [hf]) w hM) hN
        · rw [csD_add] at e e'
          have ee : cf ifol [.v (.lst (fs.map clD ++ [clD x])), .v (clD c)] = .ok (.v .non) o := e
          have ee' : cf ifol [.v (.lst (clD x :: fs.map clD)), .v (clD c)] = .ok (.v .non) o' := e'
          unfold csD
          simp [b_k05l_law_10_a, ee, ee', z1, z2]
  have a12 : evS cf (b_k05l_law_11_a ipool idraw ismall itried iright inum ishift ifol iterms iclause ilfol) [.val (.scr ns), .own false p6, .val (.lst (P3.map .str)), .val (csD fs), .val (clD c), .val (.bl b), .val (valsD P3 (ab n1 n2)), j7.s, .val (clD x), .no, .no] = .nx [.val (.scr ns), .own false p6, .val (.lst (P3.map .str)), .val (csD fs), .val (clD c), .val (.bl b), .val (valsD P3 (ab n1 n2)), j7.s, .val (clD x), .no, .no] := by
    cases hbb : b with
    | false => simp [b_k05l_law_11_a]
    | true =>
      have hE := hb.mp hbb
      rcases hfo P3 (fs ++ [c]) x (tiny_hand hfc hx (by simp; omega)) with ⟨w, o, e, _, hM, hN⟩ | ⟨o, e, hE2⟩
      · rw [csD_add] at e
        have ee : cf ifol [.v (.lst (fs.map clD ++ [clD c])), .v (clD x)] = .ok (.v (valsD (Tm (fs ++ [c] ++ [x])) w)) o := e
        unfold csD
        unfold valsD at ee
        simp [b_k05l_law_11_a, ee, z1]
      · rcases hfo P3 fs x (tiny_hand hf hx (by omega)) with ⟨w, o', e', _, hM, hN⟩ | ⟨o', e', _⟩
        · exact absurd (ents_cut hE hE2 w hM) hN
        · rw [csD_add] at e
          have ee : cf ifol [.v (.lst (fs.map clD ++ [clD c])), .v (clD x)] = .ok (.v .non) o := e
          unfold csD at e' ⊢
          simp [b_k05l_law_11_a, ee, e', z1]
  -- larger lists
  obtain ⟨ts, p7, e13, h7, ht, htl⟩ := hterms p6 5 h6 (by decide) (by decide)
  obtain ⟨P, rfl, heP, hnd, hPe⟩ := terms_strs ht
  have hPl : P.length ≤ 6 := by omega
  have hne : P ≠ [] := fun z => by rw [z] at heP; cases heP
  have a13 : evS cf (b_k05l_law_12_a ipool idraw ismall itried iright inum ishift ifol iterms iclause ilfol) [.val (.scr ns), .own false p6, .val (.lst (P3.map .str)), .val (csD fs), .val (clD c), .val (.bl b), .val (valsD P3 (ab n1 n2)), j7.s, .val (clD x), .no, .no] = .nx [.val (.scr ns), .own false p7, .own false (.lst (P.map .str)), .val (csD fs), .val (clD c), .val (.bl b), .val (valsD P3 (ab n1 n2)), j7.s, .val (clD x), .no, .no] := by
    simp [b_k05l_law_12_a, e13]
  obtain ⟨r2, p8, e14, h8, g4, g5⟩ := hd p7 12 h7 (by decide) (by decide)
  obtain ⟨m, rfl⟩ := Int.eq_ofNat_of_zero_le g4
  obtain ⟨out2, ρ', l5, ⟨p9, s2', g6, hs2', rfl⟩, l6, l7⟩ := lcL_each (vs := [9, 10]) (t := .n 10) (e := frzE (evE cf (.call iclause (.acons (.var 1) (.acons (.frz (.var 2)) (.acons (.frz (.bi .int (.cmp .eq (.call idraw (.acons (.var 1) (.acons (.frz (.cst (.int 3))) .anil))) (.cst (.int 0))))) .anil))))))
    (fun ρ => ∃ p s2, IsPool p ∧ (s2 = .own false (.lst (P.map .str)) ∨ s2 = .val (.lst (P.map .str))) ∧ ρ = [.val (.scr ns), .own false p, s2, .val (csD fs), .val (clD c), .val (.bl b), .val (valsD P3 (ab n1 n2)), j7.s, .val (clD x), .no, .no]) (fun d => ∃ cl : List L3, d = clD cl ∧ (cl.length = 1 ∨ cl.length = 2) ∧ InP P cl)
    ((List.range m).map fun (i : Nat) => D.int (0 + (i : Int))) [] _ ⟨p8, _, h8, .inl rfl, rfl⟩ (fun d hd' ρ ⟨p, s2, q, hs, e⟩ => by
      subst e
      obtain ⟨r3, p', e3', q3, _, _⟩ := hd p 3 q (by decide) (by decide)
      obtain ⟨cl, p'', e2, q2, m1, m2⟩ := hcl p' P (if r3 == 0 then 1 else 0) q3 hne (by omega)
      refine ⟨[.val (.scr ns), .own false p, s2, .val (csD fs), .val (clD c), .val (.bl b), .val (valsD P3 (ab n1 n2)), j7.s, .val (clD x), .no, .val d], [.val (.scr ns), .own false p'', .val (.lst (P.map .str)), .val (csD fs), .val (clD c), .val (.bl b), .val (valsD P3 (ab n1 n2)), j7.s, .val (clD x), .no, .val d], clD cl, rfl, ?_, rfl, ⟨p'', _, q2, .inr rfl, rfl⟩, cl, rfl, m1, m2⟩
      have hc0 : r3 = 0 ∨ r3 ≠ 0 := by omega
      rcases hc0 with h0 | h0
      · subst h0
        have e2' : cf iclause [.r p', .v (.lst (P.map .str)), .v (.int 1)] = .ok (.v (clD cl)) [p'', .non, .non] := e2
        rcases hs with rfl | rfl <;> simp [e3', e2']
      · have hbq : (r3 == 0) = false := by simpa using h0
        rw [hbq] at e2
        have e2' : cf iclause [.r p', .v (.lst (P.map .str)), .v (.int 0)] = .ok (.v (clD cl)) [p'', .non, .non] := e2
        rcases hs with rfl | rfl <;> simp [e3', e2', hbq])
  obtain ⟨gs, rfl, hOg, hCg⟩ := cls_of5 l6
  have hgl : gs.length = m := by simpa using l7
  have b3 : evE cf (.lc [9, 10] (.n 10) (.irng (.call idraw (.acons (.var 1) (.acons (.frz (.cst (.int 12))) .anil)))) .tyes (.call iclause (.acons (.var 1) (.acons (.frz (.var 2)) (.acons (.frz (.bi .int (.cmp .eq (.call idraw (.acons (.var 1) (.acons (.frz (.cst (.int 3))) .anil))) (.cst (.int 0))))) .anil))))) [.val (.scr ns), .own false p7, .own false (.lst (P.map .str)), .val (csD fs), .val (clD c), .val (.bl b), .val (valsD P3 (ab n1 n2)), j7.s, .val (clD x), .no, .no] = .ok (.f (.lst (gs.map clD))) [.val (.scr ns), .own false p9, s2', .val (csD fs), .val (clD c), .val (.bl b), .val (valsD P3 (ab n1 n2)), j7.s, .val (clD x), .no, .no] :=
    e_lc (cf := cf) (vs := [9, 10]) (t := .n 10) (c := .tyes) (e := .call iclause (.acons (.var 1) (.acons (.frz (.var 2)) (.acons (.frz (.bi .int (.cmp .eq (.call idraw (.acons (.var 1) (.acons (.frz (.cst (.int 3))) .anil))) (.cst (.int 0))))) .anil)))) (acc := gs.map clD) (ρ1 := [.val (.scr ns), .own false p8, .own false (.lst (P.map .str)), .val (csD fs), .val (clD c), .val (.bl b), .val (valsD P3 (ab n1 n2)), j7.s, .val (clD x), .no, .no])
      (ρ2 := [.val (.scr ns), .own false p9, s2', .val (csD fs), .val (clD c), .val (.bl b), .val (valsD P3 (ab n1 n2)), j7.s, .val (clD x), .no, .no]) (ev_rng (n := m) (op := .v (.int (m : Int))) (ρ1 := [.val (.scr ns), .own false p8, .own false (.lst (P.map .str)), .val (csD fs), .val (clD c), .val (.bl b), .val (valsD P3 (ab n1 n2)), j7.s, .val (clD x), .no, .no]) (by simp [e14]) rfl (by omega)) rfl (by simp; omega) l5
  have a14 : evS cf (b_k05l_law_13_a ipool idraw ismall itried iright inum ishift ifol iterms iclause ilfol) [.val (.scr ns), .own false p7, .own false (.lst (P.map .str)), .val (csD fs), .val (clD c), .val (.bl b), .val (valsD P3 (ab n1 n2)), j7.s, .val (clD x), .no, .no] = .nx [.val (.scr ns), .own false p9, s2', .own false (csD gs), .val (clD c), .val (.bl b), .val (valsD P3 (ab n1 n2)), j7.s, .val (clD x), .no, .no] := s_set b3 (by simp [csD])
  obtain ⟨y, p10, e15, h10, hy1, hy2⟩ := hcl p9 P 1 g6 hne (by omega)
  have a15 : evS cf (b_k05l_law_14_a ipool idraw ismall itried iright inum ishift ifol iterms iclause ilfol) [.val (.scr ns), .own false p9, s2', .own false (csD gs), .val (clD c), .val (.bl b), .val (valsD P3 (ab n1 n2)), j7.s, .val (clD x), .no, .no] = .nx [.val (.scr ns), .own false p10, .val (.lst (P.map .str)), .own false (csD gs), .val (clD y), .val (.bl b), .val (valsD P3 (ab n1 n2)), j7.s, .val (clD x), .no, .no] := by
    rcases hs2' with rfl | rfl <;> simp [b_k05l_law_14_a, e15]
  have hH3 : InHand P gs y := ⟨hOg, hy2, by omega, hCg, by rcases hy1 with q | q <;> omega, by omega⟩
  obtain ⟨b3', o16, e16, hb3⟩ := hlf P gs y hH3
  obtain ⟨o17, e17⟩ := hri P gs y b3' hH3 hy1 hb3
  have a16 : evS cf (b_k05l_law_15 ipool idraw ismall itried iright inum ishift ifol iterms iclause ilfol) [.val (.scr ns), .own false p10, .val (.lst (P.map .str)), .own false (csD gs), .val (clD y), .val (.bl b), .val (valsD P3 (ab n1 n2)), j7.s, .val (clD x), .no, .no] = .ret (.v (.bl true)) [.val (.scr ns), .own false p10, .val (.lst (P.map .str)), .val (csD gs), .val (clD y), .val (.bl b), .val (valsD P3 (ab n1 n2)), j7.s, .val (clD x), .no, .no] := by
    simp [b_k05l_law_15, e16, e17]
  exact ⟨_, c_ret ((s_seq a1).trans ((s_seq a2).trans ((s_seq a3).trans ((s_seq a4).trans ((s_seq a5).trans ((s_seq a6).trans ((s_seq a7).trans ((s_seq a8).trans ((s_seq a9).trans ((s_seq a10).trans ((s_seq a11).trans ((s_seq a12).trans ((s_seq a13).trans ((s_seq a14).trans ((s_seq a15).trans a16)))))))))))))))⟩
end
end PyI
set_option maxHeartbeats 0
namespace K05
open PySem PySem.Spec PyProof.Rows L2 PyI
abbrev RW := PySem.Challenge.rw_trustlinks_k05_whole_what_follows
abbrev pw := PySem.Challenge.pw_trustlinks_k05_whole_what_follows
def cs : List (Str × D) := [("RING", .str "ring"), ("CASE", .str "case"), ("MET", .str "met"), ("NONE", .str "none")]
def es : List Ent := [
  ⟨"negated", 1, ["literal"], [false]⟩,
  ⟨"denied", 2, ["clause", ".0", "literal"], [false]⟩,
  ⟨"terms_of", 3, ["clauses", "found", "clause", "one", "other", "number", ".0", "term"], [false]⟩,
  ⟨"literal_holds", 4, ["literal", "values"], [false, false]⟩,
  ⟨"clause_holds", 5, ["clause", "values", ".0", "literal"], [false, false]⟩,
  ⟨"relaxed", 11, ["links", "values", "back", "last", "at", "one", "other", "number"], [false, true, true]⟩,
  ⟨"ring_from", 12, ["back", "term", "_", "ring", "here"], [false, false]⟩,
  ⟨"settled", 13, ["clauses", "terms", "links", "values", "back", "_", "last", ".0", "at", "clause", "term"], [false, false]⟩,
  ⟨"decide", 14, ["clauses", "terms", "ring", "values", "at", "clause", "first", "second", ".0", "term"], [false]⟩,
  ⟨"follows", 15, ["facts", "clause", "found"], [false, false]⟩,
  ⟨"_law_pool", 17, ["_law_script", "_law_cells", "_law_great", "_law_small_here", ".0", "_law_cell"], [false]⟩,
  ⟨"_law_draw", 18, ["_law_pool_here", "_law_many", "_law_great", "_law_digit", "_law_seed", "_law_number_here"], [true, false]⟩,
  ⟨"_law_pick", 19, ["_law_pool_here", "_law_items"], [true, false]⟩,
  ⟨"_law_denied", 20, ["_law_clause_here", ".0", "_law_a", "_law_b", "_law_n"], [false]⟩,
  ⟨"_law_terms", 21, ["_law_clauses", "_law_found", "_law_clause_here", "_law_a", "_law_b", "_law_n", ".0", "_law_term"], [false]⟩,
  ⟨"_law_holds", 22, ["_law_clause_here", "_law_values", "_law_a", "_law_b", "_law_n", "_law_left", "_law_right_here"], [false, false]⟩,
  ⟨"_law_meets", 23, ["_law_clauses", "_law_values", "_law_term", ".0", "_law_clause_here"], [false, false]⟩,
  ⟨"_law_heights", 24, ["_law_literals", "_law_heights_here", "_law_a", "_law_b", "_law_n", "_law_turn", "_law_moved"], [false]⟩,
  ⟨"_law_cased", 25, ["_law_literals", "_law_doubles", "_law_heights_here", "_law_literal_here", "_law_found"], [false, false]⟩,
  ⟨"_law_integers", 26, ["_law_clauses", "_law_singles", "_law_found", "_law_values", "_law_term", ".0", "_law_clause_here"], [false]⟩,
  ⟨"_law_follows", 27, ["_law_facts", "_law_clause_here"], [false, false]⟩,
  ⟨"_law_number", 28, ["_law_pool_here", "_law_kind", "_law_number_here"], [true]⟩,
  ⟨"_law_literal", 29, ["_law_pool_here", "_law_terms_here"], [true, false]⟩,
  ⟨"_law_clause", 30, ["_law_pool_here", "_law_terms_here", "_law_twos", "_law_clause_here"], [true, false, false]⟩,
  ⟨"_law_some_terms", 31, ["_law_pool_here", "_law_many", "_law_signs", "_law_terms_here", "_law_k", "_law_size", "_law_term", ".0", "_law_sign"], [true, false]⟩,
  ⟨"_law_whole", 32, ["_law_thing"], [false]⟩,
  ⟨"_law_small", 33, ["_law_pool_here", "_law_terms_here", "_law_twos", "_law_literals", "_law_k"], [true, false, false]⟩,
  ⟨"_law_tried", 34, ["_law_facts", "_law_clause_here", "_law_one", "_law_other", "_law_values", ".0", "_law_fact"], [false, false]⟩,
  ⟨"_law_shifted", 35, ["_law_clause_here", "_law_more", ".0", "_law_one", "_law_other", "_law_number_here"], [false, false]⟩,
  ⟨"_law_right", 36, ["_law_facts", "_law_clause_here", "_law_due", "_law_told", ".0", "_law_term", "_law_fact"], [false, false, false]⟩,
  ⟨"law", 37, ["_law_script", "_law_pool_here", "_law_terms_here", "_law_facts", "_law_clause_here", "_law_due", "_law_more", "_law_fact", "_law_further", ".0", "_law_k"], [false]⟩]
def G : List FnI := [
  ⟨1, 1, b_negated⟩,
  ⟨3, 1, b_denied 0⟩,
  ⟨8, 1, b_terms_of⟩,
  ⟨2, 2, b_literal_holds⟩,
  ⟨4, 2, b_clause_holds 3⟩,
  ⟨8, 3, b_relaxed⟩,
  ⟨5, 2, b_ring_from⟩,
  ⟨11, 2, b_settled 5 6⟩,
  ⟨10, 1, b_decide 2 7 4 8⟩,
  ⟨3, 2, b_follows 8 1⟩,
  ⟨6, 1, b_l_pool⟩,
  ⟨6, 2, b_l_draw⟩,
  ⟨2, 2, b_l_pick 11⟩,
  ⟨5, 1, b_l_denied⟩,
  ⟨8, 1, b_l_terms⟩,
  ⟨7, 2, b_l_holds⟩,
  ⟨5, 2, b_l_meets 14 15⟩,
  ⟨7, 1, b_l_heights⟩,
  ⟨5, 2, b_l_cased 17 18⟩,
  ⟨7, 1, b_l_integers 18 14⟩,
  ⟨2, 2, b_l_follows 19 13⟩,
  ⟨3, 1, b_l_number 11⟩,
  ⟨2, 2, b_l_literal 12 21⟩,
  ⟨4, 3, b_l_clause 22 11⟩,
  ⟨9, 2, b_l_some_terms 11 12⟩,
  ⟨1, 1, b_l_whole⟩,
  ⟨5, 3, b_l_small 12 11⟩,
  ⟨7, 2, b_l_tried 15⟩,
  ⟨6, 2, b_l_shifted⟩,
  ⟨7, 3, b_k05l_right 9 14 25 15⟩,
  ⟨11, 1, b_k05l_law 10 11 26 27 29 21 28 9 24 23 20⟩]
theorem G_eq : es.map (entI pw (tabOf es) cs) = G := by kernel_rfl
theorem ent_ok : es.all (entC pw (tabOf es) cs) = true := by kernel_rfl
end K05
set_option maxHeartbeats 0
/-! K05h: the defs by their table; the head. -/
namespace K05
open PySem PySem.Spec PyProof.Rows L2 PyI
theorem h0 (n : Nat) : NegatedC (callF G (n + 1) 0) := negated_ok (cf := callF G n)
theorem h1 (n : Nat) : DeniedC (callF G (n + 2) 1) := denied_ok (h0 n)
theorem h2 (n : Nat) : TermsOfC (callF G (n + 1) 2) := terms_of_ok (cf := callF G n)
theorem h3 (n : Nat) : LitHC (callF G (n + 1) 3) := literal_holds_ok (cf := callF G n)
theorem h4 (n : Nat) : ClHC (callF G (n + 2) 4) := clause_holds_ok (h3 n)
theorem h5 (n : Nat) : RelaxC (callF G (n + 1) 5) := relax_c (callF G n)
theorem h6 (n : Nat) : RingFromC (callF G (n + 1) 6) := ringFrom_c (callF G n)
theorem h7 (n : Nat) : SettledC (callF G (n + 2) 7) := settled_ok (h5 n) (h6 n)
theorem h8 : ∀ (m n : Nat), DecC m (callF G (n + m + 3) 8)
  | 0, n => decide_ok (m := 0) (h2 (n + 1)) (h7 n) (h4 n) (.inl rfl)
  | m + 1, n => decide_ok (m := m + 1) (h2 (n + m + 2)) (h7 (n + m + 1)) (h4 (n + m + 1)) (.inr (h8 m n))
theorem h9 (n : Nat) : FollowsC (callF G (n + 20) 9) := follows_ok (h8 16 n) (h1 (n + 17))
theorem h10 (n : Nat) : PoolC (callF G (n + 1) 10) := fun ns h => pool_ok (callF G n) ns h
theorem h11 (n : Nat) : DrawOk (callF G (n + 1) 11) := draw_ok (callF G n)
theorem h12 (n : Nat) : PickOk (callF G (n + 2) 12) := pick_ok (h11 n)
theorem h12s (n : Nat) : PickS (callF G (n + 2) 12) := pick_s (h11 n)
theorem h13 (n : Nat) : DeniedC (callF G (n + 1) 13) := l_denied_ok (cf := callF G n)
theorem h14 (n : Nat) : TermsOfC (callF G (n + 1) 14) := l_terms_ok (cf := callF G n)
theorem h15 (n : Nat) : LHC (callF G (n + 1) 15) := l_holds_ok (cf := callF G n)
theorem h17 (n : Nat) : HeightsC (callF G (n + 1) 17) := heights_ok (cf := callF G n)
theorem h18 : ∀ (m n : Nat), CasedC m (callF G (n + m + 2) 18)
  | 0, n => cased_ok (n := 0) (h17 n) (.inl rfl)
  | m + 1, n => cased_ok (n := m + 1) (h17 (n + m + 1)) (.inr (h18 m n))
theorem h19 (m n : Nat) : IntegersC m (callF G (n + m + 3) 19) := integers_ok (h18 m n) (h14 (n + m + 1))
theorem h20 (n : Nat) : LFollowsC (callF G (n + 20) 20) := l_follows_ok (h19 16 n) (h13 (n + 18))
theorem h21 (n : Nat) : NumOk (callF G (n + 2) 21) := number_ok (h11 n)
theorem h22 (n : Nat) : LitOk (callF G (n + 3) 22) := literal_ok (h12 n) (h21 n)
theorem h23 (n : Nat) : ClauseL (callF G (n + 4) 23) := clause_l (clause_ok (h11 (n + 2)) (h22 n))
theorem h24 (n : Nat) : TermsC (callF G (n + 3) 24) := terms_ok (h11 (n + 1)) (h12s n)
theorem h25 (n : Nat) : IntC (callF G (n + 1) 25) := is_integer_ok (cf := callF G n)
theorem h26 (n : Nat) : SmallC5 (callF G (n + 3) 26) := small_ok (h11 (n + 1)) (pick_l (h12 n))
theorem h27 (n : Nat) : TriedC (callF G (n + 2) 27) := tried_ok (h15 n)
theorem h28 (n : Nat) : ShiftC (callF G (n + 1) 28) := shifted_ok (cf := callF G n)
theorem h29 (n : Nat) : Right5C (callF G (n + 21) 29) := right5_ok (h9 n) (h14 (n + 19)) (h25 (n + 19)) (h15 (n + 19))
theorem h30 (ns : List Int) (hn : ns.length ≤ 63) : ∃ o, callF G 22 30 [.v (.scr ns)] = .ok (.v (.bl true)) o :=
  k5law_ok (cf := callF G 21) (h10 20) (h11 20) (h26 18) (h27 19) (h29 0) (h21 19) (h28 20) (h9 1) (h24 18) (h23 17) (h20 1) ns hn
theorem law_true (ns : List Int) (hn : ns.length ≤ 63) : ∃ outs, callF (es.map (entI pw (tabOf es) cs)) 22 30 [.v (.scr ns)] = .ok (.v (.bl true)) outs := by
  rw [G_eq]
  exact h30 ns hn
/-! ### the head -/
def faL : List He.Fa := entFa es cs
def fnL : List He.DefD := entFn pw es
abbrev R : PySem.W.OpenRow := PySem.W.OpenLaw.row RW
abbrev hk : PySem.W.Hook := He.hookD 4 faL fnL
def ob (s : PySem.W.SharedT) : He.AlD := He.obsDG 4 faL fnL (HandSHeadRun.getT s)
theorem ob_eq (s : PySem.W.SharedT) : ob s = hk.obs s.abs := He.obsDG_eq (HandSHeadRun.getT_eq s)
def names : List Str := [("negated" : Str), ("denied" : Str), ("terms_of" : Str), ("literal_holds" : Str), ("clause_holds" : Str), ("RING" : Str), ("CASE" : Str), ("MET" : Str), ("NONE" : Str), ("relaxed" : Str), ("ring_from" : Str), ("settled" : Str), ("decide" : Str), ("follows" : Str), ("_law_pool" : Str), ("_law_draw" : Str), ("_law_pick" : Str), ("_law_denied" : Str), ("_law_terms" : Str), ("_law_holds" : Str), ("_law_meets" : Str), ("_law_heights" : Str), ("_law_cased" : Str), ("_law_integers" : Str), ("_law_follows" : Str), ("_law_number" : Str), ("_law_literal" : Str), ("_law_clause" : Str), ("_law_some_terms" : Str), ("_law_whole" : Str), ("_law_small" : Str), ("_law_tried" : Str), ("_law_shifted" : Str), ("_law_right" : Str)]
theorem run (w : World) : HandSHeadRun.RunEq R (PySem.W.view R.prog [37]) hk ob 2000 names w := by
  intro os
  kernel_rfl
end K05
open PySem PySem.W PySem.Calls PyProof.Rows
theorem PySem.Challenge.cw_trustlinks_k05_whole_what_follows_holds : PySem.Challenge.rw_trustlinks_k05_whole_what_follows.Holds := by
  w_on; o_law
  refine HandSHeadRun.head_any (r := OpenLaw.row PySem.Challenge.rw_trustlinks_k05_whole_what_follows) (q := view (OpenLaw.row PySem.Challenge.rw_trustlinks_k05_whole_what_follows).prog [37]) (H := K05.hk) (ob := K05.ob) (M := 2000) (loose := K05.names) (d := HandSHeadRun.topDef (OpenLaw.row PySem.Challenge.rw_trustlinks_k05_whole_what_follows).prog 37) (kwd := []) K05.ob_eq
    (by kernel_rfl) (fun s => by kernel_rfl) K05.run (by kernel_rfl) (by kernel_rfl) (by kernel_rfl) (by rfl) (by first | assumption | decide +kernel) (by decide +kernel) ⟨rfl, rfl, rfl, rfl, rfl, by decide +kernel⟩ ?hw ?hc
  case hw => w_witness2
  case hc =>
    refine L2.walk_ofE (l := PySem.Challenge.rw_trustlinks_k05_whole_what_follows) (n := 63) (k := 22) (x := "_law_script") (CX := PyI.CXU) rfl (by decide) (by kernel_rfl) ⟨rfl, by decide, by decide⟩ ?F ?hx
    case hx =>
      intro H s e s' q
      obtain ⟨_, _, _, z⟩ := q
      exact z
    case F =>
      intro w mg fa h Y G hmg0
      obtain ⟨K, KX, c⟩ := Y
      have hmg : mg ("law" : PySem.Str) = some (.ref fa) := by
        have e : (HandSHeadRun.topDef (OpenLaw.row PySem.Challenge.rw_trustlinks_k05_whole_what_follows).prog 37).name = ("law" : PySem.Str) := by kernel_rfl
        rw [← e]
        exact hmg0
      have hd : PyI.HeadOk K mg K05.pw K05.es K05.cs := PyI.head_of KX G c (fun f hf => hf) (fun d hd => hd) rfl
      exact PyI.law_F (p := K05.pw) (es := K05.es) (cs := K05.cs) (j := 30) (y := "_law_script") (e := ⟨"law", 37, ["_law_script", "_law_pool_here", "_law_terms_here", "_law_facts", "_law_clause_here", "_law_due", "_law_more", "_law_fact", "_law_further", ".0", "_law_k"], [false]⟩) (fun _ => 0) KX hd K05.ent_ok rfl (by kernel_rfl) hmg K05.law_true
