import PyProof.Rows.All
import Wide.All
import OpenK.AllK
import Wide.FinOn
import HandS.ForMost
import HandS.Exc
import HandS.IsInst
import HandS.DictComp
import HandS.TryOnly
import HandS.Flow
import HandS.Defaults
import HandS.TupAny
import HandS.CallSlots
import HandS.Small
import PyProof.StrOps2
import KE.KEqNest
import HandS.Finally
import PyProof.DictCopy
import KE.KStateDown
import HandS.Ends
import HandS.More
import HandS.Words
import HandS.WordsExc
import HandS.Head0
import HandS.Head1
import HandS.Head2
import HandS.HeadEnd
import HandS.HeadHook1
import HandS.HeadHook2
import HandS.HeadHook3
import HandS.HeadHook4
import PySem.Challenge.RW_trustlinks_k01_whole_values_put_in
set_option Elab.async false
set_option linter.all false
set_option maxRecDepth 100000
set_option maxHeartbeats 1000000
/-! PyI1: data, its place in the abstract heap, worlds and steps between them. -/
namespace PyI
open PySem PySem.Spec PyProof.Rows L2

inductive D where
  | non | bl (b : Bool) | int (i : Int) | str (x : Str)
  | tup (xs : List D) | lst (xs : List D) | dic (kvs : List (Key × D)) | ins (c : Str) (fs : List (Str × D))
  /-- the script: a list of ints that is read alone -/
  | scr (ns : List Int)
  deriving Inhabited

/-- the written part, the classes by name -/
structure Ct where
  K : PySem.W.Frag
  cm : Str → Addr

section
variable (C : Ct)
mutual
inductive Rep (F : Hp) : D → V → Prop
  | non : Rep F .non .non
  | bl (b : Bool) : Rep F (.bl b) (.bl b)
  | int (i : Int) : Rep F (.int i) (.int i)
  | str (x : Str) : Rep F (.str x) (.str x)
  | tup {a : Addr} {vs : List V} {ds : List D} : SqT C.K F a vs → RepL F ds vs → Rep F (.tup ds) (.ref a)
  | lst {a : Addr} {vs : List V} {ds : List D} : F a = some (.lst vs) → RepL F ds vs → Rep F (.lst ds) (.ref a)
  | scr {a : Addr} {ns : List Int} : SqL C.K F a (ns.map V.int) → Rep F (.scr ns) (.ref a)
  | dic {a : Addr} {kvs : List (Key × V)} {ds : List (Key × D)} : Rd F a (.dK kvs) → RepK F ds kvs → Rep F (.dic ds) (.ref a)
  | ins {a dx : Addr} {c : Str} {fs : List (Str × D)} {fvs : List (Str × V)} : F a = some (.ins (C.cm c) dx fvs) → RepF F fs fvs → Rep F (.ins c fs) (.ref a)
inductive RepL (F : Hp) : List D → List V → Prop
  | nil : RepL F [] []
  | cons {d : D} {v : V} {ds : List D} {vs : List V} : Rep F d v → RepL F ds vs → RepL F (d :: ds) (v :: vs)
inductive RepK (F : Hp) : List (Key × D) → List (Key × V) → Prop
  | nil : RepK F [] []
  | cons {k : Key} {d : D} {v : V} {ds : List (Key × D)} {vs : List (Key × V)} : Rep F d v → RepK F ds vs → RepK F ((k, d) :: ds) ((k, v) :: vs)
inductive RepF (F : Hp) : List (Str × D) → List (Str × V) → Prop
  | nil : RepF F [] []
  | cons {k : Str} {d : D} {v : V} {ds : List (Str × D)} {vs : List (Str × V)} : Rep F d v → RepF F ds vs → RepF F ((k, d) :: ds) ((k, v) :: vs)
end
end

/-- what is never locked -/
def fixed : HO → Bool
  | .lst _ => true
  | .ins _ _ _ => true
  | _ => false
/-- what is read in the one is read in the other -/
structure Le (F G : Hp) : Prop where
  rd : ∀ a u, Rd F a u → Rd G a u
  ins : ∀ a o, fixed o = true → F a = some o → G a = some o
theorem Le.refl (F : Hp) : Le F F := ⟨fun _ _ h => h, fun _ _ _ h => h⟩
theorem Le.trans {F G H : Hp} (h : Le F G) (k : Le G H) : Le F H := ⟨fun a u r => k.rd a u (h.rd a u r), fun a o q r => k.ins a o q (h.ins a o q r)⟩
theorem Le.nn {F H : Hp} (h : Le F H) {a : Addr} (n : H a = none) : F a = none := by
  cases e : F a with
  | none => rfl
  | some u =>
    rcases h.rd a u (.inl e) with q | ⟨o, q⟩ <;> rw [n] at q <;> cases q
theorem Le.new {F : Hp} {a : Addr} {o : HO} (n : F a = none) : Le F (upd F a o) := by
  refine ⟨fun b u r => ?_, fun b p f r => ?_⟩
  · rcases r with r | ⟨o', r⟩
    · exact .inl (by rw [upd_ne (ne_of_none r n)]; exact r)
    · exact .inr ⟨o', by rw [upd_ne (ne_of_none r n)]; exact r⟩
  · rw [upd_ne (ne_of_none r n)]; exact r
/-- a new place on both sides -/
theorem Le.both {F H : Hp} {a : Addr} {o : HO} (h : Le F H) (n : H a = none) : Le (upd F a o) (upd H a o) := by
  have nf : F a = none := h.nn n
  refine ⟨fun b u r => ?_, fun b p f r => ?_⟩
  · by_cases e : b = a
    · subst e
      rcases r with r | ⟨o', r⟩
      · rw [upd_same] at r; exact .inl (by rw [upd_same]; exact r)
      · rw [upd_same] at r; exact .inr ⟨o', by rw [upd_same]; exact r⟩
    · rcases r with r | ⟨o', r⟩
      · rw [upd_ne e] at r
        rcases h.rd b u (.inl r) with q | ⟨o', q⟩
        · exact .inl (by rw [upd_ne e]; exact q)
        · exact .inr ⟨o', by rw [upd_ne e]; exact q⟩
      · rw [upd_ne e] at r
        rcases h.rd b u (.inr ⟨o', r⟩) with q | ⟨o', q⟩
        · exact .inl (by rw [upd_ne e]; exact q)
        · exact .inr ⟨o', by rw [upd_ne e]; exact q⟩
  · by_cases e : b = a
    · subst e; rw [upd_same] at r ⊢; exact r
    · rw [upd_ne e] at r ⊢; exact h.ins b p f r
/-- a place that the left does not know is changed on the right -/
theorem Le.chg {F H : Hp} {a : Addr} {o : HO} (h : Le F H) (n : F a = none) : Le F (upd H a o) := by
  refine ⟨fun b u r => ?_, fun b p f r => ?_⟩
  · have e : b ≠ a := by
      rcases r with r | ⟨o', r⟩ <;> exact ne_of_none r n
    rcases h.rd b u r with q | ⟨o', q⟩
    · exact .inl (by rw [upd_ne e]; exact q)
    · exact .inr ⟨o', by rw [upd_ne e]; exact q⟩
  · rw [upd_ne (ne_of_none r n)]; exact h.ins b p f r
/-- a place of the right (no lock) is taken to the left -/
theorem Le.take {F H : Hp} {a : Addr} {o : HO} (h : Le F H) (n : F a = none) (e : H a = some o) (nf : ∀ p u, o ≠ .frz p u) : Le (upd F a o) H := by
  refine ⟨fun b u r => ?_, fun b p f r => ?_⟩
  · by_cases q : b = a
    · subst q
      rcases r with r | ⟨o', r⟩
      · rw [upd_same] at r; cases r; exact .inl e
      · rw [upd_same] at r; cases r; exact absurd rfl (nf o' u)
    · rcases r with r | ⟨o', r⟩
      · rw [upd_ne q] at r; exact h.rd b u (.inl r)
      · rw [upd_ne q] at r; exact h.rd b u (.inr ⟨o', r⟩)
  · by_cases q : b = a
    · subst q; rw [upd_same] at r; cases r; exact e
    · rw [upd_ne q] at r; exact h.ins b p f r

section
variable {C : Ct} {F G H : Hp} {a : Addr}
theorem Le.sqL {K : PySem.W.Frag} {vs : List V} (h : Le F G) (r : SqL K F a vs) : SqL K G a vs := by
  rcases r with r | r
  · exact .inl (h.rd _ _ r)
  · exact .inr r
theorem Le.sqT {K : PySem.W.Frag} {vs : List V} (h : Le F G) (r : SqT K F a vs) : SqT K G a vs := by
  rcases r with r | r
  · exact .inl (h.rd _ _ r)
  · exact .inr r
mutual
theorem Rep.mono (h : Le F G) : ∀ {d : D} {v : V}, Rep C F d v → Rep C G d v
  | _, _, .non => .non
  | _, _, .bl b => .bl b
  | _, _, .int i => .int i
  | _, _, .str x => .str x
  | _, _, .tup s r => .tup (h.sqT s) (RepL.mono h r)
  | _, _, .lst s r => .lst (h.ins _ _ rfl s) (RepL.mono h r)
  | _, _, .scr s => .scr (h.sqL s)
  | _, _, .dic s r => .dic (h.rd _ _ s) (RepK.mono h r)
  | _, _, .ins s r => .ins (h.ins _ _ rfl s) (RepF.mono h r)
theorem RepL.mono (h : Le F G) : ∀ {d : List D} {v : List V}, RepL C F d v → RepL C G d v
  | _, _, .nil => .nil
  | _, _, .cons r s => .cons (Rep.mono h r) (RepL.mono h s)
theorem RepK.mono (h : Le F G) : ∀ {d : List (Key × D)} {v : List (Key × V)}, RepK C F d v → RepK C G d v
  | _, _, .nil => .nil
  | _, _, .cons r s => .cons (Rep.mono h r) (RepK.mono h s)
theorem RepF.mono (h : Le F G) : ∀ {d : List (Str × D)} {v : List (Str × V)}, RepF C F d v → RepF C G d v
  | _, _, .nil => .nil
  | _, _, .cons r s => .cons (Rep.mono h r) (RepF.mono h s)
end
theorem RepL.length : ∀ {ds : List D} {vs : List V}, RepL C F ds vs → vs.length = ds.length
  | _, _, .nil => rfl
  | _, _, .cons _ r => by simp [RepL.length r]
theorem RepL.get : ∀ {ds : List D} {vs : List V} {i : Nat} {d : D}, RepL C F ds vs → ds[i]? = some d → ∃ v, vs[i]? = some v ∧ Rep C F d v
  | _, _, _, _, .nil, e => by simp at e
  | _, _, 0, _, .cons r _, e => by simp at e; subst e; exact ⟨_, rfl, r⟩
  | _, _, i + 1, d, .cons _ r, e => by
    obtain ⟨v, h1, h2⟩ := RepL.get (i := i) (d := d) r (by simpa using e)
    exact ⟨v, by simpa using h1, h2⟩
theorem RepL.getV : ∀ {ds : List D} {vs : List V} {i : Nat} {v : V}, RepL C F ds vs → vs[i]? = some v → ∃ d, ds[i]? = some d ∧ Rep C F d v
  | _, _, _, _, .nil, e => by simp at e
  | _, _, 0, _, .cons r _, e => by simp at e; subst e; exact ⟨_, rfl, r⟩
  | _, _, i + 1, v, .cons _ r, e => by
    obtain ⟨d, h1, h2⟩ := RepL.getV (i := i) (v := v) r (by simpa using e)
    exact ⟨d, by simpa using h1, h2⟩
theorem RepL.append : ∀ {ds es : List D} {vs us : List V}, RepL C F ds vs → RepL C F es us → RepL C F (ds ++ es) (vs ++ us)
  | _, _, _, _, .nil, s => s
  | _, _, _, _, .cons r t, s => .cons r (RepL.append t s)
theorem RepL.take : ∀ {ds : List D} {vs : List V} (n : Nat), RepL C F ds vs → RepL C F (ds.take n) (vs.take n)
  | _, _, 0, _ => by simp; exact .nil
  | _, _, _ + 1, .nil => .nil
  | _, _, n + 1, .cons r t => .cons r (RepL.take n t)
theorem RepL.drop : ∀ {ds : List D} {vs : List V} (n : Nat), RepL C F ds vs → RepL C F (ds.drop n) (vs.drop n)
  | _, _, 0, r => r
  | _, _, _ + 1, .nil => .nil
  | _, _, n + 1, .cons _ t => by simpa using RepL.drop n t
theorem RepL.set {d : D} {v : V} (q : Rep C F d v) : ∀ {ds : List D} {vs : List V} (i : Nat), RepL C F ds vs → RepL C F (ds.set i d) (vs.set i v)
  | _, _, _, .nil => .nil
  | _, _, 0, .cons _ t => .cons q t
  | _, _, i + 1, .cons r t => .cons r (RepL.set q i t)
theorem RepL.reverse {ds : List D} {vs : List V} (h : RepL C F ds vs) : RepL C F ds.reverse vs.reverse := by
  induction ds generalizing vs with
  | nil => cases h; exact .nil
  | cons d ds ih =>
    cases h with
    | cons r t => simp only [List.reverse_cons]; exact (ih t).append (.cons r .nil)
theorem RepL.flat : ∀ {n : Nat} {ds : List D} {vs : List V}, RepL C F ds vs → RepL C F (List.replicate n ds).flatten (List.replicate n vs).flatten
  | 0, _, _, _ => .nil
  | n + 1, _, _, r => by simp only [List.replicate_succ, List.flatten_cons]; exact r.append (RepL.flat r)
theorem RepK.length : ∀ {ds : List (Key × D)} {vs : List (Key × V)}, RepK C F ds vs → vs.length = ds.length
  | _, _, .nil => rfl
  | _, _, .cons _ r => by simp [RepK.length r]
theorem RepK.keys : ∀ {ds : List (Key × D)} {vs : List (Key × V)}, RepK C F ds vs → vs.map (·.1) = ds.map (·.1)
  | _, _, .nil => rfl
  | _, _, .cons _ r => by simp [RepK.keys r]
theorem RepK.getV : ∀ {ds : List (Key × D)} {vs : List (Key × V)} {i : Nat} {k : Key} {v : V}, RepK C F ds vs → vs[i]? = some (k, v) → ∃ d, ds[i]? = some (k, d) ∧ Rep C F d v
  | _, _, _, _, _, .nil, e => by simp at e
  | _, _, 0, _, _, .cons r _, e => by simp at e; obtain ⟨rfl, rfl⟩ := e; exact ⟨_, rfl, r⟩
  | _, _, i + 1, k, v, .cons _ r, e => by
    obtain ⟨d, h1, h2⟩ := RepK.getV (i := i) (k := k) (v := v) r (by simpa using e)
    exact ⟨d, by simpa using h1, h2⟩
/-- a table's value -/
def look (kvs : List (Key × D)) (k : Key) : Option D := (kvs.find? fun kv => decide (kv.1 = k)).map (·.2)
def put (kvs : List (Key × D)) (k : Key) (d : D) : List (Key × D) :=
  if (kvs.any fun kv => decide (kv.1 = k)) = true then kvs.map (fun kv => if kv.1 = k then (kv.1, d) else kv) else kvs ++ [(k, d)]
def RepO (C : Ct) (F : Hp) : Option D → Option V → Prop
  | some d, some v => Rep C F d v
  | none, none => True
  | _, _ => False
theorem RepK.look (k : Key) : ∀ {ds : List (Key × D)} {vs : List (Key × V)}, RepK C F ds vs → RepO C F (PyI.look ds k) (valV vs k)
  | _, _, .nil => trivial
  | _, _, .cons (k := j) r t => by
    by_cases e : j = k
    · subst e; simp [PyI.look, valV, RepO, r]
    · have := RepK.look k t
      simpa [PyI.look, valV, e] using this
theorem RepK.any (k : Key) : ∀ {ds : List (Key × D)} {vs : List (Key × V)}, RepK C F ds vs → (ds.any fun kv => decide (kv.1 = k)) = (vs.any fun kv => decide (kv.1 = k))
  | _, _, .nil => rfl
  | _, _, .cons r t => by simp only [List.any_cons, RepK.any k t]
theorem RepK.repl (k : Key) {d : D} {v : V} (q : Rep C F d v) : ∀ {ds : List (Key × D)} {vs : List (Key × V)}, RepK C F ds vs →
    RepK C F (ds.map fun kv => if kv.1 = k then (kv.1, d) else kv) (vs.map fun kv => if kv.1 = k then (kv.1, v) else kv)
  | _, _, .nil => .nil
  | _, _, .cons (k := j) r t => by
    simp only [List.map_cons]
    by_cases e : j = k
    · rw [if_pos e, if_pos e]; exact .cons q (RepK.repl k q t)
    · rw [if_neg e, if_neg e]; exact .cons r (RepK.repl k q t)
theorem RepK.append : ∀ {ds es : List (Key × D)} {vs us : List (Key × V)}, RepK C F ds vs → RepK C F es us → RepK C F (ds ++ es) (vs ++ us)
  | _, _, _, _, .nil, s => s
  | _, _, _, _, .cons r t, s => .cons r (RepK.append t s)
theorem RepK.put (k : Key) {d : D} {v : V} {ds : List (Key × D)} {vs : List (Key × V)} (r : RepK C F ds vs) (q : Rep C F d v) : RepK C F (PyI.put ds k d) (putK vs k v) := by
  unfold PyI.put putK
  rw [← r.any k]
  split
  · exact r.repl k q
  · exact r.append (.cons q .nil)
theorem RepF.lookup (f : Str) : ∀ {ds : List (Str × D)} {vs : List (Str × V)}, RepF C F ds vs → RepO C F (ds.lookup f) (vs.lookup f)
  | _, _, .nil => trivial
  | _, _, .cons (k := j) r t => by
    simp only [List.lookup_cons]
    cases f == j with
    | true => exact r
    | false => exact RepF.lookup f t
end

/-- read in H, its parts in F -/
inductive RepS (C : Ct) (F H : Hp) : D → V → Prop
  | non : RepS C F H .non .non
  | bl (b : Bool) : RepS C F H (.bl b) (.bl b)
  | int (i : Int) : RepS C F H (.int i) (.int i)
  | str (x : Str) : RepS C F H (.str x) (.str x)
  | tup {a : Addr} {vs : List V} {ds : List D} : SqT C.K F a vs → RepL C F ds vs → RepS C F H (.tup ds) (.ref a)
  | lst {a : Addr} {vs : List V} {ds : List D} : H a = some (.lst vs) → RepL C F ds vs → RepS C F H (.lst ds) (.ref a)
  | scr {a : Addr} {ns : List Int} : SqL C.K H a (ns.map V.int) → RepS C F H (.scr ns) (.ref a)
  | dic {a : Addr} {kvs : List (Key × V)} {ds : List (Key × D)} : Rd H a (.dK kvs) → RepK C F ds kvs → RepS C F H (.dic ds) (.ref a)
  | ins {a dx : Addr} {c : Str} {fs : List (Str × D)} {fvs : List (Str × V)} : H a = some (.ins (C.cm c) dx fvs) → RepF C F fs fvs → RepS C F H (.ins c fs) (.ref a)
theorem Rep.s {C : Ct} {F H : Hp} {d : D} {v : V} (h : Le F H) (r : Rep C F d v) : RepS C F H d v := by
  cases r with
  | non => exact .non
  | bl b => exact .bl b
  | int i => exact .int i
  | str x => exact .str x
  | tup s r => exact .tup s r
  | lst s r => exact .lst (h.ins _ _ rfl s) r
  | scr s => exact .scr (h.sqL s)
  | dic s r => exact .dic (h.rd _ _ s) r
  | ins s r => exact .ins (h.ins _ _ rfl s) r

/-- at a an object that may be changed holds d -/
inductive Own (C : Ct) (F H : Hp) (a : Addr) : D → Prop
  | lst {vs : List V} {ds : List D} : H a = some (.lst vs) → RepL C F ds vs → Own C F H a (.lst ds)
  | dic {kvs : List (Key × V)} {ds : List (Key × D)} : H a = some (.dK kvs) → RepK C F ds kvs → Own C F H a (.dic ds)
  | ins {dx : Addr} {c : Str} {fs : List (Str × D)} {fvs : List (Str × V)} : H a = some (.ins (C.cm c) dx fvs) → RepF C F fs fvs → Own C F H a (.ins c fs)
section
variable {C : Ct} {F F' H H' : Hp} {a : Addr} {d : D}
theorem Own.s (o : Own C F H a d) : RepS C F H d (.ref a) := by
  cases o with
  | lst e r => exact .lst e r
  | dic e r => exact .dic (.inl e) r
  | ins e r => exact .ins e r
theorem Own.ex (o : Own C F H a d) : ∃ u, H a = some u ∧ ∀ p v, u ≠ .frz p v := by
  cases o with
  | lst e r => exact ⟨_, e, fun _ _ z => nomatch z⟩
  | dic e r => exact ⟨_, e, fun _ _ z => nomatch z⟩
  | ins e r => exact ⟨_, e, fun _ _ z => nomatch z⟩
theorem Own.ne (o : Own C F H a d) : H a ≠ none := by
  obtain ⟨u, e, _⟩ := o.ex
  rw [e]; exact fun z => nomatch z
theorem Own.keep (o : Own C F H a d) (h : Le F F') (e : H' a = H a) : Own C F' H' a d := by
  cases o with
  | lst q r => exact .lst (e.trans q) (r.mono h)
  | dic q r => exact .dic (e.trans q) (r.mono h)
  | ins q r => exact .ins (e.trans q) (r.mono h)
theorem Own.frozen (o : Own C F H a d) (h : Le F H) (n : F a = none) : ∃ u, H a = some u ∧ Le F (upd F a u) ∧ Le (upd F a u) H ∧ Rep C (upd F a u) d (.ref a) := by
  obtain ⟨u, e, nf⟩ := o.ex
  have l1 : Le F (upd F a u) := Le.new n
  refine ⟨u, e, l1, h.take n e nf, ?_⟩
  cases o with
  | lst q r => rw [e] at q; cases q; exact .lst upd_same (r.mono l1)
  | dic q r => rw [e] at q; cases q; exact .dic (.inl upd_same) (r.mono l1)
  | ins q r => rw [e] at q; cases q; exact .ins upd_same (r.mono l1)
end

/-! ### slots, worlds -/
inductive Slot where
  | no | val (d : D) | own (k : Bool) (d : D)
  deriving Inhabited
def Slot.keep : Slot → Bool
  | .own true _ => true
  | _ => false
theorem Slot.keep_own {sl : Slot} (h : sl.keep = false) (d : D) : sl ≠ .own true d := fun e => by rw [e] at h; cases h
abbrev Env := List Slot
structure Wd where
  F : Hp
  H : Hp
  sg : L2.St
  en : Env
def Ow (w : Wd) (x : Addr) : Prop := ∃ (i : Nat) (k : Bool) (d : D), w.en[i]? = some (.own k d) ∧ w.sg[i]? = some (some (.ref x))
structure SR (C : Ct) (w : Wd) : Prop where
  le : Le w.F w.H
  len : w.sg.length = w.en.length
  val : ∀ (i : Nat) (d : D), w.en[i]? = some (.val d) → ∃ v, w.sg[i]? = some (some v) ∧ Rep C w.F d v
  own : ∀ (i : Nat) (k : Bool) (d : D), w.en[i]? = some (.own k d) → ∃ a, w.sg[i]? = some (some (.ref a)) ∧ w.F a = none ∧ Own C w.F w.H a d
  sep : ∀ (i j : Nat) (k k' : Bool) (d e : D) (a : Addr), w.en[i]? = some (.own k d) → w.en[j]? = some (.own k' e) → w.sg[i]? = some (some (.ref a)) → w.sg[j]? = some (some (.ref a)) → i = j
/-- what stands at x stays; a dict of the frozen part may be locked -/
def KpR (bF bH : Hp) (x : Addr) (o : HO) : Prop := bH x = some o ∨ (bF x ≠ none ∧ ∃ kvs od, o = .dK kvs ∧ bH x = some (.frz od (.dK kvs)))
theorem KpR.mono {F F' H : Hp} {x : Addr} {o : HO} (h : KpR F H x o) (l : Le F F') : KpR F' H x o := by
  rcases h with h | ⟨h, r⟩
  · exact .inl h
  · exact .inr ⟨fun z => h (l.nn z), r⟩
theorem KpR.eqF {F H : Hp} {x : Addr} {o : HO} (h : KpR F H x o) (n : F x = none) : H x = some o := by
  rcases h with h | ⟨h, _⟩
  · exact h
  · exact absurd n h
theorem KpR.eqN {F H : Hp} {x : Addr} {o : HO} (h : KpR F H x o) (n : ∀ kvs, o ≠ .dK kvs) : H x = some o := by
  rcases h with h | ⟨_, kvs, od, e, _⟩
  · exact h
  · exact absurd e (n kvs)
structure Go (C : Ct) (a b : Wd) : Prop where
  sr : SR C b
  le : Le a.F b.F
  fr : ∀ x, b.F x ≠ none → a.F x ≠ none ∨ a.H x = none ∨ Ow a x
  kp : ∀ x o, a.H x = some o → ¬ Ow a x → KpR b.F b.H x o
  ow : ∀ x, Ow b x → Ow a x ∨ a.H x = none
  nv : ∀ x, a.H x ≠ none → b.H x ≠ none
  kt : ∀ (i : Nat) (d : D), a.en[i]? = some (.own true d) → (∃ d', b.en[i]? = some (.own true d')) ∧ b.sg[i]? = a.sg[i]?
  ln : b.en.length = a.en.length
section
variable {C : Ct} {a b c : Wd}
theorem SR.owF (s : SR C a) {x : Addr} (h : Ow a x) : a.F x = none ∧ a.H x ≠ none := by
  obtain ⟨i, k, d, h1, h2⟩ := h
  obtain ⟨y, e1, e2, e3⟩ := s.own i k d h1
  rw [h2] at e1; cases e1
  exact ⟨e2, e3.ne⟩
theorem Go.refl (s : SR C a) : Go C a a := ⟨s, Le.refl _, fun _ h => .inl h, fun _ _ h _ => .inl h, fun _ h => .inl h, fun _ h => h, fun i d h => ⟨⟨d, h⟩, rfl⟩, rfl⟩
theorem Go.trans (g : Go C a b) (h : Go C b c) : Go C a c where
  sr := h.sr
  le := g.le.trans h.le
  fr := fun x q => by
    rcases h.fr x q with r | r | r
    · exact g.fr x r
    · exact .inr (.inl (Classical.byContradiction fun z => g.nv x z r))
    · rcases g.ow x r with z | z
      · exact .inr (.inr z)
      · exact .inr (.inl z)
  kp := fun x o e n => by
    have n2 : ¬ Ow b x := fun z => by
      rcases g.ow x z with y | y
      · exact n y
      · rw [e] at y; cases y
    rcases g.kp x o e n with q | ⟨f, kvs, od, rfl, q⟩
    · exact h.kp x o q n2
    · exact .inr ⟨fun z => f (h.le.nn z), kvs, od, rfl, (h.kp x _ q n2).eqN fun _ z => nomatch z⟩
  ow := fun x q => by
    rcases h.ow x q with r | r
    · exact g.ow x r
    · exact .inr (Classical.byContradiction fun z => g.nv x z r)
  nv := fun x q => h.nv x (g.nv x q)
  kt := fun i d q => by
    obtain ⟨⟨d', r⟩, e⟩ := g.kt i d q
    obtain ⟨r', e'⟩ := h.kt i d' r
    exact ⟨r', e'.trans e⟩
  ln := h.ln.trans g.ln
/-- a place that is not there stays unknown to the frozen part while it is new -/
theorem Go.nF (g : Go C a b) {x : Addr} (h1 : a.F x = none) (h2 : a.H x ≠ none) (h3 : ¬ Ow a x) : b.F x = none := Classical.byContradiction fun z => by
  rcases g.fr x z with r | r | r
  · exact r h1
  · exact h2 r
  · exact h3 r
theorem Go.nO (g : Go C a b) {x : Addr} (h2 : a.H x ≠ none) (h3 : ¬ Ow a x) : ¬ Ow b x := fun z => by
  rcases g.ow x z with r | r
  · exact h3 r
  · exact h2 r
end

/-! ### operands -/
inductive Op where
  | v (d : D) | f (d : D) | s (i : Nat)
  deriving Inhabited
def deref (ρ : Env) : Op → Option D
  | .v d => some d
  | .f d => some d
  | .s i => match ρ[i]? with
    | some (.own _ d) => some d
    | some (.val d) => some d
    | _ => none
/-- frozen: what may be kept -/
def frz (ρ : Env) : Op → Option (D × Env)
  | .v d => some (d, ρ)
  | .f d => some (d, ρ)
  | .s i => match ρ[i]? with
    | some (.own false d) => some (d, ρ.set i (.val d))
    | some (.val d) => some (d, ρ)
    | _ => none
def RepOp (C : Ct) (H0 : Hp) (w : Wd) : Op → V → Prop
  | .v d, v => Rep C w.F d v
  | .f d, v => ∃ x, v = .ref x ∧ H0 x = none ∧ w.F x = none ∧ ¬ Ow w x ∧ Own C w.F w.H x d
  | .s i, v => w.sg[i]? = some (some v)
section
variable {C : Ct} {H0 : Hp} {a b : Wd} {op : Op} {v : V} {d : D}
theorem RepOp.carry (g : Go C a b) (e : b.sg = a.sg) (r : RepOp C H0 a op v) : RepOp C H0 b op v := by
  cases op with
  | v d => exact Rep.mono g.le r
  | f d =>
    obtain ⟨x, rfl, h0, hf, ho, hn⟩ := r
    obtain ⟨u, hu, _⟩ := hn.ex
    exact ⟨x, rfl, h0, g.nF hf hn.ne ho, g.nO hn.ne ho, hn.keep g.le (((g.kp x u hu ho).eqF (g.nF hf hn.ne ho)).trans hu.symm)⟩
  | s i => show b.sg[i]? = _; rw [e]; exact r
theorem RepOp.weaken {H1 : Hp} (h : ∀ x, H0 x = none → H1 x = none) (r : RepOp C H0 a op v) : RepOp C H1 a op v := by
  cases op with
  | v d => exact r
  | f d => obtain ⟨x, h1, h2, h3⟩ := r; exact ⟨x, h1, h x h2, h3⟩
  | s i => exact r
/-- an operand, to be read -/
theorem RepOp.read (s : SR C a) (e : deref a.en op = some d) (r : RepOp C H0 a op v) : RepS C a.F a.H d v := by
  cases op with
  | v d' => cases e; exact Rep.s s.le r
  | f d' => cases e; obtain ⟨x, rfl, _, _, _, hn⟩ := r; exact hn.s
  | s i =>
    have r' : a.sg[i]? = some (some v) := r
    simp only [deref] at e
    split at e
    · rename_i k d' h
      cases e
      obtain ⟨x, e1, e2, e3⟩ := s.own i _ _ h
      rw [r'] at e1; cases e1
      exact e3.s
    · rename_i d' h
      cases e
      obtain ⟨x, e1, e2⟩ := s.val i _ h
      rw [r'] at e1; cases e1
      exact Rep.s s.le e2
    · cases e
end
theorem get_set_some {α : Type} {l : List α} {i j : Nat} {x y : α} (h : (l.set i x)[j]? = some y) : (j = i ∧ y = x) ∨ (j ≠ i ∧ l[j]? = some y) := by
  by_cases e : j = i
  · subst e
    refine .inl ⟨rfl, ?_⟩
    have hl : j < l.length := by
      have := (List.getElem?_eq_some_iff.mp h).1
      simpa using this
    rw [List.getElem?_set_self hl] at h
    exact (Option.some.inj h).symm
  · rw [List.getElem?_set_ne (Ne.symm e)] at h
    exact .inr ⟨e, h⟩
section
variable {C : Ct} {H0 : Hp} {a : Wd} {op : Op} {v : V} {d : D} {ρ' : Env}
/-- an own slot freezes -/
theorem SR.freezeSlot {i : Nat} {k : Bool} {d : D} (s : SR C a) (h : a.en[i]? = some (.own k d)) (hk : k = false) : ∃ x u, a.sg[i]? = some (some (.ref x)) ∧ Go C a ⟨upd a.F x u, a.H, a.sg, a.en.set i (.val d)⟩ ∧ Rep C (upd a.F x u) d (.ref x) := by
  subst hk
  obtain ⟨x, e1, e2, e3⟩ := s.own i _ _ h
  obtain ⟨u, hu, l1, l2, r⟩ := e3.frozen s.le e2
  have hi : i < a.en.length := (List.getElem?_eq_some_iff.mp h).1
  have ow' : ∀ y, Ow ⟨upd a.F x u, a.H, a.sg, a.en.set i (.val d)⟩ y → Ow a y ∧ y ≠ x := fun y ⟨j, k, d', q1, q2⟩ => by
    rcases get_set_some q1 with ⟨_, z⟩ | ⟨z, q⟩
    · cases z
    · exact ⟨⟨j, k, d', q, q2⟩, fun e => z (s.sep j i k false d' d x q h (by rw [← e]; exact q2) e1)⟩
  refine ⟨x, u, e1, ⟨⟨l2, by simpa using s.len, fun j d' q => ?_, fun j k d' q => ?_, fun j j' k k' d' e' y q1 q2 => ?_⟩, l1, fun y q => ?_, fun _ _ h _ => .inl h, fun y q => .inl (ow' y q).1, fun _ h => h, fun j d' q => ?_, by simp⟩, r⟩
  · rcases get_set_some q with ⟨z1, z⟩ | ⟨_, q⟩
    · cases z; subst z1; exact ⟨_, e1, r⟩
    · obtain ⟨w, q1, q2⟩ := s.val j d' q
      exact ⟨w, q1, q2.mono l1⟩
  · rcases get_set_some q with ⟨_, z⟩ | ⟨z, q⟩
    · cases z
    · obtain ⟨y, q1, q2, q3⟩ := s.own j k d' q
      have ne : y ≠ x := fun e => z (s.sep j i k false d' d x q h (by rw [← e]; exact q1) e1)
      exact ⟨y, q1, (upd_ne ne).trans q2, q3.keep l1 rfl⟩
  · rcases get_set_some q1 with ⟨_, z⟩ | ⟨_, q1⟩
    · cases z
    · rcases get_set_some q2 with ⟨_, z⟩ | ⟨_, q2⟩
      · cases z
      · exact s.sep j j' k k' d' e' y q1 q2
  · by_cases e : y = x
    · subst e; exact .inr (.inr ⟨i, false, d, h, e1⟩)
    · exact .inl (by have q : (upd a.F x u) y ≠ none := q; rw [upd_ne e] at q; exact q)
  · have ne : j ≠ i := fun e => by subst e; rw [h] at q; cases q
    exact ⟨⟨d', by show (a.en.set i (.val d))[j]? = _; rw [List.getElem?_set_ne (Ne.symm ne)]; exact q⟩, rfl⟩
/-- a fresh object freezes -/
theorem SR.freezeNew {x : Addr} (s : SR C a) (hf : a.F x = none) (ho : ¬ Ow a x) (hn : Own C a.F a.H x d) (h0 : H0 x = none) :
    ∃ u, SR C ⟨upd a.F x u, a.H, a.sg, a.en⟩ ∧ Le a.F (upd a.F x u) ∧ Rep C (upd a.F x u) d (.ref x) := by
  obtain ⟨u, hu, l1, l2, r⟩ := hn.frozen s.le hf
  refine ⟨u, ⟨l2, s.len, fun j d' q => ?_, fun j k d' q => ?_, s.sep⟩, l1, r⟩
  · obtain ⟨w, q1, q2⟩ := s.val j d' q
    exact ⟨w, q1, q2.mono l1⟩
  · obtain ⟨y, q1, q2, q3⟩ := s.own j k d' q
    have ne : y ≠ x := fun e => ho ⟨j, k, d', q, by rw [← e]; exact q1⟩
    exact ⟨y, q1, (upd_ne ne).trans q2, q3.keep l1 rfl⟩
end
/-- from a to b, then b's operand frozen -/
theorem Go.frz {C : Ct} {a b : Wd} {op : Op} {v : V} {d : D} {ρ' : Env} (g : Go C a b) (e : frz b.en op = some (d, ρ')) (r : RepOp C a.H b op v) :
    ∃ F', Go C a ⟨F', b.H, b.sg, ρ'⟩ ∧ Rep C F' d v := by
  cases op with
  | v d' => cases e; exact ⟨b.F, g, r⟩
  | f d' =>
    cases e
    obtain ⟨x, rfl, h0, hf, ho, hn⟩ := r
    obtain ⟨u, s1, l1, r1⟩ := g.sr.freezeNew hf ho hn h0
    refine ⟨upd b.F x u, ⟨s1, g.le.trans l1, fun y q => ?_, fun y q e n => (g.kp y q e n).mono l1, g.ow, g.nv, g.kt, g.ln⟩, r1⟩
    by_cases e : y = x
    · subst e; exact .inr (.inl h0)
    · exact g.fr y (by have q : (upd b.F x u) y ≠ none := q; rw [upd_ne e] at q; exact q)
  | s i =>
    have r' : b.sg[i]? = some (some v) := r
    simp only [PyI.frz] at e
    split at e
    · rename_i d' h
      cases e
      obtain ⟨x, u, e1, g1, r1⟩ := g.sr.freezeSlot h rfl
      rw [r'] at e1; cases e1
      exact ⟨_, g.trans g1, r1⟩
    · rename_i d' h
      cases e
      obtain ⟨x, e1, e2⟩ := g.sr.val i _ h
      rw [r'] at e1; cases e1
      exact ⟨b.F, g, e2⟩
    · cases e
end PyI
set_option maxHeartbeats 1000000
/-! PyI2: results, readings, operations. -/
namespace PyI
open PySem PySem.Spec PyProof.Rows L2

inductive Res (α : Type) where
  | ok (a : α) (ρ : Env) | exc (c : Str) (fs : List (Str × D)) (ρ : Env) | bad
  deriving Inhabited
def Res.bind {α β : Type} (r : Res α) (f : α → Env → Res β) : Res β := match r with
  | .ok a ρ => f a ρ
  | .exc c fs ρ => .exc c fs ρ
  | .bad => .bad
abbrev Fe := Env → Res Op
abbrev Ft := Env → Res Bool
abbrev Fa := Env → Res (List Op)

/-- an exception of the class c, its fields -/
def ExcOf (C : Ct) (c : Str) (fs : List (Str × D)) (cls : Value) (d : Option Addr) (F H : Hp) : Prop :=
  cls = Value.ref (C.cm c) ∧ ((fs = [] ∧ d = none) ∨ ∃ dx fvs, d = some dx ∧ H dx = some (.xd fvs) ∧ RepF C F fs fvs)

/-- from w the run ends as r says, and there R is wanted -/
def Kw (C : Ct) (W : WX) (w : Wd) {α : Type} (R : Wd → α → Prop) (r : Res α) : Prop := match r with
  | .ok a ρ' => ∀ F' H', Go C w ⟨F', H', w.sg, ρ'⟩ → R ⟨F', H', w.sg, ρ'⟩ a
  | .exc c fs ρ' => ∀ cls d F' H', Go C w ⟨F', H', w.sg, ρ'⟩ → ExcOf C c fs cls d F' H' → W cls d w.sg H'
  | .bad => False
section
variable {C : Ct} {W : WX} {w : Wd} {α β : Type}
theorem Kw.shift {R : Wd → α → Prop} {r : Res α} {F1 H1 : Hp} {ρ1 : Env} (g : Go C w ⟨F1, H1, w.sg, ρ1⟩) (h : Kw C W w R r) : Kw C W ⟨F1, H1, w.sg, ρ1⟩ R r := by
  cases r with
  | ok a ρ' => exact fun F' H' g' => h F' H' (g.trans g')
  | exc c fs ρ' => exact fun cls d F' H' g' x => h cls d F' H' (g.trans g') x
  | bad => exact h
theorem Kw.bind {R : Wd → β → Prop} {R' : Wd → α → Prop} {r : Res α} {f : α → Env → Res β} (h : Kw C W w R (r.bind f))
    (k : ∀ a ρ1 F1 H1, r = .ok a ρ1 → Go C w ⟨F1, H1, w.sg, ρ1⟩ → Kw C W ⟨F1, H1, w.sg, ρ1⟩ R (f a ρ1) → R' ⟨F1, H1, w.sg, ρ1⟩ a) : Kw C W w R' r := by
  cases r with
  | ok a ρ' => exact fun F' H' g => k a ρ' F' H' rfl g (Kw.shift g h)
  | exc c fs ρ' => exact h
  | bad => exact h
theorem Kw.imp {R R' : Wd → α → Prop} {r : Res α} (h : Kw C W w R r) (k : ∀ a ρ1 F1 H1, r = .ok a ρ1 → Go C w ⟨F1, H1, w.sg, ρ1⟩ → R ⟨F1, H1, w.sg, ρ1⟩ a → R' ⟨F1, H1, w.sg, ρ1⟩ a) : Kw C W w R' r := by
  cases r with
  | ok a ρ' => exact fun F' H' g => k a ρ' F' H' rfl g (h F' H' g)
  | exc c fs ρ' => exact h
  | bad => exact h
end
/-- the end that an expression, a test, a list of arguments has -/
abbrev RE (C : Ct) (H : Hp) (Q : VK) : Wd → Op → Prop := fun w' op => ∀ v, RepOp C H w' op v → Q v w'.H
abbrev RT (Q : Bool → Hp → Prop) : Wd → Bool → Prop := fun w' b => Q b w'.H
inductive RepOps (C : Ct) (H0 : Hp) (w : Wd) : List Op → List V → Prop
  | nil : RepOps C H0 w [] []
  | cons {op : Op} {v : V} {ops : List Op} {vs : List V} : RepOp C H0 w op v → RepOps C H0 w ops vs → RepOps C H0 w (op :: ops) (v :: vs)
abbrev RA (C : Ct) (H : Hp) (Q : List V → Hp → Prop) : Wd → List Op → Prop := fun w' ops => ∀ vs, RepOps C H w' ops vs → Q vs w'.H
def tE (C : Ct) (W : WX) (f : Fe) : TE := fun σ H Q => ∃ F ρ, SR C ⟨F, H, σ, ρ⟩ ∧ Kw C W ⟨F, H, σ, ρ⟩ (RE C H Q) (f ρ)
def tT (C : Ct) (W : WX) (f : Ft) : TT := fun σ H Q => ∃ F ρ, SR C ⟨F, H, σ, ρ⟩ ∧ Kw C W ⟨F, H, σ, ρ⟩ (RT Q) (f ρ)
def tA (C : Ct) (W : WX) (f : Fa) : TA := fun σ H Q => ∃ F ρ, SR C ⟨F, H, σ, ρ⟩ ∧ Kw C W ⟨F, H, σ, ρ⟩ (RA C H Q) (f ρ)
section
variable {C : Ct} {H0 H1 : Hp} {a b : Wd} {ops : List Op} {vs : List V}
theorem RepOps.carry (g : Go C a b) (e : b.sg = a.sg) : ∀ {ops : List Op} {vs : List V}, RepOps C H0 a ops vs → RepOps C H0 b ops vs
  | _, _, .nil => .nil
  | _, _, .cons r t => .cons (r.carry g e) (RepOps.carry g e t)
theorem RepOps.weaken (h : ∀ x, H0 x = none → H1 x = none) : ∀ {ops : List Op} {vs : List V}, RepOps C H0 a ops vs → RepOps C H1 a ops vs
  | _, _, .nil => .nil
  | _, _, .cons r t => .cons (r.weaken h) (RepOps.weaken h t)
theorem RepOps.length : ∀ {ops : List Op} {vs : List V}, RepOps C H0 a ops vs → vs.length = ops.length
  | _, _, .nil => rfl
  | _, _, .cons _ t => by simp [RepOps.length t]
end
theorem Go.h0 {C : Ct} {a b : Wd} (g : Go C a b) {x : Addr} (h : b.H x = none) : a.H x = none := Classical.byContradiction fun z => g.nv x z h

/-! ### weaker readings -/
section
variable {X : Cx}
theorem PEimp {e : Expr} {t t' : TE} (h : PE X e t) (k : ∀ σ H Q, t' σ H Q → t σ H Q) : PE X e t' := ⟨fun pins s σ H Q I q => h.run pins s σ H Q I (k σ H Q q)⟩
theorem PTimp {e : Expr} {t t' : TT} (h : PT X e t) (k : ∀ σ H Q, t' σ H Q → t σ H Q) : PT X e t' := ⟨fun pins s σ H Q I q => h.run pins s σ H Q I (k σ H Q q)⟩
theorem PWimp {e : Expr} {t t' : TT} (h : PW X e t) (k : ∀ σ H Q, t' σ H Q → t σ H Q) : PW X e t' := ⟨fun wh pins s σ H Q I q => h.run wh pins s σ H Q I (k σ H Q q)⟩
theorem PAimp {e : List Expr} {t t' : TA} (h : PA X e t) (k : ∀ σ H Q, t' σ H Q → t σ H Q) : PA X e t' := ⟨fun p pins s σ H Q I q => h.run p pins s σ H Q I (k σ H Q q)⟩
theorem PSimp {e : Stmt} {t t' : TS} (h : PS X e t) (k : ∀ D σ H, t' D σ H → t D σ H) : PS X e t' := ⟨fun pins s σ H D I q => h.run pins s σ H D I (k D σ H q)⟩
theorem PSsimp {e : List Stmt} {t t' : TS} (h : PSs X e t) (k : ∀ D σ H, t' D σ H → t D σ H) : PSs X e t' := ⟨fun pins s σ H D I q => h.run pins s σ H D I (k D σ H q)⟩
theorem PEor {e : Expr} {t t' : TE} (h : PE X e t) (k : PE X e t') : PE X e (fun σ H Q => t σ H Q ∨ t' σ H Q) :=
  ⟨fun pins s σ H Q I q => q.elim (h.run pins s σ H Q I) (k.run pins s σ H Q I)⟩
theorem PSor {e : Stmt} {t t' : TS} (h : PS X e t) (k : PS X e t') : PS X e (fun D σ H => t D σ H ∨ t' D σ H) :=
  ⟨fun pins s σ H D I q => q.elim (h.run pins s σ H D I) (k.run pins s σ H D I)⟩
theorem PGor {e : Expr} {t t' : TG} (h : PG X e t) (k : PG X e t') : PG X e (fun v σ H Q => t v σ H Q ∨ t' v σ H Q) :=
  ⟨fun pins s σ H v u Q I r q => q.elim (h.run pins s σ H v u Q I r) (k.run pins s σ H v u Q I r)⟩
theorem PIor {tg e : Expr} {t t' : TI} (h : PI X tg e t) (k : PI X tg e t') : PI X tg e (fun σ H R => t σ H R ∨ t' σ H R) :=
  ⟨fun pins s σ H R I q => q.elim (h.run pins s σ H R I) (k.run pins s σ H R I)⟩
end

/-! ### a result of an operation -/
/-- what an operation's end wants: a value as it stands, or a new object -/
def Done (C : Ct) (F H : Hp) (Q : VK) : Op → Prop
  | .v d => (∀ v, Rep C F d v → Q v H) ∧ ∀ p o, H p = none → Rep C (upd F p o) d (.ref p) → Q (.ref p) (upd H p o)
  | .f d => ∀ p o, H p = none → Own C F (upd H p o) p d → Q (.ref p) (upd H p o)
  | .s _ => False
def res (o : Option Op) (ρ : Env) : Res Op := match o with
  | some op => .ok op ρ
  | none => .bad
section
variable {C : Ct} {W : WX} {w : Wd}
/-- a new object: known to both sides -/
theorem SR.newBoth (s : SR C w) {p : Addr} {o : HO} (n : w.H p = none) : Go C w ⟨upd w.F p o, upd w.H p o, w.sg, w.en⟩ := by
  have nf := s.le.nn n
  have l1 : Le w.F (upd w.F p o) := Le.new nf
  refine ⟨⟨s.le.both n, s.len, fun i d q => ?_, fun i k d q => ?_, s.sep⟩, l1, fun x q => ?_, fun x u q _ => ?_, fun x q => .inl q, fun x q => ?_, fun i d q => ⟨⟨d, q⟩, rfl⟩, rfl⟩
  · obtain ⟨v, q1, q2⟩ := s.val i d q
    exact ⟨v, q1, q2.mono l1⟩
  · obtain ⟨y, q1, q2, q3⟩ := s.own i k d q
    have ne : y ≠ p := fun e => q3.ne (by rw [e]; exact n)
    exact ⟨y, q1, (upd_ne ne).trans q2, q3.keep l1 (upd_ne ne)⟩
  · by_cases e : x = p
    · subst e; exact .inr (.inl n)
    · exact .inl (by have q : (upd w.F p o) x ≠ none := q; rw [upd_ne e] at q; exact q)
  · left; show upd w.H p o x = _; rw [upd_ne (ne_of_none q n)]; exact q
  · show upd w.H p o x ≠ none
    by_cases e : x = p
    · rw [e, upd_same]; exact fun z => nomatch z
    · rw [upd_ne e]; exact q
/-- a new object: in the heap alone -/
theorem SR.newHeap (s : SR C w) {p : Addr} {o : HO} (n : w.H p = none) : Go C w ⟨w.F, upd w.H p o, w.sg, w.en⟩ := by
  have nf := s.le.nn n
  refine ⟨⟨s.le.chg nf, s.len, s.val, fun i k d q => ?_, s.sep⟩, Le.refl _, fun x q => .inl q, fun x u q _ => ?_, fun x q => .inl q, fun x q => ?_, fun i d q => ⟨⟨d, q⟩, rfl⟩, rfl⟩
  · obtain ⟨y, q1, q2, q3⟩ := s.own i k d q
    have ne : y ≠ p := fun e => q3.ne (by rw [e]; exact n)
    exact ⟨y, q1, q2, q3.keep (Le.refl _) (upd_ne ne)⟩
  · left; show upd w.H p o x = _; rw [upd_ne (ne_of_none q n)]; exact q
  · show upd w.H p o x ≠ none
    by_cases e : x = p
    · rw [e, upd_same]; exact fun z => nomatch z
    · rw [upd_ne e]; exact q
theorem done_of {H0 : Hp} {Q : VK} {o : Option Op} (s : SR C w) (h0 : ∀ x, w.H x = none → H0 x = none) (ns : ∀ i, o ≠ some (.s i)) (h : Kw C W w (RE C H0 Q) (res o w.en)) : ∃ op, o = some op ∧ Done C w.F w.H Q op := by
  cases o with
  | none => exact h.elim
  | some op =>
    refine ⟨op, rfl, ?_⟩
    cases op with
    | v d => exact ⟨fun v r => h w.F w.H (Go.refl s) v r, fun p o n r => h _ _ (s.newBoth n) (.ref p) r⟩
    | f d =>
      exact fun p o n r => h _ _ (s.newHeap n) (.ref p) ⟨p, rfl, h0 p n, s.le.nn n, fun z => (s.owF z).2 n, r⟩
    | s i => exact absurd rfl (ns i)
end
/-- two operands, read where both stand -/
def op2 (q : D → D → Option Op) (x y : Op) (ρ : Env) : Res Op := match deref ρ x, deref ρ y with
  | some d, some e => res (q d e) ρ
  | _, _ => .bad
def op1 (q : D → Option Op) (x : Op) (ρ : Env) : Res Op := match deref ρ x with
  | some d => res (q d) ρ
  | _ => .bad
def seq2 (f g : Fe) (h : Op → Op → Env → Res Op) : Fe := fun ρ => (f ρ).bind fun x ρ1 => (g ρ1).bind fun y ρ2 => h x y ρ2
def seq1 (f : Fe) (h : Op → Env → Res Op) : Fe := fun ρ => (f ρ).bind h
/-- never a slot -/
def NoS2 (q : D → D → Option Op) : Prop := ∀ d e i, q d e ≠ some (.s i)
def NoS1 (q : D → Option Op) : Prop := ∀ d i, q d ≠ some (.s i)
/-- an operation of the layer serves q -/
def Serves2 (C : Ct) (q : D → D → Option Op) (r : R2) : Prop := ∀ F H d e v u op (Q : VK), Le F H → RepS C F H d v → RepS C F H e u → q d e = some op → Done C F H Q op → r v u H Q
def Serves1 (C : Ct) (q : D → Option Op) (r : V → Hp → VK → Prop) : Prop := ∀ F H d v op (Q : VK), Le F H → RepS C F H d v → q d = some op → Done C F H Q op → r v H Q
section
variable {C : Ct} {W : WX} {f g : Fe}
theorem two_op {q : D → D → Option Op} {r : R2} (n : NoS2 q) (sv : Serves2 C q r) : ∀ σ H Q, tE C W (seq2 f g (op2 q)) σ H Q → tOp r (tE C W f) (tE C W g) σ H Q := by
  intro σ H Q ⟨F, ρ, s, h⟩
  refine ⟨F, ρ, s, Kw.bind h fun x ρ1 F1 H1 e1 g1 h1 v rv => ?_⟩
  refine ⟨F1, ρ1, g1.sr, Kw.bind h1 fun y ρ2 F2 H2 e2 g2 h2 u ru => ?_⟩
  unfold op2 at h2
  split at h2
  · rename_i d e hd he
    have rx := (rv.carry g2 rfl).read g2.sr hd
    have ry := ru.read g2.sr he
    obtain ⟨op, eo, dn⟩ := done_of g2.sr (fun x z => g1.h0 (g2.h0 z)) (n d e) h2
    exact sv F2 H2 d e v u op Q g2.sr.le rx ry eo dn
  · exact h2.elim
theorem one_op {q : D → Option Op} {r : V → Hp → VK → Prop} (n : NoS1 q) (sv : Serves1 C q r) : ∀ σ H Q, tE C W (seq1 f (op1 q)) σ H Q → tUn r (tE C W f) σ H Q := by
  intro σ H Q ⟨F, ρ, s, h⟩
  refine ⟨F, ρ, s, Kw.bind h fun x ρ1 F1 H1 e1 g1 h1 v rv => ?_⟩
  unfold op1 at h1
  split at h1
  · rename_i d hd
    have rx := rv.read g1.sr hd
    obtain ⟨op, eo, dn⟩ := done_of g1.sr (fun x z => g1.h0 z) (n d) h1
    exact sv F1 H1 d v op Q g1.sr.le rx eo dn
  · exact h1.elim
/-- one operand, handed to a call of a built-in -/
theorem one_call {q : D → Option Op} {r : List V → Hp → VK → Prop} (n : NoS1 q) (sv : Serves1 C q fun x H Q => r [x] H Q) : ∀ σ H Q, tE C W (seq1 f (op1 q)) σ H Q → tCB r (tCons (tE C W f) tNil) σ H Q := by
  intro σ H Q ⟨F, ρ, s, h⟩
  refine ⟨F, ρ, s, Kw.bind h fun x ρ1 F1 H1 e1 g1 h1 v rv => ?_⟩
  unfold op1 at h1
  split at h1
  · rename_i d hd
    have rx := rv.read g1.sr hd
    obtain ⟨op, eo, dn⟩ := done_of g1.sr (fun x z => g1.h0 z) (n d) h1
    exact sv F1 H1 d v op Q g1.sr.le rx eo dn
  · exact h1.elim
end
end PyI
set_option maxHeartbeats 1000000
/-! PyI3: the operations on data, and the layer's rules that serve them. -/
namespace PyI
open PySem PySem.Spec PyProof.Rows L2

inductive Bop where
  | add | sub | mul | fdiv | mod | pow
  deriving DecidableEq, Inhabited
inductive Cop where
  | eq | ne | lt | le | gt | ge | isin | notin | is_ | isnot
  deriving DecidableEq, Inhabited
def cmul (i j : Int) : Bool := (decide (-(2 ^ 64) < i) && decide (i < 2 ^ 64)) || (decide (-(2 ^ 64) < j) && decide (j < 2 ^ 64))
theorem cmul_ok {i j : Int} (h : cmul i j = true) : CMul i j := by
  unfold cmul at h
  rcases Bool.or_eq_true_iff.mp h with h | h
  · obtain ⟨a, b⟩ := Bool.and_eq_true_iff.mp h; exact .inl ⟨of_decide_eq_true a, of_decide_eq_true b⟩
  · obtain ⟨a, b⟩ := Bool.and_eq_true_iff.mp h; exact .inr ⟨of_decide_eq_true a, of_decide_eq_true b⟩
def strRep (x : Str) (n : Int) : Str := ⟨(List.replicate n.toNat x.cps).foldl (· ++ ·) #[]⟩
def bop : Bop → D → D → Option Op
  | .add, .int i, .int j => some (.v (.int (i + j)))
  | .add, .str x, .str y => if x.length + y.length ≤ 100000 then some (.v (.str (x ++ y))) else none
  | .add, .lst xs, .lst ys => if xs.length + ys.length ≤ 100000 then some (.f (.lst (xs ++ ys))) else none
  | .add, .tup xs, .tup ys => if xs.length + ys.length ≤ 100000 then some (.v (.tup (xs ++ ys))) else none
  | .sub, .int i, .int j => some (.v (.int (i - j)))
  | .mul, .int i, .int j => if cmul i j = true then some (.v (.int (i * j))) else none
  | .mul, .str x, .int n => if 2 ≤ n ∧ n ≤ 1000 ∧ 1 ≤ x.length ∧ x.length ≤ 100 then some (.v (.str (strRep x n))) else none
  | .mul, .lst xs, .int n => if 0 ≤ n ∧ n ≤ 1000 ∧ xs.length ≤ 100 then some (.f (.lst (List.replicate n.toNat xs).flatten)) else none
  | .fdiv, .int i, .int j => if 0 < j ∧ j < 1073741824 then some (.v (.int (i / j))) else none
  | .mod, .int i, .int j => if 0 < j then some (.v (.int (i % j))) else none
  | .pow, .int i, .int j => if 0 ≤ j ∧ j ≤ 1000000 ∧ i.natAbs < 2 ^ 64 then some (.v (.int (i ^ j.toNat))) else none
  | _, _, _ => none
def oprOf : Bop → Operator
  | .add => .Add | .sub => .Sub | .mul => .Mult | .fdiv => .FloorDiv | .mod => .Mod | .pow => .Pow
theorem bop_nos (o : Bop) : NoS2 (bop o) := by
  intro d e i h
  unfold bop at h
  repeat (first | (split at h) | cases h)
/-- s * n -/
theorem op_rep_str {X : Cx} : OpR X (binaryOp .Mult) (fun x y H Q => ∃ z n, x = .str z ∧ y = .int n ∧ (2 ≤ n ∧ n ≤ 1000 ∧ 1 ≤ z.length ∧ z.length ≤ 100) ∧ Q (.str (strRep z n)) H) := by
  intro pins s σ H x y v u Q I rx ry h
  obtain ⟨z, n, rfl, rfl, ⟨h1, h2, h3, h4⟩, q⟩ := h
  obtain ⟨t, rfl⟩ := rx
  obtain ⟨t', rfl⟩ := ry
  have hn : ¬ n < 1 := by omega
  have hu : (n == 1 || z.length == 0) = false := by
    rw [Bool.or_eq_false_iff]
    exact ⟨beq_eq_false_iff_ne.mpr (by omega), beq_eq_false_iff_ne.mpr (by omega)⟩
  have hlen : (strRep z n).length ≤ sizeLine := by
    have e : ∀ (k : Nat) (acc : Array Nat), ((List.replicate k z.cps).foldl (· ++ ·) acc).size = acc.size + k * z.cps.size := by
      intro k
      induction k with
      | zero => intro acc; simp
      | succ k ih => intro acc; rw [List.replicate_succ, List.foldl_cons, ih, Array.size_append, Nat.succ_mul]; omega
    show ((List.replicate n.toNat z.cps).foldl (· ++ ·) #[]).size ≤ sizeLine
    rw [e, sizeLine_eq]
    have h4' : z.cps.size ≤ 100 := h4
    have a1 : n.toNat * z.cps.size ≤ 1000 * 100 := Nat.mul_le_mul (by omega) h4'
    simp only [List.size_toArray, List.length_nil]
    omega
  refine P.mul_str (by rw [decide_eq_false (by omega), decide_eq_false (by omega)]; rfl) (fun _ _ => ?_) (fun _ _ => ?_) ?_
  · have : (z.length : Int) ≤ 100 := by omega
    have h5 : (1000000 : Int) ≤ (2 ^ 63 - 1) / n := by
      rw [Int.le_ediv_iff_mul_le (by omega)]
      omega
    omega
  · unfold Builtin.Str.tooLong
    rw [sizeLine_eq]
    have a1 : z.length * n.toNat ≤ 100 * 1000 := Nat.mul_le_mul h4 (by omega)
    exact decide_eq_false (by omega)
  · rw [if_neg hn, if_neg (by rw [hu]; exact Bool.false_ne_true)]
    exact ⟨hlen, .str _, H, I.tok _, ⟨_, rfl⟩, q⟩

def rBop (K : PySem.W.Frag) : Bop → R2
  | .add => fun x y H Q => (((rI0 fun i j => V.int (i + j)) x y H Q ∨ (∃ i j, x = .str i ∧ y = .str j ∧ i.length + j.length ≤ sizeLine ∧ Q (.str (i ++ j)) H)) ∨ rCat x y H Q) ∨ rCatA K x y H Q
  | .sub => rI0 fun i j => .int (i - j)
  | .mul => fun x y H Q => (rI CMul (fun i j => V.int (i * j)) x y H Q ∨ (∃ z n, x = .str z ∧ y = .int n ∧ (2 ≤ n ∧ n ≤ 1000 ∧ 1 ≤ z.length ∧ z.length ≤ 100) ∧ Q (.str (strRep z n)) H)) ∨ rRep x y H Q
  | .fdiv => rI CDiv fun i j => .int (i / j)
  | .mod => rI (fun _ j => 0 < j) fun i j => .int (i % j)
  | .pow => rI CPow fun i j => .int (i ^ j.toNat)
theorem opr_bop {X : Cx} : ∀ o : Bop, OpR X (binaryOp (oprOf o)) (rBop X.K o)
  | .add => ((op_add.or op_add_str).or op_cat).or op_catA
  | .sub => op_sub
  | .mul => (op_mul.or op_rep_str).or op_rep
  | .fdiv => op_fdiv
  | .mod => op_mod
  | .pow => op_pow
section
variable {C : Ct} {F H : Hp}
theorem Done.val {d : D} {Q : VK} {v : V} (h : Done C F H Q (.v d)) (r : Rep C F d v) : Q v H := h.1 v r
theorem Done.tup {ds : List D} {vs : List V} {p : Addr} {Q : VK} (l : Le F H) (h : Done C F H Q (.v (.tup ds))) (r : RepL C F ds vs) (n : H p = none) : Q (.ref p) (upd H p (.tup vs)) :=
  h.2 p _ n (.tup (.of upd_same) (r.mono (Le.new (l.nn n))))
theorem Done.lst {ds : List D} {vs : List V} {p : Addr} {Q : VK} (h : Done C F H Q (.f (.lst ds))) (r : RepL C F ds vs) (n : H p = none) : Q (.ref p) (upd H p (.lst vs)) :=
  h p _ n (.lst upd_same r)
theorem Done.dic {ds : List (Key × D)} {vs : List (Key × V)} {p : Addr} {Q : VK} (h : Done C F H Q (.f (.dic ds))) (r : RepK C F ds vs) (n : H p = none) : Q (.ref p) (upd H p (.dK vs)) :=
  h p _ n (.dic upd_same r)
end
theorem szl {n : Nat} (h : n ≤ 100000) : n ≤ sizeLine := Nat.le_trans h (by decide)
theorem serves_bop (C : Ct) (o : Bop) : Serves2 C (bop o) (rBop C.K o) := by
  intro F H d e v u op Q l rd re eo dn
  unfold bop at eo
  split at eo
  · cases eo; cases rd; cases re; exact .inl (.inl (.inl ⟨_, _, rfl, rfl, dn.val (.int _)⟩))
  · split at eo
    · rename_i hz; cases eo; cases rd; cases re; exact .inl (.inl (.inr ⟨_, _, rfl, rfl, szl hz, dn.val (.str _)⟩))
    · cases eo
  · split at eo
    · rename_i xs ys hz
      cases eo
      cases rd with
      | lst e1 r1 =>
        cases re with
        | lst e2 r2 => exact .inl (.inr ⟨_, _, _, _, rfl, rfl, e1, e2, szl (by rw [r1.length, r2.length]; exact hz), fun p n => dn.lst (r1.append r2) n⟩)
    · cases eo
  · split at eo
    · rename_i xs ys hz
      cases eo
      cases rd with
      | tup e1 r1 =>
        cases re with
        | tup e2 r2 =>
          refine .inr ⟨_, _, _, _, rfl, rfl, l.sqT e1, l.sqT e2, szl (by rw [r1.length, r2.length]; exact hz), fun z => ?_, fun _ z => ?_, fun _ _ p n => dn.tup l (r1.append r2) n⟩
          · subst z; cases r1; exact dn.val (.tup e2 r2)
          · subst z; cases r2; exact dn.val (.tup e1 (by simpa using r1))
    · cases eo
  · cases eo; cases rd; cases re; exact ⟨_, _, rfl, rfl, dn.val (.int _)⟩
  · split at eo
    · rename_i hz; cases eo; cases rd; cases re; exact .inl (.inl ⟨_, _, rfl, rfl, cmul_ok hz, dn.val (.int _)⟩)
    · cases eo
  · split at eo
    · rename_i hz; cases eo; cases rd; cases re; exact .inl (.inr ⟨_, _, rfl, rfl, hz, dn.val (.str _)⟩)
    · cases eo
  · split at eo
    · rename_i xs n hz
      cases eo
      cases rd with
      | lst e1 r1 =>
        cases re
        obtain ⟨z1, z2, z3⟩ := hz
        refine .inr ⟨_, _, _, rfl, rfl, e1, by omega, by omega, ?_, fun p n => dn.lst r1.flat n⟩
        rw [r1.length, sizeLine_eq]
        have a1 : xs.length * n.toNat ≤ 100 * 1000 := Nat.mul_le_mul z3 (by omega)
        omega
    · cases eo
  · split at eo
    · rename_i hz; cases eo; cases rd; cases re; exact ⟨_, _, rfl, rfl, hz, dn.val (.int _)⟩
    · cases eo
  · split at eo
    · rename_i hz; cases eo; cases rd; cases re; exact ⟨_, _, rfl, rfl, hz, dn.val (.int _)⟩
    · cases eo
  · split at eo
    · rename_i hz; cases eo; cases rd; cases re; exact ⟨_, _, rfl, rfl, hz, dn.val (.int _)⟩
    · cases eo
  · cases eo

/-! ### flat data -/
def D.flat : D → Bool
  | .non => true
  | .bl _ => true
  | .int _ => true
  | .str _ => true
  | _ => false
/-- == of flat data -/
def eqF : D → D → Bool
  | .non, .non => true
  | .bl a, .bl b => a == b
  | .bl a, .int b => (if a then 1 else 0) == b
  | .int a, .bl b => a == (if b then 1 else 0)
  | .int a, .int b => a == b
  | .str a, .str b => a == b
  | _, _ => false
def inD (x : D) (xs : List D) : Bool := xs.any fun y => eqF y x
section
variable {C : Ct} {F H : Hp}
theorem flat_s {d : D} {v : V} (f : d.flat = true) (r : RepS C F H d v) : flatV v = true := by
  cases r <;> first | rfl | (simp [D.flat] at f)
theorem flat_r {d : D} {v : V} (f : d.flat = true) (r : Rep C F d v) : flatV v = true := by
  cases r <;> first | rfl | (simp [D.flat] at f)
theorem eqF_s {d e : D} {v u : V} (fd : d.flat = true) (fe : e.flat = true) (r : Rep C F d v) (q : RepS C F H e u) : eqV v u = eqF d e := by
  cases r <;> first | (simp [D.flat] at fd; done) | (cases q <;> first | rfl | (simp [D.flat] at fe))
theorem flat_all : ∀ {ds : List D} {vs : List V}, RepL C F ds vs → ds.all D.flat = true → vs.all flatV = true
  | _, _, .nil, _ => rfl
  | _, _, .cons r t, h => by
    obtain ⟨h1, h2⟩ := Bool.and_eq_true_iff.mp (by simpa only [List.all_cons] using h)
    rw [List.all_cons, flat_r h1 r, flat_all t h2]; rfl
theorem inD_s {x : D} {u : V} (fx : x.flat = true) (q : RepS C F H x u) : ∀ {ds : List D} {vs : List V}, RepL C F ds vs → ds.all D.flat = true → inV u vs = inD x ds
  | _, _, .nil, _ => rfl
  | _, _, .cons r t, h => by
    obtain ⟨h1, h2⟩ := Bool.and_eq_true_iff.mp (by simpa only [List.all_cons] using h)
    have := inD_s fx q t h2
    unfold inV inD at this ⊢
    rw [List.any_cons, List.any_cons, eqF_s h1 fx r q, this]
end

/-! ### the key that a datum is -/
def keyD : D → Option Key
  | .int i => some (.inl i)
  | .str x => some (.inr x)
  | _ => none
theorem key_s {C : Ct} {F H : Hp} {d : D} {v : V} {k : Key} (h : keyD d = some k) (r : RepS C F H d v) : v = kV k := by
  cases r <;> first | (cases h; rfl) | (simp [keyD] at h)
end PyI
set_option maxHeartbeats 1000000
/-! PyI4: == of data at any depth, the comparisons. -/
namespace PyI
open PySem PySem.Spec PyProof.Rows L2

mutual
def D.dep : D → Nat
  | .tup xs => depL xs + 1
  | .lst xs => depL xs + 1
  | .dic kvs => depK kvs + 1
  | _ => 0
def depL : List D → Nat
  | [] => 0
  | x :: xs => max x.dep (depL xs)
def depK : List (Key × D) → Nat
  | [] => 0
  | (_, x) :: xs => max x.dep (depK xs)
end
/-- what == has no answer for here -/
def D.odd : D → Bool
  | .dic _ => true
  | .ins _ _ => true
  | .scr _ => true
  | _ => false
mutual
def eqv : D → D → Option Bool
  | .tup xs, .tup ys => eqvL xs ys
  | .lst xs, .lst ys => eqvL xs ys
  | .dic xs, .dic ys => (eqvK xs ys).map fun b => xs.length == ys.length && b
  | d, e => if (d.odd || e.odd) = true then none else some (eqF d e)
def eqvL : List D → List D → Option Bool
  | [], [] => some true
  | [], _ :: _ => some false
  | _ :: _, [] => some false
  | x :: xs, y :: ys => match eqv x y, eqvL xs ys with
    | some a, some b => some (a && b)
    | _, _ => none
def eqvK : List (Key × D) → List (Key × D) → Option Bool
  | [], _ => some true
  | (k, d) :: r, ys => match look ys k, eqvK r ys with
    | some e, some b => (eqv d e).map fun a => a && b
    | none, some _ => some false
    | _, none => none
end
section
variable {C : Ct} {F H : Hp}
/-- the answer place by place -/
def at2 (ds es : List D) (j : Nat) : Bool := match ds[j]?, es[j]? with
  | some d, some e => (eqv d e).getD false
  | _, _ => false
theorem eqvL_at : ∀ {ds es : List D} {b : Bool}, eqvL ds es = some b → b = ((List.range (min ds.length es.length)).all (at2 ds es) && ds.length == es.length) ∧
    ∀ j d e, ds[j]? = some d → es[j]? = some e → eqv d e = some (at2 ds es j)
  | [], [], b, h => by
    simp only [eqvL] at h; cases h
    exact ⟨by simp, fun j d e h _ => by simp at h⟩
  | [], y :: ys, b, h => by
    simp only [eqvL] at h; cases h
    exact ⟨by simp, fun j d e h _ => by simp at h⟩
  | x :: xs, [], b, h => by
    simp only [eqvL] at h; cases h
    exact ⟨by simp, fun j d e _ h => by simp at h⟩
  | x :: xs, y :: ys, b, h => by
    simp only [eqvL] at h
    split at h
    · rename_i p q h1 h2
      cases h
      obtain ⟨e1, e2⟩ := eqvL_at h2
      have z : at2 (x :: xs) (y :: ys) 0 = p := by simp [at2, h1]
      have zs : ∀ j, at2 (x :: xs) (y :: ys) (j + 1) = at2 xs ys j := fun j => by simp [at2]
      refine ⟨?_, fun j d e hd he => ?_⟩
      · have e0 : min (x :: xs).length (y :: ys).length = min xs.length ys.length + 1 := by simp only [List.length_cons]; omega
        have e3 : ((x :: xs).length == (y :: ys).length) = (xs.length == ys.length) := by simp
        rw [e0, List.range_succ_eq_map, List.all_cons, z, List.all_map, e3]
        have e4 : (at2 (x :: xs) (y :: ys) ∘ Nat.succ) = at2 xs ys := by funext j; exact zs j
        rw [e4, e1, Bool.and_assoc]
      · cases j with
        | zero =>
          simp only [List.getElem?_cons_zero, Option.some.injEq] at hd he
          subst hd he
          rw [z]; exact h1
        | succ j =>
          simp only [List.getElem?_cons_succ] at hd he
          rw [zs]; exact e2 j d e hd he
    · cases h
def atK (xs ys : List (Key × D)) (k : Key) : Bool := match look xs k, look ys k with
  | some d, some e => (eqv d e).getD false
  | _, _ => false
theorem eqvK_at (ys : List (Key × D)) : ∀ {xs : List (Key × D)} {b : Bool}, eqvK xs ys = some b →
    ∀ k d e, (k, d) ∈ xs → look ys k = some e → ∃ c, eqv d e = some c
  | [], _, _, _, _, _, m, _ => by simp at m
  | (k0, d0) :: r, b, h, k, d, e, m, hy => by
    simp only [eqvK] at h
    split at h
    · rename_i e1 b1 h1 h2
      rcases List.mem_cons.mp m with q | q
      · cases q
        rw [h1] at hy; cases hy
        cases hq : eqv d0 e with
        | none => rw [hq] at h; simp at h
        | some c => exact ⟨c, rfl⟩
      · exact eqvK_at ys h2 k d e q hy
    · rename_i b1 h1 h2
      rcases List.mem_cons.mp m with q | q
      · cases q
        rw [h1] at hy; cases hy
      · exact eqvK_at ys h2 k d e q hy
    · cases h
theorem look_mem {k : Key} {d : D} : ∀ {xs : List (Key × D)}, (xs.map (·.1)).Nodup → (k, d) ∈ xs → look xs k = some d
  | [], _, m => by simp at m
  | (k0, d0) :: r, nd, m => by
    rw [List.map_cons] at nd
    obtain ⟨n1, n2⟩ := List.nodup_cons.mp nd
    rcases List.mem_cons.mp m with q | q
    · cases q; simp [look]
    · have ne : k0 ≠ k := fun e => n1 (by rw [e]; exact List.mem_map.mpr ⟨(k, d), q, rfl⟩)
      have := look_mem n2 q
      simpa [look, ne] using this
theorem eqvK_val (xs0 ys : List (Key × D)) : ∀ {xs : List (Key × D)} {b : Bool}, eqvK xs ys = some b → (∀ k d, (k, d) ∈ xs → look xs0 k = some d) →
    b = xs.all fun p => (look ys p.1).isSome && atK xs0 ys p.1
  | [], b, h, _ => by simp only [eqvK] at h; cases h; rfl
  | (k0, d0) :: r, b, h, nd => by
    simp only [eqvK] at h
    have h0 := nd k0 d0 List.mem_cons_self
    split at h
    · rename_i e1 b1 h1 h2
      have ih := eqvK_val xs0 ys h2 fun k d m => nd k d (List.mem_cons_of_mem _ m)
      cases hq : eqv d0 e1 with
      | none => rw [hq] at h; simp at h
      | some c =>
        rw [hq] at h
        simp only [Option.map_some, Option.some.injEq] at h
        rw [← h, List.all_cons, ← ih]
        simp [atK, h0, h1, hq]
    · rename_i b1 h1 h2
      cases h
      rw [List.all_cons]
      simp [h1]
    · cases h


theorem rd_inj {H : Hp} {a : Addr} {k1 k2 : List (Key × V)} (h1 : Rd H a (.dK k1)) (h2 : Rd H a (.dK k2)) : k1 = k2 := by
  rcases h1 with h1 | ⟨o, h1⟩ <;> rcases h2 with h2 | ⟨o', h2⟩ <;> (rw [h1] at h2; cases h2)
  · rfl
  · rfl
theorem no_tl {X : Cx} {pins : List (Addr × Obj)} {σ : L2.St} {s : Shared} {a : Addr} {vs us : List V} (I : Inv X pins σ H s) (h1 : SqT X.K H a vs) (h2 : H a = some (.lst us)) : False := by
  obtain ⟨its, _, ⟨o, ho, hc, _⟩, _⟩ := I.tuple h1
  obtain ⟨its2, _, ⟨o2, n2, ho2, hc2, _⟩, _⟩ := I.list (SqL.of h2)
  rw [ho] at ho2; cases ho2
  rw [hc] at hc2; exact absurd hc2 (by decide)
theorem valV_mem {k : Key} {v : V} : ∀ {kvs : List (Key × V)}, (kvs.map (·.1)).Nodup → (k, v) ∈ kvs → valV kvs k = some v
  | [], _, m => by simp at m
  | (k0, d0) :: r, nd, m => by
    rw [List.map_cons] at nd
    obtain ⟨n1, n2⟩ := List.nodup_cons.mp nd
    rcases List.mem_cons.mp m with q | q
    · cases q; simp [valV]
    · have ne : k0 ≠ k := fun e => n1 (by rw [e]; exact List.mem_map.mpr ⟨(k, v), q, rfl⟩)
      have := valV_mem n2 q
      simpa [valV, ne] using this
theorem rdK_nodup {X : Cx} {pins : List (Addr × Obj)} {σ : L2.St} {s : Shared} {a : Addr} {kvs : List (Key × V)} (I : Inv X pins σ H s) (h : Rd H a (.dK kvs)) : (kvs.map (·.1)).Nodup := by
  obtain ⟨_, _, vs, r, dd⟩ := dk_rd I.hok h
  obtain ⟨o, es, ep, _, _, _, _, _, nd⟩ := dd
  rw [r.keys]; exact nd
mutual
theorem eqv_same {X : Cx} {pins : List (Addr × Obj)} {σ : L2.St} {s : Shared} (I : Inv X pins σ H s) (k : C.K = X.K) (l : Le F H) : ∀ {d e : D} {v : V} {b : Bool}, Rep C F d v → Rep C F e v → eqv d e = some b → b = true
  | _, _, _, _, .non, r, h => by cases r; simp [eqv, D.odd, eqF] at h; exact h
  | _, _, _, _, .bl _, r, h => by cases r; simp [eqv, D.odd, eqF] at h; exact h
  | _, _, _, _, .int _, r, h => by cases r; simp [eqv, D.odd, eqF] at h; exact h
  | _, _, _, _, .str _, r, h => by cases r; simp [eqv, D.odd, eqF] at h; exact h
  | _, _, _, _, .tup s1 r1, r, h => by
    have hs := l.sqT s1
    rw [k] at hs
    cases r with
    | tup s2 r2 =>
      have hs2 := l.sqT s2
      rw [k] at hs2
      have e := I.tuple_inj hs hs2
      subst e
      simp only [eqv] at h
      exact eqvL_same I k l r1 r2 h
    | lst s2 r2 => exact (no_tl I hs (l.ins _ _ rfl s2)).elim
    | scr s2 => simp [eqv, D.odd] at h
    | dic s2 r2 => simp [eqv, D.odd] at h
    | ins s2 r2 => simp [eqv, D.odd] at h
  | _, _, _, _, .lst s1 r1, r, h => by
    have hs := l.ins _ _ rfl s1
    cases r with
    | tup s2 r2 =>
      have hs2 := l.sqT s2
      rw [k] at hs2
      exact (no_tl I hs2 hs).elim
    | lst s2 r2 =>
      rw [s1] at s2; cases s2
      simp only [eqv] at h
      exact eqvL_same I k l r1 r2 h
    | scr s2 => simp [eqv, D.odd] at h
    | dic s2 r2 => simp [eqv, D.odd] at h
    | ins s2 r2 => simp [eqv, D.odd] at h
  | _, _, _, _, .scr s1, r, h => by cases r <;> simp [eqv, D.odd] at h
  | _, _, _, _, .dic s1 r1, r, h => by
    cases r with
    | dic s2 r2 =>
      have e := rd_inj (l.rd _ _ s1) (l.rd _ _ s2)
      subst e
      have nv := rdK_nodup I (l.rd _ _ s1)
      have nd := nv
      rw [r1.keys] at nd
      simp only [eqv] at h
      cases hq : eqvK _ _ with
      | none => rw [hq] at h; simp at h
      | some c =>
        rw [hq] at h
        simp only [Option.map_some, Option.some.injEq] at h
        have hl : (_ : List (Key × D)).length = (_ : List (Key × D)).length := r1.length.symm.trans r2.length
        have := eqvK_same I k l r2 r1 (fun k' v' m => valV_mem nv m) hq
        rw [← h, this, hl]; simp
    | _ => simp [eqv, D.odd] at h
  | _, _, _, _, .ins s1 r1, r, h => by cases r <;> simp [eqv, D.odd] at h
theorem eqvL_same {X : Cx} {pins : List (Addr × Obj)} {σ : L2.St} {s : Shared} (I : Inv X pins σ H s) (k : C.K = X.K) (l : Le F H) : ∀ {d e : List D} {v : List V} {b : Bool}, RepL C F d v → RepL C F e v → eqvL d e = some b → b = true
  | _, _, _, _, .nil, .nil, h => by simp [eqvL] at h; exact h
  | _, _, _, _, .cons r1 t1, .cons r2 t2, h => by
    simp only [eqvL] at h
    split at h
    · rename_i p q h1 h2
      cases h
      rw [eqv_same I k l r1 r2 h1, eqvL_same I k l t1 t2 h2]; rfl
    · cases h
theorem eqvK_same {X : Cx} {pins : List (Addr × Obj)} {σ : L2.St} {s : Shared} (I : Inv X pins σ H s) (k : C.K = X.K) (l : Le F H) {es : List (Key × D)} {kvs0 : List (Key × V)} (r2 : RepK C F es kvs0) :
    ∀ {ds : List (Key × D)} {kvs : List (Key × V)} {b : Bool}, RepK C F ds kvs → (∀ k v, (k, v) ∈ kvs → valV kvs0 k = some v) → eqvK ds es = some b → b = true
  | _, _, _, .nil, _, h => by simp [eqvK] at h; exact h
  | _, _, _, .cons (k := k0) (d := d0) (v := v0) r1 t1, nd, h => by
    have q2 := r2.look k0
    rw [nd k0 v0 List.mem_cons_self] at q2
    simp only [eqvK] at h
    split at h
    · rename_i e1 b1 h1 h2
      rw [h1] at q2
      cases hq : eqv d0 e1 with
      | none => rw [hq] at h; simp at h
      | some c =>
        rw [hq] at h
        simp only [Option.map_some, Option.some.injEq] at h
        have i1 := eqvK_same I k l r2 t1 (fun k v m => nd k v (List.mem_cons_of_mem _ m)) h2
        rw [← h, i1, eqv_same I k l r1 q2 hq]; rfl
    · rename_i b1 h1 h2
      rw [h1] at q2
      exact q2.elim
    · cases h
end

theorem sqT_tuple {X : Cx} {pins : List (Addr × Obj)} {σ : L2.St} {s : Shared} {a : Addr} {vs : List V} (I : Inv X pins σ H s) (h : SqT X.K H a vs) : ∃ its : List Value, Vals vs its ∧ s.heap.IsTuple a its.toArray := by
  obtain ⟨its, r, ⟨o, ho, hc, n, hd⟩, _⟩ := I.tuple h
  exact ⟨its, r, ⟨o, ho, hc, n, hd⟩⟩
theorem lst_list {X : Cx} {pins : List (Addr × Obj)} {σ : L2.St} {s : Shared} {a : Addr} {vs : List V} (I : Inv X pins σ H s) (h : H a = some (.lst vs)) : ∃ its : List Value, Vals vs its ∧ s.heap.IsList a its.toArray := by
  obtain ⟨its, r, p, _⟩ := I.list (SqL.of h)
  exact ⟨its, r, p.isList⟩
open PySem.SeqAt PySem.W in
/-- == of unlike or flat data, for any run around: eqBool -/
theorem atLeaf {X : Cx} {pins : List (Addr × Obj)} {σ : L2.St} {s : Shared} (I : Inv X pins σ H s) (k : C.K = X.K) (l : Le F H) {d e : D} {v u : V} {x y : Value} (rd : Rep C F d v) (re : Rep C F e u) (rx : RelV v x) (ry : RelV u y)
    (ho : (d.odd || e.odd) = false) (ht : ∀ a b, ¬ (d = .tup a ∧ e = .tup b)) (hl : ∀ a b, ¬ (d = .lst a ∧ e = .lst b)) {A : Around} (hu' : A.units < cLine) : EqAt A s x y (eqF d e) := by
  cases rd with
  | non =>
    cases rx
    cases re with
    | non => cases ry; exact EqAt.same _
    | bl b => cases ry; exact EqAt.none_bool b
    | int i => obtain ⟨t, rfl⟩ := ry; exact EqAt.none_int i t
    | str z => obtain ⟨t, rfl⟩ := ry; exact EqAt.none_str z t
    | tup s2 r2 =>
      cases ry
      have hs := l.sqT s2
      rw [k] at hs
      obtain ⟨its, _, p⟩ := sqT_tuple I hs
      exact EqAt.none_tuple p hu'
    | lst s2 r2 => cases ry; obtain ⟨its, _, p⟩ := lst_list I (l.ins _ _ rfl s2); exact EqAt.none_list p hu'
    | scr _ => simp [D.odd] at ho
    | dic _ _ => simp [D.odd] at ho
    | ins _ _ => simp [D.odd] at ho
  | bl b0 =>
    cases rx
    cases re with
    | non => cases ry; exact EqAt.bool_none b0
    | bl b => cases ry; exact EqAt.bool_bool b0 b
    | int i => obtain ⟨t, rfl⟩ := ry; exact EqAt.bool_int b0 i t
    | str z => obtain ⟨t, rfl⟩ := ry; exact EqAt.bool_str b0 z t
    | tup s2 r2 =>
      cases ry
      have hs := l.sqT s2
      rw [k] at hs
      obtain ⟨its, _, p⟩ := sqT_tuple I hs
      exact EqAt.bool_tuple b0 p hu'
    | lst s2 r2 => cases ry; obtain ⟨its, _, p⟩ := lst_list I (l.ins _ _ rfl s2); exact EqAt.bool_list b0 p hu'
    | scr _ => simp [D.odd] at ho
    | dic _ _ => simp [D.odd] at ho
    | ins _ _ => simp [D.odd] at ho
  | int i0 =>
    obtain ⟨t0, rfl⟩ := rx
    cases re with
    | non => cases ry; exact EqAt.int_none i0 t0
    | bl b => cases ry; exact EqAt.int_bool i0 t0 b
    | int i => obtain ⟨t, rfl⟩ := ry; exact EqAt.int_int i0 t0 i t
    | str z => obtain ⟨t, rfl⟩ := ry; exact EqAt.int_str i0 t0 z t
    | tup s2 r2 =>
      cases ry
      have hs := l.sqT s2
      rw [k] at hs
      obtain ⟨its, _, p⟩ := sqT_tuple I hs
      exact EqAt.int_tuple i0 t0 p hu'
    | lst s2 r2 => cases ry; obtain ⟨its, _, p⟩ := lst_list I (l.ins _ _ rfl s2); exact EqAt.int_list i0 t0 p hu'
    | scr _ => simp [D.odd] at ho
    | dic _ _ => simp [D.odd] at ho
    | ins _ _ => simp [D.odd] at ho
  | str z0 =>
    obtain ⟨t0, rfl⟩ := rx
    cases re with
    | non => cases ry; exact EqAt.str_none z0 t0
    | bl b => cases ry; exact EqAt.str_bool z0 t0 b
    | int i => obtain ⟨t, rfl⟩ := ry; exact EqAt.str_int z0 t0 i t
    | str z => obtain ⟨t, rfl⟩ := ry; exact EqAt.str_str z0 t0 z t
    | tup s2 r2 =>
      cases ry
      have hs := l.sqT s2
      rw [k] at hs
      obtain ⟨its, _, p⟩ := sqT_tuple I hs
      exact EqAt.str_tuple z0 t0 p hu'
    | lst s2 r2 => cases ry; obtain ⟨its, _, p⟩ := lst_list I (l.ins _ _ rfl s2); exact EqAt.str_list z0 t0 p hu'
    | scr _ => simp [D.odd] at ho
    | dic _ _ => simp [D.odd] at ho
    | ins _ _ => simp [D.odd] at ho
  | tup s1 r1 =>
    cases rx
    have hs := l.sqT s1
    rw [k] at hs
    obtain ⟨its, _, p⟩ := sqT_tuple I hs
    cases re with
    | non => cases ry; exact EqAt.tuple_none p hu'
    | bl b => cases ry; exact EqAt.tuple_bool b p hu'
    | int i => obtain ⟨t, rfl⟩ := ry; exact EqAt.tuple_int i t p hu'
    | str z => obtain ⟨t, rfl⟩ := ry; exact EqAt.tuple_str z t p hu'
    | tup s2 r2 => exact absurd ⟨rfl, rfl⟩ (ht _ _)
    | lst s2 r2 => cases ry; obtain ⟨its2, _, p2⟩ := lst_list I (l.ins _ _ rfl s2); exact EqAt.tuple_list p p2 hu'
    | scr _ => simp [D.odd] at ho
    | dic _ _ => simp [D.odd] at ho
    | ins _ _ => simp [D.odd] at ho
  | lst s1 r1 =>
    cases rx
    obtain ⟨its, _, p⟩ := lst_list I (l.ins _ _ rfl s1)
    cases re with
    | non => cases ry; exact EqAt.list_none p hu'
    | bl b => cases ry; exact EqAt.list_bool b p hu'
    | int i => obtain ⟨t, rfl⟩ := ry; exact EqAt.list_int i t p hu'
    | str z => obtain ⟨t, rfl⟩ := ry; exact EqAt.list_str z t p hu'
    | tup s2 r2 =>
      cases ry
      have hs := l.sqT s2
      rw [k] at hs
      obtain ⟨its2, _, p2⟩ := sqT_tuple I hs
      exact EqAt.list_tuple p p2 hu'
    | lst s2 r2 => exact absurd ⟨rfl, rfl⟩ (hl _ _)
    | scr _ => simp [D.odd] at ho
    | dic _ _ => simp [D.odd] at ho
    | ins _ _ => simp [D.odd] at ho
  | scr _ => simp [D.odd] at ho
  | dic _ _ => simp [D.odd] at ho
  | ins _ _ => simp [D.odd] at ho
open PySem.SeqAt PySem.W in
/-- == of unlike or flat data, for any run around: == -/
theorem rcLeaf {X : Cx} {pins : List (Addr × Obj)} {σ : L2.St} {s : Shared} (I : Inv X pins σ H s) (k : C.K = X.K) (l : Le F H) {d e : D} {v u : V} {x y : Value} (rd : Rep C F d v) (re : Rep C F e u) (rx : RelV v x) (ry : RelV u y)
    (ho : (d.odd || e.odd) = false) (ht : ∀ a b, ¬ (d = .tup a ∧ e = .tup b)) (hl : ∀ a b, ¬ (d = .lst a ∧ e = .lst b)) {A : Around} (hu' : A.units < cLine) : RcAt A s x y (eqF d e) := by
  cases rd with
  | non =>
    cases rx
    cases re with
    | non => cases ry; exact RcAt.none_none
    | bl b => cases ry; exact RcAt.none_bool b
    | int i => obtain ⟨t, rfl⟩ := ry; exact RcAt.none_int i t
    | str z => obtain ⟨t, rfl⟩ := ry; exact RcAt.none_str z t
    | tup s2 r2 =>
      cases ry
      have hs := l.sqT s2
      rw [k] at hs
      obtain ⟨its, _, p⟩ := sqT_tuple I hs
      exact RcAt.none_tuple p hu'
    | lst s2 r2 => cases ry; obtain ⟨its, _, p⟩ := lst_list I (l.ins _ _ rfl s2); exact RcAt.none_list p hu'
    | scr _ => simp [D.odd] at ho
    | dic _ _ => simp [D.odd] at ho
    | ins _ _ => simp [D.odd] at ho
  | bl b0 =>
    cases rx
    cases re with
    | non => cases ry; exact RcAt.bool_none b0
    | bl b => cases ry; exact RcAt.bool_bool b0 b
    | int i => obtain ⟨t, rfl⟩ := ry; exact RcAt.bool_int b0 i t
    | str z => obtain ⟨t, rfl⟩ := ry; exact RcAt.bool_str b0 z t
    | tup s2 r2 =>
      cases ry
      have hs := l.sqT s2
      rw [k] at hs
      obtain ⟨its, _, p⟩ := sqT_tuple I hs
      exact RcAt.bool_tuple b0 p hu'
    | lst s2 r2 => cases ry; obtain ⟨its, _, p⟩ := lst_list I (l.ins _ _ rfl s2); exact RcAt.bool_list b0 p hu'
    | scr _ => simp [D.odd] at ho
    | dic _ _ => simp [D.odd] at ho
    | ins _ _ => simp [D.odd] at ho
  | int i0 =>
    obtain ⟨t0, rfl⟩ := rx
    cases re with
    | non => cases ry; exact RcAt.int_none i0 t0
    | bl b => cases ry; exact RcAt.int_bool i0 t0 b
    | int i => obtain ⟨t, rfl⟩ := ry; exact RcAt.int_int i0 t0 i t
    | str z => obtain ⟨t, rfl⟩ := ry; exact RcAt.int_str i0 t0 z t
    | tup s2 r2 =>
      cases ry
      have hs := l.sqT s2
      rw [k] at hs
      obtain ⟨its, _, p⟩ := sqT_tuple I hs
      exact RcAt.int_tuple i0 t0 p hu'
    | lst s2 r2 => cases ry; obtain ⟨its, _, p⟩ := lst_list I (l.ins _ _ rfl s2); exact RcAt.int_list i0 t0 p hu'
    | scr _ => simp [D.odd] at ho
    | dic _ _ => simp [D.odd] at ho
    | ins _ _ => simp [D.odd] at ho
  | str z0 =>
    obtain ⟨t0, rfl⟩ := rx
    cases re with
    | non => cases ry; exact RcAt.str_none z0 t0
    | bl b => cases ry; exact RcAt.str_bool z0 t0 b
    | int i => obtain ⟨t, rfl⟩ := ry; exact RcAt.str_int z0 t0 i t
    | str z => obtain ⟨t, rfl⟩ := ry; exact RcAt.str_str z0 t0 z t
    | tup s2 r2 =>
      cases ry
      have hs := l.sqT s2
      rw [k] at hs
      obtain ⟨its, _, p⟩ := sqT_tuple I hs
      exact RcAt.str_tuple z0 t0 p hu'
    | lst s2 r2 => cases ry; obtain ⟨its, _, p⟩ := lst_list I (l.ins _ _ rfl s2); exact RcAt.str_list z0 t0 p hu'
    | scr _ => simp [D.odd] at ho
    | dic _ _ => simp [D.odd] at ho
    | ins _ _ => simp [D.odd] at ho
  | tup s1 r1 =>
    cases rx
    have hs := l.sqT s1
    rw [k] at hs
    obtain ⟨its, _, p⟩ := sqT_tuple I hs
    cases re with
    | non => cases ry; exact RcAt.tuple_none p hu'
    | bl b => cases ry; exact RcAt.tuple_bool b p hu'
    | int i => obtain ⟨t, rfl⟩ := ry; exact RcAt.tuple_int i t p hu'
    | str z => obtain ⟨t, rfl⟩ := ry; exact RcAt.tuple_str z t p hu'
    | tup s2 r2 => exact absurd ⟨rfl, rfl⟩ (ht _ _)
    | lst s2 r2 => cases ry; obtain ⟨its2, _, p2⟩ := lst_list I (l.ins _ _ rfl s2); exact RcAt.tuple_list p p2 hu'
    | scr _ => simp [D.odd] at ho
    | dic _ _ => simp [D.odd] at ho
    | ins _ _ => simp [D.odd] at ho
  | lst s1 r1 =>
    cases rx
    obtain ⟨its, _, p⟩ := lst_list I (l.ins _ _ rfl s1)
    cases re with
    | non => cases ry; exact RcAt.list_none p hu'
    | bl b => cases ry; exact RcAt.list_bool b p hu'
    | int i => obtain ⟨t, rfl⟩ := ry; exact RcAt.list_int i t p hu'
    | str z => obtain ⟨t, rfl⟩ := ry; exact RcAt.list_str z t p hu'
    | tup s2 r2 =>
      cases ry
      have hs := l.sqT s2
      rw [k] at hs
      obtain ⟨its2, _, p2⟩ := sqT_tuple I hs
      exact RcAt.list_tuple p p2 hu'
    | lst s2 r2 => exact absurd ⟨rfl, rfl⟩ (hl _ _)
    | scr _ => simp [D.odd] at ho
    | dic _ _ => simp [D.odd] at ho
    | ins _ _ => simp [D.odd] at ho
  | scr _ => simp [D.odd] at ho
  | dic _ _ => simp [D.odd] at ho
  | ins _ _ => simp [D.odd] at ho
open PySem.SeqAt PySem.W in
/-- == of unlike or flat data, for any run around: != -/
theorem neLeaf {X : Cx} {pins : List (Addr × Obj)} {σ : L2.St} {s : Shared} (I : Inv X pins σ H s) (k : C.K = X.K) (l : Le F H) {d e : D} {v u : V} {x y : Value} (rd : Rep C F d v) (re : Rep C F e u) (rx : RelV v x) (ry : RelV u y)
    (ho : (d.odd || e.odd) = false) (ht : ∀ a b, ¬ (d = .tup a ∧ e = .tup b)) (hl : ∀ a b, ¬ (d = .lst a ∧ e = .lst b)) {A : Around} (hu' : A.units < cLine) : RcNeAt A s x y (!eqF d e) := by
  cases rd with
  | non =>
    cases rx
    cases re with
    | non => cases ry; exact RcNeAt.none_none
    | bl b => cases ry; exact RcNeAt.none_bool b
    | int i => obtain ⟨t, rfl⟩ := ry; exact RcNeAt.none_int i t
    | str z => obtain ⟨t, rfl⟩ := ry; exact RcNeAt.none_str z t
    | tup s2 r2 =>
      cases ry
      have hs := l.sqT s2
      rw [k] at hs
      obtain ⟨its, _, p⟩ := sqT_tuple I hs
      exact RcNeAt.none_tuple p hu'
    | lst s2 r2 => cases ry; obtain ⟨its, _, p⟩ := lst_list I (l.ins _ _ rfl s2); exact RcNeAt.none_list p hu'
    | scr _ => simp [D.odd] at ho
    | dic _ _ => simp [D.odd] at ho
    | ins _ _ => simp [D.odd] at ho
  | bl b0 =>
    cases rx
    cases re with
    | non => cases ry; exact RcNeAt.bool_none b0
    | bl b => cases ry; exact RcNeAt.bool_bool b0 b
    | int i => obtain ⟨t, rfl⟩ := ry; exact RcNeAt.bool_int b0 i t
    | str z => obtain ⟨t, rfl⟩ := ry; exact RcNeAt.bool_str b0 z t
    | tup s2 r2 =>
      cases ry
      have hs := l.sqT s2
      rw [k] at hs
      obtain ⟨its, _, p⟩ := sqT_tuple I hs
      exact RcNeAt.bool_tuple b0 p hu'
    | lst s2 r2 => cases ry; obtain ⟨its, _, p⟩ := lst_list I (l.ins _ _ rfl s2); exact RcNeAt.bool_list b0 p hu'
    | scr _ => simp [D.odd] at ho
    | dic _ _ => simp [D.odd] at ho
    | ins _ _ => simp [D.odd] at ho
  | int i0 =>
    obtain ⟨t0, rfl⟩ := rx
    cases re with
    | non => cases ry; exact RcNeAt.int_none i0 t0
    | bl b => cases ry; exact RcNeAt.int_bool i0 t0 b
    | int i => obtain ⟨t, rfl⟩ := ry; exact RcNeAt.int_int i0 t0 i t
    | str z => obtain ⟨t, rfl⟩ := ry; exact RcNeAt.int_str i0 t0 z t
    | tup s2 r2 =>
      cases ry
      have hs := l.sqT s2
      rw [k] at hs
      obtain ⟨its, _, p⟩ := sqT_tuple I hs
      exact RcNeAt.int_tuple i0 t0 p hu'
    | lst s2 r2 => cases ry; obtain ⟨its, _, p⟩ := lst_list I (l.ins _ _ rfl s2); exact RcNeAt.int_list i0 t0 p hu'
    | scr _ => simp [D.odd] at ho
    | dic _ _ => simp [D.odd] at ho
    | ins _ _ => simp [D.odd] at ho
  | str z0 =>
    obtain ⟨t0, rfl⟩ := rx
    cases re with
    | non => cases ry; exact RcNeAt.str_none z0 t0
    | bl b => cases ry; exact RcNeAt.str_bool z0 t0 b
    | int i => obtain ⟨t, rfl⟩ := ry; exact RcNeAt.str_int z0 t0 i t
    | str z => obtain ⟨t, rfl⟩ := ry; exact RcNeAt.str_str z0 t0 z t
    | tup s2 r2 =>
      cases ry
      have hs := l.sqT s2
      rw [k] at hs
      obtain ⟨its, _, p⟩ := sqT_tuple I hs
      exact RcNeAt.str_tuple z0 t0 p hu'
    | lst s2 r2 => cases ry; obtain ⟨its, _, p⟩ := lst_list I (l.ins _ _ rfl s2); exact RcNeAt.str_list z0 t0 p hu'
    | scr _ => simp [D.odd] at ho
    | dic _ _ => simp [D.odd] at ho
    | ins _ _ => simp [D.odd] at ho
  | tup s1 r1 =>
    cases rx
    have hs := l.sqT s1
    rw [k] at hs
    obtain ⟨its, _, p⟩ := sqT_tuple I hs
    cases re with
    | non => cases ry; exact RcNeAt.tuple_none p hu'
    | bl b => cases ry; exact RcNeAt.tuple_bool b p hu'
    | int i => obtain ⟨t, rfl⟩ := ry; exact RcNeAt.tuple_int i t p hu'
    | str z => obtain ⟨t, rfl⟩ := ry; exact RcNeAt.tuple_str z t p hu'
    | tup s2 r2 => exact absurd ⟨rfl, rfl⟩ (ht _ _)
    | lst s2 r2 => cases ry; obtain ⟨its2, _, p2⟩ := lst_list I (l.ins _ _ rfl s2); exact RcNeAt.tuple_list p p2 hu'
    | scr _ => simp [D.odd] at ho
    | dic _ _ => simp [D.odd] at ho
    | ins _ _ => simp [D.odd] at ho
  | lst s1 r1 =>
    cases rx
    obtain ⟨its, _, p⟩ := lst_list I (l.ins _ _ rfl s1)
    cases re with
    | non => cases ry; exact RcNeAt.list_none p hu'
    | bl b => cases ry; exact RcNeAt.list_bool b p hu'
    | int i => obtain ⟨t, rfl⟩ := ry; exact RcNeAt.list_int i t p hu'
    | str z => obtain ⟨t, rfl⟩ := ry; exact RcNeAt.list_str z t p hu'
    | tup s2 r2 =>
      cases ry
      have hs := l.sqT s2
      rw [k] at hs
      obtain ⟨its2, _, p2⟩ := sqT_tuple I hs
      exact RcNeAt.list_tuple p p2 hu'
    | lst s2 r2 => exact absurd ⟨rfl, rfl⟩ (hl _ _)
    | scr _ => simp [D.odd] at ho
    | dic _ _ => simp [D.odd] at ho
    | ins _ _ => simp [D.odd] at ho
  | scr _ => simp [D.odd] at ho
  | dic _ _ => simp [D.odd] at ho
  | ins _ _ => simp [D.odd] at ho
open PySem.SeqAt PySem.W in
/-- == of data, as a tree -/
theorem eqLeaf {X : Cx} {pins : List (Addr × Obj)} {σ : L2.St} {s : Shared} (I : Inv X pins σ H s) (k : C.K = X.K) (l : Le F H) {d e : D} {v u : V} {x y : Value} (rd : Rep C F d v) (re : Rep C F e u) (rx : RelV v x) (ry : RelV u y)
    (ho : (d.odd || e.odd) = false) (ht : ∀ a b, ¬ (d = .tup a ∧ e = .tup b)) (hl : ∀ a b, ¬ (d = .lst a ∧ e = .lst b)) (n : Nat) : EqTree X.prog X.w s n x y (eqF d e) := by
  exact .leaf fun A hu => atLeaf I k l rd re rx ry ho ht hl (by omega)
theorem dep_le {n : Nat} : ∀ {ds : List D}, depL ds ≤ n → ∀ {j : Nat} {d : D}, ds[j]? = some d → d.dep ≤ n
  | [], _, _, _, h => by simp at h
  | x :: xs, hn, j, d, h => by
    simp only [depL] at hn
    cases j with
    | zero => simp at h; subst h; omega
    | succ j => exact dep_le (ds := xs) (by omega) (j := j) (by simpa using h)
theorem depK_le {n : Nat} : ∀ {ds : List (Key × D)}, depK ds ≤ n → ∀ {k : Key} {d : D}, (k, d) ∈ ds → d.dep ≤ n
  | [], _, _, _, h => by simp at h
  | (k0, x) :: xs, hn, k, d, h => by
    simp only [depK] at hn
    rcases List.mem_cons.mp h with q | q
    · cases q; omega
    · exact depK_le (by omega) q
theorem kv_mem {k : Key} {x : Value} : ∀ {kvs : List (Key × V)} {vs : List (Key × Value)}, KV kvs vs → (k, x) ∈ vs → ∃ v, (k, v) ∈ kvs ∧ RelV v x
  | _, _, .nil, m => by simp at m
  | _, _, .cons (a := p) (b := q) h t, m => by
    rcases List.mem_cons.mp m with e | e
    · subst e
      exact ⟨p.2, by rw [show (k, p.2) = p from Prod.ext h.1.symm rfl]; exact List.mem_cons_self, h.2⟩
    · obtain ⟨v, m1, r⟩ := kv_mem t e
      exact ⟨v, List.mem_cons_of_mem _ m1, r⟩
theorem look_in {k : Key} {d : D} {ds : List (Key × D)} (h : look ds k = some d) : (k, d) ∈ ds := by
  unfold look at h
  cases hf : ds.find? fun kv => decide (kv.1 = k) with
  | none => rw [hf] at h; simp at h
  | some p =>
    rw [hf] at h
    simp at h
    have m1 := List.mem_of_find?_eq_some hf
    have m2 := List.find?_some hf
    have m3 : p.1 = k := of_decide_eq_true m2
    rw [← m3, ← h]; exact m1
/-- two tables, one beside the other -/
theorem dicts_at {X : Cx} {pins : List (Addr × Obj)} {σ : L2.St} {s : Shared} (I : Inv X pins σ H s) (l : Le F H) {a1 a2 : Addr} {kvs1 kvs2 : List (Key × V)} {ds es : List (Key × D)} {c : Bool}
    (s1 : Rd F a1 (.dK kvs1)) (s2 : Rd F a2 (.dK kvs2)) (r1 : RepK C F ds kvs1) (r2 : RepK C F es kvs2) (hq : eqvK ds es = some c) :
    (a1 == sysModules) = false ∧ (a2 == sysModules) = false ∧ ∃ vs1 vs2, s.heap.DictOf (mixKind X.prog X.w) a1 vs1 ∧ s.heap.DictOf (mixKind X.prog X.w) a2 vs2 ∧ vs1.length = ds.length ∧ vs2.length = es.length ∧
      c = (vs1.all fun p => (valueAt vs2 p.1).isSome && atK ds es p.1) ∧
      ∀ k x y, (k, x) ∈ vs1 → valueAt vs2 k = some y → ∃ d e v u, (k, d) ∈ ds ∧ Rep C F d v ∧ Rep C F e u ∧ RelV v x ∧ RelV u y ∧ eqv d e = some (atK ds es k) := by
  have nd1 := rdK_nodup I (l.rd _ _ s1)
  obtain ⟨_, b1, vs1, q1, dd1⟩ := dk_rd I.hok (l.rd _ _ s1)
  obtain ⟨_, b2, vs2, q2, dd2⟩ := dk_rd I.hok (l.rd _ _ s2)
  have ndd := nd1
  rw [r1.keys] at ndd
  have hc := eqvK_val ds es hq fun k d m => look_mem ndd m
  refine ⟨b1, b2, vs1, vs2, dd1, dd2, by rw [← q1.length, r1.length], by rw [← q2.length, r2.length], ?_, fun k' x' y' m hy' => ?_⟩
  · have i2 : ∀ k, (look es k).isSome = (valueAt vs2 k).isSome := fun k => by
      have a := r2.look k
      have b := q2.val k
      cases h1 : look es k <;> cases h2 : valV kvs2 k <;> cases h3 : valueAt vs2 k <;> rw [h1, h2] at a <;> rw [h2, h3] at b <;> first | rfl | exact a.elim | exact b.elim
    have e1 : (ds.all fun p => (look es p.1).isSome && atK ds es p.1) = ((ds.map (·.1)).all fun k => (look es k).isSome && atK ds es k) := by rw [List.all_map]; rfl
    have e2 : (vs1.all fun p => (valueAt vs2 p.1).isSome && atK ds es p.1) = ((vs1.map (·.1)).all fun k => (valueAt vs2 k).isSome && atK ds es k) := by rw [List.all_map]; rfl
    rw [hc, e1, e2, ← r1.keys, q1.keys]
    congr 1
    funext k
    rw [i2]
  · obtain ⟨v', hv', rx'⟩ := kv_mem q1 m
    have a := r1.look k'
    rw [valV_mem nd1 hv'] at a
    cases hd1 : look ds k' with
    | none => rw [hd1] at a; exact a.elim
    | some d' =>
      rw [hd1] at a
      have b2 := q2.val k'
      rw [hy'] at b2
      cases hu1 : valV kvs2 k' with
      | none => rw [hu1] at b2; exact b2.elim
      | some u' =>
        rw [hu1] at b2
        have a2 := r2.look k'
        rw [hu1] at a2
        cases he1 : look es k' with
        | none => rw [he1] at a2; exact a2.elim
        | some e' =>
          rw [he1] at a2
          obtain ⟨c', hc'⟩ := eqvK_at es hq k' d' e' (look_in hd1) he1
          exact ⟨d', e', v', u', look_in hd1, a, a2, rx', b2, by rw [hc']; simp [atK, hd1, he1, hc']⟩
open PySem.SeqAt PySem.W in
theorem eqTree {X : Cx} {pins : List (Addr × Obj)} {σ : L2.St} {s : Shared} (I : Inv X pins σ H s) (k : C.K = X.K) (l : Le F H) : ∀ (n : Nat) {d e : D} {v u : V} {x y : Value} {b : Bool}, d.dep ≤ n → Rep C F d v → Rep C F e u → RelV v x → RelV u y → eqv d e = some b → EqTree X.prog X.w s n x y b := by
  intro n
  induction n with
  | zero =>
    intro d e v u x y b hd rd re rx ry h
    cases d with
    | tup ds => simp [D.dep] at hd
    | lst ds => simp [D.dep] at hd
    | dic ds => simp [D.dep] at hd
    | ins c fs => simp [eqv, D.odd] at h
    | scr ns => simp [eqv, D.odd] at h
    | _ =>
      simp only [eqv] at h
      split at h
      · cases h
      · rename_i ho
        cases h
        exact eqLeaf I k l rd re rx ry (by simpa using ho) (fun _ _ z => nomatch z.1) (fun _ _ z => nomatch z.1) 0
  | succ n ih =>
    intro d e v u x y b hd rd re rx ry h
    cases d with
    | ins c fs => simp [eqv, D.odd] at h
    | scr ns => simp [eqv, D.odd] at h
    | tup ds =>
      cases e with
      | tup es =>
        cases rd with
        | @tup a1 vs1 _ s1 r1 =>
        cases re with
        | @tup a2 vs2 _ s2 r2 =>
          cases rx
          cases ry
          by_cases ea : a1 = a2
          · subst ea
            rw [eqv_same I k l (.tup s1 r1) (.tup s2 r2) h]
            exact .same
          · simp only [eqv] at h
            obtain ⟨eb, ej⟩ := eqvL_at h
            have hs1 := l.sqT s1
            have hs2 := l.sqT s2
            rw [k] at hs1 hs2
            obtain ⟨its1, q1, p1⟩ := sqT_tuple I hs1
            obtain ⟨its2, q2, p2⟩ := sqT_tuple I hs2
            have n1 : its1.toArray.size = ds.length := by rw [List.size_toArray, ← q1.length, r1.length]
            have n2 : its2.toArray.size = es.length := by rw [List.size_toArray, ← q2.length, r2.length]
            rw [eb, ← n1, ← n2]
            refine .tuples ea p1 p2 fun j j1 j2 => ?_
            obtain ⟨d', hd'⟩ : ∃ d', ds[j]? = some d' := ⟨ds[j]'(by omega), List.getElem?_eq_getElem _⟩
            obtain ⟨e', he'⟩ : ∃ e', es[j]? = some e' := ⟨es[j]'(by omega), List.getElem?_eq_getElem _⟩
            obtain ⟨v', hv', rv'⟩ := r1.get hd'
            obtain ⟨u', hu', ru'⟩ := r2.get he'
            obtain ⟨x', hx', rx'⟩ := q1.get hv'
            obtain ⟨y', hy', ry'⟩ := q2.get hu'
            have ex : its1.toArray[j] = x' := by
              have : its1[j]? = some x' := hx'
              rw [List.getElem?_eq_getElem (by simpa using j1)] at this
              simpa using this
            have ey : its2.toArray[j] = y' := by
              have : its2[j]? = some y' := hy'
              rw [List.getElem?_eq_getElem (by simpa using j2)] at this
              simpa using this
            rw [ex, ey]
            exact ih (dep_le (by simp only [D.dep] at hd; omega) hd') rv' ru' rx' ry' (ej j d' e' hd' he')
      | dic _ => simp [eqv, D.odd] at h
      | ins _ _ => simp [eqv, D.odd] at h
      | scr _ => simp [eqv, D.odd] at h
      | _ =>
        simp only [eqv] at h
        split at h
        · cases h
        · rename_i ho
          cases h
          exact eqLeaf I k l rd re rx ry (by simpa using ho) (fun _ _ z => nomatch z.2) (fun _ _ z => nomatch z.1) _
    | lst ds =>
      cases e with
      | lst es =>
        cases rd with
        | @lst a1 vs1 _ s1 r1 =>
        cases re with
        | @lst a2 vs2 _ s2 r2 =>
          cases rx
          cases ry
          by_cases ea : a1 = a2
          · subst ea
            rw [eqv_same I k l (.lst s1 r1) (.lst s2 r2) h]
            exact .same
          · simp only [eqv] at h
            obtain ⟨eb, ej⟩ := eqvL_at h
            obtain ⟨its1, q1, p1⟩ := lst_list I (l.ins _ _ rfl s1)
            obtain ⟨its2, q2, p2⟩ := lst_list I (l.ins _ _ rfl s2)
            have n1 : its1.toArray.size = ds.length := by rw [List.size_toArray, ← q1.length, r1.length]
            have n2 : its2.toArray.size = es.length := by rw [List.size_toArray, ← q2.length, r2.length]
            by_cases hsz : ds.length = es.length
            · rw [eb, hsz, Nat.min_self, beq_self_eq_true, Bool.and_true, ← hsz, ← n1]
              refine .lists ea p1 p2 (by omega) fun j j1 j2 => ?_
              obtain ⟨d', hd'⟩ : ∃ d', ds[j]? = some d' := ⟨ds[j]'(by omega), List.getElem?_eq_getElem _⟩
              obtain ⟨e', he'⟩ : ∃ e', es[j]? = some e' := ⟨es[j]'(by omega), List.getElem?_eq_getElem _⟩
              obtain ⟨v', hv', rv'⟩ := r1.get hd'
              obtain ⟨u', hu', ru'⟩ := r2.get he'
              obtain ⟨x', hx', rx'⟩ := q1.get hv'
              obtain ⟨y', hy', ry'⟩ := q2.get hu'
              have ex : its1.toArray[j] = x' := by
                have : its1[j]? = some x' := hx'
                rw [List.getElem?_eq_getElem (by simpa using j1)] at this
                simpa using this
              have ey : its2.toArray[j] = y' := by
                have : its2[j]? = some y' := hy'
                rw [List.getElem?_eq_getElem (by simpa using j2)] at this
                simpa using this
              rw [ex, ey]
              exact ih (dep_le (by simp only [D.dep] at hd; omega) hd') rv' ru' rx' ry' (ej j d' e' hd' he')
            · have ebf : b = false := by rw [eb, beq_eq_false_iff_ne.mpr hsz, Bool.and_false]
              rw [ebf]
              exact .listsLen ea p1 p2 (by rw [n1, n2]; exact bne_iff_ne.mpr hsz)
      | dic _ => simp [eqv, D.odd] at h
      | ins _ _ => simp [eqv, D.odd] at h
      | scr _ => simp [eqv, D.odd] at h
      | _ =>
        simp only [eqv] at h
        split at h
        · cases h
        · rename_i ho
          cases h
          exact eqLeaf I k l rd re rx ry (by simpa using ho) (fun _ _ z => nomatch z.1) (fun _ _ z => nomatch z.2) _
    | dic ds =>
      cases e with
      | dic es =>
        cases rd with
        | @dic a1 kvs1 _ s1 r1 =>
        cases re with
        | @dic a2 kvs2 _ s2 r2 =>
          cases rx
          cases ry
          by_cases ea : a1 = a2
          · subst ea
            rw [eqv_same I k l (.dic s1 r1) (.dic s2 r2) h]
            exact .same
          · simp only [eqv] at h
            cases hq : eqvK ds es with
            | none => rw [hq] at h; simp at h
            | some c =>
              rw [hq] at h
              simp only [Option.map_some, Option.some.injEq] at h
              obtain ⟨b1, b2, vs1, vs2, dd1, dd2, l1, l2, ec, pts⟩ := dicts_at I l s1 s2 r1 r2 hq
              rw [← h, ec, ← l1, ← l2]
              refine .dicts ea b1 b2 dd1 dd2 fun k' x' y' m hy' => ?_
              obtain ⟨d', e', v', u', hm, rv', ru', rx', ry', hc'⟩ := pts k' x' y' m hy'
              exact ih (depK_le (by simp only [D.dep] at hd; omega) hm) rv' ru' rx' ry' hc'
      | _ => simp [eqv, D.odd] at h
    | _ =>
      simp only [eqv] at h
      split at h
      · cases h
      · rename_i ho
        cases h
        exact eqLeaf I k l rd re rx ry (by simpa using ho) (fun _ _ z => nomatch z.1) (fun _ _ z => nomatch z.1) _

/-! ### data without tables -/
mutual
def D.nod : D → Bool
  | .tup xs => nodL xs
  | .lst xs => nodL xs
  | .dic _ => false
  | _ => true
def nodL : List D → Bool
  | [] => true
  | x :: xs => x.nod && nodL xs
end
theorem nod_at : ∀ {ds : List D}, nodL ds = true → ∀ {j : Nat} {d : D}, ds[j]? = some d → d.nod = true
  | [], _, _, _, h => by simp at h
  | x :: xs, hn, j, d, h => by
    simp only [nodL, Bool.and_eq_true] at hn
    cases j with
    | zero => simp at h; subst h; exact hn.1
    | succ j => exact nod_at (ds := xs) hn.2 (j := j) (by simpa using h)
/-- the places of two rows, one beside the other -/
theorem rows_at {vs1 vs2 : List V} {ds es : List D} {its1 its2 : List Value} (r1 : RepL C F ds vs1) (r2 : RepL C F es vs2) (q1 : Vals vs1 its1) (q2 : Vals vs2 its2) {j : Nat} (j1 : j < its1.toArray.size) (j2 : j < its2.toArray.size) :
    ∃ d e v u, ds[j]? = some d ∧ es[j]? = some e ∧ Rep C F d v ∧ Rep C F e u ∧ RelV v its1.toArray[j] ∧ RelV u its2.toArray[j] := by
  have n1 : its1.length = ds.length := by rw [← q1.length, r1.length]
  have n2 : its2.length = es.length := by rw [← q2.length, r2.length]
  simp only [List.size_toArray] at j1 j2
  obtain ⟨d', hd'⟩ : ∃ d', ds[j]? = some d' := ⟨ds[j]'(by omega), List.getElem?_eq_getElem _⟩
  obtain ⟨e', he'⟩ : ∃ e', es[j]? = some e' := ⟨es[j]'(by omega), List.getElem?_eq_getElem _⟩
  obtain ⟨v', hv', rv'⟩ := r1.get hd'
  obtain ⟨u', hu', ru'⟩ := r2.get he'
  obtain ⟨x', hx', rx'⟩ := q1.get hv'
  obtain ⟨y', hy', ry'⟩ := q2.get hu'
  have ex : its1.toArray[j]'(by simpa using j1) = x' := by
    rw [List.getElem?_eq_getElem j1] at hx'
    simpa using hx'
  have ey : its2.toArray[j]'(by simpa using j2) = y' := by
    rw [List.getElem?_eq_getElem j2] at hy'
    simpa using hy'
  exact ⟨d', e', v', u', hd', he', rv', ru', by rw [ex]; exact rx', by rw [ey]; exact ry'⟩
open PySem.SeqAt PySem.W in
theorem eqAtD {X : Cx} {pins : List (Addr × Obj)} {σ : L2.St} {s : Shared} (I : Inv X pins σ H s) (k : C.K = X.K) (l : Le F H) : ∀ (n : Nat) {A : Around} {d e : D} {v u : V} {x y : Value} {b : Bool}, A.units + n < cLine → d.dep ≤ n → d.nod = true →
    Rep C F d v → Rep C F e u → RelV v x → RelV u y → eqv d e = some b → EqAt A s x y b := by
  intro n
  induction n with
  | zero =>
    intro A d e v u x y b hu hd hn rd re rx ry h
    cases d with
    | tup ds => simp [D.dep] at hd
    | lst ds => simp [D.dep] at hd
    | dic ds => simp [D.dep] at hd
    | ins c fs => simp [eqv, D.odd] at h
    | scr ns => simp [eqv, D.odd] at h
    | _ =>
      simp only [eqv] at h
      split at h
      · cases h
      · rename_i ho
        cases h
        exact atLeaf I k l rd re rx ry (by simpa using ho) (fun _ _ z => nomatch z.1) (fun _ _ z => nomatch z.1) (by omega)
  | succ n ih =>
    intro A d e v u x y b hu hd hn rd re rx ry h
    have hu' : A.units < cLine := by omega
    have hin : A.in1.units + n < cLine := by show A.units + 1 + n < cLine; omega
    cases d with
    | ins c fs => simp [eqv, D.odd] at h
    | scr ns => simp [eqv, D.odd] at h
    | dic ds => simp [D.nod] at hn
    | tup ds =>
      cases e with
      | tup es =>
        cases rd with
        | @tup a1 vs1 _ s1 r1 =>
        cases re with
        | @tup a2 vs2 _ s2 r2 =>
          cases rx
          cases ry
          by_cases ea : a1 = a2
          · subst ea
            rw [eqv_same I k l (.tup s1 r1) (.tup s2 r2) h]
            exact EqAt.same _
          · simp only [eqv] at h
            obtain ⟨eb, ej⟩ := eqvL_at h
            have hs1 := l.sqT s1
            have hs2 := l.sqT s2
            rw [k] at hs1 hs2
            obtain ⟨its1, q1, p1⟩ := sqT_tuple I hs1
            obtain ⟨its2, q2, p2⟩ := sqT_tuple I hs2
            have n1 : its1.toArray.size = ds.length := by rw [List.size_toArray, ← q1.length, r1.length]
            have n2 : its2.toArray.size = es.length := by rw [List.size_toArray, ← q2.length, r2.length]
            rw [eb, ← n1, ← n2]
            refine EqAt.of_refs ea (RcAt.tuples p1 p2 hu' fun j j1 j2 => ?_)
            obtain ⟨d', e', v', u', hd', he', rv', ru', rx', ry'⟩ := rows_at r1 r2 q1 q2 j1 j2
            exact ih hin (dep_le (by simp only [D.dep] at hd; omega) hd') (nod_at hn hd') rv' ru' rx' ry' (ej j d' e' hd' he')
      | dic _ => simp [eqv, D.odd] at h
      | ins _ _ => simp [eqv, D.odd] at h
      | scr _ => simp [eqv, D.odd] at h
      | _ =>
        simp only [eqv] at h
        split at h
        · cases h
        · rename_i ho
          cases h
          exact atLeaf I k l rd re rx ry (by simpa using ho) (fun _ _ z => nomatch z.2) (fun _ _ z => nomatch z.1) hu'
    | lst ds =>
      cases e with
      | lst es =>
        cases rd with
        | @lst a1 vs1 _ s1 r1 =>
        cases re with
        | @lst a2 vs2 _ s2 r2 =>
          cases rx
          cases ry
          by_cases ea : a1 = a2
          · subst ea
            rw [eqv_same I k l (.lst s1 r1) (.lst s2 r2) h]
            exact EqAt.same _
          · simp only [eqv] at h
            obtain ⟨eb, ej⟩ := eqvL_at h
            obtain ⟨its1, q1, p1⟩ := lst_list I (l.ins _ _ rfl s1)
            obtain ⟨its2, q2, p2⟩ := lst_list I (l.ins _ _ rfl s2)
            have n1 : its1.toArray.size = ds.length := by rw [List.size_toArray, ← q1.length, r1.length]
            have n2 : its2.toArray.size = es.length := by rw [List.size_toArray, ← q2.length, r2.length]
            by_cases hsz : ds.length = es.length
            · rw [eb, hsz, Nat.min_self, beq_self_eq_true, Bool.and_true, ← hsz, ← n1]
              refine EqAt.of_refs ea (RcAt.lists p1 p2 (by omega) hu' fun j j1 j2 => ?_)
              obtain ⟨d', e', v', u', hd', he', rv', ru', rx', ry'⟩ := rows_at r1 r2 q1 q2 j1 j2
              exact ih hin (dep_le (by simp only [D.dep] at hd; omega) hd') (nod_at hn hd') rv' ru' rx' ry' (ej j d' e' hd' he')
            · have ebf : b = false := by rw [eb, beq_eq_false_iff_ne.mpr hsz, Bool.and_false]
              rw [ebf]
              exact EqAt.of_refs ea (RcAt.lists_lengths p1 p2 (by rw [n1, n2]; exact bne_iff_ne.mpr hsz) hu')
      | dic _ => simp [eqv, D.odd] at h
      | ins _ _ => simp [eqv, D.odd] at h
      | scr _ => simp [eqv, D.odd] at h
      | _ =>
        simp only [eqv] at h
        split at h
        · cases h
        · rename_i ho
          cases h
          exact atLeaf I k l rd re rx ry (by simpa using ho) (fun _ _ z => nomatch z.1) (fun _ _ z => nomatch z.2) hu'
    | _ =>
      simp only [eqv] at h
      split at h
      · cases h
      · rename_i ho
        cases h
        exact atLeaf I k l rd re rx ry (by simpa using ho) (fun _ _ z => nomatch z.1) (fun _ _ z => nomatch z.1) hu'

def nodK : List (Key × D) → Bool
  | [] => true
  | (_, x) :: xs => x.nod && nodK xs
theorem nodK_at : ∀ {ds : List (Key × D)}, nodK ds = true → ∀ {k : Key} {d : D}, (k, d) ∈ ds → d.nod = true
  | [], _, _, _, h => by simp at h
  | (k0, x) :: xs, hn, k, d, h => by
    simp only [nodK, Bool.and_eq_true] at hn
    rcases List.mem_cons.mp h with q | q
    · cases q; exact hn.1
    · exact nodK_at hn.2 q
open PySem.SeqAt PySem.W in
/-- a == b -/
theorem eqCmp {X : Cx} {pins : List (Addr × Obj)} {σ : L2.St} {s : Shared} (I : Inv X pins σ H s) (k : C.K = X.K) (l : Le F H) {A : Around} {E : Value → Shared → Prop} {d e : D} {v u : V} {x y : Value} {b : Bool} {Q : Value → Shared → Prop} (hu : A.units + 150 < cLine) (hd : d.dep ≤ 100)
    (rd : Rep C F d v) (re : Rep C F e u) (rx : RelV v x) (ry : RelV u y) (h : eqv d e = some b) (hq : Q (.bool b) s) : wpAny (model X.prog X.w) A (compareOp .Eq x y) Q E s := by
  have hu' : A.units < cLine := by omega
  have hin : ∀ n, n ≤ 100 → A.in1.units + n < cLine := fun n z => by show A.units + 1 + n < cLine; omega
  cases d with
  | ins c fs => simp [eqv, D.odd] at h
  | scr ns => simp [eqv, D.odd] at h
  | tup ds =>
    cases e with
    | tup es =>
      cases rd with
      | @tup a1 vs1 _ s1 r1 =>
      cases re with
      | @tup a2 vs2 _ s2 r2 =>
        cases rx
        cases ry
        simp only [eqv] at h
        obtain ⟨eb, ej⟩ := eqvL_at h
        have hs1 := l.sqT s1
        have hs2 := l.sqT s2
        rw [k] at hs1 hs2
        obtain ⟨its1, q1, p1⟩ := sqT_tuple I hs1
        obtain ⟨its2, q2, p2⟩ := sqT_tuple I hs2
        have n1 : its1.toArray.size = ds.length := by rw [List.size_toArray, ← q1.length, r1.length]
        have n2 : its2.toArray.size = es.length := by rw [List.size_toArray, ← q2.length, r2.length]
        rw [eb, ← n1, ← n2] at hq
        simp only [D.dep] at hd
        refine rcIn_tuples p1 p2 hu' (fun j j1 j2 => ?_) hq
        obtain ⟨d', e', v', u', hd', he', rv', ru', rx', ry'⟩ := rows_at r1 r2 q1 q2 j1 j2
        exact (eqTree I k l (depL ds) (dep_le (Nat.le_refl _) hd') rv' ru' rx' ry' (ej j d' e' hd' he')).at _ (hin _ (by omega))
    | dic _ => simp [eqv, D.odd] at h
    | ins _ _ => simp [eqv, D.odd] at h
    | scr _ => simp [eqv, D.odd] at h
    | _ =>
      simp only [eqv] at h
      split at h
      · cases h
      · rename_i ho
        cases h
        exact rcLeaf I k l rd re rx ry (by simpa using ho) (fun _ _ z => nomatch z.2) (fun _ _ z => nomatch z.1) hu' _ _ _ _ hq
  | lst ds =>
    cases e with
    | lst es =>
      cases rd with
      | @lst a1 vs1 _ s1 r1 =>
      cases re with
      | @lst a2 vs2 _ s2 r2 =>
        cases rx
        cases ry
        simp only [eqv] at h
        obtain ⟨eb, ej⟩ := eqvL_at h
        obtain ⟨its1, q1, p1⟩ := lst_list I (l.ins _ _ rfl s1)
        obtain ⟨its2, q2, p2⟩ := lst_list I (l.ins _ _ rfl s2)
        have n1 : its1.toArray.size = ds.length := by rw [List.size_toArray, ← q1.length, r1.length]
        have n2 : its2.toArray.size = es.length := by rw [List.size_toArray, ← q2.length, r2.length]
        simp only [D.dep] at hd
        by_cases hsz : ds.length = es.length
        · rw [eb, hsz, Nat.min_self, beq_self_eq_true, Bool.and_true, ← hsz, ← n1] at hq
          refine rcIn_lists p1 p2 (by omega) hu' (fun j j1 j2 => ?_) hq
          obtain ⟨d', e', v', u', hd', he', rv', ru', rx', ry'⟩ := rows_at r1 r2 q1 q2 j1 j2
          exact (eqTree I k l (depL ds) (dep_le (Nat.le_refl _) hd') rv' ru' rx' ry' (ej j d' e' hd' he')).at _ (hin _ (by omega))
        · have ebf : b = false := by rw [eb, beq_eq_false_iff_ne.mpr hsz, Bool.and_false]
          rw [ebf] at hq
          exact RcAt.lists_lengths p1 p2 (by rw [n1, n2]; exact bne_iff_ne.mpr hsz) hu' _ _ _ _ hq
    | dic _ => simp [eqv, D.odd] at h
    | ins _ _ => simp [eqv, D.odd] at h
    | scr _ => simp [eqv, D.odd] at h
    | _ =>
      simp only [eqv] at h
      split at h
      · cases h
      · rename_i ho
        cases h
        exact rcLeaf I k l rd re rx ry (by simpa using ho) (fun _ _ z => nomatch z.1) (fun _ _ z => nomatch z.2) hu' _ _ _ _ hq
  | dic ds =>
    cases e with
    | dic es =>
      cases rd with
      | @dic a1 kvs1 _ s1 r1 =>
      cases re with
      | @dic a2 kvs2 _ s2 r2 =>
        cases rx
        cases ry
        simp only [eqv] at h
        simp only [D.dep] at hd
        cases hq' : eqvK ds es with
        | none => rw [hq'] at h; simp at h
        | some c =>
          rw [hq'] at h
          simp only [Option.map_some, Option.some.injEq] at h
          obtain ⟨b1, b2, vs1, vs2, dd1, dd2, l1, l2, ec, pts⟩ := dicts_at I l s1 s2 r1 r2 hq'
          rw [← h, ec, ← l1, ← l2] at hq
          refine keq_eqIn b1 b2 dd1 dd2 hu' (fun _ => KeqHitsIn.of _ fun k' x' y' m hy' => ?_) hq
          obtain ⟨d', e', v', u', hm, rv', ru', rx', ry', hc'⟩ := pts k' x' y' m hy'
          exact (eqTree I k l (depK ds) (depK_le (Nat.le_refl _) hm) rv' ru' rx' ry' hc').at _ (hin _ (by omega))
    | _ => simp [eqv, D.odd] at h
  | _ =>
    simp only [eqv] at h
    split at h
    · cases h
    · rename_i ho
      cases h
      exact rcLeaf I k l rd re rx ry (by simpa using ho) (fun _ _ z => nomatch z.1) (fun _ _ z => nomatch z.1) hu' _ _ _ _ hq
/-- what != has an answer for -/
def D.neOk : D → Bool
  | .dic kvs => nodK kvs
  | d => d.nod
theorem keqHits_of {kb : List (Key × Value)} {A : Around} {s : Shared} {e : Key → Bool} : ∀ (r : List (Key × Value)), (∀ k v y, (k, v) ∈ r → valueAt kb k = some y → SeqAt.EqAt A s v y (e k)) →
    PySem.W.KeqHits A s kb r (r.all fun p => (valueAt kb p.1).isSome && e p.1)
  | [], _ => .nil
  | (k, v) :: r, h => by
    rw [List.all_cons]
    cases hv : valueAt kb k with
    | none => simp only [hv, Option.isSome_none, Bool.false_and]; exact .miss hv
    | some y =>
      simp only [hv, Option.isSome_some, Bool.true_and]
      exact .hit hv (h k v y List.mem_cons_self hv) (keqHits_of r fun k' v' y' m hv' => h k' v' y' (List.mem_cons_of_mem _ m) hv')
open PySem.SeqAt PySem.W in
/-- a != b -/
theorem neCmp {X : Cx} {pins : List (Addr × Obj)} {σ : L2.St} {s : Shared} (I : Inv X pins σ H s) (k : C.K = X.K) (l : Le F H) {A : Around} {E : Value → Shared → Prop} {d e : D} {v u : V} {x y : Value} {b : Bool} {Q : Value → Shared → Prop} (hu : A.units + 150 < cLine) (hd : d.dep ≤ 100) (hn : d.neOk = true)
    (rd : Rep C F d v) (re : Rep C F e u) (rx : RelV v x) (ry : RelV u y) (h : eqv d e = some b) (hq : Q (.bool (!b)) s) : wpAny (model X.prog X.w) A (compareOp .NotEq x y) Q E s := by
  have hu' : A.units < cLine := by omega
  have hin : ∀ n, n ≤ 100 → A.in1.units + n < cLine := fun n z => by show A.units + 1 + n < cLine; omega
  cases d with
  | ins c fs => simp [eqv, D.odd] at h
  | scr ns => simp [eqv, D.odd] at h
  | tup ds =>
    cases e with
    | tup es =>
      cases rd with
      | @tup a1 vs1 _ s1 r1 =>
      cases re with
      | @tup a2 vs2 _ s2 r2 =>
        cases rx
        cases ry
        simp only [eqv] at h
        obtain ⟨eb, ej⟩ := eqvL_at h
        have hs1 := l.sqT s1
        have hs2 := l.sqT s2
        rw [k] at hs1 hs2
        obtain ⟨its1, q1, p1⟩ := sqT_tuple I hs1
        obtain ⟨its2, q2, p2⟩ := sqT_tuple I hs2
        have n1 : its1.toArray.size = ds.length := by rw [List.size_toArray, ← q1.length, r1.length]
        have n2 : its2.toArray.size = es.length := by rw [List.size_toArray, ← q2.length, r2.length]
        rw [eb, ← n1, ← n2] at hq
        simp only [D.dep] at hd
        refine RcNeAt.tuples p1 p2 hu' (fun j j1 j2 => ?_) _ _ _ _ hq
        obtain ⟨d', e', v', u', hd', he', rv', ru', rx', ry'⟩ := rows_at r1 r2 q1 q2 j1 j2
        exact eqAtD I k l (depL ds) (hin _ (by omega)) (dep_le (Nat.le_refl _) hd') (nod_at hn hd') rv' ru' rx' ry' (ej j d' e' hd' he')
    | dic _ => simp [eqv, D.odd] at h
    | ins _ _ => simp [eqv, D.odd] at h
    | scr _ => simp [eqv, D.odd] at h
    | _ =>
      simp only [eqv] at h
      split at h
      · cases h
      · rename_i ho
        cases h
        exact neLeaf I k l rd re rx ry (by simpa using ho) (fun _ _ z => nomatch z.2) (fun _ _ z => nomatch z.1) hu' _ _ _ _ hq
  | lst ds =>
    cases e with
    | lst es =>
      cases rd with
      | @lst a1 vs1 _ s1 r1 =>
      cases re with
      | @lst a2 vs2 _ s2 r2 =>
        cases rx
        cases ry
        simp only [eqv] at h
        obtain ⟨eb, ej⟩ := eqvL_at h
        obtain ⟨its1, q1, p1⟩ := lst_list I (l.ins _ _ rfl s1)
        obtain ⟨its2, q2, p2⟩ := lst_list I (l.ins _ _ rfl s2)
        have n1 : its1.toArray.size = ds.length := by rw [List.size_toArray, ← q1.length, r1.length]
        have n2 : its2.toArray.size = es.length := by rw [List.size_toArray, ← q2.length, r2.length]
        simp only [D.dep] at hd
        by_cases hsz : ds.length = es.length
        · rw [eb, hsz, Nat.min_self, beq_self_eq_true, Bool.and_true, ← hsz, ← n1] at hq
          refine RcNeAt.lists p1 p2 (by omega) hu' (fun j j1 j2 => ?_) _ _ _ _ hq
          obtain ⟨d', e', v', u', hd', he', rv', ru', rx', ry'⟩ := rows_at r1 r2 q1 q2 j1 j2
          exact eqAtD I k l (depL ds) (hin _ (by omega)) (dep_le (Nat.le_refl _) hd') (nod_at hn hd') rv' ru' rx' ry' (ej j d' e' hd' he')
        · have ebf : b = false := by rw [eb, beq_eq_false_iff_ne.mpr hsz, Bool.and_false]
          rw [ebf] at hq
          exact RcNeAt.lists_lengths p1 p2 (by rw [n1, n2]; exact bne_iff_ne.mpr hsz) hu' _ _ _ _ hq
    | dic _ => simp [eqv, D.odd] at h
    | ins _ _ => simp [eqv, D.odd] at h
    | scr _ => simp [eqv, D.odd] at h
    | _ =>
      simp only [eqv] at h
      split at h
      · cases h
      · rename_i ho
        cases h
        exact neLeaf I k l rd re rx ry (by simpa using ho) (fun _ _ z => nomatch z.1) (fun _ _ z => nomatch z.2) hu' _ _ _ _ hq
  | dic ds =>
    cases e with
    | dic es =>
      cases rd with
      | @dic a1 kvs1 _ s1 r1 =>
      cases re with
      | @dic a2 kvs2 _ s2 r2 =>
        cases rx
        cases ry
        simp only [eqv] at h
        simp only [D.dep] at hd
        cases hq' : eqvK ds es with
        | none => rw [hq'] at h; simp at h
        | some c =>
          rw [hq'] at h
          simp only [Option.map_some, Option.some.injEq] at h
          obtain ⟨b1, b2, vs1, vs2, dd1, dd2, l1, l2, ec, pts⟩ := dicts_at I l s1 s2 r1 r2 hq'
          rw [← h, ec, ← l1, ← l2] at hq
          refine keq_ne b1 b2 dd1 dd2 hu' (fun _ => keqHits_of _ fun k' x' y' m hy' => ?_) hq
          obtain ⟨d', e', v', u', hm, rv', ru', rx', ry', hc'⟩ := pts k' x' y' m hy'
          exact eqAtD I k l (depK ds) (hin _ (by omega)) (depK_le (Nat.le_refl _) hm) (nodK_at hn hm) rv' ru' rx' ry' hc'
    | _ => simp [eqv, D.odd] at h
  | _ =>
    simp only [eqv] at h
    split at h
    · cases h
    · rename_i ho
      cases h
      exact neLeaf I k l rd re rx ry (by simpa using ho) (fun _ _ z => nomatch z.1) (fun _ _ z => nomatch z.1) hu' _ _ _ _ hq
end
/-- read in H: there with all its parts -/
theorem RepS.up {C : Ct} {F H : Hp} {d : D} {v : V} (l : Le F H) (r : RepS C F H d v) : Rep C H d v := by
  cases r with
  | non => exact .non
  | bl b => exact .bl b
  | int i => exact .int i
  | str x => exact .str x
  | tup s r => exact .tup (l.sqT s) (r.mono l)
  | lst s r => exact .lst s (r.mono l)
  | scr s => exact .scr s
  | dic s r => exact .dic s (r.mono l)
  | ins s r => exact .ins s (r.mono l)
end PyI
set_option maxHeartbeats 1000000
/-! PyI5: comparisons, subscripts, slices, truth, isinstance, built-ins on data. -/
namespace PyI
open PySem PySem.Spec PyProof.Rows L2

def eqOp (d e : D) : Option Bool := if d.dep ≤ 100 then eqv d e else none
def neOp (d e : D) : Option Bool := if d.dep ≤ 100 ∧ d.neOk = true then (eqv d e).map not else none
def inOp : D → D → Option Bool
  | x, .lst xs => if x.flat = true ∧ xs.all D.flat = true then some (inD x xs) else none
  | x, .tup xs => if x.flat = true ∧ xs.all D.flat = true then some (inD x xs) else none
  | .str x, .str z => if x.length = 1 then some (decide (x.cps.getD 0 0 ∈ z.cps.toList)) else none
  | x, .dic kvs => (keyD x).map fun k => (look kvs k).isSome
  | _, _ => none
def isOp : D → D → Option Bool
  | .non, .non => some true
  | _, .non => some false
  | .bl a, .bl b => some (a == b)
  | _, _ => none
def copB : Cop → D → D → Option Bool
  | .eq, d, e => eqOp d e
  | .ne, d, e => neOp d e
  | .lt, .int i, .int j => some (decide (i < j))
  | .le, .int i, .int j => some (decide (i ≤ j))
  | .gt, .int i, .int j => some (decide (j < i))
  | .ge, .int i, .int j => some (decide (j ≤ i))
  | .isin, d, e => inOp d e
  | .notin, d, e => (inOp d e).map not
  | .is_, d, e => isOp d e
  | .isnot, d, e => (isOp d e).map not
  | _, _, _ => none
def cop (o : Cop) (d e : D) : Option Op := (copB o d e).map fun b => .v (.bl b)
def cmpOf : Cop → CmpOp
  | .eq => .Eq | .ne => .NotEq | .lt => .Lt | .le => .LtE | .gt => .Gt | .ge => .GtE | .isin => .In | .notin => .NotIn | .is_ => .Is | .isnot => .IsNot
theorem cop_nos (o : Cop) : NoS2 (cop o) := by
  intro d e i h
  unfold cop at h
  cases hb : copB o d e with
  | none => rw [hb] at h; cases h
  | some b => rw [hb] at h; cases h
def rEqX (C : Ct) : R2 := fun x y H Q => ∃ d e b, Rep C H d x ∧ Rep C H e y ∧ d.dep ≤ 100 ∧ eqv d e = some b ∧ Q (.bl b) H
def rNeX (C : Ct) : R2 := fun x y H Q => ∃ d e b, Rep C H d x ∧ Rep C H e y ∧ d.dep ≤ 100 ∧ d.neOk = true ∧ eqv d e = some b ∧ Q (.bl (!b)) H
def rInK : R2 := fun x y H Q => ∃ a k kvs, y = .ref a ∧ x = kV k ∧ Rd H a (.dK kvs) ∧ Q (.bl (valV kvs k).isSome) H
def rNotInK : R2 := fun x y H Q => ∃ a k kvs, y = .ref a ∧ x = kV k ∧ Rd H a (.dK kvs) ∧ Q (.bl (!(valV kvs k).isSome)) H
def rIsB : R2 := fun x y H Q => ∃ a b, x = .bl a ∧ y = .bl b ∧ Q (.bl (a == b)) H
def rIsNotB : R2 := fun x y H Q => ∃ a b, x = .bl a ∧ y = .bl b ∧ Q (.bl (!(a == b))) H
section
variable {X : Cx} {C : Ct}
theorem op_eqX (k : C.K = X.K) (hu : X.A.units + 150 < cLine) : OpR X (compareOp .Eq) (rEqX C) := by
  intro pins s σ H x y v u Q I rx ry h
  obtain ⟨d, e, b, rd, re, hd, he, q⟩ := h
  exact eqCmp I k (Le.refl _) hu hd rd re rx ry he ⟨.bl b, H, I, rfl, q⟩
theorem op_neX (k : C.K = X.K) (hu : X.A.units + 150 < cLine) : OpR X (compareOp .NotEq) (rNeX C) := by
  intro pins s σ H x y v u Q I rx ry h
  obtain ⟨d, e, b, rd, re, hd, hn, he, q⟩ := h
  exact neCmp I k (Le.refl _) hu hd hn rd re rx ry he ⟨.bl _, H, I, rfl, q⟩
theorem op_inK (hu : X.A.units + 150 < cLine) : OpR X (compareOp .In) rInK := by
  intro pins s σ H x y v u Q I rx ry h
  obtain ⟨a, k, kvs, rfl, rfl, rd, q⟩ := h
  cases ry
  exact d_in (by omega) I (.inl ⟨kvs, k, rd, rfl, rfl⟩) rx fun s' I' => ⟨.bl _, H, I', rfl, q⟩
theorem op_notInK (hu : X.A.units + 150 < cLine) : OpR X (compareOp .NotIn) rNotInK := by
  intro pins s σ H x y v u Q I rx ry h
  obtain ⟨a, k, kvs, rfl, rfl, rd, q⟩ := h
  cases ry
  exact d_notIn (by omega) I (.inl ⟨kvs, k, rd, rfl, rfl⟩) rx fun s' I' => ⟨.bl _, H, I', rfl, q⟩
theorem op_isB : OpR X (compareOp .Is) rIsB := by
  intro pins s σ H x y v u Q I rx ry h
  obtain ⟨a, b, rfl, rfl, q⟩ := h
  cases rx
  cases ry
  exact is_bool ⟨.bl _, H, I, rfl, q⟩
theorem op_isNotB : OpR X (compareOp .IsNot) rIsNotB := by
  intro pins s σ H x y v u Q I rx ry h
  obtain ⟨a, b, rfl, rfl, q⟩ := h
  cases rx
  cases ry
  exact isnot_bool ⟨.bl _, H, I, rfl, q⟩
end
def rCop (C : Ct) : Cop → R2
  | .eq => rEqX C
  | .ne => rNeX C
  | .lt => rI0 fun i j => .bl (decide (i < j))
  | .le => rI0 fun i j => .bl (decide (i ≤ j))
  | .gt => rI0 fun i j => .bl (decide (j < i))
  | .ge => rI0 fun i j => .bl (decide (j ≤ i))
  | .isin => fun x y H Q => (rIn C.K false x y H Q ∨ (∃ (c : Nat) (z : Str), x = .str ⟨#[c]⟩ ∧ y = .str z ∧ Q (.bl (decide (c ∈ z.cps.toList))) H)) ∨ rInK x y H Q
  | .notin => fun x y H Q => (rIn C.K true x y H Q ∨ (∃ (c : Nat) (z : Str), x = .str ⟨#[c]⟩ ∧ y = .str z ∧ Q (.bl (!decide (c ∈ z.cps.toList))) H)) ∨ rNotInK x y H Q
  | .is_ => fun x y H Q => (y = .non ∧ Q (.bl (decide (x = .non))) H) ∨ rIsB x y H Q
  | .isnot => fun x y H Q => (y = .non ∧ Q (.bl (!decide (x = .non))) H) ∨ rIsNotB x y H Q
theorem opr_cop {X : Cx} {C : Ct} (k : C.K = X.K) (hu : X.A.units + 150 < cLine) : ∀ o : Cop, OpR X (compareOp (cmpOf o)) (rCop C o)
  | .eq => op_eqX k hu
  | .ne => op_neX k hu
  | .lt => op_lt
  | .le => op_le
  | .gt => op_gt
  | .ge => op_ge
  | .isin => by
    have h : OpR X (compareOp .In) (rIn C.K false) := k ▸ op_in_seq
    exact (h.or op_in_sign).or (op_inK hu)
  | .notin => by
    have h : OpR X (compareOp .NotIn) (rIn C.K true) := k ▸ op_notIn_seq
    exact (h.or op_notIn_sign).or (op_notInK hu)
  | .is_ => op_isN.or op_isB
  | .isnot => op_notN.or op_isNotB
section
variable {C : Ct} {F H : Hp}
theorem str_one {x : Str} (h : x.length = 1) : x = ⟨#[x.cps.getD 0 0]⟩ := by
  obtain ⟨⟨l⟩⟩ := x
  have h' : l.length = 1 := h
  match l, h' with
  | [c], _ => rfl
theorem look_some {k : Key} {ds : List (Key × D)} {kvs : List (Key × V)} (r : RepK C F ds kvs) : (valV kvs k).isSome = (look ds k).isSome := by
  have a := r.look k
  cases h1 : look ds k <;> cases h2 : valV kvs k <;> rw [h1, h2] at a <;> first | rfl | exact a.elim
/-- what «in» asks, in the layer's words -/
theorem in_serves {d e : D} {v u : V} {b : Bool} (l : Le F H) (rd : RepS C F H d v) (re : RepS C F H e u) (h : inOp d e = some b) :
    (∃ p xs, u = .ref p ∧ (SqL C.K H p xs ∨ SqT C.K H p xs) ∧ flatV v = true ∧ xs.all flatV = true ∧ b = inV v xs) ∨ (∃ (c : Nat) (z : Str), v = .str ⟨#[c]⟩ ∧ u = .str z ∧ b = decide (c ∈ z.cps.toList)) ∨
      ∃ a k kvs, u = .ref a ∧ v = kV k ∧ Rd H a (.dK kvs) ∧ b = (valV kvs k).isSome := by
  cases re with
  | @lst a0 vs0 ds0 e1 r1 =>
    have h' : (if d.flat = true ∧ ds0.all D.flat = true then some (inD d ds0) else none) = some b := by
      cases d <;> exact h
    split at h'
    · rename_i hz
      cases h'
      exact .inl ⟨_, _, rfl, .inl (.of e1), flat_s hz.1 rd, flat_all r1 hz.2, (inD_s hz.1 rd r1 hz.2).symm⟩
    · cases h'
  | @tup a0 vs0 ds0 e1 r1 =>
    have h' : (if d.flat = true ∧ ds0.all D.flat = true then some (inD d ds0) else none) = some b := by
      cases d <;> exact h
    split at h'
    · rename_i hz
      cases h'
      exact .inl ⟨_, _, rfl, .inr (l.sqT e1), flat_s hz.1 rd, flat_all r1 hz.2, (inD_s hz.1 rd r1 hz.2).symm⟩
    · cases h'
  | @dic a0 vs0 ds0 e1 r1 =>
    have h' : ((keyD d).map fun k => (look ds0 k).isSome) = some b := by
      cases d <;> exact h
    cases hk : keyD d with
    | none => rw [hk] at h'; cases h'
    | some k =>
      rw [hk] at h'
      simp only [Option.map_some, Option.some.injEq] at h'
      exact .inr (.inr ⟨_, k, _, rfl, key_s hk rd, e1, by rw [look_some r1, h']⟩)
  | str z =>
    cases rd with
    | str x =>
      simp only [inOp] at h
      split at h
      · rename_i hz
        cases h
        exact .inr (.inl ⟨_, z, by rw [← str_one hz], rfl, rfl⟩)
      · cases h
    | _ => simp [inOp] at h
  | _ => cases rd <;> simp [inOp] at h
theorem is_serves {d e : D} {v u : V} {b : Bool} (rd : RepS C F H d v) (re : RepS C F H e u) (h : isOp d e = some b) :
    (u = .non ∧ b = decide (v = .non)) ∨ ∃ p q, v = .bl p ∧ u = .bl q ∧ b = (p == q) := by
  cases re with
  | non => cases rd <;> (simp [isOp] at h; subst h; exact .inl ⟨rfl, by simp⟩)
  | bl c => cases rd <;> simp [isOp] at h; subst h; exact .inr ⟨_, _, rfl, rfl, rfl⟩
  | _ => cases rd <;> simp [isOp] at h
end
theorem serves_cop (C : Ct) (o : Cop) : Serves2 C (cop o) (rCop C o) := by
  intro F H d e v u op Q l rd re eo dn
  unfold cop at eo
  cases hb : copB o d e with
  | none => rw [hb] at eo; cases eo
  | some b =>
    rw [hb] at eo
    simp only [Option.map_some, Option.some.injEq] at eo
    subst eo
    have q : Q (.bl b) H := dn.val (.bl b)
    cases o with
    | eq =>
      have hb' : (if d.dep ≤ 100 then eqv d e else none) = some b := hb
      split at hb'
      · rename_i hz; exact ⟨d, e, b, rd.up l, re.up l, hz, hb', q⟩
      · cases hb'
    | ne =>
      have hb' : (if d.dep ≤ 100 ∧ d.neOk = true then (eqv d e).map not else none) = some b := hb
      split at hb'
      · rename_i hz
        cases hq : eqv d e with
        | none => rw [hq] at hb'; cases hb'
        | some c =>
          rw [hq] at hb'
          simp only [Option.map_some, Option.some.injEq] at hb'
          exact ⟨d, e, c, rd.up l, re.up l, hz.1, hz.2, hq, by rw [hb']; exact q⟩
      · cases hb'
    | lt => cases rd <;> cases re <;> simp [copB] at hb; subst hb; exact ⟨_, _, rfl, rfl, q⟩
    | le => cases rd <;> cases re <;> simp [copB] at hb; subst hb; exact ⟨_, _, rfl, rfl, q⟩
    | gt => cases rd <;> cases re <;> simp [copB] at hb; subst hb; exact ⟨_, _, rfl, rfl, q⟩
    | ge => cases rd <;> cases re <;> simp [copB] at hb; subst hb; exact ⟨_, _, rfl, rfl, q⟩
    | isin =>
      have hb' : inOp d e = some b := by cases d <;> exact hb
      rcases in_serves l rd re hb' with ⟨p, xs, h1, h2, h3, h4, h5⟩ | ⟨c, z, h1, h2, h3⟩ | ⟨a, k, kvs, h1, h2, h3, h4⟩
      · exact .inl (.inl ⟨p, xs, h1, h2, h3, h4, by rw [h5] at q; exact q⟩)
      · exact .inl (.inr ⟨c, z, h1, h2, by rw [h3] at q; exact q⟩)
      · exact .inr ⟨a, k, kvs, h1, h2, h3, by rw [h4] at q; exact q⟩
    | notin =>
      have hb' : (inOp d e).map not = some b := by cases d <;> exact hb
      cases hq : inOp d e with
      | none => rw [hq] at hb'; cases hb'
      | some c =>
        rw [hq] at hb'
        simp only [Option.map_some, Option.some.injEq] at hb'
        subst hb'
        rcases in_serves l rd re hq with ⟨p, xs, h1, h2, h3, h4, h5⟩ | ⟨c', z, h1, h2, h3⟩ | ⟨a, k, kvs, h1, h2, h3, h4⟩
        · exact .inl (.inl ⟨p, xs, h1, h2, h3, h4, by rw [h5] at q; exact q⟩)
        · exact .inl (.inr ⟨c', z, h1, h2, by rw [h3] at q; exact q⟩)
        · exact .inr ⟨a, k, kvs, h1, h2, h3, by rw [h4] at q; exact q⟩
    | is_ =>
      have hb' : isOp d e = some b := by cases d <;> exact hb
      rcases is_serves rd re hb' with ⟨h1, h2⟩ | ⟨p, q', h1, h2, h3⟩
      · exact .inl ⟨h1, by rw [h2] at q; exact q⟩
      · exact .inr ⟨p, q', h1, h2, by rw [h3] at q; exact q⟩
    | isnot =>
      have hb' : (isOp d e).map not = some b := by cases d <;> exact hb
      cases hq : isOp d e with
      | none => rw [hq] at hb'; cases hb'
      | some c =>
        rw [hq] at hb'
        simp only [Option.map_some, Option.some.injEq] at hb'
        subst hb'
        rcases is_serves rd re hq with ⟨h1, h2⟩ | ⟨p, q', h1, h2, h3⟩
        · exact .inl ⟨h1, by rw [h2] at q; exact q⟩
        · exact .inr ⟨p, q', h1, h2, by rw [h3] at q; exact q⟩

/-! ### subscripts -/
def ixD : D → D → Option Op
  | .lst xs, .int i => (atI xs i).map .v
  | .tup xs, .int i => (atI xs i).map .v
  | .str z, .int i => if z.length ≤ 100000 then (atI z.cps.toList i).map fun c => .v (.str ⟨#[c]⟩) else none
  | .dic kvs, d => ((keyD d).bind (look kvs)).map .v
  | _, _ => none
theorem ixD_nos : NoS2 ixD := by
  intro d e i h
  unfold ixD at h
  split at h
  · cases hq : atI _ _ <;> rw [hq] at h <;> cases h
  · cases hq : atI _ _ <;> rw [hq] at h <;> cases h
  · split at h
    · cases hq : atI _ _ <;> rw [hq] at h <;> cases h
    · cases h
  · cases hq : (keyD e).bind (look _) <;> rw [hq] at h <;> cases h
  · cases h
def rIxK : R2 := fun x y H Q => ∃ a k kvs v, x = .ref a ∧ y = kV k ∧ Rd H a (.dK kvs) ∧ valV kvs k = some v ∧ Q v H
theorem ix_dic {X : Cx} (hu : X.A.units + 150 < cLine) : IxR X rIxK := by
  intro value slice pins s σ H x y v u Q I rx ry h hs
  obtain ⟨a, k, kvs, z, rfl, rfl, rd, hv, q⟩ := h
  cases rx
  have g : DGet H a (kV k) (some z) := .inl ⟨kvs, k, rd, rfl, hv.symm⟩
  have hT := dict_typeIs I g
  unfold subscriptTail
  refine wpAny_bind ?_
  rw [getitemInPython_of_ne hT.not_modules]
  refine wpAny_bind (wpAny_specialOf hT PySem.F.slot_dict_getitem.lookup ?_)
  have fin : wpAny (model X.prog X.w) X.A (subscripted slice false (.ref a) u) (fun r s₃ => wpAny (model X.prog X.w) X.A (letTemporaryGo value (.ref a) r >>= fun _ => pure r) (EP X pins σ Q) X.xe s₃) X.xe s := by
    rw [hs]
    refine wpAny_operating (wpAny_mono (Q := EP X pins σ Q) (d_getItem (by omega) I g ry fun w' s3 I3 rw' => ⟨z, H, I3, rw', q⟩) (fun r s₃ h₃ => wpAny_bind (wpAny_letTemporaryGo (wpAny_pure h₃))) fun _ _ x => x)
  first
    | exact wpAny_pure (wpAny_bind fin)
    | exact wpAny_bind fin
    | exact fin
def rIxA (C : Ct) : R2 := fun x y H Q => (rIxL C.K x y H Q ∨ rIxT C.K x y H Q ∨ rIxS x y H Q) ∨ rIxK x y H Q
theorem ixr_all {X : Cx} {C : Ct} (k : C.K = X.K) (hu : X.A.units + 150 < cLine) : IxR X (rIxA C) := by
  have h : IxR X (rIx C.K) := k ▸ ix_seq
  exact h.or (ix_dic hu)
theorem atI_rep {C : Ct} {F : Hp} {ds : List D} {vs : List V} {i : Int} {d : D} (r : RepL C F ds vs) (h : atI ds i = some d) : ∃ v, atI vs i = some v ∧ Rep C F d v := by
  unfold atI at h ⊢
  rw [r.length]
  cases hj : ixN ds.length i with
  | none => rw [hj] at h; cases h
  | some j =>
    rw [hj] at h
    exact r.get h
theorem serves_ix (C : Ct) : Serves2 C ixD (rIxA C) := by
  intro F H d e v u op Q l rd re eo dn
  unfold ixD at eo
  split at eo
  · cases hq : atI _ _ with
    | none => rw [hq] at eo; cases eo
    | some d' =>
      rw [hq] at eo; cases eo
      cases rd with
      | lst e1 r1 =>
        cases re
        obtain ⟨v', h1, h2⟩ := atI_rep r1 hq
        exact .inl (.inl ⟨_, _, _, v', rfl, rfl, .of e1, h1, dn.val h2⟩)
  · cases hq : atI _ _ with
    | none => rw [hq] at eo; cases eo
    | some d' =>
      rw [hq] at eo; cases eo
      cases rd with
      | tup e1 r1 =>
        cases re
        obtain ⟨v', h1, h2⟩ := atI_rep r1 hq
        exact .inl (.inr (.inl ⟨_, _, _, v', rfl, rfl, l.sqT e1, h1, dn.val h2⟩))
  · split at eo
    · rename_i hz
      cases hq : atI _ _ with
      | none => rw [hq] at eo; cases eo
      | some c =>
        rw [hq] at eo; cases eo
        cases rd
        cases re
        exact .inl (.inr (.inr ⟨_, _, c, rfl, rfl, szl hz, hq, dn.val (.str _)⟩))
    · cases eo
  · cases hk : keyD e with
    | none => rw [hk] at eo; cases eo
    | some k =>
      rw [hk] at eo
      simp only [Option.bind_some] at eo
      cases hq : look _ k with
      | none => rw [hq] at eo; cases eo
      | some d' =>
        rw [hq] at eo; cases eo
        cases rd with
        | dic e1 r1 =>
          have a := r1.look k
          rw [hq] at a
          cases hv : valV _ k with
          | none => rw [hv] at a; exact a.elim
          | some v' =>
            rw [hv] at a
            exact .inr ⟨_, k, _, v', rfl, key_s hk re, e1, hv, dn.val a⟩
  · cases eo
end PyI
set_option maxHeartbeats 1000000
/-! PyI6: slices, truth, isinstance, built-ins on data. -/
namespace PyI
open PySem PySem.Spec PyProof.Rows L2

/-! ### slices -/
def cutD {α : Type} (xs : List α) (lo hi : Option Int) : List α := (xs.drop (HT.sIx xs.length 0 lo)).take (HT.sIx xs.length xs.length hi - HT.sIx xs.length 0 lo)
def slD : D → Option Int → Option Int → Option Op
  | .lst xs, lo, hi => some (.f (.lst (cutD xs lo hi)))
  | .scr ns, lo, hi => some (.f (.lst ((cutD ns lo hi).map .int)))
  | .tup xs, lo, hi => some (.v (.tup (cutD xs lo hi)))
  | .str z, lo, hi => if z.length ≤ 100000 then some (.v (.str (cutS z lo hi))) else none
  | _, _, _ => none
def partE : Option Fe → Env → Res (Option Int)
  | none, ρ => .ok none ρ
  | some f, ρ => (f ρ).bind fun op ρ1 => match deref ρ1 op with
    | some (.int i) => .ok (some i) ρ1
    | _ => .bad
def sl3 (x : Op) (lo hi : Option Int) (ρ : Env) : Res Op := match deref ρ x with
  | some d => res (slD d lo hi) ρ
  | none => .bad
def seqSl (f : Fe) (lo hi : Option Fe) : Fe := fun ρ => (f ρ).bind fun x ρ1 => (partE lo ρ1).bind fun l ρ2 => (partE hi ρ2).bind fun u ρ3 => sl3 x l u ρ3
def tO (C : Ct) (W : WX) (f : Env → Res (Option Int)) : TO := fun σ H Q => ∃ F ρ, SR C ⟨F, H, σ, ρ⟩ ∧ Kw C W ⟨F, H, σ, ρ⟩ (fun w' o => Q o w'.H) (f ρ)
section
variable {X : Cx} {C : Ct} {W : WX} {f : Fe} {lo hi : Option Fe}
theorem POimp {e : Option Expr} {t t' : TO} (h : PO X e t) (k : ∀ σ H Q, t' σ H Q → t σ H Q) : PO X e t' := ⟨fun pins s σ H Q I q => h.run pins s σ H Q I (k σ H Q q)⟩
theorem po_n : PO X none (tO C W (partE none)) := POimp po_none fun σ H Q ⟨F, ρ, s, h⟩ => h F H (Go.refl s)
theorem po_s {e : Expr} (h : PE X e (tE C W f)) : PO X (some e) (tO C W (partE (some f))) := POimp (po_some h) fun σ H Q ⟨F, ρ, s, h⟩ =>
  ⟨F, ρ, s, Kw.bind h fun x ρ1 F1 H1 e1 g1 h1 v rv => by
    split at h1
    · rename_i i hd
      have r := rv.read g1.sr hd
      cases r
      exact ⟨i, rfl, h1 F1 H1 (Go.refl g1.sr)⟩
    · exact h1.elim⟩
def rSlX (C : Ct) : V → Option Int → Option Int → Hp → VK → Prop := fun x lo hi H Q => (rSlL C.K x lo hi H Q ∨ rSlA C.K x lo hi H Q) ∨ rSlS x lo hi H Q
theorem slr_all (k : C.K = X.K) : SlR X (rSlX C) := by
  have h1 : SlR X (rSlL C.K) := k ▸ sl_list
  have h2 : SlR X (rSlA C.K) := k ▸ sl_tupA
  exact (h1.or h2).or sl_str
theorem cut_rep {F : Hp} {ds : List D} {vs : List V} (lo hi : Option Int) (r : RepL C F ds vs) : RepL C F (cutD ds lo hi) (cutV vs lo hi) := by
  unfold cutD cutV
  rw [r.length]
  exact (r.drop _).take _
theorem cut_whole {α : Type} {xs : List α} {lo hi : Option Int} (h : HT.sIx xs.length 0 lo = 0 ∧ HT.sIx xs.length xs.length hi = xs.length) : cutD xs lo hi = xs := by
  unfold cutD
  rw [h.1, h.2]
  simp
theorem ints_rep (F : Hp) : ∀ ns : List Int, RepL C F (ns.map D.int) (ns.map V.int)
  | [] => .nil
  | n :: ns => .cons (.int n) (ints_rep F ns)
theorem serves_sl {F H : Hp} {d : D} {v : V} {op : Op} {lo hi : Option Int} {Q : VK} (l : Le F H) (rd : RepS C F H d v) (eo : slD d lo hi = some op) (dn : Done C F H Q op) : rSlX C v lo hi H Q := by
  cases rd with
  | lst e1 r1 => cases eo; exact .inl (.inl ⟨_, _, rfl, .of e1, fun p n => dn.lst (cut_rep lo hi r1) n⟩)
  | @scr a ns e1 =>
    cases eo
    refine .inl (.inl ⟨_, _, rfl, e1, fun p n => ?_⟩)
    have e : cutV (ns.map V.int) lo hi = (cutD ns lo hi).map V.int := by
      unfold cutV cutD
      simp only [List.length_map, List.map_take, List.map_drop]
    rw [e]
    exact dn.lst (ints_rep F _) n
  | tup e1 r1 =>
    cases eo
    refine .inl (.inr ⟨_, _, rfl, l.sqT e1, fun z => ?_, fun _ p n => dn.tup l (cut_rep lo hi r1) n⟩)
    rw [r1.length] at z
    rw [cut_whole z] at dn
    exact dn.val (.tup e1 r1)
  | str z =>
    simp only [slD] at eo
    split at eo
    · rename_i hz; cases eo; exact .inr ⟨z, rfl, szl hz, dn.val (.str _)⟩
    · cases eo
  | _ => cases eo
theorem pe_sl {a : Expr} {elo ehi : Option Expr} {p2 pos : Pos} (k : C.K = X.K) (ha : PE X a (tE C W f)) (hl : PO X elo (tO C W (partE lo))) (hu : PO X ehi (tO C W (partE hi))) : PE X (.Subscript a (.Slice elo ehi none p2) pos) (tE C W (seqSl f lo hi)) :=
  PEimp (pe_slice (slr_all k) ha hl hu) fun σ H Q ⟨F, ρ, s, h⟩ => ⟨F, ρ, s, Kw.bind h fun x ρ1 F1 H1 e1 g1 h1 v rv => ⟨F1, ρ1, g1.sr, Kw.bind h1 fun l ρ2 F2 H2 e2 g2 h2 => ⟨F2, ρ2, g2.sr, Kw.bind h2 fun u ρ3 F3 H3 e3 g3 h3 => by
    unfold sl3 at h3
    split at h3
    · rename_i d hd
      have r := (rv.carry (g2.trans g3) rfl).read g3.sr hd
      obtain ⟨op, eo, dn⟩ := done_of g3.sr (fun x z => g1.h0 (g2.h0 (g3.h0 z))) (fun i z => by
        unfold slD at z
        split at z <;> first | cases z | (split at z <;> cases z)) h3
      exact serves_sl g3.sr.le r eo dn
    · exact h3.elim⟩⟩⟩
end

/-! ### truth -/
def truD : D → Option Bool
  | .non => some false
  | .bl b => some b
  | .int i => some (i != 0)
  | .str z => if z.length ≤ 100000 then some ((z.length : Int) != 0) else none
  | .lst xs => some (!xs.isEmpty)
  | .tup xs => some (!xs.isEmpty)
  | _ => none
theorem RepL.empty {C : Ct} {F : Hp} {ds : List D} {vs : List V} (r : RepL C F ds vs) : vs.isEmpty = ds.isEmpty := by cases r <;> rfl
theorem tru_s {C : Ct} {F H : Hp} {d : D} {v : V} {b : Bool} (l : Le F H) (r : RepS C F H d v) (h : truD d = some b) : TruV C.K v H b := by
  cases r with
  | non => cases h; rfl
  | bl b => cases h; rfl
  | int i => cases h; rfl
  | str z =>
    simp only [truD] at h
    split at h
    · rename_i hz; cases h; exact ⟨szl hz, rfl⟩
    · cases h
  | lst e1 r1 => cases h; exact .inl ⟨_, .of e1, by rw [r1.empty]⟩
  | tup e1 r1 => cases h; exact .inr (.inl ⟨_, l.sqT e1, by rw [r1.empty]⟩)
  | _ => cases h
def truE (f : Fe) : Ft := fun ρ => (f ρ).bind fun op ρ1 => match (deref ρ1 op).bind truD with
  | some b => .ok b ρ1
  | none => .bad
theorem truE_imp {C : Ct} {W : WX} {f : Fe} : ∀ σ H Q, tT C W (truE f) σ H Q → tE C W f σ H fun x H' => ∃ k, TruV C.K x H' k ∧ Q k H' := by
  intro σ H Q ⟨F, ρ, s, h⟩
  refine ⟨F, ρ, s, Kw.bind h fun x ρ1 F1 H1 e1 g1 h1 v rv => ?_⟩
  cases hd : deref ρ1 x with
  | none => simp only [hd, Option.bind_none] at h1; exact h1.elim
  | some d =>
    simp only [hd, Option.bind_some] at h1
    cases hb : truD d with
    | none => simp only [hb] at h1; exact h1.elim
    | some b =>
      simp only [hb] at h1
      exact ⟨b, tru_s g1.sr.le (rv.read g1.sr hd) hb, h1 F1 H1 (Go.refl g1.sr)⟩

/-! ### isinstance -/
inductive Ty where
  | int | bool | str | tuple | list | dict
  deriving DecidableEq, Inhabited
def Ty.name : Ty → String
  | .int => "int" | .bool => "bool" | .str => "str" | .tuple => "tuple" | .list => "list" | .dict => "dict"
def isiD : D → Ty → Option Bool
  | .non, _ => some false
  | .bl _, t => some (t == .bool || t == .int)
  | .int _, t => some (t == .int)
  | .str _, t => some (t == .str)
  | .tup _, t => some (t == .tuple)
  | .lst _, t => some (t == .list)
  | .dic _, t => some (t == .dict)
  | .scr _, t => some (t == .list)
  | .ins _ _, _ => none
theorem isi_s {C : Ct} {F H : Hp} {d : D} {v : V} {t : Ty} {b : Bool} (l : Le F H) (r : RepS C F H d v) (h : isiD d t = some b) : ∃ ty, TyX C.K H v ty ∧ PySem.W.kitOne C.K ty (.type t.name) = some b := by
  cases r with
  | non => cases h; exact ⟨_, .base .non, kit_ty (by cases t <;> decide +kernel)⟩
  | bl b => cases h; exact ⟨_, .base (.bl b), kit_ty (by cases t <;> decide +kernel)⟩
  | int i => cases h; exact ⟨_, .base (.int i), kit_ty (by cases t <;> decide +kernel)⟩
  | str z => cases h; exact ⟨_, .base (.str z), kit_ty (by cases t <;> decide +kernel)⟩
  | lst e1 r1 => cases h; exact ⟨_, .base (.lst e1), kit_ty (by cases t <;> decide +kernel)⟩
  | tup e1 r1 =>
    cases h
    have e : PySem.W.kitOne C.K (.type "tuple") (.type t.name) = some (t == .tuple) := kit_ty (by cases t <;> decide +kernel)
    rcases l.sqT e1 with (q | ⟨o, q⟩) | ⟨o, its, n, q, c, _⟩
    · exact ⟨_, .base (.tup q), e⟩
    · exact ⟨_, .fTuple q, e⟩
    · exact ⟨_, .kTuple q c, e⟩
  | dic e1 r1 =>
    cases h
    have e : PySem.W.kitOne C.K (.type "dict") (.type t.name) = some (t == .dict) := kit_ty (by cases t <;> decide +kernel)
    rcases e1 with q | ⟨o, q⟩
    · exact ⟨_, .base (.dK q), e⟩
    · exact ⟨_, .fDict q, e⟩
  | scr e1 =>
    cases h
    have e : PySem.W.kitOne C.K (.type "list") (.type t.name) = some (t == .list) := kit_ty (by cases t <;> decide +kernel)
    rcases e1 with (q | ⟨o, q⟩) | ⟨o, its, n, q, c, _⟩
    · exact ⟨_, .base (.lst q), e⟩
    · exact ⟨_, .base (.frz q), e⟩
    · exact ⟨_, .kList q c, e⟩
  | ins e1 r1 => cases h
def isi (t : Ty) (d : D) : Option Op := (isiD d t).map fun b => .v (.bl b)
theorem isi_nos (t : Ty) : NoS1 (isi t) := by
  intro d i h
  unfold isi at h
  cases hb : isiD d t <;> rw [hb] at h <;> cases h
theorem isi_imp {C : Ct} {W : WX} {f : Fe} {t : Ty} : ∀ σ H Q, tE C W (seq1 f (op1 (isi t))) σ H Q → tCB (rIsi C.K) (tCons (tE C W f) (tCons (tC (.ty t.name)) tNil)) σ H Q := by
  intro σ H Q ⟨F, ρ, s, h⟩
  refine ⟨F, ρ, s, Kw.bind h fun x ρ1 F1 H1 e1 g1 h1 v rv => ?_⟩
  unfold op1 at h1
  split at h1
  · rename_i d hd
    obtain ⟨op, eo, dn⟩ := done_of g1.sr (fun x z => g1.h0 z) (isi_nos t d) h1
    unfold isi at eo
    cases hb : isiD d t with
    | none => rw [hb] at eo; cases eo
    | some b =>
      rw [hb] at eo; cases eo
      obtain ⟨ty, h1, h2⟩ := isi_s g1.sr.le (rv.read g1.sr hd) hb
      exact ⟨v, .ty t.name, ty, .type t.name, b, rfl, .ty _, h1, h2, dn.val (.bl b)⟩
  · exact h1.elim

/-! ### built-ins of one argument -/
inductive Bi where
  | len | abs | int | list | tuple | all | any | sum
  deriving DecidableEq, Inhabited
def bls : List D → Option (List Bool)
  | [] => some []
  | .bl b :: r => (bls r).map (b :: ·)
  | _ => none
def nums : List D → Option (List Int)
  | [] => some []
  | .int b :: r => (nums r).map (b :: ·)
  | _ => none
def strz : List D → Option (List Str)
  | [] => some []
  | .str b :: r => (strz r).map (b :: ·)
  | _ => none
def biD : Bi → D → Option Op
  | .len, .str z => if z.length ≤ 100000 then some (.v (.int z.length)) else none
  | .len, .lst xs => some (.v (.int xs.length))
  | .len, .tup xs => some (.v (.int xs.length))
  | .len, .dic kvs => some (.v (.int kvs.length))
  | .abs, .int i => some (.v (.int (if i < 0 then -i else i)))
  | .int, .int i => some (.v (.int i))
  | .int, .bl b => some (.v (.int (if b then 1 else 0)))
  | .list, .lst xs => some (.f (.lst xs))
  | .list, .tup xs => some (.f (.lst xs))
  | .tuple, .lst xs => some (.v (.tup xs))
  | .tuple, .tup xs => some (.v (.tup xs))
  | .all, .lst xs => (bls xs).map fun bs => .v (.bl (bs.all id))
  | .any, .lst xs => (bls xs).map fun bs => .v (.bl (bs.any id))
  | .sum, .lst xs => (nums xs).map fun bs => .v (.int bs.sum)
  | _, _ => none
theorem biD_nos (o : Bi) : NoS1 (biD o) := by
  intro d i h
  unfold biD at h
  split at h <;> first
    | (split at h <;> cases h)
    | (cases hq : bls _ <;> rw [hq] at h <;> cases h; done)
    | (cases hq : nums _ <;> rw [hq] at h <;> cases h; done)
    | cases h
section
variable {C : Ct} {F : Hp}
theorem bls_rep : ∀ {ds : List D} {vs : List V} {bs : List Bool}, RepL C F ds vs → bls ds = some bs → vs = bs.map V.bl
  | _, _, _, .nil, h => by cases h; rfl
  | _, _, _, .cons (d := d) r t, h => by
    cases r with
    | bl b =>
      simp only [bls] at h
      cases hq : bls _ with
      | none => rw [hq] at h; cases h
      | some bs => rw [hq] at h; cases h; rw [bls_rep t hq]; rfl
    | _ => cases h
theorem nums_rep : ∀ {ds : List D} {vs : List V} {bs : List Int}, RepL C F ds vs → nums ds = some bs → vs = bs.map V.int
  | _, _, _, .nil, h => by cases h; rfl
  | _, _, _, .cons (d := d) r t, h => by
    cases r with
    | int b =>
      simp only [nums] at h
      cases hq : nums _ with
      | none => rw [hq] at h; cases h
      | some bs => rw [hq] at h; cases h; rw [nums_rep t hq]; rfl
    | _ => cases h
theorem strz_rep : ∀ {ds : List D} {vs : List V} {bs : List Str}, RepL C F ds vs → strz ds = some bs → vs = bs.map V.str
  | _, _, _, .nil, h => by cases h; rfl
  | _, _, _, .cons (d := d) r t, h => by
    cases r with
    | str b =>
      simp only [strz] at h
      cases hq : strz _ with
      | none => rw [hq] at h; cases h
      | some bs => rw [hq] at h; cases h; rw [strz_rep t hq]; rfl
    | _ => cases h
end
def rLenK : List V → Hp → VK → Prop := fun xs H Q => ∃ a kvs, xs = [.ref a] ∧ Rd H a (.dK kvs) ∧ Q (.int kvs.length) H
theorem call_lenK {X : Cx} : CallR X (.builtin "len") rLenK := by
  intro pins s σ H xs us Q I r h
  obtain ⟨a, kvs, rfl, rd, q⟩ := h
  obtain rfl := Vals.ref1 r
  exact d_len I rd fun t s' I' => ⟨.int kvs.length, H, I', ⟨t, rfl⟩, q⟩
def rBi (C : Ct) : Bi → List V → Hp → VK → Prop
  | .len => fun xs H Q => ((∃ p ys, xs = [.ref p] ∧ (SqL C.K H p ys ∨ SqT C.K H p ys) ∧ Q (.int ys.length) H) ∨ (∃ z, xs = [.str z] ∧ z.length ≤ sizeLine ∧ Q (.int z.length) H)) ∨ rLenK xs H Q
  | .abs => fun xs H Q => ∃ i, xs = [.int i] ∧ Q (.int (if i < 0 then -i else i)) H
  | .int => fun xs H Q => (∃ i, xs = [.int i] ∧ Q (.int i) H) ∨ ∃ k, xs = [.bl k] ∧ Q (.int (if k then 1 else 0)) H
  | .list => fun xs H Q => ∃ p ys, xs = [.ref p] ∧ (SqL C.K H p ys ∨ SqT C.K H p ys) ∧ ∀ l, H l = none → Q (.ref l) (upd H l (.lst ys))
  | .tuple => fun xs H Q => ∃ p ys, xs = [.ref p] ∧ ((SqL C.K H p ys ∧ ∀ l, H l = none → Q (.ref l) (upd H l (.tup ys))) ∨ (SqT C.K H p ys ∧ Q (.ref p) H))
  | .all => rAll C.K
  | .any => rAny C.K
  | .sum => rSum C.K
theorem serves_bi (C : Ct) (o : Bi) : Serves1 C (biD o) (fun x H Q => rBi C o [x] H Q) := by
  intro F H d v op Q l rd eo dn
  unfold biD at eo
  split at eo
  · split at eo
    · rename_i hz; cases eo; cases rd; exact .inl (.inr ⟨_, rfl, szl hz, dn.val (.int _)⟩)
    · cases eo
  · cases eo
    cases rd with
    | lst e1 r1 => exact .inl (.inl ⟨_, _, rfl, .inl (.of e1), by rw [r1.length]; exact dn.val (.int _)⟩)
  · cases eo
    cases rd with
    | tup e1 r1 => exact .inl (.inl ⟨_, _, rfl, .inr (l.sqT e1), by rw [r1.length]; exact dn.val (.int _)⟩)
  · cases eo
    cases rd with
    | dic e1 r1 => exact .inr ⟨_, _, rfl, e1, by rw [r1.length]; exact dn.val (.int _)⟩
  · cases eo; cases rd; exact ⟨_, rfl, dn.val (.int _)⟩
  · cases eo; cases rd; exact .inl ⟨_, rfl, dn.val (.int _)⟩
  · cases eo; cases rd; exact .inr ⟨_, rfl, dn.val (.int _)⟩
  · cases eo
    cases rd with
    | lst e1 r1 => exact ⟨_, _, rfl, .inl (.of e1), fun p n => dn.lst r1 n⟩
  · cases eo
    cases rd with
    | tup e1 r1 => exact ⟨_, _, rfl, .inr (l.sqT e1), fun p n => dn.lst r1 n⟩
  · cases eo
    cases rd with
    | lst e1 r1 => exact ⟨_, _, rfl, .inl ⟨.of e1, fun p n => dn.tup l r1 n⟩⟩
  · cases eo
    cases rd with
    | tup e1 r1 => exact ⟨_, _, rfl, .inr ⟨l.sqT e1, dn.val (.tup e1 r1)⟩⟩
  · cases hq : bls _ with
    | none => rw [hq] at eo; cases eo
    | some bs =>
      rw [hq] at eo; cases eo
      cases rd with
      | lst e1 r1 => exact ⟨_, bs, rfl, by rw [← bls_rep r1 hq]; exact .of e1, dn.val (.bl _)⟩
  · cases hq : bls _ with
    | none => rw [hq] at eo; cases eo
    | some bs =>
      rw [hq] at eo; cases eo
      cases rd with
      | lst e1 r1 => exact ⟨_, bs, rfl, by rw [← bls_rep r1 hq]; exact .of e1, dn.val (.bl _)⟩
  · cases hq : nums _ with
    | none => rw [hq] at eo; cases eo
    | some bs =>
      rw [hq] at eo; cases eo
      cases rd with
      | lst e1 r1 => exact ⟨_, bs, rfl, by rw [← nums_rep r1 hq]; exact .of e1, dn.val (.int _)⟩
  · cases eo
def biName : Bi → Str
  | .len => "len" | .abs => "abs" | .int => "int" | .list => "list" | .tuple => "tuple" | .all => "all" | .any => "any" | .sum => "sum"
theorem pe_bi {X : Cx} {C : Ct} {W : WX} {f : Fe} {e : Expr} {p pos : Pos} (k : C.K = X.K) (hc : X.calm = true) (o : Bi) (hg : Gl X (biName o)) (hm : X.mg (biName o) = none) (ha : PE X e (tE C W f)) (hs : starEach [e] X.env = [(false, eval e X.env)]) :
    PE X (.Call (.Name (biName o) p) [e] [] pos) (tE C W (seq1 f (op1 (biD o)))) := by
  refine PEimp ?_ (one_call (r := rBi C o) (biD_nos o) (serves_bi C o))
  have pa : PA X [e] (tCons (tE C W f) tNil) := pa_cons ha pa_nil hs
  have hs' : starEach (e :: []) X.env = (false, eval e X.env) :: starEach [] X.env := hs
  cases o with
  | len =>
    have r1 : CallR X (.builtin "len") (fun xs H Q => ∃ p ys, xs = [.ref p] ∧ (SqL C.K H p ys ∨ SqT C.K H p ys) ∧ Q (.int ys.length) H) := k ▸ call_len_seq
    exact pe_callB ((r1.or call_len_str).or call_lenK) hg hm (by decide +kernel) pa (by decide) (by decide) hs'
  | abs => exact pe_callB call_abs hg hm (by decide +kernel) pa (by decide) (by decide) hs'
  | int => exact pe_callTy call_int1 hg hm (by decide +kernel) pa (by decide) (by decide) hs'
  | list =>
    have r1 : CallR X (.type "list") (rBi C .list) := by simp only [rBi]; rw [k]; exact call_list_of
    exact pe_callTy r1 hg hm (by decide +kernel) pa (by decide) (by decide) hs'
  | tuple =>
    have r1 : CallR X (.type "tuple") (rBi C .tuple) := by simp only [rBi]; rw [k]; exact call_tuple_of
    exact pe_callTy r1 hg hm (by decide +kernel) pa (by decide) (by decide) hs'
  | all =>
    have r1 : CallR X (.builtin "all") (rBi C .all) := by simp only [rBi]; rw [k]; exact cr_all hc
    exact pe_callB r1 hg hm (by decide +kernel) pa (by decide) (by decide) hs'
  | any =>
    have r1 : CallR X (.builtin "any") (rBi C .any) := by simp only [rBi]; rw [k]; exact cr_any hc
    exact pe_callB r1 hg hm (by decide +kernel) pa (by decide) (by decide) hs'
  | sum =>
    have r1 : CallR X (.builtin "sum") (rBi C .sum) := by simp only [rBi]; rw [k]; exact cr_sum hc
    exact pe_callB r1 hg hm (by decide +kernel) pa (by decide) (by decide) hs'
end PyI
set_option maxHeartbeats 1000000
/-! PyI7: names, constants, displays, tests, and, or, not, comparisons; argument lists; calls. -/
namespace PyI
open PySem PySem.Spec PyProof.Rows L2

/-! ### names, constants -/
def varE (i : Nat) : Fe := fun ρ => match ρ[i]? with
  | some (.val d) => .ok (.v d) ρ
  | some (.own _ _) => .ok (.s i) ρ
  | _ => .bad
def cstE (d : D) : Fe := fun ρ => .ok (.v d) ρ
section
variable {X : Cx} {C : Ct} {W : WX} {f g h : Fe} {pos : Pos}
theorem pe_v {i : Nat} {x : Str} (hN : X.N[i]? = some x) (hv : Vis X.env.scope x) (hd : (x == ("__debug__" : Str)) = false) (hcd : (x == ("__classdict__" : Str)) = false) : PE X (.Name x pos) (tE C W (varE i)) :=
  PEimp (pe_var hN hv hd hcd) fun σ H Q ⟨F, ρ, s, h⟩ => by
    unfold varE at h
    split at h
    · rename_i d hi
      obtain ⟨v, e1, e2⟩ := s.val i d hi
      exact ⟨v, e1, h F H (Go.refl s) v e2⟩
    · rename_i k d hi
      obtain ⟨a, e1, _⟩ := s.own i k d hi
      exact ⟨.ref a, e1, h F H (Go.refl s) (.ref a) e1⟩
    · exact h.elim
theorem tC_imp {d : D} {v : V} (r : ∀ F, Rep C F d v) : ∀ σ H Q, tE C W (cstE d) σ H Q → tC v σ H Q := fun σ H Q ⟨F, ρ, s, h⟩ => h F H (Go.refl s) v (r F)
theorem pe_c {d : D} {v : V} {e : Expr} (h : PE X e (tC v)) (r : ∀ F, Rep C F d v) : PE X e (tE C W (cstE d)) := PEimp h (tC_imp r)

/-! ### frozen -/
def frzE (f : Fe) : Fe := fun ρ => (f ρ).bind fun op ρ1 => match frz ρ1 op with
  | some (d, ρ2) => .ok (.v d) ρ2
  | none => .bad
theorem Kw.out {w : Wd} {α β : Type} {R : Wd → β → Prop} {r : Res α} {q : α → Env → Res β} (h : Kw C W w R (r.bind q)) {R' : Wd → α → Prop}
    (k : ∀ a ρ1 F1 H1, r = .ok a ρ1 → Go C w ⟨F1, H1, w.sg, ρ1⟩ → Kw C W w R (q a ρ1) → R' ⟨F1, H1, w.sg, ρ1⟩ a) : Kw C W w R' r := by
  cases r with
  | ok a ρ' => exact fun F' H' g => k a ρ' F' H' rfl g h
  | exc c fs ρ' => exact h
  | bad => exact h
theorem frz_imp : ∀ σ H Q, tE C W (frzE f) σ H Q → tE C W f σ H Q := fun σ H Q ⟨F, ρ, s, h⟩ =>
  ⟨F, ρ, s, Kw.out h fun x ρ1 F1 H1 e1 g1 h1 v rv => by
    split at h1
    · rename_i d ρ2 hz
      obtain ⟨F', g2, r2⟩ := Go.frz g1 hz rv
      exact h1 F' H1 g2 v r2
    · exact h1.elim⟩
theorem pe_frz {e : Expr} (h : PE X e (tE C W f)) : PE X e (tE C W (frzE f)) := PEimp h frz_imp

/-! ### argument lists -/
def seqA : List Fe → Fa
  | [], ρ => .ok [] ρ
  | f :: fs, ρ => (f ρ).bind fun op ρ1 => (seqA fs ρ1).bind fun ops ρ2 => .ok (op :: ops) ρ2
theorem pa_n : PA X [] (tA C W (seqA [])) := PAimp pa_nil fun σ H Q ⟨F, ρ, s, h⟩ => h F H (Go.refl s) [] .nil
theorem pa_c {e : Expr} {es : List Expr} {fs : List Fe} (ha : PE X e (tE C W f)) (hr : PA X es (tA C W (seqA fs))) (hs : starEach (e :: es) X.env = (false, eval e X.env) :: starEach es X.env) : PA X (e :: es) (tA C W (seqA (f :: fs))) :=
  PAimp (pa_cons ha hr hs) fun σ H Q ⟨F, ρ, s, h⟩ => ⟨F, ρ, s, Kw.bind h fun x ρ1 F1 H1 e1 g1 h1 v rv =>
    ⟨F1, ρ1, g1.sr, Kw.bind h1 fun ops ρ2 F2 H2 e2 g2 h2 vs rvs => h2 F2 H2 (Go.refl g2.sr) (v :: vs) (.cons (rv.carry g2 rfl) (rvs.weaken fun x z => g1.h0 z))⟩⟩
/-- all of them frozen values -/
def vals : List Op → Option (List D)
  | [] => some []
  | .v d :: r => (vals r).map (d :: ·)
  | _ => none
theorem vals_rep {H0 : Hp} {w : Wd} : ∀ {ops : List Op} {vs : List V} {ds : List D}, RepOps C H0 w ops vs → vals ops = some ds → RepL C w.F ds vs
  | _, _, _, .nil, h => by cases h; exact .nil
  | _, _, _, .cons (op := op) r t, h => by
    cases op with
    | v d =>
      simp only [vals] at h
      cases hq : vals _ with
      | none => rw [hq] at h; cases h
      | some ds => rw [hq] at h; cases h; exact .cons r (vals_rep t hq)
    | f d => cases h
    | s i => cases h
def seqV (fa : Fa) (h : List D → Option Op) : Fe := fun ρ => (fa ρ).bind fun ops ρ1 => match vals ops with
  | some ds => res (h ds) ρ1
  | none => .bad
def tupD (ds : List D) : Option Op := if ds.length ≤ 100000 then some (.v (.tup ds)) else none
def lstD (ds : List D) : Option Op := if ds.length ≤ 100000 then some (.f (.lst ds)) else none
theorem pe_t {es : List Expr} {x1 : Nat} {fa : Fa} (h : PA X es (tA C W fa)) : PE X (.Tuple es x1 pos) (tE C W (seqV fa tupD)) :=
  PEimp (pe_tup h) fun σ H Q ⟨F, ρ, s, h⟩ => ⟨F, ρ, s, Kw.bind h fun ops ρ1 F1 H1 e1 g1 h1 vs rvs => by
    split at h1
    · rename_i ds hd
      have r := vals_rep rvs hd
      unfold tupD at h1
      split at h1
      · rename_i hz
        obtain ⟨op, eo, dn⟩ := done_of g1.sr (fun x z => g1.h0 z) (fun i z => by cases z) h1
        cases eo
        exact ⟨szl (by rw [r.length]; exact hz), fun p n => dn.tup g1.sr.le r n⟩
      · exact h1.elim
    · exact h1.elim⟩
theorem pe_l {es : List Expr} {fa : Fa} (h : PA X es (tA C W fa)) : PE X (.List es pos) (tE C W (seqV fa lstD)) :=
  PEimp (pe_lst h) fun σ H Q ⟨F, ρ, s, h⟩ => ⟨F, ρ, s, Kw.bind h fun ops ρ1 F1 H1 e1 g1 h1 vs rvs => by
    split at h1
    · rename_i ds hd
      have r := vals_rep rvs hd
      unfold lstD at h1
      split at h1
      · rename_i hz
        obtain ⟨op, eo, dn⟩ := done_of g1.sr (fun x z => g1.h0 z) (fun i z => by cases z) h1
        cases eo
        exact ⟨szl (by rw [r.length]; exact hz), fun p n => dn.lst r n⟩
      · exact h1.elim
    · exact h1.elim⟩
/-- {} -/
def dnewE : Fe := fun ρ => .ok (.f (.dic [])) ρ
theorem pe_dn : PE X (.Dict [] [] pos) (tE C W dnewE) := PEimp pe_dnewK fun σ H Q ⟨F, ρ, s, h⟩ p n => by
  obtain ⟨op, eo, dn⟩ := done_of (o := some (.f (.dic []))) s (fun x z => z) (fun i z => by cases z) h
  cases eo
  exact dn.dic .nil n

/-! ### operators -/
theorem pe_bin {a b : Expr} (k : C.K = X.K) (o : Bop) (ha : PE X a (tE C W f)) (hb : PE X b (tE C W g)) : PE X (.BinOp a (oprOf o) b pos) (tE C W (seq2 f g (op2 (bop o)))) := by
  have h := opr_bop (X := X) o
  rw [← k] at h
  exact PEimp (pe_op h ha hb) (two_op (bop_nos o) (serves_bop C o))
def negD : D → Option Op
  | .int i => some (.v (.int (-i)))
  | _ => none
theorem pe_neg {a : Expr} (ha : PE X a (tE C W f)) : PE X (.UnaryOp .USub a pos) (tE C W (seq1 f (op1 negD))) :=
  PEimp (pe_un un_neg ha) (one_op (fun d i h => by unfold negD at h; split at h <;> cases h) fun F H d v op Q l r e dn => by
    unfold negD at e
    split at e
    · cases e; cases r; exact ⟨_, rfl, dn.val (.int _)⟩
    · cases e)
theorem pe_sub2 {a b : Expr} (k : C.K = X.K) (hu : X.A.units + 150 < cLine) (ha : PE X a (tE C W f)) (hb : PE X b (tE C W g)) (hs : PlainIx b) : PE X (.Subscript a b pos) (tE C W (seq2 f g (op2 ixD))) :=
  PEimp (pe_ix (ixr_all k hu) ha hb hs) (two_op ixD_nos (serves_ix C))
/-- not, by truth -/
def notE (f : Fe) : Fe := fun ρ => (truE f ρ).bind fun b ρ1 => .ok (.v (.bl (!b))) ρ1
theorem pe_no {a : Expr} (k : C.K = X.K) (ha : PE X a (tE C W f)) : PE X (.UnaryOp .Not a pos) (tE C W (notE f)) := by
  have hp := pe_notT (X := X) (pos := pos) ha
  rw [← k] at hp
  refine PEimp hp fun σ H Q ⟨F, ρ, s, h⟩ => ?_
  exact truE_imp σ H (fun b H' => Q (.bl (!b)) H') ⟨F, ρ, s, Kw.bind h fun b ρ1 F1 H1 e1 g1 h1 => h1 F1 H1 (Go.refl g1.sr) (.bl (!b)) (Rep.bl (!b))⟩
def andE (f g : Fe) : Fe := fun ρ => (f ρ).bind fun op ρ1 => match deref ρ1 op with
  | some (.bl true) => g ρ1
  | some (.bl false) => .ok (.v (.bl false)) ρ1
  | _ => .bad
def orE (f g : Fe) : Fe := fun ρ => (f ρ).bind fun op ρ1 => match deref ρ1 op with
  | some (.bl true) => .ok (.v (.bl true)) ρ1
  | some (.bl false) => g ρ1
  | _ => .bad
theorem RE_weaken {w : Wd} {H H1 : Hp} {Q : VK} {r : Res Op} (z : ∀ x, H1 x = none → H x = none) (h : Kw C W w (RE C H Q) r) : Kw C W w (RE C H1 Q) r := Kw.imp h fun a ρ1 F1 H1 e g q v rv => q v (rv.weaken z)
theorem pe_an {a b : Expr} {rest : List Expr} (ha : PE X a (tE C W f)) (hb : PE X (.BoolOp .And (b :: rest) pos) (tE C W g)) : PE X (.BoolOp .And (a :: b :: rest) pos) (tE C W (andE f g)) :=
  PEimp (L2.pe_and ha hb) fun σ H Q ⟨F, ρ, s, h⟩ => ⟨F, ρ, s, Kw.bind h fun x ρ1 F1 H1 e1 g1 h1 v rv => by
    split at h1
    · rename_i hd
      have r := rv.read g1.sr hd
      cases r
      exact ⟨true, rfl, F1, ρ1, g1.sr, RE_weaken (fun x z => g1.h0 z) h1⟩
    · rename_i hd
      have r := rv.read g1.sr hd
      cases r
      exact ⟨false, rfl, h1 F1 H1 (Go.refl g1.sr) _ (Rep.bl false)⟩
    · exact h1.elim⟩
theorem pe_o {a b : Expr} {rest : List Expr} (ha : PE X a (tE C W f)) (hb : PE X (.BoolOp .Or (b :: rest) pos) (tE C W g)) : PE X (.BoolOp .Or (a :: b :: rest) pos) (tE C W (orE f g)) :=
  PEimp (L2.pe_or ha hb) fun σ H Q ⟨F, ρ, s, h⟩ => ⟨F, ρ, s, Kw.bind h fun x ρ1 F1 H1 e1 g1 h1 v rv => by
    split at h1
    · rename_i hd
      have r := rv.read g1.sr hd
      cases r
      exact ⟨true, rfl, h1 F1 H1 (Go.refl g1.sr) _ (Rep.bl true)⟩
    · rename_i hd
      have r := rv.read g1.sr hd
      cases r
      exact ⟨false, rfl, F1, ρ1, g1.sr, RE_weaken (fun x z => g1.h0 z) h1⟩
    · exact h1.elim⟩
theorem pe_cp {a b : Expr} (k : C.K = X.K) (hu : X.A.units + 150 < cLine) (o : Cop) (ha : PE X a (tE C W f)) (hb : PE X b (tE C W g)) (hm : behindInMarks (cmpOf o) b = false) : PE X (.Compare a [cmpOf o] [b] pos) (tE C W (seq2 f g (op2 (cop o)))) :=
  PEimp (pe_cmpR (opr_cop k hu o) ha hb hm) (two_op (cop_nos o) (serves_cop C o))
def chain3 (o p : Cop) (x y : Op) (h : Fe) : Fe := fun ρ => match deref ρ x, deref ρ y with
  | some d, some e => (match copB o d e with
    | some true => (h ρ).bind fun z ρ1 => (match deref ρ1 y, deref ρ1 z with
      | some e', some g => res (cop p e' g) ρ1
      | _, _ => .bad)
    | some false => .ok (.v (.bl false)) ρ
    | none => .bad)
  | _, _ => .bad
def chainE (o p : Cop) (f g h : Fe) : Fe := fun ρ => (f ρ).bind fun x ρ1 => (g ρ1).bind fun y ρ2 => chain3 o p x y h ρ2
theorem chain_imp {o p : Cop} : ∀ σ H Q, tE C W (chainE o p f g h) σ H Q → tChain (rCop C o) (rCop C p) (tE C W f) (tE C W g) (tE C W h) σ H Q := by
  intro σ H Q ⟨F, ρ, s, hh⟩
  refine ⟨F, ρ, s, Kw.bind hh fun x ρ1 F1 H1 e1 g1 h1 v rv => ⟨F1, ρ1, g1.sr, Kw.bind h1 fun y ρ2 F2 H2 e2 g2 h2 u ru => ?_⟩⟩
  unfold chain3 at h2
  split at h2
  · rename_i d e hd he
    have rx := (rv.carry g2 rfl).read g2.sr hd
    have ry := ru.read g2.sr he
    cases hb : copB o d e with
    | none => rw [hb] at h2; exact h2.elim
    | some b =>
      rw [hb] at h2
      refine serves_cop C o F2 H2 d e v u (.v (.bl b)) _ g2.sr.le rx ry (by unfold cop; rw [hb]; rfl) ⟨fun v' rv' => ?_, fun p' o' n' rv' => by cases rv'⟩
      cases rv'
      refine ⟨b, rfl, ?_⟩
      cases b with
      | false => exact h2 F2 H2 (Go.refl g2.sr) _ (Rep.bl false)
      | true =>
        refine ⟨F2, ρ2, g2.sr, Kw.bind h2 fun z ρ3 F3 H3 e3 g3 h3 t rt => ?_⟩
        split at h3
        · rename_i e' q he' hq
          have ry' := (ru.carry g3 rfl).read g3.sr he'
          have rz := rt.read g3.sr hq
          obtain ⟨op, eo, dn⟩ := done_of g3.sr (fun x z => g1.h0 (g2.h0 (g3.h0 z))) (cop_nos p e' q) h3
          exact serves_cop C p F3 H3 e' q u t op _ g3.sr.le ry' rz eo dn
        · exact h3.elim
  · exact h2.elim
theorem pe_ch {a b c : Expr} (k : C.K = X.K) (hu : X.A.units + 150 < cLine) (o p : Cop) (ha : PE X a (tE C W f)) (hb : PE X b (tE C W g)) (hc : PE X c (tE C W h)) (hm : lastMarks [cmpOf o, cmpOf p] [b, c] = false) :
    PE X (.Compare a [cmpOf o, cmpOf p] [b, c] pos) (tE C W (chainE o p f g h)) :=
  PEimp (L2.pe_chain (opr_cop k hu o) (opr_cop k hu p) ha hb hc hm) chain_imp
theorem pe_ii {e : Expr} {p p2 : Pos} {t : Ty} (k : C.K = X.K) (hg : Gl X "isinstance") (hm : X.mg "isinstance" = none) (hg2 : Gl X (t.name : Str)) (hm2 : X.mg (t.name : Str) = none) (ha : PE X e (tE C W f)) (hs : starEach (e :: [.Name (t.name : Str) p2]) X.env = (false, eval e X.env) :: starEach [.Name (t.name : Str) p2] X.env)
    (hpl : (backTo pos (starEach [.Name (t.name : Str) p2] X.env)).any (·.1) = false) : PE X (.Call (.Name "isinstance" p) [e, .Name (t.name : Str) p2] [] pos) (tE C W (seq1 f (op1 (isi t)))) := by
  have hb : PE X (.Name (t.name : Str) p2) (tC (.ty t.name)) := pe_bltn hg2 hm2 (u := .type t.name) (by cases t <;> decide +kernel) rfl (by cases t <;> decide +kernel) (by cases t <;> decide +kernel)
  have hc : CallR X (.builtin "isinstance") (rIsi C.K) := by rw [k]; exact call_isi
  exact PEimp (pe_callB hc hg hm (by decide +kernel) (pa_cons ha (pa_cons hb pa_nil (by cases t <;> rfl)) hs) (by decide) (by decide) hs hpl) isi_imp
def joinD (a : Str) : D → Option Op
  | .lst xs => match strz xs with
    | some ys => if (ys.map (·.length)).sum + ys.length * a.length ≤ 100000 then some (.v (.str (Txt.join a ys))) else none
    | none => none
  | _ => none
theorem joinD_nos (a : Str) : NoS1 (joinD a) := by
  intro d i h
  unfold joinD at h
  split at h
  · split at h
    · split at h <;> cases h
    · cases h
  · cases h
def joinE (f g : Fe) : Fe := fun ρ => (f ρ).bind fun x ρ1 => match x with
  | .v (.str a) => (g ρ1).bind (op1 (joinD a))
  | _ => .bad
theorem pe_jn {o e : Expr} {apos : Pos} (k : C.K = X.K) (ho : PE X o (tE C W f)) (ha : PE X e (tE C W g)) (hs : starEach [e] X.env = [(false, eval e X.env)]) (hbase : attributeBase o "join" X.env (eval o X.env) = eval o X.env) (hline : (apos.endLine == pos.line) = true) :
    PE X (.Call (.Attribute o "join" apos) [e] [] pos) (tE C W (joinE f g)) := by
  have hp := pe_join ho ha hs hbase hline
  rw [← k] at hp
  refine PEimp hp fun σ H Q ⟨F, ρ, s, h⟩ => ⟨F, ρ, s, Kw.bind h fun x ρ1 F1 H1 e1 g1 h1 v rv => ?_⟩
  split at h1
  · rename_i a
    cases rv
    refine ⟨⟨a, rfl⟩, F1, ρ1, g1.sr, Kw.bind h1 fun y ρ2 F2 H2 e2 g2 h2 u ru => ?_⟩
    unfold op1 at h2
    split at h2
    · rename_i d hd
      have r := ru.read g2.sr hd
      obtain ⟨op, eo, dn⟩ := done_of g2.sr (fun x z => g1.h0 (g2.h0 z)) (joinD_nos a d) h2
      cases r with
      | lst s1 r1 =>
        simp only [joinD] at eo
        split at eo
        · rename_i ys hy
          split at eo
          · rename_i hz
            cases eo
            exact ⟨a, _, ys, rfl, rfl, .inl (by rw [← strz_rep r1 hy]; exact .of s1), by omega, dn.val (.str _)⟩
          · cases eo
        · cases eo
      | _ => simp [joinD] at eo
    · exact h2.elim
  · exact h1.elim

/-! ### tests -/
def testE (f : Fe) : Ft := fun ρ => (f ρ).bind fun op ρ1 => match deref ρ1 op with
  | some (.bl b) => .ok b ρ1
  | _ => .bad
theorem test_imp : ∀ σ H Q, tT C W (testE f) σ H Q → tE C W f σ H fun x H' => ∃ k, x = .bl k ∧ Q k H' := fun σ H Q ⟨F, ρ, s, h⟩ =>
  ⟨F, ρ, s, Kw.bind h fun x ρ1 F1 H1 e1 g1 h1 v rv => by
    split at h1
    · rename_i b hd
      have r := rv.read g1.sr hd
      cases r
      exact ⟨b, rfl, h1 F1 H1 (Go.refl g1.sr)⟩
    · exact h1.elim⟩
theorem pt_tru {e : Expr} (k : C.K = X.K) (he : PE X e (tE C W f)) (hw : ∀ whole, isTrue e X.env whole = (do let v ← whole; standAt e.pos; holding [v] (truthy v))) : PT X e (tT C W (truE f)) := by
  have hp := pt_truth (X := X) he hw
  rw [← k] at hp
  exact PTimp hp truE_imp
theorem pt_cp {a b : Expr} (k : C.K = X.K) (hu : X.A.units + 150 < cLine) (o : Cop) (ha : PE X a (tE C W f)) (hb : PE X b (tE C W g)) (hm : behindInMarks (cmpOf o) b = false) : PT X (.Compare a [cmpOf o] [b] pos) (tT C W (testE (seq2 f g (op2 (cop o))))) :=
  PTimp (pt_cmpR (opr_cop k hu o) ha hb hm) fun σ H Q q => two_op (cop_nos o) (serves_cop C o) _ _ _ (test_imp σ H Q q)
theorem pt_ch {a b c : Expr} (k : C.K = X.K) (hu : X.A.units + 150 < cLine) (o p : Cop) (ha : PE X a (tE C W f)) (hb : PE X b (tE C W g)) (hc : PE X c (tE C W h)) (hm : lastMarks [cmpOf o, cmpOf p] [b, c] = false) :
    PT X (.Compare a [cmpOf o, cmpOf p] [b, c] pos) (tT C W (testE (chainE o p f g h))) :=
  PTimp (L2.pt_chain (opr_cop k hu o) (opr_cop k hu p) ha hb hc hm) fun σ H Q q => chain_imp _ _ _ (test_imp σ H Q q)
variable {t u : Ft}
def notT (t : Ft) : Ft := fun ρ => (t ρ).bind fun b ρ1 => .ok (!b) ρ1
theorem pt_no {a : Expr} (ha : PT X a (tT C W t)) : PT X (.UnaryOp .Not a pos) (tT C W (notT t)) :=
  PTimp (pt_not ha) fun σ H Q ⟨F, ρ, s, h⟩ => ⟨F, ρ, s, Kw.bind h fun b ρ1 F1 H1 e1 g1 h1 => h1 F1 H1 (Go.refl g1.sr)⟩
def andT (t u : Ft) : Ft := fun ρ => (t ρ).bind fun b ρ1 => if b = true then u ρ1 else .ok false ρ1
def orT (t u : Ft) : Ft := fun ρ => (t ρ).bind fun b ρ1 => if b = true then .ok true ρ1 else u ρ1
theorem pw_an {a b : Expr} {rest : List Expr} (ha : PT X a (tT C W t)) (hb : PW X (.BoolOp .And (b :: rest) pos) (tT C W u)) : PW X (.BoolOp .And (a :: b :: rest) pos) (tT C W (andT t u)) :=
  PWimp (pw_and ha hb) fun σ H Q ⟨F, ρ, s, h⟩ => ⟨F, ρ, s, Kw.bind h fun b ρ1 F1 H1 e1 g1 h1 => by
    cases b with
    | true => exact ⟨F1, ρ1, g1.sr, h1⟩
    | false => exact h1 F1 H1 (Go.refl g1.sr)⟩
theorem pw_o {a b : Expr} {rest : List Expr} (ha : PT X a (tT C W t)) (hb : PW X (.BoolOp .Or (b :: rest) pos) (tT C W u)) : PW X (.BoolOp .Or (a :: b :: rest) pos) (tT C W (orT t u)) :=
  PWimp (pw_or ha hb) fun σ H Q ⟨F, ρ, s, h⟩ => ⟨F, ρ, s, Kw.bind h fun b ρ1 F1 H1 e1 g1 h1 => by
    cases b with
    | false => exact ⟨F1, ρ1, g1.sr, h1⟩
    | true => exact h1 F1 H1 (Go.refl g1.sr)⟩
/-- a if t else b -/
def iteE (t : Ft) (f g : Fe) : Fe := fun ρ => (t ρ).bind fun b ρ1 => if b = true then f ρ1 else g ρ1
theorem pe_if {c a b : Expr} (hc : PT X c (tT C W t)) (ha : PE X a (tE C W f)) (hb : PE X b (tE C W g)) : PE X (.IfExp c a b pos) (tE C W (iteE t f g)) :=
  PEimp (pe_ifExp hc ha hb) fun σ H Q ⟨F, ρ, s, h⟩ => ⟨F, ρ, s, Kw.bind h fun b ρ1 F1 H1 e1 g1 h1 => by
    cases b with
    | true => exact ⟨F1, ρ1, g1.sr, RE_weaken (fun x z => g1.h0 z) h1⟩
    | false => exact ⟨F1, ρ1, g1.sr, RE_weaken (fun x z => g1.h0 z) h1⟩⟩
end
end PyI
set_option maxHeartbeats 1000000
/-! PyI8: what a def of the text promises, its call. -/
namespace PyI
open PySem PySem.Spec PyProof.Rows L2

/-- an argument: a value, or an object that the callee may change -/
inductive Arg where
  | v (d : D) | r (d : D)
  deriving Inhabited
inductive CRes where
  | ok (op : Op) (outs : List D) | exc (c : Str) (fs : List (Str × D)) (outs : List D) | bad
  deriving Inhabited
def ArgOk (C : Ct) (F H : Hp) : Arg → V → Prop
  | .v d, v => Rep C F d v
  | .r d, v => ∃ a, v = .ref a ∧ F a = none ∧ Own C F H a d
inductive ArgsOk (C : Ct) (F H : Hp) : List Arg → List V → Prop
  | nil : ArgsOk C F H [] []
  | cons {a : Arg} {v : V} {ar : List Arg} {vs : List V} : ArgOk C F H a v → ArgsOk C F H ar vs → ArgsOk C F H (a :: ar) (v :: vs)
theorem ArgsOk.length {C : Ct} {F H : Hp} : ∀ {ar : List Arg} {vs : List V}, ArgsOk C F H ar vs → vs.length = ar.length
  | _, _, .nil => rfl
  | _, _, .cons _ t => by simp [ArgsOk.length t]
theorem ArgsOk.get {C : Ct} {F H : Hp} : ∀ {ar : List Arg} {vs : List V} {i : Nat} {a : Arg}, ArgsOk C F H ar vs → ar[i]? = some a → ∃ v, vs[i]? = some v ∧ ArgOk C F H a v
  | _, _, _, _, .nil, e => by simp at e
  | _, _, 0, _, .cons r _, e => by simp at e; subst e; exact ⟨_, rfl, r⟩
  | _, _, i + 1, a, .cons _ r, e => by
    obtain ⟨v, h1, h2⟩ := ArgsOk.get (i := i) (a := a) r (by simpa using e)
    exact ⟨v, by simpa using h1, h2⟩
/-- the objects that are handed over stand apart -/
def Apart (ar : List Arg) (vs : List V) : Prop := ∀ (i j : Nat) (d e : D) (a : Addr), ar[i]? = some (Arg.r d) → ar[j]? = some (Arg.r e) → vs[i]? = some (V.ref a) → vs[j]? = some (.ref a) → i = j
/-- from the call to its end -/
structure CGo (C : Ct) (F H F' H' : Hp) (ar : List Arg) (vs : List V) (outs : List D) : Prop where
  le : Le F F'
  lh : Le F' H'
  fr : ∀ x, F' x ≠ none → F x ≠ none ∨ H x = none
  kp : ∀ x o, H x = some o → (∀ (i : Nat) (d : D), ar[i]? = some (Arg.r d) → vs[i]? ≠ some (V.ref x)) → KpR F' H' x o
  nv : ∀ x, H x ≠ none → H' x ≠ none
  out : ∀ (i : Nat) (d : D) (a : Addr), ar[i]? = some (Arg.r d) → vs[i]? = some (.ref a) → ∃ d', outs[i]? = some d' ∧ F' a = none ∧ Own C F' H' a d'
def RepC (C : Ct) (H F' H' : Hp) : Op → V → Prop
  | .v d, v => Rep C F' d v
  | .f d, v => ∃ x, v = .ref x ∧ H x = none ∧ F' x = none ∧ Own C F' H' x d
  | .s _, _ => False
def spI (C : Ct) (np : Nat) (call : List Arg → CRes) : Sp := fun vs H Q E => vs.length = np ∧ ∃ F ar, Le F H ∧ ArgsOk C F H ar vs ∧ Apart ar vs ∧ match call ar with
  | .ok op outs => ∀ v F' H', CGo C F H F' H' ar vs outs → RepC C H F' H' op v → Q v H'
  | .exc c fs outs => ∀ cls d F' H', CGo C F H F' H' ar vs outs → ExcOf C c fs cls d F' H' → E cls d H'
  | .bad => False

/-! ### the caller -/
def argsOf (ρ : Env) : List Op → Option (List Arg)
  | [] => some []
  | .v d :: r => (argsOf ρ r).map (.v d :: ·)
  | .s i :: r => (match ρ[i]? with
    | some (.own _ d) => (argsOf ρ r).map (.r d :: ·)
    | _ => none)
  | _ => none
def slotI : Op → Option Nat
  | .s i => some i
  | _ => none
def setOwn (ρ : Env) (i : Nat) (d : D) : Env := match ρ[i]? with
  | some (.own k _) => ρ.set i (.own k d)
  | _ => ρ
def wback (ρ : Env) : List Op → List D → Env
  | .s i :: ops, d :: outs => wback (setOwn ρ i d) ops outs
  | _ :: ops, _ :: outs => wback ρ ops outs
  | _, _ => ρ
def callR (call : List Arg → CRes) (ops : List Op) (ρ : Env) : Res Op := match argsOf ρ ops with
  | none => .bad
  | some ar => if (ops.filterMap slotI).Nodup then (match call ar with
    | .ok op outs => (match op with
      | .s _ => .bad
      | op => .ok op (wback ρ ops outs))
    | .exc c fs outs => .exc c fs (wback ρ ops outs)
    | .bad => .bad) else .bad
def callE (call : List Arg → CRes) (fa : Fa) : Fe := fun ρ => (fa ρ).bind (callR call)
section
theorem setOwn_len (ρ : Env) (i : Nat) (d : D) : (setOwn ρ i d).length = ρ.length := by
  unfold setOwn; split <;> simp
theorem wback_len : ∀ (ops : List Op) (outs : List D) (ρ : Env), (wback ρ ops outs).length = ρ.length
  | [], _, _ => by simp [wback]
  | .v _ :: ops, [], ρ => by simp [wback]
  | .f _ :: ops, [], ρ => by simp [wback]
  | .s _ :: ops, [], ρ => by simp [wback]
  | .v _ :: ops, _ :: outs, ρ => by simp only [wback]; exact wback_len ops outs ρ
  | .f _ :: ops, _ :: outs, ρ => by simp only [wback]; exact wback_len ops outs ρ
  | .s i :: ops, d :: outs, ρ => by simp only [wback]; rw [wback_len ops outs, setOwn_len]
theorem setOwn_ne {ρ : Env} {i j : Nat} {d : D} (h : j ≠ i) : (setOwn ρ i d)[j]? = ρ[j]? := by
  unfold setOwn; split
  · rw [List.getElem?_set_ne (Ne.symm h)]
  · rfl
theorem setOwn_eq {ρ : Env} {i : Nat} {d e : D} {k : Bool} (h : ρ[i]? = some (.own k e)) : (setOwn ρ i d)[i]? = some (.own k d) := by
  unfold setOwn
  rw [h]
  have hl : i < ρ.length := (List.getElem?_eq_some_iff.mp h).1
  exact List.getElem?_set_self hl
/-- slots that no argument names stay -/
theorem wback_out {i : Nat} : ∀ {ops : List Op} {outs : List D} {ρ : Env}, i ∉ ops.filterMap slotI → (wback ρ ops outs)[i]? = ρ[i]?
  | [], _, _, _ => by simp [wback]
  | .v _ :: ops, [], _, _ => by simp [wback]
  | .f _ :: ops, [], _, _ => by simp [wback]
  | .s _ :: ops, [], _, _ => by simp [wback]
  | .v _ :: ops, _ :: outs, ρ, h => by simp only [wback]; exact wback_out (by simpa [slotI] using h)
  | .f _ :: ops, _ :: outs, ρ, h => by simp only [wback]; exact wback_out (by simpa [slotI] using h)
  | .s j :: ops, d :: outs, ρ, h => by
    simp only [wback]
    have h2 : i ≠ j ∧ i ∉ ops.filterMap slotI := by simpa [slotI] using h
    rw [wback_out h2.2, setOwn_ne h2.1]
/-- a slot that an argument names has what came back -/
theorem wback_in {i : Nat} {k : Bool} : ∀ {ops : List Op} {outs : List D} {ρ : Env} {j : Nat} {e d' : D}, (ops.filterMap slotI).Nodup → ops[j]? = some (.s i) → outs[j]? = some d' → ρ[i]? = some (.own k e) → (wback ρ ops outs)[i]? = some (.own k d')
  | [], _, _, _, _, _, _, h, _, _ => by simp at h
  | _ :: _, [], _, _, _, _, _, _, h, _ => by simp at h
  | op :: ops, d :: outs, ρ, 0, e, d', nd, h1, h2, h3 => by
    simp at h1 h2
    subst h1 h2
    simp only [wback]
    have nd' : i ∉ ops.filterMap slotI ∧ (ops.filterMap slotI).Nodup := by simpa [slotI, List.filterMap_cons] using nd
    rw [wback_out nd'.1, setOwn_eq h3]
  | op :: ops, d :: outs, ρ, j + 1, e, d', nd, h1, h2, h3 => by
    simp at h1 h2
    cases op with
    | v d0 => simp only [wback]; exact wback_in (by simpa [slotI, List.filterMap_cons] using nd) h1 h2 h3
    | f d0 => simp only [wback]; exact wback_in (by simpa [slotI, List.filterMap_cons] using nd) h1 h2 h3
    | s i0 =>
      have nd' : i0 ∉ ops.filterMap slotI ∧ (ops.filterMap slotI).Nodup := by simpa [slotI, List.filterMap_cons] using nd
      have ne : i ≠ i0 := fun z => nd'.1 (by
        rw [← z]
        exact List.mem_filterMap.mpr ⟨.s i, List.mem_of_getElem? h1, rfl⟩)
      simp only [wback]
      exact wback_in nd'.2 h1 h2 (by rw [setOwn_ne ne]; exact h3)
end
section
variable {C : Ct} {H0 : Hp} {w : Wd}
theorem argsOf_len {ρ : Env} : ∀ {ops : List Op} {ar : List Arg}, argsOf ρ ops = some ar → ar.length = ops.length
  | [], _, h => by cases h; rfl
  | .v d :: r, ar, h => by
    simp only [argsOf] at h
    cases hq : argsOf ρ r with
    | none => rw [hq] at h; cases h
    | some q => rw [hq] at h; cases h; simp [argsOf_len hq]
  | .f d :: r, ar, h => by cases h
  | .s i :: r, ar, h => by
    simp only [argsOf] at h
    split at h
    · cases hq : argsOf ρ r with
      | none => rw [hq] at h; cases h
      | some q => rw [hq] at h; cases h; simp [argsOf_len hq]
    · cases h
/-- an argument handed over is a slot of one's own -/
theorem argsOf_r {ρ : Env} {d : D} : ∀ {ops : List Op} {ar : List Arg} {j : Nat}, argsOf ρ ops = some ar → ar[j]? = some (.r d) → ∃ i k, ops[j]? = some (.s i) ∧ ρ[i]? = some (.own k d)
  | [], _, _, h, e => by cases h; simp at e
  | .v d0 :: r, ar, j, h, e => by
    simp only [argsOf] at h
    cases hq : argsOf ρ r with
    | none => rw [hq] at h; cases h
    | some q =>
      rw [hq] at h; cases h
      cases j with
      | zero => simp at e
      | succ j => simpa using argsOf_r hq (by simpa using e)
  | .f d0 :: r, ar, j, h, e => by cases h
  | .s i :: r, ar, j, h, e => by
    simp only [argsOf] at h
    split at h
    · rename_i k d1 hi
      cases hq : argsOf ρ r with
      | none => rw [hq] at h; cases h
      | some q =>
        rw [hq] at h; cases h
        cases j with
        | zero => simp at e; subst e; exact ⟨i, k, rfl, hi⟩
        | succ j => simpa using argsOf_r hq (by simpa using e)
    · cases h
theorem argsOf_s {ρ : Env} {i : Nat} : ∀ {ops : List Op} {ar : List Arg} {j : Nat}, argsOf ρ ops = some ar → ops[j]? = some (.s i) → ∃ k d, ρ[i]? = some (.own k d) ∧ ar[j]? = some (.r d)
  | [], _, _, h, e => by simp at e
  | .v d0 :: r, ar, j, h, e => by
    simp only [argsOf] at h
    cases hq : argsOf ρ r with
    | none => rw [hq] at h; cases h
    | some q =>
      rw [hq] at h; cases h
      cases j with
      | zero => simp at e
      | succ j => simpa using argsOf_s hq (by simpa using e)
  | .f d0 :: r, ar, j, h, e => by cases h
  | .s i0 :: r, ar, j, h, e => by
    simp only [argsOf] at h
    split at h
    · rename_i k d1 hi
      cases hq : argsOf ρ r with
      | none => rw [hq] at h; cases h
      | some q =>
        rw [hq] at h; cases h
        cases j with
        | zero => simp at e; subst e; exact ⟨k, d1, hi, rfl⟩
        | succ j => simpa using argsOf_s hq (by simpa using e)
    · cases h
theorem RepOps.get : ∀ {ops : List Op} {vs : List V} {j : Nat} {op : Op}, RepOps C H0 w ops vs → ops[j]? = some op → ∃ v, vs[j]? = some v ∧ RepOp C H0 w op v
  | _, _, _, _, .nil, e => by simp at e
  | _, _, 0, _, .cons r _, e => by simp at e; subst e; exact ⟨_, rfl, r⟩
  | _, _, i + 1, a, .cons _ r, e => by
    obtain ⟨v, h1, h2⟩ := RepOps.get (j := i) (op := a) r (by simpa using e)
    exact ⟨v, by simpa using h1, h2⟩
theorem args_ok (s : SR C w) : ∀ {ops : List Op} {vs : List V} {ar : List Arg}, RepOps C H0 w ops vs → argsOf w.en ops = some ar → ArgsOk C w.F w.H ar vs
  | _, _, _, .nil, h => by cases h; exact .nil
  | _, _, _, .cons (op := op) r t, h => by
    cases op with
    | v d =>
      simp only [argsOf] at h
      cases hq : argsOf w.en _ with
      | none => rw [hq] at h; cases h
      | some q => rw [hq] at h; cases h; exact .cons r (args_ok s t hq)
    | f d => cases h
    | s i =>
      simp only [argsOf] at h
      split at h
      · rename_i k d hi
        cases hq : argsOf w.en _ with
        | none => rw [hq] at h; cases h
        | some q =>
          rw [hq] at h; cases h
          obtain ⟨a, e1, e2, e3⟩ := s.own i k d hi
          have r' : w.sg[i]? = some (some _) := r
          rw [r'] at e1; cases e1
          exact .cons ⟨a, rfl, e2, e3⟩ (args_ok s t hq)
      · cases h
theorem args_apart (s : SR C w) {ops : List Op} {vs : List V} {ar : List Arg} (r : RepOps C H0 w ops vs) (h : argsOf w.en ops = some ar) (nd : (ops.filterMap slotI).Nodup) : Apart ar vs := by
  intro i j d e a h1 h2 h3 h4
  obtain ⟨si, ki, o1, p1⟩ := argsOf_r h h1
  obtain ⟨sj, kj, o2, p2⟩ := argsOf_r h h2
  obtain ⟨v1, q1, t1⟩ := r.get o1
  obtain ⟨v2, q2, t2⟩ := r.get o2
  rw [h3] at q1; cases q1
  rw [h4] at q2; cases q2
  have es : si = sj := s.sep si sj ki kj d e a p1 p2 t1 t2
  subst es
  -- one slot stands once
  clear h h1 h2 h3 h4 r t1 t2
  induction ops generalizing i j with
  | nil => simp at o1
  | cons op ops ih =>
    cases op with
    | s k0 =>
      have nd' : k0 ∉ ops.filterMap slotI ∧ (ops.filterMap slotI).Nodup := by simpa [slotI, List.filterMap_cons] using nd
      have inn : ∀ {n : Nat}, ops[n]? = some (.s si) → si ∈ ops.filterMap slotI := fun z => List.mem_filterMap.mpr ⟨.s si, List.mem_of_getElem? z, rfl⟩
      cases i with
      | zero =>
        cases j with
        | zero => rfl
        | succ j =>
          simp at o1 o2
          exact absurd (inn o2) (by rw [← o1]; exact nd'.1)
      | succ i =>
        cases j with
        | zero =>
          simp at o1 o2
          exact absurd (inn o1) (by rw [← o2]; exact nd'.1)
        | succ j =>
          simp at o1 o2
          rw [ih nd'.2 i j o1 o2]
    | v d0 =>
      cases i with
      | zero => simp at o1
      | succ i =>
        cases j with
        | zero => simp at o2
        | succ j =>
          simp at o1 o2
          rw [ih (by simpa [slotI, List.filterMap_cons] using nd) i j o1 o2]
    | f d0 =>
      cases i with
      | zero => simp at o1
      | succ i =>
        cases j with
        | zero => simp at o2
        | succ j =>
          simp at o1 o2
          rw [ih (by simpa [slotI, List.filterMap_cons] using nd) i j o1 o2]
/-- the caller's step -/
theorem CGo.go (s : SR C w) {ops : List Op} {vs : List V} {ar : List Arg} {outs : List D} {F' H' : Hp} (r : RepOps C H0 w ops vs) (h : argsOf w.en ops = some ar) (nd : (ops.filterMap slotI).Nodup) (g : CGo C w.F w.H F' H' ar vs outs) :
    Go C w ⟨F', H', w.sg, wback w.en ops outs⟩ ∧ ∀ x, Ow ⟨F', H', w.sg, wback w.en ops outs⟩ x → Ow w x := by
  -- every slot of the new row
  have cell : ∀ (i : Nat), (i ∉ ops.filterMap slotI ∧ (wback w.en ops outs)[i]? = w.en[i]?) ∨ ∃ (j : Nat) (k : Bool) (d d' : D) (a : Addr), ops[j]? = some (Op.s i) ∧ w.en[i]? = some (.own k d) ∧ ar[j]? = some (.r d) ∧ vs[j]? = some (.ref a) ∧ w.sg[i]? = some (some (.ref a)) ∧ outs[j]? = some d' ∧ F' a = none ∧ Own C F' H' a d' ∧ (wback w.en ops outs)[i]? = some (.own k d') := by
    intro i
    by_cases hi : i ∈ ops.filterMap slotI
    · obtain ⟨op, m, e⟩ := List.mem_filterMap.mp hi
      cases op with
      | s i0 =>
        simp [slotI] at e
        subst e
        obtain ⟨j, hj⟩ := List.getElem?_of_mem m
        obtain ⟨k, d, p1, p2⟩ := argsOf_s h hj
        obtain ⟨v, q1, q2⟩ := r.get hj
        obtain ⟨a, e1, e2, e3⟩ := s.own i0 k d p1
        have q2' : w.sg[i0]? = some (some v) := q2
        rw [q2'] at e1; cases e1
        obtain ⟨d', t1, t2, t3⟩ := g.out j d a p2 q1
        exact .inr ⟨j, k, d, d', a, hj, p1, p2, q1, q2', t1, t2, t3, wback_in nd hj t1 p1⟩
      | v d => simp [slotI] at e
      | f d => simp [slotI] at e
    · exact .inl ⟨hi, wback_out hi⟩
  have owk : ∀ x, w.H x ≠ none → ¬ Ow w x → ∀ (i : Nat) (d : D), ar[i]? = some (Arg.r d) → vs[i]? ≠ some (V.ref x) := fun x hx ho i d q1 q2 => by
    obtain ⟨si, ki, o1, p1⟩ := argsOf_r h q1
    obtain ⟨v1, t1, t2⟩ := r.get o1
    rw [q2] at t1; cases t1
    exact ho ⟨si, ki, d, p1, t2⟩
  have owb : ∀ x, Ow ⟨F', H', w.sg, wback w.en ops outs⟩ x → Ow w x := fun x ⟨i, k, d, q1, q2⟩ => by
    rcases cell i with ⟨_, e⟩ | ⟨j, k', d0, d', a, _, p1, _, _, p4, _⟩
    · exact ⟨i, k, d, by rw [← e]; exact q1, q2⟩
    · rw [p4] at q2; cases q2
      exact ⟨i, k', d0, p1, p4⟩
  refine ⟨⟨⟨g.lh, by rw [wback_len]; exact s.len, fun i d q => ?_, fun i k d q => ?_, fun i j k k' d e a q1 q2 q3 q4 => ?_⟩, g.le, fun x q => ?_, fun x o e n => ?_, fun x q => .inl (owb x q), g.nv, fun i d q => ?_, by rw [wback_len]⟩, owb⟩
  · rcases cell i with ⟨_, e⟩ | ⟨j, k', d0, d', a, _, _, _, _, _, _, _, _, p⟩
    · obtain ⟨v, h1, h2⟩ := s.val i d (by rw [← e]; exact q)
      exact ⟨v, h1, h2.mono g.le⟩
    · have q : (wback w.en ops outs)[i]? = some (.val d) := q
      rw [p] at q; cases q
  · rcases cell i with ⟨hi, e⟩ | ⟨j, k', d0, d', a, _, p1, p2, p3, p4, _, p6, p7, p⟩
    · obtain ⟨a, e1, e2, e3⟩ := s.own i k d (by rw [← e]; exact q)
      obtain ⟨u, hu, _⟩ := e3.ex
      have na : ∀ (j : Nat) (d : D), ar[j]? = some (Arg.r d) → vs[j]? ≠ some (V.ref a) := fun j d0 q1 q2 => by
        obtain ⟨sj, kj, o1, p1⟩ := argsOf_r h q1
        obtain ⟨v1, t1, t2⟩ := r.get o1
        rw [q2] at t1; cases t1
        have := s.sep i sj k kj d d0 a (by rw [← e]; exact q) p1 e1 t2
        subst this
        exact hi (List.mem_filterMap.mpr ⟨.s i, List.mem_of_getElem? o1, rfl⟩)
      have fn : F' a = none := Classical.byContradiction fun z => by
        rcases g.fr a z with y | y
        · exact y e2
        · rw [hu] at y; cases y
      have hk := (g.kp a u hu na).eqF fn
      exact ⟨a, e1, fn, e3.keep g.le (hk.trans hu.symm)⟩
    · have q : (wback w.en ops outs)[i]? = some (.own k d) := q
      rw [p] at q; cases q
      exact ⟨a, p4, p6, p7⟩
  · obtain ⟨ki, di, e1⟩ : ∃ k d, w.en[i]? = some (.own k d) := by
      rcases cell i with ⟨_, e⟩ | ⟨j, k', d0, d', a, _, p1, _⟩
      · exact ⟨k, d, by rw [← e]; exact q1⟩
      · exact ⟨_, _, p1⟩
    obtain ⟨kj, dj, e2⟩ : ∃ k d, w.en[j]? = some (.own k d) := by
      rcases cell j with ⟨_, e⟩ | ⟨j, k', d0, d', a, _, p1, _⟩
      · exact ⟨k', _, by rw [← e]; exact q2⟩
      · exact ⟨_, _, p1⟩
    exact s.sep i j _ _ _ _ a e1 e2 q3 q4
  · rcases g.fr x q with y | y
    · exact .inl y
    · exact .inr (.inl y)
  · exact g.kp x o e (owk x (by rw [e]; exact fun z => nomatch z) n)
  · rcases cell i with ⟨_, e⟩ | ⟨j, k', d0, d', a, _, p1, _, _, _, _, _, _, p⟩
    · exact ⟨⟨d, by show (wback w.en ops outs)[i]? = _; rw [e]; exact q⟩, rfl⟩
    · rw [q] at p1; cases p1
      exact ⟨⟨d', p⟩, rfl⟩
/-- f(..) -/
theorem call_imp {W : WX} {fa : Fa} {call : List Arg → CRes} {np : Nat} (hn : ∀ ρ ops ρ1, fa ρ = .ok ops ρ1 → ops.length = np) : ∀ σ H Q, tE C W (callE call fa) σ H Q → tCallS (spI C np call) (WE W) (tA C W fa) σ H Q := by
  intro σ H Q ⟨F, ρ, s, h⟩
  refine ⟨F, ρ, s, Kw.bind h fun ops ρ1 F1 H1 e1 g1 h1 vs rvs => ?_⟩
  unfold callR at h1
  split at h1
  · exact h1.elim
  · rename_i ar ha
    split at h1
    · rename_i nd
      refine ⟨by rw [rvs.length]; exact hn _ _ _ e1, F1, ar, g1.sr.le, args_ok g1.sr rvs ha, args_apart g1.sr rvs ha nd, ?_⟩
      cases hc : call ar with
      | bad => rw [hc] at h1; exact h1.elim
      | exc c fs outs =>
        rw [hc] at h1
        exact fun cls d F' H' g x => h1 cls d F' H' (g.go g1.sr rvs ha nd).1 x
      | ok op outs =>
        rw [hc] at h1
        intro v F' H' g rv
        obtain ⟨gg, owb⟩ := g.go g1.sr rvs ha nd
        cases op with
        | s i => exact h1.elim
        | v d => exact h1 F' H' gg v rv
        | f d =>
          obtain ⟨x, rfl, x1, x2, x3⟩ := rv
          exact h1 F' H' gg (.ref x) ⟨x, rfl, g1.h0 x1, x2, fun z => (g1.sr.owF (owb x z)).2 x1, x3⟩
    · exact h1.elim
end
end PyI
set_option maxHeartbeats 1000000
/-! PyI9: targets, what is walked, comprehensions. -/
namespace PyI
open PySem PySem.Spec PyProof.Rows L2

/-! ### targets -/
inductive T where
  | n (i : Nat) | tup (ts : List T)
  deriving Inhabited
def setVal (i : Nat) (d : D) (ρ : Env) : Option Env := match ρ[i]? with
  | some sl => if sl.keep = true then none else some (ρ.set i (.val d))
  | none => none
mutual
def asgT : T → D → Env → Option Env
  | .n i, d, ρ => setVal i d ρ
  | .tup ts, .tup ds, ρ => asgTs ts ds ρ
  | .tup _, _, _ => none
def asgTs : List T → List D → Env → Option Env
  | [], [], ρ => some ρ
  | t :: ts, d :: ds, ρ => (asgT t d ρ).bind fun ρ1 => asgTs ts ds ρ1
  | _, _, _ => none
end
mutual
def slotsT : T → List Nat
  | .n i => [i]
  | .tup ts => slotsTs ts
def slotsTs : List T → List Nat
  | [] => []
  | t :: ts => slotsT t ++ slotsTs ts
end
/-- only the slots at l are changed -/
def But (l : List Nat) (σ σ' : L2.St) : Prop := σ'.length = σ.length ∧ ∀ (j : Nat), j ∉ l → σ'[j]? = σ[j]?
theorem But.refl (l : List Nat) (σ : L2.St) : But l σ σ := ⟨rfl, fun _ _ => rfl⟩
theorem But.trans {l m : List Nat} {a b c : L2.St} (h : But l a b) (k : But m b c) : But (l ++ m) a c :=
  ⟨k.1.trans h.1, fun j q => by
    have q' : j ∉ l ∧ j ∉ m := by simpa using q
    exact (k.2 j q'.2).trans (h.2 j q'.1)⟩
theorem But.mono {l m : List Nat} {a b : L2.St} (h : But l a b) (s : ∀ j ∈ l, j ∈ m) : But m a b := ⟨h.1, fun j q => h.2 j fun z => q (s j z)⟩
section
variable {X : Cx} {C : Ct} {W : WX}
/-- a slot takes a value -/
theorem SR.setVal {w : Wd} (s : SR C w) {i : Nat} {d : D} {v : V} {ρ' : Env} (e : PyI.setVal i d w.en = some ρ') (r : Rep C w.F d v) : Go C w ⟨w.F, w.H, w.sg.set i (some v), ρ'⟩ := by
  have hi : i < w.en.length ∧ ρ' = w.en.set i (.val d) ∧ ∀ d0, w.en[i]? ≠ some (.own true d0) := by
    unfold PyI.setVal at e
    split at e
    · rename_i sl hs
      split at e
      · cases e
      · rename_i hne
        cases e
        exact ⟨(List.getElem?_eq_some_iff.mp hs).1, rfl, fun d0 z => by
          rw [hs] at z; cases z; exact hne rfl⟩
    · cases e
  obtain ⟨hl, rfl, nk⟩ := hi
  have hσ : i < w.sg.length := by rw [s.len]; exact hl
  have old : ∀ (j : Nat) (k : Bool) (d' : D), (w.en.set i (.val d))[j]? = some (.own k d') → j ≠ i ∧ w.en[j]? = some (.own k d') := fun j k d' q => by
    rcases get_set_some q with ⟨_, z⟩ | z
    · cases z
    · exact z
  refine ⟨⟨s.le, by simpa using s.len, fun j d' q => ?_, fun j k d' q => ?_, fun j j' k k' d' e' a q1 q2 q3 q4 => ?_⟩, Le.refl _, fun x q => .inl q, fun _ _ h _ => .inl h, fun x q => ?_, fun _ h => h, fun j d' q => ?_, by simp⟩
  · rcases get_set_some q with ⟨z1, z2⟩ | ⟨z1, z2⟩
    · cases z2; subst z1
      exact ⟨v, List.getElem?_set_self hσ, r⟩
    · obtain ⟨u, h1, h2⟩ := s.val j d' z2
      exact ⟨u, by show (w.sg.set i (some v))[j]? = _; rw [List.getElem?_set_ne (Ne.symm z1)]; exact h1, h2⟩
  · obtain ⟨z1, z2⟩ := old j k d' q
    obtain ⟨a, h1, h2, h3⟩ := s.own j k d' z2
    exact ⟨a, by show (w.sg.set i (some v))[j]? = _; rw [List.getElem?_set_ne (Ne.symm z1)]; exact h1, h2, h3⟩
  · obtain ⟨z1, z2⟩ := old j k d' q1
    obtain ⟨z3, z4⟩ := old j' k' e' q2
    have q3' : (w.sg.set i (some v))[j]? = some (some (.ref a)) := q3
    have q4' : (w.sg.set i (some v))[j']? = some (some (.ref a)) := q4
    rw [List.getElem?_set_ne (Ne.symm z1)] at q3'
    rw [List.getElem?_set_ne (Ne.symm z3)] at q4'
    exact s.sep j j' k k' d' e' a z2 z4 q3' q4'
  · obtain ⟨j, k, d', q1, q2⟩ := q
    obtain ⟨z1, z2⟩ := old j k d' q1
    have q2' : (w.sg.set i (some v))[j]? = some (some (.ref x)) := q2
    rw [List.getElem?_set_ne (Ne.symm z1)] at q2'
    exact .inl ⟨j, k, d', z2, q2'⟩
  · have ne : j ≠ i := fun z => by subst z; exact nk d' q
    refine ⟨⟨d', ?_⟩, ?_⟩
    · show (w.en.set i (.val d))[j]? = _; rw [List.getElem?_set_ne (Ne.symm ne)]; exact q
    · show (w.sg.set i (some v))[j]? = _; rw [List.getElem?_set_ne (Ne.symm ne)]
/-- a target's reading -/
def tG (C : Ct) (t : T) : TG := fun v σ H Q => ∃ F ρ d ρ', SR C ⟨F, H, σ, ρ⟩ ∧ Rep C F d v ∧ asgT t d ρ = some ρ' ∧ ∀ σ', Go C ⟨F, H, σ, ρ⟩ ⟨F, H, σ', ρ'⟩ → But (slotsT t) σ σ' → Q σ' H
def tGs (C : Ct) (ts : List T) : TGs := fun vs σ H Q => ∃ F ρ ds ρ', SR C ⟨F, H, σ, ρ⟩ ∧ RepL C F ds vs ∧ asgTs ts ds ρ = some ρ' ∧ ∀ σ', Go C ⟨F, H, σ, ρ⟩ ⟨F, H, σ', ρ'⟩ → But (slotsTs ts) σ σ' → Q σ' H
theorem PGimp {e : Expr} {t t' : TG} (h : PG X e t) (k : ∀ v σ H Q, t' v σ H Q → t v σ H Q) : PG X e t' := ⟨fun pins s σ H v u Q I r q => h.run pins s σ H v u Q I r (k v σ H Q q)⟩
theorem PGsimp {e : List Expr} {t t' : TGs} (h : PGs X e t) (k : ∀ v σ H Q, t' v σ H Q → t v σ H Q) : PGs X e t' := ⟨fun pins s σ H v u Q I r q => h.run pins s σ H v u Q I r (k v σ H Q q)⟩
theorem pg_n {i : Nat} {x : Str} {pos : Pos} (hN : X.N.Nodup) (hi : X.N[i]? = some x) (hx : Loc X.env.scope x) (hf : X.fn x = true ∨ X.env.scope.names.lookup x = some .local) : PG X (.Name x pos) (tG C (.n i)) :=
  PGimp (pg_name hN hi hx hf) fun v σ H Q ⟨F, ρ, d, ρ', s, r, e, q⟩ => by
    have e' : PyI.setVal i d ρ = some ρ' := by simpa only [asgT] using e
    exact q _ (s.setVal (v := v) e' r) ⟨by simp, fun j z => by
      have ne : j ≠ i := by simpa [slotsT] using z
      rw [List.getElem?_set_ne (Ne.symm ne)]⟩
theorem pgs_n : PGs X [] (tGs C []) := PGsimp pgs_nil fun vs σ H Q ⟨F, ρ, ds, ρ', s, r, e, q⟩ => by
  cases r with
  | nil =>
    simp only [asgTs, Option.some.injEq] at e
    subst e
    exact ⟨rfl, q σ (Go.refl s) (.refl _ _)⟩
  | cons _ _ => simp [asgTs] at e
theorem pgs_c {e : Expr} {es : List Expr} {t : T} {ts : List T} (h1 : PG X e (tG C t)) (h2 : PGs X es (tGs C ts)) (hs : (assignEach (e :: es) X.env).map (·.2) = assign e X.env :: (assignEach es X.env).map (·.2)) : PGs X (e :: es) (tGs C (t :: ts)) :=
  PGsimp (pgs_cons h1 h2 hs) fun vs σ H Q ⟨F, ρ, ds, ρ', s, r, e, q⟩ => by
    cases r with
    | nil => simp [asgTs] at e
    | @cons d v ds vs r1 r2 =>
      simp only [asgTs] at e
      cases hq : asgT t d ρ with
      | none => rw [hq] at e; cases e
      | some ρ1 =>
        rw [hq] at e
        refine ⟨v, vs, rfl, F, ρ, d, ρ1, s, r1, hq, fun σ1 g1 b1 => ⟨F, ρ1, ds, ρ', g1.sr, r2, e, fun σ2 g2 b2 => q σ2 (g1.trans g2) (by simpa [slotsTs] using b1.trans b2)⟩⟩
theorem pg_t {es : List Expr} {ts : List T} {k : Nat} {pos : Pos} (hk : C.K = X.K) (hc : X.calm = true) (hl : es.length = ts.length) (h : PGs X es (tGs C ts)) (hn : (assignEach es X.env).length = es.length) (hst : (assignEach es X.env).findIdx? (·.1) = none) : PG X (.Tuple es k pos) (tG C (.tup ts)) :=
  PGimp (pg_tup hc h hn hst) fun v σ H Q ⟨F, ρ, d, ρ', s, r, e, q⟩ => by
    cases r with
    | @tup a vs ds s1 r1 =>
      simp only [asgT] at e
      have len : ∀ {ts : List T} {ds : List D} {ρ ρ' : Env}, asgTs ts ds ρ = some ρ' → ds.length = ts.length := by
        intro ts
        induction ts with
        | nil => intro ds ρ ρ' e; cases ds <;> simp [asgTs] at e ⊢
        | cons t ts ih =>
          intro ds ρ ρ' e
          cases ds with
          | nil => simp [asgTs] at e
          | cons d ds =>
            simp only [asgTs] at e
            cases hq : asgT t d ρ with
            | none => rw [hq] at e; cases e
            | some ρ1 => rw [hq] at e; simp [ih e]
      have hs := s.le.sqT s1
      rw [hk] at hs
      exact ⟨a, vs, rfl, hs, by rw [r1.length, len e, hl], F, ρ, ds, ρ', s, r1, e, fun σ' g b => q σ' g (by simpa [slotsT] using b)⟩
    | _ => simp [asgT] at e
end

/-! ### what is walked -/
/-- the walk J goes through the items, in the worlds behind w0 -/
structure ItOk (C : Ct) (J : It) (items : List D) (w0 : Wd) : Prop where
  go : ∀ (i : Nat) (w : Wd), i < items.length → Go C w0 w → J.go i w.H ∧ ∀ x H', J.yld i w.H x H' → ∃ d F', items[i]? = some d ∧ Go C w ⟨F', H', w.sg, w.en⟩ ∧ Rep C F' d x
  stop : ∀ (w : Wd), Go C w0 w → J.stop items.length w.H
abbrev Fi := Env → Res (List D)
/-- .. from every world over these heaps -/
def ItOks (C : Ct) (J : It) (items : List D) (F H : Hp) : Prop := ∀ w0 : Wd, w0.F = F → w0.H = H → SR C w0 → ItOk C J items w0
abbrev RI (C : Ct) (R : It → Hp → Prop) : Wd → List D → Prop := fun w' items => ∀ J, ItOks C J items w'.F w'.H → R J w'.H
def tI (C : Ct) (W : WX) (f : Fi) : TI := fun σ H R => ∃ F ρ, SR C ⟨F, H, σ, ρ⟩ ∧ Kw C W ⟨F, H, σ, ρ⟩ (RI C R) (f ρ)
section
variable {X : Cx} {C : Ct} {W : WX} {tg : Expr} {f g : Fe}
theorem PIimp {e : Expr} {t t' : TI} (h : PI X tg e t) (k : ∀ σ H R, t' σ H R → t σ H R) : PI X tg e t' := ⟨fun pins s σ H R I q => h.run pins s σ H R I (k σ H R q)⟩
/-- over an op of the world, the same -/
theorem it_list {w0 : Wd} {a : Addr} {vs : List V} {ds : List D} (e : w0.F a = some (.lst vs)) (r : RepL C w0.F ds vs) : ItOk C (Itl C.K a) ds w0 where
  go := fun i w hi g => by
    have e' : w.H a = some (.lst vs) := g.sr.le.ins _ _ rfl (g.le.ins _ _ rfl e)
    obtain ⟨v, h1, h2⟩ := r.get (List.getElem?_eq_getElem hi)
    refine ⟨⟨vs, v, .of e', h1⟩, fun x H' ⟨y1, y2⟩ => ?_⟩
    have := y2 vs (.of e')
    rw [h1] at this; cases this
    subst y1
    exact ⟨_, w.F, List.getElem?_eq_getElem hi, Go.refl g.sr, h2.mono g.le⟩
  stop := fun w g => ⟨vs, .of (g.sr.le.ins _ _ rfl (g.le.ins _ _ rfl e)), by rw [r.length]; exact Nat.le_refl _⟩
theorem it_tup {w0 : Wd} {a : Addr} {vs : List V} {ds : List D} (e : SqT C.K w0.F a vs) (r : RepL C w0.F ds vs) : ItOk C (Itt C.K a) ds w0 where
  go := fun i w hi g => by
    have e' : SqT C.K w.H a vs := g.sr.le.sqT (g.le.sqT e)
    obtain ⟨v, h1, h2⟩ := r.get (List.getElem?_eq_getElem hi)
    refine ⟨⟨vs, v, e', h1⟩, fun x H' ⟨y1, y2⟩ => ?_⟩
    have := y2 vs e'
    rw [h1] at this; cases this
    subst y1
    exact ⟨_, w.F, List.getElem?_eq_getElem hi, Go.refl g.sr, h2.mono g.le⟩
  stop := fun w g => ⟨vs, g.sr.le.sqT (g.le.sqT e), by rw [r.length]; exact Nat.le_refl _⟩
theorem it_str {w0 : Wd} {z : Str} : ItOk C (Its z) (z.cps.toList.map fun c => D.str ⟨#[c]⟩) w0 where
  go := fun i w hi g => by
    have hi' : i < z.cps.size := by simpa using hi
    refine ⟨hi', fun x H' ⟨y1, c, y2, y3⟩ => ?_⟩
    subst y1
    refine ⟨.str ⟨#[c]⟩, w.F, ?_, Go.refl g.sr, by rw [y3]; exact .str _⟩
    rw [List.getElem?_map, Array.getElem?_toList, y2]; rfl
  stop := fun w g => by
    show z.cps.size ≤ _
    simp
theorem it_rng {w0 : Wd} {lo : Int} {n : Nat} : ItOk C (Itr lo n) ((List.range n).map fun (i : Nat) => D.int (lo + (i : Int))) w0 where
  go := fun i w hi g => by
    have hi' : i < n := by simpa using hi
    refine ⟨hi', fun x H' ⟨y1, y2⟩ => ?_⟩
    subst y1
    refine ⟨.int (lo + (i : Int)), w.F, ?_, Go.refl g.sr, by rw [y2]; exact .int _⟩
    rw [List.getElem?_map, List.getElem?_range hi']; rfl
  stop := fun w g => by
    show n ≤ _
    simp
/-- the pairs that enumerate gives -/
def pairs (i : Nat) : List D → List D
  | [] => []
  | d :: r => .tup [.int (i : Int), d] :: pairs (i + 1) r
theorem pairs_len : ∀ (ds : List D) (i : Nat), (pairs i ds).length = ds.length
  | [], _ => rfl
  | _ :: r, i => by simp [pairs, pairs_len r]
theorem pairs_get : ∀ {ds : List D} {i j : Nat} {d : D}, ds[j]? = some d → (pairs i ds)[j]? = some (.tup [.int ((i + j : Nat) : Int), d])
  | [], _, _, _, h => by simp at h
  | d0 :: r, i, 0, d, h => by simp at h; subst h; simp [pairs]
  | d0 :: r, i, j + 1, d, h => by
    have := pairs_get (i := i + 1) (j := j) (d := d) (ds := r) (by simpa using h)
    simp only [pairs, List.getElem?_cons_succ, this]
    rw [show i + 1 + j = i + (j + 1) by omega]
theorem it_enum {w0 : Wd} {a : Addr} {vs : List V} {ds : List D} (e : w0.F a = some (.lst vs)) (r : RepL C w0.F ds vs) : ItOk C (Ite C.K a) (pairs 0 ds) w0 where
  go := fun i w hi g => by
    have hi' : i < ds.length := by rw [← pairs_len ds 0]; exact hi
    have e' : w.H a = some (.lst vs) := g.sr.le.ins _ _ rfl (g.le.ins _ _ rfl e)
    obtain ⟨v, h1, h2⟩ := r.get (List.getElem?_eq_getElem hi')
    refine ⟨⟨vs, v, .of e', h1⟩, fun x H' ⟨p, y, y1, y2, y3, y4⟩ => ?_⟩
    have := y4 vs (.of e')
    rw [h1] at this; cases this
    subst y1 y3
    have gg := g.sr.newBoth (o := .tup [.int (i : Nat), v]) y2
    refine ⟨_, _, pairs_get (i := 0) (List.getElem?_eq_getElem hi'), gg, ?_⟩
    rw [Nat.zero_add]
    exact .tup (.of upd_same) (.cons (.int _) (.cons ((h2.mono g.le).mono gg.le) .nil))
  stop := fun w g => ⟨vs, .of (g.sr.le.ins _ _ rfl (g.le.ins _ _ rfl e)), by rw [r.length, pairs_len]; exact Nat.le_refl _⟩

/-! ### a dict, by its keys -/
def keyOf : Key → D
  | .inl i => .int i
  | .inr x => .str x
theorem keyOf_rep (F : Hp) (k : Key) : Rep C F (keyOf k) (kV k) := by
  cases k with
  | inl i => exact .int i
  | inr x => exact .str x
/-- a dict of the frozen part is locked -/
theorem SR.lock {w : Wd} (s : SR C w) {d : Addr} {kvs : List (Key × V)} {od : Obj} (h : w.H d = some (.dK kvs)) (f : w.F d ≠ none) : Go C w ⟨w.F, upd w.H d (.frz od (.dK kvs)), w.sg, w.en⟩ := by
  have le : Le w.F (upd w.H d (.frz od (.dK kvs))) := by
    refine ⟨fun a u r => ?_, fun a o p r => ?_⟩
    · by_cases e : a = d
      · subst e
        rcases s.le.rd a u r with q | ⟨o, q⟩
        · rw [h] at q; cases q; exact .inr ⟨od, upd_same⟩
        · rw [h] at q; cases q
      · rcases s.le.rd a u r with q | ⟨o, q⟩
        · exact .inl (by rw [upd_ne e]; exact q)
        · exact .inr ⟨o, by rw [upd_ne e]; exact q⟩
    · have q := s.le.ins a o p r
      by_cases e : a = d
      · subst e; rw [h] at q; cases q; cases p
      · rw [upd_ne e]; exact q
  refine ⟨⟨le, s.len, s.val, fun i k d' q => ?_, s.sep⟩, Le.refl _, fun x q => .inl q, fun x o q n => ?_, fun x q => .inl q, fun x q => ?_, fun i d' q => ⟨⟨d', q⟩, rfl⟩, rfl⟩
  · obtain ⟨a, q1, q2, q3⟩ := s.own i k d' q
    have ne : a ≠ d := fun e => f (by rw [← e]; exact q2)
    exact ⟨a, q1, q2, q3.keep (Le.refl _) (upd_ne ne)⟩
  · by_cases e : x = d
    · subst e
      rw [h] at q; cases q
      exact .inr ⟨f, kvs, od, rfl, upd_same⟩
    · exact .inl (by show upd w.H d _ x = _; rw [upd_ne e]; exact q)
  · show upd w.H d _ x ≠ none
    by_cases e : x = d
    · rw [e, upd_same]; exact fun z => nomatch z
    · rw [upd_ne e]; exact q
theorem RepK.getK {F : Hp} : ∀ {ds : List (Key × D)} {vs : List (Key × V)} {i : Nat} {k : Key} {v : V}, RepK C F ds vs → vs[i]? = some (k, v) → (ds.map fun p => keyOf p.1)[i]? = some (keyOf k)
  | _, _, i, k, v, r, e => by
    obtain ⟨d, h, _⟩ := r.getV e
    rw [List.getElem?_map, h]; rfl
theorem it_keys {w0 : Wd} {d : Addr} {od : Obj} {kvs : List (Key × V)} {ds : List (Key × D)} (e : w0.H d = some (.frz od (.dK kvs))) (f : w0.F d ≠ none) (s0 : SR C w0) (r : RepK C w0.F ds kvs) : ItOk C (Itk d od kvs) (ds.map fun p => keyOf p.1) w0 := by
  have ln : kvs.length = (ds.map fun p => keyOf p.1).length := by rw [List.length_map]; exact r.length
  have hd : ∀ w, Go C w0 w → w.H d = some (.frz od (.dK kvs)) := fun w g => (g.kp d _ e fun z => f (s0.owF z).1).eqN fun _ z => nomatch z
  refine ⟨fun i w hi g => ⟨⟨hd w g, by rw [ln]; exact hi⟩, fun x H' ⟨y1, k, v, y2, y3⟩ => ?_⟩, fun w g => ⟨hd w g, by rw [ln]; exact Nat.le_refl _⟩⟩
  subst y1 y3
  exact ⟨_, w.F, r.getK y2, Go.refl g.sr, keyOf_rep _ k⟩
def iKeysL (td : TE) : TI := fun σ H R => td σ H fun x H1 => ∃ d kvs, x = .ref d ∧ ((H1 d = some (.dK kvs) ∧ ∀ od, R (Itk d od kvs) (upd H1 d (.frz od (.dK kvs)))) ∨ ∃ od, H1 d = some (.frz od (.dK kvs)) ∧ R (Itk d od kvs) H1)
theorem pi_keysL {e : Expr} {td : TE} (he : PE X e td) : PI X tg e (iKeysL td) := by
  refine ⟨fun pins s σ H R I h => ?_⟩
  refine thn (he.run pins s σ H _ I h) fun u s1 ⟨x, H1, I1, rx, d, kvs, ex, q⟩ => ?_
  subst ex
  obtain rfl : u = Value.ref d := rx
  have fin : ∀ {H2 : Hp} {o : Obj}, Inv X pins σ H2 s1 → H2 d = some (.frz o (.dK kvs)) → R (Itk d o kvs) H2 → wpAny (model X.prog X.w) X.A (pyIter (.ref d)) (PIE X pins σ tg R) X.xe s1 := fun {H2 o} I2 hd q => by
    obtain ⟨hs, hgd, hx, es, ep, vs, hdt, hsz, kv, hm⟩ := I2.frzK hd
    refine iter_keys hs hgd hx hdt (pi_one (tk := s1.toks) I2 _ (turn_keys _ hdt) ⟨_, Heap.get?_push_size _ rfl, rfl, ?_⟩ q)
    rw [hsz] <;> rfl
  rcases q with ⟨hd, q⟩ | ⟨od, hd, q⟩
  · obtain ⟨od, I2⟩ := I1.lock hd trivial
    exact fin I2 upd_same (q od)
  · exact fin I1 hd q

/-! the walks, by what the expression gives (frozen) -/
def seqD : D → Option (List D)
  | .lst xs => some xs
  | .tup xs => some xs
  | .str z => some (z.cps.toList.map fun c => D.str ⟨#[c]⟩)
  | .dic kvs => some (kvs.map fun p => keyOf p.1)
  | _ => none
def it1 (q : D → Option (List D)) (f : Fe) : Fi := fun ρ => (frzE f ρ).bind fun op ρ1 => match op with
  | .v d => (match q d with
    | some items => .ok items ρ1
    | none => .bad)
  | _ => .bad
theorem it1_imp {q : D → Option (List D)} {R : It → Hp → Prop} {P : V → Hp → Prop} (k : ∀ (F H : Hp) (σ : L2.St) (ρ : Env) (d : D) (v : V) (items : List D), SR C ⟨F, H, σ, ρ⟩ → Rep C F d v → q d = some items → (∀ J, ItOks C J items F H → R J H) → P v H) :
    ∀ σ H, tI C W (it1 q f) σ H R → tE C W (frzE f) σ H P := fun σ H ⟨F, ρ, s, h⟩ => ⟨F, ρ, s, Kw.bind h fun x ρ1 F1 H1 e1 g1 h1 v rv => by
    split at h1
    · rename_i d
      split at h1
      · rename_i items hq
        exact k F1 H1 σ ρ1 d v items g1.sr rv hq (h1 F1 H1 (Go.refl g1.sr))
      · exact h1.elim
    · exact h1.elim⟩
theorem pi_seq {e : Expr} (hk : C.K = X.K) (he : PE X e (tE C W f)) : PI X tg e (tI C W (it1 seqD f)) := by
  have h1 := pi_list (tg := tg) (pe_frz he)
  have h2 := pi_tup (tg := tg) (pe_frz he)
  have h3 := pi_str (tg := tg) (pe_frz he)
  have h4 := pi_keysL (tg := tg) (pe_frz he)
  refine PIimp (PIor (PIor (PIor h1 h2) h3) h4) fun σ H R q => ?_
  obtain ⟨F, ρ, s, h⟩ := q
  -- by what the expression gives
  cases hf : frzE f ρ with
  | bad => unfold it1 at h; rw [hf] at h; exact h.elim
  | exc c fs ρ' =>
    refine .inl (.inl (.inl ⟨F, ρ, s, ?_⟩))
    unfold it1 at h
    rw [hf] at h ⊢
    exact h
  | ok op ρ1 =>
    have hq := h
    unfold it1 at hq
    rw [hf] at hq
    simp only [Res.bind] at hq
    split at hq
    · rename_i d
      cases d with
      | lst xs =>
        refine .inl (.inl (.inl ⟨F, ρ, s, ?_⟩))
        rw [hf]
        intro F1 H1 g1 v rv
        cases rv with
        | @lst a vs _ e1 r1 =>
          exact ⟨a, rfl, ⟨vs, by rw [← hk]; exact .of (g1.sr.le.ins _ _ rfl e1)⟩, by rw [← hk]; exact hq F1 H1 g1 _ fun w0 z1 z2 z3 => it_list (by rw [z1]; exact e1) (by rw [z1]; exact r1)⟩
      | tup xs =>
        refine .inl (.inl (.inr ⟨F, ρ, s, ?_⟩))
        rw [hf]
        intro F1 H1 g1 v rv
        cases rv with
        | @tup a vs _ e1 r1 =>
          exact ⟨a, rfl, ⟨vs, by rw [← hk]; exact g1.sr.le.sqT e1⟩, by rw [← hk]; exact hq F1 H1 g1 _ fun w0 z1 z2 z3 => it_tup (by rw [z1]; exact e1) (by rw [z1]; exact r1)⟩
      | str z =>
        refine .inl (.inr ⟨F, ρ, s, ?_⟩)
        rw [hf]
        intro F1 H1 g1 v rv
        cases rv
        exact ⟨z, rfl, hq F1 H1 g1 _ fun w0 z1 z2 z3 => it_str⟩
      | dic ds =>
        refine .inr ⟨F, ρ, s, ?_⟩
        rw [hf]
        intro F1 H1 g1 v rv
        cases rv with
        | @dic a kvs _ e1 r1 =>
          have fne : F1 a ≠ none := by
            intro z
            rcases e1 with e1 | ⟨o, e1⟩
            · have e1' : F1 a = _ := e1
              rw [z] at e1'; cases e1'
            · have e1' : F1 a = _ := e1
              rw [z] at e1'; cases e1'
          refine ⟨a, kvs, rfl, ?_⟩
          rcases g1.sr.le.rd _ _ e1 with e2 | ⟨od, e2⟩
          · refine .inl ⟨e2, fun od => ?_⟩
            have gl := g1.sr.lock (od := od) e2 fne
            exact hq F1 _ (g1.trans gl) _ fun w0 z1 z2 z3 => it_keys (by rw [z2]; exact upd_same) (by rw [z1]; exact fne) z3 (by rw [z1]; exact r1)
          · exact .inr ⟨od, e2, hq F1 H1 g1 _ fun w0 z1 z2 z3 => it_keys (by rw [z2]; exact e2) (by rw [z1]; exact fne) z3 (by rw [z1]; exact r1)⟩
      | _ => simp only [seqD] at hq; exact hq.elim
    · exact hq.elim
def rngD : D → Option (List D)
  | .int j => if -(2 ^ 62) ≤ j ∧ j < 2 ^ 62 then some ((List.range j.toNat).map fun (i : Nat) => D.int (0 + (i : Int))) else none
  | _ => none
theorem pi_rng {a : Expr} {p pos : Pos} (hg : Gl X "range") (hm : X.mg "range" = none) (ha : PE X a (tE C W f)) (hs : starEach [a] X.env = [(false, eval a X.env)]) : PI X tg (.Call (.Name "range" p) [a] [] pos) (tI C W (it1 rngD f)) :=
  PIimp (pi_range1 hg hm (pa_cons (pe_frz ha) pa_nil hs) hs) fun σ H R q => it1_imp (P := fun x H1 => tNil σ H1 fun xs H2 => ∃ j : Int, x :: xs = [.int j] ∧ -(2 ^ 62) ≤ j ∧ j < 2 ^ 62 ∧ R (Itr 0 j.toNat) H2) (fun F H σ ρ d v items s r hq hj => by
    unfold rngD at hq
    split at hq
    · split at hq
      · rename_i hz
        cases hq
        cases r
        exact ⟨_, rfl, hz.1, hz.2, hj _ fun w0 z1 z2 z3 => it_rng⟩
      · cases hq
    · cases hq) σ H q
def enumD : D → Option (List D)
  | .lst xs => some (pairs 0 xs)
  | _ => none
theorem pi_en {e : Expr} {p pos tpos : Pos} {elts : List Expr} {kk : Nat} (hk : C.K = X.K) (hg : Gl X "enumerate") (hm : X.mg "enumerate" = none) (ha : PE X e (tE C W f)) (hs : starEach [e] X.env = [(false, eval e X.env)]) :
    PI X (.Tuple elts kk tpos) (.Call (.Name "enumerate" p) [e] [] pos) (tI C W (it1 enumD f)) := by
  have hp := pi_enum (elts := elts) (kk := kk) (tpos := tpos) (p := p) (pos := pos) hg hm (pa_cons (pe_frz ha) pa_nil hs) hs
  rw [← hk] at hp
  exact PIimp hp fun σ H R q => it1_imp (P := fun x H1 => tNil σ H1 fun xs H2 => ∃ a ys, x :: xs = [.ref a] ∧ SqL C.K H2 a ys ∧ R (Ite C.K a) H2) (fun F H σ ρ d v items s r hq hj => by
    unfold enumD at hq
    split at hq
    · cases hq
      cases r with
      | @lst a vs _ e1 r1 => exact ⟨a, vs, rfl, .of (s.le.ins _ _ rfl e1), hj _ fun w0 z1 z2 z3 => it_enum (by rw [z1]; exact e1) (by rw [z1]; exact r1)⟩
    · cases hq) σ H q
end
end PyI
set_option maxHeartbeats 1000000
/-! PyI10: comprehensions. -/
namespace PyI
open PySem PySem.Spec PyProof.Rows L2

def wipeR (ρ : Env) : List Nat → Env
  | [] => ρ
  | v :: vs => (wipeR ρ vs).set v .no
def rst (ρ0 ρ1 : Env) : List Nat → Env
  | [] => ρ1
  | v :: vs => (rst ρ0 ρ1 vs).set v (ρ0[v]?.getD .no)
def notOwn : Option Slot → Bool
  | some (.own _ _) => false
  | some _ => true
  | none => false
def noOwn (ρ : Env) (vs : List Nat) : Bool := vs.all fun v => notOwn ρ[v]?
section
theorem wipeR_len (ρ : Env) : ∀ vs, (wipeR ρ vs).length = ρ.length
  | [] => rfl
  | v :: vs => by simp [wipeR, wipeR_len ρ vs]
theorem rst_len (ρ0 ρ1 : Env) : ∀ vs, (rst ρ0 ρ1 vs).length = ρ1.length
  | [] => rfl
  | v :: vs => by simp [rst, rst_len ρ0 ρ1 vs]
theorem wipeR_out {ρ : Env} {i : Nat} : ∀ {vs : List Nat}, i ∉ vs → (wipeR ρ vs)[i]? = ρ[i]?
  | [], _ => rfl
  | v :: vs, h => by
    have h' : i ≠ v ∧ i ∉ vs := by simpa using h
    simp only [wipeR]
    rw [List.getElem?_set_ne (Ne.symm h'.1), wipeR_out h'.2]
theorem wipeR_in {ρ : Env} {i : Nat} {s : Slot} : ∀ {vs : List Nat}, i ∈ vs → (wipeR ρ vs)[i]? = some s → s = .no
  | [], h, _ => by simp at h
  | v :: vs, h, e => by
    simp only [wipeR] at e
    rcases get_set_some e with ⟨_, z⟩ | ⟨z, q⟩
    · exact z
    · rcases List.mem_cons.mp h with y | y
      · exact absurd y z
      · exact wipeR_in y q
theorem rst_out {ρ0 ρ1 : Env} {i : Nat} : ∀ {vs : List Nat}, i ∉ vs → (rst ρ0 ρ1 vs)[i]? = ρ1[i]?
  | [], _ => rfl
  | v :: vs, h => by
    have h' : i ≠ v ∧ i ∉ vs := by simpa using h
    simp only [rst]
    rw [List.getElem?_set_ne (Ne.symm h'.1), rst_out h'.2]
theorem rst_in {ρ0 ρ1 : Env} {i : Nat} {s : Slot} : ∀ {vs : List Nat}, i ∈ vs → (rst ρ0 ρ1 vs)[i]? = some s → s = ρ0[i]?.getD .no
  | [], h, _ => by simp at h
  | v :: vs, h, e => by
    simp only [rst] at e
    rcases get_set_some e with ⟨z1, z⟩ | ⟨z, q⟩
    · rw [z, z1]
    · rcases List.mem_cons.mp h with y | y
      · exact absurd y z
      · exact rst_in y q
theorem noOwn_at {ρ : Env} {vs : List Nat} (h : noOwn ρ vs = true) {i : Nat} (m : i ∈ vs) : ∀ k d, ρ[i]? ≠ some (.own k d) := fun k d e => by
  have := List.all_eq_true.mp h i m
  rw [e] at this; cases this
theorem wipe_in {σ : L2.St} {i : Nat} {x : Option V} : ∀ {vs : List Nat}, i ∈ vs → (wipe σ vs)[i]? = some x → x = none
  | [], h, _ => by simp at h
  | v :: vs, h, e => by
    simp only [wipe] at e
    rcases get_set_some e with ⟨_, z⟩ | ⟨z, q⟩
    · exact z
    · rcases List.mem_cons.mp h with y | y
      · exact absurd y z
      · exact wipe_in y q
theorem wipe_but {l vs : List Nat} {σ σ' : L2.St} (b : But l (wipe σ vs) σ') (s : ∀ j ∈ l, j ∈ vs) : wipe σ' vs = wipe σ vs := by
  apply List.ext_getElem?
  intro j
  by_cases m : j ∈ vs
  · have l1 : (wipe σ' vs).length = (wipe σ vs).length := by rw [wipe_length, b.1]
    cases h1 : (wipe σ' vs)[j]? with
    | none =>
      have := List.getElem?_eq_none_iff.mp h1
      exact (List.getElem?_eq_none_iff.mpr (by omega)).symm
    | some x =>
      cases h2 : (wipe σ vs)[j]? with
      | none =>
        have := List.getElem?_eq_none_iff.mp h2
        have := (List.getElem?_eq_some_iff.mp h1).1
        omega
      | some y => rw [wipe_in m h1, wipe_in m h2]
  · rw [wipe_out m, b.2 j (fun z => m (s j z))]
end
section
variable {C : Ct}
/-- slots that own nothing are forgotten -/
theorem SR.wipe {w : Wd} (s : SR C w) {vs : List Nat} (n : noOwn w.en vs = true) : Go C w ⟨w.F, w.H, L2.wipe w.sg vs, wipeR w.en vs⟩ := by
  have old : ∀ (j : Nat) (sl : Slot), (wipeR w.en vs)[j]? = some sl → sl ≠ .no → j ∉ vs ∧ w.en[j]? = some sl := fun j sl q ne => by
    have m : j ∉ vs := fun z => ne (wipeR_in z q)
    exact ⟨m, by rw [← wipeR_out m]; exact q⟩
  refine ⟨⟨s.le, by rw [wipe_length, wipeR_len]; exact s.len, fun j d q => ?_, fun j k d q => ?_, fun j j' k k' d e a q1 q2 q3 q4 => ?_⟩, Le.refl _, fun x q => .inl q, fun _ _ h _ => .inl h, fun x q => ?_, fun _ h => h, fun j d q => ?_, wipeR_len _ _⟩
  · obtain ⟨m, h⟩ := old j _ q (fun z => nomatch z)
    obtain ⟨v, h1, h2⟩ := s.val j d h
    exact ⟨v, by show (L2.wipe w.sg vs)[j]? = _; rw [wipe_out m]; exact h1, h2⟩
  · obtain ⟨m, h⟩ := old j _ q (fun z => nomatch z)
    obtain ⟨a, h1, h2, h3⟩ := s.own j k d h
    exact ⟨a, by show (L2.wipe w.sg vs)[j]? = _; rw [wipe_out m]; exact h1, h2, h3⟩
  · obtain ⟨m1, h1⟩ := old j _ q1 (fun z => nomatch z)
    obtain ⟨m2, h2⟩ := old j' _ q2 (fun z => nomatch z)
    have q3' : (L2.wipe w.sg vs)[j]? = some (some (.ref a)) := q3
    have q4' : (L2.wipe w.sg vs)[j']? = some (some (.ref a)) := q4
    rw [wipe_out m1] at q3'
    rw [wipe_out m2] at q4'
    exact s.sep j j' k k' d e a h1 h2 q3' q4'
  · obtain ⟨j, k, d, q1, q2⟩ := q
    obtain ⟨m1, h1⟩ := old j _ q1 (fun z => nomatch z)
    have q2' : (L2.wipe w.sg vs)[j]? = some (some (.ref x)) := q2
    rw [wipe_out m1] at q2'
    exact .inl ⟨j, k, d, h1, q2'⟩
  · have m : j ∉ vs := fun z => noOwn_at n z _ _ q
    exact ⟨⟨d, by show (wipeR w.en vs)[j]? = _; rw [wipeR_out m]; exact q⟩, wipe_out m⟩
/-- and known again behind the block -/
theorem Go.unwipe {w : Wd} (s : SR C w) {vs : List Nat} (n : noOwn w.en vs = true) {F' H' : Hp} {ρ' : Env} (g : Go C ⟨w.F, w.H, L2.wipe w.sg vs, wipeR w.en vs⟩ ⟨F', H', L2.wipe w.sg vs, ρ'⟩) : Go C w ⟨F', H', w.sg, rst w.en ρ' vs⟩ := by
  have g0 := s.wipe n
  have owb : ∀ x, Ow ⟨w.F, w.H, L2.wipe w.sg vs, wipeR w.en vs⟩ x → Ow w x := fun x ⟨j, k, d, q1, q2⟩ => by
    have m : j ∉ vs := fun z => nomatch (wipeR_in z q1)
    have q1' : (wipeR w.en vs)[j]? = some (.own k d) := q1
    have q2' : (L2.wipe w.sg vs)[j]? = some (some (.ref x)) := q2
    rw [wipeR_out m] at q1'
    rw [wipe_out m] at q2'
    exact ⟨j, k, d, q1', q2'⟩
  have owf : ∀ x, Ow w x → Ow ⟨w.F, w.H, L2.wipe w.sg vs, wipeR w.en vs⟩ x := fun x ⟨j, k, d, q1, q2⟩ => by
    have m : j ∉ vs := fun z => noOwn_at n z _ _ q1
    exact ⟨j, k, d, by show (wipeR w.en vs)[j]? = _; rw [wipeR_out m]; exact q1, by show (L2.wipe w.sg vs)[j]? = _; rw [wipe_out m]; exact q2⟩
  -- a slot of the end
  have old : ∀ (j : Nat) (sl : Slot), (rst w.en ρ' vs)[j]? = some sl → (j ∈ vs ∧ sl = w.en[j]?.getD .no) ∨ (j ∉ vs ∧ ρ'[j]? = some sl) := fun j sl q => by
    by_cases m : j ∈ vs
    · exact .inl ⟨m, rst_in m q⟩
    · exact .inr ⟨m, by rw [← rst_out m]; exact q⟩
  have oldv : ∀ (j : Nat), j ∈ vs → ∀ k d, w.en[j]?.getD .no ≠ .own k d := fun j m k d e => by
    cases h : w.en[j]? with
    | none => rw [h] at e; cases e
    | some sl => rw [h] at e; simp at e; subst e; exact noOwn_at n m _ _ h
  have oldo : ∀ (j : Nat) (k : Bool) (d : D), (rst w.en ρ' vs)[j]? = some (.own k d) → j ∉ vs ∧ ρ'[j]? = some (.own k d) := fun j k d q => by
    rcases old j _ q with ⟨m, e⟩ | h
    · exact absurd e.symm (oldv j m k d)
    · exact h
  have sg : ∀ {j : Nat} {y : Option V}, j ∉ vs → (L2.wipe w.sg vs)[j]? = some y → w.sg[j]? = some y := fun m e => by rw [wipe_out m] at e; exact e
  have gl : ρ'.length = w.en.length := by rw [g.ln]; exact wipeR_len _ _
  refine ⟨⟨g.sr.le, by rw [rst_len, gl]; exact s.len, fun j d q => ?_, fun j k d q => ?_, fun j j' k k' d e a q1 q2 q3 q4 => ?_⟩, g.le, fun x q => ?_, fun x o q1 q2 => ?_, fun x q => ?_, g.nv, fun j d q => ?_, by rw [rst_len, gl]⟩
  · rcases old j _ q with ⟨m, e⟩ | ⟨m, h⟩
    · cases h : w.en[j]? with
      | none => rw [h] at e; cases e
      | some sl =>
        rw [h] at e
        simp at e
        subst e
        obtain ⟨v, h1, h2⟩ := s.val j d h
        exact ⟨v, h1, h2.mono g.le⟩
    · obtain ⟨v, h1, h2⟩ := g.sr.val j d h
      exact ⟨v, sg m h1, h2⟩
  · obtain ⟨m, h⟩ := oldo j k d q
    obtain ⟨a, h1, h2, h3⟩ := g.sr.own j k d h
    exact ⟨a, sg m h1, h2, h3⟩
  · obtain ⟨m1, h1⟩ := oldo j k d q1
    obtain ⟨m2, h2⟩ := oldo j' k' e q2
    have q3' : w.sg[j]? = some (some (.ref a)) := q3
    have q4' : w.sg[j']? = some (some (.ref a)) := q4
    exact g.sr.sep j j' k k' d e a h1 h2 (by show (L2.wipe w.sg vs)[j]? = _; rw [wipe_out m1]; exact q3') (by show (L2.wipe w.sg vs)[j']? = _; rw [wipe_out m2]; exact q4')
  · rcases g.fr x q with y | y | y
    · exact .inl y
    · exact .inr (.inl y)
    · exact .inr (.inr (owb x y))
  · exact g.kp x o q1 fun z => q2 (owb x z)
  · obtain ⟨j, k, d, q1, q2⟩ := q
    obtain ⟨m, h⟩ := oldo j k d q1
    have q2' : w.sg[j]? = some (some (.ref x)) := q2
    rcases g.ow x ⟨j, k, d, h, by show (L2.wipe w.sg vs)[j]? = _; rw [wipe_out m]; exact q2'⟩ with y | y
    · exact .inl (owb x y)
    · exact .inr y
  · have m : j ∉ vs := fun z => noOwn_at n z _ _ q
    obtain ⟨⟨d', h1⟩, h2⟩ := g.kt j d (by show (wipeR w.en vs)[j]? = _; rw [wipeR_out m]; exact q)
    exact ⟨⟨d', by show (rst w.en ρ' vs)[j]? = _; rw [rst_out m]; exact h1⟩, rfl⟩
/-- an object that is nobody's as yet changes -/
theorem Go.chg {a b : Wd} (g : Go C a b) {x : Addr} {o : HO} (h0 : a.H x = none) (hf : b.F x = none) (ho : ¬ Ow b x) : Go C a ⟨b.F, upd b.H x o, b.sg, b.en⟩ := by
  refine ⟨⟨g.sr.le.chg hf, g.sr.len, g.sr.val, fun i k d q => ?_, g.sr.sep⟩, g.le, g.fr, fun y u q1 q2 => ?_, g.ow, fun y q => ?_, g.kt, g.ln⟩
  · obtain ⟨y, q1, q2, q3⟩ := g.sr.own i k d q
    have ne : y ≠ x := fun e => ho ⟨i, k, d, q, by rw [← e]; exact q1⟩
    exact ⟨y, q1, q2, q3.keep (Le.refl _) (upd_ne ne)⟩
  · have ne := ne_of_none q1 h0
    rcases g.kp y u q1 q2 with q | ⟨f, kvs, od, e, q⟩
    · left; show upd b.H x o y = _; rw [upd_ne ne]; exact q
    · exact .inr ⟨f, kvs, od, e, by show upd b.H x o y = _; rw [upd_ne ne]; exact q⟩
  · show upd b.H x o y ≠ none
    by_cases e : y = x
    · rw [e, upd_same]; exact fun z => nomatch z
    · rw [upd_ne e]; exact g.nv y q
end

/-! ### [e for t in it if c] -/
theorem nn_of {α : Type} {o : Option α} {a : α} (h : o = some a) : o ≠ none := by rw [h]; exact fun z => nomatch z
abbrev WF : WX := fun _ _ _ _ => False
def lcL (vs : List Nat) (t : T) (c : Ft) (e : Fe) : List D → List D → Env → Res (List D)
  | [], acc, ρ => .ok acc ρ
  | d :: ds, acc, ρ => match asgT t d ρ with
    | none => .bad
    | some ρ1 => (match c ρ1 with
      | .ok true ρ2 => (match e ρ2 with
        | .ok (.v d') ρ3 => if noOwn ρ3 vs = true then lcL vs t c e ds (acc ++ [d']) (wipeR ρ3 vs) else .bad
        | _ => .bad)
      | .ok false ρ2 => if noOwn ρ2 vs = true then lcL vs t c e ds acc (wipeR ρ2 vs) else .bad
      | _ => .bad)
def lcE (vs : List Nat) (t : T) (fi : Fi) (c : Ft) (e : Fe) : Fe := fun ρ => (fi ρ).bind fun items ρ1 => if noOwn ρ1 vs = true ∧ items.length ≤ 100000 then (match lcL vs t c e items [] (wipeR ρ1 vs) with
  | .ok acc ρ2 => .ok (.f (.lst acc)) (rst ρ1 ρ2 vs)
  | _ => .bad) else .bad
section
variable {C : Ct} {W : WX}
theorem lc_imp {vs : List Nat} {t : T} {fi : Fi} {c : Ft} {e : Fe} (ht : ∀ j ∈ slotsT t, j ∈ vs) : ∀ σ H Q, tE C W (lcE vs t fi c e) σ H Q → tLc (tI C W fi) (tG C t) (tT C WF c) (tE C WF e) vs σ H Q := by
  intro σ H Q ⟨F, ρ, s, h⟩
  refine ⟨F, ρ, s, Kw.bind h fun items ρ1 F1 H1 e1 g1 h1 J hJ D hD => ?_⟩
  split at h1
  case isFalse => exact h1.elim
  case isTrue hz =>
  obtain ⟨nw, hlen⟩ := hz
  have gw := g1.sr.wipe nw
  have hJ' := hJ ⟨F1, H1, wipe σ vs, wipeR ρ1 vs⟩ rfl rfl gw.sr
  cases hR : lcL vs t c e items [] (wipeR ρ1 vs) with
  | bad => rw [hR] at h1; exact h1.elim
  | exc _ _ _ => rw [hR] at h1; exact h1.elim
  | ok accE ρE =>
  rw [hR] at h1
  refine ⟨fun i m H => m = items.length - i ∧ i ≤ items.length ∧ ∃ F ρ acc accV, Go C ⟨F1, H1, wipe σ vs, wipeR ρ1 vs⟩ ⟨F, H, wipe σ vs, ρ⟩ ∧ ¬ Ow ⟨F, H, wipe σ vs, ρ⟩ D ∧ H D = some (.lst accV) ∧ F D = none ∧ RepL C F acc accV ∧ acc.length ≤ i ∧
    lcL vs t c e (items.drop i) acc ρ = .ok accE ρE, ⟨_, rfl, Nat.zero_le _, F1, wipeR ρ1 vs, [], [], gw.sr.newHeap (o := .lst []) hD, fun z => (gw.sr.owF z).2 hD, upd_same, gw.sr.le.nn hD, .nil, Nat.le_refl _, by rw [List.drop_zero]; exact hR⟩, ?_⟩
  intro i m H2 ⟨hm, hi, F2, ρ2, acc, accV, g2, no2, hd2, hf2, r2, hl2, eq2⟩
  by_cases he : i = items.length
  · -- the end
    left
    subst he
    refine ⟨hJ'.stop _ g2, ?_⟩
    rw [List.drop_length] at eq2
    simp only [lcL, Res.ok.injEq] at eq2
    obtain ⟨rfl, rfl⟩ := eq2
    have gu := Go.unwipe g1.sr nw g2
    refine h1 F2 H2 gu (.ref D) ⟨D, rfl, g1.h0 hD, hf2, fun z => ?_, .lst hd2 r2⟩
    rcases gu.ow D z with y | y
    · exact (g1.sr.owF y).2 hD
    · obtain ⟨j, k, d, q1, q2⟩ := z
      have q1' : (rst ρ1 ρ2 vs)[j]? = some (.own k d) := q1
      by_cases m : j ∈ vs
      · have := rst_in m q1'
        cases hh : ρ1[j]? with
        | none => rw [hh] at this; cases this
        | some sl => rw [hh] at this; simp at this; subst this; exact noOwn_at nw m _ _ hh
      · rw [rst_out m] at q1'
        exact no2 ⟨j, k, d, q1', by show (wipe σ vs)[j]? = _; rw [wipe_out m]; exact q2⟩
  · right
    have hlt : i < items.length := by omega
    obtain ⟨q1, q2⟩ := hJ'.go i _ hlt g2
    refine ⟨q1, fun H' => ∃ m', m' < m ∧ m' = items.length - (i + 1) ∧ i + 1 ≤ items.length ∧ ∃ F ρ acc accV, Go C ⟨F1, H1, wipe σ vs, wipeR ρ1 vs⟩ ⟨F, H', wipe σ vs, ρ⟩ ∧ ¬ Ow ⟨F, H', wipe σ vs, ρ⟩ D ∧ H' D = some (.lst accV) ∧ F D = none ∧ RepL C F acc accV ∧ acc.length ≤ i + 1 ∧
      lcL vs t c e (items.drop (i + 1)) acc ρ = .ok accE ρE, fun H' ⟨m', z1, z2, z3, z4⟩ => ⟨m', z1, z2, z3, z4⟩, fun x H' hy => ?_⟩
    obtain ⟨d, F3, hd, g3, rx⟩ := q2 x H' hy
    rw [List.drop_eq_getElem_cons hlt] at eq2
    have hd' : items[i] = d := by rw [List.getElem?_eq_getElem hlt] at hd; exact Option.some.inj hd
    rw [hd'] at eq2
    simp only [lcL] at eq2
    cases ha : asgT t d ρ2 with
    | none => rw [ha] at eq2; cases eq2
    | some ρ3 =>
    rw [ha] at eq2
    simp only at eq2
    refine ⟨F3, ρ2, d, ρ3, g3.sr, rx, ha, fun σ4 g4 b4 => ?_⟩
    have hw4 : wipe σ4 vs = wipe σ vs := wipe_but b4 ht
    refine ⟨hw4, F3, ρ3, g4.sr, ?_⟩
    cases hc : c ρ3 with
    | bad => rw [hc] at eq2; cases eq2
    | exc _ _ _ => rw [hc] at eq2; cases eq2
    | ok b ρ4 =>
    rw [hc] at eq2
    intro F5 H5 g5
    have g25 := g3.trans (g4.trans g5)
    have hd5 : H5 D = some (.lst accV) := (g25.kp D _ hd2 no2).eqN fun _ z => nomatch z
    have hf5 : F5 D = none := g25.nF hf2 (nn_of hd2) no2
    have no5 : ¬ Ow ⟨F5, H5, σ4, ρ4⟩ D := g25.nO (nn_of hd2) no2
    cases b with
    | false =>
      simp only at eq2
      split at eq2
      case isFalse => cases eq2
      case isTrue n4 =>
      have gx := g5.sr.wipe n4
      have gall := g2.trans (g25.trans gx)
      have nox : ¬ Ow ⟨F5, H5, wipe σ4 vs, wipeR ρ4 vs⟩ D := gx.nO (nn_of hd5) no5
      rw [show (⟨F5, H5, wipe σ4 vs, wipeR ρ4 vs⟩ : Wd) = ⟨F5, H5, wipe σ vs, wipeR ρ4 vs⟩ by rw [hw4]] at gall nox
      show ∃ m', _
      exact ⟨_, by omega, rfl, by omega, F5, wipeR ρ4 vs, acc, accV, gall, nox, hd5, hf5, r2.mono (g25.le), by omega, eq2⟩
    | true =>
      simp only at eq2
      show tE C WF e σ4 H5 _
      refine ⟨F5, ρ4, g5.sr, ?_⟩
      cases hee : e ρ4 with
      | bad => rw [hee] at eq2; cases eq2
      | exc _ _ _ => rw [hee] at eq2; cases eq2
      | ok op ρ5 =>
      rw [hee] at eq2
      cases op with
      | f d' => cases eq2
      | s i => cases eq2
      | v d' =>
      simp only at eq2
      split at eq2
      case isFalse => cases eq2
      case isTrue n5 =>
      intro F6 H6 g6 v rv
      have hd6 : H6 D = some (.lst accV) := (g6.kp D _ hd5 no5).eqN fun _ z => nomatch z
      have hf6 : F6 D = none := g6.nF hf5 (nn_of hd5) no5
      have no6 : ¬ Ow ⟨F6, H6, σ4, ρ5⟩ D := g6.nO (nn_of hd5) no5
      have gx := g6.sr.wipe n5
      have gall := g2.trans (g25.trans (g6.trans gx))
      have nox : ¬ Ow ⟨F6, H6, wipe σ4 vs, wipeR ρ5 vs⟩ D := gx.nO (nn_of hd6) no6
      rw [show (⟨F6, H6, wipe σ4 vs, wipeR ρ5 vs⟩ : Wd) = ⟨F6, H6, wipe σ vs, wipeR ρ5 vs⟩ by rw [hw4]] at gall nox
      have gch := gall.chg (o := .lst (accV ++ [v])) hD hf6 nox
      have r6 : RepL C F6 acc accV := r2.mono (g25.le.trans g6.le)
      refine ⟨accV, hd6, by rw [r2.length]; unfold sizeLine; omega, _, by omega, rfl, by omega, F6, wipeR ρ5 vs, acc ++ [d'], accV ++ [v], gch, nox, upd_same, hf6, r6.append (.cons rv .nil), by simp; omega, eq2⟩
end
/-! ### {k: v for t in it if c} -/
def dcL (vs : List Nat) (t : T) (c : Ft) (ek e : Fe) : List D → List (Key × D) → Env → Res (List (Key × D))
  | [], acc, ρ => .ok acc ρ
  | d :: ds, acc, ρ => match asgT t d ρ with
    | none => .bad
    | some ρ1 => (match c ρ1 with
      | .ok true ρ2 => (match ek ρ2 with
        | .ok (.v kd) ρ6 => (match keyD kd with
          | some k => (match e ρ6 with
            | .ok (.v d') ρ3 => if noOwn ρ3 vs = true then dcL vs t c ek e ds (put acc k d') (wipeR ρ3 vs) else .bad
            | _ => .bad)
          | none => .bad)
        | _ => .bad)
      | .ok false ρ2 => if noOwn ρ2 vs = true then dcL vs t c ek e ds acc (wipeR ρ2 vs) else .bad
      | _ => .bad)
def dcE (vs : List Nat) (t : T) (fi : Fi) (c : Ft) (ek e : Fe) : Fe := fun ρ => (fi ρ).bind fun items ρ1 => if noOwn ρ1 vs = true ∧ items.length ≤ 100000 then (match dcL vs t c ek e items [] (wipeR ρ1 vs) with
  | .ok acc ρ2 => .ok (.f (.dic acc)) (rst ρ1 ρ2 vs)
  | _ => .bad) else .bad
section
variable {C : Ct} {W : WX}
theorem dc_imp {vs : List Nat} {t : T} {fi : Fi} {c : Ft} {ek e : Fe} (ht : ∀ j ∈ slotsT t, j ∈ vs) : ∀ σ H Q, tE C W (dcE vs t fi c ek e) σ H Q → tDc (tI C W fi) (tG C t) (tT C WF c) (tE C WF ek) (tE C WF e) vs σ H Q := by
  intro σ H Q ⟨F, ρ, s, h⟩
  refine ⟨F, ρ, s, Kw.bind h fun items ρ1 F1 H1 e1 g1 h1 J hJ D hD => ?_⟩
  split at h1
  case isFalse => exact h1.elim
  case isTrue hz =>
  obtain ⟨nw, hlen⟩ := hz
  have gw := g1.sr.wipe nw
  have hJ' := hJ ⟨F1, H1, wipe σ vs, wipeR ρ1 vs⟩ rfl rfl gw.sr
  cases hR : dcL vs t c ek e items [] (wipeR ρ1 vs) with
  | bad => rw [hR] at h1; exact h1.elim
  | exc _ _ _ => rw [hR] at h1; exact h1.elim
  | ok accE ρE =>
  rw [hR] at h1
  refine ⟨fun i m H => m = items.length - i ∧ i ≤ items.length ∧ ∃ F ρ acc accV, Go C ⟨F1, H1, wipe σ vs, wipeR ρ1 vs⟩ ⟨F, H, wipe σ vs, ρ⟩ ∧ ¬ Ow ⟨F, H, wipe σ vs, ρ⟩ D ∧ H D = some (.dK accV) ∧ F D = none ∧ RepK C F acc accV ∧ acc.length ≤ i ∧
    dcL vs t c ek e (items.drop i) acc ρ = .ok accE ρE, ⟨_, rfl, Nat.zero_le _, F1, wipeR ρ1 vs, [], [], gw.sr.newHeap (o := .dK []) hD, fun z => (gw.sr.owF z).2 hD, upd_same, gw.sr.le.nn hD, .nil, Nat.le_refl _, by rw [List.drop_zero]; exact hR⟩, ?_⟩
  intro i m H2 ⟨hm, hi, F2, ρ2, acc, accV, g2, no2, hd2, hf2, r2, hl2, eq2⟩
  by_cases he : i = items.length
  · -- the end
    left
    subst he
    refine ⟨hJ'.stop _ g2, ?_⟩
    rw [List.drop_length] at eq2
    simp only [dcL, Res.ok.injEq] at eq2
    obtain ⟨rfl, rfl⟩ := eq2
    have gu := Go.unwipe g1.sr nw g2
    refine h1 F2 H2 gu (.ref D) ⟨D, rfl, g1.h0 hD, hf2, fun z => ?_, .dic hd2 r2⟩
    rcases gu.ow D z with y | y
    · exact (g1.sr.owF y).2 hD
    · obtain ⟨j, k, d, q1, q2⟩ := z
      have q1' : (rst ρ1 ρ2 vs)[j]? = some (.own k d) := q1
      by_cases m : j ∈ vs
      · have := rst_in m q1'
        cases hh : ρ1[j]? with
        | none => rw [hh] at this; cases this
        | some sl => rw [hh] at this; simp at this; subst this; exact noOwn_at nw m _ _ hh
      · rw [rst_out m] at q1'
        exact no2 ⟨j, k, d, q1', by show (wipe σ vs)[j]? = _; rw [wipe_out m]; exact q2⟩
  · right
    have hlt : i < items.length := by omega
    obtain ⟨q1, q2⟩ := hJ'.go i _ hlt g2
    refine ⟨q1, fun H' => ∃ m', m' < m ∧ m' = items.length - (i + 1) ∧ i + 1 ≤ items.length ∧ ∃ F ρ acc accV, Go C ⟨F1, H1, wipe σ vs, wipeR ρ1 vs⟩ ⟨F, H', wipe σ vs, ρ⟩ ∧ ¬ Ow ⟨F, H', wipe σ vs, ρ⟩ D ∧ H' D = some (.dK accV) ∧ F D = none ∧ RepK C F acc accV ∧ acc.length ≤ i + 1 ∧
      dcL vs t c ek e (items.drop (i + 1)) acc ρ = .ok accE ρE, fun H' ⟨m', z1, z2, z3, z4⟩ => ⟨m', z1, z2, z3, z4⟩, fun x H' hy => ?_⟩
    obtain ⟨d, F3, hd, g3, rx⟩ := q2 x H' hy
    rw [List.drop_eq_getElem_cons hlt] at eq2
    have hd' : items[i] = d := by rw [List.getElem?_eq_getElem hlt] at hd; exact Option.some.inj hd
    rw [hd'] at eq2
    simp only [dcL] at eq2
    cases ha : asgT t d ρ2 with
    | none => rw [ha] at eq2; cases eq2
    | some ρ3 =>
    rw [ha] at eq2
    simp only at eq2
    refine ⟨F3, ρ2, d, ρ3, g3.sr, rx, ha, fun σ4 g4 b4 => ?_⟩
    have hw4 : wipe σ4 vs = wipe σ vs := wipe_but b4 ht
    refine ⟨hw4, F3, ρ3, g4.sr, ?_⟩
    cases hc : c ρ3 with
    | bad => rw [hc] at eq2; cases eq2
    | exc _ _ _ => rw [hc] at eq2; cases eq2
    | ok b ρ4 =>
    rw [hc] at eq2
    intro F5 H5 g5
    have g25 := g3.trans (g4.trans g5)
    have hf5 : F5 D = none := g25.nF hf2 (nn_of hd2) no2
    have hd5 : H5 D = some (.dK accV) := (g25.kp D _ hd2 no2).eqF hf5
    have no5 : ¬ Ow ⟨F5, H5, σ4, ρ4⟩ D := g25.nO (nn_of hd2) no2
    cases b with
    | false =>
      simp only at eq2
      split at eq2
      case isFalse => cases eq2
      case isTrue n4 =>
      have gx := g5.sr.wipe n4
      have gall := g2.trans (g25.trans gx)
      have nox : ¬ Ow ⟨F5, H5, wipe σ4 vs, wipeR ρ4 vs⟩ D := gx.nO (nn_of hd5) no5
      rw [show (⟨F5, H5, wipe σ4 vs, wipeR ρ4 vs⟩ : Wd) = ⟨F5, H5, wipe σ vs, wipeR ρ4 vs⟩ by rw [hw4]] at gall nox
      show ∃ m', _
      exact ⟨_, by omega, rfl, by omega, F5, wipeR ρ4 vs, acc, accV, gall, nox, hd5, hf5, r2.mono (g25.le), by omega, eq2⟩
    | true =>
      simp only at eq2
      show tE C WF ek σ4 H5 _
      refine ⟨F5, ρ4, g5.sr, ?_⟩
      cases hek : ek ρ4 with
      | bad => rw [hek] at eq2; cases eq2
      | exc _ _ _ => rw [hek] at eq2; cases eq2
      | ok op ρ6 =>
      rw [hek] at eq2
      cases op with
      | f d' => cases eq2
      | s i => cases eq2
      | v kd =>
      simp only at eq2
      cases hkd : keyD kd with
      | none => rw [hkd] at eq2; cases eq2
      | some k =>
      rw [hkd] at eq2
      simp only at eq2
      intro F7 H7 g7 y ry
      have hy := key_s hkd (ry.s g7.sr.le)
      have hf7 : F7 D = none := g7.nF hf5 (nn_of hd5) no5
      have hd7 : H7 D = some (.dK accV) := (g7.kp D _ hd5 no5).eqF hf7
      have no7 : ¬ Ow ⟨F7, H7, σ4, ρ6⟩ D := g7.nO (nn_of hd5) no5
      show tE C WF e σ4 H7 _
      refine ⟨F7, ρ6, g7.sr, ?_⟩
      cases hee : e ρ6 with
      | bad => rw [hee] at eq2; cases eq2
      | exc _ _ _ => rw [hee] at eq2; cases eq2
      | ok op ρ5 =>
      rw [hee] at eq2
      cases op with
      | f d' => cases eq2
      | s i => cases eq2
      | v d' =>
      simp only at eq2
      split at eq2
      case isFalse => cases eq2
      case isTrue n5 =>
      intro F6 H6 g6 v rv
      have hf6 : F6 D = none := g6.nF hf7 (nn_of hd7) no7
      have hd6 : H6 D = some (.dK accV) := (g6.kp D _ hd7 no7).eqF hf6
      have no6 : ¬ Ow ⟨F6, H6, σ4, ρ5⟩ D := g6.nO (nn_of hd7) no7
      have gx := g6.sr.wipe n5
      have gall := g2.trans (g25.trans (g7.trans (g6.trans gx)))
      have nox : ¬ Ow ⟨F6, H6, wipe σ4 vs, wipeR ρ5 vs⟩ D := gx.nO (nn_of hd6) no6
      rw [show (⟨F6, H6, wipe σ4 vs, wipeR ρ5 vs⟩ : Wd) = ⟨F6, H6, wipe σ vs, wipeR ρ5 vs⟩ by rw [hw4]] at gall nox
      have gch := gall.chg (o := .dK (putK accV k v)) hD hf6 nox
      have r6 : RepK C F6 acc accV := r2.mono (g25.le.trans (g7.le.trans g6.le))
      have pl : (PyI.put acc k d').length ≤ acc.length + 1 := by unfold PyI.put; split <;> simp
      refine ⟨accV, k, hy, hd6, by rw [r2.length]; unfold sizeLine; omega, _, by omega, rfl, by omega, F6, wipeR ρ5 vs, PyI.put acc k d', putK accV k v, gch, nox, upd_same, hf6, r6.put k rv, by omega, eq2⟩
end
end PyI
set_option maxHeartbeats 1000000
/-! PyI11: statements. -/
namespace PyI
open PySem PySem.Spec PyProof.Rows L2

inductive SRes where
  | nx (ρ : Env) | bk (ρ : Env) | ct (ρ : Env) | ret (op : Op) (ρ : Env) | exc (c : Str) (fs : List (Str × D)) (ρ : Env) | bad
  deriving Inhabited
abbrev Fs := Env → SRes
def Res.bindS {α : Type} (r : Res α) (f : α → Env → SRes) : SRes := match r with
  | .ok a ρ => f a ρ
  | .exc c fs ρ => .exc c fs ρ
  | .bad => .bad
/-- what a return gives: from w to w' -/
def RepRet (C : Ct) (w w' : Wd) : Op → V → Prop
  | .v d, v => Rep C w'.F d v
  | .f d, v => ∃ x, v = .ref x ∧ (Ow w x ∨ w.H x = none) ∧ w'.F x = none ∧ ¬ Ow w' x ∧ Own C w'.F w'.H x d
  | .s _, _ => False
theorem RepRet.back {C : Ct} {a b c : Wd} (g : Go C a b) {op : Op} {v : V} (r : RepRet C b c op v) : RepRet C a c op v := by
  cases op with
  | v d => exact r
  | f d =>
    obtain ⟨x, h1, h2, h3⟩ := r
    refine ⟨x, h1, ?_, h3⟩
    rcases h2 with h2 | h2
    · exact g.ow x h2
    · exact .inr (g.h0 h2)
  | s i => exact r
def KwS (C : Ct) (W : WX) (w : Wd) (D : Ends) (r : SRes) : Prop := match r with
  | .nx ρ' => ∀ σ' F' H', Go C w ⟨F', H', σ', ρ'⟩ → D.nx σ' H'
  | .bk ρ' => ∀ σ' F' H', Go C w ⟨F', H', σ', ρ'⟩ → D.bk σ' H'
  | .ct ρ' => ∀ σ' F' H', Go C w ⟨F', H', σ', ρ'⟩ → D.ct σ' H'
  | .ret op ρ' => ∀ v σ' F' H', Go C w ⟨F', H', σ', ρ'⟩ → RepRet C w ⟨F', H', σ', ρ'⟩ op v → D.rt v H'
  | .exc c fs ρ' => ∀ cls d σ' F' H', Go C w ⟨F', H', σ', ρ'⟩ → ExcOf C c fs cls d F' H' → W cls d σ' H'
  | .bad => False
def tS (C : Ct) (W : WX) (f : Fs) : TS := fun D σ H => ∃ F ρ, SR C ⟨F, H, σ, ρ⟩ ∧ KwS C W ⟨F, H, σ, ρ⟩ D (f ρ)
section
variable {C : Ct} {W : WX} {w w1 : Wd} {D : Ends}
theorem KwS.shift {r : SRes} (g : Go C w w1) (h : KwS C W w D r) : KwS C W w1 D r := by
  cases r with
  | nx ρ' => exact fun σ' F' H' g' => h σ' F' H' (g.trans g')
  | bk ρ' => exact fun σ' F' H' g' => h σ' F' H' (g.trans g')
  | ct ρ' => exact fun σ' F' H' g' => h σ' F' H' (g.trans g')
  | ret op ρ' => exact fun v σ' F' H' g' r => h v σ' F' H' (g.trans g') (r.back g)
  | exc c fs ρ' => exact fun cls d σ' F' H' g' x => h cls d σ' F' H' (g.trans g') x
  | bad => exact h
theorem KwS.bind {α : Type} {R' : Wd → α → Prop} {r : Res α} {f : α → Env → SRes} (h : KwS C W w D (r.bindS f))
    (k : ∀ a ρ1 F1 H1, r = .ok a ρ1 → Go C w ⟨F1, H1, w.sg, ρ1⟩ → KwS C W w D (f a ρ1) → R' ⟨F1, H1, w.sg, ρ1⟩ a) : Kw C W w R' r := by
  cases r with
  | ok a ρ' => exact fun F' H' g => k a ρ' F' H' rfl g h
  | exc c fs ρ' => exact fun cls d F' H' g x => h cls d w.sg F' H' g x
  | bad => exact h
/-- other ends -/
theorem KwS.ends {D' : Ends} {r : SRes} (h : KwS C W w D r) (h1 : ∀ ρ' σ' F' H', r = .nx ρ' → Go C w ⟨F', H', σ', ρ'⟩ → D.nx σ' H' → D'.nx σ' H') (h2 : ∀ ρ' σ' F' H', r = .bk ρ' → Go C w ⟨F', H', σ', ρ'⟩ → D.bk σ' H' → D'.bk σ' H')
    (h3 : ∀ ρ' σ' F' H', r = .ct ρ' → Go C w ⟨F', H', σ', ρ'⟩ → D.ct σ' H' → D'.ct σ' H') (h4 : ∀ v H', D.rt v H' → D'.rt v H') : KwS C W w D' r := by
  cases r with
  | nx ρ' => exact fun σ' F' H' g' => h1 ρ' σ' F' H' rfl g' (h σ' F' H' g')
  | bk ρ' => exact fun σ' F' H' g' => h2 ρ' σ' F' H' rfl g' (h σ' F' H' g')
  | ct ρ' => exact fun σ' F' H' g' => h3 ρ' σ' F' H' rfl g' (h σ' F' H' g')
  | ret op ρ' => exact fun v σ' F' H' g' r => h4 v H' (h v σ' F' H' g' r)
  | exc c fs ρ' => exact h
  | bad => exact h
end

/-! ### slots -/
section
variable {C : Ct} {W : WX} {a b w : Wd}
/-- a slot takes an object that is new since a -/
theorem Go.setOwn (g : Go C a b) {i : Nat} {x : Addr} {d : D} (hi : i < b.en.length) (nk : ∀ d0, b.en[i]? ≠ some (.own true d0)) (h0 : a.H x = none) (hf : b.F x = none) (ho : ¬ Ow b x) (hn : Own C b.F b.H x d) :
    Go C a ⟨b.F, b.H, b.sg.set i (some (.ref x)), b.en.set i (.own false d)⟩ := by
  have s := g.sr
  have hσ : i < b.sg.length := by rw [s.len]; exact hi
  have old : ∀ (j : Nat) (k : Bool) (d' : D), (b.en.set i (.own false d))[j]? = some (.own k d') → (j = i ∧ d' = d) ∨ (j ≠ i ∧ b.en[j]? = some (.own k d')) := fun j k d' q => by
    rcases get_set_some q with ⟨z1, z⟩ | z
    · cases z; exact .inl ⟨z1, rfl⟩
    · exact .inr z
  have sg : ∀ {j : Nat}, j ≠ i → (b.sg.set i (some (V.ref x)))[j]? = b.sg[j]? := fun z => List.getElem?_set_ne (Ne.symm z)
  refine ⟨⟨s.le, by simpa using s.len, fun j d' q => ?_, fun j k d' q => ?_, fun j j' k k' d' e' y q1 q2 q3 q4 => ?_⟩, g.le, g.fr, g.kp, fun y q => ?_, g.nv, fun j d' q => ?_, by simpa using g.ln⟩
  · rcases get_set_some q with ⟨z1, z2⟩ | ⟨z1, z2⟩
    · cases z2
    · obtain ⟨u, h1, h2⟩ := s.val j d' z2
      exact ⟨u, (sg z1).trans h1, h2⟩
  · rcases old j k d' q with ⟨rfl, rfl⟩ | ⟨z1, z2⟩
    · exact ⟨x, List.getElem?_set_self hσ, hf, hn⟩
    · obtain ⟨y, h1, h2, h3⟩ := s.own j k d' z2
      exact ⟨y, (sg z1).trans h1, h2, h3⟩
  · have q3' : (b.sg.set i (some (V.ref x)))[j]? = some (some (.ref y)) := q3
    have q4' : (b.sg.set i (some (V.ref x)))[j']? = some (some (.ref y)) := q4
    rcases old j k d' q1 with ⟨rfl, rfl⟩ | ⟨z1, z2⟩
    · rcases old j' k' e' q2 with ⟨rfl, rfl⟩ | ⟨z3, z4⟩
      · rfl
      · rw [List.getElem?_set_self hσ] at q3'
        cases q3'
        rw [sg z3] at q4'
        exact absurd ⟨j', k', e', z4, q4'⟩ ho
    · rcases old j' k' e' q2 with ⟨rfl, rfl⟩ | ⟨z3, z4⟩
      · rw [List.getElem?_set_self hσ] at q4'
        cases q4'
        rw [sg z1] at q3'
        exact absurd ⟨j, k, d', z2, q3'⟩ ho
      · rw [sg z1] at q3'
        rw [sg z3] at q4'
        exact s.sep j j' k k' d' e' y z2 z4 q3' q4'
  · obtain ⟨j, k, d', q1, q2⟩ := q
    have q2' : (b.sg.set i (some (V.ref x)))[j]? = some (some (.ref y)) := q2
    rcases old j k d' q1 with ⟨rfl, rfl⟩ | ⟨z1, z2⟩
    · rw [List.getElem?_set_self hσ] at q2'
      cases q2'
      exact .inr h0
    · rw [sg z1] at q2'
      exact g.ow y ⟨j, k, d', z2, q2'⟩
  · obtain ⟨⟨d2, h1⟩, h2⟩ := g.kt j d' q
    have ne : j ≠ i := fun z => by subst z; exact nk d2 h1
    exact ⟨⟨d2, by show (b.en.set i (.own false d))[j]? = _; rw [List.getElem?_set_ne (Ne.symm ne)]; exact h1⟩, (sg ne).trans h2⟩
/-- a slot is forgotten -/
theorem SR.drop {i : Nat} (s : SR C w) (nk : ∀ d0, w.en[i]? ≠ some (.own true d0)) : Go C w ⟨w.F, w.H, w.sg, w.en.set i .no⟩ := by
  have old : ∀ (j : Nat) (sl : Slot), (w.en.set i .no)[j]? = some sl → sl ≠ .no → j ≠ i ∧ w.en[j]? = some sl := fun j sl q ne => by
    rcases get_set_some q with ⟨_, z⟩ | z
    · exact absurd z ne
    · exact z
  refine ⟨⟨s.le, by simpa using s.len, fun j d q => ?_, fun j k d q => ?_, fun j j' k k' d e a q1 q2 q3 q4 => ?_⟩, Le.refl _, fun x q => .inl q, fun _ _ h _ => .inl h, fun x q => ?_, fun _ h => h, fun j d q => ?_, by simp⟩
  · exact s.val j d (old j _ q (fun z => nomatch z)).2
  · exact s.own j k d (old j _ q (fun z => nomatch z)).2
  · exact s.sep j j' k k' d e a (old j _ q1 (fun z => nomatch z)).2 (old j' _ q2 (fun z => nomatch z)).2 q3 q4
  · obtain ⟨j, k, d, q1, q2⟩ := q
    exact .inl ⟨j, k, d, (old j _ q1 (fun z => nomatch z)).2, q2⟩
  · have ne : j ≠ i := fun z => by subst z; exact nk d q
    exact ⟨⟨d, by show (w.en.set i .no)[j]? = _; rw [List.getElem?_set_ne (Ne.symm ne)]; exact q⟩, rfl⟩
/-- the object of a slot is changed -/
theorem SR.putOwn (s : SR C w) {j : Nat} {k : Bool} {d d' : D} {x : Addr} {o : HO} (h : w.en[j]? = some (.own k d)) (hx : w.sg[j]? = some (some (.ref x))) (hn : Own C w.F (upd w.H x o) x d') : Go C w ⟨w.F, upd w.H x o, w.sg, w.en.set j (.own k d')⟩ := by
  obtain ⟨x', e1, e2, e3⟩ := s.own j k d h
  rw [hx] at e1; cases e1
  have hj : j < w.en.length := (List.getElem?_eq_some_iff.mp h).1
  have old : ∀ (i : Nat) (k' : Bool) (d2 : D), (w.en.set j (.own k d'))[i]? = some (.own k' d2) → (i = j ∧ k' = k ∧ d2 = d') ∨ (i ≠ j ∧ w.en[i]? = some (.own k' d2)) := fun i k' d2 q => by
    rcases get_set_some q with ⟨z1, z⟩ | z
    · cases z; exact .inl ⟨z1, rfl, rfl⟩
    · exact .inr z
  have old2 : ∀ (i : Nat) (k' : Bool) (d2 : D), (w.en.set j (.own k d'))[i]? = some (.own k' d2) → ∃ d3, w.en[i]? = some (.own k' d3) := fun i k' d2 q => by
    rcases old i k' d2 q with ⟨rfl, rfl, rfl⟩ | ⟨_, z⟩
    · exact ⟨_, h⟩
    · exact ⟨_, z⟩
  refine ⟨⟨s.le.chg e2, by simpa using s.len, fun i d2 q => ?_, fun i k' d2 q => ?_, fun i i' k' k2 d2 e' y q1 q2 q3 q4 => ?_⟩, Le.refl _, fun y q => .inl q, fun y u q n => ?_, fun y q => ?_, fun y q => ?_, fun i d2 q => ?_, by simp⟩
  · rcases get_set_some q with ⟨_, z⟩ | ⟨_, z⟩
    · cases z
    · exact s.val i d2 z
  · rcases old i k' d2 q with ⟨rfl, rfl, rfl⟩ | ⟨z1, z2⟩
    · exact ⟨x, hx, e2, hn⟩
    · obtain ⟨y, h1, h2, h3⟩ := s.own i k' d2 z2
      have ne : y ≠ x := fun e => z1 (s.sep i j k' k d2 d x z2 h (by rw [← e]; exact h1) hx)
      exact ⟨y, h1, h2, h3.keep (Le.refl _) (upd_ne ne)⟩
  · obtain ⟨d3, p1⟩ := old2 i k' d2 q1
    obtain ⟨d4, p2⟩ := old2 i' k2 e' q2
    exact s.sep i i' k' k2 d3 d4 y p1 p2 q3 q4
  · have ne : y ≠ x := fun e => n ⟨j, k, d, h, by rw [e]; exact hx⟩
    left; show upd w.H x o y = _; rw [upd_ne ne]; exact q
  · obtain ⟨i, k', d2, q1, q2⟩ := q
    obtain ⟨d3, p1⟩ := old2 i k' d2 q1
    exact .inl ⟨i, k', d3, p1, q2⟩
  · show upd w.H x o y ≠ none
    by_cases e : y = x
    · rw [e, upd_same]; exact fun z => nomatch z
    · rw [upd_ne e]; exact q
  · by_cases e : i = j
    · subst e
      have q' : w.en[i]? = some (.own true d2) := q
      rw [h] at q'
      cases q'
      exact ⟨⟨d', List.getElem?_set_self hj⟩, rfl⟩
    · exact ⟨⟨d2, by show (w.en.set j (.own k d'))[i]? = _; rw [List.getElem?_set_ne (Ne.symm e)]; exact q⟩, rfl⟩
end

/-! ### small statements -/
def nextS : Fs := fun ρ => .nx ρ
def breakS : Fs := fun ρ => .bk ρ
def contS : Fs := fun ρ => .ct ρ
def seqS (f g : Fs) : Fs := fun ρ => match f ρ with
  | .nx ρ1 => g ρ1
  | r => r
def dropS (f : Fe) : Fs := fun ρ => (f ρ).bindS fun _ ρ1 => .nx ρ1
def retOp (op : Op) (ρ : Env) : SRes := match op with
  | .v d => .ret (.v d) ρ
  | .f d => .ret (.f d) ρ
  | .s i => match ρ[i]? with
    | some (.own false d) => .ret (.f d) (ρ.set i .no)
    | some (.val d) => .ret (.v d) ρ
    | _ => .bad
def retS (f : Fe) : Fs := fun ρ => (f ρ).bindS retOp
def retNS : Fs := fun ρ => .ret (.v .non) ρ
def ifS (t : Ft) (f g : Fs) : Fs := fun ρ => (t ρ).bindS fun b ρ1 => if b = true then f ρ1 else g ρ1
def putS (i : Nat) (op : Op) (ρ : Env) : Option Env := match op with
  | .v d => setVal i d ρ
  | .f d => (match ρ[i]? with
    | some sl => if sl.keep = true then none else some (ρ.set i (.own false d))
    | none => none)
  | .s j => (match frz ρ (.s j) with
    | some (d, ρ2) => setVal i d ρ2
    | none => none)
def setS (i : Nat) (f : Fe) : Fs := fun ρ => (f ρ).bindS fun op ρ1 => match putS i op ρ1 with
  | some ρ2 => .nx ρ2
  | none => .bad
def asgS (t : T) (f : Fe) : Fs := fun ρ => (frzE f ρ).bindS fun op ρ1 => match op with
  | .v d => (match asgT t d ρ1 with
    | some ρ2 => .nx ρ2
    | none => .bad)
  | _ => .bad
section
variable {X : Cx} {C : Ct} {W : WX} {f g : Fe} {t : Ft} {p q : Fs} {pos : Pos} {st : Stmt} {rest : List Stmt} {e : Expr}
theorem ps_nx {st : Stmt} (h : PS X st tNext) : PS X st (tS C W nextS) := PSimp h fun D σ H ⟨F, ρ, s, h⟩ => h σ F H (Go.refl s)
theorem ps_br : PS X (.Break pos) (tS C W breakS) := PSimp L2.ps_break fun D σ H ⟨F, ρ, s, h⟩ => h σ F H (Go.refl s)
theorem ps_cont : PS X (.Continue pos) (tS C W contS) := PSimp L2.ps_continue fun D σ H ⟨F, ρ, s, h⟩ => h σ F H (Go.refl s)
theorem pss_n : PSs X [] (tS C W nextS) := PSsimp pss_nil fun D σ H ⟨F, ρ, s, h⟩ => h σ F H (Go.refl s)
theorem pss_c (h1 : PS X st (tS C W p)) (h2 : PSs X rest (tS C W q)) : PSs X (st :: rest) (tS C W (seqS p q)) :=
  PSsimp (pss_cons h1 h2) fun D σ H ⟨F, ρ, s, h⟩ => by
    refine ⟨F, ρ, s, ?_⟩
    unfold seqS at h
    cases hp : p ρ with
    | nx ρ1 =>
      rw [hp] at h
      exact fun σ' F' H' g => ⟨F', ρ1, g.sr, KwS.shift g h⟩
    | bk ρ1 => rw [hp] at h; exact h
    | ct ρ1 => rw [hp] at h; exact h
    | ret op ρ1 => rw [hp] at h; exact h
    | exc c fs ρ1 => rw [hp] at h; exact h
    | bad => rw [hp] at h; exact h
theorem ps_drop (he : PE X e (tE C W f)) (hs : swapsWith e none pos.line X.env = pure false) : PS X (.Expr e pos) (tS C W (dropS f)) :=
  PSimp (ps_expr he hs) fun D σ H ⟨F, ρ, s, h⟩ => ⟨F, ρ, s, KwS.bind h fun x ρ1 F1 H1 e1 g1 h1 v rv => h1 σ F1 H1 g1⟩
theorem ret_imp : ∀ D σ H, tS C W (retS f) D σ H → tRet (tE C W f) D σ H := fun D σ H ⟨F, ρ, s, h⟩ => ⟨F, ρ, s, KwS.bind h fun x ρ1 F1 H1 e1 g1 h1 v rv => by
  cases x with
  | v d => exact h1 v σ F1 H1 g1 rv
  | f d =>
    obtain ⟨x, rfl, z1, z2, z3, z4⟩ := rv
    exact h1 (.ref x) σ F1 H1 g1 ⟨x, rfl, .inr z1, z2, z3, z4⟩
  | s i =>
    have rv' : σ[i]? = some (some v) := rv
    simp only [retOp] at h1
    split at h1
    · rename_i d hi
      obtain ⟨x, e1', e2, e3⟩ := g1.sr.own i false d hi
      have e1'' : σ[i]? = some (some (.ref x)) := e1'
      rw [rv'] at e1''; cases e1''
      have gd := g1.sr.drop (i := i) (fun d0 z => by
        have z' : ρ1[i]? = some (.own true d0) := z
        rw [hi] at z'; cases z')
      refine h1 (.ref x) σ F1 H1 (g1.trans gd) ⟨x, rfl, g1.ow x ⟨i, false, d, hi, rv'⟩, e2, fun z => ?_, e3⟩
      obtain ⟨j, k, d', q1, q2⟩ := z
      rcases get_set_some q1 with ⟨_, y⟩ | ⟨y1, y2⟩
      · cases y
      · exact y1 (g1.sr.sep j i k false d' d x y2 hi q2 rv')
    · rename_i d hi
      obtain ⟨u, e1', e2⟩ := g1.sr.val i d hi
      have e1'' : σ[i]? = some (some u) := e1'
      rw [rv'] at e1''; cases e1''
      exact h1 v σ F1 H1 g1 e2
    · exact h1.elim⟩
theorem ps_rt (he : PE X e (tE C W f)) : PS X (.Return (some e) pos) (tS C W (retS f)) := PSimp (L2.ps_ret he) ret_imp
theorem ps_rtN : PS X (.Return none pos) (tS C W retNS) := PSimp L2.ps_retN fun D σ H ⟨F, ρ, s, h⟩ => h .non σ F H (Go.refl s) .non
theorem ps_ifs {c : Expr} {a b : List Stmt} (hc : PT X c (tT C W t)) (ha : PSs X a (tS C W p)) (hb : PSs X b (tS C W q)) : PS X (.If c a b pos) (tS C W (ifS t p q)) :=
  PSimp (L2.ps_if hc ha hb) fun D σ H ⟨F, ρ, s, h⟩ => ⟨F, ρ, s, KwS.bind h fun b ρ1 F1 H1 e1 g1 h1 => by
    cases b with
    | true => exact ⟨F1, ρ1, g1.sr, KwS.shift g1 h1⟩
    | false => exact ⟨F1, ρ1, g1.sr, KwS.shift g1 h1⟩⟩
theorem set_imp {i : Nat} : ∀ D σ H, tS C W (setS i f) D σ H → tAsg (tE C W f) (gName i) D σ H := fun D σ H ⟨F, ρ, s, h⟩ => ⟨F, ρ, s, KwS.bind h fun x ρ1 F1 H1 e1 g1 h1 v rv => by
  show D.nx (σ.set i (some v)) H1
  split at h1
  · rename_i ρ2 hp
    cases x with
    | v d =>
      have gs := g1.sr.setVal (i := i) (d := d) (v := v) (ρ' := ρ2) hp rv
      exact h1 _ F1 H1 (g1.trans gs)
    | f d =>
      obtain ⟨x, rfl, z1, z2, z3, z4⟩ := rv
      simp only [putS] at hp
      split at hp
      · rename_i sl hs
        split at hp
        · cases hp
        · rename_i hne
          cases hp
          exact h1 _ F1 H1 (g1.setOwn (List.getElem?_eq_some_iff.mp hs).1 (fun d0 z => by
            have z' : ρ1[i]? = some (.own true d0) := z
            rw [hs] at z'; cases z'; exact hne rfl) z1 z2 z3 z4)
      · cases hp
    | s j =>
      simp only [putS] at hp
      split at hp
      · rename_i d ρ3 hz
        obtain ⟨F', g2, r2⟩ := Go.frz g1 hz rv
        have gs := g2.sr.setVal (i := i) (d := d) (v := v) (ρ' := ρ2) hp r2
        exact h1 _ F' H1 (g2.trans gs)
      · cases hp
  · exact h1.elim⟩
theorem ps_sets {i : Nat} {x : Str} {pos' : Pos} (hN : X.N.Nodup) (hi : X.N[i]? = some x) (hx : Loc X.env.scope x) (he : PE X e (tE C W f)) (hs : swapsWith e (some (.Name x pos')) pos.line X.env = pure false) (hf : X.fn x = true ∨ X.env.scope.names.lookup x = some .local) :
    PS X (.Assign [.Name x pos'] e pos) (tS C W (setS i f)) := PSimp (ps_set hN hi hx he hs hf) set_imp
theorem ps_asgT {tg : Expr} {tt : T} (he : PE X e (tE C W f)) (hg : PG X tg (tG C tt)) (hs : swapsWithSole [tg] e pos.line X.env = pure false) (hw : swappedStores [tg] e X.env = pure none)
    (h1 : (assignEach [tg] X.env).map (·.2) = [assign tg X.env]) : PS X (.Assign [tg] e pos) (tS C W (asgS tt f)) :=
  PSimp (ps_asg (pe_frz he) hg hs hw h1) fun D σ H ⟨F, ρ, s, h⟩ => ⟨F, ρ, s, KwS.bind h fun x ρ1 F1 H1 e1 g1 h1 v rv => by
    split at h1
    · rename_i d
      split at h1
      · rename_i ρ2 ha
        exact ⟨F1, ρ1, d, ρ2, g1.sr, rv, ha, fun σ' g' b' => h1 σ' F1 H1 (g1.trans g')⟩
      · exact h1.elim
    · exact h1.elim⟩
end

/-! ### loops -/
def forL (t : T) (body : Fs) : List D → Env → SRes
  | [], ρ => .nx ρ
  | d :: ds, ρ => match asgT t d ρ with
    | none => .bad
    | some ρ1 => (match body ρ1 with
      | .nx ρ2 => forL t body ds ρ2
      | .ct ρ2 => forL t body ds ρ2
      | .bk ρ2 => .nx ρ2
      | .ret op ρ2 => .ret op ρ2
      | .exc c fs ρ2 => .exc c fs ρ2
      | .bad => .bad)
def forS (t : T) (fi : Fi) (body : Fs) : Fs := fun ρ => (fi ρ).bindS fun items ρ1 => forL t body items ρ1
def whileL (t : Ft) (body : Fs) : Nat → Env → SRes
  | 0, _ => .bad
  | n + 1, ρ => (t ρ).bindS fun b ρ1 => if b = true then (match body ρ1 with
      | .nx ρ2 => whileL t body n ρ2
      | .ct ρ2 => whileL t body n ρ2
      | .bk ρ2 => .nx ρ2
      | .ret op ρ2 => .ret op ρ2
      | .exc c fs ρ2 => .exc c fs ρ2
      | .bad => .bad) else .nx ρ1
section
variable {X : Cx} {C : Ct} {W : WX} {fi : Fi} {t : Ft} {p : Fs} {pos : Pos}
theorem for_imp {tt : T} : ∀ D σ H, tS C W (forS tt fi p) D σ H → tFor (tI C W fi) (tG C tt) (tS C W p) D σ H := by
  intro D σ H ⟨F, ρ, s, h⟩
  refine ⟨F, ρ, s, KwS.bind h fun items ρ1 F1 H1 e1 g1 h1 J hJ => ?_⟩
  have hJ' := hJ ⟨F1, H1, σ, ρ1⟩ rfl rfl g1.sr
  refine ⟨fun i m σ2 H2 => m = items.length - i ∧ i ≤ items.length ∧ ∃ F2 ρ2, Go C ⟨F1, H1, σ, ρ1⟩ ⟨F2, H2, σ2, ρ2⟩ ∧ KwS C W ⟨F2, H2, σ2, ρ2⟩ D (forL tt p (items.drop i) ρ2), ⟨_, rfl, Nat.zero_le _, F1, ρ1, Go.refl g1.sr, KwS.shift g1 (by rw [List.drop_zero]; exact h1)⟩, ?_⟩
  intro i m σ2 H2 ⟨hm, hi, F2, ρ2, g2, h2⟩
  by_cases he : i = items.length
  · left
    subst he
    rw [List.drop_length] at h2
    exact ⟨hJ'.stop _ g2, h2 σ2 F2 H2 (Go.refl g2.sr)⟩
  · right
    have hlt : i < items.length := by omega
    obtain ⟨q1, q2⟩ := hJ'.go i _ hlt g2
    refine ⟨q1, fun σ3 H3 => ∃ m', m' < m ∧ m' = items.length - (i + 1) ∧ i + 1 ≤ items.length ∧ ∃ F3 ρ3, Go C ⟨F1, H1, σ, ρ1⟩ ⟨F3, H3, σ3, ρ3⟩ ∧ KwS C W ⟨F3, H3, σ3, ρ3⟩ D (forL tt p (items.drop (i + 1)) ρ3), fun σ' H' ⟨m', z1, z2, z3, z4⟩ => ⟨m', z1, z2, z3, z4⟩, fun x H' hy => ?_⟩
    obtain ⟨d, F3, hd, g3, rx⟩ := q2 x H' hy
    rw [List.drop_eq_getElem_cons hlt] at h2
    have hd' : items[i] = d := by rw [List.getElem?_eq_getElem hlt] at hd; exact Option.some.inj hd
    rw [hd'] at h2
    simp only [forL] at h2
    cases ha : asgT tt d ρ2 with
    | none => rw [ha] at h2; exact h2.elim
    | some ρ3 =>
    rw [ha] at h2
    simp only at h2
    refine ⟨F3, ρ2, d, ρ3, g3.sr, rx, ha, fun σ4 g4 b4 => ⟨F3, ρ3, g4.sr, ?_⟩⟩
    have g34 := g3.trans g4
    have h3 := KwS.shift g34 h2
    have fin : ∀ {ρ5 : Env} {σ5 : L2.St} {F5 H5 : Hp}, Go C ⟨F3, H', σ4, ρ3⟩ ⟨F5, H5, σ5, ρ5⟩ → KwS C W ⟨F3, H', σ4, ρ3⟩ D (forL tt p (items.drop (i + 1)) ρ5) →
        ∃ m', m' < m ∧ m' = items.length - (i + 1) ∧ i + 1 ≤ items.length ∧ ∃ F3 ρ3, Go C ⟨F1, H1, σ, ρ1⟩ ⟨F3, H5, σ5, ρ3⟩ ∧ KwS C W ⟨F3, H5, σ5, ρ3⟩ D (forL tt p (items.drop (i + 1)) ρ3) := fun {ρ5 σ5 F5 H5} g5 h5 =>
      ⟨_, by omega, rfl, by omega, F5, ρ5, g2.trans (g34.trans g5), KwS.shift g5 h5⟩
    cases hp : p ρ3 with
    | nx ρ5 => rw [hp] at h3; exact fun σ5 F5 H5 g5 => fin g5 h3
    | ct ρ5 => rw [hp] at h3; exact fun σ5 F5 H5 g5 => fin g5 h3
    | bk ρ5 => rw [hp] at h3; exact h3
    | ret op ρ5 => rw [hp] at h3; exact h3
    | exc c fs ρ5 => rw [hp] at h3; exact h3
    | bad => rw [hp] at h3; exact h3
theorem ps_fors {tg iter : Expr} {body : List Stmt} {tt : T} (hp : PassesOwn (model X.prog X.w) X.A X.env X.xe) (hc : X.calm = true) (hi : PI X tg iter (tI C W fi)) (hg : PG X tg (tG C tt)) (hb : PSs X body (tS C W p))
    (hs : ∀ x, foldedSetIterable iter X.env x = pure x) : PS X (.For tg iter body [] pos) (tS C W (forS tt fi p)) := PSimp (ps_for hp hc hi hg hb hs) for_imp
theorem while_imp {n : Nat} : ∀ D σ H, tS C W (whileL t p n) D σ H → tWhile (tT C W t) (tS C W p) D σ H := by
  intro D σ H ⟨F, ρ, s, h⟩
  refine ⟨fun m σ2 H2 => ∃ F2 ρ2, SR C ⟨F2, H2, σ2, ρ2⟩ ∧ KwS C W ⟨F2, H2, σ2, ρ2⟩ D (whileL t p m ρ2), ⟨n, F, ρ, s, h⟩, ?_⟩
  intro m σ2 H2 ⟨F2, ρ2, s2, h2⟩
  cases m with
  | zero => exact h2.elim
  | succ m =>
  simp only [whileL] at h2
  refine ⟨F2, ρ2, s2, KwS.bind h2 fun b ρ3 F3 H3 e3 g3 h3 => ?_⟩
  cases b with
  | false => exact h3 σ2 F3 H3 g3
  | true =>
    have h3' := KwS.shift g3 h3
    rw [if_pos rfl] at h3'
    refine ⟨fun σ4 H4 => ∃ m', m' < m + 1 ∧ ∃ F2 ρ2, SR C ⟨F2, H4, σ4, ρ2⟩ ∧ KwS C W ⟨F2, H4, σ4, ρ2⟩ D (whileL t p m' ρ2), fun σ' H' z => z, F3, ρ3, g3.sr, ?_⟩
    cases hp : p ρ3 with
    | nx ρ5 => rw [hp] at h3'; exact fun σ5 F5 H5 g5 => ⟨m, by omega, F5, ρ5, g5.sr, KwS.shift g5 h3'⟩
    | ct ρ5 => rw [hp] at h3'; exact fun σ5 F5 H5 g5 => ⟨m, by omega, F5, ρ5, g5.sr, KwS.shift g5 h3'⟩
    | bk ρ5 => rw [hp] at h3'; exact h3'
    | ret op ρ5 => rw [hp] at h3'; exact h3'
    | exc c fs ρ5 => rw [hp] at h3'; exact h3'
    | bad => rw [hp] at h3'; exact h3'
theorem ps_whiles {c : Expr} {body : List Stmt} (n : Nat) (hp : PassesOwn (model X.prog X.w) X.A X.env X.xe) (hc : PT X c (tT C W t)) (hb : PSs X body (tS C W p)) : PS X (.While c body [] pos) (tS C W (whileL t p n)) := PSimp (ps_while hp hc hb) while_imp
end
end PyI
set_option maxHeartbeats 1000000
/-! PyI12: comprehensions as values and stored, stores into objects of one's own, methods, op=. -/
namespace PyI
open PySem PySem.Spec PyProof.Rows L2

def yesT : Ft := fun ρ => .ok true ρ
section
variable {X : Cx} {C : Ct} {W : WX}
theorem PTsimp {ifs : List Expr} {t t' : TT} (h : PTs X ifs t) (k : ∀ σ H Q, t' σ H Q → t σ H Q) : PTs X ifs t' := ⟨fun pins s σ H Q I q => h.run pins s σ H Q I (k σ H Q q)⟩
theorem pts_n : PTs X [] (tT C W yesT) := PTsimp pts_nil fun σ H Q ⟨F, ρ, s, h⟩ => h F H (Go.refl s)
theorem pe_lcs {elt tg iter : Expr} {ifs : List Expr} {scope : Scope} {own : List (Str × Nat)} {pos : Pos} {t : T} {fi : Fi} {c : Ft} {e : Fe} (ht0 : ∀ j ∈ slotsT t, j ∈ own.map (·.2)) (hc : X.calm = true) (hN : X.N.Nodup) (hi : PI X tg iter (tI C W fi)) (ok : BlkOk X.N X.env.scope scope own)
    (hg : ∀ (s : Shared) (H : Hp) (A : Addr) (cl : List (Str × Addr)) (fp : List Addr), PG (X.blk s H scope (compEnvC scope cl A X.env) fp) tg (tG C t)) (ht : ∀ (s : Shared) (H : Hp) (A : Addr) (cl : List (Str × Addr)) (fp : List Addr), PTs (X.blk s H scope (compEnvC scope cl A X.env) fp) ifs (tT C WF c))
    (he : ∀ (s : Shared) (H : Hp) (A : Addr) (cl : List (Str × Addr)) (fp : List Addr), PE (X.blk s H scope (compEnvC scope cl A X.env) fp) elt (tE C WF e)) (hs : ∀ x, foldedSetIterable iter X.env x = pure x) :
    PE X (.ListComp elt [⟨tg, iter, ifs, 0⟩] scope pos) (tE C W (lcE (own.map (·.2)) t fi c (frzE e))) :=
  PEimp (pe_lc hc hN hi ok hg ht (fun s H A cl fp => pe_frz (he s H A cl fp)) hs) (lc_imp ht0)
theorem ps_setLcs {i : Nat} {y : Str} {py : Pos} {elt tg iter : Expr} {ifs : List Expr} {scope : Scope} {own : List (Str × Nat)} {pos spos : Pos} {t : T} {fi : Fi} {c : Ft} {e : Fe} (ht0 : ∀ j ∈ slotsT t, j ∈ own.map (·.2)) (hc : X.calm = true) (hN : X.N.Nodup) (hy : X.N[i]? = some y) (hyl : X.env.scope.names.lookup y = some .local)
    (hsw : swapsWith (.ListComp elt [⟨tg, iter, ifs, 0⟩] scope pos) (some (.Name y py)) spos.line X.env = pure true) (hi : PI X tg iter (tI C W fi)) (ok : BlkOk X.N X.env.scope scope own)
    (hg : ∀ (s : Shared) (H : Hp) (A : Addr) (cl : List (Str × Addr)) (fp : List Addr), PG (X.blk s H scope (compEnvC scope cl A X.env) fp) tg (tG C t)) (ht : ∀ (s : Shared) (H : Hp) (A : Addr) (cl : List (Str × Addr)) (fp : List Addr), PTs (X.blk s H scope (compEnvC scope cl A X.env) fp) ifs (tT C WF c))
    (he : ∀ (s : Shared) (H : Hp) (A : Addr) (cl : List (Str × Addr)) (fp : List Addr), PE (X.blk s H scope (compEnvC scope cl A X.env) fp) elt (tE C WF e)) (hs : ∀ x, foldedSetIterable iter X.env x = pure x) :
    PS X (.Assign [.Name y py] (.ListComp elt [⟨tg, iter, ifs, 0⟩] scope pos) spos) (tS C W (setS i (lcE (own.map (·.2)) t fi c (frzE e)))) :=
  PSimp (ps_setLc hc hN hy hyl hsw hi ok hg ht (fun s H A cl fp => pe_frz (he s H A cl fp)) hs) fun D σ H ⟨F, ρ, s, h⟩ => by
    have := set_imp D σ H ⟨F, ρ, s, h⟩
    exact lc_imp ht0 σ H _ this
end

/-! ### stores into objects of one's own -/
def setD : D → D → D → Option D
  | .lst xs, .int i, d => (ixN xs.length i).map fun j => .lst (xs.set j d)
  | .dic kvs, k, d => if kvs.length ≤ 100000 then (keyD k).map fun k' => .dic (put kvs k' d) else none
  | _, _, _ => none
def rSetX : V → V → V → Hp → (Hp → Prop) → Prop := fun o i v H Q => rSetL o i v H Q ∨ ∃ a H', o = .ref a ∧ DPut H a i v H' ∧ Q H'
theorem pset_x {X : Cx} (hu : X.A.units + 150 < cLine) : PSet X rSetX := fun pins s σ H o i v ov iv u Q I ro ri rv h => by
  rcases h with h | ⟨a, H', ea, g, q⟩
  · exact set_list pins s σ H o i v ov iv u Q I ro ri rv h
  · subst ea
    obtain rfl : ov = Value.ref a := ro
    exact d_setItem (by omega) I g ri rv fun s' I' => ⟨H', I', q⟩
section
variable {X : Cx} {C : Ct} {W : WX}
theorem set_serves {F H : Hp} {a : Addr} {c k d c' : D} {i v : V} {Q : Hp → Prop} (l : Le F H) (o : Own C F H a c) (rk : RepS C F H k i) (rd : Rep C F d v) (e : setD c k d = some c') (h : ∀ u, Own C F (upd H a u) a c' → Q (upd H a u)) : rSetX (.ref a) i v H Q := by
  cases o with
  | @lst vs ds e1 r1 =>
    cases rk with
    | int j =>
      simp only [setD] at e
      cases hj : ixN ds.length j with
      | none => rw [hj] at e; cases e
      | some n =>
        rw [hj] at e; cases e
        exact .inl ⟨a, vs, j, n, rfl, rfl, e1, by rw [r1.length]; exact hj, h _ (.lst upd_same (r1.set rd n))⟩
    | _ => cases e
  | @dic kvs ds e1 r1 =>
    simp only [setD] at e
    split at e
    · rename_i hz
      cases hk : keyD k with
      | none => rw [hk] at e; cases e
      | some k' =>
        rw [hk] at e; cases e
        have hi := key_s hk rk
        subst hi
        exact .inr ⟨a, _, rfl, DPut.k e1 (by rw [r1.length]; unfold sizeLine; omega), h _ (.dic upd_same (r1.put k' rd))⟩
    · cases e
  | ins e1 r1 => cases e
def store3 (j : Nat) (d : D) (opi : Op) (ρ : Env) : SRes := match ρ[j]?, deref ρ opi with
  | some (.own k c), some i => (match setD c i d with
    | some c' => .nx (ρ.set j (.own k c'))
    | none => .bad)
  | _, _ => .bad
/-- o[i] = e, the name o at the slot j -/
def storeS (j : Nat) (fi fv : Fe) : Fs := fun ρ => (frzE fv ρ).bindS fun op ρ1 => match op with
  | .v d => (match ρ1[j]? with
    | some (.own _ _) => (fi ρ1).bindS fun opi ρ2 => store3 j d opi ρ2
    | _ => .bad)
  | _ => .bad
theorem own_var {i : Nat} {σ : L2.St} {H : Hp} {Q : VK} {F : Hp} {ρ : Env} (s : SR C ⟨F, H, σ, ρ⟩) {k : Bool} {d : D} (hi : ρ[i]? = some (.own k d)) (h : ∀ a, σ[i]? = some (some (.ref a)) → F a = none → Own C F H a d → Q (.ref a) H) : tVar i σ H Q := by
  obtain ⟨a, e1, e2, e3⟩ := s.own i k d hi
  exact ⟨.ref a, e1, h a e1 e2 e3⟩
theorem ps_store {j : Nat} {x : Str} {px pos spos : Pos} {ei ev : Expr} {fi fv : Fe} (hu : X.A.units + 150 < cLine) (hN : X.N[j]? = some x) (hv : Vis X.env.scope x) (hd : (x == ("__debug__" : Str)) = false) (hcd : (x == ("__classdict__" : Str)) = false)
    (hi : PE X ei (tE C W fi)) (he : PE X ev (tE C W fv))
    (ha : ∀ v, assign (.Subscript (.Name x px) ei pos) X.env v = (do
      let ov ← holding [v] (eval (.Name x px) X.env)
      let iv ← holding [v, ov] (eval ei X.env)
      standAt pos
      holding [v, ov, iv] (setItem ov iv v)
      release [v, ov, iv] [])) (hs : swapsWithSole [.Subscript (.Name x px) ei pos] ev spos.line X.env = pure false) (hw : swappedStores [.Subscript (.Name x px) ei pos] ev X.env = pure none)
    (h1 : (assignEach [.Subscript (.Name x px) ei pos] X.env).map (·.2) = [assign (.Subscript (.Name x px) ei pos) X.env]) :
    PS X (.Assign [.Subscript (.Name x px) ei pos] ev spos) (tS C W (storeS j fi fv)) :=
  PSimp (ps_asg (pe_frz he) (pg_sub (pe_var hN hv hd hcd) hi (pset_x hu) ha) hs hw h1) fun D σ H ⟨F, ρ, s, h⟩ => ⟨F, ρ, s, KwS.bind h fun x ρ1 F1 H1 e1 g1 h1 v rv => by
    split at h1
    · rename_i d
      split at h1
      · rename_i k0 c0 hj
        refine own_var g1.sr hj fun a ea fa oa => ⟨F1, ρ1, g1.sr, KwS.bind (KwS.shift g1 h1) fun opi ρ2 F2 H2 e2 g2 h2 u ru => ?_⟩
        unfold store3 at h2
        split at h2
        · rename_i k c i hj2 hi2
          split at h2
          · rename_i c' hc
            obtain ⟨a', ea', fa', oa'⟩ := g2.sr.own j k c hj2
            have ea'' : σ[j]? = some (some (.ref a')) := ea'
            have ea1 : σ[j]? = some (some (.ref a)) := ea
            rw [ea1] at ea''; cases ea''
            refine set_serves g2.sr.le oa' (ru.read g2.sr hi2) (rv.mono g2.le) hc fun u hn => ?_
            exact h2 σ F2 _ (g2.trans (g2.sr.putOwn hj2 ea1 hn))
          · exact h2.elim
        · exact h2.elim
      · exact h1.elim
    · exact h1.elim⟩
end

/-! ### methods that change their object -/
inductive Mt where
  | append | insert | reverse | lclear | extend | dclear
  deriving DecidableEq, Inhabited
def mtD : Mt → D → List D → Option D
  | .append, .lst xs, [d] => if xs.length ≤ 100000 then some (.lst (xs ++ [d])) else none
  | .insert, .lst xs, [.int i, d] => if xs.length ≤ 100000 ∧ 0 ≤ i ∧ i < 2 ^ 63 then some (.lst (xs.take i.toNat ++ [d] ++ xs.drop i.toNat)) else none
  | .reverse, .lst xs, [] => some (.lst xs.reverse)
  | .lclear, .lst _, [] => some (.lst [])
  | .extend, .lst xs, [.lst ys] => if xs.length + ys.length ≤ 100000 then some (.lst (xs ++ ys)) else none
  | .dclear, .dic _, [] => some (.dic [])
  | _, _, _ => none
def Mt.ty : Mt → String
  | .dclear => "dict"
  | _ => "list"
def isTy (t : String) : D → Bool
  | .lst _ => decide (t = "list")
  | .dic _ => decide (t = "dict")
  | _ => false
def mt2 (o : Mt) (j : Nat) (ops : List Op) (ρ : Env) : Res Op := match vals ops, ρ[j]? with
  | some ds, some (.own k c) => (match mtD o c ds with
    | some c' => .ok (.v .non) (ρ.set j (.own k c'))
    | none => .bad)
  | _, _ => .bad
def mtE (o : Mt) (j : Nat) (fa : Fa) : Fe := fun ρ => match ρ[j]? with
  | some (.own _ c) => if isTy o.ty c = true then (fa ρ).bind (mt2 o j) else .bad
  | _ => .bad
def rMt : Mt → V → List V → Hp → VK → Prop
  | .append => rAppend
  | .insert => fun x vs H Q => ∃ (l : Addr) (xs : List V) (i : Int) (y : V), x = .ref l ∧ vs = [.int i, y] ∧ H l = some (.lst xs) ∧ xs.length < sizeLine ∧ 0 ≤ i ∧ i < 2 ^ 63 ∧ Q .non (upd H l (.lst (xs.take i.toNat ++ [y] ++ xs.drop i.toNat)))
  | .reverse => rReverse
  | .lclear => rClear
  | .extend => rExtend
  | .dclear => rDClear
section
variable {X : Cx} {C : Ct} {W : WX}
theorem mt_serves {o : Mt} {F H : Hp} {a : Addr} {c c' : D} {ds : List D} {vs : List V} {Q : VK} (l : Le F H) (ow : Own C F H a c) (r : RepL C F ds vs) (e : mtD o c ds = some c') (h : ∀ u, Own C F (upd H a u) a c' → Q .non (upd H a u)) : rMt o (.ref a) vs H Q := by
  cases ow with
  | @lst xs es e1 r1 =>
    have len := r1.length
    cases o with
    | append =>
      cases r with
      | nil => simp [mtD] at e
      | @cons d v ds vs q1 q2 =>
        cases q2 with
        | nil =>
          simp only [mtD] at e
          split at e
          · cases e
            exact ⟨a, xs, v, rfl, rfl, e1, by unfold sizeLine; omega, h _ (.lst upd_same (r1.append (.cons q1 .nil)))⟩
          · cases e
        | cons _ _ => simp [mtD] at e
    | insert =>
      cases r with
      | nil => simp [mtD] at e
      | @cons d v ds vs q1 q2 =>
        cases q1 with
        | int i =>
          cases q2 with
          | nil => simp [mtD] at e
          | @cons d2 v2 ds2 vs2 q2 q3 =>
            cases q3 with
            | nil =>
              simp only [mtD] at e
              split at e
              · rename_i hz
                cases e
                exact ⟨a, xs, i, v2, rfl, rfl, e1, by unfold sizeLine; omega, hz.2.1, hz.2.2, h _ (.lst upd_same (((r1.take _).append (.cons q2 .nil)).append (r1.drop _)))⟩
              · cases e
            | cons _ _ => simp [mtD] at e
        | _ => simp [mtD] at e
    | reverse =>
      cases r with
      | nil => simp only [mtD] at e; cases e; exact ⟨a, xs, rfl, rfl, e1, h _ (.lst upd_same r1.reverse)⟩
      | cons _ _ => simp [mtD] at e
    | lclear =>
      cases r with
      | nil => simp only [mtD] at e; cases e; exact ⟨a, xs, rfl, rfl, e1, h _ (.lst upd_same .nil)⟩
      | cons _ _ => simp [mtD] at e
    | extend =>
      cases r with
      | nil => simp [mtD] at e
      | @cons d v ds vs q1 q2 =>
        cases q1 with
        | @lst b ys fs e2 r2 =>
          cases q2 with
          | nil =>
            simp only [mtD] at e
            split at e
            · cases e
              exact ⟨a, b, xs, ys, rfl, rfl, e1, l.ins _ _ rfl e2, by rw [len, r2.length]; unfold sizeLine; omega, h _ (.lst upd_same (r1.append r2))⟩
            · cases e
          | cons _ _ => simp [mtD] at e
        | _ => simp [mtD] at e
    | dclear => simp [mtD] at e
  | @dic kvs es e1 r1 =>
    cases o with
    | dclear =>
      cases r with
      | nil => simp only [mtD] at e; cases e; exact ⟨a, kvs, rfl, rfl, e1, h _ (.dic upd_same .nil)⟩
      | cons _ _ => simp [mtD] at e
    | _ => simp [mtD] at e
  | ins e1 r1 => cases o <;> simp [mtD] at e
theorem mt_ty {K : PySem.W.Frag} {o : Mt} {F H : Hp} {a : Addr} {c : D} (ow : Own C F H a c) (h : isTy o.ty c = true) : tyV K o.ty (.ref a) H := by
  cases ow with
  | @lst xs es e1 r1 => exact .inl ⟨by simpa [isTy] using h, xs, .of e1⟩
  | @dic kvs es e1 r1 => exact .inr (.inr (.inl ⟨by simpa [isTy] using h, .inl ⟨kvs, e1⟩⟩))
  | ins _ _ => cases h
/-- o.m(e, ..) -/
theorem mt_imp {o : Mt} {j : Nat} {fa : Fa} {K : PySem.W.Frag} : ∀ σ H Q, tE C W (mtE o j fa) σ H Q → tBM K o.ty (rMt o) (tVar j) (tA C W fa) σ H Q := by
  intro σ H Q ⟨F, ρ, s, h⟩
  unfold mtE at h
  split at h
  · rename_i k0 c0 hj
    split at h
    · rename_i hty
      refine own_var s hj fun a ea fa' oa => ⟨mt_ty oa hty, F, ρ, s, Kw.bind h fun ops ρ1 F1 H1 e1 g1 h1 vs rvs => ?_⟩
      unfold mt2 at h1
      split at h1
      · rename_i ds k c hv hj1
        split at h1
        · rename_i c' hc
          obtain ⟨a', ea', _, oa'⟩ := g1.sr.own j k c hj1
          have ea'' : σ[j]? = some (some (.ref a')) := ea'
          rw [ea] at ea''; cases ea''
          exact mt_serves g1.sr.le oa' (vals_rep rvs hv) hc fun u hn => h1 F1 _ (g1.sr.putOwn hj1 ea hn) .non .non
        · exact h1.elim
      · exact h1.elim
    · exact h.elim
  · exact h.elim
theorem mt_imp0 {o : Mt} {j : Nat} {K : PySem.W.Frag} : ∀ σ H Q, tE C W (mtE o j (seqA [])) σ H Q → tBM0 K o.ty (rMt o) (tVar j) σ H Q := by
  intro σ H Q q
  have := mt_imp (K := K) σ H Q q
  obtain ⟨v, hv, ty, F, ρ, s, h⟩ := this
  exact ⟨v, hv, ty, h F H (Go.refl s) [] .nil⟩
def mtName : Mt → Str
  | .append => "append" | .insert => "insert" | .reverse => "reverse" | .lclear => "clear" | .extend => "extend" | .dclear => "clear"
def mtN : Mt → Nat
  | .append => 1 | .insert => 2 | .reverse => 0 | .lclear => 0 | .extend => 1 | .dclear => 0
theorem pe_mt {o : Mt} {j : Nat} {x : Str} {px apos pos : Pos} {e : Expr} {es : List Expr} {fa : Fa} (ho : mtN o ≠ 0) (hN : X.N[j]? = some x) (hv : Vis X.env.scope x) (hd : (x == ("__debug__" : Str)) = false) (hcd : (x == ("__classdict__" : Str)) = false) (ha : PA X (e :: es) (tA C W fa))
    (hbase : attributeBase (.Name x px) (mtName o) X.env (eval (.Name x px) X.env) = eval (.Name x px) X.env)
    (hfew : ((backTo pos (starEach (e :: es) X.env)).all (fun x => !x.1) && (backToKw pos (keywordEach [] X.env)).all (fun x => x.1.isSome)
      && decide ((e :: es).length + ([] : List Keyword).length + (if ([] : List Keyword).isEmpty then 0 else 1) < 30)) = true)
    (hline : (apos.endLine == pos.line) = true) (hs : starEach (e :: es) X.env = (false, eval e X.env) :: starEach es X.env) (hplain : (backTo pos (starEach es X.env)).any (·.1) = false) :
    PE X (.Call (.Attribute (.Name x px) (mtName o) apos) (e :: es) [] pos) (tE C W (mtE o j fa)) := by
  have h0 := pe_var (pos := px) hN hv hd hcd
  cases o with
  | append => exact PEimp (pe_bm PySem.F.plainAttrs_list PySem.F.slot_list_append PySem.F.type_list_append mt_append h0 ha hbase hfew hline hs hplain) (mt_imp (o := .append))
  | insert => exact PEimp (pe_bm PySem.F.plainAttrs_list PySem.F.slot_list_insert PySem.F.type_list_insert mt_insert h0 ha hbase hfew hline hs hplain) (mt_imp (o := .insert))
  | extend => exact PEimp (pe_bm PySem.F.plainAttrs_list PySem.F.slot_list_extend PySem.F.type_list_extend mt_extend h0 ha hbase hfew hline hs hplain) (mt_imp (o := .extend))
  | reverse => exact absurd rfl ho
  | lclear => exact absurd rfl ho
  | dclear => exact absurd rfl ho
theorem pe_mt0 {o : Mt} {j : Nat} {x : Str} {px apos pos : Pos} (ho : mtN o = 0) (hN : X.N[j]? = some x) (hv : Vis X.env.scope x) (hd : (x == ("__debug__" : Str)) = false) (hcd : (x == ("__classdict__" : Str)) = false)
    (hbase : attributeBase (.Name x px) (mtName o) X.env (eval (.Name x px) X.env) = eval (.Name x px) X.env) (hline : (apos.endLine == pos.line) = true) :
    PE X (.Call (.Attribute (.Name x px) (mtName o) apos) [] [] pos) (tE C W (mtE o j (seqA []))) := by
  have h0 := pe_var (pos := px) hN hv hd hcd
  cases o with
  | append => cases ho
  | insert => cases ho
  | extend => cases ho
  | reverse => exact PEimp (pe_bm0 PySem.F.plainAttrs_list PySem.F.slot_list_reverse PySem.F.type_list_reverse mt_reverse h0 hbase hline) (mt_imp0 (o := .reverse))
  | lclear => exact PEimp (pe_bm0 PySem.F.plainAttrs_list PySem.F.slot_list_clear PySem.F.type_list_clear mt_clear h0 hbase hline) (mt_imp0 (o := .lclear))
  | dclear => exact PEimp (pe_bm0 PySem.F.plainAttrs_dict PySem.F.slot_dict_clear PySem.F.type_dict_clear mtd_clear h0 hbase hline) (mt_imp0 (o := .dclear))
end

/-! ### name op= e, ints -/
def augD : Bop → D → D → Option Op
  | .add, .int i, .int j => some (.v (.int (i + j)))
  | .sub, .int i, .int j => some (.v (.int (i - j)))
  | _, _, _ => none
def augS (o : Bop) (i : Nat) (f : Fe) : Fs := fun ρ => match ρ[i]? with
  | some (.val d) => (f ρ).bindS fun op ρ1 => (match (deref ρ1 op).bind (augD o d) with
    | some (.v d') => (match setVal i d' ρ1 with
      | some ρ2 => .nx ρ2
      | none => .bad)
    | _ => .bad)
  | _ => .bad
section
variable {X : Cx} {C : Ct} {W : WX} {f : Fe} {e : Expr}
def rAug : Bop → TIp
  | .add => ipI fun i j => i + j
  | .sub => ipI fun i j => i - j
  | _ => fun _ _ _ _ => False
theorem pip_aug : ∀ o : Bop, PIp X (oprOf o) (rAug o)
  | .add => ip_add
  | .sub => ip_sub
  | .mul => fun _ _ _ _ _ _ _ _ _ _ _ _ h => h.elim
  | .fdiv => fun _ _ _ _ _ _ _ _ _ _ _ _ h => h.elim
  | .mod => fun _ _ _ _ _ _ _ _ _ _ _ _ h => h.elim
  | .pow => fun _ _ _ _ _ _ _ _ _ _ _ _ h => h.elim
theorem ps_augs {o : Bop} {i : Nat} {x : Str} {pos pos' : Pos} (hN : X.N.Nodup) (hi : X.N[i]? = some x) (hx : Loc X.env.scope x) (he : PE X e (tE C W f)) (hf : X.fn x = true ∨ X.env.scope.names.lookup x = some .local) :
    PS X (.AugAssign (.Name x pos') (oprOf o) e pos) (tS C W (augS o i f)) :=
  PSimp (ps_aug hN hi hx he (pip_aug o) hf) fun D σ H ⟨F, ρ, s, h⟩ => by
    unfold augS at h
    split at h
    · rename_i d hd
      obtain ⟨v, e1, r1⟩ := s.val i d hd
      refine ⟨v, e1, F, ρ, s, KwS.bind h fun op ρ1 F1 H1 e2 g1 h1 u ru => ?_⟩
      split at h1
      · rename_i d' ha
        split at h1
        · rename_i ρ2 hs
          cases hq : deref ρ1 op with
          | none => rw [hq] at ha; cases ha
          | some d2 =>
            rw [hq] at ha
            simp only [Option.bind_some] at ha
            have r2 := ru.read g1.sr hq
            have fin : ∀ n : Int, d' = .int n → D.nx (σ.set i (some (.int n))) H1 := fun n en => by
              subst en
              exact h1 _ F1 H1 (g1.trans (g1.sr.setVal (v := .int n) hs (.int n)))
            cases o with
            | add =>
              cases r1 <;> cases r2 <;> first | (cases ha; exact ⟨_, _, rfl, rfl, fin _ rfl⟩) | (simp [augD] at ha)
            | sub =>
              cases r1 <;> cases r2 <;> first | (cases ha; exact ⟨_, _, rfl, rfl, fin _ rfl⟩) | (simp [augD] at ha)
            | _ => simp [augD] at ha
        · exact h1.elim
      · exact h1.elim
    · exact h.elim
end
end PyI
set_option maxHeartbeats 1000000
/-! PyI12b: dict comprehensions as values and stored, get, copy. -/
namespace PyI
open PySem PySem.Spec PyProof.Rows L2
section
variable {X : Cx} {C : Ct} {W : WX}
/-- name = {..} on one line, the name a local (the order of HandS.Comp's ps_setLc) -/
theorem ps_setDc {i : Nat} {y : Str} {py : Pos} {kx vx tg iter : Expr} {ifs : List Expr} {scope : Scope} {own : List (Str × Nat)} {pos spos : Pos} {wi : TI} {g : TG} {tt : TT} {tk tv : TE} (hc : X.calm = true) (hN : X.N.Nodup) (hy : X.N[i]? = some y) (hyl : X.env.scope.names.lookup y = some .local)
    (hsw : swapsWith (.DictComp kx vx [⟨tg, iter, ifs, 0⟩] scope pos) (some (.Name y py)) spos.line X.env = pure true) (hi : PI X tg iter wi) (ok : BlkOk X.N X.env.scope scope own)
    (hg : ∀ (s : Shared) (H : Hp) (A : Addr) (cl : List (Str × Addr)) (fp : List Addr), PG (X.blk s H scope (compEnvC scope cl A X.env) fp) tg g) (ht : ∀ (s : Shared) (H : Hp) (A : Addr) (cl : List (Str × Addr)) (fp : List Addr), PTs (X.blk s H scope (compEnvC scope cl A X.env) fp) ifs tt)
    (hk : ∀ (s : Shared) (H : Hp) (A : Addr) (cl : List (Str × Addr)) (fp : List Addr), PE (X.blk s H scope (compEnvC scope cl A X.env) fp) kx tk)
    (he : ∀ (s : Shared) (H : Hp) (A : Addr) (cl : List (Str × Addr)) (fp : List Addr), PE (X.blk s H scope (compEnvC scope cl A X.env) fp) vx tv) (hs : ∀ x, foldedSetIterable iter X.env x = pure x) :
    PS X (.Assign [.Name y py] (.DictComp kx vx [⟨tg, iter, ifs, 0⟩] scope pos) spos) (tAsg (tDc wi g tt tk tv (own.map (·.2))) (gName i)) := by
  refine ⟨fun pins s σ H D I h => ?_⟩
  rw [exec_Assign_Name_used _ _ _ _ hsw]
  refine wpAny_bind (wpAny_standAt (wpAny_bind ?_))
  show wpAny _ X.A (do let _ ← comprehension (.DictComp kx vx [⟨tg, iter, ifs, 0⟩] scope pos) scope X.env (firstIterPos [⟨tg, iter, ifs, 0⟩] pos) newDict false (eval iter X.env) (some (assign (.Name y py) X.env))) _ _ s
  have h : tDc wi g tt tk tv (own.map (·.2)) σ H (fun x H1 => gName i x σ H1 D.nx) := h
  refine wpAny_bind (thn (dc_core (Qf := fun _ s' => SP X pins D .next s') hc hN I hi ok hg ht hk he hs h fun L A s' m H' I' q hn f => ?_) fun _ s' hq => wpAny_pure (wpAny_pure hq))
  show wpAny _ _ (assign (.Name y py) X.env (.ref L)) _ _ _
  refine wpAny_assign_Name (store_ok2 (v := V.ref L) I' hN hy (.inl hyl) rfl (fun s2 I2 ⟨a, sb, ha⟩ => ?_) (.inr hyl))
  obtain ⟨f0, f1, f2, f3, f4, f5⟩ := f
  have haC : A ≠ a := by
    rcases ha with z | z
    · rw [z]; exact f1
    · exact fun e => f4 y a z e.symm
  refine ⟨m, hn.sameBut sb haC, fun h3 sb3 => ?_⟩
  exact ⟨_, H', I2.turned (t' := s2.toks) (fun b o hb e => (sb3.2 b hb).trans e) f0 f1 f3 f4 f5, q⟩
theorem sw_trueD {kx vx : Expr} {gs : List Comprehension} {scope : Scope} {pos py : Pos} {y : Str} {l : Nat} {env : PySem.Env} (hk : env.scope.kind = .function) (hy : env.scope.names.lookup y = some .local) (hl : (py.line == pos.line) = true)
    (ha : (scope.names.any fun (n, k) => n == y && (k == .local || k == .cell)) = false) : swapsWith (.DictComp kx vx gs scope pos) (some (.Name y py)) l env = pure true := by
  have ky : env.kindOf y = some .local := hy
  have hb : env.blockKind = .function := by unfold PySem.Env.blockKind; rw [hk]; rfl
  unfold swapsWith
  simp only [hb, ky, ha, Expr.pos, hl]
  rfl
theorem pe_dcs {kx vx tg iter : Expr} {ifs : List Expr} {scope : Scope} {own : List (Str × Nat)} {pos : Pos} {t : T} {fi : Fi} {c : Ft} {ek e : Fe} (ht0 : ∀ j ∈ slotsT t, j ∈ own.map (·.2)) (hc : X.calm = true) (hN : X.N.Nodup) (hi : PI X tg iter (tI C W fi)) (ok : BlkOk X.N X.env.scope scope own)
    (hg : ∀ (s : Shared) (H : Hp) (A : Addr) (cl : List (Str × Addr)) (fp : List Addr), PG (X.blk s H scope (compEnvC scope cl A X.env) fp) tg (tG C t)) (ht : ∀ (s : Shared) (H : Hp) (A : Addr) (cl : List (Str × Addr)) (fp : List Addr), PTs (X.blk s H scope (compEnvC scope cl A X.env) fp) ifs (tT C WF c))
    (hk : ∀ (s : Shared) (H : Hp) (A : Addr) (cl : List (Str × Addr)) (fp : List Addr), PE (X.blk s H scope (compEnvC scope cl A X.env) fp) kx (tE C WF ek))
    (he : ∀ (s : Shared) (H : Hp) (A : Addr) (cl : List (Str × Addr)) (fp : List Addr), PE (X.blk s H scope (compEnvC scope cl A X.env) fp) vx (tE C WF e)) (hs : ∀ x, foldedSetIterable iter X.env x = pure x) :
    PE X (.DictComp kx vx [⟨tg, iter, ifs, 0⟩] scope pos) (tE C W (dcE (own.map (·.2)) t fi c (frzE ek) (frzE e))) :=
  PEimp (pe_dc hc hN hi ok hg ht (fun s H A cl fp => pe_frz (hk s H A cl fp)) (fun s H A cl fp => pe_frz (he s H A cl fp)) hs) (dc_imp ht0)
theorem ps_setDcs {i : Nat} {y : Str} {py : Pos} {kx vx tg iter : Expr} {ifs : List Expr} {scope : Scope} {own : List (Str × Nat)} {pos spos : Pos} {t : T} {fi : Fi} {c : Ft} {ek e : Fe} (ht0 : ∀ j ∈ slotsT t, j ∈ own.map (·.2)) (hc : X.calm = true) (hN : X.N.Nodup) (hy : X.N[i]? = some y) (hyl : X.env.scope.names.lookup y = some .local)
    (hsw : swapsWith (.DictComp kx vx [⟨tg, iter, ifs, 0⟩] scope pos) (some (.Name y py)) spos.line X.env = pure true) (hi : PI X tg iter (tI C W fi)) (ok : BlkOk X.N X.env.scope scope own)
    (hg : ∀ (s : Shared) (H : Hp) (A : Addr) (cl : List (Str × Addr)) (fp : List Addr), PG (X.blk s H scope (compEnvC scope cl A X.env) fp) tg (tG C t)) (ht : ∀ (s : Shared) (H : Hp) (A : Addr) (cl : List (Str × Addr)) (fp : List Addr), PTs (X.blk s H scope (compEnvC scope cl A X.env) fp) ifs (tT C WF c))
    (hk : ∀ (s : Shared) (H : Hp) (A : Addr) (cl : List (Str × Addr)) (fp : List Addr), PE (X.blk s H scope (compEnvC scope cl A X.env) fp) kx (tE C WF ek))
    (he : ∀ (s : Shared) (H : Hp) (A : Addr) (cl : List (Str × Addr)) (fp : List Addr), PE (X.blk s H scope (compEnvC scope cl A X.env) fp) vx (tE C WF e)) (hs : ∀ x, foldedSetIterable iter X.env x = pure x) :
    PS X (.Assign [.Name y py] (.DictComp kx vx [⟨tg, iter, ifs, 0⟩] scope pos) spos) (tS C W (setS i (dcE (own.map (·.2)) t fi c (frzE ek) (frzE e)))) :=
  PSimp (ps_setDc hc hN hy hyl hsw hi ok hg ht (fun s H A cl fp => pe_frz (hk s H A cl fp)) (fun s H A cl fp => pe_frz (he s H A cl fp)) hs) fun D σ H ⟨F, ρ, s, h⟩ => by
    have := set_imp D σ H ⟨F, ρ, s, h⟩
    exact dc_imp ht0 σ H _ this

/-! ### d.get(k, x) -/
def get3 (x y z : Op) (ρ : Env) : Res Op := match deref ρ x, deref ρ y, z with
  | some (.dic kvs), some k, .v d => (match keyD k with
    | some k' => .ok (.v ((look kvs k').getD d)) ρ
    | none => .bad)
  | _, _, _ => .bad
def getE (f g h : Fe) : Fe := fun ρ => (f ρ).bind fun x ρ1 => match deref ρ1 x with
  | some (.dic _) => (g ρ1).bind fun y ρ2 => (h ρ2).bind fun z ρ3 => get3 x y z ρ3
  | _ => .bad
theorem getD_rep {F : Hp} {o : Option D} {u : Option V} {d : D} {v : V} (r : RepO C F o u) (rd : Rep C F d v) : Rep C F (o.getD d) (u.getD v) := by
  cases o with
  | none => cases u with
    | none => exact rd
    | some u => exact r.elim
  | some e => cases u with
    | none => exact r.elim
    | some u => exact r
theorem get_imp {f g h : Fe} : ∀ σ H Q, tE C W (getE f g h) σ H Q → tDGet2 (tE C W f) (tE C W g) (tE C W h) σ H Q := by
  intro σ H Q ⟨F, ρ, s, hh⟩
  refine ⟨F, ρ, s, Kw.bind hh fun x ρ1 F1 H1 e1 g1 h1 v rv => ?_⟩
  split at h1
  · rename_i kvs0 hd
    have rx := rv.read g1.sr hd
    cases rx with
    | @dic a kv0 _ s0 r0 =>
      refine ⟨a, rfl, .inl ⟨_, s0⟩, F1, ρ1, g1.sr, Kw.bind h1 fun y ρ2 F2 H2 e2 g2 h2 u ru => ⟨F2, ρ2, g2.sr, Kw.bind h2 fun z ρ3 F3 H3 e3 g3 h3 t rt => ?_⟩⟩
      unfold get3 at h3
      split at h3
      · rename_i kvs k d hx hy
        have rx := ((rv.carry g2 rfl).carry g3 rfl).read g3.sr hx
        have ry := (ru.carry g3 rfl).read g3.sr hy
        split at h3
        · rename_i k' hk
          have hk' := key_s hk ry
          cases rx with
          | @dic _ kv _ s1 r1 =>
            exact ⟨valV kv k', .inl ⟨kv, k', s1, hk', rfl⟩, h3 F3 H3 (Go.refl g3.sr) _ (getD_rep (r1.look k') rt)⟩
        · exact h3.elim
      · exact h3.elim
  · exact h1.elim
theorem pe_get {o ek ed : Expr} {apos pos : Pos} {f g h : Fe} (hu : X.A.units + 150 < cLine) (ho : PE X o (tE C W f)) (hk : PE X ek (tE C W g)) (hd : PE X ed (tE C W h)) (m : M2 X o "get" apos ek ed pos) :
    PE X (.Call (.Attribute o "get" apos) [ek, ed] [] pos) (tE C W (getE f g (frzE h))) := PEimp (pe_dget2 (by omega) ho hk (pe_frz hd) m) get_imp
/-! ### d.get(k) -/
def get1E (f g : Fe) : Fe := fun ρ => (f ρ).bind fun x ρ1 => match deref ρ1 x with
  | some (.dic _) => (g ρ1).bind fun y ρ2 => get3 x y (.v .non) ρ2
  | _ => .bad
theorem get1_imp {f g : Fe} : ∀ σ H Q, tE C W (get1E f g) σ H Q → tDGet1 (tE C W f) (tE C W g) σ H Q := by
  intro σ H Q ⟨F, ρ, s, hh⟩
  refine ⟨F, ρ, s, Kw.bind hh fun x ρ1 F1 H1 e1 g1 h1 v rv => ?_⟩
  split at h1
  · rename_i kvs0 hd
    have rx := rv.read g1.sr hd
    cases rx with
    | @dic a kv0 _ s0 r0 =>
      refine ⟨a, rfl, .inl ⟨_, s0⟩, F1, ρ1, g1.sr, Kw.bind h1 fun y ρ2 F2 H2 e2 g2 h2 u ru => ?_⟩
      unfold get3 at h2
      split at h2
      · rename_i kvs k d hx hy hz
        cases hz
        have rx := (rv.carry g2 rfl).read g2.sr hx
        have ry := ru.read g2.sr hy
        split at h2
        · rename_i k' hk
          have hk' := key_s hk ry
          cases rx with
          | @dic _ kv _ s1 r1 =>
            exact ⟨valV kv k', .inl ⟨kv, k', s1, hk', rfl⟩, h2 F2 H2 (Go.refl g2.sr) _ (getD_rep (r1.look k') .non)⟩
        · exact h2.elim
      · exact h2.elim
  · exact h1.elim
theorem pe_get1 {o ek : Expr} {apos pos : Pos} {f g : Fe} (hu : X.A.units + 150 < cLine) (ho : PE X o (tE C W f)) (hk : PE X ek (tE C W g)) (m : M1 X o "get" apos ek pos) :
    PE X (.Call (.Attribute o "get" apos) [ek] [] pos) (tE C W (get1E f g)) := PEimp (pe_dget1 (by omega) ho hk m) get1_imp

/-! ### d.copy() -/
def tDCopy (td : TE) : TE := fun σ H Q => td σ H fun x H1 => ∃ a kvs, x = .ref a ∧ Rd H1 a (.dK kvs) ∧ ∀ p, H1 p = none → Q (.ref p) (upd H1 p (.dK kvs))
theorem pe_dcopy {o : Expr} {to : TE} {apos cpos : Pos} (ho : PE X o to) (hbase : attributeBase o "copy" X.env (eval o X.env) = eval o X.env) (hline : (apos.endLine == cpos.line) = true) : PE X (.Call (.Attribute o "copy" apos) [] [] cpos) (tDCopy to) := by
  refine ⟨fun pins s σ H Q I h => ?_⟩
  refine wpAny_Call_method0_late hbase hline (thn (ho.run pins s σ H _ I h) fun v s1 ⟨x, H1, I1, r1, a, kvs, ex, e, q1⟩ => ?_)
  subst ex
  obtain rfl : v = Value.ref a := r1
  obtain ⟨t1, t2, _⟩ := isD_at I1 (.inl ⟨kvs, e⟩)
  obtain ⟨z, hd, vs, rel, dd⟩ := dk_rd I1.hok e
  refine ⟨"dict", "dict.copy", PySem.F.plainAttrs_dict, PySem.F.slot_dict_copy, PySem.F.type_dict_copy, t1, t2, Calls.callWith_builtin rfl (PySem.evalArgs_none ?_)⟩
  refine call_meetsIn PySem.F.slot_dict_copy dd.typeIs PySem.F.entry_dict_copy (PySem.F.args_dict_copy_1 _) (meets_dict_copy (mixKind X.prog X.w) a hd) ⟨vs, dd, by rw [← rel.length]; exact z, fun h' d1 d2 keep => ?_⟩
  have hs : (s1.heap.objs.size == sysModules) = false := by
    have := I1.big
    exact beq_eq_false_iff_ne.mpr (Nat.ne_of_gt this)
  exact ⟨.ref s1.heap.objs.size, _, I1.laid (t' := s1.toks) keep (Nat.le_refl _) (dk_new z hs rel d1), rfl, q1 _ (I1.hok.fresh (Nat.le_refl _))⟩
def copyD : D → Option Op
  | .dic kvs => some (.f (.dic kvs))
  | _ => none
theorem pe_copy {o : Expr} {apos pos : Pos} {f : Fe} (ho : PE X o (tE C W f)) (hbase : attributeBase o "copy" X.env (eval o X.env) = eval o X.env) (hline : (apos.endLine == pos.line) = true) : PE X (.Call (.Attribute o "copy" apos) [] [] pos) (tE C W (seq1 f (op1 copyD))) :=
  PEimp (pe_dcopy ho hbase hline) (one_op (r := fun x H1 Q => ∃ a kvs, x = .ref a ∧ Rd H1 a (.dK kvs) ∧ ∀ p, H1 p = none → Q (.ref p) (upd H1 p (.dK kvs))) (fun d i h => by unfold copyD at h; split at h <;> cases h) fun F H d v op Q l r e dn => by
    unfold copyD at e
    split at e
    · cases e
      cases r with
      | dic s1 r1 => exact ⟨_, _, rfl, s1, fun p n => dn.dic r1 n⟩
    · cases e)
end
end PyI
set_option maxHeartbeats 1000000
/-! PyI13: the program as data, what it means, and how it is read off the text. -/
namespace PyI
open PySem PySem.Spec PyProof.Rows L2

/-- expressions, tests, walks, lists of expressions -/
inductive E where
  | var (i : Nat) | cst (d : D) | bin (o : Bop) (a b : E) | neg (a : E) | nt (a : E) | cmp (o : Cop) (a b : E) | chn (o p : Cop) (a b c : E)
  | an (a b : E) | orr (a b : E) | ite (t a b : E) | tup (a : E) | lst (a : E) | dnew | sub (a b : E) | slc (a lo hi : E) | nopart
  | bi (o : Bi) (a : E) | isi (t : Ty) (a : E) | join (a b : E) | call (f : Nat) (a : E) | frz (a : E) | mt (o : Mt) (j : Nat) (a : E)
  | lc (vs : List Nat) (t : T) (it c e : E) | dc (vs : List Nat) (t : T) (it c k e : E) | get (a k d : E) | get1 (a k : E) | copy (a : E)
  -- tests
  | tv (a : E) | tt (a : E) | tnot (a : E) | tand (a b : E) | tor (a b : E) | tyes
  -- walks
  | iseq (a : E) | irng (a : E) | ien (a : E)
  -- lists
  | anil | acons (a r : E)
  deriving Inhabited
abbrev CF := Nat → List Arg → CRes
def badE : Fe := fun _ => .bad
mutual
def evE (cf : CF) : E → Fe
  | .var i => varE i
  | .cst d => cstE d
  | .bin o a b => seq2 (evE cf a) (evE cf b) (op2 (bop o))
  | .neg a => seq1 (evE cf a) (op1 negD)
  | .nt a => notE (evE cf a)
  | .cmp o a b => seq2 (evE cf a) (evE cf b) (op2 (cop o))
  | .chn o p a b c => chainE o p (evE cf a) (evE cf b) (evE cf c)
  | .an a b => andE (evE cf a) (evE cf b)
  | .orr a b => orE (evE cf a) (evE cf b)
  | .ite t a b => iteE (evT cf t) (evE cf a) (evE cf b)
  | .tup a => seqV (seqA (evL cf a)) tupD
  | .lst a => seqV (seqA (evL cf a)) lstD
  | .dnew => dnewE
  | .sub a b => seq2 (evE cf a) (evE cf b) (op2 ixD)
  | .slc a lo hi => seqSl (evE cf a) (evP cf lo) (evP cf hi)
  | .bi o a => seq1 (evE cf a) (op1 (biD o))
  | .isi t a => seq1 (evE cf a) (op1 (PyI.isi t))
  | .join a b => joinE (evE cf a) (evE cf b)
  | .call f a => callE (cf f) (seqA (evL cf a))
  | .frz a => frzE (evE cf a)
  | .mt o j a => mtE o j (seqA (evL cf a))
  | .lc vs t it c e => lcE vs t (evI cf it) (evT cf c) (frzE (evE cf e))
  | .dc vs t it c k e => dcE vs t (evI cf it) (evT cf c) (frzE (evE cf k)) (frzE (evE cf e))
  | .get a k d => getE (evE cf a) (evE cf k) (frzE (evE cf d))
  | .get1 a k => get1E (evE cf a) (evE cf k)
  | .copy a => seq1 (evE cf a) (op1 copyD)
  | _ => badE
def evT (cf : CF) : E → Ft
  | .tv a => testE (evE cf a)
  | .tt a => truE (evE cf a)
  | .tnot a => notT (evT cf a)
  | .tand a b => andT (evT cf a) (evT cf b)
  | .tor a b => orT (evT cf a) (evT cf b)
  | .tyes => yesT
  | _ => fun _ => .bad
def evI (cf : CF) : E → Fi
  | .iseq a => it1 seqD (evE cf a)
  | .irng a => it1 rngD (evE cf a)
  | .ien a => it1 enumD (evE cf a)
  | _ => fun _ => .bad
def evL (cf : CF) : E → List Fe
  | .acons a r => evE cf a :: evL cf r
  | _ => []
def evP (cf : CF) : E → Option Fe
  | .nopart => none
  | .acons a _ => some (evE cf a)
  | _ => some badE
end
inductive S where
  | nx | br | ct | seq (a b : S) | drop (e : E) | ret (e : E) | retn | ifs (t : E) (a b : S) | set (i : Nat) (e : E) | asg (t : T) (e : E)
  | fors (t : T) (it : E) (b : S) | whil (n : Nat) (t : E) (b : S) | store (j : Nat) (i v : E) | aug (o : Bop) (i : Nat) (e : E)
  deriving Inhabited
def evS (cf : CF) : S → Fs
  | .nx => nextS
  | .br => breakS
  | .ct => contS
  | .seq a b => seqS (evS cf a) (evS cf b)
  | .drop e => dropS (evE cf e)
  | .ret e => retS (evE cf e)
  | .retn => retNS
  | .ifs t a b => ifS (evT cf t) (evS cf a) (evS cf b)
  | .set i e => setS i (evE cf e)
  | .asg t e => asgS t (evE cf e)
  | .fors t it b => forS t (evI cf it) (evS cf b)
  | .whil n t b => whileL (evT cf t) (evS cf b) n
  | .store j i v => storeS j (evE cf i) (evE cf v)
  | .aug o i e => augS o i (evE cf e)

/-! ### reading the text -/
structure SE where
  N : List Str
  sc : Scope
  /-- may be stored though a cell -/
  asg : Str → Bool
  fns : List (Str × Nat × List Bool)
  cst : List (Str × D)
def SE.blk (se : SE) (scope : Scope) : SE := { se with sc := relS scope se.sc, asg := fun x => scope.names.lookup x == some .cell }
def visB (sc : Scope) (x : Str) : Bool := match sc.names.lookup x with
  | some .local => true
  | some .cell => true
  | some .free => true
  | _ => false
def locB (sc : Scope) (x : Str) : Bool := match sc.names.lookup x with
  | some .local => true
  | some .cell => true
  | _ => false
def okName (x : Str) : Bool := !(x == ("__debug__" : Str)) && !(x == ("__classdict__" : Str))
def glB (sc : Scope) (x : Str) : Bool := match sc.names.lookup x with
  | some .globalImplicit => true
  | _ => false
def ixN? (N : List Str) (x : Str) : Option Nat := N.findIdx? fun y => decide (y = x)
def cVar (se : SE) (x : Str) : Option Nat := if visB se.sc x && okName x then ixN? se.N x else none
def isLoc (sc : Scope) (x : Str) : Bool := match sc.names.lookup x with
  | some .local => true
  | _ => false
def isFn (sc : Scope) : Bool := match sc.kind with
  | .function => true
  | _ => false
def cLoc (se : SE) (x : Str) : Option Nat := if locB se.sc x && (se.asg x || isLoc se.sc x) then ixN? se.N x else none
def cName (se : SE) (x : Str) : Option E := match cVar se x with
  | some i => some (.var i)
  | none => if glB se.sc x && okName x then (se.cst.lookup x).map .cst else none
def cConst : Const → Option E
  | .none => some (.cst .non)
  | .bool b => some (.cst (.bl b))
  | .int i => some (.cst (.int i))
  | .str x => some (.cst (.str x))
  | _ => none
def bopOf : Operator → Option Bop
  | .Add => some .add | .Sub => some .sub | .Mult => some .mul | .FloorDiv => some .fdiv | .Mod => some .mod | .Pow => some .pow
  | _ => none
def copOf : CmpOp → Option Cop
  | .Eq => some .eq | .NotEq => some .ne | .Lt => some .lt | .LtE => some .le | .Gt => some .gt | .GtE => some .ge | .In => some .isin | .NotIn => some .notin | .Is => some .is_ | .IsNot => some .isnot
def notStar : Expr → Bool
  | .Starred _ _ => false
  | _ => true
def notSet : Expr → Bool
  | .Set _ _ _ => false
  | _ => true
def notSlice : Expr → Bool
  | .Slice _ _ _ _ => false
  | _ => true
def notCall : Expr → Bool
  | .Call _ _ _ _ => false
  | _ => true
def notComp : Expr → Bool
  | .ListComp _ _ _ _ => false
  | .SetComp _ _ _ _ => false
  | .DictComp _ _ _ _ _ => false
  | _ => true
def notTup : Expr → Bool
  | .Tuple _ _ _ => false
  | _ => true
/-- its test is its value's truth -/
def plainT : Expr → Bool
  | .UnaryOp _ _ _ => false
  | .BoolOp _ _ _ => false
  | .IfExp _ _ _ _ => false
  | .Compare _ _ _ _ => false
  | _ => true
structure Rec where
  e : SE → Expr → Option E
  t : SE → Expr → Option E
def cArgs (R : Rec) (se : SE) : List Expr → Option E
  | [] => some .anil
  | e :: es => if notStar e then (match R.e se e, cArgs R se es with
    | some a, some r => some (.acons (.frz a) r)
    | _, _ => none) else none
/-- arguments: true a reference, false a value -/
def cArgsM (R : Rec) (se : SE) : List Bool → List Expr → Option E
  | [], [] => some .anil
  | m :: ms, e :: es => if notStar e then (match R.e se e, cArgsM R se ms es with
    | some a, some r => some (.acons (if m then a else .frz a) r)
    | _, _ => none) else none
  | _, _ => none
def cPart (R : Rec) (se : SE) : Option Expr → Option E
  | none => some .nopart
  | some e => (R.e se e).map fun a => .acons a .anil
mutual
def cTg (se : SE) : Nat → Expr → Option T
  | 0, _ => none
  | n + 1, e => (match e with
    | .Name x _ => (cLoc se x).map .n
    | .Tuple es _ _ => (cTgs se n es).map .tup
    | _ => none)
def cTgs (se : SE) : Nat → List Expr → Option (List T)
  | 0, _ => none
  | n + 1, l => (match l with
    | [] => some []
    | e :: es => if notStar e then (match cTg se n e, cTgs se n es with
      | some t, some ts => some (t :: ts)
      | _, _ => none) else none)
end
def isTup : Expr → Bool
  | .Tuple _ _ _ => true
  | _ => false
def cIter (R : Rec) (se : SE) (tg : Expr) (e : Expr) : Option E := match e with
  | .Call (.Name x _) [a] [] _ => if notStar a && glB se.sc x && decide (x = "range") then (R.e se a).map .irng
    else if notStar a && glB se.sc x && decide (x = "enumerate") && isTup tg then (R.e se a).map .ien
    else (R.e se e).map .iseq
  | _ => if notSet e then (R.e se e).map .iseq else none
def biOf (x : Str) : Option Bi :=
  if x = "len" then some .len else if x = "abs" then some .abs else if x = "int" then some .int else if x = "list" then some .list else if x = "tuple" then some .tuple
  else if x = "all" then some .all else if x = "any" then some .any else if x = "sum" then some .sum else none
def tyOf (x : Str) : Option Ty :=
  if x = "bool" then some .bool else if x = "int" then some .int else if x = "str" then some .str else if x = "tuple" then some .tuple else if x = "list" then some .list else if x = "dict" then some .dict else none
def mtOf (x : Str) (n : Nat) : Option Mt :=
  if x = "append" ∧ n = 1 then some .append else if x = "insert" ∧ n = 2 then some .insert else if x = "reverse" ∧ n = 0 then some .reverse else if x = "extend" ∧ n = 1 then some .extend else none
def cCallN (R : Rec) (se : SE) (x : Str) (args : List Expr) : Option E := if glB se.sc x && okName x then (match se.fns.lookup x with
  | some (f, ms) => if args.isEmpty then none else (cArgsM R se ms args).map fun a => .call f a
  | none => (match args with
    | [a] => if notStar a then (match biOf x, R.e se a with
      | some o, some r => some (.bi o r)
      | _, _ => none) else none
    | [a, .Name y _] => if notStar a && decide (x = "isinstance") && glB se.sc y then (match tyOf y, R.e se a with
      | some t, some r => some (.isi t r)
      | _, _ => none) else none
    | _ => none)) else none
def cCallA (R : Rec) (se : SE) (o : Expr) (name : Str) (args : List Expr) (line : Bool) : Option E := if line = false then none else
  if name = "join" then (match args with
    | [a] => if notStar a && notCall o then (match R.e se o, R.e se a with
      | some f, some g => some (.join f g)
      | _, _ => none) else none
    | _ => none)
  else if name = "get" then (match args with
    | [k] => if notStar k && notCall o then (match R.e se o, R.e se k with
      | some f, some g => some (.get1 f g)
      | _, _ => none) else none
    | [k, d] => if notStar k && notStar d && notCall o then (match R.e se o, R.e se k, R.e se d with
      | some f, some g, some h => some (.get f g h)
      | _, _, _ => none) else none
    | _ => none)
  else if name = "copy" then (match args with
    | [] => if notCall o then (R.e se o).map .copy else none
    | _ => none)
  else (match o with
    | .Name x _ => (match cVar se x, mtOf name args.length with
      | some j, some m => if args.length < 29 then (cArgs R se args).map fun a => .mt m j a else none
      | _, _ => none)
    | _ => none)
def ownOf (N : List Str) (scope : Scope) : List (Str × Nat) := scope.names.filterMap fun y => match y.2 with
  | .local => (ixN? N y.1).map fun i => (y.1, i)
  | .cell => (ixN? N y.1).map fun i => (y.1, i)
  | _ => none
def cIfs (R : Rec) (se : SE) : List Expr → Option E
  | [] => some .tyes
  | [c] => R.t se c
  | _ => none
def cLc (R : Rec) (se : SE) (elt tg iter : Expr) (ifs : List Expr) (scope : Scope) : Option E :=
  if blkC se.N se.sc scope (ownOf se.N scope) && notSet iter then
    (match cIter R se tg iter, cTg (se.blk scope) 9 tg, cIfs R (se.blk scope) ifs, R.e (se.blk scope) elt with
    | some it, some t, some c, some e => if (slotsT t).all fun j => ((ownOf se.N scope).map (·.2)).contains j then some (.lc ((ownOf se.N scope).map (·.2)) t it c e) else none
    | _, _, _, _ => none) else none
def cDc (R : Rec) (se : SE) (kx elt tg iter : Expr) (ifs : List Expr) (scope : Scope) : Option E :=
  if blkC se.N se.sc scope (ownOf se.N scope) && notSet iter then
    (match cIter R se tg iter, cTg (se.blk scope) 9 tg, cIfs R (se.blk scope) ifs, R.e (se.blk scope) kx, R.e (se.blk scope) elt with
    | some it, some t, some c, some k, some e => if (slotsT t).all fun j => ((ownOf se.N scope).map (·.2)).contains j then some (.dc ((ownOf se.N scope).map (·.2)) t it c k e) else none
    | _, _, _, _, _ => none) else none
def cBool (R : Rec) (se : SE) (isAnd : Bool) : List Expr → Option E
  | [] => none
  | [a] => R.e se a
  | a :: b :: r => (match R.e se a, cBool R se isAnd (b :: r) with
    | some f, some g => some (if isAnd then .an f g else .orr f g)
    | _, _ => none)
def cBoolT (R : Rec) (se : SE) (isAnd : Bool) : List Expr → Option E
  | [] => none
  | [a] => R.t se a
  | a :: b :: r => (match R.t se a, cBoolT R se isAnd (b :: r) with
    | some f, some g => some (if isAnd then .tand f g else .tor f g)
    | _, _ => none)
def cCmp (R : Rec) (se : SE) (a : Expr) (ops : List CmpOp) (bs : List Expr) : Option E := match ops, bs with
  | [o], [b] => if notSet b then (match copOf o, R.e se a, R.e se b with
    | some o', some f, some g => some (.cmp o' f g)
    | _, _, _ => none) else none
  | [o, p], [b, c] => if notSet c then (match copOf o, copOf p, R.e se a, R.e se b, R.e se c with
    | some o', some p', some f, some g, some h => some (.chn o' p' f g h)
    | _, _, _, _, _ => none) else none
  | _, _ => none
def isAndB : BoolOp → Bool
  | .And => true
  | .Or => false
def cBin (R : Rec) (se : SE) (a : Expr) (o : Operator) (b : Expr) : Option E := match bopOf o, R.e se a, R.e se b with
  | some o', some f, some g => some (.bin o' f g)
  | _, _, _ => none
def cUn (R : Rec) (se : SE) (o : UnaryOp) (a : Expr) : Option E := match o with
  | .USub => (R.e se a).map .neg
  | .Not => (R.e se a).map .nt
  | _ => none
def cIte (R : Rec) (se : SE) (c a b : Expr) : Option E := match R.t se c, R.e se a, R.e se b with
  | some t, some f, some g => some (.ite t f g)
  | _, _, _ => none
def cSub (R : Rec) (se : SE) (a i : Expr) : Option E := match i with
  | .Slice lo hi none _ => (match R.e se a, cPart R se lo, cPart R se hi with
    | some f, some l, some h => some (.slc f l h)
    | _, _, _ => none)
  | i => if notSlice i then (match R.e se a, R.e se i with
    | some f, some g => some (.sub f g)
    | _, _ => none) else none
def stepE (R : Rec) (se : SE) : Expr → Option E
  | .Name x _ => cName se x
  | .Constant c _ _ => cConst c
  | .BinOp a o b _ => cBin R se a o b
  | .UnaryOp o a _ => cUn R se o a
  | .Compare a ops bs _ => cCmp R se a ops bs
  | .BoolOp o vs _ => cBool R se (isAndB o) vs
  | .IfExp c a b _ => cIte R se c a b
  | .Tuple es _ _ => (cArgs R se es).map .tup
  | .List es _ => (cArgs R se es).map .lst
  | .Dict [] [] _ => some .dnew
  | .Subscript a i _ => cSub R se a i
  | .Call (.Name x _) args [] _ => cCallN R se x args
  | .Call (.Attribute o name apos) args [] pos => cCallA R se o name args (apos.endLine == pos.line)
  | .ListComp elt [⟨tg, iter, ifs, 0⟩] scope _ => cLc R se elt tg iter ifs scope
  | .DictComp kx elt [⟨tg, iter, ifs, 0⟩] scope _ => cDc R se kx elt tg iter ifs scope
  | _ => none
def stepT (R : Rec) (se : SE) : Expr → Option E
  | .Compare a ops bs _ => (cCmp R se a ops bs).map .tv
  | .UnaryOp .Not a _ => (R.t se a).map .tnot
  | .BoolOp o vs _ => cBoolT R se (isAndB o) vs
  | e => if plainT e then (R.e se e).map .tt else none
def recN : Nat → Rec
  | 0 => ⟨fun _ _ => none, fun _ _ => none⟩
  | n + 1 => ⟨stepE (recN n), stepT (recN n)⟩
/-! statements -/
def cAssign (R : Rec) (se : SE) (line : Nat) (tg e : Expr) : Option S := match tg with
  | .Name x py => (match cLoc se x, R.e se e with
    | some i, some f => (match e with
      | .ListComp _ _ _ _ => if isFn se.sc then some (.set i f) else none
      | .DictComp _ _ _ _ _ => if isFn se.sc then some (.set i f) else none
      | e => if notComp e then some (.set i f) else none)
    | _, _ => none)
  | .Tuple es k p => if notComp e && notTup e then (match cTg se 9 (.Tuple es k p), R.e se e with
    | some t, some f => some (.asg t f)
    | _, _ => none) else none
  | .Subscript (.Name x _) i _ => if notComp e && notSlice i then (match cVar se x, R.e se i, R.e se e with
    | some j, some f, some g => some (.store j f g)
    | _, _, _ => none) else none
  | _ => none
def cStep (R : Rec) (B : SE → List Stmt → Option S) (se : SE) : Stmt → Option S
  | .Return (some e) _ => (R.e se e).map .ret
  | .Return none _ => some .retn
  | .Assign [tg] e pos => cAssign R se pos.line tg e
  | .AugAssign (.Name x _) o e _ => (match cLoc se x, bopOf o, R.e se e with
    | some i, some o', some f => some (.aug o' i f)
    | _, _, _ => none)
  | .If c a b _ => (match R.t se c, B se a, B se b with
    | some t, some p, some q => some (.ifs t p q)
    | _, _, _ => none)
  | .For tg iter body [] _ => if notSet iter then (match cIter R se tg iter, cTg se 9 tg, B se body with
    | some it, some t, some p => some (.fors t it p)
    | _, _, _ => none) else none
  | .While c body [] _ => (match R.t se c, B se body with
    | some t, some p => some (.whil 100000 t p)
    | _, _ => none)
  | .Expr (.Constant (.str _) _ _) _ => some .nx
  | .Expr e _ => if notComp e then (R.e se e).map .drop else none
  | .Pass _ => some .nx
  | .Break _ => some .br
  | .Continue _ => some .ct
  | _ => none
def cBlk (S1 : SE → Stmt → Option S) (se : SE) : List Stmt → Option S
  | [] => some .nx
  | s :: r => (match S1 se s, cBlk S1 se r with
    | some a, some b => some (match r with | [] => a | _ => .seq a b)
    | _, _ => none)
def stmtN (R : Rec) : Nat → SE → Stmt → Option S
  | 0, _, _ => none
  | n + 1, se, st => cStep R (fun se l => cBlk (stmtN R n) se l) se st
def blockN (n : Nat) (se : SE) (l : List Stmt) : Option S := cBlk (stmtN (recN n) n) se l
end PyI
set_option maxHeartbeats 1000000
/-! PyI14: the text keeps to its reading. -/
namespace PyI
open PySem PySem.Spec PyProof.Rows L2

/-- a def's data -/
structure FnI where
  slots : Nat
  np : Nat
  body : S
  deriving Inhabited
def slotOf : Arg → Slot
  | .v d => .val d
  | .r d => .own true d
def outD : Slot → D
  | .own _ d => d
  | _ => .non
def outsOf (n : Nat) (ρ : Env) : List D := (ρ.take n).map outD
def callBody (cf : CF) (g : FnI) (ar : List Arg) : CRes := match evS cf g.body (ar.map slotOf ++ List.replicate (g.slots - ar.length) .no) with
  | .nx ρ => .ok (.v .non) (outsOf ar.length ρ)
  | .ret (.v d) ρ => .ok (.v d) (outsOf ar.length ρ)
  | .ret (.f d) ρ => .ok (.f d) (outsOf ar.length ρ)
  | .exc c fs ρ => .exc c fs (outsOf ar.length ρ)
  | _ => .bad
def callF (G : List FnI) : Nat → CF
  | 0, _, _ => .bad
  | n + 1, f, ar => match G[f]? with
    | some g => callBody (callF G n) g ar
    | none => .bad

/-! ### what the context grants -/
def bltN : List Str := ["range", "enumerate", "len", "abs", "int", "list", "tuple", "all", "any", "sum", "isinstance", "bool", "str", "dict"]
structure Good (C : Ct) (cf : CF) (X : Cx) (se : SE) : Prop where
  N : X.N = se.N
  nd : X.N.Nodup
  sc : X.env.scope = se.sc
  fn : ∀ x, se.asg x = true → X.fn x = true
  calm : X.calm = true
  K : C.K = X.K
  un : X.A.units + 150 < cLine
  fns : ∀ x f ms, se.fns.lookup x = some (f, ms) → ∃ k a fd ps, X.mg x = some (.ref a) ∧ PySem.W.keepIn X.K (.ref a) = true ∧ FnOk X.prog X.w X.K X.mg X.base (L2.CX X.prog X.w) k a fd ps (spI C ms.length (cf f)) ∧ Room k X.A ∧ Binds X.K fd ps []
  cst : ∀ x d, se.cst.lookup x = some d → ∃ u v, X.mg x = some u ∧ RelV v u ∧ ∀ F, Rep C F d v
  blt : ∀ x ∈ bltN, X.mg x = none
theorem Good.blk {C : Ct} {cf : CF} {X : Cx} {se : SE} (g : Good C cf X se) (scope : Scope) (s : Shared) (H : Hp) (A : Addr) (cl : List (Str × Addr)) (fp : List Addr) : Good C cf (X.blk s H scope (compEnvC scope cl A X.env) fp) (se.blk scope) where
  N := g.N
  nd := g.nd
  sc := by
    show relabel scope X.env = relS scope se.sc
    rw [← g.sc]
    rfl
  fn := fun x h => h
  calm := g.calm
  K := g.K
  un := g.un
  fns := g.fns
  cst := g.cst
  blt := g.blt
theorem takes_blk {X : Cx} (scope : Scope) (s : Shared) (H : Hp) (cenv : L2.St → Env → Env) {env : PySem.Env} (fp : List Addr) : Takes (X.blk s H scope env fp) WF := by
  intro u s' h
  obtain ⟨_, _, _, _, _, _, _, _, _, _, _, _, _, _, _, _, w⟩ := h
  exact w
structure Snd (C : Ct) (cf : CF) (R : Rec) : Prop where
  e : ∀ {X : Cx} {W : WX} {se : SE} {e : Expr} {ir : E}, Good C cf X se → Takes X W → R.e se e = some ir → PE X e (tE C W (evE cf ir))
  t : ∀ {X : Cx} {W : WX} {se : SE} {e : Expr} {ir : E}, Good C cf X se → Takes X W → R.t se e = some ir → PT X e (tT C W (evT cf ir))
  s : ∀ {X : Cx} {W : WX} {se : SE} {elt : Expr} {gs : List Comprehension} {scope : Scope} {lpos : Pos} {i : Nat} {x : Str} {py spos : Pos} {ir : E}, Good C cf X se → Takes X W → X.N[i]? = some x → X.env.scope.names.lookup x = some .local →
    swapsWith (.ListComp elt gs scope lpos) (some (.Name x py)) spos.line X.env = pure true → R.e se (.ListComp elt gs scope lpos) = some ir → PS X (.Assign [.Name x py] (.ListComp elt gs scope lpos) spos) (tS C W (evS cf (.set i ir)))
  sd : ∀ {X : Cx} {W : WX} {se : SE} {kx elt : Expr} {gs : List Comprehension} {scope : Scope} {lpos : Pos} {i : Nat} {x : Str} {py spos : Pos} {ir : E}, Good C cf X se → Takes X W → X.N[i]? = some x → X.env.scope.names.lookup x = some .local →
    swapsWith (.DictComp kx elt gs scope lpos) (some (.Name x py)) spos.line X.env = pure true → R.e se (.DictComp kx elt gs scope lpos) = some ir → PS X (.Assign [.Name x py] (.DictComp kx elt gs scope lpos) spos) (tS C W (evS cf (.set i ir)))

/-! ### names -/
theorem ixN_get {N : List Str} {x : Str} {i : Nat} (h : ixN? N x = some i) : N[i]? = some x := by
  unfold ixN? at h
  obtain ⟨hl, hp, _⟩ := List.findIdx?_eq_some_iff_getElem.mp h
  rw [List.getElem?_eq_getElem hl]
  exact congrArg some (of_decide_eq_true hp)
theorem visB_vis {sc : Scope} {x : Str} (h : visB sc x = true) : Vis sc x := by
  unfold visB at h
  unfold Vis
  split at h
  · rename_i e; exact .inl e
  · rename_i e; exact .inr (.inl e)
  · rename_i e; exact .inr (.inr e)
  · cases h
theorem isLoc_of {sc : Scope} {x : Str} (h : isLoc sc x = true) : sc.names.lookup x = some .local := by
  unfold isLoc at h
  split at h
  · rename_i e; exact e
  · cases h
theorem isFn_of {sc : Scope} (h : isFn sc = true) : sc.kind = .function := by
  unfold isFn at h
  split at h
  · rename_i e; exact e
  · cases h
theorem locB_loc {sc : Scope} {x : Str} (h : locB sc x = true) : L2.Loc sc x := by
  unfold locB at h
  unfold L2.Loc
  split at h
  · rename_i e; exact .inl e
  · rename_i e; exact .inr e
  · cases h
theorem okName_of {x : Str} (h : okName x = true) : (x == ("__debug__" : Str)) = false ∧ (x == ("__classdict__" : Str)) = false := by
  unfold okName at h
  simpa using h
theorem glB_gl {X : Cx} {sc : Scope} {x : Str} (e : X.env.scope = sc) (h : glB sc x = true) : Gl X x := by
  unfold glB at h
  split at h
  · rename_i q
    show X.env.scope.names.lookup x = _
    rw [e]; exact q
  · cases h
section
variable {C : Ct} {cf : CF} {X : Cx} {W : WX} {se : SE} {R : Rec}
theorem cVar_ok (g : Good C cf X se) {x : Str} {i : Nat} (h : cVar se x = some i) : X.N[i]? = some x ∧ Vis X.env.scope x ∧ (x == ("__debug__" : Str)) = false ∧ (x == ("__classdict__" : Str)) = false := by
  unfold cVar at h
  split at h
  · rename_i hb
    obtain ⟨h1, h2⟩ := Bool.and_eq_true_iff.mp hb
    obtain ⟨h3, h4⟩ := okName_of h2
    exact ⟨by rw [g.N]; exact ixN_get h, by rw [g.sc]; exact visB_vis h1, h3, h4⟩
  · cases h
theorem cLoc_ok (g : Good C cf X se) {x : Str} {i : Nat} (h : cLoc se x = some i) : X.N[i]? = some x ∧ L2.Loc X.env.scope x ∧ (X.fn x = true ∨ X.env.scope.names.lookup x = some .local) := by
  unfold cLoc at h
  split at h
  · rename_i hb
    obtain ⟨h1, h2⟩ := Bool.and_eq_true_iff.mp hb
    refine ⟨by rw [g.N]; exact ixN_get h, by rw [g.sc]; exact locB_loc h1, ?_⟩
    rcases Bool.or_eq_true_iff.mp h2 with h3 | h3
    · exact .inl (g.fn x h3)
    · right
      rw [g.sc]
      exact isLoc_of h3
  · cases h
theorem snd_name (g : Good C cf X se) {x : Str} {p : Pos} {ir : E} (h : cName se x = some ir) : PE X (.Name x p) (tE C W (evE cf ir)) := by
  unfold cName at h
  split at h
  · rename_i i hi
    cases h
    obtain ⟨h1, h2, h3, h4⟩ := cVar_ok g hi
    exact pe_v h1 h2 h3 h4
  · split at h
    · rename_i hb
      obtain ⟨h1, h2⟩ := Bool.and_eq_true_iff.mp hb
      cases hc : se.cst.lookup x with
      | none => rw [hc] at h; cases h
      | some d =>
        rw [hc] at h
        cases h
        obtain ⟨u, v, m1, m2, m3⟩ := g.cst x d hc
        exact pe_c (pe_glob (glB_gl g.sc h1) m1 m2 (okName_of h2).1) m3
    · cases h
theorem snd_const {c : Const} {k : Nat} {p : Pos} {ir : E} (h : cConst c = some ir) : PE X (.Constant c k p) (tE C W (evE cf ir)) := by
  cases c with
  | none => cases h; exact pe_c pe_non fun F => .non
  | bool b => cases h; exact pe_c pe_bl fun F => .bl b
  | int i => cases h; exact pe_c pe_int fun F => .int i
  | str x => cases h; exact pe_c pe_str fun F => .str x
  | _ => cases h

/-! ### side conditions by the form -/
theorem star_of {e : Expr} {es : List Expr} {env : PySem.Env} (h : notStar e = true) : starEach (e :: es) env = (false, eval e env) :: starEach es env := by
  cases e <;> first | rfl | cases h
theorem plain_of : ∀ {es : List Expr} {env : PySem.Env} {pos : Pos}, es.all notStar = true → (backTo pos (starEach es env)).any (·.1) = false
  | [], _, _, _ => rfl
  | e :: es, env, pos, h => by
    have h' : notStar e = true ∧ es.all notStar = true := by simpa using h
    rw [star_of h'.1]
    have := plain_of (env := env) (pos := pos) h'.2
    unfold backTo at this ⊢
    rw [List.map_cons, List.any_cons, this]
    rfl
theorem few_of : ∀ {es : List Expr} {env : PySem.Env} {pos : Pos}, es.all notStar = true → (backTo pos (starEach es env)).all (fun x => !x.1) = true
  | [], _, _, _ => rfl
  | e :: es, env, pos, h => by
    have h' : notStar e = true ∧ es.all notStar = true := by simpa using h
    rw [star_of h'.1]
    have := few_of (env := env) (pos := pos) h'.2
    unfold backTo at this ⊢
    rw [List.map_cons, List.all_cons, this]
    rfl
theorem asgEach_of {e : Expr} {es : List Expr} {env : PySem.Env} (h : notStar e = true) : assignEach (e :: es) env = (false, assign e env) :: assignEach es env := by
  cases e <;> first | rfl | cases h
theorem base_of {o : Expr} {a : Str} {env : PySem.Env} (h : notCall o = true) : attributeBase o a env (eval o env) = eval o env := by
  cases o <;> first | rfl | cases h
theorem set_of {e : Expr} {env : PySem.Env} (h : notSet e = true) : ∀ x, foldedSetIterable e env x = pure x := by
  intro x
  cases e <;> first | rfl | cases h
theorem marks_of {op : CmpOp} {b : Expr} (h : notSet b = true) : behindInMarks op b = false := by
  cases b <;> first | rfl | cases h
theorem lmarks_of {o p : CmpOp} {b c : Expr} (h : notSet c = true) : lastMarks [o, p] [b, c] = false := by
  show behindInMarks p c = false
  exact marks_of h
theorem slice_of {b : Expr} (h : notSlice b = true) : PlainIx b := by
  intro o i
  cases b <;> first | rfl | cases h
theorem tru_of {e : Expr} {env : PySem.Env} (h : plainT e = true) : ∀ whole, isTrue e env whole = (do let v ← whole; standAt e.pos; holding [v] (truthy v)) := by
  intro whole
  cases e <;> first | rfl | cases h
theorem swap_of {e : Expr} {t : Option Expr} {l : Nat} {env : PySem.Env} (h : notComp e = true) : swapsWith e t l env = pure false := by
  cases e <;> first | rfl | cases h
theorem swapS_of {e t : Expr} {l : Nat} {env : PySem.Env} (h : notComp e = true) : swapsWithSole [t] e l env = pure false := swap_of h
theorem swapped_of {e t : Expr} {env : PySem.Env} (h : notTup e = true) : swappedStores [t] e env = pure none := by
  cases t <;> cases e <;> first | rfl | cases h
theorem swapped_of2 {o i e : Expr} {p : Pos} {env : PySem.Env} : swappedStores [.Subscript o i p] e env = pure none := by
  cases e <;> rfl
theorem asgSub_of {o i : Expr} {pos : Pos} {env : PySem.Env} (h : notSlice i = true) : ∀ v, assign (.Subscript o i pos) env v = (do
      let ov ← holding [v] (eval o env)
      let iv ← holding [v, ov] (eval i env)
      standAt pos
      holding [v, ov, iv] (setItem ov iv v)
      release [v, ov, iv] []) := by
  intro v
  cases i <;> first | rfl | cases h
end
end PyI
set_option maxHeartbeats 1000000
/-! PyI15: the text keeps to its reading: expressions. -/
namespace PyI
open PySem PySem.Spec PyProof.Rows L2
section
variable {C : Ct} {cf : CF} {X : Cx} {W : WX} {se : SE} {R : Rec}
theorem snd_args (sn : Snd C cf R) (g : Good C cf X se) (tk : Takes X W) : ∀ {es : List Expr} {ir : E}, cArgs R se es = some ir → PA X es (tA C W (seqA (evL cf ir))) ∧ es.all notStar = true
  | [], ir, h => by cases h; exact ⟨pa_n, rfl⟩
  | e :: es, ir, h => by
    simp only [cArgs] at h
    split at h
    · rename_i hs
      split at h
      · rename_i a r h1 h2
        cases h
        obtain ⟨i1, i2⟩ := snd_args sn g tk h2
        exact ⟨pa_c (pe_frz (sn.e g tk h1)) i1 (star_of hs), by simp [hs, i2]⟩
      · cases h
    · cases h
theorem snd_argsM (sn : Snd C cf R) (g : Good C cf X se) (tk : Takes X W) : ∀ {ms : List Bool} {es : List Expr} {ir : E}, cArgsM R se ms es = some ir → PA X es (tA C W (seqA (evL cf ir))) ∧ es.all notStar = true ∧ (evL cf ir).length = ms.length
  | [], [], ir, h => by cases h; exact ⟨pa_n, rfl, rfl⟩
  | [], _ :: _, ir, h => by cases h
  | _ :: _, [], ir, h => by cases h
  | m :: ms, e :: es, ir, h => by
    simp only [cArgsM] at h
    split at h
    · rename_i hs
      split at h
      · rename_i a r h1 h2
        cases h
        obtain ⟨i1, i2, i3⟩ := snd_argsM sn g tk h2
        refine ⟨?_, by simp [hs, i2], by simp [evL, i3]⟩
        cases m with
        | true => exact pa_c (sn.e g tk h1) i1 (star_of hs)
        | false => exact pa_c (pe_frz (sn.e g tk h1)) i1 (star_of hs)
      · cases h
    · cases h
theorem seqA_len : ∀ {fs : List Fe} {ρ ρ1 : Env} {ops : List Op}, seqA fs ρ = .ok ops ρ1 → ops.length = fs.length
  | [], ρ, ρ1, ops, h => by cases h; rfl
  | f :: fs, ρ, ρ1, ops, h => by
    simp only [seqA] at h
    cases hf : f ρ with
    | bad => rw [hf] at h; cases h
    | exc _ _ _ => rw [hf] at h; cases h
    | ok op ρ2 =>
      rw [hf] at h
      simp only [Res.bind] at h
      cases hr : seqA fs ρ2 with
      | bad => rw [hr] at h; cases h
      | exc _ _ _ => rw [hr] at h; cases h
      | ok ops2 ρ3 => rw [hr] at h; cases h; simp [seqA_len hr]
/-! targets -/
mutual
theorem snd_tg (g : Good C cf X se) : ∀ {n : Nat} {e : Expr} {t : T}, cTg se n e = some t → PG X e (tG C t)
  | 0, _, _, h => by cases h
  | n + 1, e, t, h => by
    simp only [cTg] at h
    split at h
    · rename_i x p
      cases hi : cLoc se x with
      | none => rw [hi] at h; cases h
      | some i =>
        rw [hi] at h; cases h
        obtain ⟨h1, h2, h3⟩ := cLoc_ok g hi
        exact pg_n g.nd h1 h2 h3
    · rename_i es k p
      cases hi : cTgs se n es with
      | none => rw [hi] at h; cases h
      | some ts =>
        rw [hi] at h; cases h
        obtain ⟨h1, h2, h3, h4⟩ := snd_tgs g hi
        exact pg_t g.K g.calm h2 h1 h3 h4
    · cases h
theorem snd_tgs (g : Good C cf X se) : ∀ {n : Nat} {es : List Expr} {ts : List T}, cTgs se n es = some ts → PGs X es (tGs C ts) ∧ es.length = ts.length ∧ (assignEach es X.env).length = es.length ∧ (assignEach es X.env).findIdx? (·.1) = none
  | 0, _, _, h => by cases h
  | n + 1, es, ts, h => by
    simp only [cTgs] at h
    split at h
    · cases h; exact ⟨pgs_n, rfl, rfl, rfl⟩
    · rename_i e es
      split at h
      · rename_i hs
        split at h
        · rename_i t ts h1 h2
          cases h
          obtain ⟨i1, i2, i3, i4⟩ := snd_tgs g h2
          have ha := asgEach_of (es := es) (env := X.env) hs
          refine ⟨pgs_c (snd_tg g h1) i1 (by rw [ha]; rfl), by simp [i2], by rw [ha]; simp [i3], ?_⟩
          rw [ha, List.findIdx?_cons]
          simp [i4]
        · cases h
      · cases h
end
/-! walks -/
theorem snd_iter (sn : Snd C cf R) (g : Good C cf X se) (tk : Takes X W) {tg e : Expr} {ir : E} (h : cIter R se tg e = some ir) : PI X tg e (tI C W (evI cf ir)) := by
  have gen : ∀ {ir : E}, (R.e se e).map .iseq = some ir → PI X tg e (tI C W (evI cf ir)) := fun {ir} h => by
    cases hr : R.e se e with
    | none => rw [hr] at h; cases h
    | some a => rw [hr] at h; cases h; exact pi_seq g.K (sn.e g tk hr)
  unfold cIter at h
  split at h
  · rename_i x p a pos
    split at h
    · rename_i hb
      have hb' : (notStar a = true ∧ glB se.sc x = true) ∧ x = "range" := by simpa using hb
      obtain ⟨⟨b1, b2⟩, rfl⟩ := hb'
      cases hr : R.e se a with
      | none => rw [hr] at h; cases h
      | some f =>
        rw [hr] at h; cases h
        exact pi_rng (glB_gl g.sc b2) (g.blt _ (by decide +kernel)) (sn.e g tk hr) (star_of b1)
    · split at h
      · rename_i hb
        have hb' : ((notStar a = true ∧ glB se.sc x = true) ∧ x = "enumerate") ∧ isTup tg = true := by simpa using hb
        obtain ⟨⟨⟨b1, b2⟩, rfl⟩, b3⟩ := hb'
        cases hr : R.e se a with
        | none => rw [hr] at h; cases h
        | some f =>
          rw [hr] at h; cases h
          cases tg with
          | Tuple es k p => exact pi_en g.K (glB_gl g.sc b2) (g.blt _ (by decide +kernel)) (sn.e g tk hr) (star_of b1)
          | _ => cases b3
      · exact gen h
  · split at h
    · exact gen h
    · cases h
/-! calls -/
theorem biOf_ok {x : Str} {o : Bi} (h : biOf x = some o) : x = biName o ∧ x ∈ bltN := by
  unfold biOf at h
  repeat' (split at h)
  all_goals first | (cases h; rename_i e; subst e; exact ⟨rfl, by decide +kernel⟩) | cases h
theorem tyOf_ok {x : Str} {t : Ty} (h : tyOf x = some t) : x = (t.name : Str) ∧ x ∈ bltN := by
  unfold tyOf at h
  repeat' (split at h)
  all_goals first | (cases h; rename_i e; subst e; exact ⟨rfl, by decide +kernel⟩) | cases h
theorem snd_call (sn : Snd C cf R) (g : Good C cf X se) (tk : Takes X W) {x : Str} {p pos : Pos} {args : List Expr} {ir : E} (h : cCallN R se x args = some ir) : PE X (.Call (.Name x p) args [] pos) (tE C W (evE cf ir)) := by
  unfold cCallN at h
  split at h
  · rename_i hb
    obtain ⟨b1, b2⟩ := Bool.and_eq_true_iff.mp hb
    have hg := glB_gl g.sc b1
    split at h
    · rename_i f ms hf
      split at h
      · cases h
      · cases ha : cArgsM R se ms args with
        | none => rw [ha] at h; cases h
        | some a =>
          rw [ha] at h; cases h
          obtain ⟨i1, i2, i3⟩ := snd_argsM sn g tk ha
          obtain ⟨k, ad, fd, ps, m1, m2, m3, m4, m5⟩ := g.fns x f ms hf
          cases args with
          | nil => rename_i z; exact absurd rfl z
          | cons e es =>
            have i2' : notStar e = true ∧ es.all notStar = true := by simpa using i2
            refine PEimp (pe_callS (E := WE W) m3 m4 hg m1 m2 m5 (fun σ => passAt tk σ) i1 (okName_of b2).1 (star_of i2'.1) (plain_of i2'.2)) ?_
            exact call_imp fun ρ ops ρ1 e1 => by rw [seqA_len e1, i3]
    · split at h
      · rename_i a
        split at h
        · rename_i hs
          split at h
          · rename_i o r h1 h2
            cases h
            obtain ⟨e1, e2⟩ := biOf_ok h1
            subst e1
            exact pe_bi g.K g.calm o hg (g.blt _ e2) (sn.e g tk h2) (star_of hs)
          · cases h
        · cases h
      · rename_i a y py
        split at h
        · rename_i hs
          have hs' : (notStar a = true ∧ x = "isinstance") ∧ glB se.sc y = true := by simpa using hs
          obtain ⟨⟨s1, rfl⟩, s3⟩ := hs'
          split at h
          · rename_i t r h1 h2
            cases h
            obtain ⟨e1, e2⟩ := tyOf_ok h1
            subst e1
            exact pe_ii g.K hg (g.blt _ (by decide +kernel)) (glB_gl g.sc s3) (g.blt _ e2) (sn.e g tk h2) (star_of s1) (plain_of (es := [.Name _ _]) rfl)
          · cases h
        · cases h
      · cases h
  · cases h
theorem mtOf_ok {x : Str} {n : Nat} {m : Mt} (h : mtOf x n = some m) : x = mtName m ∧ n = mtN m := by
  unfold mtOf at h
  repeat' (split at h)
  all_goals first | (cases h; rename_i e; obtain ⟨e1, e2⟩ := e; subst e1; subst e2; exact ⟨rfl, rfl⟩) | cases h
theorem snd_attr (sn : Snd C cf R) (g : Good C cf X se) (tk : Takes X W) {o : Expr} {name : Str} {apos pos : Pos} {args : List Expr} {ir : E} (h : cCallA R se o name args (apos.endLine == pos.line) = some ir) : PE X (.Call (.Attribute o name apos) args [] pos) (tE C W (evE cf ir)) := by
  unfold cCallA at h
  split at h
  · cases h
  · rename_i hl
    have hline : (apos.endLine == pos.line) = true := by simpa using hl
    split at h
    · rename_i hn
      subst hn
      split at h
      · rename_i a
        split at h
        · rename_i hs
          obtain ⟨s1, s2⟩ := Bool.and_eq_true_iff.mp hs
          split at h
          · rename_i f f2 h1 h2
            cases h
            exact pe_jn g.K (sn.e g tk h1) (sn.e g tk h2) (star_of s1) (base_of s2) hline
          · cases h
        · cases h
      · cases h
    · split at h
      · rename_i _ hn
        subst hn
        split at h
        · rename_i k
          split at h
          · rename_i hs
            obtain ⟨s1, s2⟩ := Bool.and_eq_true_iff.mp hs
            split at h
            · rename_i f f2 h1 h2
              cases h
              exact pe_get1 g.un (sn.e g tk h1) (sn.e g tk h2) ⟨base_of s2, by rw [few_of (by simp [s1])]; rfl, hline, by rw [star_of s1]; rfl⟩
            · cases h
          · cases h
        · rename_i k d
          split at h
          · rename_i hs
            have hs' : (notStar k = true ∧ notStar d = true) ∧ notCall o = true := by simpa using hs
            obtain ⟨⟨s1, s2⟩, s3⟩ := hs'
            split at h
            · rename_i f f2 f3 h1 h2 h3
              cases h
              exact pe_get g.un (sn.e g tk h1) (sn.e g tk h2) (sn.e g tk h3) ⟨base_of s3, by rw [few_of (by simp [s1, s2])]; rfl, hline, by rw [star_of s1, star_of s2]; rfl⟩
            · cases h
          · cases h
        · cases h
      · split at h
        · rename_i _ _ hn
          subst hn
          split at h
          · split at h
            · rename_i hs
              cases hr : R.e se o with
              | none => rw [hr] at h; cases h
              | some f => rw [hr] at h; cases h; exact pe_copy (sn.e g tk hr) (base_of hs) hline
            · cases h
          · cases h
        · split at h
          · rename_i x px
            split at h
            · rename_i j m hj hm
              split at h
              · rename_i hlen
                cases ha : cArgs R se args with
                | none => rw [ha] at h; cases h
                | some a =>
                  rw [ha] at h; cases h
                  obtain ⟨i1, i2⟩ := snd_args sn g tk ha
                  obtain ⟨v1, v2, v3, v4⟩ := cVar_ok g hj
                  obtain ⟨e1, e2⟩ := mtOf_ok hm
                  subst e1
                  cases args with
                  | nil =>
                    cases ha
                    exact pe_mt0 e2.symm v1 v2 v3 v4 (base_of rfl) hline
                  | cons e es =>
                    have i2' : notStar e = true ∧ es.all notStar = true := by simpa using i2
                    refine pe_mt (by rw [← e2]; simp) v1 v2 v3 v4 i1 (base_of rfl) ?_ hline (star_of i2'.1) (plain_of i2'.2)
                    rw [few_of i2]
                    simp only [List.length_cons] at hlen
                    simp [keywordEach, backToKw]
                    omega
              · cases h
            · cases h
          · cases h
end
end PyI
set_option maxHeartbeats 1000000
/-! PyI16: the text keeps to its reading: all expressions, tests. -/
namespace PyI
open PySem PySem.Spec PyProof.Rows L2
section
variable {C : Ct} {cf : CF} {X : Cx} {W : WX} {se : SE} {R : Rec}
theorem ownOf_ix {N : List Str} {scope : Scope} : ∀ p ∈ ownOf N scope, N[p.2]? = some p.1 := by
  intro p hp
  unfold ownOf at hp
  obtain ⟨y, _, h⟩ := List.mem_filterMap.mp hp
  split at h
  · cases hi : ixN? N y.1 with
    | none => rw [hi] at h; cases h
    | some i => rw [hi] at h; cases h; exact ixN_get hi
  · cases hi : ixN? N y.1 with
    | none => rw [hi] at h; cases h
    | some i => rw [hi] at h; cases h; exact ixN_get hi
  · cases h
theorem takesB {X : Cx} (scope : Scope) (s : Shared) (H : Hp) (A : Addr) (cl : List (Str × Addr)) (fp : List Addr) : Takes (X.blk s H scope (compEnvC scope cl A X.env) fp) WF := by
  intro u s' h
  obtain ⟨_, _, _, _, _, _, _, _, _, _, _, _, _, _, _, _, w⟩ := h
  exact w
/-- what a comprehension's parts are -/
structure LcOk (C : Ct) (cf : CF) (X : Cx) (W : WX) (se : SE) (scope : Scope) (elt tg iter : Expr) (ifs : List Expr) (t : T) (it c e : E) : Prop where
  sub : ∀ j ∈ slotsT t, j ∈ (ownOf se.N scope).map (·.2)
  hi : PI X tg iter (tI C W (evI cf it))
  ok : BlkOk X.N X.env.scope scope (ownOf se.N scope)
  hg : ∀ (s : Shared) (H : Hp) (A : Addr) (cl : List (Str × Addr)) (fp : List Addr), PG (X.blk s H scope (compEnvC scope cl A X.env) fp) tg (tG C t)
  ht : ∀ (s : Shared) (H : Hp) (A : Addr) (cl : List (Str × Addr)) (fp : List Addr), PTs (X.blk s H scope (compEnvC scope cl A X.env) fp) ifs (tT C WF (evT cf c))
  he : ∀ (s : Shared) (H : Hp) (A : Addr) (cl : List (Str × Addr)) (fp : List Addr), PE (X.blk s H scope (compEnvC scope cl A X.env) fp) elt (tE C WF (evE cf e))
  hs : ∀ x, foldedSetIterable iter X.env x = pure x
theorem cLc_ok (sn : Snd C cf R) (g : Good C cf X se) (tk : Takes X W) {elt tg iter : Expr} {ifs : List Expr} {scope : Scope} {ir : E} (h : cLc R se elt tg iter ifs scope = some ir) :
    ∃ t it c e, ir = .lc ((ownOf se.N scope).map (·.2)) t it c e ∧ LcOk C cf X W se scope elt tg iter ifs t it c e := by
  unfold cLc at h
  split at h
  · rename_i hb
    obtain ⟨b1, b2⟩ := Bool.and_eq_true_iff.mp hb
    split at h
    · rename_i it t c e h1 h2 h3 h4
      split at h
      · rename_i hsub
        cases h
        refine ⟨t, it, c, e, rfl, fun j hj => ?_, snd_iter sn g tk h1, ?_, fun s H A cl fp => snd_tg (g.blk scope s H A cl fp) h2, fun s H A cl fp => ?_, fun s H A cl fp => sn.e (g.blk scope s H A cl fp) (takesB scope s H A cl fp) h4, set_of b2⟩
        · exact List.contains_iff_mem.mp (List.all_eq_true.mp hsub j hj)
        · have := blkOk_by b1
          rw [← g.N, ← g.sc] at this
          exact g.N ▸ this
        · have gb := g.blk scope s H A cl fp
          have tb := takesB (X := X) scope s H A cl fp
          unfold cIfs at h3
          split at h3
          · cases h3; exact pts_n
          · exact pts_one (sn.t gb tb h3)
          · cases h3
      · cases h
    · cases h
  · cases h
theorem snd_lc (sn : Snd C cf R) (g : Good C cf X se) (tk : Takes X W) {elt tg iter : Expr} {ifs : List Expr} {scope : Scope} {pos : Pos} {ir : E} (h : cLc R se elt tg iter ifs scope = some ir) :
    PE X (.ListComp elt [⟨tg, iter, ifs, 0⟩] scope pos) (tE C W (evE cf ir)) := by
  obtain ⟨t, it, c, e, rfl, k⟩ := cLc_ok sn g tk h
  exact pe_lcs k.sub g.calm g.nd k.hi k.ok k.hg k.ht k.he k.hs
theorem cDc_ok (sn : Snd C cf R) (g : Good C cf X se) (tk : Takes X W) {kx elt tg iter : Expr} {ifs : List Expr} {scope : Scope} {ir : E} (h : cDc R se kx elt tg iter ifs scope = some ir) :
    ∃ t it c k e, ir = .dc ((ownOf se.N scope).map (·.2)) t it c k e ∧ LcOk C cf X W se scope elt tg iter ifs t it c e ∧ ∀ (s : Shared) (H : Hp) (A : Addr) (cl : List (Str × Addr)) (fp : List Addr), PE (X.blk s H scope (compEnvC scope cl A X.env) fp) kx (tE C WF (evE cf k)) := by
  unfold cDc at h
  split at h
  · rename_i hb
    obtain ⟨b1, b2⟩ := Bool.and_eq_true_iff.mp hb
    split at h
    · rename_i it t c k e h1 h2 h3 h5 h4
      split at h
      · rename_i hsub
        cases h
        refine ⟨t, it, c, k, e, rfl, ⟨fun j hj => ?_, snd_iter sn g tk h1, ?_, fun s H A cl fp => snd_tg (g.blk scope s H A cl fp) h2, fun s H A cl fp => ?_, fun s H A cl fp => sn.e (g.blk scope s H A cl fp) (takesB scope s H A cl fp) h4, set_of b2⟩, fun s H A cl fp => sn.e (g.blk scope s H A cl fp) (takesB scope s H A cl fp) h5⟩
        · exact List.contains_iff_mem.mp (List.all_eq_true.mp hsub j hj)
        · have := blkOk_by b1
          rw [← g.N, ← g.sc] at this
          exact g.N ▸ this
        · have gb := g.blk scope s H A cl fp
          have tb := takesB (X := X) scope s H A cl fp
          unfold cIfs at h3
          split at h3
          · cases h3; exact pts_n
          · exact pts_one (sn.t gb tb h3)
          · cases h3
      · cases h
    · cases h
  · cases h
theorem snd_dc (sn : Snd C cf R) (g : Good C cf X se) (tk : Takes X W) {kx elt tg iter : Expr} {ifs : List Expr} {scope : Scope} {pos : Pos} {ir : E} (h : cDc R se kx elt tg iter ifs scope = some ir) :
    PE X (.DictComp kx elt [⟨tg, iter, ifs, 0⟩] scope pos) (tE C W (evE cf ir)) := by
  obtain ⟨t, it, c, k, e, rfl, q, q2⟩ := cDc_ok sn g tk h
  exact pe_dcs q.sub g.calm g.nd q.hi q.ok q.hg q.ht q2 q.he q.hs
theorem snd_bool (sn : Snd C cf R) (g : Good C cf X se) (tk : Takes X W) {pos : Pos} {o : BoolOp} : ∀ {vs : List Expr} {ir : E}, cBool R se (isAndB o) vs = some ir → PE X (.BoolOp o vs pos) (tE C W (evE cf ir))
  | [], _, h => by cases h
  | [a], ir, h => pe_one (sn.e g tk h)
  | a :: b :: r, ir, h => by
    simp only [cBool] at h
    split at h
    · rename_i f f2 h1 h2
      have ih := snd_bool sn g tk (pos := pos) (o := o) h2
      cases o with
      | And => cases h; exact pe_an (sn.e g tk h1) ih
      | Or => cases h; exact pe_o (sn.e g tk h1) ih
    · cases h
theorem snd_boolT (sn : Snd C cf R) (g : Good C cf X se) (tk : Takes X W) {pos : Pos} {o : BoolOp} : ∀ {vs : List Expr} {ir : E}, cBoolT R se (isAndB o) vs = some ir → PW X (.BoolOp o vs pos) (tT C W (evT cf ir))
  | [], _, h => by cases h
  | [a], ir, h => by
    cases o with
    | And => exact pw_and1 (sn.t g tk h)
    | Or => exact pw_or1 (sn.t g tk h)
  | a :: b :: r, ir, h => by
    simp only [cBoolT] at h
    split at h
    · rename_i f f2 h1 h2
      have ih := snd_boolT sn g tk (pos := pos) (o := o) h2
      cases o with
      | And => cases h; exact pw_an (sn.t g tk h1) ih
      | Or => cases h; exact pw_o (sn.t g tk h1) ih
    · cases h
theorem copOf_ok {o : CmpOp} {o' : Cop} (h : copOf o = some o') : o = cmpOf o' := by
  cases o <;> (cases h; rfl)
theorem bopOf_ok {o : Operator} {o' : Bop} (h : bopOf o = some o') : o = oprOf o' := by
  cases o <;> first | (cases h; rfl) | cases h
theorem snd_cmp (sn : Snd C cf R) (g : Good C cf X se) (tk : Takes X W) {a : Expr} {ops : List CmpOp} {bs : List Expr} {pos : Pos} {ir : E} (h : cCmp R se a ops bs = some ir) :
    PE X (.Compare a ops bs pos) (tE C W (evE cf ir)) ∧ PT X (.Compare a ops bs pos) (tT C W (evT cf (.tv ir))) := by
  unfold cCmp at h
  split at h
  · rename_i o b
    split at h
    · rename_i hs
      split at h
      · rename_i o' f f2 h1 h2 h3
        cases h
        have := copOf_ok h1
        subst this
        exact ⟨pe_cp g.K g.un o' (sn.e g tk h2) (sn.e g tk h3) (marks_of hs), pt_cp g.K g.un o' (sn.e g tk h2) (sn.e g tk h3) (marks_of hs)⟩
      · cases h
    · cases h
  · rename_i o p b c
    split at h
    · rename_i hs
      split at h
      · rename_i o' p' f f2 f3 h1 h2 h3 h4 h5
        cases h
        have := copOf_ok h1
        subst this
        have := copOf_ok h2
        subst this
        exact ⟨pe_ch g.K g.un o' p' (sn.e g tk h3) (sn.e g tk h4) (sn.e g tk h5) (lmarks_of hs), pt_ch g.K g.un o' p' (sn.e g tk h3) (sn.e g tk h4) (sn.e g tk h5) (lmarks_of hs)⟩
      · cases h
    · cases h
  · cases h
theorem snd_part (sn : Snd C cf R) (g : Good C cf X se) (tk : Takes X W) {o : Option Expr} {ir : E} (h : cPart R se o = some ir) : PO X o (tO C W (partE (evP cf ir))) := by
  cases o with
  | none => cases h; exact po_n
  | some e =>
    simp only [cPart] at h
    cases hr : R.e se e with
    | none => rw [hr] at h; cases h
    | some a => rw [hr] at h; cases h; exact po_s (sn.e g tk hr)
theorem snd_sub (sn : Snd C cf R) (g : Good C cf X se) (tk : Takes X W) {a i : Expr} {pos : Pos} {ir : E} (h : cSub R se a i = some ir) : PE X (.Subscript a i pos) (tE C W (evE cf ir)) := by
  unfold cSub at h
  split at h
  · split at h
    · rename_i f l u h1 h2 h3
      cases h
      exact pe_sl g.K (sn.e g tk h1) (snd_part sn g tk h2) (snd_part sn g tk h3)
    · cases h
  · split at h
    · rename_i hs
      split at h
      · rename_i f f2 h1 h2
        cases h
        exact pe_sub2 g.K g.un (sn.e g tk h1) (sn.e g tk h2) (slice_of hs)
      · cases h
    · cases h
theorem snd_step (sn : Snd C cf R) : Snd C cf ⟨stepE R, stepT R⟩ where
  s := fun {X W se elt gs scope lpos i x py spos ir} g tk v1 hl hsw h => by
    have h : stepE R se (.ListComp elt gs scope lpos) = some ir := h
    unfold stepE at h
    split at h
    all_goals first | (rename_i heq; cases heq; done) | cases h | skip
    rename_i heq
    cases heq
    obtain ⟨t, it, c, e, rfl, k⟩ := cLc_ok sn g tk h
    exact ps_setLcs k.sub g.calm g.nd v1 hl hsw k.hi k.ok k.hg k.ht k.he k.hs
  sd := fun {X W se kx elt gs scope lpos i x py spos ir} g tk v1 hl hsw h => by
    have h : stepE R se (.DictComp kx elt gs scope lpos) = some ir := h
    unfold stepE at h
    split at h
    all_goals first | (rename_i heq; cases heq; done) | cases h | skip
    rename_i heq
    cases heq
    obtain ⟨t, it, c, k, e, rfl, q, q2⟩ := cDc_ok sn g tk h
    exact ps_setDcs q.sub g.calm g.nd v1 hl hsw q.hi q.ok q.hg q.ht q2 q.he q.hs
  e := fun {X W se e ir} g tk h => by
    have h : stepE R se e = some ir := h
    unfold stepE at h
    split at h
    · exact snd_name g h
    · exact snd_const h
    · unfold cBin at h
      split at h
      · rename_i o' f f2 h1 h2 h3
        cases h
        have := bopOf_ok h1
        subst this
        exact pe_bin g.K o' (sn.e g tk h2) (sn.e g tk h3)
      · cases h
    · rename_i o a p _
      unfold cUn at h
      split at h
      · cases hr : R.e se a with
        | none => rw [hr] at h; cases h
        | some f => rw [hr] at h; cases h; exact pe_neg (sn.e g tk hr)
      · cases hr : R.e se a with
        | none => rw [hr] at h; cases h
        | some f => rw [hr] at h; cases h; exact pe_no g.K (sn.e g tk hr)
      · cases h
    · exact (snd_cmp sn g tk h).1
    · exact snd_bool sn g tk h
    · unfold cIte at h
      split at h
      · rename_i t f f2 h1 h2 h3
        cases h
        exact pe_if (sn.t g tk h1) (sn.e g tk h2) (sn.e g tk h3)
      · cases h
    · rename_i es k p _
      cases ha : cArgs R se es with
      | none => rw [ha] at h; cases h
      | some a => rw [ha] at h; cases h; exact pe_t (snd_args sn g tk ha).1
    · rename_i es p _
      cases ha : cArgs R se es with
      | none => rw [ha] at h; cases h
      | some a => rw [ha] at h; cases h; exact pe_l (snd_args sn g tk ha).1
    · cases h; exact pe_dn
    · exact snd_sub sn g tk h
    · exact snd_call sn g tk h
    · exact snd_attr sn g tk h
    · exact snd_lc sn g tk h
    · exact snd_dc sn g tk h
    · cases h
  t := fun {X W se e ir} g tk h => by
    have h : stepT R se e = some ir := h
    unfold stepT at h
    split at h
    · rename_i a ops bs p _
      cases hc : cCmp R se a ops bs with
      | none => rw [hc] at h; cases h
      | some f => rw [hc] at h; cases h; exact (snd_cmp sn g tk hc).2
    · rename_i a p _
      cases hr : R.t se a with
      | none => rw [hr] at h; cases h
      | some f => rw [hr] at h; cases h; exact pt_no (sn.t g tk hr)
    · exact (snd_boolT sn g tk h).pt
    · split at h
      · rename_i hp
        cases hr : R.e se e with
        | none => rw [hr] at h; cases h
        | some f => rw [hr] at h; cases h; exact pt_tru g.K (sn.e g tk hr) (tru_of hp)
      · cases h
theorem snd_all : ∀ n, Snd C cf (recN n)
  | 0 => ⟨fun {X W se e ir} _ _ h => (by cases h), fun {X W se e ir} _ _ h => (by cases h), fun {X W se elt gs scope lpos i x py spos ir} _ _ _ _ _ h => (by cases h), fun {X W se kx elt gs scope lpos i x py spos ir} _ _ _ _ _ h => (by cases h)⟩
  | n + 1 => snd_step (snd_all n)

/-! ### statements -/
theorem sw_eq {elt : Expr} {gs : List Comprehension} {scope : Scope} {pos py : Pos} {y : Str} {l : Nat} {env : PySem.Env} (hk : env.scope.kind = .function) :
    swapsWith (.ListComp elt gs scope pos) (some (.Name y py)) l env = pure (env.scope.names.lookup y == some .local && (py.line == pos.line) && !(scope.names.any fun (n, k) => n == y && (k == .local || k == .cell))) := by
  have hb : env.blockKind = .function := by unfold PySem.Env.blockKind; rw [hk]; rfl
  unfold swapsWith
  simp only [hb]
  rfl
theorem sw_eqD {kx vx : Expr} {gs : List Comprehension} {scope : Scope} {pos py : Pos} {y : Str} {l : Nat} {env : PySem.Env} (hk : env.scope.kind = .function) :
    swapsWith (.DictComp kx vx gs scope pos) (some (.Name y py)) l env = pure (env.scope.names.lookup y == some .local && (py.line == pos.line) && !(scope.names.any fun (n, k) => n == y && (k == .local || k == .cell))) := by
  have hb : env.blockKind = .function := by unfold PySem.Env.blockKind; rw [hk]; rfl
  unfold swapsWith
  simp only [hb]
  rfl
theorem snd_assign (sn : Snd C cf R) (g : Good C cf X se) (tk : Takes X W) {tg e : Expr} {pos : Pos} {s : S} (h : cAssign R se pos.line tg e = some s) : PS X (.Assign [tg] e pos) (tS C W (evS cf s)) := by
  unfold cAssign at h
  split at h
  · rename_i x py
    split at h
    · rename_i i f hi hf
      obtain ⟨v1, v2, v3⟩ := cLoc_ok g hi
      have plain : notComp e = true → PS X (.Assign [.Name x py] e pos) (tS C W (evS cf (.set i f))) := fun hn => ps_sets g.nd v1 v2 (sn.e g tk hf) (swap_of hn) v3
      split at h
      · rename_i elt gs scope lpos
        split at h
        · rename_i hb
          cases h
          have hk : X.env.scope.kind = .function := by rw [g.sc]; exact isFn_of hb
          have hw := sw_eq (elt := elt) (gs := gs) (scope := scope) (pos := lpos) (py := py) (y := x) (l := pos.line) hk
          cases hz : (X.env.scope.names.lookup x == some .local && (py.line == lpos.line) && !(scope.names.any fun (n, k) => n == x && (k == .local || k == .cell))) with
          | true =>
            rw [hz] at hw
            have hl : X.env.scope.names.lookup x = some .local := by
              simp only [Bool.and_eq_true] at hz
              exact eq_of_beq hz.1.1
            exact sn.s g tk v1 hl hw hf
          | false =>
            rw [hz] at hw
            exact ps_sets g.nd v1 v2 (sn.e g tk hf) hw v3
        · cases h
      · rename_i kx elt gs scope lpos
        split at h
        · rename_i hb
          cases h
          have hk : X.env.scope.kind = .function := by rw [g.sc]; exact isFn_of hb
          have hw := sw_eqD (kx := kx) (vx := elt) (gs := gs) (scope := scope) (pos := lpos) (py := py) (y := x) (l := pos.line) hk
          cases hz : (X.env.scope.names.lookup x == some .local && (py.line == lpos.line) && !(scope.names.any fun (n, k) => n == x && (k == .local || k == .cell))) with
          | true =>
            rw [hz] at hw
            have hl : X.env.scope.names.lookup x = some .local := by
              simp only [Bool.and_eq_true] at hz
              exact eq_of_beq hz.1.1
            exact sn.sd g tk v1 hl hw hf
          | false =>
            rw [hz] at hw
            exact ps_sets g.nd v1 v2 (sn.e g tk hf) hw v3
        · cases h
      · split at h
        · rename_i hn
          cases h
          exact plain hn
        · cases h
    · cases h
  · rename_i es k p
    split at h
    · rename_i hb
      obtain ⟨b1, b2⟩ := Bool.and_eq_true_iff.mp hb
      split at h
      · rename_i t f h1 h2
        cases h
        exact ps_asgT (sn.e g tk h2) (snd_tg g h1) (swapS_of b1) (swapped_of b2) (by rw [asgEach_of rfl]; rfl)
      · cases h
    · cases h
  · rename_i x px i ip
    split at h
    · rename_i hb
      obtain ⟨b1, b2⟩ := Bool.and_eq_true_iff.mp hb
      split at h
      · rename_i j f f2 h1 h2 h3
        cases h
        obtain ⟨v1, v2, v3, v4⟩ := cVar_ok g h1
        exact ps_store g.un v1 v2 v3 v4 (sn.e g tk h2) (sn.e g tk h3) (asgSub_of b2) (swapS_of b1) swapped_of2 (by rw [asgEach_of rfl]; rfl)
      · cases h
    · cases h
  · cases h

/-- all statements, their blocks -/
structure SndS (C : Ct) (cf : CF) (S1 : SE → Stmt → Option S) : Prop where
  s : ∀ {X : Cx} {W : WX} {se : SE} {st : Stmt} {ir : S}, Good C cf X se → Takes X W → PassesOwn (model X.prog X.w) X.A X.env X.xe → S1 se st = some ir → PS X st (tS C W (evS cf ir))
theorem seq_nx {p : Fs} : seqS p nextS = p := by
  funext ρ
  unfold seqS nextS
  cases p ρ <;> rfl
theorem snd_blk {S1 : SE → Stmt → Option S} (sn : SndS C cf S1) (g : Good C cf X se) (tk : Takes X W) (po : PassesOwn (model X.prog X.w) X.A X.env X.xe) : ∀ {l : List Stmt} {ir : S}, cBlk S1 se l = some ir → PSs X l (tS C W (evS cf ir))
  | [], ir, h => by cases h; exact pss_n
  | s :: r, ir, h => by
    simp only [cBlk] at h
    split at h
    · rename_i a b h1 h2
      have i1 := sn.s g tk po h1
      have i2 := snd_blk sn g tk po h2
      have i3 := pss_c i1 i2
      cases r with
      | nil =>
        cases h
        cases h2
        have : evS cf .nx = nextS := rfl
        rw [this, seq_nx] at i3
        exact i3
      | cons s2 r2 => cases h; exact i3
    · cases h
theorem snd_stmt (sn : Snd C cf R) {B : SE → List Stmt → Option S} (hb : ∀ {X : Cx} {W : WX} {se : SE} {l : List Stmt} {ir : S}, Good C cf X se → Takes X W → PassesOwn (model X.prog X.w) X.A X.env X.xe → B se l = some ir → PSs X l (tS C W (evS cf ir))) : SndS C cf (cStep R B) where
  s := fun {X W se st ir} g tk po h => by
    unfold cStep at h
    split at h
    · rename_i _ e p
      cases hr : R.e se e with
      | none => rw [hr] at h; cases h
      | some f => rw [hr] at h; cases h; exact ps_rt (sn.e g tk hr)
    · cases h; exact ps_rtN
    · exact snd_assign sn g tk h
    · split at h
      · rename_i i o' f h1 h2 h3
        cases h
        obtain ⟨v1, v2, v3⟩ := cLoc_ok g h1
        have := bopOf_ok h2
        subst this
        exact ps_augs g.nd v1 v2 (sn.e g tk h3) v3
      · cases h
    · split at h
      · rename_i t p q h1 h2 h3
        cases h
        exact ps_ifs (sn.t g tk h1) (hb g tk po h2) (hb g tk po h3)
      · cases h
    · split at h
      · rename_i hs
        split at h
        · rename_i it t p h1 h2 h3
          cases h
          exact ps_fors po g.calm (snd_iter sn g tk h1) (snd_tg g h2) (hb g tk po h3) (set_of hs)
        · cases h
      · cases h
    · split at h
      · rename_i t p h1 h2
        cases h
        exact ps_whiles 100000 po (sn.t g tk h1) (hb g tk po h2)
      · cases h
    · cases h; exact ps_nx L2.ps_doc
    · split at h
      · rename_i hn
        rename_i _ e p _
        cases hr : R.e se e with
        | none => rw [hr] at h; cases h
        | some f => rw [hr] at h; cases h; exact ps_drop (sn.e g tk hr) (swap_of hn)
      · cases h
    · cases h; exact ps_nx L2.ps_pass
    · cases h; exact ps_br
    · cases h; exact ps_cont
    · cases h
theorem snd_stmtN (sn : Snd C cf R) : ∀ n, SndS C cf (stmtN R n)
  | 0 => ⟨fun {X W se st ir} _ _ _ h => (by cases h)⟩
  | n + 1 => ⟨fun {X W se st ir} g tk po h => (snd_stmt sn (B := fun se l => cBlk (stmtN R n) se l) (fun g tk po h => snd_blk (snd_stmtN sn n) g tk po h)).s g tk po h⟩
/-- a block of the text -/
theorem snd_block {n : Nat} (g : Good C cf X se) (tk : Takes X W) (po : PassesOwn (model X.prog X.w) X.A X.env X.xe) {l : List Stmt} {ir : S} (h : blockN n se l = some ir) : PSs X l (tS C W (evS cf ir)) :=
  snd_blk (snd_stmtN (snd_all n) n) g tk po h
end
end PyI
set_option maxHeartbeats 1000000
/-! PyI17: the defs of the text keep what the reading says. -/
namespace PyI
open PySem PySem.Spec PyProof.Rows L2
/-! ### parameters -/
theorem fm_congr {α β : Type} {f g : α → Option β} : ∀ {l : List α}, (∀ x ∈ l, f x = g x) → l.filterMap f = l.filterMap g
  | [], _ => rfl
  | a :: l, h => by
    rw [List.filterMap_cons, List.filterMap_cons, h a (by simp), fm_congr (l := l) fun x hx => h x (by simp [hx])]
theorem lookup_zip {α : Type} : ∀ {ps : List Str} {us : List α}, ps.Nodup → us.length = ps.length → ps.filterMap (fun n => ((ps.zip us).lookup n).map fun x => (n, x)) = ps.zip us ∧ ∀ n ∈ ps, ((ps.zip us).lookup n).isSome = true
  | [], [], _, _ => ⟨rfl, fun n h => by cases h⟩
  | [], _ :: _, _, h => by cases h
  | _ :: _, [], _, h => by cases h
  | p :: ps, u :: us, nd, h => by
    have nd' := List.nodup_cons.mp nd
    obtain ⟨i1, i2⟩ := lookup_zip (ps := ps) (us := us) nd'.2 (by simpa using h)
    have hp : ((p :: ps).zip (u :: us)).lookup p = some u := by simp
    have hr : ∀ n ∈ ps, ((p :: ps).zip (u :: us)).lookup n = (ps.zip us).lookup n := fun n hn => by
      have ne : n ≠ p := fun e => nd'.1 (by rw [← e]; exact hn)
      simp only [List.zip_cons_cons, List.lookup_cons]
      have : (n == p) = false := by simpa using ne
      rw [this]
    refine ⟨?_, fun n hn => ?_⟩
    · rw [List.filterMap_cons, hp]
      simp only [Option.map_some, List.zip_cons_cons]
      congr 1
      refine Eq.trans (fm_congr fun n hn => ?_) i1
      have := hr n hn
      simp only [List.zip_cons_cons] at this
      rw [this]
    · rcases List.mem_cons.mp hn with e | e
      · rw [e, hp]; rfl
      · rw [hr n e]; exact i2 n e
theorem bind_plain {x qual : Str} {args : List PySem.Arg} {kd : List (Option Expr)} {body : List Stmt} {scope : Scope} {kV doc pm : Value} {an : Option Addr} {cdv ct : Value} {us : List Value} (nd : (args.map (·.arg)).Nodup) (hl : us.length = args.length) :
    bindArgs (PySem.W.fnOf x qual ⟨[], args, none, [], kd, none, []⟩ body scope .none kV doc pm an cdv ct) ⟨us, []⟩ = pure ((args.map (·.arg)).zip us) := by
  unfold bindArgs PySem.W.fnOf
  have h1 : seqItems? Value.none = pure none := rfl
  obtain ⟨i1, i2⟩ := lookup_zip (ps := args.map (·.arg)) (us := us) nd (by simpa using hl)
  have h2 : ¬ args.length < us.length := by omega
  have h3 : (List.filter (fun n => (List.lookup n ((List.map (fun x => x.arg) args).zip us)).isNone) (List.map (fun x => x.arg) args)) = [] := by
    rw [List.filter_eq_nil_iff]
    intro n hn
    have := i2 n hn
    cases hq : List.lookup n ((List.map (fun x => x.arg) args).zip us) with
    | none => rw [hq] at this; cases this
    | some u => simp
  have h4 : List.take args.length (List.map (fun x => x.arg) args) = List.map (fun x => x.arg) args := by rw [List.take_of_length_le]; simp
  have h5 : List.filterMap ((fun n => Option.map (fun x => (n, x)) (List.lookup n ((List.map (fun x => x.arg) args).zip us))) ∘ fun x => x.arg) args = (List.map (fun x => x.arg) args).zip us := by
    rw [← List.filterMap_map]; exact i1
  simp [h1, h2, h3, h4, h5]
/-- plain parameters -/
def parsB (p : Arguments) (ps : List Str) : Bool := p.posonlyargs.isEmpty && p.vararg.isNone && p.kwonlyargs.isEmpty && p.kwarg.isNone && p.defaults.isEmpty && decide (p.args.map (·.arg) = ps) && decide ps.Nodup
theorem binds_of {K : PySem.W.Frag} {x qual : Str} {params : Arguments} {body : List Stmt} {scope : Scope} {f : Addr} {fd : FuncData} {ps : List Str} (F : FunD K x qual params body scope [] [] f fd) (h : parsB params ps = true) : Binds K fd ps [] := by
  unfold parsB at h
  simp only [Bool.and_eq_true, List.isEmpty_iff, Option.isNone_iff_eq_none, decide_eq_true_eq] at h
  obtain ⟨⟨⟨⟨⟨⟨h1, h2⟩, h3⟩, h4⟩, h5⟩, h6⟩, h7⟩ := h
  obtain ⟨a1, a2, a3, a4, a5, a6, a7⟩ := params
  simp only at h1 h2 h3 h4 h5 h6
  subst h1 h2 h3 h4 h5
  refine F.bindsN fun kV doc pm an cdv ct us hl => ?_
  rw [bind_plain (by rw [h6]; exact h7) (by rw [hl, ← h6]; simp), h6]
theorem bindsA_of {K : PySem.W.Frag} {x qual : Str} {params : Arguments} {body : List Stmt} {scope : Scope} {f : Addr} {fd : FuncData} {y : Str} (F : FunD K x qual params body scope [] [] f fd) (h : parsB params [y] = true) (s : Shared) (u : Value) : BindsTo s fd ⟨[u], []⟩ [(y, u)] := by
  unfold parsB at h
  simp only [Bool.and_eq_true, List.isEmpty_iff, Option.isNone_iff_eq_none, decide_eq_true_eq] at h
  obtain ⟨⟨⟨⟨⟨⟨h1, h2⟩, h3⟩, h4⟩, h5⟩, h6⟩, h7⟩ := h
  obtain ⟨a1, a2, a3, a4, a5, a6, a7⟩ := params
  simp only at h1 h2 h3 h4 h5 h6
  subst h1 h2 h3 h4 h5
  refine FunD.bindsA (ps := [y]) F (fun kV doc pm an cdv ct us hl => ?_) s [u] rfl
  rw [bind_plain (by rw [h6]; exact h7) (by rw [hl, ← h6]; simp), h6]
def scopeB (N ps : List Str) (sc : Scope) : Bool := isFn sc && !sc.isCoroutine && !sc.isGenerator && decide N.Nodup && decide (N.take ps.length = ps) && (ps.all fun x => locB sc x) && (sc.names.all fun y => match y.2 with | .free => false | _ => true)
theorem scope_of {N ps : List Str} {sc : Scope} (h : scopeB N ps sc = true) : FnScope N ps sc := by
  unfold scopeB at h
  simp only [Bool.and_eq_true, decide_eq_true_eq, Bool.not_eq_true', List.all_eq_true] at h
  obtain ⟨⟨⟨⟨⟨⟨h1, h2⟩, h3⟩, h4⟩, h5⟩, h6⟩, h7⟩ := h
  exact ⟨isFn_of h1, h2, h3, h4, h5, fun x hx => locB_loc (h6 x hx), fun y hy e => by have := h7 y hy; rw [e] at this; cases this⟩

/-! ### the entry, the end -/
section
variable {C : Ct}
theorem args_slots {F H : Hp} {ar : List Arg} {vs : List V} {n : Nat} (le : Le F H) (ok : ArgsOk C F H ar vs) (ap : Apart ar vs) (N : List Str) (hn : N.length = n) :
    SR C ⟨F, H, start N vs, ar.map slotOf ++ List.replicate (n - ar.length) .no⟩ := by
  have len := ok.length
  have at_ : ∀ (i : Nat) (sl : Slot), (ar.map slotOf ++ List.replicate (n - ar.length) Slot.no)[i]? = some sl → sl ≠ .no → ∃ a v, ar[i]? = some a ∧ slotOf a = sl ∧ vs[i]? = some v ∧ ArgOk C F H a v ∧ (start N vs)[i]? = some (some v) := fun i sl h ne => by
    by_cases hi : i < ar.length
    · rw [List.getElem?_append_left (by simpa using hi), List.getElem?_map, List.getElem?_eq_getElem hi] at h
      simp only [Option.map_some, Option.some.injEq] at h
      obtain ⟨v, h1, h2⟩ := ok.get (List.getElem?_eq_getElem hi)
      refine ⟨_, v, List.getElem?_eq_getElem hi, h, h1, h2, ?_⟩
      unfold L2.start
      rw [List.getElem?_append_left (by simp; omega), List.getElem?_map, h1]; rfl
    · rw [List.getElem?_append_right (by simp; omega)] at h
      have := List.mem_of_getElem? h
      exact absurd (List.eq_of_mem_replicate this) ne
  refine ⟨le, ?_, fun i d h => ?_, fun i k d h => ?_, fun i j k k' d e a h1 h2 h3 h4 => ?_⟩
  · show (start N vs).length = _
    unfold L2.start
    simp only [List.length_append, List.length_map, List.length_replicate]
    rw [len, hn]
  · obtain ⟨a, v, h1, h2, h3, h4, h5⟩ := at_ i _ h (fun z => nomatch z)
    cases a with
    | v d' => cases h2; exact ⟨v, h5, h4⟩
    | r d' => cases h2
  · obtain ⟨a, v, h1, h2, h3, h4, h5⟩ := at_ i _ h (fun z => nomatch z)
    cases a with
    | v d' => cases h2
    | r d' => cases h2; obtain ⟨x, rfl, q1, q2⟩ := h4; exact ⟨x, h5, q1, q2⟩
  · obtain ⟨a1, v1, p1, p2, p3, p4, p5⟩ := at_ i _ h1 (fun z => nomatch z)
    obtain ⟨a2, v2, q1, q2, q3, q4, q5⟩ := at_ j _ h2 (fun z => nomatch z)
    have h3' : (start N vs)[i]? = some (some (.ref a)) := h3
    have h4' : (start N vs)[j]? = some (some (.ref a)) := h4
    rw [h3'] at p5; cases p5
    rw [h4'] at q5; cases q5
    cases a1 with
    | v d' => cases p2
    | r d' =>
      cases p2
      cases a2 with
      | v d' => cases q2
      | r d' => cases q2; exact ap i j d e a p1 q1 p3 q3
/-- from the entry to the end -/
theorem args_end {F H F' H' : Hp} {σ' : L2.St} {ρ' : Env} {ar : List Arg} {vs : List V} {n : Nat} (ok : ArgsOk C F H ar vs) (N : List Str) (g : Go C ⟨F, H, start N vs, ar.map slotOf ++ List.replicate (n - ar.length) .no⟩ ⟨F', H', σ', ρ'⟩) :
    CGo C F H F' H' ar vs (outsOf ar.length ρ') ∧ ∀ x, Ow ⟨F, H, start N vs, ar.map slotOf ++ List.replicate (n - ar.length) .no⟩ x → Ow ⟨F', H', σ', ρ'⟩ x := by
  have len := ok.length
  have at_ : ∀ (i : Nat) (k : Bool) (d : D), (ar.map slotOf ++ List.replicate (n - ar.length) Slot.no)[i]? = some (.own k d) → k = true ∧ i < ar.length ∧ ar[i]? = some (.r d) ∧ (start N vs)[i]? = (vs[i]?).map some := fun i k d h => by
    by_cases hi : i < ar.length
    · rw [List.getElem?_append_left (by simpa using hi), List.getElem?_map, List.getElem?_eq_getElem hi] at h
      simp only [Option.map_some, Option.some.injEq] at h
      rw [List.getElem?_eq_getElem hi]
      cases ha : ar[i] with
      | v d' => rw [ha] at h; cases h
      | r d' =>
        rw [ha] at h; cases h
        refine ⟨rfl, hi, rfl, ?_⟩
        unfold L2.start
        rw [List.getElem?_append_left (by simp; omega), List.getElem?_map]
    · rw [List.getElem?_append_right (by simp; omega)] at h
      have := List.mem_of_getElem? h
      cases (List.eq_of_mem_replicate this)
  have up : ∀ x, Ow ⟨F, H, start N vs, ar.map slotOf ++ List.replicate (n - ar.length) .no⟩ x → Ow ⟨F', H', σ', ρ'⟩ x := fun x ⟨i, k, d, h1, h2⟩ => by
    obtain ⟨rfl, _, _, _⟩ := at_ i k d h1
    obtain ⟨⟨d', h3⟩, h4⟩ := g.kt i d h1
    exact ⟨i, true, d', h3, h4.trans h2⟩
  have own : ∀ (i : Nat) (d : D) (a : Addr), ar[i]? = some (Arg.r d) → vs[i]? = some (.ref a) → (ar.map slotOf ++ List.replicate (n - ar.length) Slot.no)[i]? = some (.own true d) ∧ (start N vs)[i]? = some (some (.ref a)) := fun i d a h1 h2 => by
    have hi : i < ar.length := (List.getElem?_eq_some_iff.mp h1).1
    refine ⟨?_, ?_⟩
    · rw [List.getElem?_append_left (by simpa using hi), List.getElem?_map, h1]; rfl
    · unfold L2.start
      rw [List.getElem?_append_left (by simp; omega), List.getElem?_map, h2]; rfl
  refine ⟨⟨g.le, g.sr.le, fun x h => ?_, fun x o h1 h2 => ?_, g.nv, fun i d a h1 h2 => ?_⟩, up⟩
  · rcases g.fr x h with q | q | q
    · exact .inl q
    · exact .inr q
    · exact absurd (g.sr.owF (up x q)).1 h
  · refine g.kp x o h1 fun ⟨i, k, d, q1, q2⟩ => ?_
    obtain ⟨rfl, hi, q3, q4⟩ := at_ i k d q1
    have q2' : (start N vs)[i]? = some (some (.ref x)) := q2
    rw [q4] at q2'
    refine h2 i d q3 ?_
    cases hv : vs[i]? with
    | none => rw [hv] at q2'; cases q2'
    | some v => rw [hv] at q2'; simp at q2'; rw [q2']
  · obtain ⟨q1, q2⟩ := own i d a h1 h2
    obtain ⟨⟨d', h3⟩, h4⟩ := g.kt i d q1
    obtain ⟨a', e1, e2, e3⟩ := g.sr.own i true d' h3
    have h4' : σ'[i]? = some (some (.ref a)) := h4.trans q2
    have e1' : σ'[i]? = some (some (.ref a')) := e1
    rw [h4'] at e1'; cases e1'
    refine ⟨d', ?_, e2, e3⟩
    have hi : i < ar.length := (List.getElem?_eq_some_iff.mp h1).1
    have h3' : ρ'[i]? = some (.own true d') := h3
    unfold outsOf
    rw [List.getElem?_map, List.getElem?_take_of_lt hi, h3']; rfl
end

/-! ### all defs of a text -/
/-- what the module holds of a def -/
structure DefOk (C : Ct) (mg : Str → Option Value) (T : List (Str × Nat × List Bool)) (cs : List (Str × D)) (G : List FnI) (x : Str) (f : Nat) (ms : List Bool) (a : Addr) (fd : FuncData) (ps : List Str) : Prop where
  ex : ∃ params body scope N ir, G[f]? = some ⟨N.length, ps.length, ir⟩ ∧ FunD C.K x x params body scope [] [] a fd ∧ FnScope N ps scope ∧ blockN 40 ⟨N, scope, fun _ => true, T, cs⟩ body = some ir ∧ parsB params ps = true
  len : ms.length = ps.length
  mg : mg x = some (.ref a)
  kp : PySem.W.keepIn C.K (.ref a) = true
  bind : Binds C.K fd ps []
structure PrgOk (C : Ct) (mg : Str → Option Value) (T : List (Str × Nat × List Bool)) (cs : List (Str × D)) (G : List FnI) : Prop where
  fns : ∀ x f ms, T.lookup x = some (f, ms) → ∃ a fd ps, DefOk C mg T cs G x f ms a fd ps
  cst : ∀ x d, cs.lookup x = some d → ∃ u v, mg x = some u ∧ RelV v u ∧ ∀ F, Rep C F d v
  blt : ∀ x ∈ bltN, mg x = none
section
variable {C : Ct} {P : Program} {w : World} {mg : Str → Option Value} {base : Heap} {T : List (Str × Nat × List Bool)} {cs : List (Str × D)} {G : List FnI}
theorem prg_ok (pk : PrgOk C mg T cs G) : ∀ (n : Nat) {x : Str} {f : Nat} {ms : List Bool} {a : Addr} {fd : FuncData} {ps : List Str}, DefOk C mg T cs G x f ms a fd ps →
    FnOk P w C.K mg base (L2.CX P w) n a fd ps (spI C ps.length (callF G n f))
  | 0, x, f, ms, a, fd, ps, dk => by
    refine ⟨fun vs H Q E h => h.1, fun A outer s H args us vs Q E _ _ _ _ h => ?_⟩
    obtain ⟨_, F, ar, _, _, _, h⟩ := h
    exact h.elim
  | n + 1, x, f, ms, a, fd, ps, dk => by
    obtain ⟨params, body, scope, N, ir, hG, FD, S, hB, _⟩ := dk.ex
    refine FD.ok S (fun vs H Q E h => h.1) (fun cdv A outer s H vs Q E hr h => ?_)
    refine ⟨tS C (fun cls d _ H => E cls d H) (evS (callF G n) ir), snd_block (cf := callF G n) (n := 40) (se := ⟨N, scope, fun _ => true, T, cs⟩) ?_ (takes_of rfl rfl rfl rfl) (passes_of rfl) hB, ?_⟩
    · exact ⟨rfl, S.nd, rfl, fun _ _ => rfl, rfl, rfl, by have := hr.un; show (A.deeper (envOfC x scope s.heap.objs.size a cdv)).units + 150 < cLine; omega, fun y g ms' hy => by
        obtain ⟨a', fd', ps', dk'⟩ := pk.fns y g ms' hy
        exact ⟨n, a', fd', ps', dk'.mg, dk'.kp, dk'.len ▸ prg_ok pk n dk', hr, dk'.bind⟩, pk.cst, pk.blt⟩
    · obtain ⟨hl, F, ar, le, ok, ap, h⟩ := h
      simp only [callF, hG, callBody] at h
      refine ⟨F, _, args_slots le ok ap N rfl, ?_⟩
      cases hv : evS (callF G n) ir (ar.map slotOf ++ List.replicate (N.length - ar.length) .no) with
      | bk ρ' => rw [hv] at h; exact h.elim
      | ct ρ' => rw [hv] at h; exact h.elim
      | bad => rw [hv] at h; exact h.elim
      | nx ρ' =>
        rw [hv] at h
        exact fun σ' F' H' g => h .non F' H' (args_end ok N g).1 .non
      | exc c fs ρ' =>
        rw [hv] at h
        exact fun cls d σ' F' H' g x => h cls d F' H' (args_end ok N g).1 x
      | ret op ρ' =>
        rw [hv] at h
        cases op with
        | s i => exact h.elim
        | v d => exact fun v σ' F' H' g r => h v F' H' (args_end ok N g).1 r
        | f d =>
          intro v σ' F' H' g r
          obtain ⟨x, rfl, r1, r2, r3, r4⟩ := r
          obtain ⟨cg, up⟩ := args_end ok N g
          refine h (.ref x) F' H' cg ⟨x, rfl, ?_, r2, r4⟩
          rcases r1 with q | q
          · exact absurd (up x q) r3
          · exact q
end
end PyI
set_option maxHeartbeats 1000000
/-! PyI18: the head's facts grant the reading; a law's end. -/
namespace PyI
open PySem PySem.Spec PyProof.Rows L2
/-- a def of the text: its name, its place among the top's statements, its slots' names, which parameters are references -/
structure Ent where
  x : Str
  i : Nat
  N : List Str
  ms : List Bool
def topOf (p : Program) (i : Nat) : Stmt := p.main.body.getD i (.Pass ⟨0, 0, 0, 0⟩)
def entDef (p : Program) (e : Ent) : He.DefD := ⟨(e.x, none), e.x, e.x, defArgs (topOf p e.i), defBody (topOf p e.i), defScope (topOf p e.i), [], []⟩
def tabOf (es : List Ent) : List (Str × Nat × List Bool) := es.zipIdx.map fun q => (q.1.x, q.2, q.1.ms)
def entSE (p : Program) (T : List (Str × Nat × List Bool)) (cs : List (Str × D)) (e : Ent) : SE := ⟨e.N, defScope (topOf p e.i), fun _ => true, T, cs⟩
def entB (p : Program) (T : List (Str × Nat × List Bool)) (cs : List (Str × D)) (e : Ent) : Option S := blockN 40 (entSE p T cs e) (defBody (topOf p e.i))
def entPs (p : Program) (e : Ent) : List Str := (defArgs (topOf p e.i)).args.map (·.arg)
def entI (p : Program) (T : List (Str × Nat × List Bool)) (cs : List (Str × D)) (e : Ent) : FnI := ⟨e.N.length, e.ms.length, (entB p T cs e).getD .nx⟩
def entC (p : Program) (T : List (Str × Nat × List Bool)) (cs : List (Str × D)) (e : Ent) : Bool := (entB p T cs e).isSome && parsB (defArgs (topOf p e.i)) (entPs p e) && scopeB e.N (entPs p e) (defScope (topOf p e.i)) && decide (e.ms.length = (entPs p e).length)
/-- a constant of the module, as a fact -/
def csFa : Str × D → List He.Fa
  | (x, .int i) => [.int x i]
  | (x, .str z) => [.str x z]
  | _ => []
def csB : Str × D → Bool
  | (_, .int _) => true
  | (_, .str _) => true
  | _ => false
def entFa (es : List Ent) (cs : List (Str × D)) : List He.Fa := es.map (fun e => .glo e.x) ++ bltN.map .free ++ cs.flatMap csFa
def entFn (p : Program) (es : List Ent) : List He.DefD := es.map (entDef p)
theorem tab_lookup : ∀ {es : List Ent} {n : Nat} {x : Str} {f : Nat} {ms : List Bool}, ((es.zipIdx n).map fun q => (q.1.x, q.2, q.1.ms)).lookup x = some (f, ms) → ∃ e j, f = n + j ∧ es[j]? = some e ∧ e.x = x ∧ e.ms = ms
  | [], _, _, _, _, h => by cases h
  | e :: es, n, x, f, ms, h => by
    simp only [List.zipIdx_cons, List.map_cons, List.lookup_cons] at h
    cases hx : x == e.x with
    | true =>
      rw [hx] at h
      cases h
      exact ⟨e, 0, rfl, rfl, (eq_of_beq hx).symm, rfl⟩
    | false =>
      rw [hx] at h
      obtain ⟨e', j, h1, h2, h3, h4⟩ := tab_lookup (es := es) (n := n + 1) h
      exact ⟨e', j + 1, by omega, by simpa using h2, h3, h4⟩
theorem cs_mem {x : Str} {d : D} : ∀ {cs : List (Str × D)}, cs.lookup x = some d → (x, d) ∈ cs
  | [], h => by cases h
  | (y, e) :: cs, h => by
    rw [List.lookup_cons] at h
    cases hx : x == y with
    | true => rw [hx] at h; cases h; rw [eq_of_beq hx]; exact List.mem_cons_self ..
    | false => rw [hx] at h; exact List.mem_cons_of_mem _ (cs_mem h)
section
variable {p : Program} {es : List Ent} {cs : List (Str × D)} {K : PySem.W.Frag} {h : Heap} {mg : Str → Option Value}
/-- what a head's facts hold: every def stands, the names of the built-ins are free -/
structure HeadOk (K : PySem.W.Frag) (mg : Str → Option Value) (p : Program) (es : List Ent) (cs : List (Str × D)) : Prop where
  d : ∀ e ∈ es, mg e.x = some (.ref (He.ga K e.x)) ∧ ∃ fd, FunD K e.x e.x (defArgs (topOf p e.i)) (defBody (topOf p e.i)) (defScope (topOf p e.i)) [] [] (He.ga K e.x) fd
  c : ∀ x d, cs.lookup x = some d → ∃ u v, mg x = some u ∧ RelV v u ∧ ∀ C F, C.K = K → Rep C F d v
  b : ∀ x ∈ bltN, mg x = none
theorem head_of {fa : List He.Fa} {fn : List He.DefD} (X : K.In h) (G : h.Ns mainGlobals mg) (c : He.SaysD fa fn K) (hfa : ∀ f ∈ entFa es cs, f ∈ fa) (hfn : ∀ d ∈ entFn p es, d ∈ fn) (hcs : cs.all csB = true) : HeadOk K mg p es cs where
  d := fun e me => by
    obtain ⟨fd, FD⟩ := c.defs (hfn (entDef p e) (List.mem_map.mpr ⟨e, me, rfl⟩))
    exact ⟨He.glo_ok X G (c.facts (hfa (.glo e.x) (by unfold entFa; exact List.mem_append_left _ (List.mem_append_left _ (List.mem_map.mpr ⟨e, me, rfl⟩))))), fd, FD⟩
  c := fun x d hl => by
    have me := cs_mem hl
    have hd := List.all_eq_true.mp hcs _ me
    have hf : ∀ f ∈ csFa (x, d), f.ok K = true := fun f hf => c.facts (hfa f (by unfold entFa; exact List.mem_append_right _ (List.mem_flatMap.mpr ⟨_, me, hf⟩)))
    cases d with
    | int i =>
      obtain ⟨t, ht⟩ := He.int_ok X G (hf (.int x i) (by simp [csFa]))
      exact ⟨_, .int i, ht, ⟨t, rfl⟩, fun C F _ => .int i⟩
    | str z =>
      obtain ⟨t, ht⟩ := He.str_ok X G (hf (.str x z) (by simp [csFa]))
      exact ⟨_, .str z, ht, ⟨t, rfl⟩, fun C F _ => .str z⟩
    | _ => cases hd
  b := fun x hx => He.free_ok X G (c.facts (hfa (.free x) (by unfold entFa; exact List.mem_append_left _ (List.mem_append_right _ (List.mem_map.mpr ⟨x, hx, rfl⟩)))))
theorem def_of (cm : Str → Addr) (k : HeadOk K mg p es cs) (hb : es.all (entC p (tabOf es) cs) = true) {e : Ent} {j : Nat} (he : es[j]? = some e) :
    ∃ fd, DefOk ⟨K, cm⟩ mg (tabOf es) cs (es.map (entI p (tabOf es) cs)) e.x j e.ms (He.ga K e.x) fd (entPs p e) := by
  have me : e ∈ es := List.mem_of_getElem? he
  have hc := List.all_eq_true.mp hb e me
  unfold entC at hc
  simp only [Bool.and_eq_true, decide_eq_true_eq] at hc
  obtain ⟨⟨⟨c1, c2⟩, c3⟩, c4⟩ := hc
  obtain ⟨hg, fd, FD⟩ := k.d e me
  cases hB : entB p (tabOf es) cs e with
  | none => rw [hB] at c1; cases c1
  | some ir =>
    refine ⟨fd, ⟨⟨_, _, _, e.N, ir, ?_, FD, scope_of c3, hB, c2⟩, c4, hg, FD.kp, binds_of FD c2⟩⟩
    rw [List.getElem?_map, he]
    simp only [Option.map_some, entI, hB, Option.getD_some, c4]
theorem prg_of (cm : Str → Addr) (k : HeadOk K mg p es cs) (hb : es.all (entC p (tabOf es) cs) = true) : PrgOk ⟨K, cm⟩ mg (tabOf es) cs (es.map (entI p (tabOf es) cs)) where
  fns := fun x f ms hl => by
    obtain ⟨e, j, h1, h2, h3, h4⟩ := tab_lookup (n := 0) hl
    have hj : f = j := by omega
    subst hj
    subst h3 h4
    obtain ⟨fd, dk⟩ := def_of cm k hb h2
    exact ⟨_, fd, _, dk⟩
  cst := fun x d hl => by
    obtain ⟨u, v, h1, h2, h3⟩ := k.c x d hl
    exact ⟨u, v, h1, h2, fun F => h3 _ F rfl⟩
  blt := k.b
/-- the law's promise -/
theorem law_sp {C : Ct} {call : List Arg → CRes} (hl : ∀ ns : List Int, ns.length ≤ 63 → ∃ outs, call [.v (.scr ns)] = .ok (.v (.bl true)) outs) (H : Hp) (a : Addr) (ns : List Int) (hn : ns.length ≤ 63) (hS : SqL C.K H a (ns.map V.int)) :
    spI C 1 call [.ref a] H (fun v _ => v = .bl true) fun _ _ _ => False := by
  obtain ⟨outs, e⟩ := hl ns hn
  refine ⟨rfl, H, [.v (.scr ns)], Le.refl _, .cons (.scr hS) .nil, fun i j d e a h1 h2 => ?_, ?_⟩
  · cases i with
    | zero => cases h1
    | succ i => simp at h1
  · rw [e]
    intro v F' H' _ r
    cases r
    rfl
/-- an exception that is wished for -/
def CXU : CXT := fun _ _ _ E _ _ => ∃ cls d H, E cls d H
theorem fnOk_uni {P : Program} {w : World} {K : PySem.W.Frag} {mg : Str → Option Value} {base : Heap} {k : Nat} {f : Addr} {fd : FuncData} {ps : List Str} {sp : Sp} (F : FnOk P w K mg base (L2.CX P w) k f fd ps sp) : FnOk P w K mg base CXU k f fd ps sp where
  len := F.len
  run := fun A outer s H args us vs Q E hr e0 hb r h => codeAny_mono (F.run A outer s H args us vs Q E hr e0 hb r h) fun res s' q => by
    cases res with
    | ok fl =>
      cases fl with
      | ret u => exact q
      | _ => exact q
    | error e =>
      obtain ⟨_, _, H', cls, d, _, _, _, _, _, _, _, hE⟩ := q
      exact ⟨cls, d, H', hE⟩
/-- the law's def: what walk_ofE wants -/
theorem law_F {w : World} {k j : Nat} {y : Str} {fa : Addr} {e : Ent} (cm : Str → Addr) (X : K.In h) (hd : HeadOk K mg p es cs) (hb : es.all (entC p (tabOf es) cs) = true) (he : es[j]? = some e) (hp : entPs p e = [y]) (hm : mg e.x = some (.ref fa))
    (hl : ∀ ns : List Int, ns.length ≤ 63 → ∃ outs, callF (es.map (entI p (tabOf es) cs)) k j [.v (.scr ns)] = .ok (.v (.bl true)) outs) :
    ∃ (K' : PySem.W.Frag) (fd : FuncData) (sp : Sp), K'.In h ∧ (∀ (s : Shared) (u : Value), BindsTo s fd ⟨[u], []⟩ [(y, u)]) ∧
      (∀ (H : Hp) (a : Addr) (ns : List Int), ns.length ≤ 63 → Only H → SqL K' H a (ns.map V.int) → sp [.ref a] H (fun v _ => v = .bl true) fun _ _ _ => False) ∧
      ∀ base : Heap, K'.In base → base.Ns mainGlobals mg → FnOk p w K' mg base CXU k fa fd [y] sp := by
  have pk := prg_of cm hd hb
  obtain ⟨fd, dk⟩ := def_of cm hd hb he
  have e1 : He.ga K e.x = fa := by have := dk.mg.symm.trans hm; cases this; rfl
  subst e1
  rw [hp] at dk
  obtain ⟨params, body, scope, N, ir, hG, FD, S, hB, hpar⟩ := dk.ex
  exact ⟨K, fd, spI ⟨K, cm⟩ 1 (callF (es.map (entI p (tabOf es) cs)) k j), X, bindsA_of FD hpar, fun H a ns hn _ hS => law_sp hl H a ns hn hS, fun base _ _ => fnOk_uni (prg_ok pk k dk)⟩
end
end PyI
set_option maxHeartbeats 1000000
/-! PyM1: the mathematics of the evaluator: steps, loops; the pool of draws that the laws share. -/
namespace PyI
open PySem PySem.Spec PyProof.Rows L2
section
variable {cf : CF} {a b : S} {ρ ρ1 : Env}
theorem s_seq (h : evS cf a ρ = .nx ρ1) : evS cf (.seq a b) ρ = evS cf b ρ1 := by
  show seqS (evS cf a) (evS cf b) ρ = _
  unfold seqS
  rw [h]
theorem s_ret {op : Op} (h : evS cf a ρ = .ret op ρ1) : evS cf (.seq a b) ρ = .ret op ρ1 := by
  show seqS (evS cf a) (evS cf b) ρ = _
  unfold seqS
  rw [h]
theorem s_if {t : E} {k : Bool} (h : evT cf t ρ = .ok k ρ1) : evS cf (.ifs t a b) ρ = if k = true then evS cf a ρ1 else evS cf b ρ1 := by
  show ifS (evT cf t) (evS cf a) (evS cf b) ρ = _
  unfold ifS
  rw [h]; rfl
theorem forL_inv {t : T} {p : Fs} (I : Nat → Env → Prop) : ∀ (l : List D) (k : Nat) (ρ : Env), I k ρ →
    (∀ i d ρ, l[i]? = some d → I (k + i) ρ → ∃ ρ1 ρ2, asgT t d ρ = some ρ1 ∧ (p ρ1 = .nx ρ2 ∨ p ρ1 = .ct ρ2) ∧ I (k + i + 1) ρ2) → ∃ ρ', forL t p l ρ = .nx ρ' ∧ I (k + l.length) ρ'
  | [], k, ρ, h, _ => ⟨ρ, rfl, h⟩
  | d :: l, k, ρ, h, st => by
    obtain ⟨ρ1, ρ2, h1, h2, h3⟩ := st 0 d ρ rfl h
    obtain ⟨ρ', h4, h5⟩ := forL_inv I l (k + 1) ρ2 h3 fun i d' ρ hi hI => by
      have := st (i + 1) d' ρ (by simpa using hi) (by rw [show k + (i + 1) = k + 1 + i by omega]; exact hI)
      rw [show k + (i + 1) + 1 = k + 1 + i + 1 by omega] at this
      exact this
    refine ⟨ρ', ?_, by rw [List.length_cons, show k + (l.length + 1) = k + 1 + l.length by omega]; exact h5⟩
    simp only [forL, h1]
    rcases h2 with h2 | h2 <;> rw [h2] <;> exact h4
theorem s_for {t : T} {it : E} {p : S} {items : List D} (h : evI cf it ρ = .ok items ρ1) : evS cf (.fors t it p) ρ = forL t (evS cf p) items ρ1 := by
  show forS t (evI cf it) (evS cf p) ρ = _
  unfold forS
  rw [h]; rfl
end
/-! ### calls -/
theorem keep_no : Slot.keep .no = false := rfl
theorem keep_val {d : D} : Slot.keep (.val d) = false := rfl
theorem keep_ownf {d : D} : Slot.keep (.own false d) = false := rfl
theorem fm_v {d : D} {l : List Op} : (Op.v d :: l).filterMap slotI = l.filterMap slotI := rfl
theorem fm_f {d : D} {l : List Op} : (Op.f d :: l).filterMap slotI = l.filterMap slotI := rfl
theorem fm_s {i : Nat} {l : List Op} : (Op.s i :: l).filterMap slotI = i :: l.filterMap slotI := rfl
theorem c_ret {sl np : Nat} {b : S} {ar : List Arg} {cf : CF} {d : D} {ρ' : Env} (h : evS cf b (ar.map slotOf ++ List.replicate (sl - ar.length) .no) = .ret (.v d) ρ') : callBody cf ⟨sl, np, b⟩ ar = .ok (.v d) (outsOf ar.length ρ') := by
  unfold callBody
  rw [h]
theorem c_retf {sl np : Nat} {b : S} {ar : List Arg} {cf : CF} {d : D} {ρ' : Env} (h : evS cf b (ar.map slotOf ++ List.replicate (sl - ar.length) .no) = .ret (.f d) ρ') : callBody cf ⟨sl, np, b⟩ ar = .ok (.f d) (outsOf ar.length ρ') := by
  unfold callBody
  rw [h]
theorem cut_tail {x : Int} {g : List Int} : cutD ((x :: g).map D.int) (some 1) none = g.map D.int := by
  have h1 : HT.sIx (((x :: g).map D.int).length) 0 (some 1) = 1 := by
    rw [show (1 : Int) = ((1 : Nat) : Int) from rfl, HT.sIx_nat]; simp
  have h2 : HT.sIx (((x :: g).map D.int).length) (((x :: g).map D.int).length) none = ((x :: g).map D.int).length := rfl
  unfold cutD
  rw [h1, h2]
  simp [List.take_of_length_le]

/-! ### the draw -/
def pool (g s : List Int) (a b : Int) : D := .lst [.lst (g.map .int), .lst (s.map .int), .int a, .int b]
def IsPool (p : D) : Prop := ∃ (g s : List Int) (a b : Int), p = pool g s a b
def dr1 : S := .ifs (.tand (.tv (.cmp .eq (.sub (.var 0) (.cst (.int 2))) (.cst (.int 0)))) (.tv (.cmp .gt (.bi .len (.sub (.var 0) (.cst (.int 0)))) (.cst (.int 0))))) (.seq (.set 2 (.sub (.var 0) (.cst (.int 0)))) (.seq (.store 0 (.cst (.int 2)) (.sub (.var 2) (.cst (.int 0)))) (.store 0 (.cst (.int 0)) (.slc (.var 2) (.acons (.cst (.int 1)) .anil) .nopart)))) .nx
def dr2 : S := .ifs (.tv (.cmp .gt (.sub (.var 0) (.cst (.int 2))) (.cst (.int 0)))) (.seq (.set 3 (.bin .mod (.bi .int (.sub (.var 0) (.cst (.int 2)))) (.var 1))) (.seq (.store 0 (.cst (.int 2)) (.bin .fdiv (.sub (.var 0) (.cst (.int 2))) (.var 1))) (.ret (.var 3)))) .nx
def dr3 : S := .store 0 (.cst (.int 3)) (.bin .add (.sub (.var 0) (.cst (.int 3))) (.cst (.int 1)))
def dr4 : S := .ifs (.tv (.cmp .gt (.bi .len (.sub (.var 0) (.cst (.int 1)))) (.cst (.int 0)))) (.set 4 (.sub (.sub (.var 0) (.cst (.int 1))) (.bin .mod (.bi .int (.sub (.var 0) (.cst (.int 3)))) (.bi .len (.sub (.var 0) (.cst (.int 1))))))) .nx
def dr5 : S := .seq (.set 5 (.bin .mod (.bi .int (.bin .mul (.bin .add (.bin .add (.var 4) (.bin .mul (.cst (.int 7919)) (.sub (.var 0) (.cst (.int 3))))) (.cst (.int 1))) (.cst (.int 48271)))) (.cst (.int 2147483647)))) (.seq (.set 5 (.bin .mod (.bi .int (.bin .mul (.var 5) (.bin .add (.bin .fdiv (.var 5) (.cst (.int 1009))) (.cst (.int 69621))))) (.cst (.int 2147483647)))) (.seq (.set 5 (.bin .mod (.bi .int (.bin .mul (.var 5) (.bin .add (.bin .fdiv (.var 5) (.cst (.int 2003))) (.cst (.int 40692))))) (.cst (.int 2147483399)))) (.ret (.bin .mod (.bi .int (.bin .fdiv (.var 5) (.cst (.int 16)))) (.var 1)))))
def drawB : S := .seq dr1 (.seq dr2 (.seq dr3 (.seq (.set 4 (.cst (.int 0))) (.seq dr4 dr5))))
section
variable {cf : CF} {g s : List Int} {a b m c z : Int} {sl : Slot}
theorem dr1_ok : ∃ (g' : List Int) (a' : Int) (sl : Slot), evS cf dr1 [.own true (pool g s a b), .val (.int m), .no, .no, .no, .no] = .nx [.own true (pool g' s a' b), .val (.int m), sl, .no, .no, .no] ∧ (∀ d, sl ≠ .own true d) := by
  cases ha : (a == 0) with
  | false => exact ⟨g, a, .no, by simp [dr1, ha, pool, evS, evE, evT, evI, evL, evP, nextS, breakS, contS, seqS, setS, putS, setVal, keep_no, keep_val, keep_ownf, asgS, asgT, asgTs, retS, retNS, retOp, ifS, storeS, store3, setD, forS, dropS, seq1, seq2, op1, op2, PyI.res, bop, PyI.cop, copB, eqOp, neOp, D.dep, depL, depK, eqv, eqvL, eqF, D.odd, D.neOk, D.nod, nodL, isOp, inOp, D.flat, varE, cstE, frzE, PyI.frz, seqA, seqV, vals, tupD, lstD, dnewE, testE, truE, truD, notT, andT, orT, yesT, andE, orE, notE, iteE, Res.bind, Res.bindS, deref, slotOf, outsOf, outD, PyI.isi, isiD, biD, ixD, atI, ixN, keyD, slD, partE, seqSl, sl3, negD, callE, callR, argsOf, slotI, fm_v, fm_f, fm_s, wback, setOwn, mtE, mt2, mtD, isTy, Mt.ty, it1, seqD, enumD], by simp⟩
  | true =>
    cases g with
    | nil => exact ⟨[], a, .no, by simp [dr1, ha, pool, evS, evE, evT, evI, evL, evP, nextS, breakS, contS, seqS, setS, putS, setVal, keep_no, keep_val, keep_ownf, asgS, asgT, asgTs, retS, retNS, retOp, ifS, storeS, store3, setD, forS, dropS, seq1, seq2, op1, op2, PyI.res, bop, PyI.cop, copB, eqOp, neOp, D.dep, depL, depK, eqv, eqvL, eqF, D.odd, D.neOk, D.nod, nodL, isOp, inOp, D.flat, varE, cstE, frzE, PyI.frz, seqA, seqV, vals, tupD, lstD, dnewE, testE, truE, truD, notT, andT, orT, yesT, andE, orE, notE, iteE, Res.bind, Res.bindS, deref, slotOf, outsOf, outD, PyI.isi, isiD, biD, ixD, atI, ixN, keyD, slD, partE, seqSl, sl3, negD, callE, callR, argsOf, slotI, fm_v, fm_f, fm_s, wback, setOwn, mtE, mt2, mtD, isTy, Mt.ty, it1, seqD, enumD], by simp⟩
    | cons x g =>
      have hc := cut_tail (x := x) (g := g)
      rw [List.map_cons] at hc
      exact ⟨g, x, .val (.lst ((x :: g).map .int)), by simp [dr1, ha, pool, hc, evS, evE, evT, evI, evL, evP, nextS, breakS, contS, seqS, setS, putS, setVal, keep_no, keep_val, keep_ownf, asgS, asgT, asgTs, retS, retNS, retOp, ifS, storeS, store3, setD, forS, dropS, seq1, seq2, op1, op2, PyI.res, bop, PyI.cop, copB, eqOp, neOp, D.dep, depL, depK, eqv, eqvL, eqF, D.odd, D.neOk, D.nod, nodL, isOp, inOp, D.flat, varE, cstE, frzE, PyI.frz, seqA, seqV, vals, tupD, lstD, dnewE, testE, truE, truD, notT, andT, orT, yesT, andE, orE, notE, iteE, Res.bind, Res.bindS, deref, slotOf, outsOf, outD, PyI.isi, isiD, biD, ixD, atI, ixN, keyD, slD, partE, seqSl, sl3, negD, callE, callR, argsOf, slotI, fm_v, fm_f, fm_s, wback, setOwn, mtE, mt2, mtD, isTy, Mt.ty, it1, seqD, enumD], by simp⟩
theorem dr2_t (hm : 0 < m) (hm2 : m < 1073741824) (ha : 0 < a) : evS cf dr2 [.own true (pool g s a b), .val (.int m), sl, .no, .no, .no] = .ret (.v (.int (a % m))) [.own true (pool g s (a / m) b), .val (.int m), sl, .val (.int (a % m)), .no, .no] := by
  simp [dr2, ha, hm, hm2, pool, evS, evE, evT, evI, evL, evP, nextS, breakS, contS, seqS, setS, putS, setVal, keep_no, keep_val, keep_ownf, asgS, asgT, asgTs, retS, retNS, retOp, ifS, storeS, store3, setD, forS, dropS, seq1, seq2, op1, op2, PyI.res, bop, PyI.cop, copB, eqOp, neOp, D.dep, depL, depK, eqv, eqvL, eqF, D.odd, D.neOk, D.nod, nodL, isOp, inOp, D.flat, varE, cstE, frzE, PyI.frz, seqA, seqV, vals, tupD, lstD, dnewE, testE, truE, truD, notT, andT, orT, yesT, andE, orE, notE, iteE, Res.bind, Res.bindS, deref, slotOf, outsOf, outD, PyI.isi, isiD, biD, ixD, atI, ixN, keyD, slD, partE, seqSl, sl3, negD, callE, callR, argsOf, slotI, fm_v, fm_f, fm_s, wback, setOwn, mtE, mt2, mtD, isTy, Mt.ty, it1, seqD, enumD]
theorem dr2_f (ha : ¬ 0 < a) : evS cf dr2 [.own true (pool g s a b), .val (.int m), sl, .no, .no, .no] = .nx [.own true (pool g s a b), .val (.int m), sl, .no, .no, .no] := by
  simp [dr2, ha, pool, evS, evE, evT, evI, evL, evP, nextS, breakS, contS, seqS, setS, putS, setVal, keep_no, keep_val, keep_ownf, asgS, asgT, asgTs, retS, retNS, retOp, ifS, storeS, store3, setD, forS, dropS, seq1, seq2, op1, op2, PyI.res, bop, PyI.cop, copB, eqOp, neOp, D.dep, depL, depK, eqv, eqvL, eqF, D.odd, D.neOk, D.nod, nodL, isOp, inOp, D.flat, varE, cstE, frzE, PyI.frz, seqA, seqV, vals, tupD, lstD, dnewE, testE, truE, truD, notT, andT, orT, yesT, andE, orE, notE, iteE, Res.bind, Res.bindS, deref, slotOf, outsOf, outD, PyI.isi, isiD, biD, ixD, atI, ixN, keyD, slD, partE, seqSl, sl3, negD, callE, callR, argsOf, slotI, fm_v, fm_f, fm_s, wback, setOwn, mtE, mt2, mtD, isTy, Mt.ty, it1, seqD, enumD]
theorem dr3_ok : evS cf dr3 [.own true (pool g s a b), .val (.int m), sl, .no, .no, .no] = .nx [.own true (pool g s a (b + 1)), .val (.int m), sl, .no, .no, .no] := by
  simp [dr3, pool, evS, evE, evT, evI, evL, evP, nextS, breakS, contS, seqS, setS, putS, setVal, keep_no, keep_val, keep_ownf, asgS, asgT, asgTs, retS, retNS, retOp, ifS, storeS, store3, setD, forS, dropS, seq1, seq2, op1, op2, PyI.res, bop, PyI.cop, copB, eqOp, neOp, D.dep, depL, depK, eqv, eqvL, eqF, D.odd, D.neOk, D.nod, nodL, isOp, inOp, D.flat, varE, cstE, frzE, PyI.frz, seqA, seqV, vals, tupD, lstD, dnewE, testE, truE, truD, notT, andT, orT, yesT, andE, orE, notE, iteE, Res.bind, Res.bindS, deref, slotOf, outsOf, outD, PyI.isi, isiD, biD, ixD, atI, ixN, keyD, slD, partE, seqSl, sl3, negD, callE, callR, argsOf, slotI, fm_v, fm_f, fm_s, wback, setOwn, mtE, mt2, mtD, isTy, Mt.ty, it1, seqD, enumD]
theorem dr4_ok : ∃ z : Int, evS cf dr4 [.own true (pool g s a b), .val (.int m), sl, .no, .val (.int 0), .no] = .nx [.own true (pool g s a b), .val (.int m), sl, .no, .val (.int z), .no] := by
  cases s with
  | nil => exact ⟨0, by simp [dr4, pool, evS, evE, evT, evI, evL, evP, nextS, breakS, contS, seqS, setS, putS, setVal, keep_no, keep_val, keep_ownf, asgS, asgT, asgTs, retS, retNS, retOp, ifS, storeS, store3, setD, forS, dropS, seq1, seq2, op1, op2, PyI.res, bop, PyI.cop, copB, eqOp, neOp, D.dep, depL, depK, eqv, eqvL, eqF, D.odd, D.neOk, D.nod, nodL, isOp, inOp, D.flat, varE, cstE, frzE, PyI.frz, seqA, seqV, vals, tupD, lstD, dnewE, testE, truE, truD, notT, andT, orT, yesT, andE, orE, notE, iteE, Res.bind, Res.bindS, deref, slotOf, outsOf, outD, PyI.isi, isiD, biD, ixD, atI, ixN, keyD, slD, partE, seqSl, sl3, negD, callE, callR, argsOf, slotI, fm_v, fm_f, fm_s, wback, setOwn, mtE, mt2, mtD, isTy, Mt.ty, it1, seqD, enumD]⟩
  | cons x s =>
    have hp : (0 : Int) < ((s.length + 1 : Nat) : Int) := by omega
    have h0 : 0 ≤ b % ((s.length + 1 : Nat) : Int) := Int.emod_nonneg _ (by omega)
    have h1 : b % ((s.length + 1 : Nat) : Int) < ((s.length + 1 : Nat) : Int) := Int.emod_lt_of_pos _ hp
    have hn : (b % ((s.length + 1 : Nat) : Int)).toNat < (x :: s).length := by simp only [List.length_cons]; omega
    have h0' : 0 ≤ b % ((s.length : Int) + 1) := by exact_mod_cast h0
    have h1' : b % ((s.length : Int) + 1) < (s.length : Int) + 1 := by exact_mod_cast h1
    have hn' : (b % ((s.length : Int) + 1)).toNat < (x :: s).length := by exact_mod_cast hn
    have hp' : (0 : Int) < (s.length : Int) + 1 := by omega
    have hg : (D.int x :: s.map D.int)[(b % ((s.length : Int) + 1)).toNat]? = some (.int ((x :: s)[(b % ((s.length : Int) + 1)).toNat])) := by
      rw [← List.map_cons, List.getElem?_map, List.getElem?_eq_getElem hn']; rfl
    exact ⟨(x :: s)[(b % ((s.length : Int) + 1)).toNat], by simp [dr4, pool, h0', h1', hp', evS, evE, evT, evI, evL, evP, nextS, breakS, contS, seqS, setS, putS, setVal, keep_no, keep_val, keep_ownf, asgS, asgT, asgTs, retS, retNS, retOp, ifS, storeS, store3, setD, forS, dropS, seq1, seq2, op1, op2, PyI.res, bop, PyI.cop, copB, eqOp, neOp, D.dep, depL, depK, eqv, eqvL, eqF, D.odd, D.neOk, D.nod, nodL, isOp, inOp, D.flat, varE, cstE, frzE, PyI.frz, seqA, seqV, vals, tupD, lstD, dnewE, testE, truE, truD, notT, andT, orT, yesT, andE, orE, notE, iteE, Res.bind, Res.bindS, deref, slotOf, outsOf, outD, PyI.isi, isiD, biD, ixD, atI, ixN, keyD, slD, partE, seqSl, sl3, negD, callE, callR, argsOf, slotI, fm_v, fm_f, fm_s, wback, setOwn, mtE, mt2, mtD, isTy, Mt.ty, it1, seqD, enumD]; exact Option.some.inj ((List.getElem?_eq_getElem _).symm.trans hg)⟩
theorem dr5_ok (hm : 0 < m) : ∃ r ρ', evS cf dr5 [.own true (pool g s a b), .val (.int m), sl, .no, .val (.int z), .no] = .ret (.v (.int r)) (.own true (pool g s a b) :: .val (.int m) :: ρ') ∧ 0 ≤ r ∧ r < m := by
  have b1 : ∀ x : Int, 0 ≤ x % 2147483647 ∧ x % 2147483647 < 2147483647 := fun x => ⟨Int.emod_nonneg _ (by decide), Int.emod_lt_of_pos _ (by decide)⟩
  have hc : ∀ x y : Int, cmul (x % 2147483647) y = true := fun x y => by
    obtain ⟨h1, h2⟩ := b1 x
    unfold cmul
    have e1 : decide (-(2 ^ 64) < x % 2147483647) = true := decide_eq_true (by omega)
    have e2 : decide (x % 2147483647 < 2 ^ 64) = true := decide_eq_true (by omega)
    rw [e1, e2]; rfl
  have hc1 : ∀ x : Int, cmul x 48271 = true := fun x => by unfold cmul; simp
  have hc2 : ∀ x : Int, cmul 7919 x = true := fun x => by unfold cmul; simp
  refine ⟨_, _, by simp [dr5, pool, hm, hc, hc1, hc2, evS, evE, evT, evI, evL, evP, nextS, breakS, contS, seqS, setS, putS, setVal, keep_no, keep_val, keep_ownf, asgS, asgT, asgTs, retS, retNS, retOp, ifS, storeS, store3, setD, forS, dropS, seq1, seq2, op1, op2, PyI.res, bop, PyI.cop, copB, eqOp, neOp, D.dep, depL, depK, eqv, eqvL, eqF, D.odd, D.neOk, D.nod, nodL, isOp, inOp, D.flat, varE, cstE, frzE, PyI.frz, seqA, seqV, vals, tupD, lstD, dnewE, testE, truE, truD, notT, andT, orT, yesT, andE, orE, notE, iteE, Res.bind, Res.bindS, deref, slotOf, outsOf, outD, PyI.isi, isiD, biD, ixD, atI, ixN, keyD, slD, partE, seqSl, sl3, negD, callE, callR, argsOf, slotI, fm_v, fm_f, fm_s, wback, setOwn, mtE, mt2, mtD, isTy, Mt.ty, it1, seqD, enumD]; exact ⟨rfl, rfl⟩, Int.emod_nonneg _ (by omega), Int.emod_lt_of_pos _ hm⟩
end
def DrawOk (c : List Arg → CRes) : Prop := ∀ (p : D) (m : Int), IsPool p → 0 < m → m < 1073741824 → ∃ r p', c [.r p, .v (.int m)] = .ok (.v (.int r)) [p', .non] ∧ IsPool p' ∧ 0 ≤ r ∧ r < m
theorem draw_ok (cf : CF) : DrawOk (callBody cf ⟨6, 2, drawB⟩) := by
  intro p m ⟨g, s, a, b, e⟩ hm hm2
  subst e
  obtain ⟨g1, a1, sl, h1, _⟩ := dr1_ok (cf := cf) (g := g) (s := s) (a := a) (b := b) (m := m)
  by_cases ha : 0 < a1
  · have h2 := dr2_t (cf := cf) (g := g1) (s := s) (b := b) (sl := sl) hm hm2 ha
    have e := c_ret (sl := 6) (np := 2) (b := drawB) (ar := [.r (pool g s a b), .v (.int m)]) (cf := cf) ((s_seq h1).trans (s_ret h2))
    exact ⟨_, _, e, ⟨_, _, _, _, rfl⟩, Int.emod_nonneg _ (by omega), Int.emod_lt_of_pos _ hm⟩
  · have h2 := dr2_f (cf := cf) (g := g1) (s := s) (b := b) (m := m) (sl := sl) ha
    have h3 := dr3_ok (cf := cf) (g := g1) (s := s) (a := a1) (b := b) (m := m) (sl := sl)
    obtain ⟨z, h4⟩ := dr4_ok (cf := cf) (g := g1) (s := s) (a := a1) (b := b + 1) (m := m) (sl := sl)
    obtain ⟨r, ρ', h5, q1, q2⟩ := dr5_ok (cf := cf) (g := g1) (s := s) (a := a1) (b := b + 1) (sl := sl) (z := z) hm
    have h35 : evS cf (.set 4 (.cst (.int 0))) [.own true (pool g1 s a1 (b + 1)), .val (.int m), sl, .no, .no, .no] = .nx [.own true (pool g1 s a1 (b + 1)), .val (.int m), sl, .no, .val (.int 0), .no] := rfl
    have e := c_ret (sl := 6) (np := 2) (b := drawB) (ar := [.r (pool g s a b), .v (.int m)]) (cf := cf) ((s_seq h1).trans ((s_seq h2).trans ((s_seq h3).trans ((s_seq h35).trans ((s_seq h4).trans h5)))))
    exact ⟨r, _, e, ⟨_, _, _, _, rfl⟩, q1, q2⟩
end PyI
set_option maxHeartbeats 1000000
/-! PyM2: comprehensions; what the laws draw. -/
namespace PyI
open PySem PySem.Spec PyProof.Rows L2
def Slot.idle : Slot → Bool
  | .own _ _ => false
  | _ => true
theorem idle_keep {sl : Slot} (h : sl.idle = true) : sl.keep = false := by
  cases sl with
  | own k d => cases h
  | _ => rfl
theorem idle_not {sl : Slot} (h : sl.idle = true) : notOwn (some sl) = true := by
  cases sl with
  | own k d => cases h
  | _ => rfl
/-! ### comprehensions -/
theorem lcL_inv {vs : List Nat} {t : T} {c : Ft} {e : Fe} (I : Env → Prop) (P : D → Prop) : ∀ (l : List D) (acc : List D) (ρ : Env), I ρ →
    (∀ d ∈ l, ∀ ρ, I ρ → ∃ ρ1 ρ2, asgT t d ρ = some ρ1 ∧ ((∃ ρ3 d', c ρ1 = .ok true ρ2 ∧ e ρ2 = .ok (.v d') ρ3 ∧ noOwn ρ3 vs = true ∧ I (wipeR ρ3 vs) ∧ P d') ∨ (c ρ1 = .ok false ρ2 ∧ noOwn ρ2 vs = true ∧ I (wipeR ρ2 vs)))) →
    ∃ out ρ', lcL vs t c e l acc ρ = .ok (acc ++ out) ρ' ∧ I ρ' ∧ (∀ d ∈ out, P d) ∧ out.length ≤ l.length
  | [], acc, ρ, h, _ => ⟨[], ρ, by simp [lcL], h, by simp, Nat.le_refl _⟩
  | d :: l, acc, ρ, h, st => by
    obtain ⟨ρ1, ρ2, h1, h2⟩ := st d (by simp) ρ h
    rcases h2 with ⟨ρ3, d', h3, h4, h5, h6, h7⟩ | ⟨h3, h5, h6⟩
    · obtain ⟨out, ρ', h8, h9, h10, h11⟩ := lcL_inv I P l (acc ++ [d']) _ h6 fun d hd => st d (by simp [hd])
      refine ⟨d' :: out, ρ', ?_, h9, fun x hx => ?_, by simp; omega⟩
      · simp only [lcL, h1, h3, h4, h5, if_true]
        rw [h8]; simp
      · rcases List.mem_cons.mp hx with e | e
        · rw [e]; exact h7
        · exact h10 x e
    · obtain ⟨out, ρ', h8, h9, h10, h11⟩ := lcL_inv I P l acc _ h6 fun d hd => st d (by simp [hd])
      refine ⟨out, ρ', ?_, h9, h10, by simp; omega⟩
      simp only [lcL, h1, h3, h5, if_true]
      exact h8
/-- .. all of them kept -/
theorem lcL_each {vs : List Nat} {t : T} {e : Fe} (I : Env → Prop) (P : D → Prop) : ∀ (l : List D) (acc : List D) (ρ : Env), I ρ →
    (∀ d ∈ l, ∀ ρ, I ρ → ∃ ρ1 ρ3 d', asgT t d ρ = some ρ1 ∧ e ρ1 = .ok (.v d') ρ3 ∧ noOwn ρ3 vs = true ∧ I (wipeR ρ3 vs) ∧ P d') →
    ∃ out ρ', lcL vs t yesT e l acc ρ = .ok (acc ++ out) ρ' ∧ I ρ' ∧ (∀ d ∈ out, P d) ∧ out.length = l.length
  | [], acc, ρ, h, _ => ⟨[], ρ, by simp [lcL], h, by simp, rfl⟩
  | d :: l, acc, ρ, h, st => by
    obtain ⟨ρ1, ρ3, d', h1, h4, h5, h6, h7⟩ := st d (by simp) ρ h
    obtain ⟨out, ρ', h8, h9, h10, h11⟩ := lcL_each I P l (acc ++ [d']) _ h6 fun d hd => st d (by simp [hd])
    refine ⟨d' :: out, ρ', ?_, h9, fun x hx => ?_, by simp [h11]⟩
    · have hy : ∀ ρ, yesT ρ = .ok true ρ := fun _ => rfl
      simp only [lcL, h1, hy, h4, h5, if_true]
      rw [h8]; simp
    · rcases List.mem_cons.mp hx with e | e
      · rw [e]; exact h7
      · exact h10 x e
/-- .. that leaves its context as it is -/
theorem lcL_pure {vs : List Nat} {t : T} {c : Ft} {e : Fe} {ρ0 : Env} (p : D → Bool) (f : D → D) : ∀ (l : List D) (acc : List D),
    (∀ d ∈ l, ∃ ρ1 ρ2, asgT t d ρ0 = some ρ1 ∧ c ρ1 = .ok (p d) ρ2 ∧ (p d = true → ∃ ρ3, e ρ2 = .ok (.v (f d)) ρ3 ∧ noOwn ρ3 vs = true ∧ wipeR ρ3 vs = ρ0) ∧ (p d = false → noOwn ρ2 vs = true ∧ wipeR ρ2 vs = ρ0)) →
    lcL vs t c e l acc ρ0 = .ok (acc ++ (l.filter p).map f) ρ0
  | [], acc, _ => by simp [lcL]
  | d :: l, acc, st => by
    obtain ⟨ρ1, ρ2, h1, h2, h3, h4⟩ := st d (by simp)
    cases hp : p d with
    | true =>
      obtain ⟨ρ3, h5, h6, h7⟩ := h3 hp
      simp only [lcL, h1, h2, hp, h5, h6, if_true, h7]
      rw [lcL_pure p f l _ fun d hd => st d (by simp [hd])]
      simp [List.filter_cons, hp]
    | false =>
      obtain ⟨h6, h7⟩ := h4 hp
      simp only [lcL, h1, h2, hp, h6, if_true, h7]
      rw [lcL_pure p f l _ fun d hd => st d (by simp [hd])]
      simp [List.filter_cons, hp]
theorem e_lc {cf : CF} {vs : List Nat} {t : T} {it c e : E} {ρ ρ1 ρ2 : Env} {items acc : List D} (h1 : evI cf it ρ = .ok items ρ1) (h2 : noOwn ρ1 vs = true) (h3 : items.length ≤ 100000) (h4 : lcL vs t (evT cf c) (frzE (evE cf e)) items [] (wipeR ρ1 vs) = .ok acc ρ2) :
    evE cf (.lc vs t it c e) ρ = .ok (.f (.lst acc)) (rst ρ1 ρ2 vs) := by
  show lcE vs t (evI cf it) (evT cf c) (frzE (evE cf e)) ρ = _
  unfold lcE
  rw [h1]
  simp only [Res.bind, h2, h3, and_self, if_true]
  rw [h4]

/-! ### picks -/
def pickB (fd : Nat) : S := .ret (.sub (.var 1) (.call fd (.acons (.var 0) (.acons (.frz (.bi .len (.var 1))) .anil))))
def PickOk (c : List Arg → CRes) : Prop := ∀ (p items : D) (xs : List D), IsPool p → (items = .lst xs ∨ items = .tup xs) → xs ≠ [] → xs.length ≤ 100000 → ∃ d p', c [.r p, .v items] = .ok (.v d) [p', .non] ∧ IsPool p' ∧ d ∈ xs
def PickS (c : List Arg → CRes) : Prop := ∀ (p : D) (z : Str), IsPool p → 0 < z.length → z.length ≤ 100000 → ∃ ch p', c [.r p, .v (.str z)] = .ok (.v (.str ⟨#[ch]⟩)) [p', .non] ∧ IsPool p' ∧ ch ∈ z.cps.toList
section
variable {cf : CF} {fd : Nat}
theorem pick_ok (hd : DrawOk (cf fd)) : PickOk (callBody cf ⟨2, 2, pickB fd⟩) := by
  intro p items xs hp hi hn hl
  have h0 : 0 < xs.length := by cases xs with | nil => exact absurd rfl hn | cons _ _ => simp
  obtain ⟨r, p', e, hp', r0, r1⟩ := hd p (xs.length : Int) hp (by omega) (by omega)
  have hr : r.toNat < xs.length := by omega
  have hg : xs[r.toNat]? = some xs[r.toNat] := List.getElem?_eq_getElem hr
  refine ⟨xs[r.toNat], p', ?_, hp', List.getElem_mem hr⟩
  have r0' : ¬ r < 0 := by omega
  rcases hi with rfl | rfl
  · exact c_ret (ρ' := [.own true p', .val (.lst xs)]) (by simp [pickB, e, r0, r1, hg, evS, evE, evT, evI, evL, evP, nextS, breakS, contS, seqS, setS, putS, setVal, keep_no, keep_val, keep_ownf, asgS, asgT, asgTs, retS, retNS, retOp, ifS, storeS, store3, setD, forS, dropS, seq1, seq2, op1, op2, PyI.res, bop, PyI.cop, copB, eqOp, neOp, D.dep, depL, depK, eqv, eqvL, eqF, D.odd, D.neOk, D.nod, nodL, isOp, inOp, D.flat, varE, cstE, frzE, PyI.frz, seqA, seqV, vals, tupD, lstD, dnewE, testE, truE, truD, notT, andT, orT, yesT, andE, orE, notE, iteE, Res.bind, Res.bindS, deref, slotOf, outsOf, outD, PyI.isi, isiD, biD, ixD, atI, ixN, keyD, slD, partE, seqSl, sl3, negD, callE, callR, argsOf, slotI, fm_v, fm_f, fm_s, wback, setOwn, mtE, mt2, mtD, isTy, Mt.ty, it1, seqD, enumD])
  · exact c_ret (ρ' := [.own true p', .val (.tup xs)]) (by simp [pickB, e, r0, r1, hg, evS, evE, evT, evI, evL, evP, nextS, breakS, contS, seqS, setS, putS, setVal, keep_no, keep_val, keep_ownf, asgS, asgT, asgTs, retS, retNS, retOp, ifS, storeS, store3, setD, forS, dropS, seq1, seq2, op1, op2, PyI.res, bop, PyI.cop, copB, eqOp, neOp, D.dep, depL, depK, eqv, eqvL, eqF, D.odd, D.neOk, D.nod, nodL, isOp, inOp, D.flat, varE, cstE, frzE, PyI.frz, seqA, seqV, vals, tupD, lstD, dnewE, testE, truE, truD, notT, andT, orT, yesT, andE, orE, notE, iteE, Res.bind, Res.bindS, deref, slotOf, outsOf, outD, PyI.isi, isiD, biD, ixD, atI, ixN, keyD, slD, partE, seqSl, sl3, negD, callE, callR, argsOf, slotI, fm_v, fm_f, fm_s, wback, setOwn, mtE, mt2, mtD, isTy, Mt.ty, it1, seqD, enumD])
theorem pick_s (hd : DrawOk (cf fd)) : PickS (callBody cf ⟨2, 2, pickB fd⟩) := by
  intro p z hp h0 hl
  obtain ⟨r, p', e, hp', r0, r1⟩ := hd p (z.length : Int) hp (by omega) (by omega)
  have hz : z.length = z.cps.toList.length := rfl
  have hr : r.toNat < z.cps.toList.length := by omega
  have hg : z.cps.toList[r.toNat]? = some z.cps.toList[r.toNat] := List.getElem?_eq_getElem hr
  have hi : ixN z.cps.toList.length r = some r.toNat := by
    unfold ixN
    rw [if_pos r0, if_pos (by omega)]
  have ha : atI z.cps.toList r = some z.cps.toList[r.toNat] := by
    unfold atI
    rw [hi]
    exact hg
  refine ⟨z.cps.toList[r.toNat], p', ?_, hp', List.getElem_mem hr⟩
  refine c_ret (ρ' := [.own true p', .val (.str z)]) ?_
  have hix : ixD (.str z) (.int r) = some (.v (.str ⟨#[z.cps.toList[r.toNat]]⟩)) := by
    simp only [ixD, hl, if_true, ha, Option.map_some]
  simp only [pickB, evS, evE, evL, retS, seq2, seq1, varE, slotOf, op1, op2, deref, biD, callE, seqA, frzE, PyI.frz, Res.bind, Res.bindS, List.map_cons, List.map_nil, List.length_cons, List.length_nil, PyI.res, hl, if_true]
  simp [callR, argsOf, slotI, fm_v, fm_s, e, wback, setOwn, deref, hix, PyI.res, Res.bind, Res.bindS, retOp, hl]
/-! ### numbers -/
def numberB (fd : Nat) : S := .seq (.set 1 (.call fd (.acons (.var 0) (.acons (.frz (.cst (.int 12))) .anil)))) (.seq (.set 2 (.bin .sub (.call fd (.acons (.var 0) (.acons (.frz (.cst (.int 7))) .anil))) (.cst (.int 3)))) (.seq (.ifs (.tv (.cmp .eq (.var 1) (.cst (.int 0)))) (.set 2 (.bin .sub (.call fd (.acons (.var 0) (.acons (.frz (.cst (.int 2001))) .anil))) (.cst (.int 1000)))) .nx) (.seq (.ifs (.tv (.cmp .eq (.var 1) (.cst (.int 1)))) (.set 2 (.bin .add (.bin .mul (.bin .sub (.call fd (.acons (.var 0) (.acons (.frz (.cst (.int 3))) .anil))) (.cst (.int 1))) (.bin .pow (.cst (.int 10)) (.cst (.int 40)))) (.var 2))) .nx) (.ret (.var 2)))))
def NumOk (c : List Arg → CRes) : Prop := ∀ (p : D), IsPool p → ∃ n p', c [.r p] = .ok (.v (.int n)) [p'] ∧ IsPool p'
theorem number_ok (hd : DrawOk (cf fd)) : NumOk (callBody cf ⟨3, 1, numberB fd⟩) := by
  intro p hp
  obtain ⟨k, p1, e1, hp1, k0, k1⟩ := hd p 12 hp (by decide) (by decide)
  obtain ⟨r, p2, e2, hp2, r0, r1⟩ := hd p1 7 hp1 (by decide) (by decide)
  obtain ⟨a, p3, e3, hp3, a0, a1⟩ := hd p2 2001 hp2 (by decide) (by decide)
  obtain ⟨b, p4, e4, hp4, b0, b1⟩ := hd p2 3 hp2 (by decide) (by decide)
  have hc : ∀ y : Int, cmul (b - 1) y = true := fun y => by
    unfold cmul
    have e1 : decide (-(2 ^ 64) < b - 1) = true := decide_eq_true (by omega)
    have e2 : decide (b - 1 < 2 ^ 64) = true := decide_eq_true (by omega)
    rw [e1, e2]; rfl
  by_cases h0 : k = 0
  · subst h0
    exact ⟨_, _, c_ret (d := .int (a - 1000)) (ρ' := [.own true p3, .val (.int 0), .val (.int (a - 1000))]) (by simp [numberB, e1, e2, e3, evS, evE, evT, evI, evL, evP, nextS, breakS, contS, seqS, setS, putS, setVal, keep_no, keep_val, keep_ownf, asgS, asgT, asgTs, retS, retNS, retOp, ifS, storeS, store3, setD, forS, dropS, seq1, seq2, op1, op2, PyI.res, bop, PyI.cop, copB, eqOp, neOp, D.dep, depL, depK, eqv, eqvL, eqF, D.odd, D.neOk, D.nod, nodL, isOp, inOp, D.flat, varE, cstE, frzE, PyI.frz, seqA, seqV, vals, tupD, lstD, dnewE, testE, truE, truD, notT, andT, orT, yesT, andE, orE, notE, iteE, Res.bind, Res.bindS, deref, slotOf, outsOf, outD, PyI.isi, isiD, biD, ixD, atI, ixN, keyD, slD, partE, seqSl, sl3, negD, callE, callR, argsOf, slotI, fm_v, fm_f, fm_s, wback, setOwn, mtE, mt2, mtD, isTy, Mt.ty, it1, seqD, enumD]), hp3⟩
  · by_cases h1 : k = 1
    · subst h1
      exact ⟨_, _, c_ret (d := .int ((b - 1) * 10 ^ 40 + (r - 3))) (ρ' := [.own true p4, .val (.int 1), .val (.int ((b - 1) * 10 ^ 40 + (r - 3)))]) (by simp [numberB, e1, e2, e4, hc, evS, evE, evT, evI, evL, evP, nextS, breakS, contS, seqS, setS, putS, setVal, keep_no, keep_val, keep_ownf, asgS, asgT, asgTs, retS, retNS, retOp, ifS, storeS, store3, setD, forS, dropS, seq1, seq2, op1, op2, PyI.res, bop, PyI.cop, copB, eqOp, neOp, D.dep, depL, depK, eqv, eqvL, eqF, D.odd, D.neOk, D.nod, nodL, isOp, inOp, D.flat, varE, cstE, frzE, PyI.frz, seqA, seqV, vals, tupD, lstD, dnewE, testE, truE, truD, notT, andT, orT, yesT, andE, orE, notE, iteE, Res.bind, Res.bindS, deref, slotOf, outsOf, outD, PyI.isi, isiD, biD, ixD, atI, ixN, keyD, slD, partE, seqSl, sl3, negD, callE, callR, argsOf, slotI, fm_v, fm_f, fm_s, wback, setOwn, mtE, mt2, mtD, isTy, Mt.ty, it1, seqD, enumD]), hp4⟩
    · exact ⟨_, _, c_ret (d := .int (r - 3)) (ρ' := [.own true p2, .val (.int k), .val (.int (r - 3))]) (by simp [numberB, e1, e2, h0, h1, evS, evE, evT, evI, evL, evP, nextS, breakS, contS, seqS, setS, putS, setVal, keep_no, keep_val, keep_ownf, asgS, asgT, asgTs, retS, retNS, retOp, ifS, storeS, store3, setD, forS, dropS, seq1, seq2, op1, op2, PyI.res, bop, PyI.cop, copB, eqOp, neOp, D.dep, depL, depK, eqv, eqvL, eqF, D.odd, D.neOk, D.nod, nodL, isOp, inOp, D.flat, varE, cstE, frzE, PyI.frz, seqA, seqV, vals, tupD, lstD, dnewE, testE, truE, truD, notT, andT, orT, yesT, andE, orE, notE, iteE, Res.bind, Res.bindS, deref, slotOf, outsOf, outD, PyI.isi, isiD, biD, ixD, atI, ixN, keyD, slD, partE, seqSl, sl3, negD, callE, callR, argsOf, slotI, fm_v, fm_f, fm_s, wback, setOwn, mtE, mt2, mtD, isTy, Mt.ty, it1, seqD, enumD]), hp2⟩
/-! ### literals, clauses -/
def literalB (fp fn : Nat) : S := .ret (.tup (.acons (.frz (.call fp (.acons (.var 0) (.acons (.frz (.var 1)) .anil)))) (.acons (.frz (.call fp (.acons (.var 0) (.acons (.frz (.var 1)) .anil)))) (.acons (.frz (.call fn (.acons (.var 0) .anil))) .anil))))
/-- a literal over the terms ts -/
def IsLit (ts : List D) (l : D) : Prop := ∃ t1 t2 n, l = .tup [t1, t2, .int n] ∧ t1 ∈ ts ∧ t2 ∈ ts
def LitOk (c : List Arg → CRes) : Prop := ∀ (p : D) (ts : List D), IsPool p → ts ≠ [] → ts.length ≤ 100000 → ∃ l p', c [.r p, .v (.lst ts)] = .ok (.v l) [p', .non] ∧ IsPool p' ∧ IsLit ts l
theorem literal_ok {fp fn : Nat} (hp : PickOk (cf fp)) (hn : NumOk (cf fn)) : LitOk (callBody cf ⟨2, 2, literalB fp fn⟩) := by
  intro p ts h0 h1 h2
  obtain ⟨t1, p1, e1, q1, m1⟩ := hp p (.lst ts) ts h0 (.inl rfl) h1 h2
  obtain ⟨t2, p2, e2, q2, m2⟩ := hp p1 (.lst ts) ts q1 (.inl rfl) h1 h2
  obtain ⟨n, p3, e3, q3⟩ := hn p2 q2
  exact ⟨_, p3, c_ret (d := .tup [t1, t2, .int n]) (ρ' := [.own true p3, .val (.lst ts)]) (by simp [literalB, e1, e2, e3, evS, evE, evT, evI, evL, evP, nextS, breakS, contS, seqS, setS, putS, setVal, keep_no, keep_val, keep_ownf, asgS, asgT, asgTs, retS, retNS, retOp, ifS, storeS, store3, setD, forS, dropS, seq1, seq2, op1, op2, PyI.res, bop, PyI.cop, copB, eqOp, neOp, D.dep, depL, depK, eqv, eqvL, eqF, D.odd, D.neOk, D.nod, nodL, isOp, inOp, D.flat, varE, cstE, frzE, PyI.frz, seqA, seqV, vals, tupD, lstD, dnewE, testE, truE, truD, notT, andT, orT, yesT, andE, orE, notE, iteE, Res.bind, Res.bindS, deref, slotOf, outsOf, outD, PyI.isi, isiD, biD, ixD, atI, ixN, keyD, slD, partE, seqSl, sl3, negD, callE, callR, argsOf, slotI, fm_v, fm_f, fm_s, wback, setOwn, mtE, mt2, mtD, isTy, Mt.ty, it1, seqD, enumD]), q3, t1, t2, n, rfl, m1, m2⟩
def clauseB (fd fl : Nat) : S := .seq (.set 3 (.tup (.acons (.frz (.call fl (.acons (.var 0) (.acons (.frz (.var 1)) .anil)))) .anil))) (.seq (.ifs (.tv (.cmp .lt (.call fd (.acons (.var 0) (.acons (.frz (.cst (.int 4))) .anil))) (.var 2))) (.set 3 (.bin .add (.var 3) (.tup (.acons (.frz (.call fl (.acons (.var 0) (.acons (.frz (.var 1)) .anil)))) .anil)))) .nx) (.ret (.var 3)))
def ClauseOk (c : List Arg → CRes) : Prop := ∀ (p : D) (ts : List D) (k : Int), IsPool p → ts ≠ [] → ts.length ≤ 100000 → ∃ l more p', c [.r p, .v (.lst ts), .v (.int k)] = .ok (.v (.tup (l :: more))) [p', .non, .non] ∧ IsPool p' ∧ IsLit ts l ∧ more.length ≤ 1 ∧ ∀ x ∈ more, IsLit ts x
theorem clause_ok {fl : Nat} (hd : DrawOk (cf fd)) (hl : LitOk (cf fl)) : ClauseOk (callBody cf ⟨4, 3, clauseB fd fl⟩) := by
  intro p ts k h0 h1 h2
  obtain ⟨l, p1, e1, q1, m1⟩ := hl p ts h0 h1 h2
  obtain ⟨r, p2, e2, q2, _, _⟩ := hd p1 4 q1 (by decide) (by decide)
  by_cases hk : r < k
  · obtain ⟨l2, p3, e3, q3, m3⟩ := hl p2 ts q2 h1 h2
    exact ⟨l, [l2], p3, c_ret (ρ' := [.own true p3, .val (.lst ts), .val (.int k), .val (.tup [l, l2])]) (by simp [clauseB, e1, e2, e3, hk, evS, evE, evT, evI, evL, evP, nextS, breakS, contS, seqS, setS, putS, setVal, keep_no, keep_val, keep_ownf, asgS, asgT, asgTs, retS, retNS, retOp, ifS, storeS, store3, setD, forS, dropS, seq1, seq2, op1, op2, PyI.res, bop, PyI.cop, copB, eqOp, neOp, D.dep, depL, depK, eqv, eqvL, eqF, D.odd, D.neOk, D.nod, nodL, isOp, inOp, D.flat, varE, cstE, frzE, PyI.frz, seqA, seqV, vals, tupD, lstD, dnewE, testE, truE, truD, notT, andT, orT, yesT, andE, orE, notE, iteE, Res.bind, Res.bindS, deref, slotOf, outsOf, outD, PyI.isi, isiD, biD, ixD, atI, ixN, keyD, slD, partE, seqSl, sl3, negD, callE, callR, argsOf, slotI, fm_v, fm_f, fm_s, wback, setOwn, mtE, mt2, mtD, isTy, Mt.ty, it1, seqD, enumD]), q3, m1, by simp, by simpa using m3⟩
  · exact ⟨l, [], p2, c_ret (ρ' := [.own true p2, .val (.lst ts), .val (.int k), .val (.tup [l])]) (by simp [clauseB, e1, e2, hk, evS, evE, evT, evI, evL, evP, nextS, breakS, contS, seqS, setS, putS, setVal, keep_no, keep_val, keep_ownf, asgS, asgT, asgTs, retS, retNS, retOp, ifS, storeS, store3, setD, forS, dropS, seq1, seq2, op1, op2, PyI.res, bop, PyI.cop, copB, eqOp, neOp, D.dep, depL, depK, eqv, eqvL, eqF, D.odd, D.neOk, D.nod, nodL, isOp, inOp, D.flat, varE, cstE, frzE, PyI.frz, seqA, seqV, vals, tupD, lstD, dnewE, testE, truE, truD, notT, andT, orT, yesT, andE, orE, notE, iteE, Res.bind, Res.bindS, deref, slotOf, outsOf, outD, PyI.isi, isiD, biD, ixD, atI, ixN, keyD, slD, partE, seqSl, sl3, negD, callE, callR, argsOf, slotI, fm_v, fm_f, fm_s, wback, setOwn, mtE, mt2, mtD, isTy, Mt.ty, it1, seqD, enumD]), q2, m1, by simp, by simp⟩
end
end PyI
set_option maxHeartbeats 1000000
/-! PyM3: the terms that the laws draw; the pool at the start. -/
namespace PyI
open PySem PySem.Spec PyProof.Rows L2
/-! ### the pool -/
def poolB : S := .seq (.set 1 (.lc [4, 5] (.n 5) (.iseq (.slc (.var 0) .nopart (.acons (.cst (.int 63)) .anil))) .tyes (.bi .abs (.bi .int (.var 5))))) (.seq (.set 2 (.lc [4, 5] (.n 5) (.iseq (.var 1)) (.tv (.cmp .ge (.var 5) (.bin .pow (.cst (.int 10)) (.cst (.int 18))))) (.var 5))) (.seq (.set 3 (.lc [4, 5] (.n 5) (.iseq (.var 1)) (.tv (.cmp .lt (.var 5) (.bin .pow (.cst (.int 10)) (.cst (.int 18))))) (.bin .mod (.bi .int (.var 5)) (.cst (.int 1000003))))) (.ret (.lst (.acons (.frz (.var 2)) (.acons (.frz (.var 3)) (.acons (.frz (.cst (.int 0))) (.acons (.frz (.cst (.int 0))) .anil))))))))
def absI (n : Int) : Int := if n < 0 then -n else n
theorem cut63 {ns : List Int} (h : ns.length ≤ 63) : cutD ns none (some 63) = ns := by
  unfold cutD
  have h1 : HT.sIx ns.length 0 none = 0 := rfl
  have h2 : HT.sIx ns.length ns.length (some 63) = ns.length := by
    rw [show (63 : Int) = ((63 : Nat) : Int) from rfl, HT.sIx_nat]; omega
  rw [h1, h2]; simp
def unInt : D → Int
  | .int n => n
  | _ => 0
theorem map_unInt (f : Int → Int) (l : List Int) : (l.map D.int).map (fun d => D.int (f (unInt d))) = (l.map f).map D.int := by
  simp [unInt]
theorem pool_ok (cf : CF) (ns : List Int) (h : ns.length ≤ 63) : ∃ p, callBody cf ⟨6, 1, poolB⟩ [.v (.scr ns)] = .ok (.f p) [.non] ∧ IsPool p := by
  have ha : ∀ i : Int, biD .abs (.int i) = some (.v (.int (absI i))) := fun i => rfl
  have c1 : evE cf (.lc [4, 5] (.n 5) (.iseq (.slc (.var 0) .nopart (.acons (.cst (.int 63)) .anil))) .tyes (.bi .abs (.bi .int (.var 5)))) [.val (.scr ns), .no, .no, .no, .no, .no] = .ok (.f (.lst ((ns.map absI).map .int))) [.val (.scr ns), .no, .no, .no, .no, .no] := by
    refine e_lc (items := ns.map .int) (ρ1 := [.val (.scr ns), .no, .no, .no, .no, .no]) (ρ2 := [.val (.scr ns), .no, .no, .no, .no, .no]) (by simp [cut63 h, evS, evE, evT, evI, evL, evP, nextS, breakS, contS, seqS, setS, putS, setVal, keep_no, keep_val, keep_ownf, asgS, asgT, asgTs, retS, retNS, retOp, ifS, storeS, store3, setD, forS, dropS, seq1, seq2, op1, op2, PyI.res, bop, PyI.cop, copB, eqOp, neOp, D.dep, depL, depK, eqv, eqvL, eqF, D.odd, D.neOk, D.nod, nodL, isOp, inOp, D.flat, varE, cstE, frzE, PyI.frz, seqA, seqV, vals, tupD, lstD, dnewE, testE, truE, truD, notT, andT, orT, yesT, andE, orE, notE, iteE, Res.bind, Res.bindS, deref, slotOf, outsOf, outD, PyI.isi, isiD, biD, ixD, atI, ixN, keyD, slD, partE, seqSl, sl3, negD, callE, callR, argsOf, slotI, fm_v, fm_f, fm_s, wback, setOwn, mtE, mt2, mtD, isTy, Mt.ty, it1, seqD, enumD]) rfl (by simp; omega) ?_
    have := lcL_pure (vs := [4, 5]) (t := .n 5) (c := yesT) (e := frzE (evE cf (.bi .abs (.bi .int (.var 5))))) (ρ0 := [.val (.scr ns), .no, .no, .no, .no, .no]) (fun _ => true) (fun d => .int (absI (unInt d))) (ns.map .int) [] (fun d hd => ?_)
    · refine Eq.trans this ?_
      rw [List.filter_eq_self.mpr (fun _ _ => rfl), List.nil_append, map_unInt]
    · obtain ⟨n, _, rfl⟩ := List.mem_map.mp hd
      refine ⟨[.val (.scr ns), .no, .no, .no, .no, .val (.int n)], _, rfl, rfl, fun _ => ⟨[.val (.scr ns), .no, .no, .no, .no, .val (.int n)], ?_, rfl, rfl⟩, fun z => by cases z⟩
      simp [absI, unInt, evS, evE, evT, evI, evL, evP, nextS, breakS, contS, seqS, setS, putS, setVal, keep_no, keep_val, keep_ownf, asgS, asgT, asgTs, retS, retNS, retOp, ifS, storeS, store3, setD, forS, dropS, seq1, seq2, op1, op2, PyI.res, bop, PyI.cop, copB, eqOp, neOp, D.dep, depL, depK, eqv, eqvL, eqF, D.odd, D.neOk, D.nod, nodL, isOp, inOp, D.flat, varE, cstE, frzE, PyI.frz, seqA, seqV, vals, tupD, lstD, dnewE, testE, truE, truD, notT, andT, orT, yesT, andE, orE, notE, iteE, Res.bind, Res.bindS, deref, slotOf, outsOf, outD, PyI.isi, isiD, biD, ixD, atI, ixN, keyD, slD, partE, seqSl, sl3, negD, callE, callR, argsOf, slotI, fm_v, fm_f, fm_s, wback, setOwn, mtE, mt2, mtD, isTy, Mt.ty, it1, seqD, enumD] <;> first | rfl | congr 1
  have c2 : ∀ xs : List Int, xs.length ≤ 63 → evE cf (.lc [4, 5] (.n 5) (.iseq (.var 1)) (.tv (.cmp .ge (.var 5) (.bin .pow (.cst (.int 10)) (.cst (.int 18))))) (.var 5)) [.val (.scr ns), .own false (.lst (xs.map .int)), .no, .no, .no, .no] =
      .ok (.f (.lst ((xs.filter fun n => decide (10 ^ 18 ≤ n)).map .int))) [.val (.scr ns), .val (.lst (xs.map .int)), .no, .no, .no, .no] := fun xs hx => by
    refine e_lc (items := xs.map .int) (ρ1 := [.val (.scr ns), .val (.lst (xs.map .int)), .no, .no, .no, .no]) (ρ2 := [.val (.scr ns), .val (.lst (xs.map .int)), .no, .no, .no, .no]) (by simp [evS, evE, evT, evI, evL, evP, nextS, breakS, contS, seqS, setS, putS, setVal, keep_no, keep_val, keep_ownf, asgS, asgT, asgTs, retS, retNS, retOp, ifS, storeS, store3, setD, forS, dropS, seq1, seq2, op1, op2, PyI.res, bop, PyI.cop, copB, eqOp, neOp, D.dep, depL, depK, eqv, eqvL, eqF, D.odd, D.neOk, D.nod, nodL, isOp, inOp, D.flat, varE, cstE, frzE, PyI.frz, seqA, seqV, vals, tupD, lstD, dnewE, testE, truE, truD, notT, andT, orT, yesT, andE, orE, notE, iteE, Res.bind, Res.bindS, deref, slotOf, outsOf, outD, PyI.isi, isiD, biD, ixD, atI, ixN, keyD, slD, partE, seqSl, sl3, negD, callE, callR, argsOf, slotI, fm_v, fm_f, fm_s, wback, setOwn, mtE, mt2, mtD, isTy, Mt.ty, it1, seqD, enumD]) rfl (by simp; omega) ?_
    have := lcL_pure (vs := [4, 5]) (t := .n 5) (c := evT cf (.tv (.cmp .ge (.var 5) (.bin .pow (.cst (.int 10)) (.cst (.int 18)))))) (e := frzE (evE cf (.var 5))) (ρ0 := [.val (.scr ns), .val (.lst (xs.map .int)), .no, .no, .no, .no]) (fun d => decide (10 ^ 18 ≤ unInt d)) (fun d => d) (xs.map .int) [] (fun d hd => ?_)
    · refine Eq.trans this ?_
      simp only [List.nil_append, List.map_id', List.filter_map]
      rfl
    · obtain ⟨n, _, rfl⟩ := List.mem_map.mp hd
      refine ⟨[.val (.scr ns), .val (.lst (xs.map .int)), .no, .no, .no, .val (.int n)], [.val (.scr ns), .val (.lst (xs.map .int)), .no, .no, .no, .val (.int n)], rfl, by simp [unInt, evS, evE, evT, evI, evL, evP, nextS, breakS, contS, seqS, setS, putS, setVal, keep_no, keep_val, keep_ownf, asgS, asgT, asgTs, retS, retNS, retOp, ifS, storeS, store3, setD, forS, dropS, seq1, seq2, op1, op2, PyI.res, bop, PyI.cop, copB, eqOp, neOp, D.dep, depL, depK, eqv, eqvL, eqF, D.odd, D.neOk, D.nod, nodL, isOp, inOp, D.flat, varE, cstE, frzE, PyI.frz, seqA, seqV, vals, tupD, lstD, dnewE, testE, truE, truD, notT, andT, orT, yesT, andE, orE, notE, iteE, Res.bind, Res.bindS, deref, slotOf, outsOf, outD, PyI.isi, isiD, biD, ixD, atI, ixN, keyD, slD, partE, seqSl, sl3, negD, callE, callR, argsOf, slotI, fm_v, fm_f, fm_s, wback, setOwn, mtE, mt2, mtD, isTy, Mt.ty, it1, seqD, enumD] <;> first | rfl | congr 1, fun _ => ⟨_, rfl, rfl, rfl⟩, fun _ => ⟨rfl, rfl⟩⟩
  have c3 : ∀ (xs : List Int) (g : D), xs.length ≤ 63 → evE cf (.lc [4, 5] (.n 5) (.iseq (.var 1)) (.tv (.cmp .lt (.var 5) (.bin .pow (.cst (.int 10)) (.cst (.int 18))))) (.bin .mod (.bi .int (.var 5)) (.cst (.int 1000003)))) [.val (.scr ns), .val (.lst (xs.map .int)), .own false g, .no, .no, .no] =
      .ok (.f (.lst (((xs.filter fun n => decide (n < 10 ^ 18)).map fun n => n % 1000003).map .int))) [.val (.scr ns), .val (.lst (xs.map .int)), .own false g, .no, .no, .no] := fun xs g hx => by
    refine e_lc (items := xs.map .int) (ρ1 := [.val (.scr ns), .val (.lst (xs.map .int)), .own false g, .no, .no, .no]) (ρ2 := [.val (.scr ns), .val (.lst (xs.map .int)), .own false g, .no, .no, .no]) (by simp [evS, evE, evT, evI, evL, evP, nextS, breakS, contS, seqS, setS, putS, setVal, keep_no, keep_val, keep_ownf, asgS, asgT, asgTs, retS, retNS, retOp, ifS, storeS, store3, setD, forS, dropS, seq1, seq2, op1, op2, PyI.res, bop, PyI.cop, copB, eqOp, neOp, D.dep, depL, depK, eqv, eqvL, eqF, D.odd, D.neOk, D.nod, nodL, isOp, inOp, D.flat, varE, cstE, frzE, PyI.frz, seqA, seqV, vals, tupD, lstD, dnewE, testE, truE, truD, notT, andT, orT, yesT, andE, orE, notE, iteE, Res.bind, Res.bindS, deref, slotOf, outsOf, outD, PyI.isi, isiD, biD, ixD, atI, ixN, keyD, slD, partE, seqSl, sl3, negD, callE, callR, argsOf, slotI, fm_v, fm_f, fm_s, wback, setOwn, mtE, mt2, mtD, isTy, Mt.ty, it1, seqD, enumD]) rfl (by simp; omega) ?_
    have := lcL_pure (vs := [4, 5]) (t := .n 5) (c := evT cf (.tv (.cmp .lt (.var 5) (.bin .pow (.cst (.int 10)) (.cst (.int 18)))))) (e := frzE (evE cf (.bin .mod (.bi .int (.var 5)) (.cst (.int 1000003))))) (ρ0 := [.val (.scr ns), .val (.lst (xs.map .int)), .own false g, .no, .no, .no]) (fun d => decide (unInt d < 10 ^ 18)) (fun d => .int (unInt d % 1000003)) (xs.map .int) [] (fun d hd => ?_)
    · refine Eq.trans this ?_
      simp only [List.nil_append, List.filter_map, List.map_map]
      rfl
    · obtain ⟨n, _, rfl⟩ := List.mem_map.mp hd
      refine ⟨[.val (.scr ns), .val (.lst (xs.map .int)), .own false g, .no, .no, .val (.int n)], [.val (.scr ns), .val (.lst (xs.map .int)), .own false g, .no, .no, .val (.int n)], rfl, by simp [unInt, evS, evE, evT, evI, evL, evP, nextS, breakS, contS, seqS, setS, putS, setVal, keep_no, keep_val, keep_ownf, asgS, asgT, asgTs, retS, retNS, retOp, ifS, storeS, store3, setD, forS, dropS, seq1, seq2, op1, op2, PyI.res, bop, PyI.cop, copB, eqOp, neOp, D.dep, depL, depK, eqv, eqvL, eqF, D.odd, D.neOk, D.nod, nodL, isOp, inOp, D.flat, varE, cstE, frzE, PyI.frz, seqA, seqV, vals, tupD, lstD, dnewE, testE, truE, truD, notT, andT, orT, yesT, andE, orE, notE, iteE, Res.bind, Res.bindS, deref, slotOf, outsOf, outD, PyI.isi, isiD, biD, ixD, atI, ixN, keyD, slD, partE, seqSl, sl3, negD, callE, callR, argsOf, slotI, fm_v, fm_f, fm_s, wback, setOwn, mtE, mt2, mtD, isTy, Mt.ty, it1, seqD, enumD] <;> first | rfl | congr 1, fun _ => ⟨[.val (.scr ns), .val (.lst (xs.map .int)), .own false g, .no, .no, .val (.int n)], by simp [unInt, evS, evE, evT, evI, evL, evP, nextS, breakS, contS, seqS, setS, putS, setVal, keep_no, keep_val, keep_ownf, asgS, asgT, asgTs, retS, retNS, retOp, ifS, storeS, store3, setD, forS, dropS, seq1, seq2, op1, op2, PyI.res, bop, PyI.cop, copB, eqOp, neOp, D.dep, depL, depK, eqv, eqvL, eqF, D.odd, D.neOk, D.nod, nodL, isOp, inOp, D.flat, varE, cstE, frzE, PyI.frz, seqA, seqV, vals, tupD, lstD, dnewE, testE, truE, truD, notT, andT, orT, yesT, andE, orE, notE, iteE, Res.bind, Res.bindS, deref, slotOf, outsOf, outD, PyI.isi, isiD, biD, ixD, atI, ixN, keyD, slD, partE, seqSl, sl3, negD, callE, callR, argsOf, slotI, fm_v, fm_f, fm_s, wback, setOwn, mtE, mt2, mtD, isTy, Mt.ty, it1, seqD, enumD], rfl, rfl⟩, fun _ => ⟨rfl, rfl⟩⟩
  have l1 : (ns.map absI).length ≤ 63 := by simpa using h
  refine ⟨pool ((ns.map absI).filter fun n => decide (10 ^ 18 ≤ n)) (((ns.map absI).filter fun n => decide (n < 10 ^ 18)).map fun n => n % 1000003) 0 0, ?_, ⟨_, _, _, _, rfl⟩⟩
  refine c_retf (ρ' := [.val (.scr ns), .val (.lst ((ns.map absI).map .int)), .val (.lst (((ns.map absI).filter fun n => decide (10 ^ 18 ≤ n)).map .int)), .val (.lst ((((ns.map absI).filter fun n => decide (n < 10 ^ 18)).map fun n => n % 1000003).map .int)), .no, .no]) ?_
  show evS cf poolB [.val (.scr ns), .no, .no, .no, .no, .no] = _
  have s1 : evS cf (.set 1 (.lc [4, 5] (.n 5) (.iseq (.slc (.var 0) .nopart (.acons (.cst (.int 63)) .anil))) .tyes (.bi .abs (.bi .int (.var 5))))) [.val (.scr ns), .no, .no, .no, .no, .no] = .nx [.val (.scr ns), .own false (.lst ((ns.map absI).map .int)), .no, .no, .no, .no] := by
    show setS 1 (evE cf _) _ = _
    unfold setS
    rw [c1]; rfl
  have s2 : evS cf (.set 2 (.lc [4, 5] (.n 5) (.iseq (.var 1)) (.tv (.cmp .ge (.var 5) (.bin .pow (.cst (.int 10)) (.cst (.int 18))))) (.var 5))) [.val (.scr ns), .own false (.lst ((ns.map absI).map .int)), .no, .no, .no, .no] = .nx [.val (.scr ns), .val (.lst ((ns.map absI).map .int)), .own false (.lst (((ns.map absI).filter fun n => decide (10 ^ 18 ≤ n)).map .int)), .no, .no, .no] := by
    show setS 2 (evE cf _) _ = _
    unfold setS
    rw [c2 _ l1]; rfl
  have s3 : evS cf (.set 3 (.lc [4, 5] (.n 5) (.iseq (.var 1)) (.tv (.cmp .lt (.var 5) (.bin .pow (.cst (.int 10)) (.cst (.int 18))))) (.bin .mod (.bi .int (.var 5)) (.cst (.int 1000003))))) [.val (.scr ns), .val (.lst ((ns.map absI).map .int)), .own false (.lst (((ns.map absI).filter fun n => decide (10 ^ 18 ≤ n)).map .int)), .no, .no, .no] =
      .nx [.val (.scr ns), .val (.lst ((ns.map absI).map .int)), .own false (.lst (((ns.map absI).filter fun n => decide (10 ^ 18 ≤ n)).map .int)), .own false (.lst ((((ns.map absI).filter fun n => decide (n < 10 ^ 18)).map fun n => n % 1000003).map .int)), .no, .no] := by
    show setS 3 (evE cf _) _ = _
    unfold setS
    rw [c3 _ _ l1]; rfl
  rw [show poolB = .seq _ (.seq _ (.seq _ _)) from rfl, s_seq s1, s_seq s2, s_seq s3]
  simp [pool, evS, evE, evT, evI, evL, evP, nextS, breakS, contS, seqS, setS, putS, setVal, keep_no, keep_val, keep_ownf, asgS, asgT, asgTs, retS, retNS, retOp, ifS, storeS, store3, setD, forS, dropS, seq1, seq2, op1, op2, PyI.res, bop, PyI.cop, copB, eqOp, neOp, D.dep, depL, depK, eqv, eqvL, eqF, D.odd, D.neOk, D.nod, nodL, isOp, inOp, D.flat, varE, cstE, frzE, PyI.frz, seqA, seqV, vals, tupD, lstD, dnewE, testE, truE, truD, notT, andT, orT, yesT, andE, orE, notE, iteE, Res.bind, Res.bindS, deref, slotOf, outsOf, outD, PyI.isi, isiD, biD, ixD, atI, ixN, keyD, slD, partE, seqSl, sl3, negD, callE, callR, argsOf, slotI, fm_v, fm_f, fm_s, wback, setOwn, mtE, mt2, mtD, isTy, Mt.ty, it1, seqD, enumD]
end PyI
set_option maxHeartbeats 1000000
/-! PyM4: the terms that the laws draw. -/
namespace PyI
open PySem PySem.Spec PyProof.Rows L2
def signsL : List Nat := [97, 98, 99, 120, 121, 122, 48, 49, 57, 46]
def one (c : Nat) : Str := ⟨#[c]⟩
def mkS (cs : List Nat) : Str := ⟨cs.toArray⟩
def IsTerm (d : D) : Prop := ∃ cs : List Nat, d = .str (mkS cs) ∧ cs.length ≤ 20 ∧ ∀ c ∈ cs, c ∈ signsL
theorem empty_eq : (PySem.Str.ofString "") = mkS [] := rfl
theorem app_mkS (a b : List Nat) : mkS a ++ mkS b = mkS (a ++ b) := by
  show (⟨a.toArray ++ b.toArray⟩ : Str) = _
  unfold mkS; simp
theorem join_ones' : ∀ cs : List Nat, Txt.join (PySem.Str.ofString "") (cs.map one) = mkS cs := by
  intro cs
  show Builtin.Str.glued (PySem.Str.ofString "") (cs.map one) = _
  rw [StrLaws.glued_eq_join]
  induction cs with
  | nil => rfl
  | cons c cs ih =>
    cases cs with
    | nil => rfl
    | cons c2 r =>
      show one c ++ PySem.Str.ofString "" ++ Str.join (PySem.Str.ofString "") ((c2 :: r).map one) = _
      rw [ih, empty_eq]
      show mkS [c] ++ mkS [] ++ mkS (c2 :: r) = _
      rw [app_mkS, app_mkS]; rfl
theorem strz_ones : ∀ cs : List Nat, strz (cs.map fun c => D.str (one c)) = some (cs.map one)
  | [] => rfl
  | c :: cs => by simp [strz, strz_ones cs]
theorem out_ones : ∀ {out : List D}, (∀ d ∈ out, ∃ c, d = .str (one c) ∧ c ∈ signsL) → ∃ cs : List Nat, out = cs.map (fun c => D.str (one c)) ∧ ∀ c ∈ cs, c ∈ signsL
  | [], _ => ⟨[], rfl, by simp⟩
  | d :: out, h => by
    obtain ⟨c, rfl, hc⟩ := h d (by simp)
    obtain ⟨cs, e, hcs⟩ := out_ones (out := out) fun d hd => h d (by simp [hd])
    exact ⟨c :: cs, by rw [e]; rfl, fun x hx => by
      rcases List.mem_cons.mp hx with q | q
      · rw [q]; exact hc
      · exact hcs x q⟩
theorem sum_ones : ∀ cs : List Nat, ((cs.map one).map (·.length)).sum = cs.length
  | [] => rfl
  | c :: cs => by
    have := sum_ones cs
    simp only [List.map_cons, List.sum_cons, List.length_cons] at this ⊢
    rw [this]
    show 1 + _ = _
    omega
theorem joinD_ones {cs : List Nat} (h : cs.length ≤ 1000) : joinD (PySem.Str.ofString "") (.lst (cs.map fun c => D.str (one c))) = some (.v (.str (mkS cs))) := by
  unfold joinD
  simp only [strz_ones]
  have hz : ((cs.map one).map (·.length)).sum + (cs.map one).length * (PySem.Str.ofString "").length ≤ 100000 := by
    rw [sum_ones]
    show cs.length + (cs.map one).length * 0 ≤ _
    omega
  rw [if_pos hz, join_ones']
def TermsOk (ts : List D) : Prop := (∃ r, ts = .str (mkS []) :: r) ∧ (∀ t ∈ ts, IsTerm t) ∧ ts.Nodup
theorem TermsOk.ne {ts : List D} (h : TermsOk ts) : ts ≠ [] := by obtain ⟨⟨r, e⟩, _⟩ := h; rw [e]; simp
theorem TermsOk.flat {ts : List D} (h : TermsOk ts) : ts.all D.flat = true := by
  rw [List.all_eq_true]
  intro t ht
  obtain ⟨cs, rfl, _⟩ := h.2.1 t ht
  rfl
theorem TermsOk.notin {ts : List D} (h : TermsOk ts) {z : Str} (q : inD (.str z) ts = false) : D.str z ∉ ts := fun m => by
  unfold inD at q
  rw [List.any_eq_false] at q
  exact q _ m (by simp [eqF])
theorem rng_nat {n : Nat} (h : n ≤ 1000000) : rngD (.int (n : Int)) = some ((List.range n).map fun (i : Nat) => D.int (0 + (i : Int))) := by
  have h1 : -(2 ^ 62) ≤ (n : Int) := by omega
  have h2 : (n : Int) < 2 ^ 62 := by omega
  have e : rngD (.int (n : Int)) = some ((List.range (n : Int).toNat).map fun (i : Nat) => D.int (0 + (i : Int))) := by
    unfold rngD
    exact if_pos ⟨h1, h2⟩
  rw [e, Int.toNat_natCast]
theorem it1_ok {q : D → Option (List D)} {f : Fe} {ρ ρ1 ρ2 : Env} {op : Op} {d : D} {items : List D} (h : f ρ = .ok op ρ1) (hf : PyI.frz ρ1 op = some (d, ρ2)) (hq : q d = some items) : it1 q f ρ = .ok items ρ2 := by
  unfold it1 frzE
  rw [h]
  simp only [Res.bind, hf, hq]
theorem ev_rng {cf : CF} {a : E} {ρ ρ1 ρ2 : Env} {op : Op} {n : Nat} (h : evE cf a ρ = .ok op ρ1) (hf : PyI.frz ρ1 op = some (.int (n : Int), ρ2)) (hn : n ≤ 1000000) : evI cf (.irng a) ρ = .ok ((List.range n).map fun (i : Nat) => D.int (0 + (i : Int))) ρ2 :=
  it1_ok (q := rngD) h hf (rng_nat hn)
theorem ev_seq {cf : CF} {a : E} {ρ ρ1 ρ2 : Env} {op : Op} {d : D} {items : List D} (h : evE cf a ρ = .ok op ρ1) (hf : PyI.frz ρ1 op = some (d, ρ2)) (hq : seqD d = some items) : evI cf (.iseq a) ρ = .ok items ρ2 :=
  it1_ok (q := seqD) h hf hq
theorem e_join {cf : CF} {a b : E} {ρ ρ1 ρ2 : Env} {op : Op} {z : Str} {d r : D} (ha : evE cf a ρ = .ok (.v (.str z)) ρ1) (hb : evE cf b ρ1 = .ok op ρ2) (hd : deref ρ2 op = some d) (hj : joinD z d = some (.v r)) : evE cf (.join a b) ρ = .ok (.v r) ρ2 := by
  show joinE (evE cf a) (evE cf b) ρ = _
  unfold joinE
  rw [ha]
  show Res.bind (evE cf b ρ1) (op1 (joinD z)) = _
  rw [hb]
  show op1 (joinD z) op ρ2 = _
  unfold op1
  rw [hd]
  show PyI.res (joinD z d) ρ2 = _
  rw [hj]
  rfl
theorem s_set {cf : CF} {e : E} {ρ ρ1 ρ2 : Env} {op : Op} {i : Nat} (h : evE cf e ρ = .ok op ρ1) (hp : putS i op ρ1 = some ρ2) : evS cf (.set i e) ρ = .nx ρ2 := by
  show setS i (evE cf e) ρ = _
  unfold setS
  rw [h]
  show (match putS i op ρ1 with | some ρ2 => SRes.nx ρ2 | none => SRes.bad) = _
  rw [hp]
def mkB (fd fp : Nat) : S := .seq (.set 5 (.sub (.lst (.acons (.frz (.cst (.int 1))) (.acons (.frz (.cst (.int 1))) (.acons (.frz (.cst (.int 2))) (.acons (.frz (.cst (.int 4))) (.acons (.frz (.cst (.int 20))) .anil)))))) (.call fd (.acons (.var 0) (.acons (.frz (.cst (.int 5))) .anil))))) (.seq (.set 6 (.join (.cst (.str (PySem.Str.ofString ""))) (.lc [7, 8] (.n 8) (.irng (.var 5)) .tyes (.call fp (.acons (.var 0) (.acons (.frz (.var 2)) .anil)))))) (.ifs (.tv (.cmp .notin (.var 6) (.var 3))) (.drop (.mt .append 3 (.acons (.frz (.var 6)) .anil))) .nx))
def termsB (fd fp : Nat) : S := .seq (.set 2 (.cst (.str (PySem.Str.ofString "abcxyz019.")))) (.seq (.set 3 (.lst (.acons (.frz (.cst (.str (PySem.Str.ofString "")))) .anil))) (.seq (.fors (.n 4) (.irng (.var 1)) (mkB fd fp)) (.ret (.var 3))))
def TermsC (c : List Arg → CRes) : Prop := ∀ (p : D) (k : Int), IsPool p → 0 ≤ k → k ≤ 1000 → ∃ ts p', c [.r p, .v (.int k)] = .ok (.f (.lst ts)) [p', .non] ∧ IsPool p' ∧ TermsOk ts ∧ (ts.length : Int) ≤ k + 1
section
variable {cf : CF} {fd fp : Nat}
theorem signs_len : (PySem.Str.ofString "abcxyz019.").length = 10 := by decide
theorem signs_mem {c : Nat} (h : c ∈ (PySem.Str.ofString "abcxyz019.").cps.toList) : c ∈ signsL := by
  have e : (PySem.Str.ofString "abcxyz019.").cps.toList = signsL := by decide
  rw [← e]; exact h
theorem mk_ok (hd : DrawOk (cf fd)) (hp : PickS (cf fp)) {p k : D} {ts : List D} {s4 s5 s6 : Slot} (h0 : IsPool p) (ht : TermsOk ts) (hl : ts.length ≤ 100000) (i5 : s5.idle = true) (i6 : s6.idle = true) :
    ∃ p' ts' s5' s6', evS cf (mkB fd fp) [.own true p, .val k, .val (.str (PySem.Str.ofString "abcxyz019.")), .own false (.lst ts), s4, s5, s6, .no, .no] = .nx [.own true p', .val k, .val (.str (PySem.Str.ofString "abcxyz019.")), .own false (.lst ts'), s4, s5', s6', .no, .no] ∧
      IsPool p' ∧ TermsOk ts' ∧ ts'.length ≤ ts.length + 1 ∧ s5'.idle = true ∧ s6'.idle = true := by
  obtain ⟨r, p1, e1, q1, r0, r1⟩ := hd p 5 h0 (by decide) (by decide)
  have k5 := idle_keep i5
  have k6 := idle_keep i6
  -- the size
  obtain ⟨n, hn0, hn1, s1⟩ : ∃ n : Nat, 1 ≤ n ∧ n ≤ 20 ∧ evS cf (.set 5 (.sub (.lst (.acons (.frz (.cst (.int 1))) (.acons (.frz (.cst (.int 1))) (.acons (.frz (.cst (.int 2))) (.acons (.frz (.cst (.int 4))) (.acons (.frz (.cst (.int 20))) .anil)))))) (.call fd (.acons (.var 0) (.acons (.frz (.cst (.int 5))) .anil))))) [.own true p, .val k, .val (.str (PySem.Str.ofString "abcxyz019.")), .own false (.lst ts), s4, s5, s6, .no, .no] =
      .nx [.own true p1, .val k, .val (.str (PySem.Str.ofString "abcxyz019.")), .own false (.lst ts), s4, .val (.int (n : Int)), s6, .no, .no] := by
    have hr : r = 0 ∨ r = 1 ∨ r = 2 ∨ r = 3 ∨ r = 4 := by omega
    rcases hr with rfl | rfl | rfl | rfl | rfl
    · exact ⟨1, by decide, by decide, by simp [e1, k5, evS, evE, evT, evI, evL, evP, nextS, breakS, contS, seqS, setS, putS, setVal, keep_no, keep_val, keep_ownf, asgS, asgT, asgTs, retS, retNS, retOp, ifS, storeS, store3, setD, forS, dropS, seq1, seq2, op1, op2, PyI.res, bop, PyI.cop, copB, eqOp, neOp, D.dep, depL, depK, eqv, eqvL, eqF, D.odd, D.neOk, D.nod, nodL, isOp, inOp, D.flat, varE, cstE, frzE, PyI.frz, seqA, seqV, vals, tupD, lstD, dnewE, testE, truE, truD, notT, andT, orT, yesT, andE, orE, notE, iteE, Res.bind, Res.bindS, deref, slotOf, outsOf, outD, PyI.isi, isiD, biD, ixD, atI, ixN, keyD, slD, partE, seqSl, sl3, negD, callE, callR, argsOf, slotI, fm_v, fm_f, fm_s, wback, setOwn, mtE, mt2, mtD, isTy, Mt.ty, it1, seqD, enumD]⟩
    · exact ⟨1, by decide, by decide, by simp [e1, k5, evS, evE, evT, evI, evL, evP, nextS, breakS, contS, seqS, setS, putS, setVal, keep_no, keep_val, keep_ownf, asgS, asgT, asgTs, retS, retNS, retOp, ifS, storeS, store3, setD, forS, dropS, seq1, seq2, op1, op2, PyI.res, bop, PyI.cop, copB, eqOp, neOp, D.dep, depL, depK, eqv, eqvL, eqF, D.odd, D.neOk, D.nod, nodL, isOp, inOp, D.flat, varE, cstE, frzE, PyI.frz, seqA, seqV, vals, tupD, lstD, dnewE, testE, truE, truD, notT, andT, orT, yesT, andE, orE, notE, iteE, Res.bind, Res.bindS, deref, slotOf, outsOf, outD, PyI.isi, isiD, biD, ixD, atI, ixN, keyD, slD, partE, seqSl, sl3, negD, callE, callR, argsOf, slotI, fm_v, fm_f, fm_s, wback, setOwn, mtE, mt2, mtD, isTy, Mt.ty, it1, seqD, enumD]⟩
    · exact ⟨2, by decide, by decide, by simp [e1, k5, evS, evE, evT, evI, evL, evP, nextS, breakS, contS, seqS, setS, putS, setVal, keep_no, keep_val, keep_ownf, asgS, asgT, asgTs, retS, retNS, retOp, ifS, storeS, store3, setD, forS, dropS, seq1, seq2, op1, op2, PyI.res, bop, PyI.cop, copB, eqOp, neOp, D.dep, depL, depK, eqv, eqvL, eqF, D.odd, D.neOk, D.nod, nodL, isOp, inOp, D.flat, varE, cstE, frzE, PyI.frz, seqA, seqV, vals, tupD, lstD, dnewE, testE, truE, truD, notT, andT, orT, yesT, andE, orE, notE, iteE, Res.bind, Res.bindS, deref, slotOf, outsOf, outD, PyI.isi, isiD, biD, ixD, atI, ixN, keyD, slD, partE, seqSl, sl3, negD, callE, callR, argsOf, slotI, fm_v, fm_f, fm_s, wback, setOwn, mtE, mt2, mtD, isTy, Mt.ty, it1, seqD, enumD]⟩
    · exact ⟨4, by decide, by decide, by simp [e1, k5, evS, evE, evT, evI, evL, evP, nextS, breakS, contS, seqS, setS, putS, setVal, keep_no, keep_val, keep_ownf, asgS, asgT, asgTs, retS, retNS, retOp, ifS, storeS, store3, setD, forS, dropS, seq1, seq2, op1, op2, PyI.res, bop, PyI.cop, copB, eqOp, neOp, D.dep, depL, depK, eqv, eqvL, eqF, D.odd, D.neOk, D.nod, nodL, isOp, inOp, D.flat, varE, cstE, frzE, PyI.frz, seqA, seqV, vals, tupD, lstD, dnewE, testE, truE, truD, notT, andT, orT, yesT, andE, orE, notE, iteE, Res.bind, Res.bindS, deref, slotOf, outsOf, outD, PyI.isi, isiD, biD, ixD, atI, ixN, keyD, slD, partE, seqSl, sl3, negD, callE, callR, argsOf, slotI, fm_v, fm_f, fm_s, wback, setOwn, mtE, mt2, mtD, isTy, Mt.ty, it1, seqD, enumD]⟩
    · exact ⟨20, by decide, by decide, by simp [e1, k5, evS, evE, evT, evI, evL, evP, nextS, breakS, contS, seqS, setS, putS, setVal, keep_no, keep_val, keep_ownf, asgS, asgT, asgTs, retS, retNS, retOp, ifS, storeS, store3, setD, forS, dropS, seq1, seq2, op1, op2, PyI.res, bop, PyI.cop, copB, eqOp, neOp, D.dep, depL, depK, eqv, eqvL, eqF, D.odd, D.neOk, D.nod, nodL, isOp, inOp, D.flat, varE, cstE, frzE, PyI.frz, seqA, seqV, vals, tupD, lstD, dnewE, testE, truE, truD, notT, andT, orT, yesT, andE, orE, notE, iteE, Res.bind, Res.bindS, deref, slotOf, outsOf, outD, PyI.isi, isiD, biD, ixD, atI, ixN, keyD, slD, partE, seqSl, sl3, negD, callE, callR, argsOf, slotI, fm_v, fm_f, fm_s, wback, setOwn, mtE, mt2, mtD, isTy, Mt.ty, it1, seqD, enumD]⟩
  -- the signs
  obtain ⟨out, ρ', l1, ⟨p2, q2, rfl⟩, l3, l4⟩ := lcL_each (vs := [7, 8]) (t := .n 8) (e := frzE (evE cf (.call fp (.acons (.var 0) (.acons (.frz (.var 2)) .anil)))))
    (fun ρ => ∃ p, IsPool p ∧ ρ = [.own true p, .val k, .val (.str (PySem.Str.ofString "abcxyz019.")), .own false (.lst ts), s4, .val (.int (n : Int)), s6, .no, .no]) (fun d => ∃ c, d = .str (one c) ∧ c ∈ signsL)
    ((List.range n).map fun (i : Nat) => D.int (0 + (i : Int))) [] _ ⟨p1, q1, rfl⟩ (fun d hd ρ ⟨p, q, e⟩ => by
      subst e
      obtain ⟨ch, p', e2, q2, m⟩ := hp p (PySem.Str.ofString "abcxyz019.") q (by rw [signs_len]; decide) (by rw [signs_len]; decide)
      refine ⟨[.own true p, .val k, .val (.str (PySem.Str.ofString "abcxyz019.")), .own false (.lst ts), s4, .val (.int (n : Int)), s6, .no, .val d], [.own true p', .val k, .val (.str (PySem.Str.ofString "abcxyz019.")), .own false (.lst ts), s4, .val (.int (n : Int)), s6, .no, .val d], .str (one ch), rfl, ?_, rfl, ⟨p', q2, rfl⟩, ch, rfl, signs_mem m⟩
      simp [e2, one, evS, evE, evT, evI, evL, evP, nextS, breakS, contS, seqS, setS, putS, setVal, keep_no, keep_val, keep_ownf, asgS, asgT, asgTs, retS, retNS, retOp, ifS, storeS, store3, setD, forS, dropS, seq1, seq2, op1, op2, PyI.res, bop, PyI.cop, copB, eqOp, neOp, D.dep, depL, depK, eqv, eqvL, eqF, D.odd, D.neOk, D.nod, nodL, isOp, inOp, D.flat, varE, cstE, frzE, PyI.frz, seqA, seqV, vals, tupD, lstD, dnewE, testE, truE, truD, notT, andT, orT, yesT, andE, orE, notE, iteE, Res.bind, Res.bindS, deref, slotOf, outsOf, outD, PyI.isi, isiD, biD, ixD, atI, ixN, keyD, slD, partE, seqSl, sl3, negD, callE, callR, argsOf, slotI, fm_v, fm_f, fm_s, wback, setOwn, mtE, mt2, mtD, isTy, Mt.ty, it1, seqD, enumD])
  obtain ⟨cs, ecs, mcs⟩ := out_ones l3
  have lcs : cs.length = n := by
    have := l4
    rw [ecs] at this
    simpa using this
  have s2a : evE cf (.lc [7, 8] (.n 8) (.irng (.var 5)) .tyes (.call fp (.acons (.var 0) (.acons (.frz (.var 2)) .anil)))) [.own true p1, .val k, .val (.str (PySem.Str.ofString "abcxyz019.")), .own false (.lst ts), s4, .val (.int (n : Int)), s6, .no, .no] =
      .ok (.f (.lst (cs.map fun c => D.str (one c)))) [.own true p2, .val k, .val (.str (PySem.Str.ofString "abcxyz019.")), .own false (.lst ts), s4, .val (.int (n : Int)), s6, .no, .no] := by
    rw [← ecs]
    exact e_lc (cf := cf) (vs := [7, 8]) (t := .n 8) (c := .tyes) (e := .call fp (.acons (.var 0) (.acons (.frz (.var 2)) .anil))) (acc := out) (ρ1 := [.own true p1, .val k, .val (.str (PySem.Str.ofString "abcxyz019.")), .own false (.lst ts), s4, .val (.int (n : Int)), s6, .no, .no])
      (ρ2 := [.own true p2, .val k, .val (.str (PySem.Str.ofString "abcxyz019.")), .own false (.lst ts), s4, .val (.int (n : Int)), s6, .no, .no]) (ev_rng (n := n) (op := .v (.int (n : Int))) rfl rfl (by omega)) rfl (by simp; omega) l1
  have s2 : evS cf (.set 6 (.join (.cst (.str (PySem.Str.ofString ""))) (.lc [7, 8] (.n 8) (.irng (.var 5)) .tyes (.call fp (.acons (.var 0) (.acons (.frz (.var 2)) .anil)))))) [.own true p1, .val k, .val (.str (PySem.Str.ofString "abcxyz019.")), .own false (.lst ts), s4, .val (.int (n : Int)), s6, .no, .no] =
      .nx [.own true p2, .val k, .val (.str (PySem.Str.ofString "abcxyz019.")), .own false (.lst ts), s4, .val (.int (n : Int)), .val (.str (mkS cs)), .no, .no] := by
    refine s_set (e_join (z := PySem.Str.ofString "") rfl s2a rfl (joinD_ones (cs := cs) (by omega))) ?_
    simp [putS, setVal, k6]
  cases hi : inD (.str (mkS cs)) ts with
  | true =>
    refine ⟨p2, ts, .val (.int (n : Int)), .val (.str (mkS cs)), ?_, q2, ht, by omega, rfl, rfl⟩
    rw [show mkB fd fp = .seq _ (.seq _ _) from rfl, s_seq s1, s_seq s2]
    have hf := ht.flat
    simp [hi, hf, evS, evE, evT, evI, evL, evP, nextS, breakS, contS, seqS, setS, putS, setVal, keep_no, keep_val, keep_ownf, asgS, asgT, asgTs, retS, retNS, retOp, ifS, storeS, store3, setD, forS, dropS, seq1, seq2, op1, op2, PyI.res, bop, PyI.cop, copB, eqOp, neOp, D.dep, depL, depK, eqv, eqvL, eqF, D.odd, D.neOk, D.nod, nodL, isOp, inOp, D.flat, varE, cstE, frzE, PyI.frz, seqA, seqV, vals, tupD, lstD, dnewE, testE, truE, truD, notT, andT, orT, yesT, andE, orE, notE, iteE, Res.bind, Res.bindS, deref, slotOf, outsOf, outD, PyI.isi, isiD, biD, ixD, atI, ixN, keyD, slD, partE, seqSl, sl3, negD, callE, callR, argsOf, slotI, fm_v, fm_f, fm_s, wback, setOwn, mtE, mt2, mtD, isTy, Mt.ty, it1, seqD, enumD]
  | false =>
    refine ⟨p2, ts ++ [.str (mkS cs)], .val (.int (n : Int)), .val (.str (mkS cs)), ?_, q2, ⟨?_, fun t hm => ?_, ?_⟩, by simp, rfl, rfl⟩
    · rw [show mkB fd fp = .seq _ (.seq _ _) from rfl, s_seq s1, s_seq s2]
      have hf := ht.flat
      simp [hi, hf, hl, evS, evE, evT, evI, evL, evP, nextS, breakS, contS, seqS, setS, putS, setVal, keep_no, keep_val, keep_ownf, asgS, asgT, asgTs, retS, retNS, retOp, ifS, storeS, store3, setD, forS, dropS, seq1, seq2, op1, op2, PyI.res, bop, PyI.cop, copB, eqOp, neOp, D.dep, depL, depK, eqv, eqvL, eqF, D.odd, D.neOk, D.nod, nodL, isOp, inOp, D.flat, varE, cstE, frzE, PyI.frz, seqA, seqV, vals, tupD, lstD, dnewE, testE, truE, truD, notT, andT, orT, yesT, andE, orE, notE, iteE, Res.bind, Res.bindS, deref, slotOf, outsOf, outD, PyI.isi, isiD, biD, ixD, atI, ixN, keyD, slD, partE, seqSl, sl3, negD, callE, callR, argsOf, slotI, fm_v, fm_f, fm_s, wback, setOwn, mtE, mt2, mtD, isTy, Mt.ty, it1, seqD, enumD]
    · obtain ⟨⟨r, e⟩, _⟩ := ht
      exact ⟨r ++ [.str (mkS cs)], by rw [e]; rfl⟩
    · rcases List.mem_append.mp hm with h | h
      · exact ht.2.1 t h
      · exact ⟨cs, by simpa using h, by omega, mcs⟩
    · rw [List.nodup_append]
      exact ⟨ht.2.2, by simp, fun a ha b hb => by
        have : b = .str (mkS cs) := by simpa using hb
        intro e
        exact ht.notin hi (by rw [← this, ← e]; exact ha)⟩
theorem terms_ok (hd : DrawOk (cf fd)) (hp : PickS (cf fp)) : TermsC (callBody cf ⟨9, 2, termsB fd fp⟩) := by
  intro p k h0 k0 k1
  have t0 : TermsOk [.str (mkS [])] := ⟨⟨[], rfl⟩, fun t ht => ⟨[], by simpa using ht, by simp, by simp⟩, by simp⟩
  obtain ⟨n, rfl⟩ := Int.eq_ofNat_of_zero_le k0
  obtain ⟨ρ', l1, p', ts, s4, s5, s6, rfl, q1, q2, q3, _⟩ := forL_inv (t := .n 4) (p := evS cf (mkB fd fp)) (fun i ρ => ∃ p ts s4 s5 s6, ρ = [.own true p, .val (.int (n : Int)), .val (.str (PySem.Str.ofString "abcxyz019.")), .own false (.lst ts), s4, s5, s6, .no, .no] ∧ IsPool p ∧ TermsOk ts ∧ ts.length ≤ i + 1 ∧ s4.idle = true ∧ s5.idle = true ∧ s6.idle = true)
    ((List.range n).map fun (i : Nat) => D.int (0 + (i : Int))) 0 [.own true p, .val (.int (n : Int)), .val (.str (PySem.Str.ofString "abcxyz019.")), .own false (.lst [.str (mkS [])]), .no, .no, .no, .no, .no] ⟨p, _, _, _, _, rfl, h0, t0, by simp, rfl, rfl, rfl⟩ (fun i d ρ hi ⟨p, ts, s4, s5, s6, e, q1, q2, q3, i4, i5, i6⟩ => by
      subst e
      have hi' : i < n := by
        have := (List.getElem?_eq_some_iff.mp hi).1
        simpa using this
      obtain ⟨p', ts', s5', s6', m1, m2, m3, m4, m5, m6⟩ := mk_ok (s4 := .val d) (k := .int (n : Int)) hd hp q1 q2 (by omega) i5 i6
      exact ⟨[.own true p, .val (.int (n : Int)), .val (.str (PySem.Str.ofString "abcxyz019.")), .own false (.lst ts), .val d, s5, s6, .no, .no], _, by simp [asgT, setVal, idle_keep i4], .inl m1, p', ts', .val d, s5', s6', rfl, m2, m3, by omega, rfl, m5, m6⟩)
  refine ⟨ts, p', c_retf (ρ' := [.own true p', .val (.int (n : Int)), .val (.str (PySem.Str.ofString "abcxyz019.")), .no, s4, s5, s6, .no, .no]) ?_, q1, q2, ?_⟩
  · show evS cf (termsB fd fp) [.own true p, .val (.int (n : Int)), .no, .no, .no, .no, .no, .no, .no] = _
    have a1 : evS cf (.set 2 (.cst (.str (PySem.Str.ofString "abcxyz019.")))) [.own true p, .val (.int (n : Int)), .no, .no, .no, .no, .no, .no, .no] = .nx [.own true p, .val (.int (n : Int)), .val (.str (PySem.Str.ofString "abcxyz019.")), .no, .no, .no, .no, .no, .no] := rfl
    have a2 : evS cf (.set 3 (.lst (.acons (.frz (.cst (.str (PySem.Str.ofString "")))) .anil))) [.own true p, .val (.int (n : Int)), .val (.str (PySem.Str.ofString "abcxyz019.")), .no, .no, .no, .no, .no, .no] = .nx [.own true p, .val (.int (n : Int)), .val (.str (PySem.Str.ofString "abcxyz019.")), .own false (.lst [.str (mkS [])]), .no, .no, .no, .no, .no] := rfl
    have a3 : evS cf (.fors (.n 4) (.irng (.var 1)) (mkB fd fp)) [.own true p, .val (.int (n : Int)), .val (.str (PySem.Str.ofString "abcxyz019.")), .own false (.lst [.str (mkS [])]), .no, .no, .no, .no, .no] = .nx _ :=
      (s_for (ev_rng (n := n) (op := .v (.int (n : Int))) rfl rfl (by omega))).trans l1
    rw [show termsB fd fp = .seq _ (.seq _ (.seq _ _)) from rfl, s_seq a1, s_seq a2, s_seq a3]
    rfl
  · simp at q3; omega
end
end PyI
set_option maxHeartbeats 0
namespace K01
open PySem PySem.Spec PyProof.Rows L2 PyI
abbrev RW := PySem.Challenge.rw_trustlinks_k01_whole_values_put_in
abbrev pw := PySem.Challenge.pw_trustlinks_k01_whole_values_put_in
def cs : List (Str × PyI.D) := []
def es : List Ent := [
  ⟨"put_in", 1, ["clause", "places", "made", "one", "other", "number", "left", "less", "right", "more", ".0", "term"], [false, false]⟩,
  ⟨"_law_pool", 3, ["_law_script", "_law_cells", "_law_great", "_law_small", ".0", "_law_cell"], [false]⟩,
  ⟨"_law_draw", 4, ["_law_pool_here", "_law_many", "_law_great", "_law_digit", "_law_seed", "_law_number_here"], [true, false]⟩,
  ⟨"_law_pick", 5, ["_law_pool_here", "_law_items"], [true, false]⟩,
  ⟨"_law_number", 6, ["_law_pool_here", "_law_kind", "_law_number_here"], [true]⟩,
  ⟨"_law_literal", 7, ["_law_pool_here", "_law_terms"], [true, false]⟩,
  ⟨"_law_clause", 8, ["_law_pool_here", "_law_terms", "_law_twos", "_law_clause_here"], [true, false, false]⟩,
  ⟨"_law_some_terms", 9, ["_law_pool_here", "_law_many", "_law_signs", "_law_terms", "_law_k", "_law_size", "_law_term", ".0", "_law_sign"], [true, false]⟩,
  ⟨"_law_due", 10, ["_law_clause_here", "_law_places_here", "_law_found", "_law_one", "_law_other", "_law_number_here", "_law_left", "_law_right"], [false, false]⟩,
  ⟨"_law_true", 11, ["_law_clause_here", "_law_values", ".0", "_law_one", "_law_other", "_law_number_here"], [false, false]⟩,
  ⟨"_law_places", 12, ["_law_pool_here", "_law_terms", "_law_places_here", "_law_term"], [true, false]⟩,
  ⟨"law", 13, ["_law_script", "_law_pool_here", "_law_terms", "_law_k", "_law_clause_here", "_law_places_here", "_law_kept", "_law_told", "_law_odd", "_law_again", "_law_values", "_law_term", "_law_moved", "_law_more", "_law_both", "_law_first", "_law_second"], [false]⟩]
def b0 : S := .seq (.set 1 (.dc [10, 11] (.n 11) (.iseq (.var 1)) (.tv (.cmp .ne (.var 11) (.cst (.str (PySem.Str.ofString ""))))) (.var 11) (.sub (.var 1) (.var 11)))) (.seq (.set 2 (.lst .anil)) (.seq (.fors (.tup [.n 3, .n 4, .n 5]) (.iseq (.var 0)) (.seq (.asg (.tup [.n 6, .n 7]) (.get (.var 1) (.var 3) (.tup (.acons (.frz (.var 3)) (.acons (.frz (.cst (.int 0))) .anil))))) (.seq (.asg (.tup [.n 8, .n 9]) (.get (.var 1) (.var 4) (.tup (.acons (.frz (.var 4)) (.acons (.frz (.cst (.int 0))) .anil))))) (.drop (.mt .append 2 (.acons (.frz (.tup (.acons (.frz (.var 6)) (.acons (.frz (.var 8)) (.acons (.frz (.bin .sub (.bin .add (.var 5) (.var 9)) (.var 7))) .anil))))) .anil)))))) (.ret (.bi .tuple (.var 2)))))
def g0 : FnI := ⟨12, 2, b0⟩
def b1 : S := .seq (.set 1 (.lc [4, 5] (.n 5) (.iseq (.slc (.var 0) .nopart (.acons (.cst (.int 63)) .anil))) .tyes (.bi .abs (.bi .int (.var 5))))) (.seq (.set 2 (.lc [4, 5] (.n 5) (.iseq (.var 1)) (.tv (.cmp .ge (.var 5) (.bin .pow (.cst (.int 10)) (.cst (.int 18))))) (.var 5))) (.seq (.set 3 (.lc [4, 5] (.n 5) (.iseq (.var 1)) (.tv (.cmp .lt (.var 5) (.bin .pow (.cst (.int 10)) (.cst (.int 18))))) (.bin .mod (.bi .int (.var 5)) (.cst (.int 1000003))))) (.ret (.lst (.acons (.frz (.var 2)) (.acons (.frz (.var 3)) (.acons (.frz (.cst (.int 0))) (.acons (.frz (.cst (.int 0))) .anil))))))))
def g1 : FnI := ⟨6, 1, b1⟩
def b2 : S := .seq (.ifs (.tand (.tv (.cmp .eq (.sub (.var 0) (.cst (.int 2))) (.cst (.int 0)))) (.tv (.cmp .gt (.bi .len (.sub (.var 0) (.cst (.int 0)))) (.cst (.int 0))))) (.seq (.set 2 (.sub (.var 0) (.cst (.int 0)))) (.seq (.store 0 (.cst (.int 2)) (.sub (.var 2) (.cst (.int 0)))) (.store 0 (.cst (.int 0)) (.slc (.var 2) (.acons (.cst (.int 1)) .anil) .nopart)))) .nx) (.seq (.ifs (.tv (.cmp .gt (.sub (.var 0) (.cst (.int 2))) (.cst (.int 0)))) (.seq (.set 3 (.bin .mod (.bi .int (.sub (.var 0) (.cst (.int 2)))) (.var 1))) (.seq (.store 0 (.cst (.int 2)) (.bin .fdiv (.sub (.var 0) (.cst (.int 2))) (.var 1))) (.ret (.var 3)))) .nx) (.seq (.store 0 (.cst (.int 3)) (.bin .add (.sub (.var 0) (.cst (.int 3))) (.cst (.int 1)))) (.seq (.set 4 (.cst (.int 0))) (.seq (.ifs (.tv (.cmp .gt (.bi .len (.sub (.var 0) (.cst (.int 1)))) (.cst (.int 0)))) (.set 4 (.sub (.sub (.var 0) (.cst (.int 1))) (.bin .mod (.bi .int (.sub (.var 0) (.cst (.int 3)))) (.bi .len (.sub (.var 0) (.cst (.int 1))))))) .nx) (.seq (.set 5 (.bin .mod (.bi .int (.bin .mul (.bin .add (.bin .add (.var 4) (.bin .mul (.cst (.int 7919)) (.sub (.var 0) (.cst (.int 3))))) (.cst (.int 1))) (.cst (.int 48271)))) (.cst (.int 2147483647)))) (.seq (.set 5 (.bin .mod (.bi .int (.bin .mul (.var 5) (.bin .add (.bin .fdiv (.var 5) (.cst (.int 1009))) (.cst (.int 69621))))) (.cst (.int 2147483647)))) (.seq (.set 5 (.bin .mod (.bi .int (.bin .mul (.var 5) (.bin .add (.bin .fdiv (.var 5) (.cst (.int 2003))) (.cst (.int 40692))))) (.cst (.int 2147483399)))) (.ret (.bin .mod (.bi .int (.bin .fdiv (.var 5) (.cst (.int 16)))) (.var 1))))))))))
def g2 : FnI := ⟨6, 2, b2⟩
def b3 : S := .ret (.sub (.var 1) (.call 2 (.acons (.var 0) (.acons (.frz (.bi .len (.var 1))) .anil))))
def g3 : FnI := ⟨2, 2, b3⟩
def b4 : S := .seq (.set 1 (.call 2 (.acons (.var 0) (.acons (.frz (.cst (.int 12))) .anil)))) (.seq (.set 2 (.bin .sub (.call 2 (.acons (.var 0) (.acons (.frz (.cst (.int 7))) .anil))) (.cst (.int 3)))) (.seq (.ifs (.tv (.cmp .eq (.var 1) (.cst (.int 0)))) (.set 2 (.bin .sub (.call 2 (.acons (.var 0) (.acons (.frz (.cst (.int 2001))) .anil))) (.cst (.int 1000)))) .nx) (.seq (.ifs (.tv (.cmp .eq (.var 1) (.cst (.int 1)))) (.set 2 (.bin .add (.bin .mul (.bin .sub (.call 2 (.acons (.var 0) (.acons (.frz (.cst (.int 3))) .anil))) (.cst (.int 1))) (.bin .pow (.cst (.int 10)) (.cst (.int 40)))) (.var 2))) .nx) (.ret (.var 2)))))
def g4 : FnI := ⟨3, 1, b4⟩
def b5 : S := .ret (.tup (.acons (.frz (.call 3 (.acons (.var 0) (.acons (.frz (.var 1)) .anil)))) (.acons (.frz (.call 3 (.acons (.var 0) (.acons (.frz (.var 1)) .anil)))) (.acons (.frz (.call 4 (.acons (.var 0) .anil))) .anil))))
def g5 : FnI := ⟨2, 2, b5⟩
def b6 : S := .seq (.set 3 (.tup (.acons (.frz (.call 5 (.acons (.var 0) (.acons (.frz (.var 1)) .anil)))) .anil))) (.seq (.ifs (.tv (.cmp .lt (.call 2 (.acons (.var 0) (.acons (.frz (.cst (.int 4))) .anil))) (.var 2))) (.set 3 (.bin .add (.var 3) (.tup (.acons (.frz (.call 5 (.acons (.var 0) (.acons (.frz (.var 1)) .anil)))) .anil)))) .nx) (.ret (.var 3)))
def g6 : FnI := ⟨4, 3, b6⟩
def b7 : S := .seq (.set 2 (.cst (.str (PySem.Str.ofString "abcxyz019.")))) (.seq (.set 3 (.lst (.acons (.frz (.cst (.str (PySem.Str.ofString "")))) .anil))) (.seq (.fors (.n 4) (.irng (.var 1)) (.seq (.set 5 (.sub (.lst (.acons (.frz (.cst (.int 1))) (.acons (.frz (.cst (.int 1))) (.acons (.frz (.cst (.int 2))) (.acons (.frz (.cst (.int 4))) (.acons (.frz (.cst (.int 20))) .anil)))))) (.call 2 (.acons (.var 0) (.acons (.frz (.cst (.int 5))) .anil))))) (.seq (.set 6 (.join (.cst (.str (PySem.Str.ofString ""))) (.lc [7, 8] (.n 8) (.irng (.var 5)) .tyes (.call 3 (.acons (.var 0) (.acons (.frz (.var 2)) .anil)))))) (.ifs (.tv (.cmp .notin (.var 6) (.var 3))) (.drop (.mt .append 3 (.acons (.frz (.var 6)) .anil))) .nx)))) (.ret (.var 3))))
def g7 : FnI := ⟨9, 2, b7⟩
def b8 : S := .seq (.set 2 (.lst .anil)) (.seq (.fors (.tup [.n 3, .n 4, .n 5]) (.iseq (.var 0)) (.seq (.set 6 (.get (.var 1) (.var 3) (.tup (.acons (.frz (.var 3)) (.acons (.frz (.cst (.int 0))) .anil))))) (.seq (.set 7 (.get (.var 1) (.var 4) (.tup (.acons (.frz (.var 4)) (.acons (.frz (.cst (.int 0))) .anil))))) (.drop (.mt .append 2 (.acons (.frz (.tup (.acons (.frz (.sub (.var 6) (.cst (.int 0)))) (.acons (.frz (.sub (.var 7) (.cst (.int 0)))) (.acons (.frz (.bin .sub (.bin .add (.var 5) (.sub (.var 7) (.cst (.int 1)))) (.sub (.var 6) (.cst (.int 1))))) .anil))))) .anil)))))) (.ret (.bi .tuple (.var 2))))
def g8 : FnI := ⟨8, 2, b8⟩
def b9 : S := .ret (.cmp .isin (.cst (.bl true)) (.lc [2, 3, 4, 5] (.tup [.n 3, .n 4, .n 5]) (.iseq (.var 0)) .tyes (.cmp .le (.sub (.var 1) (.var 3)) (.bin .add (.sub (.var 1) (.var 4)) (.var 5)))))
def g9 : FnI := ⟨6, 2, b9⟩
def b10 : S := .seq (.set 2 .dnew) (.seq (.fors (.n 3) (.iseq (.slc (.var 1) (.acons (.cst (.int 1)) .anil) .nopart)) (.ifs (.tv (.cmp .eq (.call 2 (.acons (.var 0) (.acons (.frz (.cst (.int 2))) .anil))) (.cst (.int 0)))) (.store 2 (.var 3) (.tup (.acons (.frz (.call 3 (.acons (.var 0) (.acons (.frz (.var 1)) .anil)))) (.acons (.frz (.call 4 (.acons (.var 0) .anil))) .anil)))) .nx)) (.ret (.var 2)))
def g10 : FnI := ⟨4, 2, b10⟩
def b11 : S := .seq (.set 1 (.call 1 (.acons (.frz (.var 0)) .anil))) (.seq (.set 2 (.call 7 (.acons (.var 1) (.acons (.frz (.cst (.int 5))) .anil)))) (.seq (.fors (.n 3) (.irng (.cst (.int 4))) (.seq (.set 4 (.call 6 (.acons (.var 1) (.acons (.frz (.var 2)) (.acons (.frz (.cst (.int 2))) .anil))))) (.seq (.set 5 (.call 10 (.acons (.var 1) (.acons (.frz (.var 2)) .anil)))) (.seq (.set 6 (.copy (.var 5))) (.seq (.set 7 (.call 0 (.acons (.frz (.var 4)) (.acons (.frz (.var 5)) .anil)))) (.seq (.ifs (.tor (.tv (.cmp .ne (.var 7) (.call 8 (.acons (.frz (.var 4)) (.acons (.frz (.var 5)) .anil))))) (.tor (.tnot (.tt (.isi .tuple (.var 7)))) (.tv (.cmp .ne (.var 5) (.var 6))))) (.ret (.cst (.bl false))) .nx) (.seq (.set 8 (.copy (.var 5))) (.seq (.store 8 (.cst (.str (PySem.Str.ofString ""))) (.tup (.acons (.frz (.call 3 (.acons (.var 1) (.acons (.frz (.var 2)) .anil)))) (.acons (.frz (.bin .add (.cst (.int 1)) (.call 2 (.acons (.var 1) (.acons (.frz (.cst (.int 9))) .anil))))) .anil)))) (.seq (.ifs (.tv (.cmp .ne (.call 0 (.acons (.frz (.var 4)) (.acons (.frz (.var 8)) .anil))) (.var 7))) (.ret (.cst (.bl false))) .nx) (.seq (.fors (.n 9) (.irng (.cst (.int 4))) (.seq (.set 10 .dnew) (.seq (.fors (.n 11) (.iseq (.var 2)) (.store 10 (.var 11) (.call 4 (.acons (.var 1) .anil)))) (.seq (.store 10 (.cst (.str (PySem.Str.ofString ""))) (.cst (.int 0))) (.seq (.set 12 (.copy (.var 10))) (.seq (.fors (.n 11) (.iseq (.var 5)) (.store 12 (.var 11) (.bin .add (.sub (.var 10) (.sub (.sub (.var 5) (.var 11)) (.cst (.int 0)))) (.sub (.sub (.var 5) (.var 11)) (.cst (.int 1)))))) (.ifs (.tv (.cmp .ne (.call 9 (.acons (.frz (.var 7)) (.acons (.frz (.var 10)) .anil))) (.call 9 (.acons (.frz (.var 4)) (.acons (.frz (.var 12)) .anil))))) (.ret (.cst (.bl false))) .nx))))))) (.seq (.set 13 (.call 10 (.acons (.var 1) (.acons (.frz (.var 2)) .anil)))) (.seq (.set 14 .dnew) (.seq (.fors (.n 11) (.iseq (.var 2)) (.seq (.set 15 (.get (.var 5) (.var 11) (.tup (.acons (.frz (.var 11)) (.acons (.frz (.cst (.int 0))) .anil))))) (.seq (.set 16 (.get (.var 13) (.sub (.var 15) (.cst (.int 0))) (.tup (.acons (.frz (.sub (.var 15) (.cst (.int 0)))) (.acons (.frz (.cst (.int 0))) .anil))))) (.store 14 (.var 11) (.tup (.acons (.frz (.sub (.var 16) (.cst (.int 0)))) (.acons (.frz (.bin .add (.sub (.var 15) (.cst (.int 1))) (.sub (.var 16) (.cst (.int 1))))) .anil))))))) (.ifs (.tor (.tv (.cmp .ne (.call 0 (.acons (.frz (.var 7)) (.acons (.frz (.var 13)) .anil))) (.call 0 (.acons (.frz (.var 4)) (.acons (.frz (.var 14)) .anil))))) (.tv (.cmp .ne (.call 0 (.acons (.frz (.var 4)) (.acons (.frz .dnew) .anil))) (.var 4)))) (.ret (.cst (.bl false))) .nx)))))))))))))) (.ret (.cst (.bl true)))))
def g11 : FnI := ⟨17, 1, b11⟩
def G : List FnI := [g0, g1, g2, g3, g4, g5, g6, g7, g8, g9, g10, g11]
theorem G_eq : es.map (entI pw (tabOf es) cs) = G := by kernel_rfl
theorem ent_ok : es.all (entC pw (tabOf es) cs) = true := by kernel_rfl
end K01
set_option maxHeartbeats 1000000
/-! K00b: the checks of literals and clauses, by the program and by the law. -/
namespace PyI
open PySem PySem.Spec PyProof.Rows L2
mutual
def D.nice : D → Bool
  | .tup xs => niceA xs
  | .lst xs => niceA xs
  | .str z => decide (z.length ≤ 50000)
  | .ins _ _ => false
  | _ => true
def niceA : List D → Bool
  | [] => true
  | x :: xs => x.nice && niceA xs
end
theorem niceA_mem : ∀ {xs : List D}, niceA xs = true → ∀ x ∈ xs, x.nice = true
  | [], _, x, h => by cases h
  | y :: ys, h, x, hx => by
    simp only [niceA, Bool.and_eq_true] at h
    rcases List.mem_cons.mp hx with e | e
    · rw [e]; exact h.1
    · exact niceA_mem h.2 x e
def alphaS : Str := PySem.Str.ofString "abcdefghijklmnopqrstuvwxyz0123456789."
def alB (c : Nat) : Bool := decide (c ∈ alphaS.cps.toList)
def termB : D → Bool
  | .str z => decide (z.length ≤ 20) && z.cps.toList.all alB
  | _ => false
def intB : D → Bool
  | .int _ => true
  | _ => false
def litB : D → Bool
  | .tup [x, y, z] => termB x && (termB y && intB z)
  | _ => false
def clauB : D → Bool
  | .tup [x] => litB x
  | .tup [x, y] => litB x && litB y
  | _ => false
/-- a check that answers as b -/
def Chk (c : List Arg → CRes) (b : D → Bool) : Prop := ∀ d : D, d.nice = true → ∃ o, c [.v d] = .ok (.v (.bl (b d))) o
def isIntB : S := .ret (.an (.isi .int (.var 0)) (.nt (.isi .bool (.var 0))))
section
variable {cf : CF}
theorem isInt_ok : Chk (callBody cf ⟨1, 1, isIntB⟩) intB := by
  intro d hn
  refine ⟨_, c_ret (ρ' := [.val d]) ?_⟩
  cases d with
  | ins c fs => cases hn
  | _ => rfl
theorem bls_map {α : Type} (p : α → Bool) : ∀ cs : List α, bls (cs.map fun c => D.bl (p c)) = some (cs.map p)
  | [] => rfl
  | c :: cs => by simp [bls, bls_map p cs]
def termLc : E := .lc [1, 2] (.n 2) (.iseq (.var 0)) .tyes (.cmp .isin (.var 2) (.cst (.str (PySem.Str.ofString "abcdefghijklmnopqrstuvwxyz0123456789."))))
def isTermB : S := .seq (.ifs (.tor (.tnot (.tt (.isi .str (.var 0)))) (.tv (.cmp .gt (.bi .len (.var 0)) (.cst (.int 20))))) (.ret (.cst (.bl false))) .nx) (.ret (.bi .all termLc))
def lawTermLc : E := .lc [1, 2] (.n 2) (.iseq (.var 0)) (.tv (.cmp .notin (.var 2) (.cst (.str (PySem.Str.ofString "abcdefghijklmnopqrstuvwxyz0123456789."))))) (.var 2)
def lawTermB : S := .seq (.ifs (.tor (.tnot (.tt (.isi .str (.var 0)))) (.tv (.cmp .gt (.bi .len (.var 0)) (.cst (.int 20))))) (.ret (.cst (.bl false))) .nx) (.ret (.cmp .eq (.bi .len lawTermLc) (.cst (.int 0))))
def charOf : D → Nat
  | .str z => z.cps.getD 0 0
  | _ => 0
theorem one_len (c : Nat) : (one c).length = 1 := rfl
theorem charOf_one (c : Nat) : charOf (.str (one c)) = c := rfl
theorem in_alpha (c : Nat) : inOp (.str (one c)) (.str (PySem.Str.ofString "abcdefghijklmnopqrstuvwxyz0123456789.")) = some (alB c) := by
  simp only [inOp]
  rw [if_pos (one_len c)]; rfl
theorem termLc_ok {z : Str} (h : z.length ≤ 20) : evE cf termLc [.val (.str z), .no, .no] = .ok (.f (.lst (z.cps.toList.map fun c => D.bl (alB c)))) [.val (.str z), .no, .no] := by
  refine e_lc (cf := cf) (ρ1 := [.val (.str z), .no, .no]) (ρ2 := [.val (.str z), .no, .no]) (items := z.cps.toList.map fun c => D.str (one c)) (ev_seq (op := .v (.str z)) (d := .str z) rfl rfl rfl) rfl (by rw [List.length_map]; exact Nat.le_trans h (by decide)) ?_
  have := lcL_pure (vs := [1, 2]) (t := .n 2) (c := yesT) (e := frzE (evE cf (.cmp .isin (.var 2) (.cst (.str (PySem.Str.ofString "abcdefghijklmnopqrstuvwxyz0123456789.")))))) (ρ0 := [.val (.str z), .no, .no]) (fun _ => true) (fun d => .bl (alB (charOf d))) (z.cps.toList.map fun c => D.str (one c)) [] (fun d hd => by
    obtain ⟨c, _, rfl⟩ := List.mem_map.mp hd
    have e1 : copB .isin (.str (one c)) (.str (PySem.Str.ofString "abcdefghijklmnopqrstuvwxyz0123456789.")) = some (alB c) := in_alpha c
    refine ⟨[.val (.str z), .no, .val (.str (one c))], _, rfl, rfl, fun _ => ⟨[.val (.str z), .no, .val (.str (one c))], ?_, rfl, rfl⟩, fun q => by cases q⟩
    show frzE (seq2 (varE 2) (cstE _) (op2 (PyI.cop .isin))) _ = _
    simp [frzE, seq2, varE, cstE, op2, PyI.cop, deref, e1, PyI.res, PyI.frz, Res.bind, charOf_one])
  refine Eq.trans this ?_
  rw [List.filter_eq_self.mpr (fun _ _ => rfl), List.nil_append, List.map_map]
  rfl
theorem lawTermLc_ok {z : Str} (h : z.length ≤ 20) : evE cf lawTermLc [.val (.str z), .no, .no] = .ok (.f (.lst ((z.cps.toList.filter fun c => !alB c).map fun c => D.str (one c)))) [.val (.str z), .no, .no] := by
  refine e_lc (cf := cf) (ρ1 := [.val (.str z), .no, .no]) (ρ2 := [.val (.str z), .no, .no]) (items := z.cps.toList.map fun c => D.str (one c)) (ev_seq (op := .v (.str z)) (d := .str z) rfl rfl rfl) rfl (by rw [List.length_map]; exact Nat.le_trans h (by decide)) ?_
  have := lcL_pure (vs := [1, 2]) (t := .n 2) (c := evT cf (.tv (.cmp .notin (.var 2) (.cst (.str (PySem.Str.ofString "abcdefghijklmnopqrstuvwxyz0123456789.")))))) (e := frzE (evE cf (.var 2))) (ρ0 := [.val (.str z), .no, .no]) (fun d => !alB (charOf d)) (fun d => d) (z.cps.toList.map fun c => D.str (one c)) [] (fun d hd => by
    obtain ⟨c, _, rfl⟩ := List.mem_map.mp hd
    have e1 : copB .notin (.str (one c)) (.str (PySem.Str.ofString "abcdefghijklmnopqrstuvwxyz0123456789.")) = some (!alB c) := by
      simp only [copB, in_alpha, Option.map_some]
    refine ⟨[.val (.str z), .no, .val (.str (one c))], [.val (.str z), .no, .val (.str (one c))], rfl, ?_, fun _ => ⟨[.val (.str z), .no, .val (.str (one c))], rfl, rfl, rfl⟩, fun _ => ⟨rfl, rfl⟩⟩
    show testE (seq2 (varE 2) (cstE _) (op2 (PyI.cop .notin))) _ = _
    simp [testE, seq2, varE, cstE, op2, PyI.cop, deref, e1, PyI.res, Res.bind, charOf_one])
  refine Eq.trans this ?_
  simp only [List.nil_append, List.map_id', List.filter_map]
  rfl
theorem isTerm_ok : Chk (callBody cf ⟨3, 1, isTermB⟩) termB := by
  intro d hn
  cases d with
  | str z =>
    have hl : z.length ≤ 100000 := by
      have : z.length ≤ 50000 := by simpa [D.nice] using hn
      omega
    by_cases h20 : z.length ≤ 20
    · have h1 : evS cf (.ifs (.tor (.tnot (.tt (.isi .str (.var 0)))) (.tv (.cmp .gt (.bi .len (.var 0)) (.cst (.int 20))))) (.ret (.cst (.bl false))) .nx) [.val (.str z), .no, .no] = .nx [.val (.str z), .no, .no] := by
        have h20' : ¬ (20 : Int) < (z.length : Int) := by omega
        simp [hl, h20', evS, evE, evT, evI, evL, evP, nextS, breakS, contS, seqS, setS, putS, setVal, keep_no, keep_val, keep_ownf, asgS, asgT, asgTs, retS, retNS, retOp, ifS, storeS, store3, setD, forS, dropS, seq1, seq2, op1, op2, PyI.res, bop, PyI.cop, copB, eqOp, neOp, D.dep, depL, depK, eqv, eqvL, eqF, D.odd, D.neOk, D.nod, nodL, isOp, inOp, D.flat, varE, cstE, frzE, PyI.frz, seqA, seqV, vals, tupD, lstD, dnewE, testE, truE, truD, notT, andT, orT, yesT, andE, orE, notE, iteE, Res.bind, Res.bindS, deref, slotOf, outsOf, outD, PyI.isi, isiD, biD, ixD, atI, ixN, keyD, slD, partE, seqSl, sl3, negD, callE, callR, argsOf, slotI, fm_v, fm_f, fm_s, wback, setOwn, mtE, mt2, mtD, isTy, Mt.ty, it1, seqD, enumD]
      have h2 : evS cf (.ret (.bi .all termLc)) [.val (.str z), .no, .no] = .ret (.v (.bl (termB (.str z)))) [.val (.str z), .no, .no] := by
        show retS (seq1 (evE cf termLc) (op1 (biD .all))) _ = _
        unfold retS seq1
        rw [termLc_ok h20]
        simp [op1, deref, biD, bls_map, Res.bind, Res.bindS, PyI.res, retOp, termB, h20, List.all_map]
      exact ⟨_, c_ret (ρ' := [.val (.str z), .no, .no]) ((s_seq h1).trans h2)⟩
    · have h20' : (20 : Int) < (z.length : Int) := by omega
      exact ⟨_, c_ret (d := .bl (termB (.str z))) (ρ' := [.val (.str z), .no, .no]) (by simp [isTermB, hl, h20, h20', termB, evS, evE, evT, evI, evL, evP, nextS, breakS, contS, seqS, setS, putS, setVal, keep_no, keep_val, keep_ownf, asgS, asgT, asgTs, retS, retNS, retOp, ifS, storeS, store3, setD, forS, dropS, seq1, seq2, op1, op2, PyI.res, bop, PyI.cop, copB, eqOp, neOp, D.dep, depL, depK, eqv, eqvL, eqF, D.odd, D.neOk, D.nod, nodL, isOp, inOp, D.flat, varE, cstE, frzE, PyI.frz, seqA, seqV, vals, tupD, lstD, dnewE, testE, truE, truD, notT, andT, orT, yesT, andE, orE, notE, iteE, Res.bind, Res.bindS, deref, slotOf, outsOf, outD, PyI.isi, isiD, biD, ixD, atI, ixN, keyD, slD, partE, seqSl, sl3, negD, callE, callR, argsOf, slotI, fm_v, fm_f, fm_s, wback, setOwn, mtE, mt2, mtD, isTy, Mt.ty, it1, seqD, enumD])⟩
  | ins c fs => cases hn
  | _ => exact ⟨_, c_ret (ρ' := [.val _, .no, .no]) rfl⟩
theorem lawTerm_ok : Chk (callBody cf ⟨3, 1, lawTermB⟩) termB := by
  intro d hn
  cases d with
  | str z =>
    have hl : z.length ≤ 100000 := by
      have : z.length ≤ 50000 := by simpa [D.nice] using hn
      omega
    by_cases h20 : z.length ≤ 20
    · have h1 : evS cf (.ifs (.tor (.tnot (.tt (.isi .str (.var 0)))) (.tv (.cmp .gt (.bi .len (.var 0)) (.cst (.int 20))))) (.ret (.cst (.bl false))) .nx) [.val (.str z), .no, .no] = .nx [.val (.str z), .no, .no] := by
        have h20' : ¬ (20 : Int) < (z.length : Int) := by omega
        simp [hl, h20', evS, evE, evT, evI, evL, evP, nextS, breakS, contS, seqS, setS, putS, setVal, keep_no, keep_val, keep_ownf, asgS, asgT, asgTs, retS, retNS, retOp, ifS, storeS, store3, setD, forS, dropS, seq1, seq2, op1, op2, PyI.res, bop, PyI.cop, copB, eqOp, neOp, D.dep, depL, depK, eqv, eqvL, eqF, D.odd, D.neOk, D.nod, nodL, isOp, inOp, D.flat, varE, cstE, frzE, PyI.frz, seqA, seqV, vals, tupD, lstD, dnewE, testE, truE, truD, notT, andT, orT, yesT, andE, orE, notE, iteE, Res.bind, Res.bindS, deref, slotOf, outsOf, outD, PyI.isi, isiD, biD, ixD, atI, ixN, keyD, slD, partE, seqSl, sl3, negD, callE, callR, argsOf, slotI, fm_v, fm_f, fm_s, wback, setOwn, mtE, mt2, mtD, isTy, Mt.ty, it1, seqD, enumD]
      have h2 : evS cf (.ret (.cmp .eq (.bi .len lawTermLc) (.cst (.int 0)))) [.val (.str z), .no, .no] = .ret (.v (.bl (termB (.str z)))) [.val (.str z), .no, .no] := by
        show retS (seq2 (seq1 (evE cf lawTermLc) (op1 (biD .len))) (cstE _) (op2 (PyI.cop .eq))) _ = _
        unfold retS seq2 seq1
        rw [lawTermLc_ok h20]
        have e : (decide (((z.cps.toList.filter fun c => !alB c).map fun c => D.str (one c)).length = 0)) = z.cps.toList.all alB := by
          rw [List.length_map, decide_eq_decide.mpr List.length_eq_zero_iff]
          cases ha : z.cps.toList.all alB with
          | true =>
            rw [List.all_eq_true] at ha
            exact decide_eq_true (List.filter_eq_nil_iff.mpr fun c hc => by simp [ha c hc])
          | false =>
            refine decide_eq_false fun q => ?_
            rw [List.filter_eq_nil_iff] at q
            have : z.cps.toList.all alB = true := List.all_eq_true.mpr fun c hc => by simpa using q c hc
            rw [this] at ha; cases ha
        have e2 : (((((z.cps.toList.filter fun c => !alB c).map fun c => D.str (one c)).length : Nat) : Int) == 0) = z.cps.toList.all alB := by
          rw [← e]
          cases h : decide (((z.cps.toList.filter fun c => !alB c).map fun c => D.str (one c)).length = 0) with
          | true => have := of_decide_eq_true h; rw [this]; rfl
          | false => have := of_decide_eq_false h; exact beq_eq_false_iff_ne.mpr (by omega)
        simp only [op1, op2, deref, biD, cstE, PyI.cop, copB, eqOp, D.dep, eqv, D.odd, eqF, Res.bind, Res.bindS, PyI.res, retOp, termB, h20, e2]
        simp [e2, retOp]
      exact ⟨_, c_ret (ρ' := [.val (.str z), .no, .no]) ((s_seq h1).trans h2)⟩
    · have h20' : (20 : Int) < (z.length : Int) := by omega
      exact ⟨_, c_ret (d := .bl (termB (.str z))) (ρ' := [.val (.str z), .no, .no]) (by simp [lawTermB, hl, h20, h20', termB, evS, evE, evT, evI, evL, evP, nextS, breakS, contS, seqS, setS, putS, setVal, keep_no, keep_val, keep_ownf, asgS, asgT, asgTs, retS, retNS, retOp, ifS, storeS, store3, setD, forS, dropS, seq1, seq2, op1, op2, PyI.res, bop, PyI.cop, copB, eqOp, neOp, D.dep, depL, depK, eqv, eqvL, eqF, D.odd, D.neOk, D.nod, nodL, isOp, inOp, D.flat, varE, cstE, frzE, PyI.frz, seqA, seqV, vals, tupD, lstD, dnewE, testE, truE, truD, notT, andT, orT, yesT, andE, orE, notE, iteE, Res.bind, Res.bindS, deref, slotOf, outsOf, outD, PyI.isi, isiD, biD, ixD, atI, ixN, keyD, slD, partE, seqSl, sl3, negD, callE, callR, argsOf, slotI, fm_v, fm_f, fm_s, wback, setOwn, mtE, mt2, mtD, isTy, Mt.ty, it1, seqD, enumD])⟩
  | ins c fs => cases hn
  | _ => exact ⟨_, c_ret (ρ' := [.val _, .no, .no]) rfl⟩
end
end PyI
set_option maxHeartbeats 1000000
/-! K00c: literals and clauses checked. -/
namespace PyI
open PySem PySem.Spec PyProof.Rows L2
theorem wb1 {ρ : Env} {d : D} : ∀ o, wback ρ [.v d] o = ρ
  | [] => rfl
  | _ :: _ => rfl
theorem wb2 {ρ : Env} {d e : D} : ∀ o, wback ρ [.v d, .v e] o = ρ
  | [] => rfl
  | [_] => rfl
  | _ :: _ :: _ => rfl
def isLitB (ft fi : Nat) : S := .seq (.ifs (.tor (.tnot (.tt (.isi .tuple (.var 0)))) (.tv (.cmp .ne (.bi .len (.var 0)) (.cst (.int 3))))) (.ret (.cst (.bl false))) .nx) (.ret (.an (.call ft (.acons (.frz (.sub (.var 0) (.cst (.int 0)))) .anil)) (.an (.call ft (.acons (.frz (.sub (.var 0) (.cst (.int 1)))) .anil)) (.call fi (.acons (.frz (.sub (.var 0) (.cst (.int 2)))) .anil)))))
def litLc (fl : Nat) : E := .lc [1, 2] (.n 2) (.iseq (.var 0)) .tyes (.call fl (.acons (.frz (.var 2)) .anil))
def isClauB (fl : Nat) : S := .seq (.ifs (.tor (.tnot (.tt (.isi .tuple (.var 0)))) (.tnot (.tv (.chn .le .le (.cst (.int 1)) (.bi .len (.var 0)) (.cst (.int 2)))))) (.ret (.cst (.bl false))) .nx) (.ret (.bi .all (litLc fl)))
def lawLc (fl : Nat) : E := .lc [1, 2] (.n 2) (.iseq (.var 0)) (.tnot (.tt (.call fl (.acons (.frz (.var 2)) .anil)))) (.var 2)
def lawClauB (fl : Nat) : S := .seq (.ifs (.tor (.tnot (.tt (.isi .tuple (.var 0)))) (.tor (.tv (.cmp .lt (.bi .len (.var 0)) (.cst (.int 1)))) (.tv (.cmp .gt (.bi .len (.var 0)) (.cst (.int 2)))))) (.ret (.cst (.bl false))) .nx) (.ret (.cmp .eq (.bi .len (lawLc fl)) (.cst (.int 0))))
section
variable {cf : CF} {ft fi fl : Nat}
theorem isLit_ok (ht : Chk (cf ft) termB) (hi : Chk (cf fi) intB) : Chk (callBody cf ⟨1, 1, isLitB ft fi⟩) litB := by
  intro d hn
  cases d with
  | tup xs =>
    by_cases h3 : xs.length = 3
    · match xs, h3 with
      | [x, y, z], _ =>
        have hn' : x.nice = true ∧ y.nice = true ∧ z.nice = true := by simpa [D.nice, niceA] using hn
        obtain ⟨o1, e1⟩ := ht x hn'.1
        obtain ⟨o2, e2⟩ := ht y hn'.2.1
        obtain ⟨o3, e3⟩ := hi z hn'.2.2
        refine ⟨_, c_ret (d := .bl (litB (.tup [x, y, z]))) (ρ' := [.val (.tup [x, y, z])]) ?_⟩
        cases h1 : termB x <;> cases h2 : termB y <;> simp [isLitB, litB, h1, h2, e1, e2, e3, wb1, evS, evE, evT, evI, evL, evP, nextS, breakS, contS, seqS, setS, putS, setVal, keep_no, keep_val, keep_ownf, asgS, asgT, asgTs, retS, retNS, retOp, ifS, storeS, store3, setD, forS, dropS, seq1, seq2, op1, op2, PyI.res, bop, PyI.cop, copB, eqOp, neOp, D.dep, depL, depK, eqv, eqvL, eqF, D.odd, D.neOk, D.nod, nodL, isOp, inOp, D.flat, varE, cstE, frzE, PyI.frz, seqA, seqV, vals, tupD, lstD, dnewE, testE, truE, truD, notT, andT, orT, yesT, andE, orE, notE, iteE, Res.bind, Res.bindS, deref, slotOf, outsOf, outD, PyI.isi, isiD, biD, ixD, atI, ixN, keyD, slD, partE, seqSl, sl3, negD, callE, callR, argsOf, slotI, fm_v, fm_f, fm_s, wback, setOwn, mtE, mt2, mtD, isTy, Mt.ty, it1, seqD, enumD]
    · have hz : ((xs.length : Nat) : Int) ≠ 3 := by omega
      have hb : litB (.tup xs) = false := by
        match xs, h3 with
        | [], _ => rfl
        | [_], _ => rfl
        | [_, _], _ => rfl
        | _ :: _ :: _ :: _ :: _, _ => rfl
      refine ⟨_, c_ret (d := .bl (litB (.tup xs))) (ρ' := [.val (.tup xs)]) ?_⟩
      rw [hb]
      simp [isLitB, hz, evS, evE, evT, evI, evL, evP, nextS, breakS, contS, seqS, setS, putS, setVal, keep_no, keep_val, keep_ownf, asgS, asgT, asgTs, retS, retNS, retOp, ifS, storeS, store3, setD, forS, dropS, seq1, seq2, op1, op2, PyI.res, bop, PyI.cop, copB, eqOp, neOp, D.dep, depL, depK, eqv, eqvL, eqF, D.odd, D.neOk, D.nod, nodL, isOp, inOp, D.flat, varE, cstE, frzE, PyI.frz, seqA, seqV, vals, tupD, lstD, dnewE, testE, truE, truD, notT, andT, orT, yesT, andE, orE, notE, iteE, Res.bind, Res.bindS, deref, slotOf, outsOf, outD, PyI.isi, isiD, biD, ixD, atI, ixN, keyD, slD, partE, seqSl, sl3, negD, callE, callR, argsOf, slotI, fm_v, fm_f, fm_s, wback, setOwn, mtE, mt2, mtD, isTy, Mt.ty, it1, seqD, enumD]
  | ins c fs => cases hn
  | _ => exact ⟨_, c_ret (ρ' := [.val _]) rfl⟩
theorem litLc_ok (hl : Chk (cf fl) litB) {xs : List D} (h : xs.length ≤ 100000) (hn : ∀ x ∈ xs, x.nice = true) : evE cf (litLc fl) [.val (.tup xs), .no, .no] = .ok (.f (.lst (xs.map fun d => D.bl (litB d)))) [.val (.tup xs), .no, .no] := by
  refine e_lc (cf := cf) (ρ1 := [.val (.tup xs), .no, .no]) (ρ2 := [.val (.tup xs), .no, .no]) (items := xs) (ev_seq (op := .v (.tup xs)) (d := .tup xs) rfl rfl rfl) rfl h ?_
  have := lcL_pure (vs := [1, 2]) (t := .n 2) (c := yesT) (e := frzE (evE cf (.call fl (.acons (.frz (.var 2)) .anil)))) (ρ0 := [.val (.tup xs), .no, .no]) (fun _ => true) (fun d => .bl (litB d)) xs [] (fun d hd => by
    obtain ⟨o, e⟩ := hl d (hn d hd)
    exact ⟨[.val (.tup xs), .no, .val d], _, rfl, rfl, fun _ => ⟨[.val (.tup xs), .no, .val d], by simp [e, wb1, evS, evE, evT, evI, evL, evP, nextS, breakS, contS, seqS, setS, putS, setVal, keep_no, keep_val, keep_ownf, asgS, asgT, asgTs, retS, retNS, retOp, ifS, storeS, store3, setD, forS, dropS, seq1, seq2, op1, op2, PyI.res, bop, PyI.cop, copB, eqOp, neOp, D.dep, depL, depK, eqv, eqvL, eqF, D.odd, D.neOk, D.nod, nodL, isOp, inOp, D.flat, varE, cstE, frzE, PyI.frz, seqA, seqV, vals, tupD, lstD, dnewE, testE, truE, truD, notT, andT, orT, yesT, andE, orE, notE, iteE, Res.bind, Res.bindS, deref, slotOf, outsOf, outD, PyI.isi, isiD, biD, ixD, atI, ixN, keyD, slD, partE, seqSl, sl3, negD, callE, callR, argsOf, slotI, fm_v, fm_f, fm_s, wback, setOwn, mtE, mt2, mtD, isTy, Mt.ty, it1, seqD, enumD], rfl, rfl⟩, fun q => by cases q⟩)
  refine Eq.trans this ?_
  rw [List.filter_eq_self.mpr (fun _ _ => rfl), List.nil_append]
theorem lawLc_ok (hl : Chk (cf fl) litB) {xs : List D} (h : xs.length ≤ 100000) (hn : ∀ x ∈ xs, x.nice = true) : evE cf (lawLc fl) [.val (.tup xs), .no, .no] = .ok (.f (.lst (xs.filter fun d => !litB d))) [.val (.tup xs), .no, .no] := by
  refine e_lc (cf := cf) (ρ1 := [.val (.tup xs), .no, .no]) (ρ2 := [.val (.tup xs), .no, .no]) (items := xs) (ev_seq (op := .v (.tup xs)) (d := .tup xs) rfl rfl rfl) rfl h ?_
  have := lcL_pure (vs := [1, 2]) (t := .n 2) (c := evT cf (.tnot (.tt (.call fl (.acons (.frz (.var 2)) .anil))))) (e := frzE (evE cf (.var 2))) (ρ0 := [.val (.tup xs), .no, .no]) (fun d => !litB d) (fun d => d) xs [] (fun d hd => by
    obtain ⟨o, e⟩ := hl d (hn d hd)
    exact ⟨[.val (.tup xs), .no, .val d], [.val (.tup xs), .no, .val d], rfl, by simp [e, wb1, evS, evE, evT, evI, evL, evP, nextS, breakS, contS, seqS, setS, putS, setVal, keep_no, keep_val, keep_ownf, asgS, asgT, asgTs, retS, retNS, retOp, ifS, storeS, store3, setD, forS, dropS, seq1, seq2, op1, op2, PyI.res, bop, PyI.cop, copB, eqOp, neOp, D.dep, depL, depK, eqv, eqvL, eqF, D.odd, D.neOk, D.nod, nodL, isOp, inOp, D.flat, varE, cstE, frzE, PyI.frz, seqA, seqV, vals, tupD, lstD, dnewE, testE, truE, truD, notT, andT, orT, yesT, andE, orE, notE, iteE, Res.bind, Res.bindS, deref, slotOf, outsOf, outD, PyI.isi, isiD, biD, ixD, atI, ixN, keyD, slD, partE, seqSl, sl3, negD, callE, callR, argsOf, slotI, fm_v, fm_f, fm_s, wback, setOwn, mtE, mt2, mtD, isTy, Mt.ty, it1, seqD, enumD], fun _ => ⟨[.val (.tup xs), .no, .val d], rfl, rfl, rfl⟩, fun _ => ⟨rfl, rfl⟩⟩)
  refine Eq.trans this ?_
  simp
theorem clau_bad {xs : List D} (h : ¬ (1 ≤ xs.length ∧ xs.length ≤ 2)) : clauB (.tup xs) = false := by
  match xs, h with
  | [], _ => rfl
  | [_], h => exact absurd ⟨by simp, by simp⟩ h
  | [_, _], h => exact absurd ⟨by simp, by simp⟩ h
  | _ :: _ :: _ :: _, _ => rfl
theorem clau_all {xs : List D} (h : 1 ≤ xs.length ∧ xs.length ≤ 2) : clauB (.tup xs) = xs.all litB := by
  match xs, h with
  | [], h => simp at h
  | [_], _ => simp [clauB]
  | [_, _], _ => simp [clauB]
  | _ :: _ :: _ :: _, h => simp at h
theorem isClau_ok (hl : Chk (cf fl) litB) : Chk (callBody cf ⟨3, 1, isClauB fl⟩) clauB := by
  intro d hn
  cases d with
  | tup xs =>
    have hx : ∀ x ∈ xs, x.nice = true := niceA_mem (by simpa [D.nice] using hn)
    by_cases h : 1 ≤ xs.length ∧ xs.length ≤ 2
    · have a1 : (1 : Int) ≤ (xs.length : Nat) := by omega
      have a2 : ((xs.length : Nat) : Int) ≤ 2 := by omega
      have h1 : evS cf (.ifs (.tor (.tnot (.tt (.isi .tuple (.var 0)))) (.tnot (.tv (.chn .le .le (.cst (.int 1)) (.bi .len (.var 0)) (.cst (.int 2)))))) (.ret (.cst (.bl false))) .nx) [.val (.tup xs), .no, .no] = .nx [.val (.tup xs), .no, .no] := by
        simp [a1, a2, chainE, chain3, evS, evE, evT, evI, evL, evP, nextS, breakS, contS, seqS, setS, putS, setVal, keep_no, keep_val, keep_ownf, asgS, asgT, asgTs, retS, retNS, retOp, ifS, storeS, store3, setD, forS, dropS, seq1, seq2, op1, op2, PyI.res, bop, PyI.cop, copB, eqOp, neOp, D.dep, depL, depK, eqv, eqvL, eqF, D.odd, D.neOk, D.nod, nodL, isOp, inOp, D.flat, varE, cstE, frzE, PyI.frz, seqA, seqV, vals, tupD, lstD, dnewE, testE, truE, truD, notT, andT, orT, yesT, andE, orE, notE, iteE, Res.bind, Res.bindS, deref, slotOf, outsOf, outD, PyI.isi, isiD, biD, ixD, atI, ixN, keyD, slD, partE, seqSl, sl3, negD, callE, callR, argsOf, slotI, fm_v, fm_f, fm_s, wback, setOwn, mtE, mt2, mtD, isTy, Mt.ty, it1, seqD, enumD]
      have h2 : evS cf (.ret (.bi .all (litLc fl))) [.val (.tup xs), .no, .no] = .ret (.v (.bl (clauB (.tup xs)))) [.val (.tup xs), .no, .no] := by
        show retS (seq1 (evE cf (litLc fl)) (op1 (biD .all))) _ = _
        unfold retS seq1
        rw [litLc_ok hl (by omega) hx, clau_all h]
        simp [op1, deref, biD, bls_map, Res.bind, Res.bindS, PyI.res, retOp, List.all_map]
      exact ⟨_, c_ret (ρ' := [.val (.tup xs), .no, .no]) ((s_seq h1).trans h2)⟩
    · refine ⟨_, c_ret (d := .bl (clauB (.tup xs))) (ρ' := [.val (.tup xs), .no, .no]) ?_⟩
      rw [clau_bad h]
      by_cases a1 : (1 : Int) ≤ (xs.length : Nat)
      · have a2 : ¬ ((xs.length : Nat) : Int) ≤ 2 := by omega
        simp [isClauB, a1, a2, chainE, chain3, evS, evE, evT, evI, evL, evP, nextS, breakS, contS, seqS, setS, putS, setVal, keep_no, keep_val, keep_ownf, asgS, asgT, asgTs, retS, retNS, retOp, ifS, storeS, store3, setD, forS, dropS, seq1, seq2, op1, op2, PyI.res, bop, PyI.cop, copB, eqOp, neOp, D.dep, depL, depK, eqv, eqvL, eqF, D.odd, D.neOk, D.nod, nodL, isOp, inOp, D.flat, varE, cstE, frzE, PyI.frz, seqA, seqV, vals, tupD, lstD, dnewE, testE, truE, truD, notT, andT, orT, yesT, andE, orE, notE, iteE, Res.bind, Res.bindS, deref, slotOf, outsOf, outD, PyI.isi, isiD, biD, ixD, atI, ixN, keyD, slD, partE, seqSl, sl3, negD, callE, callR, argsOf, slotI, fm_v, fm_f, fm_s, wback, setOwn, mtE, mt2, mtD, isTy, Mt.ty, it1, seqD, enumD]
      · simp [isClauB, a1, chainE, chain3, evS, evE, evT, evI, evL, evP, nextS, breakS, contS, seqS, setS, putS, setVal, keep_no, keep_val, keep_ownf, asgS, asgT, asgTs, retS, retNS, retOp, ifS, storeS, store3, setD, forS, dropS, seq1, seq2, op1, op2, PyI.res, bop, PyI.cop, copB, eqOp, neOp, D.dep, depL, depK, eqv, eqvL, eqF, D.odd, D.neOk, D.nod, nodL, isOp, inOp, D.flat, varE, cstE, frzE, PyI.frz, seqA, seqV, vals, tupD, lstD, dnewE, testE, truE, truD, notT, andT, orT, yesT, andE, orE, notE, iteE, Res.bind, Res.bindS, deref, slotOf, outsOf, outD, PyI.isi, isiD, biD, ixD, atI, ixN, keyD, slD, partE, seqSl, sl3, negD, callE, callR, argsOf, slotI, fm_v, fm_f, fm_s, wback, setOwn, mtE, mt2, mtD, isTy, Mt.ty, it1, seqD, enumD]
  | ins c fs => cases hn
  | _ => exact ⟨_, c_ret (ρ' := [.val _, .no, .no]) rfl⟩
theorem lawClau_ok (hl : Chk (cf fl) litB) : Chk (callBody cf ⟨3, 1, lawClauB fl⟩) clauB := by
  intro d hn
  cases d with
  | tup xs =>
    have hx : ∀ x ∈ xs, x.nice = true := niceA_mem (by simpa [D.nice] using hn)
    by_cases h : 1 ≤ xs.length ∧ xs.length ≤ 2
    · have a1 : ¬ ((xs.length : Nat) : Int) < 1 := by omega
      have a2 : ¬ (2 : Int) < (xs.length : Nat) := by omega
      have h1 : evS cf (.ifs (.tor (.tnot (.tt (.isi .tuple (.var 0)))) (.tor (.tv (.cmp .lt (.bi .len (.var 0)) (.cst (.int 1)))) (.tv (.cmp .gt (.bi .len (.var 0)) (.cst (.int 2)))))) (.ret (.cst (.bl false))) .nx) [.val (.tup xs), .no, .no] = .nx [.val (.tup xs), .no, .no] := by
        simp [a1, a2, evS, evE, evT, evI, evL, evP, nextS, breakS, contS, seqS, setS, putS, setVal, keep_no, keep_val, keep_ownf, asgS, asgT, asgTs, retS, retNS, retOp, ifS, storeS, store3, setD, forS, dropS, seq1, seq2, op1, op2, PyI.res, bop, PyI.cop, copB, eqOp, neOp, D.dep, depL, depK, eqv, eqvL, eqF, D.odd, D.neOk, D.nod, nodL, isOp, inOp, D.flat, varE, cstE, frzE, PyI.frz, seqA, seqV, vals, tupD, lstD, dnewE, testE, truE, truD, notT, andT, orT, yesT, andE, orE, notE, iteE, Res.bind, Res.bindS, deref, slotOf, outsOf, outD, PyI.isi, isiD, biD, ixD, atI, ixN, keyD, slD, partE, seqSl, sl3, negD, callE, callR, argsOf, slotI, fm_v, fm_f, fm_s, wback, setOwn, mtE, mt2, mtD, isTy, Mt.ty, it1, seqD, enumD]
      have h2 : evS cf (.ret (.cmp .eq (.bi .len (lawLc fl)) (.cst (.int 0)))) [.val (.tup xs), .no, .no] = .ret (.v (.bl (clauB (.tup xs)))) [.val (.tup xs), .no, .no] := by
        show retS (seq2 (seq1 (evE cf (lawLc fl)) (op1 (biD .len))) (cstE _) (op2 (PyI.cop .eq))) _ = _
        unfold retS seq2 seq1
        rw [lawLc_ok hl (by omega) hx, clau_all h]
        have e2 : ((((xs.filter fun d => !litB d).length : Nat) : Int) == 0) = xs.all litB := by
          cases ha : xs.all litB with
          | true =>
            rw [List.all_eq_true] at ha
            rw [List.filter_eq_nil_iff.mpr fun c hc => by simp [ha c hc]]; rfl
          | false =>
            refine beq_eq_false_iff_ne.mpr fun q => ?_
            have q' : (xs.filter fun d => !litB d) = [] := List.length_eq_zero_iff.mp (by omega)
            rw [List.filter_eq_nil_iff] at q'
            have : xs.all litB = true := List.all_eq_true.mpr fun c hc => by simpa using q' c hc
            rw [this] at ha; cases ha
        simp only [op1, op2, deref, biD, cstE, PyI.cop, copB, eqOp, D.dep, eqv, D.odd, eqF, Res.bind, Res.bindS, PyI.res, retOp, e2]
        simp [e2, retOp]
      exact ⟨_, c_ret (ρ' := [.val (.tup xs), .no, .no]) ((s_seq h1).trans h2)⟩
    · refine ⟨_, c_ret (d := .bl (clauB (.tup xs))) (ρ' := [.val (.tup xs), .no, .no]) ?_⟩
      rw [clau_bad h]
      by_cases a1 : ((xs.length : Nat) : Int) < 1
      · simp [lawClauB, a1, evS, evE, evT, evI, evL, evP, nextS, breakS, contS, seqS, setS, putS, setVal, keep_no, keep_val, keep_ownf, asgS, asgT, asgTs, retS, retNS, retOp, ifS, storeS, store3, setD, forS, dropS, seq1, seq2, op1, op2, PyI.res, bop, PyI.cop, copB, eqOp, neOp, D.dep, depL, depK, eqv, eqvL, eqF, D.odd, D.neOk, D.nod, nodL, isOp, inOp, D.flat, varE, cstE, frzE, PyI.frz, seqA, seqV, vals, tupD, lstD, dnewE, testE, truE, truD, notT, andT, orT, yesT, andE, orE, notE, iteE, Res.bind, Res.bindS, deref, slotOf, outsOf, outD, PyI.isi, isiD, biD, ixD, atI, ixN, keyD, slD, partE, seqSl, sl3, negD, callE, callR, argsOf, slotI, fm_v, fm_f, fm_s, wback, setOwn, mtE, mt2, mtD, isTy, Mt.ty, it1, seqD, enumD]
      · have a2 : (2 : Int) < (xs.length : Nat) := by omega
        simp [lawClauB, a1, a2, evS, evE, evT, evI, evL, evP, nextS, breakS, contS, seqS, setS, putS, setVal, keep_no, keep_val, keep_ownf, asgS, asgT, asgTs, retS, retNS, retOp, ifS, storeS, store3, setD, forS, dropS, seq1, seq2, op1, op2, PyI.res, bop, PyI.cop, copB, eqOp, neOp, D.dep, depL, depK, eqv, eqvL, eqF, D.odd, D.neOk, D.nod, nodL, isOp, inOp, D.flat, varE, cstE, frzE, PyI.frz, seqA, seqV, vals, tupD, lstD, dnewE, testE, truE, truD, notT, andT, orT, yesT, andE, orE, notE, iteE, Res.bind, Res.bindS, deref, slotOf, outsOf, outD, PyI.isi, isiD, biD, ixD, atI, ixN, keyD, slD, partE, seqSl, sl3, negD, callE, callR, argsOf, slotI, fm_v, fm_f, fm_s, wback, setOwn, mtE, mt2, mtD, isTy, Mt.ty, it1, seqD, enumD]
  | ins c fs => cases hn
  | _ => exact ⟨_, c_ret (ρ' := [.val _, .no, .no]) rfl⟩
def flagB : S := .ret (.an (.isi .bool (.var 0)) (.cmp .eq (.var 0) (.var 1)))
theorem flag_ok (b : Bool) : ∃ o, callBody cf ⟨2, 2, flagB⟩ [.v (.bl b), .v (.bl b)] = .ok (.v (.bl true)) o :=
  ⟨_, c_ret (ρ' := [.val (.bl b), .val (.bl b)]) (by simp [flagB, evS, evE, evT, evI, evL, evP, nextS, breakS, contS, seqS, setS, putS, setVal, keep_no, keep_val, keep_ownf, asgS, asgT, asgTs, retS, retNS, retOp, ifS, storeS, store3, setD, forS, dropS, seq1, seq2, op1, op2, PyI.res, bop, PyI.cop, copB, eqOp, neOp, D.dep, depL, depK, eqv, eqvL, eqF, D.odd, D.neOk, D.nod, nodL, isOp, inOp, D.flat, varE, cstE, frzE, PyI.frz, seqA, seqV, vals, tupD, lstD, dnewE, testE, truE, truD, notT, andT, orT, yesT, andE, orE, notE, iteE, Res.bind, Res.bindS, deref, slotOf, outsOf, outD, PyI.isi, isiD, biD, ixD, atI, ixN, keyD, slD, partE, seqSl, sl3, negD, callE, callR, argsOf, slotI, fm_v, fm_f, fm_s, wback, setOwn, mtE, mt2, mtD, isTy, Mt.ty, it1, seqD, enumD])⟩
end
end PyI
set_option maxHeartbeats 1000000
/-! K00d: changed literals and clauses, odd things. -/
namespace PyI
open PySem PySem.Spec PyProof.Rows L2
theorem IsTerm.str {d : D} (h : IsTerm d) : ∃ z : Str, d = .str z ∧ z.length ≤ 20 := by
  obtain ⟨cs, rfl, h1, _⟩ := h
  exact ⟨mkS cs, rfl, by unfold mkS; show cs.toArray.size ≤ 20; simpa using h1⟩
theorem lit_str {ts : List D} {l : D} (h : IsLit ts l) (ht : TermsOk ts) : ∃ (a b : Str) (n : Int), l = .tup [.str a, .str b, .int n] ∧ a.length ≤ 20 ∧ b.length ≤ 20 ∧ D.str a ∈ ts ∧ D.str b ∈ ts := by
  obtain ⟨t1, t2, n, rfl, m1, m2⟩ := h
  obtain ⟨a, rfl, h1⟩ := (ht.2.1 t1 m1).str
  obtain ⟨b, rfl, h2⟩ := (ht.2.1 t2 m2).str
  exact ⟨a, b, n, rfl, h1, h2, m1, m2⟩
theorem lit_nice {ts : List D} {l : D} (h : IsLit ts l) (ht : TermsOk ts) : l.nice = true := by
  obtain ⟨a, b, n, rfl, h1, h2, _⟩ := lit_str h ht
  have h1' : a.length ≤ 50000 := by omega
  have h2' : b.length ≤ 50000 := by omega
  simp [D.nice, niceA, h1', h2']
theorem e_ix {cf : CF} {a b : E} {ρ ρ1 ρ2 : Env} {op : Op} {r : Int} {xs : List D} (h1 : evE cf a ρ = .ok op ρ1) (h2 : evE cf b ρ1 = .ok (.v (.int r)) ρ2) (hd : deref ρ2 op = some (.lst xs)) (r0 : 0 ≤ r) (r1 : r < xs.length) : ∃ d ∈ xs, evE cf (.sub a b) ρ = .ok (.v d) ρ2 := by
  have hr : r.toNat < xs.length := by omega
  refine ⟨xs[r.toNat], List.getElem_mem hr, ?_⟩
  show seq2 (evE cf a) (evE cf b) (op2 ixD) ρ = _
  unfold seq2
  rw [h1]
  show Res.bind (evE cf b ρ1) _ = _
  rw [h2]
  show op2 ixD op (.v (.int r)) ρ2 = _
  have hi : ixD (.lst xs) (.int r) = some (.v xs[r.toNat]) := by
    simp only [ixD, atI, ixN]
    rw [if_pos r0, if_pos r1]
    simp [List.getElem?_eq_getElem hr]
  unfold op2
  rw [hd]
  simp only [deref, hi, PyI.res]
theorem ra_len : (strRep (PySem.Str.ofString "a") 21).length = 21 := by decide +kernel
theorem la_len : (PySem.Str.ofString "a").length = 1 := by decide
theorem lA_len : (PySem.Str.ofString "A").length = 1 := by decide
theorem ls_len : (PySem.Str.ofString " ").length = 1 := by decide
theorem lu_len : (PySem.Str.ofString "_").length = 1 := by decide
theorem l0_len : (PySem.Str.ofString "0").length = 1 := by decide
theorem le_len : (PySem.Str.ofString "").length = 0 := by decide
def oddL : E := .lst (.acons (.frz (.bin .add (.var 2) (.bin .mul (.cst (.str (PySem.Str.ofString "a"))) (.cst (.int 21))))) (.acons (.frz (.bin .add (.var 2) (.cst (.str (PySem.Str.ofString "A"))))) (.acons (.frz (.bin .add (.var 2) (.cst (.str (PySem.Str.ofString " "))))) (.acons (.frz (.bin .add (.var 2) (.cst (.str (PySem.Str.ofString "_"))))) (.acons (.frz (.cst .non)) (.acons (.frz (.cst (.int 5))) (.acons (.frz (.tup (.acons (.frz (.cst (.str (PySem.Str.ofString "a")))) .anil))) (.acons (.frz (.cst (.bl true))) (.acons (.frz (.lst (.acons (.frz (.var 2)) .anil))) .anil)))))))))
def strL : E := .lst (.acons (.frz (.cst .non)) (.acons (.frz (.cst (.str (PySem.Str.ofString "0")))) (.acons (.frz (.cst (.bl true))) (.acons (.frz (.tup (.acons (.frz (.var 4)) .anil))) (.acons (.frz (.lst (.acons (.frz (.var 4)) .anil))) (.acons (.frz .dnew) .anil))))))
def allL : E := .lst (.acons (.frz (.tup (.acons (.frz (.var 5)) (.acons (.frz (.var 3)) (.acons (.frz (.var 4)) .anil))))) (.acons (.frz (.tup (.acons (.frz (.var 2)) (.acons (.frz (.var 5)) (.acons (.frz (.var 4)) .anil))))) (.acons (.frz (.tup (.acons (.frz (.var 2)) (.acons (.frz (.var 3)) (.acons (.frz (.var 6)) .anil))))) (.acons (.frz (.tup (.acons (.frz (.var 2)) (.acons (.frz (.var 3)) .anil)))) (.acons (.frz (.tup (.acons (.frz (.var 2)) (.acons (.frz (.var 3)) (.acons (.frz (.var 4)) (.acons (.frz (.cst (.int 0))) .anil)))))) (.acons (.frz (.lst (.acons (.frz (.var 2)) (.acons (.frz (.var 3)) (.acons (.frz (.var 4)) .anil))))) (.acons (.frz (.tup (.acons (.frz (.var 4)) (.acons (.frz (.var 2)) (.acons (.frz (.var 3)) .anil))))) (.acons (.frz (.tup (.acons (.frz (.tup (.acons (.frz (.var 2)) (.acons (.frz (.var 3)) .anil)))) (.acons (.frz (.var 4)) (.acons (.frz (.cst (.int 0))) .anil))))) (.acons (.frz (.var 1)) .anil)))))))))
def chLitB (fd fp : Nat) : S := .seq (.asg (.tup [.n 2, .n 3, .n 4]) (.var 1)) (.seq (.set 5 (.sub oddL (.call fd (.acons (.var 0) (.acons (.frz (.cst (.int 9))) .anil))))) (.seq (.set 6 (.sub strL (.call fd (.acons (.var 0) (.acons (.frz (.cst (.int 6))) .anil))))) (.ret (.call fp (.acons (.var 0) (.acons (.frz allL) .anil))))))
def ChLit (c : List Arg → CRes) : Prop := ∀ (p l : D) (ts : List D), IsPool p → IsLit ts l → TermsOk ts → ∃ d p', c [.r p, .v l] = .ok (.v d) [p', .non] ∧ IsPool p' ∧ d.nice = true
section
variable {cf : CF} {fd fp fc : Nat}
theorem chLit_ok (hd : DrawOk (cf fd)) (hp : PickOk (cf fp)) : ChLit (callBody cf ⟨7, 2, chLitB fd fp⟩) := by
  intro p l ts h0 hl ht
  obtain ⟨a, b, n, rfl, ha, hb, _⟩ := lit_str hl ht
  obtain ⟨r, p1, e1, q1, r0, r1⟩ := hd p 9 h0 (by decide) (by decide)
  obtain ⟨k, p2, e2, q2, k0, k1⟩ := hd p1 6 q1 (by decide) (by decide)
  have s1 : evS cf (.asg (.tup [.n 2, .n 3, .n 4]) (.var 1)) [.own true p, .val (.tup [.str a, .str b, .int n]), .no, .no, .no, .no, .no] = .nx [.own true p, .val (.tup [.str a, .str b, .int n]), .val (.str a), .val (.str b), .val (.int n), .no, .no] := rfl
  have b1 : a.length + 21 ≤ 100000 := by omega
  have b2 : a.length + 1 ≤ 100000 := by omega
  have c1 : evE cf oddL [.own true p, .val (.tup [.str a, .str b, .int n]), .val (.str a), .val (.str b), .val (.int n), .no, .no] =
      .ok (.f (.lst [.str (a ++ strRep (PySem.Str.ofString "a") 21), .str (a ++ PySem.Str.ofString "A"), .str (a ++ PySem.Str.ofString " "), .str (a ++ PySem.Str.ofString "_"), .non, .int 5, .tup [.str (PySem.Str.ofString "a")], .bl true, .lst [.str a]])) [.own true p, .val (.tup [.str a, .str b, .int n]), .val (.str a), .val (.str b), .val (.int n), .no, .no] := by
    simp [oddL, b1, b2, ra_len, la_len, lA_len, ls_len, lu_len, evS, evE, evT, evI, evL, evP, nextS, breakS, contS, seqS, setS, putS, setVal, keep_no, keep_val, keep_ownf, asgS, asgT, asgTs, retS, retNS, retOp, ifS, storeS, store3, setD, forS, dropS, seq1, seq2, op1, op2, PyI.res, bop, PyI.cop, copB, eqOp, neOp, D.dep, depL, depK, eqv, eqvL, eqF, D.odd, D.neOk, D.nod, nodL, isOp, inOp, D.flat, varE, cstE, frzE, PyI.frz, seqA, seqV, vals, tupD, lstD, dnewE, testE, truE, truD, notT, andT, orT, yesT, andE, orE, notE, iteE, Res.bind, Res.bindS, deref, slotOf, outsOf, outD, PyI.isi, isiD, biD, ixD, atI, ixN, keyD, slD, partE, seqSl, sl3, negD, callE, callR, argsOf, slotI, fm_v, fm_f, fm_s, wback, setOwn, mtE, mt2, mtD, isTy, Mt.ty, it1, seqD, enumD]
  have d1 : ∀ ρ : Env, evE cf (.call fd (.acons (.var 0) (.acons (.frz (.cst (.int 9))) .anil))) (.own true p :: ρ) = .ok (.v (.int r)) (.own true p1 :: ρ) := fun ρ => by simp [e1, evS, evE, evT, evI, evL, evP, nextS, breakS, contS, seqS, setS, putS, setVal, keep_no, keep_val, keep_ownf, asgS, asgT, asgTs, retS, retNS, retOp, ifS, storeS, store3, setD, forS, dropS, seq1, seq2, op1, op2, PyI.res, bop, PyI.cop, copB, eqOp, neOp, D.dep, depL, depK, eqv, eqvL, eqF, D.odd, D.neOk, D.nod, nodL, isOp, inOp, D.flat, varE, cstE, frzE, PyI.frz, seqA, seqV, vals, tupD, lstD, dnewE, testE, truE, truD, notT, andT, orT, yesT, andE, orE, notE, iteE, Res.bind, Res.bindS, deref, slotOf, outsOf, outD, PyI.isi, isiD, biD, ixD, atI, ixN, keyD, slD, partE, seqSl, sl3, negD, callE, callR, argsOf, slotI, fm_v, fm_f, fm_s, wback, setOwn, mtE, mt2, mtD, isTy, Mt.ty, it1, seqD, enumD]
  obtain ⟨o, mo, f1⟩ := e_ix c1 (d1 _) rfl r0 (by simpa using r1)
  have s2 := s_set (i := 5) f1 (ρ2 := [.own true p1, .val (.tup [.str a, .str b, .int n]), .val (.str a), .val (.str b), .val (.int n), .val o, .no]) rfl
  have c2 : evE cf strL [.own true p1, .val (.tup [.str a, .str b, .int n]), .val (.str a), .val (.str b), .val (.int n), .val o, .no] =
      .ok (.f (.lst [.non, .str (PySem.Str.ofString "0"), .bl true, .tup [.int n], .lst [.int n], .dic []])) [.own true p1, .val (.tup [.str a, .str b, .int n]), .val (.str a), .val (.str b), .val (.int n), .val o, .no] := by
    simp [strL, evS, evE, evT, evI, evL, evP, nextS, breakS, contS, seqS, setS, putS, setVal, keep_no, keep_val, keep_ownf, asgS, asgT, asgTs, retS, retNS, retOp, ifS, storeS, store3, setD, forS, dropS, seq1, seq2, op1, op2, PyI.res, bop, PyI.cop, copB, eqOp, neOp, D.dep, depL, depK, eqv, eqvL, eqF, D.odd, D.neOk, D.nod, nodL, isOp, inOp, D.flat, varE, cstE, frzE, PyI.frz, seqA, seqV, vals, tupD, lstD, dnewE, testE, truE, truD, notT, andT, orT, yesT, andE, orE, notE, iteE, Res.bind, Res.bindS, deref, slotOf, outsOf, outD, PyI.isi, isiD, biD, ixD, atI, ixN, keyD, slD, partE, seqSl, sl3, negD, callE, callR, argsOf, slotI, fm_v, fm_f, fm_s, wback, setOwn, mtE, mt2, mtD, isTy, Mt.ty, it1, seqD, enumD]
  have d2 : ∀ ρ : Env, evE cf (.call fd (.acons (.var 0) (.acons (.frz (.cst (.int 6))) .anil))) (.own true p1 :: ρ) = .ok (.v (.int k)) (.own true p2 :: ρ) := fun ρ => by simp [e2, evS, evE, evT, evI, evL, evP, nextS, breakS, contS, seqS, setS, putS, setVal, keep_no, keep_val, keep_ownf, asgS, asgT, asgTs, retS, retNS, retOp, ifS, storeS, store3, setD, forS, dropS, seq1, seq2, op1, op2, PyI.res, bop, PyI.cop, copB, eqOp, neOp, D.dep, depL, depK, eqv, eqvL, eqF, D.odd, D.neOk, D.nod, nodL, isOp, inOp, D.flat, varE, cstE, frzE, PyI.frz, seqA, seqV, vals, tupD, lstD, dnewE, testE, truE, truD, notT, andT, orT, yesT, andE, orE, notE, iteE, Res.bind, Res.bindS, deref, slotOf, outsOf, outD, PyI.isi, isiD, biD, ixD, atI, ixN, keyD, slD, partE, seqSl, sl3, negD, callE, callR, argsOf, slotI, fm_v, fm_f, fm_s, wback, setOwn, mtE, mt2, mtD, isTy, Mt.ty, it1, seqD, enumD]
  obtain ⟨u, mu, f2⟩ := e_ix c2 (d2 _) rfl k0 (by simpa using k1)
  have s3 := s_set (i := 6) f2 (ρ2 := [.own true p2, .val (.tup [.str a, .str b, .int n]), .val (.str a), .val (.str b), .val (.int n), .val o, .val u]) rfl
  have ho : o.nice = true := by
    refine niceA_mem ?_ o mo
    have x1 : a.length + 21 ≤ 50000 := by omega
    have x2 : a.length + 1 ≤ 50000 := by omega
    have x3 : a.length ≤ 50000 := by omega
    simp [niceA, D.nice, Str.length_append, ra_len, la_len, lA_len, ls_len, lu_len, x1, x2, x3]
  have hu : u.nice = true := niceA_mem (by simp [niceA, D.nice, l0_len]) u mu
  obtain ⟨d, p3, e3, q3, md⟩ := hp p2 _ [.tup [o, .str b, .int n], .tup [.str a, o, .int n], .tup [.str a, .str b, u], .tup [.str a, .str b], .tup [.str a, .str b, .int n, .int 0], .lst [.str a, .str b, .int n], .tup [.int n, .str a, .str b], .tup [.tup [.str a, .str b], .int n, .int 0], .tup [.str a, .str b, .int n]] q2 (.inl rfl) (by simp) (by simp)
  refine ⟨d, p3, c_ret (ρ' := [.own true p3, .val (.tup [.str a, .str b, .int n]), .val (.str a), .val (.str b), .val (.int n), .val o, .val u]) ((s_seq s1).trans ((s_seq s2).trans ((s_seq s3).trans ?_))), q3, niceA_mem ?_ d md⟩
  · simp [allL, e3, evS, evE, evT, evI, evL, evP, nextS, breakS, contS, seqS, setS, putS, setVal, keep_no, keep_val, keep_ownf, asgS, asgT, asgTs, retS, retNS, retOp, ifS, storeS, store3, setD, forS, dropS, seq1, seq2, op1, op2, PyI.res, bop, PyI.cop, copB, eqOp, neOp, D.dep, depL, depK, eqv, eqvL, eqF, D.odd, D.neOk, D.nod, nodL, isOp, inOp, D.flat, varE, cstE, frzE, PyI.frz, seqA, seqV, vals, tupD, lstD, dnewE, testE, truE, truD, notT, andT, orT, yesT, andE, orE, notE, iteE, Res.bind, Res.bindS, deref, slotOf, outsOf, outD, PyI.isi, isiD, biD, ixD, atI, ixN, keyD, slD, partE, seqSl, sl3, negD, callE, callR, argsOf, slotI, fm_v, fm_f, fm_s, wback, setOwn, mtE, mt2, mtD, isTy, Mt.ty, it1, seqD, enumD]
  · have x3 : a.length ≤ 50000 := by omega
    have x4 : b.length ≤ 50000 := by omega
    simp [niceA, D.nice, x3, x4, ho, hu]
def chClB (fp fc : Nat) : S := .seq (.set 2 (.sub (.var 1) (.cst (.int 0)))) (.ret (.call fp (.acons (.var 0) (.acons (.frz (.lst (.acons (.frz (.tup .anil)) (.acons (.frz (.bin .add (.var 1) (.tup (.acons (.frz (.var 2)) (.acons (.frz (.var 2)) .anil))))) (.acons (.frz (.bi .list (.var 1))) (.acons (.frz (.tup (.acons (.frz (.call fc (.acons (.var 0) (.acons (.frz (.var 2)) .anil)))) .anil))) (.acons (.frz (.tup (.acons (.frz (.var 2)) (.acons (.frz (.call fc (.acons (.var 0) (.acons (.frz (.var 2)) .anil)))) .anil)))) (.acons (.frz (.tup (.acons (.frz (.call fc (.acons (.var 0) (.acons (.frz (.var 2)) .anil)))) (.acons (.frz (.var 2)) .anil)))) (.acons (.frz (.var 2)) (.acons (.frz (.tup (.acons (.frz (.var 1)) .anil))) (.acons (.frz (.tup (.acons (.frz (.var 2)) (.acons (.frz (.cst .non)) .anil)))) (.acons (.frz (.tup (.acons (.frz (.cst .non)) .anil))) (.acons (.frz (.var 1)) .anil))))))))))))) .anil))))
def ChCl (c : List Arg → CRes) : Prop := ∀ (p l : D) (more ts : List D), IsPool p → IsLit ts l → more.length ≤ 1 → (∀ x ∈ more, IsLit ts x) → TermsOk ts → ∃ d p', c [.r p, .v (.tup (l :: more))] = .ok (.v d) [p', .non] ∧ IsPool p' ∧ d.nice = true
theorem nice_more {ts more : List D} (ht : TermsOk ts) (h : ∀ x ∈ more, IsLit ts x) : niceA more = true := by
  induction more with
  | nil => rfl
  | cons x xs ih => simp only [niceA, Bool.and_eq_true]; exact ⟨lit_nice (h x (by simp)) ht, ih fun y hy => h y (by simp [hy])⟩
theorem niceA_app : ∀ {xs ys : List D}, niceA (xs ++ ys) = (niceA xs && niceA ys)
  | [], _ => by simp [niceA]
  | x :: xs, ys => by simp only [List.cons_append, niceA, niceA_app (xs := xs), Bool.and_assoc]
theorem chCl_ok (hp : PickOk (cf fp)) (hc : ChLit (cf fc)) : ChCl (callBody cf ⟨3, 2, chClB fp fc⟩) := by
  intro p l more ts h0 hl hm hx ht
  obtain ⟨d1, p1, e1, q1, n1⟩ := hc p l ts h0 hl ht
  obtain ⟨d2, p2, e2, q2, n2⟩ := hc p1 l ts q1 hl ht
  obtain ⟨d3, p3, e3, q3, n3⟩ := hc p2 l ts q2 hl ht
  have nl := lit_nice hl ht
  have nm := nice_more ht hx
  obtain ⟨d, p4, e4, q4, md⟩ := hp p3 _ [.tup [], .tup (l :: more ++ [l, l]), .lst (l :: more), .tup [d1], .tup [l, d2], .tup [d3, l], l, .tup [.tup (l :: more)], .tup [l, .non], .tup [.non], .tup (l :: more)] q3 (.inl rfl) (by simp) (by simp)
  have b1 : more.length + 1 + 2 ≤ 100000 := by omega
  refine ⟨d, p4, c_ret (ρ' := [.own true p4, .val (.tup (l :: more)), .val l]) ?_, q4, niceA_mem ?_ d md⟩
  · have e4' := e4
    simp only [List.cons_append] at e4'
    simp [chClB, e1, e2, e3, e4', b1, evS, evE, evT, evI, evL, evP, nextS, breakS, contS, seqS, setS, putS, setVal, keep_no, keep_val, keep_ownf, asgS, asgT, asgTs, retS, retNS, retOp, ifS, storeS, store3, setD, forS, dropS, seq1, seq2, op1, op2, PyI.res, bop, PyI.cop, copB, eqOp, neOp, D.dep, depL, depK, eqv, eqvL, eqF, D.odd, D.neOk, D.nod, nodL, isOp, inOp, D.flat, varE, cstE, frzE, PyI.frz, seqA, seqV, vals, tupD, lstD, dnewE, testE, truE, truD, notT, andT, orT, yesT, andE, orE, notE, iteE, Res.bind, Res.bindS, deref, slotOf, outsOf, outD, PyI.isi, isiD, biD, ixD, atI, ixN, keyD, slD, partE, seqSl, sl3, negD, callE, callR, argsOf, slotI, fm_v, fm_f, fm_s, wback, setOwn, mtE, mt2, mtD, isTy, Mt.ty, it1, seqD, enumD]
  · simp [niceA, D.nice, nl, nm, n1, n2, n3, niceA_app]
def oddB (fp : Nat) : S := .seq (.set 1 (.tup .anil)) (.seq (.fors (.n 2) (.irng (.cst (.int 36))) (.set 1 (.tup (.acons (.frz (.var 1)) (.acons (.frz (.var 2)) .anil))))) (.ret (.call fp (.acons (.var 0) (.acons (.frz (.lst (.acons (.frz (.cst .non)) (.acons (.frz (.cst (.int 0))) (.acons (.frz (.cst (.bl true))) (.acons (.frz (.cst (.str (PySem.Str.ofString "a")))) (.acons (.frz (.cst (.str (PySem.Str.ofString "")))) (.acons (.frz (.tup .anil)) (.acons (.frz (.lst .anil)) (.acons (.frz .dnew) (.acons (.frz (.tup (.acons (.frz (.cst (.str (PySem.Str.ofString "")))) (.acons (.frz (.cst (.str (PySem.Str.ofString "")))) (.acons (.frz (.cst (.int 0))) .anil))))) (.acons (.frz (.tup (.acons (.frz (.tup (.acons (.frz (.cst (.str (PySem.Str.ofString "")))) (.acons (.frz (.cst (.str (PySem.Str.ofString "")))) (.acons (.frz (.cst (.int 0))) .anil))))) .anil))) (.acons (.frz (.var 1)) (.acons (.frz (.tup (.acons (.frz (.cst (.str (PySem.Str.ofString "a")))) .anil))) (.acons (.frz (.bin .pow (.cst (.int 10)) (.cst (.int 50)))) .anil))))))))))))))) .anil)))))
def OddC (c : List Arg → CRes) : Prop := ∀ (p : D), IsPool p → ∃ d p', c [.r p] = .ok (.v d) [p'] ∧ IsPool p' ∧ d.nice = true
theorem odd_ok (hp : PickOk (cf fp)) : OddC (callBody cf ⟨3, 1, oddB fp⟩) := by
  intro p h0
  have s1 : evS cf (.set 1 (.tup .anil)) [.own true p, .no, .no] = .nx [.own true p, .val (.tup []), .no] := rfl
  obtain ⟨ρ', l1, deep, sl, rfl, nd, _⟩ := forL_inv (t := .n 2) (p := evS cf (.set 1 (.tup (.acons (.frz (.var 1)) (.acons (.frz (.var 2)) .anil))))) (fun _ ρ => ∃ deep sl, ρ = [.own true p, .val deep, sl] ∧ deep.nice = true ∧ sl.idle = true)
    ((List.range 36).map fun (i : Nat) => D.int (0 + (i : Int))) 0 [.own true p, .val (.tup []), .no] ⟨_, _, rfl, rfl, rfl⟩ (fun i d ρ hi ⟨deep, sl, e, nd, il⟩ => by
      subst e
      have hd : ∃ j : Int, d = .int j := by
        obtain ⟨j, _, rfl⟩ := List.mem_map.mp (List.mem_of_getElem? hi)
        exact ⟨_, rfl⟩
      obtain ⟨j, rfl⟩ := hd
      exact ⟨[.own true p, .val deep, .val (.int j)], [.own true p, .val (.tup [deep, .int j]), .val (.int j)], by simp [asgT, setVal, idle_keep il], .inl (by simp [evS, evE, evT, evI, evL, evP, nextS, breakS, contS, seqS, setS, putS, setVal, keep_no, keep_val, keep_ownf, asgS, asgT, asgTs, retS, retNS, retOp, ifS, storeS, store3, setD, forS, dropS, seq1, seq2, op1, op2, PyI.res, bop, PyI.cop, copB, eqOp, neOp, D.dep, depL, depK, eqv, eqvL, eqF, D.odd, D.neOk, D.nod, nodL, isOp, inOp, D.flat, varE, cstE, frzE, PyI.frz, seqA, seqV, vals, tupD, lstD, dnewE, testE, truE, truD, notT, andT, orT, yesT, andE, orE, notE, iteE, Res.bind, Res.bindS, deref, slotOf, outsOf, outD, PyI.isi, isiD, biD, ixD, atI, ixN, keyD, slD, partE, seqSl, sl3, negD, callE, callR, argsOf, slotI, fm_v, fm_f, fm_s, wback, setOwn, mtE, mt2, mtD, isTy, Mt.ty, it1, seqD, enumD]), _, _, rfl, by simp [D.nice, niceA, nd], rfl⟩)
  have s2 : evS cf (.fors (.n 2) (.irng (.cst (.int 36))) (.set 1 (.tup (.acons (.frz (.var 1)) (.acons (.frz (.var 2)) .anil))))) [.own true p, .val (.tup []), .no] = .nx _ :=
    (s_for (ev_rng (n := 36) (op := .v (.int 36)) rfl rfl (by decide))).trans l1
  obtain ⟨d, p1, e1, q1, md⟩ := hp p _ [.non, .int 0, .bl true, .str (PySem.Str.ofString "a"), .str (PySem.Str.ofString ""), .tup [], .lst [], .dic [], .tup [.str (PySem.Str.ofString ""), .str (PySem.Str.ofString ""), .int 0], .tup [.tup [.str (PySem.Str.ofString ""), .str (PySem.Str.ofString ""), .int 0]], deep, .tup [.str (PySem.Str.ofString "a")], .int (10 ^ 50)] h0 (.inl rfl) (by simp) (by simp)
  refine ⟨d, p1, c_ret (ρ' := [.own true p1, .val deep, sl]) ((s_seq s1).trans ((s_seq s2).trans ?_)), q1, niceA_mem ?_ d md⟩
  · simp at e1
    simp [e1, evS, evE, evT, evI, evL, evP, nextS, breakS, contS, seqS, setS, putS, setVal, keep_no, keep_val, keep_ownf, asgS, asgT, asgTs, retS, retNS, retOp, ifS, storeS, store3, setD, forS, dropS, seq1, seq2, op1, op2, PyI.res, bop, PyI.cop, copB, eqOp, neOp, D.dep, depL, depK, eqv, eqvL, eqF, D.odd, D.neOk, D.nod, nodL, isOp, inOp, D.flat, varE, cstE, frzE, PyI.frz, seqA, seqV, vals, tupD, lstD, dnewE, testE, truE, truD, notT, andT, orT, yesT, andE, orE, notE, iteE, Res.bind, Res.bindS, deref, slotOf, outsOf, outD, PyI.isi, isiD, biD, ixD, atI, ixN, keyD, slD, partE, seqSl, sl3, negD, callE, callR, argsOf, slotI, fm_v, fm_f, fm_s, wback, setOwn, mtE, mt2, mtD, isTy, Mt.ty, it1, seqD, enumD]
  · simp [niceA, D.nice, nd, la_len, le_len]
end
end PyI
set_option maxHeartbeats 1000000
/-! K00e: negated, denied, truth. -/
namespace PyI
open PySem PySem.Spec PyProof.Rows L2
def negL : D → D
  | .tup [a, b, .int n] => .tup [b, a, .int (-n - 1)]
  | d => d
def trL (kvs : List (Key × D)) : D → Bool
  | .tup [.str a, .str b, .int n] => (match look kvs (.inr a), look kvs (.inr b) with
    | some (.int x), some (.int y) => decide (x ≤ y + n)
    | _, _ => false)
  | _ => false
def negB : S := .ret (.tup (.acons (.frz (.sub (.var 0) (.cst (.int 1)))) (.acons (.frz (.sub (.var 0) (.cst (.int 0)))) (.acons (.frz (.bin .sub (.neg (.sub (.var 0) (.cst (.int 2)))) (.cst (.int 1)))) .anil))))
def NegC (c : List Arg → CRes) : Prop := ∀ (a b : Str) (n : Int), ∃ o, c [.v (.tup [.str a, .str b, .int n])] = .ok (.v (.tup [.str b, .str a, .int (-n - 1)])) o
def denLc (fn : Nat) : E := .lc [1, 2] (.n 2) (.iseq (.var 0)) .tyes (.tup (.acons (.frz (.call fn (.acons (.frz (.var 2)) .anil))) .anil))
def denB (fn : Nat) : S := .ret (denLc fn)
def truB : S := .ret (.cmp .le (.sub (.var 1) (.sub (.var 0) (.cst (.int 0)))) (.bin .add (.sub (.var 1) (.sub (.var 0) (.cst (.int 1)))) (.sub (.var 0) (.cst (.int 2)))))
/-- the literal's terms have values -/
def Vals2 (kvs : List (Key × D)) (l : D) : Prop := ∃ (a b : Str) (n x y : Int), l = .tup [.str a, .str b, .int n] ∧ look kvs (.inr a) = some (.int x) ∧ look kvs (.inr b) = some (.int y)
def TruC (c : List Arg → CRes) : Prop := ∀ (kvs : List (Key × D)) (l : D), Vals2 kvs l → ∃ o, c [.v l, .v (.dic kvs)] = .ok (.v (.bl (trL kvs l))) o
/-- a literal of texts -/
def LitS (l : D) : Prop := ∃ (a b : Str) (n : Int), l = .tup [.str a, .str b, .int n]
theorem neg_neg {l : D} (h : LitS l) : negL (negL l) = l := by
  obtain ⟨a, b, n, rfl⟩ := h
  simp only [negL]
  rw [show - (-n - 1) - 1 = n by omega]
theorem neg_lit {l : D} (h : LitS l) : LitS (negL l) := by
  obtain ⟨a, b, n, rfl⟩ := h
  exact ⟨b, a, _, rfl⟩
theorem vals_neg {kvs : List (Key × D)} {l : D} (h : Vals2 kvs l) : Vals2 kvs (negL l) := by
  obtain ⟨a, b, n, x, y, rfl, h1, h2⟩ := h
  exact ⟨b, a, _, y, x, rfl, h2, h1⟩
theorem tr_neg {kvs : List (Key × D)} {l : D} (h : Vals2 kvs l) : trL kvs (negL l) = !trL kvs l := by
  obtain ⟨a, b, n, x, y, rfl, h1, h2⟩ := h
  simp only [negL, trL, h1, h2]
  by_cases q : x ≤ y + n
  · rw [decide_eq_true q, decide_eq_false (by omega)]; rfl
  · rw [decide_eq_false q, decide_eq_true (by omega)]; rfl
theorem vals_lit {kvs : List (Key × D)} {l : D} (h : Vals2 kvs l) : LitS l := by
  obtain ⟨a, b, n, x, y, rfl, h1, h2⟩ := h
  exact ⟨a, b, n, rfl⟩
section
variable {cf : CF} {fn : Nat}
theorem neg_ok : NegC (callBody cf ⟨1, 1, negB⟩) := by
  intro a b n
  exact ⟨_, c_ret (ρ' := [.val (.tup [.str a, .str b, .int n])]) (by simp [negB, evS, evE, evT, evI, evL, evP, nextS, breakS, contS, seqS, setS, putS, setVal, keep_no, keep_val, keep_ownf, asgS, asgT, asgTs, retS, retNS, retOp, ifS, storeS, store3, setD, forS, dropS, seq1, seq2, op1, op2, PyI.res, bop, PyI.cop, copB, eqOp, neOp, D.dep, depL, depK, eqv, eqvL, eqF, D.odd, D.neOk, D.nod, nodL, isOp, inOp, D.flat, varE, cstE, frzE, PyI.frz, seqA, seqV, vals, tupD, lstD, dnewE, testE, truE, truD, notT, andT, orT, yesT, andE, orE, notE, iteE, Res.bind, Res.bindS, deref, slotOf, outsOf, outD, PyI.isi, isiD, biD, ixD, atI, ixN, keyD, slD, partE, seqSl, sl3, negD, callE, callR, argsOf, slotI, fm_v, fm_f, fm_s, wback, setOwn, mtE, mt2, mtD, isTy, Mt.ty, it1, seqD, enumD])⟩
theorem neg_call (hn : NegC (cf fn)) {l : D} (h : LitS l) : ∃ o, cf fn [.v l] = .ok (.v (negL l)) o := by
  obtain ⟨a, b, n, rfl⟩ := h
  exact hn a b n
theorem den_ok (hn : NegC (cf fn)) {ls : List D} (h : ∀ l ∈ ls, LitS l) (hl : ls.length ≤ 1000) : ∃ o, callBody cf ⟨3, 1, denB fn⟩ [.v (.tup ls)] = .ok (.f (.lst (ls.map fun l => .tup [negL l]))) o := by
  have h1 : evE cf (denLc fn) [.val (.tup ls), .no, .no] = .ok (.f (.lst (ls.map fun l => .tup [negL l]))) [.val (.tup ls), .no, .no] := by
    refine e_lc (cf := cf) (ρ1 := [.val (.tup ls), .no, .no]) (ρ2 := [.val (.tup ls), .no, .no]) (items := ls) (ev_seq (op := .v (.tup ls)) (d := .tup ls) rfl rfl rfl) rfl (by omega) ?_
    have := lcL_pure (vs := [1, 2]) (t := .n 2) (c := yesT) (e := frzE (evE cf (.tup (.acons (.frz (.call fn (.acons (.frz (.var 2)) .anil))) .anil)))) (ρ0 := [.val (.tup ls), .no, .no]) (fun _ => true) (fun l => .tup [negL l]) ls [] (fun d hd => by
      obtain ⟨o, e⟩ := neg_call hn (h d hd)
      exact ⟨[.val (.tup ls), .no, .val d], _, rfl, rfl, fun _ => ⟨[.val (.tup ls), .no, .val d], by simp [e, wb1, evS, evE, evT, evI, evL, evP, nextS, breakS, contS, seqS, setS, putS, setVal, keep_no, keep_val, keep_ownf, asgS, asgT, asgTs, retS, retNS, retOp, ifS, storeS, store3, setD, forS, dropS, seq1, seq2, op1, op2, PyI.res, bop, PyI.cop, copB, eqOp, neOp, D.dep, depL, depK, eqv, eqvL, eqF, D.odd, D.neOk, D.nod, nodL, isOp, inOp, D.flat, varE, cstE, frzE, PyI.frz, seqA, seqV, vals, tupD, lstD, dnewE, testE, truE, truD, notT, andT, orT, yesT, andE, orE, notE, iteE, Res.bind, Res.bindS, deref, slotOf, outsOf, outD, PyI.isi, isiD, biD, ixD, atI, ixN, keyD, slD, partE, seqSl, sl3, negD, callE, callR, argsOf, slotI, fm_v, fm_f, fm_s, wback, setOwn, mtE, mt2, mtD, isTy, Mt.ty, it1, seqD, enumD], rfl, rfl⟩, fun q => by cases q⟩)
    refine Eq.trans this ?_
    rw [List.filter_eq_self.mpr (fun _ _ => rfl), List.nil_append]
  refine ⟨_, c_retf (ρ' := [.val (.tup ls), .no, .no]) ?_⟩
  show retS (evE cf (denLc fn)) [.val (.tup ls), .no, .no] = _
  unfold retS
  rw [h1]; rfl
theorem tru_ok : TruC (callBody cf ⟨2, 2, truB⟩) := by
  intro kvs l ⟨a, b, n, x, y, e, h1, h2⟩
  subst e
  exact ⟨_, c_ret (d := .bl (trL kvs (.tup [.str a, .str b, .int n]))) (ρ' := [.val (.tup [.str a, .str b, .int n]), .val (.dic kvs)]) (by simp [truB, h1, h2, trL, evS, evE, evT, evI, evL, evP, nextS, breakS, contS, seqS, setS, putS, setVal, keep_no, keep_val, keep_ownf, asgS, asgT, asgTs, retS, retNS, retOp, ifS, storeS, store3, setD, forS, dropS, seq1, seq2, op1, op2, PyI.res, bop, PyI.cop, copB, eqOp, neOp, D.dep, depL, depK, eqv, eqvL, eqF, D.odd, D.neOk, D.nod, nodL, isOp, inOp, D.flat, varE, cstE, frzE, PyI.frz, seqA, seqV, vals, tupD, lstD, dnewE, testE, truE, truD, notT, andT, orT, yesT, andE, orE, notE, iteE, Res.bind, Res.bindS, deref, slotOf, outsOf, outD, PyI.isi, isiD, biD, ixD, atI, ixN, keyD, slD, partE, seqSl, sl3, negD, callE, callR, argsOf, slotI, fm_v, fm_f, fm_s, wback, setOwn, mtE, mt2, mtD, isTy, Mt.ty, it1, seqD, enumD])⟩
end
/-! ### tables -/
theorem look_put {kvs : List (Key × D)} {k j : Key} {d : D} : look (put kvs k d) j = if j = k then some d else look kvs j := by
  unfold put
  split
  · rename_i h
    induction kvs with
    | nil => simp at h
    | cons p r ih =>
      by_cases e : p.1 = k
      · by_cases q : j = k
        · subst q; simp [look, e]
        · have e2 : ¬ p.1 = j := fun z => q (by rw [← z, e])
          have q' : ¬ k = j := fun z => q z.symm
          rw [if_neg q]
          simp only [look, List.map_cons, e, if_true, List.find?_cons, decide_eq_false e2, decide_eq_false q']
          -- the rest: the places of k change nothing for j
          have : ∀ r : List (Key × D), List.find? (fun kv => decide (kv.1 = j)) (r.map fun kv => if kv.1 = k then (kv.1, d) else kv) = List.find? (fun kv => decide (kv.1 = j)) r := by
            intro r
            induction r with
            | nil => rfl
            | cons x r ih2 =>
              by_cases ex : x.1 = k
              · have : ¬ x.1 = j := fun z => q (by rw [← z, ex])
                simp [List.map_cons, ex, List.find?_cons, q', this, ih2]
              · by_cases ej : x.1 = j
                · simp [List.map_cons, ex, List.find?_cons, ej]
                  have : ¬ j = k := q
                  simp [this, ej]
                · simp [List.map_cons, ex, List.find?_cons, ej, ih2]
          rw [this]
      · have hr : (r.any fun kv => decide (kv.1 = k)) = true := by simpa [e] using h
        have := ih hr
        by_cases ej : p.1 = j
        · have q : ¬ j = k := fun z => e (by rw [ej, z])
          simp [look, e, ej, q]
        · simp only [look] at this ⊢
          rw [List.map_cons, if_neg e, List.find?_cons, List.find?_cons, decide_eq_false ej]
          exact this
  · rename_i h
    have hn : look kvs k = none := by
      unfold look
      cases hf : kvs.find? fun kv => decide (kv.1 = k) with
      | none => rfl
      | some p =>
        refine absurd ?_ h
        rw [List.any_eq_true]
        exact ⟨p, List.mem_of_find?_eq_some hf, List.find?_some (p := fun (kv : Key × D) => decide (kv.1 = k)) hf⟩
    unfold look at hn ⊢
    rw [List.find?_append]
    by_cases q : j = k
    · subst q
      have : kvs.find? (fun kv => decide (kv.1 = j)) = none := by simpa using hn
      rw [this]; simp
    · have q' : ¬ k = j := fun z => q z.symm
      rw [if_neg q]
      cases hf : kvs.find? fun kv => decide (kv.1 = j) with
      | none => simp [q']
      | some p => simp
theorem put_len {kvs : List (Key × D)} {k : Key} {d : D} : (put kvs k d).length ≤ kvs.length + 1 := by
  unfold put
  split <;> simp
end PyI
set_option maxHeartbeats 1000000
/-! K00f: complements. -/
namespace PyI
open PySem PySem.Spec PyProof.Rows L2
/-- a slot that holds d -/
def Has (sl : Slot) (d : D) : Prop := sl = .val d ∨ sl = .own false d
theorem lcL_fun {vs : List Nat} {t : T} {e : Fe} (I : Env → Prop) (f : D → D) : ∀ (l : List D) (acc : List D) (ρ : Env), I ρ →
    (∀ d ∈ l, ∀ ρ, I ρ → ∃ ρ1 ρ3, asgT t d ρ = some ρ1 ∧ e ρ1 = .ok (.v (f d)) ρ3 ∧ noOwn ρ3 vs = true ∧ I (wipeR ρ3 vs)) →
    ∃ ρ', lcL vs t yesT e l acc ρ = .ok (acc ++ l.map f) ρ' ∧ I ρ'
  | [], acc, ρ, h, _ => ⟨ρ, by simp [lcL], h⟩
  | d :: l, acc, ρ, h, st => by
    obtain ⟨ρ1, ρ3, h1, h4, h5, h6⟩ := st d (by simp) ρ h
    obtain ⟨ρ', h8, h9⟩ := lcL_fun I f l (acc ++ [f d]) _ h6 fun d hd => st d (by simp [hd])
    have hy : ∀ ρ, yesT ρ = .ok true ρ := fun _ => rfl
    refine ⟨ρ', ?_, h9⟩
    simp only [lcL, h1, hy, h4, h5, if_true]
    rw [h8]; simp
/-- all the terms have whole values -/
def VOk (ts : List D) (kvs : List (Key × D)) : Prop := ∀ z : Str, D.str z ∈ ts → ∃ n : Int, look kvs (.inr z) = some (.int n)
theorem VOk.put {ts : List D} {kvs : List (Key × D)} (h : VOk ts kvs) (k : Key) (n : Int) : VOk ts (put kvs k (.int n)) := fun z hz => by
  rw [look_put]
  by_cases e : (Sum.inr z : Key) = k
  · rw [if_pos e]; exact ⟨n, rfl⟩
  · rw [if_neg e]; exact h z hz
theorem VOk.lit {ts : List D} {kvs : List (Key × D)} (h : VOk ts kvs) (ht : TermsOk ts) {l : D} (hl : IsLit ts l) : Vals2 kvs l := by
  obtain ⟨a, b, n, rfl, _, _, m1, m2⟩ := lit_str hl ht
  obtain ⟨x, h1⟩ := h a m1
  obtain ⟨y, h2⟩ := h b m2
  exact ⟨a, b, n, x, y, rfl, h1, h2⟩
theorem lit_lits {ts : List D} {l : D} (h : IsLit ts l) (ht : TermsOk ts) : LitS l := by
  obtain ⟨a, b, n, rfl, _⟩ := lit_str h ht
  exact ⟨a, b, n, rfl⟩
def cmLc (fn : Nat) : E := .lc [10, 4] (.n 4) (.iseq (.var 1)) .tyes (.tup (.acons (.frz (.call fn (.acons (.frz (.var 4)) .anil))) .anil))
def cm2 (fn : Nat) : S := .ifs (.tor (.tnot (.tt (.isi .list (.var 3)))) (.tv (.cmp .ne (.var 3) (cmLc fn)))) (.ret (.cst (.bl false))) .nx
def cmVals (fnum : Nat) : S := .fors (.n 7) (.iseq (.var 2)) (.store 6 (.var 7) (.call fnum (.acons (.var 0) .anil)))
def cmPut (fd : Nat) : S := .store 6 (.sub (.sub (.var 1) (.cst (.int 0))) (.cst (.int 1))) (.sub (.lst (.acons (.frz (.bin .sub (.bin .add (.bin .sub (.var 8) (.sub (.sub (.var 1) (.cst (.int 0))) (.cst (.int 2)))) (.call fd (.acons (.var 0) (.acons (.frz (.cst (.int 3))) .anil)))) (.cst (.int 1)))) (.acons (.frz (.sub (.var 6) (.sub (.sub (.var 1) (.cst (.int 0))) (.cst (.int 1))))) .anil))) (.bi .int (.cmp .eq (.sub (.sub (.var 1) (.cst (.int 0))) (.cst (.int 1))) (.cst (.str (PySem.Str.ofString ""))))))
def cmFlags (ft : Nat) : E := .lc [10, 4] (.n 4) (.iseq (.var 1)) .tyes (.call ft (.acons (.frz (.var 4)) (.acons (.frz (.var 6)) .anil)))
def cmTold (ft : Nat) : E := .lc [10, 11] (.n 11) (.iseq (.var 3)) .tyes (.call ft (.acons (.frz (.sub (.var 11) (.cst (.int 0)))) (.acons (.frz (.var 6)) .anil)))
def cmEach (fn ft : Nat) : S := .ifs (.tor (.tv (.cmp .eq (.call ft (.acons (.frz (.call fn (.acons (.frz (.var 4)) .anil))) (.acons (.frz (.var 6)) .anil))) (.call ft (.acons (.frz (.var 4)) (.acons (.frz (.var 6)) .anil))))) (.tv (.cmp .ne (.call fn (.acons (.frz (.call fn (.acons (.frz (.var 4)) .anil))) .anil)) (.var 4)))) (.ret (.cst (.bl false))) .nx
def cmLast (ft : Nat) : S := .ifs (.tv (.cmp .eq (.cmp .isin (.cst (.bl true)) (.var 9)) (.cmp .notin (.cst (.bl false)) (cmTold ft)))) (.ret (.cst (.bl false))) .nx
def cmBody (fd fnum fn ft : Nat) : S := .seq (.set 6 .dnew) (.seq (cmVals fnum) (.seq (.store 6 (.cst (.str (PySem.Str.ofString ""))) (.cst (.int 0))) (.seq (.set 8 (.sub (.var 6) (.sub (.sub (.var 1) (.cst (.int 0))) (.cst (.int 0))))) (.seq (cmPut fd) (.seq (.set 9 (cmFlags ft)) (.seq (.fors (.n 4) (.iseq (.var 1)) (cmEach fn ft)) (cmLast ft)))))))
def compB (fd fnum fn fdn ft : Nat) : S := .seq (.set 3 (.call fdn (.acons (.frz (.var 1)) .anil))) (.seq (cm2 fn) (.seq (.fors (.n 5) (.irng (.cst (.int 6))) (cmBody fd fnum fn ft)) (.ret (.cst (.bl true)))))
section
variable {cf : CF} {fd fnum fn fdn ft : Nat} {l : D} {more ts : List D} {p : D}
/-- the values of the terms -/
theorem cmVals_ok (hn : NumOk (cf fnum)) (h0 : IsPool p) (ht : TermsOk ts) (hl : ts.length ≤ 1000) {s1 s3 s4 s5 s7 s8 s9 s10 s11 : Slot} (i7 : s7.idle = true) :
    ∃ p' kvs s7', evS cf (cmVals fnum) [.own true p, s1, .val (.lst ts), s3, s4, s5, .own false (.dic []), s7, s8, s9, s10, s11] = .nx [.own true p', s1, .val (.lst ts), s3, s4, s5, .own false (.dic kvs), s7', s8, s9, s10, s11] ∧ IsPool p' ∧ VOk ts kvs ∧ kvs.length ≤ 1000 ∧ s7'.idle = true := by
  obtain ⟨ρ', l1, p', kvs, s7', rfl, q1, q2, q3, q4⟩ := forL_inv (t := .n 7) (p := evS cf (.store 6 (.var 7) (.call fnum (.acons (.var 0) .anil)))) (fun i ρ => ∃ p kvs s7, ρ = [.own true p, s1, .val (.lst ts), s3, s4, s5, .own false (.dic kvs), s7, s8, s9, s10, s11] ∧ IsPool p ∧ (∀ (j : Nat) (z : Str), j < i → ts[j]? = some (.str z) → ∃ n : Int, look kvs (.inr z) = some (.int n)) ∧ kvs.length ≤ i ∧ s7.idle = true)
    ts 0 [.own true p, s1, .val (.lst ts), s3, s4, s5, .own false (.dic []), s7, s8, s9, s10, s11] ⟨p, [], s7, rfl, h0, fun j z h => by omega, by simp, i7⟩ (fun i d ρ hi ⟨p, kvs, s7, e, q1, q2, q3, q4⟩ => by
      subst e
      have hil := (List.getElem?_eq_some_iff.mp hi).1
      obtain ⟨cs, rfl, _⟩ := ht.2.1 d (List.mem_of_getElem? hi)
      obtain ⟨n, p', e1, q5⟩ := hn p q1
      have hk : kvs.length ≤ 100000 := by omega
      refine ⟨[.own true p, s1, .val (.lst ts), s3, s4, s5, .own false (.dic kvs), .val (.str (mkS cs)), s8, s9, s10, s11], [.own true p', s1, .val (.lst ts), s3, s4, s5, .own false (.dic (put kvs (.inr (mkS cs)) (.int n))), .val (.str (mkS cs)), s8, s9, s10, s11], by simp [asgT, setVal, idle_keep q4], .inl (by simp [e1, hk, evS, evE, evT, evI, evL, evP, nextS, breakS, contS, seqS, setS, putS, setVal, keep_no, keep_val, keep_ownf, asgS, asgT, asgTs, retS, retNS, retOp, ifS, storeS, store3, setD, forS, dropS, seq1, seq2, op1, op2, PyI.res, bop, PyI.cop, copB, eqOp, neOp, D.dep, depL, depK, eqv, eqvL, eqF, D.odd, D.neOk, D.nod, nodL, isOp, inOp, D.flat, varE, cstE, frzE, PyI.frz, seqA, seqV, vals, tupD, lstD, dnewE, testE, truE, truD, notT, andT, orT, yesT, andE, orE, notE, iteE, Res.bind, Res.bindS, deref, slotOf, outsOf, outD, PyI.isi, isiD, biD, ixD, atI, ixN, keyD, slD, partE, seqSl, sl3, negD, callE, callR, argsOf, slotI, fm_v, fm_f, fm_s, wback, setOwn, mtE, mt2, mtD, isTy, Mt.ty, it1, seqD, enumD]), p', _, _, rfl, q5, fun j z hj hz => ?_, by have := put_len (kvs := kvs) (k := .inr (mkS cs)) (d := .int n); omega, rfl⟩
      rw [look_put]
      by_cases ez : z = mkS cs
      · rw [if_pos (by rw [ez])]; exact ⟨n, rfl⟩
      · rw [if_neg (fun q => ez (Sum.inr.inj q))]
        rcases Nat.lt_or_ge j (0 + i) with h | h
        · exact q2 j z h hz
        · have : j = i := by omega
          subst this
          rw [hi] at hz
          exact absurd (by cases hz; rfl) ez)
  refine ⟨p', kvs, s7', (s_for (ev_seq (op := .v (.lst ts)) (d := .lst ts) rfl rfl rfl)).trans l1, q1, fun z hz => ?_, by omega, q4⟩
  obtain ⟨j, hj⟩ := List.getElem?_of_mem hz
  exact q2 j z (by have := (List.getElem?_eq_some_iff.mp hj).1; omega) hj
theorem cmPut_ok (hd : DrawOk (cf fd)) (h0 : IsPool p) (ht : TermsOk ts) (hlit : IsLit ts l) {kvs : List (Key × D)} (hv : VOk ts kvs) (hk : kvs.length ≤ 2000) {v : Int} {s2 s3 s4 s5 s7 s9 s10 s11 : Slot} :
    ∃ p' kvs', evS cf (cmPut fd) [.own true p, .val (.tup (l :: more)), s2, s3, s4, s5, .own false (.dic kvs), s7, .val (.int v), s9, s10, s11] = .nx [.own true p', .val (.tup (l :: more)), s2, s3, s4, s5, .own false (.dic kvs'), s7, .val (.int v), s9, s10, s11] ∧ IsPool p' ∧ VOk ts kvs' := by
  obtain ⟨a, b, n, rfl, _, _, m1, m2⟩ := lit_str hlit ht
  obtain ⟨r, p1, e1, q1, _, _⟩ := hd p 3 h0 (by decide) (by decide)
  obtain ⟨y, hy⟩ := hv b m2
  have hk' : kvs.length ≤ 100000 := by omega
  cases hb : (b == PySem.Str.ofString "") with
  | true => exact ⟨p1, _, by simp [cmPut, e1, hy, hb, hk', evS, evE, evT, evI, evL, evP, nextS, breakS, contS, seqS, setS, putS, setVal, keep_no, keep_val, keep_ownf, asgS, asgT, asgTs, retS, retNS, retOp, ifS, storeS, store3, setD, forS, dropS, seq1, seq2, op1, op2, PyI.res, bop, PyI.cop, copB, eqOp, neOp, D.dep, depL, depK, eqv, eqvL, eqF, D.odd, D.neOk, D.nod, nodL, isOp, inOp, D.flat, varE, cstE, frzE, PyI.frz, seqA, seqV, vals, tupD, lstD, dnewE, testE, truE, truD, notT, andT, orT, yesT, andE, orE, notE, iteE, Res.bind, Res.bindS, deref, slotOf, outsOf, outD, PyI.isi, isiD, biD, ixD, atI, ixN, keyD, slD, partE, seqSl, sl3, negD, callE, callR, argsOf, slotI, fm_v, fm_f, fm_s, wback, setOwn, mtE, mt2, mtD, isTy, Mt.ty, it1, seqD, enumD]; rfl, q1, hv.put _ y⟩
  | false => exact ⟨p1, _, by simp [cmPut, e1, hy, hb, hk', evS, evE, evT, evI, evL, evP, nextS, breakS, contS, seqS, setS, putS, setVal, keep_no, keep_val, keep_ownf, asgS, asgT, asgTs, retS, retNS, retOp, ifS, storeS, store3, setD, forS, dropS, seq1, seq2, op1, op2, PyI.res, bop, PyI.cop, copB, eqOp, neOp, D.dep, depL, depK, eqv, eqvL, eqF, D.odd, D.neOk, D.nod, nodL, isOp, inOp, D.flat, varE, cstE, frzE, PyI.frz, seqA, seqV, vals, tupD, lstD, dnewE, testE, truE, truD, notT, andT, orT, yesT, andE, orE, notE, iteE, Res.bind, Res.bindS, deref, slotOf, outsOf, outD, PyI.isi, isiD, biD, ixD, atI, ixN, keyD, slD, partE, seqSl, sl3, negD, callE, callR, argsOf, slotI, fm_v, fm_f, fm_s, wback, setOwn, mtE, mt2, mtD, isTy, Mt.ty, it1, seqD, enumD]; rfl, q1, hv.put _ (v - n + r - 1)⟩

/-! told, flags -/
def toldOf (ls : List D) : List D := ls.map fun l => .tup [negL l]
theorem ne_told {ls : List D} (h : ∀ x ∈ ls, LitS x) (hl : ls.length ≤ 2) : neOp (.lst (toldOf ls)) (.lst (toldOf ls)) = some false := by
  match ls, hl with
  | [], _ => rfl
  | [x], _ =>
    obtain ⟨a, b, n, rfl⟩ := h x (by simp)
    simp [toldOf, negL, evS, evE, evT, evI, evL, evP, nextS, breakS, contS, seqS, setS, putS, setVal, keep_no, keep_val, keep_ownf, asgS, asgT, asgTs, retS, retNS, retOp, ifS, storeS, store3, setD, forS, dropS, seq1, seq2, op1, op2, PyI.res, bop, PyI.cop, copB, eqOp, neOp, D.dep, depL, depK, eqv, eqvL, eqF, D.odd, D.neOk, D.nod, nodL, isOp, inOp, D.flat, varE, cstE, frzE, PyI.frz, seqA, seqV, vals, tupD, lstD, dnewE, testE, truE, truD, notT, andT, orT, yesT, andE, orE, notE, iteE, Res.bind, Res.bindS, deref, slotOf, outsOf, outD, PyI.isi, isiD, biD, ixD, atI, ixN, keyD, slD, partE, seqSl, sl3, negD, callE, callR, argsOf, slotI, fm_v, fm_f, fm_s, wback, setOwn, mtE, mt2, mtD, isTy, Mt.ty, it1, seqD, enumD]
  | [x, y], _ =>
    obtain ⟨a, b, n, rfl⟩ := h x (by simp)
    obtain ⟨a2, b2, n2, rfl⟩ := h y (by simp)
    simp [toldOf, negL, evS, evE, evT, evI, evL, evP, nextS, breakS, contS, seqS, setS, putS, setVal, keep_no, keep_val, keep_ownf, asgS, asgT, asgTs, retS, retNS, retOp, ifS, storeS, store3, setD, forS, dropS, seq1, seq2, op1, op2, PyI.res, bop, PyI.cop, copB, eqOp, neOp, D.dep, depL, depK, eqv, eqvL, eqF, D.odd, D.neOk, D.nod, nodL, isOp, inOp, D.flat, varE, cstE, frzE, PyI.frz, seqA, seqV, vals, tupD, lstD, dnewE, testE, truE, truD, notT, andT, orT, yesT, andE, orE, notE, iteE, Res.bind, Res.bindS, deref, slotOf, outsOf, outD, PyI.isi, isiD, biD, ixD, atI, ixN, keyD, slD, partE, seqSl, sl3, negD, callE, callR, argsOf, slotI, fm_v, fm_f, fm_s, wback, setOwn, mtE, mt2, mtD, isTy, Mt.ty, it1, seqD, enumD]
theorem ne_lit {x : D} (h : LitS x) : neOp x x = some false := by
  obtain ⟨a, b, n, rfl⟩ := h
  simp [evS, evE, evT, evI, evL, evP, nextS, breakS, contS, seqS, setS, putS, setVal, keep_no, keep_val, keep_ownf, asgS, asgT, asgTs, retS, retNS, retOp, ifS, storeS, store3, setD, forS, dropS, seq1, seq2, op1, op2, PyI.res, bop, PyI.cop, copB, eqOp, neOp, D.dep, depL, depK, eqv, eqvL, eqF, D.odd, D.neOk, D.nod, nodL, isOp, inOp, D.flat, varE, cstE, frzE, PyI.frz, seqA, seqV, vals, tupD, lstD, dnewE, testE, truE, truD, notT, andT, orT, yesT, andE, orE, notE, iteE, Res.bind, Res.bindS, deref, slotOf, outsOf, outD, PyI.isi, isiD, biD, ixD, atI, ixN, keyD, slD, partE, seqSl, sl3, negD, callE, callR, argsOf, slotI, fm_v, fm_f, fm_s, wback, setOwn, mtE, mt2, mtD, isTy, Mt.ty, it1, seqD, enumD]
theorem cmLc_ok (hn : NegC (cf fn)) {ls : List D} (h : ∀ x ∈ ls, LitS x) (hl : ls.length ≤ 2) {s0 s2 s3 s4 s5 s6 s7 s8 s9 s10 s11 : Slot} (i4 : s4.idle = true) (i10 : s10.idle = true) :
    evE cf (cmLc fn) [s0, .val (.tup ls), s2, s3, s4, s5, s6, s7, s8, s9, s10, s11] = .ok (.f (.lst (toldOf ls))) [s0, .val (.tup ls), s2, s3, s4, s5, s6, s7, s8, s9, s10, s11] := by
  refine e_lc (cf := cf) (ρ1 := [s0, .val (.tup ls), s2, s3, s4, s5, s6, s7, s8, s9, s10, s11]) (ρ2 := [s0, .val (.tup ls), s2, s3, .no, s5, s6, s7, s8, s9, .no, s11]) (items := ls) (ev_seq (op := .v (.tup ls)) (d := .tup ls) rfl rfl rfl) (by simp [noOwn, idle_not i4, idle_not i10]) (by omega) ?_
  have := lcL_pure (vs := [10, 4]) (t := .n 4) (c := yesT) (e := frzE (evE cf (.tup (.acons (.frz (.call fn (.acons (.frz (.var 4)) .anil))) .anil)))) (ρ0 := [s0, .val (.tup ls), s2, s3, .no, s5, s6, s7, s8, s9, .no, s11]) (fun _ => true) (fun l => .tup [negL l]) ls [] (fun d hd => by
    obtain ⟨o, e⟩ := neg_call hn (h d hd)
    exact ⟨[s0, .val (.tup ls), s2, s3, .val d, s5, s6, s7, s8, s9, .no, s11], _, rfl, rfl, fun _ => ⟨[s0, .val (.tup ls), s2, s3, .val d, s5, s6, s7, s8, s9, .no, s11], by simp [e, wb1, evS, evE, evT, evI, evL, evP, nextS, breakS, contS, seqS, setS, putS, setVal, keep_no, keep_val, keep_ownf, asgS, asgT, asgTs, retS, retNS, retOp, ifS, storeS, store3, setD, forS, dropS, seq1, seq2, op1, op2, PyI.res, bop, PyI.cop, copB, eqOp, neOp, D.dep, depL, depK, eqv, eqvL, eqF, D.odd, D.neOk, D.nod, nodL, isOp, inOp, D.flat, varE, cstE, frzE, PyI.frz, seqA, seqV, vals, tupD, lstD, dnewE, testE, truE, truD, notT, andT, orT, yesT, andE, orE, notE, iteE, Res.bind, Res.bindS, deref, slotOf, outsOf, outD, PyI.isi, isiD, biD, ixD, atI, ixN, keyD, slD, partE, seqSl, sl3, negD, callE, callR, argsOf, slotI, fm_v, fm_f, fm_s, wback, setOwn, mtE, mt2, mtD, isTy, Mt.ty, it1, seqD, enumD], rfl, rfl⟩, fun q => by cases q⟩)
  refine Eq.trans this ?_
  rw [List.filter_eq_self.mpr (fun _ _ => rfl), List.nil_append]; rfl
theorem cm2_ok (hn : NegC (cf fn)) {ls : List D} (h : ∀ x ∈ ls, LitS x) (hl : ls.length ≤ 2) {s0 s2 s4 s5 s6 s7 s8 s9 s10 s11 : Slot} (i4 : s4.idle = true) (i10 : s10.idle = true) :
    evS cf (cm2 fn) [s0, .val (.tup ls), s2, .own false (.lst (toldOf ls)), s4, s5, s6, s7, s8, s9, s10, s11] = .nx [s0, .val (.tup ls), s2, .own false (.lst (toldOf ls)), s4, s5, s6, s7, s8, s9, s10, s11] := by
  have c := cmLc_ok (s0 := s0) (s2 := s2) (s3 := .own false (.lst (toldOf ls))) (s5 := s5) (s6 := s6) (s7 := s7) (s8 := s8) (s9 := s9) (s11 := s11) hn h hl i4 i10
  have hne := ne_told h hl
  show ifS (orT (notT (truE (seq1 (varE 3) (op1 (PyI.isi .list))))) (testE (seq2 (varE 3) (evE cf (cmLc fn)) (op2 (PyI.cop .ne))))) _ _ _ = _
  simp [ifS, orT, notT, truE, seq1, varE, op1, deref, PyI.isi, isiD, PyI.res, Res.bind, Res.bindS, truD, testE, seq2, c, op2, PyI.cop, copB, hne]
  rfl
theorem cmFlags_ok (ht : TruC (cf ft)) {ls : List D} {kvs : List (Key × D)} (h : ∀ x ∈ ls, Vals2 kvs x) (hl : ls.length ≤ 2) {s0 s2 s3 s4 s5 s6 s7 s8 s9 s10 s11 : Slot} (h6 : Has s6 (.dic kvs)) (i4 : s4.idle = true) (i10 : s10.idle = true) :
    ∃ s6', Has s6' (.dic kvs) ∧ evE cf (cmFlags ft) [s0, .val (.tup ls), s2, s3, s4, s5, s6, s7, s8, s9, s10, s11] = .ok (.f (.lst (ls.map fun x => D.bl (trL kvs x)))) [s0, .val (.tup ls), s2, s3, s4, s5, s6', s7, s8, s9, s10, s11] := by
  obtain ⟨ρ', l1, s6', q1, rfl⟩ := lcL_fun (vs := [10, 4]) (t := .n 4) (e := frzE (evE cf (.call ft (.acons (.frz (.var 4)) (.acons (.frz (.var 6)) .anil))))) (fun ρ => ∃ s6, Has s6 (.dic kvs) ∧ ρ = [s0, .val (.tup ls), s2, s3, .no, s5, s6, s7, s8, s9, .no, s11]) (fun x => D.bl (trL kvs x)) ls []
    [s0, .val (.tup ls), s2, s3, .no, s5, s6, s7, s8, s9, .no, s11] ⟨s6, h6, rfl⟩ (fun d hd ρ ⟨s6, h6, e⟩ => by
      subst e
      obtain ⟨o, e⟩ := ht kvs d (h d hd)
      refine ⟨[s0, .val (.tup ls), s2, s3, .val d, s5, s6, s7, s8, s9, .no, s11], [s0, .val (.tup ls), s2, s3, .val d, s5, .val (.dic kvs), s7, s8, s9, .no, s11], rfl, ?_, rfl, .val (.dic kvs), .inl rfl, rfl⟩
      rcases h6 with rfl | rfl <;> simp [e, wb2, evS, evE, evT, evI, evL, evP, nextS, breakS, contS, seqS, setS, putS, setVal, keep_no, keep_val, keep_ownf, asgS, asgT, asgTs, retS, retNS, retOp, ifS, storeS, store3, setD, forS, dropS, seq1, seq2, op1, op2, PyI.res, bop, PyI.cop, copB, eqOp, neOp, D.dep, depL, depK, eqv, eqvL, eqF, D.odd, D.neOk, D.nod, nodL, isOp, inOp, D.flat, varE, cstE, frzE, PyI.frz, seqA, seqV, vals, tupD, lstD, dnewE, testE, truE, truD, notT, andT, orT, yesT, andE, orE, notE, iteE, Res.bind, Res.bindS, deref, slotOf, outsOf, outD, PyI.isi, isiD, biD, ixD, atI, ixN, keyD, slD, partE, seqSl, sl3, negD, callE, callR, argsOf, slotI, fm_v, fm_f, fm_s, wback, setOwn, mtE, mt2, mtD, isTy, Mt.ty, it1, seqD, enumD])
  refine ⟨s6', q1, e_lc (cf := cf) (ρ1 := [s0, .val (.tup ls), s2, s3, s4, s5, s6, s7, s8, s9, s10, s11]) (ρ2 := [s0, .val (.tup ls), s2, s3, .no, s5, s6', s7, s8, s9, .no, s11]) (items := ls) (ev_seq (op := .v (.tup ls)) (d := .tup ls) rfl rfl rfl) (by simp [noOwn, idle_not i4, idle_not i10]) (by omega) l1⟩
theorem cmTold_ok (ht : TruC (cf ft)) {ls : List D} {kvs : List (Key × D)} (h : ∀ x ∈ ls, Vals2 kvs x) (hl : ls.length ≤ 2) {s0 s1 s2 s3 s4 s5 s6 s7 s8 s9 s10 s11 : Slot} (h3 : Has s3 (.lst (toldOf ls))) (h6 : Has s6 (.dic kvs)) (i10 : s10.idle = true) (i11 : s11.idle = true) :
    ∃ s6', Has s6' (.dic kvs) ∧ evE cf (cmTold ft) [s0, s1, s2, s3, s4, s5, s6, s7, s8, s9, s10, s11] = .ok (.f (.lst (ls.map fun x => D.bl (!trL kvs x)))) [s0, s1, s2, .val (.lst (toldOf ls)), s4, s5, s6', s7, s8, s9, s10, s11] := by
  obtain ⟨ρ', l1, s6', q1, rfl⟩ := lcL_fun (vs := [10, 11]) (t := .n 11) (e := frzE (evE cf (.call ft (.acons (.frz (.sub (.var 11) (.cst (.int 0)))) (.acons (.frz (.var 6)) .anil))))) (fun ρ => ∃ s6, Has s6 (.dic kvs) ∧ ρ = [s0, s1, s2, .val (.lst (toldOf ls)), s4, s5, s6, s7, s8, s9, .no, .no]) (fun d => match d with | .tup [x] => D.bl (trL kvs x) | _ => .non) (toldOf ls) []
    [s0, s1, s2, .val (.lst (toldOf ls)), s4, s5, s6, s7, s8, s9, .no, .no] ⟨s6, h6, rfl⟩ (fun d hd ρ ⟨s6, h6, e⟩ => by
      subst e
      obtain ⟨x, hx, rfl⟩ := List.mem_map.mp hd
      obtain ⟨o, e⟩ := ht kvs (negL x) (vals_neg (h x hx))
      refine ⟨[s0, s1, s2, .val (.lst (toldOf ls)), s4, s5, s6, s7, s8, s9, .no, .val (.tup [negL x])], [s0, s1, s2, .val (.lst (toldOf ls)), s4, s5, .val (.dic kvs), s7, s8, s9, .no, .val (.tup [negL x])], rfl, ?_, rfl, .val (.dic kvs), .inl rfl, rfl⟩
      rcases h6 with rfl | rfl <;> simp [e, wb2, evS, evE, evT, evI, evL, evP, nextS, breakS, contS, seqS, setS, putS, setVal, keep_no, keep_val, keep_ownf, asgS, asgT, asgTs, retS, retNS, retOp, ifS, storeS, store3, setD, forS, dropS, seq1, seq2, op1, op2, PyI.res, bop, PyI.cop, copB, eqOp, neOp, D.dep, depL, depK, eqv, eqvL, eqF, D.odd, D.neOk, D.nod, nodL, isOp, inOp, D.flat, varE, cstE, frzE, PyI.frz, seqA, seqV, vals, tupD, lstD, dnewE, testE, truE, truD, notT, andT, orT, yesT, andE, orE, notE, iteE, Res.bind, Res.bindS, deref, slotOf, outsOf, outD, PyI.isi, isiD, biD, ixD, atI, ixN, keyD, slD, partE, seqSl, sl3, negD, callE, callR, argsOf, slotI, fm_v, fm_f, fm_s, wback, setOwn, mtE, mt2, mtD, isTy, Mt.ty, it1, seqD, enumD])
  refine ⟨s6', q1, ?_⟩
  have l1' : lcL [10, 11] (.n 11) yesT (frzE (evE cf (.call ft (.acons (.frz (.sub (.var 11) (.cst (.int 0)))) (.acons (.frz (.var 6)) .anil))))) (toldOf ls) [] [s0, s1, s2, .val (.lst (toldOf ls)), s4, s5, s6, s7, s8, s9, .no, .no] = .ok (ls.map fun x => D.bl (!trL kvs x)) [s0, s1, s2, .val (.lst (toldOf ls)), s4, s5, s6', s7, s8, s9, .no, .no] := by
    refine l1.trans ?_
    congr 1
    simp only [List.nil_append, toldOf, List.map_map]
    refine List.map_congr_left fun x hx => ?_
    simp only [Function.comp, tr_neg (h x hx)]
  refine e_lc (cf := cf) (ρ1 := [s0, s1, s2, .val (.lst (toldOf ls)), s4, s5, s6, s7, s8, s9, s10, s11]) (ρ2 := [s0, s1, s2, .val (.lst (toldOf ls)), s4, s5, s6', s7, s8, s9, .no, .no]) (items := toldOf ls) ?_ (by simp [noOwn, idle_not i10, idle_not i11]) (by unfold toldOf; rw [List.length_map]; omega) l1'
  rcases h3 with rfl | rfl
  · exact ev_seq (op := .v (.lst (toldOf ls))) (d := .lst (toldOf ls)) rfl rfl rfl
  · exact ev_seq (op := .s 3) (d := .lst (toldOf ls)) rfl rfl rfl
theorem cmEach_ok (hn : NegC (cf fn)) (ht : TruC (cf ft)) {ls : List D} {kvs : List (Key × D)} (h : ∀ x ∈ ls, Vals2 kvs x) {s0 s2 s3 s4 s5 s6 s7 s8 s9 s10 s11 : Slot} (h6 : Has s6 (.dic kvs)) (i4 : s4.idle = true) :
    ∃ s4' s6', s4'.idle = true ∧ Has s6' (.dic kvs) ∧ evS cf (.fors (.n 4) (.iseq (.var 1)) (cmEach fn ft)) [s0, .val (.tup ls), s2, s3, s4, s5, s6, s7, s8, s9, s10, s11] = .nx [s0, .val (.tup ls), s2, s3, s4', s5, s6', s7, s8, s9, s10, s11] := by
  obtain ⟨ρ', l1, s4', s6', q1, q2, rfl⟩ := forL_inv (t := .n 4) (p := evS cf (cmEach fn ft)) (fun _ ρ => ∃ s4 s6, s4.idle = true ∧ Has s6 (.dic kvs) ∧ ρ = [s0, .val (.tup ls), s2, s3, s4, s5, s6, s7, s8, s9, s10, s11]) ls 0 _ ⟨s4, s6, i4, h6, rfl⟩ (fun i d ρ hi ⟨s4, s6, i4, h6, e⟩ => by
      subst e
      have hd := h d (List.mem_of_getElem? hi)
      have hs := vals_lit hd
      obtain ⟨o1, e1⟩ := neg_call hn hs
      obtain ⟨o2, e2⟩ := neg_call hn (neg_lit hs)
      obtain ⟨o3, e3⟩ := ht kvs _ (vals_neg hd)
      obtain ⟨o4, e4⟩ := ht kvs d hd
      rw [tr_neg hd] at e3
      rw [neg_neg hs] at e2
      have hne := ne_lit hs
      have hq : copB .eq (.bl (!trL kvs d)) (.bl (trL kvs d)) = some false := by cases trL kvs d <;> simp [copB, eqOp, D.dep, eqv, D.odd, eqF]
      have hq2 : copB .ne d d = some false := hne
      refine ⟨[s0, .val (.tup ls), s2, s3, .val d, s5, s6, s7, s8, s9, s10, s11], [s0, .val (.tup ls), s2, s3, .val d, s5, .val (.dic kvs), s7, s8, s9, s10, s11], by simp [asgT, setVal, idle_keep i4], .inl ?_, .val d, .val (.dic kvs), rfl, .inl rfl, rfl⟩
      rcases h6 with rfl | rfl
      · simp [cmEach, evS, evE, evT, evL, ifS, orT, testE, seq2, callE, callR, seqA, frzE, PyI.frz, varE, argsOf, slotI, fm_v, e1, e2, e3, e4, wb1, wb2, op2, deref, PyI.cop, hq, hq2, PyI.res, Res.bind, Res.bindS, nextS]
      · simp [cmEach, evS, evE, evT, evL, ifS, orT, testE, seq2, callE, callR, seqA, frzE, PyI.frz, varE, argsOf, slotI, fm_v, e1, e2, e3, e4, wb1, wb2, op2, deref, PyI.cop, hq, hq2, PyI.res, Res.bind, Res.bindS, nextS])
  exact ⟨s4', s6', q1, q2, (s_for (ev_seq (op := .v (.tup ls)) (d := .tup ls) rfl rfl rfl)).trans l1⟩
theorem bls_flat (f : D → Bool) (ls : List D) : (ls.map fun x => D.bl (f x)).all D.flat = true := by
  rw [List.all_map]; exact List.all_eq_true.mpr fun _ _ => rfl
theorem cmLast_ok (ht : TruC (cf ft)) {ls : List D} {kvs : List (Key × D)} (h : ∀ x ∈ ls, Vals2 kvs x) (hl : ls.length ≤ 2) {s0 s1 s2 s3 s4 s5 s6 s7 s8 s10 s11 : Slot} (h3 : Has s3 (.lst (toldOf ls))) (h6 : Has s6 (.dic kvs)) (i10 : s10.idle = true) (i11 : s11.idle = true) :
    ∃ s6', Has s6' (.dic kvs) ∧ evS cf (cmLast ft) [s0, s1, s2, s3, s4, s5, s6, s7, s8, .own false (.lst (ls.map fun x => D.bl (trL kvs x))), s10, s11] = .nx [s0, s1, s2, .val (.lst (toldOf ls)), s4, s5, s6', s7, s8, .own false (.lst (ls.map fun x => D.bl (trL kvs x))), s10, s11] := by
  obtain ⟨s6', q1, q2⟩ := cmTold_ok (s0 := s0) (s1 := s1) (s2 := s2) (s4 := s4) (s5 := s5) (s7 := s7) (s8 := s8) (s9 := .own false (.lst (ls.map fun x => D.bl (trL kvs x)))) ht h hl h3 h6 i10 i11
  refine ⟨s6', q1, ?_⟩
  have a1 : copB .isin (.bl true) (.lst (ls.map fun x => D.bl (trL kvs x))) = some (ls.any fun x => trL kvs x) := by
    have ef : ∀ x, eqF (.bl (trL kvs x)) (.bl true) = trL kvs x := fun x => by cases trL kvs x <;> rfl
    simp only [copB, inOp]
    rw [if_pos ⟨rfl, bls_flat _ ls⟩]
    simp only [inD, List.any_map, Function.comp_def, ef]
  have a2 : copB .notin (.bl false) (.lst (ls.map fun x => D.bl (!trL kvs x))) = some (!(ls.any fun x => trL kvs x)) := by
    have ef : ∀ x, eqF (.bl (!trL kvs x)) (.bl false) = trL kvs x := fun x => by cases trL kvs x <;> rfl
    simp only [copB, inOp]
    rw [if_pos ⟨rfl, bls_flat (fun x => !trL kvs x) ls⟩]
    simp only [inD, List.any_map, Function.comp_def, ef, Option.map_some]
  have a3 : ∀ b : Bool, copB .eq (.bl b) (.bl (!b)) = some false := fun b => by cases b <;> simp [copB, eqOp, D.dep, eqv, D.odd, eqF]
  show ifS (testE (seq2 (seq2 (cstE _) (varE 9) (op2 (PyI.cop .isin))) (seq2 (cstE _) (evE cf (cmTold ft)) (op2 (PyI.cop .notin))) (op2 (PyI.cop .eq)))) _ _ _ = _
  simp [ifS, testE, seq2, cstE, varE, op2, deref, PyI.cop, a1, q2, a2, a3, PyI.res, Res.bind, Res.bindS]
  rfl
end
end PyI
set_option maxHeartbeats 1000000
/-! K01b: values put in. -/
namespace PyI
open PySem PySem.Spec PyProof.Rows L2
/-- a comprehension of a table that leaves its context as it is -/
theorem dcL_pure {vs : List Nat} {t : T} {c : Ft} {ek e : Fe} {ρ0 : Env} (p : D → Bool) (kf : D → Key) (f : D → D) : ∀ (l : List D) (acc : List (Key × D)),
    (∀ d ∈ l, ∃ ρ1 ρ2, asgT t d ρ0 = some ρ1 ∧ c ρ1 = .ok (p d) ρ2 ∧ (p d = true → ∃ ρ3 ρ4 kd, ek ρ2 = .ok (.v kd) ρ3 ∧ keyD kd = some (kf d) ∧ e ρ3 = .ok (.v (f d)) ρ4 ∧ noOwn ρ4 vs = true ∧ wipeR ρ4 vs = ρ0) ∧ (p d = false → noOwn ρ2 vs = true ∧ wipeR ρ2 vs = ρ0)) →
    dcL vs t c ek e l acc ρ0 = .ok ((l.filter p).foldl (fun a d => put a (kf d) (f d)) acc) ρ0
  | [], acc, _ => by simp [dcL]
  | d :: l, acc, st => by
    obtain ⟨ρ1, ρ2, h1, h2, h3, h4⟩ := st d (by simp)
    cases hp : p d with
    | true =>
      obtain ⟨ρ3, ρ4, kd, h5, h6, h7, h8, h9⟩ := h3 hp
      simp only [dcL, h1, h2, hp, h5, h6, h7, h8, if_true, h9]
      rw [dcL_pure p kf f l _ fun d hd => st d (by simp [hd])]
      simp [List.filter_cons, hp]
    | false =>
      obtain ⟨h6, h7⟩ := h4 hp
      simp only [dcL, h1, h2, hp, h6, if_true, h7]
      rw [dcL_pure p kf f l _ fun d hd => st d (by simp [hd])]
      simp [List.filter_cons, hp]
theorem e_dc {cf : CF} {vs : List Nat} {t : T} {it c k e : E} {ρ ρ1 ρ2 : Env} {items : List D} {acc : List (Key × D)} (h1 : evI cf it ρ = .ok items ρ1) (h2 : noOwn ρ1 vs = true) (h3 : items.length ≤ 100000) (h4 : dcL vs t (evT cf c) (frzE (evE cf k)) (frzE (evE cf e)) items [] (wipeR ρ1 vs) = .ok acc ρ2) :
    evE cf (.dc vs t it c k e) ρ = .ok (.f (.dic acc)) (rst ρ1 ρ2 vs) := by
  show dcE vs t (evI cf it) (evT cf c) (frzE (evE cf k)) (frzE (evE cf e)) ρ = _
  unfold dcE
  rw [h1]
  simp only [Res.bind, h2, h3, and_self, if_true]
  rw [h4]
theorem look_fold_out {g : Key → D} {j : Key} : ∀ {l : List Key} {acc : List (Key × D)}, j ∉ l → look (l.foldl (fun a k => put a k (g k)) acc) j = look acc j
  | [], _, _ => rfl
  | k :: l, acc, h => by
    have h' : j ≠ k ∧ j ∉ l := by simpa using h
    rw [List.foldl_cons, look_fold_out h'.2, look_put, if_neg h'.1]
theorem look_fold_in {g : Key → D} {j : Key} : ∀ {l : List Key} {acc : List (Key × D)}, j ∈ l → look (l.foldl (fun a k => put a k (g k)) acc) j = some (g j)
  | [], _, h => by cases h
  | k :: l, acc, h => by
    rw [List.foldl_cons]
    rcases Classical.em (j ∈ l) with q | q
    · exact look_fold_in q
    · have e : j = k := by
        rcases List.mem_cons.mp h with z | z
        · exact z
        · exact absurd z q
      subst e
      rw [look_fold_out q, look_put, if_pos rfl]
/-- where a term goes: a pair of another term and a number -/
def pr (kvs : List (Key × D)) (z : Str) : Str × Int := match look kvs (.inr z) with
  | some (.tup [.str w, .int n]) => (w, n)
  | _ => (z, 0)
def PairOk (kvs : List (Key × D)) : Prop := ∀ z d, look kvs (.inr z) = some d → ∃ (w : Str) (n : Int), d = .tup [.str w, .int n]
def mvL (f : Str → Str × Int) : D → D
  | .tup [.str a, .str b, .int n] => .tup [.str (f a).1, .str (f b).1, .int (n + (f b).2 - (f a).2)]
  | d => d
theorem pr_get {kvs : List (Key × D)} (h : PairOk kvs) (z : Str) : (look kvs (.inr z)).getD (.tup [.str z, .int 0]) = .tup [.str (pr kvs z).1, .int (pr kvs z).2] := by
  unfold pr
  cases hl : look kvs (.inr z) with
  | none => rfl
  | some d => obtain ⟨w, n, rfl⟩ := h z d hl; rfl
/-- .. but for the empty term -/
def pr0 (kvs : List (Key × D)) (z : Str) : Str × Int := if z = mkS [] then (z, 0) else pr kvs z
theorem mvL_lit {f : Str → Str × Int} {l : D} (h : LitS l) : LitS (mvL f l) := by
  obtain ⟨a, b, n, rfl⟩ := h
  exact ⟨_, _, _, rfl⟩
/-- all keys texts, each once -/
def StrKeys (kvs : List (Key × D)) : Prop := (∀ p ∈ kvs, ∃ z : Str, p.1 = .inr z) ∧ (kvs.map (·.1)).Nodup
def piDc : E := .dc [10, 11] (.n 11) (.iseq (.var 1)) (.tv (.cmp .ne (.var 11) (.cst (.str (PySem.Str.ofString ""))))) (.var 11) (.sub (.var 1) (.var 11))
def piBody : S := .seq (.asg (.tup [.n 6, .n 7]) (.get (.var 1) (.var 3) (.tup (.acons (.frz (.var 3)) (.acons (.frz (.cst (.int 0))) .anil))))) (.seq (.asg (.tup [.n 8, .n 9]) (.get (.var 1) (.var 4) (.tup (.acons (.frz (.var 4)) (.acons (.frz (.cst (.int 0))) .anil))))) (.drop (.mt .append 2 (.acons (.frz (.tup (.acons (.frz (.var 6)) (.acons (.frz (.var 8)) (.acons (.frz (.bin .sub (.bin .add (.var 5) (.var 9)) (.var 7))) .anil))))) .anil))))
def putInB : S := .seq (.set 1 piDc) (.seq (.set 2 (.lst .anil)) (.seq (.fors (.tup [.n 3, .n 4, .n 5]) (.iseq (.var 0)) piBody) (.ret (.bi .tuple (.var 2)))))
theorem lookD_mem {kvs : List (Key × D)} {p : Key × D} (h : p ∈ kvs) : ∃ d, look kvs p.1 = some d := by
  induction kvs with
  | nil => cases h
  | cons q r ih =>
    by_cases e : q.1 = p.1
    · exact ⟨q.2, by simp [look, e]⟩
    · rcases List.mem_cons.mp h with z | z
      · exact absurd (by rw [z]) e
      · obtain ⟨d, hd⟩ := ih z
        exact ⟨d, by simp only [look, List.find?_cons, decide_eq_false e] at hd ⊢; exact hd⟩
theorem lookD_none {kvs : List (Key × D)} {k : Key} (h : k ∉ kvs.map (·.1)) : look kvs k = none := by
  induction kvs with
  | nil => rfl
  | cons q r ih =>
    have h' : k ≠ q.1 ∧ k ∉ r.map (·.1) := by simpa using h
    have := ih h'.2
    simp only [look, List.find?_cons, decide_eq_false (fun e => h'.1 (Eq.symm e))] at this ⊢
    exact this
def keyOfD : D → Key
  | .str z => .inr z
  | .int i => .inl i
  | _ => .inl 0
theorem keyOfD_of (k : Key) : keyOfD (keyOf k) = k := by cases k <;> rfl
def neEmpty : D → Bool
  | .str z => !(z == mkS [])
  | _ => true
theorem key_of_str {kvs : List (Key × D)} (h : ∀ p ∈ kvs, ∃ z : Str, p.1 = .inr z) {d : D} (hd : d ∈ kvs.map fun p => keyOf p.1) : ∃ z : Str, d = .str z ∧ ∃ e, look kvs (.inr z) = some e := by
  obtain ⟨p, hp, rfl⟩ := List.mem_map.mp hd
  obtain ⟨z, hz⟩ := h p hp
  obtain ⟨e, he⟩ := lookD_mem hp
  rw [hz] at he
  exact ⟨z, by rw [hz]; rfl, e, he⟩
section
variable {cf : CF}
theorem piDc_ok {ls : D} {kvs : List (Key × D)} (hk : StrKeys kvs) (hl : kvs.length ≤ 2000) : ∃ kvs', evE cf piDc [.val ls, .val (.dic kvs), .no, .no, .no, .no, .no, .no, .no, .no, .no, .no] = .ok (.f (.dic kvs')) [.val ls, .val (.dic kvs), .no, .no, .no, .no, .no, .no, .no, .no, .no, .no] ∧
    ∀ z : Str, look kvs' (.inr z) = if z = mkS [] then none else look kvs (.inr z) := by
  have e := dcL_pure (vs := [10, 11]) (t := .n 11) (c := evT cf (.tv (.cmp .ne (.var 11) (.cst (.str (PySem.Str.ofString "")))))) (ek := frzE (evE cf (.var 11))) (e := frzE (evE cf (.sub (.var 1) (.var 11)))) (ρ0 := [.val ls, .val (.dic kvs), .no, .no, .no, .no, .no, .no, .no, .no, .no, .no])
    neEmpty keyOfD (fun d => (look kvs (keyOfD d)).getD .non) (kvs.map fun p => keyOf p.1) [] (fun d hd => by
      obtain ⟨z, rfl, e, he⟩ := key_of_str hk.1 hd
      refine ⟨[.val ls, .val (.dic kvs), .no, .no, .no, .no, .no, .no, .no, .no, .no, .val (.str z)], [.val ls, .val (.dic kvs), .no, .no, .no, .no, .no, .no, .no, .no, .no, .val (.str z)], rfl, ?_, fun _ => ⟨[.val ls, .val (.dic kvs), .no, .no, .no, .no, .no, .no, .no, .no, .no, .val (.str z)], [.val ls, .val (.dic kvs), .no, .no, .no, .no, .no, .no, .no, .no, .no, .val (.str z)], .str z, rfl, rfl, ?_, rfl, rfl⟩, fun _ => ⟨rfl, rfl⟩⟩
      · simp [neEmpty, empty_eq, evS, evE, evT, evI, evL, evP, nextS, breakS, contS, seqS, setS, putS, setVal, keep_no, keep_val, keep_ownf, asgS, asgT, asgTs, retS, retNS, retOp, ifS, storeS, store3, setD, forS, dropS, seq1, seq2, op1, op2, PyI.res, bop, PyI.cop, copB, eqOp, neOp, D.dep, depL, depK, eqv, eqvL, eqF, D.odd, D.neOk, D.nod, nodL, isOp, inOp, D.flat, varE, cstE, frzE, PyI.frz, seqA, seqV, vals, tupD, lstD, dnewE, testE, truE, truD, notT, andT, orT, yesT, andE, orE, notE, iteE, Res.bind, Res.bindS, deref, slotOf, outsOf, outD, PyI.isi, isiD, biD, ixD, atI, ixN, keyD, slD, partE, seqSl, sl3, negD, callE, callR, argsOf, slotI, fm_v, fm_f, fm_s, wback, setOwn, mtE, mt2, mtD, isTy, Mt.ty, it1, seqD, enumD]
      · simp [he, keyOfD, evS, evE, evT, evI, evL, evP, nextS, breakS, contS, seqS, setS, putS, setVal, keep_no, keep_val, keep_ownf, asgS, asgT, asgTs, retS, retNS, retOp, ifS, storeS, store3, setD, forS, dropS, seq1, seq2, op1, op2, PyI.res, bop, PyI.cop, copB, eqOp, neOp, D.dep, depL, depK, eqv, eqvL, eqF, D.odd, D.neOk, D.nod, nodL, isOp, inOp, D.flat, varE, cstE, frzE, PyI.frz, seqA, seqV, vals, tupD, lstD, dnewE, testE, truE, truD, notT, andT, orT, yesT, andE, orE, notE, iteE, Res.bind, Res.bindS, deref, slotOf, outsOf, outD, PyI.isi, isiD, biD, ixD, atI, ixN, keyD, slD, partE, seqSl, sl3, negD, callE, callR, argsOf, slotI, fm_v, fm_f, fm_s, wback, setOwn, mtE, mt2, mtD, isTy, Mt.ty, it1, seqD, enumD])
  have e2 : ((kvs.map fun p => keyOf p.1).filter neEmpty).foldl (fun a d => put a (keyOfD d) ((look kvs (keyOfD d)).getD .non)) [] = (((kvs.map fun p => keyOf p.1).filter neEmpty).map keyOfD).foldl (fun a k => put a k ((look kvs k).getD .non)) [] := by
    rw [List.foldl_map]
  refine ⟨_, e_dc (ρ1 := [.val ls, .val (.dic kvs), .no, .no, .no, .no, .no, .no, .no, .no, .no, .no]) (ρ2 := [.val ls, .val (.dic kvs), .no, .no, .no, .no, .no, .no, .no, .no, .no, .no]) (ev_seq (op := .v (.dic kvs)) (d := .dic kvs) rfl rfl rfl) rfl (by rw [List.length_map]; omega) e, fun z => ?_⟩
  rw [e2]
  by_cases hz : z = mkS []
  · rw [if_pos hz]
    refine (look_fold_out fun hm => ?_).trans rfl
    obtain ⟨d, hd, hdk⟩ := List.mem_map.mp hm
    obtain ⟨h1, h2⟩ := List.mem_filter.mp hd
    obtain ⟨w, rfl, _⟩ := key_of_str hk.1 h1
    have : w = z := Sum.inr.inj hdk
    subst this hz
    simp [neEmpty] at h2
  · rw [if_neg hz]
    rcases Classical.em ((Sum.inr z : Key) ∈ kvs.map (·.1)) with hm | hm
    · obtain ⟨p, hp, hpk⟩ := List.mem_map.mp hm
      obtain ⟨d, hd⟩ := lookD_mem hp
      rw [hpk] at hd
      rw [look_fold_in, hd]; · rfl
      refine List.mem_map.mpr ⟨.str z, List.mem_filter.mpr ⟨List.mem_map.mpr ⟨p, hp, by rw [hpk]; rfl⟩, ?_⟩, rfl⟩
      simp [neEmpty, hz]
    · rw [lookD_none hm]
      refine (look_fold_out fun hq => ?_).trans rfl
      obtain ⟨d, hd, hdk⟩ := List.mem_map.mp hq
      obtain ⟨h1, h2⟩ := List.mem_filter.mp hd
      obtain ⟨p, hp, rfl⟩ := List.mem_map.mp h1
      rw [keyOfD_of] at hdk
      exact hm (List.mem_map.mpr ⟨p, hp, hdk⟩)
theorem take_snoc {ls : List D} {i : Nat} {d : D} (h : ls[i]? = some d) : ls.take (i + 1) = ls.take i ++ [d] := by
  rw [List.take_succ, h]; rfl
theorem piBody_ok {kvs : List (Key × D)} {f : Str → Str × Int} (hf : ∀ z : Str, (look kvs (.inr z)).getD (.tup [.str z, .int 0]) = .tup [.str (f z).1, .int (f z).2]) {a b : Str} {n : Int} {acc : List D} (hz : acc.length ≤ 100000) {s0 s6 s7 s8 s9 : Slot} (i6 : s6.idle = true) (i7 : s7.idle = true) (i8 : s8.idle = true) (i9 : s9.idle = true) :
    evS cf piBody [s0, .own false (.dic kvs), .own false (.lst acc), .val (.str a), .val (.str b), .val (.int n), s6, s7, s8, s9, .no, .no] =
      .nx [s0, .own false (.dic kvs), .own false (.lst (acc ++ [mvL f (.tup [.str a, .str b, .int n])])), .val (.str a), .val (.str b), .val (.int n), .val (.str (f a).1), .val (.int (f a).2), .val (.str (f b).1), .val (.int (f b).2), .no, .no] := by
  have ha := hf a
  have hb := hf b
  simp [piBody, getE, get3, ha, hb, hz, idle_keep i6, idle_keep i7, idle_keep i8, idle_keep i9, mvL, evS, evE, evT, evI, evL, evP, nextS, breakS, contS, seqS, setS, putS, setVal, keep_no, keep_val, keep_ownf, asgS, asgT, asgTs, retS, retNS, retOp, ifS, storeS, store3, setD, forS, dropS, seq1, seq2, op1, op2, PyI.res, bop, PyI.cop, copB, eqOp, neOp, D.dep, depL, depK, eqv, eqvL, eqF, D.odd, D.neOk, D.nod, nodL, isOp, inOp, D.flat, varE, cstE, frzE, PyI.frz, seqA, seqV, vals, tupD, lstD, dnewE, testE, truE, truD, notT, andT, orT, yesT, andE, orE, notE, iteE, Res.bind, Res.bindS, deref, slotOf, outsOf, outD, PyI.isi, isiD, biD, ixD, atI, ixN, keyD, slD, partE, seqSl, sl3, negD, callE, callR, argsOf, slotI, fm_v, fm_f, fm_s, wback, setOwn, mtE, mt2, mtD, isTy, Mt.ty, it1, seqD, enumD]
/-- put_in's loop, for any table that answers as f -/
theorem piFor_ok {ls : List D} {kvs : List (Key × D)} {f : Str → Str × Int} (hls : ∀ l ∈ ls, LitS l) (hn : ls.length ≤ 1000) (hf : ∀ z : Str, (look kvs (.inr z)).getD (.tup [.str z, .int 0]) = .tup [.str (f z).1, .int (f z).2]) :
    ∃ ρ', evS cf (.fors (.tup [.n 3, .n 4, .n 5]) (.iseq (.var 0)) piBody) [.val (.tup ls), .own false (.dic kvs), .own false (.lst []), .no, .no, .no, .no, .no, .no, .no, .no, .no] = .nx (.val (.tup ls) :: .own false (.dic kvs) :: .own false (.lst (ls.map (mvL f))) :: ρ') := by
  obtain ⟨ρ', l1, s3, s4, s5, s6, s7, s8, s9, rfl, _⟩ := forL_inv (t := .tup [.n 3, .n 4, .n 5]) (p := evS cf piBody) (fun i ρ => ∃ s3 s4 s5 s6 s7 s8 s9, ρ = [.val (.tup ls), .own false (.dic kvs), .own false (.lst ((ls.take i).map (mvL f))), s3, s4, s5, s6, s7, s8, s9, .no, .no] ∧ s3.idle = true ∧ s4.idle = true ∧ s5.idle = true ∧ s6.idle = true ∧ s7.idle = true ∧ s8.idle = true ∧ s9.idle = true) ls 0 _ ⟨.no, .no, .no, .no, .no, .no, .no, rfl, rfl, rfl, rfl, rfl, rfl, rfl, rfl⟩ (fun i d ρ hi ⟨s3, s4, s5, s6, s7, s8, s9, e, i3, i4, i5, i6, i7, i8, i9⟩ => by
    subst e
    obtain ⟨a, b, n, rfl⟩ := hls d (List.mem_of_getElem? hi)
    have hz : ((ls.take (0 + i)).map (mvL f)).length ≤ 100000 := by rw [List.length_map, List.length_take]; omega
    have e : (ls.take (0 + i + 1)).map (mvL f) = (ls.take (0 + i)).map (mvL f) ++ [mvL f (.tup [.str a, .str b, .int n])] := by
      rw [Nat.zero_add, take_snoc hi, List.map_append]; rfl
    refine ⟨[.val (.tup ls), .own false (.dic kvs), .own false (.lst ((ls.take (0 + i)).map (mvL f))), .val (.str a), .val (.str b), .val (.int n), s6, s7, s8, s9, .no, .no], _, ?_, .inl (piBody_ok (s0 := .val (.tup ls)) hf hz i6 i7 i8 i9), .val (.str a), .val (.str b), .val (.int n), .val (.str (f a).1), .val (.int (f a).2), .val (.str (f b).1), .val (.int (f b).2), by rw [e], rfl, rfl, rfl, rfl, rfl, rfl, rfl⟩
    simp [asgT, asgTs, setVal, idle_keep i3, idle_keep i4, idle_keep i5])
  have a3 := (s_for (cf := cf) (t := .tup [.n 3, .n 4, .n 5]) (p := piBody) (ev_seq (cf := cf) (a := .var 0) (ρ := [.val (.tup ls), .own false (.dic kvs), .own false (.lst []), .no, .no, .no, .no, .no, .no, .no, .no, .no]) (op := .v (.tup ls)) (d := .tup ls) rfl rfl rfl)).trans l1
  rw [Nat.zero_add, List.take_length] at a3
  exact ⟨_, a3⟩
def PutC (c : List Arg → CRes) : Prop := ∀ (ls : List D) (kvs : List (Key × D)), (∀ l ∈ ls, LitS l) → ls.length ≤ 1000 → StrKeys kvs → kvs.length ≤ 2000 → PairOk kvs → ∃ o, c [.v (.tup ls), .v (.dic kvs)] = .ok (.v (.tup (ls.map (mvL (pr0 kvs))))) o
theorem putIn_ok : PutC (callBody cf ⟨12, 2, putInB⟩) := by
  intro ls kvs hls hn hk hkl hp
  obtain ⟨kvs', e1, hl⟩ := piDc_ok (cf := cf) (ls := .tup ls) hk hkl
  have a1 := s_set (i := 1) e1 (ρ2 := [.val (.tup ls), .own false (.dic kvs'), .no, .no, .no, .no, .no, .no, .no, .no, .no, .no]) rfl
  have a2 : evS cf (.set 2 (.lst .anil)) [.val (.tup ls), .own false (.dic kvs'), .no, .no, .no, .no, .no, .no, .no, .no, .no, .no] = .nx [.val (.tup ls), .own false (.dic kvs'), .own false (.lst []), .no, .no, .no, .no, .no, .no, .no, .no, .no] := rfl
  have hf : ∀ z : Str, (look kvs' (.inr z)).getD (.tup [.str z, .int 0]) = .tup [.str (pr0 kvs z).1, .int (pr0 kvs z).2] := fun z => by
    rw [hl z]
    unfold pr0
    by_cases hz : z = mkS []
    · rw [if_pos hz, if_pos hz]; rfl
    · rw [if_neg hz, if_neg hz]; exact pr_get hp z
  obtain ⟨ρ', a3⟩ := piFor_ok (cf := cf) hls hn hf
  exact ⟨_, c_ret ((s_seq a1).trans ((s_seq a2).trans ((s_seq a3).trans rfl)))⟩
/-! ### the law's own -/
def dueBody : S := .seq (.set 6 (.get (.var 1) (.var 3) (.tup (.acons (.frz (.var 3)) (.acons (.frz (.cst (.int 0))) .anil))))) (.seq (.set 7 (.get (.var 1) (.var 4) (.tup (.acons (.frz (.var 4)) (.acons (.frz (.cst (.int 0))) .anil))))) (.drop (.mt .append 2 (.acons (.frz (.tup (.acons (.frz (.sub (.var 6) (.cst (.int 0)))) (.acons (.frz (.sub (.var 7) (.cst (.int 0)))) (.acons (.frz (.bin .sub (.bin .add (.var 5) (.sub (.var 7) (.cst (.int 1)))) (.sub (.var 6) (.cst (.int 1))))) .anil))))) .anil))))
def dueB : S := .seq (.set 2 (.lst .anil)) (.seq (.fors (.tup [.n 3, .n 4, .n 5]) (.iseq (.var 0)) dueBody) (.ret (.bi .tuple (.var 2))))
theorem dueBody_ok {kvs : List (Key × D)} {f : Str → Str × Int} (hf : ∀ z : Str, (look kvs (.inr z)).getD (.tup [.str z, .int 0]) = .tup [.str (f z).1, .int (f z).2]) {a b : Str} {n : Int} {acc : List D} (hz : acc.length ≤ 100000) {s0 s6 s7 : Slot} (i6 : s6.idle = true) (i7 : s7.idle = true) :
    evS cf dueBody [s0, .val (.dic kvs), .own false (.lst acc), .val (.str a), .val (.str b), .val (.int n), s6, s7] =
      .nx [s0, .val (.dic kvs), .own false (.lst (acc ++ [mvL f (.tup [.str a, .str b, .int n])])), .val (.str a), .val (.str b), .val (.int n), .val (.tup [.str (f a).1, .int (f a).2]), .val (.tup [.str (f b).1, .int (f b).2])] := by
  have ha := hf a
  have hb := hf b
  simp [dueBody, getE, get3, ha, hb, hz, idle_keep i6, idle_keep i7, mvL, evS, evE, evT, evI, evL, evP, nextS, breakS, contS, seqS, setS, putS, setVal, keep_no, keep_val, keep_ownf, asgS, asgT, asgTs, retS, retNS, retOp, ifS, storeS, store3, setD, forS, dropS, seq1, seq2, op1, op2, PyI.res, bop, PyI.cop, copB, eqOp, neOp, D.dep, depL, depK, eqv, eqvL, eqF, D.odd, D.neOk, D.nod, nodL, isOp, inOp, D.flat, varE, cstE, frzE, PyI.frz, seqA, seqV, vals, tupD, lstD, dnewE, testE, truE, truD, notT, andT, orT, yesT, andE, orE, notE, iteE, Res.bind, Res.bindS, deref, slotOf, outsOf, outD, PyI.isi, isiD, biD, ixD, atI, ixN, keyD, slD, partE, seqSl, sl3, negD, callE, callR, argsOf, slotI, fm_v, fm_f, fm_s, wback, setOwn, mtE, mt2, mtD, isTy, Mt.ty, it1, seqD, enumD]
def DueC (c : List Arg → CRes) : Prop := ∀ (ls : List D) (kvs : List (Key × D)), (∀ l ∈ ls, LitS l) → ls.length ≤ 1000 → PairOk kvs → ∃ o, c [.v (.tup ls), .v (.dic kvs)] = .ok (.v (.tup (ls.map (mvL (pr kvs))))) o
theorem due_ok : DueC (callBody cf ⟨8, 2, dueB⟩) := by
  intro ls kvs hls hn hp
  have a2 : evS cf (.set 2 (.lst .anil)) [.val (.tup ls), .val (.dic kvs), .no, .no, .no, .no, .no, .no] = .nx [.val (.tup ls), .val (.dic kvs), .own false (.lst []), .no, .no, .no, .no, .no] := rfl
  obtain ⟨ρ', l1, s3, s4, s5, s6, s7, rfl, _⟩ := forL_inv (t := .tup [.n 3, .n 4, .n 5]) (p := evS cf dueBody) (fun i ρ => ∃ s3 s4 s5 s6 s7, ρ = [.val (.tup ls), .val (.dic kvs), .own false (.lst ((ls.take i).map (mvL (pr kvs)))), s3, s4, s5, s6, s7] ∧ s3.idle = true ∧ s4.idle = true ∧ s5.idle = true ∧ s6.idle = true ∧ s7.idle = true) ls 0 [.val (.tup ls), .val (.dic kvs), .own false (.lst []), .no, .no, .no, .no, .no] ⟨.no, .no, .no, .no, .no, rfl, rfl, rfl, rfl, rfl, rfl⟩ (fun i d ρ hi ⟨s3, s4, s5, s6, s7, e, i3, i4, i5, i6, i7⟩ => by
    subst e
    obtain ⟨a, b, n, rfl⟩ := hls d (List.mem_of_getElem? hi)
    have hz : ((ls.take (0 + i)).map (mvL (pr kvs))).length ≤ 100000 := by rw [List.length_map, List.length_take]; omega
    have e : (ls.take (0 + i + 1)).map (mvL (pr kvs)) = (ls.take (0 + i)).map (mvL (pr kvs)) ++ [mvL (pr kvs) (.tup [.str a, .str b, .int n])] := by
      rw [Nat.zero_add, take_snoc hi, List.map_append]; rfl
    refine ⟨[.val (.tup ls), .val (.dic kvs), .own false (.lst ((ls.take (0 + i)).map (mvL (pr kvs)))), .val (.str a), .val (.str b), .val (.int n), s6, s7], _, ?_, .inl (dueBody_ok (s0 := .val (.tup ls)) (fun z => pr_get hp z) hz i6 i7), _, _, _, _, _, by rw [e], rfl, rfl, rfl, rfl, rfl⟩
    simp [asgT, asgTs, setVal, idle_keep i3, idle_keep i4, idle_keep i5])
  have a3 : evS cf (.fors (.tup [.n 3, .n 4, .n 5]) (.iseq (.var 0)) dueBody) [.val (.tup ls), .val (.dic kvs), .own false (.lst []), .no, .no, .no, .no, .no] = .nx _ := (s_for (ev_seq (op := .v (.tup ls)) (d := .tup ls) rfl rfl rfl)).trans l1
  rw [Nat.zero_add, List.take_length] at a3
  exact ⟨_, c_ret ((s_seq a2).trans ((s_seq a3).trans rfl))⟩
end
end PyI
set_option maxHeartbeats 1000000
/-! K01c: truth of clauses, drawn places. -/
namespace PyI
open PySem PySem.Spec PyProof.Rows L2
def trueLc : E := .lc [2, 3, 4, 5] (.tup [.n 3, .n 4, .n 5]) (.iseq (.var 0)) .tyes (.cmp .le (.sub (.var 1) (.var 3)) (.bin .add (.sub (.var 1) (.var 4)) (.var 5)))
def trueB : S := .ret (.cmp .isin (.cst (.bl true)) trueLc)
def TrueC (c : List Arg → CRes) : Prop := ∀ (ls : List D) (kvs : List (Key × D)), (∀ l ∈ ls, Vals2 kvs l) → ls.length ≤ 1000 → ∃ o, c [.v (.tup ls), .v (.dic kvs)] = .ok (.v (.bl (ls.any fun l => trL kvs l))) o
section
variable {cf : CF}
theorem true_ok : TrueC (callBody cf ⟨6, 2, trueB⟩) := by
  intro ls kvs h hn
  have e1 : evE cf trueLc [.val (.tup ls), .val (.dic kvs), .no, .no, .no, .no] = .ok (.f (.lst (ls.map fun l => D.bl (trL kvs l)))) [.val (.tup ls), .val (.dic kvs), .no, .no, .no, .no] := by
    refine e_lc (cf := cf) (ρ1 := [.val (.tup ls), .val (.dic kvs), .no, .no, .no, .no]) (ρ2 := [.val (.tup ls), .val (.dic kvs), .no, .no, .no, .no]) (items := ls) (ev_seq (op := .v (.tup ls)) (d := .tup ls) rfl rfl rfl) rfl (by omega) ?_
    have := lcL_pure (vs := [2, 3, 4, 5]) (t := .tup [.n 3, .n 4, .n 5]) (c := yesT) (e := frzE (evE cf (.cmp .le (.sub (.var 1) (.var 3)) (.bin .add (.sub (.var 1) (.var 4)) (.var 5))))) (ρ0 := [.val (.tup ls), .val (.dic kvs), .no, .no, .no, .no]) (fun _ => true) (fun l => .bl (trL kvs l)) ls [] (fun d hd => by
      obtain ⟨a, b, n, x, y, rfl, h1, h2⟩ := h d hd
      refine ⟨[.val (.tup ls), .val (.dic kvs), .no, .val (.str a), .val (.str b), .val (.int n)], _, rfl, rfl, fun _ => ⟨[.val (.tup ls), .val (.dic kvs), .no, .val (.str a), .val (.str b), .val (.int n)], ?_, rfl, rfl⟩, fun q => by cases q⟩
      simp [h1, h2, trL, evS, evE, evT, evI, evL, evP, nextS, breakS, contS, seqS, setS, putS, setVal, keep_no, keep_val, keep_ownf, asgS, asgT, asgTs, retS, retNS, retOp, ifS, storeS, store3, setD, forS, dropS, seq1, seq2, op1, op2, PyI.res, bop, PyI.cop, copB, eqOp, neOp, D.dep, depL, depK, eqv, eqvL, eqF, D.odd, D.neOk, D.nod, nodL, isOp, inOp, D.flat, varE, cstE, frzE, PyI.frz, seqA, seqV, vals, tupD, lstD, dnewE, testE, truE, truD, notT, andT, orT, yesT, andE, orE, notE, iteE, Res.bind, Res.bindS, deref, slotOf, outsOf, outD, PyI.isi, isiD, biD, ixD, atI, ixN, keyD, slD, partE, seqSl, sl3, negD, callE, callR, argsOf, slotI, fm_v, fm_f, fm_s, wback, setOwn, mtE, mt2, mtD, isTy, Mt.ty, it1, seqD, enumD])
    refine Eq.trans this ?_
    rw [List.filter_eq_self.mpr (fun _ _ => rfl), List.nil_append]
  have ef : ∀ x, eqF (.bl (trL kvs x)) (.bl true) = trL kvs x := fun x => by cases trL kvs x <;> rfl
  have a1 : copB .isin (.bl true) (.lst (ls.map fun x => D.bl (trL kvs x))) = some (ls.any fun x => trL kvs x) := by
    simp only [copB, inOp]
    rw [if_pos ⟨rfl, bls_flat _ ls⟩]
    simp only [inD, List.any_map, Function.comp_def, ef]
  refine ⟨_, c_ret (d := .bl (ls.any fun l => trL kvs l)) (ρ' := [.val (.tup ls), .val (.dic kvs), .no, .no, .no, .no]) ?_⟩
  show retS (seq2 (cstE _) (evE cf trueLc) (op2 (PyI.cop .isin))) [.val (.tup ls), .val (.dic kvs), .no, .no, .no, .no] = _
  simp [retS, seq2, cstE, e1, op2, deref, PyI.cop, a1, PyI.res, Res.bind, Res.bindS, retOp]
end
/-- drawn places: from terms but the empty one to pairs -/
structure Pl (ts : List D) (kvs : List (Key × D)) : Prop where
  k : StrKeys kvs
  n : kvs.length ≤ 1000
  p : ∀ z d, look kvs (.inr z) = some d → D.str z ∈ ts ∧ z ≠ mkS [] ∧ ∃ (w : Str) (n : Int), d = .tup [.str w, .int n] ∧ D.str w ∈ ts
theorem Pl.pair {ts : List D} {kvs : List (Key × D)} (h : Pl ts kvs) : PairOk kvs := fun z d hd => by
  obtain ⟨_, _, w, n, e, _⟩ := h.p z d hd
  exact ⟨w, n, e⟩
theorem put_keys {kvs : List (Key × D)} {z : Str} {d : D} (h : StrKeys kvs) : StrKeys (put kvs (.inr z) d) := by
  unfold put
  split
  · refine ⟨fun p hp => ?_, ?_⟩
    · obtain ⟨q, hq, rfl⟩ := List.mem_map.mp hp
      obtain ⟨w, hw⟩ := h.1 q hq
      by_cases e : q.1 = Sum.inr z
      · rw [if_pos e]; exact ⟨z, e⟩
      · rw [if_neg e]; exact ⟨w, hw⟩
    · have : (kvs.map fun kv => if kv.1 = Sum.inr z then (kv.1, d) else kv).map (·.1) = kvs.map (·.1) := by
        rw [List.map_map]
        refine List.map_congr_left fun q _ => ?_
        simp only [Function.comp]
        split <;> rfl
      rw [this]; exact h.2
  · rename_i hn
    refine ⟨fun p hp => ?_, ?_⟩
    · rcases List.mem_append.mp hp with q | q
      · exact h.1 p q
      · have : p = (.inr z, d) := by simpa using q
        exact ⟨z, by rw [this]⟩
    · rw [List.map_append, List.nodup_append]
      refine ⟨h.2, by simp, fun a ha b hb => ?_⟩
      have hb' : b = .inr z := by simpa using hb
      intro e
      obtain ⟨q, hq, hqa⟩ := List.mem_map.mp ha
      refine hn (List.any_eq_true.mpr ⟨q, hq, ?_⟩)
      rw [hqa, e, hb']
      exact decide_eq_true rfl
theorem cut_rest {x : D} {r : List D} : cutD (x :: r) (some 1) none = r := by
  have h1 : HT.sIx ((x :: r).length) 0 (some 1) = 1 := by
    rw [show (1 : Int) = ((1 : Nat) : Int) from rfl, HT.sIx_nat]; simp
  have h2 : HT.sIx ((x :: r).length) ((x :: r).length) none = (x :: r).length := rfl
  unfold cutD
  rw [h1, h2]
  simp
def plBody (fd fp fn : Nat) : S := .ifs (.tv (.cmp .eq (.call fd (.acons (.var 0) (.acons (.frz (.cst (.int 2))) .anil))) (.cst (.int 0)))) (.store 2 (.var 3) (.tup (.acons (.frz (.call fp (.acons (.var 0) (.acons (.frz (.var 1)) .anil)))) (.acons (.frz (.call fn (.acons (.var 0) .anil))) .anil)))) .nx
def placesB (fd fp fn : Nat) : S := .seq (.set 2 .dnew) (.seq (.fors (.n 3) (.iseq (.slc (.var 1) (.acons (.cst (.int 1)) .anil) .nopart)) (plBody fd fp fn)) (.ret (.var 2)))
def PlacesC (c : List Arg → CRes) : Prop := ∀ (p : D) (ts : List D), IsPool p → TermsOk ts → ts.length ≤ 1000 → ∃ kvs p', c [.r p, .v (.lst ts)] = .ok (.f (.dic kvs)) [p', .non] ∧ IsPool p' ∧ Pl ts kvs
section
variable {cf : CF} {fd fp fn : Nat}
theorem places_ok (hd : DrawOk (cf fd)) (hp : PickOk (cf fp)) (hn : NumOk (cf fn)) : PlacesC (callBody cf ⟨4, 2, placesB fd fp fn⟩) := by
  intro p ts h0 ht hl
  obtain ⟨⟨r, er⟩, hterm, hnd⟩ := id ht
  have a1 : evS cf (.set 2 .dnew) [.own true p, .val (.lst ts), .no, .no] = .nx [.own true p, .val (.lst ts), .own false (.dic []), .no] := rfl
  obtain ⟨ρ', l1, p', kvs, s3, rfl, q1, q2, q3⟩ := forL_inv (t := .n 3) (p := evS cf (plBody fd fp fn)) (fun i ρ => ∃ p kvs s3, ρ = [.own true p, .val (.lst ts), .own false (.dic kvs), s3] ∧ IsPool p ∧ (StrKeys kvs ∧ kvs.length ≤ i ∧ ∀ z d, look kvs (.inr z) = some d → D.str z ∈ ts ∧ z ≠ mkS [] ∧ ∃ (w : Str) (n : Int), d = .tup [.str w, .int n] ∧ D.str w ∈ ts) ∧ s3.idle = true)
    r 0 [.own true p, .val (.lst ts), .own false (.dic []), .no] ⟨p, [], .no, rfl, h0, ⟨⟨fun p hp => (by cases hp), (by simp)⟩, Nat.le_refl _, fun z d h => (by cases h)⟩, rfl⟩ (fun i d ρ hi ⟨p, kvs, s3, e, q1, ⟨q2, q3, q4⟩, i3⟩ => by
      subst e
      have hil := (List.getElem?_eq_some_iff.mp hi).1
      have hmr : d ∈ r := List.mem_of_getElem? hi
      have hm : d ∈ ts := by rw [er]; exact List.mem_cons_of_mem _ hmr
      have hne : d ≠ .str (mkS []) := fun e => by
        rw [er] at hnd
        exact (List.nodup_cons.mp hnd).1 (by rw [← e]; exact hmr)
      obtain ⟨cs, rfl, _⟩ := hterm d hm
      have hrl : r.length + 1 ≤ 1000 := by rw [er] at hl; simpa using hl
      obtain ⟨k, p1, e1, w1, _, _⟩ := hd p 2 q1 (by decide) (by decide)
      by_cases hk : k = 0
      · subst hk
        obtain ⟨t, p2, e2, w2, mt⟩ := hp p1 (.lst ts) ts w1 (.inl rfl) ht.ne (by omega)
        obtain ⟨n, p3, e3, w3⟩ := hn p2 w2
        obtain ⟨cs2, rfl, _⟩ := hterm t mt
        have hkl : kvs.length ≤ 100000 := by omega
        refine ⟨[.own true p, .val (.lst ts), .own false (.dic kvs), .val (.str (mkS cs))], [.own true p3, .val (.lst ts), .own false (.dic (put kvs (.inr (mkS cs)) (.tup [.str (mkS cs2), .int n]))), .val (.str (mkS cs))], by simp [asgT, setVal, idle_keep i3], .inl (by simp [plBody, e1, e2, e3, hkl, evS, evE, evT, evI, evL, evP, nextS, breakS, contS, seqS, setS, putS, setVal, keep_no, keep_val, keep_ownf, asgS, asgT, asgTs, retS, retNS, retOp, ifS, storeS, store3, setD, forS, dropS, seq1, seq2, op1, op2, PyI.res, bop, PyI.cop, copB, eqOp, neOp, D.dep, depL, depK, eqv, eqvL, eqF, D.odd, D.neOk, D.nod, nodL, isOp, inOp, D.flat, varE, cstE, frzE, PyI.frz, seqA, seqV, vals, tupD, lstD, dnewE, testE, truE, truD, notT, andT, orT, yesT, andE, orE, notE, iteE, Res.bind, Res.bindS, deref, slotOf, outsOf, outD, PyI.isi, isiD, biD, ixD, atI, ixN, keyD, slD, partE, seqSl, sl3, negD, callE, callR, argsOf, slotI, fm_v, fm_f, fm_s, wback, setOwn, mtE, mt2, mtD, isTy, Mt.ty, it1, seqD, enumD]), p3, _, _, rfl, w3, ⟨put_keys q2, by have := put_len (kvs := kvs) (k := .inr (mkS cs)) (d := .tup [.str (mkS cs2), .int n]); omega, fun z d hz => ?_⟩, rfl⟩
        rw [look_put] at hz
        by_cases ez : (Sum.inr z : Key) = .inr (mkS cs)
        · rw [if_pos ez] at hz
          cases hz
          cases Sum.inr.inj ez
          exact ⟨hm, fun e => hne (by rw [e]), mkS cs2, n, rfl, mt⟩
        · rw [if_neg ez] at hz
          exact q4 z d hz
      · exact ⟨[.own true p, .val (.lst ts), .own false (.dic kvs), .val (.str (mkS cs))], [.own true p1, .val (.lst ts), .own false (.dic kvs), .val (.str (mkS cs))], by simp [asgT, setVal, idle_keep i3], .inl (by simp [plBody, e1, hk, evS, evE, evT, evI, evL, evP, nextS, breakS, contS, seqS, setS, putS, setVal, keep_no, keep_val, keep_ownf, asgS, asgT, asgTs, retS, retNS, retOp, ifS, storeS, store3, setD, forS, dropS, seq1, seq2, op1, op2, PyI.res, bop, PyI.cop, copB, eqOp, neOp, D.dep, depL, depK, eqv, eqvL, eqF, D.odd, D.neOk, D.nod, nodL, isOp, inOp, D.flat, varE, cstE, frzE, PyI.frz, seqA, seqV, vals, tupD, lstD, dnewE, testE, truE, truD, notT, andT, orT, yesT, andE, orE, notE, iteE, Res.bind, Res.bindS, deref, slotOf, outsOf, outD, PyI.isi, isiD, biD, ixD, atI, ixN, keyD, slD, partE, seqSl, sl3, negD, callE, callR, argsOf, slotI, fm_v, fm_f, fm_s, wback, setOwn, mtE, mt2, mtD, isTy, Mt.ty, it1, seqD, enumD]), p1, kvs, _, rfl, w1, ⟨q2, by omega, q4⟩, rfl⟩)
  have hsl : evE cf (.slc (.var 1) (.acons (.cst (.int 1)) .anil) .nopart) [.own true p, .val (.lst ts), .own false (.dic []), .no] = .ok (.f (.lst r)) [.own true p, .val (.lst ts), .own false (.dic []), .no] := by
    have := cut_rest (x := .str (mkS [])) (r := r)
    rw [← er] at this
    simp [this, evS, evE, evT, evI, evL, evP, nextS, breakS, contS, seqS, setS, putS, setVal, keep_no, keep_val, keep_ownf, asgS, asgT, asgTs, retS, retNS, retOp, ifS, storeS, store3, setD, forS, dropS, seq1, seq2, op1, op2, PyI.res, bop, PyI.cop, copB, eqOp, neOp, D.dep, depL, depK, eqv, eqvL, eqF, D.odd, D.neOk, D.nod, nodL, isOp, inOp, D.flat, varE, cstE, frzE, PyI.frz, seqA, seqV, vals, tupD, lstD, dnewE, testE, truE, truD, notT, andT, orT, yesT, andE, orE, notE, iteE, Res.bind, Res.bindS, deref, slotOf, outsOf, outD, PyI.isi, isiD, biD, ixD, atI, ixN, keyD, slD, partE, seqSl, sl3, negD, callE, callR, argsOf, slotI, fm_v, fm_f, fm_s, wback, setOwn, mtE, mt2, mtD, isTy, Mt.ty, it1, seqD, enumD]
  have a2 : evS cf (.fors (.n 3) (.iseq (.slc (.var 1) (.acons (.cst (.int 1)) .anil) .nopart)) (plBody fd fp fn)) [.own true p, .val (.lst ts), .own false (.dic []), .no] = .nx _ := (s_for (ev_seq hsl (d := .lst r) rfl rfl)).trans l1
  have hrl : r.length + 1 ≤ 1000 := by rw [er] at hl; simpa using hl
  exact ⟨kvs, p', c_retf (ρ' := [.own true p', .val (.lst ts), .no, s3]) ((s_seq a1).trans ((s_seq a2).trans rfl)), q1, q2.1, by have := q2.2.1; omega, q2.2.2⟩
end
end PyI
set_option maxHeartbeats 1000000
/-! K01d: the law's turn. -/
namespace PyI
open PySem PySem.Spec PyProof.Rows L2
/-! ### comparisons that hold -/
theorem ne_tup {ls : List D} (h : ∀ x ∈ ls, LitS x) (hl : ls.length ≤ 2) : neOp (.tup ls) (.tup ls) = some false := by
  match ls, hl with
  | [], _ => rfl
  | [x], _ =>
    obtain ⟨a, b, n, rfl⟩ := h x (by simp)
    simp [evS, evE, evT, evI, evL, evP, nextS, breakS, contS, seqS, setS, putS, setVal, keep_no, keep_val, keep_ownf, asgS, asgT, asgTs, retS, retNS, retOp, ifS, storeS, store3, setD, forS, dropS, seq1, seq2, op1, op2, PyI.res, bop, PyI.cop, copB, eqOp, neOp, D.dep, depL, depK, eqv, eqvL, eqF, D.odd, D.neOk, D.nod, nodL, isOp, inOp, D.flat, varE, cstE, frzE, PyI.frz, seqA, seqV, vals, tupD, lstD, dnewE, testE, truE, truD, notT, andT, orT, yesT, andE, orE, notE, iteE, Res.bind, Res.bindS, deref, slotOf, outsOf, outD, PyI.isi, isiD, biD, ixD, atI, ixN, keyD, slD, partE, seqSl, sl3, negD, callE, callR, argsOf, slotI, fm_v, fm_f, fm_s, wback, setOwn, mtE, mt2, mtD, isTy, Mt.ty, it1, seqD, enumD]
  | [x, y], _ =>
    obtain ⟨a, b, n, rfl⟩ := h x (by simp)
    obtain ⟨a2, b2, n2, rfl⟩ := h y (by simp)
    simp [evS, evE, evT, evI, evL, evP, nextS, breakS, contS, seqS, setS, putS, setVal, keep_no, keep_val, keep_ownf, asgS, asgT, asgTs, retS, retNS, retOp, ifS, storeS, store3, setD, forS, dropS, seq1, seq2, op1, op2, PyI.res, bop, PyI.cop, copB, eqOp, neOp, D.dep, depL, depK, eqv, eqvL, eqF, D.odd, D.neOk, D.nod, nodL, isOp, inOp, D.flat, varE, cstE, frzE, PyI.frz, seqA, seqV, vals, tupD, lstD, dnewE, testE, truE, truD, notT, andT, orT, yesT, andE, orE, notE, iteE, Res.bind, Res.bindS, deref, slotOf, outsOf, outD, PyI.isi, isiD, biD, ixD, atI, ixN, keyD, slD, partE, seqSl, sl3, negD, callE, callR, argsOf, slotI, fm_v, fm_f, fm_s, wback, setOwn, mtE, mt2, mtD, isTy, Mt.ty, it1, seqD, enumD]
theorem eqvK_refl {kvs : List (Key × D)} (nd : (kvs.map (·.1)).Nodup) : ∀ {r : List (Key × D)}, (∀ p ∈ r, p ∈ kvs) → (∀ p ∈ r, ∃ (w : Str) (n : Int), p.2 = .tup [.str w, .int n]) → eqvK r kvs = some true ∧ depK r ≤ 1 ∧ nodK r = true
  | [], _, _ => ⟨rfl, Nat.zero_le _, rfl⟩
  | (k, d) :: r, h1, h2 => by
    obtain ⟨i1, i2, i3⟩ := eqvK_refl nd (r := r) (fun p hp => h1 p (by simp [hp])) (fun p hp => h2 p (by simp [hp]))
    obtain ⟨w, n, e⟩ := h2 (k, d) (by simp)
    have e' : d = .tup [.str w, .int n] := e
    subst e'
    have hl := look_mem nd (h1 (k, .tup [.str w, .int n]) (by simp))
    refine ⟨?_, ?_, ?_⟩
    · simp [eqvK, hl, i1, eqv, eqvL, D.odd, eqF]
    · simp only [depK, D.dep, depL]; omega
    · simp [nodK, D.nod, nodL, i3]
theorem ne_dic {ts : List D} {kvs : List (Key × D)} (h : Pl ts kvs) : neOp (.dic kvs) (.dic kvs) = some false := by
  obtain ⟨h1, h2, h3⟩ := eqvK_refl h.k.2 (r := kvs) (fun p hp => hp) (fun p hp => by
    obtain ⟨z, hz⟩ := h.k.1 p hp
    have hl := look_mem h.k.2 (show (p.1, p.2) ∈ kvs from hp)
    rw [hz] at hl
    obtain ⟨_, _, w, n, e, _⟩ := h.p z p.2 hl
    exact ⟨w, n, e⟩)
  have hd : (D.dic kvs).dep ≤ 100 := by simp only [D.dep]; omega
  simp [neOp, hd, D.neOk, h3, eqv, h1]
/-! ### what is put in -/
theorem pr0_pl {ts : List D} {kvs : List (Key × D)} (h : Pl ts kvs) (z : Str) : pr0 kvs z = pr kvs z := by
  unfold pr0
  by_cases e : z = mkS []
  · rw [if_pos e]
    unfold pr
    cases hl : look kvs (.inr z) with
    | none => rfl
    | some d => exact absurd e (h.p z d hl).2.1
  · rw [if_neg e]
theorem pr_term {ts : List D} {kvs : List (Key × D)} (h : Pl ts kvs) {z : Str} (hz : D.str z ∈ ts) : D.str (pr kvs z).1 ∈ ts := by
  unfold pr
  cases hl : look kvs (.inr z) with
  | none => exact hz
  | some d =>
    obtain ⟨_, _, w, n, rfl, hw⟩ := h.p z d hl
    exact hw
theorem mv_lit {ts : List D} {kvs : List (Key × D)} (h : Pl ts kvs) (ht : TermsOk ts) {l : D} (hl : IsLit ts l) : IsLit ts (mvL (pr kvs) l) := by
  obtain ⟨a, b, n, rfl, _, _, m1, m2⟩ := lit_str hl ht
  exact ⟨_, _, _, rfl, pr_term h m1, pr_term h m2⟩
theorem map_congr_lit {f g : Str → Str × Int} (h : ∀ z, f z = g z) (ls : List D) : ls.map (mvL f) = ls.map (mvL g) := by
  have : f = g := funext h
  rw [this]
theorem mv_id {ls : List D} (h : ∀ l ∈ ls, LitS l) : ls.map (mvL (pr0 [])) = ls := by
  have e : ∀ l ∈ ls, mvL (pr0 []) l = l := fun l hl => by
    obtain ⟨a, b, n, rfl⟩ := h l hl
    have e : ∀ z, pr0 [] z = (z, 0) := fun z => by unfold pr0; split <;> rfl
    simp [mvL, e]
  rw [List.map_congr_left e, List.map_id']
/-- the integers where each term is moved -/
theorem tr_moved {ts : List D} {kvs vals mv : List (Key × D)} (h : Pl ts kvs) (ht : TermsOk ts) (hv : VOk ts vals) (hm : ∀ z : Str, D.str z ∈ ts → ∃ n : Int, look vals (.inr (pr kvs z).1) = some (.int n) ∧ look mv (.inr z) = some (.int (n + (pr kvs z).2))) {l : D} (hl : IsLit ts l) :
    trL vals (mvL (pr kvs) l) = trL mv l := by
  obtain ⟨a, b, n, rfl, _, _, m1, m2⟩ := lit_str hl ht
  obtain ⟨x, h1, h2⟩ := hm a m1
  obtain ⟨y, h3, h4⟩ := hm b m2
  simp only [mvL, trL, h1, h2, h3, h4]
  refine decide_eq_decide.mpr ⟨fun q => by omega, fun q => by omega⟩
end PyI
set_option maxHeartbeats 1000000
/-! K01e: the law's loops. -/
namespace PyI
open PySem PySem.Spec PyProof.Rows L2
section
variable {cf : CF} {fd fp fn fput ftrue : Nat} {ts ls : List D} {kvs kv2 : List (Key × D)} {p : D} {s0 s3 s4 s6 s7 s8 s9 s10 s11 s12 s13 s14 s15 s16 : Slot}
def vlB (fn : Nat) : S := .fors (.n 11) (.iseq (.var 2)) (.store 10 (.var 11) (.call fn (.acons (.var 1) .anil)))
theorem vl_ok (hn : NumOk (cf fn)) (h0 : IsPool p) (ht : TermsOk ts) (hl : ts.length ≤ 1000) {s5 : Slot} (k11 : s11.keep = false) :
    ∃ p' vl s11', evS cf (vlB fn) [s0, .own false p, .val (.lst ts), s3, s4, s5, s6, s7, s8, s9, .own false (.dic []), s11, s12, s13, s14, s15, s16] = .nx [s0, .own false p', .val (.lst ts), s3, s4, s5, s6, s7, s8, s9, .own false (.dic vl), s11', s12, s13, s14, s15, s16] ∧ IsPool p' ∧ VOk ts vl ∧ vl.length ≤ 1000 ∧ s11'.keep = false := by
  obtain ⟨ρ', l1, p', vl, s11', rfl, q1, q2, q3, q4⟩ := forL_inv (t := .n 11) (p := evS cf (.store 10 (.var 11) (.call fn (.acons (.var 1) .anil)))) (fun i ρ => ∃ p vl s11, ρ = [s0, .own false p, .val (.lst ts), s3, s4, s5, s6, s7, s8, s9, .own false (.dic vl), s11, s12, s13, s14, s15, s16] ∧ IsPool p ∧ (∀ (j : Nat) (z : Str), j < i → ts[j]? = some (.str z) → ∃ n : Int, look vl (.inr z) = some (.int n)) ∧ vl.length ≤ i ∧ s11.keep = false)
    ts 0 _ ⟨p, [], s11, rfl, h0, fun j z h => by omega, Nat.le_refl _, k11⟩ (fun i d ρ hi ⟨p, vl, s11, e, q1, q2, q3, q4⟩ => by
      subst e
      have hil := (List.getElem?_eq_some_iff.mp hi).1
      obtain ⟨cs, rfl, _⟩ := ht.2.1 d (List.mem_of_getElem? hi)
      obtain ⟨n, p', e1, q5⟩ := hn p q1
      have hk : vl.length ≤ 100000 := by omega
      refine ⟨[s0, .own false p, .val (.lst ts), s3, s4, s5, s6, s7, s8, s9, .own false (.dic vl), .val (.str (mkS cs)), s12, s13, s14, s15, s16], [s0, .own false p', .val (.lst ts), s3, s4, s5, s6, s7, s8, s9, .own false (.dic (put vl (.inr (mkS cs)) (.int n))), .val (.str (mkS cs)), s12, s13, s14, s15, s16], by simp [asgT, setVal, q4], .inl (by simp [e1, hk, evS, evE, evT, evI, evL, evP, nextS, breakS, contS, seqS, setS, putS, setVal, keep_no, keep_val, keep_ownf, asgS, asgT, asgTs, retS, retNS, retOp, ifS, storeS, store3, setD, forS, dropS, seq1, seq2, op1, op2, PyI.res, bop, PyI.cop, copB, eqOp, neOp, D.dep, depL, depK, eqv, eqvL, eqF, D.odd, D.neOk, D.nod, nodL, isOp, inOp, D.flat, varE, cstE, frzE, PyI.frz, seqA, seqV, vals, tupD, lstD, dnewE, testE, truE, truD, notT, andT, orT, yesT, andE, orE, notE, iteE, Res.bind, Res.bindS, deref, slotOf, outsOf, outD, PyI.isi, isiD, biD, ixD, atI, ixN, keyD, slD, partE, seqSl, sl3, negD, callE, callR, argsOf, slotI, fm_v, fm_f, fm_s, wback, setOwn, mtE, mt2, mtD, isTy, Mt.ty, it1, seqD, enumD]), p', _, _, rfl, q5, fun j z hj hz => ?_, by have := put_len (kvs := vl) (k := .inr (mkS cs)) (d := .int n); omega, rfl⟩
      rw [look_put]
      by_cases ez : z = mkS cs
      · rw [if_pos (by rw [ez])]; exact ⟨n, rfl⟩
      · rw [if_neg (fun q => ez (Sum.inr.inj q))]
        rcases Nat.lt_or_ge j (0 + i) with h | h
        · exact q2 j z h hz
        · have : j = i := by omega
          subst this
          rw [hi] at hz
          exact absurd (by cases hz; rfl) ez)
  refine ⟨p', vl, s11', (s_for (ev_seq (op := .v (.lst ts)) (d := .lst ts) rfl rfl rfl)).trans l1, q1, fun z hz => ?_, by omega, q4⟩
  obtain ⟨j, hj⟩ := List.getElem?_of_mem hz
  exact q2 j z (by have := (List.getElem?_eq_some_iff.mp hj).1; omega) hj
def mvB : S := .fors (.n 11) (.iseq (.var 5)) (.store 12 (.var 11) (.bin .add (.sub (.var 10) (.sub (.sub (.var 5) (.var 11)) (.cst (.int 0)))) (.sub (.sub (.var 5) (.var 11)) (.cst (.int 1)))))
theorem mvLoop_ok {vl : List (Key × D)} (hp : Pl ts kvs) (hv : VOk ts vl) (hvl : vl.length ≤ 2000) (k11 : s11.keep = false) {s1 s2 : Slot} :
    ∃ mv s11', evS cf mvB [s0, s1, s2, s3, s4, .val (.dic kvs), s6, s7, s8, s9, .own false (.dic vl), s11, .own false (.dic vl), s13, s14, s15, s16] = .nx [s0, s1, s2, s3, s4, .val (.dic kvs), s6, s7, s8, s9, .own false (.dic vl), s11', .own false (.dic mv), s13, s14, s15, s16] ∧ s11'.keep = false ∧
      ∀ z : Str, D.str z ∈ ts → ∃ n : Int, look vl (.inr (pr kvs z).1) = some (.int n) ∧ look mv (.inr z) = some (.int (n + (pr kvs z).2)) := by
  have hkn := hp.n
  obtain ⟨ρ', l1, mv, s11', rfl, q1, q2, q3, q4⟩ := forL_inv (t := .n 11) (p := evS cf (.store 12 (.var 11) (.bin .add (.sub (.var 10) (.sub (.sub (.var 5) (.var 11)) (.cst (.int 0)))) (.sub (.sub (.var 5) (.var 11)) (.cst (.int 1))))))
    (fun i ρ => ∃ mv s11, ρ = [s0, s1, s2, s3, s4, .val (.dic kvs), s6, s7, s8, s9, .own false (.dic vl), s11, .own false (.dic mv), s13, s14, s15, s16] ∧ s11.keep = false ∧ mv.length ≤ 2000 + i ∧ (∀ z : Str, (Sum.inr z : Key) ∈ (kvs.take i).map (·.1) → ∃ n : Int, look vl (.inr (pr kvs z).1) = some (.int n) ∧ look mv (.inr z) = some (.int (n + (pr kvs z).2))) ∧ (∀ z : Str, (Sum.inr z : Key) ∉ (kvs.take i).map (·.1) → look mv (.inr z) = look vl (.inr z)))
    (kvs.map fun p => keyOf p.1) 0 _ ⟨vl, s11, rfl, k11, hvl, fun z h => by simp at h, fun z _ => rfl⟩ (fun i d ρ hi ⟨mv, s11, e, k11, q1, q2, q3⟩ => by
      subst e
      rw [List.getElem?_map] at hi
      cases hki : kvs[i]? with
      | none => rw [hki] at hi; cases hi
      | some q =>
        rw [hki] at hi
        obtain ⟨qk, qd⟩ := q
        obtain ⟨z, hz⟩ := hp.k.1 (qk, qd) (List.mem_of_getElem? hki)
        have hz : qk = .inr z := hz
        subst hz
        have hi : D.str z = d := Option.some.inj hi
        subst hi
        have hil := (List.getElem?_eq_some_iff.mp hki).1
        have hl := look_mem hp.k.2 (List.mem_of_getElem? hki)
        obtain ⟨_, _, w, n, e2, hw⟩ := hp.p z qd hl
        rw [e2] at hl
        obtain ⟨x, hx⟩ := hv w hw
        have hpr : pr kvs z = (w, n) := by unfold pr; rw [hl]
        have hk : mv.length ≤ 100000 := by omega
        have htk : kvs.take (0 + i + 1) = kvs.take (0 + i) ++ [(.inr z, qd)] := by rw [Nat.zero_add, List.take_succ, hki]; rfl
        refine ⟨[s0, s1, s2, s3, s4, .val (.dic kvs), s6, s7, s8, s9, .own false (.dic vl), .val (.str z), .own false (.dic mv), s13, s14, s15, s16], [s0, s1, s2, s3, s4, .val (.dic kvs), s6, s7, s8, s9, .own false (.dic vl), .val (.str z), .own false (.dic (put mv (.inr z) (.int (x + n)))), s13, s14, s15, s16], by simp [asgT, setVal, k11], .inl (by simp [hl, hx, hk, evS, evE, evT, evI, evL, evP, nextS, breakS, contS, seqS, setS, putS, setVal, keep_no, keep_val, keep_ownf, asgS, asgT, asgTs, retS, retNS, retOp, ifS, storeS, store3, setD, forS, dropS, seq1, seq2, op1, op2, PyI.res, bop, PyI.cop, copB, eqOp, neOp, D.dep, depL, depK, eqv, eqvL, eqF, D.odd, D.neOk, D.nod, nodL, isOp, inOp, D.flat, varE, cstE, frzE, PyI.frz, seqA, seqV, vals, tupD, lstD, dnewE, testE, truE, truD, notT, andT, orT, yesT, andE, orE, notE, iteE, Res.bind, Res.bindS, deref, slotOf, outsOf, outD, PyI.isi, isiD, biD, ixD, atI, ixN, keyD, slD, partE, seqSl, sl3, negD, callE, callR, argsOf, slotI, fm_v, fm_f, fm_s, wback, setOwn, mtE, mt2, mtD, isTy, Mt.ty, it1, seqD, enumD]), _, _, rfl, rfl, by have := put_len (kvs := mv) (k := .inr z) (d := .int (x + n)); omega, fun y hy => ?_, fun y hy => ?_⟩
        · rw [look_put]
          by_cases e : (Sum.inr y : Key) = .inr z
          · cases Sum.inr.inj e
            rw [if_pos rfl]
            exact ⟨x, by rw [hpr]; exact hx, by rw [hpr]⟩
          · rw [if_neg e]
            rw [htk, List.map_append] at hy
            rcases List.mem_append.mp hy with h | h
            · exact q2 y h
            · exact absurd (by simpa using h) e
        · rw [htk, List.map_append] at hy
          rw [look_put, if_neg (fun e => hy (List.mem_append_right _ (by simpa using e)))]
          exact q3 y fun h => hy (List.mem_append_left _ h))
  refine ⟨mv, s11', (s_for (ev_seq (op := .v (.dic kvs)) (d := .dic kvs) rfl rfl rfl)).trans l1, q1, fun z hz => ?_⟩
  have hfull : kvs.take (0 + (kvs.map fun p => keyOf p.1).length) = kvs := by rw [Nat.zero_add, List.length_map, List.take_length]
  rw [hfull] at q3 q4
  rcases Classical.em ((Sum.inr z : Key) ∈ kvs.map (·.1)) with h | h
  · exact q3 z h
  · obtain ⟨n, hn⟩ := hv z hz
    have hpr : pr kvs z = (z, 0) := by unfold pr; rw [lookD_none h]
    exact ⟨n, by rw [hpr]; exact hn, by rw [hpr, q4 z h, hn]; simp⟩
def agB (fn ftrue : Nat) : S := .seq (.set 10 .dnew) (.seq (vlB fn) (.seq (.store 10 (.cst (.str (PySem.Str.ofString ""))) (.cst (.int 0))) (.seq (.set 12 (.copy (.var 10))) (.seq mvB (.ifs (.tv (.cmp .ne (.call ftrue (.acons (.frz (.var 7)) (.acons (.frz (.var 10)) .anil))) (.call ftrue (.acons (.frz (.var 4)) (.acons (.frz (.var 12)) .anil))))) (.ret (.cst (.bl false))) .nx)))))
theorem ag_ok (hn : NumOk (cf fn)) (htr : TrueC (cf ftrue)) (h0 : IsPool p) (ht : TermsOk ts) (hts : ts.length ≤ 1000) (hp : Pl ts kvs) (hls : ∀ l ∈ ls, IsLit ts l) (hl2 : ls.length ≤ 2) (k10 : s10.keep = false) (k11 : s11.keep = false) (k12 : s12.keep = false) :
    ∃ p' s10' s11' s12', evS cf (agB fn ftrue) [s0, .own false p, .val (.lst ts), s3, .val (.tup ls), .val (.dic kvs), s6, .val (.tup (ls.map (mvL (pr kvs)))), s8, s9, s10, s11, s12, s13, s14, s15, s16] = .nx [s0, .own false p', .val (.lst ts), s3, .val (.tup ls), .val (.dic kvs), s6, .val (.tup (ls.map (mvL (pr kvs)))), s8, s9, s10', s11', s12', s13, s14, s15, s16] ∧
      IsPool p' ∧ s10'.keep = false ∧ s11'.keep = false ∧ s12'.keep = false := by
  have b1 : evS cf (.set 10 .dnew) [s0, .own false p, .val (.lst ts), s3, .val (.tup ls), .val (.dic kvs), s6, .val (.tup (ls.map (mvL (pr kvs)))), s8, s9, s10, s11, s12, s13, s14, s15, s16] = .nx [s0, .own false p, .val (.lst ts), s3, .val (.tup ls), .val (.dic kvs), s6, .val (.tup (ls.map (mvL (pr kvs)))), s8, s9, .own false (.dic []), s11, s12, s13, s14, s15, s16] := by simp [k10, evS, evE, evT, evI, evL, evP, nextS, breakS, contS, seqS, setS, putS, setVal, keep_no, keep_val, keep_ownf, asgS, asgT, asgTs, retS, retNS, retOp, ifS, storeS, store3, setD, forS, dropS, seq1, seq2, op1, op2, PyI.res, bop, PyI.cop, copB, eqOp, neOp, D.dep, depL, depK, eqv, eqvL, eqF, D.odd, D.neOk, D.nod, nodL, isOp, inOp, D.flat, varE, cstE, frzE, PyI.frz, seqA, seqV, vals, tupD, lstD, dnewE, testE, truE, truD, notT, andT, orT, yesT, andE, orE, notE, iteE, Res.bind, Res.bindS, deref, slotOf, outsOf, outD, PyI.isi, isiD, biD, ixD, atI, ixN, keyD, slD, partE, seqSl, sl3, negD, callE, callR, argsOf, slotI, fm_v, fm_f, fm_s, wback, setOwn, mtE, mt2, mtD, isTy, Mt.ty, it1, seqD, enumD]
  obtain ⟨p1, vl, s11a, b2, q1, v1, n1, k11a⟩ := vl_ok (s0 := s0) (s3 := s3) (s4 := .val (.tup ls)) (s5 := .val (.dic kvs)) (s6 := s6) (s7 := .val (.tup (ls.map (mvL (pr kvs))))) (s8 := s8) (s9 := s9) (s12 := s12) (s13 := s13) (s14 := s14) (s15 := s15) (s16 := s16) hn h0 ht hts k11
  have hk : vl.length ≤ 100000 := by omega
  have b3 : evS cf (.store 10 (.cst (.str (PySem.Str.ofString ""))) (.cst (.int 0))) [s0, .own false p1, .val (.lst ts), s3, .val (.tup ls), .val (.dic kvs), s6, .val (.tup (ls.map (mvL (pr kvs)))), s8, s9, .own false (.dic vl), s11a, s12, s13, s14, s15, s16] = .nx [s0, .own false p1, .val (.lst ts), s3, .val (.tup ls), .val (.dic kvs), s6, .val (.tup (ls.map (mvL (pr kvs)))), s8, s9, .own false (.dic (put vl (.inr (PySem.Str.ofString "")) (.int 0))), s11a, s12, s13, s14, s15, s16] := by simp [hk, evS, evE, evT, evI, evL, evP, nextS, breakS, contS, seqS, setS, putS, setVal, keep_no, keep_val, keep_ownf, asgS, asgT, asgTs, retS, retNS, retOp, ifS, storeS, store3, setD, forS, dropS, seq1, seq2, op1, op2, PyI.res, bop, PyI.cop, copB, eqOp, neOp, D.dep, depL, depK, eqv, eqvL, eqF, D.odd, D.neOk, D.nod, nodL, isOp, inOp, D.flat, varE, cstE, frzE, PyI.frz, seqA, seqV, vals, tupD, lstD, dnewE, testE, truE, truD, notT, andT, orT, yesT, andE, orE, notE, iteE, Res.bind, Res.bindS, deref, slotOf, outsOf, outD, PyI.isi, isiD, biD, ixD, atI, ixN, keyD, slD, partE, seqSl, sl3, negD, callE, callR, argsOf, slotI, fm_v, fm_f, fm_s, wback, setOwn, mtE, mt2, mtD, isTy, Mt.ty, it1, seqD, enumD]
  have v2 := v1.put (.inr (PySem.Str.ofString "")) 0
  have n2 := put_len (kvs := vl) (k := .inr (PySem.Str.ofString "")) (d := .int 0)
  generalize put vl (.inr (PySem.Str.ofString "")) (.int 0) = vl2 at b3 v2 n2
  have b4 : evS cf (.set 12 (.copy (.var 10))) [s0, .own false p1, .val (.lst ts), s3, .val (.tup ls), .val (.dic kvs), s6, .val (.tup (ls.map (mvL (pr kvs)))), s8, s9, .own false (.dic vl2), s11a, s12, s13, s14, s15, s16] = .nx [s0, .own false p1, .val (.lst ts), s3, .val (.tup ls), .val (.dic kvs), s6, .val (.tup (ls.map (mvL (pr kvs)))), s8, s9, .own false (.dic vl2), s11a, .own false (.dic vl2), s13, s14, s15, s16] := by simp [k12, copyD, evS, evE, evT, evI, evL, evP, nextS, breakS, contS, seqS, setS, putS, setVal, keep_no, keep_val, keep_ownf, asgS, asgT, asgTs, retS, retNS, retOp, ifS, storeS, store3, setD, forS, dropS, seq1, seq2, op1, op2, PyI.res, bop, PyI.cop, copB, eqOp, neOp, D.dep, depL, depK, eqv, eqvL, eqF, D.odd, D.neOk, D.nod, nodL, isOp, inOp, D.flat, varE, cstE, frzE, PyI.frz, seqA, seqV, vals, tupD, lstD, dnewE, testE, truE, truD, notT, andT, orT, yesT, andE, orE, notE, iteE, Res.bind, Res.bindS, deref, slotOf, outsOf, outD, PyI.isi, isiD, biD, ixD, atI, ixN, keyD, slD, partE, seqSl, sl3, negD, callE, callR, argsOf, slotI, fm_v, fm_f, fm_s, wback, setOwn, mtE, mt2, mtD, isTy, Mt.ty, it1, seqD, enumD]
  obtain ⟨mv, s11b, b5, k11b, hm⟩ := mvLoop_ok (cf := cf) (s0 := s0) (s1 := .own false p1) (s2 := .val (.lst ts)) (s3 := s3) (s4 := .val (.tup ls)) (s6 := s6) (s7 := .val (.tup (ls.map (mvL (pr kvs))))) (s8 := s8) (s9 := s9) (s13 := s13) (s14 := s14) (s15 := s15) (s16 := s16) hp v2 (by omega) k11a
  have hvm : VOk ts mv := fun z hz => by
    obtain ⟨n, _, h⟩ := hm z hz
    exact ⟨_, h⟩
  obtain ⟨o1, e1⟩ := htr (ls.map (mvL (pr kvs))) vl2 (fun l hl => by
    obtain ⟨l0, h0, rfl⟩ := List.mem_map.mp hl
    exact v2.lit ht (mv_lit hp ht (hls l0 h0))) (by simp; omega)
  obtain ⟨o2, e2⟩ := htr ls mv (fun l hl => hvm.lit ht (hls l hl)) (by omega)
  have heq : ((ls.map (mvL (pr kvs))).any fun l => trL vl2 l) = ls.any fun l => trL mv l := by
    rw [List.any_map]
    refine Bool.eq_iff_iff.mpr ?_
    simp only [List.any_eq_true, Function.comp]
    constructor
    · rintro ⟨l, hl, h⟩; exact ⟨l, hl, by rw [← tr_moved hp ht v2 hm (hls l hl)]; exact h⟩
    · rintro ⟨l, hl, h⟩; exact ⟨l, hl, by rw [tr_moved hp ht v2 hm (hls l hl)]; exact h⟩
  have hq : ∀ b : Bool, copB .ne (.bl b) (.bl b) = some false := fun b => by cases b <;> simp [copB, neOp, D.dep, D.neOk, D.nod, eqv, D.odd, eqF]
  rw [heq] at e1
  have b6 : evS cf (.ifs (.tv (.cmp .ne (.call ftrue (.acons (.frz (.var 7)) (.acons (.frz (.var 10)) .anil))) (.call ftrue (.acons (.frz (.var 4)) (.acons (.frz (.var 12)) .anil))))) (.ret (.cst (.bl false))) .nx) [s0, .own false p1, .val (.lst ts), s3, .val (.tup ls), .val (.dic kvs), s6, .val (.tup (ls.map (mvL (pr kvs)))), s8, s9, .own false (.dic vl2), s11b, .own false (.dic mv), s13, s14, s15, s16] =
      .nx [s0, .own false p1, .val (.lst ts), s3, .val (.tup ls), .val (.dic kvs), s6, .val (.tup (ls.map (mvL (pr kvs)))), s8, s9, .val (.dic vl2), s11b, .val (.dic mv), s13, s14, s15, s16] := by
    simp [evS, evE, evT, evL, ifS, testE, seq2, callE, callR, seqA, frzE, PyI.frz, varE, argsOf, slotI, fm_v, e1, e2, wb2, op2, deref, PyI.cop, hq, PyI.res, Res.bind, Res.bindS, nextS]
  exact ⟨p1, _, s11b, _, (s_seq b1).trans ((s_seq b2).trans ((s_seq b3).trans ((s_seq b4).trans ((s_seq b5).trans b6)))), q1, rfl, k11b, rfl⟩
end
end PyI
set_option maxHeartbeats 1000000
/-! K01f: the law. -/
namespace PyI
open PySem PySem.Spec PyProof.Rows L2
section
variable {cf : CF} {fd fp fn fput fdue ftrue fcl fplaces : Nat} {ts ls more : List D} {kvs kv2 : List (Key × D)} {p l : D} {s0 s1 s2 s3 s4 s5 s6 s7 s8 s9 s10 s11 s12 s13 s14 s15 s16 : Slot}
/-- the pair behind both -/
def bothG (k1 k2 : List (Key × D)) (z : Str) : D := .tup [.str (pr k2 (pr k1 z).1).1, .int ((pr k1 z).2 + (pr k2 (pr k1 z).1).2)]
def bothBody : S := .seq (.set 15 (.get (.var 5) (.var 11) (.tup (.acons (.frz (.var 11)) (.acons (.frz (.cst (.int 0))) .anil))))) (.seq (.set 16 (.get (.var 13) (.sub (.var 15) (.cst (.int 0))) (.tup (.acons (.frz (.sub (.var 15) (.cst (.int 0)))) (.acons (.frz (.cst (.int 0))) .anil))))) (.store 14 (.var 11) (.tup (.acons (.frz (.sub (.var 16) (.cst (.int 0)))) (.acons (.frz (.bin .add (.sub (.var 15) (.cst (.int 1))) (.sub (.var 16) (.cst (.int 1))))) .anil)))))
theorem bothLoop_ok (h1 : Pl ts kvs) (h2 : Pl ts kv2) (ht : TermsOk ts) (hts : ts.length ≤ 1000) (k11 : s11.keep = false) (k15 : s15.keep = false) (k16 : s16.keep = false) :
    ∃ kB s11' s15' s16', evS cf (.fors (.n 11) (.iseq (.var 2)) bothBody) [s0, s1, .val (.lst ts), s3, s4, .val (.dic kvs), s6, s7, s8, s9, s10, s11, s12, .own false (.dic kv2), .own false (.dic []), s15, s16] = .nx [s0, s1, .val (.lst ts), s3, s4, .val (.dic kvs), s6, s7, s8, s9, s10, s11', s12, .own false (.dic kv2), .own false (.dic kB), s15', s16'] ∧
      s11'.keep = false ∧ s15'.keep = false ∧ s16'.keep = false ∧ StrKeys kB ∧ kB.length ≤ 1000 ∧ (∀ z d, look kB (.inr z) = some d → d = bothG kvs kv2 z) ∧ ∀ z, D.str z ∈ ts → look kB (.inr z) = some (bothG kvs kv2 z) := by
  obtain ⟨ρ', l1, kB, s11', s15', s16', rfl, q1, q2, q3, q4, q5, q6, q7⟩ := forL_inv (t := .n 11) (p := evS cf bothBody) (fun i ρ => ∃ kB s11 s15 s16, ρ = [s0, s1, .val (.lst ts), s3, s4, .val (.dic kvs), s6, s7, s8, s9, s10, s11, s12, .own false (.dic kv2), .own false (.dic kB), s15, s16] ∧ s11.keep = false ∧ s15.keep = false ∧ s16.keep = false ∧ StrKeys kB ∧ kB.length ≤ i ∧ (∀ z d, look kB (.inr z) = some d → d = bothG kvs kv2 z) ∧ ∀ (j : Nat) (z : Str), j < i → ts[j]? = some (.str z) → look kB (.inr z) = some (bothG kvs kv2 z))
    ts 0 _ ⟨[], s11, s15, s16, rfl, k11, k15, k16, ⟨fun p hp => (by cases hp), (by simp)⟩, Nat.le_refl _, fun z d h => (by cases h), fun j z h => (by omega)⟩ (fun i d ρ hi ⟨kB, s11, s15, s16, e, k11, k15, k16, q1, q2, q3, q4⟩ => by
      subst e
      have hil := (List.getElem?_eq_some_iff.mp hi).1
      obtain ⟨cs, rfl, _⟩ := ht.2.1 d (List.mem_of_getElem? hi)
      have g1 := pr_get h1.pair (mkS cs)
      have g2 := pr_get h2.pair (pr kvs (mkS cs)).1
      have hk : kB.length ≤ 100000 := by omega
      refine ⟨[s0, s1, .val (.lst ts), s3, s4, .val (.dic kvs), s6, s7, s8, s9, s10, .val (.str (mkS cs)), s12, .own false (.dic kv2), .own false (.dic kB), s15, s16], [s0, s1, .val (.lst ts), s3, s4, .val (.dic kvs), s6, s7, s8, s9, s10, .val (.str (mkS cs)), s12, .own false (.dic kv2), .own false (.dic (put kB (.inr (mkS cs)) (bothG kvs kv2 (mkS cs)))), .val (.tup [.str (pr kvs (mkS cs)).1, .int (pr kvs (mkS cs)).2]), .val (.tup [.str (pr kv2 (pr kvs (mkS cs)).1).1, .int (pr kv2 (pr kvs (mkS cs)).1).2])], by simp [asgT, setVal, k11], .inl (by simp [bothBody, getE, get3, g1, g2, hk, k15, k16, bothG, evS, evE, evT, evI, evL, evP, nextS, breakS, contS, seqS, setS, putS, setVal, keep_no, keep_val, keep_ownf, asgS, asgT, asgTs, retS, retNS, retOp, ifS, storeS, store3, setD, forS, dropS, seq1, seq2, op1, op2, PyI.res, bop, PyI.cop, copB, eqOp, neOp, D.dep, depL, depK, eqv, eqvL, eqF, D.odd, D.neOk, D.nod, nodL, isOp, inOp, D.flat, varE, cstE, frzE, PyI.frz, seqA, seqV, vals, tupD, lstD, dnewE, testE, truE, truD, notT, andT, orT, yesT, andE, orE, notE, iteE, Res.bind, Res.bindS, deref, slotOf, outsOf, outD, PyI.isi, isiD, biD, ixD, atI, ixN, keyD, slD, partE, seqSl, sl3, negD, callE, callR, argsOf, slotI, fm_v, fm_f, fm_s, wback, setOwn, mtE, mt2, mtD, isTy, Mt.ty, it1, seqD, enumD]), _, _, _, _, rfl, rfl, rfl, rfl, put_keys q1, by have := put_len (kvs := kB) (k := .inr (mkS cs)) (d := bothG kvs kv2 (mkS cs)); omega, fun z d hz => ?_, fun j z hj hz => ?_⟩
      · rw [look_put] at hz
        by_cases e : (Sum.inr z : Key) = .inr (mkS cs)
        · rw [if_pos e] at hz
          cases hz
          rw [Sum.inr.inj e]
        · rw [if_neg e] at hz
          exact q3 z d hz
      · rw [look_put]
        by_cases ez : z = mkS cs
        · rw [if_pos (by rw [ez]), ez]
        · rw [if_neg (fun q => ez (Sum.inr.inj q))]
          rcases Nat.lt_or_ge j (0 + i) with h | h
          · exact q4 j z h hz
          · have : j = i := by omega
            subst this
            rw [hi] at hz
            exact absurd (by cases hz; rfl) ez)
  refine ⟨kB, s11', s15', s16', (s_for (ev_seq (op := .v (.lst ts)) (d := .lst ts) rfl rfl rfl)).trans l1, q1, q2, q3, q4, by omega, q6, fun z hz => ?_⟩
  obtain ⟨j, hj⟩ := List.getElem?_of_mem hz
  exact q7 j z (by have := (List.getElem?_eq_some_iff.mp hj).1; omega) hj
/-- put in twice -/
theorem twice {kB : List (Key × D)} (h1 : Pl ts kvs) (h2 : Pl ts kv2) (ht : TermsOk ts) (hB : ∀ z, D.str z ∈ ts → look kB (.inr z) = some (bothG kvs kv2 z)) {x : D} (hx : IsLit ts x) : mvL (pr0 kv2) (mvL (pr kvs) x) = mvL (pr0 kB) x := by
  obtain ⟨a, b, n, rfl, _, _, m1, m2⟩ := lit_str hx ht
  have g : ∀ z, D.str z ∈ ts → (pr0 kB z).1 = (pr0 kv2 (pr kvs z).1).1 ∧ (pr0 kB z).2 = (pr kvs z).2 + (pr0 kv2 (pr kvs z).1).2 := fun z hz => by
    rw [pr0_pl h2]
    by_cases e : z = mkS []
    · subst e
      have e1 : pr kvs (mkS []) = (mkS [], 0) := by rw [← pr0_pl h1]; unfold pr0; rw [if_pos rfl]
      have e2 : pr kv2 (mkS []) = (mkS [], 0) := by rw [← pr0_pl h2]; unfold pr0; rw [if_pos rfl]
      have e3 : pr0 kB (mkS []) = (mkS [], 0) := by unfold pr0; rw [if_pos rfl]
      rw [e1, e2, e3]; exact ⟨rfl, rfl⟩
    · have e3 : pr0 kB z = ((pr kv2 (pr kvs z).1).1, (pr kvs z).2 + (pr kv2 (pr kvs z).1).2) := by
        unfold pr0
        rw [if_neg e]
        show (match look kB (.inr z) with | some (.tup [.str w, .int n]) => (w, n) | _ => (z, 0)) = _
        rw [hB z hz]; rfl
      rw [e3]; exact ⟨rfl, rfl⟩
  obtain ⟨a1, a2⟩ := g a m1
  obtain ⟨b1, b2⟩ := g b m2
  simp only [mvL]
  rw [a1, a2, b1, b2]
  have e : n + (pr kvs b).2 - (pr kvs a).2 + (pr0 kv2 (pr kvs b).1).2 - (pr0 kv2 (pr kvs a).1).2 = n + ((pr kvs b).2 + (pr0 kv2 (pr kvs b).1).2) - ((pr kvs a).2 + (pr0 kv2 (pr kvs a).1).2) := by omega
  rw [e]
def c5 (fdue : Nat) : S := .ifs (.tor (.tv (.cmp .ne (.var 7) (.call fdue (.acons (.frz (.var 4)) (.acons (.frz (.var 5)) .anil))))) (.tor (.tnot (.tt (.isi .tuple (.var 7)))) (.tv (.cmp .ne (.var 5) (.var 6))))) (.ret (.cst (.bl false))) .nx
def c7 (fp fd : Nat) : S := .store 8 (.cst (.str (PySem.Str.ofString ""))) (.tup (.acons (.frz (.call fp (.acons (.var 1) (.acons (.frz (.var 2)) .anil)))) (.acons (.frz (.bin .add (.cst (.int 1)) (.call fd (.acons (.var 1) (.acons (.frz (.cst (.int 9))) .anil))))) .anil)))
def c8 (fput : Nat) : S := .ifs (.tv (.cmp .ne (.call fput (.acons (.frz (.var 4)) (.acons (.frz (.var 8)) .anil))) (.var 7))) (.ret (.cst (.bl false))) .nx
def c13 (fput : Nat) : S := .ifs (.tor (.tv (.cmp .ne (.call fput (.acons (.frz (.var 7)) (.acons (.frz (.var 13)) .anil))) (.call fput (.acons (.frz (.var 4)) (.acons (.frz (.var 14)) .anil))))) (.tv (.cmp .ne (.call fput (.acons (.frz (.var 4)) (.acons (.frz .dnew) .anil))) (.var 4)))) (.ret (.cst (.bl false))) .nx
def k1Body (fput fd fp fn fcl fdue ftrue fplaces : Nat) : S := .seq (.set 4 (.call fcl (.acons (.var 1) (.acons (.frz (.var 2)) (.acons (.frz (.cst (.int 2))) .anil))))) (.seq (.set 5 (.call fplaces (.acons (.var 1) (.acons (.frz (.var 2)) .anil)))) (.seq (.set 6 (.copy (.var 5))) (.seq (.set 7 (.call fput (.acons (.frz (.var 4)) (.acons (.frz (.var 5)) .anil)))) (.seq (c5 fdue) (.seq (.set 8 (.copy (.var 5))) (.seq (c7 fp fd) (.seq (c8 fput) (.seq (.fors (.n 9) (.irng (.cst (.int 4))) (agB fn ftrue)) (.seq (.set 13 (.call fplaces (.acons (.var 1) (.acons (.frz (.var 2)) .anil)))) (.seq (.set 14 .dnew) (.seq (.fors (.n 11) (.iseq (.var 2)) bothBody) (c13 fput))))))))))))
theorem k1Body_ok (hput : PutC (cf fput)) (hd : DrawOk (cf fd)) (hp : PickOk (cf fp)) (hn : NumOk (cf fn)) (hcl : ClauseOk (cf fcl)) (hdue : DueC (cf fdue)) (htr : TrueC (cf ftrue)) (hpl : PlacesC (cf fplaces)) (h0 : IsPool p) (ht : TermsOk ts) (hts : ts.length ≤ 1000) (h2 : Has s2 (.lst ts))
    (k4 : s4.keep = false) (k5 : s5.keep = false) (k6 : s6.keep = false) (k7 : s7.keep = false) (k8 : s8.keep = false) (k9 : s9.keep = false) (k10 : s10.keep = false) (k11 : s11.keep = false) (k12 : s12.keep = false) (k13 : s13.keep = false) (k14 : s14.keep = false) (k15 : s15.keep = false) (k16 : s16.keep = false) :
    ∃ p' t4 t5 t6 t7 t8 t9 t10 t11 t12 t13 t14 t15 t16, evS cf (k1Body fput fd fp fn fcl fdue ftrue fplaces) [s0, .own false p, s2, s3, s4, s5, s6, s7, s8, s9, s10, s11, s12, s13, s14, s15, s16] = .nx [s0, .own false p', .val (.lst ts), s3, t4, t5, t6, t7, t8, t9, t10, t11, t12, t13, t14, t15, t16] ∧ IsPool p' ∧
      t4.keep = false ∧ t5.keep = false ∧ t6.keep = false ∧ t7.keep = false ∧ t8.keep = false ∧ t9.keep = false ∧ t10.keep = false ∧ t11.keep = false ∧ t12.keep = false ∧ t13.keep = false ∧ t14.keep = false ∧ t15.keep = false ∧ t16.keep = false := by
  obtain ⟨l, more, p1, e1, q1, hlit, hm, hmore⟩ := hcl p ts 2 h0 ht.ne (by omega)
  have hall : ∀ x ∈ l :: more, IsLit ts x := fun x hx => by
    rcases List.mem_cons.mp hx with e | e
    · rw [e]; exact hlit
    · exact hmore x e
  have hl2 : (l :: more).length ≤ 2 := by simp; omega
  generalize l :: more = ls at e1 hall hl2
  have hS : ∀ x ∈ ls, LitS x := fun x hx => lit_lits (hall x hx) ht
  have a1 : evS cf (.set 4 (.call fcl (.acons (.var 1) (.acons (.frz (.var 2)) (.acons (.frz (.cst (.int 2))) .anil))))) [s0, .own false p, s2, s3, s4, s5, s6, s7, s8, s9, s10, s11, s12, s13, s14, s15, s16] = .nx [s0, .own false p1, .val (.lst ts), s3, .val (.tup ls), s5, s6, s7, s8, s9, s10, s11, s12, s13, s14, s15, s16] := by
    rcases h2 with rfl | rfl <;> simp [e1, k4, evS, evE, evT, evI, evL, evP, nextS, breakS, contS, seqS, setS, putS, setVal, keep_no, keep_val, keep_ownf, asgS, asgT, asgTs, retS, retNS, retOp, ifS, storeS, store3, setD, forS, dropS, seq1, seq2, op1, op2, PyI.res, bop, PyI.cop, copB, eqOp, neOp, D.dep, depL, depK, eqv, eqvL, eqF, D.odd, D.neOk, D.nod, nodL, isOp, inOp, D.flat, varE, cstE, frzE, PyI.frz, seqA, seqV, vals, tupD, lstD, dnewE, testE, truE, truD, notT, andT, orT, yesT, andE, orE, notE, iteE, Res.bind, Res.bindS, deref, slotOf, outsOf, outD, PyI.isi, isiD, biD, ixD, atI, ixN, keyD, slD, partE, seqSl, sl3, negD, callE, callR, argsOf, slotI, fm_v, fm_f, fm_s, wback, setOwn, mtE, mt2, mtD, isTy, Mt.ty, it1, seqD, enumD]
  obtain ⟨kvs, p2, e2, q2, hk⟩ := hpl p1 ts q1 ht hts
  have a2 : evS cf (.set 5 (.call fplaces (.acons (.var 1) (.acons (.frz (.var 2)) .anil)))) [s0, .own false p1, .val (.lst ts), s3, .val (.tup ls), s5, s6, s7, s8, s9, s10, s11, s12, s13, s14, s15, s16] = .nx [s0, .own false p2, .val (.lst ts), s3, .val (.tup ls), .own false (.dic kvs), s6, s7, s8, s9, s10, s11, s12, s13, s14, s15, s16] := by
    simp [e2, k5, evS, evE, evT, evI, evL, evP, nextS, breakS, contS, seqS, setS, putS, setVal, keep_no, keep_val, keep_ownf, asgS, asgT, asgTs, retS, retNS, retOp, ifS, storeS, store3, setD, forS, dropS, seq1, seq2, op1, op2, PyI.res, bop, PyI.cop, copB, eqOp, neOp, D.dep, depL, depK, eqv, eqvL, eqF, D.odd, D.neOk, D.nod, nodL, isOp, inOp, D.flat, varE, cstE, frzE, PyI.frz, seqA, seqV, vals, tupD, lstD, dnewE, testE, truE, truD, notT, andT, orT, yesT, andE, orE, notE, iteE, Res.bind, Res.bindS, deref, slotOf, outsOf, outD, PyI.isi, isiD, biD, ixD, atI, ixN, keyD, slD, partE, seqSl, sl3, negD, callE, callR, argsOf, slotI, fm_v, fm_f, fm_s, wback, setOwn, mtE, mt2, mtD, isTy, Mt.ty, it1, seqD, enumD]
  have a3 : evS cf (.set 6 (.copy (.var 5))) [s0, .own false p2, .val (.lst ts), s3, .val (.tup ls), .own false (.dic kvs), s6, s7, s8, s9, s10, s11, s12, s13, s14, s15, s16] = .nx [s0, .own false p2, .val (.lst ts), s3, .val (.tup ls), .own false (.dic kvs), .own false (.dic kvs), s7, s8, s9, s10, s11, s12, s13, s14, s15, s16] := by
    simp [copyD, k6, evS, evE, evT, evI, evL, evP, nextS, breakS, contS, seqS, setS, putS, setVal, keep_no, keep_val, keep_ownf, asgS, asgT, asgTs, retS, retNS, retOp, ifS, storeS, store3, setD, forS, dropS, seq1, seq2, op1, op2, PyI.res, bop, PyI.cop, copB, eqOp, neOp, D.dep, depL, depK, eqv, eqvL, eqF, D.odd, D.neOk, D.nod, nodL, isOp, inOp, D.flat, varE, cstE, frzE, PyI.frz, seqA, seqV, vals, tupD, lstD, dnewE, testE, truE, truD, notT, andT, orT, yesT, andE, orE, notE, iteE, Res.bind, Res.bindS, deref, slotOf, outsOf, outD, PyI.isi, isiD, biD, ixD, atI, ixN, keyD, slD, partE, seqSl, sl3, negD, callE, callR, argsOf, slotI, fm_v, fm_f, fm_s, wback, setOwn, mtE, mt2, mtD, isTy, Mt.ty, it1, seqD, enumD]
  have hmv : ∀ x ∈ ls.map (mvL (pr kvs)), LitS x := fun x hx => by
    obtain ⟨y, hy, rfl⟩ := List.mem_map.mp hx
    exact mvL_lit (hS y hy)
  have hmvI : ∀ x ∈ ls.map (mvL (pr kvs)), IsLit ts x := fun x hx => by
    obtain ⟨y, hy, rfl⟩ := List.mem_map.mp hx
    exact mv_lit hk ht (hall y hy)
  have hkn := hk.n
  obtain ⟨o3, e3⟩ := hput ls kvs hS (by omega) hk.k (by omega) hk.pair
  rw [map_congr_lit (pr0_pl hk)] at e3
  have a4 : evS cf (.set 7 (.call fput (.acons (.frz (.var 4)) (.acons (.frz (.var 5)) .anil)))) [s0, .own false p2, .val (.lst ts), s3, .val (.tup ls), .own false (.dic kvs), .own false (.dic kvs), s7, s8, s9, s10, s11, s12, s13, s14, s15, s16] = .nx [s0, .own false p2, .val (.lst ts), s3, .val (.tup ls), .val (.dic kvs), .own false (.dic kvs), .val (.tup (ls.map (mvL (pr kvs)))), s8, s9, s10, s11, s12, s13, s14, s15, s16] := by
    simp [e3, wb2, k7, evS, evE, evT, evI, evL, evP, nextS, breakS, contS, seqS, setS, putS, setVal, keep_no, keep_val, keep_ownf, asgS, asgT, asgTs, retS, retNS, retOp, ifS, storeS, store3, setD, forS, dropS, seq1, seq2, op1, op2, PyI.res, bop, PyI.cop, copB, eqOp, neOp, D.dep, depL, depK, eqv, eqvL, eqF, D.odd, D.neOk, D.nod, nodL, isOp, inOp, D.flat, varE, cstE, frzE, PyI.frz, seqA, seqV, vals, tupD, lstD, dnewE, testE, truE, truD, notT, andT, orT, yesT, andE, orE, notE, iteE, Res.bind, Res.bindS, deref, slotOf, outsOf, outD, PyI.isi, isiD, biD, ixD, atI, ixN, keyD, slD, partE, seqSl, sl3, negD, callE, callR, argsOf, slotI, fm_v, fm_f, fm_s, wback, setOwn, mtE, mt2, mtD, isTy, Mt.ty, it1, seqD, enumD]
  obtain ⟨o4, e4⟩ := hdue ls kvs hS (by omega) hk.pair
  have n1 : copB .ne (.tup (ls.map (mvL (pr kvs)))) (.tup (ls.map (mvL (pr kvs)))) = some false := ne_tup hmv (by rw [List.length_map]; exact hl2)
  have n2 : copB .ne (.dic kvs) (.dic kvs) = some false := ne_dic hk
  have a5 : evS cf (c5 fdue) [s0, .own false p2, .val (.lst ts), s3, .val (.tup ls), .val (.dic kvs), .own false (.dic kvs), .val (.tup (ls.map (mvL (pr kvs)))), s8, s9, s10, s11, s12, s13, s14, s15, s16] = .nx [s0, .own false p2, .val (.lst ts), s3, .val (.tup ls), .val (.dic kvs), .own false (.dic kvs), .val (.tup (ls.map (mvL (pr kvs)))), s8, s9, s10, s11, s12, s13, s14, s15, s16] := by
    simp [c5, e4, n1, n2, evS, evE, evT, evL, ifS, orT, notT, testE, truE, truD, seq1, seq2, op1, op2, callE, callR, seqA, frzE, PyI.frz, varE, argsOf, slotI, fm_v, wb2, wb1, deref, PyI.cop, PyI.isi, isiD, PyI.res, Res.bind, Res.bindS, nextS, dnewE]
  have a6 : evS cf (.set 8 (.copy (.var 5))) [s0, .own false p2, .val (.lst ts), s3, .val (.tup ls), .val (.dic kvs), .own false (.dic kvs), .val (.tup (ls.map (mvL (pr kvs)))), s8, s9, s10, s11, s12, s13, s14, s15, s16] = .nx [s0, .own false p2, .val (.lst ts), s3, .val (.tup ls), .val (.dic kvs), .own false (.dic kvs), .val (.tup (ls.map (mvL (pr kvs)))), .own false (.dic kvs), s9, s10, s11, s12, s13, s14, s15, s16] := by
    simp [copyD, k8, evS, evE, evT, evI, evL, evP, nextS, breakS, contS, seqS, setS, putS, setVal, keep_no, keep_val, keep_ownf, asgS, asgT, asgTs, retS, retNS, retOp, ifS, storeS, store3, setD, forS, dropS, seq1, seq2, op1, op2, PyI.res, bop, PyI.cop, copB, eqOp, neOp, D.dep, depL, depK, eqv, eqvL, eqF, D.odd, D.neOk, D.nod, nodL, isOp, inOp, D.flat, varE, cstE, frzE, PyI.frz, seqA, seqV, vals, tupD, lstD, dnewE, testE, truE, truD, notT, andT, orT, yesT, andE, orE, notE, iteE, Res.bind, Res.bindS, deref, slotOf, outsOf, outD, PyI.isi, isiD, biD, ixD, atI, ixN, keyD, slD, partE, seqSl, sl3, negD, callE, callR, argsOf, slotI, fm_v, fm_f, fm_s, wback, setOwn, mtE, mt2, mtD, isTy, Mt.ty, it1, seqD, enumD]
  obtain ⟨t, p3, e5, q3, mt⟩ := hp p2 (.lst ts) ts q2 (.inl rfl) ht.ne (by omega)
  obtain ⟨r, p4, e6, q4, _, _⟩ := hd p3 9 q3 (by decide) (by decide)
  obtain ⟨cs, rfl, _⟩ := ht.2.1 t mt
  have hkl : kvs.length ≤ 100000 := by omega
  have a7 : evS cf (c7 fp fd) [s0, .own false p2, .val (.lst ts), s3, .val (.tup ls), .val (.dic kvs), .own false (.dic kvs), .val (.tup (ls.map (mvL (pr kvs)))), .own false (.dic kvs), s9, s10, s11, s12, s13, s14, s15, s16] = .nx [s0, .own false p4, .val (.lst ts), s3, .val (.tup ls), .val (.dic kvs), .own false (.dic kvs), .val (.tup (ls.map (mvL (pr kvs)))), .own false (.dic (put kvs (.inr (mkS [])) (.tup [.str (mkS cs), .int (1 + r)]))), s9, s10, s11, s12, s13, s14, s15, s16] := by
    simp [c7, e5, e6, hkl, empty_eq, evS, evE, evT, evI, evL, evP, nextS, breakS, contS, seqS, setS, putS, setVal, keep_no, keep_val, keep_ownf, asgS, asgT, asgTs, retS, retNS, retOp, ifS, storeS, store3, setD, forS, dropS, seq1, seq2, op1, op2, PyI.res, bop, PyI.cop, copB, eqOp, neOp, D.dep, depL, depK, eqv, eqvL, eqF, D.odd, D.neOk, D.nod, nodL, isOp, inOp, D.flat, varE, cstE, frzE, PyI.frz, seqA, seqV, vals, tupD, lstD, dnewE, testE, truE, truD, notT, andT, orT, yesT, andE, orE, notE, iteE, Res.bind, Res.bindS, deref, slotOf, outsOf, outD, PyI.isi, isiD, biD, ixD, atI, ixN, keyD, slD, partE, seqSl, sl3, negD, callE, callR, argsOf, slotI, fm_v, fm_f, fm_s, wback, setOwn, mtE, mt2, mtD, isTy, Mt.ty, it1, seqD, enumD]
  have hodd : ∀ z, pr0 (put kvs (.inr (mkS [])) (.tup [.str (mkS cs), .int (1 + r)])) z = pr kvs z := fun z => by
    rw [← pr0_pl hk]
    unfold pr0
    by_cases e : z = mkS []
    · rw [if_pos e, if_pos e]
    · rw [if_neg e, if_neg e]
      unfold pr
      rw [look_put, if_neg (fun q => e (Sum.inr.inj q))]
  obtain ⟨o7, e7⟩ := hput ls (put kvs (.inr (mkS [])) (.tup [.str (mkS cs), .int (1 + r)])) hS (by omega) (put_keys hk.k) (by have := put_len (kvs := kvs) (k := .inr (mkS [])) (d := .tup [.str (mkS cs), .int (1 + r)]); omega) (fun z d hz => by
    rw [look_put] at hz
    by_cases e : (Sum.inr z : Key) = .inr (mkS [])
    · rw [if_pos e] at hz; cases hz; exact ⟨_, _, rfl⟩
    · rw [if_neg e] at hz; exact hk.pair z d hz)
  rw [map_congr_lit hodd] at e7
  generalize put kvs (.inr (mkS [])) (.tup [.str (mkS cs), .int (1 + r)]) = kvo at a7 e7
  have a8 : evS cf (c8 fput) [s0, .own false p4, .val (.lst ts), s3, .val (.tup ls), .val (.dic kvs), .own false (.dic kvs), .val (.tup (ls.map (mvL (pr kvs)))), .own false (.dic kvo), s9, s10, s11, s12, s13, s14, s15, s16] = .nx [s0, .own false p4, .val (.lst ts), s3, .val (.tup ls), .val (.dic kvs), .own false (.dic kvs), .val (.tup (ls.map (mvL (pr kvs)))), .val (.dic kvo), s9, s10, s11, s12, s13, s14, s15, s16] := by
    simp [c8, e7, n1, evS, evE, evT, evL, ifS, orT, notT, testE, truE, truD, seq1, seq2, op1, op2, callE, callR, seqA, frzE, PyI.frz, varE, argsOf, slotI, fm_v, wb2, wb1, deref, PyI.cop, PyI.isi, isiD, PyI.res, Res.bind, Res.bindS, nextS, dnewE]
  obtain ⟨ρ', l9, p5, s9a, s10a, s11a, s12a, rfl, q5, k9a, k10a, k11a, k12a⟩ := forL_inv (t := .n 9) (p := evS cf (agB fn ftrue)) (fun _ ρ => ∃ p s9 s10 s11 s12, ρ = [s0, .own false p, .val (.lst ts), s3, .val (.tup ls), .val (.dic kvs), .own false (.dic kvs), .val (.tup (ls.map (mvL (pr kvs)))), .val (.dic kvo), s9, s10, s11, s12, s13, s14, s15, s16] ∧ IsPool p ∧ s9.keep = false ∧ s10.keep = false ∧ s11.keep = false ∧ s12.keep = false)
    ((List.range 4).map fun (i : Nat) => D.int (0 + (i : Int))) 0 [s0, .own false p4, .val (.lst ts), s3, .val (.tup ls), .val (.dic kvs), .own false (.dic kvs), .val (.tup (ls.map (mvL (pr kvs)))), .val (.dic kvo), s9, s10, s11, s12, s13, s14, s15, s16] ⟨p4, s9, s10, s11, s12, rfl, q4, k9, k10, k11, k12⟩ (fun i d ρ hi ⟨p, s9, s10, s11, s12, e, q, k9, k10, k11, k12⟩ => by
      subst e
      obtain ⟨p', s10', s11', s12', z, q', k10', k11', k12'⟩ := ag_ok (s0 := s0) (s3 := s3) (s6 := .own false (.dic kvs)) (s8 := .val (.dic kvo)) (s9 := .val d) (s13 := s13) (s14 := s14) (s15 := s15) (s16 := s16) hn htr q ht hts hk hall hl2 k10 k11 k12
      exact ⟨[s0, .own false p, .val (.lst ts), s3, .val (.tup ls), .val (.dic kvs), .own false (.dic kvs), .val (.tup (ls.map (mvL (pr kvs)))), .val (.dic kvo), .val d, s10, s11, s12, s13, s14, s15, s16], _, by simp [asgT, setVal, k9], .inl z, p', .val d, s10', s11', s12', rfl, q', rfl, k10', k11', k12'⟩)
  have a9 := (s_for (cf := cf) (t := .n 9) (p := agB fn ftrue) (ev_rng (cf := cf) (a := .cst (.int 4)) (ρ := [s0, .own false p4, .val (.lst ts), s3, .val (.tup ls), .val (.dic kvs), .own false (.dic kvs), .val (.tup (ls.map (mvL (pr kvs)))), .val (.dic kvo), s9, s10, s11, s12, s13, s14, s15, s16]) (n := 4) (op := .v (.int 4)) rfl rfl (by decide))).trans l9
  obtain ⟨kv2, p6, e10, q6, hk2⟩ := hpl p5 ts q5 ht hts
  have a10 : evS cf (.set 13 (.call fplaces (.acons (.var 1) (.acons (.frz (.var 2)) .anil)))) [s0, .own false p5, .val (.lst ts), s3, .val (.tup ls), .val (.dic kvs), .own false (.dic kvs), .val (.tup (ls.map (mvL (pr kvs)))), .val (.dic kvo), s9a, s10a, s11a, s12a, s13, s14, s15, s16] = .nx [s0, .own false p6, .val (.lst ts), s3, .val (.tup ls), .val (.dic kvs), .own false (.dic kvs), .val (.tup (ls.map (mvL (pr kvs)))), .val (.dic kvo), s9a, s10a, s11a, s12a, .own false (.dic kv2), s14, s15, s16] := by
    simp [e10, k13, evS, evE, evT, evI, evL, evP, nextS, breakS, contS, seqS, setS, putS, setVal, keep_no, keep_val, keep_ownf, asgS, asgT, asgTs, retS, retNS, retOp, ifS, storeS, store3, setD, forS, dropS, seq1, seq2, op1, op2, PyI.res, bop, PyI.cop, copB, eqOp, neOp, D.dep, depL, depK, eqv, eqvL, eqF, D.odd, D.neOk, D.nod, nodL, isOp, inOp, D.flat, varE, cstE, frzE, PyI.frz, seqA, seqV, vals, tupD, lstD, dnewE, testE, truE, truD, notT, andT, orT, yesT, andE, orE, notE, iteE, Res.bind, Res.bindS, deref, slotOf, outsOf, outD, PyI.isi, isiD, biD, ixD, atI, ixN, keyD, slD, partE, seqSl, sl3, negD, callE, callR, argsOf, slotI, fm_v, fm_f, fm_s, wback, setOwn, mtE, mt2, mtD, isTy, Mt.ty, it1, seqD, enumD]
  have a11 : evS cf (.set 14 .dnew) [s0, .own false p6, .val (.lst ts), s3, .val (.tup ls), .val (.dic kvs), .own false (.dic kvs), .val (.tup (ls.map (mvL (pr kvs)))), .val (.dic kvo), s9a, s10a, s11a, s12a, .own false (.dic kv2), s14, s15, s16] = .nx [s0, .own false p6, .val (.lst ts), s3, .val (.tup ls), .val (.dic kvs), .own false (.dic kvs), .val (.tup (ls.map (mvL (pr kvs)))), .val (.dic kvo), s9a, s10a, s11a, s12a, .own false (.dic kv2), .own false (.dic []), s15, s16] := by
    simp [k14, evS, evE, evT, evI, evL, evP, nextS, breakS, contS, seqS, setS, putS, setVal, keep_no, keep_val, keep_ownf, asgS, asgT, asgTs, retS, retNS, retOp, ifS, storeS, store3, setD, forS, dropS, seq1, seq2, op1, op2, PyI.res, bop, PyI.cop, copB, eqOp, neOp, D.dep, depL, depK, eqv, eqvL, eqF, D.odd, D.neOk, D.nod, nodL, isOp, inOp, D.flat, varE, cstE, frzE, PyI.frz, seqA, seqV, vals, tupD, lstD, dnewE, testE, truE, truD, notT, andT, orT, yesT, andE, orE, notE, iteE, Res.bind, Res.bindS, deref, slotOf, outsOf, outD, PyI.isi, isiD, biD, ixD, atI, ixN, keyD, slD, partE, seqSl, sl3, negD, callE, callR, argsOf, slotI, fm_v, fm_f, fm_s, wback, setOwn, mtE, mt2, mtD, isTy, Mt.ty, it1, seqD, enumD]
  obtain ⟨kB, s11b, s15b, s16b, a12, k11b, k15b, k16b, hBk, hBl, hB1, hB2⟩ := bothLoop_ok (cf := cf) (s0 := s0) (s1 := .own false p6) (s3 := s3) (s4 := .val (.tup ls)) (s6 := .own false (.dic kvs)) (s7 := .val (.tup (ls.map (mvL (pr kvs))))) (s8 := .val (.dic kvo)) (s9 := s9a) (s10 := s10a) (s12 := s12a) hk hk2 ht hts k11a k15 k16
  have hk2n := hk2.n
  obtain ⟨o13, e13⟩ := hput (ls.map (mvL (pr kvs))) kv2 hmv (by rw [List.length_map]; omega) hk2.k (by omega) hk2.pair
  obtain ⟨o14, e14⟩ := hput ls kB hS (by omega) hBk (by omega) (fun z d hz => ⟨_, _, hB1 z d hz⟩)
  obtain ⟨o15, e15⟩ := hput ls [] hS (by omega) ⟨fun p hp => (by cases hp), (by simp)⟩ (by simp) (fun z d hz => (by cases hz))
  rw [mv_id hS] at e15
  have htw : (ls.map (mvL (pr kvs))).map (mvL (pr0 kv2)) = ls.map (mvL (pr0 kB)) := by
    rw [List.map_map]
    exact List.map_congr_left fun x hx => twice hk hk2 ht hB2 (hall x hx)
  rw [htw] at e13
  have n3 : copB .ne (.tup (ls.map (mvL (pr0 kB)))) (.tup (ls.map (mvL (pr0 kB)))) = some false := ne_tup (fun x hx => by
    obtain ⟨y, hy, rfl⟩ := List.mem_map.mp hx
    exact mvL_lit (hS y hy)) (by rw [List.length_map]; exact hl2)
  have n4 : copB .ne (.tup ls) (.tup ls) = some false := ne_tup hS hl2
  have a13 : evS cf (c13 fput) [s0, .own false p6, .val (.lst ts), s3, .val (.tup ls), .val (.dic kvs), .own false (.dic kvs), .val (.tup (ls.map (mvL (pr kvs)))), .val (.dic kvo), s9a, s10a, s11b, s12a, .own false (.dic kv2), .own false (.dic kB), s15b, s16b] = .nx [s0, .own false p6, .val (.lst ts), s3, .val (.tup ls), .val (.dic kvs), .own false (.dic kvs), .val (.tup (ls.map (mvL (pr kvs)))), .val (.dic kvo), s9a, s10a, s11b, s12a, .val (.dic kv2), .val (.dic kB), s15b, s16b] := by
    simp [c13, e13, e14, e15, n3, n4, evS, evE, evT, evL, ifS, orT, notT, testE, truE, truD, seq1, seq2, op1, op2, callE, callR, seqA, frzE, PyI.frz, varE, argsOf, slotI, fm_v, wb2, wb1, deref, PyI.cop, PyI.isi, isiD, PyI.res, Res.bind, Res.bindS, nextS, dnewE]
  exact ⟨p6, _, _, _, _, _, s9a, s10a, s11b, s12a, _, _, s15b, s16b, (s_seq a1).trans ((s_seq a2).trans ((s_seq a3).trans ((s_seq a4).trans ((s_seq a5).trans ((s_seq a6).trans ((s_seq a7).trans ((s_seq a8).trans ((s_seq a9).trans ((s_seq a10).trans ((s_seq a11).trans ((s_seq a12).trans a13))))))))))), q6, rfl, rfl, rfl, rfl, rfl, k9a, k10a, k11b, k12a, rfl, rfl, k15b, k16b⟩
def k1Law (fput fd fp fn fcl fdue ftrue fplaces fpool fterms : Nat) : S := .seq (.set 1 (.call fpool (.acons (.frz (.var 0)) .anil))) (.seq (.set 2 (.call fterms (.acons (.var 1) (.acons (.frz (.cst (.int 5))) .anil)))) (.seq (.fors (.n 3) (.irng (.cst (.int 4))) (k1Body fput fd fp fn fcl fdue ftrue fplaces)) (.ret (.cst (.bl true)))))
theorem k1Law_ok {fpool fterms : Nat} (hpool : ∀ ns : List Int, ns.length ≤ 63 → ∃ p, cf fpool [.v (.scr ns)] = .ok (.f p) [.non] ∧ IsPool p) (hterms : TermsC (cf fterms)) (hput : PutC (cf fput)) (hd : DrawOk (cf fd)) (hp : PickOk (cf fp)) (hn : NumOk (cf fn)) (hcl : ClauseOk (cf fcl)) (hdue : DueC (cf fdue)) (htr : TrueC (cf ftrue)) (hpl : PlacesC (cf fplaces))
    (ns : List Int) (hns : ns.length ≤ 63) : ∃ o, callBody cf ⟨17, 1, k1Law fput fd fp fn fcl fdue ftrue fplaces fpool fterms⟩ [.v (.scr ns)] = .ok (.v (.bl true)) o := by
  obtain ⟨p, e1, q1⟩ := hpool ns hns
  have a1 : evS cf (.set 1 (.call fpool (.acons (.frz (.var 0)) .anil))) [.val (.scr ns), .no, .no, .no, .no, .no, .no, .no, .no, .no, .no, .no, .no, .no, .no, .no, .no] = .nx [.val (.scr ns), .own false p, .no, .no, .no, .no, .no, .no, .no, .no, .no, .no, .no, .no, .no, .no, .no] := by
    simp [e1, evS, evE, evT, evI, evL, evP, nextS, breakS, contS, seqS, setS, putS, setVal, keep_no, keep_val, keep_ownf, asgS, asgT, asgTs, retS, retNS, retOp, ifS, storeS, store3, setD, forS, dropS, seq1, seq2, op1, op2, PyI.res, bop, PyI.cop, copB, eqOp, neOp, D.dep, depL, depK, eqv, eqvL, eqF, D.odd, D.neOk, D.nod, nodL, isOp, inOp, D.flat, varE, cstE, frzE, PyI.frz, seqA, seqV, vals, tupD, lstD, dnewE, testE, truE, truD, notT, andT, orT, yesT, andE, orE, notE, iteE, Res.bind, Res.bindS, deref, slotOf, outsOf, outD, PyI.isi, isiD, biD, ixD, atI, ixN, keyD, slD, partE, seqSl, sl3, negD, callE, callR, argsOf, slotI, fm_v, fm_f, fm_s, wback, setOwn, mtE, mt2, mtD, isTy, Mt.ty, it1, seqD, enumD]
  obtain ⟨ts, p1, e2, q2, ht, hl⟩ := hterms p 5 q1 (by decide) (by decide)
  have a2 : evS cf (.set 2 (.call fterms (.acons (.var 1) (.acons (.frz (.cst (.int 5))) .anil)))) [.val (.scr ns), .own false p, .no, .no, .no, .no, .no, .no, .no, .no, .no, .no, .no, .no, .no, .no, .no] = .nx [.val (.scr ns), .own false p1, .own false (.lst ts), .no, .no, .no, .no, .no, .no, .no, .no, .no, .no, .no, .no, .no, .no] := by
    simp [e2, evS, evE, evT, evI, evL, evP, nextS, breakS, contS, seqS, setS, putS, setVal, keep_no, keep_val, keep_ownf, asgS, asgT, asgTs, retS, retNS, retOp, ifS, storeS, store3, setD, forS, dropS, seq1, seq2, op1, op2, PyI.res, bop, PyI.cop, copB, eqOp, neOp, D.dep, depL, depK, eqv, eqvL, eqF, D.odd, D.neOk, D.nod, nodL, isOp, inOp, D.flat, varE, cstE, frzE, PyI.frz, seqA, seqV, vals, tupD, lstD, dnewE, testE, truE, truD, notT, andT, orT, yesT, andE, orE, notE, iteE, Res.bind, Res.bindS, deref, slotOf, outsOf, outD, PyI.isi, isiD, biD, ixD, atI, ixN, keyD, slD, partE, seqSl, sl3, negD, callE, callR, argsOf, slotI, fm_v, fm_f, fm_s, wback, setOwn, mtE, mt2, mtD, isTy, Mt.ty, it1, seqD, enumD]
  obtain ⟨ρ', l1, p', s2', s3', t4, t5, t6, t7, t8, t9, t10, t11, t12, t13, t14, t15, t16, rfl, _⟩ := forL_inv (t := .n 3) (p := evS cf (k1Body fput fd fp fn fcl fdue ftrue fplaces)) (fun _ ρ => ∃ p s2 s3 s4 s5 s6 s7 s8 s9 s10 s11 s12 s13 s14 s15 s16, ρ = [.val (.scr ns), .own false p, s2, s3, s4, s5, s6, s7, s8, s9, s10, s11, s12, s13, s14, s15, s16] ∧ IsPool p ∧ Has s2 (.lst ts) ∧ s3.keep = false ∧ s4.keep = false ∧ s5.keep = false ∧ s6.keep = false ∧ s7.keep = false ∧ s8.keep = false ∧ s9.keep = false ∧ s10.keep = false ∧ s11.keep = false ∧ s12.keep = false ∧ s13.keep = false ∧ s14.keep = false ∧ s15.keep = false ∧ s16.keep = false)
    ((List.range 4).map fun (i : Nat) => D.int (0 + (i : Int))) 0 [.val (.scr ns), .own false p1, .own false (.lst ts), .no, .no, .no, .no, .no, .no, .no, .no, .no, .no, .no, .no, .no, .no] ⟨p1, _, _, _, _, _, _, _, _, _, _, _, _, _, _, _, rfl, q2, .inr rfl, rfl, rfl, rfl, rfl, rfl, rfl, rfl, rfl, rfl, rfl, rfl, rfl, rfl, rfl⟩ (fun i d ρ hi ⟨p, s2, s3, s4, s5, s6, s7, s8, s9, s10, s11, s12, s13, s14, s15, s16, e, q1, h2, k3, k4, k5, k6, k7, k8, k9, k10, k11, k12, k13, k14, k15, k16⟩ => by
      subst e
      obtain ⟨p', t4, t5, t6, t7, t8, t9, t10, t11, t12, t13, t14, t15, t16, z, q2, r⟩ := k1Body_ok (s0 := .val (.scr ns)) (s3 := .val d) hput hd hp hn hcl hdue htr hpl q1 ht (by omega) h2 k4 k5 k6 k7 k8 k9 k10 k11 k12 k13 k14 k15 k16
      exact ⟨[.val (.scr ns), .own false p, s2, .val d, s4, s5, s6, s7, s8, s9, s10, s11, s12, s13, s14, s15, s16], _, by simp [asgT, setVal, k3], .inl z, p', _, _, t4, t5, t6, t7, t8, t9, t10, t11, t12, t13, t14, t15, t16, rfl, q2, .inl rfl, rfl, r⟩)
  have a3 : evS cf (.fors (.n 3) (.irng (.cst (.int 4))) (k1Body fput fd fp fn fcl fdue ftrue fplaces)) [.val (.scr ns), .own false p1, .own false (.lst ts), .no, .no, .no, .no, .no, .no, .no, .no, .no, .no, .no, .no, .no, .no] = .nx _ :=
    (s_for (ev_rng (n := 4) (op := .v (.int 4)) rfl rfl (by decide))).trans l1
  exact ⟨_, c_ret (d := .bl true) ((s_seq a1).trans ((s_seq a2).trans ((s_seq a3).trans rfl)))⟩
end
end PyI
set_option maxHeartbeats 0
/-! K01h: the law's def, by its table; the head. -/
namespace K01
open PySem PySem.Spec PyProof.Rows L2 PyI
theorem h2 (n : Nat) : DrawOk (callF G (n + 1) 2) := draw_ok (callF G n)
theorem h3 (n : Nat) : PickOk (callF G (n + 2) 3) := pick_ok (h2 n)
theorem h3s (n : Nat) : PickS (callF G (n + 2) 3) := pick_s (h2 n)
theorem h4 (n : Nat) : NumOk (callF G (n + 2) 4) := number_ok (h2 n)
theorem h5 (n : Nat) : LitOk (callF G (n + 3) 5) := literal_ok (h3 n) (h4 n)
theorem h6 (n : Nat) : ClauseOk (callF G (n + 4) 6) := clause_ok (h2 (n + 2)) (h5 n)
theorem h7 (n : Nat) : TermsC (callF G (n + 3) 7) := terms_ok (h2 (n + 1)) (h3s n)
theorem h0 (n : Nat) : PutC (callF G (n + 1) 0) := putIn_ok (cf := callF G n)
theorem h8 (n : Nat) : DueC (callF G (n + 1) 8) := due_ok (cf := callF G n)
theorem h9 (n : Nat) : TrueC (callF G (n + 1) 9) := true_ok (cf := callF G n)
theorem h10 (n : Nat) : PlacesC (callF G (n + 3) 10) := places_ok (h2 (n + 1)) (h3 n) (h4 n)
theorem h1 (n : Nat) : ∀ ns : List Int, ns.length ≤ 63 → ∃ p, callF G (n + 1) 1 [.v (.scr ns)] = .ok (.f p) [.non] ∧ IsPool p := fun ns h => pool_ok (callF G n) ns h
theorem h11 (ns : List Int) (hn : ns.length ≤ 63) : ∃ o, callF G 8 11 [.v (.scr ns)] = .ok (.v (.bl true)) o :=
  k1Law_ok (cf := callF G 7) (h1 6) (h7 4) (h0 6) (h2 6) (h3 5) (h4 5) (h6 3) (h8 6) (h9 6) (h10 4) ns hn
theorem law_true (ns : List Int) (hn : ns.length ≤ 63) : ∃ outs, callF (es.map (entI pw (tabOf es) cs)) 8 11 [.v (.scr ns)] = .ok (.v (.bl true)) outs := by
  rw [G_eq]
  exact h11 ns hn
/-! ### the head -/
def faL : List He.Fa := entFa es cs
def fnL : List He.DefD := entFn pw es
abbrev R : PySem.W.OpenRow := PySem.W.OpenLaw.row RW
abbrev hk : PySem.W.Hook := He.hookD 4 faL fnL
def ob (s : PySem.W.SharedT) : He.AlD := He.obsDG 4 faL fnL (HandSHeadRun.getT s)
theorem ob_eq (s : PySem.W.SharedT) : ob s = hk.obs s.abs := He.obsDG_eq (HandSHeadRun.getT_eq s)
def names : List Str := ["put_in", "_law_pool", "_law_draw", "_law_pick", "_law_number", "_law_literal", "_law_clause", "_law_some_terms", "_law_due", "_law_true", "_law_places"]
theorem run (w : World) : HandSHeadRun.RunEq R (PySem.W.view R.prog [13]) hk ob 2000 names w := by
  intro os
  kernel_rfl
end K01
open PySem PySem.W PySem.Calls PyProof.Rows
theorem PySem.Challenge.cw_trustlinks_k01_whole_values_put_in_holds : PySem.Challenge.rw_trustlinks_k01_whole_values_put_in.Holds := by
  w_on; o_law
  refine HandSHeadRun.head_any (r := OpenLaw.row PySem.Challenge.rw_trustlinks_k01_whole_values_put_in) (q := view (OpenLaw.row PySem.Challenge.rw_trustlinks_k01_whole_values_put_in).prog [13]) (H := K01.hk) (ob := K01.ob) (M := 2000) (loose := K01.names) (d := HandSHeadRun.topDef (OpenLaw.row PySem.Challenge.rw_trustlinks_k01_whole_values_put_in).prog 13) (kwd := []) K01.ob_eq
    (by kernel_rfl) (fun s => by kernel_rfl) K01.run (by kernel_rfl) (by kernel_rfl) (by kernel_rfl) (by rfl) (by first | assumption | decide +kernel) (by decide +kernel) ⟨rfl, rfl, rfl, rfl, rfl, by decide +kernel⟩ ?hw ?hc
  case hw => w_witness2
  case hc =>
    refine L2.walk_ofE (l := PySem.Challenge.rw_trustlinks_k01_whole_values_put_in) (n := 63) (k := 8) (x := "_law_script") (CX := PyI.CXU) rfl (by decide) (by kernel_rfl) ⟨rfl, by decide, by decide⟩ ?F ?hx
    case hx =>
      intro H s e s' q
      obtain ⟨_, _, _, z⟩ := q
      exact z
    case F =>
      intro w mg fa h Y G hmg0
      obtain ⟨K, KX, c⟩ := Y
      have hmg : mg ("law" : PySem.Str) = some (.ref fa) := by
        have e : (HandSHeadRun.topDef (OpenLaw.row PySem.Challenge.rw_trustlinks_k01_whole_values_put_in).prog 13).name = ("law" : PySem.Str) := by kernel_rfl
        rw [← e]
        exact hmg0
      have hd : PyI.HeadOk K mg K01.pw K01.es K01.cs := PyI.head_of KX G c (fun f hf => hf) (fun d hd => hd) rfl
      exact PyI.law_F (p := K01.pw) (es := K01.es) (cs := K01.cs) (j := 11) (y := "_law_script") (e := ⟨"law", 13, ["_law_script", "_law_pool_here", "_law_terms", "_law_k", "_law_clause_here", "_law_places_here", "_law_kept", "_law_told", "_law_odd", "_law_again", "_law_values", "_law_term", "_law_moved", "_law_more", "_law_both", "_law_first", "_law_second"], [false]⟩) (fun _ => 0) KX hd K01.ent_ok rfl (by kernel_rfl) hmg K01.law_true
