import PyProof.Rows.All
import Wide.All
import OpenK.AllK
import Wide.FinOn
import HandS.ForMost
import HandS.Exc
import HandS.ExcOwn
import HandS.ExcInit
import HandS.WordsExc
import HandS.CallSlots
import HandS.Defaults
import HandS.Walk
import HandS.Wide
import HandS.TupAny
import HandS.Deep
import HandS.SetKeys
import HandS.DictComp
import HandS.FStr
import HandS.SortOrd
import HandS.StrMore
import HandS.MethStar
import HandS.Property
import HandS.Conv
import HandS.NoneIn
import HandS.IsInst
import HandS.TryMany
import HandS.Flow
import KE.KExcSuper
import HandS.ExcIs
import HandS.ExcField
import HandS.HeadHook1
import HandS.HeadHook2
import HandS.Style
import HandS.HeadEnd
import KE.KStateDown
import Lean
import HandS.Head0
import HandS.Head1
import HandS.Head2
import PySem.Challenge.RW_lookuploops_k43_errors
set_option Elab.async false
set_option linter.all false
set_option maxRecDepth 100000
set_option maxHeartbeats 1000000
namespace PP
open PySem PySem.Spec PyProof.Rows L2

/-! ### data without a heap -/
inductive D where
  | non | bl (b : Bool) | int (i : Int) | str (s : Str)
  | tup (xs : List D) | lst (xs : List D) | dic (kvs : List (Key × D))
  | ins (C : Addr) (fs : List (Str × D)) | exn (C : Addr) (fs : List (Str × D))
  | ref (a : Addr) | ty (n : String) | xcp (a : Addr) (dx : Option Addr) (fs : List (Str × D))

/-- what a local name holds: data, or a thing that the def may still change -/
inductive Sl where
  | un | dat (d : D) | ownL (xs : List D) | ownD (kvs : List (Key × D)) | ownI (C : Addr) (fs : List (Str × D))
abbrev Env := List Sl
def Sl.own : Sl → Bool
  | .ownL _ => true | .ownD _ => true | .ownI _ _ => true | _ => false

/-- a dict's lock does not count -/
def core : HO → HO
  | .frz _ (.dK k) => .dK k
  | .frz _ (.dT k) => .dT k
  | o => o
def Keep (a : Addr) (H H' : Hp) : Prop := ∀ o, H a = some o → ∃ o', H' a = some o' ∧ core o' = core o
theorem Keep.refl {a : Addr} {H : Hp} : Keep a H H := fun o h => ⟨o, h, rfl⟩
theorem Keep.trans {a : Addr} {H H1 H2 : Hp} (x : Keep a H H1) (y : Keep a H1 H2) : Keep a H H2 := fun o h => by
  obtain ⟨o1, h1, e1⟩ := x o h
  obtain ⟨o2, h2, e2⟩ := y o1 h1
  exact ⟨o2, h2, e2.trans e1⟩
theorem Keep.of_eq {a : Addr} {H H' : Hp} (e : H' a = H a) : Keep a H H' := fun o h => ⟨o, e.trans h, rfl⟩
theorem Keep.tup {a : Addr} {H H' : Hp} (k : Keep a H H') {xs : List V} (h : H a = some (.tup xs)) : H' a = some (.tup xs) := by
  obtain ⟨o', h', e⟩ := k _ h
  rw [h']
  cases o' with
  | frz ob u => cases u <;> simp [core] at e
  | _ => simp_all [core]
theorem Keep.rdD {a : Addr} {H H' : Hp} (k : Keep a H H') {xs : List (Key × V)} (h : Rd H a (.dK xs)) : Rd H' a (.dK xs) := by
  have : ∃ o, H a = some o ∧ core o = .dK xs := by
    rcases h with h | ⟨o, h⟩
    · exact ⟨_, h, rfl⟩
    · exact ⟨_, h, rfl⟩
  obtain ⟨o, h1, e1⟩ := this
  obtain ⟨o', h', e⟩ := k _ h1
  rw [e1] at e
  cases o' with
  | frz ob u =>
    cases u with
    | dK k =>
      have e2 : k = xs := by simpa [core] using e
      subst e2
      exact .inr ⟨ob, h'⟩
    | _ => simp [core] at e
  | dK k =>
    have e2 : k = xs := by simpa [core] using e
    subst e2
    exact .inl h'
  | _ => simp [core] at e
theorem Keep.ins {a : Addr} {H H' : Hp} (k : Keep a H H') {C dx : Addr} {fs : List (Str × V)} (h : H a = some (.ins C dx fs)) : H' a = some (.ins C dx fs) := by
  obtain ⟨o', h', e⟩ := k _ h
  rw [h']
  cases o' with
  | frz ob u => cases u <;> simp [core] at e
  | _ => simp_all [core]
theorem Keep.lst {a : Addr} {H H' : Hp} (k : Keep a H H') {xs : List V} (h : H a = some (.lst xs)) : H' a = some (.lst xs) := by
  obtain ⟨o', h', e⟩ := k _ h
  rw [h']
  cases o' with
  | frz ob u => cases u <;> simp [core] at e
  | _ => simp_all [core]
theorem Keep.ext {a : Addr} {H H' : Hp} (k : Keep a H H') {φ : Heap → Prop} (h : H a = some (.ext φ)) : H' a = some (.ext φ) := by
  obtain ⟨o', h', e⟩ := k _ h
  rw [h']
  cases o' with
  | frz ob u => cases u <;> simp [core] at e
  | _ => simp_all [core]
theorem Keep.xd {a : Addr} {H H' : Hp} (k : Keep a H H') {fs : List (Str × V)} (h : H a = some (.xd fs)) : H' a = some (.xd fs) := by
  obtain ⟨o', h', e⟩ := k _ h
  rw [h']
  cases o' with
  | frz ob u => cases u <;> simp [core] at e
  | _ => simp_all [core]
theorem Keep.there {a : Addr} {H H' : Hp} (k : Keep a H H') (h : H a ≠ none) : H' a ≠ none := by
  cases e : H a with
  | none => exact absurd e h
  | some o =>
    obtain ⟨o', h', _⟩ := k _ e
    rw [h']
    exact fun z => nomatch z

/-! ### a value stands for data; A: the addresses that may be used -/
def RdT (K : PySem.W.Frag) (A : Addr → Prop) (H : Hp) (a : Addr) (vs : List V) : Prop := (A a ∧ H a = some (.tup vs)) ∨
    ∃ (o : Obj) (its : Array Value) (n : Nat), K.lookup a = some o ∧ o.cls = .type "tuple" ∧ o.data = .seq its n ∧ its.size ≤ sizeLine ∧ Vals vs its.toList
mutual
inductive At (K : PySem.W.Frag) (A : Addr → Prop) (H : Hp) : V → D → Prop
  | non : At K A H .non .non
  | bl (b : Bool) : At K A H (.bl b) (.bl b)
  | int (i : Int) : At K A H (.int i) (.int i)
  | str (s : Str) : At K A H (.str s) (.str s)
  | tup {a : Addr} {vs : List V} {ds : List D} : RdT K A H a vs → Ats K A H vs ds → At K A H (.ref a) (.tup ds)
  | lst {a : Addr} {vs : List V} {ds : List D} : A a → H a = some (.lst vs) → Ats K A H vs ds → At K A H (.ref a) (.lst ds)
  | dic {a : Addr} {vs : List (Key × V)} {ds : List (Key × D)} : A a → Rd H a (.dK vs) → Atk K A H Key vs ds → At K A H (.ref a) (.dic ds)
  | ins {a C dx : Addr} {vs : List (Str × V)} {ds : List (Str × D)} : A a → H a = some (.ins C dx vs) → Atk K A H Str vs ds → At K A H (.ref a) (.ins C ds)
  | exn {a C dx : Addr} {vs : List (Str × V)} {ds : List (Str × D)} : A a → A dx → H a = some (exo a C (some dx)) → H dx = some (exd dx vs) → Atk K A H Str vs ds → At K A H (.ref a) (.exn C ds)
  | exn0 {a C : Addr} : A a → H a = some (exo a C none) → At K A H (.ref a) (.exn C [])
  | ref (a : Addr) : At K A H (.ref a) (.ref a)
  | ty (n : String) : At K A H (.ty n) (.ty n)
  | xcp0 (a : Addr) : At K A H (.ref a) (.xcp a none [])
  | xcp {a dx : Addr} {vs : List (Str × V)} {ds : List (Str × D)} : A dx → H dx = some (.xd vs) → Atk K A H Str vs ds → At K A H (.ref a) (.xcp a (some dx) ds)
inductive Ats (K : PySem.W.Frag) (A : Addr → Prop) (H : Hp) : List V → List D → Prop
  | nil : Ats K A H [] []
  | cons {v : V} {vs : List V} {d : D} {ds : List D} : At K A H v d → Ats K A H vs ds → Ats K A H (v :: vs) (d :: ds)
inductive Atk (K : PySem.W.Frag) (A : Addr → Prop) (H : Hp) : (κ : Type) → List (κ × V) → List (κ × D) → Prop
  | nil {κ : Type} : Atk K A H κ [] []
  | cons {κ : Type} {k : κ} {v : V} {vs : List (κ × V)} {d : D} {ds : List (κ × D)} : At K A H v d → Atk K A H κ vs ds → Atk K A H κ ((k, v) :: vs) ((k, d) :: ds)
end
/-- all that A allows at H is allowed by A' and stands at H' -/
def Ge (A : Addr → Prop) (H : Hp) (A' : Addr → Prop) (H' : Hp) : Prop := ∀ a, A a → A' a ∧ Keep a H H'
theorem Ge.refl {A : Addr → Prop} {H : Hp} : Ge A H A H := fun _ h => ⟨h, Keep.refl⟩
theorem Ge.trans {A A1 A2 : Addr → Prop} {H H1 H2 : Hp} (x : Ge A H A1 H1) (y : Ge A1 H1 A2 H2) : Ge A H A2 H2 := fun a h =>
  ⟨(y a (x a h).1).1, (x a h).2.trans (y a (x a h).1).2⟩
section
variable {K : PySem.W.Frag} {A A' : Addr → Prop} {H H' : Hp}
theorem RdT.ge (g : Ge A H A' H') {a : Addr} {vs : List V} (h : RdT K A H a vs) : RdT K A' H' a vs := by
  rcases h with ⟨h1, h2⟩ | h
  · exact .inl ⟨(g a h1).1, (g a h1).2.tup h2⟩
  · exact .inr h
theorem RdT.sq {a : Addr} {vs : List V} (h : RdT K A H a vs) : SqT K H a vs := by
  rcases h with ⟨_, h2⟩ | h
  · exact .inl (.inl h2)
  · exact .inr h
mutual
theorem At.ge (g : Ge A H A' H') : ∀ {v : V} {d : D}, At K A H v d → At K A' H' v d
  | _, _, .non => .non
  | _, _, .bl b => .bl b
  | _, _, .int i => .int i
  | _, _, .str s => .str s
  | _, _, .tup h t => .tup (h.ge g) (Ats.ge g t)
  | _, _, .lst h1 h2 t => .lst (g _ h1).1 ((g _ h1).2.lst h2) (Ats.ge g t)
  | _, _, .dic h1 h2 t => .dic (g _ h1).1 ((g _ h1).2.rdD h2) (Atk.ge g t)
  | _, _, .ins h1 h2 t => .ins (g _ h1).1 ((g _ h1).2.ins h2) (Atk.ge g t)
  | _, _, .exn h1 h2 h3 h4 t => .exn (g _ h1).1 (g _ h2).1 ((g _ h1).2.ext h3) ((g _ h2).2.ext h4) (Atk.ge g t)
  | _, _, .exn0 h1 h3 => .exn0 (g _ h1).1 ((g _ h1).2.ext h3)
  | _, _, .ref a => .ref a
  | _, _, .ty n => .ty n
  | _, _, .xcp0 a => .xcp0 a
  | _, _, .xcp h1 h2 t => .xcp (g _ h1).1 ((g _ h1).2.xd h2) (Atk.ge g t)
theorem Ats.ge (g : Ge A H A' H') : ∀ {vs : List V} {ds : List D}, Ats K A H vs ds → Ats K A' H' vs ds
  | _, _, .nil => .nil
  | _, _, .cons h t => .cons (At.ge g h) (Ats.ge g t)
theorem Atk.ge (g : Ge A H A' H') : ∀ {κ : Type} {vs : List (κ × V)} {ds : List (κ × D)}, Atk K A H κ vs ds → Atk K A' H' κ vs ds
  | _, _, _, .nil => .nil
  | _, _, _, .cons h t => .cons (At.ge g h) (Atk.ge g t)
end
mutual
theorem At.trk : ∀ {v : V} {d : D}, At K A H v d → At K (fun a => A a ∧ H a ≠ none) H v d
  | _, _, .non => .non
  | _, _, .bl b => .bl b
  | _, _, .int i => .int i
  | _, _, .str s => .str s
  | _, _, .tup h t => .tup (by
      rcases h with ⟨h1, h2⟩ | h
      · exact .inl ⟨⟨h1, by rw [h2]; exact fun z => nomatch z⟩, h2⟩
      · exact .inr h) (Ats.trk t)
  | _, _, .lst h1 h2 t => .lst ⟨h1, by rw [h2]; exact fun z => nomatch z⟩ h2 (Ats.trk t)
  | _, _, .dic h1 h2 t => .dic ⟨h1, by rcases h2 with h2 | ⟨o, h2⟩ <;> rw [h2] <;> exact fun z => nomatch z⟩ h2 (Atk.trk t)
  | _, _, .ins h1 h2 t => .ins ⟨h1, by rw [h2]; exact fun z => nomatch z⟩ h2 (Atk.trk t)
  | _, _, .exn h1 h2 h3 h4 t => .exn ⟨h1, by rw [h3]; exact fun z => nomatch z⟩ ⟨h2, by rw [h4]; exact fun z => nomatch z⟩ h3 h4 (Atk.trk t)
  | _, _, .exn0 h1 h3 => .exn0 ⟨h1, by rw [h3]; exact fun z => nomatch z⟩ h3
  | _, _, .ref a => .ref a
  | _, _, .ty n => .ty n
  | _, _, .xcp0 a => .xcp0 a
  | _, _, .xcp h1 h2 t => .xcp ⟨h1, by rw [h2]; exact fun z => nomatch z⟩ h2 (Atk.trk t)
theorem Ats.trk : ∀ {vs : List V} {ds : List D}, Ats K A H vs ds → Ats K (fun a => A a ∧ H a ≠ none) H vs ds
  | _, _, .nil => .nil
  | _, _, .cons h t => .cons (At.trk h) (Ats.trk t)
theorem Atk.trk : ∀ {κ : Type} {vs : List (κ × V)} {ds : List (κ × D)}, Atk K A H κ vs ds → Atk K (fun a => A a ∧ H a ≠ none) H κ vs ds
  | _, _, _, .nil => .nil
  | _, _, _, .cons h t => .cons (At.trk h) (Atk.trk t)
end
theorem Ats.len : ∀ {vs : List V} {ds : List D}, Ats K A H vs ds → vs.length = ds.length
  | _, _, .nil => rfl
  | _, _, .cons _ t => congrArg Nat.succ (Ats.len t)
theorem Atk.len : ∀ {κ : Type} {vs : List (κ × V)} {ds : List (κ × D)}, Atk K A H κ vs ds → vs.length = ds.length
  | _, _, _, .nil => rfl
  | _, _, _, .cons _ t => congrArg Nat.succ (Atk.len t)
theorem Ats.get : ∀ {vs : List V} {ds : List D} {i : Nat} {d : D}, Ats K A H vs ds → ds[i]? = some d → ∃ v, vs[i]? = some v ∧ At K A H v d
  | _, _, _, _, .nil, e => by simp at e
  | _, _, 0, _, .cons h _, e => by simp at e; subst e; exact ⟨_, rfl, h⟩
  | _, _, i + 1, d, .cons _ t, e => by
    obtain ⟨v, h1, h2⟩ := Ats.get (i := i) (d := d) t (by simpa using e)
    exact ⟨v, by simpa using h1, h2⟩
theorem Ats.getv : ∀ {vs : List V} {ds : List D} {i : Nat} {v : V}, Ats K A H vs ds → vs[i]? = some v → ∃ d, ds[i]? = some d ∧ At K A H v d
  | _, _, _, _, .nil, e => by simp at e
  | _, _, 0, _, .cons h _, e => by simp at e; subst e; exact ⟨_, rfl, h⟩
  | _, _, i + 1, v, .cons _ t, e => by
    obtain ⟨d, h1, h2⟩ := Ats.getv (i := i) (v := v) t (by simpa using e)
    exact ⟨d, by simpa using h1, h2⟩
theorem Ats.append : ∀ {vs ws : List V} {ds es : List D}, Ats K A H vs ds → Ats K A H ws es → Ats K A H (vs ++ ws) (ds ++ es)
  | _, _, _, _, .nil, s => s
  | _, _, _, _, .cons h t, s => .cons h (Ats.append t s)
theorem Ats.take : ∀ {vs : List V} {ds : List D} (n : Nat), Ats K A H vs ds → Ats K A H (vs.take n) (ds.take n)
  | _, _, 0, _ => .nil
  | _, _, _ + 1, .nil => .nil
  | _, _, n + 1, .cons h t => .cons h (Ats.take n t)
theorem Ats.drop : ∀ {vs : List V} {ds : List D} (n : Nat), Ats K A H vs ds → Ats K A H (vs.drop n) (ds.drop n)
  | _, _, 0, h => h
  | _, _, _ + 1, .nil => .nil
  | _, _, n + 1, .cons _ t => Ats.drop n t
theorem Ats.one {v : V} {d : D} (h : At K A H v d) : Ats K A H [v] [d] := .cons h .nil
theorem Ats.snoc {vs : List V} {ds : List D} {v : V} {d : D} (h : Ats K A H vs ds) (h1 : At K A H v d) : Ats K A H (vs ++ [v]) (ds ++ [d]) := h.append (.one h1)
theorem Ats.dropLast {vs : List V} {ds : List D} (h : Ats K A H vs ds) : Ats K A H vs.dropLast ds.dropLast := by
  rw [List.dropLast_eq_take, List.dropLast_eq_take, h.len]
  exact h.take _
theorem Ats.eraseIdx : ∀ {vs : List V} {ds : List D} (n : Nat), Ats K A H vs ds → Ats K A H (vs.eraseIdx n) (ds.eraseIdx n)
  | _, _, _, .nil => by simpa using .nil
  | _, _, 0, .cons _ t => t
  | _, _, n + 1, .cons h t => .cons h (Ats.eraseIdx n t)
theorem Ats.set : ∀ {vs : List V} {ds : List D} (n : Nat) {v : V} {d : D}, Ats K A H vs ds → At K A H v d → Ats K A H (vs.set n v) (ds.set n d)
  | _, _, _, _, _, .nil, _ => by simpa using .nil
  | _, _, 0, _, _, .cons _ t, h1 => .cons h1 t
  | _, _, n + 1, _, _, .cons h t, h1 => .cons h (Ats.set n t h1)
theorem Ats.reverse : ∀ {vs : List V} {ds : List D}, Ats K A H vs ds → Ats K A H vs.reverse ds.reverse
  | _, _, .nil => .nil
  | _, _, .cons h t => by
    rw [List.reverse_cons, List.reverse_cons]
    exact (Ats.reverse t).snoc h
end
/-! ### tables -/
section
variable {κ : Type} [DecidableEq κ]
def valD (kvs : List (κ × D)) (k : κ) : Option D := (kvs.find? fun kv => decide (kv.1 = k)).map (·.2)
def putD (kvs : List (κ × D)) (k : κ) (v : D) : List (κ × D) :=
  if (kvs.any fun kv => decide (kv.1 = k)) = true then kvs.map (fun kv => if kv.1 = k then (kv.1, v) else kv) else kvs ++ [(k, v)]
def dropD (kvs : List (κ × D)) (k : κ) : List (κ × D) := kvs.filter fun kv => decide (kv.1 ≠ k)
variable {K : PySem.W.Frag} {A : Addr → Prop} {H : Hp}
theorem Atk.val : ∀ {vs : List (κ × V)} {ds : List (κ × D)}, Atk K A H κ vs ds → ∀ k, (valV vs k = none ∧ valD ds k = none) ∨ ∃ v d, valV vs k = some v ∧ valD ds k = some d ∧ At K A H v d
  | _, _, .nil, _ => .inl ⟨rfl, rfl⟩
  | _, _, .cons (k := j) h t, k => by
    by_cases e : j = k
    · exact .inr ⟨_, _, valV_pos e, by simp [valD, List.find?_cons, e], h⟩
    · have e2 : ∀ (d : D) (ds : List (κ × D)), valD ((j, d) :: ds) k = valD ds k := fun d ds => by simp [valD, List.find?_cons, e]
      rw [valV_neg (p := (j, _)) e, e2]
      exact Atk.val t k
theorem Atk.any : ∀ {vs : List (κ × V)} {ds : List (κ × D)}, Atk K A H κ vs ds → ∀ k, (vs.any fun kv => decide (kv.1 = k)) = ds.any fun kv => decide (kv.1 = k)
  | _, _, .nil, _ => rfl
  | _, _, .cons h t, k => by rw [List.any_cons, List.any_cons, Atk.any t k]
theorem Atk.append : ∀ {vs ws : List (κ × V)} {ds es : List (κ × D)}, Atk K A H κ vs ds → Atk K A H κ ws es → Atk K A H κ (vs ++ ws) (ds ++ es)
  | _, _, _, _, .nil, s => s
  | _, _, _, _, .cons h t, s => .cons h (Atk.append t s)
theorem Atk.repl : ∀ {vs : List (κ × V)} {ds : List (κ × D)} {v : V} {d : D} (k : κ), Atk K A H κ vs ds → At K A H v d →
    Atk K A H κ (vs.map fun kv => if kv.1 = k then (kv.1, v) else kv) (ds.map fun kv => if kv.1 = k then (kv.1, d) else kv)
  | _, _, _, _, _, .nil, _ => .nil
  | _, _, v, d, k, .cons (k := j) h t, h1 => by
    rw [List.map_cons, List.map_cons]
    by_cases e : j = k
    · rw [if_pos e, if_pos e]
      exact .cons h1 (Atk.repl k t h1)
    · rw [if_neg e, if_neg e]
      exact .cons h (Atk.repl k t h1)
theorem Atk.put {vs : List (κ × V)} {ds : List (κ × D)} {v : V} {d : D} (k : κ) (h : Atk K A H κ vs ds) (h1 : At K A H v d) : Atk K A H κ (putK vs k v) (putD ds k d) := by
  unfold putK putD
  rw [h.any k]
  split
  · exact h.repl k h1
  · exact h.append (.cons h1 .nil)
theorem Atk.dropD : ∀ {vs : List (κ × V)} {ds : List (κ × D)} (k : κ), Atk K A H κ vs ds → Atk K A H κ (dropK vs k) (PP.dropD ds k)
  | _, _, _, .nil => .nil
  | _, _, k, .cons (k := j) h t => by
    unfold dropK PP.dropD
    rw [List.filter_cons, List.filter_cons]
    by_cases e : j = k
    · rw [if_neg (by simp [e]), if_neg (by simp [e])]
      exact Atk.dropD k t
    · rw [if_pos (by simp [e]), if_pos (by simp [e])]
      exact .cons h (Atk.dropD k t)
theorem Atk.keys : ∀ {vs : List (κ × V)} {ds : List (κ × D)}, Atk K A H κ vs ds → vs.map (·.1) = ds.map (·.1)
  | _, _, .nil => rfl
  | _, _, .cons h t => by rw [List.map_cons, List.map_cons, Atk.keys t]
end
section
variable {K : PySem.W.Frag} {A : Addr → Prop} {H : Hp}
theorem Atk.look : ∀ {vs : List (Str × V)} {ds : List (Str × D)}, Atk K A H Str vs ds → ∀ f, (vs.lookup f = none ∧ ds.lookup f = none) ∨ ∃ v d, vs.lookup f = some v ∧ ds.lookup f = some d ∧ At K A H v d
  | _, _, .nil, _ => .inl ⟨rfl, rfl⟩
  | _, _, .cons (k := j) h t, f => by
    rw [List.lookup, List.lookup]
    split
    · exact .inr ⟨_, _, rfl, rfl, h⟩
    · exact Atk.look t f
end
end PP

set_option Elab.async false
set_option linter.all false
set_option maxRecDepth 100000
set_option maxHeartbeats 1000000
namespace PP
open PySem PySem.Spec PyProof.Rows L2

/-! ### the hidden world: the addresses M that calls may change, what holds of them (n: a count of what was done), its state -/
structure Gh (ST : Type) where
  M : Addr → Prop
  W : Nat → ST → Hp → Prop
  keep : ∀ {n : Nat} {st : ST} {H H' : Hp}, W n st H → (∀ a, M a → H' a = H a) → W n st H'
  le : ∀ {n n' : Nat} {st : ST} {H : Hp}, n ≤ n' → W n st H → W n' st H
  top : Nat
structure Bs (ST : Type) where
  G : Gh ST
  K : PySem.W.Frag
  H0 : Hp
  A0 : Addr → Prop
  X0 : Addr → Prop
  L : Addr → Option HO
  Z : Addr → Prop
  wx : WX
structure Exn where
  cls : Value
  fs : List (Str × D)
inductive ExAt (K : PySem.W.Frag) (A : Addr → Prop) (H : Hp) : Value → Option Addr → Exn → Prop
  | non (cls : Value) : ExAt K A H cls none ⟨cls, []⟩
  | fs {cls : Value} {dx : Addr} {vs : List (Str × V)} {ds : List (Str × D)} : A dx → H dx = some (.xd vs) → Atk K A H Str vs ds → ExAt K A H cls (some dx) ⟨cls, ds⟩
theorem Keep.dK {a : Addr} {H H' : Hp} (k : Keep a H H') {fs : List (Key × V)} (h : H a = some (.dK fs)) : Rd H' a (.dK fs) := k.rdD (.inl h)
theorem ExAt.ge {K : PySem.W.Frag} {A A' : Addr → Prop} {H H' : Hp} (g : Ge A H A' H') {cls : Value} {dx : Option Addr} {x : Exn} (h : ExAt K A H cls dx x) : ExAt K A' H' cls dx x := by
  cases h with
  | non => exact .non _
  | fs h1 h2 t => exact .fs (g _ h1).1 ((g _ h1).2.xd h2) (t.ge g)

theorem nn_of {α : Type} {x : Option α} {y : α} (h : x = some y) : x ≠ none := fun z => by rw [h] at z; cases z
theorem ne_of_nn {H : Hp} {a b : Addr} (h : H a ≠ none) (h' : H b = none) : a ≠ b := fun e => h (e ▸ h')
variable {ST : Type}
def SlotAt (B : Bs ST) (A : Addr → Prop) (H : Hp) (x : Option V) : Sl → Prop
  | .un => True
  | .dat d => ∃ v, x = some v ∧ At B.K A H v d
  | .ownL ds => ∃ a vs, x = some (.ref a) ∧ H a = some (.lst vs) ∧ Ats B.K A H vs ds ∧ ¬ A a ∧ ¬ B.G.M a ∧ (B.H0 a = none ∨ B.X0 a)
  | .ownD ds => ∃ a vs, x = some (.ref a) ∧ H a = some (.dK vs) ∧ Atk B.K A H Key vs ds ∧ ¬ A a ∧ ¬ B.G.M a ∧ (B.H0 a = none ∨ B.X0 a)
  | .ownI C ds => ∃ a dx vs, x = some (.ref a) ∧ H a = some (.ins C dx vs) ∧ Atk B.K A H Str vs ds ∧ ¬ A a ∧ ¬ B.G.M a ∧ (B.H0 a = none ∨ B.X0 a)
/-- what σ holds at i -/
abbrev sat (σ : L2.St) (i : Nat) : Option V := (σ[i]?).join
structure Sta (B : Bs ST) (A : Addr → Prop) (σ : L2.St) (H : Hp) (ρ : Env) : Prop where
  base : ∀ a, ¬ B.G.M a → ¬ B.X0 a → B.L a = none → B.H0 a ≠ none → H a = B.H0 a
  lock : ∀ a o, B.L a = some o → H a = some o ∧ ¬ B.G.M a ∧ (∀ i s, ρ[i]? = some s → s.own = true → sat σ i ≠ some (.ref a)) ∧ (B.Z a → ¬ A a)
  new : ∀ a, A a → B.A0 a ∨ B.H0 a = none ∨ B.X0 a
  trk : ∀ a, A a → H a ≠ none ∧ ¬ B.G.M a
  mtrk : ∀ a, B.G.M a → H a ≠ none
  len : σ.length = ρ.length
  slot : ∀ i s, ρ[i]? = some s → SlotAt B A H (sat σ i) s
  apart : ∀ i j s t a, i ≠ j → ρ[i]? = some s → ρ[j]? = some t → s.own = true → t.own = true → sat σ i = some (.ref a) → sat σ j ≠ some (.ref a)

theorem SlotAt.own_at {B : Bs ST} {A : Addr → Prop} {H : Hp} {x : Option V} {s : Sl} (h : SlotAt B A H x s) (o : s.own = true) : ∃ a, x = some (.ref a) ∧ H a ≠ none ∧ ¬ A a ∧ ¬ B.G.M a ∧ (B.H0 a = none ∨ B.X0 a) := by
  cases s with
  | un => cases o
  | dat d => cases o
  | ownL ds => obtain ⟨a, vs, h1, h2, _, h3, h4, h5⟩ := h; exact ⟨a, h1, nn_of h2, h3, h4, h5⟩
  | ownD ds => obtain ⟨a, vs, h1, h2, _, h3, h4, h5⟩ := h; exact ⟨a, h1, nn_of h2, h3, h4, h5⟩
  | ownI C ds => obtain ⟨a, dx, vs, h1, h2, _, h3, h4, h5⟩ := h; exact ⟨a, h1, nn_of h2, h3, h4, h5⟩
/-- a slot when all that it leans on is kept: the data, its own thing as it was -/
theorem SlotAt.keep {B : Bs ST} {A A' : Addr → Prop} {H H' : Hp} {x : Option V} {s : Sl} (h : SlotAt B A H x s) (g : Ge A H A' H') (k : ∀ a, s.own = true → x = some (.ref a) → H' a = H a ∧ (A' a → A a)) : SlotAt B A' H' x s := by
  cases s with
  | un => trivial
  | dat d => obtain ⟨v, h1, h2⟩ := h; exact ⟨v, h1, h2.ge g⟩
  | ownL ds => obtain ⟨a, vs, h1, h2, h3, h4, h5⟩ := h; obtain ⟨k1, k2⟩ := k a rfl h1; exact ⟨a, vs, h1, k1.trans h2, h3.ge g, fun z => h4 (k2 z), h5⟩
  | ownD ds => obtain ⟨a, vs, h1, h2, h3, h4, h5⟩ := h; obtain ⟨k1, k2⟩ := k a rfl h1; exact ⟨a, vs, h1, k1.trans h2, h3.ge g, fun z => h4 (k2 z), h5⟩
  | ownI C ds => obtain ⟨a, dx, vs, h1, h2, h3, h4, h5⟩ := h; obtain ⟨k1, k2⟩ := k a rfl h1; exact ⟨a, dx, vs, h1, k1.trans h2, h3.ge g, fun z => h4 (k2 z), h5⟩
section
variable {B : Bs ST} {A A' : Addr → Prop} {σ : L2.St} {H H' : Hp} {ρ : Env}
theorem Sta.fresh_m {p : Addr} (S : Sta B A σ H ρ) (hp : H p = none) : ¬ B.G.M p := fun z => S.mtrk p z hp
theorem Sta.fresh_a {p : Addr} (S : Sta B A σ H ρ) (hp : H p = none) : ¬ A p := fun z => (S.trk p z).1 hp
theorem Sta.fresh_0 {p : Addr} (S : Sta B A σ H ρ) (hp : H p = none) : B.H0 p = none ∨ B.X0 p := by
  by_cases hx : B.X0 p
  · exact .inr hx
  · by_cases q : B.H0 p = none
    · exact .inl q
    · cases hl : B.L p with
      | some o =>
        have e := (S.lock p o hl).1
        rw [hp] at e
        cases e
      | none =>
        have e := S.base p (S.fresh_m hp) hx hl q
        rw [hp] at e
        exact absurd e.symm q
/-- the heap grows, or the hidden world changes -/
theorem Sta.step (S : Sta B A σ H ρ) (k : ∀ a, H a ≠ none → ¬ B.G.M a → H' a = H a) (mt : ∀ a, B.G.M a → H' a ≠ none) (h1 : ∀ a, A a → A' a) (h2 : ∀ a, A' a → A a ∨ (H a = none ∧ H' a ≠ none)) : Sta B A' σ H' ρ := by
  have g : Ge A H A' H' := fun a h => ⟨h1 a h, .of_eq (k a (S.trk a h).1 (S.trk a h).2)⟩
  have h0 : ∀ a, H a = none → B.H0 a = none ∨ B.X0 a := fun a e => S.fresh_0 e
  refine ⟨fun a hm hx hl hn => ?_, fun a o e => ?_, fun a ha => ?_, fun a ha => ?_, mt, S.len, fun i s e => (S.slot i s e).keep g fun a o x => ?_, S.apart⟩
  · have e := S.base a hm hx hl hn
    rw [k a (by rw [e]; exact hn) hm, e]
  · obtain ⟨e1, e2, e3, e4⟩ := S.lock a o e
    refine ⟨(k a (nn_of e1) e2).trans e1, e2, e3, fun z y => ?_⟩
    rcases h2 a y with q | q
    · exact e4 z q
    · exact nn_of e1 q.1
  · rcases h2 a ha with z | z
    · exact S.new a z
    · exact .inr (h0 a z.1)
  · rcases h2 a ha with z | z
    · refine ⟨?_, (S.trk a z).2⟩
      rw [k a (S.trk a z).1 (S.trk a z).2]
      exact (S.trk a z).1
    · exact ⟨z.2, fun y => S.mtrk a y z.1⟩
  · obtain ⟨b, y1, y2, y3, y4, _⟩ := (S.slot i s e).own_at o
    have eb : b = a := by
      rw [x] at y1
      cases y1
      rfl
    subst eb
    refine ⟨k b y2 y4, fun z => ?_⟩
    rcases h2 b z with z | z
    · exact z
    · exact absurd z.1 y2
/-- a new object -/
theorem Sta.alloc {p : Addr} {o : HO} (S : Sta B A σ H ρ) (hp : H p = none) : Sta B (fun a => A a ∨ a = p) σ (upd H p o) ρ :=
  S.step (fun a ha _ => upd_ne (ne_of_nn ha hp)) (fun a hm => by rw [upd_ne (ne_of_nn (S.mtrk a hm) hp)]; exact S.mtrk a hm) (fun _ h => .inl h) fun a h => by
    rcases h with h | rfl
    · exact .inl h
    · exact .inr ⟨hp, by rw [upd_same]; exact fun z => nomatch z⟩
/-- .. that is not handed on -/
theorem Sta.alloc0 {p : Addr} {o : HO} (S : Sta B A σ H ρ) (hp : H p = none) : Sta B A σ (upd H p o) ρ :=
  S.step (fun a ha _ => upd_ne (ne_of_nn ha hp)) (fun a hm => by rw [upd_ne (ne_of_nn (S.mtrk a hm) hp)]; exact S.mtrk a hm) (fun _ h => h) fun a h => .inl h
theorem Sta.ge_alloc {p : Addr} {o : HO} (S : Sta B A σ H ρ) (hp : H p = none) : Ge A H (fun a => A a ∨ a = p) (upd H p o) := fun a h => ⟨.inl h, .of_eq (upd_ne (ne_of_nn (S.trk a h).1 hp))⟩
theorem Sta.ge_alloc0 {p : Addr} {o : HO} (S : Sta B A σ H ρ) (hp : H p = none) : Ge A H A (upd H p o) := fun a h => ⟨h, .of_eq (upd_ne (ne_of_nn (S.trk a h).1 hp))⟩
theorem Sta.fresh_o {p : Addr} (S : Sta B A σ H ρ) (hp : H p = none) : ∀ i s, ρ[i]? = some s → s.own = true → sat σ i ≠ some (.ref p) := fun i s e o z => by
  obtain ⟨b, y1, y2, _⟩ := (S.slot i s e).own_at o
  rw [z] at y1
  cases y1
  exact y2 hp
theorem Sta.fresh_l {p : Addr} (S : Sta B A σ H ρ) (hp : H p = none) : B.L p = none := by
  cases e : B.L p with
  | none => rfl
  | some o => exact absurd hp (nn_of (S.lock p o e).1)
theorem W_alloc {p : Addr} {o : HO} {m : Nat} {st : ST} (S : Sta B A σ H ρ) (hp : H p = none) (w : B.G.W m st H) : B.G.W m st (upd H p o) := B.G.keep w fun a hm => upd_ne (ne_of_nn (S.mtrk a hm) hp)
end

/-! ### pure readings -/
abbrev RX (ST : Type) := Exn → Env → ST → Prop
abbrev Px (ST δ : Type) := Env → ST → (δ → Env → ST → Prop) → RX ST → Prop
def Mono {δ : Type} (p : Px ST δ) : Prop := ∀ ρ st (Q Q' : δ → Env → ST → Prop) (R R' : RX ST), (∀ d ρ' st', Q d ρ' st' → Q' d ρ' st') → (∀ x ρ' st', R x ρ' st' → R' x ρ' st') → p ρ st Q R → p ρ st Q' R'
abbrev Rel (α δ : Type) := L2.St → Env → (Addr → Prop) → Hp → α → δ → Prop
variable {α β δ ε : Type}
def post (B : Bs ST) (rel : Rel α δ) (n : Nat) (A : Addr → Prop) (m : Nat) (H : Hp) (σ : L2.St) (Q : α → Hp → Prop) : δ → Env → ST → Prop := fun d ρ' st' =>
  ∀ v H' A', Sta B A' σ H' ρ' → B.G.W (m + n) st' H' → Ge A H A' H' → rel σ ρ' A' H' v d → Q v H'
def postX (B : Bs ST) (n m : Nat) (σ : L2.St) : RX ST := fun x ρ' st' => ∀ cls dx H' A', Sta B A' σ H' ρ' → B.G.W (m + n) st' H' → ExAt B.K A' H' cls dx x → B.wx cls dx σ H'
def lift (B : Bs ST) (rel : Rel α δ) (n : Nat) (p : Px ST δ) : L2.St → Hp → (α → Hp → Prop) → Prop := fun σ H Q =>
  ∃ ρ A m st, Sta B A σ H ρ ∧ B.G.W m st H ∧ m + n ≤ B.G.top ∧ p ρ st (post B rel n A m H σ Q) (postX B n m σ)
def relE (K : PySem.W.Frag) : Rel V D := fun _ _ A H v d => At K A H v d
def relA (K : PySem.W.Frag) : Rel (List V) (List D) := fun _ _ A H v d => Ats K A H v d
def relT : Rel Bool Bool := fun _ _ _ _ v d => v = d
/-- a new thing that nobody else holds -/
inductive FV where
  | l (xs : List D) | d (kvs : List (Key × D))
def FV.dat : FV → D
  | .l xs => .lst xs
  | .d kvs => .dic kvs
def FV.sl : FV → Sl
  | .l xs => .ownL xs
  | .d kvs => .ownD kvs
def FAt (K : PySem.W.Frag) (A : Addr → Prop) (H : Hp) (a : Addr) : FV → Prop
  | .l xs => ∃ vs, H a = some (.lst vs) ∧ Ats K A H vs xs
  | .d ds => ∃ vs, H a = some (.dK vs) ∧ Atk K A H Key vs ds
def relF (B : Bs ST) : Rel V FV := fun σ ρ A H v f => ∃ a, v = .ref a ∧ FAt B.K A H a f ∧ ¬ A a ∧ ¬ B.G.M a ∧ (B.H0 a = none ∨ B.X0 a) ∧ (∀ i s, ρ[i]? = some s → s.own = true → sat σ i ≠ some (.ref a)) ∧ B.L a = none
abbrev liftE (B : Bs ST) (n : Nat) (p : Px ST D) : TE := lift B (relE B.K) n p
abbrev liftF (B : Bs ST) (n : Nat) (p : Px ST FV) : TE := lift B (relF B) n p
abbrev liftA (B : Bs ST) (n : Nat) (p : Px ST (List D)) : TA := lift B (relA B.K) n p
abbrev liftT (B : Bs ST) (n : Nat) (p : Px ST Bool) : TT := lift B relT n p

section
variable {B : Bs ST} {rel : Rel α δ} {rel' : Rel β ε} {n n1 n2 m : Nat} {A A1 A2 : Addr → Prop} {σ : L2.St} {H H1 : Hp} {ρ ρ1 : Env} {st st1 : ST} {Q : α → Hp → Prop} {d : δ} {v : α}
theorem post.here (h : post B rel n A m H σ Q d ρ st) (S : Sta B A σ H ρ) (w : B.G.W m st H) (r : rel σ ρ A H v d) : Q v H := h v H A S (B.G.le (Nat.le_add_right _ _) w) Ge.refl r
/-- behind a first part -/
theorem post.later (h : post B rel (n1 + n2) A m H σ Q d ρ st) (g : Ge A H A1 H1) : post B rel n2 A1 (m + n1) H1 σ Q d ρ st := fun v H' A' S w g' r => h v H' A' S (by rw [← Nat.add_assoc]; exact w) (g.trans g') r
theorem postX.later {x : Exn} (h : postX B (n1 + n2) m σ x ρ st) : postX B n2 (m + n1) σ x ρ st := fun c dx H' A' S w r => h c dx H' A' S (by rw [← Nat.add_assoc]; exact w) r
theorem postX.first {x : Exn} (h : postX B (n1 + n2) m σ x ρ st) : postX B n1 m σ x ρ st := fun c dx H' A' S w r => h c dx H' A' S (B.G.le (by omega) w) r
theorem post.le (h : post B rel n A m H σ Q d ρ st) {n' : Nat} (l : n' ≤ n) : post B rel n' A m H σ Q d ρ st := fun v H' A' S w g r => h v H' A' S (B.G.le (by omega) w) g r
theorem postX.le {x : Exn} (h : postX B n m σ x ρ st) {n' : Nat} (l : n' ≤ n) : postX B n' m σ x ρ st := fun c dx H' A' S w r => h c dx H' A' S (B.G.le (by omega) w) r
end

/-- first p, then the rest -/
def bindP (p : Px ST δ) (q : δ → Px ST ε) : Px ST ε := fun ρ st Q R => p ρ st (fun d ρ1 st1 => q d ρ1 st1 Q R) R
theorem bindP.mono {p : Px ST δ} {q : δ → Px ST ε} (hp : Mono p) (hq : ∀ d, Mono (q d)) : Mono (bindP p q) := fun ρ st Q Q' R R' h1 h2 h => hp _ _ _ _ _ _ (fun d ρ' st' z => hq d _ _ _ _ _ _ h1 h2 z) h2 h
/-- a value, nothing else -/
def retP (f : (δ → Prop) → Prop) : Px ST δ := fun ρ st Q _ => f fun d => Q d ρ st
theorem retP.mono {f : (δ → Prop) → Prop} (hf : ∀ Q Q' : δ → Prop, (∀ d, Q d → Q' d) → f Q → f Q') : Mono (retP (ST := ST) f) := fun ρ st Q Q' R R' h1 h2 h => hf _ _ (fun d z => h1 d ρ st z) h
theorem lift_imp {B : Bs ST} {rel : Rel α δ} {n : Nat} {p : Px ST δ} {σ : L2.St} {H : Hp} {Q Q' : α → Hp → Prop} (hp : Mono p) (hq : ∀ v H, Q v H → Q' v H) (h : lift B rel n p σ H Q) : lift B rel n p σ H Q' := by
  obtain ⟨ρ, A, m, st, S, w, l, h⟩ := h
  exact ⟨ρ, A, m, st, S, w, l, hp _ _ _ _ _ _ (fun d ρ' st' z v H' A' S' w' g r => hq v H' (z v H' A' S' w' g r)) (fun _ _ _ z => z) h⟩
theorem run_bind {B : Bs ST} {rel : Rel α δ} {rel' : Rel β ε} {n1 n2 m : Nat} {A : Addr → Prop} {ρ : Env} {st : ST} {p : Px ST δ} {q : δ → Px ST ε} {σ : L2.St} {H : Hp} {Q : β → Hp → Prop} {k : α → Hp → Prop} (hp : Mono p) (hq : ∀ d, Mono (q d))
    (S : Sta B A σ H ρ) (w : B.G.W m st H) (l : m + (n1 + n2) ≤ B.G.top) (h : bindP p q ρ st (post B rel' (n1 + n2) A m H σ Q) (postX B (n1 + n2) m σ))
    (hk : ∀ v H1 d ρ1 A1 m1 st1, rel σ ρ1 A1 H1 v d → Sta B A1 σ H1 ρ1 → B.G.W m1 st1 H1 → m1 + n2 ≤ B.G.top → Ge A H A1 H1 → q d ρ1 st1 (post B rel' n2 A1 m1 H1 σ Q) (postX B n2 m1 σ) → k v H1) :
    lift B rel n1 p σ H k := by
  refine ⟨ρ, A, m, st, S, w, by omega, hp _ _ _ _ _ _ (fun d ρ1 st1 z v H1 A1 S1 w1 g1 r1 => ?_) (fun x ρ1 st1 z => z.first) h⟩
  exact hk v H1 d ρ1 A1 (m + n1) st1 r1 S1 w1 (by omega) g1 (hq d _ _ _ _ _ _ (fun d2 ρ2 st2 y => y.later g1) (fun x ρ2 st2 y => y.later) z)
end PP

set_option Elab.async false
set_option linter.all false
set_option maxRecDepth 100000
set_option maxHeartbeats 1000000
namespace PP
open PySem PySem.Spec PyProof.Rows L2
variable {ST : Type}

theorem pe_weak {X : Cx} {e : Expr} {t t' : TE} (h : PE X e t) (k : ∀ σ H Q, t' σ H Q → t σ H Q) : PE X e t' := ⟨fun pins s σ H Q I w => h.run pins s σ H Q I (k σ H Q w)⟩
theorem pt_weak {X : Cx} {e : Expr} {t t' : TT} (h : PT X e t) (k : ∀ σ H Q, t' σ H Q → t σ H Q) : PT X e t' := ⟨fun pins s σ H Q I w => h.run pins s σ H Q I (k σ H Q w)⟩
theorem pa_weak {X : Cx} {e : List Expr} {t t' : TA} (h : PA X e t) (k : ∀ σ H Q, t' σ H Q → t σ H Q) : PA X e t' := ⟨fun pos pins s σ H Q I w => h.run pos pins s σ H Q I (k σ H Q w)⟩
/-! ### the judgements -/
structure JE (X : Cx) (B : Bs ST) (e : Expr) (n : Nat) (p : Px ST D) : Prop where
  mono : Mono p
  run : PE X e (liftE B n p)
structure JF (X : Cx) (B : Bs ST) (e : Expr) (n : Nat) (p : Px ST FV) : Prop where
  mono : Mono p
  run : PE X e (liftF B n p)
structure JT (X : Cx) (B : Bs ST) (e : Expr) (n : Nat) (p : Px ST Bool) : Prop where
  mono : Mono p
  run : PT X e (liftT B n p)
structure JA (X : Cx) (B : Bs ST) (es : List Expr) (n : Nat) (p : Px ST (List D)) : Prop where
  mono : Mono p
  run : PA X es (liftA B n p)

/-! ### names -/
def Sl.data : Sl → D
  | .un => .non | .dat d => d | .ownL xs => .lst xs | .ownD kvs => .dic kvs | .ownI C fs => .ins C fs
def pVar (i : Nat) : Px ST D := fun ρ st Q _ => match ρ[i]? with
  | some (.dat d) => Q d ρ st
  | some .un => False
  | some s => Q s.data (ρ.set i (.dat s.data)) st
  | none => False
theorem pVar.mono {i : Nat} : Mono (pVar (ST := ST) i) := fun ρ st Q Q' R R' h1 h2 h => by
  unfold pVar at h ⊢
  cases e : ρ[i]? with
  | none => rw [e] at h; exact h
  | some s => rw [e] at h; cases s <;> first | exact h | exact h1 _ _ _ h
section
variable {B : Bs ST} {A : Addr → Prop} {σ : L2.St} {H : Hp} {ρ : Env}
/-- a thing of one's own is handed on -/
theorem Sta.freeze (S : Sta B A σ H ρ) {i : Nat} {s : Sl} (e : ρ[i]? = some s) (o : s.own = true) : ∃ a, sat σ i = some (.ref a) ∧ Sta B (fun b => A b ∨ b = a) σ H (ρ.set i (.dat s.data)) ∧ Ge A H (fun b => A b ∨ b = a) H ∧
    At B.K (fun b => A b ∨ b = a) H (.ref a) s.data := by
  have g : ∀ a, Ge A H (fun b => A b ∨ b = a) H := fun a b h => ⟨.inl h, Keep.refl⟩
  have sl := S.slot i s e
  obtain ⟨a, x1, x2, x3, x4, x5⟩ := sl.own_at o
  have at_ : At B.K (fun b => A b ∨ b = a) H (.ref a) s.data := by
    cases s with
    | un => cases o
    | dat d => cases o
    | ownL ds =>
      obtain ⟨b, vs, y1, y2, y3, _⟩ := sl
      rw [x1] at y1
      cases y1
      exact .lst (.inr rfl) y2 (y3.ge (g _))
    | ownD ds =>
      obtain ⟨b, vs, y1, y2, y3, _⟩ := sl
      rw [x1] at y1
      cases y1
      exact .dic (.inr rfl) (.inl y2) (y3.ge (g _))
    | ownI C ds =>
      obtain ⟨b, dx, vs, y1, y2, y3, _⟩ := sl
      rw [x1] at y1
      cases y1
      exact .ins (.inr rfl) y2 (y3.ge (g _))
  have ne : ∀ {l : Nat} {v : Sl}, (ρ.set i (.dat s.data))[l]? = some v → v.own = true → ρ[l]? = some v := fun {l v} el ov => by
    rw [List.getElem?_set] at el
    split at el
    · split at el
      · cases el
        cases ov
      · cases el
    · exact el
  refine ⟨a, x1, ⟨S.base, fun b u eb => ?_, fun b h => ?_, fun b h => ?_, S.mtrk, by rw [List.length_set]; exact S.len, fun j t ej => ?_, fun j k t u b njk ej ek ot ou => ?_⟩, g a, at_⟩
  · obtain ⟨l1, l2, l3, l4⟩ := S.lock b u eb
    refine ⟨l1, l2, fun j t ej oj => l3 j t (ne ej oj) oj, fun z y => ?_⟩
    rcases y with y | rfl
    · exact l4 z y
    · exact l3 i s e o x1
  · rcases h with h | rfl
    · exact S.new b h
    · exact .inr x5
  · rcases h with h | rfl
    · exact S.trk b h
    · exact ⟨x2, x4⟩
  · rw [List.getElem?_set] at ej
    split at ej
    · rename_i h
      subst h
      split at ej
      · cases ej
        exact ⟨_, x1, at_⟩
      · cases ej
    · rename_i hne
      refine (S.slot j t ej).keep (g a) fun b ob xb => ⟨rfl, fun z => ?_⟩
      rcases z with z | rfl
      · exact z
      · exact absurd x1 (S.apart j i t s b (fun q => hne q.symm) ej e ob o xb)
  · exact S.apart j k t u b njk (ne ej ot) (ne ek ou) ot ou
theorem sat_of {σ : L2.St} {i : Nat} {v : V} (h : sat σ i = some v) : σ[i]? = some (some v) := by
  unfold sat at h
  cases e : σ[i]? with
  | none => rw [e] at h; cases h
  | some o =>
    rw [e] at h
    have h' : o = some v := h
    rw [h']
theorem var_run {i n : Nat} {Q : VK} (h : liftE B n (pVar i) σ H Q) : tVar i σ H Q := by
  obtain ⟨ρ, A, m, st, S, w, l, h⟩ := h
  unfold pVar at h
  cases e : ρ[i]? with
  | none => rw [e] at h; exact h.elim
  | some s =>
    rw [e] at h
    have own : s.own = true → post B (relE B.K) n A m H σ Q s.data (ρ.set i (.dat s.data)) st → tVar i σ H Q := fun o h => by
      obtain ⟨a, x1, S', g, at_⟩ := S.freeze e o
      exact ⟨_, sat_of x1, h _ H _ S' (B.G.le (Nat.le_add_right _ _) w) g at_⟩
    cases s with
    | un => exact h.elim
    | dat d =>
      obtain ⟨v, x, at_⟩ := S.slot i _ e
      exact ⟨v, sat_of x, post.here h S w at_⟩
    | ownL ds => exact own rfl h
    | ownD ds => exact own rfl h
    | ownI C ds => exact own rfl h
end
section
variable {X : Cx} {B : Bs ST} {e : Expr} {pos : Pos}
theorem je_var (i : Nat) {x : Str} (hN : X.N[i]? = some x := by rfl) (hv : Vis X.env.scope x := by first | exact Or.inl rfl | exact Or.inr (Or.inl rfl) | exact Or.inr (Or.inr rfl)) (hd : (x == ("__debug__" : Str)) = false := by decide)
    (hcd : (x == ("__classdict__" : Str)) = false := by decide) : JE X B (.Name x pos) 0 (pVar i) := ⟨pVar.mono, pe_weak (pe_var hN hv hd hcd) fun _ _ _ h => var_run h⟩
/-- a value that is known and simple -/
def pC (d : D) : Px ST D := fun ρ st Q _ => Q d ρ st
theorem pC.mono {d : D} : Mono (pC (ST := ST) d) := fun _ _ _ _ _ _ h1 _ h => h1 _ _ _ h
theorem je_c {v : V} {d : D} (h : PE X e (tC v)) (ha : ∀ A H, At B.K A H v d) : JE X B e 0 (pC d) := ⟨pC.mono, pe_weak h fun σ H Q ⟨ρ, A, m, st, S, w, l, h⟩ => post.here h S w (ha A H)⟩
theorem je_int {i j} : JE X B (.Constant (.int i) j pos) 0 (pC (.int i)) := je_c pe_int fun _ _ => .int i
theorem je_bl {b j} : JE X B (.Constant (.bool b) j pos) 0 (pC (.bl b)) := je_c pe_bl fun _ _ => .bl b
theorem je_non {j} : JE X B (.Constant .none j pos) 0 (pC .non) := je_c pe_non fun _ _ => .non
theorem je_str {x j} : JE X B (.Constant (.str x) j pos) 0 (pC (.str x)) := je_c pe_str fun _ _ => .str x
theorem je_gint {x : Str} {i : Int} {t : Tok} (hg : Gl X x) (hm : X.mg x = some (.int i t)) (hd : (x == ("__debug__" : Str)) = false := by decide) : JE X B (.Name x pos) 0 (pC (.int i)) := je_c (pe_glob (v := .int i) hg hm ⟨t, rfl⟩ hd) fun _ _ => .int i
theorem je_gstr {x z : Str} {t : Tok} (hg : Gl X x) (hm : X.mg x = some (.str z t)) (hd : (x == ("__debug__" : Str)) = false := by decide) : JE X B (.Name x pos) 0 (pC (.str z)) := je_c (pe_glob (v := .str z) hg hm ⟨t, rfl⟩ hd) fun _ _ => .str z
/-- a written tuple of texts at the top -/
theorem ats_strs {K : PySem.W.Frag} {A : Addr → Prop} {H : Hp} : ∀ zs : List Str, Ats K A H (zs.map V.str) (zs.map D.str)
  | [] => .nil
  | z :: zs => .cons (.str z) (ats_strs zs)
theorem ats_ints {K : PySem.W.Frag} {A : Addr → Prop} {H : Hp} : ∀ zs : List Int, Ats K A H (zs.map V.int) (zs.map D.int)
  | [] => .nil
  | z :: zs => .cons (.int z) (ats_ints zs)
theorem je_gtup {x : Str} {a : Addr} {zs : List Str} (hg : Gl X x) (hm : X.mg x = some (.ref a)) (hK : X.K = B.K) (ht : ∀ H, SqT X.K H a (zs.map V.str)) (hd : (x == ("__debug__" : Str)) = false := by decide) : JE X B (.Name x pos) 0 (pC (.tup (zs.map D.str))) :=
  je_c (pe_glob (v := .ref a) hg hm rfl hd) fun A H => by
    refine .tup ?_ (ats_strs zs)
    have h := ht (fun _ => none)
    rw [hK] at h
    rcases h with (h | ⟨o, h⟩) | h
    · cases h
    · cases h
    · exact .inr h
/-- a thing that is named alone: a def, a class -/
theorem je_gref {x : Str} {a : Addr} (hg : Gl X x) (hm : X.mg x = some (.ref a)) (hd : (x == ("__debug__" : Str)) = false := by decide) : JE X B (.Name x pos) 0 (pC (.ref a)) := je_c (pe_glob (v := .ref a) hg hm rfl hd) fun _ _ => .ref a
theorem je_gty {x : Str} {n : String} (hg : Gl X x) (hm : X.mg x = none) (hv : bootBuiltins x = some (.type n)) (hn : x ≠ "__name__" := by decide) (hd : (x == ("__debug__" : Str)) = false := by decide) : JE X B (.Name x pos) 0 (pC (.ty n)) := je_c (pe_bltn (v := .ty n) hg hm hv rfl hn hd) fun _ _ => .ty n
end

/-! ### two operands -/
def pBin {δ : Type} (f : D → D → (δ → Prop) → Prop) (pa pb : Px ST D) : Px ST δ := bindP pa fun x => bindP pb fun y => retP (f x y)
def MonF {δ : Type} (f : D → D → (δ → Prop) → Prop) : Prop := ∀ x y (Q Q' : δ → Prop), (∀ d, Q d → Q' d) → f x y Q → f x y Q'
theorem pBin.mono {δ : Type} {f : D → D → (δ → Prop) → Prop} {pa pb : Px ST D} (hf : MonF f) (ha : Mono pa) (hb : Mono pb) : Mono (pBin f pa pb) := bindP.mono ha fun x => bindP.mono hb fun y => retP.mono (hf x y)
/-- an operation on values keeps what f says of data -/
def OpS (B : Bs ST) (r : R2) (f : D → D → (D → Prop) → Prop) : Prop :=
  ∀ x y dx dy A H σ ρ m st Q, At B.K A H x dx → At B.K A H y dy → Sta B A σ H ρ → B.G.W m st H → f dx dy (fun d => post B (relE B.K) 0 A m H σ Q d ρ st) → r x y H Q
theorem bin_run {B : Bs ST} {r : R2} {f : D → D → (D → Prop) → Prop} {na nb : Nat} {pa pb : Px ST D} {σ : L2.St} {H : Hp} {Q : VK} (hs : OpS B r f) (hf : MonF f) (ha : Mono pa) (hb : Mono pb) (h : liftE B (na + nb) (pBin f pa pb) σ H Q) :
    tOp r (liftE B na pa) (liftE B nb pb) σ H Q := by
  obtain ⟨ρ, A, m, st, S, w, l, h⟩ := h
  refine run_bind (rel' := relE B.K) ha (fun x => bindP.mono hb fun y => retP.mono (hf x y)) S w l h fun v1 H1 d1 ρ1 A1 m1 st1 a1 S1 w1 l1 g1 h1 => ?_
  refine run_bind (rel' := relE B.K) (n2 := 0) hb (fun y => retP.mono (hf d1 y)) S1 w1 l1 h1 fun v2 H2 d2 ρ2 A2 m2 st2 a2 S2 w2 l2 g2 h2 => ?_
  exact hs v1 v2 d1 d2 A2 H2 σ ρ2 m2 st2 Q (At.ge g2 a1) a2 S2 w2 h2
section
variable {X : Cx} {B : Bs ST} {a b : Expr} {na nb : Nat} {pa pb : Px ST D} {pos : Pos}
theorem je_bin {op : Operator} {r : R2} {f : D → D → (D → Prop) → Prop} (ho : OpR X (binaryOp op) r) (hs : OpS B r f) (hf : MonF f) (ha : JE X B a na pa) (hb : JE X B b nb pb) : JE X B (.BinOp a op b pos) (na + nb) (pBin f pa pb) :=
  ⟨pBin.mono hf ha.mono hb.mono, pe_weak (pe_op ho ha.run hb.run) fun σ H Q h => bin_run hs hf ha.mono hb.mono h⟩
end
section
variable {B : Bs ST}
def aAdd (x y : D) (Q : D → Prop) : Prop := match x, y with
  | .int i, .int j => Q (.int (i + j))
  | .str a, .str b => a.length + b.length ≤ sizeLine ∧ Q (.str (a ++ b))
  | .lst a, .lst b => a.length + b.length ≤ sizeLine ∧ Q (.lst (a ++ b))
  | .tup a, .tup b => a.length + b.length ≤ sizeLine ∧ Q (.tup (a ++ b))
  | _, _ => False
theorem aAdd.mono : MonF aAdd := fun x y Q Q' h q => by
  unfold aAdd at q ⊢
  split at q <;> first | exact h _ q | exact ⟨q.1, h _ q.2⟩ | exact q.elim
def rAdd4 (K : PySem.W.Frag) : R2 := fun x y H Q => (∃ i j, x = .int i ∧ y = .int j ∧ Q (.int (i + j)) H) ∨ (∃ i j, x = .str i ∧ y = .str j ∧ i.length + j.length ≤ sizeLine ∧ Q (.str (i ++ j)) H) ∨ rCat x y H Q ∨ rCatA K x y H Q
theorem op_add4 {X : Cx} : OpR X (binaryOp .Add) (rAdd4 X.K) := fun pins s σ H x y v u Q I rx ry h => by
  rcases h with h | h | h | h
  · exact op_add pins s σ H x y v u Q I rx ry h
  · exact op_add_str pins s σ H x y v u Q I rx ry h
  · exact op_cat pins s σ H x y v u Q I rx ry h
  · exact op_catA pins s σ H x y v u Q I rx ry h
theorem post_new {rel : Rel V D} {n : Nat} {A : Addr → Prop} {m : Nat} {H : Hp} {σ : L2.St} {Q : VK} {d : D} {ρ : Env} {st : ST} {p : Addr} {o : HO} (h : post B (relE B.K) n A m H σ Q d ρ st) (S : Sta B A σ H ρ) (w : B.G.W m st H) (hp : H p = none)
    (r : At B.K (fun a => A a ∨ a = p) (upd H p o) (.ref p) d) : Q (.ref p) (upd H p o) := h _ _ _ (S.alloc hp) (B.G.le (Nat.le_add_right _ _) (W_alloc S hp w)) (S.ge_alloc hp) r
theorem add_s {K : PySem.W.Frag} (hK : K = B.K) : OpS B (rAdd4 K) aAdd := fun x y dx dy A H σ ρ m st Q ax ay S w h => by
  subst hK
  unfold aAdd at h
  split at h
  · cases ax; cases ay
    exact .inl ⟨_, _, rfl, rfl, post.here h S w (.int _)⟩
  · cases ax; cases ay
    exact .inr (.inl ⟨_, _, rfl, rfl, h.1, post.here h.2 S w (.str _)⟩)
  · cases ax with
    | @lst a1 vs1 _ h1 h2 h3 =>
    cases ay with
    | @lst a2 vs2 _ g1 g2 g3 =>
    refine .inr (.inr (.inl ⟨_, _, _, _, rfl, rfl, h2, g2, by rw [h3.len, g3.len]; exact h.1, fun p hp => ?_⟩))
    exact post_new (rel := relE B.K) h.2 S w hp (.lst (.inr rfl) upd_same ((h3.append g3).ge (S.ge_alloc hp)))
  · cases ax with
    | @tup a1 vs1 ds1 h1 h3 =>
    cases ay with
    | @tup a2 vs2 ds2 g1 g3 =>
    refine .inr (.inr (.inr ⟨_, _, _, _, rfl, rfl, h1.sq, g1.sq, by rw [h3.len, g3.len]; exact h.1, fun e => ?_, fun _ e => ?_, fun _ _ p hp => ?_⟩))
    · subst e
      cases h3
      exact post.here h.2 S w (.tup g1 g3)
    · subst e
      cases g3
      have q := h.2
      rw [List.append_nil] at q
      exact post.here q S w (.tup h1 h3)
    · exact post_new (rel := relE B.K) h.2 S w hp (.tup (.inl ⟨.inr rfl, upd_same⟩) ((h3.append g3).ge (S.ge_alloc hp)))
  · exact h.elim
/-- ints in, a value out -/
def aI (C : Int → Int → Prop) (g : Int → Int → Int) (x y : D) (Q : D → Prop) : Prop := match x, y with
  | .int i, .int j => C i j ∧ Q (.int (g i j))
  | _, _ => False
theorem aI.mono {C : Int → Int → Prop} {g : Int → Int → Int} : MonF (aI C g) := fun x y Q Q' h q => by
  unfold aI at q ⊢
  split at q <;> first | exact ⟨q.1, h _ q.2⟩ | exact q.elim
theorem aI_s {C : Int → Int → Prop} {g : Int → Int → Int} : OpS B (rI C fun i j => .int (g i j)) (aI C g) := fun x y dx dy A H σ ρ m st Q ax ay S w h => by
  unfold aI at h
  split at h
  · cases ax; cases ay
    exact ⟨_, _, rfl, rfl, h.1, post.here h.2 S w (.int _)⟩
  · exact h.elim
abbrev aSub : D → D → (D → Prop) → Prop := aI (fun _ _ => True) fun i j => i - j
abbrev aMul : D → D → (D → Prop) → Prop := aI CMulW fun i j => i * j
abbrev aMod : D → D → (D → Prop) → Prop := aI (fun _ j => 0 < j) fun i j => i % j
abbrev aDiv : D → D → (D → Prop) → Prop := aI CDivW fun i j => i / j
abbrev aPow : D → D → (D → Prop) → Prop := aI CPow fun i j => i ^ j.toNat
end
section
variable {X : Cx} {B : Bs ST} {a b : Expr} {na nb : Nat} {pa pb : Px ST D} {pos : Pos}
theorem je_add (hK : X.K = B.K) (ha : JE X B a na pa) (hb : JE X B b nb pb) : JE X B (.BinOp a .Add b pos) (na + nb) (pBin aAdd pa pb) := je_bin op_add4 (add_s hK) aAdd.mono ha hb
theorem je_sub (ha : JE X B a na pa) (hb : JE X B b nb pb) : JE X B (.BinOp a .Sub b pos) (na + nb) (pBin aSub pa pb) :=
  je_bin (r := rI (fun _ _ => True) fun i j => .int (i - j)) (fun pins s σ H x y v u Q I rx ry h => op_sub pins s σ H x y v u Q I rx ry (by obtain ⟨i, j, h1, h2, _, h3⟩ := h; exact ⟨i, j, h1, h2, h3⟩)) aI_s aI.mono ha hb
theorem je_mul (ha : JE X B a na pa) (hb : JE X B b nb pb) : JE X B (.BinOp a .Mult b pos) (na + nb) (pBin aMul pa pb) := je_bin op_mulW aI_s aI.mono ha hb
theorem je_mod (ha : JE X B a na pa) (hb : JE X B b nb pb) : JE X B (.BinOp a .Mod b pos) (na + nb) (pBin aMod pa pb) := je_bin op_mod aI_s aI.mono ha hb
theorem je_div (ha : JE X B a na pa) (hb : JE X B b nb pb) : JE X B (.BinOp a .FloorDiv b pos) (na + nb) (pBin aDiv pa pb) := je_bin op_fdivW aI_s aI.mono ha hb
theorem je_pow (ha : JE X B a na pa) (hb : JE X B b nb pb) : JE X B (.BinOp a .Pow b pos) (na + nb) (pBin aPow pa pb) := je_bin op_pow aI_s aI.mono ha hb
def aNeg (x : D) (Q : D → Prop) : Prop := match x with
  | .int i => Q (.int (-i))
  | _ => False
def pUn {δ : Type} (f : D → (δ → Prop) → Prop) (pa : Px ST D) : Px ST δ := bindP pa fun x => retP (f x)
theorem pUn.mono {δ : Type} {f : D → (δ → Prop) → Prop} {pa : Px ST D} (hf : ∀ x (Q Q' : δ → Prop), (∀ d, Q d → Q' d) → f x Q → f x Q') (ha : Mono pa) : Mono (pUn f pa) := bindP.mono ha fun x => retP.mono (hf x)
theorem je_neg (ha : JE X B a na pa) : JE X B (.UnaryOp .USub a pos) na (pUn aNeg pa) := by
  have hf : ∀ x (Q Q' : D → Prop), (∀ d, Q d → Q' d) → aNeg x Q → aNeg x Q' := fun x Q Q' h q => by
    unfold aNeg at q ⊢
    split at q <;> first | exact h _ q | exact q.elim
  refine ⟨pUn.mono hf ha.mono, pe_weak (pe_un un_neg ha.run) fun σ H Q h => ?_⟩
  obtain ⟨ρ, A, m, st, S, w, l, h⟩ := h
  refine run_bind (rel' := relE B.K) (n2 := 0) ha.mono (fun x => retP.mono (hf x)) S w l h fun v1 H1 d1 ρ1 A1 m1 st1 a1 S1 w1 l1 g1 h1 => ?_
  have h2 : aNeg d1 _ := h1
  unfold aNeg at h2
  split at h2
  · cases a1
    exact ⟨_, rfl, post.here h2 S1 w1 (.int _)⟩
  · exact h2.elim
end
end PP

set_option Elab.async false
set_option linter.all false
set_option maxRecDepth 100000
set_option maxHeartbeats 1000000
namespace PP
open PySem PySem.Spec PyProof.Rows L2
variable {ST : Type}

/-! ### equality of data -/
mutual
def pd : D → PyData
  | .non => .none | .bl b => .bool b | .int i => .int i | .str s => .str s
  | .tup xs => .tuple (pds xs) | .lst xs => .list (pds xs)
  | .dic _ => .none | .ins _ _ => .none | .exn _ _ => .none | .ref _ => .none | .ty _ => .none | .xcp _ _ _ => .none
def pds : List D → List PyData
  | [] => []
  | x :: xs => pd x :: pds xs
end
mutual
def plain : D → Bool
  | .non => true | .bl _ => true | .int _ => true | .str _ => true
  | .tup xs => plains xs | .lst xs => plains xs
  | .dic _ => false | .ins _ _ => false | .exn _ _ => false | .ref _ => false | .ty _ => false | .xcp _ _ _ => false
def plains : List D → Bool
  | [] => true
  | x :: xs => plain x && plains xs
end
def okD (d : D) : Bool := plain d && SeqAt.shaped (pd d)
def eqD (x y : D) : Bool := PyData.eqv (pd x) (pd y)
def flatD : D → Bool
  | .non => true | .bl _ => true | .int _ => true | .str _ => true | _ => false
section
variable {K : PySem.W.Frag} {A : Addr → Prop} {H : Hp}
mutual
theorem At.dp : ∀ {v : V} {d : D}, At K A H v d → plain d = true → Dp K H v (pd d)
  | _, _, .non, _ => by rw [pd]; exact .non
  | _, _, .bl b, _ => by rw [pd]; exact .bl b
  | _, _, .int i, _ => by rw [pd]; exact .int i
  | _, _, .str s, _ => by rw [pd]; exact .str s
  | _, _, .tup h t, p => by rw [pd]; rw [plain] at p; exact .tup h.sq (Ats.dp t p)
  | _, _, .lst _ h t, p => by rw [pd]; rw [plain] at p; exact .lst (.of h) (Ats.dp t p)
  | _, _, .dic _ _ _, p => by rw [plain] at p; cases p
  | _, _, .ins _ _ _, p => by rw [plain] at p; cases p
  | _, _, .exn _ _ _ _ _, p => by rw [plain] at p; cases p
  | _, _, .exn0 _ _, p => by rw [plain] at p; cases p
  | _, _, .ref _, p => by rw [plain] at p; cases p
  | _, _, .ty _, p => by rw [plain] at p; cases p
  | _, _, .xcp0 _, p => by rw [plain] at p; cases p
  | _, _, .xcp _ _ _, p => by rw [plain] at p; cases p
theorem Ats.dp : ∀ {vs : List V} {ds : List D}, Ats K A H vs ds → plains ds = true → DpAll K H vs (pds ds)
  | _, _, .nil, _ => by rw [pds]; exact .nil
  | _, _, .cons h t, p => by
    rw [plains, Bool.and_eq_true] at p
    rw [pds]
    exact .cons (At.dp h p.1) (Ats.dp t p.2)
end
theorem At.flat {v : V} {d : D} (h : At K A H v d) (f : flatD d = true) : flatV v = true := by
  cases h <;> first | rfl | cases f
theorem At.eqv {v w : V} {d e : D} (h : At K A H v d) (g : At K A H w e) (f : flatD d = true) (f' : flatD e = true) : eqV v w = eqD d e := by
  unfold eqD
  cases d <;> first
    | (cases f; done)
    | (cases h
       cases e <;> first
         | (cases f'; done)
         | (cases g; simp [pd, PyData.eqv, eqV]))
theorem Ats.flat : ∀ {vs : List V} {ds : List D}, Ats K A H vs ds → ds.all flatD = true → vs.all flatV = true
  | _, _, .nil, _ => rfl
  | _, _, .cons h t, f => by
    rw [List.all_cons, Bool.and_eq_true] at f ⊢
    exact ⟨h.flat f.1, Ats.flat t f.2⟩
theorem Ats.anyv {w : V} {e : D} (g : At K A H w e) (f' : flatD e = true) : ∀ {vs : List V} {ds : List D}, Ats K A H vs ds → ds.all flatD = true → inV w vs = ds.any fun z => eqD z e
  | _, _, .nil, _ => rfl
  | _, _, .cons h t, f => by
    rw [List.all_cons, Bool.and_eq_true] at f
    have ih := Ats.anyv g f' t f.2
    unfold inV at ih ⊢
    rw [List.any_cons, List.any_cons, ih, h.eqv g f.1 f']
theorem pds_any (e : D) : ∀ ds : List D, ((pds ds).any fun z => PyData.eqv z (pd e)) = ds.any fun z => eqD z e
  | [] => by rw [pds]; rfl
  | x :: xs => by rw [pds, List.any_cons, List.any_cons, pds_any e xs]; rfl
end
/-! ### comparisons -/
def CmpS (K : PySem.W.Frag) (r : R2) (f : D → D → (Bool → Prop) → Prop) : Prop := ∀ x y dx dy A H (Q : VK), At K A H x dx → At K A H y dy → f dx dy (fun b => Q (.bl b) H) → r x y H Q
def scalEq : D → D → Option Bool
  | .non, .non => some true | .int i, .int j => some (decide (i = j)) | .str i, .str j => some (decide (i = j)) | .bl i, .bl j => some (decide (i = j))
  | .non, .int _ => some false | .int _, .non => some false | .non, .str _ => some false | .str _, .non => some false | .non, .bl _ => some false | .bl _, .non => some false
  | .int _, .str _ => some false | .str _, .int _ => some false
  | _, _ => none
def cEq (x y : D) (Q : Bool → Prop) : Prop := match scalEq x y with
  | some b => Q b
  | none => okD x = true ∧ okD y = true ∧ Q (eqD x y)
def cNe (x y : D) (Q : Bool → Prop) : Prop := cEq x y fun b => Q (!b)
theorem cEq.mono : MonF cEq := fun x y Q Q' h q => by
  unfold cEq at q ⊢
  split
  · rename_i b e
    rw [e] at q
    exact h _ q
  · rename_i e
    rw [e] at q
    exact ⟨q.1, q.2.1, h _ q.2.2⟩
theorem cNe.mono : MonF cNe := fun x y Q Q' h q => cEq.mono x y _ _ (fun d z => h _ z) q
theorem scalEq_s {K : PySem.W.Frag} {A : Addr → Prop} {H : Hp} {x y : V} {dx dy : D} {b : Bool} (ax : At K A H x dx) (ay : At K A H y dy) (h : scalEq dx dy = some b) : scal x y = true ∧ decide (x = y) = b := by
  cases ax <;> cases ay <;> first
    | (cases h; exact ⟨rfl, by simp⟩)
    | (simp [scalEq] at h; done)
    | (cases h)
theorem eq_s {K : PySem.W.Frag} : CmpS K (fun x y H Q => rEq x y H Q ∨ rEqD K x y H Q) cEq := fun x y dx dy A H Q ax ay h => by
  unfold cEq at h
  split at h
  · rename_i b e
    obtain ⟨e1, e2⟩ := scalEq_s ax ay e
    exact .inl ⟨e1, by rw [e2]; exact h⟩
  · obtain ⟨h1, h2, h3⟩ := h
    unfold okD at h1 h2
    rw [Bool.and_eq_true] at h1 h2
    exact .inr ⟨_, _, ax.dp h1.1, ay.dp h2.1, h1.2, h2.2, h3⟩
theorem ne_s {K : PySem.W.Frag} : CmpS K (fun x y H Q => rNe x y H Q ∨ rNeD K x y H Q) cNe := fun x y dx dy A H Q ax ay h => by
  unfold cNe cEq at h
  split at h
  · rename_i b e
    obtain ⟨e1, e2⟩ := scalEq_s ax ay e
    exact .inl ⟨e1, by rw [e2]; exact h⟩
  · obtain ⟨h1, h2, h3⟩ := h
    unfold okD at h1 h2
    rw [Bool.and_eq_true] at h1 h2
    exact .inr ⟨_, _, ax.dp h1.1, ay.dp h2.1, h1.2, h2.2, h3⟩
/-- the order of ints and of texts -/
def cOrd (fi : Int → Int → Bool) (fs : List Nat → List Nat → Bool) (x y : D) (Q : Bool → Prop) : Prop := match x, y with
  | .int i, .int j => Q (fi i j)
  | .str a, .str b => Q (fs a.cps.toList b.cps.toList)
  | _, _ => False
theorem cOrd.mono {fi : Int → Int → Bool} {fs : List Nat → List Nat → Bool} : MonF (cOrd fi fs) := fun x y Q Q' h q => by
  unfold cOrd at q ⊢
  split at q <;> first | exact h _ q | exact q.elim
abbrev cLt := cOrd (fun i j => decide (i < j)) fun a b => decide (a < b)
abbrev cLe := cOrd (fun i j => decide (i ≤ j)) fun a b => !decide (b < a)
abbrev cGt := cOrd (fun i j => decide (j < i)) fun a b => decide (b < a)
abbrev cGe := cOrd (fun i j => decide (j ≤ i)) fun a b => !decide (a < b)
def rOrd (fi : Int → Int → Bool) (fs : List Nat → List Nat → Bool) : R2 := fun x y H Q => (∃ i j, x = .int i ∧ y = .int j ∧ Q (.bl (fi i j)) H) ∨ ∃ i j, x = .str i ∧ y = .str j ∧ Q (.bl (fs i.cps.toList j.cps.toList)) H
theorem ord_s {K : PySem.W.Frag} {fi : Int → Int → Bool} {fs : List Nat → List Nat → Bool} : CmpS K (rOrd fi fs) (cOrd fi fs) := fun x y dx dy A H Q ax ay h => by
  unfold cOrd at h
  split at h
  · cases ax; cases ay; exact .inl ⟨_, _, rfl, rfl, h⟩
  · cases ax; cases ay; exact .inr ⟨_, _, rfl, rfl, h⟩
  · exact h.elim
/-- in -/
def keyD : Key → D
  | .inl i => .int i
  | .inr x => .str x
def cIn (x y : D) (Q : Bool → Prop) : Prop := match y with
  | .dic kvs => ∃ k, x = keyD k ∧ Q (valD kvs k).isSome
  | .str z => ∃ c, x = .str ⟨#[c]⟩ ∧ Q (decide (c ∈ z.cps.toList))
  | .lst ys => ((flatD x = true ∧ ys.all flatD = true) ∨ (okD x = true ∧ okD (.lst ys) = true)) ∧ Q (ys.any fun z => eqD z x)
  | .tup ys => (flatD x = true ∧ ys.all flatD = true) ∧ Q (ys.any fun z => eqD z x)
  | _ => False
def cNotIn (x y : D) (Q : Bool → Prop) : Prop := cIn x y fun b => Q (!b)
theorem cIn.mono : MonF cIn := fun x y Q Q' h q => by
  unfold cIn at q ⊢
  split at q
  · obtain ⟨k, e, q⟩ := q
    exact ⟨k, e, h _ q⟩
  · obtain ⟨k, e, q⟩ := q
    exact ⟨k, e, h _ q⟩
  · exact ⟨q.1, h _ q.2⟩
  · exact ⟨q.1, h _ q.2⟩
  · exact q.elim
theorem cNotIn.mono : MonF cNotIn := fun x y Q Q' h q => cIn.mono x y _ _ (fun d z => h _ z) q
def rDIn (neg : Bool) : R2 := fun y x H Q => ∃ a o, x = .ref a ∧ DGet H a y o ∧ Q (.bl (if neg then !o.isSome else o.isSome)) H
def rSg (neg : Bool) : R2 := fun x y H Q => ∃ (c : Nat) (z : Str), x = .str ⟨#[c]⟩ ∧ y = .str z ∧ Q (.bl (if neg then !decide (c ∈ z.cps.toList) else decide (c ∈ z.cps.toList))) H
def rInN (K : PySem.W.Frag) (neg : Bool) : R2 := fun x y H Q => ∃ d ds, Dp K H x d ∧ Dp K H y (.list ds) ∧ SeqAt.shaped d = true ∧ SeqAt.shaped (.list ds) = true ∧ Q (.bl (if neg then !(ds.any fun z => PyData.eqv z d) else ds.any fun z => PyData.eqv z d)) H
def rIn4 (K : PySem.W.Frag) (neg : Bool) : R2 := fun x y H Q => rDIn neg x y H Q ∨ rSg neg x y H Q ∨ rIn K neg x y H Q ∨ rInN K neg x y H Q
theorem op_in4 {X : Cx} (hu : X.A.units + 65 < cLine) : OpR X (compareOp .In) (rIn4 X.K false) := fun pins s σ H x y v u Q I rx ry h => by
  rcases h with h | h | h | h
  · obtain ⟨a, o, e, g, q⟩ := h
    subst e
    obtain rfl : u = Value.ref a := ry
    exact d_in (by omega) I g rx fun s3 I3 => ⟨.bl o.isSome, H, I3, rfl, q⟩
  · exact op_in_sign pins s σ H x y v u Q I rx ry h
  · exact op_in_seq pins s σ H x y v u Q I rx ry h
  · exact op_inD hu pins s σ H x y v u Q I rx ry h
theorem op_notIn4 {X : Cx} (hu : X.A.units + 65 < cLine) : OpR X (compareOp .NotIn) (rIn4 X.K true) := fun pins s σ H x y v u Q I rx ry h => by
  rcases h with h | h | h | h
  · obtain ⟨a, o, e, g, q⟩ := h
    subst e
    obtain rfl : u = Value.ref a := ry
    exact d_notIn (by omega) I g rx fun s3 I3 => ⟨.bl (!o.isSome), H, I3, rfl, q⟩
  · exact op_notIn_sign pins s σ H x y v u Q I rx ry h
  · exact op_notIn_seq pins s σ H x y v u Q I rx ry h
  · exact op_notInD hu pins s σ H x y v u Q I rx ry h
theorem key_at {K : PySem.W.Frag} {A : Addr → Prop} {H : Hp} {x : V} {k : Key} (h : At K A H x (keyD k)) : x = kV k := by
  cases k with
  | inl i => cases h; rfl
  | inr z => cases h; rfl
theorem in_s {K : PySem.W.Frag} (neg : Bool) : CmpS K (rIn4 K neg) (fun x y Q => cIn x y fun b => Q (if neg then !b else b)) := fun x y dx dy A H Q ax ay h => by
  have h : cIn dx dy fun b => Q (.bl (if neg then !b else b)) H := h
  unfold cIn at h
  split at h
  · obtain ⟨k, e, q⟩ := h
    subst e
    cases ay with
    | @dic a vs _ h1 h2 h3 =>
    refine .inl ⟨a, valV vs k, rfl, .inl ⟨vs, k, h2, key_at ax, rfl⟩, ?_⟩
    rename_i kvs0
    have e : (valV vs k).isSome = (valD kvs0 k).isSome := by
      rcases h3.val k with ⟨e1, e2⟩ | ⟨v, d, e1, e2, _⟩ <;> rw [e1, e2] <;> rfl
    rw [e]
    exact q
  · obtain ⟨c, e, q⟩ := h
    subst e
    cases ax
    cases ay
    exact .inr (.inl ⟨c, _, rfl, rfl, by cases neg <;> exact q⟩)
  · obtain ⟨h0, q⟩ := h
    cases ay with
    | @lst a vs ds h1 h2 h3 =>
    rcases h0 with ⟨f1, f2⟩ | ⟨o1, o2⟩
    · refine .inr (.inr (.inl ⟨a, vs, rfl, .inl (.of h2), ax.flat f1, h3.flat f2, ?_⟩))
      rw [h3.anyv ax f1 f2]
      exact q
    · unfold okD at o1 o2
      rw [Bool.and_eq_true] at o1 o2
      have e := (At.lst h1 h2 h3).dp o2.1
      rw [pd] at e
      refine .inr (.inr (.inr ⟨_, _, ax.dp o1.1, e, o1.2, by have := o2.2; rw [pd] at this; exact this, ?_⟩))
      rw [pds_any]
      exact q
  · obtain ⟨⟨f1, f2⟩, q⟩ := h
    cases ay with
    | @tup a vs ds h1 h3 =>
    refine .inr (.inr (.inl ⟨a, vs, rfl, .inr h1.sq, ax.flat f1, h3.flat f2, ?_⟩))
    rw [h3.anyv ax f1 f2]
    exact q
  · exact h.elim
theorem inT_s {K : PySem.W.Frag} : CmpS K (rIn4 K false) cIn := fun x y dx dy A H Q ax ay h => in_s false x y dx dy A H Q ax ay h
theorem inF_s {K : PySem.W.Frag} : CmpS K (rIn4 K true) cNotIn := fun x y dx dy A H Q ax ay h => in_s true x y dx dy A H Q ax ay h
/-- is None -/
def isNonD : D → Bool
  | .non => true
  | _ => false
def cIsN (x y : D) (Q : Bool → Prop) : Prop := y = .non ∧ Q (isNonD x)
def cNotN (x y : D) (Q : Bool → Prop) : Prop := y = .non ∧ Q (!isNonD x)
theorem cIsN.mono : MonF cIsN := fun x y Q Q' h q => ⟨q.1, h _ q.2⟩
theorem cNotN.mono : MonF cNotN := fun x y Q Q' h q => ⟨q.1, h _ q.2⟩
theorem non_at {K : PySem.W.Frag} {A : Addr → Prop} {H : Hp} {x : V} {d : D} (h : At K A H x d) : decide (x = .non) = isNonD d := by
  cases h <;> first | rfl | simp [isNonD]
theorem isN_s {K : PySem.W.Frag} : CmpS K (fun x y H Q => y = .non ∧ Q (.bl (decide (x = .non))) H) cIsN := fun x y dx dy A H Q ax ay h => by
  obtain ⟨e, q⟩ := h
  subst e
  cases ay
  exact ⟨rfl, by rw [non_at ax]; exact q⟩
theorem notN_s {K : PySem.W.Frag} : CmpS K (fun x y H Q => y = .non ∧ Q (.bl (!decide (x = .non))) H) cNotN := fun x y dx dy A H Q ax ay h => by
  obtain ⟨e, q⟩ := h
  subst e
  cases ay
  exact ⟨rfl, by rw [non_at ax]; exact q⟩

/-! ### operands that are looked at alone -/
def slotD (ρ : Env) (i : Nat) : Option D := match ρ[i]? with
  | some .un => none
  | some s => some s.data
  | none => none
def relP (K : PySem.W.Frag) : Rel V D := fun _ _ A H v d => ∃ A', (∀ a, A a → A' a) ∧ At K A' H v d
structure JP (X : Cx) (B : Bs ST) (e : Expr) (n : Nat) (p : Px ST D) : Prop where
  mono : Mono p
  run : PE X e (lift B (relP B.K) n p)
def pPeek (i : Nat) : Px ST D := fun ρ st Q _ => ∃ d, slotD ρ i = some d ∧ Q d ρ st
theorem pPeek.mono {i : Nat} : Mono (pPeek (ST := ST) i) := fun ρ st Q Q' R R' h1 h2 ⟨d, e, h⟩ => ⟨d, e, h1 _ _ _ h⟩
section
variable {B : Bs ST} {A : Addr → Prop} {σ : L2.St} {H : Hp} {ρ : Env}
theorem Sta.peek (S : Sta B A σ H ρ) {i : Nat} {d : D} (e : slotD ρ i = some d) : ∃ v A', sat σ i = some v ∧ (∀ a, A a → A' a) ∧ At B.K A' H v d := by
  unfold slotD at e
  cases q : ρ[i]? with
  | none => rw [q] at e; cases e
  | some s =>
    rw [q] at e
    have own : s.own = true → s.data = d → ∃ v A', sat σ i = some v ∧ (∀ a, A a → A' a) ∧ At B.K A' H v d := fun o ed => by
      obtain ⟨a, x1, _, _, at_⟩ := S.freeze q o
      rw [ed] at at_
      exact ⟨_, _, x1, fun _ h => .inl h, at_⟩
    cases s with
    | un => cases e
    | dat d' =>
      cases e
      obtain ⟨v, x, at_⟩ := S.slot i _ q
      exact ⟨v, A, x, fun _ h => h, at_⟩
    | ownL ds => exact own rfl (Option.some.inj e)
    | ownD ds => exact own rfl (Option.some.inj e)
    | ownI C ds => exact own rfl (Option.some.inj e)
end
theorem At.wide {K : PySem.W.Frag} {A A' : Addr → Prop} {H : Hp} {v : V} {d : D} (h : At K A H v d) (k : ∀ a, A a → A' a) : At K A' H v d := h.ge fun a ha => ⟨k a ha, Keep.refl⟩
section
variable {X : Cx} {B : Bs ST} {e a b : Expr} {n na nb : Nat} {p pa pb : Px ST D} {pos : Pos}
theorem JE.jp (h : JE X B e n p) : JP X B e n p := ⟨h.mono, pe_weak h.run fun σ H Q ⟨ρ, A, m, st, S, w, l, z⟩ => ⟨ρ, A, m, st, S, w, l, h.mono _ _ _ _ _ _ (fun d ρ' st' y v H' A' S' w' g r => y v H' A' S' w' g ⟨A', fun _ h => h, r⟩) (fun _ _ _ y => y) z⟩⟩
theorem jp_var (i : Nat) {x : Str} (hN : X.N[i]? = some x := by rfl) (hv : Vis X.env.scope x := by first | exact Or.inl rfl | exact Or.inr (Or.inl rfl) | exact Or.inr (Or.inr rfl)) (hd : (x == ("__debug__" : Str)) = false := by decide)
    (hcd : (x == ("__classdict__" : Str)) = false := by decide) : JP X B (.Name x pos) 0 (pPeek i) := ⟨pPeek.mono, pe_weak (pe_var hN hv hd hcd) fun σ H Q ⟨ρ, A, m, st, S, w, l, d, e, h⟩ => by
      obtain ⟨v, A', x, k, at_⟩ := S.peek e
      exact ⟨v, sat_of x, post.here h S w ⟨A', k, at_⟩⟩⟩
/-- a bool as a value -/
def pB (p : Px ST Bool) : Px ST D := bindP p fun b => pC (.bl b)
theorem pB.mono {p : Px ST Bool} (h : Mono p) : Mono (pB p) := bindP.mono h fun _ => pC.mono
theorem cmp_run {r : R2} {f : D → D → (Bool → Prop) → Prop} {σ : L2.St} {H : Hp} {Q : VK} (hs : CmpS B.K r f) (hf : MonF f) (ha : Mono pa) (hb : Mono pb) (h : lift B relT (na + nb) (pBin f pa pb) σ H (fun b H' => Q (.bl b) H')) :
    tOp r (liftE B na pa) (lift B (relP B.K) nb pb) σ H Q := by
  obtain ⟨ρ, A, m, st, S, w, l, h⟩ := h
  refine run_bind (rel' := relT) ha (fun x => bindP.mono hb fun y => retP.mono (hf x y)) S w l h fun v1 H1 d1 ρ1 A1 m1 st1 a1 S1 w1 l1 g1 h1 => ?_
  refine run_bind (rel' := relT) (n2 := 0) hb (fun y => retP.mono (hf d1 y)) S1 w1 l1 h1 fun v2 H2 d2 ρ2 A2 m2 st2 a2 S2 w2 l2 g2 h2 => ?_
  obtain ⟨A', k, a2⟩ := a2
  exact hs v1 v2 d1 d2 A' H2 Q ((At.ge g2 a1).wide k) a2 (hf d1 d2 _ _ (fun b z => post.here (rel := relT) z S2 w2 rfl) h2)
theorem pB_lift {p : Px ST Bool} {σ : L2.St} {H : Hp} {Q : VK} (hp : Mono p) (h : liftE B n (pB p) σ H Q) : lift B relT n p σ H (fun b H' => Q (.bl b) H') := by
  obtain ⟨ρ, A, m, st, S, w, l, h⟩ := h
  refine ⟨ρ, A, m, st, S, w, l, hp _ _ _ _ _ _ (fun d ρ' st' z v H' A' S' w' g r => ?_) (fun _ _ _ z => z) h⟩
  have r' : v = d := r
  subst r'
  exact z _ H' A' S' w' g (.bl _)
theorem je_cmp {op : CmpOp} {r : R2} {f : D → D → (Bool → Prop) → Prop} (ho : OpR X (compareOp op) r) (hs : CmpS B.K r f) (hf : MonF f) (ha : JE X B a na pa) (hb : JP X B b nb pb) (hm : behindInMarks op b = false) :
    JE X B (.Compare a [op] [b] pos) (na + nb) (pB (pBin f pa pb)) :=
  ⟨pB.mono (pBin.mono hf ha.mono hb.mono), pe_weak (pe_cmpR ho ha.run hb.run hm) fun σ H Q h => cmp_run hs hf ha.mono hb.mono (pB_lift (pBin.mono hf ha.mono hb.mono) h)⟩
theorem jt_cmp {op : CmpOp} {r : R2} {f : D → D → (Bool → Prop) → Prop} (ho : OpR X (compareOp op) r) (hs : CmpS B.K r f) (hf : MonF f) (ha : JE X B a na pa) (hb : JP X B b nb pb) (hm : behindInMarks op b = false) :
    JT X B (.Compare a [op] [b] pos) (na + nb) (pBin f pa pb) :=
  ⟨pBin.mono hf ha.mono hb.mono, pt_weak (pt_cmpR ho ha.run hb.run hm) fun σ H Q h => cmp_run (Q := fun x H' => ∃ k, x = .bl k ∧ Q k H') hs hf ha.mono hb.mono (lift_imp (pBin.mono hf ha.mono hb.mono) (fun v H z => ⟨v, rfl, z⟩) h)⟩
/-- the left operand a name that is looked at -/
def pBinV (f : D → D → (Bool → Prop) → Prop) (i : Nat) (pb : Px ST D) : Px ST Bool := fun ρ st Q R => (slotD ρ i).isSome = true ∧ pb ρ st (fun y ρ2 st2 => ∃ d, slotD ρ2 i = some d ∧ f d y fun b => Q b ρ2 st2) R
theorem pBinV.mono {f : D → D → (Bool → Prop) → Prop} {i : Nat} {pb : Px ST D} (hf : MonF f) (hb : Mono pb) : Mono (pBinV f i pb) := fun ρ st Q Q' R R' h1 h2 ⟨e, h⟩ =>
  ⟨e, hb _ _ _ _ _ _ (fun d ρ' st' ⟨d2, e2, z⟩ => ⟨d2, e2, hf _ _ _ _ (fun b y => h1 _ _ _ y) z⟩) h2 h⟩
theorem cmpV_run {r : R2} {f : D → D → (Bool → Prop) → Prop} {σ : L2.St} {H : Hp} {Q : VK} {i : Nat} (hs : CmpS B.K r f) (hf : MonF f) (hb : Mono pb) (h : lift B relT nb (pBinV f i pb) σ H (fun b H' => Q (.bl b) H')) :
    tOp r (tVar i) (lift B (relP B.K) nb pb) σ H Q := by
  obtain ⟨ρ, A, m, st, S, w, l, e, h⟩ := h
  obtain ⟨d0, e0⟩ := Option.isSome_iff_exists.mp e
  obtain ⟨v, _, x, _, _⟩ := S.peek e0
  refine ⟨v, sat_of x, ρ, A, m, st, S, w, l, hb _ _ _ _ _ _ (fun d ρ' st' ⟨d2, e2, z⟩ v2 H2 A2 S2 w2 g2 r2 => ?_) (fun _ _ _ z => z) h⟩
  obtain ⟨v', A3, x', k, at_⟩ := S2.peek e2
  rw [x] at x'
  cases x'
  obtain ⟨A4, k4, at4⟩ := r2
  exact hs v v2 d2 d (fun a => A3 a ∨ A4 a) H2 Q (at_.wide fun _ h => .inl h) (at4.wide fun _ h => .inr h) (hf _ _ _ _ (fun b y => y b H2 A2 S2 w2 g2 rfl) z)
theorem je_cmpV {op : CmpOp} {r : R2} {f : D → D → (Bool → Prop) → Prop} (i : Nat) {x : Str} (ho : OpR X (compareOp op) r) (hs : CmpS B.K r f) (hf : MonF f) (hb : JP X B b nb pb) (hm : behindInMarks op b = false)
    (hN : X.N[i]? = some x := by rfl) (hv : Vis X.env.scope x := by first | exact Or.inl rfl | exact Or.inr (Or.inl rfl) | exact Or.inr (Or.inr rfl)) (hd : (x == ("__debug__" : Str)) = false := by decide) (hcd : (x == ("__classdict__" : Str)) = false := by decide) {p1 : Pos} :
    JE X B (.Compare (.Name x p1) [op] [b] pos) nb (pB (pBinV f i pb)) :=
  ⟨pB.mono (pBinV.mono hf hb.mono), pe_weak (pe_cmpR ho (pe_var hN hv hd hcd) hb.run hm) fun σ H Q h => cmpV_run hs hf hb.mono (pB_lift (pBinV.mono hf hb.mono) h)⟩
theorem jt_cmpV {op : CmpOp} {r : R2} {f : D → D → (Bool → Prop) → Prop} (i : Nat) {x : Str} (ho : OpR X (compareOp op) r) (hs : CmpS B.K r f) (hf : MonF f) (hb : JP X B b nb pb) (hm : behindInMarks op b = false)
    (hN : X.N[i]? = some x := by rfl) (hv : Vis X.env.scope x := by first | exact Or.inl rfl | exact Or.inr (Or.inl rfl) | exact Or.inr (Or.inr rfl)) (hd : (x == ("__debug__" : Str)) = false := by decide) (hcd : (x == ("__classdict__" : Str)) = false := by decide) {p1 : Pos} :
    JT X B (.Compare (.Name x p1) [op] [b] pos) nb (pBinV f i pb) :=
  ⟨pBinV.mono hf hb.mono, pt_weak (pt_cmpR ho (pe_var hN hv hd hcd) hb.run hm) fun σ H Q h => cmpV_run (Q := fun x H' => ∃ k, x = .bl k ∧ Q k H') hs hf hb.mono (lift_imp (pBinV.mono hf hb.mono) (fun v H z => ⟨v, rfl, z⟩) h)⟩
end
end PP

set_option Elab.async false
set_option linter.all false
set_option maxRecDepth 100000
set_option maxHeartbeats 1000000
namespace PP
open PySem PySem.Spec PyProof.Rows L2
variable {ST : Type}

/-! ### tests -/
def blD (d : D) (Q : Bool → Prop) : Prop := match d with
  | .bl b => Q b
  | _ => False
theorem blD.mono (d : D) (Q Q' : Bool → Prop) (h : ∀ b, Q b → Q' b) (q : blD d Q) : blD d Q' := by
  unfold blD at q ⊢
  cases d <;> first | exact h _ q | exact q
def pTest (p : Px ST D) : Px ST Bool := bindP p fun d => retP (blD d)
/-- truth of any value -/
def truD (d : D) (Q : Bool → Prop) : Prop := match d with
  | .bl b => Q b
  | .non => Q false
  | .int i => Q (i != 0)
  | .str s => s.length ≤ sizeLine ∧ Q ((s.length : Int) != 0)
  | .lst xs => Q (!xs.isEmpty)
  | .tup xs => Q (!xs.isEmpty)
  | _ => False
def pTru (p : Px ST D) : Px ST Bool := bindP p fun d => retP (truD d)
def pNot (p : Px ST Bool) : Px ST Bool := bindP p fun b => retP fun Q => Q (!b)
def pAnd (p q : Px ST Bool) : Px ST Bool := bindP p fun b => if b = true then q else retP fun Q => Q false
def pOr (p q : Px ST Bool) : Px ST Bool := bindP p fun b => if b = true then retP fun Q => Q true else q
def pIf (c : Px ST Bool) (p q : Px ST D) : Px ST D := bindP c fun b => if b = true then p else q
/-- and, or as values: of bools -/
def pAndV (p q : Px ST D) : Px ST D := bindP p fun d => match d with
  | .bl true => q
  | .bl false => pC (.bl false)
  | _ => fun _ _ _ _ => False
def pOrV (p q : Px ST D) : Px ST D := bindP p fun d => match d with
  | .bl true => pC (.bl true)
  | .bl false => q
  | _ => fun _ _ _ _ => False
theorem mono_ite {δ : Type} {b : Bool} {p q : Px ST δ} (hp : Mono p) (hq : Mono q) : Mono (if b = true then p else q) := by
  cases b
  · exact hq
  · exact hp
theorem mono_ret {δ : Type} {d : δ} : Mono (retP (ST := ST) fun Q => Q d) := retP.mono fun Q Q' h q => h _ q
theorem pTest.mono {p : Px ST D} (h : Mono p) : Mono (pTest p) := bindP.mono h fun d => retP.mono (blD.mono d)
theorem truD.mono (d : D) (Q Q' : Bool → Prop) (h : ∀ b, Q b → Q' b) (q : truD d Q) : truD d Q' := by
  unfold truD at q ⊢
  cases d <;> first | exact h _ q | exact ⟨q.1, h _ q.2⟩ | exact q
theorem pTru.mono {p : Px ST D} (h : Mono p) : Mono (pTru p) := bindP.mono h fun d => retP.mono (truD.mono d)
theorem pNot.mono {p : Px ST Bool} (h : Mono p) : Mono (pNot p) := bindP.mono h fun d => mono_ret
theorem pAnd.mono {p q : Px ST Bool} (h : Mono p) (k : Mono q) : Mono (pAnd p q) := bindP.mono h fun d => mono_ite k mono_ret
theorem pOr.mono {p q : Px ST Bool} (h : Mono p) (k : Mono q) : Mono (pOr p q) := bindP.mono h fun d => mono_ite mono_ret k
theorem pIf.mono {c : Px ST Bool} {p q : Px ST D} (h : Mono c) (k : Mono p) (l : Mono q) : Mono (pIf c p q) := bindP.mono h fun d => mono_ite k l
theorem pAndV.mono {p q : Px ST D} (h : Mono p) (k : Mono q) : Mono (pAndV p q) := bindP.mono h fun d => by
  cases d with
  | bl b => cases b; exact pC.mono; exact k
  | _ => exact fun _ _ _ _ _ _ _ _ z => z
theorem pOrV.mono {p q : Px ST D} (h : Mono p) (k : Mono q) : Mono (pOrV p q) := bindP.mono h fun d => by
  cases d with
  | bl b => cases b; exact k; exact pC.mono
  | _ => exact fun _ _ _ _ _ _ _ _ z => z
structure JW (X : Cx) (B : Bs ST) (e : Expr) (n : Nat) (p : Px ST Bool) : Prop where
  mono : Mono p
  run : PW X e (liftT B n p)
section
variable {X : Cx} {B : Bs ST} {e a b c : Expr} {n na nb nc : Nat} {p q pa pb : Px ST D} {u v : Px ST Bool} {pos : Pos} {rest : List Expr}
theorem JE.le (h : JE X B e n p) {n' : Nat} (l : n ≤ n') : JE X B e n' p := ⟨h.mono, pe_weak h.run fun σ H Q ⟨ρ, A, m, st, S, w, k, z⟩ => ⟨ρ, A, m, st, S, w, by omega, h.mono _ _ _ _ _ _ (fun d ρ' st' y => post.le y l) (fun _ _ _ y => postX.le y l) z⟩⟩
theorem jt_test (h : JP X B e n p) (he : ∀ whole, isTrue e X.env whole = (do let v ← whole; standAt e.pos; holding [v] (truthy v)) := by intro _; rfl) : JT X B e n (pTest p) :=
  ⟨pTest.mono h.mono, pt_weak (pt_val h.run he) fun σ H Q ⟨ρ, A, m, st, S, w, l, z⟩ => run_bind (rel' := relT) (n2 := 0) h.mono (fun d => retP.mono (blD.mono d)) S w l z
    fun v1 H1 d1 ρ1 A1 m1 st1 a1 S1 w1 l1 g1 h1 => by
      obtain ⟨A', k, a1⟩ := a1
      have h2 : blD d1 (fun b => post B relT 0 A1 m1 H1 σ Q b ρ1 st1) := h1
      cases a1 <;> first | exact ⟨_, rfl, post.here h2 S1 w1 rfl⟩ | exact h2.elim⟩
theorem jt_truth (hK : X.K = B.K) (h : JP X B e n p) (he : ∀ whole, isTrue e X.env whole = (do let v ← whole; standAt e.pos; holding [v] (truthy v)) := by intro _; rfl) : JT X B e n (pTru p) :=
  ⟨pTru.mono h.mono, pt_weak (pt_truth h.run he) fun σ H Q ⟨ρ, A, m, st, S, w, l, z⟩ => run_bind (rel' := relT) (n2 := 0) h.mono (fun d => retP.mono (truD.mono d)) S w l z
    fun v1 H1 d1 ρ1 A1 m1 st1 a1 S1 w1 l1 g1 h1 => by
      obtain ⟨A', k, a1⟩ := a1
      have h2 : truD d1 (fun b => post B relT 0 A1 m1 H1 σ Q b ρ1 st1) := h1
      have em : ∀ {vs : List V} {ds : List D}, Ats B.K A' H1 vs ds → (!vs.isEmpty) = !ds.isEmpty := fun t => by cases t <;> rfl
      cases a1 with
      | non => exact ⟨_, rfl, post.here h2 S1 w1 rfl⟩
      | bl b => exact ⟨_, rfl, post.here h2 S1 w1 rfl⟩
      | int i => exact ⟨_, rfl, post.here h2 S1 w1 rfl⟩
      | str s => exact ⟨_, ⟨h2.1, rfl⟩, post.here h2.2 S1 w1 rfl⟩
      | tup x t => exact ⟨_, .inr (.inl ⟨_, (by rw [hK]; exact x.sq), rfl⟩), by rw [em t]; exact post.here h2 S1 w1 rfl⟩
      | lst x y t => exact ⟨_, .inl ⟨_, .of y, rfl⟩, by rw [em t]; exact post.here h2 S1 w1 rfl⟩
      | _ => exact h2.elim⟩
theorem jt_not (h : JT X B a n u) : JT X B (.UnaryOp .Not a pos) n (pNot u) :=
  ⟨pNot.mono h.mono, pt_weak (pt_not h.run) fun σ H Q ⟨ρ, A, m, st, S, w, l, z⟩ => run_bind (rel' := relT) (n2 := 0) h.mono (fun _ => mono_ret) S w l z fun v1 H1 d1 ρ1 A1 m1 st1 a1 S1 w1 l1 g1 h1 => by
    have e : v1 = d1 := a1
    subst e
    exact post.here (rel := relT) h1 S1 w1 rfl⟩
theorem jw_and1 (h : JT X B a n u) : JW X B (.BoolOp .And [a] pos) n u := ⟨h.mono, pw_and1 h.run⟩
theorem jw_or1 (h : JT X B a n u) : JW X B (.BoolOp .Or [a] pos) n u := ⟨h.mono, pw_or1 h.run⟩
theorem pw_weak {X : Cx} {e : Expr} {t t' : TT} (h : PW X e t) (k : ∀ σ H Q, t' σ H Q → t σ H Q) : PW X e t' := ⟨fun wh pins s σ H Q I w => h.run wh pins s σ H Q I (k σ H Q w)⟩
theorem jw_and (h : JT X B a na u) (k : JW X B (.BoolOp .And (b :: rest) pos) nb v) : JW X B (.BoolOp .And (a :: b :: rest) pos) (na + nb) (pAnd u v) :=
  ⟨pAnd.mono h.mono k.mono, pw_weak (pw_and h.run k.run) fun σ H Q ⟨ρ, A, m, st, S, w, l, z⟩ => run_bind (rel' := relT) h.mono (fun _ => mono_ite k.mono mono_ret) S w l z fun v1 H1 d1 ρ1 A1 m1 st1 a1 S1 w1 l1 g1 h1 => by
    have e : v1 = d1 := a1
    subst e
    cases v1 with
    | true => exact ⟨ρ1, A1, m1, st1, S1, w1, l1, h1⟩
    | false => exact post.here (rel := relT) h1 S1 w1 rfl⟩
theorem jw_or (h : JT X B a na u) (k : JW X B (.BoolOp .Or (b :: rest) pos) nb v) : JW X B (.BoolOp .Or (a :: b :: rest) pos) (na + nb) (pOr u v) :=
  ⟨pOr.mono h.mono k.mono, pw_weak (pw_or h.run k.run) fun σ H Q ⟨ρ, A, m, st, S, w, l, z⟩ => run_bind (rel' := relT) h.mono (fun _ => mono_ite mono_ret k.mono) S w l z fun v1 H1 d1 ρ1 A1 m1 st1 a1 S1 w1 l1 g1 h1 => by
    have e : v1 = d1 := a1
    subst e
    cases v1 with
    | true => exact post.here (rel := relT) h1 S1 w1 rfl
    | false => exact ⟨ρ1, A1, m1, st1, S1, w1, l1, h1⟩⟩
theorem jt_w (h : JW X B e n u) : JT X B e n u := ⟨h.mono, h.run.pt⟩
theorem je_not (h : JE X B a n p) : JE X B (.UnaryOp .Not a pos) n (pB (pNot (pTest p))) :=
  ⟨pB.mono (pNot.mono (pTest.mono h.mono)), pe_weak (pe_not h.run) fun σ H Q ⟨ρ, A, m, st, S, w, l, z⟩ => run_bind (rel' := relE B.K) (n2 := 0) (q := fun d => bindP (retP (blD d)) fun b => pC (.bl (!b))) h.mono (fun d => bindP.mono (retP.mono (blD.mono d)) fun _ => pC.mono) S w l z
    fun v1 H1 d1 ρ1 A1 m1 st1 a1 S1 w1 l1 g1 h1 => by
      have h2 : blD d1 (fun b => post B (relE B.K) 0 A1 m1 H1 σ Q (.bl (!b)) ρ1 st1) := h1
      cases a1 <;> first | exact ⟨_, rfl, post.here h2 S1 w1 (.bl _)⟩ | exact h2.elim⟩
theorem je_and1 (h : JE X B a n p) : JE X B (.BoolOp .And [a] pos) n p := ⟨h.mono, pe_one h.run⟩
theorem je_or1 (h : JE X B a n p) : JE X B (.BoolOp .Or [a] pos) n p := ⟨h.mono, pe_one h.run⟩
theorem je_and (h : JE X B a na p) (k : JE X B (.BoolOp .And (b :: rest) pos) nb q) : JE X B (.BoolOp .And (a :: b :: rest) pos) (na + nb) (pAndV p q) :=
  ⟨pAndV.mono h.mono k.mono, pe_weak (pe_and h.run k.run) fun σ H Q ⟨ρ, A, m, st, S, w, l, z⟩ => run_bind (rel' := relE B.K) h.mono (fun d => by
      cases d with
      | bl b => cases b; exact pC.mono; exact k.mono
      | _ => exact fun _ _ _ _ _ _ _ _ z => z) S w l z fun v1 H1 d1 ρ1 A1 m1 st1 a1 S1 w1 l1 g1 h1 => by
    cases a1 with
    | bl b =>
      refine ⟨b, rfl, ?_⟩
      cases b with
      | true => exact ⟨ρ1, A1, m1, st1, S1, w1, l1, h1⟩
      | false => exact post.here (rel := relE B.K) h1 S1 w1 (.bl _)
    | _ => exact (show False from h1).elim⟩
theorem je_or (h : JE X B a na p) (k : JE X B (.BoolOp .Or (b :: rest) pos) nb q) : JE X B (.BoolOp .Or (a :: b :: rest) pos) (na + nb) (pOrV p q) :=
  ⟨pOrV.mono h.mono k.mono, pe_weak (pe_or h.run k.run) fun σ H Q ⟨ρ, A, m, st, S, w, l, z⟩ => run_bind (rel' := relE B.K) h.mono (fun d => by
      cases d with
      | bl b => cases b; exact k.mono; exact pC.mono
      | _ => exact fun _ _ _ _ _ _ _ _ z => z) S w l z fun v1 H1 d1 ρ1 A1 m1 st1 a1 S1 w1 l1 g1 h1 => by
    cases a1 with
    | bl b =>
      refine ⟨b, rfl, ?_⟩
      cases b with
      | true => exact post.here (rel := relE B.K) h1 S1 w1 (.bl _)
      | false => exact ⟨ρ1, A1, m1, st1, S1, w1, l1, h1⟩
    | _ => exact (show False from h1).elim⟩
theorem je_if (hc : JT X B c nc u) (ha : JE X B a na p) (hb : JE X B b nb q) : JE X B (.IfExp c a b pos) (nc + (na + nb)) (pIf u p q) :=
  ⟨pIf.mono hc.mono ha.mono hb.mono, pe_weak (pe_ifExp hc.run (ha.le (Nat.le_add_right na nb)).run (hb.le (Nat.le_add_left nb na)).run) fun σ H Q ⟨ρ, A, m, st, S, w, l, z⟩ =>
    run_bind (rel' := relE B.K) hc.mono (fun _ => mono_ite ha.mono hb.mono) S w l z fun v1 H1 d1 ρ1 A1 m1 st1 a1 S1 w1 l1 g1 h1 => by
      have e : v1 = d1 := a1
      subst e
      cases v1 with
      | true => exact ⟨ρ1, A1, m1, st1, S1, w1, l1, h1⟩
      | false => exact ⟨ρ1, A1, m1, st1, S1, w1, l1, h1⟩⟩
end
/-! ### a < b < c -/
def pChain (f g : D → D → (Bool → Prop) → Prop) (pa pb pc : Px ST D) : Px ST Bool := bindP pa fun x => bindP pb fun y => bindP (retP (f x y)) fun k => if k = true then bindP pc fun z => retP (g y z) else retP fun Q => Q false
section
variable {X : Cx} {B : Bs ST} {a b c : Expr} {na nb nc : Nat} {pa pb pc : Px ST D} {pos : Pos}
theorem pChain.mono {f g : D → D → (Bool → Prop) → Prop} (hf : MonF f) (hg : MonF g) (ha : Mono pa) (hb : Mono pb) (hc : Mono pc) : Mono (pChain f g pa pb pc) :=
  bindP.mono ha fun x => bindP.mono hb fun y => bindP.mono (retP.mono (hf x y)) fun k => mono_ite (bindP.mono hc fun z => retP.mono (hg y z)) mono_ret
theorem chain_run {r r' : R2} {f g : D → D → (Bool → Prop) → Prop} {σ : L2.St} {H : Hp} {Q : VK} (hs : CmpS B.K r f) (hs' : CmpS B.K r' g) (hf : MonF f) (hg : MonF g) (ha : Mono pa) (hb : Mono pb) (hc : Mono pc)
    (h : lift B relT (na + (nb + nc)) (pChain f g pa pb pc) σ H (fun b H' => Q (.bl b) H')) : tChain r r' (liftE B na pa) (liftE B nb pb) (liftE B nc pc) σ H Q := by
  obtain ⟨ρ, A, m, st, S, w, l, h⟩ := h
  refine run_bind (rel' := relT) ha (fun x => bindP.mono hb fun y => bindP.mono (retP.mono (hf x y)) fun k => mono_ite (bindP.mono hc fun z => retP.mono (hg y z)) mono_ret) S w l h fun v1 H1 d1 ρ1 A1 m1 st1 a1 S1 w1 l1 g1 h1 => ?_
  refine run_bind (rel' := relT) hb (fun y => bindP.mono (retP.mono (hf d1 y)) fun k => mono_ite (bindP.mono hc fun z => retP.mono (hg y z)) mono_ret) S1 w1 l1 h1 fun v2 H2 d2 ρ2 A2 m2 st2 a2 S2 w2 l2 g2 h2 => ?_
  refine hs v1 v2 d1 d2 A2 H2 _ (At.ge g2 a1) a2 (hf d1 d2 _ _ (fun k z => ⟨k, rfl, ?_⟩) h2)
  cases k with
  | false => exact post.here (rel := relT) (post.le z (Nat.zero_le _)) S2 w2 rfl
  | true =>
    refine run_bind (rel' := relT) (n2 := 0) hc (fun z => retP.mono (hg d2 z)) S2 w2 l2 z fun v3 H3 d3 ρ3 A3 m3 st3 a3 S3 w3 l3 g3 h3 => ?_
    exact hs' v2 v3 d2 d3 A3 H3 Q (At.ge g3 a2) a3 (hg d2 d3 _ _ (fun b z => post.here (rel := relT) z S3 w3 rfl) h3)
theorem jt_chain {op op' : CmpOp} {r r' : R2} {f g : D → D → (Bool → Prop) → Prop} (ho : OpR X (compareOp op) r) (ho' : OpR X (compareOp op') r') (hs : CmpS B.K r f) (hs' : CmpS B.K r' g) (hf : MonF f) (hg : MonF g) (ha : JE X B a na pa) (hb : JE X B b nb pb) (hc : JE X B c nc pc)
    (hm : lastMarks [op, op'] [b, c] = false := by with_unfolding_all rfl) : JT X B (.Compare a [op, op'] [b, c] pos) (na + (nb + nc)) (pChain f g pa pb pc) :=
  ⟨pChain.mono hf hg ha.mono hb.mono hc.mono, pt_weak (pt_chain ho ho' ha.run hb.run hc.run hm) fun σ H Q h => chain_run (Q := fun x H' => ∃ k, x = .bl k ∧ Q k H') hs hs' hf hg ha.mono hb.mono hc.mono (lift_imp (pChain.mono hf hg ha.mono hb.mono hc.mono) (fun v H z => ⟨v, rfl, z⟩) h)⟩
theorem je_chain {op op' : CmpOp} {r r' : R2} {f g : D → D → (Bool → Prop) → Prop} (ho : OpR X (compareOp op) r) (ho' : OpR X (compareOp op') r') (hs : CmpS B.K r f) (hs' : CmpS B.K r' g) (hf : MonF f) (hg : MonF g) (ha : JE X B a na pa) (hb : JE X B b nb pb) (hc : JE X B c nc pc)
    (hm : lastMarks [op, op'] [b, c] = false := by with_unfolding_all rfl) : JE X B (.Compare a [op, op'] [b, c] pos) (na + (nb + nc)) (pB (pChain f g pa pb pc)) :=
  ⟨pB.mono (pChain.mono hf hg ha.mono hb.mono hc.mono), pe_weak (pe_chain ho ho' ha.run hb.run hc.run hm) fun σ H Q h => chain_run hs hs' hf hg ha.mono hb.mono hc.mono (pB_lift (pChain.mono hf hg ha.mono hb.mono hc.mono) h)⟩
end

/-! ### argument lists, displays -/
def pNil : Px ST (List D) := retP fun Q => Q []
def pCons (p : Px ST D) (q : Px ST (List D)) : Px ST (List D) := bindP p fun x => bindP q fun xs => retP fun Q => Q (x :: xs)
theorem pCons.mono {p : Px ST D} {q : Px ST (List D)} (hp : Mono p) (hq : Mono q) : Mono (pCons p q) := bindP.mono hp fun _ => bindP.mono hq fun _ => mono_ret
section
variable {X : Cx} {B : Bs ST} {e : Expr} {es : List Expr} {n n' : Nat} {p : Px ST D} {q : Px ST (List D)} {pos : Pos}
theorem ja_nil : JA X B [] 0 pNil := ⟨mono_ret, pa_weak pa_nil fun σ H Q ⟨ρ, A, m, st, S, w, l, z⟩ => post.here (rel := relA B.K) z S w .nil⟩
theorem ja_cons (ha : JE X B e n p) (hr : JA X B es n' q) (hs : starEach (e :: es) X.env = (false, eval e X.env) :: starEach es X.env := by rfl) : JA X B (e :: es) (n + n') (pCons p q) :=
  ⟨pCons.mono ha.mono hr.mono, pa_weak (pa_cons ha.run hr.run hs) fun σ H Q ⟨ρ, A, m, st, S, w, l, z⟩ =>
    run_bind (rel' := relA B.K) ha.mono (fun _ => bindP.mono hr.mono fun _ => mono_ret) S w l z fun v1 H1 d1 ρ1 A1 m1 st1 a1 S1 w1 l1 g1 h1 =>
      run_bind (rel' := relA B.K) (n2 := 0) hr.mono (fun _ => mono_ret) S1 w1 l1 h1 fun v2 H2 d2 ρ2 A2 m2 st2 a2 S2 w2 l2 g2 h2 => post.here (rel := relA B.K) h2 S2 w2 (.cons (At.ge g2 a1) a2)⟩
def pTup (q : Px ST (List D)) : Px ST D := bindP q fun xs => retP fun Q => xs.length ≤ sizeLine ∧ Q (.tup xs)
def pLst (q : Px ST (List D)) : Px ST FV := bindP q fun xs => retP fun Q => xs.length ≤ sizeLine ∧ Q (.l xs)
theorem mono_and {δ : Type} {c : Prop} {d : δ} : Mono (retP (ST := ST) fun Q => c ∧ Q d) := retP.mono fun Q Q' h q => ⟨q.1, h _ q.2⟩
theorem je_tup {x1} (h : JA X B es n q) : JE X B (.Tuple es x1 pos) n (pTup q) :=
  ⟨bindP.mono h.mono fun _ => mono_and, pe_weak (pe_tup h.run) fun σ H Q ⟨ρ, A, m, st, S, w, l, z⟩ =>
    run_bind (rel' := relE B.K) (n2 := 0) h.mono (fun _ => mono_and) S w l z fun v1 H1 d1 ρ1 A1 m1 st1 a1 S1 w1 l1 g1 h1 =>
      ⟨by rw [Ats.len a1]; exact h1.1, fun p hp => post_new (rel := relE B.K) h1.2 S1 w1 hp (.tup (.inl ⟨.inr rfl, upd_same⟩) (Ats.ge (S1.ge_alloc hp) a1))⟩⟩
/-- a new list: what a rule gives that lays one -/
theorem post_newL {B : Bs ST} {n : Nat} {A : Addr → Prop} {m : Nat} {H : Hp} {σ : L2.St} {Q : VK} {ρ : Env} {st : ST} {p : Addr} {vs : List V} {xs : List D} (h : post B (relF B) n A m H σ Q (.l xs) ρ st) (S : Sta B A σ H ρ) (w : B.G.W m st H) (hp : H p = none)
    (r : Ats B.K A H vs xs) : Q (.ref p) (upd H p (.lst vs)) :=
  h _ _ _ (S.alloc0 hp) (B.G.le (Nat.le_add_right _ _) (W_alloc S hp w)) (S.ge_alloc0 hp) ⟨p, rfl, ⟨vs, upd_same, r.ge (S.ge_alloc0 hp)⟩, S.fresh_a hp, S.fresh_m hp, S.fresh_0 hp, S.fresh_o hp, S.fresh_l hp⟩
theorem post_newD {B : Bs ST} {n : Nat} {A : Addr → Prop} {m : Nat} {H : Hp} {σ : L2.St} {Q : VK} {ρ : Env} {st : ST} {p : Addr} {vs : List (Key × V)} {xs : List (Key × D)} (h : post B (relF B) n A m H σ Q (.d xs) ρ st) (S : Sta B A σ H ρ) (w : B.G.W m st H) (hp : H p = none)
    (r : Atk B.K A H Key vs xs) : Q (.ref p) (upd H p (.dK vs)) :=
  h _ _ _ (S.alloc0 hp) (B.G.le (Nat.le_add_right _ _) (W_alloc S hp w)) (S.ge_alloc0 hp) ⟨p, rfl, ⟨vs, upd_same, r.ge (S.ge_alloc0 hp)⟩, S.fresh_a hp, S.fresh_m hp, S.fresh_0 hp, S.fresh_o hp, S.fresh_l hp⟩
theorem jf_lst (h : JA X B es n q) : JF X B (.List es pos) n (pLst q) :=
  ⟨bindP.mono h.mono fun _ => mono_and, pe_weak (pe_lst h.run) fun σ H Q ⟨ρ, A, m, st, S, w, l, z⟩ =>
    run_bind (rel' := relF B) (n2 := 0) h.mono (fun _ => mono_and) S w l z fun v1 H1 d1 ρ1 A1 m1 st1 a1 S1 w1 l1 g1 h1 => ⟨by rw [Ats.len a1]; exact h1.1, fun p hp => post_newL h1.2 S1 w1 hp a1⟩⟩
theorem jf_dic0 : JF X B (.Dict [] [] pos) 0 (retP fun Q => Q (.d [])) :=
  ⟨mono_ret, pe_weak pe_dnewK fun σ H Q ⟨ρ, A, m, st, S, w, l, z⟩ => fun p hp => post_newD z S w hp .nil⟩
/-- a new thing as data -/
def pFV (p : Px ST FV) : Px ST D := bindP p fun f => pC f.dat
theorem je_f {p : Px ST FV} (h : JF X B e n p) : JE X B e n (pFV p) :=
  ⟨bindP.mono h.mono fun _ => pC.mono, pe_weak h.run fun σ H Q ⟨ρ, A, m, st, S, w, l, z⟩ => ⟨ρ, A, m, st, S, w, l, h.mono _ _ _ _ _ _ (fun f ρ' st' y v H' A' S' w' g r => by
      obtain ⟨a, e, fa, na, nm, n0, no, nl⟩ := r
      subst e
      have ta : H' a ≠ none := by
        cases f with
        | l xs => obtain ⟨vs, h1, _⟩ := fa; exact nn_of h1
        | d xs => obtain ⟨vs, h1, _⟩ := fa; exact nn_of h1
      have g2 : Ge A' H' (fun b => A' b ∨ b = a) H' := fun b hb => ⟨.inl hb, Keep.refl⟩
      have at_ : At B.K (fun b => A' b ∨ b = a) H' (.ref a) f.dat := by
        cases f with
        | l xs => obtain ⟨vs, h1, h2⟩ := fa; exact .lst (.inr rfl) h1 (h2.ge g2)
        | d xs => obtain ⟨vs, h1, h2⟩ := fa; exact .dic (.inr rfl) (.inl h1) (h2.ge g2)
      refine y _ H' _ ⟨S'.base, fun b u eb => ⟨(S'.lock b u eb).1, (S'.lock b u eb).2.1, (S'.lock b u eb).2.2.1, fun z y => (y.elim ((S'.lock b u eb).2.2.2 z) fun q => by rw [q, nl] at eb; cases eb)⟩, fun b hb => ?_, fun b hb => ?_, S'.mtrk, S'.len, fun i s es => (S'.slot i s es).keep g2 fun b o x => ⟨rfl, fun q => ?_⟩, S'.apart⟩ w' (g.trans g2) at_
      · rcases hb with hb | rfl
        · exact S'.new b hb
        · exact .inr n0
      · rcases hb with hb | rfl
        · exact S'.trk b hb
        · exact ⟨ta, nm⟩
      · rcases q with q | rfl
        · exact q
        · exact absurd x (no i s es o)) (fun _ _ _ y => y) z⟩⟩
end
end PP

set_option Elab.async false
set_option linter.all false
set_option maxRecDepth 100000
set_option maxHeartbeats 1000000
namespace PP
open PySem PySem.Spec PyProof.Rows L2
variable {ST : Type}

/-! ### built-in functions -/
abbrev Fn1 (δ : Type) := List D → (δ → Prop) → Prop
def Mon1 {δ : Type} (f : List D → (δ → Prop) → Prop) : Prop := ∀ ds (Q Q' : δ → Prop), (∀ d, Q d → Q' d) → f ds Q → f ds Q'
def CallS (B : Bs ST) (r : List V → Hp → VK → Prop) (f : List D → (D → Prop) → Prop) : Prop :=
  ∀ vs ds A H σ ρ m st Q, Ats B.K A H vs ds → Sta B A σ H ρ → B.G.W m st H → f ds (fun d => post B (relE B.K) 0 A m H σ Q d ρ st) → r vs H Q
def CallF (B : Bs ST) (r : List V → Hp → VK → Prop) (f : List D → (FV → Prop) → Prop) : Prop :=
  ∀ vs ds A H σ ρ m st Q, Ats B.K A H vs ds → Sta B A σ H ρ → B.G.W m st H → f ds (fun d => post B (relF B) 0 A m H σ Q d ρ st) → r vs H Q
def pCallB {δ : Type} (f : List D → (δ → Prop) → Prop) (pa : Px ST (List D)) : Px ST δ := bindP pa fun ds => retP (f ds)
theorem pCallB.mono {δ : Type} {f : List D → (δ → Prop) → Prop} {pa : Px ST (List D)} (hf : Mon1 f) (ha : Mono pa) : Mono (pCallB f pa) := bindP.mono ha fun ds => retP.mono (hf ds)
section
variable {X : Cx} {B : Bs ST} {e : Expr} {es : List Expr} {n : Nat} {pa : Px ST (List D)} {pos p : Pos} {x : Str} {r : List V → Hp → VK → Prop}
theorem callS_run {f : List D → (D → Prop) → Prop} {σ : L2.St} {H : Hp} {Q : VK} (hs : CallS B r f) (hf : Mon1 f) (ha : Mono pa) (h : liftE B n (pCallB f pa) σ H Q) : tCB r (liftA B n pa) σ H Q := by
  obtain ⟨ρ, A, m, st, S, w, l, z⟩ := h
  exact run_bind (rel' := relE B.K) (n2 := 0) ha (fun ds => retP.mono (hf ds)) S w l z fun v1 H1 d1 ρ1 A1 m1 st1 a1 S1 w1 l1 g1 h1 => hs v1 d1 A1 H1 σ ρ1 m1 st1 Q a1 S1 w1 h1
theorem callF_run {f : List D → (FV → Prop) → Prop} {σ : L2.St} {H : Hp} {Q : VK} (hs : CallF B r f) (hf : Mon1 f) (ha : Mono pa) (h : liftF B n (pCallB f pa) σ H Q) : tCB r (liftA B n pa) σ H Q := by
  obtain ⟨ρ, A, m, st, S, w, l, z⟩ := h
  exact run_bind (rel' := relF B) (n2 := 0) ha (fun ds => retP.mono (hf ds)) S w l z fun v1 H1 d1 ρ1 A1 m1 st1 a1 S1 w1 l1 g1 h1 => hs v1 d1 A1 H1 σ ρ1 m1 st1 Q a1 S1 w1 h1
theorem je_callB {id : String} {f : List D → (D → Prop) → Prop} (hc : CallR X (.builtin id) r) (hs : CallS B r f) (hf : Mon1 f) (hg : Gl X x) (hm : X.mg x = none) (hv : bootBuiltins x = some (.builtin id)) (ha : JA X B (e :: es) n pa)
    (hn : x ≠ "__name__" := by decide) (hdb : (x == ("__debug__" : Str)) = false := by decide) (he : starEach (e :: es) X.env = (false, eval e X.env) :: starEach es X.env := by rfl) (hpl : (backTo pos (starEach es X.env)).any (·.1) = false := by rfl) :
    JE X B (.Call (.Name x p) (e :: es) [] pos) n (pCallB f pa) := ⟨pCallB.mono hf ha.mono, pe_weak (pe_callB hc hg hm hv ha.run hn hdb he hpl) fun σ H Q h => callS_run hs hf ha.mono h⟩
theorem je_callTy {T : String} {f : List D → (D → Prop) → Prop} (hc : CallR X (.type T) r) (hs : CallS B r f) (hf : Mon1 f) (hg : Gl X x) (hm : X.mg x = none) (hv : bootBuiltins x = some (.type T)) (ha : JA X B (e :: es) n pa)
    (hn : x ≠ "__name__" := by decide) (hdb : (x == ("__debug__" : Str)) = false := by decide) (he : starEach (e :: es) X.env = (false, eval e X.env) :: starEach es X.env := by rfl) (hpl : (backTo pos (starEach es X.env)).any (·.1) = false := by rfl) :
    JE X B (.Call (.Name x p) (e :: es) [] pos) n (pCallB f pa) := ⟨pCallB.mono hf ha.mono, pe_weak (pe_callTy hc hg hm hv ha.run hn hdb he hpl) fun σ H Q h => callS_run hs hf ha.mono h⟩
theorem jf_callTy {T : String} {f : List D → (FV → Prop) → Prop} (hc : CallR X (.type T) r) (hs : CallF B r f) (hf : Mon1 f) (hg : Gl X x) (hm : X.mg x = none) (hv : bootBuiltins x = some (.type T)) (ha : JA X B (e :: es) n pa)
    (hn : x ≠ "__name__" := by decide) (hdb : (x == ("__debug__" : Str)) = false := by decide) (he : starEach (e :: es) X.env = (false, eval e X.env) :: starEach es X.env := by rfl) (hpl : (backTo pos (starEach es X.env)).any (·.1) = false := by rfl) :
    JF X B (.Call (.Name x p) (e :: es) [] pos) n (pCallB f pa) := ⟨pCallB.mono hf ha.mono, pe_weak (pe_callTy hc hg hm hv ha.run hn hdb he hpl) fun σ H Q h => callF_run hs hf ha.mono h⟩
theorem jf_callB {id : String} {f : List D → (FV → Prop) → Prop} (hc : CallR X (.builtin id) r) (hs : CallF B r f) (hf : Mon1 f) (hg : Gl X x) (hm : X.mg x = none) (hv : bootBuiltins x = some (.builtin id)) (ha : JA X B (e :: es) n pa)
    (hn : x ≠ "__name__" := by decide) (hdb : (x == ("__debug__" : Str)) = false := by decide) (he : starEach (e :: es) X.env = (false, eval e X.env) :: starEach es X.env := by rfl) (hpl : (backTo pos (starEach es X.env)).any (·.1) = false := by rfl) :
    JF X B (.Call (.Name x p) (e :: es) [] pos) n (pCallB f pa) := ⟨pCallB.mono hf ha.mono, pe_weak (pe_callB hc hg hm hv ha.run hn hdb he hpl) fun σ H Q h => callF_run hs hf ha.mono h⟩
/-- of one operand that is looked at alone -/
def Call1 (K : PySem.W.Frag) (r : List V → Hp → VK → Prop) (f : D → (D → Prop) → Prop) : Prop := ∀ v d A H (Q : VK), At K A H v d → f d (fun d' => ∀ v', (∀ A', At K A' H v' d') → Q v' H) → r [v] H Q
def pCall1 (f : D → (D → Prop) → Prop) (p : Px ST D) : Px ST D := bindP p fun d => retP (f d)
theorem je_callB1 {id : String} {f : D → (D → Prop) → Prop} {pe : Px ST D} (hc : CallR X (.builtin id) r) (hs : Call1 B.K r f) (hf : ∀ d (Q Q' : D → Prop), (∀ d, Q d → Q' d) → f d Q → f d Q') (hg : Gl X x) (hm : X.mg x = none) (hv : bootBuiltins x = some (.builtin id)) (ha : JP X B e n pe)
    (hn : x ≠ "__name__" := by decide) (hdb : (x == ("__debug__" : Str)) = false := by decide) (he : starEach [e] X.env = (false, eval e X.env) :: starEach [] X.env := by rfl) (hpl : (backTo pos (starEach [] X.env)).any (·.1) = false := by rfl) :
    JE X B (.Call (.Name x p) [e] [] pos) n (pCall1 f pe) := ⟨bindP.mono ha.mono fun d => retP.mono (hf d), pe_weak (pe_callB hc hg hm hv (pa_cons ha.run pa_nil he) hn hdb he hpl) fun σ H Q ⟨ρ, A, m, st, S, w, l, z⟩ =>
      run_bind (rel' := relE B.K) (n2 := 0) ha.mono (fun d => retP.mono (hf d)) S w l z fun v1 H1 d1 ρ1 A1 m1 st1 a1 S1 w1 l1 g1 h1 => by
        obtain ⟨A', k, a1⟩ := a1
        exact hs v1 d1 A' H1 Q a1 (hf _ _ _ (fun d' y v' hv' => post.here (rel := relE B.K) y S1 w1 (hv' _)) h1)⟩
theorem je_callTy1 {T : String} {f : D → (D → Prop) → Prop} {pe : Px ST D} (hc : CallR X (.type T) r) (hs : Call1 B.K r f) (hf : ∀ d (Q Q' : D → Prop), (∀ d, Q d → Q' d) → f d Q → f d Q') (hg : Gl X x) (hm : X.mg x = none) (hv : bootBuiltins x = some (.type T)) (ha : JP X B e n pe)
    (hn : x ≠ "__name__" := by decide) (hdb : (x == ("__debug__" : Str)) = false := by decide) (he : starEach [e] X.env = (false, eval e X.env) :: starEach [] X.env := by rfl) (hpl : (backTo pos (starEach [] X.env)).any (·.1) = false := by rfl) :
    JE X B (.Call (.Name x p) [e] [] pos) n (pCall1 f pe) := ⟨bindP.mono ha.mono fun d => retP.mono (hf d), pe_weak (pe_callTy hc hg hm hv (pa_cons ha.run pa_nil he) hn hdb he hpl) fun σ H Q ⟨ρ, A, m, st, S, w, l, z⟩ =>
      run_bind (rel' := relE B.K) (n2 := 0) ha.mono (fun d => retP.mono (hf d)) S w l z fun v1 H1 d1 ρ1 A1 m1 st1 a1 S1 w1 l1 g1 h1 => by
        obtain ⟨A', k, a1⟩ := a1
        exact hs v1 d1 A' H1 Q a1 (hf _ _ _ (fun d' y v' hv' => post.here (rel := relE B.K) y S1 w1 (hv' _)) h1)⟩
/-- len -/
def fLen (d : D) (Q : D → Prop) : Prop := match d with
  | .str s => s.length ≤ sizeLine ∧ Q (.int s.length)
  | .lst xs => Q (.int xs.length)
  | .tup xs => Q (.int xs.length)
  | .dic kvs => Q (.int kvs.length)
  | _ => False
theorem fLen.mono (d : D) (Q Q' : D → Prop) (h : ∀ d, Q d → Q' d) (q : fLen d Q) : fLen d Q' := by
  unfold fLen at q ⊢
  cases d <;> first | exact h _ q | exact ⟨q.1, h _ q.2⟩ | exact q
def rLen3 (K : PySem.W.Frag) : List V → Hp → VK → Prop := fun xs H Q => (∃ p ys, xs = [.ref p] ∧ (SqL K H p ys ∨ SqT K H p ys) ∧ Q (.int ys.length) H) ∨ (∃ z, xs = [.str z] ∧ z.length ≤ sizeLine ∧ Q (.int z.length) H) ∨ ∃ a kvs, xs = [V.ref a] ∧ Rd H a (.dK kvs) ∧ Q (.int kvs.length) H
theorem call_len3 : CallR X (.builtin "len") (rLen3 X.K) := fun pins s σ H xs us Q I r h => by
  rcases h with h | h | ⟨a, kvs, e, ha, q⟩
  · exact call_len_seq pins s σ H xs us Q I r h
  · exact call_len_str pins s σ H xs us Q I r h
  · subst e
    obtain ⟨u, rfl, ru⟩ := vals1 r
    cases ru
    exact d_len I ha fun t s' I' => ⟨.int kvs.length, H, I', ⟨t, rfl⟩, q⟩
theorem len_s {K : PySem.W.Frag} : Call1 K (rLen3 K) fLen := fun v d A H Q a h => by
  cases a with
  | str s => exact .inr (.inl ⟨s, rfl, h.1, h.2 _ fun _ => .int _⟩)
  | tup h1 h2 => exact .inl ⟨_, _, rfl, .inr h1.sq, by rw [h2.len]; exact h _ fun _ => .int _⟩
  | lst h1 h2 h3 => exact .inl ⟨_, _, rfl, .inl (.of h2), by rw [h3.len]; exact h _ fun _ => .int _⟩
  | dic h1 h2 h3 => exact .inr (.inr ⟨_, _, rfl, h2, by rw [h3.len]; exact h _ fun _ => .int _⟩)
  | _ => exact (show False from h).elim
theorem je_len {pe : Px ST D} (hK : X.K = B.K) (ha : JP X B e n pe) (hg : Gl X "len") (hm : X.mg "len" = none) (he : starEach [e] X.env = (false, eval e X.env) :: starEach [] X.env := by rfl) (hpl : (backTo pos (starEach [] X.env)).any (·.1) = false := by rfl) :
    JE X B (.Call (.Name "len" p) [e] [] pos) n (pCall1 fLen pe) := je_callB1 (r := rLen3 X.K) call_len3 (by rw [hK]; exact len_s) fLen.mono hg hm PySem.boot_len ha (by decide) (by decide) he hpl
/-- all, any of bools -/
def blsD : List D → Option (List Bool)
  | [] => some []
  | .bl b :: xs => (blsD xs).map (b :: ·)
  | _ :: _ => none
def fAll (d : D) (Q : D → Prop) : Prop := ∃ (xs : List D) (bs : List Bool), d = .lst xs ∧ xs = bs.map D.bl ∧ Q (.bl (bs.all id))
def fAny (d : D) (Q : D → Prop) : Prop := ∃ (xs : List D) (bs : List Bool), d = .lst xs ∧ xs = bs.map D.bl ∧ Q (.bl (bs.any id))
theorem ats_bls {K : PySem.W.Frag} {A : Addr → Prop} {H : Hp} : ∀ {bs : List Bool} {vs : List V}, Ats K A H vs (bs.map D.bl) → vs = bs.map V.bl
  | [], _, h => by cases h; rfl
  | b :: bs, _, h => by
    cases h with
    | cons h1 h2 =>
      cases h1
      rw [ats_bls h2]
      rfl
theorem all_s {K : PySem.W.Frag} : Call1 K (rAll K) fAll := fun v d A H Q a h => by
  obtain ⟨xs, bs, rfl, rfl, q⟩ := h
  cases a with
  | lst h1 h2 h3 =>
    rw [ats_bls h3] at h2
    exact ⟨_, bs, rfl, .of h2, q _ fun _ => .bl _⟩
theorem any_s {K : PySem.W.Frag} : Call1 K (rAny K) fAny := fun v d A H Q a h => by
  obtain ⟨xs, bs, rfl, rfl, q⟩ := h
  cases a with
  | lst h1 h2 h3 =>
    rw [ats_bls h3] at h2
    exact ⟨_, bs, rfl, .of h2, q _ fun _ => .bl _⟩
theorem je_all {pe : Px ST D} (hK : X.K = B.K) (hcm : X.calm = true) (ha : JP X B e n pe) (hg : Gl X "all") (hm : X.mg "all" = none) (hv : bootBuiltins "all" = some (.builtin "all") := by decide +kernel) (he : starEach [e] X.env = (false, eval e X.env) :: starEach [] X.env := by rfl) (hpl : (backTo pos (starEach [] X.env)).any (·.1) = false := by rfl) :
    JE X B (.Call (.Name "all" p) [e] [] pos) n (pCall1 fAll pe) := je_callB1 (r := rAll X.K) (cr_all hcm) (by rw [hK]; exact all_s) (fun d Q Q' h ⟨xs, bs, e1, e2, q⟩ => ⟨xs, bs, e1, e2, h _ q⟩) hg hm hv ha (by decide) (by decide) he hpl
theorem je_any {pe : Px ST D} (hK : X.K = B.K) (hcm : X.calm = true) (ha : JP X B e n pe) (hg : Gl X "any") (hm : X.mg "any" = none) (hv : bootBuiltins "any" = some (.builtin "any") := by decide +kernel) (he : starEach [e] X.env = (false, eval e X.env) :: starEach [] X.env := by rfl) (hpl : (backTo pos (starEach [] X.env)).any (·.1) = false := by rfl) :
    JE X B (.Call (.Name "any" p) [e] [] pos) n (pCall1 fAny pe) := je_callB1 (r := rAny X.K) (cr_any hcm) (by rw [hK]; exact any_s) (fun d Q Q' h ⟨xs, bs, e1, e2, q⟩ => ⟨xs, bs, e1, e2, h _ q⟩) hg hm hv ha (by decide) (by decide) he hpl
/-- int of an int, abs -/
def fInt (d : D) (Q : D → Prop) : Prop := match d with
  | .int i => Q (.int i)
  | _ => False
def fAbs (d : D) (Q : D → Prop) : Prop := match d with
  | .int i => Q (.int (if i < 0 then -i else i))
  | _ => False
theorem fInt.mono (d : D) (Q Q' : D → Prop) (h : ∀ d, Q d → Q' d) (q : fInt d Q) : fInt d Q' := by
  unfold fInt at q ⊢
  cases d <;> first | exact h _ q | exact q
theorem fAbs.mono (d : D) (Q Q' : D → Prop) (h : ∀ d, Q d → Q' d) (q : fAbs d Q) : fAbs d Q' := by
  unfold fAbs at q ⊢
  cases d <;> first | exact h _ q | exact q
theorem je_int1 {pe : Px ST D} (ha : JP X B e n pe) (hg : Gl X "int") (hm : X.mg "int" = none) (hv : bootBuiltins "int" = some (.type "int") := by decide +kernel) (he : starEach [e] X.env = (false, eval e X.env) :: starEach [] X.env := by rfl) (hpl : (backTo pos (starEach [] X.env)).any (·.1) = false := by rfl) :
    JE X B (.Call (.Name "int" p) [e] [] pos) n (pCall1 fInt pe) := je_callTy1 call_int1 (fun v d A H Q a h => by
      cases a <;> first | exact .inl ⟨_, rfl, h _ fun _ => .int _⟩ | exact (show False from h).elim) fInt.mono hg hm hv ha (by decide) (by decide) he hpl
theorem je_abs {pe : Px ST D} (ha : JP X B e n pe) (hg : Gl X "abs") (hm : X.mg "abs" = none) (hv : bootBuiltins "abs" = some (.builtin "abs") := by decide +kernel) (he : starEach [e] X.env = (false, eval e X.env) :: starEach [] X.env := by rfl) (hpl : (backTo pos (starEach [] X.env)).any (·.1) = false := by rfl) :
    JE X B (.Call (.Name "abs" p) [e] [] pos) n (pCall1 fAbs pe) := je_callB1 call_abs (fun v d A H Q a h => by
      cases a <;> first | exact ⟨_, rfl, h _ fun _ => .int _⟩ | exact (show False from h).elim) fAbs.mono hg hm hv ha (by decide) (by decide) he hpl
/-- list, tuple of a list or a tuple -/
def fList (ds : List D) (Q : FV → Prop) : Prop := match ds with
  | [.lst xs] => Q (.l xs)
  | [.tup xs] => Q (.l xs)
  | _ => False
theorem fList.mono : Mon1 fList := fun ds Q Q' h q => by
  unfold fList at q ⊢
  split at q <;> first | exact h _ q | exact q
theorem jf_list (hK : X.K = B.K) (ha : JA X B (e :: es) n pa) (hg : Gl X "list") (hm : X.mg "list" = none) (hv : bootBuiltins "list" = some (.type "list") := by decide +kernel) (he : starEach (e :: es) X.env = (false, eval e X.env) :: starEach es X.env := by rfl) (hpl : (backTo pos (starEach es X.env)).any (·.1) = false := by rfl) :
    JF X B (.Call (.Name "list" p) (e :: es) [] pos) n (pCallB fList pa) := jf_callTy call_list_of (fun vs ds A H σ ρ m st Q a S w h => by
      unfold fList at h
      split at h
      · cases a with
        | cons a b =>
          cases b
          cases a with
          | lst h1 h2 h3 => exact ⟨_, _, rfl, .inl (.of h2), fun l hl => post_newL h S w hl h3⟩
      · cases a with
        | cons a b =>
          cases b
          cases a with
          | tup h1 h3 => exact ⟨_, _, rfl, .inr (by rw [hK]; exact h1.sq), fun l hl => post_newL h S w hl h3⟩
      · exact h.elim) fList.mono hg hm hv ha (by decide) (by decide) he hpl
def fTup (ds : List D) (Q : D → Prop) : Prop := match ds with
  | [.lst xs] => Q (.tup xs)
  | [.tup xs] => Q (.tup xs)
  | _ => False
theorem fTup.mono : Mon1 fTup := fun ds Q Q' h q => by
  unfold fTup at q ⊢
  split at q <;> first | exact h _ q | exact q
theorem je_tuple (hK : X.K = B.K) (ha : JA X B (e :: es) n pa) (hg : Gl X "tuple") (hm : X.mg "tuple" = none) (hv : bootBuiltins "tuple" = some (.type "tuple") := by decide +kernel) (he : starEach (e :: es) X.env = (false, eval e X.env) :: starEach es X.env := by rfl) (hpl : (backTo pos (starEach es X.env)).any (·.1) = false := by rfl) :
    JE X B (.Call (.Name "tuple" p) (e :: es) [] pos) n (pCallB fTup pa) := je_callTy call_tuple_of (fun vs ds A H σ ρ m st Q a S w h => by
      unfold fTup at h
      split at h
      · cases a with
        | cons a b =>
          cases b
          cases a with
          | lst h1 h2 h3 => exact ⟨_, _, rfl, .inl ⟨.of h2, fun l hl => post_new (rel := relE B.K) h S w hl (.tup (.inl ⟨.inr rfl, upd_same⟩) (h3.ge (S.ge_alloc hl)))⟩⟩
      · cases a with
        | cons a b =>
          cases b
          cases a with
          | tup h1 h3 => exact ⟨_, _, rfl, .inr ⟨by rw [hK]; exact h1.sq, post.here (rel := relE B.K) h S w (.tup h1 h3)⟩⟩
      · exact h.elim) fTup.mono hg hm hv ha (by decide) (by decide) he hpl
end

/-! ### subscripts -/
def aIx (x y : D) (Q : D → Prop) : Prop := match x, y with
  | .lst xs, .int i => ∃ d, atI xs i = some d ∧ Q d
  | .tup xs, .int i => ∃ d, atI xs i = some d ∧ Q d
  | .str z, .int i => z.length ≤ sizeLine ∧ ∃ c, atI z.cps.toList i = some c ∧ Q (.str ⟨#[c]⟩)
  | .dic kvs, k => ∃ j d, k = keyD j ∧ valD kvs j = some d ∧ Q d
  | _, _ => False
theorem aIx.mono : MonF aIx := fun x y Q Q' h q => by
  unfold aIx at q ⊢
  split at q
  · obtain ⟨d, e, q⟩ := q; exact ⟨d, e, h _ q⟩
  · obtain ⟨d, e, q⟩ := q; exact ⟨d, e, h _ q⟩
  · obtain ⟨l, d, e, q⟩ := q; exact ⟨l, d, e, h _ q⟩
  · obtain ⟨j, d, e1, e2, q⟩ := q; exact ⟨j, d, e1, e2, h _ q⟩
  · exact q.elim
def rIxD : R2 := fun x y H Q => ∃ a v, x = .ref a ∧ DGet H a y (some v) ∧ Q v H
theorem ix_dic {X : Cx} (hu : X.A.units + 1 < cLine) : IxR X rIxD := fun value slice pins s σ H x y v u Q I rx ry h hs => by
  obtain ⟨a, w, e, g, q⟩ := h
  subst e
  obtain rfl : v = Value.ref a := rx
  have hT := dict_typeIs I g
  have h2 : wpAny (model X.prog X.w) X.A (getItem (.ref a) u) (EP X pins σ Q) X.xe s := d_getItem hu I g ry fun w' s3 I3 rw' => ⟨w, H, I3, rw', q⟩
  unfold subscriptTail
  refine wpAny_bind ?_
  rw [getitemInPython_of_ne hT.not_modules]
  refine wpAny_bind (wpAny_specialOf hT PySem.F.slot_dict_getitem.lookup ?_)
  have fin : wpAny (model X.prog X.w) X.A (subscripted slice false (.ref a) u) (fun r s₃ => wpAny (model X.prog X.w) X.A (letTemporaryGo value (.ref a) r >>= fun _ => pure r) (EP X pins σ Q) X.xe s₃) X.xe s := by
    rw [hs]
    exact wpAny_operating (wpAny_mono h2 (fun r s₃ h₃ => wpAny_bind (wpAny_letTemporaryGo (wpAny_pure h₃))) fun _ _ x => x)
  first
    | exact wpAny_pure (wpAny_bind fin)
    | exact wpAny_bind (wpAny_pure (wpAny_bind fin))
    | exact wpAny_bind fin
end PP

set_option Elab.async false
set_option linter.all false
set_option maxRecDepth 100000
set_option maxHeartbeats 1000000
namespace PP
open PySem PySem.Spec PyProof.Rows L2
variable {ST : Type}

def rIx4 (K : PySem.W.Frag) : R2 := fun x y H Q => rIxL K x y H Q ∨ (rIxT K x y H Q ∨ (rIxS x y H Q ∨ rIxD x y H Q))
theorem ix4 {X : Cx} (hu : X.A.units + 1 < cLine) : IxR X (rIx4 X.K) := ix_list.or (ix_tup.or (ix_str.or (ix_dic hu)))
theorem ats_atI {K : PySem.W.Frag} {A : Addr → Prop} {H : Hp} {vs : List V} {ds : List D} {i : Int} {d : D} (a : Ats K A H vs ds) (h : atI ds i = some d) : ∃ v, atI vs i = some v ∧ At K A H v d := by
  unfold atI at h ⊢
  rw [a.len]
  cases e : ixN ds.length i with
  | none => rw [e] at h; cases h
  | some j =>
    rw [e] at h
    exact a.get h
section
variable {B : Bs ST}
theorem ix_s {K : PySem.W.Frag} (hK : K = B.K) : OpS B (rIx4 K) aIx := fun x y dx dy A H σ ρ m st Q ax ay S w h => by
  subst hK
  unfold aIx at h
  split at h
  · obtain ⟨d, e, h⟩ := h
    cases ax with
    | lst h1 h2 h3 =>
      cases ay
      obtain ⟨v, ev, av⟩ := ats_atI h3 e
      exact .inl ⟨_, _, _, v, rfl, rfl, .of h2, ev, post.here h S w av⟩
  · obtain ⟨d, e, h⟩ := h
    cases ax with
    | tup h1 h3 =>
      cases ay
      obtain ⟨v, ev, av⟩ := ats_atI h3 e
      exact .inr (.inl ⟨_, _, _, v, rfl, rfl, h1.sq, ev, post.here h S w av⟩)
  · obtain ⟨l, c, e, h⟩ := h
    cases ax
    cases ay
    exact .inr (.inr (.inl ⟨_, _, c, rfl, rfl, l, e, post.here h S w (.str _)⟩))
  · obtain ⟨j, d, e1, e2, h⟩ := h
    subst e1
    cases ax with
    | dic h1 h2 h3 =>
      rcases h3.val j with ⟨_, z⟩ | ⟨v, d', z1, z2, av⟩
      · rw [e2] at z; cases z
      · rw [e2] at z2
        cases z2
        exact .inr (.inr (.inr ⟨_, v, rfl, .inl ⟨_, j, h2, key_at ay, z1.symm⟩, post.here h S w av⟩))
  · exact h.elim
end
section
variable {X : Cx} {B : Bs ST} {a b e : Expr} {n na nb : Nat} {pa pb pe : Px ST D} {pos : Pos}
theorem je_ix (hK : X.K = B.K) (hu : X.A.units + 65 < cLine) (ha : JE X B a na pa) (hb : JE X B b nb pb) (hs : PlainIx b := by intro _ _; rfl) : JE X B (.Subscript a b pos) (na + nb) (pBin aIx pa pb) :=
  ⟨pBin.mono aIx.mono ha.mono hb.mono, pe_weak (pe_ix (ix4 (by omega)) ha.run hb.run hs) fun σ H Q h => bin_run (ix_s hK) aIx.mono ha.mono hb.mono h⟩
/-- x[i], x a name that is looked at: the item is handed on -/
def slotA (ρ : Env) (i : Nat) : Option D := slotD ρ i
def pIxV (i : Nat) (pb : Px ST D) : Px ST D := fun ρ st Q R => (slotD ρ i).isSome = true ∧ pb ρ st (fun y ρ2 st2 => ∃ d, slotD ρ2 i = some d ∧ aIx d y fun z => Q z ρ2 st2) R
theorem pIxV.mono {i : Nat} (hb : Mono pb) : Mono (pIxV i pb) := fun ρ st Q Q' R R' h1 h2 ⟨e, h⟩ => ⟨e, hb _ _ _ _ _ _ (fun d ρ' st' ⟨d2, e2, z⟩ => ⟨d2, e2, aIx.mono _ _ _ _ (fun b y => h1 _ _ _ y) z⟩) h2 h⟩
/-- what a looked-at thing holds is held by A -/
theorem Sta.peekL {A : Addr → Prop} {σ : L2.St} {H : Hp} {ρ : Env} (S : Sta B A σ H ρ) {i : Nat} {xs : List D} (e : slotD ρ i = some (.lst xs)) : ∃ a vs, sat σ i = some (.ref a) ∧ H a = some (.lst vs) ∧ Ats B.K A H vs xs := by
  unfold slotD at e
  cases q : ρ[i]? with
  | none => rw [q] at e; cases e
  | some s =>
    rw [q] at e
    have sl := S.slot i s q
    cases s with
    | un => cases e
    | dat d =>
      cases e
      obtain ⟨v, x, at_⟩ := sl
      cases at_ with
      | lst h1 h2 h3 => exact ⟨_, _, x, h2, h3⟩
    | ownL ds =>
      cases e
      obtain ⟨a, vs, h1, h2, h3, _⟩ := sl
      exact ⟨a, vs, h1, h2, h3⟩
    | ownD ds => cases e
    | ownI C ds => cases e
theorem Sta.peekD {A : Addr → Prop} {σ : L2.St} {H : Hp} {ρ : Env} (S : Sta B A σ H ρ) {i : Nat} {xs : List (Key × D)} (e : slotD ρ i = some (.dic xs)) : ∃ a vs, sat σ i = some (.ref a) ∧ Rd H a (.dK vs) ∧ Atk B.K A H Key vs xs := by
  unfold slotD at e
  cases q : ρ[i]? with
  | none => rw [q] at e; cases e
  | some s =>
    rw [q] at e
    have sl := S.slot i s q
    cases s with
    | un => cases e
    | dat d =>
      cases e
      obtain ⟨v, x, at_⟩ := sl
      cases at_ with
      | dic h1 h2 h3 => exact ⟨_, _, x, h2, h3⟩
    | ownD ds =>
      cases e
      obtain ⟨a, vs, h1, h2, h3, _⟩ := sl
      exact ⟨a, vs, h1, .inl h2, h3⟩
    | ownL ds => cases e
    | ownI C ds => cases e
theorem Sta.peekI {A : Addr → Prop} {σ : L2.St} {H : Hp} {ρ : Env} (S : Sta B A σ H ρ) {i : Nat} {C : Addr} {xs : List (Str × D)} (e : slotD ρ i = some (.ins C xs)) : ∃ a dx vs, sat σ i = some (.ref a) ∧ H a = some (.ins C dx vs) ∧ Atk B.K A H Str vs xs := by
  unfold slotD at e
  cases q : ρ[i]? with
  | none => rw [q] at e; cases e
  | some s =>
    rw [q] at e
    have sl := S.slot i s q
    cases s with
    | un => cases e
    | dat d =>
      cases e
      obtain ⟨v, x, at_⟩ := sl
      cases at_ with
      | ins h1 h2 h3 => exact ⟨_, _, _, x, h2, h3⟩
    | ownI C ds =>
      cases e
      obtain ⟨a, dx, vs, h1, h2, h3, _⟩ := sl
      exact ⟨a, dx, vs, h1, h2, h3⟩
    | ownL ds => cases e
    | ownD ds => cases e
/-- data that stands in a slot is held by A; a thing of one's own isn't -/
theorem Sta.peekE {A : Addr → Prop} {σ : L2.St} {H : Hp} {ρ : Env} (S : Sta B A σ H ρ) {i : Nat} {d : D} (e : slotD ρ i = some d) (hl : ∀ xs, d ≠ .lst xs) (hd : ∀ xs, d ≠ .dic xs) (hi : ∀ C xs, d ≠ .ins C xs) : ∃ v, sat σ i = some v ∧ At B.K A H v d := by
  unfold slotD at e
  cases q : ρ[i]? with
  | none => rw [q] at e; cases e
  | some s =>
    rw [q] at e
    have sl := S.slot i s q
    cases s with
    | un => cases e
    | dat d' => cases e; exact sl
    | ownL ds => cases e; exact absurd rfl (hl _)
    | ownD ds => cases e; exact absurd rfl (hd _)
    | ownI C ds => cases e; exact absurd rfl (hi _ _)
theorem je_ixV (i : Nat) {x : Str} (hK : X.K = B.K) (hu : X.A.units + 65 < cLine) (hb : JE X B b nb pb) (hs : PlainIx b := by intro _ _; rfl)
    (hN : X.N[i]? = some x := by rfl) (hv : Vis X.env.scope x := by first | exact Or.inl rfl | exact Or.inr (Or.inl rfl) | exact Or.inr (Or.inr rfl)) (hd : (x == ("__debug__" : Str)) = false := by decide) (hcd : (x == ("__classdict__" : Str)) = false := by decide) {p1 : Pos} :
    JE X B (.Subscript (.Name x p1) b pos) nb (pIxV i pb) := by
  refine ⟨pIxV.mono hb.mono, pe_weak (pe_ix (ix4 (by omega)) (pe_var hN hv hd hcd) hb.run hs) fun σ H Q ⟨ρ, A, m, st, S, w, l, e, h⟩ => ?_⟩
  obtain ⟨d0, e0⟩ := Option.isSome_iff_exists.mp e
  obtain ⟨v, _, x, _, _⟩ := S.peek e0
  refine ⟨v, sat_of x, ρ, A, m, st, S, w, l, hb.mono _ _ _ _ _ _ (fun d ρ' st' ⟨d2, e2, z⟩ v2 H2 A2 S2 w2 g2 r2 => ?_) (fun _ _ _ z => z) h⟩
  have fin : ∀ {z : D} {vz : V}, post B (relE B.K) nb A m H σ Q z ρ' st' → At B.K A2 H2 vz z → Q vz H2 := fun y az => y _ H2 A2 S2 w2 g2 az
  have r2' : At B.K A2 H2 v2 d := r2
  rw [hK]
  cases d2 with
  | lst xs =>
    obtain ⟨a, vs, x2, h2, h3⟩ := S2.peekL e2
    rw [x] at x2
    cases x2
    cases r2' <;> first
      | (obtain ⟨dz, ez, y⟩ := (show ∃ d, atI xs _ = some d ∧ _ from z)
         obtain ⟨vz, ev, av⟩ := ats_atI h3 ez
         exact .inl ⟨_, _, _, vz, rfl, rfl, .of h2, ev, fin y av⟩)
      | exact (show False from z).elim
  | dic xs =>
    obtain ⟨a, vs, x2, h2, h3⟩ := S2.peekD e2
    rw [x] at x2
    cases x2
    obtain ⟨j, dz, e1, ez, y⟩ := (show ∃ j d', d = keyD j ∧ valD xs j = some d' ∧ _ from z)
    subst e1
    rcases h3.val j with ⟨_, q⟩ | ⟨vz, d', z1, z2, av⟩
    · rw [ez] at q; cases q
    · rw [ez] at z2
      cases z2
      exact .inr (.inr (.inr ⟨_, vz, rfl, .inl ⟨_, j, h2, key_at r2', z1.symm⟩, fin y av⟩))
  | tup xs =>
    obtain ⟨v', x2, at_⟩ := S2.peekE e2 (by simp) (by simp) (by simp)
    rw [x] at x2
    cases x2
    exact ix_s rfl _ _ _ _ A2 H2 σ ρ' _ st' Q at_ r2' S2 w2 (aIx.mono _ _ _ _ (fun z y v H' A' S' w' g' r' => y v H' A' S' (B.G.le (by omega) w') (g2.trans g') r') z)
  | str s =>
    obtain ⟨v', x2, at_⟩ := S2.peekE e2 (by simp) (by simp) (by simp)
    rw [x] at x2
    cases x2
    exact ix_s rfl _ _ _ _ A2 H2 σ ρ' _ st' Q at_ r2' S2 w2 (aIx.mono _ _ _ _ (fun z y v H' A' S' w' g' r' => y v H' A' S' (B.G.le (by omega) w') (g2.trans g') r') z)
  | _ => exact (show False from z).elim
end
/-! ### slices -/
def cutL {α : Type} (xs : List α) (lo hi : Option Int) : List α := (xs.drop (HT.sIx xs.length 0 lo)).take (HT.sIx xs.length xs.length hi - HT.sIx xs.length 0 lo)
theorem ats_cut {K : PySem.W.Frag} {A : Addr → Prop} {H : Hp} {vs : List V} {ds : List D} (a : Ats K A H vs ds) (lo hi : Option Int) : Ats K A H (cutV vs lo hi) (cutL ds lo hi) := by
  unfold cutV cutL
  rw [a.len]
  exact (a.drop _).take _
structure JO (X : Cx) (B : Bs ST) (e : Option Expr) (n : Nat) (p : Px ST (Option Int)) : Prop where
  mono : Mono p
  run : PO X e (lift B (fun _ _ _ _ v d => v = d) n p)
def intD (d : D) (Q : Int → Prop) : Prop := match d with
  | .int i => Q i
  | _ => False
theorem intD.mono (d : D) (Q Q' : Int → Prop) (h : ∀ i, Q i → Q' i) (q : intD d Q) : intD d Q' := by
  unfold intD at q ⊢
  cases d <;> first | exact h _ q | exact q
def pPart (p : Px ST D) : Px ST (Option Int) := bindP p fun d => bindP (retP (intD d)) fun i => retP fun Q => Q (some i)
def pNoPart : Px ST (Option Int) := retP fun Q => Q none
theorem pPart.mono {p : Px ST D} (h : Mono p) : Mono (pPart p) := bindP.mono h fun d => bindP.mono (retP.mono (intD.mono d)) fun _ => mono_ret
theorem po_weak {X : Cx} {e : Option Expr} {t t' : TO} (h : PO X e t) (k : ∀ σ H Q, t' σ H Q → t σ H Q) : PO X e t' := ⟨fun pins s σ H Q I w => h.run pins s σ H Q I (k σ H Q w)⟩
section
variable {X : Cx} {B : Bs ST} {e : Expr} {n nl nh : Nat} {pe : Px ST D} {pl ph : Px ST (Option Int)} {pos p2 : Pos} {lo hi : Option Expr}
theorem jo_none : JO X B none 0 pNoPart := ⟨mono_ret, po_weak po_none fun σ H Q ⟨ρ, A, m, st, S, w, l, z⟩ => post.here (rel := fun _ _ _ _ v d => v = d) z S w rfl⟩
theorem jo_some (h : JE X B e n pe) : JO X B (some e) n (pPart pe) := ⟨pPart.mono h.mono, po_weak (po_some h.run) fun σ H Q ⟨ρ, A, m, st, S, w, l, z⟩ =>
  run_bind (rel' := fun _ _ _ _ v d => v = d) (n2 := 0) h.mono (fun d => bindP.mono (retP.mono (intD.mono d)) fun _ => mono_ret) S w l z fun v1 H1 d1 ρ1 A1 m1 st1 a1 S1 w1 l1 g1 h1 => by
    have h2 : intD d1 (fun i => post B (fun _ _ _ _ v d => v = d) 0 A1 m1 H1 σ Q (some i) ρ1 st1) := h1
    cases a1 <;> first | exact ⟨_, rfl, post.here (rel := fun _ _ _ _ v d => v = d) h2 S1 w1 rfl⟩ | exact h2.elim⟩
/-- of a list: a new one -/
def pSlL (pe : Px ST D) (pl ph : Px ST (Option Int)) : Px ST FV := bindP pe fun x => bindP pl fun l => bindP ph fun h => retP fun Q => match x with
  | .lst xs => Q (.l (cutL xs l h))
  | _ => False
def slX (x : D) (l h : Option Int) (Q : D → Prop) : Prop := match x with
  | .lst xs => Q (.lst (cutL xs l h))
  | .tup xs => Q (.tup (cutL xs l h))
  | .str z => z.length ≤ sizeLine ∧ Q (.str (cutS z l h))
  | _ => False
theorem slX.mono (x : D) (l h : Option Int) (Q Q' : D → Prop) (k : ∀ d, Q d → Q' d) (q : slX x l h Q) : slX x l h Q' := by
  unfold slX at q ⊢
  cases x <;> first | exact k _ q | exact ⟨q.1, k _ q.2⟩ | exact q
def pSl (pe : Px ST D) (pl ph : Px ST (Option Int)) : Px ST D := bindP pe fun x => bindP pl fun l => bindP ph fun h => retP (slX x l h)
theorem pSl.mono {pe : Px ST D} {pl ph : Px ST (Option Int)} (h1 : Mono pe) (h2 : Mono pl) (h3 : Mono ph) : Mono (pSl pe pl ph) := bindP.mono h1 fun x => bindP.mono h2 fun l => bindP.mono h3 fun h => retP.mono (slX.mono x l h)
def rSl3 (K : PySem.W.Frag) : V → Option Int → Option Int → Hp → VK → Prop := fun x lo hi H Q => rSlL K x lo hi H Q ∨ (rSlA K x lo hi H Q ∨ rSlS x lo hi H Q)
theorem cut_all {α : Type} (xs : List α) (lo hi : Option Int) (h : HT.sIx xs.length 0 lo = 0 ∧ HT.sIx xs.length xs.length hi = xs.length) : cutL xs lo hi = xs := by
  unfold cutL
  rw [h.1, h.2]
  simp
theorem je_slice (hK : X.K = B.K) (he : JE X B e n pe) (hl : JO X B lo nl pl) (hh : JO X B hi nh ph) : JE X B (.Subscript e (.Slice lo hi none p2) pos) (n + (nl + nh)) (pSl pe pl ph) := by
  refine ⟨pSl.mono he.mono hl.mono hh.mono, pe_weak (pe_slice (r := rSl3 X.K) (sl_list.or (sl_tupA.or sl_str)) he.run hl.run hh.run) fun σ H Q ⟨ρ, A, m, st, S, w, l, z⟩ => ?_⟩
  refine run_bind (rel' := relE B.K) he.mono (fun x => bindP.mono hl.mono fun l => bindP.mono hh.mono fun h => retP.mono (slX.mono x l h)) S w l z fun v1 H1 d1 ρ1 A1 m1 st1 a1 S1 w1 l1 g1 h1 => ?_
  refine run_bind (rel' := relE B.K) hl.mono (fun l => bindP.mono hh.mono fun h => retP.mono (slX.mono d1 l h)) S1 w1 l1 h1 fun vl H2 dl ρ2 A2 m2 st2 al S2 w2 l2 g2 h2 => ?_
  refine run_bind (rel' := relE B.K) (n2 := 0) hh.mono (fun h => retP.mono (slX.mono d1 dl h)) S2 w2 l2 h2 fun vh H3 dh ρ3 A3 m3 st3 ah S3 w3 l3 g3 h3 => ?_
  have e1 : vl = dl := al
  have e2 : vh = dh := ah
  subst e1 e2
  have a3 : At B.K A3 H3 v1 d1 := At.ge (g2.trans g3) a1
  have h4 : slX d1 vl vh (fun d => post B (relE B.K) 0 A3 m3 H3 σ Q d ρ3 st3) := h3
  rw [hK]
  cases a3 with
  | lst k1 k2 k3 => exact .inl ⟨_, _, rfl, .of k2, fun p hp => post_new (rel := relE B.K) h4 S3 w3 hp (.lst (.inr rfl) upd_same ((ats_cut k3 vl vh).ge (S3.ge_alloc hp)))⟩
  | tup k1 k3 =>
    refine .inr (.inl ⟨_, _, rfl, k1.sq, fun c => ?_, fun _ p hp => post_new (rel := relE B.K) h4 S3 w3 hp (.tup (.inl ⟨.inr rfl, upd_same⟩) ((ats_cut k3 vl vh).ge (S3.ge_alloc hp)))⟩)
    rw [k3.len] at c
    have h5 := (show post B (relE B.K) 0 A3 m3 H3 σ Q (.tup (cutL _ vl vh)) ρ3 st3 from h4)
    rw [cut_all _ _ _ c] at h5
    exact post.here h5 S3 w3 (.tup k1 k3)
  | str s => exact .inr (.inr ⟨s, rfl, h4.1, post.here h4.2 S3 w3 (.str _)⟩)
  | _ => exact h4.elim
end
/-! ### fields -/
def aFld (C : Addr) (f : Str) (x : D) (Q : D → Prop) : Prop := ∃ fs d, x = .ins C fs ∧ fs.lookup f = some d ∧ Q d
theorem aFld.mono (C : Addr) (f : Str) (x : D) (Q Q' : D → Prop) (k : ∀ d, Q d → Q' d) (q : aFld C f x Q) : aFld C f x Q' := by
  obtain ⟨fs, d, e1, e2, q⟩ := q
  exact ⟨fs, d, e1, e2, k _ q⟩
section
variable {X : Cx} {B : Bs ST} {e : Expr} {n : Nat} {pe : Px ST D} {pos : Pos} {f : Str} {C : Addr}
theorem je_fld (hK : X.K = B.K) (c : Cls X.K C) (na : NoAttr X.K C f) (he : JE X B e n pe) (hb : attributeBase e f X.env (eval e X.env) = eval e X.env := by rfl) : JE X B (.Attribute e f pos) n (pUn (aFld C f) pe) :=
  ⟨pUn.mono (aFld.mono C f) he.mono, pe_weak (pe_fld he.run hb) fun σ H Q ⟨ρ, A, m, st, S, w, l, z⟩ => run_bind (rel' := relE B.K) (n2 := 0) he.mono (fun x => retP.mono (aFld.mono C f x)) S w l z fun v1 H1 d1 ρ1 A1 m1 st1 a1 S1 w1 l1 g1 h1 => by
    obtain ⟨fs, d, e1, e2, h2⟩ := (show aFld C f d1 _ from h1)
    subst e1
    cases a1 with
    | ins k1 k2 k3 =>
      rcases k3.look f with ⟨_, q⟩ | ⟨v, d', q1, q2, av⟩
      · rw [e2] at q; cases q
      · rw [e2] at q2
        cases q2
        exact ⟨_, _, _, _, v, rfl, k2, c, na, q1, post.here h2 S1 w1 av⟩⟩
/-- x.f, x a name that is looked at -/
def pFldV (C : Addr) (f : Str) (i : Nat) : Px ST D := fun ρ st Q _ => ∃ d, slotD ρ i = some d ∧ aFld C f d fun z => Q z ρ st
theorem je_fldV (i : Nat) {x : Str} (hK : X.K = B.K) (c : Cls X.K C) (na : NoAttr X.K C f) {p1 : Pos} (hN : X.N[i]? = some x := by rfl) (hv : Vis X.env.scope x := by first | exact Or.inl rfl | exact Or.inr (Or.inl rfl) | exact Or.inr (Or.inr rfl)) (hd : (x == ("__debug__" : Str)) = false := by decide) (hcd : (x == ("__classdict__" : Str)) = false := by decide)
    (hb : attributeBase (.Name x p1) f X.env (eval (.Name x p1) X.env) = eval (.Name x p1) X.env := by rfl) : JE X B (.Attribute (.Name x p1) f pos) 0 (pFldV C f i) :=
  ⟨fun ρ st Q Q' R R' h1 h2 ⟨d, e, h⟩ => ⟨d, e, aFld.mono _ _ _ _ _ (fun z y => h1 _ _ _ y) h⟩, pe_weak (pe_fld (pe_var hN hv hd hcd) hb) fun σ H Q ⟨ρ, A, m, st, S, w, l, d0, e0, h⟩ => by
    obtain ⟨fs, d, e1, e2, h2⟩ := h
    subst e1
    obtain ⟨a, dx, vs, x1, k2, k3⟩ := S.peekI e0
    rcases k3.look f with ⟨_, q⟩ | ⟨v, d', q1, q2, av⟩
    · rw [e2] at q; cases q
    · rw [e2] at q2
      cases q2
      exact ⟨_, sat_of x1, _, _, _, _, v, rfl, k2, c, na, q1, post.here h2 S w av⟩⟩
end
end PP

set_option Elab.async false
set_option linter.all false
set_option maxRecDepth 100000
set_option maxHeartbeats 1000000
namespace PP
open PySem PySem.Spec PyProof.Rows L2
variable {ST : Type}

/-! ### stores into slots -/
section
variable {B : Bs ST} {A : Addr → Prop} {σ : L2.St} {H : Hp} {ρ : Env} {i : Nat}
theorem sat_set_ne {j : Nat} {v : Option V} (h : j ≠ i) : sat (σ.set i v) j = sat σ j := by
  unfold sat
  rw [List.getElem?_set_ne (Ne.symm h)]
theorem sat_set_eq {v : Option V} (h : i < σ.length) : sat (σ.set i v) i = v := by
  unfold sat
  rw [List.getElem?_set_self h]
  rfl
/-- name = data -/
theorem Sta.assign {v : V} {d : D} (S : Sta B A σ H ρ) (a : At B.K A H v d) : Sta B A (σ.set i (some v)) H (ρ.set i (.dat d)) := by
  have ne : ∀ {l : Nat} {w : Sl}, (ρ.set i (.dat d))[l]? = some w → w.own = true → l ≠ i ∧ ρ[l]? = some w := fun {l w} el ov => by
    rw [List.getElem?_set] at el
    split at el
    · split at el
      · cases el
        cases ov
      · cases el
    · rename_i h
      exact ⟨fun z => h z.symm, el⟩
  refine ⟨S.base, fun b u eb => ⟨(S.lock b u eb).1, (S.lock b u eb).2.1, fun j s ej oj => by
    obtain ⟨nj, ej'⟩ := ne ej oj
    rw [sat_set_ne nj]
    exact (S.lock b u eb).2.2.1 j s ej' oj, (S.lock b u eb).2.2.2⟩, S.new, S.trk, S.mtrk, by rw [List.length_set, List.length_set]; exact S.len, fun j s e => ?_, fun j k s t b njk ej ek oj ok => ?_⟩
  · rw [List.getElem?_set] at e
    split at e
    · rename_i h
      subst h
      split at e
      · rename_i hl
        cases e
        exact ⟨v, sat_set_eq (by rw [S.len]; exact hl), a⟩
      · cases e
    · rename_i h
      rw [sat_set_ne (fun z => h z.symm)]
      exact S.slot j s e
  · obtain ⟨nj, ej'⟩ := ne ej oj
    obtain ⟨nk, ek'⟩ := ne ek ok
    rw [sat_set_ne nj, sat_set_ne nk]
    exact S.apart j k s t b njk ej' ek' oj ok
/-- name = a new thing -/
theorem Sta.assignF {a : Addr} {f : FV} (S : Sta B A σ H ρ) (fa : FAt B.K A H a f) (na : ¬ A a) (nm : ¬ B.G.M a) (n0 : B.H0 a = none ∨ B.X0 a) (no : ∀ i s, ρ[i]? = some s → s.own = true → sat σ i ≠ some (.ref a)) (nl : B.L a = none) :
    Sta B A (σ.set i (some (.ref a))) H (ρ.set i f.sl) := by
  refine ⟨S.base, fun b u eb => ⟨(S.lock b u eb).1, (S.lock b u eb).2.1, fun j s ej oj => by
    by_cases hj : j = i
    · subst hj
      have hl : j < σ.length := by
        rw [S.len]
        have := (List.getElem?_eq_some_iff.mp ej).1
        rwa [List.length_set] at this
      rw [sat_set_eq hl]
      intro z
      cases z
      rw [nl] at eb
      cases eb
    · rw [sat_set_ne hj]
      rw [List.getElem?_set_ne (Ne.symm hj)] at ej
      exact (S.lock b u eb).2.2.1 j s ej oj, (S.lock b u eb).2.2.2⟩, S.new, S.trk, S.mtrk, by rw [List.length_set, List.length_set]; exact S.len, fun j s e => ?_, fun j k s t b njk ej ek oj ok => ?_⟩
  · rw [List.getElem?_set] at e
    split at e
    · rename_i h
      subst h
      split at e
      · rename_i hl
        cases e
        rw [sat_set_eq (by rw [S.len]; exact hl)]
        cases f with
        | l xs => obtain ⟨vs, h1, h2⟩ := fa; exact ⟨a, vs, rfl, h1, h2, na, nm, n0⟩
        | d xs => obtain ⟨vs, h1, h2⟩ := fa; exact ⟨a, vs, rfl, h1, h2, na, nm, n0⟩
      · cases e
    · rename_i h
      rw [sat_set_ne (fun z => h z.symm)]
      exact S.slot j s e
  · rw [List.getElem?_set] at ej ek
    by_cases hj : i = j
    · subst hj
      have hk : ¬ i = k := njk
      rw [if_neg hk] at ek
      rw [if_pos rfl] at ej
      split at ej
      · rename_i hl
        rw [sat_set_eq (by rw [S.len]; exact hl), sat_set_ne (fun z => hk z.symm)]
        intro z
        cases z
        exact no k t ek ok
      · cases ej
    · rw [if_neg hj] at ej
      rw [sat_set_ne (fun z => hj z.symm)]
      by_cases hk : i = k
      · subst hk
        rw [if_pos rfl] at ek
        split at ek
        · rename_i hl
          rw [sat_set_eq (by rw [S.len]; exact hl)]
          intro z1 z2
          cases z2
          exact no j s ej oj z1
        · cases ek
      · rw [if_neg hk] at ek
        rw [sat_set_ne (fun z => hk z.symm)]
        exact S.apart j k s t b njk ej ek oj ok
/-- a thing of one's own is changed -/
theorem Sta.write {s s' : Sl} {a : Addr} {o : HO} (S : Sta B A σ H ρ) (e : ρ[i]? = some s) (os : s.own = true) (xa : sat σ i = some (.ref a)) (os' : s'.own = true) (new : SlotAt B A (upd H a o) (some (.ref a)) s') :
    Sta B A σ (upd H a o) (ρ.set i s') ∧ Ge A H A (upd H a o) ∧ ∀ m st, B.G.W m st H → B.G.W m st (upd H a o) := by
  obtain ⟨b, x1, x2, x3, x4, x5⟩ := (S.slot i s e).own_at os
  rw [xa] at x1
  cases x1
  have g : Ge A H A (upd H a o) := fun c hc => ⟨hc, .of_eq (upd_ne fun z => x3 (by rw [← z]; exact hc))⟩
  refine ⟨⟨fun c hm hx hl hn => ?_, fun c u hc => ?_, S.new, fun c hc => ?_, fun c hm => ?_, by rw [List.length_set]; exact S.len, fun j t ej => ?_, fun j k u t c njk ej ek oj ok => ?_⟩, g, fun m st w => B.G.keep w fun c hm => upd_ne fun z => x4 (by rw [← z]; exact hm)⟩
  · rw [upd_ne fun z => by subst z; rcases x5 with y | y; exact hn y; exact hx y]
    exact S.base c hm hx hl hn
  · obtain ⟨e1, e2, e3, e4⟩ := S.lock c u hc
    refine ⟨(upd_ne fun z => e3 i s e os (by rw [z]; exact xa)).trans e1, e2, fun j t ej oj => ?_, e4⟩
    by_cases hj : j = i
    · rw [hj]
      exact e3 i s e os
    · rw [List.getElem?_set_ne (Ne.symm hj)] at ej
      exact e3 j t ej oj
  · refine ⟨?_, (S.trk c hc).2⟩
    rw [upd_ne fun z => x3 (by rw [← z]; exact hc)]
    exact (S.trk c hc).1
  · rw [upd_ne fun z => x4 (by rw [← z]; exact hm)]
    exact S.mtrk c hm
  · rw [List.getElem?_set] at ej
    split at ej
    · rename_i h
      subst h
      split at ej
      · cases ej
        rw [xa]
        exact new
      · cases ej
    · rename_i h
      refine (S.slot j t ej).keep g fun c oc xc => ⟨upd_ne fun z => ?_, fun z => z⟩
      subst z
      exact S.apart i j s t c h e ej os oc xa xc
  · have ne : ∀ {l : Nat} {w : Sl}, (ρ.set i s')[l]? = some w → w.own = true → ∃ w', ρ[l]? = some w' ∧ w'.own = true := fun {l w} el ov => by
      rw [List.getElem?_set] at el
      split at el
      · rename_i h
        subst h
        exact ⟨s, e, os⟩
      · exact ⟨w, el, ov⟩
    obtain ⟨u', eu, ou⟩ := ne ej oj
    obtain ⟨t', et, ot⟩ := ne ek ok
    exact S.apart j k u' t' c njk eu et ou ot
end
end PP

set_option Elab.async false
set_option linter.all false
set_option maxRecDepth 100000
set_option maxHeartbeats 1000000
namespace PP
open PySem PySem.Spec PyProof.Rows L2
variable {ST : Type}

/-! ### statements -/
structure En (ST : Type) where
  nx : Env → ST → Prop
  rt : D → ST → Prop
  bk : Env → ST → Prop := fun _ _ => False
  ct : Env → ST → Prop := fun _ _ => False
  ex : RX ST := fun _ _ _ => False
structure En.Imp (D D' : En ST) : Prop where
  nx : ∀ ρ st, D.nx ρ st → D'.nx ρ st
  rt : ∀ d st, D.rt d st → D'.rt d st
  bk : ∀ ρ st, D.bk ρ st → D'.bk ρ st
  ct : ∀ ρ st, D.ct ρ st → D'.ct ρ st
  ex : ∀ x ρ st, D.ex x ρ st → D'.ex x ρ st
abbrev PSx (ST : Type) := En ST → Env → ST → Prop
def MonoS (P : PSx ST) : Prop := ∀ D D' ρ st, En.Imp D D' → P D ρ st → P D' ρ st
def enOf (B : Bs ST) (n : Nat) (A : Addr → Prop) (m : Nat) (H : Hp) (D : Ends) : En ST where
  nx := fun ρ' st' => ∀ σ' H' A', Sta B A' σ' H' ρ' → B.G.W (m + n) st' H' → Ge A H A' H' → D.nx σ' H'
  rt := fun d st' => ∀ v σ' ρ' H' A', Sta B A' σ' H' ρ' → B.G.W (m + n) st' H' → Ge A H A' H' → At B.K A' H' v d → D.rt v H'
  bk := fun ρ' st' => ∀ σ' H' A', Sta B A' σ' H' ρ' → B.G.W (m + n) st' H' → Ge A H A' H' → D.bk σ' H'
  ct := fun ρ' st' => ∀ σ' H' A', Sta B A' σ' H' ρ' → B.G.W (m + n) st' H' → Ge A H A' H' → D.ct σ' H'
  ex := fun x ρ' st' => ∀ cls dx σ' H' A', Sta B A' σ' H' ρ' → B.G.W (m + n) st' H' → ExAt B.K A' H' cls dx x → B.wx cls dx σ' H'
def liftS (B : Bs ST) (n : Nat) (P : PSx ST) : TS := fun D σ H => ∃ ρ A m st, Sta B A σ H ρ ∧ B.G.W m st H ∧ m + n ≤ B.G.top ∧ P (enOf B n A m H D) ρ st
section
variable {B : Bs ST} {n n1 n2 m : Nat} {A A' : Addr → Prop} {H H' : Hp} {D : Ends}
theorem imp_later (g : Ge A H A' H') : En.Imp (enOf B (n1 + n2) A m H D) (enOf B n2 A' (m + n1) H' D) where
  nx := fun ρ st h σ' H2 A2 S w g2 => h σ' H2 A2 S (by rw [← Nat.add_assoc]; exact w) (g.trans g2)
  rt := fun d st h v σ' ρ' H2 A2 S w g2 a => h v σ' ρ' H2 A2 S (by rw [← Nat.add_assoc]; exact w) (g.trans g2) a
  bk := fun ρ st h σ' H2 A2 S w g2 => h σ' H2 A2 S (by rw [← Nat.add_assoc]; exact w) (g.trans g2)
  ct := fun ρ st h σ' H2 A2 S w g2 => h σ' H2 A2 S (by rw [← Nat.add_assoc]; exact w) (g.trans g2)
  ex := fun x ρ st h cls dx σ' H2 A2 S w a => h cls dx σ' H2 A2 S (by rw [← Nat.add_assoc]; exact w) a
theorem imp_le {n' : Nat} (l : n' ≤ n) : En.Imp (enOf B n A m H D) (enOf B n' A m H D) where
  nx := fun ρ st h σ' H2 A2 S w g2 => h σ' H2 A2 S (B.G.le (by omega) w) g2
  rt := fun d st h v σ' ρ' H2 A2 S w g2 a => h v σ' ρ' H2 A2 S (B.G.le (by omega) w) g2 a
  bk := fun ρ st h σ' H2 A2 S w g2 => h σ' H2 A2 S (B.G.le (by omega) w) g2
  ct := fun ρ st h σ' H2 A2 S w g2 => h σ' H2 A2 S (B.G.le (by omega) w) g2
  ex := fun x ρ st h cls dx σ' H2 A2 S w a => h cls dx σ' H2 A2 S (B.G.le (by omega) w) a
/-- another start, later -/
theorem imp_at {m' : Nat} (g : Ge A H A' H') (l : m' + n2 ≤ m + n1) : En.Imp (enOf B n1 A m H D) (enOf B n2 A' m' H' D) where
  nx := fun ρ st h σ' H2 A2 S w g2 => h σ' H2 A2 S (B.G.le l w) (g.trans g2)
  rt := fun d st h v σ' ρ' H2 A2 S w g2 a => h v σ' ρ' H2 A2 S (B.G.le l w) (g.trans g2) a
  bk := fun ρ st h σ' H2 A2 S w g2 => h σ' H2 A2 S (B.G.le l w) (g.trans g2)
  ct := fun ρ st h σ' H2 A2 S w g2 => h σ' H2 A2 S (B.G.le l w) (g.trans g2)
  ex := fun x ρ st h cls dx σ' H2 A2 S w a => h cls dx σ' H2 A2 S (B.G.le l w) a
theorem liftS_le {P : PSx ST} {σ : L2.St} (hp : MonoS P) {n' : Nat} (l : n ≤ n') (h : liftS B n' P D σ H) : liftS B n P D σ H := by
  obtain ⟨ρ, A, m, st, S, w, k, h⟩ := h
  exact ⟨ρ, A, m, st, S, w, by omega, hp _ _ _ _ (imp_le l) h⟩
end
structure JS (X : Cx) (B : Bs ST) (s : Stmt) (n : Nat) (P : PSx ST) : Prop where
  mono : MonoS P
  run : PS X s (liftS B n P)
structure JSs (X : Cx) (B : Bs ST) (s : List Stmt) (n : Nat) (P : PSx ST) : Prop where
  mono : MonoS P
  run : PSs X s (liftS B n P)
theorem ps_weak {X : Cx} {s : Stmt} {t t' : TS} (h : PS X s t) (k : ∀ D σ H, t' D σ H → t D σ H) : PS X s t' := ⟨fun pins st σ H D I w => h.run pins st σ H D I (k D σ H w)⟩
theorem pss_weak {X : Cx} {s : List Stmt} {t t' : TS} (h : PSs X s t) (k : ∀ D σ H, t' D σ H → t D σ H) : PSs X s t' := ⟨fun pins st σ H D I w => h.run pins st σ H D I (k D σ H w)⟩
def sNil : PSx ST := fun D ρ st => D.nx ρ st
def sSeq (P Q : PSx ST) : PSx ST := fun D ρ st => P { D with nx := fun ρ' st' => Q D ρ' st' } ρ st
def sRet (p : Px ST D) : PSx ST := fun D ρ st => p ρ st (fun d _ st' => D.rt d st') D.ex
def sRetN : PSx ST := fun D _ st => D.rt .non st
def sSet (i : Nat) (p : Px ST D) : PSx ST := fun D ρ st => p ρ st (fun d ρ' st' => D.nx (ρ'.set i (.dat d)) st') D.ex
def sSetF (i : Nat) (p : Px ST FV) : PSx ST := fun D ρ st => p ρ st (fun f ρ' st' => D.nx (ρ'.set i f.sl) st') D.ex
def sDrop (p : Px ST D) : PSx ST := fun D ρ st => p ρ st (fun _ ρ' st' => D.nx ρ' st') D.ex
def sIf (c : Px ST Bool) (P Q : PSx ST) : PSx ST := fun D ρ st => c ρ st (fun b ρ' st' => if b = true then P D ρ' st' else Q D ρ' st') D.ex
theorem sSeq.mono {P Q : PSx ST} (hp : MonoS P) (hq : MonoS Q) : MonoS (sSeq P Q) := fun D D' ρ st i h => hp { D with nx := fun ρ' st' => Q D ρ' st' } { D' with nx := fun ρ' st' => Q D' ρ' st' } ρ st ⟨fun ρ' st' z => hq D D' _ _ i z, i.rt, i.bk, i.ct, i.ex⟩ h
theorem sRet.mono {p : Px ST D} (hp : Mono p) : MonoS (sRet p) := fun D D' ρ st i h => hp _ _ _ _ _ _ (fun d ρ' st' z => i.rt _ _ z) i.ex h
theorem sSet.mono {j : Nat} {p : Px ST D} (hp : Mono p) : MonoS (sSet j p) := fun D D' ρ st i h => hp _ _ _ _ _ _ (fun d ρ' st' z => i.nx _ _ z) i.ex h
theorem sSetF.mono {j : Nat} {p : Px ST FV} (hp : Mono p) : MonoS (sSetF j p) := fun D D' ρ st i h => hp _ _ _ _ _ _ (fun d ρ' st' z => i.nx _ _ z) i.ex h
theorem sDrop.mono {p : Px ST D} (hp : Mono p) : MonoS (sDrop p) := fun D D' ρ st i h => hp _ _ _ _ _ _ (fun d ρ' st' z => i.nx _ _ z) i.ex h
theorem sIf.mono {c : Px ST Bool} {P Q : PSx ST} (hc : Mono c) (hp : MonoS P) (hq : MonoS Q) : MonoS (sIf c P Q) := fun D D' ρ st i h => hc _ _ _ _ _ _ (fun b ρ' st' z => by
  cases b
  · exact hq _ _ _ _ i z
  · exact hp _ _ _ _ i z) i.ex h
section
variable {X : Cx} {B : Bs ST} {s : Stmt} {ss : List Stmt} {n n1 n2 : Nat} {P Q : PSx ST} {e : Expr} {p : Px ST D} {pos : Pos}
theorem jss_nil : JSs X B [] 0 sNil := ⟨fun D D' ρ st i h => i.nx _ _ h, pss_weak pss_nil fun D σ H ⟨ρ, A, m, st, S, w, l, h⟩ => h σ H A S (B.G.le (Nat.le_add_right _ _) w) Ge.refl⟩
theorem jss_cons (h1 : JS X B s n1 P) (h2 : JSs X B ss n2 Q) : JSs X B (s :: ss) (n1 + n2) (sSeq P Q) :=
  ⟨sSeq.mono h1.mono h2.mono, pss_weak (pss_cons h1.run h2.run) fun D σ H ⟨ρ, A, m, st, S, w, l, h⟩ =>
    ⟨ρ, A, m, st, S, w, by omega, h1.mono { enOf B (n1 + n2) A m H D with nx := fun ρ' st' => Q (enOf B (n1 + n2) A m H D) ρ' st' } _ _ _ ⟨fun ρ' st' z σ' H' A' S' w' g' => ⟨ρ', A', m + n1, st', S', w', by omega, h2.mono _ _ _ _ (imp_later g') z⟩,
      (imp_le (Nat.le_add_right n1 n2)).rt, (imp_le (Nat.le_add_right n1 n2)).bk, (imp_le (Nat.le_add_right n1 n2)).ct, (imp_le (Nat.le_add_right n1 n2)).ex⟩ h⟩⟩
theorem jss_one (h1 : JS X B s n P) : JSs X B [s] n P := ⟨h1.mono, pss_one h1.run⟩
theorem js_pass : JS X B (.Pass pos) 0 sNil := ⟨fun D D' ρ st i h => i.nx _ _ h, ps_weak ps_pass fun D σ H ⟨ρ, A, m, st, S, w, l, h⟩ => h σ H A S (B.G.le (Nat.le_add_right _ _) w) Ge.refl⟩
theorem js_break : JS X B (.Break pos) 0 (fun D ρ st => D.bk ρ st) := ⟨fun D D' ρ st i h => i.bk _ _ h, ps_weak ps_break fun D σ H ⟨ρ, A, m, st, S, w, l, h⟩ => h σ H A S (B.G.le (Nat.le_add_right _ _) w) Ge.refl⟩
theorem js_continue : JS X B (.Continue pos) 0 (fun D ρ st => D.ct ρ st) := ⟨fun D D' ρ st i h => i.ct _ _ h, ps_weak ps_continue fun D σ H ⟨ρ, A, m, st, S, w, l, h⟩ => h σ H A S (B.G.le (Nat.le_add_right _ _) w) Ge.refl⟩
theorem js_ret (h : JE X B e n p) : JS X B (.Return (some e) pos) n (sRet p) :=
  ⟨sRet.mono h.mono, ps_weak (ps_ret h.run) fun D σ H ⟨ρ, A, m, st, S, w, l, z⟩ => ⟨ρ, A, m, st, S, w, l, h.mono _ _ _ _ _ _ (fun d ρ' st' y v H' A' S' w' g' a => y v σ ρ' H' A' S' w' g' a) (fun x ρ' st' y cls dx H' A' S' w' a => y cls dx σ H' A' S' w' a) z⟩⟩
theorem js_retN : JS X B (.Return none pos) 0 sRetN := ⟨fun D D' ρ st i h => i.rt _ _ h, ps_weak ps_retN fun D σ H ⟨ρ, A, m, st, S, w, l, h⟩ => h .non σ ρ H A S (B.G.le (Nat.le_add_right _ _) w) Ge.refl .non⟩
theorem js_set (i : Nat) {x : Str} {pos' : Pos} (h : JE X B e n p) (hN : X.N.Nodup) (hi : X.N[i]? = some x := by rfl) (hx : Loc X.env.scope x := by first | exact Or.inl rfl | exact Or.inr rfl) (hs : swapsWith e (some (.Name x pos')) pos.line X.env = pure false := by rfl)
    (hf : X.fn x = true ∨ X.env.scope.names.lookup x = some .local := by first | exact .inl rfl | exact .inr rfl | assumption) : JS X B (.Assign [.Name x pos'] e pos) n (sSet i p) :=
  ⟨sSet.mono h.mono, ps_weak (ps_set hN hi hx h.run hs hf) fun D σ H ⟨ρ, A, m, st, S, w, l, z⟩ => ⟨ρ, A, m, st, S, w, l, h.mono _ _ _ _ _ _ (fun d ρ' st' y v H' A' S' w' g' a => y _ H' A' (S'.assign a) w' g') (fun x ρ' st' y cls dx H' A' S' w' a => y cls dx σ H' A' S' w' a) z⟩⟩
theorem js_setF (i : Nat) {x : Str} {pos' : Pos} {p : Px ST FV} (h : JF X B e n p) (hN : X.N.Nodup) (hi : X.N[i]? = some x := by rfl) (hx : Loc X.env.scope x := by first | exact Or.inl rfl | exact Or.inr rfl) (hs : swapsWith e (some (.Name x pos')) pos.line X.env = pure false := by rfl)
    (hf : X.fn x = true ∨ X.env.scope.names.lookup x = some .local := by first | exact .inl rfl | exact .inr rfl | assumption) : JS X B (.Assign [.Name x pos'] e pos) n (sSetF i p) :=
  ⟨sSetF.mono h.mono, ps_weak (ps_set hN hi hx h.run hs hf) fun D σ H ⟨ρ, A, m, st, S, w, l, z⟩ => ⟨ρ, A, m, st, S, w, l, h.mono _ _ _ _ _ _ (fun f ρ' st' y v H' A' S' w' g' r => by
      obtain ⟨a, e, fa, na, nm, n0, no, nl⟩ := r
      subst e
      exact y _ H' A' (S'.assignF fa na nm n0 no nl) w' g') (fun x ρ' st' y cls dx H' A' S' w' a => y cls dx σ H' A' S' w' a) z⟩⟩
theorem js_expr (h : JE X B e n p) (hs : swapsWith e none pos.line X.env = pure false := by rfl) : JS X B (.Expr e pos) n (sDrop p) :=
  ⟨sDrop.mono h.mono, ps_weak (ps_expr h.run hs) fun D σ H ⟨ρ, A, m, st, S, w, l, z⟩ => ⟨ρ, A, m, st, S, w, l, h.mono _ _ _ _ _ _ (fun d ρ' st' y v H' A' S' w' g' a => y σ H' A' S' w' g') (fun x ρ' st' y cls dx H' A' S' w' a => y cls dx σ H' A' S' w' a) z⟩⟩
theorem js_if {c : Expr} {a b : List Stmt} {u : Px ST Bool} (hc : JT X B c n u) (ha : JSs X B a n1 P) (hb : JSs X B b n2 Q) : JS X B (.If c a b pos) (n + (n1 + n2)) (sIf u P Q) :=
  ⟨sIf.mono hc.mono ha.mono hb.mono, ps_weak (ps_if hc.run ha.run hb.run) fun D σ H ⟨ρ, A, m, st, S, w, l, z⟩ => ⟨ρ, A, m, st, S, w, by omega, hc.mono _ _ _ _ _ _ (fun b0 ρ' st' y v H' A' S' w' g' r => by
      have r' : v = b0 := r
      subst r'
      cases v with
      | true => exact ⟨ρ', A', m + n, st', S', w', by omega, ha.mono _ _ _ _ (imp_at g' (by omega)) y⟩
      | false => exact ⟨ρ', A', m + n, st', S', w', by omega, hb.mono _ _ _ _ (imp_at g' (by omega)) y⟩) (fun x ρ' st' y cls dx H' A' S' w' a => y cls dx σ H' A' S' (B.G.le (by omega) w') a) z⟩⟩
end

/-! ### a def's contract -/
abbrev PSp (ST : Type) := List D → ST → (D → ST → Prop) → (Exn → ST → Prop) → Prop
def Fr (A : Addr → Prop) (H : Hp) : Addr → Prop := fun a => A a ∨ H a = none
def Aft (G : Gh ST) (H H' : Hp) : Prop := (∀ a, ¬ G.M a → H a ≠ none → H' a = H a) ∧ ∀ a, G.M a → H' a ≠ none
def spD (G : Gh ST) (K : PySem.W.Frag) (n : Nat) (ps : PSp ST) : Sp := fun vs H Q E => ∃ ds A m st, Ats K A H vs ds ∧ (∀ a, A a → H a ≠ none ∧ ¬ G.M a) ∧ (∀ a, G.M a → H a ≠ none) ∧ G.W m st H ∧ m + n ≤ G.top ∧
  ps ds st (fun d st' => ∀ v H', Aft G H H' → G.W (m + n) st' H' → At K (Fr A H) H' v d → Q v H') (fun x st' => ∀ cls dx H', Aft G H H' → G.W (m + n) st' H' → ExAt K (Fr A H) H' cls dx x → E cls dx H')
/-- the slots at the entry -/
def startE (N : List Str) (ds : List D) : Env := ds.map .dat ++ List.replicate (N.length - ds.length) .un
theorem start_sat {N : List Str} {vs : List V} {i : Nat} {v : V} (h : vs[i]? = some v) : sat (L2.start N vs) i = some v := by
  unfold sat L2.start
  have hl : i < vs.length := (List.getElem?_eq_some_iff.mp h).1
  rw [List.getElem?_append_left (by simpa using hl), List.getElem?_map, h]
  rfl
theorem sta_start {G : Gh ST} {K : PySem.W.Frag} {H : Hp} {A : Addr → Prop} {wx : WX} {N : List Str} {vs : List V} {ds : List D} (a : Ats K A H vs ds) (t : ∀ a, A a → H a ≠ none ∧ ¬ G.M a) (mt : ∀ a, G.M a → H a ≠ none) :
    Sta ⟨G, K, H, A, fun _ => False, fun _ => none, fun _ => False, wx⟩ A (L2.start N vs) H (startE N ds) := by
  refine ⟨fun _ _ _ _ _ => rfl, fun a o e => (by cases e), fun a h => .inl h, t, mt, ?_, fun i s e => ?_, fun i j s u b _ ei _ oi _ => ?_⟩
  · unfold L2.start startE
    rw [List.length_append, List.length_append, List.length_map, List.length_map, List.length_replicate, List.length_replicate, a.len]
  · unfold startE at e
    by_cases hi : i < ds.length
    · rw [List.getElem?_append_left (by simpa using hi), List.getElem?_map] at e
      cases q : ds[i]? with
      | none => rw [q] at e; cases e
      | some d =>
        rw [q] at e
        cases e
        obtain ⟨v, h1, h2⟩ := a.get q
        exact ⟨v, start_sat h1, h2⟩
    · rw [List.getElem?_append_right (by simpa using hi), List.getElem?_replicate] at e
      split at e
      · cases e
        trivial
      · cases e
  · unfold startE at ei
    by_cases hi : i < ds.length
    · rw [List.getElem?_append_left (by simpa using hi), List.getElem?_map] at ei
      cases q : ds[i]? with
      | none => rw [q] at ei; cases ei
      | some d => rw [q] at ei; cases ei; cases oi
    · rw [List.getElem?_append_right (by simpa using hi), List.getElem?_replicate] at ei
      split at ei
      · cases ei
        cases oi
      · cases ei
/-- behind a def's body -/
theorem Sta.out {G : Gh ST} {K : PySem.W.Frag} {H0 H' : Hp} {A A' : Addr → Prop} {wx : WX} {σ : L2.St} {ρ : Env} (S : Sta ⟨G, K, H0, A, fun _ => False, fun _ => none, fun _ => False, wx⟩ A' σ H' ρ) : Aft G H0 H' ∧ Ge A' H' (Fr A H0) H' :=
  ⟨⟨fun a hm hn => S.base a hm (fun z => z) rfl hn, S.mtrk⟩, fun a h => ⟨by
    rcases S.new a h with z | z | z
    · exact .inl z
    · exact .inr z
    · exact z.elim, Keep.refl⟩⟩
/-- THE RULE for a def -/
theorem fn_pp {P : Program} {w : World} {K : PySem.W.Frag} {mg : Str → Option Value} {base : Heap} {x qual : Str} {params : Arguments} {body : List Stmt} {scope : Scope} {dvs : List V} {kws : List (Str × V)} {f : Addr} {fd : FuncData} {N ps : List Str} {k n : Nat} {G : Gh ST} {psp : PSp ST} {PB : PSx ST}
    (F : FunD K x qual params body scope dvs kws f fd) (S : FnScope N ps scope) (len : ∀ ds st Q R, psp ds st Q R → ds.length = ps.length)
    (hbody : ∀ (cdv : Value) (A : Around) (outer : List PySem.Env) (s : Shared) (H H0 : Hp) (E : XK) (A0 : Addr → Prop) (wx : WX), Room k (A.deeper (envOfC qual scope s.heap.objs.size f cdv)) → Takes (cxOf (L2.CX P w) P w K mg base N qual scope f cdv A outer s H E) wx →
      JSs (cxOf (L2.CX P w) P w K mg base N qual scope f cdv A outer s H E) (⟨G, K, H0, A0, fun _ => False, fun _ => none, fun _ => False, wx⟩ : Bs ST) body n PB)
    (hspec : ∀ ds st Q R, psp ds st Q R → PB { nx := fun _ st' => Q .non st', rt := Q, ex := fun x _ st' => R x st' } (startE N ds) st) : FnOk P w K mg base (L2.CX P w) (k + 1) f fd ps (spD G K n psp) := by
  refine F.ok S (fun vs H Q E h => ?_) (fun cdv A outer s H vs Q E hr h => ?_)
  · obtain ⟨ds, A, m, st, a, _, _, _, _, h⟩ := h
    rw [a.len]
    exact len _ _ _ _ h
  · obtain ⟨ds, A0, m, st, a, t, mt, W, l, h⟩ := h
    have T : Takes (cxOf (L2.CX P w) P w K mg base N qual scope f cdv A outer s H E) (fun cls d _ H' => E cls d H') := takes_of rfl rfl rfl rfl
    have J := hbody cdv A outer s H H E A0 (fun cls d _ H' => E cls d H') hr T
    refine ⟨_, J.run, startE N ds, A0, m, st, sta_start a t mt, W, l, J.mono { nx := fun _ st' => _, rt := fun d st' => _, ex := fun x _ st' => _ } _ _ _ ?_ (hspec ds st _ _ h)⟩
    refine ⟨fun ρ' st' z σ' H' A' S' w' g' => ?_, fun d st' z v σ' ρ' H' A' S' w' g' a' => ?_, fun _ _ z => False.elim z, fun _ _ z => False.elim z, fun x ρ' st' z cls dx σ' H' A' S' w' a' => ?_⟩
    · exact z .non H' S'.out.1 w' .non
    · exact z v H' S'.out.1 w' (a'.ge S'.out.2)
    · exact z cls dx H' S'.out.1 w' (a'.ge S'.out.2)
end PP

set_option Elab.async false
set_option linter.all false
set_option maxRecDepth 100000
set_option maxHeartbeats 1000000
namespace PP
open PySem PySem.Spec PyProof.Rows L2
variable {ST : Type}

/-! ### calls of own defs -/
def MonoC (psp : PSp ST) : Prop := ∀ ds st (Q Q' : D → ST → Prop) (R R' : Exn → ST → Prop), (∀ d st', Q d st' → Q' d st') → (∀ x st', R x st' → R' x st') → psp ds st Q R → psp ds st Q' R'
def pCall (psp : PSp ST) (dds : List D) (pa : Px ST (List D)) : Px ST D := fun ρ st Q R => pa ρ st (fun ds ρ1 st1 => psp (ds ++ dds) st1 (fun d st2 => Q d ρ1 st2) fun x st2 => R x ρ1 st2) R
theorem pCall.mono {psp : PSp ST} {dds : List D} {pa : Px ST (List D)} (hp : MonoC psp) (ha : Mono pa) : Mono (pCall psp dds pa) := fun ρ st Q Q' R R' h1 h2 h =>
  ha _ _ _ _ _ _ (fun ds ρ1 st1 z => hp _ _ _ _ _ _ (fun d st2 y => h1 _ _ _ y) (fun x st2 y => h2 _ _ _ y) z) h2 h
section
variable {B : Bs ST} {n : Nat} {A1 : Addr → Prop} {m1 : Nat} {H1 : Hp} {σ : L2.St} {ρ1 : Env} {st1 : ST}
/-- the addresses behind a call -/
def Nw (A : Addr → Prop) (H H' : Hp) : Addr → Prop := fun a => A a ∨ (H a = none ∧ H' a ≠ none)
theorem At.nw {K : PySem.W.Frag} {A : Addr → Prop} {H H' : Hp} {v : V} {d : D} (h : At K (Fr A H) H' v d) : At K (Nw A H H') H' v d := h.trk.ge fun a z => ⟨by
  rcases z.1 with y | y
  · exact .inl y
  · exact .inr ⟨y, z.2⟩, Keep.refl⟩
theorem ExAt.trk {K : PySem.W.Frag} {A : Addr → Prop} {H : Hp} {cls : Value} {dx : Option Addr} {x : Exn} (h : ExAt K A H cls dx x) : ExAt K (fun a => A a ∧ H a ≠ none) H cls dx x := by
  cases h with
  | non => exact .non _
  | fs h1 h2 t => exact .fs ⟨h1, nn_of h2⟩ h2 t.trk
theorem ExAt.nw {K : PySem.W.Frag} {A : Addr → Prop} {H H' : Hp} {cls : Value} {dx : Option Addr} {x : Exn} (h : ExAt K (Fr A H) H' cls dx x) : ExAt K (Nw A H H') H' cls dx x := h.trk.ge fun a z => ⟨by
  rcases z.1 with y | y
  · exact .inl y
  · exact .inr ⟨y, z.2⟩, Keep.refl⟩
theorem Sta.aft {H' : Hp} (S : Sta B A1 σ H1 ρ1) (f : Aft B.G H1 H') : Sta B (Nw A1 H1 H') σ H' ρ1 := S.step (fun a hn hm => f.1 a hm hn) f.2 (fun a h => .inl h) fun a h => h
theorem Sta.ge_aft {H' : Hp} (S : Sta B A1 σ H1 ρ1) (f : Aft B.G H1 H') : Ge A1 H1 (Nw A1 H1 H') H' := fun a h => ⟨.inl h, .of_eq (f.1 a (S.trk a h).2 (S.trk a h).1)⟩
/-- what is wished behind a call: the callee's contract at these arguments -/
theorem spD_of {psp : PSp ST} {vs : List V} {ds : List D} {Q : VK} (hp : MonoC psp) (S : Sta B A1 σ H1 ρ1) (w : B.G.W m1 st1 H1) (l : m1 + n ≤ B.G.top) (a : Ats B.K A1 H1 vs ds)
    (h : psp ds st1 (fun d st2 => post B (relE B.K) n A1 m1 H1 σ Q d ρ1 st2) fun x st2 => postX B n m1 σ x ρ1 st2) : spD B.G B.K n psp vs H1 Q (WE B.wx σ) :=
  ⟨ds, A1, m1, st1, a, S.trk, S.mtrk, w, l, hp _ _ _ _ _ _ (fun d st2 z v H' f w' av => z v H' _ (S.aft f) w' (S.ge_aft f) av.nw) (fun x st2 z cls dx H' f w' ax => z cls dx H' _ (S.aft f) w' ax.nw) h⟩
end
section
variable {X : Cx} {B : Bs ST} {k : Nat} {f C : Addr} {fd : FuncData} {ps : List Str} {psp : PSp ST} {dvs : List V} {dds : List D} {ds : List Value} {x m : Str} {p pos apos : Pos} {e o : Expr} {es : List Expr} {n1 n2 no : Nat} {pa : Px ST (List D)} {po : Px ST D}
theorem pe_callSD0 {sp : Sp} {E : L2.St → XK} (F : FnOk X.prog X.w X.K X.mg X.base (L2.CX X.prog X.w) k f fd ps sp) (hr : Room k X.A) (hg : Gl X x) (hm : X.mg x = some (.ref f)) (hk : PySem.W.keepIn X.K (.ref f) = true) (hb : Binds X.K fd ps ds) (hd : Vals dvs ds) (hx : ∀ σ, PassesAt (L2.CX X.prog X.w) X σ (E σ))
    (hdb : (x == ("__debug__" : Str)) = false := by decide) : PE X (.Call (.Name x p) [] [] pos) (tCallSD sp dvs E tNil) := by
  refine ⟨fun pins s σ H Q I h => ?_⟩
  refine wpAny_Call_Name_kw (ld_glob I hg hm ?_ hdb)
  exact PySem.W.callWith_K0 I.kIn hk (run_fnSD (us := []) F hr hb hd (hx σ) I .nil h)
theorem je_call (tk : Takes X B.wx) (hp : MonoC psp) (hK : X.K = B.K) (F : FnOk X.prog X.w X.K X.mg X.base (L2.CX X.prog X.w) k f fd ps (spD B.G B.K n2 psp)) (hr : Room k X.A) (hg : Gl X x) (hm : X.mg x = some (.ref f)) (hk : PySem.W.keepIn X.K (.ref f) = true) (hb : Binds X.K fd ps ds) (hd : Vals dvs ds)
    (hdd : ∀ A H, Ats B.K A H dvs dds) (ha : JA X B (e :: es) n1 pa) (hdb : (x == ("__debug__" : Str)) = false := by decide) (he : starEach (e :: es) X.env = (false, eval e X.env) :: starEach es X.env := by rfl) (hpl : (backTo pos (starEach es X.env)).any (·.1) = false := by rfl) :
    JE X B (.Call (.Name x p) (e :: es) [] pos) (n1 + n2) (pCall psp dds pa) :=
  ⟨pCall.mono hp ha.mono, pe_weak (pe_callSD F hr hg hm hk hb hd (passAt tk) ha.run hdb he hpl) fun σ H Q ⟨ρ, A, m, st, S, w, l, h⟩ =>
    ⟨ρ, A, m, st, S, w, by omega, ha.mono _ _ _ _ _ _ (fun dl ρ1 st1 z vs H1 A1 S1 w1 g1 a1 => spD_of hp S1 w1 (by omega) (a1.append (hdd _ _))
      (hp _ _ _ _ _ _ (fun d st2 y => y.later g1) (fun x st2 y => y.later) z)) (fun x ρ1 st1 z => z.first) h⟩⟩
theorem je_call0 (tk : Takes X B.wx) (hp : MonoC psp) (hK : X.K = B.K) (F : FnOk X.prog X.w X.K X.mg X.base (L2.CX X.prog X.w) k f fd ps (spD B.G B.K n2 psp)) (hr : Room k X.A) (hg : Gl X x) (hm : X.mg x = some (.ref f)) (hk : PySem.W.keepIn X.K (.ref f) = true) (hb : Binds X.K fd ps ds) (hd : Vals dvs ds)
    (hdd : ∀ A H, Ats B.K A H dvs dds) (hdb : (x == ("__debug__" : Str)) = false := by decide) : JE X B (.Call (.Name x p) [] [] pos) n2 (pCall psp dds pNil) :=
  ⟨pCall.mono hp mono_ret, pe_weak (pe_callSD0 F hr hg hm hk hb hd (passAt tk) hdb) fun σ H Q ⟨ρ, A, m, st, S, w, l, h⟩ => spD_of hp S w l (hdd _ _) h⟩
/-! ### methods -/
def tMethSD (C : Addr) (m : Str) (sp : Sp) (dvs : List V) (E : L2.St → XK) (ta : TE) (t : TA) : TE := fun σ H Q => ta σ H fun x H1 => ∃ a dx fs, x = .ref a ∧ H1 a = some (.ins C dx fs) ∧ fs.lookup m = none ∧ t σ H1 fun vs H2 => sp (x :: (vs ++ dvs)) H2 Q (E σ)
theorem pe_methSD {sp : Sp} {E : L2.St → XK} {ta : TE} {t : TA} {pl : Sem Bool} (he : PE X o ta) (c : Cls X.K C) (hm : Meth X.K C m f) (F : FnOk X.prog X.w X.K X.mg X.base (L2.CX X.prog X.w) k f fd ps sp) (hr : Room k X.A) (hb : Binds X.K fd ps ds) (hd : Vals dvs ds) (hx : ∀ σ, PassesAt (L2.CX X.prog X.w) X σ (E σ)) (ha : PA X (e :: es) t)
    (hst : starEach (e :: es) X.env = (false, eval e X.env) :: starEach es X.env := by rfl) (hpl : (backTo pos (starEach es X.env)).any (·.1) = false := by rfl)
    (ht : eval (.Call (.Attribute o m apos) (e :: es) [] pos) X.env = (do
      let ov ← eval o X.env
      standAt apos.atName
      let (f, first) ← holding [ov] (getMethod ov m pl)
      callWith pos f first (backTo pos (starEach (e :: es) X.env)) (backToKw pos (keywordEach [] X.env))) := by rfl) :
    PE X (.Call (.Attribute o m apos) (e :: es) [] pos) (tMethSD C m sp dvs E ta t) := by
  refine ⟨fun pins s σ H Q I h => ?_⟩
  refine PySem.W.methodCall_KW (pl := pl) (thn (he.run pins s σ H _ I h) fun u s1 ⟨x, H1, I1, rx, a, dx, fs, ex, ea, l, q⟩ => ?_) ht
  subst ex
  obtain rfl : u = Value.ref a := rx
  refine getmeth_ok I1 ea c hm l ?_
  refine PySem.W.callWith_K (first := [.ref a]) (h₀ := X.base) I.ok.mod.kin hm.kp (thn (ha.run pos pins s1 σ H1 _ I1 q) fun us s2 ⟨vs, H2, I2, r, q2⟩ => ⟨I2.kIn, ?_⟩) hst hpl
  exact run_fnSD (us := .ref a :: us) (vs := .ref a :: vs) F hr hb hd (hx σ) I2 (.cons rfl r) q2
theorem pe_methSD0 {sp : Sp} {E : L2.St → XK} {ta : TE} {pl : Sem Bool} (he : PE X o ta) (c : Cls X.K C) (hm : Meth X.K C m f) (F : FnOk X.prog X.w X.K X.mg X.base (L2.CX X.prog X.w) k f fd ps sp) (hr : Room k X.A) (hb : Binds X.K fd ps ds) (hd : Vals dvs ds) (hx : ∀ σ, PassesAt (L2.CX X.prog X.w) X σ (E σ))
    (ht : eval (.Call (.Attribute o m apos) [] [] pos) X.env = (do
      let ov ← eval o X.env
      standAt apos.atName
      let (f, first) ← holding [ov] (getMethod ov m pl)
      callWith pos f first (backTo pos (starEach [] X.env)) (backToKw pos (keywordEach [] X.env))) := by rfl) :
    PE X (.Call (.Attribute o m apos) [] [] pos) (tMethSD C m sp dvs E ta tNil) := by
  refine ⟨fun pins s σ H Q I h => ?_⟩
  refine PySem.W.methodCall_KW (pl := pl) (thn (he.run pins s σ H _ I h) fun u s1 ⟨x, H1, I1, rx, a, dx, fs, ex, ea, l, q⟩ => ?_) ht
  subst ex
  obtain rfl : u = Value.ref a := rx
  refine getmeth_ok I1 ea c hm l ?_
  exact PySem.W.callWith_K0 (first := [.ref a]) I1.kIn hm.kp (run_fnSD (us := [.ref a]) (vs := [.ref a]) F hr hb hd (hx σ) I1 (.cons rfl .nil) q)
def pMeth (C : Addr) (m : Str) (psp : PSp ST) (dds : List D) (po : Px ST D) (pa : Px ST (List D)) : Px ST D := bindP po fun d => fun ρ st Q R => ∃ fs, d = .ins C fs ∧ fs.lookup m = none ∧ pa ρ st (fun ds ρ1 st1 => psp (d :: (ds ++ dds)) st1 (fun d st2 => Q d ρ1 st2) fun x st2 => R x ρ1 st2) R
theorem pMeth.mono (hp : MonoC psp) (ho : Mono po) (ha : Mono pa) : Mono (pMeth C m psp dds po pa) := bindP.mono ho fun d ρ st Q Q' R R' h1 h2 ⟨fs, e1, e2, h⟩ => ⟨fs, e1, e2,
  ha _ _ _ _ _ _ (fun ds ρ1 st1 z => hp _ _ _ _ _ _ (fun d st2 y => h1 _ _ _ y) (fun x st2 y => h2 _ _ _ y) z) h2 h⟩
theorem je_meth (tk : Takes X B.wx) (hp : MonoC psp) (hK : X.K = B.K) {pl : Sem Bool} (he : JE X B o no po) (c : Cls X.K C) (hm : Meth X.K C m f) (F : FnOk X.prog X.w X.K X.mg X.base (L2.CX X.prog X.w) k f fd ps (spD B.G B.K n2 psp)) (hr : Room k X.A) (hb : Binds X.K fd ps ds) (hd : Vals dvs ds) (hdd : ∀ A H, Ats B.K A H dvs dds)
    (ha : JA X B (e :: es) n1 pa)
    (hst : starEach (e :: es) X.env = (false, eval e X.env) :: starEach es X.env := by rfl) (hpl : (backTo pos (starEach es X.env)).any (·.1) = false := by rfl)
    (ht : eval (.Call (.Attribute o m apos) (e :: es) [] pos) X.env = (do
      let ov ← eval o X.env
      standAt apos.atName
      let (f, first) ← holding [ov] (getMethod ov m pl)
      callWith pos f first (backTo pos (starEach (e :: es) X.env)) (backToKw pos (keywordEach [] X.env))) := by rfl) :
    JE X B (.Call (.Attribute o m apos) (e :: es) [] pos) (no + (n1 + n2)) (pMeth C m psp dds po pa) := by
  refine ⟨pMeth.mono hp he.mono ha.mono, pe_weak (pe_methSD (pl := pl) he.run c hm F hr hb hd (passAt tk) ha.run hst hpl ht) fun σ H Q ⟨ρ, A, m0, st, S, w, l, h⟩ => ?_⟩
  refine run_bind (rel' := relE B.K) (n2 := n1 + n2) he.mono (fun d ρ st Q Q' R R' h1 h2 ⟨fs, e1, e2, h⟩ => ⟨fs, e1, e2,
    ha.mono _ _ _ _ _ _ (fun ds ρ1 st1 z => hp _ _ _ _ _ _ (fun d st2 y => h1 _ _ _ y) (fun x st2 y => h2 _ _ _ y) z) h2 h⟩) S w l h ?_
  intro v H1 d ρ1 A1 m1 st1 a1 S1 w1 l1 g1 ⟨fs, ed, ef, h1⟩
  subst ed
  cases a1 with
  | @ins a _ dx vs _ aa ea at_ =>
    refine ⟨a, dx, vs, rfl, ea, ?_, ρ1, A1, m1, st1, S1, w1, by omega, ha.mono _ _ _ _ _ _ (fun dl ρ2 st2 z us H2 A2 S2 w2 g2 a2 => ?_) (fun x ρ2 st2 z => z.first) h1⟩
    · rcases at_.look m with z | ⟨v, d, _, z, _⟩
      · exact z.1
      · rw [ef] at z; cases z
    · exact spD_of hp S2 w2 (by omega) (.cons ((At.ins aa ea at_).ge g2) (a2.append (hdd _ _))) (hp _ _ _ _ _ _ (fun d st2 y => y.later g2) (fun x st2 y => y.later) z)
theorem je_meth0 (tk : Takes X B.wx) (hp : MonoC psp) (hK : X.K = B.K) {pl : Sem Bool} (he : JE X B o no po) (c : Cls X.K C) (hm : Meth X.K C m f) (F : FnOk X.prog X.w X.K X.mg X.base (L2.CX X.prog X.w) k f fd ps (spD B.G B.K n2 psp)) (hr : Room k X.A) (hb : Binds X.K fd ps ds) (hd : Vals dvs ds) (hdd : ∀ A H, Ats B.K A H dvs dds)
    (ht : eval (.Call (.Attribute o m apos) [] [] pos) X.env = (do
      let ov ← eval o X.env
      standAt apos.atName
      let (f, first) ← holding [ov] (getMethod ov m pl)
      callWith pos f first (backTo pos (starEach [] X.env)) (backToKw pos (keywordEach [] X.env))) := by rfl) :
    JE X B (.Call (.Attribute o m apos) [] [] pos) (no + n2) (pMeth C m psp dds po pNil) := by
  refine ⟨pMeth.mono hp he.mono mono_ret, pe_weak (pe_methSD0 (pl := pl) he.run c hm F hr hb hd (passAt tk) ht) fun σ H Q ⟨ρ, A, m0, st, S, w, l, h⟩ => ?_⟩
  refine run_bind (rel' := relE B.K) (n2 := n2) he.mono (fun d ρ st Q Q' R R' h1 h2 ⟨fs, e1, e2, h⟩ => ⟨fs, e1, e2,
    mono_ret (d := ([] : List D)) _ _ _ _ _ _ (fun ds ρ1 st1 z => hp _ _ _ _ _ _ (fun d st2 y => h1 _ _ _ y) (fun x st2 y => h2 _ _ _ y) z) h2 h⟩) S w l h ?_
  intro v H1 d ρ1 A1 m1 st1 a1 S1 w1 l1 g1 ⟨fs, ed, ef, h1⟩
  subst ed
  cases a1 with
  | @ins a _ dx vs _ aa ea at_ =>
    refine ⟨a, dx, vs, rfl, ea, ?_, spD_of hp S1 w1 l1 (.cons (At.ins aa ea at_) (hdd _ _)) h1⟩
    rcases at_.look m with z | ⟨v, d, _, z, _⟩
    · exact z.1
    · rw [ef] at z; cases z
end
end PP

set_option Elab.async false
set_option linter.all false
set_option maxRecDepth 100000
set_option maxHeartbeats 1000000
namespace PP
open PySem PySem.Spec PyProof.Rows L2
variable {ST : Type}

/-! ### methods that change a thing of one's own -/
def OwnM (B : Bs ST) (T : String) (r : V → List V → Hp → VK → Prop) (f : Sl → List D → (Sl → D → Prop) → Prop) : Prop := ∀ A H a s vs ds (k : Sl → D → Prop) (Q : VK), SlotAt B A H (some (.ref a)) s → s.own = true → Ats B.K A H vs ds → f s ds k →
  (∀ s' d v o, s'.own = true → k s' d → SlotAt B A (upd H a o) (some (.ref a)) s' → At B.K A (upd H a o) v d → Q v (upd H a o)) → r (.ref a) vs H Q
def OwnT (K : PySem.W.Frag) (B : Bs ST) (T : String) (f : Sl → Prop) : Prop := ∀ A H a s, SlotAt B A H (some (.ref a)) s → f s → s.own = true → tyV K T (.ref a) H
def isL : Sl → Prop
  | .ownL _ => True
  | _ => False
def isD : Sl → Prop
  | .ownD _ => True
  | _ => False
theorem isL_ty {K : PySem.W.Frag} {B : Bs ST} : OwnT K B "list" isL := fun A H a s h hs o => by
  cases s with
  | ownL ds =>
    obtain ⟨b, vs, e1, e2, _⟩ := h
    cases e1
    exact .inl ⟨rfl, vs, .of e2⟩
  | _ => exact hs.elim
theorem isD_ty {K : PySem.W.Frag} {B : Bs ST} : OwnT K B "dict" isD := fun A H a s h hs o => by
  cases s with
  | ownD ds =>
    obtain ⟨b, vs, e1, e2, _⟩ := h
    cases e1
    exact .inr (.inr (.inl ⟨rfl, .inl ⟨vs, e2⟩⟩))
  | _ => exact hs.elim
def pOwn (i : Nat) (isT : Sl → Prop) (f : Sl → List D → (Sl → D → Prop) → Prop) (pa : Px ST (List D)) : Px ST D := fun ρ st Q R => (∃ s, ρ[i]? = some s ∧ s.own = true ∧ isT s) ∧
  pa ρ st (fun ds ρ1 st1 => ∃ s, ρ1[i]? = some s ∧ s.own = true ∧ f s ds fun s' d => s'.own = true ∧ Q d (ρ1.set i s') st1) R
def MonO (f : Sl → List D → (Sl → D → Prop) → Prop) : Prop := ∀ s ds (k k' : Sl → D → Prop), (∀ s' d, k s' d → k' s' d) → f s ds k → f s ds k'
theorem pOwn.mono {i : Nat} {isT : Sl → Prop} {f : Sl → List D → (Sl → D → Prop) → Prop} {pa : Px ST (List D)} (hf : MonO f) (ha : Mono pa) : Mono (pOwn i isT f pa) := fun ρ st Q Q' R R' h1 h2 ⟨e, h⟩ =>
  ⟨e, ha _ _ _ _ _ _ (fun ds ρ1 st1 ⟨s, e1, o1, z⟩ => ⟨s, e1, o1, hf _ _ _ _ (fun s' d y => ⟨y.1, h1 _ _ _ y.2⟩) z⟩) h2 h⟩
section
variable {X : Cx} {B : Bs ST} {x : Str} {es : List Expr} {e : Expr} {n : Nat} {pa : Px ST (List D)} {p1 apos cpos : Pos} {T id : String} {name : Str} {r : V → List V → Hp → VK → Prop} {f : Sl → List D → (Sl → D → Prop) → Prop} {isT : Sl → Prop}
theorem own_run {σ : L2.St} {H : Hp} {Q : VK} {i : Nat} (hs : OwnM B T r f) (ht : OwnT X.K B T isT) (hf : MonO f) (ha : Mono pa) (h : liftE B n (pOwn i isT f pa) σ H Q) : tBM X.K T r (tVar i) (liftA B n pa) σ H Q := by
  obtain ⟨ρ, A, m, st, S, w, l, ⟨s0, e0, o0, t0⟩, h⟩ := h
  have sl0 := S.slot i s0 e0
  obtain ⟨a, x1, _⟩ := sl0.own_at o0
  refine ⟨.ref a, sat_of x1, ht A H a s0 (by rw [x1] at sl0; exact sl0) t0 o0, ρ, A, m, st, S, w, l, ha _ _ _ _ _ _ (fun ds ρ1 st1 z vs H1 A1 S1 w1 g1 a1 => ?_) (fun _ _ _ z => z) h⟩
  obtain ⟨s1, e1, o1, z⟩ := z
  have sl1 := S1.slot i s1 e1
  rw [x1] at sl1
  refine hs A1 H1 a s1 vs ds _ Q sl1 o1 a1 z fun s' d v o os' k sl' av => ?_
  obtain ⟨S2, g2, w2⟩ := S1.write (i := i) e1 o1 x1 os' sl'
  exact k.2 v _ A1 S2 (w2 _ _ w1) (g1.trans g2) av
theorem je_own (i : Nat) (hs : OwnM B T r f) (ht : OwnT X.K B T isT) (hf : MonO f) (pt : PlainAttrs T) (slot : Slot T name id) (hty : typeOf (.builtin id) = pure (.type "method_descriptor")) (hm : MtR X id r) (ha : JA X B (e :: es) n pa)
    (hN : X.N[i]? = some x := by rfl) (hv : Vis X.env.scope x := by first | exact Or.inl rfl | exact Or.inr (Or.inl rfl) | exact Or.inr (Or.inr rfl)) (hd : (x == ("__debug__" : Str)) = false := by decide) (hcd : (x == ("__classdict__" : Str)) = false := by decide)
    (hbase : attributeBase (.Name x p1) name X.env (eval (.Name x p1) X.env) = eval (.Name x p1) X.env := by rfl)
    (hfew : ((backTo cpos (starEach (e :: es) X.env)).all (fun x => !x.1) && (backToKw cpos (keywordEach [] X.env)).all (fun x => x.1.isSome)
      && decide ((e :: es).length + ([] : List Keyword).length + (if ([] : List Keyword).isEmpty then 0 else 1) < 30)) = true := by rfl)
    (hline : (apos.endLine == cpos.line) = true := by rfl) (hst : starEach (e :: es) X.env = (false, eval e X.env) :: starEach es X.env := by rfl) (hplain : (backTo cpos (starEach es X.env)).any (·.1) = false := by rfl) :
    JE X B (.Call (.Attribute (.Name x p1) name apos) (e :: es) [] cpos) n (pOwn i isT f pa) :=
  ⟨pOwn.mono hf ha.mono, pe_weak (pe_bm pt slot hty hm (pe_var hN hv hd hcd) ha.run hbase hfew hline hst hplain) fun σ H Q h => own_run hs ht hf ha.mono h⟩
theorem je_own0 (i : Nat) (hs : OwnM B T r f) (ht : OwnT X.K B T isT) (hf : MonO f) (pt : PlainAttrs T) (slot : Slot T name id) (hty : typeOf (.builtin id) = pure (.type "method_descriptor")) (hm : MtR X id r)
    (hN : X.N[i]? = some x := by rfl) (hv : Vis X.env.scope x := by first | exact Or.inl rfl | exact Or.inr (Or.inl rfl) | exact Or.inr (Or.inr rfl)) (hd : (x == ("__debug__" : Str)) = false := by decide) (hcd : (x == ("__classdict__" : Str)) = false := by decide)
    (hbase : attributeBase (.Name x p1) name X.env (eval (.Name x p1) X.env) = eval (.Name x p1) X.env := by rfl)
    (hline : (apos.endLine == cpos.line) = true := by rfl) :
    JE X B (.Call (.Attribute (.Name x p1) name apos) [] [] cpos) 0 (pOwn i isT f pNil) :=
  ⟨pOwn.mono hf mono_ret, pe_weak (pe_bm0 pt slot hty hm (pe_var hN hv hd hcd) hbase hline) fun σ H Q h => own_run (pa := pNil) hs ht hf mono_ret ((lift_imp (pOwn.mono hf mono_ret) (fun _ _ z => z) h)) |> fun ⟨x0, e0, t0, ρ, A, m, st, S, w, l, z⟩ => ⟨x0, e0, t0, post.here (rel := relA B.K) z S w .nil⟩⟩
end

/-! ### lists -/
section
variable {B : Bs ST}
theorem own_new {A : Addr → Prop} {H : Hp} {a : Addr} {xs ys : List D} {vs ws : List V} (h : SlotAt B A H (some (.ref a)) (.ownL xs)) (e : Ats B.K A H ws ys) : SlotAt B A (upd H a (.lst ws)) (some (.ref a)) (.ownL ys) := by
  obtain ⟨b, us, e1, e2, e3, e4, e5, e6⟩ := h
  cases e1
  exact ⟨a, ws, rfl, upd_same, e.ge fun c hc => ⟨hc, .of_eq (upd_ne fun z => e4 (by rw [← z]; exact hc))⟩, e4, e5, e6⟩
theorem own_newD {A : Addr → Prop} {H : Hp} {a : Addr} {xs ys : List (Key × D)} {ws : List (Key × V)} (h : SlotAt B A H (some (.ref a)) (.ownD xs)) (e : Atk B.K A H Key ws ys) : SlotAt B A (upd H a (.dK ws)) (some (.ref a)) (.ownD ys) := by
  obtain ⟨b, us, e1, e2, e3, e4, e5, e6⟩ := h
  cases e1
  exact ⟨a, ws, rfl, upd_same, e.ge fun c hc => ⟨hc, .of_eq (upd_ne fun z => e4 (by rw [← z]; exact hc))⟩, e4, e5, e6⟩
theorem own_ge {A : Addr → Prop} {H : Hp} {a : Addr} {s : Sl} {o : HO} (h : SlotAt B A H (some (.ref a)) s) (os : s.own = true) : Ge A H A (upd H a o) := by
  obtain ⟨b, x1, _, x3, _⟩ := h.own_at os
  cases x1
  exact fun c hc => ⟨hc, .of_eq (upd_ne fun z => x3 (by rw [← z]; exact hc))⟩
def mAppend (s : Sl) (ds : List D) (k : Sl → D → Prop) : Prop := match s, ds with
  | .ownL xs, [d] => xs.length < sizeLine ∧ k (.ownL (xs ++ [d])) .non
  | _, _ => False
theorem mAppend.mono : MonO mAppend := fun s ds k k' h q => by
  unfold mAppend at q ⊢
  split at q
  · exact ⟨q.1, h _ _ q.2⟩
  · exact q
theorem append_s : OwnM B "list" rAppend mAppend := fun A H a s vs ds k Q sl os av z hq => by
  unfold mAppend at z
  split at z
  · rename_i xs d
    cases av with
    | cons a1 a2 =>
      cases a2
      obtain ⟨b, us, e1, e2, e3, e4⟩ := id sl
      cases e1
      exact ⟨a, us, _, rfl, rfl, e2, by rw [e3.len]; exact z.1, hq _ _ _ _ rfl z.2 (own_new (vs := us) sl (e3.snoc a1)) .non⟩
  · exact z.elim
def mPopAt (s : Sl) (ds : List D) (k : Sl → D → Prop) : Prop := match s, ds with
  | .ownL xs, [.int i] => -(2 ^ 63) ≤ i ∧ i < 2 ^ 63 ∧ ∃ j d, seqIndex? i xs.length = some j ∧ xs[j]? = some d ∧ k (.ownL (xs.eraseIdx j)) d
  | _, _ => False
theorem mPopAt.mono : MonO mPopAt := fun s ds k k' h q => by
  unfold mPopAt at q ⊢
  split at q
  · obtain ⟨q1, q2, j, d, q3, q4, q5⟩ := q
    exact ⟨q1, q2, j, d, q3, q4, h _ _ q5⟩
  · exact q
theorem popAt_s : OwnM B "list" rPopAt mPopAt := fun A H a s vs ds k Q sl os av z hq => by
  unfold mPopAt at z
  split at z
  · rename_i xs i
    obtain ⟨q1, q2, j, d, q3, q4, q5⟩ := z
    cases av with
    | cons a1 a2 =>
      cases a2
      cases a1
      obtain ⟨b, us, e1, e2, e3, e4⟩ := id sl
      cases e1
      obtain ⟨v, v1, v2⟩ := e3.get q4
      exact ⟨a, us, i, j, v, rfl, rfl, e2, q1, q2, by rw [e3.len]; exact q3, v1, hq _ _ _ _ rfl q5 (own_new (vs := us) sl (e3.eraseIdx j)) (v2.ge (own_ge sl os))⟩
  · exact z.elim
def mPop (s : Sl) (ds : List D) (k : Sl → D → Prop) : Prop := match s, ds with
  | .ownL xs, [] => ∃ d, xs[xs.length - 1]? = some d ∧ k (.ownL xs.dropLast) d
  | _, _ => False
theorem mPop.mono : MonO mPop := fun s ds k k' h q => by
  unfold mPop at q ⊢
  split at q
  · obtain ⟨d, q3, q5⟩ := q
    exact ⟨d, q3, h _ _ q5⟩
  · exact q
theorem pop_s : OwnM B "list" rPop mPop := fun A H a s vs ds k Q sl os av z hq => by
  unfold mPop at z
  split at z
  · rename_i xs
    obtain ⟨d, q3, q5⟩ := z
    cases av
    obtain ⟨b, us, e1, e2, e3, e4⟩ := id sl
    cases e1
    obtain ⟨v, v1, v2⟩ := e3.get q3
    exact ⟨a, us, v, rfl, rfl, e2, by rw [e3.len]; exact v1, hq _ _ _ _ rfl q5 (own_new (vs := us) sl e3.dropLast) (v2.ge (own_ge sl os))⟩
  · exact z.elim
def mInsert (s : Sl) (ds : List D) (k : Sl → D → Prop) : Prop := match s, ds with
  | .ownL xs, [.int i, d] => xs.length < sizeLine ∧ 0 ≤ i ∧ i < 2 ^ 63 ∧ k (.ownL (xs.take i.toNat ++ [d] ++ xs.drop i.toNat)) .non
  | _, _ => False
theorem mInsert.mono : MonO mInsert := fun s ds k k' h q => by
  unfold mInsert at q ⊢
  split at q
  · exact ⟨q.1, q.2.1, q.2.2.1, h _ _ q.2.2.2⟩
  · exact q
theorem insert_s : OwnM B "list" (fun x vs H Q => ∃ (l : Addr) (xs : List V) (i : Int) (y : V), x = .ref l ∧ vs = [.int i, y] ∧ H l = some (.lst xs) ∧ xs.length < sizeLine ∧ 0 ≤ i ∧ i < 2 ^ 63 ∧ Q .non (upd H l (.lst (xs.take i.toNat ++ [y] ++ xs.drop i.toNat)))) mInsert := fun A H a s vs ds k Q sl os av z hq => by
  unfold mInsert at z
  split at z
  · rename_i xs i d
    obtain ⟨q1, q2, q3, q5⟩ := z
    cases av with
    | cons a1 a2 =>
      cases a1
      cases a2 with
      | cons a2 a3 =>
        cases a3
        obtain ⟨b, us, e1, e2, e3, e4⟩ := id sl
        cases e1
        exact ⟨a, us, i, _, rfl, rfl, e2, by rw [e3.len]; exact q1, q2, q3, hq _ _ _ _ rfl q5 (own_new (vs := us) sl (((e3.take _).append (.one a2)).append (e3.drop _))) .non⟩
  · exact z.elim
end
section
variable {X : Cx} {B : Bs ST} {x : Str} {e : Expr} {n : Nat} {pa : Px ST (List D)} {p1 apos cpos : Pos}
/-- name.append(e) -/
theorem je_append (i : Nat) (ha : JA X B [e] n pa) (hN : X.N[i]? = some x := by rfl) (hv : Vis X.env.scope x := by first | exact Or.inl rfl | exact Or.inr (Or.inl rfl) | exact Or.inr (Or.inr rfl)) (hd : (x == ("__debug__" : Str)) = false := by decide) (hcd : (x == ("__classdict__" : Str)) = false := by decide)
    (hbase : attributeBase (.Name x p1) "append" X.env (eval (.Name x p1) X.env) = eval (.Name x p1) X.env := by rfl)
    (hfew : ((backTo cpos (starEach [e] X.env)).all (fun x => !x.1) && (backToKw cpos (keywordEach [] X.env)).all (fun x => x.1.isSome)
      && decide ([e].length + ([] : List Keyword).length + (if ([] : List Keyword).isEmpty then 0 else 1) < 30)) = true := by rfl)
    (hline : (apos.endLine == cpos.line) = true := by rfl) (hst : starEach [e] X.env = (false, eval e X.env) :: starEach [] X.env := by rfl) (hplain : (backTo cpos (starEach [] X.env)).any (·.1) = false := by rfl) :
    JE X B (.Call (.Attribute (.Name x p1) "append" apos) [e] [] cpos) n (pOwn i isL mAppend pa) := je_own i append_s isL_ty mAppend.mono PySem.F.plainAttrs_list PySem.F.slot_list_append PySem.F.type_list_append mt_append ha hN hv hd hcd hbase hfew hline hst hplain
theorem je_popAt (i : Nat) (ha : JA X B [e] n pa) (hN : X.N[i]? = some x := by rfl) (hv : Vis X.env.scope x := by first | exact Or.inl rfl | exact Or.inr (Or.inl rfl) | exact Or.inr (Or.inr rfl)) (hd : (x == ("__debug__" : Str)) = false := by decide) (hcd : (x == ("__classdict__" : Str)) = false := by decide)
    (hbase : attributeBase (.Name x p1) "pop" X.env (eval (.Name x p1) X.env) = eval (.Name x p1) X.env := by rfl)
    (hfew : ((backTo cpos (starEach [e] X.env)).all (fun x => !x.1) && (backToKw cpos (keywordEach [] X.env)).all (fun x => x.1.isSome)
      && decide ([e].length + ([] : List Keyword).length + (if ([] : List Keyword).isEmpty then 0 else 1) < 30)) = true := by rfl)
    (hline : (apos.endLine == cpos.line) = true := by rfl) (hst : starEach [e] X.env = (false, eval e X.env) :: starEach [] X.env := by rfl) (hplain : (backTo cpos (starEach [] X.env)).any (·.1) = false := by rfl) :
    JE X B (.Call (.Attribute (.Name x p1) "pop" apos) [e] [] cpos) n (pOwn i isL mPopAt pa) := je_own i popAt_s isL_ty mPopAt.mono PySem.F.plainAttrs_list PySem.F.slot_list_pop PySem.F.type_list_pop mt_popAt ha hN hv hd hcd hbase hfew hline hst hplain
theorem je_pop (i : Nat) (hN : X.N[i]? = some x := by rfl) (hv : Vis X.env.scope x := by first | exact Or.inl rfl | exact Or.inr (Or.inl rfl) | exact Or.inr (Or.inr rfl)) (hd : (x == ("__debug__" : Str)) = false := by decide) (hcd : (x == ("__classdict__" : Str)) = false := by decide)
    (hbase : attributeBase (.Name x p1) "pop" X.env (eval (.Name x p1) X.env) = eval (.Name x p1) X.env := by rfl) (hline : (apos.endLine == cpos.line) = true := by rfl) :
    JE X B (.Call (.Attribute (.Name x p1) "pop" apos) [] [] cpos) 0 (pOwn i isL mPop pNil) := je_own0 i pop_s isL_ty mPop.mono PySem.F.plainAttrs_list PySem.F.slot_list_pop PySem.F.type_list_pop mt_pop hN hv hd hcd hbase hline
theorem je_insert {e2 : Expr} (i : Nat) (ha : JA X B [e, e2] n pa) (hN : X.N[i]? = some x := by rfl) (hv : Vis X.env.scope x := by first | exact Or.inl rfl | exact Or.inr (Or.inl rfl) | exact Or.inr (Or.inr rfl)) (hd : (x == ("__debug__" : Str)) = false := by decide) (hcd : (x == ("__classdict__" : Str)) = false := by decide)
    (hbase : attributeBase (.Name x p1) "insert" X.env (eval (.Name x p1) X.env) = eval (.Name x p1) X.env := by rfl)
    (hfew : ((backTo cpos (starEach [e, e2] X.env)).all (fun x => !x.1) && (backToKw cpos (keywordEach [] X.env)).all (fun x => x.1.isSome)
      && decide ([e, e2].length + ([] : List Keyword).length + (if ([] : List Keyword).isEmpty then 0 else 1) < 30)) = true := by rfl)
    (hline : (apos.endLine == cpos.line) = true := by rfl) (hst : starEach [e, e2] X.env = (false, eval e X.env) :: starEach [e2] X.env := by rfl) (hplain : (backTo cpos (starEach [e2] X.env)).any (·.1) = false := by rfl) :
    JE X B (.Call (.Attribute (.Name x p1) "insert" apos) [e, e2] [] cpos) n (pOwn i isL mInsert pa) := je_own i insert_s isL_ty mInsert.mono PySem.F.plainAttrs_list PySem.F.slot_list_insert PySem.F.type_list_insert mt_insert ha hN hv hd hcd hbase hfew hline hst hplain

/-! ### name[k] = v, a dict of one's own -/
def dKey : D → Option Key
  | .int i => some (.inl i)
  | .str s => some (.inr s)
  | _ => none
theorem dKey_at {K : PySem.W.Frag} {A : Addr → Prop} {H : Hp} {v : V} {d : D} {k : Key} (a : At K A H v d) (h : dKey d = some k) : v = kV k := by
  cases a <;> first | (cases h; rfl) | (exact nomatch h)
def sPutD (i : Nat) (pk pv : Px ST D) : PSx ST := fun Dd ρ st => pv ρ st (fun d ρ1 st1 => (∃ xs, ρ1[i]? = some (.ownD xs)) ∧ pk ρ1 st1 (fun y ρ2 st2 => ∃ xs k, ρ2[i]? = some (.ownD xs) ∧ dKey y = some k ∧ xs.length < sizeLine ∧ Dd.nx (ρ2.set i (.ownD (putD xs k d))) st2) Dd.ex) Dd.ex
theorem sPutD.mono {i : Nat} {pk pv : Px ST D} (hk : Mono pk) (hv : Mono pv) : MonoS (sPutD i pk pv) := fun Dd Dd' ρ st im h =>
  hv _ _ _ _ _ _ (fun d ρ1 st1 ⟨z1, z⟩ => ⟨z1, hk _ _ _ _ _ _ (fun y ρ2 st2 ⟨xs, k, q1, q2, q3, q4⟩ => ⟨xs, k, q1, q2, q3, im.nx _ _ q4⟩) im.ex z⟩) im.ex h
theorem js_putD {k v : Expr} {nk nv : Nat} {pk pv : Px ST D} {pos pos' : Pos} (i : Nat) (hu : X.A.units + 1 < cLine) (hk : JE X B k nk pk) (hv : JE X B v nv pv) (hs : swapsWith v (some (.Subscript (.Name x p1) k pos')) pos.line X.env = pure false := by rfl)
    (hN : X.N[i]? = some x := by rfl) (hvis : Vis X.env.scope x := by first | exact Or.inl rfl | exact Or.inr (Or.inl rfl) | exact Or.inr (Or.inr rfl)) (hd : (x == ("__debug__" : Str)) = false := by decide) (hcd : (x == ("__classdict__" : Str)) = false := by decide) :
    JS X B (.Assign [.Subscript (.Name x p1) k pos'] v pos) (nv + nk) (sPutD i pk pv) := by
  refine ⟨sPutD.mono hk.mono hv.mono, ps_weak (ps_dput hu (pe_var hN hvis hd hcd) hk.run hv.run hs) fun Dd σ H ⟨ρ, A, m, st, S, w, l, h⟩ => ?_⟩
  refine ⟨ρ, A, m, st, S, w, by omega, hv.mono _ _ _ _ _ _ (fun d ρ1 st1 z u H1 A1 S1 w1 g1 a1 => ?_) (fun x0 ρ' st' y cls dx H' A' S' w' a => y cls dx σ H' A' S' (B.G.le (by omega) w') a) h⟩
  obtain ⟨⟨xs0, e0⟩, z⟩ := z
  obtain ⟨b, us0, x1, _⟩ := S1.slot i _ e0
  refine ⟨.ref b, sat_of x1, ρ1, A1, m + nv, st1, S1, w1, by omega, hk.mono _ _ _ _ _ _ (fun y ρ2 st2 z2 yv H2 A2 S2 w2 g2 a2 => ?_) (fun x0 ρ' st' y cls dx H' A' S' w' a => y cls dx σ H' A' S' (by rw [← Nat.add_assoc]; exact w') a) z⟩
  obtain ⟨xs, kk, e2, ek, hl, q⟩ := z2
  have sl := S2.slot i _ e2
  rw [x1] at sl
  obtain ⟨b', us, y1, y2, y3, y4⟩ := id sl
  cases y1
  have ey := dKey_at a2 ek
  subst ey
  have new := own_newD sl (y3.put kk (a1.ge g2))
  obtain ⟨S3, g3, w3⟩ := S2.write (i := i) e2 rfl x1 rfl new
  exact ⟨b, _, rfl, .k y2 (by rw [y3.len]; exact hl), q σ _ A2 S3 (w3 _ _ (by rw [← Nat.add_assoc]; exact w2)) ((g1.trans g2).trans g3)⟩
end
end PP

set_option Elab.async false
set_option linter.all false
set_option maxRecDepth 100000
set_option maxHeartbeats 1000000
namespace PP
open PySem PySem.Spec PyProof.Rows L2
variable {ST : Type}

/-! ### targets -/
abbrev TgP := D → Env → (Env → Prop) → Prop
abbrev TgsP := List D → Env → (Env → Prop) → Prop
theorem wipe_at {σ : L2.St} : ∀ {vs : List Nat} {j : Nat}, (wipe σ vs)[j]? = if j ∈ vs ∧ j < σ.length then some none else σ[j]?
  | [], j => by simp [wipe]
  | v :: vs, j => by
    unfold wipe
    by_cases h : v = j
    · subst h
      by_cases hl : v < σ.length
      · rw [List.getElem?_set_self (by rw [wipe_length]; exact hl)]
        simp [hl]
      · rw [List.getElem?_eq_none (by rw [List.length_set, wipe_length]; omega)]
        simp [hl]
    · rw [List.getElem?_set_ne h, wipe_at]
      have : j ∈ v :: vs ↔ j ∈ vs := by simp [Ne.symm h]
      simp [this]
theorem wipe_same {σ σ' : L2.St} {vs : List Nat} (hl : σ'.length = σ.length) (h : ∀ j, j ∉ vs → σ'[j]? = σ[j]?) : wipe σ' vs = wipe σ vs := by
  apply List.ext_getElem?
  intro j
  rw [wipe_at, wipe_at, hl]
  by_cases hj : j ∈ vs
  · by_cases hlt : j < σ.length
    · simp [hj, hlt]
    · simp only [hj, hlt, and_false, if_false]
      rw [List.getElem?_eq_none (by omega : σ'.length ≤ j), List.getElem?_eq_none (by omega : σ.length ≤ j)]
  · simp [hj]
    exact h j hj
/-- the slots idx may change -/
def Off (idx : List Nat) (σ σ' : L2.St) : Prop := σ'.length = σ.length ∧ ∀ j, j ∉ idx → σ'[j]? = σ[j]?
theorem Off.refl {idx : List Nat} {σ : L2.St} : Off idx σ σ := ⟨rfl, fun _ _ => rfl⟩
theorem Off.trans {i j : List Nat} {σ σ1 σ2 : L2.St} (h : Off i σ σ1) (k : Off j σ1 σ2) : Off (i ++ j) σ σ2 :=
  ⟨k.1.trans h.1, fun l hl => (k.2 l fun z => hl (List.mem_append_right _ z)).trans (h.2 l fun z => hl (List.mem_append_left _ z))⟩
theorem Off.sub {i j : List Nat} {σ σ1 : L2.St} (h : Off i σ σ1) (k : ∀ l ∈ i, l ∈ j) : Off j σ σ1 := ⟨h.1, fun l hl => h.2 l fun z => hl (k l z)⟩
def liftG (B : Bs ST) (idx : List Nat) (g : TgP) : TG := fun v σ H Q => ∃ ρ A d, Sta B A σ H ρ ∧ At B.K A H v d ∧ g d ρ fun ρ' => ∀ σ', Sta B A σ' H ρ' → Off idx σ σ' → Q σ' H
def liftGs (B : Bs ST) (idx : List Nat) (g : TgsP) : TGs := fun vs σ H Q => ∃ ρ A ds, Sta B A σ H ρ ∧ Ats B.K A H vs ds ∧ g ds ρ fun ρ' => ∀ σ', Sta B A σ' H ρ' → Off idx σ σ' → Q σ' H
structure JG (X : Cx) (B : Bs ST) (tg : Expr) (idx : List Nat) (g : TgP) : Prop where
  mono : ∀ d ρ (Q Q' : Env → Prop), (∀ ρ', Q ρ' → Q' ρ') → g d ρ Q → g d ρ Q'
  run : PG X tg (liftG B idx g)
structure JGs (X : Cx) (B : Bs ST) (tgs : List Expr) (idx : List Nat) (g : TgsP) : Prop where
  mono : ∀ d ρ (Q Q' : Env → Prop), (∀ ρ', Q ρ' → Q' ρ') → g d ρ Q → g d ρ Q'
  run : PGs X tgs (liftGs B idx g)
theorem pg_weak {X : Cx} {e : Expr} {t t' : TG} (h : PG X e t) (k : ∀ v σ H Q, t' v σ H Q → t v σ H Q) : PG X e t' := ⟨fun pins s σ H v u Q I r w => h.run pins s σ H v u Q I r (k v σ H Q w)⟩
theorem pgs_weak {X : Cx} {e : List Expr} {t t' : TGs} (h : PGs X e t) (k : ∀ v σ H Q, t' v σ H Q → t v σ H Q) : PGs X e t' := ⟨fun pins s σ H v u Q I r w => h.run pins s σ H v u Q I r (k v σ H Q w)⟩
def gN (i : Nat) : TgP := fun d ρ Q => Q (ρ.set i (.dat d))
def gsNil : TgsP := fun ds ρ Q => ds = [] ∧ Q ρ
def gsCons (g : TgP) (h : TgsP) : TgsP := fun ds ρ Q => match ds with
  | d :: r => g d ρ fun ρ' => h r ρ' Q
  | [] => False
def gT (g : TgsP) : TgP := fun d ρ Q => match d with
  | .tup es => g es ρ Q
  | _ => False
section
variable {X : Cx} {B : Bs ST} {pos : Pos}
theorem jg_name (i : Nat) {x : Str} (hN : X.N.Nodup) (hi : X.N[i]? = some x := by rfl) (hx : Loc X.env.scope x := by first | exact Or.inl rfl | exact Or.inr rfl) (hf : X.fn x = true ∨ X.env.scope.names.lookup x = some .local := by first | exact .inl rfl | exact .inr rfl | assumption) :
    JG X B (.Name x pos) [i] (gN i) := ⟨fun d ρ Q Q' h q => h _ q, pg_weak (pg_name hN hi hx hf) fun v σ H Q ⟨ρ, A, d, S, a, z⟩ => z _ (S.assign a) ⟨List.length_set, fun j hj => List.getElem?_set_ne (by simp at hj; exact Ne.symm hj)⟩⟩
theorem jgs_nil : JGs X B [] [] gsNil := ⟨fun d ρ Q Q' h q => ⟨q.1, h _ q.2⟩, pgs_weak pgs_nil fun v σ H Q ⟨ρ, A, d, S, a, e, z⟩ => ⟨by subst e; cases a; rfl, z _ S .refl⟩⟩
theorem jgs_cons {e : Expr} {es : List Expr} {i j : List Nat} {g : TgP} {h : TgsP} (h1 : JG X B e i g) (h2 : JGs X B es j h) (hs : (assignEach (e :: es) X.env).map (·.2) = assign e X.env :: (assignEach es X.env).map (·.2) := by rfl) : JGs X B (e :: es) (i ++ j) (gsCons g h) := by
  refine ⟨fun ds ρ Q Q' k q => ?_, pgs_weak (pgs_cons h1.run h2.run hs) fun vs σ H Q ⟨ρ, A, ds, S, a, z⟩ => ?_⟩
  · cases ds with
    | nil => exact q
    | cons d r => exact h1.mono _ _ _ _ (fun ρ' z => h2.mono _ _ _ _ k z) q
  · cases a with
    | nil => exact (show False from z).elim
    | @cons v vs d ds a1 a2 =>
      have z' : g d ρ fun ρ' => h ds ρ' fun ρ'' => ∀ σ', Sta B A σ' H ρ'' → Off (i ++ j) σ σ' → Q σ' H := z
      exact ⟨v, vs, rfl, ρ, A, d, S, a1, h1.mono _ _ _ _ (fun ρ' y σ' S' o' => ⟨ρ', A, ds, S', a2, h2.mono _ _ _ _ (fun ρ'' y2 σ2 S2 o2 => y2 σ2 S2 (o'.trans o2)) y⟩) z'⟩
theorem jg_tup {es : List Expr} {k : Nat} {i : List Nat} {g : TgsP} {n : Nat} (hK : X.K = B.K) (hc : X.calm = true) (h : JGs X B es i g) (hl : ∀ ds ρ Q, g ds ρ Q → ds.length = n) (hn : (assignEach es X.env).length = n := by rfl) (hst : (assignEach es X.env).findIdx? (·.1) = none := by rfl) :
    JG X B (.Tuple es k pos) i (gT g) := by
  refine ⟨fun d ρ Q Q' k q => ?_, pg_weak (pg_tup hc h.run hn hst) fun v σ H Q ⟨ρ, A, d, S, a, z⟩ => ?_⟩
  · cases d <;> first | exact h.mono _ _ _ _ k q | exact q
  · cases a with
    | tup h1 h2 => exact ⟨_, _, rfl, by rw [hK]; exact h1.sq, by rw [h2.len]; exact hl _ _ _ z, ρ, A, _, S, h2, z⟩
    | _ => exact (show False from z).elim
theorem gs_len0 : ∀ ds ρ Q, gsNil ds ρ Q → ds.length = 0 := fun ds ρ Q h => by rw [h.1]; rfl
theorem gs_len {i n : Nat} {h : TgsP} (k : ∀ ds ρ Q, h ds ρ Q → ds.length = n) : ∀ ds ρ Q, gsCons (gN i) h ds ρ Q → ds.length = n + 1 := fun ds ρ Q z => by
  cases ds with
  | nil => exact (show False from z).elim
  | cons d r => rw [List.length_cons, k r _ _ z]
/-- target = value -/
def sAsg (p : Px ST D) (g : TgP) : PSx ST := fun Dd ρ st => p ρ st (fun d ρ1 st1 => g d ρ1 fun ρ2 => Dd.nx ρ2 st1) Dd.ex
theorem js_asg {tg e : Expr} {n : Nat} {p : Px ST D} {i : List Nat} {g : TgP} (he : JE X B e n p) (hg : JG X B tg i g) (hs : swapsWithSole [tg] e pos.line X.env = pure false := by rfl) (hw : swappedStores [tg] e X.env = pure none := by rfl)
    (h1 : (assignEach [tg] X.env).map (·.2) = [assign tg X.env] := by rfl) : JS X B (.Assign [tg] e pos) n (sAsg p g) :=
  ⟨fun Dd Dd' ρ st im h => he.mono _ _ _ _ _ _ (fun d ρ1 st1 z => hg.mono _ _ _ _ (fun ρ2 y => im.nx _ _ y) z) im.ex h,
    ps_weak (ps_asg he.run hg.run hs hw h1) fun Dd σ H ⟨ρ, A, m, st, S, w, l, h⟩ => ⟨ρ, A, m, st, S, w, l, he.mono _ _ _ _ _ _ (fun d ρ1 st1 z v H1 A1 S1 w1 g1 a1 =>
      ⟨ρ1, A1, d, S1, a1, hg.mono _ _ _ _ (fun ρ2 y σ2 S2 _ => y σ2 H1 A1 S2 w1 g1) z⟩) (fun x ρ1 st1 z cls dx H1 A1 S1 w1 a1 => z cls dx σ H1 A1 S1 w1 a1) h⟩⟩
end

/-! ### iterators -/
def GoodW (K : PySem.W.Frag) (A1 : Addr → Prop) (H1 : Hp) (G : Hp → Prop) (Y : Nat → Hp → V → Hp → Prop) (ds : List D) : Prop := (∀ A2 H2, Ge A1 H1 A2 H2 → G H2) ∧
  ∀ i A2 H2 x H3, i < ds.length → Ge A1 H1 A2 H2 → Y i H2 x H3 → ∃ d, ds[i]? = some d ∧ ((H3 = H2 ∧ At K A2 H2 x d) ∨ ∃ p vs es, H2 p = none ∧ H3 = upd H2 p (.tup vs) ∧ x = .ref p ∧ d = .tup es ∧ Ats K A2 H2 vs es)
def liftI (B : Bs ST) (n : Nat) (p : Px ST (List D)) : TI := fun σ H R => ∃ ρ A m st, Sta B A σ H ρ ∧ B.G.W m st H ∧ m + n ≤ B.G.top ∧ p ρ st (fun ds ρ1 st1 => ∀ J H1 A1 G Y, Sta B A1 σ H1 ρ1 → B.G.W (m + n) st1 H1 → Ge A H A1 H1 →
  Walk J ds.length G Y → GoodW B.K A1 H1 G Y ds → R J H1) (postX B n m σ)
structure JI (X : Cx) (B : Bs ST) (tg iter : Expr) (n : Nat) (p : Px ST (List D)) : Prop where
  mono : Mono p
  run : PI X tg iter (liftI B n p)
theorem pi_weak {X : Cx} {tg e : Expr} {t t' : TI} (h : PI X tg e t) (k : ∀ σ H R, t' σ H R → t σ H R) : PI X tg e t' := ⟨fun pins s σ H R I w => h.run pins s σ H R I (k σ H R w)⟩
section
variable {X : Cx} {B : Bs ST} {tg e : Expr} {n : Nat} {p : Px ST D} {pa : Px ST (List D)} {pos pp : Pos}
/-- a list or a tuple -/
def iSeq (K : PySem.W.Frag) (tl : TE) : TI := fun σ H R => tl σ H fun x H1 => ∃ a, x = .ref a ∧ (((∃ xs, SqL K H1 a xs) ∧ R (Itl K a) H1) ∨ ((∃ xs, SqT K H1 a xs) ∧ R (Itt K a) H1))
theorem pi_seq {tl : TE} (hl : PE X e tl) : PI X tg e (iSeq X.K tl) := by
  refine ⟨fun pins s σ H R I h => ?_⟩
  refine thn (hl.run pins s σ H _ I h) fun v s1 ⟨x, H1, I1, r1, q1⟩ => ?_
  obtain ⟨a, e, ⟨⟨xs, hq⟩, q⟩ | ⟨⟨xs, hq⟩, q⟩⟩ := q1
  · subst e
    cases r1
    obtain ⟨its, rv, p, hz⟩ := I1.list hq
    refine wpAny_pyIter_list p.isList ?_
    refine ⟨s1.heap.objs.size, [s1.heap.objs.size], _, _, H1, rfl, I1.kept (t' := s1.toks) fun b o e => Heap.get?_push_of_some _ e, turn_list a _, ⟨_, Heap.get?_push_size _ rfl, rfl, rfl⟩, fun b hb => ?_, q⟩
    have e : b = s1.heap.objs.size := by simpa using hb
    subst e
    exact I1.fpOk (Nat.le_refl _) (I1.hok.fresh (Nat.le_refl _))
  · subst e
    cases r1
    obtain ⟨its, rv, p, hz⟩ := I1.tuple hq
    refine wpAny_pyIter_tuple (show s1.heap.IsTuple a its.toArray from p) ?_
    refine ⟨s1.heap.objs.size, [s1.heap.objs.size], _, _, H1, rfl, I1.kept (t' := s1.toks) fun b o e => Heap.get?_push_of_some _ e, turn_tuple a _, ⟨_, Heap.get?_push_size _ rfl, rfl, rfl⟩, fun b hb => ?_, q⟩
    have e : b = s1.heap.objs.size := by simpa using hb
    subst e
    exact I1.fpOk (Nat.le_refl _) (I1.hok.fresh (Nat.le_refl _))
def seqD (d : D) (Q : List D → Prop) : Prop := match d with
  | .lst xs => Q xs
  | .tup xs => Q xs
  | _ => False
theorem seqD.mono (d : D) (Q Q' : List D → Prop) (h : ∀ d, Q d → Q' d) (q : seqD d Q) : seqD d Q' := by
  unfold seqD at q ⊢
  cases d <;> first | exact h _ q | exact q
def pSeq (p : Px ST D) : Px ST (List D) := bindP p fun d => retP (seqD d)
theorem good_seq {K : PySem.W.Frag} {A1 : Addr → Prop} {H1 : Hp} {G : Hp → Prop} {xs : List V} {ds : List D} (a : Ats K A1 H1 xs ds) (g : ∀ A2 H2, Ge A1 H1 A2 H2 → G H2) : GoodW K A1 H1 G (YAt xs) ds :=
  ⟨g, fun i A2 H2 x H3 hi ge y => by
    obtain ⟨d, e, at_⟩ := a.getv y.2
    exact ⟨d, e, .inl ⟨y.1, at_.ge ge⟩⟩⟩
theorem ji_seq (hK : X.K = B.K) (h : JE X B e n p) : JI X B tg e n (pSeq p) :=
  ⟨bindP.mono h.mono fun d => retP.mono (seqD.mono d), pi_weak (pi_seq h.run) fun σ H R ⟨ρ, A, m, st, S, w, l, z⟩ => ⟨ρ, A, m, st, S, w, l, h.mono _ _ _ _ _ _ (fun d ρ1 st1 y v H1 A1 S1 w1 g1 a1 => by
    have y' := y
    rw [hK]
    cases a1 with
    | lst h1 h2 h3 => exact ⟨_, rfl, .inl ⟨⟨_, .of h2⟩, y _ H1 A1 _ _ S1 w1 g1 (by rw [← h3.len]; exact walk_list) (good_seq h3 fun A2 H2 ge => SqL.of ((ge _ h1).2.lst h2))⟩⟩
    | tup h1 h2 => exact ⟨_, rfl, .inr ⟨⟨_, h1.sq⟩, y _ H1 A1 _ _ S1 w1 g1 (by rw [← h2.len]; exact walk_tup) (good_seq h2 fun A2 H2 ge => (h1.ge ge).sq)⟩⟩
    | _ => exact (show False from y).elim) (fun x ρ1 st1 y => y) z⟩⟩
/-- range -/
def rangeD (ds : List D) (Q : List D → Prop) : Prop := match ds with
  | [.int j] => -(2 ^ 62) ≤ j ∧ j < 2 ^ 62 ∧ Q ((List.range j.toNat).map fun k : Nat => D.int (k : Int))
  | _ => False
def rangeD2 (ds : List D) (Q : List D → Prop) : Prop := match ds with
  | [.int i, .int j] => (-(2 ^ 62) ≤ i ∧ i < 2 ^ 62 ∧ -(2 ^ 62) ≤ j ∧ j < 2 ^ 62) ∧ Q ((List.range (j - i).toNat).map fun k : Nat => D.int (i + (k : Int)))
  | _ => False
theorem rangeD.mono (ds : List D) (Q Q' : List D → Prop) (h : ∀ d, Q d → Q' d) (q : rangeD ds Q) : rangeD ds Q' := by
  unfold rangeD at q ⊢
  split at q
  · exact ⟨q.1, q.2.1, h _ q.2.2⟩
  · exact q
theorem rangeD2.mono (ds : List D) (Q Q' : List D → Prop) (h : ∀ d, Q d → Q' d) (q : rangeD2 ds Q) : rangeD2 ds Q' := by
  unfold rangeD2 at q ⊢
  split at q
  · exact ⟨q.1, h _ q.2⟩
  · exact q
theorem good_range {K : PySem.W.Frag} {A1 : Addr → Prop} {H1 : Hp} {lo : Int} {n : Nat} : GoodW K A1 H1 (fun _ => True) (YFn fun i => .int (lo + i)) ((List.range n).map fun k : Nat => D.int (lo + (k : Int))) :=
  ⟨fun _ _ _ => trivial, fun i A2 H2 x H3 hi ge y => by
    have hi' : i < n := by simpa using hi
    refine ⟨.int (lo + i), ?_, .inl ⟨y.1, ?_⟩⟩
    · rw [List.getElem?_map, List.getElem?_range hi']
      rfl
    · rw [y.2]
      exact .int _⟩
theorem ji_range1 {a : Expr} (hg : Gl X "range") (hm : X.mg "range" = none) (ha : JA X B [a] n pa) (hs : starEach [a] X.env = [(false, eval a X.env)] := by rfl) : JI X B tg (.Call (.Name "range" pp) [a] [] pos) n (bindP pa fun ds => retP (rangeD ds)) :=
  ⟨bindP.mono ha.mono fun d => retP.mono (rangeD.mono d), pi_weak (pi_range1 hg hm ha.run hs) fun σ H R ⟨ρ, A, m, st, S, w, l, z⟩ => ⟨ρ, A, m, st, S, w, l, ha.mono _ _ _ _ _ _ (fun ds ρ1 st1 y v H1 A1 S1 w1 g1 a1 => by
    have y' : rangeD ds _ := y
    unfold rangeD at y'
    split at y'
    · obtain ⟨q1, q2, q3⟩ := y'
      cases a1 with
      | cons b1 b2 =>
        cases b1
        cases b2
        rename_i j
        have gr := good_range (K := B.K) (A1 := A1) (H1 := H1) (lo := 0) (n := j.toNat)
        simp only [Int.zero_add] at gr
        have wk := walk_range (lo := 0) (n := j.toNat)
        simp only [Int.zero_add] at wk
        exact ⟨_, rfl, q1, q2, q3 _ H1 A1 _ _ S1 w1 g1 (by rw [List.length_map, List.length_range]; exact wk) gr⟩
    · exact y'.elim) (fun x ρ1 st1 y => y) z⟩⟩
theorem ji_range2 {a b : Expr} (hg : Gl X "range") (hm : X.mg "range" = none) (ha : JA X B [a, b] n pa) (hs : starEach [a, b] X.env = [(false, eval a X.env), (false, eval b X.env)] := by rfl) (hs2 : starEach [b] X.env = [(false, eval b X.env)] := by rfl) : JI X B tg (.Call (.Name "range" pp) [a, b] [] pos) n (bindP pa fun ds => retP (rangeD2 ds)) :=
  ⟨bindP.mono ha.mono fun d => retP.mono (rangeD2.mono d), pi_weak (pi_range2 hg hm ha.run hs hs2) fun σ H R ⟨ρ, A, m, st, S, w, l, z⟩ => ⟨ρ, A, m, st, S, w, l, ha.mono _ _ _ _ _ _ (fun ds ρ1 st1 y v H1 A1 S1 w1 g1 a1 => by
    have y' : rangeD2 ds _ := y
    unfold rangeD2 at y'
    split at y'
    · obtain ⟨q1, q3⟩ := y'
      cases a1 with
      | cons b1 b2 =>
        cases b1
        cases b2 with
        | cons b2 b3 =>
          cases b2
          cases b3
          exact ⟨_, _, rfl, q1, q3 _ H1 A1 _ _ S1 w1 g1 (by rw [List.length_map, List.length_range]; exact walk_range) good_range⟩
    · exact y'.elim) (fun x ρ1 st1 y => y) z⟩⟩
/-- enumerate(list) -/
def numbered (xs : List D) : List D := xs.zipIdx.map fun p => .tup [.int (p.2 : Nat), p.1]
def enumD (ds : List D) (Q : List D → Prop) : Prop := match ds with
  | [.lst xs] => Q (numbered xs)
  | _ => False
theorem enumD.mono (ds : List D) (Q Q' : List D → Prop) (h : ∀ d, Q d → Q' d) (q : enumD ds Q) : enumD ds Q' := by
  unfold enumD at q ⊢
  split at q
  · exact h _ q
  · exact q
theorem ji_enum {a : Expr} {elts : List Expr} {kk : Nat} {tpos : Pos} (hK : X.K = B.K) (hg : Gl X "enumerate") (hm : X.mg "enumerate" = none) (ha : JA X B [a] n pa) (hs : starEach [a] X.env = [(false, eval a X.env)] := by rfl) : JI X B (.Tuple elts kk tpos) (.Call (.Name "enumerate" pp) [a] [] pos) n (bindP pa fun ds => retP (enumD ds)) :=
  ⟨bindP.mono ha.mono fun d => retP.mono (enumD.mono d), pi_weak (pi_enum hg hm ha.run hs) fun σ H R ⟨ρ, A, m, st, S, w, l, z⟩ => ⟨ρ, A, m, st, S, w, l, ha.mono _ _ _ _ _ _ (fun ds ρ1 st1 y v H1 A1 S1 w1 g1 a1 => by
    have y' : enumD ds _ := y
    unfold enumD at y'
    split at y'
    · rename_i xs
      rw [hK]
      cases a1 with
      | cons b1 b2 =>
        cases b2
        cases b1 with
        | @lst a vs _ h1 h2 h3 =>
          refine ⟨_, _, rfl, .of h2, y' _ H1 A1 _ _ S1 w1 g1 (by rw [show (numbered xs).length = vs.length by rw [h3.len]; simp [numbered]]; exact walk_enum) ⟨fun A2 H2 ge => SqL.of ((ge _ h1).2.lst h2), fun i A2 H2 x H3 hi ge yy => ?_⟩⟩
          obtain ⟨T, u, v, e1, e2, e3, e4, e5⟩ := yy
          cases e4
          obtain ⟨d, ed, at_⟩ := h3.getv e5
          exact ⟨.tup [.int i, d], by simp [numbered, ed], .inr ⟨T, _, _, e2, e3, e1, rfl, .cons (.int _) (.one (at_.ge ge))⟩⟩
    · exact y'.elim) (fun x ρ1 st1 y => y) z⟩⟩
end

/-! ### for -/
def loopEn (Dd : En ST) (k : Env → ST → Prop) : En ST := { Dd with nx := k, ct := k, bk := Dd.nx }
theorem loopEn.imp {Dd Dd' : En ST} (im : En.Imp Dd Dd') {k k' : Env → ST → Prop} (h : ∀ ρ st, k ρ st → k' ρ st) : En.Imp (loopEn Dd k) (loopEn Dd' k') := ⟨h, im.rt, im.nx, h, im.ex⟩
def forP (g : TgP) (P : PSx ST) (Dd : En ST) : List D → Env → ST → Prop
  | [], ρ, st => Dd.nx ρ st
  | d :: ds, ρ, st => g d ρ fun ρ1 => P (loopEn Dd fun ρ2 st2 => forP g P Dd ds ρ2 st2) ρ1 st
def sFor (c : Bool) (L : Nat) (p : Px ST (List D)) (g : TgP) (P : PSx ST) : PSx ST := fun Dd ρ st => p ρ st (fun ds ρ1 st1 => (c = true → ds.length ≤ L) ∧ forP g P Dd ds ρ1 st1) Dd.ex
def forI (B : Bs ST) (c0 nb : Nat) (A1 : Addr → Prop) (H1 : Hp) (g : TgP) (P : PSx ST) (E : En ST) (ds : List D) : Nat → L2.St → Hp → Prop := fun i σ2 H2 =>
  ∃ A2 ρ2 st2, Sta B A2 σ2 H2 ρ2 ∧ B.G.W (c0 + i * nb) st2 H2 ∧ Ge A1 H1 A2 H2 ∧ forP g P E (ds.drop i) ρ2 st2
section
variable {X : Cx} {B : Bs ST} {tg iter : Expr} {body : List Stmt} {pos : Pos} {n nb : Nat} {p : Px ST (List D)} {g : TgP} {P : PSx ST} {ix : List Nat}
theorem forP.mono (hg : ∀ d ρ (Q Q' : Env → Prop), (∀ ρ', Q ρ' → Q' ρ') → g d ρ Q → g d ρ Q') (hP : MonoS P) {Dd Dd' : En ST} (im : En.Imp Dd Dd') : ∀ ds ρ st, forP g P Dd ds ρ st → forP g P Dd' ds ρ st
  | [], ρ, st, h => im.nx _ _ h
  | d :: ds, ρ, st, h => hg _ _ _ _ (fun ρ1 z => hP _ _ _ _ (loopEn.imp im fun ρ2 st2 y => forP.mono hg hP im ds ρ2 st2 y) z) h
theorem js_for (c : Bool) (L : Nat) (hcl : c = false → nb = 0) (hp : PassesOwn (model X.prog X.w) X.A X.env X.xe) (hc : X.calm = true) (hi : JI X B tg iter n p) (hg : JG X B tg ix g) (hb : JSs X B body nb P)
    (hs : ∀ x, foldedSetIterable iter X.env x = pure x := by intro _; rfl) : JS X B (.For tg iter body [] pos) (n + L * nb) (sFor c L p g P) := by
  refine ⟨fun Dd Dd' ρ st im h => hi.mono _ _ _ _ _ _ (fun ds ρ1 st1 z => ⟨z.1, forP.mono hg.mono hb.mono im _ _ _ z.2⟩) im.ex h, ps_weak (ps_for hp hc hi.run hg.run hb.run hs) fun Dd σ H ⟨ρ, A, m, st, S, w, l, h⟩ => ?_⟩
  refine ⟨ρ, A, m, st, S, w, by omega, hi.mono _ _ _ _ _ _ (fun ds ρ1 st1 zz J H1 A1 G Y S1 w1 g1 wk gw => ?_) (fun x0 ρ' st' y cls dx H' A' S' w' a => y cls dx σ H' A' S' (B.G.le (by omega) w') a) h⟩
  obtain ⟨zl, z⟩ := zz
  have lb : ds.length * nb ≤ L * nb := by
    cases c with
    | true => exact Nat.mul_le_mul_right _ (zl rfl)
    | false => rw [hcl rfl]; omega
  refine for_it wk (Pv := forI B (m + n) nb A1 H1 g P (enOf B (n + L * nb) A m H Dd) ds) ⟨A1, ρ1, st1, S1, by simpa using w1, Ge.refl, z⟩ (fun i σ2 H2 hi ⟨A2, ρ2, st2, S2, w2, g2, z2⟩ => gw.1 A2 H2 g2)
    (fun i x σ2 H2 H3 hi zz y => ?_) (fun σ2 H2 ⟨A2, ρ2, st2, S2, w2, g2, z2⟩ => ?_)
  · obtain ⟨A2, ρ2, st2, S2, w2, g2, z2⟩ := zz
    obtain ⟨d, ed, q⟩ := gw.2 i A2 H2 x H3 hi g2 y
    have dr : ds.drop i = d :: ds.drop (i + 1) := by
      have e2 := List.getElem?_eq_some_iff.mp ed
      rw [List.drop_eq_getElem_cons e2.1, e2.2]
    rw [dr] at z2
    have step : (i + 1) * nb = i * nb + nb := by rw [Nat.succ_mul]
    have up : i * nb + nb ≤ ds.length * nb := by rw [← step]; exact Nat.mul_le_mul_right _ hi
    have go : ∀ A3, Sta B A3 σ2 H3 ρ2 → B.G.W (m + n + i * nb) st2 H3 → Ge A2 H2 A3 H3 → At B.K A3 H3 x d → liftG B ix g x σ2 H3 fun σ4 H4 => liftS B nb P { Dd with nx := forI B (m + n) nb A1 H1 g P (enOf B (n + L * nb) A m H Dd) ds (i + 1), ct := forI B (m + n) nb A1 H1 g P (enOf B (n + L * nb) A m H Dd) ds (i + 1), bk := Dd.nx } σ4 H4 := fun A3 S3 w3 g3 a3 => by
      refine ⟨ρ2, A3, d, S3, a3, hg.mono _ _ _ _ (fun ρ4 z4 σ4 S4 _ => ⟨ρ4, A3, m + n + i * nb, st2, S4, w3, by omega, hb.mono (loopEn (enOf B (n + L * nb) A m H Dd) fun ρ2 st2 => forP g P (enOf B (n + L * nb) A m H Dd) (ds.drop (i + 1)) ρ2 st2) _ _ _ ?_ z4⟩) z2⟩
      have g13 := g2.trans g3
      refine ⟨fun ρ5 st5 z5 σ5 H5 A5 S5 w5 g5 => ⟨A5, ρ5, st5, S5, by rw [step, ← Nat.add_assoc]; exact w5, g13.trans g5, z5⟩, fun d5 st5 z5 v5 σ5 ρ5 H5 A5 S5 w5 g5 a5 => z5 v5 σ5 ρ5 H5 A5 S5 (B.G.le (by omega) w5) (g1.trans (g13.trans g5)) a5,
        fun ρ5 st5 z5 σ5 H5 A5 S5 w5 g5 => z5 σ5 H5 A5 S5 (B.G.le (by omega) w5) (g1.trans (g13.trans g5)), fun ρ5 st5 z5 σ5 H5 A5 S5 w5 g5 => ⟨A5, ρ5, st5, S5, by rw [step, ← Nat.add_assoc]; exact w5, g13.trans g5, z5⟩,
        fun x5 ρ5 st5 z5 cls dx σ5 H5 A5 S5 w5 a5 => z5 cls dx σ5 H5 A5 S5 (B.G.le (by omega) w5) a5⟩
    rcases q with ⟨rfl, a3⟩ | ⟨p0, vs, es, hp0, rfl, rfl, rfl, a3⟩
    · exact go A2 S2 w2 Ge.refl a3
    · exact go _ (S2.alloc hp0) (W_alloc S2 hp0 w2) (S2.ge_alloc hp0) (.tup (.inl ⟨.inr rfl, upd_same⟩) (a3.ge (S2.ge_alloc hp0)))
  · rw [List.drop_length] at z2
    exact z2 σ2 H2 A2 S2 (B.G.le (by omega) w2) (g1.trans g2)
end

/-! ### while -/
def whileP (c : Px ST Bool) (P : PSx ST) (Dd : En ST) : Nat → Env → ST → Prop
  | 0, _, _ => False
  | k + 1, ρ, st => c ρ st (fun b ρ1 st1 => if b = true then P (loopEn Dd fun ρ2 st2 => whileP c P Dd k ρ2 st2) ρ1 st1 else Dd.nx ρ1 st1) Dd.ex
def sWhile (b : Bool) (L : Nat) (c : Px ST Bool) (P : PSx ST) : PSx ST := fun Dd ρ st => ∃ k, (b = true → k ≤ L) ∧ whileP c P Dd k ρ st
def whileI (B : Bs ST) (m k0 nn : Nat) (A : Addr → Prop) (H : Hp) (u : Px ST Bool) (P : PSx ST) (E : En ST) : Nat → L2.St → Hp → Prop := fun k σ2 H2 =>
  ∃ A2 ρ2 st2, k ≤ k0 ∧ Sta B A2 σ2 H2 ρ2 ∧ B.G.W (m + (k0 - k) * nn) st2 H2 ∧ Ge A H A2 H2 ∧ whileP u P E k ρ2 st2
section
variable {X : Cx} {B : Bs ST} {c : Expr} {body : List Stmt} {pos : Pos} {nc nb : Nat} {u : Px ST Bool} {P : PSx ST}
theorem whileP.mono (hu : Mono u) (hP : MonoS P) {Dd Dd' : En ST} (im : En.Imp Dd Dd') : ∀ k ρ st, whileP u P Dd k ρ st → whileP u P Dd' k ρ st
  | 0, ρ, st, h => h
  | k + 1, ρ, st, h => hu _ _ _ _ _ _ (fun b ρ1 st1 z => by
    cases b with
    | true => exact hP _ _ _ _ (loopEn.imp im fun ρ2 st2 y => whileP.mono hu hP im k ρ2 st2 y) z
    | false => exact im.nx _ _ z) im.ex h
theorem js_while (b : Bool) (L : Nat) (hcl : b = false → nc + nb = 0) (hp : PassesOwn (model X.prog X.w) X.A X.env X.xe) (hc : JT X B c nc u) (hb : JSs X B body nb P) : JS X B (.While c body [] pos) (L * (nc + nb)) (sWhile b L u P) := by
  refine ⟨fun Dd Dd' ρ st im ⟨k, hk, h⟩ => ⟨k, hk, whileP.mono hc.mono hb.mono im _ _ _ h⟩, ps_weak (ps_while hp hc.run hb.run) fun Dd σ H ⟨ρ, A, m, st, S, w, l, k0, hk, h⟩ => ?_⟩
  have lb : k0 * (nc + nb) ≤ L * (nc + nb) := by
    cases b with
    | true => exact Nat.mul_le_mul_right _ (hk rfl)
    | false => rw [hcl rfl]; omega
  refine ⟨whileI B m k0 (nc + nb) A H u P (enOf B (L * (nc + nb)) A m H Dd), ⟨k0, A, ρ, st, Nat.le_refl _, S, by simpa using w, Ge.refl, h⟩, fun k σ2 H2 ⟨A2, ρ2, st2, hk0, S2, w2, g2, z2⟩ => ?_⟩
  cases k with
  | zero => exact z2.elim
  | succ k =>
    have st1 : (k0 - k) * (nc + nb) = (k0 - (k + 1)) * (nc + nb) + (nc + nb) := by
      rw [show k0 - k = (k0 - (k + 1)) + 1 by omega, Nat.succ_mul]
    have up : (k0 - k) * (nc + nb) ≤ k0 * (nc + nb) := Nat.mul_le_mul_right _ (Nat.sub_le _ _)
    refine ⟨ρ2, A2, _, st2, S2, w2, by omega, hc.mono _ _ _ _ _ _ (fun b3 ρ3 st3 z3 v H3 A3 S3 w3 g3 r3 => ?_) (fun x0 ρ' st' y cls dx H' A' S' w' a => y cls dx σ2 H' A' S' (B.G.le (by omega) w') a) z2⟩
    have r3' : v = b3 := r3
    subst r3'
    cases v with
    | false => exact z3 σ2 H3 A3 S3 (B.G.le (by omega) w3) (g2.trans g3)
    | true =>
      have z3' : P (loopEn (enOf B (L * (nc + nb)) A m H Dd) fun ρ2 st2 => whileP u P (enOf B (L * (nc + nb)) A m H Dd) k ρ2 st2) ρ3 st3 := z3
      refine ⟨whileI B m k0 (nc + nb) A H u P (enOf B (L * (nc + nb)) A m H Dd) k, fun σ5 H5 q => ⟨k, by omega, q⟩, ρ3, A3, _, st3, S3, w3, by omega, hb.mono _ _ _ _ ?_ z3'⟩
      have g23 := g2.trans g3
      exact ⟨fun ρ5 st5 z5 σ5 H5 A5 S5 w5 g5 => ⟨A5, ρ5, st5, by omega, S5, B.G.le (by omega) w5, g23.trans g5, z5⟩, fun d5 st5 z5 v5 σ5 ρ5 H5 A5 S5 w5 g5 a5 => z5 v5 σ5 ρ5 H5 A5 S5 (B.G.le (by omega) w5) (g23.trans g5) a5,
        fun ρ5 st5 z5 σ5 H5 A5 S5 w5 g5 => z5 σ5 H5 A5 S5 (B.G.le (by omega) w5) (g23.trans g5), fun ρ5 st5 z5 σ5 H5 A5 S5 w5 g5 => ⟨A5, ρ5, st5, by omega, S5, B.G.le (by omega) w5, g23.trans g5, z5⟩,
        fun x5 ρ5 st5 z5 cls dx σ5 H5 A5 S5 w5 a5 => z5 cls dx σ5 H5 A5 S5 (B.G.le (by omega) w5) a5⟩
end
end PP

set_option Elab.async false
set_option linter.all false
set_option maxRecDepth 100000
set_option maxHeartbeats 1000000
namespace PP
open PySem PySem.Spec PyProof.Rows L2
variable {ST : Type}

/-! ### list comprehensions -/
def wipeE (ρ : Env) : List Nat → Env
  | [] => ρ
  | v :: vs => (wipeE ρ vs).set v .un
def keptS (ρ : Env) (v : Nat) : Sl := match ρ[v]? with
  | some (.dat d) => .dat d
  | _ => .un
def backE (ρ0 ρe : Env) : List Nat → Env
  | [] => ρe
  | v :: vs => (backE ρ0 ρe vs).set v (keptS ρ0 v)
theorem wipeE_len {ρ : Env} : ∀ {vs : List Nat}, (wipeE ρ vs).length = ρ.length
  | [] => rfl
  | v :: vs => by unfold wipeE; rw [List.length_set, wipeE_len]
theorem backE_len {ρ ρe : Env} : ∀ {vs : List Nat}, (backE ρ ρe vs).length = ρe.length
  | [] => rfl
  | v :: vs => by unfold backE; rw [List.length_set, backE_len]
theorem wipeE_in {ρ : Env} : ∀ {vs : List Nat} {j : Nat}, j ∈ vs → ∀ {s : Sl}, (wipeE ρ vs)[j]? = some s → s = .un
  | v :: vs, j, h, s, e => by
    unfold wipeE at e
    rw [List.getElem?_set] at e
    split at e
    · split at e
      · exact (Option.some.inj e).symm
      · cases e
    · rename_i hne
      rcases List.mem_cons.mp h with rfl | h
      · exact absurd rfl hne
      · exact wipeE_in h e
theorem wipeE_out {ρ : Env} : ∀ {vs : List Nat} {j : Nat}, j ∉ vs → (wipeE ρ vs)[j]? = ρ[j]?
  | [], _, _ => rfl
  | v :: vs, j, h => by
    unfold wipeE
    rw [List.getElem?_set_ne (fun z => h (by rw [z]; exact List.mem_cons_self ..)), wipeE_out fun z => h (List.mem_cons_of_mem _ z)]
theorem backE_in {ρ ρe : Env} : ∀ {vs : List Nat} {j : Nat}, j ∈ vs → ∀ {s : Sl}, (backE ρ ρe vs)[j]? = some s → s = keptS ρ j
  | v :: vs, j, h, s, e => by
    unfold backE at e
    rw [List.getElem?_set] at e
    split at e
    · rename_i hv
      subst hv
      split at e
      · exact (Option.some.inj e).symm
      · cases e
    · rename_i hne
      rcases List.mem_cons.mp h with rfl | h
      · exact absurd rfl hne
      · exact backE_in h e
theorem backE_out {ρ ρe : Env} : ∀ {vs : List Nat} {j : Nat}, j ∉ vs → (backE ρ ρe vs)[j]? = ρe[j]?
  | [], _, _ => rfl
  | v :: vs, j, h => by
    unfold backE
    rw [List.getElem?_set_ne (fun z => h (by rw [z]; exact List.mem_cons_self ..)), backE_out fun z => h (List.mem_cons_of_mem _ z)]
theorem keptS_own {ρ : Env} {v : Nat} : (keptS ρ v).own = false := by
  unfold keptS
  split <;> rfl
theorem sat_wipe_out {σ : L2.St} {vs : List Nat} {j : Nat} (h : j ∉ vs) : sat (wipe σ vs) j = sat σ j := by
  unfold sat
  rw [wipe_out h]
section
variable {B : Bs ST} {A : Addr → Prop} {σ σ' : L2.St} {H : Hp} {ρ ρ' : Env}
/-- other slots over the same heap -/
theorem Sta.slots (S : Sta B A σ H ρ) (hl : σ'.length = ρ'.length) (hs : ∀ j s, ρ'[j]? = some s → SlotAt B A H (sat σ' j) s) (ho : ∀ j s, ρ'[j]? = some s → s.own = true → ρ[j]? = some s ∧ sat σ' j = sat σ j) : Sta B A σ' H ρ' :=
  ⟨S.base, fun a o e => ⟨(S.lock a o e).1, (S.lock a o e).2.1, fun i s es os => by
    obtain ⟨h1, h2⟩ := ho i s es os
    rw [h2]
    exact (S.lock a o e).2.2.1 i s h1 os, (S.lock a o e).2.2.2⟩, S.new, S.trk, S.mtrk, hl, hs, fun i j s t a n ei ej oi oj => by
    obtain ⟨h1, h2⟩ := ho i s ei oi
    obtain ⟨h3, h4⟩ := ho j t ej oj
    rw [h2, h4]
    exact S.apart i j s t a n h1 h3 oi oj⟩
theorem Sta.wipe (S : Sta B A σ H ρ) (vs : List Nat) : Sta B A (L2.wipe σ vs) H (wipeE ρ vs) := by
  refine S.slots (by rw [wipe_length, wipeE_len, S.len]) (fun j s e => ?_) fun j s e o => ?_
  · by_cases hj : j ∈ vs
    · rw [wipeE_in hj e]
      trivial
    · rw [sat_wipe_out hj]
      rw [wipeE_out hj] at e
      exact S.slot j s e
  · by_cases hj : j ∈ vs
    · rw [wipeE_in hj e] at o
      cases o
    · rw [wipeE_out hj] at e
      exact ⟨e, sat_wipe_out hj⟩
/-- behind the block: its own names as they were -/
theorem Sta.unwipe {A1 : Addr → Prop} {H1 : Hp} {vs : List Nat} {ρ1 : Env} {B1 : Bs ST} (S : Sta B A (L2.wipe σ vs) H ρ) (S1 : Sta B1 A1 σ H1 ρ1) (hK : B1.K = B.K) (g : Ge A1 H1 A H) (hl : ρ.length = ρ1.length) : Sta B A σ H (backE ρ1 ρ vs) := by
  refine S.slots (by rw [backE_len, hl, S1.len]) (fun j s e => ?_) fun j s e o => ?_
  · by_cases hj : j ∈ vs
    · rw [backE_in hj e]
      unfold keptS
      split
      · rename_i d ed
        obtain ⟨v, h1, h2⟩ := S1.slot j _ ed
        exact ⟨v, h1, by rw [← hK]; exact h2.ge g⟩
      · trivial
    · rw [backE_out hj] at e
      have := S.slot j s e
      rw [sat_wipe_out hj] at this
      exact this
  · by_cases hj : j ∈ vs
    · rw [backE_in hj e, keptS_own] at o
      cases o
    · rw [backE_out hj] at e
      exact ⟨e, (sat_wipe_out hj).symm⟩
/-- a block's wishes; one more thing is locked -/
abbrev Bb (B : Bs ST) (L : Addr → Option HO) (Z : Addr → Prop) : Bs ST := { B with L := L, Z := Z, wx := fun _ _ _ _ => False }
def lkL (B : Bs ST) (p : Addr) (o : HO) : Addr → Option HO := fun a => if a = p then some o else B.L a
def lkZ (B : Bs ST) (p : Addr) : Addr → Prop := fun a => a = p ∨ B.Z a
theorem Sta.lockIn {p : Addr} {o : HO} (S : Sta B A σ H ρ) (hp : H p = some o) (nA : ¬ A p) (nM : ¬ B.G.M p) (no : ∀ i s, ρ[i]? = some s → s.own = true → sat σ i ≠ some (.ref p)) : Sta (Bb B (lkL B p o) (lkZ B p)) A σ H ρ :=
  ⟨fun a hm hx hl hn => S.base a hm hx (by
    have hl' : (if a = p then some o else B.L a) = none := hl
    split at hl'
    · cases hl'
    · exact hl') hn, fun a u e => by
    have e' : (if a = p then some o else B.L a) = some u := e
    split at e'
    · rename_i h
      subst h
      cases e'
      exact ⟨hp, nM, no, fun _ => nA⟩
    · rename_i h
      obtain ⟨h1, h2, h3, h4⟩ := S.lock a u e'
      exact ⟨h1, h2, h3, fun z => h4 (z.resolve_left h)⟩, S.new, S.trk, S.mtrk, S.len, S.slot, S.apart⟩
theorem lock_at {p : Addr} {o : HO} (S : Sta (Bb B (lkL B p o) (lkZ B p)) A σ H ρ) : H p = some o ∧ ¬ B.G.M p ∧ (∀ i s, ρ[i]? = some s → s.own = true → sat σ i ≠ some (.ref p)) ∧ ¬ A p := by
  obtain ⟨h1, h2, h3, h4⟩ := S.lock p o (show (if p = p then some o else B.L p) = some o from if_pos rfl)
  exact ⟨h1, h2, h3, h4 (.inl rfl)⟩
/-- the locked thing is changed -/
theorem Sta.relock {p : Addr} {o o' : HO} (S : Sta (Bb B (lkL B p o) (lkZ B p)) A σ H ρ) : Sta (Bb B (lkL B p o') (lkZ B p)) A σ (upd H p o') ρ ∧ Ge A H A (upd H p o') ∧ ∀ m st, B.G.W m st H → B.G.W m st (upd H p o') := by
  obtain ⟨h1, h2, h3, h4⟩ := lock_at S
  have g : Ge A H A (upd H p o') := fun c hc => ⟨hc, .of_eq (upd_ne fun z => h4 (by rw [← z]; exact hc))⟩
  refine ⟨⟨fun a hm hx hl hn => ?_, fun a u e => ?_, S.new, fun a ha => ?_, fun a hm => ?_, S.len, fun i s e => ?_, S.apart⟩, g, fun m st w => B.G.keep w fun a hm => upd_ne fun z => h2 (by rw [← z]; exact hm)⟩
  · have hl' : (if a = p then some o' else B.L a) = none := hl
    have ne : a ≠ p := fun z => by rw [if_pos z] at hl'; cases hl'
    rw [upd_ne ne]
    exact S.base a hm hx (by show (if a = p then some o else B.L a) = none; rw [if_neg ne]; rw [if_neg ne] at hl'; exact hl') hn
  · have e' : (if a = p then some o' else B.L a) = some u := e
    by_cases ne : a = p
    · subst ne
      rw [if_pos rfl] at e'
      cases e'
      exact ⟨upd_same, h2, h3, fun _ => h4⟩
    · rw [if_neg ne] at e'
      obtain ⟨k1, k2, k3, k4⟩ := S.lock a u (show (if a = p then some o else B.L a) = some u by rw [if_neg ne]; exact e')
      exact ⟨(upd_ne ne).trans k1, k2, k3, k4⟩
  · rw [upd_ne fun z => h4 (by rw [← z]; exact ha)]
    exact S.trk a ha
  · rw [upd_ne fun z => h2 (by rw [← z]; exact hm)]
    exact S.mtrk a hm
  · exact (S.slot i s e).keep g fun c oc xc => ⟨upd_ne fun z => h3 i s e oc (by rw [← z]; exact xc), fun z => z⟩
/-- the lock goes -/
theorem Sta.unlock {p : Addr} {o : HO} (S : Sta (Bb B (lkL B p o) (lkZ B p)) A σ H ρ) (h0 : B.H0 p = none ∨ B.X0 p) (hL : B.L p = none) : Sta B A σ H ρ :=
  ⟨fun a hm hx hl hn => by
    have ne : a ≠ p := fun z => by
      subst z
      rcases h0 with q | q
      · exact hn q
      · exact hx q
    exact S.base a hm hx (by show (if a = p then some o else B.L a) = none; rw [if_neg ne]; exact hl) hn, fun a u e => by
    have ne : a ≠ p := fun z => by rw [z, hL] at e; cases e
    obtain ⟨k1, k2, k3, k4⟩ := S.lock a u (show (if a = p then some o else B.L a) = some u by rw [if_neg ne]; exact e)
    exact ⟨k1, k2, k3, fun z => k4 (.inr z)⟩, S.new, S.trk, S.mtrk, S.len, S.slot, S.apart⟩
end
theorem wipe_wipe {σ : L2.St} {vs : List Nat} : L2.wipe (L2.wipe σ vs) vs = L2.wipe σ vs := wipe_same (wipe_length _ _) fun j hj => wipe_out hj

structure JTs (X : Cx) (B : Bs ST) (ifs : List Expr) (n : Nat) (u : Px ST Bool) : Prop where
  mono : Mono u
  run : PTs X ifs (liftT B n u)
theorem pts_weak {X : Cx} {e : List Expr} {t t' : TT} (h : PTs X e t) (k : ∀ σ H Q, t' σ H Q → t σ H Q) : PTs X e t' := ⟨fun pins s σ H Q I w => h.run pins s σ H Q I (k σ H Q w)⟩
theorem jts_nil {X : Cx} {B : Bs ST} : JTs X B [] 0 (retP fun Q => Q true) := ⟨mono_ret, pts_weak pts_nil fun σ H Q ⟨ρ, A, m, st, S, w, l, z⟩ => post.here (rel := relT) z S w rfl⟩
theorem jts_one {X : Cx} {B : Bs ST} {c : Expr} {n : Nat} {u : Px ST Bool} (h : JT X B c n u) : JTs X B [c] n u := ⟨h.mono, pts_one h.run⟩

def compP (g : TgP) (u : Px ST Bool) (pe : Px ST D) (vs : List Nat) : List D → Env → ST → (List D → Env → ST → Prop) → Prop
  | [], ρ, st, Q => Q [] ρ st
  | d :: ds, ρ, st, Q => g d ρ fun ρ1 => u ρ1 st (fun b ρ2 st2 => if b = true then pe ρ2 st2 (fun y ρ3 st3 => compP g u pe vs ds (wipeE ρ3 vs) st3 fun ys ρ4 st4 => Q (y :: ys) ρ4 st4) (fun _ _ _ => False) else compP g u pe vs ds (wipeE ρ2 vs) st2 Q) fun _ _ _ => False
def pLc (c : Bool) (L : Nat) (p : Px ST (List D)) (g : TgP) (u : Px ST Bool) (pe : Px ST D) (vs : List Nat) : Px ST FV := fun ρ st Q R => p ρ st (fun ds ρ1 st1 => (c = true → ds.length ≤ L) ∧ ds.length ≤ sizeLine ∧
  compP g u pe vs ds (wipeE ρ1 vs) st1 fun ys ρ2 st2 => Q (.l ys) (backE ρ1 ρ2 vs) st2) R
theorem compP.mono {g : TgP} {u : Px ST Bool} {pe : Px ST D} {vs : List Nat} (hg : ∀ d ρ (Q Q' : Env → Prop), (∀ ρ', Q ρ' → Q' ρ') → g d ρ Q → g d ρ Q') (hu : Mono u) (he : Mono pe) : ∀ ds ρ st (Q Q' : List D → Env → ST → Prop), (∀ ys ρ st, Q ys ρ st → Q' ys ρ st) → compP g u pe vs ds ρ st Q → compP g u pe vs ds ρ st Q'
  | [], ρ, st, Q, Q', k, h => k _ _ _ h
  | d :: ds, ρ, st, Q, Q', k, h => hg _ _ _ _ (fun ρ1 z => hu _ _ _ _ _ _ (fun b ρ2 st2 y => by
    cases b with
    | true => exact he _ _ _ _ _ _ (fun v ρ3 st3 q => compP.mono hg hu he ds _ _ _ _ (fun ys ρ4 st4 q2 => k _ _ _ q2) q) (fun _ _ _ q => q) y
    | false => exact compP.mono hg hu he ds _ _ _ _ k y) (fun _ _ _ q => q) z) h
section
variable {X : Cx} {B : Bs ST} {elt tg iter : Expr} {ifs : List Expr} {scope : Scope} {own : List (Str × Nat)} {pos : Pos} {n nu ne : Nat} {p : Px ST (List D)} {g : TgP} {u : Px ST Bool} {pe : Px ST D} {ix : List Nat}
theorem pLc.mono {c : Bool} {L : Nat} {vs : List Nat} (hp : Mono p) (hg : ∀ d ρ (Q Q' : Env → Prop), (∀ ρ', Q ρ' → Q' ρ') → g d ρ Q → g d ρ Q') (hu : Mono u) (he : Mono pe) : Mono (pLc c L p g u pe vs) := fun ρ st Q Q' R R' h1 h2 h =>
  hp _ _ _ _ _ _ (fun ds ρ1 st1 ⟨z1, z2, z3⟩ => ⟨z1, z2, compP.mono hg hu he _ _ _ _ _ (fun ys ρ2 st2 q => h1 _ _ _ q) z3⟩) h2 h
def lcI (B : Bs ST) (c0 nn : Nat) (A1 : Addr → Prop) (H1 : Hp) (σ : L2.St) (vs : List Nat) (p : Addr) (k : Nat) (g : TgP) (u : Px ST Bool) (pe : Px ST D) (F : List D → Env → ST → Prop) (ds : List D) : Nat → Hp → Prop := fun i H2 =>
  ∃ A2 ρ2 st2 acc ys0, Sta (Bb B (lkL B p (.lst acc)) (lkZ B p)) A2 (L2.wipe σ vs) H2 ρ2 ∧ B.G.W (c0 + i * nn) st2 H2 ∧ Ge A1 H1 A2 H2 ∧ acc.length ≤ i ∧ Ats B.K A2 H2 acc ys0 ∧ ρ2.length = k ∧ compP g u pe vs (ds.drop i) ρ2 st2 fun ys ρe ste => F (ys0 ++ ys) ρe ste
theorem lc_run (c : Bool) (L : Nat) (hcl : c = false → nu + ne = 0) (hc : X.calm = true) (hN : X.N.Nodup) (hi : JI X B tg iter n p) (ok : BlkOk X.N X.env.scope scope own) (hix : ∀ i ∈ ix, i ∈ own.map (·.2))
    (hg : ∀ (s : Shared) (H : Hp) (C : Addr) (cl : List (Str × Addr)) (fp : List Addr) (L : Addr → Option HO) (Z : Addr → Prop), JG (X.blk s H scope (compEnvC scope cl C X.env) fp) (Bb B L Z) tg ix g)
    (ht : ∀ (s : Shared) (H : Hp) (C : Addr) (cl : List (Str × Addr)) (fp : List Addr) (L : Addr → Option HO) (Z : Addr → Prop), JTs (X.blk s H scope (compEnvC scope cl C X.env) fp) (Bb B L Z) ifs nu u)
    (he : ∀ (s : Shared) (H : Hp) (C : Addr) (cl : List (Str × Addr)) (fp : List Addr) (L : Addr → Option HO) (Z : Addr → Prop), JE (X.blk s H scope (compEnvC scope cl C X.env) fp) (Bb B L Z) elt ne pe)
    (tt : TT) (te : TE) (gg : TG) (e1 : gg = fun v σ H Q => ∃ L Z, liftG (Bb B L Z) ix g v σ H Q) (e2 : tt = fun σ H Q => ∃ L Z, liftT (Bb B L Z) nu u σ H Q) (e3 : te = fun σ H Q => ∃ L Z, liftE (Bb B L Z) ne pe σ H Q)
    {σ : L2.St} {H : Hp} {Q : VK} (h : liftF B (n + L * (nu + ne)) (pLc c L p g u pe (own.map (·.2))) σ H Q) : tLc (liftI B n p) gg tt te (own.map (·.2)) σ H Q := by
  have s0 : Shared := {}
  have gm := (hg s0 (fun _ => none) 0 [] [] (fun _ => none) (fun _ => False)).mono
  have um := (ht s0 (fun _ => none) 0 [] [] (fun _ => none) (fun _ => False)).mono
  have em := (he s0 (fun _ => none) 0 [] [] (fun _ => none) (fun _ => False)).mono
  obtain ⟨ρ, A, m, st, S, w, l, z⟩ := h
  refine ⟨ρ, A, m, st, S, w, by omega, hi.mono _ _ _ _ _ _ (fun ds ρ1 st1 zz J H1 A1 G Y S1 w1 g1 wk gw D0 hD => ?_) (fun x ρ1 st1 y => y.first) z⟩
  obtain ⟨zl, zs, z⟩ := zz
  have lb : ds.length * (nu + ne) ≤ L * (nu + ne) := by
    cases c with
    | true => exact Nat.mul_le_mul_right _ (zl rfl)
    | false => rw [hcl rfl]; omega
  have hD0 := S1.fresh_0 hD
  have hDL := S1.fresh_l hD
  have S1' := ((S1.alloc0 (o := .lst []) hD).lockIn (o := .lst []) upd_same (S1.fresh_a hD) (S1.fresh_m hD) (S1.fresh_o hD)).wipe (own.map (·.2))
  refine lc_it wk (Pv := lcI B (m + n) (nu + ne) A1 H1 σ (own.map (·.2)) D0 ρ1.length g u pe (fun ys ρ2 st2 => post B (relF B) (n + L * (nu + ne)) A m H σ Q (.l ys) (backE ρ1 ρ2 (own.map (·.2))) st2) ds)
    ⟨A1, wipeE ρ1 (own.map (·.2)), st1, [], [], S1', by simpa using W_alloc S1 hD w1, S1.ge_alloc0 hD, Nat.le_refl _, .nil, wipeE_len, by rw [List.drop_zero]; exact z⟩ (fun i H2 hi ⟨A2, ρ2, st2, acc, ys0, S2, w2, g2, _⟩ => gw.1 A2 H2 g2) (fun i x H2 H3 hi zz y => ?_) (fun H2 zz => ?_)
  · obtain ⟨A2, ρ2, st2, acc, ys0, S2, w2, g2, la, aa, lr, z2⟩ := zz
    obtain ⟨d, ed, q⟩ := gw.2 i A2 H2 x H3 hi g2 y
    have dr : ds.drop i = d :: ds.drop (i + 1) := by
      have e2 := List.getElem?_eq_some_iff.mp ed
      rw [List.drop_eq_getElem_cons e2.1, e2.2]
    rw [dr] at z2
    have step : (i + 1) * (nu + ne) = i * (nu + ne) + (nu + ne) := by rw [Nat.succ_mul]
    have up : i * (nu + ne) + (nu + ne) ≤ ds.length * (nu + ne) := by rw [← step]; exact Nat.mul_le_mul_right _ hi
    have go : ∀ A3, Sta (Bb B (lkL B D0 (.lst acc)) (lkZ B D0)) A3 (L2.wipe σ (own.map (·.2))) H3 ρ2 → B.G.W (m + n + i * (nu + ne)) st2 H3 → Ge A2 H2 A3 H3 → At B.K A3 H3 x d → gg x (L2.wipe σ (own.map (·.2))) H3 fun σ4 H4 => L2.wipe σ4 (own.map (·.2)) = L2.wipe σ (own.map (·.2)) ∧ tt σ4 H4 fun b H5 =>
        if b = true then te σ4 H5 fun y H6 => ∃ acc, H6 D0 = some (.lst acc) ∧ acc.length < sizeLine ∧ lcI B (m + n) (nu + ne) A1 H1 σ (own.map (·.2)) D0 ρ1.length g u pe (fun ys ρ2 st2 => post B (relF B) (n + L * (nu + ne)) A m H σ Q (.l ys) (backE ρ1 ρ2 (own.map (·.2))) st2) ds (i + 1) (upd H6 D0 (.lst (acc ++ [y])))
        else lcI B (m + n) (nu + ne) A1 H1 σ (own.map (·.2)) D0 ρ1.length g u pe (fun ys ρ2 st2 => post B (relF B) (n + L * (nu + ne)) A m H σ Q (.l ys) (backE ρ1 ρ2 (own.map (·.2))) st2) ds (i + 1) H5 := fun A3 S3 w3 g3 a3 => by
      subst e1
      refine ⟨lkL B D0 (.lst acc), lkZ B D0, ρ2, A3, d, S3, a3, gm _ _ _ _ (fun ρ4 z4 σ4 S4 o4 => ?_) z2⟩
      have lr4 : ρ4.length = ρ1.length := by
        rw [← S4.len, o4.1, S3.len, lr]
      have hw : L2.wipe σ4 (own.map (·.2)) = L2.wipe σ (own.map (·.2)) := (wipe_same o4.1 fun j hj => o4.2 j fun z => hj (hix j z)).trans wipe_wipe
      refine ⟨hw, ?_⟩
      subst e2
      refine ⟨lkL B D0 (.lst acc), lkZ B D0, ρ4, A3, _, st2, S4, w3, by show m + n + i * (nu + ne) + nu ≤ B.G.top; omega, um _ _ _ _ _ _ (fun b ρ5 st5 z5 b' H5 A5 S5 w5 g5 r5 => ?_) (fun x ρ5 st5 z5 => z5.elim) z4⟩
      have r5' : b' = b := r5
      subst r5'
      have lr5 : ρ5.length = ρ1.length := by rw [← S5.len, S4.len, lr4]
      have g35 := g3.trans g5
      cases b' with
      | true =>
        show ite _ _ _
        rw [if_pos rfl]
        rw [if_pos rfl] at z5
        subst e3
        refine ⟨lkL B D0 (.lst acc), lkZ B D0, ρ5, A5, _, st5, S5, w5, by show m + n + i * (nu + ne) + nu + ne ≤ B.G.top; omega, em _ _ _ _ _ _ (fun y ρ6 st6 z6 v H6 A6 S6 w6 g6 a6 => ?_) (fun x ρ6 st6 z6 => z6.elim) z5⟩
        have hlk := (lock_at S6).1
        obtain ⟨S7, g7, w7⟩ := S6.relock (o' := .lst (acc ++ [v]))
        have S8 := S7.wipe (own.map (·.2))
        rw [hw] at S8
        have g27 := (g35.trans g6).trans g7
        refine ⟨acc, hlk, by omega, A6, _, st6, acc ++ [v], ys0 ++ [y], S8, ?_, g2.trans g27, by simp; omega, (aa.ge g27).snoc (a6.ge g7), by rw [wipeE_len, ← S6.len, S5.len, lr5], compP.mono gm um em _ _ _ _ _ (fun ys ρe ste q => by rw [List.append_assoc]; exact q) z6⟩
        rw [step]
        have w6' := w7 _ _ w6
        rw [show m + n + (i * (nu + ne) + (nu + ne)) = m + n + i * (nu + ne) + nu + ne by omega]
        exact w6'
      | false =>
        show ite _ _ _
        rw [if_neg Bool.false_ne_true]
        rw [if_neg Bool.false_ne_true] at z5
        have S8 := S5.wipe (own.map (·.2))
        rw [hw] at S8
        refine ⟨A5, _, st5, acc, ys0, S8, ?_, g2.trans g35, by omega, aa.ge g35, by rw [wipeE_len, lr5], z5⟩
        rw [step]
        exact B.G.le (by omega) w5
    rcases q with ⟨rfl, a3⟩ | ⟨p0, vs, es, hp0, rfl, rfl, rfl, a3⟩
    · exact go A2 S2 w2 Ge.refl a3
    · exact go _ (S2.alloc hp0) (W_alloc (B := Bb B (lkL B D0 (.lst acc)) (lkZ B D0)) S2 hp0 w2) (S2.ge_alloc hp0) (.tup (.inl ⟨.inr rfl, upd_same⟩) (a3.ge (S2.ge_alloc hp0)))
  · obtain ⟨A2, ρ2, st2, acc, ys0, S2, w2, g2, la, aa, lr, z2⟩ := zz
    rw [List.drop_length] at z2
    have z3 : post B (relF B) (n + L * (nu + ne)) A m H σ Q (.l (ys0 ++ [])) (backE ρ1 ρ2 (own.map (·.2))) st2 := z2
    rw [List.append_nil] at z3
    obtain ⟨h1, h2, h3, h4⟩ := lock_at S2
    have S3 : Sta B A2 σ H2 (backE ρ1 ρ2 (own.map (·.2))) := (S2.unlock hD0 hDL).unwipe S1 rfl g2 lr
    refine z3 (.ref D0) H2 A2 S3 (B.G.le (by omega) w2) (g1.trans g2) ⟨D0, rfl, ⟨acc, h1, aa⟩, h4, h2, hD0, fun i s e o => ?_, hDL⟩
    by_cases hj : i ∈ own.map (·.2)
    · rw [backE_in hj e, keptS_own] at o
      cases o
    · rw [backE_out hj] at e
      have := h3 i s e o
      rw [sat_wipe_out hj] at this
      exact this
/-- [elt for tg in iter if ..] -/
theorem jf_lc (c : Bool) (L : Nat) (hcl : c = false → nu + ne = 0) (hc : X.calm = true) (hN : X.N.Nodup) (hi : JI X B tg iter n p) (ok : BlkOk X.N X.env.scope scope own) (hix : ∀ i ∈ ix, i ∈ own.map (·.2))
    (hg : ∀ (s : Shared) (H : Hp) (C : Addr) (cl : List (Str × Addr)) (fp : List Addr) (L : Addr → Option HO) (Z : Addr → Prop), JG (X.blk s H scope (compEnvC scope cl C X.env) fp) (Bb B L Z) tg ix g)
    (ht : ∀ (s : Shared) (H : Hp) (C : Addr) (cl : List (Str × Addr)) (fp : List Addr) (L : Addr → Option HO) (Z : Addr → Prop), JTs (X.blk s H scope (compEnvC scope cl C X.env) fp) (Bb B L Z) ifs nu u)
    (he : ∀ (s : Shared) (H : Hp) (C : Addr) (cl : List (Str × Addr)) (fp : List Addr) (L : Addr → Option HO) (Z : Addr → Prop), JE (X.blk s H scope (compEnvC scope cl C X.env) fp) (Bb B L Z) elt ne pe)
    (hs : ∀ x, foldedSetIterable iter X.env x = pure x := by intro _; rfl) : JF X B (.ListComp elt [⟨tg, iter, ifs, 0⟩] scope pos) (n + L * (nu + ne)) (pLc c L p g u pe (own.map (·.2))) := by
  have s0 : Shared := {}
  have gm := (hg s0 (fun _ => none) 0 [] [] (fun _ => none) (fun _ => False)).mono
  have um := (ht s0 (fun _ => none) 0 [] [] (fun _ => none) (fun _ => False)).mono
  have em := (he s0 (fun _ => none) 0 [] [] (fun _ => none) (fun _ => False)).mono
  refine ⟨pLc.mono hi.mono gm um em, pe_weak (pe_lc (wi := liftI B n p) (g := fun v σ H Q => ∃ L Z, liftG (Bb B L Z) ix g v σ H Q) (tt := fun σ H Q => ∃ L Z, liftT (Bb B L Z) nu u σ H Q) (te := fun σ H Q => ∃ L Z, liftE (Bb B L Z) ne pe σ H Q) hc hN hi.run ok
    (fun s H C cl fp => ⟨fun pins s' σ H' v u Q I r ⟨L, Z, w⟩ => (hg s H C cl fp L Z).run.run pins s' σ H' v u Q I r w⟩) (fun s H C cl fp => ⟨fun pins s' σ H' Q I ⟨L, Z, w⟩ => (ht s H C cl fp L Z).run.run pins s' σ H' Q I w⟩)
    (fun s H C cl fp => ⟨fun pins s' σ H' Q I ⟨L, Z, w⟩ => (he s H C cl fp L Z).run.run pins s' σ H' Q I w⟩) hs) fun σ H Q h => lc_run c L hcl hc hN hi ok hix hg ht he _ _ _ rfl rfl rfl h⟩
/-- name = [..] on one line -/
theorem js_setLc (c : Bool) (L : Nat) (i : Nat) {y : Str} {py spos : Pos} (hcl : c = false → nu + ne = 0) (hc : X.calm = true) (hN : X.N.Nodup) (hi : JI X B tg iter n p) (ok : BlkOk X.N X.env.scope scope own) (hix : ∀ i ∈ ix, i ∈ own.map (·.2))
    (hg : ∀ (s : Shared) (H : Hp) (C : Addr) (cl : List (Str × Addr)) (fp : List Addr) (L : Addr → Option HO) (Z : Addr → Prop), JG (X.blk s H scope (compEnvC scope cl C X.env) fp) (Bb B L Z) tg ix g)
    (ht : ∀ (s : Shared) (H : Hp) (C : Addr) (cl : List (Str × Addr)) (fp : List Addr) (L : Addr → Option HO) (Z : Addr → Prop), JTs (X.blk s H scope (compEnvC scope cl C X.env) fp) (Bb B L Z) ifs nu u)
    (he : ∀ (s : Shared) (H : Hp) (C : Addr) (cl : List (Str × Addr)) (fp : List Addr) (L : Addr → Option HO) (Z : Addr → Prop), JE (X.blk s H scope (compEnvC scope cl C X.env) fp) (Bb B L Z) elt ne pe)
    (hsw : swapsWith (.ListComp elt [⟨tg, iter, ifs, 0⟩] scope pos) (some (.Name y py)) spos.line X.env = pure true) (hy : X.N[i]? = some y := by rfl) (hyl : X.env.scope.names.lookup y = some .local := by rfl)
    (hs : ∀ x, foldedSetIterable iter X.env x = pure x := by intro _; rfl) : JS X B (.Assign [.Name y py] (.ListComp elt [⟨tg, iter, ifs, 0⟩] scope pos) spos) (n + L * (nu + ne)) (sSetF i (pLc c L p g u pe (own.map (·.2)))) := by
  have s0 : Shared := {}
  have gm := (hg s0 (fun _ => none) 0 [] [] (fun _ => none) (fun _ => False)).mono
  have um := (ht s0 (fun _ => none) 0 [] [] (fun _ => none) (fun _ => False)).mono
  have em := (he s0 (fun _ => none) 0 [] [] (fun _ => none) (fun _ => False)).mono
  have hmono : Mono (pLc c L p g u pe (own.map (·.2))) := pLc.mono hi.mono gm um em
  refine ⟨sSetF.mono hmono, ps_weak (ps_setLc (wi := liftI B n p) (g := fun v σ H Q => ∃ L Z, liftG (Bb B L Z) ix g v σ H Q) (tt := fun σ H Q => ∃ L Z, liftT (Bb B L Z) nu u σ H Q) (te := fun σ H Q => ∃ L Z, liftE (Bb B L Z) ne pe σ H Q) hc hN hy hyl hsw hi.run ok
    (fun s H C cl fp => ⟨fun pins s' σ H' v u Q I r ⟨L, Z, w⟩ => (hg s H C cl fp L Z).run.run pins s' σ H' v u Q I r w⟩) (fun s H C cl fp => ⟨fun pins s' σ H' Q I ⟨L, Z, w⟩ => (ht s H C cl fp L Z).run.run pins s' σ H' Q I w⟩)
    (fun s H C cl fp => ⟨fun pins s' σ H' Q I ⟨L, Z, w⟩ => (he s H C cl fp L Z).run.run pins s' σ H' Q I w⟩) hs) fun Dd σ H ⟨ρ, A, m, st, S, w, l, z⟩ => ?_⟩
  refine lc_run c L hcl hc hN hi ok hix hg ht he _ _ _ rfl rfl rfl ⟨ρ, A, m, st, S, w, l, hmono _ _ _ _ _ _ (fun f ρ' st' y v H' A' S' w' g' r => ?_) (fun x ρ' st' y cls dx H' A' S' w' a => y cls dx σ H' A' S' w' a) z⟩
  obtain ⟨a, e, fa, na, nm, n0, no, nl⟩ := r
  subst e
  exact y _ H' A' (S'.assignF fa na nm n0 no nl) w' g'
end
end PP

set_option Elab.async false
set_option linter.all false
set_option maxRecDepth 100000
set_option maxHeartbeats 1000000
namespace PP
open PySem PySem.Spec PyProof.Rows L2

/-! ### an exception's __init__ that begins with super().__init__(e) -/
structure FunX (P : Program) (K : PySem.W.Frag) (x qual : Str) (params : Arguments) (body : List Stmt) (scope : Scope) (f cc D : Addr) (fd : FuncData) : Prop where
  ex : ∃ (oc : Value) (od : Option Addr) (kV doc pm : Value) (an : Option Addr) (cda : Addr) (ct : Value) (osl : Array (Option Value)), fd = PySem.W.ksFn x qual params body scope .none kV doc pm an (.ref cda) ct cc ∧ K.lookup f = some ⟨oc, od, .func fd, osl⟩ ∧
    PySem.W.codeIn K (.ref cda) qual = true ∧ ∃ (ccl : Value) (cdd : Option Addr) (vs : Array Value) (ccs : Array (Option Value)) (file : Str) (tf : Tok), K.lookup cda = some ⟨ccl, cdd, .fields vs, ccs⟩ ∧ vs[2]? = some (.str file tf) ∧ ((P.main.file : Str) == file) = true
  cell : ∃ (cl : Value) (cld : Option Addr) (csl : Array (Option Value)), K.lookup cc = some ⟨cl, cld, .cell (some (.ref D)), csl⟩
  top : (P.main.scope.names.lookup ("super" : Str)).isSome = false
structure ScX (N ps : List Str) (sc : Scope) : Prop where
  kind : sc.kind = .function
  co : sc.isCoroutine = false
  gen : sc.isGenerator = false
  nd : N.Nodup
  pre : N.take ps.length = ps
  par : ∀ x ∈ ps, sc.names.lookup x = some .local
  nocell : ∀ y ∈ sc.names, y.2 ≠ .cell
  cls : sc.names.lookup ("__class__" : Str) = some .free
  fre : ∀ y ∈ sc.names, y.2 = .free → y.1 = ("__class__" : Str)
  sup : sc.names.lookup ("super" : Str) = some .globalImplicit
def cxX (CX : CXT) (P : Program) (w : World) (K : PySem.W.Frag) (mg : Str → Option Value) (base : Heap) (N : List Str) (qual : Str) (scope : Scope) (f cc : Addr) (cd : Value) (A : Around) (outer : List PySem.Env) (s : Shared) (H : Hp) (E : XK) : Cx where
  prog := P
  w := w
  K := K
  mg := mg
  base := base
  A := A.deeper (PySem.W.ksEnv qual scope s.heap.objs.size f cd cc)
  N := N
  s_0 := s
  H_0 := H
  env := PySem.W.ksEnv qual scope s.heap.objs.size f cd cc
  outer := outer
  stack := PySem.W.ksEnv qual scope s.heap.objs.size f cd cc :: outer
  ex := []
  calm := true
  fn := fun y => decide (y ≠ ("__class__" : Str))
  pn := []
  xe := fun e s' => wpAny (model P w) (A.deeper (PySem.W.ksEnv qual scope s.heap.objs.size f cd cc)) (leaving (PySem.W.ksEnv qual scope s.heap.objs.size f cd cc) e) (fun _ s'' => CX outer H s E e s'') (fun e' s'' => CX outer H s E e' s'') s'
theorem cls_cell {cc c : Addr} {y : Str} (h : ([(("__class__" : Str), cc)] : List (Str × Addr)).lookup y = some c) : y = ("__class__" : Str) ∧ c = cc := by
  rw [List.lookup_cons] at h
  split at h
  · rename_i e
    exact ⟨beq_iff_eq.mp e, (Option.some.inj h).symm⟩
  · cases h
theorem zip_look {x : Str} {v : Value} : ∀ {ps : List Str} {us : List Value} {i : Nat}, ps.Nodup → ps[i]? = some x → us[i]? = some v → ((ps.zip us).reverse).lookup x = some v
  | [], _, _, _, h, _ => by simp at h
  | _ :: _, [], _, _, _, h => by simp at h
  | p :: ps, u :: us, i, nd, h1, h2 => by
    rw [List.zip_cons_cons, List.reverse_cons, List.lookup_append]
    cases i with
    | zero =>
      simp at h1 h2
      subst h1
      subst h2
      have : (ps.zip us).reverse.lookup p = none := by
        rw [List.lookup_eq_none_iff]
        intro q hq
        have := (List.of_mem_zip (List.mem_reverse.mp hq)).1
        simp only [bne_iff_ne, ne_eq]
        simpa using fun z : p = q.1 => (List.nodup_cons.mp nd).1 (z ▸ this)
      rw [this]
      simp
    | succ i =>
      rw [zip_look (List.nodup_cons.mp nd).2 (by simpa using h1) (by simpa using h2)]
      rfl
section
variable {CX : CXT} {P : Program} {w : World} {K : PySem.W.Frag} {mg : Str → Option Value} {base : Heap} {N ps : List Str} {qual : Str} {scope : Scope} {f cc D : Addr} {cd : Value} {A : Around} {outer : List PySem.Env} {s : Shared} {H : Hp} {E : XK} {us : List Value} {vs : List V}
theorem invX_start {h₁ : Heap} {t : Nat} {ob : Obj} {u0 : Option Value} (S : ScX N ps scope) (hd : A.handled = none) (e0 : Env0 P w K mg base A outer s H) (hl : vs.length = ps.length) (r : Vals vs us) (hc : base.get? cc = some ob) (hcd : ob.data = .cell u0)
    (hns : h₁.Ns s.heap.objs.size (fun y => (ps.zip us).reverse.lookup y)) (hk : ∀ b o, s.heap.get? b = some o → h₁.get? b = some o) : Inv (cxX CX P w K mg base N qual scope f cc cd A outer s H E) [] (L2.start N vs) H { s with heap := h₁, toks := t } := by
  have hpl : ps.length ≤ N.length := by have := congrArg List.length S.pre; rw [List.length_take] at this; omega
  have noA : ∀ b : Addr, b ∉ (cxX CX P w K mg base N qual scope f cc cd A outer s H E).ex := fun b z => absurd (show b ∈ ([] : List Addr) from z) (by simp)
  refine ⟨⟨e0.mod, S.kind, rfl, rfl, Nat.le_refl _, fun y z c h1 h2 => ?_, fun y hy => ?_, fun y c hf h => ?_, fun _ => hd, Around.frames_deeper e0.frames, .inr ⟨rfl, rfl⟩, fun b z => absurd z (noA b), e0.bs, e0.bsz, fun b _ _ => noA b, fun b z => absurd z (noA b), e0.funs, e0.frf⟩,
    rfl, e0.bare, Un.kept hk, ⟨_, hns, fun i y v h1 h2 h3 => ?_⟩, fun y c h => ?_, e0.hok.fresh (Nat.le_refl _), fun y c h => ?_, fun p hp => absurd (show p ∈ ([] : List (Addr × Obj)) from hp) (by simp), e0.hok.kept hk, ?_⟩
  · exact (cls_cell h1).1.trans (cls_cell h2).1.symm
  · have hy : scope.names.lookup y = some .cell ∨ scope.names.lookup y = some .free := hy
    rcases hy with hy | hy
    · exact absurd rfl (S.nocell _ (PySem.mem_of_lookup hy))
    · have e := S.fre _ (PySem.mem_of_lookup hy) rfl
      have e' : y = ("__class__" : Str) := e
      subst e'
      exact ⟨cc, rfl⟩
  · have hf' : decide (y ≠ ("__class__" : Str)) = true := hf
    exact absurd (cls_cell h).1 (of_decide_eq_true hf')
  · have hi : i < vs.length := by
      unfold L2.start at h2
      by_cases hi : i < vs.length
      · exact hi
      · rw [List.getElem?_append_right (by simpa using hi), List.getElem?_replicate] at h2
        split at h2 <;> cases h2
    have ha : vs[i]? = some v := by
      unfold L2.start at h2
      rw [List.getElem?_append_left (by simpa using hi), List.getElem?_map] at h2
      cases e : vs[i]? with
      | none => rw [e] at h2; cases h2
      | some a => rw [e] at h2; cases h2; rfl
    obtain ⟨u, hu, rv⟩ := r.get ha
    have hp : ps[i]? = some y := by
      rw [← S.pre, List.getElem?_take_of_lt (by omega)]; exact h1
    have ndP : ps.Nodup := by rw [← S.pre]; exact S.nd.sublist (List.take_sublist _ _)
    exact ⟨u, rv, .inl ⟨S.par y (List.mem_of_getElem? hp), zip_look ndP hp hu⟩⟩
  · obtain ⟨rfl, rfl⟩ := cls_cell h
    exact ⟨u0, _, hk _ _ (e0.bs _ _ hc).1, hcd⟩
  · obtain ⟨rfl, rfl⟩ := cls_cell h
    exact (e0.bs _ _ hc).2
  · unfold L2.start
    show _ = N.length
    rw [List.length_append, List.length_map, List.length_replicate]
    omega
end
/-- what the written part says of an exception class: its super's __init__ is ValueError's -/
structure OexS (K : PySem.W.Frag) (C D : Addr) : Prop where
  oex : OexC K C
  sup : PySem.W.ks_superIn K C D "__init__" = some (some (.builtin "ValueError.__init__"))
  subV : PySem.W.subIn K (.ref C) (.type "ValueError") = some true
  mro : PySem.W.mroIn K C (.ref D) = some true
  clsD : ∃ cdD, PySem.W.clsIn K D = some cdD
  noS : PySem.W.nsIn K mainGlobals "super" = some none
  noT : PySem.W.nsIn K cStatics "thirdparty.any" = some none
/-- ValueError.__init__ bound to the object at a, called: nothing of it is told -/
theorem bound_init {X : Cx} {pins : List (Addr × Obj)} {σ : L2.St} {H : Hp} {s : Shared} {A : Around} {E : Value → Shared → Prop} {a C u : Addr} {us : List Value} {Q : Value → Shared → Prop} (T : OexC X.K C) (I : Inv X pins σ H s) (e : H a = some (exo a C none)) (hu : s.heap.get? u = some (PySem.W.kxs_mw "ValueError.__init__" a)) (hl : us.length ≤ sizeLine)
    (h : ∀ s', Inv X pins σ H s' → Q .none s') : wpAny (model X.prog X.w) A (call (.ref u) us) Q E s := by
  obtain ⟨nm, q, N, bs, bm, sn, sub, ab, col, dd, k0, k1, k2, k3, k5, hC, hbm⟩ := T.cls
  obtain ⟨t1, ho⟩ := exo_at I.hok e
  have hC' := I.kIn _ _ hC
  obtain ⟨hp, g, d, t, os⟩ := s
  refine wpAny_call (codeAny_of_tree ?_)
  show wpAny _ A.in1 (callAny (.ref u) ⟨us, []⟩) _ _ _
  simp only [callAny]
  refine wpAny_bind (wpAny_load hu ?_)
  simp only [PySem.W.kxs_mw, show (Value.type "method-wrapper" == Value.type "method" || Value.type "method-wrapper" == Value.type "builtin_function_or_method" || Value.type "method-wrapper" == Value.type "method-wrapper") = true by decide, if_true]
  refine PySem.W.KFB.if_so (by decide) ?_
  refine wpAny_bind (PySem.W.check_bound_init F.excBase_ValueError.toExcCallFacts hC' ho rfl ?_)
  refine wpAny_bind (wpAny_pure (wpAny_pure ?_))
  refine ⟨plainId_quiet F.excBase_ValueError.init.plain _, codeAny_builtin F.excBase_ValueError.initEntry ?_⟩
  refine PySem.W.exc_init_tree (cls := .ref C) (t0 := t1) (dv := none) (c2 := .none) (c3 := .none) (b4 := .bool false) ho hl fun h' k hx _ => ?_
  have J := I.write (t' := t) (x := a) (e := a) (o := exo a C none) (by rw [e]; exact True.intro) (.inl rfl) k ⟨_, hx⟩ (exo_ok hx)
  have eu : upd H a (exo a C none) = H := by
    funext b
    by_cases hb : b = a
    · rw [hb, upd_same, e]
    · rw [upd_ne hb]
  rw [eu] at J
  exact h _ J
/-- how the text has it evaluated -/
def SupEv (p0 p1 apos pos : Pos) (arg : Expr) : Prop := ∀ (env : PySem.Env), ∃ pl : Sem Bool, eval (.Call (.Attribute (.Call (.Name "super" p0) [] [] p1) "__init__" apos) [arg] [] pos) env = (do
  let ov ← attributeBase (.Call (.Name "super" p0) [] [] p1) "__init__" env (eval (.Call (.Name "super" p0) [] [] p1) env)
  standAt apos.atName
  let (f, first) ← holding [ov] (getMethod ov "__init__" pl)
  callWith pos f first (backTo pos (starEach [arg] env)) [])
theorem fn_excinit {CX : CXT} {P : Program} {w : World} {K : PySem.W.Frag} {mg : Str → Option Value} {base : Heap} {k : Nat} {f cc D : Addr} {x qual : Str} {params : Arguments} {rest : List Stmt} {scope : Scope} {fd : FuncData} {N ps : List Str} {sp : Sp} {arg : Expr} {p0 p1 apos pos pos' : Pos} {ar : Arg} {ix : Nat}
    (Fx : FunX P K x qual params (.Expr (.Call (.Attribute (.Call (.Name "super" p0) [] [] p1) "__init__" apos) [arg] [] pos) pos' :: rest) scope f cc D fd) (S : ScX N ps scope) (har : (params.posonlyargs ++ params.args).head? = some ar) (hix : N[0]? = some ar.arg) (hpar : ar.arg ∈ ps)
    (len : ∀ vs H Q E, sp vs H Q E → vs.length = ps.length)
    (hst : ∀ (env : PySem.Env), starEach [arg] env = [(false, eval arg env)]) (hsw : ∀ env, swapsWith (.Call (.Attribute (.Call (.Name "super" p0) [] [] p1) "__init__" apos) [arg] [] pos) none pos'.line env = pure false)
    (hev : SupEv p0 p1 apos pos arg)
    (hbody : ∀ (cda : Addr) (A : Around) (outer : List PySem.Env) (s : Shared) (H : Hp) (vs : List V) (Q : VK) (E : XK), Room k (A.deeper (PySem.W.ksEnv qual scope s.heap.objs.size f (.ref cda) cc)) → sp vs H Q E →
      ∃ (ta : TA) (t : TS) (a C : Addr) (ws : List V), PA (cxX CX P w K mg base N qual scope f cc (.ref cda) A outer s H E) [arg] ta ∧ PSs (cxX CX P w K mg base N qual scope f cc (.ref cda) A outer s H E) rest t ∧ vs = .ref a :: ws ∧ OexS K C D ∧ H a = some (exo a C none) ∧
        ta (L2.start N vs) H fun us H1 => us.length ≤ 1000 ∧ H1 a = some (exo a C none) ∧ t { nx := fun _ H' => Q .non H', rt := Q } (L2.start N vs) H1) :
    FnOk P w K mg base CX (k + 1) f fd ps sp := by
  obtain ⟨oc, od, kV, doc, pm, an, cda, ct, osl, rfl, lk, hcd, ccl, cdd, cvs, ccs, file, tf, hcode, hvs, hfile⟩ := Fx.ex
  obtain ⟨cl, cld, csl, hcell⟩ := Fx.cell
  refine ⟨len, fun A outer s H args us vs Q E hr e0 hb r hsp => ?_⟩
  have hl := len _ _ _ _ hsp
  have KX : K.In s.heap := e0.mod.kin.keeps fun b o e => (e0.bs b o e).1
  have lim : s.heap.NoLimit := e0.mod.nolimit.keeps fun b o e => (e0.bs b o e).1
  refine PySem.ks_codeAny_call_defAt (body := _) hr.depth (KX _ _ lk) rfl lim (PySem.W.codeRec_of KX hcd) rfl hb S.nocell (fun y hy => S.par y.1 (List.of_mem_zip (show (y.1, y.2) ∈ ps.zip us from hy)).1) (fun h₁ hns hk₁ => ?_) S.co S.gen S.kind
  obtain ⟨ta, t, a, C, ws, ha, ht, ev, O, ea, q⟩ := hbody cda A outer s H vs Q E (hr.deeper _) hsp
  have hd := hr.hd
  have I0 : Inv (cxX CX P w K mg base N qual scope f cc (.ref cda) A outer s H E) [] (L2.start N vs) H { s with heap := h₁, toks := s.toks + (ps.zip us).length } := invX_start S hd e0 hl r (e0.mod.kin _ _ hcell) rfl hns hk₁
  show PySem.wpAt (model P w) (A.deeper (PySem.W.ksEnv qual scope s.heap.objs.size f (.ref cda) cc)) (.func (_ :: rest) (PySem.W.ksEnv qual scope s.heap.objs.size f (.ref cda) cc)) (execs (_ :: rest) (PySem.W.ksEnv qual scope s.heap.objs.size f (.ref cda) cc)) _ _ _
  obtain ⟨cdD, hD⟩ := O.clsD
  subst ev
  cases r with
  | @cons _ u0 _ usr ra rw' =>
  obtain rfl : u0 = Value.ref a := ra
  have hps0 : ps[0]? = some ar.arg := by
    have hp : 0 < ps.length := List.length_pos_of_mem hpar
    rw [← S.pre, List.getElem?_take_of_lt hp]
    exact hix
  have ndP : ps.Nodup := by rw [← S.pre]; exact S.nd.sublist (List.take_sublist _ _)
  have hself : (ps.zip (Value.ref a :: usr)).reverse.lookup ar.arg = some (.ref a) := zip_look ndP hps0 rfl
  obtain ⟨t1, hx1⟩ := exo_at I0.hok ea
  have K1 : K.In h₁ := I0.kIn
  obtain ⟨oD, hD1, hD2⟩ : ∃ oD, h₁.get? D = some oD ∧ oD.data = .cls cdD := by
    unfold PySem.W.clsIn at hD
    split at hD
    · rename_i ho
      cases hD
      exact ⟨_, K1 _ _ ho, rfl⟩
    · cases hD
  obtain ⟨mb, hb1, hb2⟩ := I0.mod.blt
  obtain ⟨pl, hpl⟩ := hev (PySem.W.ksEnv qual scope s.heap.objs.size f (.ref cda) cc)
  refine PySem.ks_wpAt_execs_cons (PySem.ks_wpAt_Expr_any (PySem.ks_wpAt_MethodCall ?_ hpl) (by unfold interactive; simp [S.kind]) (hsw _))
  refine PySem.ks_wpAt_super_base (env := PySem.W.ksEnv qual scope s.heap.objs.size f (.ref cda) cc) S.sup S.cls (by decide) rfl (K1 _ _ lk) rfl har rfl (K1 _ _ hcode) rfl hvs hfile Fx.top ?_
  refine PySem.W.ks_loadName_global S.kind S.sup (Calls.loadGlobal_builtin (env := PySem.W.ksEnv qual scope s.heap.objs.size f (.ref cda) cc) (I0.mod.glob.keeps I0.bk) (PySem.W.mg_none_of I0.mod.kin I0.mod.glob O.noS) (hb1.keeps I0.bk) ((hb2 _ (by decide)).trans PyProof.Rows.Boot.super) ⟨rfl, ?_⟩)
  refine wpAny_loadName_free S.kind S.cls rfl ⟨_, K1 _ _ hcell, rfl⟩ ?_
  refine wpAny_loadName_local S.kind (S.par _ hpar) hns hself ?_
  refine PySem.ks_wpAny_isType_cls hD1 hD2 ⟨rfl, ?_⟩
  refine PySem.ks_wpAny_call_super hD1 hD2 hx1 rfl (fun c e => by cases e) (PySem.W.looks_mroIn K1 O.mro) (fun h2 e2 k2 => ?_)
  have K2 : K.In h2 := K1.keeps k2
  cases hcd2 : PySem.W.clsIn K C with
  | none =>
    have := O.sup
    unfold PySem.W.ks_superIn at this
    rw [hcd2] at this
    cases this
  | some cdC =>
  have hsup := O.sup
  unfold PySem.W.ks_superIn at hsup
  rw [hcd2] at hsup
  have II : PySem.W.InstAt h2 a { cls := .ref C, dict := none, data := .fields #[.ref t1, .none, .none, .none, .bool false, .none] } C none := ⟨k2 _ _ hx1, rfl, rfl, trivial⟩
  refine PySem.W.kxs_getMethod PySem.W.kxs_ValueError e2 (PySem.W.looks_opaque K2 O.noT) (fun A Q E s k q => wpAny_bind ((PySem.W.looks_clsIn K2 hcd2) A _ E s k (wpAny_pure q))) rfl K2 hsup (II.type.andThen (PySem.W.looks_subIn K2 O.subV)) (PySem.W.ks_ne K2 II hcd2) (by decide) ?_
  have J1 := I0.kept (t' := s.toks + (ps.zip (Value.ref a :: usr)).length + 1) (h' := h2.push (PySem.W.kxs_mw "ValueError.__init__" a)) fun b o e => Heap.get?_push_of_some _ (k2 b o e)
  have lt12 : h₁.objs.size < h2.objs.size := Heap.lt_size e2
  have J2 : Inv (cxX CX P w K mg base N qual scope f cc (.ref cda) A outer s H E) [(h2.objs.size, PySem.W.kxs_mw "ValueError.__init__" a)] (L2.start N (.ref a :: ws)) H _ := J1.pins_of fun p hp => by
    have ep : p = (h2.objs.size, PySem.W.kxs_mw "ValueError.__init__" a) := by simpa using hp
    subst ep
    exact ⟨Heap.get?_push_size _ rfl, I0.hok.fresh (Nat.le_of_lt lt12), Nat.ne_of_gt (Nat.lt_trans I0.lt lt12), I0.nofs (Nat.le_of_lt lt12), fun v z => by cases z⟩
  show wpAny _ _ (callWith pos (.ref h2.objs.size) [] (backTo pos (starEach [arg] (PySem.W.ksEnv qual scope s.heap.objs.size f (.ref cda) cc))) []) _ _ _
  have hA := ha.run pos [(h2.objs.size, PySem.W.kxs_mw "ValueError.__init__" a)] _ _ H _ J2 q
  have hst' := hst (PySem.W.ksEnv qual scope s.heap.objs.size f (.ref cda) cc)
  rw [show (cxX CX P w K mg base N qual scope f cc (.ref cda) A outer s H E).env = PySem.W.ksEnv qual scope s.heap.objs.size f (.ref cda) cc from rfl, hst'] at hA
  rw [hst']
  refine PySem.W.kxs_callWith (i := "ValueError.__init__") (x := a) rfl (Calls.evalArgs_plain (thn hA fun us3 s3 ⟨vs3, H3, I3, r3, hl3, ea3, q3⟩ => ?_))
  have hu3 := (I3.pin (h2.objs.size, PySem.W.kxs_mw "ValueError.__init__" a) (List.mem_append_right _ (List.mem_cons_self ..))).1
  refine ⟨hu3, bound_init O.oex I3 ea3 hu3 (by show us3.length ≤ _; rw [← Paired.length r3, sizeLine_eq]; omega) fun s4 I4 => ?_⟩
  have I5 : Inv (cxX CX P w K mg base N qual scope f cc (.ref cda) A outer s H E) [] (L2.start N (.ref a :: ws)) H3 s4 := Inv.unpinned (pins := []) (pl := [(h2.objs.size, PySem.W.kxs_mw "ValueError.__init__" a)]) I4
  show PySem.wpAt _ _ _ (execs rest _) _ _ _
  refine wpAt_of_wpAny (wpAny_mono (ht.run [] s4 _ H3 _ I5 q3) (fun fl s' hs => ?_) fun e s' hs => hs)
  have fin : ∀ {σ' : L2.St} {H' : Hp} {v : V} {u : Value}, Inv (cxX CX P w K mg base N qual scope f cc (.ref cda) A outer s H E) [] σ' H' s' → RelV v u → Q v H' → CE outer P w H s Q u s' :=
    fun {σ' H' v u} J rv q => ⟨v, H', J.os, J.bare, J.base, J.hok, rv, q⟩
  cases fl with
  | ret u =>
    obtain ⟨v, σ', H', J, rv, q⟩ := hs
    exact fin J rv q
  | next =>
    obtain ⟨σ', H', J, q⟩ := hs
    exact fin (v := V.non) (u := Value.none) J rfl q
  | brk =>
    obtain ⟨_, _, _, q⟩ := hs
    exact False.elim q
  | cont =>
    obtain ⟨_, _, _, q⟩ := hs
    exact False.elim q
end PP

set_option Elab.async false
set_option linter.all false
set_option maxRecDepth 100000
set_option maxHeartbeats 1000000
namespace PP
open PySem PySem.Spec PyProof.Rows L2

/-! ### the package's exception classes: what their __init__ leaves -/
def spEx (C : Addr) (fs : List Str) (ok : List V → Prop) : Sp := fun vs H Q _ => ∃ (a : Addr) (ws : List V), vs = .ref a :: ws ∧ ws.length = fs.length ∧ ok ws ∧ H a = some (exo a C none) ∧ (fs = [] → Q .non H) ∧
  (fs ≠ [] → ∀ dx, H dx = none → dx ≠ a → Q .non (upd (upd H dx (exd dx (fs.zip ws).reverse)) a (exo a C (some dx))))
def okText (ws : List V) : Prop := ∃ v, ws = [v] ∧ ((∃ y : Str, v = .str y ∧ y.length ≤ 1000) ∨ ∃ i : Int, v = .int i ∧ i.natAbs.log2 < 1920)
def okAny (_ : List V) : Prop := True
structure Exc0 (P : Program) (K : PySem.W.Frag) (C f cc : Addr) (fs : List Str) : Prop where
  s : OexS K C C
  no : ∀ g ∈ fs, PySem.W.findIn K (.ref C) g = some none
theorem upd_upd {H : Hp} {a : Addr} {o o' : HO} : upd (upd H a o) a o' = upd H a o' := by
  funext b
  by_cases h : b = a
  · rw [h, upd_same, upd_same]
  · rw [upd_ne h, upd_ne h, upd_ne h]
theorem upd_comm {H : Hp} {a b : Addr} {o o' : HO} (n : a ≠ b) : upd (upd H a o) b o' = upd (upd H b o') a o := by
  funext c
  by_cases h : c = a
  · subst h
    rw [upd_same, upd_ne n, upd_same]
  · by_cases h2 : c = b
    · subst h2
      rw [upd_same, upd_ne h, upd_same]
    · rw [upd_ne h2, upd_ne h, upd_ne h, upd_ne h2]
section
variable {P : Program} {w : World} {K : PySem.W.Frag} {mg : Str → Option Value} {base : Heap} {f cc C : Addr} {x qual : Str} {params : Arguments} {scope : Scope} {fd : FuncData} {arg : Expr} {p0 p1 apos pos pos' : Pos} {ar : Arg}
/-- the fields' stores -/
theorem sto_run {X : Cx} {y g : Str} {q1 q2 q3 q4 : Pos} {i : Nat} (hN0 : X.N[0]? = some ("self" : Str)) (hNi : X.N[i]? = some y) (v0 : Vis X.env.scope "self") (vi : Vis X.env.scope y) (hd : (y == ("__debug__" : Str)) = false) (hcd : (y == ("__classdict__" : Str)) = false) :
    PS X (.Assign [.Attribute (.Name "self" q1) g q2] (.Name y q3) q4) (tOst X.K g (tVar 0) (tVar i)) := ps_ost (pe_var hN0 v0) (pe_var hNi vi hd hcd)
theorem fx_c0 {c1 : Str} {j1 : Nat} {q1 : Pos} (Fx : FunX P K x qual params [.Expr (.Call (.Attribute (.Call (.Name "super" p0) [] [] p1) "__init__" apos) [.Constant (.str c1) j1 q1] [] pos) pos'] scope f cc C fd)
    (S : ScX ["self"] ["self"] scope) (har : (params.posonlyargs ++ params.args).head? = some ar) (hn : ar.arg = "self") (O : Exc0 P K C f cc []) (hev : SupEv p0 p1 apos pos (.Constant (.str c1) j1 q1)) : FnOk P w K mg base (L2.CX P w) 1 f fd ["self"] (spEx C [] okAny) := by
  refine fn_excinit (k := 0) (ix := 0) Fx S har (by rw [hn]; rfl) (by rw [hn]; exact List.mem_cons_self ..) (fun vs H Q E ⟨a, ws, e, l, _⟩ => ?_) (fun env => rfl) (fun env => rfl) hev fun cda A outer s H vs Q E hr ⟨a, ws, e, l, ok, ea, q0, q⟩ => ?_
  · rw [e]
    simp only [List.length_nil, List.length_eq_zero_iff] at l
    rw [l]
    rfl
  · simp only [List.length_nil, List.length_eq_zero_iff] at l
    subst l
    subst e
    exact ⟨_, _, a, C, [], pa_cons pe_str pa_nil, pss_nil, rfl, O.s, ea, by simp, ea, q0 rfl⟩
theorem fx_c1 {c1 y : Str} {j1 : Nat} {q1 r1 r2 r3 r4 : Pos} (Fx : FunX P K x qual params [.Expr (.Call (.Attribute (.Call (.Name "super" p0) [] [] p1) "__init__" apos) [.Constant (.str c1) j1 q1] [] pos) pos', .Assign [.Attribute (.Name "self" r1) y r2] (.Name y r3) r4] scope f cc C fd)
    (S : ScX ["self", y] ["self", y] scope) (har : (params.posonlyargs ++ params.args).head? = some ar) (hn : ar.arg = "self") (hd : (y == ("__debug__" : Str)) = false) (hcd : (y == ("__classdict__" : Str)) = false) (O : Exc0 P K C f cc [y]) (hev : SupEv p0 p1 apos pos (.Constant (.str c1) j1 q1)) : FnOk P w K mg base (L2.CX P w) 1 f fd ["self", y] (spEx C [y] okAny) := by
  refine fn_excinit (k := 0) (ix := 0) Fx S har (by rw [hn]; rfl) (by rw [hn]; exact List.mem_cons_self ..) (fun vs H Q E ⟨a, ws, e, l, _⟩ => ?_) (fun env => rfl) (fun env => rfl) hev fun cda A outer s H vs Q E hr ⟨a, ws, e, l, ok, ea, q0, q⟩ => ?_
  · rw [e, List.length_cons, l]
    rfl
  · obtain ⟨v, rfl⟩ := List.length_eq_one_iff.mp l
    subst e
    refine ⟨_, _, a, C, [v], pa_cons pe_str pa_nil, pss_one (sto_run (i := 1) rfl rfl (.inl (S.par _ (List.mem_cons_self ..))) (.inl (S.par _ (List.mem_cons_of_mem _ (List.mem_cons_self ..)))) hd hcd), rfl, O.s, ea, ?_⟩
    refine ⟨by simp, ea, v, rfl, .ref a, rfl, a, C, rfl, O.s.oex, O.no y (List.mem_cons_self ..), .inl ⟨ea, fun dx hdx ne => ?_⟩⟩
    exact q (by simp) dx hdx ne
theorem fx_c2 {c1 y z : Str} {j1 : Nat} {q1 r1 r2 r3 r4 r5 r6 r7 r8 : Pos} (Fx : FunX P K x qual params [.Expr (.Call (.Attribute (.Call (.Name "super" p0) [] [] p1) "__init__" apos) [.Constant (.str c1) j1 q1] [] pos) pos', .Assign [.Attribute (.Name "self" r1) y r2] (.Name y r3) r4, .Assign [.Attribute (.Name "self" r5) z r6] (.Name z r7) r8] scope f cc C fd)
    (S : ScX ["self", y, z] ["self", y, z] scope) (har : (params.posonlyargs ++ params.args).head? = some ar) (hn : ar.arg = "self") (hd : (y == ("__debug__" : Str)) = false) (hcd : (y == ("__classdict__" : Str)) = false) (hd2 : (z == ("__debug__" : Str)) = false) (hcd2 : (z == ("__classdict__" : Str)) = false) (O : Exc0 P K C f cc [y, z]) (hev : SupEv p0 p1 apos pos (.Constant (.str c1) j1 q1)) : FnOk P w K mg base (L2.CX P w) 1 f fd ["self", y, z] (spEx C [y, z] okAny) := by
  refine fn_excinit (k := 0) (ix := 0) Fx S har (by rw [hn]; rfl) (by rw [hn]; exact List.mem_cons_self ..) (fun vs H Q E ⟨a, ws, e, l, _⟩ => ?_) (fun env => rfl) (fun env => rfl) hev fun cda A outer s H vs Q E hr ⟨a, ws, e, l, ok, ea, q0, q⟩ => ?_
  · rw [e, List.length_cons, l]
    rfl
  · obtain ⟨v, u, rfl⟩ : ∃ v u, ws = [v, u] := by
      match ws, l with
      | [v, u], _ => exact ⟨v, u, rfl⟩
    subst e
    refine ⟨_, _, a, C, [v, u], pa_cons pe_str pa_nil, pss_cons (sto_run (i := 1) rfl rfl (.inl (S.par _ (List.mem_cons_self ..))) (.inl (S.par _ (List.mem_cons_of_mem _ (List.mem_cons_self ..)))) hd hcd)
      (pss_one (sto_run (i := 2) rfl rfl (.inl (S.par _ (List.mem_cons_self ..))) (.inl (S.par _ (List.mem_cons_of_mem _ (List.mem_cons_of_mem _ (List.mem_cons_self ..))))) hd2 hcd2)), rfl, O.s, ea, ?_⟩
    refine ⟨by simp, ea, v, rfl, .ref a, rfl, a, C, rfl, O.s.oex, O.no y (List.mem_cons_self ..), .inl ⟨ea, fun dx hdx ne => ?_⟩⟩
    refine ⟨u, rfl, .ref a, rfl, a, C, rfl, O.s.oex, O.no z (List.mem_cons_of_mem _ (List.mem_cons_self ..)), .inr ⟨dx, [(y, v)], upd_same, (upd_ne ne).trans upd_same, by simp, ?_⟩⟩
    have r := q (by simp) dx hdx ne
    rw [upd_comm (Ne.symm ne), upd_upd]
    exact r
theorem fx_f1 {c1 c2 y : Str} {j1 j2 : Nat} {q1 q2 q3 q4 q5 r1 r2 r3 r4 : Pos} (Fx : FunX P K x qual params [.Expr (.Call (.Attribute (.Call (.Name "super" p0) [] [] p1) "__init__" apos) [.JoinedStr [.Constant (.str c1) j1 q1, .FormattedValue (.Name y q2) (-1) none q3, .Constant (.str c2) j2 q4] q5] [] pos) pos', .Assign [.Attribute (.Name "self" r1) y r2] (.Name y r3) r4] scope f cc C fd)
    (S : ScX ["self", y] ["self", y] scope) (har : (params.posonlyargs ++ params.args).head? = some ar) (hn : ar.arg = "self") (hd : (y == ("__debug__" : Str)) = false) (hcd : (y == ("__classdict__" : Str)) = false) (hc1 : c1.length ≤ 100) (hc2 : c2.length ≤ 100) (O : Exc0 P K C f cc [y]) (hev : SupEv p0 p1 apos pos (.JoinedStr [.Constant (.str c1) j1 q1, .FormattedValue (.Name y q2) (-1) none q3, .Constant (.str c2) j2 q4] q5)) : FnOk P w K mg base (L2.CX P w) 1 f fd ["self", y] (spEx C [y] okText) := by
  refine fn_excinit (k := 0) (ix := 0) Fx S har (by rw [hn]; rfl) (by rw [hn]; exact List.mem_cons_self ..) (fun vs H Q E ⟨a, ws, e, l, _⟩ => ?_) (fun env => rfl) (fun env => rfl) hev fun cda A outer s H vs Q E hr ⟨a, ws, e, l, ok, ea, q0, q⟩ => ?_
  · rw [e, List.length_cons, l]
    rfl
  · obtain ⟨v, rfl⟩ := List.length_eq_one_iff.mp l
    subst e
    have vy : Vis (cxX (L2.CX P w) P w K mg base ["self", y] qual scope f cc (.ref cda) A outer s H E).env.scope y := .inl (S.par _ (List.mem_cons_of_mem _ (List.mem_cons_self ..)))
    refine ⟨_, _, a, C, [v], pa_cons (pe_joined (.cons pe_str (.cons (pe_fmt (pe_var (i := 1) rfl vy hd hcd)) (.cons pe_str .nil)))) pa_nil, pss_one (sto_run (i := 1) rfl rfl (.inl (S.par _ (List.mem_cons_self ..))) vy hd hcd), rfl, O.s, ea, ?_⟩
    have fin : (([] : List V).length + 1) ≤ 1000 ∧ H a = some (exo a C none) ∧ tOst K y (tVar 0) (tVar 1) { nx := fun _ H' => Q .non H', rt := Q } (L2.start ["self", y] [.ref a, v]) H :=
      ⟨by simp, ea, v, rfl, .ref a, rfl, a, C, rfl, O.s.oex, O.no y (List.mem_cons_self ..), .inl ⟨ea, fun dx hdx ne => q (by simp) dx hdx ne⟩⟩
    have e0 : (Str.empty ++ c1).length ≤ 100 := by rw [Str.length_append]; exact Nat.le_trans (by show 0 + c1.length ≤ c1.length; omega) hc1
    refine ⟨c1, rfl, by rw [sizeLine_eq]; omega, v, rfl, ?_⟩
    obtain ⟨v', ev, hv⟩ := ok
    cases ev
    rcases hv with ⟨t, rfl, ht⟩ | ⟨i, rfl, hi⟩
    · have e1 : ((Str.empty ++ c1) ++ t).length ≤ 1100 := by rw [Str.length_append]; omega
      refine .inl ⟨t, rfl, by rw [sizeLine_eq]; omega, t, rfl, by rw [sizeLine_eq]; omega, c2, rfl, by rw [sizeLine_eq, Str.length_append]; omega, fin⟩
    · have e2 := int_text_len_1921 hi
      have e1 : ((Str.empty ++ c1) ++ Str.ofString (toString i)).length ≤ 2100 := by rw [Str.length_append]; omega
      refine .inr ⟨i, rfl, hi, _, rfl, by rw [sizeLine_eq]; exact Nat.le_trans e1 (by omega), c2, rfl, by rw [sizeLine_eq, Str.length_append]; omega, fin⟩
end
end PP

set_option Elab.async false
set_option linter.all false
set_option maxRecDepth 100000
set_option maxHeartbeats 1000000
namespace PP
open PySem PySem.Spec PyProof.Rows L2

/-! ### exceptions as values: made, asked, read -/
section
open PySem.W PySem.Calls
variable {prog : Program} {w : World} {A : Around} {E : Value → Shared → Prop} {s : Shared} {K : Frag} {x D : Addr} {ox : Obj} {od : Option Obj}
theorem findObj_dataA {C : Addr} {name : Str} {a g : Value} (hc : (clsIn K C).isSome = true) (ha : findIn K (.ref C) name = some (some a)) (hg : specialIn K a "__get__" = some (some g)) (ht : takesIn K a = some true) : findObj K C od name = some (.bind g a) := by
  cases od with
  | none => exact findObj_dataN hc ha hg ht
  | some o => exact findObj_data hc ha hg ht
theorem kin_classX {Q : Option Value → Shared → Prop} (T : ExcC K D) (X : K.In s.heap) (I : PySem.W.InstAt s.heap x ox D od) (h : Q (some (.ref D)) { s with toks := s.toks + 1 }) : wpAny (model prog w) A (getAttr? (.ref x) "__class__") Q E s := by
  have hf : findObj K D od "__class__" = some (.bind (.builtin "getset_descriptor.__get__") (.builtin "object.__class__")) := findObj_dataA (by obtain ⟨cd, hc, _⟩ := any_some T.hd; rw [hc]; rfl) T.ha T.hn T.ht
  obtain ⟨hp, g, d, t, os⟩ := s
  have L0 := I.type (M := model prog w)
  have L1 := looks_findIn (M := model prog w) X T.hg
  have L2 := looks_findIn (M := model prog w) X T.hk
  have L3 := looks_find (M := model prog w) X I hf
  have sub : Looks (model prog w) hp (isInstance (.ref x) (.type "BaseException")) true := L0.andThen (looks_subIn X T.hs)
  have hx0 : (false && onTheHeap (Value.builtin "BaseException.__getattribute__")) = false := rfl
  have hx2 : (Value.builtin "BaseException.__getattribute__" == Value.builtin "object.__getattribute__") = false := by decide +kernel
  have hx1 : (onTheHeap (Value.ref D) && Value.builtin "BaseException.__getattribute__" == Value.builtin "object.__getattribute__") = false := by rw [hx2]; rfl
  unfold getAttr? getAttrBy? getAttrBy
  refine wpAny_bind (wpAny_mkText (wpAny_bind (wpAny_attempt (wpAny_holding (wpAny_bind (L0.at (wpAny_bind (L1.at ?_))))))))
  show wpAny _ _ (if (onTheHeap (Value.ref D) && Value.builtin "BaseException.__getattribute__" == Value.builtin "object.__getattribute__") = true then _ else _) _ _ _
  rw [hx1, if_neg Bool.false_ne_true]
  unfold getAttrByItsOwn hookBefore
  refine wpAny_bind ?_
  rw [if_pos (show onTheHeap (Value.ref D) = true from rfl)]
  refine L2.at ?_
  refine wpAny_bind (wpAny_attempt (wpAny_holding ?_))
  unfold callGetattribute
  rw [hx0, if_neg Bool.false_ne_true]
  unfold boundAndCalled
  rw [PySem.F.excAttr_ValueError.ga.bind (.ref x)]
  refine wpAny_bind (wpAny_pure ?_)
  show wpAny _ _ (call (.builtin "BaseException.__getattribute__") [.ref x, .str "__class__" t]) _ _ _
  refine wpAny_call (codeAny_call_builtin PySem.F.excAttr_ValueError.ga.plain PySem.F.entry_bexc_ga ?_)
  refine @check_slot (model prog w) _ _ ⟨hp, g, d, t + 1, os⟩ "BaseException.__getattribute__" "BaseException" "__getattribute__" (.ref x) [.str "__class__" t] [] _ (by decide +kernel) (by decide +kernel) sub (PySem.F.args_bexc_ga (.ref x) (.str "__class__" t)) ?_
  unfold Builtin.«object.__getattribute__»
  refine wpAny_bind (wpAny_of_eq (a := ((Value.ref x : Value), [Value.str "__class__" t])) (by first | rfl | (simp only [slotArgs]; rfl)) ?_)
  refine wpAny_bind (wpAny_pure (wpAny_bind (L0.at (wpAny_bind (L3.at ?_)))))
  show wpAny _ _ (holding [Value.builtin "object.__class__"] (call (.builtin "getset_descriptor.__get__") [.builtin "object.__class__", .ref x, .ref D]) >>= ret) _ _ _
  refine wpAny_bind (wpAny_holding (wpAny_call (class_get (s := ⟨hp, g, d, t + 1, os⟩) (ox := ox) (od := od) X I T.hm ?_)))
  refine wpAny_pure ?_
  show wpAny _ _ (handedOut (.ref D)) _ _ _
  rw [handedOut_of (v := .ref D) rfl]
  first
    | exact wpAny_pure (wpAny_pure h)
    | exact wpAny_pure h
    | exact wpAny_pure (wpAny_bind (wpAny_pure (wpAny_pure h)))
theorem kitx_exc (T : ExcC K D) : KitX K (.ref x) (.ref D) (fun h => PySem.W.InstAt h x ox D od) where
  ty := fun _ _ _ I => I.type
  it := fun _ _ X _ => by
    obtain ⟨cdD, hcD, _⟩ := any_some T.hd
    unfold clsIn at hcD
    split at hcD
    · rename_i c' d' cd' sl' ho
      intro A' Q' E' s' k q
      unfold isType loadHead
      exact wpAny_bind (wpAny_loadPart (k _ _ (X _ _ ho)) (wpAny_pure q))
    · cases hcD
  ne := fun h tp dd its n sl X htp => by
    obtain ⟨cdD, hcD, _⟩ := any_some T.hd
    refine Bool.eq_false_iff.mpr fun q => ?_
    have e : D = tp := Value.ref.inj (beq_iff_eq.mp q)
    subst e
    unfold clsIn at hcD
    split at hcD
    · rename_i c' d' cd' sl' ho
      have z := (X _ _ ho).symm.trans htp
      cases z
    · cases hcD
  ca := fun X I k => kin_classX T X I k
end
/-- an exception that stands in the heap as a value -/
inductive Exo (H : Hp) (a C : Addr) : Prop where
  | bare (h : H a = some (exo a C none))
  | dict {dx : Addr} {fs : List (Str × V)} (h : H a = some (exo a C (some dx))) (hd : H dx = some (exd dx fs))
theorem Exo.inst {X : Cx} {pins : List (Addr × Obj)} {σ : L2.St} {H : Hp} {s : Shared} {a C : Addr} (I : Inv X pins σ H s) (h : Exo H a C) : ∃ ox od, PySem.W.InstAt s.heap a ox C od := by
  cases h with
  | bare h =>
    obtain ⟨t1, ho⟩ := exo_at I.hok h
    exact ⟨_, none, ho, rfl, rfl, trivial⟩
  | dict h hd =>
    obtain ⟨t1, ho⟩ := exo_at I.hok h
    obtain ⟨mA, hns, rel⟩ := exd_at I.hok hd
    obtain ⟨oD, _, _, hoD, _, _⟩ := id hns
    exact ⟨_, some oD, ho, rfl, rfl, hoD⟩
def rIsX (K : PySem.W.Frag) : List V → Hp → VK → Prop := fun xs H Q => ∃ (a C : Addr) (c : V) (u : Value) (b : Bool), xs = [.ref a, c] ∧ Exo H a C ∧ ClsV c u ∧ ExcC K C ∧ PySem.W.kitOne K (.ref C) u = some b ∧ Q (.bl b) H
theorem call_isX {X : Cx} : CallR X (.builtin "isinstance") (rIsX X.K) := by
  intro pins s σ H xs us Q I r h
  obtain ⟨a, C, c, u, b, rfl, ex, k, T, e, q⟩ := h
  obtain ⟨u1, u2, rfl, r1, r2⟩ := vals2 r
  have e2 := k.eq r2
  subst e2
  obtain rfl : u1 = Value.ref a := r1
  obtain ⟨ox, od, J⟩ := ex.inst I
  exact PySem.W.kia_one (kitx_exc T) I.kIn J e (fun z => nomatch z) fun tk => ⟨.bl b, H, I.tok tk, rfl, q⟩
/-- e.f, e an exception that stands in the heap -/
def tXv (K : PySem.W.Frag) (f : Str) (te : TE) : TE := fun σ H Q => te σ H fun x H1 => ∃ (a C dx : Addr) (fs : List (Str × V)) (v : V), x = .ref a ∧ XfC K C ∧ PySem.W.findIn K (.ref C) f = some none ∧ H1 a = some (exo a C (some dx)) ∧ H1 dx = some (exd dx fs) ∧ fs.lookup f = some v ∧ Q v H1
theorem pe_xv {X : Cx} {e : Expr} {te : TE} {pos : Pos} {n : Str} (he : PE X e te) (hb : attributeBase e n X.env (eval e X.env) = eval e X.env := by rfl) : PE X (.Attribute e n pos) (tXv X.K n te) := by
  refine ⟨fun pins s σ H Q I h => ?_⟩
  refine attr_of hb (thn (he.run pins s σ H _ I h) fun u s1 ⟨x, H1, I1, rx, a, C, dx, fs, v, ex, T, hno, ea, ed, l, q⟩ => ?_)
  subst ex
  obtain rfl : u = Value.ref a := rx
  obtain ⟨t1, ho⟩ := exo_at I1.hok ea
  obtain ⟨mA, hns, hr⟩ := exd_at I1.hok ed
  obtain ⟨od, ho2, hl⟩ := lookIn_ns hns
  obtain ⟨u, hu, ru⟩ := RelO.some_of (v := v) (o := mA n) (by rw [← l]; exact hr n)
  have J : PySem.W.InstAt s1.heap a { cls := .ref C, dict := some dx, data := .fields #[.ref t1, .none, .none, .none, .bool false, .none] } C (some od) := ⟨ho, rfl, rfl, ho2⟩
  exact HandSPX.exc_get I1.kIn J T.ga T.gg T.exC (PySem.W.findObj_own T.hdC hno rfl (by rw [hl, hu])) (handed_of ru) ⟨v, H1, I1.tok _, ru, q⟩
/-- C(e, ..) as a value -/
def tMkV (C : Addr) (sp : Sp) (ta : TA) : TE := fun σ H Q => ta σ H fun vs H1 => vs.length ≤ 1000 ∧ ∀ a, H1 a = none → sp (.ref a :: vs) (upd H1 a (exo a C none)) (fun v H2 => v = .non ∧ Q (.ref a) H2) (fun _ _ _ => False)
theorem run_mkx {X : Cx} {pins : List (Addr × Obj)} {σ : L2.St} {H1 : Hp} {Q : VK} {C fI : Addr} {k : Nat} {fd : FuncData} {ps : List Str} {sp : Sp} {us : List Value} {vs : List V} {s : Shared} (T : OexC X.K C) (iC : PySem.W.findIn X.K (.ref C) "__init__" = some (some (.ref fI))) (tI : PySem.W.typeIn X.K (.ref fI) = some (.type "function"))
    (F1 : FnOk X.prog X.w X.K X.mg X.base (L2.CX X.prog X.w) k fI fd ps sp) (hr : Room (k + 1) X.A) (hb : Binds X.K fd ps []) (I1 : Inv X pins σ H1 s) (r1 : Vals vs us) (hz : vs.length ≤ 1000)
    (q1 : ∀ a, H1 a = none → sp (.ref a :: vs) (upd H1 a (exo a C none)) (fun v H2 => v = .non ∧ Q (.ref a) H2) (fun _ _ _ => False)) : wpAny (model X.prog X.w) X.A (call (.ref C) us) (EP X pins σ Q) X.xe s := by
  obtain ⟨nm, q, N, bs, bm, sn, sub, ab, col, dd, k0, k1, k2, k3, k5, hC, hbm⟩ := T.cls
  obtain ⟨hp, g, dr, tk, os⟩ := s
  have hsz : hp.objs.size ≤ hp.objs.size + 1 := Nat.le_succ _
  have hn : H1 (hp.objs.size + 1) = none := I1.hok.fresh hsz
  have hq := q1 (hp.objs.size + 1) hn
  have kk : ∀ b o, hp.get? b = some o → ((hp.push (PySem.W.kdv_tup us)).push (PySem.HandSPX.excO C hp.objs.size)).get? b = some o := fun b o e => Heap.get?_push_of_some _ (Heap.get?_push_of_some _ e)
  have hget : ((hp.push (PySem.W.kdv_tup us)).push (PySem.HandSPX.excO C hp.objs.size)).get? (hp.objs.size + 1) = some (PySem.HandSPX.excO C hp.objs.size) := by heap_get
  have I2 : Inv X pins σ (upd H1 (hp.objs.size + 1) (exo (hp.objs.size + 1) C none)) ⟨(hp.push (PySem.W.kdv_tup us)).push (PySem.HandSPX.excO C hp.objs.size), g, dr, tk, os⟩ :=
    I1.laid (t' := tk) (a := hp.objs.size + 1) (o := exo (hp.objs.size + 1) C none) (h' := (hp.push (PySem.W.kdv_tup us)).push (PySem.HandSPX.excO C hp.objs.size)) kk hsz (exo_ok hget)
  have r2 : Vals (V.ref (hp.objs.size + 1) :: vs) (Value.ref (hp.objs.size + 1) :: us) := .cons rfl r1
  have hl : (Value.ref (hp.objs.size + 1) :: us ++ []).length = ps.length := by
    have e := r2.length
    rw [F1.len _ _ _ _ hq] at e
    rw [List.append_nil]
    exact e.symm
  have hus : us.length ≤ sizeLine := by
    rw [← Paired.length r1, sizeLine_eq]
    omega
  have hb2 := hb _ (Value.ref (hp.objs.size + 1) :: us) I2.kIn hl
  rw [List.append_nil] at hb2
  refine wpAny_call (PySem.HandSPX.call_own F.excBase_ValueError (fun Y => PySem.HandSPX.refsVE_contains Y bm hbm) (I1.kIn _ _ hC) (PySem.W.looks_findIn I1.kIn iC) (fun self => PySem.W.bind_fn I1.kIn self tI) hus
    (codeAny_mono (F1.run _ X.stack _ _ ⟨Value.ref (hp.objs.size + 1) :: us, []⟩ (Value.ref (hp.objs.size + 1) :: us) _ _ (fun _ _ _ => False) (hr.make C us []) (I2.env0.make C us []) hb2 r2 hq) fun r s' hq' => ?_))
  cases r with
  | error er => exact takes0 er s' (XE.of_call (W := fun _ _ _ _ => False) I2 (fun _ _ _ h => h) hq')
  | ok fl =>
    cases fl with
    | ret u =>
      obtain ⟨v, H', I3, rv, ev, q3⟩ := I2.after hq'
      subst ev
      exact ⟨rv, ⟨V.ref (hp.objs.size + 1), H', I3, rfl, q3⟩⟩
    | next => exact False.elim hq'
    | brk => exact False.elim hq'
    | cont => exact False.elim hq'
section
variable {X : Cx} {C fI : Addr} {k : Nat} {fd : FuncData} {ps : List Str} {sp : Sp} {x : Str} {p pos : Pos} {e : Expr} {es : List Expr} {ta : TA}
theorem pe_mkv (T : OexC X.K C) (iC : PySem.W.findIn X.K (.ref C) "__init__" = some (some (.ref fI))) (tI : PySem.W.typeIn X.K (.ref fI) = some (.type "function")) (F1 : FnOk X.prog X.w X.K X.mg X.base (L2.CX X.prog X.w) k fI fd ps sp) (hr : Room (k + 1) X.A) (hb : Binds X.K fd ps []) (hg : Gl X x) (hm : X.mg x = some (.ref C)) (ha : PA X (e :: es) ta)
    (hdb : (x == ("__debug__" : Str)) = false := by decide) (he : starEach (e :: es) X.env = (false, eval e X.env) :: starEach es X.env := by rfl) (hpl : (backTo pos (starEach es X.env)).any (·.1) = false := by rfl) :
    PE X (.Call (.Name x p) (e :: es) [] pos) (tMkV C sp ta) := by
  refine ⟨fun pins s σ H Q I h => ?_⟩
  refine wpAny_Call_Name_kw (ld_glob I hg hm ?_ hdb)
  exact PySem.W.callWith_K (h₀ := X.base) I.ok.mod.kin T.kC (thn (ha.run pos pins s σ H _ I h) fun us s1 ⟨vs, H1, I1, r1, hz, q1⟩ => ⟨I1.kIn, run_mkx T iC tI F1 hr hb I1 r1 hz q1⟩) he hpl
theorem pe_mkv0 (T : OexC X.K C) (iC : PySem.W.findIn X.K (.ref C) "__init__" = some (some (.ref fI))) (tI : PySem.W.typeIn X.K (.ref fI) = some (.type "function")) (F1 : FnOk X.prog X.w X.K X.mg X.base (L2.CX X.prog X.w) k fI fd ps sp) (hr : Room (k + 1) X.A) (hb : Binds X.K fd ps []) (hg : Gl X x) (hm : X.mg x = some (.ref C))
    (hdb : (x == ("__debug__" : Str)) = false := by decide) : PE X (.Call (.Name x p) [] [] pos) (tMkV C sp tNil) := by
  refine ⟨fun pins s σ H Q I h => ?_⟩
  refine wpAny_Call_Name_kw (ld_glob I hg hm ?_ hdb)
  exact PySem.W.callWith_K0 I.kIn T.kC (run_mkx (us := []) T iC tI F1 hr hb I .nil h.1 h.2)
/-- C(), C without an __init__ of its own -/
def tMkN (C : Addr) : TE := fun _ H Q => ∀ a, H a = none → Q (.ref a) (upd H a (exo a C none))
theorem pe_mkn (T : OexC X.K C) (q : PySem.W.excIn X.K C He.veBase "ValueError.__new__" = true) (hg : Gl X x) (hm : X.mg x = some (.ref C)) (hdb : (x == ("__debug__" : Str)) = false := by decide) : PE X (.Call (.Name x p) [] [] pos) (tMkN C) := by
  refine ⟨fun pins s σ H Q I h => ?_⟩
  refine wpAny_Call_Name_kw (ld_glob I hg hm ?_ hdb)
  obtain ⟨bm, N, nm, qn, bs, hdct, sn, sub, ab, col, dd, k0, k1, k2, k3, k5, mN, hC, hN, hni, T2⟩ := exc_obj I.kIn q
  refine PySem.W.callWith_K0 I.kIn T.kC (wpAny_call_exc_subT F.excBase_ValueError T2 hC hN hni (fun h' e hm => ?_) (Nat.zero_le _))
  obtain ⟨t, ht, _⟩ := hm.there
  have hne := I.hok.gone hm.new
  have ne : ∀ {b : Addr} {u : Obj}, s.heap.get? b = some u → b ≠ e := fun {b u} q z => by
    rw [z, hm.new] at q
    cases q
  have U : Un X.fs [] H (upd H e (exo e C none)) s.heap h' := {
    keep := fun b u q _ _ _ => hm.keeps b u q
    slot := fun b u q _ _ _ => ⟨u.slots, hm.keeps b u q⟩
    free := fun b u q n _ => by rw [upd_ne (ne q)]; exact n
    there := fun b u q _ => ⟨u, hm.keeps b u q⟩
    tups := fun b xs q => by rw [upd_ne (ne_of_none q hne)]; exact q
    frzs := fun b u xs q => by rw [upd_ne (ne_of_none q hne)]; exact q
    tbls := fun b ps q => ⟨#[], by rw [upd_ne (ne_of_none q hne), q]; simp⟩ }
  have J : HOk X.prog X.w (upd H e (exo e C none)) h' := fun b u q => by
    by_cases hb : b = e
    · subst hb
      rw [upd_same] at q
      cases q
      exact exo_ok ht
    · rw [upd_ne hb] at q
      exact (I.hok b u q).stay (fun c v _ q => hm.keeps c v q) (fun c q => by rw [upd_ne (ne_of_none q hne)]; exact q) fun c xs q => by rw [upd_ne (ne_of_none q hne)]; exact q
  exact ⟨.ref e, _, I.un (t' := s.toks) U J, rfl, h e hne⟩
end
end PP

set_option Elab.async false
set_option linter.all false
set_option maxRecDepth 100000
set_option maxHeartbeats 1000000
namespace PP
open PySem PySem.Spec PyProof.Rows L2
variable {ST : Type}

/-! ### exceptions over data -/
theorem Ats.text {K : PySem.W.Frag} {A : Addr → Prop} {H : Hp} {vs : List V} {ds : List D} (a : Ats K A H vs ds) (h : ∃ d, ds = [d] ∧ ((∃ y : Str, d = .str y ∧ y.length ≤ 1000) ∨ ∃ i : Int, d = .int i ∧ i.natAbs.log2 < 1920)) : okText vs := by
  obtain ⟨d, rfl, h⟩ := h
  cases a with
  | cons a1 a2 =>
    cases a2
    rcases h with ⟨y, rfl, hy⟩ | ⟨i, rfl, hi⟩
    · cases a1
      exact ⟨_, rfl, .inl ⟨y, rfl, hy⟩⟩
    · cases a1
      exact ⟨_, rfl, .inr ⟨i, rfl, hi⟩⟩
def dText (ds : List D) : Prop := ∃ d, ds = [d] ∧ ((∃ y : Str, d = .str y ∧ y.length ≤ 1000) ∨ ∃ i : Int, d = .int i ∧ i.natAbs.log2 < 1920)
def dAny (_ : List D) : Prop := True
/-- what arguments data allow is what the contract asks -/
def OkD (ok : List V → Prop) (okd : List D → Prop) : Prop := ∀ K A H vs ds, Ats K A H vs ds → okd ds → ok vs
theorem okD_text : OkD okText dText := fun K A H vs ds a h => a.text h
theorem okD_any : OkD okAny dAny := fun K A H vs ds a h => trivial
theorem atk_zip {K : PySem.W.Frag} {A : Addr → Prop} {H : Hp} : ∀ {fs : List Str} {vs : List V} {ds : List D}, Ats K A H vs ds → Atk K A H Str (fs.zip vs) (fs.zip ds)
  | [], _, _, _ => by rw [List.zip_nil_left, List.zip_nil_left]; exact .nil
  | f :: fs, _, _, .nil => by rw [List.zip_nil_right, List.zip_nil_right]; exact .nil
  | f :: fs, _, _, .cons h t => .cons h (atk_zip t)
theorem Atk.rev {K : PySem.W.Frag} {A : Addr → Prop} {H : Hp} {κ : Type} [DecidableEq κ] {vs : List (κ × V)} {ds : List (κ × D)} (h : Atk K A H κ vs ds) : Atk K A H κ vs.reverse ds.reverse := by
  have key : ∀ {vs : List (κ × V)} {ds : List (κ × D)}, Atk K A H κ vs ds → Atk K A H κ vs.reverse ds.reverse := by
    intro vs
    induction vs with
    | nil => intro ds h; cases h; exact .nil
    | cons p vs ih =>
      intro ds h
      cases h with
      | cons h1 h2 =>
        rw [List.reverse_cons, List.reverse_cons]
        exact (ih h2).append (.cons h1 .nil)
  exact key h
def exnD (C : Addr) (fs : List Str) (ds : List D) : D := .exn C (fs.zip ds).reverse
def pMkX (C : Addr) (fs : List Str) (okd : List D → Prop) (pa : Px ST (List D)) : Px ST D := bindP pa fun ds => retP fun Q => (ds.length = fs.length ∧ ds.length ≤ 1000 ∧ okd ds) ∧ Q (exnD C fs ds)
section
variable {X : Cx} {B : Bs ST} {C fI : Addr} {k : Nat} {fd : FuncData} {ps fs : List Str} {ok : List V → Prop} {okd : List D → Prop} {x : Str} {p pos : Pos} {e : Expr} {es : List Expr} {n : Nat} {pa : Px ST (List D)}
/-- what the machine needs of a class to make it -/
structure MkX (P : Program) (w : World) (K : PySem.W.Frag) (mg : Str → Option Value) (base : Heap) (C fI : Addr) (fd : FuncData) (ps fs : List Str) (ok : List V → Prop) : Prop where
  oex : OexC K C
  init : PySem.W.findIn K (.ref C) "__init__" = some (some (.ref fI))
  ty : PySem.W.typeIn K (.ref fI) = some (.type "function")
  fn : FnOk P w K mg base (L2.CX P w) 1 fI fd ps (spEx C fs ok)
  bind : Binds K fd ps []
theorem mkx_run {σ : L2.St} {H1 : Hp} {ρ1 : Env} {A1 : Addr → Prop} {m1 nn : Nat} {st1 : ST} {Q : VK} {vs : List V} {ds : List D} (ho : OkD ok okd) (S1 : Sta B A1 σ H1 ρ1) (w1 : B.G.W m1 st1 H1) (a1 : Ats B.K A1 H1 vs ds) (hl : ds.length = fs.length) (hz : ds.length ≤ 1000) (hd : okd ds)
    (h : post B (relE B.K) nn A1 m1 H1 σ Q (exnD C fs ds) ρ1 st1) : vs.length ≤ 1000 ∧ ∀ a, H1 a = none → spEx C fs ok (.ref a :: vs) (upd H1 a (exo a C none)) (fun v H2 => v = .non ∧ Q (.ref a) H2) (fun _ _ _ => False) := by
  refine ⟨by rw [a1.len]; exact hz, fun a ha => ⟨a, vs, rfl, by rw [a1.len]; exact hl, ho _ _ _ _ _ a1 hd, upd_same, fun e => ⟨rfl, ?_⟩, fun hne dx hdx ne => ⟨rfl, ?_⟩⟩⟩
  · subst e
    have e2 : ds = [] := List.length_eq_zero_iff.mp hl
    subst e2
    exact h (.ref a) _ _ (S1.alloc ha) (B.G.le (Nat.le_add_right _ _) (W_alloc S1 ha w1)) (S1.ge_alloc ha) (.exn0 (.inr rfl) upd_same)
  · have hdx1 : H1 dx = none := (upd_ne ne).symm.trans hdx
    have eq : upd (upd (upd H1 a (exo a C none)) dx (exd dx (fs.zip vs).reverse)) a (exo a C (some dx)) = upd (upd H1 dx (exd dx (fs.zip vs).reverse)) a (exo a C (some dx)) := by
      rw [upd_comm (Ne.symm ne), upd_upd]
    rw [eq]
    have S2 := S1.alloc (o := exd dx (fs.zip vs).reverse) hdx1
    have ha2 : upd H1 dx (exd dx (fs.zip vs).reverse) a = none := by rw [upd_ne (Ne.symm ne)]; exact ha
    have S3 := S2.alloc (o := exo a C (some dx)) ha2
    have g := (S1.ge_alloc (o := exd dx (fs.zip vs).reverse) hdx1).trans (S2.ge_alloc (o := exo a C (some dx)) ha2)
    exact h (.ref a) _ _ S3 (B.G.le (Nat.le_add_right _ _) (W_alloc S2 ha2 (W_alloc S1 hdx1 w1))) g (.exn (.inr rfl) (.inl (.inr rfl)) upd_same ((upd_ne ne).trans upd_same) ((atk_zip a1).rev.ge g))
theorem je_mkX (ho : OkD ok okd) (M : MkX X.prog X.w X.K X.mg X.base C fI fd ps fs ok) (hr : Room 2 X.A) (hg : Gl X x) (hm : X.mg x = some (.ref C)) (ha : JA X B (e :: es) n pa)
    (hdb : (x == ("__debug__" : Str)) = false := by decide) (he : starEach (e :: es) X.env = (false, eval e X.env) :: starEach es X.env := by rfl) (hpl : (backTo pos (starEach es X.env)).any (·.1) = false := by rfl) :
    JE X B (.Call (.Name x p) (e :: es) [] pos) n (pMkX C fs okd pa) :=
  ⟨bindP.mono ha.mono fun _ => mono_and, pe_weak (pe_mkv M.oex M.init M.ty M.fn hr M.bind hg hm ha.run hdb he hpl) fun σ H Q ⟨ρ, A, m, st, S, w, l, z⟩ =>
    run_bind (rel' := relE B.K) (n2 := 0) ha.mono (fun _ => mono_and) S w l z fun v1 H1 d1 ρ1 A1 m1 st1 a1 S1 w1 l1 g1 ⟨⟨z1, z2, z3⟩, h1⟩ => mkx_run ho S1 w1 a1 z1 z2 z3 h1⟩
theorem je_mkX0 (ho : OkD ok okd) (M : MkX X.prog X.w X.K X.mg X.base C fI fd ps [] ok) (hr : Room 2 X.A) (hg : Gl X x) (hm : X.mg x = some (.ref C)) (hk : okd []) (hdb : (x == ("__debug__" : Str)) = false := by decide) : JE X B (.Call (.Name x p) [] [] pos) 0 (pC (.exn C [])) :=
  ⟨pC.mono, pe_weak (pe_mkv0 M.oex M.init M.ty M.fn hr M.bind hg hm hdb) fun σ H Q ⟨ρ, A, m, st, S, w, l, z⟩ => mkx_run (fs := []) (ds := []) ho S w .nil rfl (Nat.zero_le _) hk z⟩
theorem je_mkN (T : OexC X.K C) (q : PySem.W.excIn X.K C He.veBase "ValueError.__new__" = true) (hg : Gl X x) (hm : X.mg x = some (.ref C)) (hdb : (x == ("__debug__" : Str)) = false := by decide) : JE X B (.Call (.Name x p) [] [] pos) 0 (pC (.exn C [])) :=
  ⟨pC.mono, pe_weak (pe_mkn T q hg hm hdb) fun σ H Q ⟨ρ, A, m, st, S, w, l, z⟩ => fun a ha => z (.ref a) _ _ (S.alloc ha) (B.G.le (Nat.le_add_right _ _) (W_alloc S ha w)) (S.ge_alloc ha) (.exn0 (.inr rfl) upd_same)⟩
/-! ### fields -/
def aXf (C : Addr) (f : Str) (x : D) (Q : D → Prop) : Prop := ∃ fs d, x = .exn C fs ∧ fs.lookup f = some d ∧ Q d
theorem aXf.mono (C : Addr) (f : Str) (x : D) (Q Q' : D → Prop) (k : ∀ d, Q d → Q' d) (q : aXf C f x Q) : aXf C f x Q' := by
  obtain ⟨fs, d, e1, e2, h⟩ := q
  exact ⟨fs, d, e1, e2, k _ h⟩
theorem je_xv {pe : Px ST D} {f : Str} (hK : X.K = B.K) (T : XfC X.K C) (hno : PySem.W.findIn X.K (.ref C) f = some none) (he : JE X B e n pe) (hb : attributeBase e f X.env (eval e X.env) = eval e X.env := by rfl) : JE X B (.Attribute e f pos) n (pUn (aXf C f) pe) :=
  ⟨bindP.mono he.mono fun d => retP.mono (aXf.mono C f d), pe_weak (pe_xv he.run hb) fun σ H Q ⟨ρ, A, m, st, S, w, l, z⟩ =>
    run_bind (rel' := relE B.K) (n2 := 0) he.mono (fun d => retP.mono (aXf.mono C f d)) S w l z fun v1 H1 d1 ρ1 A1 m1 st1 a1 S1 w1 l1 g1 ⟨fs, d, e1, e2, h1⟩ => by
      subst e1
      cases a1 with
      | @exn a _ dx vs _ h2 h3 h4 h5 t =>
        rcases t.look f with ⟨_, q⟩ | ⟨v, d', q1, q2, q3⟩
        · rw [e2] at q; cases q
        · rw [e2] at q2
          cases q2
          exact ⟨a, C, dx, vs, v, rfl, T, hno, h4, h5, q1, post.here (rel := relE B.K) h1 S1 w1 q3⟩
      | exn0 h2 h3 => cases e2⟩
/-! ### isinstance -/
structure InsK (K : PySem.W.Frag) (C : Addr) : Prop where
  cl : Cls K C
  ha : PySem.W.findIn K (.ref C) "__class__" = some (some (.builtin "object.__class__"))
  hn : PySem.W.specialIn K (.builtin "object.__class__") "__get__" = some (some (.builtin "getset_descriptor.__get__"))
  ht : PySem.W.takesIn K (.builtin "object.__class__") = some true
  hm : PySem.W.mroIn K C (.type "object") = some true
inductive TyD (K : PySem.W.Frag) : D → Value → Prop
  | non : TyD K .non (.type "NoneType")
  | bl (b : Bool) : TyD K (.bl b) (.type "bool")
  | int (i : Int) : TyD K (.int i) (.type "int")
  | str (s : Str) : TyD K (.str s) (.type "str")
  | tup (xs : List D) : TyD K (.tup xs) (.type "tuple")
  | lst (xs : List D) : TyD K (.lst xs) (.type "list")
  | dic (kvs : List (Key × D)) : TyD K (.dic kvs) (.type "dict")
  | ins {C : Addr} (fs : List (Str × D)) (h : InsK K C) : TyD K (.ins C fs) (.ref C)
  | exn {C : Addr} (fs : List (Str × D)) (h : ExcC K C) : TyD K (.exn C fs) (.ref C)
inductive ClsD : D → Value → Prop
  | ref (C : Addr) : ClsD (.ref C) (.ref C)
  | ty (n : String) : ClsD (.ty n) (.type n)
def fIsi (K : PySem.W.Frag) (ds : List D) (Q : D → Prop) : Prop := ∃ x c t u b, ds = [x, c] ∧ ClsD c u ∧ TyD K x t ∧ PySem.W.kitOne K t u = some b ∧ Q (.bl b)
theorem fIsi.mono (K : PySem.W.Frag) : Mon1 (fIsi K) := fun ds Q Q' h ⟨x, c, t, u, b, e1, e2, e3, e4, q⟩ => ⟨x, c, t, u, b, e1, e2, e3, e4, h _ q⟩
def rIsi2 (K : PySem.W.Frag) : List V → Hp → VK → Prop := fun xs H Q => rIsi K xs H Q ∨ rIsX K xs H Q
theorem call_isi2 : CallR X (.builtin "isinstance") (rIsi2 X.K) := fun pins s σ H xs us Q I r h => h.elim (fun h => call_isi pins s σ H xs us Q I r h) fun h => call_isX pins s σ H xs us Q I r h
theorem clsD_v {c : D} {u : Value} (h : ClsD c u) {K : PySem.W.Frag} {A : Addr → Prop} {H : Hp} {v : V} (a : At K A H v c) : ClsV v u := by
  cases h with
  | ref C => cases a; exact .own C
  | ty n => cases a; exact .ty n
theorem isi_s (hK : X.K = B.K) : CallS B (rIsi2 X.K) (fIsi X.K) := fun vs ds A H σ ρ m st Q a S w ⟨x, c, t, u, b, e1, e2, e3, e4, q⟩ => by
  subst e1
  cases a with
  | cons a1 a2 =>
    cases a2 with
    | cons a2 a3 =>
      cases a3
      have cv := clsD_v e2 a2
      have fin := fun (v : V) => post.here (rel := relE B.K) q S w (.bl b)
      cases e3 with
      | exn fs T =>
        cases a1 with
        | exn h1 h2 h3 h4 h5 => exact .inr ⟨_, _, _, u, b, rfl, .dict h3 h4, cv, T, e4, fin .non⟩
        | exn0 h1 h3 => exact .inr ⟨_, _, _, u, b, rfl, .bare h3, cv, T, e4, fin .non⟩
      | non => cases a1; exact .inl ⟨_, _, _, u, b, rfl, cv, .base .non, e4, fin .non⟩
      | bl => cases a1; exact .inl ⟨_, _, _, u, b, rfl, cv, .base (.bl _), e4, fin .non⟩
      | int => cases a1; exact .inl ⟨_, _, _, u, b, rfl, cv, .base (.int _), e4, fin .non⟩
      | str => cases a1; exact .inl ⟨_, _, _, u, b, rfl, cv, .base (.str _), e4, fin .non⟩
      | lst => cases a1 with
        | lst h1 h2 h3 => exact .inl ⟨_, _, _, u, b, rfl, cv, .base (.lst h2), e4, fin .non⟩
      | tup => cases a1 with
        | tup h1 h2 =>
          rcases h1 with ⟨_, h1⟩ | ⟨o, its, n, k1, k2, _⟩
          · exact .inl ⟨_, _, _, u, b, rfl, cv, .base (.tup h1), e4, fin .non⟩
          · exact .inl ⟨_, _, _, u, b, rfl, cv, .kTuple (by rw [hK]; exact k1) k2, e4, fin .non⟩
      | dic => cases a1 with
        | dic h1 h2 h3 =>
          rcases h2 with h2 | ⟨o, h2⟩
          · exact .inl ⟨_, _, _, u, b, rfl, cv, .base (.dK h2), e4, fin .non⟩
          · exact .inl ⟨_, _, _, u, b, rfl, cv, .fDict h2, e4, fin .non⟩
      | ins fs T => cases a1 with
        | ins h1 h2 h3 => exact .inl ⟨_, _, _, u, b, rfl, cv, .base (.ins h2 T.cl T.ha T.hn T.ht T.hm), e4, fin .non⟩
theorem je_isi {c : Expr} (hK : X.K = B.K) (ha : JA X B [e, c] n pa) (hg : Gl X "isinstance") (hm : X.mg "isinstance" = none) (he : starEach [e, c] X.env = (false, eval e X.env) :: starEach [c] X.env := by rfl) (hpl : (backTo pos (starEach [c] X.env)).any (·.1) = false := by rfl) :
    JE X B (.Call (.Name "isinstance" p) [e, c] [] pos) n (pCallB (fIsi X.K) pa) := je_callB call_isi2 (isi_s hK) (fIsi.mono _) hg hm PyProof.Rows.boot_isinstance ha (by decide) (by decide) he hpl
end

/-! ### raise -/
def sRaise (C : Addr) (fs : List Str) (okd : List D → Prop) (pa : Px ST (List D)) : PSx ST := fun Dd ρ st => pa ρ st (fun ds ρ1 st1 => (ds.length = fs.length ∧ ds.length ≤ 1000 ∧ fs ≠ [] ∧ okd ds) ∧ Dd.ex ⟨.ref C, (fs.zip ds).reverse⟩ ρ1 st1) Dd.ex
section
variable {X : Cx} {B : Bs ST} {C fI : Addr} {fd : FuncData} {ps fs : List Str} {ok : List V → Prop} {okd : List D → Prop} {x : Str} {p pos pos' : Pos} {e : Expr} {es : List Expr} {n : Nat} {pa : Px ST (List D)}
theorem js_raise (hc : X.calm = true) (tk : Takes X B.wx) (ho : OkD ok okd) (M : MkX X.prog X.w X.K X.mg X.base C fI fd ps fs ok) (hr : Room 2 X.A) (hg : Gl X x) (hm : X.mg x = some (.ref C)) (ha : JA X B (e :: es) n pa)
    (hdb : (x == ("__debug__" : Str)) = false := by decide) (he : starEach (e :: es) X.env = (false, eval e X.env) :: starEach es X.env := by rfl) (hpl : (backTo pos (starEach es X.env)).any (·.1) = false := by rfl) :
    JS X B (.Raise (some (.Call (.Name x p) (e :: es) [] pos)) none pos') n (sRaise C fs okd pa) := by
  refine ⟨fun Dd Dd' ρ st im h => ha.mono _ _ _ _ _ _ (fun ds ρ1 st1 z => ⟨z.1, im.ex _ _ _ z.2⟩) im.ex h, ps_weak (ps_raise hc tk (pmk_oex (CX := L2.CX X.prog X.w) M.oex M.init M.ty M.fn hr M.bind .nil (fun pins σ H s e' s' I c => takes0 e' s' (XE.of_call (W := fun _ _ _ _ => False) I (fun _ _ _ h => h) c)) hg hm ha.run hdb he hpl)) fun Dd σ H ⟨ρ, A, m, st, S, w, l, z⟩ => ?_⟩
  refine ⟨ρ, A, m, st, S, w, l, ha.mono _ _ _ _ _ _ (fun ds ρ1 st1 zz vs H1 A1 S1 w1 g1 a1 => ?_) (fun x ρ1 st1 y cls dx H1 A1 S1 w1 a1 => y cls dx σ H1 A1 S1 w1 a1) z⟩
  obtain ⟨⟨z1, z2, z3, z4⟩, y⟩ := zz
  refine ⟨by rw [a1.len]; exact z2, fun a han => ⟨a, vs, by rw [List.append_nil], by rw [a1.len]; exact z1, ho _ _ _ _ _ a1 z4, upd_same, fun e => absurd e z3, fun _ dx hdx ne => ?_⟩⟩
  have hdx1 : H1 dx = none := (upd_ne ne).symm.trans hdx
  refine ⟨rfl, dx, (fs.zip vs).reverse, upd_same, (upd_ne ne).trans upd_same, hdx1, ?_⟩
  have eq : upd (del (upd (upd (upd H1 a (exo a C none)) dx (exd dx (fs.zip vs).reverse)) a (exo a C (some dx))) a) dx (.xd (fs.zip vs).reverse) = upd H1 dx (.xd (fs.zip vs).reverse) := by
    funext b
    by_cases h1 : b = dx
    · rw [h1, upd_same, upd_same]
    · rw [upd_ne h1, upd_ne h1]
      by_cases h2 : b = a
      · rw [h2, del_same, han]
      · rw [del_ne h2, upd_ne h2, upd_ne h1, upd_ne h2]
  rw [eq]
  have g := S1.ge_alloc (o := .xd (fs.zip vs).reverse) hdx1
  exact y (.ref C) (some dx) σ _ _ (S1.alloc hdx1) (W_alloc S1 hdx1 w1) (.fs (.inr rfl) upd_same ((atk_zip a1).rev.ge g))
end
end PP

set_option Elab.async false
set_option linter.all false
set_option maxRecDepth 100000
set_option maxHeartbeats 1000000
namespace PP
open PySem PySem.Spec PyProof.Rows L2
variable {ST : Type}

/-! ### locks with the wishes kept -/
abbrev Bk (B : Bs ST) (L : Addr → Option HO) (Z : Addr → Prop) : Bs ST := { B with L := L, Z := Z }
section
variable {B : Bs ST} {A : Addr → Prop} {σ : L2.St} {H : Hp} {ρ : Env} {L : Addr → Option HO} {Z : Addr → Prop}
theorem Sta.bk (S : Sta (Bb B L Z) A σ H ρ) : Sta (Bk B L Z) A σ H ρ := ⟨S.base, S.lock, S.new, S.trk, S.mtrk, S.len, S.slot, S.apart⟩
theorem Sta.bb (S : Sta (Bk B L Z) A σ H ρ) : Sta (Bb B L Z) A σ H ρ := ⟨S.base, S.lock, S.new, S.trk, S.mtrk, S.len, S.slot, S.apart⟩
end
/-! ### several values at once: data and new things -/
inductive Ms (B : Bs ST) (σ : L2.St) (ρ : Env) (A : Addr → Prop) (H : Hp) : List V → List Sl → Prop
  | nil : Ms B σ ρ A H [] []
  | dat {v : V} {vs : List V} {d : D} {ss : List Sl} : At B.K A H v d → Ms B σ ρ A H vs ss → Ms B σ ρ A H (v :: vs) (.dat d :: ss)
  | own {a : Addr} {f : FV} {vs : List V} {ss : List Sl} : FAt B.K A H a f → ¬ A a → ¬ B.G.M a → (B.H0 a = none ∨ B.X0 a) → (∀ i s, ρ[i]? = some s → s.own = true → sat σ i ≠ some (.ref a)) → B.L a = none → (∀ (i : Nat) s, ss[i]? = some s → s.own = true → vs[i]? ≠ some (.ref a)) →
      Ms B σ ρ A H vs ss → Ms B σ ρ A H (.ref a :: vs) (f.sl :: ss)
structure JM (X : Cx) (B : Bs ST) (es : List Expr) (n : Nat) (p : Px ST (List Sl)) : Prop where
  mono : Mono p
  run : PA X es (lift B (fun σ ρ A H vs ss => Ms B σ ρ A H vs ss) n p)
theorem fat_o {K : PySem.W.Frag} {A : Addr → Prop} {H : Hp} {a : Addr} {f : FV} (h : FAt K A H a f) : ∃ o, H a = some o := by
  cases f with
  | l xs => obtain ⟨vs, h1, _⟩ := h; exact ⟨_, h1⟩
  | d xs => obtain ⟨vs, h1, _⟩ := h; exact ⟨_, h1⟩
theorem fat_ge {K : PySem.W.Frag} {A A' : Addr → Prop} {H H' : Hp} {a : Addr} {f : FV} (h : FAt K A H a f) (e : H' a = H a) (g : Ge A H A' H') : FAt K A' H' a f := by
  cases f with
  | l xs => obtain ⟨vs, h1, h2⟩ := h; exact ⟨vs, e.trans h1, h2.ge g⟩
  | d xs => obtain ⟨vs, h1, h2⟩ := h; exact ⟨vs, e.trans h1, h2.ge g⟩

theorem Ms.len {B : Bs ST} {σ : L2.St} {ρ : Env} {A : Addr → Prop} {H : Hp} : ∀ {vs : List V} {ss : List Sl}, Ms B σ ρ A H vs ss → vs.length = ss.length
  | _, _, .nil => rfl
  | _, _, .dat _ t => congrArg Nat.succ t.len
  | _, _, .own _ _ _ _ _ _ _ t => congrArg Nat.succ t.len
theorem Ms.own_nl {B : Bs ST} {σ : L2.St} {ρ : Env} {A : Addr → Prop} {H : Hp} {p : Addr} {o : HO} {Z : Addr → Prop} : ∀ {vs : List V} {ss : List Sl}, Ms (Bk B (lkL B p o) Z) σ ρ A H vs ss → ∀ (i : Nat) s, ss[i]? = some s → s.own = true → vs[i]? ≠ some (.ref p)
  | _, _, .nil, i, s, e, _ => by simp at e
  | _, _, .dat (v := v) a t, i, s, e, o' => by
    cases i with
    | zero => simp at e; subst e; cases o'
    | succ i => simpa using t.own_nl i s (by simpa using e) o'
  | _, _, .own (a := a) (f := f) _ _ _ _ _ hl _ t, i, s, e, o' => by
    cases i with
    | zero =>
      intro z
      have z' : a = p := by simpa using z
      rw [z'] at hl
      have : (if p = p then some o else B.L p) = none := hl
      rw [if_pos rfl] at this
      cases this
    | succ i => simpa using t.own_nl i s (by simpa using e) o'
theorem Ms.unlock {B : Bs ST} {σ : L2.St} {ρ : Env} {A : Addr → Prop} {H : Hp} {p : Addr} {o : HO} {Z : Addr → Prop} : ∀ {vs : List V} {ss : List Sl}, Ms (Bk B (lkL B p o) Z) σ ρ A H vs ss → Ms B σ ρ A H vs ss
  | _, _, .nil => .nil
  | _, _, .dat a t => .dat a t.unlock
  | _, _, .own (a := a) h1 h2 h3 h4 h5 h6 h7 t => .own h1 h2 h3 h4 h5 (by
      have : (if a = p then some o else B.L a) = none := h6
      split at this
      · cases this
      · exact this) h7 t.unlock
def pMnil : Px ST (List Sl) := retP fun Q => Q []
def pMdat (p : Px ST D) (q : Px ST (List Sl)) : Px ST (List Sl) := bindP p fun d => bindP q fun ss => retP fun Q => Q (.dat d :: ss)
def pMown (p : Px ST FV) (q : Px ST (List Sl)) : Px ST (List Sl) := bindP p fun f => bindP q fun ss => retP fun Q => Q (f.sl :: ss)
section
variable {X : Cx} {B : Bs ST} {e : Expr} {es : List Expr} {n1 n2 : Nat} {p : Px ST D} {pf : Px ST FV} {q : Px ST (List Sl)}
theorem jm_nil : JM X B [] 0 pMnil := ⟨mono_ret, pa_weak pa_nil fun σ H Q ⟨ρ, A, m, st, S, w, l, z⟩ => post.here (rel := fun σ ρ A H vs ss => Ms B σ ρ A H vs ss) z S w .nil⟩
theorem jm_dat (h : JE X B e n1 p) (k : JM X B es n2 q) (hs : starEach (e :: es) X.env = (false, eval e X.env) :: starEach es X.env := by rfl) : JM X B (e :: es) (n1 + n2) (pMdat p q) := by
  refine ⟨bindP.mono h.mono fun _ => bindP.mono k.mono fun _ => mono_ret, pa_weak (pa_cons h.run k.run hs) fun σ H Q ⟨ρ, A, m, st, S, w, l, z⟩ => ?_⟩
  refine run_bind (rel' := fun σ ρ A H vs ss => Ms B σ ρ A H vs ss) (n2 := n2) h.mono (fun _ => bindP.mono k.mono fun _ => mono_ret) S w l z fun v1 H1 d1 ρ1 A1 m1 st1 a1 S1 w1 l1 g1 h1 => ?_
  exact ⟨ρ1, A1, m1, st1, S1, w1, l1, k.mono _ _ _ _ _ _ (fun ss ρ2 st2 y vs H2 A2 S2 w2 g2 ms => y (v1 :: vs) H2 A2 S2 w2 g2 (.dat (a1.ge g2) ms)) (fun _ _ _ y => y) h1⟩
theorem jm_own (h : JF X B e n1 pf) (k : ∀ L Z, JM X (Bk B L Z) es n2 q) (hs : starEach (e :: es) X.env = (false, eval e X.env) :: starEach es X.env := by rfl) : JM X B (e :: es) (n1 + n2) (pMown pf q) := by
  have km := (k (fun _ => none) (fun _ => False)).mono
  have kr : PA X es (fun σ H Q => ∃ L Z, lift (Bk B L Z) (fun σ ρ A H vs ss => Ms (Bk B L Z) σ ρ A H vs ss) n2 q σ H Q) := ⟨fun pos pins s σ H Q I ⟨L, Z, w⟩ => (k L Z).run.run pos pins s σ H Q I w⟩
  refine ⟨bindP.mono h.mono fun _ => bindP.mono km fun _ => mono_ret, pa_weak (pa_cons h.run kr hs) fun σ H Q ⟨ρ, A, m, st, S, w, l, z⟩ => ?_⟩
  refine run_bind (rel := relF B) (rel' := fun σ ρ A H vs ss => Ms B σ ρ A H vs ss) (n2 := n2) h.mono (fun _ => bindP.mono km fun _ => mono_ret) S w l z fun v1 H1 f ρ1 A1 m1 st1 a1 S1 w1 l1 g1 h1 => ?_
  obtain ⟨a, rfl, fa, na, nm, n0, no, nl⟩ := a1
  obtain ⟨o, ho⟩ := fat_o fa
  refine ⟨lkL B a o, lkZ B a, ρ1, A1, m1, st1, (S1.lockIn ho na nm no).bk, w1, l1, km _ _ _ _ _ _ (fun ss ρ2 st2 y vs H2 A2 S2 w2 g2 ms => ?_) (fun x ρ2 st2 y cls dx H2 A2 S2 w2 ax => y cls dx H2 A2 (S2.bb.unlock n0 nl) w2 ax) h1⟩
  obtain ⟨k1, k2, k3, k4⟩ := lock_at S2.bb
  exact y (.ref a :: vs) H2 A2 (S2.bb.unlock n0 nl) w2 g2 (.own (fat_ge fa (k1.trans ho.symm) g2) k4 k2 n0 k3 nl ms.own_nl ms.unlock)
end
def setM (ρ : Env) : List Nat → List Sl → Env
  | i :: is, s :: ss => setM (ρ.set i s) is ss
  | _, _ => ρ
def setV (σ : L2.St) : List Nat → List V → L2.St
  | i :: is, v :: vs => setV (σ.set i (some v)) is vs
  | _, _ => σ
section
variable {B : Bs ST} {A : Addr → Prop} {H : Hp}
theorem Ms.set_dat {σ : L2.St} {ρ : Env} {i : Nat} {v : V} {d : D} : ∀ {vs : List V} {ss : List Sl}, Ms B σ ρ A H vs ss → Ms B (σ.set i (some v)) (ρ.set i (.dat d)) A H vs ss
  | _, _, .nil => .nil
  | _, _, .dat a t => .dat a t.set_dat
  | _, _, .own h1 h2 h3 h4 h5 h6 h7 t => .own h1 h2 h3 h4 (fun j s e o => by
      by_cases hj : j = i
      · subst hj
        rw [List.getElem?_set] at e
        split at e
        · split at e
          · cases e; cases o
          · cases e
        · rename_i hn; exact absurd rfl hn
      · rw [sat_set_ne hj]
        rw [List.getElem?_set_ne (Ne.symm hj)] at e
        exact h5 j s e o) h6 h7 t.set_dat
theorem Ms.set_own {σ : L2.St} {ρ : Env} {i : Nat} {p : Addr} {s0 : Sl} (hl : σ.length = ρ.length) : ∀ {vs : List V} {ss : List Sl}, Ms B σ ρ A H vs ss → (∀ (i : Nat) s, ss[i]? = some s → s.own = true → vs[i]? ≠ some (.ref p)) → Ms B (σ.set i (some (.ref p))) (ρ.set i s0) A H vs ss
  | _, _, .nil, _ => .nil
  | _, _, .dat a t, k => .dat a (t.set_own hl fun i s e o => by simpa using k (i + 1) s (by simpa using e) o)
  | _, _, .own (a := a) (f := f) h1 h2 h3 h4 h5 h6 h7 t, k => .own h1 h2 h3 h4 (fun j s e o => by
      by_cases hj : j = i
      · subst hj
        have hlt : j < ρ.length := by
          have := (List.getElem?_eq_some_iff.mp e).1
          rwa [List.length_set] at this
        rw [sat_set_eq (by rw [hl]; exact hlt)]
        intro z
        have z' : p = a := by simpa using z
        exact k 0 f.sl rfl (by cases f <;> rfl) (by rw [z']; rfl)
      · rw [sat_set_ne hj]
        rw [List.getElem?_set_ne (Ne.symm hj)] at e
        exact h5 j s e o) h6 h7 (t.set_own hl fun i s e o => by simpa using k (i + 1) s (by simpa using e) o)
theorem Sta.assignM : ∀ {is : List Nat} {vs : List V} {ss : List Sl} {σ : L2.St} {ρ : Env}, Sta B A σ H ρ → Ms B σ ρ A H vs ss → Sta B A (setV σ is vs) H (setM ρ is ss)
  | [], vs, ss, _, _, S, _ => by cases vs <;> cases ss <;> exact S
  | i :: is, _, _, _, _, S, .nil => S
  | i :: is, _, _, _, _, S, .dat a t => (S.assign a).assignM t.set_dat
  | i :: is, _, _, _, _, S, .own h1 h2 h3 h4 h5 h6 h7 t => (S.assignF h1 h2 h3 h4 h5 h6).assignM (t.set_own S.len h7)
end
def sPar (is : List Nat) (p : Px ST (List Sl)) : PSx ST := fun Dd ρ st => p ρ st (fun ss ρ1 st1 => ss.length = is.length ∧ Dd.nx (setM ρ1 is ss) st1) Dd.ex
section
variable {X : Cx} {B : Bs ST} {n : Nat} {p : Px ST (List Sl)}
theorem sPar.mono {is : List Nat} (h : Mono p) : MonoS (sPar is p) := fun Dd Dd' ρ st im z => h _ _ _ _ _ _ (fun ss ρ1 st1 y => ⟨y.1, im.nx _ _ y.2⟩) im.ex z
/-- x, y = e, f -/
theorem js_par {i j : Nat} {x y : Str} {a b : Expr} {px py pt pos pt2 : Pos} {kt k2} (hc : X.calm = true) (hN : X.N.Nodup) (ha : JM X B [a, b] n p)
    (hw : swappedStores [.Tuple [.Name x px, .Name y py] kt pt] (.Tuple [a, b] k2 pt2) X.env = pure (some [x, y])) (hij : i ≠ j := by decide) (hi : X.N[i]? = some x := by rfl) (hj : X.N[j]? = some y := by rfl)
    (hx : X.env.scope.names.lookup x = some .local := by rfl) (hy : X.env.scope.names.lookup y = some .local := by rfl) (hs : swapsWithSole [.Tuple [.Name x px, .Name y py] kt pt] (.Tuple [a, b] k2 pt2) pos.line X.env = pure false := by rfl) :
    JS X B (.Assign [.Tuple [.Name x px, .Name y py] kt pt] (.Tuple [a, b] k2 pt2) pos) n (sPar [i, j] p) :=
  ⟨sPar.mono ha.mono, ps_weak (ps_par hc hN hi hj hij hx hy ha.run hw hs) fun Dd σ H ⟨ρ, A, m, st, S, w, l, z⟩ => ⟨ρ, A, m, st, S, w, l, ha.mono _ _ _ _ _ _ (fun ss ρ1 st1 ⟨y1, y2⟩ vs H1 A1 S1 w1 g1 ms => by
    have hl := ms.len
    match vs, hl, ms with
    | [v, u], _, ms => exact ⟨v, u, rfl, y2 _ H1 A1 (S1.assignM (is := [i, j]) ms) w1 g1⟩
    | [], hl, _ => rw [y1] at hl; cases hl
    | [_], hl, _ => rw [y1] at hl; simp at hl
    | _ :: _ :: _ :: _, hl, _ => rw [y1] at hl; simp at hl) (fun x ρ1 st1 y cls dx H1 A1 S1 w1 a1 => y cls dx σ H1 A1 S1 w1 a1) z⟩⟩
theorem js_par3 {i j k : Nat} {x y z : Str} {a b c : Expr} {px py pz pt pos pt2 : Pos} {kt k2} (hc : X.calm = true) (hN : X.N.Nodup) (ha : JM X B [a, b, c] n p)
    (hw : swappedStores [.Tuple [.Name x px, .Name y py, .Name z pz] kt pt] (.Tuple [a, b, c] k2 pt2) X.env = pure (some [x, y, z])) (hij : i ≠ j := by decide) (hik : i ≠ k := by decide) (hjk : j ≠ k := by decide) (hi : X.N[i]? = some x := by rfl) (hj : X.N[j]? = some y := by rfl) (hk : X.N[k]? = some z := by rfl)
    (hx : X.env.scope.names.lookup x = some .local := by rfl) (hy : X.env.scope.names.lookup y = some .local := by rfl) (hz : X.env.scope.names.lookup z = some .local := by rfl) (hs : swapsWithSole [.Tuple [.Name x px, .Name y py, .Name z pz] kt pt] (.Tuple [a, b, c] k2 pt2) pos.line X.env = pure false := by rfl) :
    JS X B (.Assign [.Tuple [.Name x px, .Name y py, .Name z pz] kt pt] (.Tuple [a, b, c] k2 pt2) pos) n (sPar [i, j, k] p) :=
  ⟨sPar.mono ha.mono, ps_weak (ps_par3 hc hN hi hj hk hij hik hjk hx hy hz ha.run hw hs) fun Dd σ H ⟨ρ, A, m, st, S, w, l, z⟩ => ⟨ρ, A, m, st, S, w, l, ha.mono _ _ _ _ _ _ (fun ss ρ1 st1 ⟨y1, y2⟩ vs H1 A1 S1 w1 g1 ms => by
    have hl := ms.len
    match vs, hl, ms with
    | [v, u, t], _, ms => exact ⟨v, u, t, rfl, y2 _ H1 A1 (S1.assignM (is := [i, j, k]) ms) w1 g1⟩
    | [], hl, _ => rw [y1] at hl; cases hl
    | [_], hl, _ => rw [y1] at hl; simp at hl
    | [_, _], hl, _ => rw [y1] at hl; simp at hl
    | _ :: _ :: _ :: _ :: _, hl, _ => rw [y1] at hl; simp at hl) (fun x ρ1 st1 y cls dx H1 A1 S1 w1 a1 => y cls dx σ H1 A1 S1 w1 a1) z⟩⟩
end
end PP

set_option Elab.async false
set_option linter.all false
set_option maxRecDepth 100000
set_option maxHeartbeats 1000000
namespace PP
open PySem PySem.Spec PyProof.Rows L2
variable {ST : Type}

/-! ### a + b, two lists: a new one -/
def fAddL (x y : D) (Q : FV → Prop) : Prop := match x, y with
  | .lst xs, .lst ys => xs.length + ys.length ≤ sizeLine ∧ Q (.l (xs ++ ys))
  | _, _ => False
theorem fAddL.mono (x y : D) (Q Q' : FV → Prop) (h : ∀ f, Q f → Q' f) (q : fAddL x y Q) : fAddL x y Q' := by
  unfold fAddL at q ⊢
  split at q
  · exact ⟨q.1, h _ q.2⟩
  · exact q
def pAddL (pa pb : Px ST D) : Px ST FV := bindP pa fun x => bindP pb fun y => retP (fAddL x y)
section
variable {X : Cx} {B : Bs ST} {a b : Expr} {na nb : Nat} {pa pb : Px ST D} {pos : Pos}
theorem jf_add (ha : JE X B a na pa) (hb : JE X B b nb pb) : JF X B (.BinOp a .Add b pos) (na + nb) (pAddL pa pb) :=
  ⟨bindP.mono ha.mono fun _ => bindP.mono hb.mono fun _ => retP.mono (fAddL.mono _ _), pe_weak (pe_op op_cat ha.run hb.run) fun σ H Q ⟨ρ, A, m, st, S, w, l, z⟩ =>
    run_bind (rel' := relF B) (n2 := nb) ha.mono (fun _ => bindP.mono hb.mono fun _ => retP.mono (fAddL.mono _ _)) S w l z fun v1 H1 d1 ρ1 A1 m1 st1 a1 S1 w1 l1 g1 h1 =>
      run_bind (rel' := relF B) (n2 := 0) hb.mono (fun _ => retP.mono (fAddL.mono _ _)) S1 w1 l1 h1 fun v2 H2 d2 ρ2 A2 m2 st2 a2 S2 w2 l2 g2 h2 => by
        have h2' : fAddL d1 d2 _ := h2
        unfold fAddL at h2'
        split at h2'
        · have b1 := At.ge g2 a1
          cases b1 with
          | lst h1 h2 h3 =>
            cases a2 with
            | lst k1 k2 k3 => exact ⟨_, _, _, _, rfl, rfl, h2, k2, by rw [h3.len, k3.len]; exact h2'.1, fun p hp => post_newL h2'.2 S2 w2 hp (h3.append k3)⟩
        · exact h2'.elim⟩
end
/-! ### {k: v, ..} -/
def relK (K : PySem.W.Frag) : Rel (List (Key × V)) (List (Key × D)) := fun _ _ A H v d => Atk K A H Key v d
structure JPr (X : Cx) (B : Bs ST) (pos : Pos) (keys : List (Option Expr)) (values : List Expr) (n : Nat) (p : Px ST (List (Key × D))) : Prop where
  mono : Mono p
  run : ∃ trs, PPs X pos keys values trs ∧ ∀ L Z σ H (Q : List (V × V) → Hp → Prop), lift (Bk B L Z) (relK B.K) n p σ H (fun kvs H2 => Q (kvs.map fun kv => (kV kv.1, kv.2)) H2) → tPairs trs σ H Q
def pPnil : Px ST (List (Key × D)) := retP fun Q => Q []
def pPcons (pk pv : Px ST D) (q : Px ST (List (Key × D))) : Px ST (List (Key × D)) := bindP pk fun y => bindP pv fun d => bindP q fun r => retP fun Q => ∃ k, dKey y = some k ∧ Q ((k, d) :: r)
theorem pPcons.mono {pk pv : Px ST D} {q : Px ST (List (Key × D))} (h1 : Mono pk) (h2 : Mono pv) (h3 : Mono q) : Mono (pPcons pk pv q) := bindP.mono h1 fun _ => bindP.mono h2 fun _ => bindP.mono h3 fun _ => retP.mono fun Q Q' h ⟨k, e, z⟩ => ⟨k, e, h _ z⟩
def mergeD (kvs more : List (Key × D)) : List (Key × D) := more.foldl (fun acc kv => putD acc kv.1 kv.2) kvs
theorem Atk.merge {K : PySem.W.Frag} {A : Addr → Prop} {H : Hp} : ∀ {ms : List (Key × V)} {ds : List (Key × D)} {vs : List (Key × V)} {es : List (Key × D)}, Atk K A H Key ms ds → Atk K A H Key vs es → Atk K A H Key (mergeK vs ms) (mergeD es ds)
  | _, _, _, _, .nil, h => h
  | _, _, _, _, .cons (k := kk) (v := v) (vs := ms) (d := d) (ds := ds) h t, q => (Atk.merge t (q.put kk h) : Atk K A H Key (mergeK (putK _ kk v) ms) (mergeD (putD _ kk d) ds))
def pDisp (p : Px ST (List (Key × D))) : Px ST FV := bindP p fun ds => retP fun Q => ds.length ≤ 15 ∧ Q (.d (mergeD [] ds))
section
variable {X : Cx} {B : Bs ST} {pos : Pos} {keys : List (Option Expr)} {values : List Expr} {k v : Expr} {n nk nv : Nat} {pk pv : Px ST D} {p : Px ST (List (Key × D))}
theorem jpr_nil : JPr X B pos [] [] 0 pPnil := ⟨mono_ret, [], pps_nil, fun L Z σ H Q ⟨ρ, A, m, st, S, w, l, z⟩ => post.here (rel := relK B.K) z S w .nil⟩
theorem jpr_cons (hk : ∀ L Z, JE X (Bk B L Z) k nk pk) (hv : ∀ L Z, JE X (Bk B L Z) v nv pv) (hr : JPr X B pos keys values n p) : JPr X B pos (some k :: keys) (v :: values) (nk + (nv + n)) (pPcons pk pv p) := by
  have mk := (hk (fun _ => none) (fun _ => False)).mono
  have mv := (hv (fun _ => none) (fun _ => False)).mono
  obtain ⟨trs, hp, hl⟩ := hr.run
  refine ⟨pPcons.mono mk mv hr.mono, ((fun σ H Q => ∃ L Z, liftE (Bk B L Z) nk pk σ H Q), (fun σ H Q => ∃ L Z, liftE (Bk B L Z) nv pv σ H Q)) :: trs, pps_cons ⟨fun pins s σ H Q I ⟨L, Z, w⟩ => (hk L Z).run.run pins s σ H Q I w⟩ ⟨fun pins s σ H Q I ⟨L, Z, w⟩ => (hv L Z).run.run pins s σ H Q I w⟩ hp,
    fun L Z σ H Q ⟨ρ, A, m, st, S, w, l, z⟩ => ⟨L, Z, ?_⟩⟩
  refine run_bind (B := Bk B L Z) (rel' := relK B.K) (n2 := nv + n) mk (fun _ => bindP.mono mv fun _ => bindP.mono hr.mono fun _ => retP.mono fun Q Q' h ⟨k, e, z⟩ => ⟨k, e, h _ z⟩) S w l z fun v1 H1 d1 ρ1 A1 m1 st1 a1 S1 w1 l1 g1 h1 => ⟨L, Z, ?_⟩
  refine run_bind (B := Bk B L Z) (rel' := relK B.K) (n2 := n) mv (fun _ => bindP.mono hr.mono fun _ => retP.mono fun Q Q' h ⟨k, e, z⟩ => ⟨k, e, h _ z⟩) S1 w1 l1 h1 fun v2 H2 d2 ρ2 A2 m2 st2 a2 S2 w2 l2 g2 h2 => hl L Z σ H2 _ ?_
  refine ⟨ρ2, A2, m2, st2, S2, w2, l2, hr.mono _ _ _ _ _ _ (fun ds ρ3 st3 y kvs H3 A3 S3 w3 g3 a3 => ?_) (fun _ _ _ y => y) h2⟩
  obtain ⟨kk, ek, y⟩ := y
  have e := dKey_at a1 ek
  subst e
  exact y ((kk, v2) :: kvs) H3 A3 S3 w3 g3 (.cons (At.ge g3 a2) a3)
theorem jf_disp (h : JPr X B pos keys values n p) (hall : keys.all (·.isSome) = true := by rfl) (hl : keys.length = values.length := by rfl) (h0 : keys ≠ [] := by exact fun z => nomatch z) (h15 : keys.length ≤ 15 := by decide) : JF X B (.Dict keys values pos) n (pDisp p) := by
  obtain ⟨trs, hp, hlf⟩ := h.run
  refine ⟨bindP.mono h.mono fun _ => mono_and, pe_weak (pe_disp hp hall hl h0 h15) fun σ H Q ⟨ρ, A, m, st, S, w, l, z⟩ q hq => ?_⟩
  have h0 := S.fresh_0 hq
  have hL := S.fresh_l hq
  have S1 := ((S.alloc0 (o := .dK []) hq).lockIn (o := .dK []) upd_same (S.fresh_a hq) (S.fresh_m hq) (S.fresh_o hq)).bk
  refine hlf _ _ σ _ _ ⟨ρ, A, m, st, S1, W_alloc (B := B) S hq w, l, h.mono _ _ _ _ _ _ (fun ds ρ1 st1 y kvs H1 A1 S2 w1 g1 a1 => ?_) (fun x ρ1 st1 y cls dx H1 A1 S2 w1 ax => y cls dx H1 A1 (S2.bb.unlock h0 hL) w1 ax) z⟩
  obtain ⟨k1, k2, k3, k4⟩ := lock_at S2.bb
  obtain ⟨S3, g3, w3⟩ := S2.bb.relock (o' := .dK (mergeK [] kvs))
  have al : kvs.length = ds.length := a1.len
  refine ⟨k1, kvs, rfl, by rw [al]; exact y.1, y.2 _ _ A1 (S3.unlock h0 hL) (w3 _ _ w1) ((S.ge_alloc0 hq).trans (g1.trans g3)) ⟨q, rfl, ⟨_, upd_same, ((a1.merge .nil).ge g3)⟩, k4, k2, h0, k3, hL⟩⟩
end
/-! ### two dicts of plain data compared -/
def dicEq (ks ls : List (Key × D)) : Bool := ks.length == ls.length && ks.all fun p => match valD ls p.1 with
  | some e => eqD p.2 e
  | none => false
def plainK (ks : List (Key × D)) : Bool := ks.all fun p => okD p.2
def rEqK (K : PySem.W.Frag) (neg : Bool) : R2 := fun x y H Q => ∃ (A : Addr → Prop) (a b : Addr) (vs ws : List (Key × V)) (ks ls : List (Key × D)), x = .ref a ∧ y = .ref b ∧ Rd H a (.dK vs) ∧ Rd H b (.dK ws) ∧ Atk K A H Key vs ks ∧ Atk K A H Key ws ls ∧ plainK ks = true ∧ plainK ls = true ∧ Q (.bl (if neg then !dicEq ks ls else dicEq ks ls)) H
section
variable {X : Cx} {pins : List (Addr × Obj)} {σ : L2.St} {H : Hp} {s : Shared}
theorem valD_mem {ls : List (Key × D)} {k : Key} {d : D} (h : valD ls k = some d) : ∃ p ∈ ls, p.2 = d := by
  unfold valD at h
  cases e : ls.find? fun kv => decide (kv.1 = k) with
  | none => rw [e] at h; cases h
  | some p =>
    rw [e] at h
    exact ⟨p, List.mem_of_find?_eq_some e, Option.some.inj h⟩
theorem keqK_hits {A : Around} {AA : Addr → Prop} (hu : A.in1.units + 64 < cLine) (I : Inv X pins σ H s) {ws : List (Key × V)} {ls : List (Key × D)} {vb : List (Key × Value)} (rb : KV ws vb) (al : Atk X.K AA H Key ws ls) (pl : plainK ls = true) :
    ∀ {vs : List (Key × V)} {ks : List (Key × D)} {va : List (Key × Value)}, KV vs va → Atk X.K AA H Key vs ks → plainK ks = true → PySem.W.KeqHits A.in1 s vb va (ks.all fun p => match valD ls p.1 with
      | some e => eqD p.2 e
      | none => false) := by
  intro vs
  induction vs with
  | nil => intro ks va r a _; cases a; unfold KV at r; cases r; exact .nil
  | cons p vs ih =>
    intro ks va r a pk
    unfold KV at r
    cases r with
    | @cons _ q _ qs h t =>
      cases a with
      | @cons _ k v _ d ds a1 a2 =>
        obtain ⟨h1, h2⟩ := h
        obtain ⟨key, u⟩ := q
        have h1' : k = key := h1
        subst h1'
        have pk' : (okD d && ds.all fun p => okD p.2) = true := pk
        rw [Bool.and_eq_true] at pk'
        have ih' := ih t a2 pk'.2
        have rv := rb.val k
        rw [List.all_cons]
        rcases al.val k with ⟨e1, e2⟩ | ⟨v2, d2, e1, e2, a3⟩
        · rw [e2]
          rw [e1] at rv
          have : valueAt vb k = none := by
            cases q : valueAt vb k with
            | none => rfl
            | some z => rw [q] at rv; exact rv.elim
          exact .miss this
        · rw [e2]
          rw [e1] at rv
          obtain ⟨y, hy, ry⟩ := RelO.some_of rv
          obtain ⟨pm, hm, em⟩ := valD_mem e2
          have o2 : okD d2 = true := by rw [← em]; exact List.all_eq_true.mp pl pm hm
          have o1 := pk'.1
          unfold okD at o1 o2
          rw [Bool.and_eq_true] at o1 o2
          obtain ⟨as, r1⟩ := Dp.reads I _ _ u (a1.dp o1.1) h2
          obtain ⟨bs, r2⟩ := Dp.reads I _ _ y (a3.dp o2.1) ry
          exact .hit hy (PySem.W.keq_at (A := A) r1 r2 o1.2 o2.2 hu) ih'
theorem op_eqK (hu : X.A.units + 66 < cLine) : OpR X (compareOp .Eq) (rEqK X.K false) := by
  intro pins s σ H x y v u Q I rx ry h
  obtain ⟨A, a, b, vs, ws, ks, ls, rfl, rfl, ra, rb, ak, al, pk, pl, q⟩ := h
  cases (show v = Value.ref a from rx)
  cases (show u = Value.ref b from ry)
  obtain ⟨_, ya, va, r1, da⟩ := (show ObjOk X.prog X.w H s.heap a (.dK vs) from ra.ok I.hok)
  obtain ⟨_, yb, vb, r2, db⟩ := (show ObjOk X.prog X.w H s.heap b (.dK ws) from rb.ok I.hok)
  have e1 : va.length = ks.length := by rw [← r1.length, ak.len]
  have e2 : vb.length = ls.length := by rw [← r2.length, al.len]
  have hits := keqK_hits (A := X.A) (by show X.A.units + 1 + 64 < cLine; omega) I r2 al pl r1 ak pk
  refine PySem.W.keq_eq (knd := mixKind X.prog X.w) ya yb da db (by omega) (fun _ => hits) ⟨.bl (dicEq ks ls), H, I, ?_, q⟩
  unfold dicEq
  rw [e1, e2]
  rfl
theorem op_neK (hu : X.A.units + 66 < cLine) : OpR X (compareOp .NotEq) (rEqK X.K true) := by
  intro pins s σ H x y v u Q I rx ry h
  obtain ⟨A, a, b, vs, ws, ks, ls, rfl, rfl, ra, rb, ak, al, pk, pl, q⟩ := h
  cases (show v = Value.ref a from rx)
  cases (show u = Value.ref b from ry)
  obtain ⟨_, ya, va, r1, da⟩ := (show ObjOk X.prog X.w H s.heap a (.dK vs) from ra.ok I.hok)
  obtain ⟨_, yb, vb, r2, db⟩ := (show ObjOk X.prog X.w H s.heap b (.dK ws) from rb.ok I.hok)
  have e1 : va.length = ks.length := by rw [← r1.length, ak.len]
  have e2 : vb.length = ls.length := by rw [← r2.length, al.len]
  have hits := keqK_hits (A := X.A) (by show X.A.units + 1 + 64 < cLine; omega) I r2 al pl r1 ak pk
  refine PySem.W.keq_ne (knd := mixKind X.prog X.w) ya yb da db (by omega) (fun _ => hits) ⟨.bl (!dicEq ks ls), H, I, ?_, q⟩
  unfold dicEq
  rw [e1, e2]
  rfl
end
def cEqX (x y : D) (Q : Bool → Prop) : Prop := match x, y with
  | .dic ks, .dic ls => plainK ks = true ∧ plainK ls = true ∧ Q (dicEq ks ls)
  | _, _ => cEq x y Q
def cNeX (x y : D) (Q : Bool → Prop) : Prop := cEqX x y fun b => Q (!b)
theorem cEqX.mono : MonF cEqX := fun x y Q Q' h q => by
  unfold cEqX at q ⊢
  split at q
  · exact ⟨q.1, q.2.1, h _ q.2.2⟩
  · exact cEq.mono _ _ _ _ h q
theorem cNeX.mono : MonF cNeX := fun x y Q Q' h q => cEqX.mono x y _ _ (fun d z => h _ z) q
theorem eqX_s {K : PySem.W.Frag} : CmpS K (fun x y H Q => rEqK K false x y H Q ∨ (rEq x y H Q ∨ rEqD K x y H Q)) cEqX := fun x y dx dy A H Q ax ay h => by
  unfold cEqX at h
  split at h
  · cases ax with
    | dic h1 h2 h3 =>
      cases ay with
      | dic k1 k2 k3 => exact .inl ⟨A, _, _, _, _, _, _, rfl, rfl, h2, k2, h3, k3, h.1, h.2.1, h.2.2⟩
  · exact .inr (eq_s x y _ _ A H Q ax ay h)
theorem neX_s {K : PySem.W.Frag} : CmpS K (fun x y H Q => rEqK K true x y H Q ∨ (rNe x y H Q ∨ rNeD K x y H Q)) cNeX := fun x y dx dy A H Q ax ay h => by
  unfold cNeX cEqX at h
  split at h
  · cases ax with
    | dic h1 h2 h3 =>
      cases ay with
      | dic k1 k2 k3 => exact .inl ⟨A, _, _, _, _, _, _, rfl, rfl, h2, k2, h3, k3, h.1, h.2.1, h.2.2⟩
  · exact .inr (ne_s x y _ _ A H Q ax ay h)
end PP

set_option Elab.async false
set_option linter.all false
set_option maxRecDepth 100000
set_option maxHeartbeats 1000000
namespace PP
open PySem PySem.Spec PyProof.Rows L2
variable {ST : Type}

/-! ### what every rule asks of the place, at once -/
structure Ctl (X : Cx) (B : Bs ST) (K : PySem.W.Frag) (k : Nat) : Prop where
  nd : X.N.Nodup
  xk : X.K = K
  bk : B.K = K
  calm : X.calm = true
  room : Room k X.A
  tk : Takes X B.wx
  ex : X.xe = X.xe
theorem Ctl.kk {X : Cx} {B : Bs ST} {K : PySem.W.Frag} {k : Nat} (c : Ctl X B K k) : X.K = B.K := c.xk.trans c.bk.symm
theorem Ctl.u {X : Cx} {B : Bs ST} {K : PySem.W.Frag} {k : Nat} (c : Ctl X B K k) : X.A.units + 70 < cLine := by have := c.room.un; omega
/-- in a block -/
theorem Ctl.blk {X : Cx} {B : Bs ST} {K : PySem.W.Frag} {k : Nat} (c : Ctl X B K k) (s : Shared) (H : Hp) (scope : Scope) (env : PySem.Env) (fp : List Addr) (L : Addr → Option HO) (Z : Addr → Prop) : Ctl (X.blk s H scope env fp) (Bb B L Z) K k :=
  ⟨c.nd, c.xk, c.bk, c.calm, c.room, takes0, rfl⟩
theorem Ctl.bkB {X : Cx} {B : Bs ST} {K : PySem.W.Frag} {k : Nat} (c : Ctl X B K k) (L : Addr → Option HO) (Z : Addr → Prop) : Ctl X (Bk B L Z) K k := ⟨c.nd, c.xk, c.bk, c.calm, c.room, c.tk, rfl⟩
structure CR (X : Cx) (B : Bs ST) (op : CmpOp) (f : D → D → (Bool → Prop) → Prop) : Prop where
  ex : ∃ r, OpR X (compareOp op) r ∧ CmpS B.K r f
  mono : MonF f
section
variable {X : Cx} {B : Bs ST} {K : PySem.W.Frag} {k : Nat}
theorem cr_eq (c : Ctl X B K k) : CR X B .Eq cEqX := ⟨⟨_, OpR.or (op_eqK (by have := c.u; omega)) (OpR.or op_eq (op_eqD (by have := c.u; omega))), by rw [c.kk]; exact eqX_s⟩, cEqX.mono⟩
theorem cr_ne (c : Ctl X B K k) : CR X B .NotEq cNeX := ⟨⟨_, OpR.or (op_neK (by have := c.u; omega)) (OpR.or op_ne (op_neD (by have := c.u; omega))), by rw [c.kk]; exact neX_s⟩, cNeX.mono⟩
theorem cr_lt (c : Ctl X B K k) : CR X B .Lt cLt := ⟨⟨_, OpR.or op_lt op_lt_str, ord_s⟩, cOrd.mono⟩
theorem cr_le (c : Ctl X B K k) : CR X B .LtE cLe := ⟨⟨_, OpR.or op_le op_le_str, ord_s⟩, cOrd.mono⟩
theorem cr_gt (c : Ctl X B K k) : CR X B .Gt cGt := ⟨⟨_, OpR.or op_gt op_gt_str, ord_s⟩, cOrd.mono⟩
theorem cr_ge (c : Ctl X B K k) : CR X B .GtE cGe := ⟨⟨_, OpR.or op_ge op_ge_str, ord_s⟩, cOrd.mono⟩
theorem cr_in (c : Ctl X B K k) : CR X B .In cIn := ⟨⟨_, op_in4 (by have := c.u; omega), by rw [c.kk]; exact inT_s⟩, cIn.mono⟩
theorem cr_notIn (c : Ctl X B K k) : CR X B .NotIn cNotIn := ⟨⟨_, op_notIn4 (by have := c.u; omega), by rw [c.kk]; exact inF_s⟩, cNotIn.mono⟩
theorem cr_is (c : Ctl X B K k) : CR X B .Is cIsN := ⟨⟨_, op_isN, isN_s⟩, cIsN.mono⟩
theorem cr_isNot (c : Ctl X B K k) : CR X B .IsNot cNotN := ⟨⟨_, op_notN, notN_s⟩, cNotN.mono⟩
variable {a b d e : Expr} {na nb nd : Nat} {pa pb pd : Px ST D} {pos p1 : Pos} {op op' : CmpOp} {f g : D → D → (Bool → Prop) → Prop}
theorem ge_cmp (h : CR X B op f) (ha : JE X B a na pa) (hb : JP X B b nb pb) (hm : behindInMarks op b = false := by rfl) : JE X B (.Compare a [op] [b] pos) (na + nb) (pB (pBin f pa pb)) := by
  obtain ⟨r, h1, h2⟩ := h.ex
  exact je_cmp h1 h2 h.mono ha hb hm
theorem gt_cmp (h : CR X B op f) (ha : JE X B a na pa) (hb : JP X B b nb pb) (hm : behindInMarks op b = false := by rfl) : JT X B (.Compare a [op] [b] pos) (na + nb) (pBin f pa pb) := by
  obtain ⟨r, h1, h2⟩ := h.ex
  exact jt_cmp h1 h2 h.mono ha hb hm
theorem ge_cmpV (i : Nat) {x : Str} (h : CR X B op f) (hb : JP X B b nb pb) (hm : behindInMarks op b = false := by rfl) (hN : X.N[i]? = some x := by rfl) (hv : Vis X.env.scope x := by first | exact Or.inl rfl | exact Or.inr (Or.inl rfl) | exact Or.inr (Or.inr rfl)) (hd : (x == ("__debug__" : Str)) = false := by decide)
    (hcd : (x == ("__classdict__" : Str)) = false := by decide) : JE X B (.Compare (.Name x p1) [op] [b] pos) nb (pB (pBinV f i pb)) := by
  obtain ⟨r, h1, h2⟩ := h.ex
  exact je_cmpV i h1 h2 h.mono hb hm hN hv hd hcd
theorem gt_cmpV (i : Nat) {x : Str} (h : CR X B op f) (hb : JP X B b nb pb) (hm : behindInMarks op b = false := by rfl) (hN : X.N[i]? = some x := by rfl) (hv : Vis X.env.scope x := by first | exact Or.inl rfl | exact Or.inr (Or.inl rfl) | exact Or.inr (Or.inr rfl)) (hd : (x == ("__debug__" : Str)) = false := by decide)
    (hcd : (x == ("__classdict__" : Str)) = false := by decide) : JT X B (.Compare (.Name x p1) [op] [b] pos) nb (pBinV f i pb) := by
  obtain ⟨r, h1, h2⟩ := h.ex
  exact jt_cmpV i h1 h2 h.mono hb hm hN hv hd hcd
theorem ge_chain (h : CR X B op f) (h' : CR X B op' g) (ha : JE X B a na pa) (hb : JE X B b nb pb) (hd : JE X B d nd pd) (hm : lastMarks [op, op'] [b, d] = false := by with_unfolding_all rfl) : JE X B (.Compare a [op, op'] [b, d] pos) (na + (nb + nd)) (pB (pChain f g pa pb pd)) := by
  obtain ⟨r, h1, h2⟩ := h.ex
  obtain ⟨r', h3, h4⟩ := h'.ex
  exact je_chain h1 h3 h2 h4 h.mono h'.mono ha hb hd hm
theorem gt_chain (h : CR X B op f) (h' : CR X B op' g) (ha : JE X B a na pa) (hb : JE X B b nb pb) (hd : JE X B d nd pd) (hm : lastMarks [op, op'] [b, d] = false := by with_unfolding_all rfl) : JT X B (.Compare a [op, op'] [b, d] pos) (na + (nb + nd)) (pChain f g pa pb pd) := by
  obtain ⟨r, h1, h2⟩ := h.ex
  obtain ⟨r', h3, h4⟩ := h'.ex
  exact jt_chain h1 h3 h2 h4 h.mono h'.mono ha hb hd hm
theorem ge_add (c : Ctl X B K k) (ha : JE X B a na pa) (hb : JE X B b nb pb) : JE X B (.BinOp a .Add b pos) (na + nb) (pBin aAdd pa pb) := je_add c.kk ha hb
theorem ge_ix (c : Ctl X B K k) (ha : JE X B a na pa) (hb : JE X B b nb pb) (hs : PlainIx b := by intro _ _; rfl) : JE X B (.Subscript a b pos) (na + nb) (pBin aIx pa pb) := je_ix c.kk (by have := c.u; omega) ha hb hs
theorem ge_ixV (c : Ctl X B K k) (i : Nat) {x : Str} (hb : JE X B b nb pb) (hs : PlainIx b := by intro _ _; rfl) (hN : X.N[i]? = some x := by rfl) (hv : Vis X.env.scope x := by first | exact Or.inl rfl | exact Or.inr (Or.inl rfl) | exact Or.inr (Or.inr rfl)) (hd : (x == ("__debug__" : Str)) = false := by decide)
    (hcd : (x == ("__classdict__" : Str)) = false := by decide) : JE X B (.Subscript (.Name x p1) b pos) nb (pIxV i pb) := je_ixV i c.kk (by have := c.u; omega) hb hs hN hv hd hcd
end
end PP

set_option Elab.async false
set_option linter.all false
set_option maxRecDepth 100000
set_option maxHeartbeats 1000000
namespace PP
open PySem PySem.Spec PyProof.Rows L2

/-! ### the pen: a dict at p, its cells at cl -/
structure Pn where
  turn : Int
  left : Int
def penKvs (cl : Addr) (st : Pn) : List (Key × V) := [(.inr "cells", .ref cl), (.inr "turn", .int st.turn), (.inr "left", .int st.left)]
def penTop : Nat := 2 ^ 250
def penM (p cl : Addr) (a : Addr) : Prop := a = p ∨ a = cl
def penW (p cl : Addr) (cells : List Int) : Gh Pn where
  M := penM p cl
  W := fun n st H => H p = some (.dK (penKvs cl st)) ∧ H cl = some (.lst (cells.map V.int)) ∧ 0 ≤ st.turn ∧ st.turn ≤ n ∧ 0 ≤ st.left
  keep := fun {n st H H'} w k => ⟨(k p (.inl rfl)).trans w.1, (k cl (.inr rfl)).trans w.2.1, w.2.2⟩
  le := fun {n n' st H} l w => ⟨w.1, w.2.1, w.2.2.1, by have := w.2.2.2.1; omega, w.2.2.2.2⟩
  top := penTop
def penG (p cl : Addr) : Gh Unit where
  M := penM p cl
  W := fun n _ H => ∃ cells st, (penW p cl cells).W n st H
  keep := fun {n st H H'} w k => by
    obtain ⟨cells, s, w⟩ := w
    exact ⟨cells, s, (penW p cl cells).keep w k⟩
  le := fun {n n' st H} l w => by
    obtain ⟨cells, s, w⟩ := w
    exact ⟨cells, s, (penW p cl cells).le l w⟩
  top := penTop
abbrev Bp (p cl : Addr) (cells : List Int) (K : PySem.W.Frag) (H0 : Hp) (A0 X0 : Addr → Prop) (L : Addr → Option HO) (Z : Addr → Prop) (wx : WX) : Bs Pn := ⟨penW p cl cells, K, H0, A0, X0, L, Z, wx⟩
def penOk (st : Pn) : Prop := 0 ≤ st.turn ∧ st.turn ≤ (penTop : Int) ∧ 0 ≤ st.left
def pPen (p : Addr) (i : Nat) (f : Pn → D) : Px Pn D := fun ρ st Q _ => ρ[i]? = some (.dat (.ref p)) ∧ (penOk st → Q (f st) ρ st)
theorem pPen.mono {p : Addr} {i : Nat} {f : Pn → D} : Mono (pPen p i f) := fun ρ st Q Q' R R' h1 h2 h => ⟨h.1, fun o => h1 _ _ _ (h.2 o)⟩
theorem pen_turn {cl : Addr} {st : Pn} : valV (penKvs cl st) (.inr "turn") = some (.int st.turn) := rfl
theorem pen_left {cl : Addr} {st : Pn} : valV (penKvs cl st) (.inr "left") = some (.int st.left) := rfl
theorem pen_cells {cl : Addr} {st : Pn} : valV (penKvs cl st) (.inr "cells") = some (.ref cl) := rfl
theorem pen_putT {cl : Addr} {st : Pn} {v : Int} : putK (penKvs cl st) (.inr "turn") (.int v) = penKvs cl ⟨v, st.left⟩ := rfl
theorem pen_putL {cl : Addr} {st : Pn} {v : Int} : putK (penKvs cl st) (.inr "left") (.int v) = penKvs cl ⟨st.turn, v⟩ := rfl
section
variable {X : Cx} {p cl : Addr} {cells : List Int} {K : PySem.W.Frag} {H0 : Hp} {A0 X0 : Addr → Prop} {L : Addr → Option HO} {Z : Addr → Prop} {wx : WX} {k : Nat} {x : Str} {p1 q1 pos : Pos} {j : Nat} {e : Expr} {n : Nat} {pe : Px Pn D}
theorem pen_ok {A : Addr → Prop} {σ : L2.St} {H : Hp} {ρ : Env} {m : Nat} {st : Pn} (w : (penW p cl cells).W m st H) (l : m ≤ penTop) : penOk st := ⟨w.2.2.1, by have := w.2.2.2.1; omega, w.2.2.2.2⟩
theorem slot_ref {B : Bs Pn} {A : Addr → Prop} {σ : L2.St} {H : Hp} {ρ : Env} {i : Nat} (S : Sta B A σ H ρ) (h : ρ[i]? = some (.dat (.ref p))) : sat σ i = some (.ref p) := by
  obtain ⟨v, h1, h2⟩ := S.slot i _ h
  cases h2
  exact h1
theorem je_pen {key : Str} {f : Pn → Int} (i : Nat) (c : Ctl X (Bp p cl cells K H0 A0 X0 L Z wx) K k) (hk : ∀ st, valV (penKvs cl st) (.inr key) = some (.int (f st))) (hN : X.N[i]? = some x := by rfl) (hv : Vis X.env.scope x := by first | exact Or.inl rfl | exact Or.inr (Or.inl rfl) | exact Or.inr (Or.inr rfl))
    (hd : (x == ("__debug__" : Str)) = false := by decide) (hcd : (x == ("__classdict__" : Str)) = false := by decide) : JE X (Bp p cl cells K H0 A0 X0 L Z wx) (.Subscript (.Name x p1) (.Constant (.str key) j q1) pos) 0 (pPen p i fun st => .int (f st)) :=
  ⟨pPen.mono, pe_weak (pe_dget (by have := c.u; omega) (pe_var hN hv hd hcd) pe_str (by intro _ _; rfl)) fun σ H Q ⟨ρ, A, m, st, S, w, l, h1, h2⟩ => by
    have ok := pen_ok (A := A) (σ := σ) (ρ := ρ) w l
    exact ⟨.ref p, sat_of (slot_ref S h1), p, .int (f st), rfl, .inl ⟨_, .inr key, .inl w.1, rfl, (hk st).symm⟩, post.here (rel := relE K) (h2 ok) S w (.int _)⟩⟩
/-- pen['cells'] != [] -/
def pPenNe (p : Addr) (cells : List Int) (i : Nat) : Px Pn Bool := fun ρ st Q _ => ρ[i]? = some (.dat (.ref p)) ∧ Q (decide (cells ≠ [])) ρ st
theorem pd_ints : ∀ cells : List Int, pds (cells.map D.int) = cells.map PyData.int
  | [] => by rw [List.map_nil, pds]; rfl
  | c :: cs => by rw [List.map_cons, pds, pd_ints cs]; rfl
theorem ats_ofInts {K : PySem.W.Frag} {A : Addr → Prop} {H : Hp} : ∀ cells : List Int, Ats K A H (cells.map V.int) (cells.map D.int)
  | [] => .nil
  | c :: cs => .cons (.int c) (ats_ofInts cs)
theorem plains_ints : ∀ cells : List Int, plains (cells.map D.int) = true
  | [] => by rw [List.map_nil, plains]
  | c :: cs => by rw [List.map_cons, plains, plain, plains_ints cs]; rfl
theorem okD_ints (cells : List Int) : okD (.lst (cells.map D.int)) = true := by
  unfold okD
  rw [plain, plains_ints, pd, pd_ints, PySem.W.ke_shaped_ints]
  rfl
theorem eqD_nil (cells : List Int) : eqD (.lst (cells.map D.int)) (.lst []) = decide (cells = []) := by
  unfold eqD
  rw [pd, pd, pd_ints, pds]
  cases cells with
  | nil => simp [PyData.eqv, PyData.eqvAll]
  | cons c cs => simp [PyData.eqv, PyData.eqvAll]
theorem jt_penNe (i : Nat) {op1 : Pos} {pt : Pos} (c : Ctl X (Bp p cl cells K H0 A0 X0 L Z wx) K k) (hN : X.N[i]? = some x := by rfl) (hv : Vis X.env.scope x := by first | exact Or.inl rfl | exact Or.inr (Or.inl rfl) | exact Or.inr (Or.inr rfl))
    (hd : (x == ("__debug__" : Str)) = false := by decide) (hcd : (x == ("__classdict__" : Str)) = false := by decide) : JT X (Bp p cl cells K H0 A0 X0 L Z wx) (.Compare (.Subscript (.Name x p1) (.Constant (.str "cells") j q1) pos) [.NotEq] [.List [] op1] pt) 0 (pPenNe p cells i) :=
  by
  obtain ⟨r, h1r, hs⟩ := (cr_ne c).ex
  exact ⟨fun ρ st Q Q' R R' h1 h2 h => ⟨h.1, h1 _ _ _ h.2⟩, pt_weak (pt_cmpR h1r (pe_dget (by have := c.u; omega) (pe_var hN hv hd hcd) pe_str (by intro _ _; rfl)) (pe_lst pa_nil) (nomark _)) fun σ H Q ⟨ρ, A, m, st, S, w, l, h1, h2⟩ => by
    refine ⟨.ref p, sat_of (slot_ref S h1), p, .ref cl, rfl, .inl ⟨_, .inr "cells", .inl w.1, rfl, pen_cells.symm⟩, Nat.zero_le _, fun q hq => ?_⟩
    have ne : cl ≠ q := fun z => by rw [← z, w.2.1] at hq; cases hq
    refine hs (.ref cl) (.ref q) (.lst (cells.map D.int)) (.lst []) (fun a => a = cl ∨ a = q) _ _ (.lst (.inl rfl) ((upd_ne ne).trans w.2.1) (ats_ofInts _)) (.lst (.inr rfl) upd_same .nil) ?_
    show okD (.lst (cells.map D.int)) = true ∧ okD (.lst []) = true ∧ _
    refine ⟨okD_ints _, rfl, ?_⟩
    rw [eqD_nil]
    refine ⟨_, rfl, h2 _ _ _ (S.alloc0 hq) (W_alloc S hq w) (S.ge_alloc0 hq) ?_⟩
    show (!decide (cells = [])) = decide (cells ≠ [])
    simp⟩
/-- len(pen['cells']) -/
theorem je_penLen (i : Nat) {pl lp : Pos} (c : Ctl X (Bp p cl cells K H0 A0 X0 L Z wx) K k) (hg : Gl X "len") (hm : X.mg "len" = none) (hN : X.N[i]? = some x := by rfl) (hv : Vis X.env.scope x := by first | exact Or.inl rfl | exact Or.inr (Or.inl rfl) | exact Or.inr (Or.inr rfl))
    (hd : (x == ("__debug__" : Str)) = false := by decide) (hcd : (x == ("__classdict__" : Str)) = false := by decide) : JE X (Bp p cl cells K H0 A0 X0 L Z wx) (.Call (.Name "len" lp) [.Subscript (.Name x p1) (.Constant (.str "cells") j q1) pos] [] pl) 0 (pPen p i fun _ => .int cells.length) :=
  ⟨pPen.mono, pe_weak (pe_callB call_len3 hg hm PySem.boot_len (pa_cons (pe_dget (by have := c.u; omega) (pe_var hN hv hd hcd) pe_str (by intro _ _; rfl)) pa_nil)) fun σ H Q ⟨ρ, A, m, st, S, w, l, h1, h2⟩ => by
    refine ⟨.ref p, sat_of (slot_ref S h1), p, .ref cl, rfl, .inl ⟨_, .inr "cells", .inl w.1, rfl, pen_cells.symm⟩, .inl ⟨cl, cells.map V.int, rfl, .inl (.of w.2.1), ?_⟩⟩
    rw [List.length_map]
    exact post.here (rel := relE K) (h2 (pen_ok (A := A) (σ := σ) (ρ := ρ) w l)) S w (.int _)⟩
/-- pen['cells'][e] -/
def pPenIx (p : Addr) (cells : List Int) (i : Nat) (pe : Px Pn D) : Px Pn D := fun ρ st Q R => ρ[i]? = some (.dat (.ref p)) ∧ pe ρ st (fun y ρ1 st1 => ∃ (j : Int) (v : Int), y = .int j ∧ 0 ≤ j ∧ cells[j.toNat]? = some v ∧ Q (.int v) ρ1 st1) R
theorem je_penIx (i : Nat) {pt : Pos} (c : Ctl X (Bp p cl cells K H0 A0 X0 L Z wx) K k) (he : JE X (Bp p cl cells K H0 A0 X0 L Z wx) e n pe) (hs : PlainIx e := by intro _ _; rfl) (hN : X.N[i]? = some x := by rfl) (hv : Vis X.env.scope x := by first | exact Or.inl rfl | exact Or.inr (Or.inl rfl) | exact Or.inr (Or.inr rfl))
    (hd : (x == ("__debug__" : Str)) = false := by decide) (hcd : (x == ("__classdict__" : Str)) = false := by decide) : JE X (Bp p cl cells K H0 A0 X0 L Z wx) (.Subscript (.Subscript (.Name x p1) (.Constant (.str "cells") j q1) pos) e pt) n (pPenIx p cells i pe) :=
  ⟨fun ρ st Q Q' R R' h1 h2 h => ⟨h.1, he.mono _ _ _ _ _ _ (fun y ρ1 st1 ⟨j, v, e1, e2, e3, z⟩ => ⟨j, v, e1, e2, e3, h1 _ _ _ z⟩) h2 h.2⟩, pe_weak (pe_ix (ix4 (by have := c.u; omega)) (pe_dget (by have := c.u; omega) (pe_var hN hv hd hcd) pe_str (by intro _ _; rfl)) he.run hs) fun σ H Q ⟨ρ, A, m, st, S, w, l, h1, h2⟩ => by
    refine ⟨.ref p, sat_of (slot_ref S h1), p, .ref cl, rfl, .inl ⟨_, .inr "cells", .inl w.1, rfl, pen_cells.symm⟩, ρ, A, m, st, S, w, l, he.mono _ _ _ _ _ _ (fun y ρ1 st1 z v H1 A1 S1 w1 g1 a1 => ?_) (fun _ _ _ z => z) h2⟩
    obtain ⟨j, u, rfl, e2, e3, z⟩ := z
    cases a1
    have hj : j.toNat < cells.length := (List.getElem?_eq_some_iff.mp e3).1
    refine .inl ⟨cl, cells.map V.int, j, .int u, rfl, rfl, .of w1.2.1, ?_, z _ H1 A1 S1 w1 g1 (.int u)⟩
    unfold atI ixN
    rw [if_pos e2, if_pos (by rw [List.length_map]; omega), Option.bind_some, List.getElem?_map, e3]
    rfl⟩
/-- pen['turn'] = e, pen['left'] = e -/
def sPenSet (p : Addr) (i : Nat) (f : Pn → Int → Pn) (ok : Pn → Int → Prop) (pe : Px Pn D) : PSx Pn := fun Dd ρ st => pe ρ st (fun y ρ1 st1 => ∃ v, y = .int v ∧ ρ1[i]? = some (.dat (.ref p)) ∧ ok st1 v ∧ Dd.nx ρ1 (f st1 v)) Dd.ex
theorem js_penSet {key : Str} {f : Pn → Int → Pn} {ok : Pn → Int → Prop} (i : Nat) {pos' : Pos} (c : Ctl X (Bp p cl cells K H0 A0 X0 L Z wx) K k) (hf : ∀ st v, putK (penKvs cl st) (.inr key) (.int v) = penKvs cl (f st v)) (hok : ∀ st v (n : Nat), ok st v → 0 ≤ st.turn → st.turn ≤ n → 0 ≤ st.left → 0 ≤ (f st v).turn ∧ (f st v).turn ≤ (n + 1 : Nat) ∧ 0 ≤ (f st v).left)
    (he : JE X (Bp p cl cells K H0 A0 X0 L Z wx) e n pe) (hs : swapsWith e (some (.Subscript (.Name x p1) (.Constant (.str key) j q1) pos')) pos.line X.env = pure false := by rfl) (hN : X.N[i]? = some x := by rfl) (hv : Vis X.env.scope x := by first | exact Or.inl rfl | exact Or.inr (Or.inl rfl) | exact Or.inr (Or.inr rfl))
    (hd : (x == ("__debug__" : Str)) = false := by decide) (hcd : (x == ("__classdict__" : Str)) = false := by decide) : JS X (Bp p cl cells K H0 A0 X0 L Z wx) (.Assign [.Subscript (.Name x p1) (.Constant (.str key) j q1) pos'] e pos) (n + 1) (sPenSet p i f ok pe) := by
  refine ⟨fun Dd Dd' ρ st im h => he.mono _ _ _ _ _ _ (fun y ρ1 st1 ⟨v, e1, e2, e3, z⟩ => ⟨v, e1, e2, e3, im.nx _ _ z⟩) im.ex h, ps_weak (ps_dput (by have := c.u; omega) (pe_var hN hv hd hcd) pe_str he.run hs) fun Dd σ H ⟨ρ, A, m, st, S, w, l, h⟩ => ?_⟩
  refine ⟨ρ, A, m, st, S, w, by show m + n ≤ penTop; have : m + (n + 1) ≤ penTop := l; exact Nat.le_trans (by omega) this, he.mono _ _ _ _ _ _ (fun y ρ1 st1 z v H1 A1 S1 w1 g1 a1 => ?_) (fun x ρ1 st1 z cls dx H1 A1 S1 w1 a1 => z cls dx σ H1 A1 S1 ((penW p cl cells).le (by omega) w1) a1) h⟩
  obtain ⟨u, rfl, e2, e3, z⟩ := z
  cases a1
  have hp := slot_ref S1 e2
  have hcp : cl ≠ p := fun z => by have h1 := w1.1; have h2 := w1.2.1; rw [z, h1] at h2; cases h2
  have w2 := hok _ _ _ e3 w1.2.2.1 w1.2.2.2.1 w1.2.2.2.2
  refine ⟨.ref p, sat_of hp, p, _, rfl, .inl ⟨_, .inr key, w1.1, rfl, by show 3 < sizeLine; rw [sizeLine_eq]; omega, rfl⟩, ?_⟩
  rw [hf]
  have g : ∀ a, H1 a ≠ none → ¬ penM p cl a → upd H1 p (.dK (penKvs cl (f st1 u))) a = H1 a := fun a _ hm => upd_ne fun z => hm (.inl z)
  have S2 := S1.step (A' := A1) (H' := upd H1 p (.dK (penKvs cl (f st1 u)))) g (fun a hm => by
    by_cases ha : a = p
    · rw [ha, upd_same]; exact fun z => nomatch z
    · rw [upd_ne ha]; exact S1.mtrk a hm) (fun _ h => h) fun _ h => .inl h
  exact z σ _ A1 S2 ⟨upd_same, (upd_ne hcp).trans w1.2.1, w2⟩ (g1.trans fun a ha => ⟨ha, .of_eq (g a (S1.trk a ha).1 (S1.trk a ha).2)⟩)
end
theorem penT_ok (st : Pn) (v : Int) (n : Nat) (e : v = st.turn + 1) (h1 : 0 ≤ st.turn) (h2 : st.turn ≤ n) (h3 : 0 ≤ st.left) : 0 ≤ (Pn.mk v st.left).turn ∧ (Pn.mk v st.left).turn ≤ (n + 1 : Nat) ∧ 0 ≤ (Pn.mk v st.left).left := by
  refine ⟨?_, ?_, h3⟩
  · show 0 ≤ v; omega
  · show v ≤ _; omega
theorem penL_ok (st : Pn) (v : Int) (n : Nat) (e : 0 ≤ v) (h1 : 0 ≤ st.turn) (h2 : st.turn ≤ n) (h3 : 0 ≤ st.left) : 0 ≤ (Pn.mk st.turn v).turn ∧ (Pn.mk st.turn v).turn ≤ (n + 1 : Nat) ∧ 0 ≤ (Pn.mk st.turn v).left := by
  refine ⟨h1, ?_, e⟩
  show st.turn ≤ _
  omega
end PP

set_option Elab.async false
set_option linter.all false
set_option maxRecDepth 100000
set_option maxHeartbeats 1000000
namespace PP
open PySem PySem.Spec PyProof.Rows L2

/-! ### the head: defs, exception classes, any checks of the written part -/
def clsBody : Stmt → List Stmt
  | .ClassDef _ _ _ body _ _ _ _ _ _ _ => body
  | _ => []
abbrev FnX : Type := Option (Str × Str × Arguments × FuncBody × Scope × Addr × Addr)
/-- an exception class and its __init__, as the text has it -/
structure DefX where
  cls : Str
  qual : Str
  params : Arguments
  body : List Stmt
  scope : Scope
  fs : List Str
def DefX.C (K : PySem.W.Frag) (d : DefX) : Addr := He.ga K d.cls
def DefX.f (K : PySem.W.Frag) (d : DefX) : Addr := He.ma K (He.ga K d.cls) "__init__"
def DefX.val (d : DefX) : FnX := some ("__init__", d.qual, d.params, .stmts d.body, d.scope, mainGlobals, builtinsNs)
def fnX (K : PySem.W.Frag) (f : Addr) : FnX := match K.lookup f with
  | some ⟨_, _, .func fd, _⟩ => some (fd.name, fd.qualname, fd.params, fd.body, fd.scope, fd.globals, fd.builtins)
  | _ => none
def oexB (K : PySem.W.Frag) (C : Addr) : Bool := (match K.lookup C with
  | some ⟨.type "type", _, .cls cd, sl⟩ => (match cd.mro, sl.toList with
    | .ref C' :: bm, [_, _, _, _, some (.builtin n), _] => C' == C && n == "ValueError.__new__" && !cd.hasDel && cd.hasDict && PySem.HandSPX.refsVE bm
    | _, _ => false)
  | _ => false) && (decide (PySem.W.findIn K (.ref C) "__setattr__" = some (some (.builtin "object.__setattr__"))) && (decide (PySem.W.subIn K (.ref C) (.type "BaseException") = some true) && (decide (PySem.W.typeIn K (.ref C) = some (.type "type")) && PySem.W.keepIn K (.ref C))))
theorem band {a b : Bool} (h : (a && b) = true) : a = true ∧ b = true := Bool.and_eq_true_iff.mp h
theorem oexB_ok {K : PySem.W.Frag} {C : Addr} (h : oexB K C = true) : OexC K C := by
  obtain ⟨q, h⟩ := band h
  obtain ⟨h1, h⟩ := band h
  obtain ⟨h2, h⟩ := band h
  obtain ⟨h3, h4⟩ := band h
  refine ⟨?_, of_decide_eq_true h1, of_decide_eq_true h2, of_decide_eq_true h3, h4⟩
  split at q
  · rename_i dd cd sl ho
    split at q
    · rename_i C' bm k0 k1 k2 k3 n k5 hm hs
      simp only [Bool.and_eq_true, beq_iff_eq, Bool.not_eq_true'] at q
      obtain ⟨⟨⟨⟨rfl, rfl⟩, hdel⟩, hdct⟩, ht⟩ := q
      obtain ⟨nm, bs, mro, ns, qn, hd, sn, sub, ab, col, del⟩ := cd
      dsimp only at hm hdel hdct
      subst hm hdel hdct
      have hsl : sl = #[k0, k1, k2, k3, some (.builtin "ValueError.__new__"), k5] := by
        obtain ⟨l⟩ := sl
        simp only at hs
        rw [hs]
      subst hsl
      exact ⟨nm, qn, ns, bs, bm, sn, sub, ab, col, dd, k0, k1, k2, k3, k5, ho, ht⟩
    · cases q
  · cases q
def isxB (K : PySem.W.Frag) (C : Addr) : Bool := xfB K C && (decide (PySem.W.findIn K (.ref C) "__class__" = some (some (.builtin "object.__class__"))) && (decide (PySem.W.specialIn K (.builtin "object.__class__") "__get__" = some (some (.builtin "getset_descriptor.__get__"))) &&
  (decide (PySem.W.takesIn K (.builtin "object.__class__") = some true) && decide (PySem.W.mroIn K C (.type "object") = some true))))
theorem isxB_ok {K : PySem.W.Frag} {C : Addr} (h : isxB K C = true) : XfC K C ∧ ExcC K C := by
  obtain ⟨h0, h⟩ := band h
  obtain ⟨h1, h⟩ := band h
  obtain ⟨h2, h⟩ := band h
  obtain ⟨h3, h4⟩ := band h
  have x := xfB_ok h0
  exact ⟨x, x.ga, x.gg, x.exC, x.hdC, of_decide_eq_true h1, of_decide_eq_true h2, of_decide_eq_true h3, of_decide_eq_true h4⟩
def supB (K : PySem.W.Frag) (C : Addr) : Bool := decide (PySem.W.ks_superIn K C C "__init__" = some (some (.builtin "ValueError.__init__"))) && (decide (PySem.W.subIn K (.ref C) (.type "ValueError") = some true) && (decide (PySem.W.mroIn K C (.ref C) = some true) && ((PySem.W.clsIn K C).isSome &&
  (decide (PySem.W.nsIn K mainGlobals "super" = some none) && decide (PySem.W.nsIn K cStatics "thirdparty.any" = some none)))))
theorem supB_ok {K : PySem.W.Frag} {C : Addr} (h0 : oexB K C = true) (h : supB K C = true) : OexS K C C := by
  obtain ⟨h1, h⟩ := band h
  obtain ⟨h2, h⟩ := band h
  obtain ⟨h3, h⟩ := band h
  obtain ⟨h4, h⟩ := band h
  obtain ⟨h5, h6⟩ := band h
  exact ⟨oexB_ok h0, of_decide_eq_true h1, of_decide_eq_true h2, of_decide_eq_true h3, Option.isSome_iff_exists.mp h4, of_decide_eq_true h5, of_decide_eq_true h6⟩
/-- the def's code, its defaults and what it closes over -/
def cloB (K : PySem.W.Frag) (C f : Addr) (q file : Str) : Bool := match K.lookup f with
  | some ⟨_, _, .func fd, _⟩ => PySem.W.codeIn K fd.code q && (decide (fd.defaults = .none) && ((match fd.closure with
    | [(n, cc)] => decide (n = ("__class__" : Str)) && (match K.lookup cc with
      | some ⟨_, _, .cell (some (.ref D)), _⟩ => D == C
      | _ => false)
    | _ => false) && (match fd.code with
    | .ref cda => (match K.lookup cda with
      | some ⟨_, _, .fields vs, _⟩ => (match (vs[2]? : Option Value) with
        | some (Value.str fl _) => decide (fl = file)
        | _ => false)
      | _ => false)
    | _ => false)))
  | _ => false
def DefX.ok (file : Str) (K : PySem.W.Frag) (d : DefX) : Bool := oexB K (d.C K) && (isxB K (d.C K) && (supB K (d.C K) && (cloB K (d.C K) (d.f K) d.qual file && (decide (PySem.W.nsIn K mainGlobals d.cls = some (some (.ref (d.C K)))) && (decide (PySem.W.findIn K (.ref (d.C K)) "__init__" = some (some (.ref (d.f K)))) &&
  (decide (PySem.W.typeIn K (.ref (d.f K)) = some (.type "function")) && d.fs.all fun g => decide (PySem.W.findIn K (.ref (d.C K)) g = some none)))))))
/-- what is known of an exception class -/
structure ExcF (P : Program) (K : PySem.W.Frag) (mg : Str → Option Value) (d : DefX) where
  fd : FuncData
  cc : Addr
  fx : FunX P K "__init__" d.qual d.params d.body d.scope (d.f K) cc (d.C K) fd
  o : Exc0 P K (d.C K) (d.f K) cc d.fs
  isx : ExcC K (d.C K)
  xf : XfC K (d.C K)
  m : mg d.cls = some (.ref (d.C K))
  init : PySem.W.findIn K (.ref (d.C K)) "__init__" = some (some (.ref (d.f K)))
  ty : PySem.W.typeIn K (.ref (d.f K)) = some (.type "function")
theorem excF_of {P : Program} {K : PySem.W.Frag} {mg : Str → Option Value} {h : Heap} {d : DefX} {file : Str} (X : K.In h) (G : h.Ns mainGlobals mg) (hfile : ((P.main.file : Str) == file) = true) (htop : (P.main.scope.names.lookup ("super" : Str)).isSome = false) (e : fnX K (d.f K) = d.val) (c : d.ok file K = true) : Nonempty (ExcF P K mg d) := by
  obtain ⟨h1, c⟩ := band c
  obtain ⟨h2, c⟩ := band c
  obtain ⟨h3, c⟩ := band c
  obtain ⟨h4, c⟩ := band c
  obtain ⟨h5, c⟩ := band c
  obtain ⟨h6, c⟩ := band c
  obtain ⟨h7, h8⟩ := band c
  have O := supB_ok h1 h3
  have x := isxB_ok h2
  unfold cloB at h4
  unfold fnX at e
  cases q : K.lookup (d.f K) with
  | none => rw [q] at h4; cases h4
  | some ob =>
    obtain ⟨oc, od, dt, osl⟩ := ob
    rw [q] at h4 e
    cases dt with
    | func fd =>
      obtain ⟨n1, n2, n3, n4, n5, n6, n7, n8, n9, n10, n11, n12, n13, n14, n15⟩ := fd
      have e2 : (some (n1, n2, n3, n4, n5, n6, n15) : FnX) = some (("__init__" : Str), d.qual, d.params, FuncBody.stmts d.body, d.scope, mainGlobals, builtinsNs) := e
      simp only [Option.some.injEq, Prod.mk.injEq] at e2
      obtain ⟨r1, r2, r3, r4, r5, r6, r7⟩ := e2
      subst r1 r2 r3 r4 r5 r6 r7
      obtain ⟨k1, h4⟩ := band h4
      obtain ⟨k2, h4⟩ := band h4
      obtain ⟨k3, k4⟩ := band h4
      dsimp only at k1 k2 k3 k4
      have k2' := of_decide_eq_true k2
      subst k2'
      split at k3
      · rename_i n cc
        obtain ⟨k5, k6⟩ := band k3
        have k5' := of_decide_eq_true k5
        subst k5'
        split at k6
        · rename_i a1 a2 D a3 hcell
          have eD : D = d.C K := beq_iff_eq.mp k6
          subst eD
          split at k4
          · rename_i cda
            split at k4
            · rename_i b1 b2 vs b3 hcode
              split at k4
              · rename_i fl tf hv
                have k4' := of_decide_eq_true k4
                subst k4'
                exact ⟨⟨_, _, ⟨⟨oc, od, _, _, _, _, cda, _, osl, rfl, q, k1, b1, b2, vs, b3, fl, tf, hcode, hv, hfile⟩, ⟨a1, a2, a3, hcell⟩, htop⟩, ⟨O, fun g hg => of_decide_eq_true (List.all_eq_true.mp h8 g hg)⟩, x.2, x.1, PySem.W.mg_of X G (of_decide_eq_true h5), of_decide_eq_true h6, of_decide_eq_true h7⟩⟩
              · cases k4
            · cases k4
          · cases k4
        · cases k6
      · cases k3
    | _ => cases h4
/-! ### the Hook -/
abbrev AlP : Type := Bool × List He.FnW × List FnX
def obsP (file : Str) (fb : List (PySem.W.Frag → Bool)) (fn : List He.DefD) (fx : List DefX) (K : PySem.W.Frag) : AlP := ((fb.all fun f => f K) && ((fn.all fun d => d.ok K) && fx.all fun d => d.ok file K), fn.map fun d => He.fnW K d.at_, fx.map fun d => fnX K (d.f K))
def valP (fn : List He.DefD) (fx : List DefX) : AlP := (true, fn.map He.DefD.val, fx.map DefX.val)
def SaysP (file : Str) (fb : List (PySem.W.Frag → Bool)) (fn : List He.DefD) (fx : List DefX) (K : PySem.W.Frag) : Prop := obsP file fb fn fx K = valP fn fx
def asP (g : Addr → Option Obj) : Nat → List Addr
  | 0 => [mainGlobals, cStatics]
  | n + 1 => He.growD g (asP g n)
def obsPG (n : Nat) (file : Str) (fb : List (PySem.W.Frag → Bool)) (fn : List He.DefD) (fx : List DefX) (g : Addr → Option Obj) : AlP := obsP file fb fn fx (He.frG g (asP g n))
def hookP (n : Nat) (file : Str) (fb : List (PySem.W.Frag → Bool)) (fn : List He.DefD) (fx : List DefX) : PySem.W.Hook where
  α := AlP
  obs := fun s => obsPG n file fb fn fx s.heap.get?
  val := fun _ => valP fn fx
  says := fun _ h => ∃ K : PySem.W.Frag, K.In h ∧ SaysP file fb fn fx K
  of := fun _ _ e => ⟨_, He.frG_in, e⟩
  keeps := fun _ _ _ ⟨K, hK, c⟩ k => ⟨K, PySem.W.Frag.In.keeps hK k, c⟩
theorem obsPG_eq {n : Nat} {file : Str} {fb : List (PySem.W.Frag → Bool)} {fn : List He.DefD} {fx : List DefX} {g : Addr → Option Obj} {s : Shared} (h : ∀ a, g a = s.heap.get? a) : obsPG n file fb fn fx g = (hookP n file fb fn fx).obs s := by
  have e : g = s.heap.get? := funext h
  rw [e] <;> rfl
section
variable {file : Str} {fb : List (PySem.W.Frag → Bool)} {fn : List He.DefD} {fx : List DefX} {K : PySem.W.Frag}
theorem SaysP.one (c : SaysP file fb fn fx K) : (fb.all fun f => f K) = true ∧ (fn.all fun d => d.ok K) = true ∧ (fx.all fun d => d.ok file K) = true := by
  have c1 := band (show ((fb.all fun f => f K) && ((fn.all fun d => d.ok K) && fx.all fun d => d.ok file K)) = true from congrArg (fun z : AlP => z.1) c)
  exact ⟨c1.1, band c1.2⟩
theorem SaysP.chk (c : SaysP file fb fn fx K) (i : Nat) {f : PySem.W.Frag → Bool} (h : fb[i]? = some f := by rfl) : f K = true := List.all_eq_true.mp c.one.1 f (List.mem_of_getElem? h)
theorem SaysP.def_ (c : SaysP file fb fn fx K) (i : Nat) {d : He.DefD} (h : fn[i]? = some d := by rfl) : ∃ fd, FunD K d.name d.qual d.params d.body d.scope (d.dvs K) (d.kws K) (He.fAd K d.at_) fd := by
  have e : fn.map (fun d => He.fnW K d.at_) = fn.map He.DefD.val := congrArg (fun z : AlP => z.2.1) c
  have e2 : (fn.map fun d => He.fnW K d.at_)[i]? = (fn.map He.DefD.val)[i]? := by rw [e]
  rw [List.getElem?_map, List.getElem?_map, h] at e2
  exact He.DefD.funD (Option.some.inj e2) (List.all_eq_true.mp c.one.2.1 d (List.mem_of_getElem? h))
theorem SaysP.exc_ {P : Program} {mg : Str → Option Value} {h0 : Heap} (c : SaysP file fb fn fx K) (X : K.In h0) (G : h0.Ns mainGlobals mg) (hfile : ((P.main.file : Str) == file) = true) (htop : (P.main.scope.names.lookup ("super" : Str)).isSome = false) (i : Nat) {d : DefX} (h : fx[i]? = some d := by rfl) : Nonempty (ExcF P K mg d) := by
  have e : fx.map (fun d => fnX K (d.f K)) = fx.map DefX.val := congrArg (fun z : AlP => z.2.2) c
  have e2 : (fx.map fun d => fnX K (d.f K))[i]? = (fx.map DefX.val)[i]? := by rw [e]
  rw [List.getElem?_map, List.getElem?_map, h] at e2
  exact excF_of X G hfile htop (Option.some.inj e2) (List.all_eq_true.mp c.one.2.2 d (List.mem_of_getElem? h))
end
/-- checks by names -/
def ckGlo (x : Str) (K : PySem.W.Frag) : Bool := decide (PySem.W.nsIn K mainGlobals x = some (some (.ref (He.ga K x))))
def ckFree (x : Str) (K : PySem.W.Frag) : Bool := decide (PySem.W.nsIn K mainGlobals x = some none)
def ckKit (x y : Str) (b : Bool) (K : PySem.W.Frag) : Bool := decide (PySem.W.kitOne K (.ref (He.ga K x)) (.ref (He.ga K y)) = some b)
def ckKitT (x : Str) (T : String) (b : Bool) (K : PySem.W.Frag) : Bool := decide (PySem.W.kitOne K (.ref (He.ga K x)) (.type T) = some b)
def ckExn (x : Str) (K : PySem.W.Frag) : Bool := oexB K (He.ga K x) && (isxB K (He.ga K x) && PySem.W.excIn K (He.ga K x) He.veBase "ValueError.__new__")
theorem ckGlo_ok {K : PySem.W.Frag} {h : Heap} {mg : Str → Option Value} {x : Str} (X : K.In h) (G : h.Ns mainGlobals mg) (c : ckGlo x K = true) : mg x = some (.ref (He.ga K x)) := PySem.W.mg_of X G (of_decide_eq_true c)
theorem ckFree_ok {K : PySem.W.Frag} {h : Heap} {mg : Str → Option Value} {x : Str} (X : K.In h) (G : h.Ns mainGlobals mg) (c : ckFree x K = true) : mg x = none := PySem.W.mg_none_of X G (of_decide_eq_true c)
/-- what is known of a def -/
structure DefF (K : PySem.W.Frag) (mg : Str → Option Value) (x : Str) (st : Stmt) where
  fd : FuncData
  F : FunD K x x (defArgs st) (defBody st) (defScope st) [] [] (He.ga K x) fd
  m : mg x = some (.ref (He.ga K x))
/-- .. of an exception class without an __init__ -/
structure ExnF (K : PySem.W.Frag) (mg : Str → Option Value) (x : Str) where
  oex : OexC K (He.ga K x)
  isx : ExcC K (He.ga K x)
  xf : XfC K (He.ga K x)
  ein : PySem.W.excIn K (He.ga K x) He.veBase "ValueError.__new__" = true
  m : mg x = some (.ref (He.ga K x))
def blkB (N : List Str) (sc scope : Scope) (own : List (Str × Nat)) : Bool := decide (scope.kind = .function) && ((scope.names.all fun y => decide (scope.names.lookup y.1 = some y.2)) && ((own.all fun p => decide (N[p.2]? = some p.1)) &&
  ((scope.names.all fun y => decide (y.2 ≠ .free) || (decide (sc.names.lookup y.1 = some .cell) || decide (sc.names.lookup y.1 = some .free))) && scope.names.all fun y => (decide (y.2 ≠ .local) && decide (y.2 ≠ .cell)) || (decide (y.1 ∈ own.map (·.1)) || decide (y.1 ∉ N)))))
theorem blkOk_of {N : List Str} {sc scope : Scope} {own : List (Str × Nat)} (h : blkB N sc scope own = true) : BlkOk N sc scope own := by
  obtain ⟨h1, h⟩ := band h
  obtain ⟨h2, h⟩ := band h
  obtain ⟨h3, h⟩ := band h
  obtain ⟨h4, h5⟩ := band h
  refine ⟨of_decide_eq_true h1, fun y hy => of_decide_eq_true (List.all_eq_true.mp h2 y hy), fun p hp => of_decide_eq_true (List.all_eq_true.mp h3 p hp), fun y hy e => ?_, fun y hy e => ?_⟩
  · have := List.all_eq_true.mp h4 y hy
    simp only [Bool.or_eq_true, decide_eq_true_eq] at this
    exact this.resolve_left fun z => z e
  · have := List.all_eq_true.mp h5 y hy
    simp only [Bool.or_eq_true, Bool.and_eq_true, decide_eq_true_eq] at this
    exact this.resolve_left fun z => e.elim z.1 z.2
theorem ge_isi {ST : Type} {X : Cx} {B : Bs ST} {K : PySem.W.Frag} {k n : Nat} {e cl : Expr} {pa : Px ST (List D)} {p pos : Pos} (c : Ctl X B K k) (ha : JA X B [e, cl] n pa) (hg : Gl X "isinstance") (hm : X.mg "isinstance" = none) (he : starEach [e, cl] X.env = (false, eval e X.env) :: starEach [cl] X.env := by rfl) (hpl : (backTo pos (starEach [cl] X.env)).any (·.1) = false := by rfl) :
    JE X B (.Call (.Name "isinstance" p) [e, cl] [] pos) n (pCallB (fIsi K) pa) := by
  have h := je_isi (p := p) (pos := pos) c.kk ha hg hm he hpl
  rw [c.xk] at h
  exact h
/-- isinstance's answers by names -/
def ckKits (l : List (Str × Str × Bool)) (K : PySem.W.Frag) : Bool := l.all fun t => decide (PySem.W.kitOne K (.ref (He.ga K t.1)) (.ref (He.ga K t.2.1)) = some t.2.2)
def ckKitsT (l : List (Str × String × Bool)) (K : PySem.W.Frag) : Bool := l.all fun t => decide (PySem.W.kitOne K (.ref (He.ga K t.1)) (.type t.2.1) = some t.2.2)
theorem ckKits_ok {l : List (Str × Str × Bool)} {K : PySem.W.Frag} (c : ckKits l K = true) : ∀ t ∈ l, PySem.W.kitOne K (.ref (He.ga K t.1)) (.ref (He.ga K t.2.1)) = some t.2.2 := fun t h => of_decide_eq_true (List.all_eq_true.mp c t h)
theorem ckKitsT_ok {l : List (Str × String × Bool)} {K : PySem.W.Frag} (c : ckKitsT l K = true) : ∀ t ∈ l, PySem.W.kitOne K (.ref (He.ga K t.1)) (.type t.2.1) = some t.2.2 := fun t h => of_decide_eq_true (List.all_eq_true.mp c t h)
theorem JSs.le {ST : Type} {X : Cx} {B : Bs ST} {s : List Stmt} {n n' : Nat} {P : PSx ST} (h : JSs X B s n P) (l : Nat.ble n n' = true) : JSs X B s n' P := ⟨h.mono, pss_weak h.run fun D σ H q => liftS_le h.mono (Nat.le_of_ble_eq_true l) q⟩
end PP

set_option Elab.async false
set_option linter.all false
set_option maxRecDepth 100000
set_option maxHeartbeats 1000000
namespace PP
open PySem PySem.Spec PyProof.Rows L2
variable {ST : Type}

/-! ### x, y = e, f through a tuple -/
def gIds : List Nat → TGs
  | [], vs, σ, H, Q => vs = [] ∧ Q σ H
  | i :: is, vs, σ, H, Q => ∃ v r, vs = v :: r ∧ gIds is r (σ.set i (some v)) H Q
theorem gIds_set {H : Hp} {Q : L2.St → Hp → Prop} : ∀ {is : List Nat} {vs : List V} {σ : L2.St}, vs.length = is.length → Q (setV σ is vs) H → gIds is vs σ H Q
  | [], [], σ, _, h => ⟨rfl, h⟩
  | [], _ :: _, σ, l, h => by simp at l
  | i :: is, [], σ, l, h => by simp at l
  | i :: is, v :: vs, σ, l, h => ⟨v, vs, rfl, gIds_set (by simpa using l) h⟩
theorem pgn_nil {X : Cx} : PGs X [] (gIds []) := pgs_weak pgs_nil fun vs σ H Q h => h
theorem pgn_cons {X : Cx} {x : Str} {pos : Pos} {es : List Expr} {is : List Nat} (i : Nat) (hN : X.N.Nodup) (h : PGs X es (gIds is)) (hi : X.N[i]? = some x := by rfl) (hx : Loc X.env.scope x := by first | exact Or.inl rfl | exact Or.inr rfl)
    (hf : X.fn x = true ∨ X.env.scope.names.lookup x = some .local := by first | exact .inl rfl | exact .inr rfl | assumption) (hs : (assignEach (.Name x pos :: es) X.env).map (·.2) = assign (.Name x pos) X.env :: (assignEach es X.env).map (·.2) := by rfl) : PGs X (.Name x pos :: es) (gIds (i :: is)) :=
  pgs_weak (pgs_cons (pg_name hN hi hx hf) h hs) fun vs σ H Q ⟨v, r, e, z⟩ => ⟨v, r, e, z⟩
theorem ne_of_none' {H : Hp} {a b : Addr} {o : HO} (h : H a = some o) (h' : H b = none) : a ≠ b := fun e => by rw [e, h'] at h; cases h
theorem js_parU {X : Cx} {B : Bs ST} {tgs es : List Expr} {is : List Nat} {n : Nat} {p : Px ST (List Sl)} {kt k2 : Nat} {pt pt2 pos : Pos} {K : PySem.W.Frag} {k : Nat} (c : Ctl X B K k) (hg : PGs X tgs (gIds is)) (ha : JM X B es n p) (hl : is.length ≤ 100 := by decide)
    (hn : (assignEach tgs X.env).length = is.length := by rfl) (hst : (assignEach tgs X.env).findIdx? (·.1) = none := by rfl) (hs : swapsWithSole [.Tuple tgs kt pt] (.Tuple es k2 pt2) pos.line X.env = pure false := by rfl) (hw : swappedStores [.Tuple tgs kt pt] (.Tuple es k2 pt2) X.env = pure none := by rfl)
    (h1 : (assignEach [.Tuple tgs kt pt] X.env).map (·.2) = [assign (.Tuple tgs kt pt) X.env] := by rfl) : JS X B (.Assign [.Tuple tgs kt pt] (.Tuple es k2 pt2) pos) n (sPar is p) := by
  refine ⟨sPar.mono ha.mono, ps_weak (ps_asg (pe_tup ha.run) (pg_tup c.calm hg hn hst) hs hw h1) fun Dd σ H ⟨ρ, A, m, st, S, w, l, z⟩ => ⟨ρ, A, m, st, S, w, l, ha.mono _ _ _ _ _ _ (fun ss ρ1 st1 ⟨y1, y2⟩ vs H1 A1 S1 w1 g1 ms => ?_) (fun x ρ1 st1 y cls dx H1 A1 S1 w1 a1 => y cls dx σ H1 A1 S1 w1 a1) z⟩⟩
  have hlen := ms.len
  refine ⟨by rw [sizeLine_eq]; omega, fun q hq => ⟨q, vs, rfl, .inl (.inl upd_same), by omega, gIds_set (by omega) ?_⟩⟩
  have S2 := S1.alloc0 (o := .tup vs) hq
  have g2 := S1.ge_alloc0 (o := .tup vs) hq
  have ms2 : Ms B σ ρ1 A1 (upd H1 q (.tup vs)) vs ss := by
    have key : ∀ {vs' : List V} {ss : List Sl}, Ms B σ ρ1 A1 H1 vs' ss → Ms B σ ρ1 A1 (upd H1 q (.tup vs)) vs' ss := by
      intro vs' ss h
      induction h with
      | nil => exact .nil
      | dat a _ ih => exact .dat (a.ge g2) ih
      | own h1 h2 h3 h4 h5 h6 h7 _ ih =>
        obtain ⟨o, ho⟩ := fat_o h1
        exact .own (fat_ge h1 (upd_ne (ne_of_none' ho hq)) g2) h2 h3 h4 h5 h6 h7 ih
    exact key ms
  exact y2 _ _ A1 (S2.assignM (is := is) ms2) (W_alloc S1 hq w1) (g1.trans g2)
end PP

set_option Elab.async false
set_option linter.all false
set_option maxRecDepth 100000
set_option maxHeartbeats 1000000
namespace PP
open PySem PySem.Spec PyProof.Rows L2

/-! ### facts for plain laws -/
theorem md_sm (v : Int) {k : Int} (h0 : 0 < k) (h : k ≤ 4294967296) : 0 ≤ v % k ∧ v % k < 4294967296 := ⟨Int.emod_nonneg _ (by omega), Int.lt_of_lt_of_le (Int.emod_lt_of_pos _ h0) h⟩
theorem log_of {n : Int} {a k : Nat} (h0 : 0 ≤ n) (h : n < 2 ^ a) (hk : a ≤ k) (ha : 0 < a) : n.natAbs.log2 < k := by
  by_cases hz : n.natAbs = 0
  · rw [hz, Nat.log2_zero]; omega
  · refine Nat.lt_of_lt_of_le ((Nat.log2_lt hz).mpr ?_) hk
    have : ((2 ^ a : Nat) : Int) = (2 : Int) ^ a := Int.natCast_pow 2 a
    omega
theorem log_le {n : Int} (h0 : 0 ≤ n) (h : n ≤ (penTop : Int)) : n.natAbs.log2 < 300 := by
  by_cases hz : n.natAbs = 0
  · rw [hz, Nat.log2_zero]; omega
  · refine Nat.lt_of_lt_of_le ((Nat.log2_lt (k := 251) hz).mpr ?_) (by decide)
    have h3 : n.natAbs ≤ penTop := by omega
    exact Nat.lt_of_le_of_lt h3 (Nat.pow_lt_pow_right (by decide) (by decide))
theorem log_sm {n : Int} (h0 : 0 ≤ n) (h : n < 4294967296) : n.natAbs.log2 < 32 := log_of (a := 32) h0 h (by decide) (by decide)
theorem log_add {n : Int} (m : Int) {k : Nat} (h0 : 0 ≤ n) (h : n.natAbs.log2 < k) (hm0 : 0 ≤ m) (hm : m < 2 ^ 64) (hk : 64 ≤ k) : (n + m).natAbs.log2 < k + 1 := by
  have h1 : n.natAbs < 2 ^ k := by
    by_cases hz : n.natAbs = 0
    · rw [hz]; exact Nat.two_pow_pos k
    · exact (Nat.log2_lt hz).mp h
  have h2 : m.natAbs < 2 ^ k := Nat.lt_of_lt_of_le (by omega : m.natAbs < 2 ^ 64) (Nat.pow_le_pow_right (by decide) hk)
  have h3 : (n + m).natAbs < 2 ^ (k + 1) := by rw [Nat.pow_succ]; omega
  by_cases hz : (n + m).natAbs = 0
  · rw [hz, Nat.log2_zero]; omega
  · exact (Nat.log2_lt hz).mpr h3
theorem log_mul {n m : Int} {a b : Nat} (h1 : n.natAbs.log2 < a) (h2 : m.natAbs.log2 < b) : (n * m).natAbs.log2 < a + b := by
  have p1 : n.natAbs < 2 ^ a := by
    by_cases hz : n.natAbs = 0
    · rw [hz]; exact Nat.two_pow_pos a
    · exact (Nat.log2_lt hz).mp h1
  have p2 : m.natAbs < 2 ^ b := by
    by_cases hz : m.natAbs = 0
    · rw [hz]; exact Nat.two_pow_pos b
    · exact (Nat.log2_lt hz).mp h2
  have h3 : (n * m).natAbs < 2 ^ (a + b) := by
    rw [Int.natAbs_mul, Nat.pow_add]
    exact Nat.mul_lt_mul_of_lt_of_lt p1 p2
  by_cases hz : (n * m).natAbs = 0
  · rw [hz, Nat.log2_zero]
    have : 0 < a := Nat.lt_of_le_of_lt (Nat.zero_le _) h1
    omega
  · exact (Nat.log2_lt hz).mpr h3
/-- from the pen's inner world to the outer -/
theorem ok_pen {P : Program} {w : World} {K : PySem.W.Frag} {mg : Str → Option Value} {base : Heap} {CX : CXT} {k n : Nat} {f : Addr} {fd : FuncData} {ps : List Str} {p cl : Addr} {psp : PSp Unit} {psq : PSp Pn}
    (h : ∀ cells, FnOk P w K mg base CX k f fd ps (spD (penW p cl cells) K n psq)) (len : ∀ ds st Q R, psp ds st Q R → ds.length = ps.length)
    (hi : ∀ ds u st Q R Q' R', (∀ d st', Q d () → Q' d st') → (∀ x st', R x () → R' x st') → psp ds u Q R → psq ds st Q' R') : FnOk P w K mg base CX k f fd ps (spD (penG p cl) K n psp) :=
  ⟨fun vs H Q E ⟨ds, A', m, st, a, t, mt, _, l, q⟩ => by rw [a.len]; exact len _ _ _ _ q,
   fun A outer s H args us vs Q E hr he hb hv ⟨ds, A', m, st, a, t, mt, ⟨cells, st', W⟩, l, q⟩ =>
    (h cells).run A outer s H args us vs Q E hr he hb hv ⟨ds, A', m, st', a, t, mt, W, l,
      hi _ _ st' _ _ _ _ (fun d st2 z v H' g w2 a2 => z v H' g ⟨cells, st2, w2⟩ a2) (fun x st2 z c dx H' g w2 a2 => z c dx H' g ⟨cells, st2, w2⟩ a2) q⟩⟩

/-! flat data: no tree, no address, each sign of a text a sign -/
def flatL (d : D) : Bool := flatD d && (pd d).canLay0
def okS (s : Str) : Bool := (PyData.str s).canLay0
def flats : List D → Bool
  | [] => true
  | d :: ds => flatL d && flats ds
theorem flats_of : ∀ {xs : List D}, (∀ x ∈ xs, flatL x = true) → flats xs = true
  | [], _ => rfl
  | x :: xs, h => by
    rw [flats, h x (List.mem_cons_self ..), flats_of fun y hy => h y (List.mem_cons_of_mem _ hy)]; rfl
theorem flats_to : ∀ {xs : List D}, flats xs = true → ∀ x ∈ xs, flatL x = true
  | x :: xs, h, y, hy => by
    rw [flats, Bool.and_eq_true] at h
    cases hy with
    | head => exact h.1
    | tail _ m => exact flats_to h.2 y m
theorem flat_plain {d : D} (h : flatL d = true) : plain d = true := by cases d <;> first | rfl | (cases h; done)
theorem flat_depth {d : D} (h : flatD d = true) : PyData.depth (pd d) = 0 := by
  cases d <;> first | (rw [pd]; rfl) | (rw [pd]; simp [PyData.depth]; done) | (cases h; done)
theorem flat_lay {d : D} (h : flatL d = true) : PyData.canLay0 (pd d) = true ∧ PyData.depth (pd d) = 0 := by
  unfold flatL at h
  rw [Bool.and_eq_true] at h
  exact ⟨h.2, flat_depth h.1⟩
theorem plains_flat : ∀ {xs : List D}, flats xs = true → plains xs = true
  | [], _ => by rw [plains]
  | x :: xs, h => by
    rw [flats, Bool.and_eq_true] at h
    rw [plains, flat_plain h.1, plains_flat h.2]; rfl
theorem lay_flat : ∀ {xs : List D}, flats xs = true → PyData.canLayAll0 (pds xs) = true ∧ PyData.depthAll (pds xs) = 0
  | [], _ => by rw [pds]; exact ⟨rfl, rfl⟩
  | x :: xs, h => by
    rw [flats, Bool.and_eq_true] at h
    have h1 := flat_lay h.1
    have h2 := lay_flat h.2
    rw [pds]
    simp [PyData.canLayAll0, PyData.depthAll, h1, h2]
theorem okD_flats {xs : List D} (h : flats xs = true) : okD (.lst xs) = true := by
  unfold okD
  have h2 := lay_flat h
  rw [plain, plains_flat h, pd]
  simp [SeqAt.shaped, PyData.canLay0, PyData.depth, h2]
theorem okD_tups {xs : List D} (h : flats xs = true) : okD (.tup xs) = true := by
  unfold okD
  have h2 := lay_flat h
  rw [plain, plains_flat h, pd]
  simp [SeqAt.shaped, PyData.canLay0, PyData.depth, h2]
theorem eqD_nil' (xs : List D) : eqD (.lst xs) (.lst []) = xs.isEmpty := by
  unfold eqD
  rw [pd, pd, pds]
  cases xs with
  | nil => rw [pds]; simp [PyData.eqv, PyData.eqvAll]
  | cons c cs => rw [pds]; simp [PyData.eqv, PyData.eqvAll]
theorem flatL_str {s : Str} (h : okS s = true) : flatL (.str s) = true := by
  unfold flatL; rw [pd]; exact h
theorem flatL_int (i : Int) : flatL (.int i) = true := by
  unfold flatL; rw [pd]; rfl
theorem flatL_bl (b : Bool) : flatL (.bl b) = true := by
  unfold flatL; rw [pd]; rfl
theorem flats_strs : ∀ {ss : List Str}, (∀ s ∈ ss, okS s = true) → flats (ss.map D.str) = true
  | [], _ => rfl
  | s :: ss, h => by rw [List.map_cons, flats, flats_strs fun x hx => h x (List.mem_cons_of_mem _ hx), flatL_str (h s (List.mem_cons_self ..))]; rfl
theorem flats_ints : ∀ ss : List Int, flats (ss.map D.int) = true
  | [] => rfl
  | s :: ss => by rw [List.map_cons, flats, flats_ints ss, flatL_int]; rfl
theorem eqv_ints : ∀ xs ys : List Int, PyData.eqvAll (xs.map PyData.int) (ys.map PyData.int) = decide (xs = ys)
  | [], [] => by simp [PyData.eqvAll]
  | [], _ :: _ => by simp [PyData.eqvAll]
  | _ :: _, [] => by simp [PyData.eqvAll]
  | a :: r, b :: t => by
    have := eqv_ints r t
    simp [PyData.eqvAll, PyData.eqv, this]
    rfl
theorem eqD_ints (xs ys : List Int) : eqD (.lst (xs.map D.int)) (.lst (ys.map D.int)) = decide (xs = ys) := by
  unfold eqD
  rw [pd, pd, pd_ints, pd_ints, PyData.eqv, eqv_ints]
theorem scal_lst (xs ys : List D) : scalEq (.lst xs) (.lst ys) = none := rfl
/-- x != [] of a list in a slot -/
theorem ne_nilV {ST : Type} {i : Nat} {xs : List D} {ρ : Env} {st : ST} {Q : Bool → Env → ST → Prop} {R : Exn → Env → ST → Prop} (e : slotD ρ i = some (.lst xs)) (f : flats xs = true) (h : Q (!xs.isEmpty) ρ st) : pBinV cNeX i (pFV (pLst pNil)) ρ st Q R := by
  refine ⟨by rw [e]; rfl, Nat.zero_le _, _, e, okD_flats f, okD_flats rfl, ?_⟩
  show Q (!eqD (.lst xs) (.lst [])) ρ st
  rw [eqD_nil']
  exact h
theorem perm_erase {α : Type} : ∀ (l : List α) (j : Nat) (h : j < l.length), (l[j] :: l.eraseIdx j).Perm l
  | x :: l, 0, h => .refl _
  | x :: l, j + 1, h => (List.Perm.swap x (l[j]'(Nat.lt_of_succ_lt_succ h)) _).trans ((perm_erase l j (Nat.lt_of_succ_lt_succ h)).cons x)
theorem map_erase {α β : Type} (f : α → β) : ∀ (l : List α) (j : Nat), (l.map f).eraseIdx j = (l.eraseIdx j).map f
  | [], _ => rfl
  | x :: l, 0 => rfl
  | x :: l, j + 1 => congrArg (f x :: ·) (map_erase f l j)
theorem seq_ix {r : Int} {n : Nat} (r0 : 0 ≤ r) (r1 : r < n) : seqIndex? r n = some r.toNat := by
  have h : ¬ r < 0 := by omega
  simp [seqIndex?, h, r0, r1]
theorem cut_take {α : Type} (xs : List α) (n : Nat) : cutL xs none (some (n : Int)) = xs.take n := by
  unfold cutL
  rw [HT.sIx_nat, HT.sIx_none, List.drop_zero, Nat.sub_zero, Nat.min_def]
  split
  · rfl
  · rw [List.take_of_length_le (Nat.le_refl _), List.take_of_length_le (by omega)]
end PP

set_option Elab.async false
set_option linter.all false
set_option maxRecDepth 100000
set_option maxHeartbeats 1000000
namespace PP
open PySem PySem.Spec PyProof.Rows L2

/-! ### the law's def: its first statement makes the pen -/
theorem pss_ex {X : Cx} {ss : List Stmt} {ι : Type} {t : ι → TS} (h : ∀ i, PSs X ss (t i)) : PSs X ss (fun D σ H => ∃ i, t i D σ H) :=
  ⟨fun pins s σ H D I ⟨i, w⟩ => (h i).run pins s σ H D I w⟩
theorem FnOk.cxAny {P : Program} {w : World} {K : PySem.W.Frag} {mg : Str → Option Value} {base : Heap} {CX' : CXT} {k : Nat} {f : Addr} {fd : FuncData} {ps : List Str} {sp : Sp} (F : FnOk P w K mg base (L2.CX P w) k f fd ps sp)
    (h : ∀ vs H Q E, sp vs H Q E → sp vs H Q fun _ _ _ => False) : FnOk P w K mg base CX' k f fd ps sp :=
  ⟨F.len, fun A outer s H args us vs Q E hr he hb hv hs => codeAny_mono (F.run A outer s H args us vs Q (fun _ _ _ => False) hr he hb hv (h _ _ _ _ hs)) fun r s' z => by
    cases r with
    | ok v => cases v <;> exact z
    | error e => obtain ⟨_, _, _, _, _, _, _, _, _, _, _, _, _, z⟩ := z⟩
end PP

set_option Elab.async false
set_option linter.all false
set_option maxRecDepth 100000
set_option maxHeartbeats 4000000
namespace Q
open PySem PySem.Spec PyProof.Rows L2 PP
/-! ### the text -/
def top (i : Nat) : Stmt := PySem.Challenge.pw_lookuploops_k43_errors.main.body.getD i (.Pass ⟨0, 0, 0, 0⟩)
abbrev st__law_begun_pen : Stmt := top 16
abbrev st__law_draw : Stmt := top 17
abbrev st__law_shuffled : Stmt := top 18
abbrev st__law_new_names : Stmt := top 19
abbrev st__law_new_integer : Stmt := top 20
abbrev st__law_classes : Stmt := top 21
abbrev st__law_numbered : Stmt := top 22
abbrev st__law_texted : Stmt := top 23
abbrev st__law_shown : Stmt := top 24
abbrev st_law : Stmt := top 25
abbrev si_BadTables : Stmt := inClass (top 2) 0
def dx_BadTables : DefX := ⟨"BadTables", "BadTables.__init__", defArgs si_BadTables, defBody si_BadTables, defScope si_BadTables, ["table"]⟩
abbrev si_BadFact : Stmt := inClass (top 3) 0
def dx_BadFact : DefX := ⟨"BadFact", "BadFact.__init__", defArgs si_BadFact, defBody si_BadFact, defScope si_BadFact, ["index"]⟩
abbrev si_BadProgram : Stmt := inClass (top 4) 0
def dx_BadProgram : DefX := ⟨"BadProgram", "BadProgram.__init__", defArgs si_BadProgram, defBody si_BadProgram, defScope si_BadProgram, ["line"]⟩
abbrev si_OtherTables : Stmt := inClass (top 5) 0
def dx_OtherTables : DefX := ⟨"OtherTables", "OtherTables.__init__", defArgs si_OtherTables, defBody si_OtherTables, defScope si_OtherTables, []⟩
abbrev si_NoLine : Stmt := inClass (top 6) 0
def dx_NoLine : DefX := ⟨"NoLine", "NoLine.__init__", defArgs si_NoLine, defBody si_NoLine, defScope si_NoLine, ["line"]⟩
abbrev si_NoKey : Stmt := inClass (top 7) 0
def dx_NoKey : DefX := ⟨"NoKey", "NoKey.__init__", defArgs si_NoKey, defBody si_NoKey, defScope si_NoKey, ["line"]⟩
abbrev si_NoName : Stmt := inClass (top 8) 0
def dx_NoName : DefX := ⟨"NoName", "NoName.__init__", defArgs si_NoName, defBody si_NoName, defScope si_NoName, ["name"]⟩
abbrev si_BadName : Stmt := inClass (top 9) 0
def dx_BadName : DefX := ⟨"BadName", "BadName.__init__", defArgs si_BadName, defBody si_BadName, defScope si_BadName, ["name"]⟩
abbrev si_Taken : Stmt := inClass (top 10) 0
def dx_Taken : DefX := ⟨"Taken", "Taken.__init__", defArgs si_Taken, defBody si_Taken, defScope si_Taken, ["name"]⟩
abbrev si_NotAlike : Stmt := inClass (top 11) 0
def dx_NotAlike : DefX := ⟨"NotAlike", "NotAlike.__init__", defArgs si_NotAlike, defBody si_NotAlike, defScope si_NotAlike, ["name", "tables"]⟩
abbrev si_Rests : Stmt := inClass (top 12) 0
def dx_Rests : DefX := ⟨"Rests", "Rests.__init__", defArgs si_Rests, defBody si_Rests, defScope si_Rests, ["name", "tables"]⟩
abbrev si_BrokenFact : Stmt := inClass (top 13) 0
def dx_BrokenFact : DefX := ⟨"BrokenFact", "BrokenFact.__init__", defArgs si_BrokenFact, defBody si_BrokenFact, defScope si_BrokenFact, ["fact"]⟩
abbrev si_NothingToUndo : Stmt := inClass (top 14) 0
def dx_NothingToUndo : DefX := ⟨"NothingToUndo", "NothingToUndo.__init__", defArgs si_NothingToUndo, defBody si_NothingToUndo, defScope si_NothingToUndo, []⟩
def dd__law_begun_pen : He.DefD := ⟨("_law_begun_pen", none), "_law_begun_pen", "_law_begun_pen", defArgs st__law_begun_pen, defBody st__law_begun_pen, defScope st__law_begun_pen, [], []⟩
def dd__law_draw : He.DefD := ⟨("_law_draw", none), "_law_draw", "_law_draw", defArgs st__law_draw, defBody st__law_draw, defScope st__law_draw, [], []⟩
def dd__law_shuffled : He.DefD := ⟨("_law_shuffled", none), "_law_shuffled", "_law_shuffled", defArgs st__law_shuffled, defBody st__law_shuffled, defScope st__law_shuffled, [], []⟩
def dd__law_new_names : He.DefD := ⟨("_law_new_names", none), "_law_new_names", "_law_new_names", defArgs st__law_new_names, defBody st__law_new_names, defScope st__law_new_names, [], []⟩
def dd__law_new_integer : He.DefD := ⟨("_law_new_integer", none), "_law_new_integer", "_law_new_integer", defArgs st__law_new_integer, defBody st__law_new_integer, defScope st__law_new_integer, [], []⟩
def dd__law_classes : He.DefD := ⟨("_law_classes", none), "_law_classes", "_law_classes", defArgs st__law_classes, defBody st__law_classes, defScope st__law_classes, [], []⟩
def dd__law_numbered : He.DefD := ⟨("_law_numbered", none), "_law_numbered", "_law_numbered", defArgs st__law_numbered, defBody st__law_numbered, defScope st__law_numbered, [], []⟩
def dd__law_texted : He.DefD := ⟨("_law_texted", none), "_law_texted", "_law_texted", defArgs st__law_texted, defBody st__law_texted, defScope st__law_texted, [], []⟩
def dd__law_shown : He.DefD := ⟨("_law_shown", none), "_law_shown", "_law_shown", defArgs st__law_shown, defBody st__law_shown, defScope st__law_shown, [], []⟩
def dd_law : He.DefD := ⟨("law", none), "law", "law", defArgs st_law, defBody st_law, defScope st_law, [], []⟩
def fn : List He.DefD := [dd__law_begun_pen, dd__law_draw, dd__law_shuffled, dd__law_new_names, dd__law_new_integer, dd__law_classes, dd__law_numbered, dd__law_texted, dd__law_shown, dd_law]
def fx : List DefX := [dx_BadTables, dx_BadFact, dx_BadProgram, dx_OtherTables, dx_NoLine, dx_NoKey, dx_NoName, dx_BadName, dx_Taken, dx_NotAlike, dx_Rests, dx_BrokenFact, dx_NothingToUndo]
def kitL : List (Str × Str × Bool) := ([("BadTables", "BadTables", true), ("BadTables", "BadFact", false), ("BadTables", "BadProgram", false), ("BadTables", "OtherTables", false), ("BadTables", "NoLine", false), ("BadTables", "NoKey", false), ("BadTables", "NoName", false), ("BadTables", "BadName", false), ("BadTables", "Taken", false), ("BadTables", "NotAlike", false), ("BadTables", "Rests", false), ("BadTables", "BrokenFact", false), ("BadTables", "NothingToUndo", false), ("BadFact", "BadTables", false), ("BadFact", "BadFact", true), ("BadFact", "BadProgram", false), ("BadFact", "OtherTables", false), ("BadFact", "NoLine", false), ("BadFact", "NoKey", false), ("BadFact", "NoName", false), ("BadFact", "BadName", false), ("BadFact", "Taken", false), ("BadFact", "NotAlike", false), ("BadFact", "Rests", false), ("BadFact", "BrokenFact", false), ("BadFact", "NothingToUndo", false), ("BadProgram", "BadTables", false), ("BadProgram", "BadFact", false), ("BadProgram", "BadProgram", true), ("BadProgram", "OtherTables", false)] : List (Str × Str × Bool)) ++ ([("BadProgram", "NoLine", false), ("BadProgram", "NoKey", false), ("BadProgram", "NoName", false), ("BadProgram", "BadName", false), ("BadProgram", "Taken", false), ("BadProgram", "NotAlike", false), ("BadProgram", "Rests", false), ("BadProgram", "BrokenFact", false), ("BadProgram", "NothingToUndo", false), ("OtherTables", "BadTables", false), ("OtherTables", "BadFact", false), ("OtherTables", "BadProgram", false), ("OtherTables", "OtherTables", true), ("OtherTables", "NoLine", false), ("OtherTables", "NoKey", false), ("OtherTables", "NoName", false), ("OtherTables", "BadName", false), ("OtherTables", "Taken", false), ("OtherTables", "NotAlike", false), ("OtherTables", "Rests", false), ("OtherTables", "BrokenFact", false), ("OtherTables", "NothingToUndo", false), ("NoLine", "BadTables", false), ("NoLine", "BadFact", false), ("NoLine", "BadProgram", false), ("NoLine", "OtherTables", false), ("NoLine", "NoLine", true), ("NoLine", "NoKey", false), ("NoLine", "NoName", false), ("NoLine", "BadName", false)] : List (Str × Str × Bool)) ++ ([("NoLine", "Taken", false), ("NoLine", "NotAlike", false), ("NoLine", "Rests", false), ("NoLine", "BrokenFact", false), ("NoLine", "NothingToUndo", false), ("NoKey", "BadTables", false), ("NoKey", "BadFact", false), ("NoKey", "BadProgram", false), ("NoKey", "OtherTables", false), ("NoKey", "NoLine", false), ("NoKey", "NoKey", true), ("NoKey", "NoName", false), ("NoKey", "BadName", false), ("NoKey", "Taken", false), ("NoKey", "NotAlike", false), ("NoKey", "Rests", false), ("NoKey", "BrokenFact", false), ("NoKey", "NothingToUndo", false), ("NoName", "BadTables", false), ("NoName", "BadFact", false), ("NoName", "BadProgram", false), ("NoName", "OtherTables", false), ("NoName", "NoLine", false), ("NoName", "NoKey", false), ("NoName", "NoName", true), ("NoName", "BadName", false), ("NoName", "Taken", false), ("NoName", "NotAlike", false), ("NoName", "Rests", false), ("NoName", "BrokenFact", false)] : List (Str × Str × Bool)) ++ ([("NoName", "NothingToUndo", false), ("BadName", "BadTables", false), ("BadName", "BadFact", false), ("BadName", "BadProgram", false), ("BadName", "OtherTables", false), ("BadName", "NoLine", false), ("BadName", "NoKey", false), ("BadName", "NoName", false), ("BadName", "BadName", true), ("BadName", "Taken", false), ("BadName", "NotAlike", false), ("BadName", "Rests", false), ("BadName", "BrokenFact", false), ("BadName", "NothingToUndo", false), ("Taken", "BadTables", false), ("Taken", "BadFact", false), ("Taken", "BadProgram", false), ("Taken", "OtherTables", false), ("Taken", "NoLine", false), ("Taken", "NoKey", false), ("Taken", "NoName", false), ("Taken", "BadName", false), ("Taken", "Taken", true), ("Taken", "NotAlike", false), ("Taken", "Rests", false), ("Taken", "BrokenFact", false), ("Taken", "NothingToUndo", false), ("NotAlike", "BadTables", false), ("NotAlike", "BadFact", false), ("NotAlike", "BadProgram", false)] : List (Str × Str × Bool)) ++ ([("NotAlike", "OtherTables", false), ("NotAlike", "NoLine", false), ("NotAlike", "NoKey", false), ("NotAlike", "NoName", false), ("NotAlike", "BadName", false), ("NotAlike", "Taken", false), ("NotAlike", "NotAlike", true), ("NotAlike", "Rests", false), ("NotAlike", "BrokenFact", false), ("NotAlike", "NothingToUndo", false), ("Rests", "BadTables", false), ("Rests", "BadFact", false), ("Rests", "BadProgram", false), ("Rests", "OtherTables", false), ("Rests", "NoLine", false), ("Rests", "NoKey", false), ("Rests", "NoName", false), ("Rests", "BadName", false), ("Rests", "Taken", false), ("Rests", "NotAlike", false), ("Rests", "Rests", true), ("Rests", "BrokenFact", false), ("Rests", "NothingToUndo", false), ("BrokenFact", "BadTables", false), ("BrokenFact", "BadFact", false), ("BrokenFact", "BadProgram", false), ("BrokenFact", "OtherTables", false), ("BrokenFact", "NoLine", false), ("BrokenFact", "NoKey", false), ("BrokenFact", "NoName", false)] : List (Str × Str × Bool)) ++ ([("BrokenFact", "BadName", false), ("BrokenFact", "Taken", false), ("BrokenFact", "NotAlike", false), ("BrokenFact", "Rests", false), ("BrokenFact", "BrokenFact", true), ("BrokenFact", "NothingToUndo", false), ("NothingToUndo", "BadTables", false), ("NothingToUndo", "BadFact", false), ("NothingToUndo", "BadProgram", false), ("NothingToUndo", "OtherTables", false), ("NothingToUndo", "NoLine", false), ("NothingToUndo", "NoKey", false), ("NothingToUndo", "NoName", false), ("NothingToUndo", "BadName", false), ("NothingToUndo", "Taken", false), ("NothingToUndo", "NotAlike", false), ("NothingToUndo", "Rests", false), ("NothingToUndo", "BrokenFact", false), ("NothingToUndo", "NothingToUndo", true), ("LookError", "BadTables", false), ("LookError", "BadFact", false), ("LookError", "BadProgram", false), ("LookError", "OtherTables", false), ("LookError", "NoLine", false), ("LookError", "NoKey", false), ("LookError", "NoName", false), ("LookError", "BadName", false), ("LookError", "Taken", false), ("LookError", "NotAlike", false), ("LookError", "Rests", false)] : List (Str × Str × Bool)) ++ ([("LookError", "BrokenFact", false), ("LookError", "NothingToUndo", false), ("BadTables", "LookError", true), ("BadFact", "LookError", true), ("BadProgram", "LookError", true), ("OtherTables", "LookError", true), ("NoLine", "LookError", true), ("NoKey", "LookError", true), ("NoName", "LookError", true), ("BadName", "LookError", true), ("Taken", "LookError", true), ("NotAlike", "LookError", true), ("Rests", "LookError", true), ("BrokenFact", "LookError", true), ("NothingToUndo", "LookError", true), ("LookError", "LookError", true)] : List (Str × Str × Bool))
def kitT : List (Str × String × Bool) := ([("BadTables", "ValueError", true), ("BadFact", "ValueError", true), ("BadProgram", "ValueError", true), ("OtherTables", "ValueError", true), ("NoLine", "ValueError", true), ("NoKey", "ValueError", true), ("NoName", "ValueError", true), ("BadName", "ValueError", true), ("Taken", "ValueError", true), ("NotAlike", "ValueError", true), ("Rests", "ValueError", true), ("BrokenFact", "ValueError", true), ("NothingToUndo", "ValueError", true), ("LookError", "ValueError", true)] : List (Str × String × Bool))
def fb : List (PySem.W.Frag → Bool) := ([ckGlo "_law_begun_pen", ckGlo "_law_draw", ckGlo "_law_shuffled", ckGlo "_law_new_names", ckGlo "_law_new_integer", ckGlo "_law_classes", ckGlo "_law_numbered", ckGlo "_law_texted", ckGlo "_law_shown", ckGlo "law", ckGlo "LookError", ckExn "LookError", ckFree "ValueError", ckFree "abs", ckFree "int", ckFree "isinstance", ckFree "len", ckFree "list", ckFree "range", ckKits kitL, ckKitsT kitT] : List (PySem.W.Frag → Bool))
def names : List PySem.Str := (["LookError", "BadTables", "BadFact", "BadProgram", "OtherTables", "NoLine", "NoKey", "NoName", "BadName", "Taken", "NotAlike", "Rests", "BrokenFact", "NothingToUndo", "_law_begun_pen", "_law_draw", "_law_shuffled", "_law_new_names", "_law_new_integer", "_law_classes", "_law_numbered", "_law_texted", "_law_shown"] : List PySem.Str)
abbrev R : PySem.W.OpenRow := PySem.W.OpenLaw.row PySem.Challenge.rw_lookuploops_k43_errors
abbrev hk : PySem.W.Hook := hookP 4 "/claim/cut.py" fb fn fx
def ob (s : PySem.W.SharedT) : AlP := obsPG 4 "/claim/cut.py" fb fn fx (HandSHeadRun.getT s)
theorem ob_eq (s : PySem.W.SharedT) : ob s = hk.obs s.abs := obsPG_eq (HandSHeadRun.getT_eq s)
/-! ### the facts by names -/
structure LF (P : Program) (K : PySem.W.Frag) (mg : Str → Option Value) where
  f__law_begun_pen : DefF K mg "_law_begun_pen" st__law_begun_pen
  f__law_draw : DefF K mg "_law_draw" st__law_draw
  f__law_shuffled : DefF K mg "_law_shuffled" st__law_shuffled
  f__law_new_names : DefF K mg "_law_new_names" st__law_new_names
  f__law_new_integer : DefF K mg "_law_new_integer" st__law_new_integer
  f__law_classes : DefF K mg "_law_classes" st__law_classes
  f__law_numbered : DefF K mg "_law_numbered" st__law_numbered
  f__law_texted : DefF K mg "_law_texted" st__law_texted
  f__law_shown : DefF K mg "_law_shown" st__law_shown
  f_law : DefF K mg "law" st_law
  x_BadTables : ExcF P K mg dx_BadTables
  x_BadFact : ExcF P K mg dx_BadFact
  x_BadProgram : ExcF P K mg dx_BadProgram
  x_OtherTables : ExcF P K mg dx_OtherTables
  x_NoLine : ExcF P K mg dx_NoLine
  x_NoKey : ExcF P K mg dx_NoKey
  x_NoName : ExcF P K mg dx_NoName
  x_BadName : ExcF P K mg dx_BadName
  x_Taken : ExcF P K mg dx_Taken
  x_NotAlike : ExcF P K mg dx_NotAlike
  x_Rests : ExcF P K mg dx_Rests
  x_BrokenFact : ExcF P K mg dx_BrokenFact
  x_NothingToUndo : ExcF P K mg dx_NothingToUndo
  e_LookError : ExnF K mg "LookError"
  g_ValueError : mg "ValueError" = none
  g_abs : mg "abs" = none
  g_int : mg "int" = none
  g_isinstance : mg "isinstance" = none
  g_len : mg "len" = none
  g_list : mg "list" = none
  g_range : mg "range" = none
  kc : ∀ t ∈ kitL, PySem.W.kitOne K (.ref (He.ga K t.1)) (.ref (He.ga K t.2.1)) = some t.2.2
  kt : ∀ t ∈ kitT, PySem.W.kitOne K (.ref (He.ga K t.1)) (.type t.2.1) = some t.2.2
theorem lf_of {P : Program} {K : PySem.W.Frag} {h : Heap} {mg : Str → Option Value} (X : K.In h) (G : h.Ns mainGlobals mg) (hfile : ((P.main.file : Str) == ("/claim/cut.py" : Str)) = true) (htop : (P.main.scope.names.lookup ("super" : Str)).isSome = false) (c : SaysP "/claim/cut.py" fb fn fx K) : Nonempty (LF P K mg) := by
  obtain ⟨fd0, F0⟩ := c.def_ 0 (d := dd__law_begun_pen) rfl
  obtain ⟨fd1, F1⟩ := c.def_ 1 (d := dd__law_draw) rfl
  obtain ⟨fd2, F2⟩ := c.def_ 2 (d := dd__law_shuffled) rfl
  obtain ⟨fd3, F3⟩ := c.def_ 3 (d := dd__law_new_names) rfl
  obtain ⟨fd4, F4⟩ := c.def_ 4 (d := dd__law_new_integer) rfl
  obtain ⟨fd5, F5⟩ := c.def_ 5 (d := dd__law_classes) rfl
  obtain ⟨fd6, F6⟩ := c.def_ 6 (d := dd__law_numbered) rfl
  obtain ⟨fd7, F7⟩ := c.def_ 7 (d := dd__law_texted) rfl
  obtain ⟨fd8, F8⟩ := c.def_ 8 (d := dd__law_shown) rfl
  obtain ⟨fd9, F9⟩ := c.def_ 9 (d := dd_law) rfl
  obtain ⟨X0⟩ := c.exc_ (P := P) X G hfile htop 0 (d := dx_BadTables) rfl
  obtain ⟨X1⟩ := c.exc_ (P := P) X G hfile htop 1 (d := dx_BadFact) rfl
  obtain ⟨X2⟩ := c.exc_ (P := P) X G hfile htop 2 (d := dx_BadProgram) rfl
  obtain ⟨X3⟩ := c.exc_ (P := P) X G hfile htop 3 (d := dx_OtherTables) rfl
  obtain ⟨X4⟩ := c.exc_ (P := P) X G hfile htop 4 (d := dx_NoLine) rfl
  obtain ⟨X5⟩ := c.exc_ (P := P) X G hfile htop 5 (d := dx_NoKey) rfl
  obtain ⟨X6⟩ := c.exc_ (P := P) X G hfile htop 6 (d := dx_NoName) rfl
  obtain ⟨X7⟩ := c.exc_ (P := P) X G hfile htop 7 (d := dx_BadName) rfl
  obtain ⟨X8⟩ := c.exc_ (P := P) X G hfile htop 8 (d := dx_Taken) rfl
  obtain ⟨X9⟩ := c.exc_ (P := P) X G hfile htop 9 (d := dx_NotAlike) rfl
  obtain ⟨X10⟩ := c.exc_ (P := P) X G hfile htop 10 (d := dx_Rests) rfl
  obtain ⟨X11⟩ := c.exc_ (P := P) X G hfile htop 11 (d := dx_BrokenFact) rfl
  obtain ⟨X12⟩ := c.exc_ (P := P) X G hfile htop 12 (d := dx_NothingToUndo) rfl
  exact ⟨⟨⟨fd0, F0, ckGlo_ok X G (c.chk 0 rfl)⟩,
    ⟨fd1, F1, ckGlo_ok X G (c.chk 1 rfl)⟩,
    ⟨fd2, F2, ckGlo_ok X G (c.chk 2 rfl)⟩,
    ⟨fd3, F3, ckGlo_ok X G (c.chk 3 rfl)⟩,
    ⟨fd4, F4, ckGlo_ok X G (c.chk 4 rfl)⟩,
    ⟨fd5, F5, ckGlo_ok X G (c.chk 5 rfl)⟩,
    ⟨fd6, F6, ckGlo_ok X G (c.chk 6 rfl)⟩,
    ⟨fd7, F7, ckGlo_ok X G (c.chk 7 rfl)⟩,
    ⟨fd8, F8, ckGlo_ok X G (c.chk 8 rfl)⟩,
    ⟨fd9, F9, ckGlo_ok X G (c.chk 9 rfl)⟩,
    X0,
    X1,
    X2,
    X3,
    X4,
    X5,
    X6,
    X7,
    X8,
    X9,
    X10,
    X11,
    X12,
    ⟨oexB_ok (band (c.chk 11 rfl)).1, (isxB_ok (band (band (c.chk 11 rfl)).2).1).2, (isxB_ok (band (band (c.chk 11 rfl)).2).1).1, (band (band (c.chk 11 rfl)).2).2, ckGlo_ok X G (c.chk 10 rfl)⟩,
    ckFree_ok X G (c.chk 12 rfl),
    ckFree_ok X G (c.chk 13 rfl),
    ckFree_ok X G (c.chk 14 rfl),
    ckFree_ok X G (c.chk 15 rfl),
    ckFree_ok X G (c.chk 16 rfl),
    ckFree_ok X G (c.chk 17 rfl),
    ckFree_ok X G (c.chk 18 rfl),
    ckKits_ok (c.chk 19 rfl),
    ckKitsT_ok (c.chk 20 rfl)⟩⟩
def N__law_begun_pen : List Str := ["_law_script"]
def ps__law_begun_pen : List Str := ["_law_script"]
theorem sc__law_begun_pen : FnScope N__law_begun_pen ps__law_begun_pen (defScope st__law_begun_pen) := ⟨rfl, rfl, rfl, by decide +kernel, rfl, by decide +kernel, by decide +kernel⟩
theorem bd__law_begun_pen {K : PySem.W.Frag} {mg : Str → Option Value} (D : DefF K mg "_law_begun_pen" st__law_begun_pen) : Binds K D.fd ps__law_begun_pen [] := D.F.bindsN fun _ _ _ _ _ _ us hl => match us, hl with | [_], _ => rfl
def N__law_draw : List Str := ["_law_pen", "_law_span", "_law_digit", "_law_turn", "_law_cell", "_law_mixed"]
def ps__law_draw : List Str := ["_law_pen", "_law_span"]
theorem sc__law_draw : FnScope N__law_draw ps__law_draw (defScope st__law_draw) := ⟨rfl, rfl, rfl, by decide +kernel, rfl, by decide +kernel, by decide +kernel⟩
theorem bd__law_draw {K : PySem.W.Frag} {mg : Str → Option Value} (D : DefF K mg "_law_draw" st__law_draw) : Binds K D.fd ps__law_draw [] := D.F.bindsN fun _ _ _ _ _ _ us hl => match us, hl with | [_, _], _ => rfl
def N__law_shuffled : List Str := ["_law_pen", "_law_items", "_law_rest", "_law_found"]
def ps__law_shuffled : List Str := ["_law_pen", "_law_items"]
theorem sc__law_shuffled : FnScope N__law_shuffled ps__law_shuffled (defScope st__law_shuffled) := ⟨rfl, rfl, rfl, by decide +kernel, rfl, by decide +kernel, by decide +kernel⟩
theorem bd__law_shuffled {K : PySem.W.Frag} {mg : Str → Option Value} (D : DefF K mg "_law_shuffled" st__law_shuffled) : Binds K D.fd ps__law_shuffled [] := D.F.bindsN fun _ _ _ _ _ _ us hl => match us, hl with | [_, _], _ => rfl
def N__law_new_names : List Str := ["_law_pen", "_law_many", "_law_found"]
def ps__law_new_names : List Str := ["_law_pen", "_law_many"]
theorem sc__law_new_names : FnScope N__law_new_names ps__law_new_names (defScope st__law_new_names) := ⟨rfl, rfl, rfl, by decide +kernel, rfl, by decide +kernel, by decide +kernel⟩
theorem bd__law_new_names {K : PySem.W.Frag} {mg : Str → Option Value} (D : DefF K mg "_law_new_names" st__law_new_names) : Binds K D.fd ps__law_new_names [] := D.F.bindsN fun _ _ _ _ _ _ us hl => match us, hl with | [_, _], _ => rfl
def N__law_new_integer : List Str := ["_law_pen"]
def ps__law_new_integer : List Str := ["_law_pen"]
theorem sc__law_new_integer : FnScope N__law_new_integer ps__law_new_integer (defScope st__law_new_integer) := ⟨rfl, rfl, rfl, by decide +kernel, rfl, by decide +kernel, by decide +kernel⟩
theorem bd__law_new_integer {K : PySem.W.Frag} {mg : Str → Option Value} (D : DefF K mg "_law_new_integer" st__law_new_integer) : Binds K D.fd ps__law_new_integer [] := D.F.bindsN fun _ _ _ _ _ _ us hl => match us, hl with | [_], _ => rfl
def N__law_classes : List Str := ["_law_e", "_law_found", "_law_k"]
def ps__law_classes : List Str := ["_law_e"]
theorem sc__law_classes : FnScope N__law_classes ps__law_classes (defScope st__law_classes) := ⟨rfl, rfl, rfl, by decide +kernel, rfl, by decide +kernel, by decide +kernel⟩
theorem bd__law_classes {K : PySem.W.Frag} {mg : Str → Option Value} (D : DefF K mg "_law_classes" st__law_classes) : Binds K D.fd ps__law_classes [] := D.F.bindsN fun _ _ _ _ _ _ us hl => match us, hl with | [_], _ => rfl
def N__law_numbered : List Str := ["_law_pen", "_law_one", "_law_two", "_law_facts", "_law_programs", "_law_lines", "_law_keys", "_law_found", "_law_k", "_law_number"]
def ps__law_numbered : List Str := ["_law_pen"]
theorem sc__law_numbered : FnScope N__law_numbered ps__law_numbered (defScope st__law_numbered) := ⟨rfl, rfl, rfl, by decide +kernel, rfl, by decide +kernel, by decide +kernel⟩
theorem bd__law_numbered {K : PySem.W.Frag} {mg : Str → Option Value} (D : DefF K mg "_law_numbered" st__law_numbered) : Binds K D.fd ps__law_numbered [] := D.F.bindsN fun _ _ _ _ _ _ us hl => match us, hl with | [_], _ => rfl
def N__law_texted : List Str := ["_law_pen", "_law_texts", "_law_tables", "_law_names", "_law_text", "_law_bad", "_law_taken", "_law_broken", "_law_found", "_law_k"]
def ps__law_texted : List Str := ["_law_pen"]
theorem sc__law_texted : FnScope N__law_texted ps__law_texted (defScope st__law_texted) := ⟨rfl, rfl, rfl, by decide +kernel, rfl, by decide +kernel, by decide +kernel⟩
theorem bd__law_texted {K : PySem.W.Frag} {mg : Str → Option Value} (D : DefF K mg "_law_texted" st__law_texted) : Binds K D.fd ps__law_texted [] := D.F.bindsN fun _ _ _ _ _ _ us hl => match us, hl with | [_], _ => rfl
def N__law_shown : List Str := ["_law_pen", "_law_names", "_law_found", "_law_rows", "_law_k", "_law_parted", "_law_rests", "_law_due"]
def ps__law_shown : List Str := ["_law_pen"]
theorem sc__law_shown : FnScope N__law_shown ps__law_shown (defScope st__law_shown) := ⟨rfl, rfl, rfl, by decide +kernel, rfl, by decide +kernel, by decide +kernel⟩
theorem bd__law_shown {K : PySem.W.Frag} {mg : Str → Option Value} (D : DefF K mg "_law_shown" st__law_shown) : Binds K D.fd ps__law_shown [] := D.F.bindsN fun _ _ _ _ _ _ us hl => match us, hl with | [_], _ => rfl
def N_law : List Str := ["_law_script", "_law_pen", "_law_turn"]
def ps_law : List Str := ["_law_script"]
theorem sc_law : FnScope N_law ps_law (defScope st_law) := ⟨rfl, rfl, rfl, by decide +kernel, rfl, by decide +kernel, by decide +kernel⟩
theorem bd_law {K : PySem.W.Frag} {mg : Str → Option Value} (D : DefF K mg "law" st_law) : Binds K D.fd ps_law [] := D.F.bindsN fun _ _ _ _ _ _ us hl => match us, hl with | [_], _ => rfl
theorem sx_BadTables : ScX ["self", "table"] ["self", "table"] (defScope si_BadTables) := ⟨rfl, rfl, rfl, by decide +kernel, rfl, by decide +kernel, by decide +kernel, by decide +kernel, by decide +kernel, by decide +kernel⟩
theorem bx_BadTables {P : Program} {K : PySem.W.Frag} {mg : Str → Option Value} (D : ExcF P K mg dx_BadTables) : Binds K D.fd ["self", "table"] [] := by
  obtain ⟨oc, od, kV, doc, pm, an, cda, ct, osl, e, _⟩ := D.fx.ex
  rw [e]
  exact .all fun us hl => match us, hl with | [_, _], _ => rfl
theorem mk_BadTables {P : Program} {w : World} {K : PySem.W.Frag} {mg : Str → Option Value} {base : Heap} (L : LF P K mg) : MkX P w K mg base (He.ga K "BadTables") (dx_BadTables.f K) L.x_BadTables.fd ["self", "table"] ["table"] okText :=
  ⟨L.x_BadTables.o.s.oex, L.x_BadTables.init, L.x_BadTables.ty, fx_f1 L.x_BadTables.fx sx_BadTables rfl rfl (by decide) (by decide) (by decide) (by decide) L.x_BadTables.o (fun _ => ⟨_, rfl⟩), bx_BadTables L.x_BadTables⟩
theorem sx_BadFact : ScX ["self", "index"] ["self", "index"] (defScope si_BadFact) := ⟨rfl, rfl, rfl, by decide +kernel, rfl, by decide +kernel, by decide +kernel, by decide +kernel, by decide +kernel, by decide +kernel⟩
theorem bx_BadFact {P : Program} {K : PySem.W.Frag} {mg : Str → Option Value} (D : ExcF P K mg dx_BadFact) : Binds K D.fd ["self", "index"] [] := by
  obtain ⟨oc, od, kV, doc, pm, an, cda, ct, osl, e, _⟩ := D.fx.ex
  rw [e]
  exact .all fun us hl => match us, hl with | [_, _], _ => rfl
theorem mk_BadFact {P : Program} {w : World} {K : PySem.W.Frag} {mg : Str → Option Value} {base : Heap} (L : LF P K mg) : MkX P w K mg base (He.ga K "BadFact") (dx_BadFact.f K) L.x_BadFact.fd ["self", "index"] ["index"] okText :=
  ⟨L.x_BadFact.o.s.oex, L.x_BadFact.init, L.x_BadFact.ty, fx_f1 L.x_BadFact.fx sx_BadFact rfl rfl (by decide) (by decide) (by decide) (by decide) L.x_BadFact.o (fun _ => ⟨_, rfl⟩), bx_BadFact L.x_BadFact⟩
theorem sx_BadProgram : ScX ["self", "line"] ["self", "line"] (defScope si_BadProgram) := ⟨rfl, rfl, rfl, by decide +kernel, rfl, by decide +kernel, by decide +kernel, by decide +kernel, by decide +kernel, by decide +kernel⟩
theorem bx_BadProgram {P : Program} {K : PySem.W.Frag} {mg : Str → Option Value} (D : ExcF P K mg dx_BadProgram) : Binds K D.fd ["self", "line"] [] := by
  obtain ⟨oc, od, kV, doc, pm, an, cda, ct, osl, e, _⟩ := D.fx.ex
  rw [e]
  exact .all fun us hl => match us, hl with | [_, _], _ => rfl
theorem mk_BadProgram {P : Program} {w : World} {K : PySem.W.Frag} {mg : Str → Option Value} {base : Heap} (L : LF P K mg) : MkX P w K mg base (He.ga K "BadProgram") (dx_BadProgram.f K) L.x_BadProgram.fd ["self", "line"] ["line"] okText :=
  ⟨L.x_BadProgram.o.s.oex, L.x_BadProgram.init, L.x_BadProgram.ty, fx_f1 L.x_BadProgram.fx sx_BadProgram rfl rfl (by decide) (by decide) (by decide) (by decide) L.x_BadProgram.o (fun _ => ⟨_, rfl⟩), bx_BadProgram L.x_BadProgram⟩
theorem sx_OtherTables : ScX ["self"] ["self"] (defScope si_OtherTables) := ⟨rfl, rfl, rfl, by decide +kernel, rfl, by decide +kernel, by decide +kernel, by decide +kernel, by decide +kernel, by decide +kernel⟩
theorem bx_OtherTables {P : Program} {K : PySem.W.Frag} {mg : Str → Option Value} (D : ExcF P K mg dx_OtherTables) : Binds K D.fd ["self"] [] := by
  obtain ⟨oc, od, kV, doc, pm, an, cda, ct, osl, e, _⟩ := D.fx.ex
  rw [e]
  exact .all fun us hl => match us, hl with | [_], _ => rfl
theorem mk_OtherTables {P : Program} {w : World} {K : PySem.W.Frag} {mg : Str → Option Value} {base : Heap} (L : LF P K mg) : MkX P w K mg base (He.ga K "OtherTables") (dx_OtherTables.f K) L.x_OtherTables.fd ["self"] [] okAny :=
  ⟨L.x_OtherTables.o.s.oex, L.x_OtherTables.init, L.x_OtherTables.ty, fx_c0 L.x_OtherTables.fx sx_OtherTables rfl rfl  L.x_OtherTables.o (fun _ => ⟨_, rfl⟩), bx_OtherTables L.x_OtherTables⟩
theorem sx_NoLine : ScX ["self", "line"] ["self", "line"] (defScope si_NoLine) := ⟨rfl, rfl, rfl, by decide +kernel, rfl, by decide +kernel, by decide +kernel, by decide +kernel, by decide +kernel, by decide +kernel⟩
theorem bx_NoLine {P : Program} {K : PySem.W.Frag} {mg : Str → Option Value} (D : ExcF P K mg dx_NoLine) : Binds K D.fd ["self", "line"] [] := by
  obtain ⟨oc, od, kV, doc, pm, an, cda, ct, osl, e, _⟩ := D.fx.ex
  rw [e]
  exact .all fun us hl => match us, hl with | [_, _], _ => rfl
theorem mk_NoLine {P : Program} {w : World} {K : PySem.W.Frag} {mg : Str → Option Value} {base : Heap} (L : LF P K mg) : MkX P w K mg base (He.ga K "NoLine") (dx_NoLine.f K) L.x_NoLine.fd ["self", "line"] ["line"] okAny :=
  ⟨L.x_NoLine.o.s.oex, L.x_NoLine.init, L.x_NoLine.ty, fx_c1 L.x_NoLine.fx sx_NoLine rfl rfl (by decide) (by decide) L.x_NoLine.o (fun _ => ⟨_, rfl⟩), bx_NoLine L.x_NoLine⟩
theorem sx_NoKey : ScX ["self", "line"] ["self", "line"] (defScope si_NoKey) := ⟨rfl, rfl, rfl, by decide +kernel, rfl, by decide +kernel, by decide +kernel, by decide +kernel, by decide +kernel, by decide +kernel⟩
theorem bx_NoKey {P : Program} {K : PySem.W.Frag} {mg : Str → Option Value} (D : ExcF P K mg dx_NoKey) : Binds K D.fd ["self", "line"] [] := by
  obtain ⟨oc, od, kV, doc, pm, an, cda, ct, osl, e, _⟩ := D.fx.ex
  rw [e]
  exact .all fun us hl => match us, hl with | [_, _], _ => rfl
theorem mk_NoKey {P : Program} {w : World} {K : PySem.W.Frag} {mg : Str → Option Value} {base : Heap} (L : LF P K mg) : MkX P w K mg base (He.ga K "NoKey") (dx_NoKey.f K) L.x_NoKey.fd ["self", "line"] ["line"] okAny :=
  ⟨L.x_NoKey.o.s.oex, L.x_NoKey.init, L.x_NoKey.ty, fx_c1 L.x_NoKey.fx sx_NoKey rfl rfl (by decide) (by decide) L.x_NoKey.o (fun _ => ⟨_, rfl⟩), bx_NoKey L.x_NoKey⟩
theorem sx_NoName : ScX ["self", "name"] ["self", "name"] (defScope si_NoName) := ⟨rfl, rfl, rfl, by decide +kernel, rfl, by decide +kernel, by decide +kernel, by decide +kernel, by decide +kernel, by decide +kernel⟩
theorem bx_NoName {P : Program} {K : PySem.W.Frag} {mg : Str → Option Value} (D : ExcF P K mg dx_NoName) : Binds K D.fd ["self", "name"] [] := by
  obtain ⟨oc, od, kV, doc, pm, an, cda, ct, osl, e, _⟩ := D.fx.ex
  rw [e]
  exact .all fun us hl => match us, hl with | [_, _], _ => rfl
theorem mk_NoName {P : Program} {w : World} {K : PySem.W.Frag} {mg : Str → Option Value} {base : Heap} (L : LF P K mg) : MkX P w K mg base (He.ga K "NoName") (dx_NoName.f K) L.x_NoName.fd ["self", "name"] ["name"] okAny :=
  ⟨L.x_NoName.o.s.oex, L.x_NoName.init, L.x_NoName.ty, fx_c1 L.x_NoName.fx sx_NoName rfl rfl (by decide) (by decide) L.x_NoName.o (fun _ => ⟨_, rfl⟩), bx_NoName L.x_NoName⟩
theorem sx_BadName : ScX ["self", "name"] ["self", "name"] (defScope si_BadName) := ⟨rfl, rfl, rfl, by decide +kernel, rfl, by decide +kernel, by decide +kernel, by decide +kernel, by decide +kernel, by decide +kernel⟩
theorem bx_BadName {P : Program} {K : PySem.W.Frag} {mg : Str → Option Value} (D : ExcF P K mg dx_BadName) : Binds K D.fd ["self", "name"] [] := by
  obtain ⟨oc, od, kV, doc, pm, an, cda, ct, osl, e, _⟩ := D.fx.ex
  rw [e]
  exact .all fun us hl => match us, hl with | [_, _], _ => rfl
theorem mk_BadName {P : Program} {w : World} {K : PySem.W.Frag} {mg : Str → Option Value} {base : Heap} (L : LF P K mg) : MkX P w K mg base (He.ga K "BadName") (dx_BadName.f K) L.x_BadName.fd ["self", "name"] ["name"] okAny :=
  ⟨L.x_BadName.o.s.oex, L.x_BadName.init, L.x_BadName.ty, fx_c1 L.x_BadName.fx sx_BadName rfl rfl (by decide) (by decide) L.x_BadName.o (fun _ => ⟨_, rfl⟩), bx_BadName L.x_BadName⟩
theorem sx_Taken : ScX ["self", "name"] ["self", "name"] (defScope si_Taken) := ⟨rfl, rfl, rfl, by decide +kernel, rfl, by decide +kernel, by decide +kernel, by decide +kernel, by decide +kernel, by decide +kernel⟩
theorem bx_Taken {P : Program} {K : PySem.W.Frag} {mg : Str → Option Value} (D : ExcF P K mg dx_Taken) : Binds K D.fd ["self", "name"] [] := by
  obtain ⟨oc, od, kV, doc, pm, an, cda, ct, osl, e, _⟩ := D.fx.ex
  rw [e]
  exact .all fun us hl => match us, hl with | [_, _], _ => rfl
theorem mk_Taken {P : Program} {w : World} {K : PySem.W.Frag} {mg : Str → Option Value} {base : Heap} (L : LF P K mg) : MkX P w K mg base (He.ga K "Taken") (dx_Taken.f K) L.x_Taken.fd ["self", "name"] ["name"] okAny :=
  ⟨L.x_Taken.o.s.oex, L.x_Taken.init, L.x_Taken.ty, fx_c1 L.x_Taken.fx sx_Taken rfl rfl (by decide) (by decide) L.x_Taken.o (fun _ => ⟨_, rfl⟩), bx_Taken L.x_Taken⟩
theorem sx_NotAlike : ScX ["self", "name", "tables"] ["self", "name", "tables"] (defScope si_NotAlike) := ⟨rfl, rfl, rfl, by decide +kernel, rfl, by decide +kernel, by decide +kernel, by decide +kernel, by decide +kernel, by decide +kernel⟩
theorem bx_NotAlike {P : Program} {K : PySem.W.Frag} {mg : Str → Option Value} (D : ExcF P K mg dx_NotAlike) : Binds K D.fd ["self", "name", "tables"] [] := by
  obtain ⟨oc, od, kV, doc, pm, an, cda, ct, osl, e, _⟩ := D.fx.ex
  rw [e]
  exact .all fun us hl => match us, hl with | [_, _, _], _ => rfl
theorem mk_NotAlike {P : Program} {w : World} {K : PySem.W.Frag} {mg : Str → Option Value} {base : Heap} (L : LF P K mg) : MkX P w K mg base (He.ga K "NotAlike") (dx_NotAlike.f K) L.x_NotAlike.fd ["self", "name", "tables"] ["name", "tables"] okAny :=
  ⟨L.x_NotAlike.o.s.oex, L.x_NotAlike.init, L.x_NotAlike.ty, fx_c2 L.x_NotAlike.fx sx_NotAlike rfl rfl (by decide) (by decide) (by decide) (by decide) L.x_NotAlike.o (fun _ => ⟨_, rfl⟩), bx_NotAlike L.x_NotAlike⟩
theorem sx_Rests : ScX ["self", "name", "tables"] ["self", "name", "tables"] (defScope si_Rests) := ⟨rfl, rfl, rfl, by decide +kernel, rfl, by decide +kernel, by decide +kernel, by decide +kernel, by decide +kernel, by decide +kernel⟩
theorem bx_Rests {P : Program} {K : PySem.W.Frag} {mg : Str → Option Value} (D : ExcF P K mg dx_Rests) : Binds K D.fd ["self", "name", "tables"] [] := by
  obtain ⟨oc, od, kV, doc, pm, an, cda, ct, osl, e, _⟩ := D.fx.ex
  rw [e]
  exact .all fun us hl => match us, hl with | [_, _, _], _ => rfl
theorem mk_Rests {P : Program} {w : World} {K : PySem.W.Frag} {mg : Str → Option Value} {base : Heap} (L : LF P K mg) : MkX P w K mg base (He.ga K "Rests") (dx_Rests.f K) L.x_Rests.fd ["self", "name", "tables"] ["name", "tables"] okAny :=
  ⟨L.x_Rests.o.s.oex, L.x_Rests.init, L.x_Rests.ty, fx_c2 L.x_Rests.fx sx_Rests rfl rfl (by decide) (by decide) (by decide) (by decide) L.x_Rests.o (fun _ => ⟨_, rfl⟩), bx_Rests L.x_Rests⟩
theorem sx_BrokenFact : ScX ["self", "fact"] ["self", "fact"] (defScope si_BrokenFact) := ⟨rfl, rfl, rfl, by decide +kernel, rfl, by decide +kernel, by decide +kernel, by decide +kernel, by decide +kernel, by decide +kernel⟩
theorem bx_BrokenFact {P : Program} {K : PySem.W.Frag} {mg : Str → Option Value} (D : ExcF P K mg dx_BrokenFact) : Binds K D.fd ["self", "fact"] [] := by
  obtain ⟨oc, od, kV, doc, pm, an, cda, ct, osl, e, _⟩ := D.fx.ex
  rw [e]
  exact .all fun us hl => match us, hl with | [_, _], _ => rfl
theorem mk_BrokenFact {P : Program} {w : World} {K : PySem.W.Frag} {mg : Str → Option Value} {base : Heap} (L : LF P K mg) : MkX P w K mg base (He.ga K "BrokenFact") (dx_BrokenFact.f K) L.x_BrokenFact.fd ["self", "fact"] ["fact"] okAny :=
  ⟨L.x_BrokenFact.o.s.oex, L.x_BrokenFact.init, L.x_BrokenFact.ty, fx_c1 L.x_BrokenFact.fx sx_BrokenFact rfl rfl (by decide) (by decide) L.x_BrokenFact.o (fun _ => ⟨_, rfl⟩), bx_BrokenFact L.x_BrokenFact⟩
theorem sx_NothingToUndo : ScX ["self"] ["self"] (defScope si_NothingToUndo) := ⟨rfl, rfl, rfl, by decide +kernel, rfl, by decide +kernel, by decide +kernel, by decide +kernel, by decide +kernel, by decide +kernel⟩
theorem bx_NothingToUndo {P : Program} {K : PySem.W.Frag} {mg : Str → Option Value} (D : ExcF P K mg dx_NothingToUndo) : Binds K D.fd ["self"] [] := by
  obtain ⟨oc, od, kV, doc, pm, an, cda, ct, osl, e, _⟩ := D.fx.ex
  rw [e]
  exact .all fun us hl => match us, hl with | [_], _ => rfl
theorem mk_NothingToUndo {P : Program} {w : World} {K : PySem.W.Frag} {mg : Str → Option Value} {base : Heap} (L : LF P K mg) : MkX P w K mg base (He.ga K "NothingToUndo") (dx_NothingToUndo.f K) L.x_NothingToUndo.fd ["self"] [] okAny :=
  ⟨L.x_NothingToUndo.o.s.oex, L.x_NothingToUndo.init, L.x_NothingToUndo.ty, fx_c0 L.x_NothingToUndo.fx sx_NothingToUndo rfl rfl  L.x_NothingToUndo.o (fun _ => ⟨_, rfl⟩), bx_NothingToUndo L.x_NothingToUndo⟩
/-! ### contracts -/
def sp__law_draw (K : PySem.W.Frag) (p cl : Addr) : PSp Unit := fun ds st Q _ => ∃ span : Int, ds = [.ref p, .int span] ∧ 1 ≤ span ∧ span < 2 ^ 240 ∧ ∀ r : Int, 0 ≤ r → r < span → Q (.int r) st
theorem mo__law_draw (K : PySem.W.Frag) (p cl : Addr) : MonoC (sp__law_draw K p cl) := fun ds st Q Q' R R' h k ⟨s, e1, e2, e3, z⟩ => ⟨s, e1, e2, e3, fun r a b => h _ _ (z r a b)⟩
def sp__law_shuffled (K : PySem.W.Frag) (p cl : Addr) : PSp Unit := fun ds st Q _ => ∃ xs : List Str, ds = [.ref p, .lst (xs.map D.str)] ∧ xs.length ≤ 1000 ∧ (∀ s ∈ xs, okS s = true) ∧ ∀ ys : List Str, ys.Perm xs → Q (.lst (ys.map D.str)) st
theorem mo__law_shuffled (K : PySem.W.Frag) (p cl : Addr) : MonoC (sp__law_shuffled K p cl) := fun ds st Q Q' R R' h k ⟨s, e1, e2, e3, z⟩ => ⟨s, e1, e2, e3, fun r a => h _ _ (z r a)⟩
def allNames : List Str := ["p", "q", "a", "b", "x", "y", "k", "key", "tables", "ends", "lasts", "somes", "isnot", "hashes", "own", "abcdefghijkl"]
def sp__law_new_names (K : PySem.W.Frag) (p cl : Addr) : PSp Unit := fun ds st Q _ => ∃ n : Nat, ds = [.ref p, .int n] ∧ n ≤ 16 ∧ ∀ ns : List Str, ns.Nodup → (∀ x ∈ ns, x ∈ allNames) → ns.length = n → Q (.lst (ns.map D.str)) st
theorem mo__law_new_names (K : PySem.W.Frag) (p cl : Addr) : MonoC (sp__law_new_names K p cl) := fun ds st Q Q' R R' h k ⟨s, e1, e2, z⟩ => ⟨s, e1, e2, fun r a b c => h _ _ (z r a b c)⟩
def sp__law_new_integer (K : PySem.W.Frag) (p cl : Addr) : PSp Unit := fun ds st Q _ => ds = [.ref p] ∧ ∀ i : Int, -(10 ^ 20) < i → i < 10 ^ 20 → Q (.int i) st
theorem mo__law_new_integer (K : PySem.W.Frag) (p cl : Addr) : MonoC (sp__law_new_integer K p cl) := fun ds st Q Q' R R' h k ⟨e1, z⟩ => ⟨e1, fun r a b => h _ _ (z r a b)⟩
def clsTab : List (Str × List Int) := [("BadTables", [0]), ("BadFact", [1]), ("BadProgram", [2]), ("OtherTables", [3]), ("NoLine", [4]), ("NoKey", [5]), ("NoName", [6]), ("BadName", [7]), ("Taken", [8]), ("NotAlike", [9]), ("Rests", [10]), ("BrokenFact", [11]), ("NothingToUndo", [12]), ("LookError", [])]
def sp__law_classes (K : PySem.W.Frag) (p cl : Addr) : PSp Unit := fun ds st Q _ => ∃ (c : Str) (fs : List (Str × D)) (ix : List Int), ds = [.exn (He.ga K c) fs] ∧ (c, ix) ∈ clsTab ∧ Q (.lst (ix.map D.int)) st
theorem mo__law_classes (K : PySem.W.Frag) (p cl : Addr) : MonoC (sp__law_classes K p cl) := fun ds st Q Q' R R' h k ⟨c, fs, ix, e1, e2, z⟩ => ⟨c, fs, ix, e1, e2, h _ _ z⟩
def spTrue (p : Addr) : PSp Unit := fun ds st Q _ => ds = [.ref p] ∧ Q (.bl true) st
theorem moTrue (p : Addr) : MonoC (spTrue p) := fun ds st Q Q' R R' h k ⟨e1, z⟩ => ⟨e1, h _ _ z⟩
def sp__law_numbered (K : PySem.W.Frag) (p cl : Addr) : PSp Unit := spTrue p
theorem mo__law_numbered (K : PySem.W.Frag) (p cl : Addr) : MonoC (sp__law_numbered K p cl) := moTrue p
def sp__law_texted (K : PySem.W.Frag) (p cl : Addr) : PSp Unit := spTrue p
theorem mo__law_texted (K : PySem.W.Frag) (p cl : Addr) : MonoC (sp__law_texted K p cl) := moTrue p
def sp__law_shown (K : PySem.W.Frag) (p cl : Addr) : PSp Unit := spTrue p
theorem mo__law_shown (K : PySem.W.Frag) (p cl : Addr) : MonoC (sp__law_shown K p cl) := moTrue p

end Q

set_option Elab.async false
set_option linter.all false
set_option maxRecDepth 100000
set_option maxHeartbeats 4000000
namespace Q
open PySem PySem.Spec PyProof.Rows L2 PP
def P__law_draw_4 (K : PySem.W.Frag) (p cl : Addr) (cells : List Int) : PSx Pn := sSeq (sRet (pVar 2)) sNil
def P__law_draw_3 (K : PySem.W.Frag) (p cl : Addr) (cells : List Int) : PSx Pn := sSeq (sPenSet p 0 (fun st v => ⟨st.turn, v⟩) (fun _ v => 0 ≤ v) (pBin aDiv (pPen p 0 fun st => .int st.left) (pVar 1))) (P__law_draw_4 K p cl cells)
def P__law_draw_2 (K : PySem.W.Frag) (p cl : Addr) (cells : List Int) : PSx Pn := sSeq (sSet 2 (pBin aMod (pCall1 fInt (pPen p 0 fun st => .int st.left)) (pVar 1))) (P__law_draw_3 K p cl cells)
def P__law_draw_9 (K : PySem.W.Frag) (p cl : Addr) (cells : List Int) : PSx Pn := sSeq (sSet 4 (pPenIx p cells 0 (pBin aMod (pCall1 fInt (pVar 3)) (pPen p 0 fun _ => .int cells.length)))) sNil
def P__law_draw_12 (K : PySem.W.Frag) (p cl : Addr) (cells : List Int) : PSx Pn := sSeq (sRet (pBin aMod (pCall1 fInt (pBin aSub (pCall1 fAbs (pVar 4)) (pBin aPow (pC (.int 10)) (pC (.int 18))))) (pVar 1))) sNil
def P__law_draw_11 (K : PySem.W.Frag) (p cl : Addr) (cells : List Int) : PSx Pn := sSeq (sPenSet p 0 (fun st v => ⟨st.turn, v⟩) (fun _ v => 0 ≤ v) (pBin aDiv (pBin aSub (pCall1 fAbs (pVar 4)) (pBin aPow (pC (.int 10)) (pC (.int 18)))) (pVar 1))) (P__law_draw_12 K p cl cells)
def P__law_draw_17 (K : PySem.W.Frag) (p cl : Addr) (cells : List Int) : PSx Pn := sSeq (sRet (pBin aMod (pCall1 fInt (pBin aDiv (pBin aMod (pCall1 fInt (pBin aMul (pVar 5) (pBin aAdd (pVar 5) (pC (.int 58111))))) (pC (.int 4294966943))) (pC (.int 64)))) (pVar 1))) sNil
def P__law_draw_16 (K : PySem.W.Frag) (p cl : Addr) (cells : List Int) : PSx Pn := sSeq (sSet 5 (pBin aMod (pCall1 fInt (pBin aAdd (pBin aAdd (pBin aMul (pVar 5) (pVar 5)) (pBin aMul (pC (.int 30427)) (pVar 5))) (pBin aMul (pC (.int 19)) (pVar 3)))) (pC (.int 4294966981)))) (P__law_draw_17 K p cl cells)
def P__law_draw_15 (K : PySem.W.Frag) (p cl : Addr) (cells : List Int) : PSx Pn := sSeq (sSet 5 (pBin aMod (pCall1 fInt (pBin aMul (pVar 5) (pBin aAdd (pVar 5) (pC (.int 75013))))) (pC (.int 4294966997)))) (P__law_draw_16 K p cl cells)
def P__law_draw_14 (K : PySem.W.Frag) (p cl : Addr) (cells : List Int) : PSx Pn := sSeq (sSet 5 (pBin aMod (pCall1 fInt (pBin aAdd (pBin aAdd (pVar 5) (pBin aMul (pVar 3) (pBin aAdd (pBin aMul (pVar 3) (pC (.int 27919))) (pC (.int 10601))))) (pC (.int 41)))) (pC (.int 4294967029)))) (P__law_draw_15 K p cl cells)
def P__law_draw_13 (K : PySem.W.Frag) (p cl : Addr) (cells : List Int) : PSx Pn := sSeq (sSet 5 (pBin aMul (pBin aMod (pCall1 fInt (pVar 4)) (pC (.int 4294967087))) (pC (.int 48611)))) (P__law_draw_14 K p cl cells)
def P__law_draw_10 (K : PySem.W.Frag) (p cl : Addr) (cells : List Int) : PSx Pn := sSeq (sIf (pAnd (pBin cLt (pVar 3) (pPen p 0 fun _ => .int cells.length)) (pBin cGe (pCall1 fAbs (pVar 4)) (pBin aPow (pC (.int 10)) (pC (.int 18))))) (P__law_draw_11 K p cl cells) sNil) (P__law_draw_13 K p cl cells)
def P__law_draw_8 (K : PySem.W.Frag) (p cl : Addr) (cells : List Int) : PSx Pn := sSeq (sIf (pPenNe p cells 0) (P__law_draw_9 K p cl cells) sNil) (P__law_draw_10 K p cl cells)
def P__law_draw_7 (K : PySem.W.Frag) (p cl : Addr) (cells : List Int) : PSx Pn := sSeq (sSet 4 (pBin aAdd (pBin aMul (pC (.int 61)) (pVar 3)) (pC (.int 13)))) (P__law_draw_8 K p cl cells)
def P__law_draw_6 (K : PySem.W.Frag) (p cl : Addr) (cells : List Int) : PSx Pn := sSeq (sPenSet p 0 (fun st v => ⟨v, st.left⟩) (fun st v => v = st.turn + 1) (pBin aAdd (pVar 3) (pC (.int 1)))) (P__law_draw_7 K p cl cells)
def P__law_draw_5 (K : PySem.W.Frag) (p cl : Addr) (cells : List Int) : PSx Pn := sSeq (sSet 3 (pPen p 0 fun st => .int st.turn)) (P__law_draw_6 K p cl cells)
def P__law_draw_1 (K : PySem.W.Frag) (p cl : Addr) (cells : List Int) : PSx Pn := sSeq (sIf (pBin cGt (pPen p 0 fun st => .int st.left) (pC (.int 0))) (P__law_draw_2 K p cl cells) sNil) (P__law_draw_5 K p cl cells)
abbrev P__law_draw (K : PySem.W.Frag) (p cl : Addr) (cells : List Int) : PSx Pn := (P__law_draw_1 K p cl cells)
def n__law_draw : Nat := 3
theorem wk__law_draw {P : Program} {w : World} {K : PySem.W.Frag} {mg : Str → Option Value} {base : Heap} (L : LF P K mg) (p cl : Addr) (cells : List Int) (cdv : Value) (A : Around) (outer : List PySem.Env) (s : Shared) (H H0 : Hp) (E : XK) (A0 : Addr → Prop) (wx : WX) (hr : Room 0 (A.deeper (envOfC "_law_draw" (defScope st__law_draw) s.heap.objs.size (He.ga K "_law_draw") cdv)))
    (T : Takes (cxOf (L2.CX P w) P w K mg base N__law_draw "_law_draw" (defScope st__law_draw) (He.ga K "_law_draw") cdv A outer s H E) wx) :
    JSs (cxOf (L2.CX P w) P w K mg base N__law_draw "_law_draw" (defScope st__law_draw) (He.ga K "_law_draw") cdv A outer s H E) (⟨penW p cl cells, K, H0, A0, fun _ => False, fun _ => none, fun _ => False, wx⟩ : Bs Pn) (defBody st__law_draw) n__law_draw (P__law_draw K p cl cells) := by
  have c : Ctl (cxOf (L2.CX P w) P w K mg base N__law_draw "_law_draw" (defScope st__law_draw) (He.ga K "_law_draw") cdv A outer s H E) (⟨penW p cl cells, K, H0, A0, fun _ => False, fun _ => none, fun _ => False, wx⟩ : Bs Pn) K 0 := ⟨sc__law_draw.nd, rfl, rfl, rfl, hr, T, rfl⟩
  have po : PassesOwn (model P w) (cxOf (L2.CX P w) P w K mg base N__law_draw "_law_draw" (defScope st__law_draw) (He.ga K "_law_draw") cdv A outer s H E).A (cxOf (L2.CX P w) P w K mg base N__law_draw "_law_draw" (defScope st__law_draw) (He.ga K "_law_draw") cdv A outer s H E).env (cxOf (L2.CX P w) P w K mg base N__law_draw "_law_draw" (defScope st__law_draw) (He.ga K "_law_draw") cdv A outer s H E).xe := passes_of rfl
  have h : JSs (cxOf (L2.CX P w) P w K mg base N__law_draw "_law_draw" (defScope st__law_draw) (He.ga K "_law_draw") cdv A outer s H E) (⟨penW p cl cells, K, H0, A0, fun _ => False, fun _ => none, fun _ => False, wx⟩ : Bs Pn) (defBody st__law_draw) _ _ := (jss_cons (js_if (gt_cmp (cr_gt c) (je_pen (f := fun st => st.left) 0 c (fun _ => pen_left)) (JE.jp je_int)) (jss_cons (js_set 2 (je_mod (je_int1 (je_pen (f := fun st => st.left) 0 c (fun _ => pen_left)).jp (by rfl) L.g_int) (je_var 1)) c.nd)
    (jss_cons (js_penSet (f := fun st v => ⟨st.turn, v⟩) (ok := fun _ v => 0 ≤ v) 0 c (fun _ _ => pen_putL) penL_ok (je_div (je_pen (f := fun st => st.left) 0 c (fun _ => pen_left)) (je_var 1)))
    (jss_cons (js_ret (je_var 2))
    jss_nil))) jss_nil)
    (jss_cons (js_set 3 (je_pen (f := fun st => st.turn) 0 c (fun _ => pen_turn)) c.nd)
    (jss_cons (js_penSet (f := fun st v => ⟨v, st.left⟩) (ok := fun st v => v = st.turn + 1) 0 c (fun _ _ => pen_putT) penT_ok (ge_add c (je_var 3) je_int))
    (jss_cons (js_set 4 (ge_add c (je_mul je_int (je_var 3)) je_int) c.nd)
    (jss_cons (js_if (jt_penNe 0 c) (jss_cons (js_set 4 (je_penIx 0 c (je_mod (je_int1 (je_var 3).jp (by rfl) L.g_int) (je_penLen 0 c (by rfl) L.g_len))) c.nd)
    jss_nil) jss_nil)
    (jss_cons (js_if (jt_w (jw_and (gt_cmp (cr_lt c) (je_var 3) (je_penLen 0 c (by rfl) L.g_len).jp) (jw_and1 (gt_cmp (cr_ge c) (je_abs (je_var 4).jp (by rfl) L.g_abs) (je_pow je_int je_int).jp)))) (jss_cons (js_penSet (f := fun st v => ⟨st.turn, v⟩) (ok := fun _ v => 0 ≤ v) 0 c (fun _ _ => pen_putL) penL_ok (je_div (je_sub (je_abs (je_var 4).jp (by rfl) L.g_abs) (je_pow je_int je_int)) (je_var 1)))
    (jss_cons (js_ret (je_mod (je_int1 (je_sub (je_abs (je_var 4).jp (by rfl) L.g_abs) (je_pow je_int je_int)).jp (by rfl) L.g_int) (je_var 1)))
    jss_nil)) jss_nil)
    (jss_cons (js_set 5 (je_mul (je_mod (je_int1 (je_var 4).jp (by rfl) L.g_int) je_int) je_int) c.nd)
    (jss_cons (js_set 5 (je_mod (je_int1 (ge_add c (ge_add c (je_var 5) (je_mul (je_var 3) (ge_add c (je_mul (je_var 3) je_int) je_int))) je_int).jp (by rfl) L.g_int) je_int) c.nd)
    (jss_cons (js_set 5 (je_mod (je_int1 (je_mul (je_var 5) (ge_add c (je_var 5) je_int)).jp (by rfl) L.g_int) je_int) c.nd)
    (jss_cons (js_set 5 (je_mod (je_int1 (ge_add c (ge_add c (je_mul (je_var 5) (je_var 5)) (je_mul je_int (je_var 5))) (je_mul je_int (je_var 3))).jp (by rfl) L.g_int) je_int) c.nd)
    (jss_cons (js_ret (je_mod (je_int1 (je_div (je_mod (je_int1 (je_mul (je_var 5) (ge_add c (je_var 5) je_int)).jp (by rfl) L.g_int) je_int) je_int).jp (by rfl) L.g_int) (je_var 1)))
    jss_nil)))))))))))
  exact h.le rfl
theorem ok__law_draw_of {P : Program} {w : World} {K : PySem.W.Frag} {mg : Str → Option Value} {base : Heap} (L : LF P K mg) (p cl : Addr) (cells : List Int) {psp : PSp Pn} (len : ∀ ds st Q R, psp ds st Q R → ds.length = ps__law_draw.length) (h : ∀ ds st Q R, psp ds st Q R → P__law_draw K p cl cells { nx := fun _ st' => Q .non st', rt := Q, ex := fun x _ st' => R x st' } (startE N__law_draw ds) st) :
    FnOk P w K mg base (L2.CX P w) 1 (He.ga K "_law_draw") L.f__law_draw.fd ps__law_draw (spD (penW p cl cells) K n__law_draw psp) := fn_pp L.f__law_draw.F sc__law_draw len (fun cdv A outer s H H0 E A0 wx hr T => wk__law_draw L p cl cells cdv A outer s H H0 E A0 wx hr T) h
theorem pl_draw (K : PySem.W.Frag) (p cl : Addr) (cells : List Int) (ds : List D) (st : Pn) (Q : D → Pn → Prop) (R : Exn → Pn → Prop)
    (h : ∃ span : Int, ds = [.ref p, .int span] ∧ 1 ≤ span ∧ span < 2 ^ 240 ∧ ∀ (r : Int) st', 0 ≤ r → r < span → Q (.int r) st') :
    P__law_draw K p cl cells { nx := fun _ st' => Q .non st', rt := Q, ex := fun x _ st' => R x st' } (startE N__law_draw ds) st := by
  obtain ⟨span, rfl, h1, h2, hq⟩ := h
  have h0 : 0 < span := by omega
  have hl : span.natAbs.log2 < 9000 := log_of (by omega) h2 (by decide) (by decide)
  have hm : ∀ (v : Int) st', Q (.int (v % span)) st' := fun v st' => hq _ st' (Int.emod_nonneg _ (by omega)) (Int.emod_lt_of_pos _ h0)
  show P__law_draw_1 K p cl cells _ [.dat (.ref p), .dat (.int span), .un, .un, .un, .un] st
  unfold P__law_draw_1
  simp only [sSeq, sNil, sRet, sRetN, sSet, sSetF, sDrop, sIf, sPar, sAsg, sRaise, sPutD, pBin, pUn, pC, pVar, bindP, retP, pB, pTest, blD, pTru, truD, pNot, pAnd, pOr, pIf, pAndV, pOrV, pCons, pNil, pTup, pLst, pFV, pCall, pCall1, pCallB, pOwn, pBinV, pIxV, pPeek, pMnil, pMdat, pMown, setM, FV.dat, FV.sl, slotD, Sl.data, isL, isD, pAddL, fAddL, aAdd, aI, aSub, aMul, aMod, aDiv, aPow, aNeg, aIx, cEqX, cNeX, cEq, cNe, scalEq, cLt, cLe, cGt, cGe, cOrd, cIsN, cNotN, isNonD, fLen, fInt, fAbs, fList, pSl, slX, pPart, pNoPart, PP.intD, mAppend, mPopAt, mPop, mInsert, List.getElem?_cons_zero, List.getElem?_cons_succ, List.set_cons_zero, List.set_cons_succ, Option.some.injEq, exists_eq_left', Sl.own, Option.isSome_some, if_true, if_false, reduceCtorEq, Bool.false_eq_true, ite_true, ite_false, pPen, true_and]
  intro ok
  split
  · unfold P__law_draw_2 P__law_draw_3 P__law_draw_4
    simp only [sSeq, sNil, sRet, sRetN, sSet, sSetF, sDrop, sIf, sPar, sAsg, sRaise, sPutD, pBin, pUn, pC, pVar, bindP, retP, pB, pTest, blD, pTru, truD, pNot, pAnd, pOr, pIf, pAndV, pOrV, pCons, pNil, pTup, pLst, pFV, pCall, pCall1, pCallB, pOwn, pBinV, pIxV, pPeek, pMnil, pMdat, pMown, setM, FV.dat, FV.sl, slotD, Sl.data, isL, isD, pAddL, fAddL, aAdd, aI, aSub, aMul, aMod, aDiv, aPow, aNeg, aIx, cEqX, cNeX, cEq, cNe, scalEq, cLt, cLe, cGt, cGe, cOrd, cIsN, cNotN, isNonD, fLen, fInt, fAbs, fList, pSl, slX, pPart, pNoPart, PP.intD, mAppend, mPopAt, mPop, mInsert, List.getElem?_cons_zero, List.getElem?_cons_succ, List.set_cons_zero, List.set_cons_succ, Option.some.injEq, exists_eq_left', Sl.own, Option.isSome_some, if_true, if_false, reduceCtorEq, Bool.false_eq_true, ite_true, ite_false, pPen, sPenSet, true_and, CDivW]
    exact fun _ => ⟨h0, fun _ => ⟨⟨h0, hl⟩, _, rfl, Int.ediv_nonneg ok.2.2 (by omega), hm _ _⟩⟩
  · unfold P__law_draw_5 P__law_draw_6
    simp only [sSeq, sNil, sRet, sRetN, sSet, sSetF, sDrop, sIf, sPar, sAsg, sRaise, sPutD, pBin, pUn, pC, pVar, bindP, retP, pB, pTest, blD, pTru, truD, pNot, pAnd, pOr, pIf, pAndV, pOrV, pCons, pNil, pTup, pLst, pFV, pCall, pCall1, pCallB, pOwn, pBinV, pIxV, pPeek, pMnil, pMdat, pMown, setM, FV.dat, FV.sl, slotD, Sl.data, isL, isD, pAddL, fAddL, aAdd, aI, aSub, aMul, aMod, aDiv, aPow, aNeg, aIx, cEqX, cNeX, cEq, cNe, scalEq, cLt, cLe, cGt, cGe, cOrd, cIsN, cNotN, isNonD, fLen, fInt, fAbs, fList, pSl, slX, pPart, pNoPart, PP.intD, mAppend, mPopAt, mPop, mInsert, List.getElem?_cons_zero, List.getElem?_cons_succ, List.set_cons_zero, List.set_cons_succ, Option.some.injEq, exists_eq_left', Sl.own, Option.isSome_some, if_true, if_false, reduceCtorEq, Bool.false_eq_true, ite_true, ite_false, pPen, sPenSet, true_and, CDivW]
    intro _
    refine ⟨_, rfl, rfl, ?_⟩
    obtain ⟨t, l⟩ := st
    obtain ⟨ht0, ht1, hl0⟩ := ok
    have lt := log_le ht0 ht1
    dsimp only at ht0 ht1 hl0 lt ⊢
    have e17 : ∀ (c m : Int) st', 0 ≤ m → m < 4294967296 → P__law_draw_17 K p cl cells { nx := fun x st' => Q D.non st', rt := Q, ex := fun x x_1 st' => R x st' } [Sl.dat (D.ref p), Sl.dat (D.int span), Sl.un, Sl.dat (D.int t), Sl.dat (.int c), Sl.dat (.int m)] st' := by
      intro c m st' m0 m1
      have lm := log_sm m0 m1
      unfold P__law_draw_17
      simp only [sSeq, sNil, sRet, sRetN, sSet, sSetF, sDrop, sIf, sPar, sAsg, sRaise, sPutD, pBin, pUn, pC, pVar, bindP, retP, pB, pTest, blD, pTru, truD, pNot, pAnd, pOr, pIf, pAndV, pOrV, pCons, pNil, pTup, pLst, pFV, pCall, pCall1, pCallB, pOwn, pBinV, pIxV, pPeek, pMnil, pMdat, pMown, setM, FV.dat, FV.sl, slotD, Sl.data, isL, isD, pAddL, fAddL, aAdd, aI, aSub, aMul, aMod, aDiv, aPow, aNeg, aIx, cEqX, cNeX, cEq, cNe, scalEq, cLt, cLe, cGt, cGe, cOrd, cIsN, cNotN, isNonD, fLen, fInt, fAbs, fList, pSl, slX, pPart, pNoPart, PP.intD, mAppend, mPopAt, mPop, mInsert, List.getElem?_cons_zero, List.getElem?_cons_succ, List.set_cons_zero, List.set_cons_succ, Option.some.injEq, exists_eq_left', Sl.own, Option.isSome_some, if_true, if_false, reduceCtorEq, Bool.false_eq_true, ite_true, ite_false, true_and, CMulW, CDivW]
      refine ⟨?_, by decide, ⟨by decide, by have := log_sm (n := 64) (by decide) (by decide); omega⟩, h0, hm _ _⟩
      have := log_of (n := m + 58111) (a := 33) (k := 33) (by omega) (by omega) (by decide) (by decide)
      omega
    have e16 : ∀ (c m : Int) st', 0 ≤ m → m < 4294967296 → P__law_draw_16 K p cl cells { nx := fun x st' => Q D.non st', rt := Q, ex := fun x x_1 st' => R x st' } [Sl.dat (D.ref p), Sl.dat (D.int span), Sl.un, Sl.dat (D.int t), Sl.dat (.int c), Sl.dat (.int m)] st' := by
      intro c m st' m0 m1
      have lm := log_sm m0 m1
      unfold P__law_draw_16
      simp only [sSeq, sNil, sRet, sRetN, sSet, sSetF, sDrop, sIf, sPar, sAsg, sRaise, sPutD, pBin, pUn, pC, pVar, bindP, retP, pB, pTest, blD, pTru, truD, pNot, pAnd, pOr, pIf, pAndV, pOrV, pCons, pNil, pTup, pLst, pFV, pCall, pCall1, pCallB, pOwn, pBinV, pIxV, pPeek, pMnil, pMdat, pMown, setM, FV.dat, FV.sl, slotD, Sl.data, isL, isD, pAddL, fAddL, aAdd, aI, aSub, aMul, aMod, aDiv, aPow, aNeg, aIx, cEqX, cNeX, cEq, cNe, scalEq, cLt, cLe, cGt, cGe, cOrd, cIsN, cNotN, isNonD, fLen, fInt, fAbs, fList, pSl, slX, pPart, pNoPart, PP.intD, mAppend, mPopAt, mPop, mInsert, List.getElem?_cons_zero, List.getElem?_cons_succ, List.set_cons_zero, List.set_cons_succ, Option.some.injEq, exists_eq_left', Sl.own, Option.isSome_some, if_true, if_false, reduceCtorEq, Bool.false_eq_true, ite_true, ite_false, true_and, CMulW, CDivW]
      refine ⟨by omega, ?_, ?_, by decide, ?_⟩
      · have := log_sm (n := 30427) (by decide) (by decide)
        omega
      · have := log_sm (n := 19) (by decide) (by decide)
        omega
      exact e17 _ _ _ (md_sm _ (by decide) (by decide)).1 (md_sm _ (by decide) (by decide)).2
    have e15 : ∀ (c m : Int) st', 0 ≤ m → m < 4294967296 → P__law_draw_15 K p cl cells { nx := fun x st' => Q D.non st', rt := Q, ex := fun x x_1 st' => R x st' } [Sl.dat (D.ref p), Sl.dat (D.int span), Sl.un, Sl.dat (D.int t), Sl.dat (.int c), Sl.dat (.int m)] st' := by
      intro c m st' m0 m1
      have lm := log_sm m0 m1
      unfold P__law_draw_15
      simp only [sSeq, sNil, sRet, sRetN, sSet, sSetF, sDrop, sIf, sPar, sAsg, sRaise, sPutD, pBin, pUn, pC, pVar, bindP, retP, pB, pTest, blD, pTru, truD, pNot, pAnd, pOr, pIf, pAndV, pOrV, pCons, pNil, pTup, pLst, pFV, pCall, pCall1, pCallB, pOwn, pBinV, pIxV, pPeek, pMnil, pMdat, pMown, setM, FV.dat, FV.sl, slotD, Sl.data, isL, isD, pAddL, fAddL, aAdd, aI, aSub, aMul, aMod, aDiv, aPow, aNeg, aIx, cEqX, cNeX, cEq, cNe, scalEq, cLt, cLe, cGt, cGe, cOrd, cIsN, cNotN, isNonD, fLen, fInt, fAbs, fList, pSl, slX, pPart, pNoPart, PP.intD, mAppend, mPopAt, mPop, mInsert, List.getElem?_cons_zero, List.getElem?_cons_succ, List.set_cons_zero, List.set_cons_succ, Option.some.injEq, exists_eq_left', Sl.own, Option.isSome_some, if_true, if_false, reduceCtorEq, Bool.false_eq_true, ite_true, ite_false, true_and, CMulW, CDivW]
      refine ⟨?_, by decide, ?_⟩
      · have := log_of (n := m + 75013) (a := 33) (k := 33) (by omega) (by omega) (by decide) (by decide)
        omega
      exact e16 _ _ _ (md_sm _ (by decide) (by decide)).1 (md_sm _ (by decide) (by decide)).2
    have e14 : ∀ (c m : Int) st', P__law_draw_14 K p cl cells { nx := fun x st' => Q D.non st', rt := Q, ex := fun x x_1 st' => R x st' } [Sl.dat (D.ref p), Sl.dat (D.int span), Sl.un, Sl.dat (D.int t), Sl.dat (.int c), Sl.dat (.int m)] st' := by
      intro c m st'
      unfold P__law_draw_14
      simp only [sSeq, sNil, sRet, sRetN, sSet, sSetF, sDrop, sIf, sPar, sAsg, sRaise, sPutD, pBin, pUn, pC, pVar, bindP, retP, pB, pTest, blD, pTru, truD, pNot, pAnd, pOr, pIf, pAndV, pOrV, pCons, pNil, pTup, pLst, pFV, pCall, pCall1, pCallB, pOwn, pBinV, pIxV, pPeek, pMnil, pMdat, pMown, setM, FV.dat, FV.sl, slotD, Sl.data, isL, isD, pAddL, fAddL, aAdd, aI, aSub, aMul, aMod, aDiv, aPow, aNeg, aIx, cEqX, cNeX, cEq, cNe, scalEq, cLt, cLe, cGt, cGe, cOrd, cIsN, cNotN, isNonD, fLen, fInt, fAbs, fList, pSl, slX, pPart, pNoPart, PP.intD, mAppend, mPopAt, mPop, mInsert, List.getElem?_cons_zero, List.getElem?_cons_succ, List.set_cons_zero, List.set_cons_succ, Option.some.injEq, exists_eq_left', Sl.own, Option.isSome_some, if_true, if_false, reduceCtorEq, Bool.false_eq_true, ite_true, ite_false, true_and, CMulW, CDivW]
      have h27 := log_sm (n := 27919) (by decide) (by decide)
      have q1 := log_mul lt h27
      have q0 : 0 ≤ t * 27919 := Int.mul_nonneg ht0 (by decide)
      have q2 := log_add (k := 332) 10601 q0 q1 (by decide) (by decide) (by decide)
      refine ⟨by omega, by omega, by decide, ?_⟩
      exact e15 _ _ _ (md_sm _ (by decide) (by decide)).1 (md_sm _ (by decide) (by decide)).2
    have end_ : ∀ (c : Int) st', P__law_draw_13 K p cl cells { nx := fun x st' => Q D.non st', rt := Q, ex := fun x x_1 st' => R x st' } [Sl.dat (D.ref p), Sl.dat (D.int span), Sl.un, Sl.dat (D.int t), Sl.dat (.int c), Sl.un] st' := by
      intro c st'
      unfold P__law_draw_13
      simp only [sSeq, sNil, sRet, sRetN, sSet, sSetF, sDrop, sIf, sPar, sAsg, sRaise, sPutD, pBin, pUn, pC, pVar, bindP, retP, pB, pTest, blD, pTru, truD, pNot, pAnd, pOr, pIf, pAndV, pOrV, pCons, pNil, pTup, pLst, pFV, pCall, pCall1, pCallB, pOwn, pBinV, pIxV, pPeek, pMnil, pMdat, pMown, setM, FV.dat, FV.sl, slotD, Sl.data, isL, isD, pAddL, fAddL, aAdd, aI, aSub, aMul, aMod, aDiv, aPow, aNeg, aIx, cEqX, cNeX, cEq, cNe, scalEq, cLt, cLe, cGt, cGe, cOrd, cIsN, cNotN, isNonD, fLen, fInt, fAbs, fList, pSl, slX, pPart, pNoPart, PP.intD, mAppend, mPopAt, mPop, mInsert, List.getElem?_cons_zero, List.getElem?_cons_succ, List.set_cons_zero, List.set_cons_succ, Option.some.injEq, exists_eq_left', Sl.own, Option.isSome_some, if_true, if_false, reduceCtorEq, Bool.false_eq_true, ite_true, ite_false, true_and, CMulW, CDivW]
      refine ⟨by decide, ?_, e14 _ _ _⟩
      have := log_sm (md_sm c (k := 4294967087) (by decide) (by decide)).1 (md_sm c (by decide) (by decide)).2
      have := log_sm (n := 48611) (by decide) (by decide)
      omega
    have fin : ∀ (c : Int) st', P__law_draw_10 K p cl cells { nx := fun x st' => Q D.non st', rt := Q, ex := fun x x_1 st' => R x st' } [Sl.dat (D.ref p), Sl.dat (D.int span), Sl.un, Sl.dat (D.int t), Sl.dat (.int c), Sl.un] st' := by
      intro c st'
      have pw : CPow 10 18 := ⟨by decide, by decide, by decide⟩
      unfold P__law_draw_10
      simp only [sSeq, sNil, sRet, sRetN, sSet, sSetF, sDrop, sIf, sPar, sAsg, sRaise, sPutD, pBin, pUn, pC, pVar, bindP, retP, pB, pTest, blD, pTru, truD, pNot, pAnd, pOr, pIf, pAndV, pOrV, pCons, pNil, pTup, pLst, pFV, pCall, pCall1, pCallB, pOwn, pBinV, pIxV, pPeek, pMnil, pMdat, pMown, setM, FV.dat, FV.sl, slotD, Sl.data, isL, isD, pAddL, fAddL, aAdd, aI, aSub, aMul, aMod, aDiv, aPow, aNeg, aIx, cEqX, cNeX, cEq, cNe, scalEq, cLt, cLe, cGt, cGe, cOrd, cIsN, cNotN, isNonD, fLen, fInt, fAbs, fList, pSl, slX, pPart, pNoPart, PP.intD, mAppend, mPopAt, mPop, mInsert, List.getElem?_cons_zero, List.getElem?_cons_succ, List.set_cons_zero, List.set_cons_succ, Option.some.injEq, exists_eq_left', Sl.own, Option.isSome_some, if_true, if_false, reduceCtorEq, Bool.false_eq_true, ite_true, ite_false, pPen, true_and]
      intro _
      split
      · simp only [sSeq, sNil, sRet, sRetN, sSet, sSetF, sDrop, sIf, sPar, sAsg, sRaise, sPutD, pBin, pUn, pC, pVar, bindP, retP, pB, pTest, blD, pTru, truD, pNot, pAnd, pOr, pIf, pAndV, pOrV, pCons, pNil, pTup, pLst, pFV, pCall, pCall1, pCallB, pOwn, pBinV, pIxV, pPeek, pMnil, pMdat, pMown, setM, FV.dat, FV.sl, slotD, Sl.data, isL, isD, pAddL, fAddL, aAdd, aI, aSub, aMul, aMod, aDiv, aPow, aNeg, aIx, cEqX, cNeX, cEq, cNe, scalEq, cLt, cLe, cGt, cGe, cOrd, cIsN, cNotN, isNonD, fLen, fInt, fAbs, fList, pSl, slX, pPart, pNoPart, PP.intD, mAppend, mPopAt, mPop, mInsert, List.getElem?_cons_zero, List.getElem?_cons_succ, List.set_cons_zero, List.set_cons_succ, Option.some.injEq, exists_eq_left', Sl.own, Option.isSome_some, if_true, if_false, reduceCtorEq, Bool.false_eq_true, ite_true, ite_false, pPen, true_and]
        have tail : ∀ c' : Int, c' = (if c < 0 then -c else c) → 0 ≤ c' → CPow 10 18 ∧ (if decide ((10 : Int) ^ Int.toNat 18 ≤ c') = true then P__law_draw_11 K p cl cells { nx := fun ρ' st' => P__law_draw_13 K p cl cells { nx := fun x st' => Q D.non st', rt := Q, ex := fun x x_1 st' => R x st' } ρ' st', rt := Q, ex := fun x x_1 st' => R x st' } [Sl.dat (D.ref p), Sl.dat (D.int span), Sl.un, Sl.dat (D.int t), Sl.dat (D.int c), Sl.un] st' else P__law_draw_13 K p cl cells { nx := fun x st' => Q D.non st', rt := Q, ex := fun x x_1 st' => R x st' } [Sl.dat (D.ref p), Sl.dat (D.int span), Sl.un, Sl.dat (D.int t), Sl.dat (D.int c), Sl.un] st') := by
         intro c' hc' h0'
         refine ⟨pw, ?_⟩
         split
         · rename_i hge
           have hge' := of_decide_eq_true hge
           unfold P__law_draw_11 P__law_draw_12
           simp only [sSeq, sNil, sRet, sRetN, sSet, sSetF, sDrop, sIf, sPar, sAsg, sRaise, sPutD, pBin, pUn, pC, pVar, bindP, retP, pB, pTest, blD, pTru, truD, pNot, pAnd, pOr, pIf, pAndV, pOrV, pCons, pNil, pTup, pLst, pFV, pCall, pCall1, pCallB, pOwn, pBinV, pIxV, pPeek, pMnil, pMdat, pMown, setM, FV.dat, FV.sl, slotD, Sl.data, isL, isD, pAddL, fAddL, aAdd, aI, aSub, aMul, aMod, aDiv, aPow, aNeg, aIx, cEqX, cNeX, cEq, cNe, scalEq, cLt, cLe, cGt, cGe, cOrd, cIsN, cNotN, isNonD, fLen, fInt, fAbs, fList, pSl, slX, pPart, pNoPart, PP.intD, mAppend, mPopAt, mPop, mInsert, List.getElem?_cons_zero, List.getElem?_cons_succ, List.set_cons_zero, List.set_cons_succ, Option.some.injEq, exists_eq_left', Sl.own, Option.isSome_some, if_true, if_false, reduceCtorEq, Bool.false_eq_true, ite_true, ite_false, pPen, sPenSet, true_and, CDivW]
           rw [← hc']
           refine ⟨pw, ⟨h0, hl⟩, _, rfl, Int.ediv_nonneg (by omega) (by omega), pw, h0, hm _ _⟩
         · exact end_ _ _
        exact tail _ rfl (by split <;> omega)
      · exact end_ _ _
    unfold P__law_draw_7 P__law_draw_8
    simp only [sSeq, sNil, sRet, sRetN, sSet, sSetF, sDrop, sIf, sPar, sAsg, sRaise, sPutD, pBin, pUn, pC, pVar, bindP, retP, pB, pTest, blD, pTru, truD, pNot, pAnd, pOr, pIf, pAndV, pOrV, pCons, pNil, pTup, pLst, pFV, pCall, pCall1, pCallB, pOwn, pBinV, pIxV, pPeek, pMnil, pMdat, pMown, setM, FV.dat, FV.sl, slotD, Sl.data, isL, isD, pAddL, fAddL, aAdd, aI, aSub, aMul, aMod, aDiv, aPow, aNeg, aIx, cEqX, cNeX, cEq, cNe, scalEq, cLt, cLe, cGt, cGe, cOrd, cIsN, cNotN, isNonD, fLen, fInt, fAbs, fList, pSl, slX, pPart, pNoPart, PP.intD, mAppend, mPopAt, mPop, mInsert, List.getElem?_cons_zero, List.getElem?_cons_succ, List.set_cons_zero, List.set_cons_succ, Option.some.injEq, exists_eq_left', Sl.own, Option.isSome_some, if_true, if_false, reduceCtorEq, Bool.false_eq_true, ite_true, ite_false, pPenNe, true_and, CMulW]
    refine ⟨by have := log_sm (n := 61) (by decide) (by decide)
               omega, ?_⟩
    split
    · rename_i hc
      have hc' := of_decide_eq_true hc
      have hlen : 0 < cells.length := List.length_pos_iff.mpr hc'
      unfold P__law_draw_9
      simp only [sSeq, sNil, sRet, sRetN, sSet, sSetF, sDrop, sIf, sPar, sAsg, sRaise, sPutD, pBin, pUn, pC, pVar, bindP, retP, pB, pTest, blD, pTru, truD, pNot, pAnd, pOr, pIf, pAndV, pOrV, pCons, pNil, pTup, pLst, pFV, pCall, pCall1, pCallB, pOwn, pBinV, pIxV, pPeek, pMnil, pMdat, pMown, setM, FV.dat, FV.sl, slotD, Sl.data, isL, isD, pAddL, fAddL, aAdd, aI, aSub, aMul, aMod, aDiv, aPow, aNeg, aIx, cEqX, cNeX, cEq, cNe, scalEq, cLt, cLe, cGt, cGe, cOrd, cIsN, cNotN, isNonD, fLen, fInt, fAbs, fList, pSl, slX, pPart, pNoPart, PP.intD, mAppend, mPopAt, mPop, mInsert, List.getElem?_cons_zero, List.getElem?_cons_succ, List.set_cons_zero, List.set_cons_succ, Option.some.injEq, exists_eq_left', Sl.own, Option.isSome_some, if_true, if_false, reduceCtorEq, Bool.false_eq_true, ite_true, ite_false, pPen, pPenIx, true_and]
      intro _
      have hz : (0 : Int) < (cells.length : Int) := by omega
      have j0 := Int.emod_nonneg t (b := (cells.length : Int)) (by omega)
      have j1 := Int.emod_lt_of_pos t hz
      refine ⟨hz, _, cells[(t % (cells.length : Int)).toNat]'(by omega), rfl, j0, List.getElem?_eq_getElem _, fin _ _⟩
    · exact fin _ _
theorem ok__law_draw {P : Program} {w : World} {K : PySem.W.Frag} {mg : Str → Option Value} {base : Heap} (L : LF P K mg) (p cl : Addr) : FnOk P w K mg base (L2.CX P w) 1 (He.ga K "_law_draw") L.f__law_draw.fd ps__law_draw (spD (penG p cl) K n__law_draw (sp__law_draw K p cl)) :=
  ok_pen (fun cells => ok__law_draw_of (w := w) (base := base) L p cl cells (psp := fun ds st Q R => ∃ span : Int, ds = [.ref p, .int span] ∧ 1 ≤ span ∧ span < 2 ^ 240 ∧ ∀ (r : Int) st', 0 ≤ r → r < span → Q (.int r) st') (fun ds st Q R ⟨_, e, _⟩ => by rw [e]; rfl) (fun ds st Q R h => pl_draw K p cl cells ds st Q R h))
    (fun ds st Q R ⟨_, e, _⟩ => by rw [e]; rfl) fun ds u st Q R Q' R' h1 h2 ⟨s, e, a, b, z⟩ => ⟨s, e, a, b, fun r st' c d => h1 _ _ (z r c d)⟩

def P__law_shuffled_3 (K : PySem.W.Frag) (p cl : Addr) : PSx Unit := sSeq (sDrop (pOwn 3 isL mAppend (pCons (pOwn 2 isL mPopAt (pCons (pCall (sp__law_draw K p cl) [] (pCons (pVar 0) (pCons (pCall1 fLen (pPeek 2)) pNil))) pNil)) pNil))) sNil
def P__law_shuffled_4 (K : PySem.W.Frag) (p cl : Addr) : PSx Unit := sSeq (sRet (pVar 3)) sNil
def P__law_shuffled_2 (K : PySem.W.Frag) (p cl : Addr) : PSx Unit := sSeq (sWhile true 1024 (pBinV cNeX 2 (pFV (pLst pNil))) (P__law_shuffled_3 K p cl)) (P__law_shuffled_4 K p cl)
def P__law_shuffled_1 (K : PySem.W.Frag) (p cl : Addr) : PSx Unit := sSeq (sPar [2, 3] (pMown (pCallB fList (pCons (pVar 1) pNil)) (pMown (pLst pNil) pMnil))) (P__law_shuffled_2 K p cl)
abbrev P__law_shuffled (K : PySem.W.Frag) (p cl : Addr) : PSx Unit := (P__law_shuffled_1 K p cl)
def n__law_shuffled : Nat := 3072
theorem wk__law_shuffled {P : Program} {w : World} {K : PySem.W.Frag} {mg : Str → Option Value} {base : Heap} (L : LF P K mg) (p cl : Addr) (cdv : Value) (A : Around) (outer : List PySem.Env) (s : Shared) (H H0 : Hp) (E : XK) (A0 : Addr → Prop) (wx : WX) (hr : Room 1 (A.deeper (envOfC "_law_shuffled" (defScope st__law_shuffled) s.heap.objs.size (He.ga K "_law_shuffled") cdv)))
    (T : Takes (cxOf (L2.CX P w) P w K mg base N__law_shuffled "_law_shuffled" (defScope st__law_shuffled) (He.ga K "_law_shuffled") cdv A outer s H E) wx) :
    JSs (cxOf (L2.CX P w) P w K mg base N__law_shuffled "_law_shuffled" (defScope st__law_shuffled) (He.ga K "_law_shuffled") cdv A outer s H E) (⟨penG p cl, K, H0, A0, fun _ => False, fun _ => none, fun _ => False, wx⟩ : Bs Unit) (defBody st__law_shuffled) n__law_shuffled (P__law_shuffled K p cl) := by
  have c : Ctl (cxOf (L2.CX P w) P w K mg base N__law_shuffled "_law_shuffled" (defScope st__law_shuffled) (He.ga K "_law_shuffled") cdv A outer s H E) (⟨penG p cl, K, H0, A0, fun _ => False, fun _ => none, fun _ => False, wx⟩ : Bs Unit) K 1 := ⟨sc__law_shuffled.nd, rfl, rfl, rfl, hr, T, rfl⟩
  have po : PassesOwn (model P w) (cxOf (L2.CX P w) P w K mg base N__law_shuffled "_law_shuffled" (defScope st__law_shuffled) (He.ga K "_law_shuffled") cdv A outer s H E).A (cxOf (L2.CX P w) P w K mg base N__law_shuffled "_law_shuffled" (defScope st__law_shuffled) (He.ga K "_law_shuffled") cdv A outer s H E).env (cxOf (L2.CX P w) P w K mg base N__law_shuffled "_law_shuffled" (defScope st__law_shuffled) (He.ga K "_law_shuffled") cdv A outer s H E).xe := passes_of rfl
  have h : JSs (cxOf (L2.CX P w) P w K mg base N__law_shuffled "_law_shuffled" (defScope st__law_shuffled) (He.ga K "_law_shuffled") cdv A outer s H E) (⟨penG p cl, K, H0, A0, fun _ => False, fun _ => none, fun _ => False, wx⟩ : Bs Unit) (defBody st__law_shuffled) _ _ := (jss_cons (js_par (i := 2) (j := 3) c.calm c.nd (jm_own (jf_list c.kk (ja_cons (je_var 1) ja_nil) (by rfl) L.g_list) (fun L' Z' => (jm_own (jf_lst ja_nil) (fun L' Z' => jm_nil)))) (by rfl))
    (jss_cons (js_while true 1024 (fun z => nomatch z) po (gt_cmpV 2 (cr_ne c) (je_f (jf_lst ja_nil)).jp) (jss_cons (js_expr (je_append 3 (ja_cons (je_popAt 2 (ja_cons (je_call c.tk (mo__law_draw K p cl) c.kk (ok__law_draw L p cl) (c.room.mono (by decide)) (by rfl) L.f__law_draw.m L.f__law_draw.F.kp (bd__law_draw L.f__law_draw) .nil (fun _ _ => .nil) (ja_cons (je_var 0) (ja_cons (je_len c.kk (jp_var 2) (by rfl) L.g_len) ja_nil))) ja_nil)) ja_nil)))
    jss_nil))
    (jss_cons (js_ret (je_var 3))
    jss_nil)))
  exact h.le rfl
theorem ok__law_shuffled_of {P : Program} {w : World} {K : PySem.W.Frag} {mg : Str → Option Value} {base : Heap} (L : LF P K mg) (p cl : Addr) {psp : PSp Unit} (len : ∀ ds st Q R, psp ds st Q R → ds.length = ps__law_shuffled.length) (h : ∀ ds st Q R, psp ds st Q R → P__law_shuffled K p cl { nx := fun _ st' => Q .non st', rt := Q, ex := fun x _ st' => R x st' } (startE N__law_shuffled ds) st) :
    FnOk P w K mg base (L2.CX P w) 2 (He.ga K "_law_shuffled") L.f__law_shuffled.fd ps__law_shuffled (spD (penG p cl) K n__law_shuffled psp) := fn_pp L.f__law_shuffled.F sc__law_shuffled len (fun cdv A outer s H H0 E A0 wx hr T => wk__law_shuffled L p cl cdv A outer s H H0 E A0 wx hr T) h
theorem pl_shuffled_body (K : PySem.W.Frag) (p cl : Addr) (xs : D) (u : Unit) (Dd : En Unit) (rs fs : List Str) (h0 : 0 < rs.length) (h1 : rs.length ≤ 1000) (h2 : fs.length ≤ 1000)
    (h : ∀ (j : Nat) (hj : j < rs.length), Dd.nx [.dat (.ref p), .dat xs, .ownL ((rs.eraseIdx j).map D.str), .ownL ((fs ++ [rs[j]]).map D.str)] u) :
    P__law_shuffled_3 K p cl Dd [.dat (.ref p), .dat xs, .ownL (rs.map D.str), .ownL (fs.map D.str)] u := by
  have sz : 2000 ≤ sizeLine := by rw [sizeLine_eq]; decide
  unfold P__law_shuffled_3
  simp only [sSeq, sNil, sRet, sRetN, sSet, sSetF, sDrop, sIf, sPar, sAsg, sRaise, sPutD, pBin, pUn, pC, pVar, bindP, retP, pB, pTest, blD, pTru, truD, pNot, pAnd, pOr, pIf, pAndV, pOrV, pCons, pNil, pTup, pLst, pFV, pCall, pCall1, pCallB, pOwn, pBinV, pIxV, pPeek, pMnil, pMdat, pMown, setM, FV.dat, FV.sl, slotD, Sl.data, isL, isD, pAddL, fAddL, aAdd, aI, aSub, aMul, aMod, aDiv, aPow, aNeg, aIx, cEqX, cNeX, cEq, cNe, scalEq, cLt, cLe, cGt, cGe, cOrd, cIsN, cNotN, isNonD, fLen, fInt, fAbs, fList, pSl, slX, pPart, pNoPart, PP.intD, mAppend, mPopAt, mPop, mInsert, List.getElem?_cons_zero, List.getElem?_cons_succ, List.set_cons_zero, List.set_cons_succ, Option.some.injEq, exists_eq_left', Sl.own, Option.isSome_some, if_true, if_false, reduceCtorEq, Bool.false_eq_true, ite_true, ite_false, true_and, List.length_map]
  refine ⟨rs.length, rfl, by omega, by omega, fun r r0 r1 => ⟨by omega, by omega, r.toNat, .str rs[r.toNat], ?_, ?_, ?_⟩⟩
  · rw [List.length_map]; exact seq_ix r0 r1
  · rw [List.getElem?_map, List.getElem?_eq_getElem (by omega)]; rfl
  · have := h r.toNat (by omega)
    rw [List.map_append] at this
    rw [map_erase]
    exact ⟨by omega, this⟩

theorem pl_shuffled_loop (K : PySem.W.Frag) (p cl : Addr) (xs : D) (u : Unit) (Dd : En Unit) : ∀ (rs fs : List Str), rs.length ≤ 1000 → fs.length + rs.length ≤ 1000 → (∀ s ∈ rs, okS s = true) →
    (∀ ys : List Str, ys.Perm rs → Dd.nx [.dat (.ref p), .dat xs, .ownL [], .ownL ((fs ++ ys).map D.str)] u) →
    whileP (pBinV cNeX 2 (pFV (pLst pNil))) (P__law_shuffled_3 K p cl) Dd (rs.length + 1) [.dat (.ref p), .dat xs, .ownL (rs.map D.str), .ownL (fs.map D.str)] u := by
  intro rs
  generalize hn : rs.length = n
  induction n generalizing rs with
  | zero =>
    intro fs h1 h2 h3 h
    have e : rs = [] := List.eq_nil_of_length_eq_zero hn
    subst e
    unfold whileP
    refine ne_nilV rfl rfl ?_
    have := h [] (List.Perm.refl _)
    rw [List.append_nil] at this
    exact this
  | succ n ih =>
    intro fs h1 h2 h3 h
    unfold whileP
    refine ne_nilV rfl (flats_strs h3) ?_
    have ne : (rs.map D.str).isEmpty = false := by cases rs with
      | nil => cases hn
      | cons _ _ => rfl
    rw [ne]
    refine pl_shuffled_body K p cl xs u _ rs fs (by omega) (by omega) (by omega) fun j hj => ?_
    have hl : (rs.eraseIdx j).length = n := by rw [List.length_eraseIdx, if_pos hj]; omega
    have := ih (rs.eraseIdx j) hl (fs ++ [rs[j]]) (by omega) (by rw [List.length_append, List.length_singleton]; omega) (fun s hs => h3 s (List.mem_of_mem_eraseIdx hs)) (fun ys hp => by
      rw [List.append_assoc]
      exact h ([rs[j]] ++ ys) ((hp.cons rs[j]).trans (perm_erase rs j hj)))
    exact this
theorem pl_shuffled (K : PySem.W.Frag) (p cl : Addr) (ds : List D) (st : Unit) (Q : D → Unit → Prop) (R : Exn → Unit → Prop) (h : sp__law_shuffled K p cl ds st Q R) :
    P__law_shuffled K p cl { nx := fun _ st' => Q .non st', rt := Q, ex := fun x _ st' => R x st' } (startE N__law_shuffled ds) st := by
  obtain ⟨xs, rfl, h1, h2, hq⟩ := h
  show P__law_shuffled_1 K p cl _ [.dat (.ref p), .dat (.lst (xs.map D.str)), .un, .un] st
  unfold P__law_shuffled_1
  simp only [sSeq, sNil, sRet, sRetN, sSet, sSetF, sDrop, sIf, sPar, sAsg, sRaise, sPutD, pBin, pUn, pC, pVar, bindP, retP, pB, pTest, blD, pTru, truD, pNot, pAnd, pOr, pIf, pAndV, pOrV, pCons, pNil, pTup, pLst, pFV, pCall, pCall1, pCallB, pOwn, pBinV, pIxV, pPeek, pMnil, pMdat, pMown, setM, FV.dat, FV.sl, slotD, Sl.data, isL, isD, pAddL, fAddL, aAdd, aI, aSub, aMul, aMod, aDiv, aPow, aNeg, aIx, cEqX, cNeX, cEq, cNe, scalEq, cLt, cLe, cGt, cGe, cOrd, cIsN, cNotN, isNonD, fLen, fInt, fAbs, fList, pSl, slX, pPart, pNoPart, PP.intD, mAppend, mPopAt, mPop, mInsert, List.getElem?_cons_zero, List.getElem?_cons_succ, List.set_cons_zero, List.set_cons_succ, Option.some.injEq, exists_eq_left', Sl.own, Option.isSome_some, if_true, if_false, reduceCtorEq, Bool.false_eq_true, ite_true, ite_false, pCallB]
  refine ⟨by first | omega | exact Nat.zero_le _, rfl, ?_⟩
  show P__law_shuffled_2 K p cl _ [.dat (.ref p), .dat (.lst (xs.map D.str)), .ownL (xs.map D.str), .ownL []] st
  unfold P__law_shuffled_2 sSeq
  refine ⟨xs.length + 1, fun _ => by omega, pl_shuffled_loop K p cl _ _ _ xs [] h1 (by simpa using h1) h2 fun ys hp => ?_⟩
  unfold P__law_shuffled_4
  simp only [sSeq, sNil, sRet, sRetN, sSet, sSetF, sDrop, sIf, sPar, sAsg, sRaise, sPutD, pBin, pUn, pC, pVar, bindP, retP, pB, pTest, blD, pTru, truD, pNot, pAnd, pOr, pIf, pAndV, pOrV, pCons, pNil, pTup, pLst, pFV, pCall, pCall1, pCallB, pOwn, pBinV, pIxV, pPeek, pMnil, pMdat, pMown, setM, FV.dat, FV.sl, slotD, Sl.data, isL, isD, pAddL, fAddL, aAdd, aI, aSub, aMul, aMod, aDiv, aPow, aNeg, aIx, cEqX, cNeX, cEq, cNe, scalEq, cLt, cLe, cGt, cGe, cOrd, cIsN, cNotN, isNonD, fLen, fInt, fAbs, fList, pSl, slX, pPart, pNoPart, PP.intD, mAppend, mPopAt, mPop, mInsert, List.getElem?_cons_zero, List.getElem?_cons_succ, List.set_cons_zero, List.set_cons_succ, Option.some.injEq, exists_eq_left', Sl.own, Option.isSome_some, if_true, if_false, reduceCtorEq, Bool.false_eq_true, ite_true, ite_false, List.nil_append]
  exact hq ys hp
theorem ok__law_shuffled {P : Program} {w : World} {K : PySem.W.Frag} {mg : Str → Option Value} {base : Heap} (L : LF P K mg) (p cl : Addr) : FnOk P w K mg base (L2.CX P w) 2 (He.ga K "_law_shuffled") L.f__law_shuffled.fd ps__law_shuffled (spD (penG p cl) K n__law_shuffled (sp__law_shuffled K p cl)) :=
  ok__law_shuffled_of L p cl (fun ds st Q R ⟨_, e, _⟩ => by rw [e]; rfl) fun ds st Q R h => pl_shuffled K p cl ds st Q R h

def P__law_new_names_2 (K : PySem.W.Frag) (p cl : Addr) : PSx Unit := sSeq (sRet (pSl (pCall (sp__law_shuffled K p cl) [] (pCons (pVar 0) (pCons (pBin aAdd (pVar 2) (pFV (pLst (pCons (pC (.str "abcdefghijkl")) pNil)))) pNil))) pNoPart (pPart (pVar 1)))) sNil
def P__law_new_names_1 (K : PySem.W.Frag) (p cl : Addr) : PSx Unit := sSeq (sSet 2 (pFV (pLst (pCons (pC (.str "p")) (pCons (pC (.str "q")) (pCons (pC (.str "a")) (pCons (pC (.str "b")) (pCons (pC (.str "x")) (pCons (pC (.str "y")) (pCons (pC (.str "k")) (pCons (pC (.str "key")) (pCons (pC (.str "tables")) (pCons (pC (.str "ends")) (pCons (pC (.str "lasts")) (pCons (pC (.str "somes")) (pCons (pC (.str "isnot")) (pCons (pC (.str "hashes")) (pCons (pC (.str "own")) pNil)))))))))))))))))) (P__law_new_names_2 K p cl)
abbrev P__law_new_names (K : PySem.W.Frag) (p cl : Addr) : PSx Unit := (P__law_new_names_1 K p cl)
def n__law_new_names : Nat := 3072
theorem wk__law_new_names {P : Program} {w : World} {K : PySem.W.Frag} {mg : Str → Option Value} {base : Heap} (L : LF P K mg) (p cl : Addr) (cdv : Value) (A : Around) (outer : List PySem.Env) (s : Shared) (H H0 : Hp) (E : XK) (A0 : Addr → Prop) (wx : WX) (hr : Room 2 (A.deeper (envOfC "_law_new_names" (defScope st__law_new_names) s.heap.objs.size (He.ga K "_law_new_names") cdv)))
    (T : Takes (cxOf (L2.CX P w) P w K mg base N__law_new_names "_law_new_names" (defScope st__law_new_names) (He.ga K "_law_new_names") cdv A outer s H E) wx) :
    JSs (cxOf (L2.CX P w) P w K mg base N__law_new_names "_law_new_names" (defScope st__law_new_names) (He.ga K "_law_new_names") cdv A outer s H E) (⟨penG p cl, K, H0, A0, fun _ => False, fun _ => none, fun _ => False, wx⟩ : Bs Unit) (defBody st__law_new_names) n__law_new_names (P__law_new_names K p cl) := by
  have c : Ctl (cxOf (L2.CX P w) P w K mg base N__law_new_names "_law_new_names" (defScope st__law_new_names) (He.ga K "_law_new_names") cdv A outer s H E) (⟨penG p cl, K, H0, A0, fun _ => False, fun _ => none, fun _ => False, wx⟩ : Bs Unit) K 2 := ⟨sc__law_new_names.nd, rfl, rfl, rfl, hr, T, rfl⟩
  have po : PassesOwn (model P w) (cxOf (L2.CX P w) P w K mg base N__law_new_names "_law_new_names" (defScope st__law_new_names) (He.ga K "_law_new_names") cdv A outer s H E).A (cxOf (L2.CX P w) P w K mg base N__law_new_names "_law_new_names" (defScope st__law_new_names) (He.ga K "_law_new_names") cdv A outer s H E).env (cxOf (L2.CX P w) P w K mg base N__law_new_names "_law_new_names" (defScope st__law_new_names) (He.ga K "_law_new_names") cdv A outer s H E).xe := passes_of rfl
  have h : JSs (cxOf (L2.CX P w) P w K mg base N__law_new_names "_law_new_names" (defScope st__law_new_names) (He.ga K "_law_new_names") cdv A outer s H E) (⟨penG p cl, K, H0, A0, fun _ => False, fun _ => none, fun _ => False, wx⟩ : Bs Unit) (defBody st__law_new_names) _ _ := (jss_cons (js_set 2 (je_f (jf_lst (ja_cons je_str (ja_cons je_str (ja_cons je_str (ja_cons je_str (ja_cons je_str (ja_cons je_str (ja_cons je_str (ja_cons je_str (ja_cons je_str (ja_cons je_str (ja_cons je_str (ja_cons je_str (ja_cons je_str (ja_cons je_str (ja_cons je_str ja_nil))))))))))))))))) c.nd)
    (jss_cons (js_ret (je_slice c.kk (je_call c.tk (mo__law_shuffled K p cl) c.kk (ok__law_shuffled L p cl) (c.room.mono (by decide)) (by rfl) L.f__law_shuffled.m L.f__law_shuffled.F.kp (bd__law_shuffled L.f__law_shuffled) .nil (fun _ _ => .nil) (ja_cons (je_var 0) (ja_cons (ge_add c (je_var 2) (je_f (jf_lst (ja_cons je_str ja_nil)))) ja_nil))) jo_none (jo_some (je_var 1))))
    jss_nil))
  exact h.le rfl
theorem ok__law_new_names_of {P : Program} {w : World} {K : PySem.W.Frag} {mg : Str → Option Value} {base : Heap} (L : LF P K mg) (p cl : Addr) {psp : PSp Unit} (len : ∀ ds st Q R, psp ds st Q R → ds.length = ps__law_new_names.length) (h : ∀ ds st Q R, psp ds st Q R → P__law_new_names K p cl { nx := fun _ st' => Q .non st', rt := Q, ex := fun x _ st' => R x st' } (startE N__law_new_names ds) st) :
    FnOk P w K mg base (L2.CX P w) 3 (He.ga K "_law_new_names") L.f__law_new_names.fd ps__law_new_names (spD (penG p cl) K n__law_new_names psp) := fn_pp L.f__law_new_names.F sc__law_new_names len (fun cdv A outer s H H0 E A0 wx hr T => wk__law_new_names L p cl cdv A outer s H H0 E A0 wx hr T) h
theorem nodup_take {α : Type} {xs : List α} (n : Nat) (h : xs.Nodup) : (xs.take n).Nodup := h.sublist (List.take_sublist n xs)
theorem names_ok : ∀ s ∈ allNames, okS s = true := by decide +kernel
theorem pl_new_names (K : PySem.W.Frag) (p cl : Addr) (ds : List D) (st : Unit) (Q : D → Unit → Prop) (R : Exn → Unit → Prop) (h : sp__law_new_names K p cl ds st Q R) :
    P__law_new_names K p cl { nx := fun _ st' => Q .non st', rt := Q, ex := fun x _ st' => R x st' } (startE N__law_new_names ds) st := by
  obtain ⟨n, rfl, hn, hq⟩ := h
  have sz : 2000 ≤ sizeLine := by rw [sizeLine_eq]; decide
  show P__law_new_names_1 K p cl _ [.dat (.ref p), .dat (.int n), .un] st
  unfold P__law_new_names_1 P__law_new_names_2
  simp only [sSeq, sNil, sRet, sRetN, sSet, sSetF, sDrop, sIf, sPar, sAsg, sRaise, sPutD, pBin, pUn, pC, pVar, bindP, retP, pB, pTest, blD, pTru, truD, pNot, pAnd, pOr, pIf, pAndV, pOrV, pCons, pNil, pTup, pLst, pFV, pCall, pCall1, pCallB, pOwn, pBinV, pIxV, pPeek, pMnil, pMdat, pMown, setM, FV.dat, FV.sl, slotD, Sl.data, isL, isD, pAddL, fAddL, aAdd, aI, aSub, aMul, aMod, aDiv, aPow, aNeg, aIx, cEqX, cNeX, cEq, cNe, scalEq, cLt, cLe, cGt, cGe, cOrd, cIsN, cNotN, isNonD, fLen, fInt, fAbs, fList, pSl, slX, pPart, pNoPart, PP.intD, mAppend, mPopAt, mPop, mInsert, List.getElem?_cons_zero, List.getElem?_cons_succ, List.set_cons_zero, List.set_cons_succ, Option.some.injEq, exists_eq_left', Sl.own, Option.isSome_some, if_true, if_false, reduceCtorEq, Bool.false_eq_true, ite_true, ite_false, pCallB]
  refine ⟨Nat.le_trans (by decide) sz, Nat.le_trans (by decide) sz, Nat.le_trans (by decide) sz, allNames, rfl, by decide, names_ok, fun ys hp => ?_⟩
  have e := cut_take (ys.map D.str) n
  have e2 : (ys.map D.str).take n = (ys.take n).map D.str := by rw [List.map_take]
  show Q (D.lst (cutL (ys.map D.str) none (some (n : Int)))) st
  rw [e, e2]
  refine hq _ (nodup_take n (hp.nodup_iff.mpr (by decide +kernel))) (fun x hx => hp.mem_iff.mp (List.mem_of_mem_take hx)) ?_
  rw [List.length_take, hp.length_eq]
  have : allNames.length = 16 := rfl
  omega
theorem ok__law_new_names {P : Program} {w : World} {K : PySem.W.Frag} {mg : Str → Option Value} {base : Heap} (L : LF P K mg) (p cl : Addr) : FnOk P w K mg base (L2.CX P w) 3 (He.ga K "_law_new_names") L.f__law_new_names.fd ps__law_new_names (spD (penG p cl) K n__law_new_names (sp__law_new_names K p cl)) :=
  ok__law_new_names_of L p cl (fun ds st Q R ⟨_, e, _⟩ => by rw [e]; rfl) fun ds st Q R h => pl_new_names K p cl ds st Q R h

def P__law_new_integer_2 (K : PySem.W.Frag) (p cl : Addr) : PSx Unit := sSeq (sRet (pBin aSub (pCall (sp__law_draw K p cl) [] (pCons (pVar 0) (pCons (pC (.int 6)) pNil))) (pC (.int 1)))) sNil
def P__law_new_integer_3 (K : PySem.W.Frag) (p cl : Addr) : PSx Unit := sSeq (sRet (pBin aMul (pBin aIx (pFV (pLst (pCons (pC (.int 1)) (pCons (pUn aNeg (pC (.int 1))) pNil)))) (pCall (sp__law_draw K p cl) [] (pCons (pVar 0) (pCons (pC (.int 2)) pNil)))) (pBin aAdd (pBin aMul (pCall (sp__law_draw K p cl) [] (pCons (pVar 0) (pCons (pBin aPow (pC (.int 10)) (pC (.int 10))) pNil))) (pBin aPow (pC (.int 10)) (pC (.int 9)))) (pCall (sp__law_draw K p cl) [] (pCons (pVar 0) (pCons (pBin aPow (pC (.int 10)) (pC (.int 9))) pNil)))))) sNil
def P__law_new_integer_1 (K : PySem.W.Frag) (p cl : Addr) : PSx Unit := sSeq (sIf (pBin cGt (pCall (sp__law_draw K p cl) [] (pCons (pVar 0) (pCons (pC (.int 8)) pNil))) (pC (.int 0))) (P__law_new_integer_2 K p cl) sNil) (P__law_new_integer_3 K p cl)
abbrev P__law_new_integer (K : PySem.W.Frag) (p cl : Addr) : PSx Unit := (P__law_new_integer_1 K p cl)
def n__law_new_integer : Nat := 15
theorem wk__law_new_integer {P : Program} {w : World} {K : PySem.W.Frag} {mg : Str → Option Value} {base : Heap} (L : LF P K mg) (p cl : Addr) (cdv : Value) (A : Around) (outer : List PySem.Env) (s : Shared) (H H0 : Hp) (E : XK) (A0 : Addr → Prop) (wx : WX) (hr : Room 1 (A.deeper (envOfC "_law_new_integer" (defScope st__law_new_integer) s.heap.objs.size (He.ga K "_law_new_integer") cdv)))
    (T : Takes (cxOf (L2.CX P w) P w K mg base N__law_new_integer "_law_new_integer" (defScope st__law_new_integer) (He.ga K "_law_new_integer") cdv A outer s H E) wx) :
    JSs (cxOf (L2.CX P w) P w K mg base N__law_new_integer "_law_new_integer" (defScope st__law_new_integer) (He.ga K "_law_new_integer") cdv A outer s H E) (⟨penG p cl, K, H0, A0, fun _ => False, fun _ => none, fun _ => False, wx⟩ : Bs Unit) (defBody st__law_new_integer) n__law_new_integer (P__law_new_integer K p cl) := by
  have c : Ctl (cxOf (L2.CX P w) P w K mg base N__law_new_integer "_law_new_integer" (defScope st__law_new_integer) (He.ga K "_law_new_integer") cdv A outer s H E) (⟨penG p cl, K, H0, A0, fun _ => False, fun _ => none, fun _ => False, wx⟩ : Bs Unit) K 1 := ⟨sc__law_new_integer.nd, rfl, rfl, rfl, hr, T, rfl⟩
  have po : PassesOwn (model P w) (cxOf (L2.CX P w) P w K mg base N__law_new_integer "_law_new_integer" (defScope st__law_new_integer) (He.ga K "_law_new_integer") cdv A outer s H E).A (cxOf (L2.CX P w) P w K mg base N__law_new_integer "_law_new_integer" (defScope st__law_new_integer) (He.ga K "_law_new_integer") cdv A outer s H E).env (cxOf (L2.CX P w) P w K mg base N__law_new_integer "_law_new_integer" (defScope st__law_new_integer) (He.ga K "_law_new_integer") cdv A outer s H E).xe := passes_of rfl
  have h : JSs (cxOf (L2.CX P w) P w K mg base N__law_new_integer "_law_new_integer" (defScope st__law_new_integer) (He.ga K "_law_new_integer") cdv A outer s H E) (⟨penG p cl, K, H0, A0, fun _ => False, fun _ => none, fun _ => False, wx⟩ : Bs Unit) (defBody st__law_new_integer) _ _ := (jss_cons (js_if (gt_cmp (cr_gt c) (je_call c.tk (mo__law_draw K p cl) c.kk (ok__law_draw L p cl) (c.room.mono (by decide)) (by rfl) L.f__law_draw.m L.f__law_draw.F.kp (bd__law_draw L.f__law_draw) .nil (fun _ _ => .nil) (ja_cons (je_var 0) (ja_cons je_int ja_nil))) (JE.jp je_int)) (jss_cons (js_ret (je_sub (je_call c.tk (mo__law_draw K p cl) c.kk (ok__law_draw L p cl) (c.room.mono (by decide)) (by rfl) L.f__law_draw.m L.f__law_draw.F.kp (bd__law_draw L.f__law_draw) .nil (fun _ _ => .nil) (ja_cons (je_var 0) (ja_cons je_int ja_nil))) je_int))
    jss_nil) jss_nil)
    (jss_cons (js_ret (je_mul (ge_ix c (je_f (jf_lst (ja_cons je_int (ja_cons (je_neg je_int) ja_nil)))) (je_call c.tk (mo__law_draw K p cl) c.kk (ok__law_draw L p cl) (c.room.mono (by decide)) (by rfl) L.f__law_draw.m L.f__law_draw.F.kp (bd__law_draw L.f__law_draw) .nil (fun _ _ => .nil) (ja_cons (je_var 0) (ja_cons je_int ja_nil)))) (ge_add c (je_mul (je_call c.tk (mo__law_draw K p cl) c.kk (ok__law_draw L p cl) (c.room.mono (by decide)) (by rfl) L.f__law_draw.m L.f__law_draw.F.kp (bd__law_draw L.f__law_draw) .nil (fun _ _ => .nil) (ja_cons (je_var 0) (ja_cons (je_pow je_int je_int) ja_nil))) (je_pow je_int je_int)) (je_call c.tk (mo__law_draw K p cl) c.kk (ok__law_draw L p cl) (c.room.mono (by decide)) (by rfl) L.f__law_draw.m L.f__law_draw.F.kp (bd__law_draw L.f__law_draw) .nil (fun _ _ => .nil) (ja_cons (je_var 0) (ja_cons (je_pow je_int je_int) ja_nil))))))
    jss_nil))
  exact h.le rfl
theorem ok__law_new_integer_of {P : Program} {w : World} {K : PySem.W.Frag} {mg : Str → Option Value} {base : Heap} (L : LF P K mg) (p cl : Addr) {psp : PSp Unit} (len : ∀ ds st Q R, psp ds st Q R → ds.length = ps__law_new_integer.length) (h : ∀ ds st Q R, psp ds st Q R → P__law_new_integer K p cl { nx := fun _ st' => Q .non st', rt := Q, ex := fun x _ st' => R x st' } (startE N__law_new_integer ds) st) :
    FnOk P w K mg base (L2.CX P w) 2 (He.ga K "_law_new_integer") L.f__law_new_integer.fd ps__law_new_integer (spD (penG p cl) K n__law_new_integer psp) := fn_pp L.f__law_new_integer.F sc__law_new_integer len (fun cdv A outer s H H0 E A0 wx hr T => wk__law_new_integer L p cl cdv A outer s H H0 E A0 wx hr T) h

theorem pl_new_integer (K : PySem.W.Frag) (p cl : Addr) (ds : List D) (st : Unit) (Q : D → Unit → Prop) (R : Exn → Unit → Prop) (h : sp__law_new_integer K p cl ds st Q R) :
    P__law_new_integer K p cl { nx := fun _ st' => Q .non st', rt := Q, ex := fun x _ st' => R x st' } (startE N__law_new_integer ds) st := by
  obtain ⟨rfl, hq⟩ := h
  have sz : 2000 ≤ sizeLine := by rw [sizeLine_eq]; decide
  show P__law_new_integer_1 K p cl _ [.dat (.ref p)] st
  unfold P__law_new_integer_1
  simp only [sSeq, sNil, sRet, sRetN, sSet, sSetF, sDrop, sIf, sPar, sAsg, sRaise, sPutD, pBin, pUn, pC, pVar, bindP, retP, pB, pTest, blD, pTru, truD, pNot, pAnd, pOr, pIf, pAndV, pOrV, pCons, pNil, pTup, pLst, pFV, pCall, pCall1, pCallB, pOwn, pBinV, pIxV, pPeek, pMnil, pMdat, pMown, setM, FV.dat, FV.sl, slotD, Sl.data, isL, isD, pAddL, fAddL, aAdd, aI, aSub, aMul, aMod, aDiv, aPow, aNeg, aIx, cEqX, cNeX, cEq, cNe, scalEq, cLt, cLe, cGt, cGe, cOrd, cIsN, cNotN, isNonD, fLen, fInt, fAbs, fList, pSl, slX, pPart, pNoPart, PP.intD, mAppend, mPopAt, mPop, mInsert, List.getElem?_cons_zero, List.getElem?_cons_succ, List.set_cons_zero, List.set_cons_succ, Option.some.injEq, exists_eq_left', Sl.own, Option.isSome_some, if_true, if_false, reduceCtorEq, Bool.false_eq_true, ite_true, ite_false, pCallB]
  refine ⟨8, rfl, by omega, by omega, fun r r0 r1 => ?_⟩
  dsimp only
  split
  · unfold P__law_new_integer_2
    simp only [sSeq, sNil, sRet, sRetN, sSet, sSetF, sDrop, sIf, sPar, sAsg, sRaise, sPutD, pBin, pUn, pC, pVar, bindP, retP, pB, pTest, blD, pTru, truD, pNot, pAnd, pOr, pIf, pAndV, pOrV, pCons, pNil, pTup, pLst, pFV, pCall, pCall1, pCallB, pOwn, pBinV, pIxV, pPeek, pMnil, pMdat, pMown, setM, FV.dat, FV.sl, slotD, Sl.data, isL, isD, pAddL, fAddL, aAdd, aI, aSub, aMul, aMod, aDiv, aPow, aNeg, aIx, cEqX, cNeX, cEq, cNe, scalEq, cLt, cLe, cGt, cGe, cOrd, cIsN, cNotN, isNonD, fLen, fInt, fAbs, fList, pSl, slX, pPart, pNoPart, PP.intD, mAppend, mPopAt, mPop, mInsert, List.getElem?_cons_zero, List.getElem?_cons_succ, List.set_cons_zero, List.set_cons_succ, Option.some.injEq, exists_eq_left', Sl.own, Option.isSome_some, if_true, if_false, reduceCtorEq, Bool.false_eq_true, ite_true, ite_false, pCallB]
    refine ⟨6, rfl, by omega, by omega, fun r r0 r1 => ?_⟩
    exact ⟨trivial, hq (r - 1) (by omega) (by omega)⟩
  · unfold P__law_new_integer_3
    simp only [sSeq, sNil, sRet, sRetN, sSet, sSetF, sDrop, sIf, sPar, sAsg, sRaise, sPutD, pBin, pUn, pC, pVar, bindP, retP, pB, pTest, blD, pTru, truD, pNot, pAnd, pOr, pIf, pAndV, pOrV, pCons, pNil, pTup, pLst, pFV, pCall, pCall1, pCallB, pOwn, pBinV, pIxV, pPeek, pMnil, pMdat, pMown, setM, FV.dat, FV.sl, slotD, Sl.data, isL, isD, pAddL, fAddL, aAdd, aI, aSub, aMul, aMod, aDiv, aPow, aNeg, aIx, cEqX, cNeX, cEq, cNe, scalEq, cLt, cLe, cGt, cGe, cOrd, cIsN, cNotN, isNonD, fLen, fInt, fAbs, fList, pSl, slX, pPart, pNoPart, PP.intD, mAppend, mPopAt, mPop, mInsert, List.getElem?_cons_zero, List.getElem?_cons_succ, List.set_cons_zero, List.set_cons_succ, Option.some.injEq, exists_eq_left', Sl.own, Option.isSome_some, if_true, if_false, reduceCtorEq, Bool.false_eq_true, ite_true, ite_false, pCallB]
    have p9 : CPow 10 9 := ⟨by decide, by decide, by decide⟩
    have p10 : CPow 10 10 := ⟨by decide, by decide, by decide⟩
    refine ⟨Nat.le_trans (by decide) sz, 2, rfl, by omega, by omega, fun s s0 s1 => ?_⟩
    have hs : ∃ e : Int, (e = 1 ∨ e = -1) ∧ atI [D.int 1, D.int (-1)] s = some (.int e) := by
      rcases (show s = 0 ∨ s = 1 by omega) with rfl | rfl
      · exact ⟨1, .inl rfl, rfl⟩
      · exact ⟨-1, .inr rfl, rfl⟩
    obtain ⟨e, he, hat⟩ := hs
    refine ⟨.int e, hat, p10, 10 ^ 10, rfl, by omega, by omega, fun a a0 a1 => ⟨p9, ?_, p9, 10 ^ 9, rfl, by omega, by omega, fun b b0 b1 => ?_⟩⟩
    · have h1 := log_of (n := a) (a := 34) (k := 34) a0 (by omega) (by decide) (by decide)
      have h2 := log_of (n := 10 ^ 9) (a := 34) (k := 34) (by decide) (by decide) (by decide) (by decide)
      show a.natAbs.log2 + ((10 : Int) ^ 9).natAbs.log2 < 1000000
      omega
    · have hv : 0 ≤ a * 10 ^ 9 + b ∧ a * 10 ^ 9 + b < 10 ^ 20 := by omega
      refine ⟨?_, ?_⟩
      · have h1 := log_of (n := a * 10 ^ 9 + b) (a := 70) (k := 70) hv.1 (by omega) (by decide) (by decide)
        have h2 : e.natAbs.log2 = 0 := by rcases he with rfl | rfl <;> decide +kernel
        show e.natAbs.log2 + (a * 10 ^ 9 + b).natAbs.log2 < 1000000
        omega
      · show Q (D.int (e * (a * 10 ^ 9 + b))) st
        rcases he with rfl | rfl
        · exact hq _ (by omega) (by omega)
        · exact hq _ (by omega) (by omega)
theorem ok__law_new_integer {P : Program} {w : World} {K : PySem.W.Frag} {mg : Str → Option Value} {base : Heap} (L : LF P K mg) (p cl : Addr) : FnOk P w K mg base (L2.CX P w) 2 (He.ga K "_law_new_integer") L.f__law_new_integer.fd ps__law_new_integer (spD (penG p cl) K n__law_new_integer (sp__law_new_integer K p cl)) :=
  ok__law_new_integer_of L p cl (fun ds st Q R ⟨e, _⟩ => by rw [e]; rfl) fun ds st Q R h => pl_new_integer K p cl ds st Q R h

def P__law_classes_6 (K : PySem.W.Frag) (p cl : Addr) : PSx Unit := sSeq (sRet (pFV (pLst pNil))) sNil
def P__law_classes_7 (K : PySem.W.Frag) (p cl : Addr) : PSx Unit := sSeq (sRet (pFV (pLc false 0 (bindP (pCons (pC (.int 13)) pNil) fun ds => retP (rangeD ds)) (gN 2) (pTest (pIxV 1 (pVar 2))) (pVar 2) [2]))) sNil
def P__law_classes_5 (K : PySem.W.Frag) (p cl : Addr) : PSx Unit := sSeq (sIf (pOr (pNot (pTest (pCallB (fIsi K) (pCons (pVar 0) (pCons (pC (.ref (He.ga K "LookError"))) pNil))))) (pNot (pTest (pCallB (fIsi K) (pCons (pVar 0) (pCons (pC (.ty "ValueError")) pNil)))))) (P__law_classes_6 K p cl) sNil) (P__law_classes_7 K p cl)
def P__law_classes_4 (K : PySem.W.Frag) (p cl : Addr) : PSx Unit := sSeq (sDrop (pOwn 1 isL mAppend (pCons (pCallB (fIsi K) (pCons (pVar 0) (pCons (pC (.ref (He.ga K "NothingToUndo"))) pNil))) pNil))) (P__law_classes_5 K p cl)
def P__law_classes_3 (K : PySem.W.Frag) (p cl : Addr) : PSx Unit := sSeq (sSetF 1 (pAddL (pVar 1) (pFV (pLst (pCons (pCallB (fIsi K) (pCons (pVar 0) (pCons (pC (.ref (He.ga K "Taken"))) pNil))) (pCons (pCallB (fIsi K) (pCons (pVar 0) (pCons (pC (.ref (He.ga K "NotAlike"))) pNil))) (pCons (pCallB (fIsi K) (pCons (pVar 0) (pCons (pC (.ref (He.ga K "Rests"))) pNil))) (pCons (pCallB (fIsi K) (pCons (pVar 0) (pCons (pC (.ref (He.ga K "BrokenFact"))) pNil))) pNil)))))))) (P__law_classes_4 K p cl)
def P__law_classes_2 (K : PySem.W.Frag) (p cl : Addr) : PSx Unit := sSeq (sSetF 1 (pAddL (pVar 1) (pFV (pLst (pCons (pCallB (fIsi K) (pCons (pVar 0) (pCons (pC (.ref (He.ga K "NoLine"))) pNil))) (pCons (pCallB (fIsi K) (pCons (pVar 0) (pCons (pC (.ref (He.ga K "NoKey"))) pNil))) (pCons (pCallB (fIsi K) (pCons (pVar 0) (pCons (pC (.ref (He.ga K "NoName"))) pNil))) (pCons (pCallB (fIsi K) (pCons (pVar 0) (pCons (pC (.ref (He.ga K "BadName"))) pNil))) pNil)))))))) (P__law_classes_3 K p cl)
def P__law_classes_1 (K : PySem.W.Frag) (p cl : Addr) : PSx Unit := sSeq (sSetF 1 (pLst (pCons (pCallB (fIsi K) (pCons (pVar 0) (pCons (pC (.ref (He.ga K "BadTables"))) pNil))) (pCons (pCallB (fIsi K) (pCons (pVar 0) (pCons (pC (.ref (He.ga K "BadFact"))) pNil))) (pCons (pCallB (fIsi K) (pCons (pVar 0) (pCons (pC (.ref (He.ga K "BadProgram"))) pNil))) (pCons (pCallB (fIsi K) (pCons (pVar 0) (pCons (pC (.ref (He.ga K "OtherTables"))) pNil))) pNil)))))) (P__law_classes_2 K p cl)
abbrev P__law_classes (K : PySem.W.Frag) (p cl : Addr) : PSx Unit := (P__law_classes_1 K p cl)
def n__law_classes : Nat := 0
theorem wk__law_classes {P : Program} {w : World} {K : PySem.W.Frag} {mg : Str → Option Value} {base : Heap} (L : LF P K mg) (p cl : Addr) (cdv : Value) (A : Around) (outer : List PySem.Env) (s : Shared) (H H0 : Hp) (E : XK) (A0 : Addr → Prop) (wx : WX) (hr : Room 0 (A.deeper (envOfC "_law_classes" (defScope st__law_classes) s.heap.objs.size (He.ga K "_law_classes") cdv)))
    (T : Takes (cxOf (L2.CX P w) P w K mg base N__law_classes "_law_classes" (defScope st__law_classes) (He.ga K "_law_classes") cdv A outer s H E) wx) :
    JSs (cxOf (L2.CX P w) P w K mg base N__law_classes "_law_classes" (defScope st__law_classes) (He.ga K "_law_classes") cdv A outer s H E) (⟨penG p cl, K, H0, A0, fun _ => False, fun _ => none, fun _ => False, wx⟩ : Bs Unit) (defBody st__law_classes) n__law_classes (P__law_classes K p cl) := by
  have c : Ctl (cxOf (L2.CX P w) P w K mg base N__law_classes "_law_classes" (defScope st__law_classes) (He.ga K "_law_classes") cdv A outer s H E) (⟨penG p cl, K, H0, A0, fun _ => False, fun _ => none, fun _ => False, wx⟩ : Bs Unit) K 0 := ⟨sc__law_classes.nd, rfl, rfl, rfl, hr, T, rfl⟩
  have po : PassesOwn (model P w) (cxOf (L2.CX P w) P w K mg base N__law_classes "_law_classes" (defScope st__law_classes) (He.ga K "_law_classes") cdv A outer s H E).A (cxOf (L2.CX P w) P w K mg base N__law_classes "_law_classes" (defScope st__law_classes) (He.ga K "_law_classes") cdv A outer s H E).env (cxOf (L2.CX P w) P w K mg base N__law_classes "_law_classes" (defScope st__law_classes) (He.ga K "_law_classes") cdv A outer s H E).xe := passes_of rfl
  have h : JSs (cxOf (L2.CX P w) P w K mg base N__law_classes "_law_classes" (defScope st__law_classes) (He.ga K "_law_classes") cdv A outer s H E) (⟨penG p cl, K, H0, A0, fun _ => False, fun _ => none, fun _ => False, wx⟩ : Bs Unit) (defBody st__law_classes) _ _ := (jss_cons (js_setF 1 (jf_lst (ja_cons (ge_isi c (ja_cons (je_var 0) (ja_cons (je_gref (by rfl) L.x_BadTables.m) ja_nil)) (by rfl) L.g_isinstance) (ja_cons (ge_isi c (ja_cons (je_var 0) (ja_cons (je_gref (by rfl) L.x_BadFact.m) ja_nil)) (by rfl) L.g_isinstance) (ja_cons (ge_isi c (ja_cons (je_var 0) (ja_cons (je_gref (by rfl) L.x_BadProgram.m) ja_nil)) (by rfl) L.g_isinstance) (ja_cons (ge_isi c (ja_cons (je_var 0) (ja_cons (je_gref (by rfl) L.x_OtherTables.m) ja_nil)) (by rfl) L.g_isinstance) ja_nil))))) c.nd)
    (jss_cons (js_setF 1 (jf_add (je_var 1) (je_f (jf_lst (ja_cons (ge_isi c (ja_cons (je_var 0) (ja_cons (je_gref (by rfl) L.x_NoLine.m) ja_nil)) (by rfl) L.g_isinstance) (ja_cons (ge_isi c (ja_cons (je_var 0) (ja_cons (je_gref (by rfl) L.x_NoKey.m) ja_nil)) (by rfl) L.g_isinstance) (ja_cons (ge_isi c (ja_cons (je_var 0) (ja_cons (je_gref (by rfl) L.x_NoName.m) ja_nil)) (by rfl) L.g_isinstance) (ja_cons (ge_isi c (ja_cons (je_var 0) (ja_cons (je_gref (by rfl) L.x_BadName.m) ja_nil)) (by rfl) L.g_isinstance) ja_nil))))))) c.nd)
    (jss_cons (js_setF 1 (jf_add (je_var 1) (je_f (jf_lst (ja_cons (ge_isi c (ja_cons (je_var 0) (ja_cons (je_gref (by rfl) L.x_Taken.m) ja_nil)) (by rfl) L.g_isinstance) (ja_cons (ge_isi c (ja_cons (je_var 0) (ja_cons (je_gref (by rfl) L.x_NotAlike.m) ja_nil)) (by rfl) L.g_isinstance) (ja_cons (ge_isi c (ja_cons (je_var 0) (ja_cons (je_gref (by rfl) L.x_Rests.m) ja_nil)) (by rfl) L.g_isinstance) (ja_cons (ge_isi c (ja_cons (je_var 0) (ja_cons (je_gref (by rfl) L.x_BrokenFact.m) ja_nil)) (by rfl) L.g_isinstance) ja_nil))))))) c.nd)
    (jss_cons (js_expr (je_append 1 (ja_cons (ge_isi c (ja_cons (je_var 0) (ja_cons (je_gref (by rfl) L.x_NothingToUndo.m) ja_nil)) (by rfl) L.g_isinstance) ja_nil)))
    (jss_cons (js_if (jt_w (jw_or (jt_not (jt_test (ge_isi c (ja_cons (je_var 0) (ja_cons (je_gref (by rfl) L.e_LookError.m) ja_nil)) (by rfl) L.g_isinstance).jp)) (jw_or1 (jt_not (jt_test (ge_isi c (ja_cons (je_var 0) (ja_cons (je_gty (n := "ValueError") (by rfl) L.g_ValueError (by decide +kernel)) ja_nil)) (by rfl) L.g_isinstance).jp))))) (jss_cons (js_ret (je_f (jf_lst ja_nil)))
    jss_nil) jss_nil)
    (jss_cons (js_ret (je_f (jf_lc false 0 (fun _ => rfl) c.calm c.nd (ji_range1 (by rfl) L.g_range (ja_cons je_int ja_nil)) (blkOk_of (N := N__law_classes) (sc := defScope st__law_classes) (own := [("_law_k", 2)]) (by decide +kernel)) (by decide) (fun s1 H1 C1 cl1 fp1 L1 Z1 => (jg_name 2 (Ctl.blk c s1 H1 _ _ fp1 L1 Z1).nd)) (fun s1 H1 C1 cl1 fp1 L1 Z1 => (jts_one (jt_test (ge_ixV (Ctl.blk c s1 H1 _ _ fp1 L1 Z1) 1 (je_var 2)).jp))) (fun s1 H1 C1 cl1 fp1 L1 Z1 => (je_var 2)))))
    jss_nil))))))
  exact h.le rfl
theorem ok__law_classes_of {P : Program} {w : World} {K : PySem.W.Frag} {mg : Str → Option Value} {base : Heap} (L : LF P K mg) (p cl : Addr) {psp : PSp Unit} (len : ∀ ds st Q R, psp ds st Q R → ds.length = ps__law_classes.length) (h : ∀ ds st Q R, psp ds st Q R → P__law_classes K p cl { nx := fun _ st' => Q .non st', rt := Q, ex := fun x _ st' => R x st' } (startE N__law_classes ds) st) :
    FnOk P w K mg base (L2.CX P w) 1 (He.ga K "_law_classes") L.f__law_classes.fd ps__law_classes (spD (penG p cl) K n__law_classes psp) := fn_pp L.f__law_classes.F sc__law_classes len (fun cdv A outer s H H0 E A0 wx hr T => wk__law_classes L p cl cdv A outer s H H0 E A0 wx hr T) h

theorem isi_x {K : PySem.W.Frag} {c d : Addr} {fs : List (Str × D)} {b : Bool} {Q : D → Prop} (x : ExcC K c) (h : PySem.W.kitOne K (.ref c) (.ref d) = some b) (q : Q (.bl b)) : fIsi K [.exn c fs, .ref d] Q := ⟨_, _, _, _, b, rfl, .ref d, .exn _ x, h, q⟩
theorem isi_t {K : PySem.W.Frag} {c : Addr} {d : String} {fs : List (Str × D)} {b : Bool} {Q : D → Prop} (x : ExcC K c) (h : PySem.W.kitOne K (.ref c) (.type d) = some b) (q : Q (.bl b)) : fIsi K [.exn c fs, .ty d] Q := ⟨_, _, _, _, b, rfl, .ty d, .exn _ x, h, q⟩
theorem comp_cls (e : D) (bs : List Bool) (st : Unit) : ∀ (ks : List Nat) (Q : List D → PP.Env → Unit → Prop), (∀ k ∈ ks, k < bs.length) → Q ((ks.filter fun k => bs.getD k false).map fun k : Nat => D.int (k : Int)) [.dat e, .ownL (bs.map D.bl), .un] st →
    compP (gN 2) (pTest (pIxV 1 (pVar 2))) (pVar 2) [2] (ks.map fun k : Nat => D.int (k : Int)) [.dat e, .ownL (bs.map D.bl), .un] st Q := by
  intro ks
  induction ks with
  | nil => exact fun Q _ h => h
  | cons k ks ih =>
    intro Q hk h
    have h1 := hk k (List.mem_cons_self ..)
    have h2 := fun x hx => hk x (List.mem_cons_of_mem _ hx)
    refine ⟨rfl, _, rfl, D.bl (bs[k]'h1), ?_, ?_⟩
    · unfold atI ixN
      rw [if_pos (by omega), if_pos (by rw [List.length_map]; omega), Option.bind_some, Int.toNat_natCast, List.getElem?_map, List.getElem?_eq_getElem h1]
      rfl
    · show if bs[k] = true then _ else _
      have e1 : bs.getD k false = bs[k] := by rw [List.getD_eq_getElem?_getD, List.getElem?_eq_getElem h1]; rfl
      rw [List.filter_cons, e1] at h
      split
      · rename_i hb
        rw [if_pos hb] at h
        exact ih _ h2 h
      · rename_i hb
        rw [if_neg hb] at h
        exact ih _ h2 h
def clsNames : List Str := ["BadTables", "BadFact", "BadProgram", "OtherTables", "NoLine", "NoKey", "NoName", "BadName", "Taken", "NotAlike", "Rests", "BrokenFact", "NothingToUndo"]
def bsOf (ix : List Int) : List Bool := (List.range 13).map fun k : Nat => decide ((k : Int) ∈ ix)
theorem cls_kit : ∀ t ∈ clsTab, (∀ k ∈ List.range 13, (t.1, clsNames.getD k "", decide ((k : Int) ∈ t.2)) ∈ kitL) ∧ (t.1, ("LookError" : Str), true) ∈ kitL ∧ (t.1, "ValueError", true) ∈ kitT := by decide +kernel
theorem cls_ix : ∀ t ∈ clsTab, ((List.range 13).filter fun k => (bsOf t.2).getD k false).map (fun k : Nat => (k : Int)) = t.2 := by decide +kernel
theorem cls_exc {P : Program} {K : PySem.W.Frag} {mg : Str → Option Value} (L : LF P K mg) {c : Str} {ix : List Int} (h : (c, ix) ∈ clsTab) : ExcC K (He.ga K c) := by
  unfold clsTab at h
  simp only [List.mem_cons, Prod.mk.injEq, List.not_mem_nil, or_false] at h
  rcases h with ⟨rfl, _⟩ | ⟨rfl, _⟩ | ⟨rfl, _⟩ | ⟨rfl, _⟩ | ⟨rfl, _⟩ | ⟨rfl, _⟩ | ⟨rfl, _⟩ | ⟨rfl, _⟩ | ⟨rfl, _⟩ | ⟨rfl, _⟩ | ⟨rfl, _⟩ | ⟨rfl, _⟩ | ⟨rfl, _⟩ | ⟨rfl, _⟩
  · exact L.x_BadTables.isx
  · exact L.x_BadFact.isx
  · exact L.x_BadProgram.isx
  · exact L.x_OtherTables.isx
  · exact L.x_NoLine.isx
  · exact L.x_NoKey.isx
  · exact L.x_NoName.isx
  · exact L.x_BadName.isx
  · exact L.x_Taken.isx
  · exact L.x_NotAlike.isx
  · exact L.x_Rests.isx
  · exact L.x_BrokenFact.isx
  · exact L.x_NothingToUndo.isx
  · exact L.e_LookError.isx
theorem pl_classes {P : Program} {K : PySem.W.Frag} {mg : Str → Option Value} (L : LF P K mg) (p cl : Addr) (ds : List D) (st : Unit) (Q : D → Unit → Prop) (R : Exn → Unit → Prop) (h : sp__law_classes K p cl ds st Q R) :
    P__law_classes K p cl { nx := fun _ st' => Q .non st', rt := Q, ex := fun x _ st' => R x st' } (startE N__law_classes ds) st := by
  obtain ⟨c, fs, ix, rfl, hm, hq⟩ := h
  have sz : 2000 ≤ sizeLine := by rw [sizeLine_eq]; decide
  obtain ⟨h1, h2, h3⟩ := cls_kit _ hm
  have xc := cls_exc L hm
  have hx := cls_ix _ hm
  have kk : ∀ k ∈ List.range 13, PySem.W.kitOne K (.ref (He.ga K c)) (.ref (He.ga K (clsNames.getD k ""))) = some (decide ((k : Int) ∈ ix)) := fun k hk => L.kc _ (h1 k hk)
  have kL := L.kc _ h2
  have kV := L.kt _ h3
  dsimp only at kL kV
  show P__law_classes_1 K p cl _ [.dat (.exn (He.ga K c) fs), .un, .un] st
  unfold P__law_classes_1
  simp only [sSeq, sNil, sRet, sRetN, sSet, sSetF, sDrop, sIf, sPar, sAsg, sRaise, sPutD, pBin, pUn, pC, pVar, bindP, retP, pB, pTest, blD, pTru, truD, pNot, pAnd, pOr, pIf, pAndV, pOrV, pCons, pNil, pTup, pLst, pFV, pCall, pCall1, pCallB, pOwn, pBinV, pIxV, pPeek, pMnil, pMdat, pMown, setM, FV.dat, FV.sl, slotD, Sl.data, isL, isD, pAddL, fAddL, aAdd, aI, aSub, aMul, aMod, aDiv, aPow, aNeg, aIx, cEqX, cNeX, cEq, cNe, scalEq, cLt, cLe, cGt, cGe, cOrd, cIsN, cNotN, isNonD, fLen, fInt, fAbs, fList, pSl, slX, pPart, pNoPart, PP.intD, mAppend, mPopAt, mPop, mInsert, List.getElem?_cons_zero, List.getElem?_cons_succ, List.set_cons_zero, List.set_cons_succ, Option.some.injEq, exists_eq_left', Sl.own, Option.isSome_some, if_true, if_false, reduceCtorEq, Bool.false_eq_true, ite_true, ite_false, pCallB]
  refine isi_x xc (kk 0 (by decide)) (isi_x xc (kk 1 (by decide)) (isi_x xc (kk 2 (by decide)) (isi_x xc (kk 3 (by decide)) ?_)))
  unfold P__law_classes_2
  simp only [sSeq, sNil, sRet, sRetN, sSet, sSetF, sDrop, sIf, sPar, sAsg, sRaise, sPutD, pBin, pUn, pC, pVar, bindP, retP, pB, pTest, blD, pTru, truD, pNot, pAnd, pOr, pIf, pAndV, pOrV, pCons, pNil, pTup, pLst, pFV, pCall, pCall1, pCallB, pOwn, pBinV, pIxV, pPeek, pMnil, pMdat, pMown, setM, FV.dat, FV.sl, slotD, Sl.data, isL, isD, pAddL, fAddL, aAdd, aI, aSub, aMul, aMod, aDiv, aPow, aNeg, aIx, cEqX, cNeX, cEq, cNe, scalEq, cLt, cLe, cGt, cGe, cOrd, cIsN, cNotN, isNonD, fLen, fInt, fAbs, fList, pSl, slX, pPart, pNoPart, PP.intD, mAppend, mPopAt, mPop, mInsert, List.getElem?_cons_zero, List.getElem?_cons_succ, List.set_cons_zero, List.set_cons_succ, Option.some.injEq, exists_eq_left', Sl.own, Option.isSome_some, if_true, if_false, reduceCtorEq, Bool.false_eq_true, ite_true, ite_false, pCallB]
  refine ⟨Nat.le_trans (by simp) sz, isi_x xc (kk 4 (by decide)) (isi_x xc (kk 5 (by decide)) (isi_x xc (kk 6 (by decide)) (isi_x xc (kk 7 (by decide)) ⟨Nat.le_trans (by simp) sz, Nat.le_trans (by simp) sz, ?_⟩)))⟩
  unfold P__law_classes_3
  simp only [sSeq, sNil, sRet, sRetN, sSet, sSetF, sDrop, sIf, sPar, sAsg, sRaise, sPutD, pBin, pUn, pC, pVar, bindP, retP, pB, pTest, blD, pTru, truD, pNot, pAnd, pOr, pIf, pAndV, pOrV, pCons, pNil, pTup, pLst, pFV, pCall, pCall1, pCallB, pOwn, pBinV, pIxV, pPeek, pMnil, pMdat, pMown, setM, FV.dat, FV.sl, slotD, Sl.data, isL, isD, pAddL, fAddL, aAdd, aI, aSub, aMul, aMod, aDiv, aPow, aNeg, aIx, cEqX, cNeX, cEq, cNe, scalEq, cLt, cLe, cGt, cGe, cOrd, cIsN, cNotN, isNonD, fLen, fInt, fAbs, fList, pSl, slX, pPart, pNoPart, PP.intD, mAppend, mPopAt, mPop, mInsert, List.getElem?_cons_zero, List.getElem?_cons_succ, List.set_cons_zero, List.set_cons_succ, Option.some.injEq, exists_eq_left', Sl.own, Option.isSome_some, if_true, if_false, reduceCtorEq, Bool.false_eq_true, ite_true, ite_false, pCallB, List.cons_append, List.nil_append]
  refine isi_x xc (kk 8 (by decide)) (isi_x xc (kk 9 (by decide)) (isi_x xc (kk 10 (by decide)) (isi_x xc (kk 11 (by decide)) ⟨Nat.le_trans (by simp) sz, Nat.le_trans (by simp) sz, ?_⟩)))
  unfold P__law_classes_4
  simp only [sSeq, sNil, sRet, sRetN, sSet, sSetF, sDrop, sIf, sPar, sAsg, sRaise, sPutD, pBin, pUn, pC, pVar, bindP, retP, pB, pTest, blD, pTru, truD, pNot, pAnd, pOr, pIf, pAndV, pOrV, pCons, pNil, pTup, pLst, pFV, pCall, pCall1, pCallB, pOwn, pBinV, pIxV, pPeek, pMnil, pMdat, pMown, setM, FV.dat, FV.sl, slotD, Sl.data, isL, isD, pAddL, fAddL, aAdd, aI, aSub, aMul, aMod, aDiv, aPow, aNeg, aIx, cEqX, cNeX, cEq, cNe, scalEq, cLt, cLe, cGt, cGe, cOrd, cIsN, cNotN, isNonD, fLen, fInt, fAbs, fList, pSl, slX, pPart, pNoPart, PP.intD, mAppend, mPopAt, mPop, mInsert, List.getElem?_cons_zero, List.getElem?_cons_succ, List.set_cons_zero, List.set_cons_succ, Option.some.injEq, exists_eq_left', Sl.own, Option.isSome_some, if_true, if_false, reduceCtorEq, Bool.false_eq_true, ite_true, ite_false, pCallB, List.cons_append, List.nil_append, true_and]
  refine isi_x xc (kk 12 (by decide)) ?_
  refine ⟨by simp; omega, ?_⟩
  unfold P__law_classes_5
  simp only [sSeq, sNil, sRet, sRetN, sSet, sSetF, sDrop, sIf, sPar, sAsg, sRaise, sPutD, pBin, pUn, pC, pVar, bindP, retP, pB, pTest, blD, pTru, truD, pNot, pAnd, pOr, pIf, pAndV, pOrV, pCons, pNil, pTup, pLst, pFV, pCall, pCall1, pCallB, pOwn, pBinV, pIxV, pPeek, pMnil, pMdat, pMown, setM, FV.dat, FV.sl, slotD, Sl.data, isL, isD, pAddL, fAddL, aAdd, aI, aSub, aMul, aMod, aDiv, aPow, aNeg, aIx, cEqX, cNeX, cEq, cNe, scalEq, cLt, cLe, cGt, cGe, cOrd, cIsN, cNotN, isNonD, fLen, fInt, fAbs, fList, pSl, slX, pPart, pNoPart, PP.intD, mAppend, mPopAt, mPop, mInsert, List.getElem?_cons_zero, List.getElem?_cons_succ, List.set_cons_zero, List.set_cons_succ, Option.some.injEq, exists_eq_left', Sl.own, Option.isSome_some, if_true, if_false, reduceCtorEq, Bool.false_eq_true, ite_true, ite_false, pCallB, List.cons_append, List.nil_append, true_and]
  refine isi_x xc kL ?_
  simp only [sSeq, sNil, sRet, sRetN, sSet, sSetF, sDrop, sIf, sPar, sAsg, sRaise, sPutD, pBin, pUn, pC, pVar, bindP, retP, pB, pTest, blD, pTru, truD, pNot, pAnd, pOr, pIf, pAndV, pOrV, pCons, pNil, pTup, pLst, pFV, pCall, pCall1, pCallB, pOwn, pBinV, pIxV, pPeek, pMnil, pMdat, pMown, setM, FV.dat, FV.sl, slotD, Sl.data, isL, isD, pAddL, fAddL, aAdd, aI, aSub, aMul, aMod, aDiv, aPow, aNeg, aIx, cEqX, cNeX, cEq, cNe, scalEq, cLt, cLe, cGt, cGe, cOrd, cIsN, cNotN, isNonD, fLen, fInt, fAbs, fList, pSl, slX, pPart, pNoPart, PP.intD, mAppend, mPopAt, mPop, mInsert, List.getElem?_cons_zero, List.getElem?_cons_succ, List.set_cons_zero, List.set_cons_succ, Option.some.injEq, exists_eq_left', Sl.own, Option.isSome_some, if_true, if_false, reduceCtorEq, Bool.false_eq_true, ite_true, ite_false, pCallB, Bool.not_true]
  refine isi_t xc kV ?_
  simp only [sSeq, sNil, sRet, sRetN, sSet, sSetF, sDrop, sIf, sPar, sAsg, sRaise, sPutD, pBin, pUn, pC, pVar, bindP, retP, pB, pTest, blD, pTru, truD, pNot, pAnd, pOr, pIf, pAndV, pOrV, pCons, pNil, pTup, pLst, pFV, pCall, pCall1, pCallB, pOwn, pBinV, pIxV, pPeek, pMnil, pMdat, pMown, setM, FV.dat, FV.sl, slotD, Sl.data, isL, isD, pAddL, fAddL, aAdd, aI, aSub, aMul, aMod, aDiv, aPow, aNeg, aIx, cEqX, cNeX, cEq, cNe, scalEq, cLt, cLe, cGt, cGe, cOrd, cIsN, cNotN, isNonD, fLen, fInt, fAbs, fList, pSl, slX, pPart, pNoPart, PP.intD, mAppend, mPopAt, mPop, mInsert, List.getElem?_cons_zero, List.getElem?_cons_succ, List.set_cons_zero, List.set_cons_succ, Option.some.injEq, exists_eq_left', Sl.own, Option.isSome_some, if_true, if_false, reduceCtorEq, Bool.false_eq_true, ite_true, ite_false, pCallB, Bool.not_true]
  show P__law_classes_7 K p cl _ [.dat (.exn (He.ga K c) fs), .ownL ((bsOf ix).map D.bl), .un] st
  unfold P__law_classes_7
  simp only [sSeq, sRet, pFV, bindP, pLc]
  refine ⟨by omega, by omega, (⟨fun z => (Bool.false_ne_true z).elim, Nat.le_trans (by decide) sz, ?_⟩ : (false = true → _) ∧ _ ∧ _)⟩
  refine comp_cls _ _ _ _ _ (fun k hk => by rw [bsOf, List.length_map]; exact List.mem_range.mp hk) ?_
  have e : ((List.range 13).filter fun k => (bsOf ix).getD k false).map (fun k : Nat => D.int (k : Int)) = ix.map D.int := by
    have := congrArg (List.map D.int) hx
    rw [List.map_map] at this
    exact this
  show Q (.lst (((List.range 13).filter fun k => (bsOf ix).getD k false).map (fun k : Nat => D.int (k : Int)))) st
  rw [e]
  exact hq
theorem ok__law_classes {P : Program} {w : World} {K : PySem.W.Frag} {mg : Str → Option Value} {base : Heap} (L : LF P K mg) (p cl : Addr) : FnOk P w K mg base (L2.CX P w) 1 (He.ga K "_law_classes") L.f__law_classes.fd ps__law_classes (spD (penG p cl) K n__law_classes (sp__law_classes K p cl)) :=
  ok__law_classes_of L p cl (fun ds st Q R ⟨_, _, _, e, _⟩ => by rw [e]; rfl) fun ds st Q R h => pl_classes L p cl ds st Q R h

def P__law_numbered_10 (K : PySem.W.Frag) (p cl : Addr) : PSx Unit := sSeq (sSet 7 (pBin aAdd (pVar 7) (pFV (pLst (pCons (pAndV (pB (pBin cEqX (pUn (aXf (He.ga K "NoKey") "line") (pBin aIx (pVar 6) (pVar 8))) (pVar 9))) (pB (pBin cEqX (pCall (sp__law_classes K p cl) [] (pCons (pBin aIx (pVar 6) (pVar 8)) pNil)) (pFV (pLst (pCons (pC (.int 5)) pNil)))))) pNil))))) sNil
def P__law_numbered_9 (K : PySem.W.Frag) (p cl : Addr) : PSx Unit := sSeq (sSet 7 (pBin aAdd (pVar 7) (pFV (pLst (pCons (pAndV (pB (pBin cEqX (pUn (aXf (He.ga K "NoLine") "line") (pBin aIx (pVar 5) (pVar 8))) (pVar 9))) (pB (pBin cEqX (pCall (sp__law_classes K p cl) [] (pCons (pBin aIx (pVar 5) (pVar 8)) pNil)) (pFV (pLst (pCons (pC (.int 4)) pNil)))))) pNil))))) (P__law_numbered_10 K p cl)
def P__law_numbered_8 (K : PySem.W.Frag) (p cl : Addr) : PSx Unit := sSeq (sSet 7 (pBin aAdd (pVar 7) (pFV (pLst (pCons (pAndV (pB (pBin cEqX (pUn (aXf (He.ga K "BadProgram") "line") (pBin aIx (pVar 4) (pVar 8))) (pVar 9))) (pB (pBin cEqX (pCall (sp__law_classes K p cl) [] (pCons (pBin aIx (pVar 4) (pVar 8)) pNil)) (pFV (pLst (pCons (pC (.int 2)) pNil)))))) pNil))))) (P__law_numbered_9 K p cl)
def P__law_numbered_7 (K : PySem.W.Frag) (p cl : Addr) : PSx Unit := sSeq (sSet 7 (pBin aAdd (pVar 7) (pFV (pLst (pCons (pAndV (pB (pBin cEqX (pUn (aXf (He.ga K "BadFact") "index") (pBin aIx (pVar 3) (pVar 8))) (pVar 9))) (pB (pBin cEqX (pCall (sp__law_classes K p cl) [] (pCons (pBin aIx (pVar 3) (pVar 8)) pNil)) (pFV (pLst (pCons (pC (.int 1)) pNil)))))) pNil))))) (P__law_numbered_8 K p cl)
def P__law_numbered_6 (K : PySem.W.Frag) (p cl : Addr) : PSx Unit := sSeq (sSet 9 (pBin aIx (pFV (pLst (pCons (pVar 1) (pCons (pVar 2) pNil)))) (pVar 8))) (P__law_numbered_7 K p cl)
def P__law_numbered_11 (K : PySem.W.Frag) (p cl : Addr) : PSx Unit := sSeq (sRet (pB (pBin cNotIn (pC (.bl false)) (pVar 7)))) sNil
def P__law_numbered_5 (K : PySem.W.Frag) (p cl : Addr) : PSx Unit := sSeq (sFor true 1024 (bindP (pCons (pC (.int 2)) pNil) fun ds => retP (rangeD ds)) (gN 8) (P__law_numbered_6 K p cl)) (P__law_numbered_11 K p cl)
def P__law_numbered_4 (K : PySem.W.Frag) (p cl : Addr) : PSx Unit := sSeq (sSet 7 (pFV (pLst pNil))) (P__law_numbered_5 K p cl)
def P__law_numbered_3 (K : PySem.W.Frag) (p cl : Addr) : PSx Unit := sSeq (sPar [5, 6] (pMdat (pFV (pLst (pCons (pMkX (He.ga K "NoLine") ["line"] dAny (pCons (pVar 1) pNil)) (pCons (pMkX (He.ga K "NoLine") ["line"] dAny (pCons (pVar 2) pNil)) pNil)))) (pMdat (pFV (pLst (pCons (pMkX (He.ga K "NoKey") ["line"] dAny (pCons (pVar 1) pNil)) (pCons (pMkX (He.ga K "NoKey") ["line"] dAny (pCons (pVar 2) pNil)) pNil)))) pMnil))) (P__law_numbered_4 K p cl)
def P__law_numbered_2 (K : PySem.W.Frag) (p cl : Addr) : PSx Unit := sSeq (sPar [3, 4] (pMdat (pFV (pLst (pCons (pMkX (He.ga K "BadFact") ["index"] dText (pCons (pVar 1) pNil)) (pCons (pMkX (He.ga K "BadFact") ["index"] dText (pCons (pVar 2) pNil)) pNil)))) (pMdat (pFV (pLst (pCons (pMkX (He.ga K "BadProgram") ["line"] dText (pCons (pVar 1) pNil)) (pCons (pMkX (He.ga K "BadProgram") ["line"] dText (pCons (pVar 2) pNil)) pNil)))) pMnil))) (P__law_numbered_3 K p cl)
def P__law_numbered_1 (K : PySem.W.Frag) (p cl : Addr) : PSx Unit := sSeq (sPar [1, 2] (pMdat (pCall (sp__law_draw K p cl) [] (pCons (pVar 0) (pCons (pBin aPow (pC (.int 10)) (pC (.int 60))) pNil))) (pMdat (pBin aSub (pUn aNeg (pC (.int 1))) (pCall (sp__law_draw K p cl) [] (pCons (pVar 0) (pCons (pBin aPow (pC (.int 10)) (pC (.int 9))) pNil)))) pMnil))) (P__law_numbered_2 K p cl)
abbrev P__law_numbered (K : PySem.W.Frag) (p cl : Addr) : PSx Unit := (P__law_numbered_1 K p cl)
def n__law_numbered : Nat := 6
theorem wk__law_numbered {P : Program} {w : World} {K : PySem.W.Frag} {mg : Str → Option Value} {base : Heap} (L : LF P K mg) (p cl : Addr) (cdv : Value) (A : Around) (outer : List PySem.Env) (s : Shared) (H H0 : Hp) (E : XK) (A0 : Addr → Prop) (wx : WX) (hr : Room 2 (A.deeper (envOfC "_law_numbered" (defScope st__law_numbered) s.heap.objs.size (He.ga K "_law_numbered") cdv)))
    (T : Takes (cxOf (L2.CX P w) P w K mg base N__law_numbered "_law_numbered" (defScope st__law_numbered) (He.ga K "_law_numbered") cdv A outer s H E) wx) :
    JSs (cxOf (L2.CX P w) P w K mg base N__law_numbered "_law_numbered" (defScope st__law_numbered) (He.ga K "_law_numbered") cdv A outer s H E) (⟨penG p cl, K, H0, A0, fun _ => False, fun _ => none, fun _ => False, wx⟩ : Bs Unit) (defBody st__law_numbered) n__law_numbered (P__law_numbered K p cl) := by
  have c : Ctl (cxOf (L2.CX P w) P w K mg base N__law_numbered "_law_numbered" (defScope st__law_numbered) (He.ga K "_law_numbered") cdv A outer s H E) (⟨penG p cl, K, H0, A0, fun _ => False, fun _ => none, fun _ => False, wx⟩ : Bs Unit) K 2 := ⟨sc__law_numbered.nd, rfl, rfl, rfl, hr, T, rfl⟩
  have po : PassesOwn (model P w) (cxOf (L2.CX P w) P w K mg base N__law_numbered "_law_numbered" (defScope st__law_numbered) (He.ga K "_law_numbered") cdv A outer s H E).A (cxOf (L2.CX P w) P w K mg base N__law_numbered "_law_numbered" (defScope st__law_numbered) (He.ga K "_law_numbered") cdv A outer s H E).env (cxOf (L2.CX P w) P w K mg base N__law_numbered "_law_numbered" (defScope st__law_numbered) (He.ga K "_law_numbered") cdv A outer s H E).xe := passes_of rfl
  have h : JSs (cxOf (L2.CX P w) P w K mg base N__law_numbered "_law_numbered" (defScope st__law_numbered) (He.ga K "_law_numbered") cdv A outer s H E) (⟨penG p cl, K, H0, A0, fun _ => False, fun _ => none, fun _ => False, wx⟩ : Bs Unit) (defBody st__law_numbered) _ _ := (jss_cons (js_par (i := 1) (j := 2) c.calm c.nd (jm_dat (je_call c.tk (mo__law_draw K p cl) c.kk (ok__law_draw L p cl) (c.room.mono (by decide)) (by rfl) L.f__law_draw.m L.f__law_draw.F.kp (bd__law_draw L.f__law_draw) .nil (fun _ _ => .nil) (ja_cons (je_var 0) (ja_cons (je_pow je_int je_int) ja_nil))) (jm_dat (je_sub (je_neg je_int) (je_call c.tk (mo__law_draw K p cl) c.kk (ok__law_draw L p cl) (c.room.mono (by decide)) (by rfl) L.f__law_draw.m L.f__law_draw.F.kp (bd__law_draw L.f__law_draw) .nil (fun _ _ => .nil) (ja_cons (je_var 0) (ja_cons (je_pow je_int je_int) ja_nil)))) jm_nil)) (by rfl))
    (jss_cons (js_par (i := 3) (j := 4) c.calm c.nd (jm_dat (je_f (jf_lst (ja_cons (je_mkX okD_text (mk_BadFact L) (c.room.mono (by decide)) (by rfl) L.x_BadFact.m (ja_cons (je_var 1) ja_nil)) (ja_cons (je_mkX okD_text (mk_BadFact L) (c.room.mono (by decide)) (by rfl) L.x_BadFact.m (ja_cons (je_var 2) ja_nil)) ja_nil)))) (jm_dat (je_f (jf_lst (ja_cons (je_mkX okD_text (mk_BadProgram L) (c.room.mono (by decide)) (by rfl) L.x_BadProgram.m (ja_cons (je_var 1) ja_nil)) (ja_cons (je_mkX okD_text (mk_BadProgram L) (c.room.mono (by decide)) (by rfl) L.x_BadProgram.m (ja_cons (je_var 2) ja_nil)) ja_nil)))) jm_nil)) (by rfl))
    (jss_cons (js_par (i := 5) (j := 6) c.calm c.nd (jm_dat (je_f (jf_lst (ja_cons (je_mkX okD_any (mk_NoLine L) (c.room.mono (by decide)) (by rfl) L.x_NoLine.m (ja_cons (je_var 1) ja_nil)) (ja_cons (je_mkX okD_any (mk_NoLine L) (c.room.mono (by decide)) (by rfl) L.x_NoLine.m (ja_cons (je_var 2) ja_nil)) ja_nil)))) (jm_dat (je_f (jf_lst (ja_cons (je_mkX okD_any (mk_NoKey L) (c.room.mono (by decide)) (by rfl) L.x_NoKey.m (ja_cons (je_var 1) ja_nil)) (ja_cons (je_mkX okD_any (mk_NoKey L) (c.room.mono (by decide)) (by rfl) L.x_NoKey.m (ja_cons (je_var 2) ja_nil)) ja_nil)))) jm_nil)) (by rfl))
    (jss_cons (js_set 7 (je_f (jf_lst ja_nil)) c.nd)
    (jss_cons (js_for true 1024 (fun z => nomatch z) po c.calm (ji_range1 (by rfl) L.g_range (ja_cons je_int ja_nil)) (jg_name 8 c.nd) (jss_cons (js_set 9 (ge_ix c (je_f (jf_lst (ja_cons (je_var 1) (ja_cons (je_var 2) ja_nil)))) (je_var 8)) c.nd)
    (jss_cons (js_set 7 (ge_add c (je_var 7) (je_f (jf_lst (ja_cons (je_and (ge_cmp (cr_eq c) (je_xv (C := He.ga K "BadFact") c.kk L.x_BadFact.xf (L.x_BadFact.o.no "index" (by decide)) (ge_ix c (je_var 3) (je_var 8))) (je_var 9).jp) (je_and1 (ge_cmp (cr_eq c) (je_call c.tk (mo__law_classes K p cl) c.kk (ok__law_classes L p cl) (c.room.mono (by decide)) (by rfl) L.f__law_classes.m L.f__law_classes.F.kp (bd__law_classes L.f__law_classes) .nil (fun _ _ => .nil) (ja_cons (ge_ix c (je_var 3) (je_var 8)) ja_nil)) (je_f (jf_lst (ja_cons je_int ja_nil))).jp))) ja_nil)))) c.nd)
    (jss_cons (js_set 7 (ge_add c (je_var 7) (je_f (jf_lst (ja_cons (je_and (ge_cmp (cr_eq c) (je_xv (C := He.ga K "BadProgram") c.kk L.x_BadProgram.xf (L.x_BadProgram.o.no "line" (by decide)) (ge_ix c (je_var 4) (je_var 8))) (je_var 9).jp) (je_and1 (ge_cmp (cr_eq c) (je_call c.tk (mo__law_classes K p cl) c.kk (ok__law_classes L p cl) (c.room.mono (by decide)) (by rfl) L.f__law_classes.m L.f__law_classes.F.kp (bd__law_classes L.f__law_classes) .nil (fun _ _ => .nil) (ja_cons (ge_ix c (je_var 4) (je_var 8)) ja_nil)) (je_f (jf_lst (ja_cons je_int ja_nil))).jp))) ja_nil)))) c.nd)
    (jss_cons (js_set 7 (ge_add c (je_var 7) (je_f (jf_lst (ja_cons (je_and (ge_cmp (cr_eq c) (je_xv (C := He.ga K "NoLine") c.kk L.x_NoLine.xf (L.x_NoLine.o.no "line" (by decide)) (ge_ix c (je_var 5) (je_var 8))) (je_var 9).jp) (je_and1 (ge_cmp (cr_eq c) (je_call c.tk (mo__law_classes K p cl) c.kk (ok__law_classes L p cl) (c.room.mono (by decide)) (by rfl) L.f__law_classes.m L.f__law_classes.F.kp (bd__law_classes L.f__law_classes) .nil (fun _ _ => .nil) (ja_cons (ge_ix c (je_var 5) (je_var 8)) ja_nil)) (je_f (jf_lst (ja_cons je_int ja_nil))).jp))) ja_nil)))) c.nd)
    (jss_cons (js_set 7 (ge_add c (je_var 7) (je_f (jf_lst (ja_cons (je_and (ge_cmp (cr_eq c) (je_xv (C := He.ga K "NoKey") c.kk L.x_NoKey.xf (L.x_NoKey.o.no "line" (by decide)) (ge_ix c (je_var 6) (je_var 8))) (je_var 9).jp) (je_and1 (ge_cmp (cr_eq c) (je_call c.tk (mo__law_classes K p cl) c.kk (ok__law_classes L p cl) (c.room.mono (by decide)) (by rfl) L.f__law_classes.m L.f__law_classes.F.kp (bd__law_classes L.f__law_classes) .nil (fun _ _ => .nil) (ja_cons (ge_ix c (je_var 6) (je_var 8)) ja_nil)) (je_f (jf_lst (ja_cons je_int ja_nil))).jp))) ja_nil)))) c.nd)
    jss_nil))))))
    (jss_cons (js_ret (ge_cmp (cr_notIn c) je_bl (je_var 7).jp))
    jss_nil))))))
  exact h.le rfl
theorem ok__law_numbered_of {P : Program} {w : World} {K : PySem.W.Frag} {mg : Str → Option Value} {base : Heap} (L : LF P K mg) (p cl : Addr) {psp : PSp Unit} (len : ∀ ds st Q R, psp ds st Q R → ds.length = ps__law_numbered.length) (h : ∀ ds st Q R, psp ds st Q R → P__law_numbered K p cl { nx := fun _ st' => Q .non st', rt := Q, ex := fun x _ st' => R x st' } (startE N__law_numbered ds) st) :
    FnOk P w K mg base (L2.CX P w) 3 (He.ga K "_law_numbered") L.f__law_numbered.fd ps__law_numbered (spD (penG p cl) K n__law_numbered psp) := fn_pp L.f__law_numbered.F sc__law_numbered len (fun cdv A outer s H H0 E A0 wx hr T => wk__law_numbered L p cl cdv A outer s H H0 E A0 wx hr T) h
/-- a reading with one answer that changes nothing -/
def Det (pe : Px Unit D) (ρ : PP.Env) (st : Unit) (d : D) : Prop := ∀ Q R, Q d ρ st → pe ρ st Q R
theorem det_var {i : Nat} {ρ : PP.Env} {st : Unit} {d : D} (h : ρ[i]? = some (.dat d)) : Det (pVar i) ρ st d := fun Q R q => by
  unfold pVar
  rw [h]
  exact q
theorem det_ix {i j : Nat} {ρ : PP.Env} {st : Unit} {es : List D} {k : Int} {d : D} (h : ρ[i]? = some (.dat (.lst es))) (h2 : ρ[j]? = some (.dat (.int k))) (h3 : atI es k = some d) : Det (pBin aIx (pVar i) (pVar j)) ρ st d :=
  fun Q R q => by
    simp only [pBin, bindP, retP]
    refine det_var h _ _ ?_
    exact det_var h2 _ _ ⟨d, h3, q⟩
theorem at2 {es : List D} {k : Int} (j : Nat) {d : D} (hk : k = (j : Int)) (h : es[j]? = some d) : atI es k = some d := by
  unfold atI ixN
  rw [hk, if_pos (by omega), if_pos (by have := (List.getElem?_eq_some_iff.mp h).1; omega), Option.bind_some, Int.toNat_natCast]
  exact h
theorem row_ok {K : PySem.W.Frag} {p cl : Addr} {pe pv : Px Unit D} {ρ : PP.Env} {st : Unit} {c : Str} {fs : List (Str × D)} {f : Str} {v : D} {n : Int} {Q : D → PP.Env → Unit → Prop} {R : Exn → PP.Env → Unit → Prop}
    (he : Det pe ρ st (.exn (He.ga K c) fs)) (hf : fs.lookup f = some v) (hv : Det pv ρ st v) (heq : ∀ Q : Bool → Prop, Q true → cEqX v v Q) (hc : (c, [n]) ∈ clsTab) (q : Q (.bl true) ρ st) :
    pAndV (pB (pBin cEqX (pUn (aXf (He.ga K c) f) pe) pv)) (pB (pBin cEqX (pCall (sp__law_classes K p cl) [] (pCons pe pNil)) (pFV (pLst (pCons (pC (.int n)) pNil))))) ρ st Q R := by
  refine he _ _ ⟨fs, v, rfl, hf, hv _ _ (heq _ ?_)⟩
  refine he _ _ ⟨c, fs, [n], rfl, hc, ?_⟩
  have sz : 2000 ≤ sizeLine := by rw [sizeLine_eq]; decide
  refine ⟨Nat.le_trans (by simp) sz, okD_flats (flats_ints [n]), okD_flats (flats_ints [n]), ?_⟩
  have e : eqD (.lst [D.int n]) (.lst [D.int n]) = true := by
    have := eqD_ints [n] [n]
    rw [decide_eq_true rfl] at this
    exact this
  show Q (.bl (eqD (.lst [D.int n]) (.lst [D.int n]))) ρ st
  rw [e]
  exact q
theorem eq_int (a : Int) (Q : Bool → Prop) (q : Q true) : cEqX (.int a) (.int a) Q := by
  show Q (decide (a = a))
  rw [decide_eq_true rfl]; exact q
theorem eq_str (a : Str) (Q : Bool → Prop) (q : Q true) : cEqX (.str a) (.str a) Q := by
  show Q (decide (a = a))
  rw [decide_eq_true rfl]; exact q
theorem set_row {i : Nat} {row : Px Unit D} {N : PSx Unit} {Dd : En Unit} {ρ : PP.Env} {st : Unit} {xs : List D} (hr : ∀ Q R, Q (D.bl true) ρ st → row ρ st Q R) (h : ρ[i]? = some (.dat (.lst xs))) (hx : xs.length ≤ 100) (z : N Dd (ρ.set i (.dat (.lst (xs ++ [D.bl true])))) st) :
    sSeq (sSet i (pBin aAdd (pVar i) (pFV (pLst (pCons row pNil))))) N Dd ρ st := by
  have sz : 2000 ≤ sizeLine := by rw [sizeLine_eq]; decide
  simp only [sSeq, sSet, pBin, pFV, pLst, pCons, pNil, bindP, retP, pC]
  refine det_var h _ _ ?_
  show row ρ st _ _
  refine hr _ _ ⟨Nat.le_trans (by simp) sz, (by show xs.length + 1 ≤ sizeLine; omega), z⟩
def ex2 (K : PySem.W.Frag) (c f : Str) (a b : Int) : Sl := .dat (.lst [.exn (He.ga K c) [(f, .int a)], .exn (He.ga K c) [(f, .int b)]])
theorem nb_body {K : PySem.W.Frag} (p cl : Addr) (a b : Int) (st : Unit) (Dd : En Unit) (k : Int) (j : Nat) (hk : k = j) (hj : j = 0 ∨ j = 1) (xs : List D) (y : Sl) (hx : xs.length ≤ 50)
    (h : ∀ w, Dd.nx [.dat (.ref p), .dat (.int a), .dat (.int b), ex2 K "BadFact" "index" a b, ex2 K "BadProgram" "line" a b, ex2 K "NoLine" "line" a b, ex2 K "NoKey" "line" a b, .dat (.lst (xs ++ [.bl true] ++ [.bl true] ++ [.bl true] ++ [.bl true])), .dat (.int k), w] st) :
    P__law_numbered_6 K p cl Dd [.dat (.ref p), .dat (.int a), .dat (.int b), ex2 K "BadFact" "index" a b, ex2 K "BadProgram" "line" a b, ex2 K "NoLine" "line" a b, ex2 K "NoKey" "line" a b, .dat (.lst xs), .dat (.int k), y] st := by
  have sz : 2000 ≤ sizeLine := by rw [sizeLine_eq]; decide
  have pick : ∃ v : Int, [D.int a, D.int b][j]? = some (.int v) ∧ ∀ c f : Str, [D.exn (He.ga K c) [(f, .int a)], .exn (He.ga K c) [(f, .int b)]][j]? = some (.exn (He.ga K c) [(f, .int v)]) := by
    rcases hj with rfl | rfl
    · exact ⟨a, rfl, fun _ _ => rfl⟩
    · exact ⟨b, rfl, fun _ _ => rfl⟩
  obtain ⟨v, pv, pe⟩ := pick
  unfold P__law_numbered_6
  refine ⟨Nat.le_trans (by simp) sz, .int v, at2 j hk pv, ?_⟩
  dsimp only
  unfold P__law_numbered_7
  refine set_row ?_ rfl ?_ ?_
  · exact fun Q R q => row_ok (c := "BadFact") (n := 1) (det_ix rfl rfl (at2 j hk (pe _ _))) rfl (det_var rfl) (eq_int v) (by decide +kernel) q
  · omega
  unfold P__law_numbered_8
  refine set_row ?_ rfl ?_ ?_
  · exact fun Q R q => row_ok (c := "BadProgram") (n := 2) (det_ix rfl rfl (at2 j hk (pe _ _))) rfl (det_var rfl) (eq_int v) (by decide +kernel) q
  · simp; omega
  unfold P__law_numbered_9
  refine set_row ?_ rfl ?_ ?_
  · exact fun Q R q => row_ok (c := "NoLine") (n := 4) (det_ix rfl rfl (at2 j hk (pe _ _))) rfl (det_var rfl) (eq_int v) (by decide +kernel) q
  · simp; omega
  unfold P__law_numbered_10
  refine set_row ?_ rfl ?_ ?_
  · exact fun Q R q => row_ok (c := "NoKey") (n := 5) (det_ix rfl rfl (at2 j hk (pe _ _))) rfl (det_var rfl) (eq_int v) (by decide +kernel) q
  · simp; omega
  exact h _
theorem pl_numbered {P : Program} {K : PySem.W.Frag} {mg : Str → Option Value} (L : LF P K mg) (p cl : Addr) (ds : List D) (st : Unit) (Q : D → Unit → Prop) (R : Exn → Unit → Prop) (h : sp__law_numbered K p cl ds st Q R) :
    P__law_numbered K p cl { nx := fun _ st' => Q .non st', rt := Q, ex := fun x _ st' => R x st' } (startE N__law_numbered ds) st := by
  obtain ⟨rfl, hq⟩ := h
  have sz : 2000 ≤ sizeLine := by rw [sizeLine_eq]; decide
  show P__law_numbered_1 K p cl _ [.dat (.ref p), .un, .un, .un, .un, .un, .un, .un, .un, .un] st
  unfold P__law_numbered_1
  have p60 : CPow 10 60 := ⟨by decide, by decide, by decide⟩
  have p9 : CPow 10 9 := ⟨by decide, by decide, by decide⟩
  simp only [sSeq, sNil, sRet, sRetN, sSet, sSetF, sDrop, sIf, sPar, sAsg, sRaise, sPutD, pBin, pUn, pC, pVar, bindP, retP, pB, pTest, blD, pTru, truD, pNot, pAnd, pOr, pIf, pAndV, pOrV, pCons, pNil, pTup, pLst, pFV, pCall, pCall1, pCallB, pOwn, pBinV, pIxV, pPeek, pMnil, pMdat, pMown, setM, FV.dat, FV.sl, slotD, Sl.data, isL, isD, pAddL, fAddL, aAdd, aI, aSub, aMul, aMod, aDiv, aPow, aNeg, aIx, cEqX, cNeX, cEq, cNe, scalEq, cLt, cLe, cGt, cGe, cOrd, cIsN, cNotN, isNonD, fLen, fInt, fAbs, fList, pSl, slX, pPart, pNoPart, PP.intD, mAppend, mPopAt, mPop, mInsert, List.getElem?_cons_zero, List.getElem?_cons_succ, List.set_cons_zero, List.set_cons_succ, Option.some.injEq, exists_eq_left', Sl.own, Option.isSome_some, if_true, if_false, reduceCtorEq, Bool.false_eq_true, ite_true, ite_false, pCallB]
  refine ⟨p60, 10 ^ 60, rfl, by omega, by omega, fun a a0 a1 => ⟨p9, 10 ^ 9, rfl, by omega, by omega, fun b b0 b1 => ?_⟩⟩
  refine ⟨trivial, rfl, ?_⟩
  show P__law_numbered_2 K p cl _ [.dat (.ref p), .dat (.int a), .dat (.int (-1 - b)), .un, .un, .un, .un, .un, .un, .un] st
  generalize hb' : -1 - b = b' at *
  have tx : ∀ i : Int, i.natAbs < 2 ^ 210 → dText [D.int i] := fun i hi => ⟨_, rfl, .inr ⟨i, rfl, by
    by_cases hz : i.natAbs = 0
    · rw [hz, Nat.log2_zero]; omega
    · exact Nat.lt_of_lt_of_le ((Nat.log2_lt hz).mpr hi) (by decide)⟩⟩
  have ta := tx a (by omega)
  have tb := tx b' (by omega)
  unfold P__law_numbered_2
  simp only [sSeq, sNil, sRet, sRetN, sSet, sSetF, sDrop, sIf, sPar, sAsg, sRaise, sPutD, pBin, pUn, pC, pVar, bindP, retP, pB, pTest, blD, pTru, truD, pNot, pAnd, pOr, pIf, pAndV, pOrV, pCons, pNil, pTup, pLst, pFV, pCall, pCall1, pCallB, pOwn, pBinV, pIxV, pPeek, pMnil, pMdat, pMown, setM, FV.dat, FV.sl, slotD, Sl.data, isL, isD, pAddL, fAddL, aAdd, aI, aSub, aMul, aMod, aDiv, aPow, aNeg, aIx, cEqX, cNeX, cEq, cNe, scalEq, cLt, cLe, cGt, cGe, cOrd, cIsN, cNotN, isNonD, fLen, fInt, fAbs, fList, pSl, slX, pPart, pNoPart, PP.intD, mAppend, mPopAt, mPop, mInsert, List.getElem?_cons_zero, List.getElem?_cons_succ, List.set_cons_zero, List.set_cons_succ, Option.some.injEq, exists_eq_left', Sl.own, Option.isSome_some, if_true, if_false, reduceCtorEq, Bool.false_eq_true, ite_true, ite_false, pCallB, pMkX]
  refine ⟨⟨rfl, by simp, ta⟩, ⟨rfl, by simp, tb⟩, Nat.le_trans (by simp) sz, ⟨rfl, by simp, ta⟩, ⟨rfl, by simp, tb⟩, Nat.le_trans (by simp) sz, rfl, ?_⟩
  unfold P__law_numbered_3
  simp only [sSeq, sNil, sRet, sRetN, sSet, sSetF, sDrop, sIf, sPar, sAsg, sRaise, sPutD, pBin, pUn, pC, pVar, bindP, retP, pB, pTest, blD, pTru, truD, pNot, pAnd, pOr, pIf, pAndV, pOrV, pCons, pNil, pTup, pLst, pFV, pCall, pCall1, pCallB, pOwn, pBinV, pIxV, pPeek, pMnil, pMdat, pMown, setM, FV.dat, FV.sl, slotD, Sl.data, isL, isD, pAddL, fAddL, aAdd, aI, aSub, aMul, aMod, aDiv, aPow, aNeg, aIx, cEqX, cNeX, cEq, cNe, scalEq, cLt, cLe, cGt, cGe, cOrd, cIsN, cNotN, isNonD, fLen, fInt, fAbs, fList, pSl, slX, pPart, pNoPart, PP.intD, mAppend, mPopAt, mPop, mInsert, List.getElem?_cons_zero, List.getElem?_cons_succ, List.set_cons_zero, List.set_cons_succ, Option.some.injEq, exists_eq_left', Sl.own, Option.isSome_some, if_true, if_false, reduceCtorEq, Bool.false_eq_true, ite_true, ite_false, pCallB, pMkX]
  refine ⟨⟨rfl, by simp, trivial⟩, ⟨rfl, by simp, trivial⟩, Nat.le_trans (by simp) sz, ⟨rfl, by simp, trivial⟩, ⟨rfl, by simp, trivial⟩, Nat.le_trans (by simp) sz, rfl, ?_⟩
  unfold P__law_numbered_4
  refine ⟨Nat.zero_le _, ?_⟩
  unfold P__law_numbered_5
  refine ⟨by omega, by omega, fun _ => by decide, ?_⟩
  refine nb_body p cl a b' st _ 0 0 rfl (.inl rfl) [] _ (by simp) fun w1 => ?_
  refine nb_body p cl a b' st _ 1 1 rfl (.inr rfl) _ _ (by simp) fun w2 => ?_
  have key : ∀ (e : PP.Env), e[7]? = some (.dat (.lst (List.replicate 8 (.bl true)))) → P__law_numbered_11 K p cl { nx := fun x st' => Q D.non st', rt := Q, ex := fun x x_1 st' => R x st' } e st := ?_
  · simp only [loopEn, List.map_nil, forP]
    exact key _ rfl
  intro e he
  unfold P__law_numbered_11
  simp only [sSeq, sRet, pB, pBin, bindP, pC, retP]
  refine det_var he _ _ ⟨.inl ⟨rfl, rfl⟩, ?_⟩
  exact hq
theorem ok__law_numbered {P : Program} {w : World} {K : PySem.W.Frag} {mg : Str → Option Value} {base : Heap} (L : LF P K mg) (p cl : Addr) : FnOk P w K mg base (L2.CX P w) 3 (He.ga K "_law_numbered") L.f__law_numbered.fd ps__law_numbered (spD (penG p cl) K n__law_numbered (sp__law_numbered K p cl)) :=
  ok__law_numbered_of L p cl (fun ds st Q R ⟨e, _⟩ => by rw [e]; rfl) fun ds st Q R h => pl_numbered L p cl ds st Q R h

def P__law_texted_10 (K : PySem.W.Frag) (p cl : Addr) : PSx Unit := sSeq (sDrop (pOwn 8 isL mAppend (pCons (pAndV (pB (pBin cEqX (pUn (aXf (He.ga K "BrokenFact") "fact") (pBin aIx (pVar 7) (pVar 9))) (pBin aIx (pVar 1) (pVar 9)))) (pB (pBin cEqX (pCall (sp__law_classes K p cl) [] (pCons (pBin aIx (pVar 7) (pVar 9)) pNil)) (pFV (pLst (pCons (pC (.int 11)) pNil)))))) pNil))) sNil
def P__law_texted_9 (K : PySem.W.Frag) (p cl : Addr) : PSx Unit := sSeq (sDrop (pOwn 8 isL mAppend (pCons (pAndV (pB (pBin cEqX (pUn (aXf (He.ga K "Taken") "name") (pBin aIx (pVar 6) (pVar 9))) (pBin aIx (pVar 1) (pVar 9)))) (pB (pBin cEqX (pCall (sp__law_classes K p cl) [] (pCons (pBin aIx (pVar 6) (pVar 9)) pNil)) (pFV (pLst (pCons (pC (.int 8)) pNil)))))) pNil))) (P__law_texted_10 K p cl)
def P__law_texted_8 (K : PySem.W.Frag) (p cl : Addr) : PSx Unit := sSeq (sDrop (pOwn 8 isL mAppend (pCons (pAndV (pB (pBin cEqX (pUn (aXf (He.ga K "BadName") "name") (pBin aIx (pVar 5) (pVar 9))) (pBin aIx (pVar 1) (pVar 9)))) (pB (pBin cEqX (pCall (sp__law_classes K p cl) [] (pCons (pBin aIx (pVar 5) (pVar 9)) pNil)) (pFV (pLst (pCons (pC (.int 7)) pNil)))))) pNil))) (P__law_texted_9 K p cl)
def P__law_texted_7 (K : PySem.W.Frag) (p cl : Addr) : PSx Unit := sSeq (sDrop (pOwn 8 isL mAppend (pCons (pAndV (pB (pBin cEqX (pUn (aXf (He.ga K "NoName") "name") (pBin aIx (pVar 3) (pVar 9))) (pBin aIx (pVar 1) (pVar 9)))) (pB (pBin cEqX (pCall (sp__law_classes K p cl) [] (pCons (pBin aIx (pVar 3) (pVar 9)) pNil)) (pFV (pLst (pCons (pC (.int 6)) pNil)))))) pNil))) (P__law_texted_8 K p cl)
def P__law_texted_6 (K : PySem.W.Frag) (p cl : Addr) : PSx Unit := sSeq (sDrop (pOwn 8 isL mAppend (pCons (pAndV (pB (pBin cEqX (pUn (aXf (He.ga K "BadTables") "table") (pBin aIx (pVar 2) (pVar 9))) (pBin aIx (pVar 1) (pVar 9)))) (pB (pBin cEqX (pCall (sp__law_classes K p cl) [] (pCons (pBin aIx (pVar 2) (pVar 9)) pNil)) (pFV (pLst (pCons (pC (.int 0)) pNil)))))) pNil))) (P__law_texted_7 K p cl)
def P__law_texted_11 (K : PySem.W.Frag) (p cl : Addr) : PSx Unit := sSeq (sRet (pB (pBin cNotIn (pC (.bl false)) (pPeek 8)))) sNil
def P__law_texted_5 (K : PySem.W.Frag) (p cl : Addr) : PSx Unit := sSeq (sFor true 1024 (bindP (pCons (pC (.int 2)) pNil) fun ds => retP (rangeD ds)) (gN 9) (P__law_texted_6 K p cl)) (P__law_texted_11 K p cl)
def P__law_texted_4 (K : PySem.W.Frag) (p cl : Addr) : PSx Unit := sSeq (sPar [7, 8] (pMdat (pFV (pLc false 0 (pSeq (pVar 1)) (gN 4) (retP fun Q => Q true) (pMkX (He.ga K "BrokenFact") ["fact"] dAny (pCons (pVar 4) pNil)) [4])) (pMown (pLst pNil) pMnil))) (P__law_texted_5 K p cl)
def P__law_texted_3 (K : PySem.W.Frag) (p cl : Addr) : PSx Unit := sSeq (sPar [5, 6] (pMdat (pFV (pLc false 0 (pSeq (pVar 1)) (gN 4) (retP fun Q => Q true) (pMkX (He.ga K "BadName") ["name"] dAny (pCons (pVar 4) pNil)) [4])) (pMdat (pFV (pLc false 0 (pSeq (pVar 1)) (gN 4) (retP fun Q => Q true) (pMkX (He.ga K "Taken") ["name"] dAny (pCons (pVar 4) pNil)) [4])) pMnil))) (P__law_texted_4 K p cl)
def P__law_texted_2 (K : PySem.W.Frag) (p cl : Addr) : PSx Unit := sSeq (sPar [2, 3] (pMdat (pFV (pLc false 0 (pSeq (pVar 1)) (gN 4) (retP fun Q => Q true) (pMkX (He.ga K "BadTables") ["table"] dText (pCons (pVar 4) pNil)) [4])) (pMdat (pFV (pLc false 0 (pSeq (pVar 1)) (gN 4) (retP fun Q => Q true) (pMkX (He.ga K "NoName") ["name"] dAny (pCons (pVar 4) pNil)) [4])) pMnil))) (P__law_texted_3 K p cl)
def P__law_texted_1 (K : PySem.W.Frag) (p cl : Addr) : PSx Unit := sSeq (sSet 1 (pSl (pCall (sp__law_shuffled K p cl) [] (pCons (pVar 0) (pCons (pFV (pLst (pCons (pC (.str "")) (pCons (pC (.str "a")) (pCons (pC (.str "a b\n")) (pCons (pC (.str "unique a.k")) (pCons (pC (.str "abcdefghijklmnop")) pNil))))))) pNil))) pNoPart (pPart (pC (.int 2))))) (P__law_texted_2 K p cl)
abbrev P__law_texted (K : PySem.W.Frag) (p cl : Addr) : PSx Unit := (P__law_texted_1 K p cl)
def n__law_texted : Nat := 3072
theorem wk__law_texted {P : Program} {w : World} {K : PySem.W.Frag} {mg : Str → Option Value} {base : Heap} (L : LF P K mg) (p cl : Addr) (cdv : Value) (A : Around) (outer : List PySem.Env) (s : Shared) (H H0 : Hp) (E : XK) (A0 : Addr → Prop) (wx : WX) (hr : Room 2 (A.deeper (envOfC "_law_texted" (defScope st__law_texted) s.heap.objs.size (He.ga K "_law_texted") cdv)))
    (T : Takes (cxOf (L2.CX P w) P w K mg base N__law_texted "_law_texted" (defScope st__law_texted) (He.ga K "_law_texted") cdv A outer s H E) wx) :
    JSs (cxOf (L2.CX P w) P w K mg base N__law_texted "_law_texted" (defScope st__law_texted) (He.ga K "_law_texted") cdv A outer s H E) (⟨penG p cl, K, H0, A0, fun _ => False, fun _ => none, fun _ => False, wx⟩ : Bs Unit) (defBody st__law_texted) n__law_texted (P__law_texted K p cl) := by
  have c : Ctl (cxOf (L2.CX P w) P w K mg base N__law_texted "_law_texted" (defScope st__law_texted) (He.ga K "_law_texted") cdv A outer s H E) (⟨penG p cl, K, H0, A0, fun _ => False, fun _ => none, fun _ => False, wx⟩ : Bs Unit) K 2 := ⟨sc__law_texted.nd, rfl, rfl, rfl, hr, T, rfl⟩
  have po : PassesOwn (model P w) (cxOf (L2.CX P w) P w K mg base N__law_texted "_law_texted" (defScope st__law_texted) (He.ga K "_law_texted") cdv A outer s H E).A (cxOf (L2.CX P w) P w K mg base N__law_texted "_law_texted" (defScope st__law_texted) (He.ga K "_law_texted") cdv A outer s H E).env (cxOf (L2.CX P w) P w K mg base N__law_texted "_law_texted" (defScope st__law_texted) (He.ga K "_law_texted") cdv A outer s H E).xe := passes_of rfl
  have h : JSs (cxOf (L2.CX P w) P w K mg base N__law_texted "_law_texted" (defScope st__law_texted) (He.ga K "_law_texted") cdv A outer s H E) (⟨penG p cl, K, H0, A0, fun _ => False, fun _ => none, fun _ => False, wx⟩ : Bs Unit) (defBody st__law_texted) _ _ := (jss_cons (js_set 1 (je_slice c.kk (je_call c.tk (mo__law_shuffled K p cl) c.kk (ok__law_shuffled L p cl) (c.room.mono (by decide)) (by rfl) L.f__law_shuffled.m L.f__law_shuffled.F.kp (bd__law_shuffled L.f__law_shuffled) .nil (fun _ _ => .nil) (ja_cons (je_var 0) (ja_cons (je_f (jf_lst (ja_cons je_str (ja_cons je_str (ja_cons je_str (ja_cons je_str (ja_cons je_str ja_nil))))))) ja_nil))) jo_none (jo_some je_int)) c.nd)
    (jss_cons (js_par (i := 2) (j := 3) c.calm c.nd (jm_dat (je_f (jf_lc false 0 (fun _ => rfl) c.calm c.nd (ji_seq c.kk (je_var 1)) (blkOk_of (N := N__law_texted) (sc := defScope st__law_texted) (own := [("_law_text", 4)]) (by decide +kernel)) (by decide) (fun s1 H1 C1 cl1 fp1 L1 Z1 => (jg_name 4 (Ctl.blk c s1 H1 _ _ fp1 L1 Z1).nd)) (fun s1 H1 C1 cl1 fp1 L1 Z1 => jts_nil) (fun s1 H1 C1 cl1 fp1 L1 Z1 => (je_mkX okD_text (mk_BadTables L) ((Ctl.blk c s1 H1 _ _ fp1 L1 Z1).room.mono (by decide)) (by rfl) L.x_BadTables.m (ja_cons (je_var 4) ja_nil))))) (jm_dat (je_f (jf_lc false 0 (fun _ => rfl) c.calm c.nd (ji_seq c.kk (je_var 1)) (blkOk_of (N := N__law_texted) (sc := defScope st__law_texted) (own := [("_law_text", 4)]) (by decide +kernel)) (by decide) (fun s2 H2 C2 cl2 fp2 L2 Z2 => (jg_name 4 (Ctl.blk c s2 H2 _ _ fp2 L2 Z2).nd)) (fun s2 H2 C2 cl2 fp2 L2 Z2 => jts_nil) (fun s2 H2 C2 cl2 fp2 L2 Z2 => (je_mkX okD_any (mk_NoName L) ((Ctl.blk c s2 H2 _ _ fp2 L2 Z2).room.mono (by decide)) (by rfl) L.x_NoName.m (ja_cons (je_var 4) ja_nil))))) jm_nil)) (by rfl))
    (jss_cons (js_par (i := 5) (j := 6) c.calm c.nd (jm_dat (je_f (jf_lc false 0 (fun _ => rfl) c.calm c.nd (ji_seq c.kk (je_var 1)) (blkOk_of (N := N__law_texted) (sc := defScope st__law_texted) (own := [("_law_text", 4)]) (by decide +kernel)) (by decide) (fun s3 H3 C3 cl3 fp3 L3 Z3 => (jg_name 4 (Ctl.blk c s3 H3 _ _ fp3 L3 Z3).nd)) (fun s3 H3 C3 cl3 fp3 L3 Z3 => jts_nil) (fun s3 H3 C3 cl3 fp3 L3 Z3 => (je_mkX okD_any (mk_BadName L) ((Ctl.blk c s3 H3 _ _ fp3 L3 Z3).room.mono (by decide)) (by rfl) L.x_BadName.m (ja_cons (je_var 4) ja_nil))))) (jm_dat (je_f (jf_lc false 0 (fun _ => rfl) c.calm c.nd (ji_seq c.kk (je_var 1)) (blkOk_of (N := N__law_texted) (sc := defScope st__law_texted) (own := [("_law_text", 4)]) (by decide +kernel)) (by decide) (fun s4 H4 C4 cl4 fp4 L4 Z4 => (jg_name 4 (Ctl.blk c s4 H4 _ _ fp4 L4 Z4).nd)) (fun s4 H4 C4 cl4 fp4 L4 Z4 => jts_nil) (fun s4 H4 C4 cl4 fp4 L4 Z4 => (je_mkX okD_any (mk_Taken L) ((Ctl.blk c s4 H4 _ _ fp4 L4 Z4).room.mono (by decide)) (by rfl) L.x_Taken.m (ja_cons (je_var 4) ja_nil))))) jm_nil)) (by rfl))
    (jss_cons (js_par (i := 7) (j := 8) c.calm c.nd (jm_dat (je_f (jf_lc false 0 (fun _ => rfl) c.calm c.nd (ji_seq c.kk (je_var 1)) (blkOk_of (N := N__law_texted) (sc := defScope st__law_texted) (own := [("_law_text", 4)]) (by decide +kernel)) (by decide) (fun s5 H5 C5 cl5 fp5 L5 Z5 => (jg_name 4 (Ctl.blk c s5 H5 _ _ fp5 L5 Z5).nd)) (fun s5 H5 C5 cl5 fp5 L5 Z5 => jts_nil) (fun s5 H5 C5 cl5 fp5 L5 Z5 => (je_mkX okD_any (mk_BrokenFact L) ((Ctl.blk c s5 H5 _ _ fp5 L5 Z5).room.mono (by decide)) (by rfl) L.x_BrokenFact.m (ja_cons (je_var 4) ja_nil))))) (jm_own (jf_lst ja_nil) (fun L' Z' => jm_nil))) (by rfl))
    (jss_cons (js_for true 1024 (fun z => nomatch z) po c.calm (ji_range1 (by rfl) L.g_range (ja_cons je_int ja_nil)) (jg_name 9 c.nd) (jss_cons (js_expr (je_append 8 (ja_cons (je_and (ge_cmp (cr_eq c) (je_xv (C := He.ga K "BadTables") c.kk L.x_BadTables.xf (L.x_BadTables.o.no "table" (by decide)) (ge_ix c (je_var 2) (je_var 9))) (ge_ix c (je_var 1) (je_var 9)).jp) (je_and1 (ge_cmp (cr_eq c) (je_call c.tk (mo__law_classes K p cl) c.kk (ok__law_classes L p cl) (c.room.mono (by decide)) (by rfl) L.f__law_classes.m L.f__law_classes.F.kp (bd__law_classes L.f__law_classes) .nil (fun _ _ => .nil) (ja_cons (ge_ix c (je_var 2) (je_var 9)) ja_nil)) (je_f (jf_lst (ja_cons je_int ja_nil))).jp))) ja_nil)))
    (jss_cons (js_expr (je_append 8 (ja_cons (je_and (ge_cmp (cr_eq c) (je_xv (C := He.ga K "NoName") c.kk L.x_NoName.xf (L.x_NoName.o.no "name" (by decide)) (ge_ix c (je_var 3) (je_var 9))) (ge_ix c (je_var 1) (je_var 9)).jp) (je_and1 (ge_cmp (cr_eq c) (je_call c.tk (mo__law_classes K p cl) c.kk (ok__law_classes L p cl) (c.room.mono (by decide)) (by rfl) L.f__law_classes.m L.f__law_classes.F.kp (bd__law_classes L.f__law_classes) .nil (fun _ _ => .nil) (ja_cons (ge_ix c (je_var 3) (je_var 9)) ja_nil)) (je_f (jf_lst (ja_cons je_int ja_nil))).jp))) ja_nil)))
    (jss_cons (js_expr (je_append 8 (ja_cons (je_and (ge_cmp (cr_eq c) (je_xv (C := He.ga K "BadName") c.kk L.x_BadName.xf (L.x_BadName.o.no "name" (by decide)) (ge_ix c (je_var 5) (je_var 9))) (ge_ix c (je_var 1) (je_var 9)).jp) (je_and1 (ge_cmp (cr_eq c) (je_call c.tk (mo__law_classes K p cl) c.kk (ok__law_classes L p cl) (c.room.mono (by decide)) (by rfl) L.f__law_classes.m L.f__law_classes.F.kp (bd__law_classes L.f__law_classes) .nil (fun _ _ => .nil) (ja_cons (ge_ix c (je_var 5) (je_var 9)) ja_nil)) (je_f (jf_lst (ja_cons je_int ja_nil))).jp))) ja_nil)))
    (jss_cons (js_expr (je_append 8 (ja_cons (je_and (ge_cmp (cr_eq c) (je_xv (C := He.ga K "Taken") c.kk L.x_Taken.xf (L.x_Taken.o.no "name" (by decide)) (ge_ix c (je_var 6) (je_var 9))) (ge_ix c (je_var 1) (je_var 9)).jp) (je_and1 (ge_cmp (cr_eq c) (je_call c.tk (mo__law_classes K p cl) c.kk (ok__law_classes L p cl) (c.room.mono (by decide)) (by rfl) L.f__law_classes.m L.f__law_classes.F.kp (bd__law_classes L.f__law_classes) .nil (fun _ _ => .nil) (ja_cons (ge_ix c (je_var 6) (je_var 9)) ja_nil)) (je_f (jf_lst (ja_cons je_int ja_nil))).jp))) ja_nil)))
    (jss_cons (js_expr (je_append 8 (ja_cons (je_and (ge_cmp (cr_eq c) (je_xv (C := He.ga K "BrokenFact") c.kk L.x_BrokenFact.xf (L.x_BrokenFact.o.no "fact" (by decide)) (ge_ix c (je_var 7) (je_var 9))) (ge_ix c (je_var 1) (je_var 9)).jp) (je_and1 (ge_cmp (cr_eq c) (je_call c.tk (mo__law_classes K p cl) c.kk (ok__law_classes L p cl) (c.room.mono (by decide)) (by rfl) L.f__law_classes.m L.f__law_classes.F.kp (bd__law_classes L.f__law_classes) .nil (fun _ _ => .nil) (ja_cons (ge_ix c (je_var 7) (je_var 9)) ja_nil)) (je_f (jf_lst (ja_cons je_int ja_nil))).jp))) ja_nil)))
    jss_nil))))))
    (jss_cons (js_ret (ge_cmp (cr_notIn c) je_bl (jp_var 8)))
    jss_nil))))))
  exact h.le rfl
theorem ok__law_texted_of {P : Program} {w : World} {K : PySem.W.Frag} {mg : Str → Option Value} {base : Heap} (L : LF P K mg) (p cl : Addr) {psp : PSp Unit} (len : ∀ ds st Q R, psp ds st Q R → ds.length = ps__law_texted.length) (h : ∀ ds st Q R, psp ds st Q R → P__law_texted K p cl { nx := fun _ st' => Q .non st', rt := Q, ex := fun x _ st' => R x st' } (startE N__law_texted ds) st) :
    FnOk P w K mg base (L2.CX P w) 3 (He.ga K "_law_texted") L.f__law_texted.fd ps__law_texted (spD (penG p cl) K n__law_texted psp) := fn_pp L.f__law_texted.F sc__law_texted len (fun cdv A outer s H H0 E A0 wx hr T => wk__law_texted L p cl cdv A outer s H H0 E A0 wx hr T) h
theorem app_row {i : Nat} {row : Px Unit D} {N : PSx Unit} {Dd : En Unit} {ρ : PP.Env} {st : Unit} {xs : List D} (hr : ∀ Q R, Q (D.bl true) ρ st → row ρ st Q R) (h : ρ[i]? = some (.ownL xs)) (hx : xs.length ≤ 100) (z : N Dd (ρ.set i (.ownL (xs ++ [D.bl true]))) st) :
    sSeq (sDrop (pOwn i isL mAppend (pCons row pNil))) N Dd ρ st := by
  have sz : 2000 ≤ sizeLine := by rw [sizeLine_eq]; decide
  refine ⟨⟨_, h, rfl, trivial⟩, hr _ _ ⟨_, h, rfl, ?_⟩⟩
  exact (⟨by omega, rfl, z⟩ : xs.length < sizeLine ∧ _ ∧ _)
theorem notIn_peek {i : Nat} {ρ : PP.Env} {st : Unit} {n : Nat} (h : slotD ρ i = some (.lst (List.replicate n (.bl true)))) (Q : D → PP.Env → Unit → Prop) (R : Exn → PP.Env → Unit → Prop) (q : Q (.bl true) ρ st) : pB (pBin cNotIn (pC (.bl false)) (pPeek i)) ρ st Q R := by
  refine ⟨_, h, ?_⟩
  have e1 : ∀ n, (List.replicate n (D.bl true)).all flatD = true := by
    intro n
    induction n with
    | zero => rfl
    | succ n ih => rw [List.replicate_succ, List.all_cons, ih]; rfl
  have e2 : ∀ n, (List.replicate n (D.bl true)).any (fun z => eqD z (.bl false)) = false := by
    intro n
    induction n with
    | zero => rfl
    | succ n ih => rw [List.replicate_succ, List.any_cons, ih]; rfl
  refine ⟨.inl ⟨rfl, e1 n⟩, ?_⟩
  show Q (.bl (!(List.replicate n (D.bl true)).any fun z => eqD z (.bl false))) ρ st
  rw [e2]
  exact q
def ex2s (K : PySem.W.Frag) (c f : Str) (a b : Str) : Sl := .dat (.lst [.exn (He.ga K c) [(f, .str a)], .exn (He.ga K c) [(f, .str b)]])
theorem tx_body {K : PySem.W.Frag} (p cl : Addr) (a b : Str) (st : Unit) (Dd : En Unit) (k : Int) (j : Nat) (hk : k = j) (hj : j = 0 ∨ j = 1) (xs : List D) (y : Sl) (hx : xs.length ≤ 50)
    (h : Dd.nx [.dat (.ref p), .dat (.lst [.str a, .str b]), ex2s K "BadTables" "table" a b, ex2s K "NoName" "name" a b, .un, ex2s K "BadName" "name" a b, ex2s K "Taken" "name" a b, ex2s K "BrokenFact" "fact" a b, .ownL (xs ++ [.bl true] ++ [.bl true] ++ [.bl true] ++ [.bl true] ++ [.bl true]), .dat (.int k)] st) :
    P__law_texted_6 K p cl Dd [.dat (.ref p), .dat (.lst [.str a, .str b]), ex2s K "BadTables" "table" a b, ex2s K "NoName" "name" a b, .un, ex2s K "BadName" "name" a b, ex2s K "Taken" "name" a b, ex2s K "BrokenFact" "fact" a b, .ownL xs, .dat (.int k)] st := by
  have sz : 2000 ≤ sizeLine := by rw [sizeLine_eq]; decide
  have pick : ∃ v : Str, [D.str a, D.str b][j]? = some (.str v) ∧ ∀ c f : Str, [D.exn (He.ga K c) [(f, .str a)], .exn (He.ga K c) [(f, .str b)]][j]? = some (.exn (He.ga K c) [(f, .str v)]) := by
    rcases hj with rfl | rfl
    · exact ⟨a, rfl, fun _ _ => rfl⟩
    · exact ⟨b, rfl, fun _ _ => rfl⟩
  obtain ⟨v, pv, pe⟩ := pick
  unfold P__law_texted_6
  refine app_row ?_ rfl ?_ ?_
  · exact fun Q R q => row_ok (c := "BadTables") (n := 0) (det_ix rfl rfl (at2 j hk (pe _ _))) rfl (det_ix rfl rfl (at2 j hk pv)) (eq_str v) (by decide +kernel) q
  · omega
  unfold P__law_texted_7
  refine app_row ?_ rfl ?_ ?_
  · exact fun Q R q => row_ok (c := "NoName") (n := 6) (det_ix rfl rfl (at2 j hk (pe _ _))) rfl (det_ix rfl rfl (at2 j hk pv)) (eq_str v) (by decide +kernel) q
  · simp; omega
  unfold P__law_texted_8
  refine app_row ?_ rfl ?_ ?_
  · exact fun Q R q => row_ok (c := "BadName") (n := 7) (det_ix rfl rfl (at2 j hk (pe _ _))) rfl (det_ix rfl rfl (at2 j hk pv)) (eq_str v) (by decide +kernel) q
  · simp; omega
  unfold P__law_texted_9
  refine app_row ?_ rfl ?_ ?_
  · exact fun Q R q => row_ok (c := "Taken") (n := 8) (det_ix rfl rfl (at2 j hk (pe _ _))) rfl (det_ix rfl rfl (at2 j hk pv)) (eq_str v) (by decide +kernel) q
  · simp; omega
  unfold P__law_texted_10
  refine app_row ?_ rfl ?_ ?_
  · exact fun Q R q => row_ok (c := "BrokenFact") (n := 11) (det_ix rfl rfl (at2 j hk (pe _ _))) rfl (det_ix rfl rfl (at2 j hk pv)) (eq_str v) (by decide +kernel) q
  · simp; omega
  exact h
def txts : List Str := ["", "a", "a b\n", "unique a.k", "abcdefghijklmnop"]
theorem txts_ok : ∀ s ∈ txts, okS s = true ∧ s.length ≤ 1000 := by decide +kernel
theorem pl_texted {P : Program} {K : PySem.W.Frag} {mg : Str → Option Value} (L : LF P K mg) (p cl : Addr) (ds : List D) (st : Unit) (Q : D → Unit → Prop) (R : Exn → Unit → Prop) (h : sp__law_texted K p cl ds st Q R) :
    P__law_texted K p cl { nx := fun _ st' => Q .non st', rt := Q, ex := fun x _ st' => R x st' } (startE N__law_texted ds) st := by
  obtain ⟨rfl, hq⟩ := h
  have sz : 2000 ≤ sizeLine := by rw [sizeLine_eq]; decide
  show P__law_texted_1 K p cl _ [.dat (.ref p), .un, .un, .un, .un, .un, .un, .un, .un, .un] st
  unfold P__law_texted_1
  simp only [sSeq, sNil, sRet, sRetN, sSet, sSetF, sDrop, sIf, sPar, sAsg, sRaise, sPutD, pBin, pUn, pC, pVar, bindP, retP, pB, pTest, blD, pTru, truD, pNot, pAnd, pOr, pIf, pAndV, pOrV, pCons, pNil, pTup, pLst, pFV, pCall, pCall1, pCallB, pOwn, pBinV, pIxV, pPeek, pMnil, pMdat, pMown, setM, FV.dat, FV.sl, slotD, Sl.data, isL, isD, pAddL, fAddL, aAdd, aI, aSub, aMul, aMod, aDiv, aPow, aNeg, aIx, cEqX, cNeX, cEq, cNe, scalEq, cLt, cLe, cGt, cGe, cOrd, cIsN, cNotN, isNonD, fLen, fInt, fAbs, fList, pSl, slX, pPart, pNoPart, PP.intD, mAppend, mPopAt, mPop, mInsert, List.getElem?_cons_zero, List.getElem?_cons_succ, List.set_cons_zero, List.set_cons_succ, Option.some.injEq, exists_eq_left', Sl.own, Option.isSome_some, if_true, if_false, reduceCtorEq, Bool.false_eq_true, ite_true, ite_false, pCallB]
  refine ⟨Nat.le_trans (by simp) sz, txts, rfl, by decide, fun s hs => (txts_ok s hs).1, fun ys hp => ?_⟩
  have hl : ys.length = 5 := hp.length_eq
  obtain ⟨a, b, zs, rfl⟩ : ∃ a b zs, ys = a :: b :: zs := by
    match ys, hl with
    | a :: b :: zs, _ => exact ⟨a, b, zs, rfl⟩
  have ha := (txts_ok a (hp.mem_iff.mp (List.mem_cons_self ..))).2
  have hb := (txts_ok b (hp.mem_iff.mp (List.mem_cons_of_mem _ (List.mem_cons_self ..)))).2
  have ta : dText [D.str a] := ⟨_, rfl, .inl ⟨a, rfl, ha⟩⟩
  have tb : dText [D.str b] := ⟨_, rfl, .inl ⟨b, rfl, hb⟩⟩
  have e : cutL ((a :: b :: zs).map D.str) none (some 2) = [.str a, .str b] := cut_take _ 2
  dsimp only
  rw [e]
  unfold P__law_texted_2
  simp only [sSeq, sNil, sRet, sRetN, sSet, sSetF, sDrop, sIf, sPar, sAsg, sRaise, sPutD, pBin, pUn, pC, pVar, bindP, retP, pB, pTest, blD, pTru, truD, pNot, pAnd, pOr, pIf, pAndV, pOrV, pCons, pNil, pTup, pLst, pFV, pCall, pCall1, pCallB, pOwn, pBinV, pIxV, pPeek, pMnil, pMdat, pMown, setM, FV.dat, FV.sl, slotD, Sl.data, isL, isD, pAddL, fAddL, aAdd, aI, aSub, aMul, aMod, aDiv, aPow, aNeg, aIx, cEqX, cNeX, cEq, cNe, scalEq, cLt, cLe, cGt, cGe, cOrd, cIsN, cNotN, isNonD, fLen, fInt, fAbs, fList, pSl, slX, pPart, pNoPart, PP.intD, mAppend, mPopAt, mPop, mInsert, List.getElem?_cons_zero, List.getElem?_cons_succ, List.set_cons_zero, List.set_cons_succ, Option.some.injEq, exists_eq_left', Sl.own, Option.isSome_some, if_true, if_false, reduceCtorEq, Bool.false_eq_true, ite_true, ite_false, pCallB, pMkX, pSeq, seqD, pLc, compP, gN, wipeE, backE, keptS]
  have f1 : ∀ n : Nat, False → n ≤ 0 := fun _ h => h.elim
  have f2 : [D.str a, D.str b].length ≤ sizeLine := Nat.le_trans (by simp) sz
  have ma : ∀ f : Str, [D.str a].length = [f].length ∧ [D.str a].length ≤ 1000 ∧ dAny [D.str a] := fun f => ⟨rfl, by simp, trivial⟩
  have mb : ∀ f : Str, [D.str b].length = [f].length ∧ [D.str b].length ≤ 1000 ∧ dAny [D.str b] := fun f => ⟨rfl, by simp, trivial⟩
  refine ⟨f1 _, f2, ⟨rfl, by simp, ta⟩, ⟨rfl, by simp, tb⟩, f1 _, f2, ma _, mb _, rfl, ?_⟩
  unfold P__law_texted_3
  simp only [sSeq, sNil, sRet, sRetN, sSet, sSetF, sDrop, sIf, sPar, sAsg, sRaise, sPutD, pBin, pUn, pC, pVar, bindP, retP, pB, pTest, blD, pTru, truD, pNot, pAnd, pOr, pIf, pAndV, pOrV, pCons, pNil, pTup, pLst, pFV, pCall, pCall1, pCallB, pOwn, pBinV, pIxV, pPeek, pMnil, pMdat, pMown, setM, FV.dat, FV.sl, slotD, Sl.data, isL, isD, pAddL, fAddL, aAdd, aI, aSub, aMul, aMod, aDiv, aPow, aNeg, aIx, cEqX, cNeX, cEq, cNe, scalEq, cLt, cLe, cGt, cGe, cOrd, cIsN, cNotN, isNonD, fLen, fInt, fAbs, fList, pSl, slX, pPart, pNoPart, PP.intD, mAppend, mPopAt, mPop, mInsert, List.getElem?_cons_zero, List.getElem?_cons_succ, List.set_cons_zero, List.set_cons_succ, Option.some.injEq, exists_eq_left', Sl.own, Option.isSome_some, if_true, if_false, reduceCtorEq, Bool.false_eq_true, ite_true, ite_false, pCallB, pMkX, pSeq, seqD, pLc, compP, gN, wipeE, backE, keptS]
  refine ⟨f1 _, f2, ma _, mb _, f1 _, f2, ma _, mb _, rfl, ?_⟩
  unfold P__law_texted_4
  simp only [sSeq, sNil, sRet, sRetN, sSet, sSetF, sDrop, sIf, sPar, sAsg, sRaise, sPutD, pBin, pUn, pC, pVar, bindP, retP, pB, pTest, blD, pTru, truD, pNot, pAnd, pOr, pIf, pAndV, pOrV, pCons, pNil, pTup, pLst, pFV, pCall, pCall1, pCallB, pOwn, pBinV, pIxV, pPeek, pMnil, pMdat, pMown, setM, FV.dat, FV.sl, slotD, Sl.data, isL, isD, pAddL, fAddL, aAdd, aI, aSub, aMul, aMod, aDiv, aPow, aNeg, aIx, cEqX, cNeX, cEq, cNe, scalEq, cLt, cLe, cGt, cGe, cOrd, cIsN, cNotN, isNonD, fLen, fInt, fAbs, fList, pSl, slX, pPart, pNoPart, PP.intD, mAppend, mPopAt, mPop, mInsert, List.getElem?_cons_zero, List.getElem?_cons_succ, List.set_cons_zero, List.set_cons_succ, Option.some.injEq, exists_eq_left', Sl.own, Option.isSome_some, if_true, if_false, reduceCtorEq, Bool.false_eq_true, ite_true, ite_false, pCallB, pMkX, pSeq, seqD, pLc, compP, gN, wipeE, backE, keptS]
  refine ⟨f1 _, f2, ma _, mb _, Nat.le_trans (by simp) sz, rfl, ?_⟩
  unfold P__law_texted_5
  refine ⟨by omega, by omega, fun _ => by decide, ?_⟩
  refine tx_body p cl a b st _ 0 0 rfl (.inl rfl) [] .un (by simp) ?_
  refine tx_body p cl a b st _ 1 1 rfl (.inr rfl) _ .un (by simp) ?_
  have key : ∀ (e : PP.Env), slotD e 8 = some (.lst (List.replicate 10 (.bl true))) → P__law_texted_11 K p cl { nx := fun x st' => Q D.non st', rt := Q, ex := fun x x_1 st' => R x st' } e st := ?_
  · simp only [loopEn, List.map_nil, forP]
    exact key _ rfl
  intro e he
  unfold P__law_texted_11
  exact notIn_peek (n := 10) he _ _ hq
theorem ok__law_texted {P : Program} {w : World} {K : PySem.W.Frag} {mg : Str → Option Value} {base : Heap} (L : LF P K mg) (p cl : Addr) : FnOk P w K mg base (L2.CX P w) 3 (He.ga K "_law_texted") L.f__law_texted.fd ps__law_texted (spD (penG p cl) K n__law_texted (sp__law_texted K p cl)) :=
  ok__law_texted_of L p cl (fun ds st Q R ⟨e, _⟩ => by rw [e]; rfl) fun ds st Q R h => pl_texted L p cl ds st Q R h

def P__law_shown_7 (K : PySem.W.Frag) (p cl : Addr) : PSx Unit := sSeq (sDrop (pOwn 2 isL mAppend (pCons (pAndV (pB (pBin cEqX (pUn (aXf (He.ga K "Rests") "name") (pBin aIx (pVar 6) (pVar 4))) (pBin aIx (pVar 1) (pVar 4)))) (pAndV (pB (pBin cEqX (pUn (aXf (He.ga K "Rests") "tables") (pBin aIx (pVar 6) (pVar 4))) (pVar 7))) (pB (pBin cEqX (pCall (sp__law_classes K p cl) [] (pCons (pBin aIx (pVar 6) (pVar 4)) pNil)) (pFV (pLst (pCons (pC (.int 10)) pNil))))))) pNil))) sNil
def P__law_shown_6 (K : PySem.W.Frag) (p cl : Addr) : PSx Unit := sSeq (sDrop (pOwn 2 isL mAppend (pCons (pAndV (pB (pBin cEqX (pUn (aXf (He.ga K "NotAlike") "name") (pBin aIx (pVar 5) (pVar 4))) (pBin aIx (pVar 1) (pVar 4)))) (pAndV (pB (pBin cEqX (pUn (aXf (He.ga K "NotAlike") "tables") (pBin aIx (pVar 5) (pVar 4))) (pVar 7))) (pB (pBin cEqX (pCall (sp__law_classes K p cl) [] (pCons (pBin aIx (pVar 5) (pVar 4)) pNil)) (pFV (pLst (pCons (pC (.int 9)) pNil))))))) pNil))) (P__law_shown_7 K p cl)
def P__law_shown_5 (K : PySem.W.Frag) (p cl : Addr) : PSx Unit := sSeq (sSet 7 (pFV (pDisp (pPcons (pBin aIx (pVar 1) (pC (.int 2))) (pFV (pLst (pCons (pBin aIx (pBin aIx (pBin aIx (pVar 3) (pVar 4)) (pBin aIx (pVar 1) (pC (.int 2)))) (pC (.int 0))) pNil))) (pPcons (pBin aIx (pVar 1) (pC (.int 3))) (pFV (pLst pNil)) pPnil))))) (P__law_shown_6 K p cl)
def P__law_shown_9 (K : PySem.W.Frag) (p cl : Addr) : PSx Unit := sSeq (sRet (pAndV (pB (pBin cNotIn (pC (.bl false)) (pPeek 2))) (pB (pBin cEqX (pCall (sp__law_classes K p cl) [] (pCons (pC (.exn (He.ga K "LookError") [])) pNil)) (pFV (pLst pNil)))))) sNil
def P__law_shown_8 (K : PySem.W.Frag) (p cl : Addr) : PSx Unit := sSeq (sSetF 2 (pAddL (pVar 2) (pFV (pLst (pCons (pB (pBin cEqX (pCall (sp__law_classes K p cl) [] (pCons (pC (.exn (He.ga K "OtherTables") [])) pNil)) (pFV (pLst (pCons (pC (.int 3)) pNil))))) (pCons (pB (pBin cEqX (pCall (sp__law_classes K p cl) [] (pCons (pC (.exn (He.ga K "NothingToUndo") [])) pNil)) (pFV (pLst (pCons (pC (.int 12)) pNil))))) pNil)))))) (P__law_shown_9 K p cl)
def P__law_shown_4 (K : PySem.W.Frag) (p cl : Addr) : PSx Unit := sSeq (sFor true 1024 (bindP (pCons (pC (.int 2)) pNil) fun ds => retP (rangeD ds)) (gN 4) (P__law_shown_5 K p cl)) (P__law_shown_8 K p cl)
def P__law_shown_3 (K : PySem.W.Frag) (p cl : Addr) : PSx Unit := sSeq (sPar [5, 6] (pMdat (pFV (pLc false 0 (bindP (pCons (pC (.int 2)) pNil) fun ds => retP (rangeD ds)) (gN 4) (retP fun Q => Q true) (pMkX (He.ga K "NotAlike") ["name", "tables"] dAny (pCons (pBin aIx (pVar 1) (pVar 4)) (pCons (pBin aIx (pVar 3) (pVar 4)) pNil))) [4])) (pMdat (pFV (pLc false 0 (bindP (pCons (pC (.int 2)) pNil) fun ds => retP (rangeD ds)) (gN 4) (retP fun Q => Q true) (pMkX (He.ga K "Rests") ["name", "tables"] dAny (pCons (pBin aIx (pVar 1) (pVar 4)) (pCons (pBin aIx (pVar 3) (pVar 4)) pNil))) [4])) pMnil))) (P__law_shown_4 K p cl)
def P__law_shown_2 (K : PySem.W.Frag) (p cl : Addr) : PSx Unit := sSeq (sSet 3 (pFV (pLc true 1024 (bindP (pCons (pC (.int 2)) pNil) fun ds => retP (rangeD ds)) (gN 4) (retP fun Q => Q true) (pFV (pDisp (pPcons (pBin aIx (pVar 1) (pC (.int 2))) (pFV (pLst (pCons (pTup (pCons (pCall (sp__law_new_integer K p cl) [] (pCons (pVar 0) pNil)) (pCons (pVar 4) pNil))) pNil))) (pPcons (pBin aIx (pVar 1) (pC (.int 3))) (pFV (pLst pNil)) pPnil)))) [4]))) (P__law_shown_3 K p cl)
def P__law_shown_1 (K : PySem.W.Frag) (p cl : Addr) : PSx Unit := sSeq (sPar [1, 2] (pMdat (pCall (sp__law_new_names K p cl) [] (pCons (pVar 0) (pCons (pC (.int 4)) pNil))) (pMown (pLst pNil) pMnil))) (P__law_shown_2 K p cl)
abbrev P__law_shown (K : PySem.W.Frag) (p cl : Addr) : PSx Unit := (P__law_shown_1 K p cl)
def n__law_shown : Nat := 18432
theorem wk__law_shown {P : Program} {w : World} {K : PySem.W.Frag} {mg : Str → Option Value} {base : Heap} (L : LF P K mg) (p cl : Addr) (cdv : Value) (A : Around) (outer : List PySem.Env) (s : Shared) (H H0 : Hp) (E : XK) (A0 : Addr → Prop) (wx : WX) (hr : Room 3 (A.deeper (envOfC "_law_shown" (defScope st__law_shown) s.heap.objs.size (He.ga K "_law_shown") cdv)))
    (T : Takes (cxOf (L2.CX P w) P w K mg base N__law_shown "_law_shown" (defScope st__law_shown) (He.ga K "_law_shown") cdv A outer s H E) wx) :
    JSs (cxOf (L2.CX P w) P w K mg base N__law_shown "_law_shown" (defScope st__law_shown) (He.ga K "_law_shown") cdv A outer s H E) (⟨penG p cl, K, H0, A0, fun _ => False, fun _ => none, fun _ => False, wx⟩ : Bs Unit) (defBody st__law_shown) n__law_shown (P__law_shown K p cl) := by
  have c : Ctl (cxOf (L2.CX P w) P w K mg base N__law_shown "_law_shown" (defScope st__law_shown) (He.ga K "_law_shown") cdv A outer s H E) (⟨penG p cl, K, H0, A0, fun _ => False, fun _ => none, fun _ => False, wx⟩ : Bs Unit) K 3 := ⟨sc__law_shown.nd, rfl, rfl, rfl, hr, T, rfl⟩
  have po : PassesOwn (model P w) (cxOf (L2.CX P w) P w K mg base N__law_shown "_law_shown" (defScope st__law_shown) (He.ga K "_law_shown") cdv A outer s H E).A (cxOf (L2.CX P w) P w K mg base N__law_shown "_law_shown" (defScope st__law_shown) (He.ga K "_law_shown") cdv A outer s H E).env (cxOf (L2.CX P w) P w K mg base N__law_shown "_law_shown" (defScope st__law_shown) (He.ga K "_law_shown") cdv A outer s H E).xe := passes_of rfl
  have h : JSs (cxOf (L2.CX P w) P w K mg base N__law_shown "_law_shown" (defScope st__law_shown) (He.ga K "_law_shown") cdv A outer s H E) (⟨penG p cl, K, H0, A0, fun _ => False, fun _ => none, fun _ => False, wx⟩ : Bs Unit) (defBody st__law_shown) _ _ := (jss_cons (js_parU c (pgn_cons 1 c.nd (pgn_cons 2 c.nd pgn_nil)) (jm_dat (je_call c.tk (mo__law_new_names K p cl) c.kk (ok__law_new_names L p cl) (c.room.mono (by decide)) (by rfl) L.f__law_new_names.m L.f__law_new_names.F.kp (bd__law_new_names L.f__law_new_names) .nil (fun _ _ => .nil) (ja_cons (je_var 0) (ja_cons je_int ja_nil))) (jm_own (jf_lst ja_nil) (fun L' Z' => jm_nil))))
    (jss_cons (js_set 3 (je_f (jf_lc true 1024 (fun z => nomatch z) c.calm c.nd (ji_range1 (by rfl) L.g_range (ja_cons je_int ja_nil)) (blkOk_of (N := N__law_shown) (sc := defScope st__law_shown) (own := [("_law_k", 4)]) (by decide +kernel)) (by decide) (fun s1 H1 C1 cl1 fp1 L1 Z1 => (jg_name 4 (Ctl.blk c s1 H1 _ _ fp1 L1 Z1).nd)) (fun s1 H1 C1 cl1 fp1 L1 Z1 => jts_nil) (fun s1 H1 C1 cl1 fp1 L1 Z1 => (je_f (jf_disp (jpr_cons (fun L' Z' => (ge_ix (Ctl.bkB (Ctl.blk c s1 H1 _ _ fp1 L1 Z1) L' Z') (je_var 1) je_int)) (fun L' Z' => (je_f (jf_lst (ja_cons (je_tup (ja_cons (je_call (Ctl.bkB (Ctl.blk c s1 H1 _ _ fp1 L1 Z1) L' Z').tk (mo__law_new_integer K p cl) (Ctl.bkB (Ctl.blk c s1 H1 _ _ fp1 L1 Z1) L' Z').kk (ok__law_new_integer L p cl) ((Ctl.bkB (Ctl.blk c s1 H1 _ _ fp1 L1 Z1) L' Z').room.mono (by decide)) (by rfl) L.f__law_new_integer.m L.f__law_new_integer.F.kp (bd__law_new_integer L.f__law_new_integer) .nil (fun _ _ => .nil) (ja_cons (je_var 0) ja_nil)) (ja_cons (je_var 4) ja_nil))) ja_nil)))) (jpr_cons (fun L' Z' => (ge_ix (Ctl.bkB (Ctl.blk c s1 H1 _ _ fp1 L1 Z1) L' Z') (je_var 1) je_int)) (fun L' Z' => (je_f (jf_lst ja_nil))) jpr_nil))))))) c.nd)
    (jss_cons (js_par (i := 5) (j := 6) c.calm c.nd (jm_dat (je_f (jf_lc false 0 (fun _ => rfl) c.calm c.nd (ji_range1 (by rfl) L.g_range (ja_cons je_int ja_nil)) (blkOk_of (N := N__law_shown) (sc := defScope st__law_shown) (own := [("_law_k", 4)]) (by decide +kernel)) (by decide) (fun s2 H2 C2 cl2 fp2 L2 Z2 => (jg_name 4 (Ctl.blk c s2 H2 _ _ fp2 L2 Z2).nd)) (fun s2 H2 C2 cl2 fp2 L2 Z2 => jts_nil) (fun s2 H2 C2 cl2 fp2 L2 Z2 => (je_mkX okD_any (mk_NotAlike L) ((Ctl.blk c s2 H2 _ _ fp2 L2 Z2).room.mono (by decide)) (by rfl) L.x_NotAlike.m (ja_cons (ge_ix (Ctl.blk c s2 H2 _ _ fp2 L2 Z2) (je_var 1) (je_var 4)) (ja_cons (ge_ix (Ctl.blk c s2 H2 _ _ fp2 L2 Z2) (je_var 3) (je_var 4)) ja_nil)))))) (jm_dat (je_f (jf_lc false 0 (fun _ => rfl) c.calm c.nd (ji_range1 (by rfl) L.g_range (ja_cons je_int ja_nil)) (blkOk_of (N := N__law_shown) (sc := defScope st__law_shown) (own := [("_law_k", 4)]) (by decide +kernel)) (by decide) (fun s3 H3 C3 cl3 fp3 L3 Z3 => (jg_name 4 (Ctl.blk c s3 H3 _ _ fp3 L3 Z3).nd)) (fun s3 H3 C3 cl3 fp3 L3 Z3 => jts_nil) (fun s3 H3 C3 cl3 fp3 L3 Z3 => (je_mkX okD_any (mk_Rests L) ((Ctl.blk c s3 H3 _ _ fp3 L3 Z3).room.mono (by decide)) (by rfl) L.x_Rests.m (ja_cons (ge_ix (Ctl.blk c s3 H3 _ _ fp3 L3 Z3) (je_var 1) (je_var 4)) (ja_cons (ge_ix (Ctl.blk c s3 H3 _ _ fp3 L3 Z3) (je_var 3) (je_var 4)) ja_nil)))))) jm_nil)) (by rfl))
    (jss_cons (js_for true 1024 (fun z => nomatch z) po c.calm (ji_range1 (by rfl) L.g_range (ja_cons je_int ja_nil)) (jg_name 4 c.nd) (jss_cons (js_set 7 (je_f (jf_disp (jpr_cons (fun L' Z' => (ge_ix (c.bkB L' Z') (je_var 1) je_int)) (fun L' Z' => (je_f (jf_lst (ja_cons (ge_ix (c.bkB L' Z') (ge_ix (c.bkB L' Z') (ge_ix (c.bkB L' Z') (je_var 3) (je_var 4)) (ge_ix (c.bkB L' Z') (je_var 1) je_int)) je_int) ja_nil)))) (jpr_cons (fun L' Z' => (ge_ix (c.bkB L' Z') (je_var 1) je_int)) (fun L' Z' => (je_f (jf_lst ja_nil))) jpr_nil)))) c.nd)
    (jss_cons (js_expr (je_append 2 (ja_cons (je_and (ge_cmp (cr_eq c) (je_xv (C := He.ga K "NotAlike") c.kk L.x_NotAlike.xf (L.x_NotAlike.o.no "name" (by decide)) (ge_ix c (je_var 5) (je_var 4))) (ge_ix c (je_var 1) (je_var 4)).jp) (je_and (ge_cmp (cr_eq c) (je_xv (C := He.ga K "NotAlike") c.kk L.x_NotAlike.xf (L.x_NotAlike.o.no "tables" (by decide)) (ge_ix c (je_var 5) (je_var 4))) (je_var 7).jp) (je_and1 (ge_cmp (cr_eq c) (je_call c.tk (mo__law_classes K p cl) c.kk (ok__law_classes L p cl) (c.room.mono (by decide)) (by rfl) L.f__law_classes.m L.f__law_classes.F.kp (bd__law_classes L.f__law_classes) .nil (fun _ _ => .nil) (ja_cons (ge_ix c (je_var 5) (je_var 4)) ja_nil)) (je_f (jf_lst (ja_cons je_int ja_nil))).jp)))) ja_nil)))
    (jss_cons (js_expr (je_append 2 (ja_cons (je_and (ge_cmp (cr_eq c) (je_xv (C := He.ga K "Rests") c.kk L.x_Rests.xf (L.x_Rests.o.no "name" (by decide)) (ge_ix c (je_var 6) (je_var 4))) (ge_ix c (je_var 1) (je_var 4)).jp) (je_and (ge_cmp (cr_eq c) (je_xv (C := He.ga K "Rests") c.kk L.x_Rests.xf (L.x_Rests.o.no "tables" (by decide)) (ge_ix c (je_var 6) (je_var 4))) (je_var 7).jp) (je_and1 (ge_cmp (cr_eq c) (je_call c.tk (mo__law_classes K p cl) c.kk (ok__law_classes L p cl) (c.room.mono (by decide)) (by rfl) L.f__law_classes.m L.f__law_classes.F.kp (bd__law_classes L.f__law_classes) .nil (fun _ _ => .nil) (ja_cons (ge_ix c (je_var 6) (je_var 4)) ja_nil)) (je_f (jf_lst (ja_cons je_int ja_nil))).jp)))) ja_nil)))
    jss_nil))))
    (jss_cons (js_setF 2 (jf_add (je_var 2) (je_f (jf_lst (ja_cons (ge_cmp (cr_eq c) (je_call c.tk (mo__law_classes K p cl) c.kk (ok__law_classes L p cl) (c.room.mono (by decide)) (by rfl) L.f__law_classes.m L.f__law_classes.F.kp (bd__law_classes L.f__law_classes) .nil (fun _ _ => .nil) (ja_cons (je_mkX0 okD_any (mk_OtherTables L) (c.room.mono (by decide)) (by rfl) L.x_OtherTables.m trivial) ja_nil)) (je_f (jf_lst (ja_cons je_int ja_nil))).jp) (ja_cons (ge_cmp (cr_eq c) (je_call c.tk (mo__law_classes K p cl) c.kk (ok__law_classes L p cl) (c.room.mono (by decide)) (by rfl) L.f__law_classes.m L.f__law_classes.F.kp (bd__law_classes L.f__law_classes) .nil (fun _ _ => .nil) (ja_cons (je_mkX0 okD_any (mk_NothingToUndo L) (c.room.mono (by decide)) (by rfl) L.x_NothingToUndo.m trivial) ja_nil)) (je_f (jf_lst (ja_cons je_int ja_nil))).jp) ja_nil))))) c.nd)
    (jss_cons (js_ret (je_and (ge_cmp (cr_notIn c) je_bl (jp_var 2)) (je_and1 (ge_cmp (cr_eq c) (je_call c.tk (mo__law_classes K p cl) c.kk (ok__law_classes L p cl) (c.room.mono (by decide)) (by rfl) L.f__law_classes.m L.f__law_classes.F.kp (bd__law_classes L.f__law_classes) .nil (fun _ _ => .nil) (ja_cons (je_mkN L.e_LookError.oex L.e_LookError.ein (by rfl) L.e_LookError.m) ja_nil)) (je_f (jf_lst ja_nil)).jp))))
    jss_nil))))))
  exact h.le rfl
theorem ok__law_shown_of {P : Program} {w : World} {K : PySem.W.Frag} {mg : Str → Option Value} {base : Heap} (L : LF P K mg) (p cl : Addr) {psp : PSp Unit} (len : ∀ ds st Q R, psp ds st Q R → ds.length = ps__law_shown.length) (h : ∀ ds st Q R, psp ds st Q R → P__law_shown K p cl { nx := fun _ st' => Q .non st', rt := Q, ex := fun x _ st' => R x st' } (startE N__law_shown ds) st) :
    FnOk P w K mg base (L2.CX P w) 4 (He.ga K "_law_shown") L.f__law_shown.fd ps__law_shown (spD (penG p cl) K n__law_shown psp) := fn_pp L.f__law_shown.F sc__law_shown len (fun cdv A outer s H H0 E A0 wx hr T => wk__law_shown L p cl cdv A outer s H H0 E A0 wx hr T) h
def dNm (n2 n3 : Str) (i k : Int) : List (Key × D) := [(.inr n2, .lst [.tup [.int i, .int k]]), (.inr n3, .lst [])]
theorem merge2 {n2 n3 : Str} (h : n2 ≠ n3) (a b : D) : mergeD [] [(Sum.inr n2, a), (Sum.inr n3, b)] = [(Sum.inr n2, a), (Sum.inr n3, b)] := by
  unfold mergeD
  simp [putD, h]
theorem ex4 {α : Type} {l : List α} (h : l.length = 4) : ∃ a b c d, l = [a, b, c, d] := by
  match l, h with
  | [a, b, c, d], _ => exact ⟨a, b, c, d, rfl⟩
theorem at4_2 (a b c d : D) : atI [a, b, c, d] 2 = some c := rfl
theorem at4_3 (a b c d : D) : atI [a, b, c, d] 3 = some d := rfl
theorem at4_0 (a b c d : D) : atI [a, b, c, d] 0 = some a := rfl
theorem at4_1 (a b c d : D) : atI [a, b, c, d] 1 = some b := rfl
theorem at2_0 (a b : D) : atI [a, b] 0 = some a := rfl
theorem at2_1 (a b : D) : atI [a, b] 1 = some b := rfl
theorem at1_0 (a : D) : atI [a] 0 = some a := rfl
theorem rg2 : ((List.range (Int.toNat 2)).map fun k : Nat => D.int (k : Int)) = [D.int 0, D.int 1] := rfl
theorem det_and {a b : Px Unit D} {ρ : PP.Env} {st : Unit} {d : D} (h1 : Det a ρ st (.bl true)) (h2 : Det b ρ st d) : Det (pAndV a b) ρ st d := fun Q R q => h1 _ _ (h2 _ _ q)
theorem det_xf {C : Addr} {f : Str} {pe pv : Px Unit D} {ρ : PP.Env} {st : Unit} {fs : List (Str × D)} {v : D} (he : Det pe ρ st (.exn C fs)) (hf : fs.lookup f = some v) (hv : Det pv ρ st v) (heq : ∀ Q : Bool → Prop, Q true → cEqX v v Q) : Det (pB (pBin cEqX (pUn (aXf C f) pe) pv)) ρ st (.bl true) :=
  fun Q R q => he _ _ ⟨fs, v, rfl, hf, hv _ _ (heq _ q)⟩
theorem det_cls {K : PySem.W.Frag} {p cl : Addr} {pe : Px Unit D} {ρ : PP.Env} {st : Unit} {c : Str} {fs : List (Str × D)} {n : Int} (he : Det pe ρ st (.exn (He.ga K c) fs)) (hc : (c, [n]) ∈ clsTab) : Det (pB (pBin cEqX (pCall (sp__law_classes K p cl) [] (pCons pe pNil)) (pFV (pLst (pCons (pC (.int n)) pNil))))) ρ st (.bl true) := by
  intro Q R q
  refine he _ _ ⟨c, fs, [n], rfl, hc, ?_⟩
  have sz : 2000 ≤ sizeLine := by rw [sizeLine_eq]; decide
  refine ⟨Nat.le_trans (by simp) sz, okD_flats (flats_ints [n]), okD_flats (flats_ints [n]), ?_⟩
  have e : eqD (.lst [D.int n]) (.lst [D.int n]) = true := by
    have := eqD_ints [n] [n]
    rw [decide_eq_true rfl] at this
    exact this
  show Q (.bl (eqD (.lst [D.int n]) (.lst [D.int n]))) ρ st
  rw [e]
  exact q
theorem dNm_eq {n2 n3 : Str} (h : n2 ≠ n3) (i k : Int) (Q : Bool → Prop) (q : Q true) : cEqX (.dic (dNm n2 n3 i k)) (.dic (dNm n2 n3 i k)) Q := by
  have h1 : okD (.lst [.tup [.int i, .int k]]) = true := by
    simp [okD, PP.plain, plains, pd, pds, SeqAt.shaped, PyData.canLay0, PyData.canLayAll0, PyData.depth, PyData.depthAll]
  have h2 : eqD (.lst [.tup [.int i, .int k]]) (.lst [.tup [.int i, .int k]]) = true := by
    simp [eqD, pd, pds, PyData.eqv, PyData.eqvAll]
  refine ⟨?_, ?_, ?_⟩
  · simp [plainK, dNm, h1, okD_flats]; rfl
  · simp [plainK, dNm, h1, okD_flats]; rfl
  · have : dicEq (dNm n2 n3 i k) (dNm n2 n3 i k) = true := by
      simp [dicEq, dNm, valD, h, h.symm, h2, eqD_nil']
    rw [this]
    exact q
def ex2d (K : PySem.W.Frag) (c : Str) (n0 n1 n2 n3 : Str) (i0 i1 : Int) : Sl := .dat (.lst [.exn (He.ga K c) [("tables", .dic (dNm n2 n3 i0 0)), ("name", .str n0)], .exn (He.ga K c) [("tables", .dic (dNm n2 n3 i1 1)), ("name", .str n1)]])
theorem sh_body {K : PySem.W.Frag} (p cl : Addr) (n0 n1 n2 n3 : Str) (i0 i1 : Int) (hne : n2 ≠ n3) (st : Unit) (Dd : En Unit) (k : Int) (j : Nat) (hk : k = j) (hj : j = 0 ∨ j = 1) (xs : List D) (y : Sl) (hx : xs.length ≤ 50)
    (h : ∀ w, Dd.nx [.dat (.ref p), .dat (.lst [.str n0, .str n1, .str n2, .str n3]), .ownL (xs ++ [.bl true] ++ [.bl true]), .dat (.lst [.dic (dNm n2 n3 i0 0), .dic (dNm n2 n3 i1 1)]), .dat (.int k), ex2d K "NotAlike" n0 n1 n2 n3 i0 i1, ex2d K "Rests" n0 n1 n2 n3 i0 i1, w] st) :
    P__law_shown_5 K p cl Dd [.dat (.ref p), .dat (.lst [.str n0, .str n1, .str n2, .str n3]), .ownL xs, .dat (.lst [.dic (dNm n2 n3 i0 0), .dic (dNm n2 n3 i1 1)]), .dat (.int k), ex2d K "NotAlike" n0 n1 n2 n3 i0 i1, ex2d K "Rests" n0 n1 n2 n3 i0 i1, y] st := by
  have sz : 2000 ≤ sizeLine := by rw [sizeLine_eq]; decide
  have pick : ∃ (v : Str) (i : Int), [D.str n0, .str n1, .str n2, .str n3][j]? = some (.str v) ∧ [D.dic (dNm n2 n3 i0 0), .dic (dNm n2 n3 i1 1)][j]? = some (.dic (dNm n2 n3 i k)) ∧ ∀ c : Str, [D.exn (He.ga K c) [("tables", .dic (dNm n2 n3 i0 0)), ("name", .str n0)], .exn (He.ga K c) [("tables", .dic (dNm n2 n3 i1 1)), ("name", .str n1)]][j]? = some (.exn (He.ga K c) [("tables", .dic (dNm n2 n3 i k)), ("name", .str v)]) := by
    rcases hj with rfl | rfl
    · subst hk; exact ⟨n0, i0, rfl, rfl, fun _ => rfl⟩
    · subst hk; exact ⟨n1, i1, rfl, rfl, fun _ => rfl⟩
  obtain ⟨v, i, pv, pr, pe⟩ := pick
  unfold P__law_shown_5
  simp only [sSeq, sNil, sRet, sRetN, sSet, sSetF, sDrop, sIf, sPar, sAsg, sRaise, sPutD, pBin, pUn, pC, pVar, bindP, retP, pB, pTest, blD, pTru, truD, pNot, pAnd, pOr, pIf, pAndV, pOrV, pCons, pNil, pTup, pLst, pFV, pCall, pCall1, pCallB, pOwn, pBinV, pIxV, pPeek, pMnil, pMdat, pMown, setM, FV.dat, FV.sl, slotD, Sl.data, isL, isD, pAddL, fAddL, aAdd, aI, aSub, aMul, aMod, aDiv, aPow, aNeg, aIx, cEqX, cNeX, cEq, cNe, scalEq, cLt, cLe, cGt, cGe, cOrd, cIsN, cNotN, isNonD, fLen, fInt, fAbs, fList, pSl, slX, pPart, pNoPart, PP.intD, mAppend, mPopAt, mPop, mInsert, List.getElem?_cons_zero, List.getElem?_cons_succ, List.set_cons_zero, List.set_cons_succ, Option.some.injEq, exists_eq_left', Sl.own, Option.isSome_some, if_true, if_false, reduceCtorEq, Bool.false_eq_true, ite_true, ite_false, pDisp, pPcons, pPnil, dKey, at4_2, at4_3]
  refine ⟨.dic (dNm n2 n3 i k), at2 j hk pr, .inr n2, .lst [.tup [.int i, .int k]], rfl, by simp [valD, dNm], .tup [.int i, .int k], rfl, Nat.le_trans (by simp) sz, Nat.zero_le _, by simp, ?_⟩
  rw [merge2 hne]
  unfold P__law_shown_6
  refine app_row ?_ rfl ?_ ?_
  · exact det_and (det_xf (det_ix rfl rfl (at2 j hk (pe _))) rfl (det_ix rfl rfl (at2 j hk pv)) (eq_str v)) (det_and (det_xf (det_ix rfl rfl (at2 j hk (pe _))) rfl (det_var rfl) (dNm_eq hne i k)) (det_cls (c := "NotAlike") (n := 9) (det_ix rfl rfl (at2 j hk (pe _))) (by decide +kernel)))
  · omega
  unfold P__law_shown_7
  refine app_row ?_ rfl ?_ ?_
  · exact det_and (det_xf (det_ix rfl rfl (at2 j hk (pe _))) rfl (det_ix rfl rfl (at2 j hk pv)) (eq_str v)) (det_and (det_xf (det_ix rfl rfl (at2 j hk (pe _))) rfl (det_var rfl) (dNm_eq hne i k)) (det_cls (c := "Rests") (n := 10) (det_ix rfl rfl (at2 j hk (pe _))) (by decide +kernel)))
  · simp; omega
  exact h _
theorem lc2 {i : Nat} {pe : Px Unit D} {ρ : PP.Env} {st : Unit} {d0 d1 : D} {Q : D → PP.Env → Unit → Prop} {R : Exn → PP.Env → Unit → Prop} (h0 : Det pe ((ρ.set i .un).set i (.dat (.int 0))) st d0) (h1 : Det pe ((((ρ.set i .un).set i (.dat (.int 0))).set i .un).set i (.dat (.int 1))) st d1)
    (q : Q (.lst [d0, d1]) (backE ρ (((((ρ.set i .un).set i (.dat (.int 0))).set i .un).set i (.dat (.int 1))).set i .un) [i]) st) : pFV (pLc false 0 (bindP (pCons (pC (.int 2)) pNil) fun ds => retP (rangeD ds)) (gN i) (retP fun Q => Q true) pe [i]) ρ st Q R := by
  have sz : 2000 ≤ sizeLine := by rw [sizeLine_eq]; decide
  refine ⟨by omega, by omega, (⟨fun z => (Bool.false_ne_true z).elim, Nat.le_trans (by decide) sz, ?_⟩ : (false = true → _) ∧ _ ∧ _)⟩
  exact h0 _ _ (h1 _ _ q)
theorem det_mk2 {C : Addr} {a b : Px Unit D} {ρ : PP.Env} {st : Unit} {da db : D} (ha : Det a ρ st da) (hb : Det b ρ st db) : Det (pMkX C ["name", "tables"] dAny (pCons a (pCons b pNil))) ρ st (.exn C [("tables", db), ("name", da)]) :=
  fun Q R q => ha _ _ (hb _ _ ⟨⟨rfl, by simp, trivial⟩, q⟩)
theorem pl_shown {P : Program} {K : PySem.W.Frag} {mg : Str → Option Value} (L : LF P K mg) (p cl : Addr) (ds : List D) (st : Unit) (Q : D → Unit → Prop) (R : Exn → Unit → Prop) (h : sp__law_shown K p cl ds st Q R) :
    P__law_shown K p cl { nx := fun _ st' => Q .non st', rt := Q, ex := fun x _ st' => R x st' } (startE N__law_shown ds) st := by
  obtain ⟨rfl, hq⟩ := h
  have sz : 2000 ≤ sizeLine := by rw [sizeLine_eq]; decide
  show P__law_shown_1 K p cl _ [.dat (.ref p), .un, .un, .un, .un, .un, .un, .un] st
  unfold P__law_shown_1
  simp only [sSeq, sNil, sRet, sRetN, sSet, sSetF, sDrop, sIf, sPar, sAsg, sRaise, sPutD, pBin, pUn, pC, pVar, bindP, retP, pB, pTest, blD, pTru, truD, pNot, pAnd, pOr, pIf, pAndV, pOrV, pCons, pNil, pTup, pLst, pFV, pCall, pCall1, pCallB, pOwn, pBinV, pIxV, pPeek, pMnil, pMdat, pMown, setM, FV.dat, FV.sl, slotD, Sl.data, isL, isD, pAddL, fAddL, aAdd, aI, aSub, aMul, aMod, aDiv, aPow, aNeg, aIx, cEqX, cNeX, cEq, cNe, scalEq, cLt, cLe, cGt, cGe, cOrd, cIsN, cNotN, isNonD, fLen, fInt, fAbs, fList, pSl, slX, pPart, pNoPart, PP.intD, mAppend, mPopAt, mPop, mInsert, List.getElem?_cons_zero, List.getElem?_cons_succ, List.set_cons_zero, List.set_cons_succ, Option.some.injEq, exists_eq_left', Sl.own, Option.isSome_some, if_true, if_false, reduceCtorEq, Bool.false_eq_true, ite_true, ite_false, pCallB]
  refine ⟨4, rfl, by omega, fun ns nd _ hl => ?_⟩
  obtain ⟨n0, n1, n2, n3, rfl⟩ := ex4 hl
  have hne : n2 ≠ n3 := by
    intro e
    subst e
    simp at nd
  refine ⟨Nat.zero_le _, rfl, ?_⟩
  show P__law_shown_2 K p cl _ [.dat (.ref p), .dat (.lst [.str n0, .str n1, .str n2, .str n3]), .ownL [], .un, .un, .un, .un, .un] st
  unfold P__law_shown_2
  simp only [sSeq, sNil, sRet, sRetN, sSet, sSetF, sDrop, sIf, sPar, sAsg, sRaise, sPutD, pBin, pUn, pC, pVar, bindP, retP, pB, pTest, blD, pTru, truD, pNot, pAnd, pOr, pIf, pAndV, pOrV, pCons, pNil, pTup, pLst, pFV, pCall, pCall1, pCallB, pOwn, pBinV, pIxV, pPeek, pMnil, pMdat, pMown, setM, FV.dat, FV.sl, slotD, Sl.data, isL, isD, pAddL, fAddL, aAdd, aI, aSub, aMul, aMod, aDiv, aPow, aNeg, aIx, cEqX, cNeX, cEq, cNe, scalEq, cLt, cLe, cGt, cGe, cOrd, cIsN, cNotN, isNonD, fLen, fInt, fAbs, fList, pSl, slX, pPart, pNoPart, PP.intD, mAppend, mPopAt, mPop, mInsert, List.getElem?_cons_zero, List.getElem?_cons_succ, List.set_cons_zero, List.set_cons_succ, Option.some.injEq, exists_eq_left', Sl.own, Option.isSome_some, if_true, if_false, reduceCtorEq, Bool.false_eq_true, ite_true, ite_false, pCallB, pLc, gN, wipeE, backE, keptS, rangeD, rg2, pDisp, pPcons, pPnil, compP, dKey, at4_2, at4_3]
  have hl2 : ∀ a b : D, [a, b].length ≤ sizeLine := fun a b => Nat.le_trans (by simp) sz
  have hl1 : ∀ a : D, [a].length ≤ sizeLine := fun a => Nat.le_trans (by simp) sz
  refine ⟨by omega, by omega, fun _ => by simp, hl2 _ _, rfl, fun i0 _ _ => ?_⟩
  refine ⟨hl2 _ _, hl1 _, Nat.zero_le _, by simp, rfl, fun i1 _ _ => ⟨hl2 _ _, hl1 _, Nat.zero_le _, by simp, ?_⟩⟩
  rw [merge2 hne, merge2 hne]
  show P__law_shown_3 K p cl _ [.dat (.ref p), .dat (.lst [.str n0, .str n1, .str n2, .str n3]), .ownL [], .dat (.lst [.dic (dNm n2 n3 i0 0), .dic (dNm n2 n3 i1 1)]), .un, .un, .un, .un] st
  unfold P__law_shown_3
  simp only [sSeq, sPar, pMdat, pMnil]
  refine lc2 (det_mk2 (det_ix rfl rfl (at2 0 rfl rfl)) (det_ix rfl rfl (at2 0 rfl rfl))) (det_mk2 (det_ix rfl rfl (at2 1 rfl rfl)) (det_ix rfl rfl (at2 1 rfl rfl))) ?_
  refine lc2 (det_mk2 (det_ix rfl rfl (at2 0 rfl rfl)) (det_ix rfl rfl (at2 0 rfl rfl))) (det_mk2 (det_ix rfl rfl (at2 1 rfl rfl)) (det_ix rfl rfl (at2 1 rfl rfl))) ?_
  refine ⟨rfl, ?_⟩
  show P__law_shown_4 K p cl _ [.dat (.ref p), .dat (.lst [.str n0, .str n1, .str n2, .str n3]), .ownL [], .dat (.lst [.dic (dNm n2 n3 i0 0), .dic (dNm n2 n3 i1 1)]), .un, ex2d K "NotAlike" n0 n1 n2 n3 i0 i1, ex2d K "Rests" n0 n1 n2 n3 i0 i1, .un] st
  unfold P__law_shown_4
  refine ⟨by omega, by omega, fun _ => by decide, ?_⟩
  refine sh_body p cl n0 n1 n2 n3 i0 i1 hne st _ 0 0 rfl (.inl rfl) [] .un (by simp) fun w1 => ?_
  refine sh_body p cl n0 n1 n2 n3 i0 i1 hne st _ 1 1 rfl (.inr rfl) _ w1 (by simp) fun w2 => ?_
  have key : ∀ (e : PP.Env), e[2]? = some (.ownL (List.replicate 4 (.bl true))) → P__law_shown_8 K p cl { nx := fun x st' => Q D.non st', rt := Q, ex := fun x x_1 st' => R x st' } e st := ?_
  · simp only [loopEn, List.map_nil, forP]
    exact key _ rfl
  intro e he
  unfold P__law_shown_8
  have c1 := fun ρ => det_cls (K := K) (p := p) (cl := cl) (pe := pC (.exn (He.ga K "OtherTables") [])) (ρ := ρ) (st := st) (c := "OtherTables") (fs := []) (n := 3) (fun Q R q => q) (by decide +kernel)
  have c2 := fun ρ => det_cls (K := K) (p := p) (cl := cl) (pe := pC (.exn (He.ga K "NothingToUndo") [])) (ρ := ρ) (st := st) (c := "NothingToUndo") (fs := []) (n := 12) (fun Q R q => q) (by decide +kernel)
  simp only [sSeq, sSetF, pAddL, pFV, pLst, pCons, pNil, bindP, retP, FV.dat, FV.sl]
  unfold pVar
  rw [he]
  dsimp only [Sl.data]
  refine c1 _ _ _ (c2 _ _ _ ⟨hl2 _ _, (?_ : _ ∧ _)⟩)
  refine ⟨Nat.le_trans (by simp) sz, ?_⟩
  have key2 : ∀ (e : PP.Env), slotD e 2 = some (.lst (List.replicate 6 (.bl true))) → P__law_shown_9 K p cl { nx := fun x st' => Q D.non st', rt := Q, ex := fun x x_1 st' => R x st' } e st := ?_
  · refine key2 _ ?_
    have : 2 < e.length := (List.getElem?_eq_some_iff.mp he).1
    unfold slotD
    rw [List.getElem?_set_self (by rw [List.length_set]; exact this)]
    rfl
  intro e he
  unfold P__law_shown_9
  have c3 := det_and (a := pB (pBin cNotIn (pC (.bl false)) (pPeek 2))) (b := pB (pBin cEqX (pCall (sp__law_classes K p cl) [] (pCons (pC (.exn (He.ga K "LookError") [])) pNil)) (pFV (pLst pNil)))) (ρ := e) (st := st) (d := .bl true) (fun Q R q => notIn_peek (n := 6) he Q R q)
    (fun Q R q => ⟨"LookError", [], [], rfl, by decide +kernel, Nat.zero_le _, okD_flats rfl, okD_flats rfl, by
      show Q (.bl (eqD (.lst []) (.lst []))) e st
      rw [eqD_nil']
      exact q⟩)
  exact c3 _ _ hq
theorem ok__law_shown {P : Program} {w : World} {K : PySem.W.Frag} {mg : Str → Option Value} {base : Heap} (L : LF P K mg) (p cl : Addr) : FnOk P w K mg base (L2.CX P w) 4 (He.ga K "_law_shown") L.f__law_shown.fd ps__law_shown (spD (penG p cl) K n__law_shown (sp__law_shown K p cl)) :=
  ok__law_shown_of L p cl (fun ds st Q R ⟨e, _⟩ => by rw [e]; rfl) fun ds st Q R h => pl_shown L p cl ds st Q R h

end Q

set_option Elab.async false
set_option linter.all false
set_option maxRecDepth 100000
set_option maxHeartbeats 4000000
namespace Q
open PySem PySem.Spec PyProof.Rows L2 PP
/-! ### the pen's making -/
def spBegun (K : PySem.W.Frag) : Sp := fun vs H Q _ => ∃ (a : Addr) (ns : List Int), vs = [.ref a] ∧ SqL K H a (ns.map V.int) ∧ ∀ (p cl : Addr) (ms : List Int) (H' : Hp), H p = none → H cl = none → p ≠ cl → H' p = some (.dK (penKvs cl ⟨0, 0⟩)) → H' cl = some (.lst (ms.map V.int)) → Q (.ref p) H'
abbrev cutR (K : PySem.W.Frag) : List V → Hp → VK → Prop := fun xs H Q => ∃ p ys, xs = [.ref p] ∧ (SqL K H p ys ∨ SqT K H p ys) ∧ ∀ l, H l = none → Q (.ref l) (upd H l (.lst ys))
def t_begun (K : PySem.W.Frag) : TS := tRet (tDisp [(tC (.str "cells"), tCB (cutR K) (tCons (tSl (rSlL K) (tVar 0) tNoPart (tPart (tC (.int 63)))) tNil)), (tC (.str "turn"), tC (.int 0)), (tC (.str "left"), tC (.int 0))])
theorem ne_fr {H : Hp} {p a : Addr} {o : HO} (hp : H p = none) (h : H a = some o) : a ≠ p := fun z => by rw [z, hp] at h; cases h
theorem ne_up {H : Hp} {p q : Addr} {o : HO} (h : upd H p o q = none) : q ≠ p ∧ H q = none := by
  by_cases z : q = p
  · rw [z, upd_same] at h; cases h
  · rw [upd_ne z] at h; exact ⟨z, h⟩
theorem sql_new {K : PySem.W.Frag} {H : Hp} {p a : Addr} {o : HO} {xs : List V} (hp : H p = none) (h : SqL K H a xs) : SqL K (upd H p o) a xs := by
  rcases h with (h | ⟨o2, h⟩) | h
  · exact .inl (.inl ((upd_ne (ne_fr hp h)).trans h))
  · exact .inl (.inr ⟨o2, (upd_ne (ne_fr hp h)).trans h⟩)
  · exact .inr h
theorem cut_ints (ns : List Int) (lo hi : Option Int) : cutV (ns.map V.int) lo hi = (cutL ns lo hi).map V.int := by
  unfold cutV cutL
  rw [List.length_map, List.map_take, List.map_drop]
theorem pure_begun {K : PySem.W.Frag} (vs : List V) (H : Hp) (Q : VK) (E : XK) (h : spBegun K vs H Q E) : t_begun K { nx := fun _ H' => Q .non H', rt := Q } (L2.start N__law_begun_pen vs) H := by
  obtain ⟨a, ns, rfl, hS, hQ⟩ := h
  intro p hp
  refine ⟨_, rfl, ?_⟩
  refine ⟨63, rfl, a, ns.map V.int, rfl, sql_new hp hS, fun q hq => ?_⟩
  refine ⟨q, _, rfl, .inl (.of upd_same), fun l hl => ?_⟩
  obtain ⟨n1, h1⟩ := ne_up hl
  obtain ⟨n2, h2⟩ := ne_up h1
  obtain ⟨n3, h3⟩ := ne_up hq
  rw [cut_ints]
  refine ⟨?_, [(.inr "cells", .ref l), (.inr "turn", .int 0), (.inr "left", .int 0)], rfl, by simp, ?_⟩
  · exact (upd_ne n2.symm).trans ((upd_ne n3.symm).trans upd_same)
  · exact hQ p l _ _ hp h2 n2.symm upd_same ((upd_ne n2).trans upd_same)
theorem ok_begun {P : Program} {w : World} {K : PySem.W.Frag} {mg : Str → Option Value} {base : Heap} (L : LF P K mg) : FnOk P w K mg base (L2.CX P w) 1 (He.ga K "_law_begun_pen") L.f__law_begun_pen.fd ps__law_begun_pen (spBegun K) := by
  refine L.f__law_begun_pen.F.ok sc__law_begun_pen (fun vs H Q E h => ?_) (fun cdv A outer s H vs Q E hr h => ⟨t_begun K, PSs.nox ?_, pure_begun vs H Q E h⟩)
  · obtain ⟨a, ns, rfl, _⟩ := h
    rfl
  · exact pss_one (ps_ret (pe_disp (pps_cons pe_str (pe_callTy call_list_of (by rfl) L.g_list (by decide +kernel) (pa_cons (pe_slice sl_list (pe_var (by rfl) (by exact Or.inl rfl)) po_none (po_some pe_int)) pa_nil)) (pps_cons pe_str pe_int (pps_cons pe_str pe_int pps_nil))) (by rfl) (by rfl) (fun z => nomatch z) (by decide)))

end Q

set_option Elab.async false
set_option linter.all false
set_option maxRecDepth 100000
set_option maxHeartbeats 4000000
namespace Q
open PySem PySem.Spec PyProof.Rows L2 PP
def P_law_3 (K : PySem.W.Frag) (p cl : Addr) : PSx Unit := sSeq (sRet (pC (.bl false))) sNil
def P_law_2 (K : PySem.W.Frag) (p cl : Addr) : PSx Unit := sSeq (sIf (pOr (pNot (pTest (pCall (sp__law_numbered K p cl) [] (pCons (pVar 1) pNil)))) (pOr (pNot (pTest (pCall (sp__law_texted K p cl) [] (pCons (pVar 1) pNil)))) (pNot (pTest (pCall (sp__law_shown K p cl) [] (pCons (pVar 1) pNil)))))) (P_law_3 K p cl) sNil) sNil
def P_law_4 (K : PySem.W.Frag) (p cl : Addr) : PSx Unit := sSeq (sRet (pC (.bl true))) sNil
def P_law_1 (K : PySem.W.Frag) (p cl : Addr) : PSx Unit := sSeq (sFor true 1024 (bindP (pCons (pC (.int 3)) pNil) fun ds => retP (rangeD ds)) (gN 2) (P_law_2 K p cl)) (P_law_4 K p cl)
abbrev P_law (K : PySem.W.Frag) (p cl : Addr) : PSx Unit := (P_law_1 K p cl)
def n_law : Nat := 22026240
theorem wk_law {P : Program} {w : World} {K : PySem.W.Frag} {mg : Str → Option Value} {base : Heap} (L : LF P K mg) (p cl : Addr) (cdv : Value) (A : Around) (outer : List PySem.Env) (s : Shared) (H H0 : Hp) (E : XK) (A0 : Addr → Prop) (wx : WX) (hr : Room 4 (A.deeper (envOfC "law" (defScope st_law) s.heap.objs.size (He.ga K "law") cdv)))
    (T : Takes (cxOf (L2.CX P w) P w K mg base N_law "law" (defScope st_law) (He.ga K "law") cdv A outer s H E) wx) :
    JSs (cxOf (L2.CX P w) P w K mg base N_law "law" (defScope st_law) (He.ga K "law") cdv A outer s H E) (⟨penG p cl, K, H0, A0, fun _ => False, fun _ => none, fun _ => False, wx⟩ : Bs Unit) (defBody st_law).tail n_law (P_law K p cl) := by
  have c : Ctl (cxOf (L2.CX P w) P w K mg base N_law "law" (defScope st_law) (He.ga K "law") cdv A outer s H E) (⟨penG p cl, K, H0, A0, fun _ => False, fun _ => none, fun _ => False, wx⟩ : Bs Unit) K 4 := ⟨sc_law.nd, rfl, rfl, rfl, hr, T, rfl⟩
  have po : PassesOwn (model P w) (cxOf (L2.CX P w) P w K mg base N_law "law" (defScope st_law) (He.ga K "law") cdv A outer s H E).A (cxOf (L2.CX P w) P w K mg base N_law "law" (defScope st_law) (He.ga K "law") cdv A outer s H E).env (cxOf (L2.CX P w) P w K mg base N_law "law" (defScope st_law) (He.ga K "law") cdv A outer s H E).xe := passes_of rfl
  have h : JSs (cxOf (L2.CX P w) P w K mg base N_law "law" (defScope st_law) (He.ga K "law") cdv A outer s H E) (⟨penG p cl, K, H0, A0, fun _ => False, fun _ => none, fun _ => False, wx⟩ : Bs Unit) (defBody st_law).tail _ _ := (jss_cons (js_for true 1024 (fun z => nomatch z) po c.calm (ji_range1 (by rfl) L.g_range (ja_cons je_int ja_nil)) (jg_name 2 c.nd) (jss_cons (js_if (jt_w (jw_or (jt_not (jt_test (je_call c.tk (mo__law_numbered K p cl) c.kk (ok__law_numbered L p cl) (c.room.mono (by decide)) (by rfl) L.f__law_numbered.m L.f__law_numbered.F.kp (bd__law_numbered L.f__law_numbered) .nil (fun _ _ => .nil) (ja_cons (je_var 1) ja_nil)).jp)) (jw_or (jt_not (jt_test (je_call c.tk (mo__law_texted K p cl) c.kk (ok__law_texted L p cl) (c.room.mono (by decide)) (by rfl) L.f__law_texted.m L.f__law_texted.F.kp (bd__law_texted L.f__law_texted) .nil (fun _ _ => .nil) (ja_cons (je_var 1) ja_nil)).jp)) (jw_or1 (jt_not (jt_test (je_call c.tk (mo__law_shown K p cl) c.kk (ok__law_shown L p cl) (c.room.mono (by decide)) (by rfl) L.f__law_shown.m L.f__law_shown.F.kp (bd__law_shown L.f__law_shown) .nil (fun _ _ => .nil) (ja_cons (je_var 1) ja_nil)).jp)))))) (jss_cons (js_ret je_bl)
    jss_nil) jss_nil)
    jss_nil))
    (jss_cons (js_ret je_bl)
    jss_nil))
  exact h.le rfl
theorem pl_law (K : PySem.W.Frag) (p cl : Addr) (st : Unit) (x : Sl) (Dd : En Unit) (h : Dd.rt (.bl true) st) : P_law K p cl Dd [x, .dat (.ref p), .un] st := by
  show P_law_1 K p cl Dd _ st
  unfold P_law_1
  have body : ∀ (D2 : En Unit) (y : Sl), (D2.nx [x, .dat (.ref p), y] st) → P_law_2 K p cl D2 [x, .dat (.ref p), y] st := by
    intro D2 y h2
    unfold P_law_2
    simp only [sSeq, sNil, sRet, sRetN, sSet, sSetF, sDrop, sIf, sPar, sAsg, sRaise, sPutD, pBin, pUn, pC, pVar, bindP, retP, pB, pTest, blD, pTru, truD, pNot, pAnd, pOr, pIf, pAndV, pOrV, pCons, pNil, pTup, pLst, pFV, pCall, pCall1, pCallB, pOwn, pBinV, pIxV, pPeek, pMnil, pMdat, pMown, setM, FV.dat, FV.sl, slotD, Sl.data, isL, isD, pAddL, fAddL, aAdd, aI, aSub, aMul, aMod, aDiv, aPow, aNeg, aIx, cEqX, cNeX, cEq, cNe, scalEq, cLt, cLe, cGt, cGe, cOrd, cIsN, cNotN, isNonD, fLen, fInt, fAbs, fList, pSl, slX, pPart, pNoPart, PP.intD, mAppend, mPopAt, mPop, mInsert, List.getElem?_cons_zero, List.getElem?_cons_succ, List.set_cons_zero, List.set_cons_succ, Option.some.injEq, exists_eq_left', Sl.own, Option.isSome_some, if_true, if_false, reduceCtorEq, Bool.false_eq_true, ite_true, ite_false, sp__law_numbered, sp__law_texted, sp__law_shown, spTrue, true_and, Bool.not_true]
    exact ⟨rfl, rfl, rfl, h2⟩
  refine ⟨by omega, by omega, fun _ => by decide, ?_⟩
  refine body _ _ (body _ _ (body _ _ ?_))
  unfold P_law_4
  exact h

/-! ### the law -/
def spLaw (K : PySem.W.Frag) : Sp := fun vs H Q _ => ∃ (a : Addr) (ns : List Int), vs = [.ref a] ∧ SqL K H a (ns.map V.int) ∧ ∀ H', Q (.bl true) H'
theorem ok_law {P : Program} {w : World} {K : PySem.W.Frag} {mg : Str → Option Value} {base : Heap} (L : LF P K mg) : FnOk P w K mg base (L2.CX P w) 5 (He.ga K "law") L.f_law.fd ps_law (spLaw K) := by
  refine L.f_law.F.ok sc_law (fun vs H Q E h => ?_) (fun cdv A outer s H vs Q E hr h => ?_)
  · obtain ⟨a, ns, rfl, _⟩ := h
    rfl
  have T : Takes (cxOf (L2.CX P w) P w K mg base N_law "law" (defScope st_law) (He.ga K "law") cdv A outer s H E) (fun cls d _ H' => E cls d H') := takes_of rfl rfl rfl rfl
  have J := fun (i : Addr × Addr × Hp) => wk_law (w := w) (base := base) L i.1 i.2.1 cdv A outer s H i.2.2 E (fun _ => False) (fun cls d _ H' => E cls d H') hr T
  have F0 := ok_begun (w := w) (base := base) L
  refine ⟨_, pss_cons (ps_set (i := 1) sc_law.nd rfl (Or.inl rfl) (pe_callSD F0 (hr.mono (by decide)) (by rfl) L.f__law_begun_pen.m L.f__law_begun_pen.F.kp (bd__law_begun_pen L.f__law_begun_pen) .nil (passAt T) (pa_cons (pv 0) pa_nil) (by decide) (by rfl) (by rfl))) (pss_ex fun i => (J i).run), ?_⟩
  obtain ⟨a, ns, rfl, hS, hQ⟩ := h
  refine ⟨_, rfl, a, ns, rfl, hS, fun p cl ms H' hp hcl hne h1 h2 => ?_⟩
  refine ⟨(p, cl, H'), [.un, .dat (.ref p), .un], fun _ => False, 0, (), ?_, ⟨ms, ⟨0, 0⟩, h1, h2, by decide, by decide, by decide⟩, (by show 0 + n_law ≤ penTop; decide +kernel), ?_⟩
  · refine ⟨fun _ _ _ _ _ => rfl, fun b o e => (by cases e), fun b h => h.elim, fun b h => h.elim, fun b h => ?_, rfl, fun i sl e => ?_, fun i j sl t b _ ei ej oi _ => ?_⟩
    · rcases h with rfl | rfl
      · exact nn_of h1
      · exact nn_of h2
    · match i, e with
      | 0, e => cases e; trivial
      | 1, e => cases e; exact ⟨_, rfl, .ref p⟩
      | 2, e => cases e; trivial
    · match i, ei with
      | 0, e => cases e; cases oi
      | 1, e => cases e; cases oi
      | 2, e => cases e; cases oi
  · refine pl_law K p cl () .un _ ?_
    intro v σ' ρ' H2 A' S' w' g' a'
    cases a'
    exact hQ _
theorem facts {P : Program} {w : World} {K : PySem.W.Frag} {h : Heap} {mg : Str → Option Value} {f : Addr} (X : K.In h) (G : h.Ns mainGlobals mg) (hfile : ((P.main.file : Str) == ("/claim/cut.py" : Str)) = true) (htop : (P.main.scope.names.lookup ("super" : Str)).isSome = false) (hfa : mg ("law" : Str) = some (.ref f)) (c : SaysP "/claim/cut.py" fb fn fx K) :
    ∃ fd : FuncData, (∀ (s : Shared) (v : Value), BindsTo s fd ⟨[v], []⟩ [("_law_script", v)]) ∧ ∀ base : Heap, K.In base → base.Ns mainGlobals mg → FnOk P w K mg base CX0 5 f fd ["_law_script"] (spLaw K) := by
  obtain ⟨L⟩ := lf_of (P := P) X G hfile htop c
  have e := hfa.symm.trans L.f_law.m
  cases e
  have b := FunD.bindsA (ps := ["_law_script"]) L.f_law.F fun _ _ _ _ _ _ us hl => match us, hl with | [_], _ => rfl
  exact ⟨L.f_law.fd, fun s v => b s [v] rfl, fun base _ _ => FnOk.cxAny (ok_law L) fun vs H Q E ⟨a, ns, e1, e2, e3⟩ => ⟨a, ns, e1, e2, e3⟩⟩

end Q

set_option Elab.async false
set_option linter.all false
set_option maxRecDepth 100000
set_option maxHeartbeats 4000000
namespace Q
open PySem PySem.Spec PyProof.Rows L2 PP
theorem run (w : World) : HandSHeadRun.RunEq R (PySem.W.view R.prog [25]) hk ob 4000 names w := by
  intro os
  kernel_rfl
end Q
open PySem PySem.W PySem.Calls PyProof.Rows
set_option maxHeartbeats 0 in
theorem PySem.Challenge.cw_lookuploops_k43_errors_holds : PySem.Challenge.rw_lookuploops_k43_errors.Holds := by
  w_on; o_law
  refine HandSHeadRun.head_any (r := OpenLaw.row PySem.Challenge.rw_lookuploops_k43_errors) (q := view (OpenLaw.row PySem.Challenge.rw_lookuploops_k43_errors).prog [25]) (H := Q.hk) (ob := Q.ob) (M := 4000) (loose := Q.names) (d := HandSHeadRun.topDef (OpenLaw.row PySem.Challenge.rw_lookuploops_k43_errors).prog 25) (kwd := []) Q.ob_eq
    (by kernel_rfl) (fun s => by kernel_rfl) Q.run (by kernel_rfl) (by kernel_rfl) (by kernel_rfl) (by rfl) (by first | assumption | decide +kernel) (by decide +kernel) ⟨rfl, rfl, rfl, rfl, rfl, by decide +kernel⟩ ?hw ?hc
  case hw => w_witness2
  case hc =>
    refine L2.walk_ofE (l := PySem.Challenge.rw_lookuploops_k43_errors) (n := 63) (k := 5) (x := "_law_script") (CX := L2.CX0) rfl (by decide) (by kernel_rfl) ⟨rfl, by decide, by decide⟩ ?F (fun _ _ _ _ z => z)
    intro w mg fa h Y G hmg0
    obtain ⟨K, KX, c⟩ := Y
    have hmg : mg ("law" : PySem.Str) = some (.ref fa) := by
      have e : (HandSHeadRun.topDef (OpenLaw.row PySem.Challenge.rw_lookuploops_k43_errors).prog 25).name = ("law" : PySem.Str) := by kernel_rfl
      rw [← e]
      exact hmg0
    obtain ⟨fd, hb, hF⟩ := Q.facts (P := (PySem.Challenge.rw_lookuploops_k43_errors).prog) (w := w) KX G (by kernel_rfl) (by kernel_rfl) hmg c
    exact ⟨K, fd, Q.spLaw K, KX, hb, fun H a ns hl _ hS => ⟨a, ns, rfl, hS, fun _ => rfl⟩, hF⟩

