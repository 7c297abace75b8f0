import PyProof.Rows.All
import Wide.All
import OpenK.AllK
import Wide.FinOn
import HandS.Base
import HandS.Call
import HandS.List
import HandS.Comp
import HandS.Dict
import HandS.Iter
import HandS.Text
import HandS.Walk
import HandS.Wide
import HandS.TupAny
import HandS.Exc
import HandS.AnyAll
import HandS.WordsExc
import HandS.IsInst
import HandS.Conv
import HandS.Deep
import HandS.Small
import HandS.Zip
import HandS.More
import HandS.ExcOwn
import HandS.Defaults
import HandS.TupMul
import HandS.EndTab
import HandS.HeadHook4
import HandS.Head0
import HandS.Head1
import HandS.Head2
import HandS.HeadEnd
import HandS.Words
import KE.KNestM
import HandS.Style
import KE.KRevSl
import KE.GoesEnum
import HandS.SortInts
import KE.SortData
import KE.KSuper
import KE.KExcSuper
import PyProof.FString
import PyProof.Rows.RegStrFacts
import HandS.ExcInit
import HandS.ExcIs
import KE.KExcIs
import PyProof.ListStr
import PyProof.StrOps2
import KE.KDictPairs
import HandS.DictTup
import PyProof.GenCompD
import HandS.Ends
import KE.DataCmp
import PySem.Challenge.RW_mailways_k73_checked_notices
set_option Elab.async false
set_option linter.all false
set_option maxRecDepth 100000
set_option maxHeartbeats 2000000
namespace VL
open PySem L2

/-- plain data: what a value is worth, without addresses -/
inductive D where
  | non | bl (b : Bool) | int (i : Int) | str (s : List Nat)
  | tup (l : List D) | lst (l : List D)
  | dct (ks : List Key) (l : List D)
  | scr (l : List Int) | loc (n : Nat) | obj (a : Addr)
  | exn (a : Addr) (d : Option Addr) (ks : List Str) (l : List D)

abbrev sv (s : List Nat) : V := .str ⟨s.toArray⟩

mutual
def At (K : PySem.W.Frag) (th : List Addr) (G : Hp) : D → V → Prop
  | .non, v => v = .non
  | .bl b, v => v = .bl b
  | .int i, v => v = .int i
  | .str s, v => v = sv s
  | .tup l, v => ∃ a vs, v = .ref a ∧ SqT K G a vs ∧ AtL K th G l vs
  | .lst l, v => ∃ a vs, v = .ref a ∧ G a = some (.lst vs) ∧ AtL K th G l vs
  | .dct ks l, v => ∃ a kvs, v = .ref a ∧ Rd G a (.dK kvs) ∧ kvs.map (·.1) = ks ∧ AtL K th G l (kvs.map (·.2))
  | .scr l, v => ∃ a, v = .ref a ∧ SqL K G a (l.map V.int)
  | .loc n, v => ∃ a, th[n]? = some a ∧ v = .ref a
  | .obj a, v => v = .ref a
  | .exn a d ks l, v => v = .ref a ∧ ∃ vs, AtL K th G l vs ∧ vs.length = ks.length ∧ (d = none → ks = []) ∧ ∀ dd, d = some dd → G dd = some (.xd (ks.zip vs))
def AtL (K : PySem.W.Frag) (th : List Addr) (G : Hp) : List D → List V → Prop
  | [], vs => vs = []
  | d :: l, vs => ∃ v r, vs = v :: r ∧ At K th G d v ∧ AtL K th G l r
end

/-- an own object of a running def, by its data -/
inductive Ob where
  | lst (l : List D) | dct (l : List (Key × D)) | ins (C : Addr) (l : List (Str × D)) | dead

def KeepO (o : HO) (x : Option HO) : Prop := match o with
  | .tbl _ => ∃ ps, x = some (.tbl ps)
  | .dK kvs => x = some (.dK kvs) ∨ ∃ u, x = some (.frz u (.dK kvs))
  | _ => x = some o
/-- all that G knows stands in H (tables of code objects may grow) -/
def Ex (G H : Hp) : Prop := ∀ a o, G a = some o → KeepO o (H a)

theorem keepO_self (o : HO) : KeepO o (some o) := by cases o <;> first | rfl | exact ⟨_, rfl⟩ | exact .inl rfl
theorem keepO_some {o : HO} {x : Option HO} (h : KeepO o x) : ∃ u, x = some u := by
  cases o <;> first | exact ⟨_, h⟩ | (obtain ⟨ps, e⟩ := h; exact ⟨_, e⟩) | (rcases h with e | ⟨u, e⟩ <;> exact ⟨_, e⟩)
theorem keepO_trans {o : HO} {x y : Option HO} (h : KeepO o x) (k : ∀ u, x = some u → KeepO u y) : KeepO o y := by
  cases o with
  | tbl _ => obtain ⟨ps, e⟩ := h; exact (show ∃ qs, y = some (.tbl qs) from k (.tbl ps) e)
  | dK kvs =>
    rcases h with e | ⟨u, e⟩
    · exact k (.dK kvs) e
    · exact .inr ⟨u, (show y = some (.frz u (.dK kvs)) from k (.frz u (.dK kvs)) e)⟩
  | _ => exact k _ h
/-- .. and so does whatever is nobody's -/
def KeepF (o : HO) (x : Option HO) : Prop := match o with
  | .tbl _ => ∃ ps, x = some (.tbl ps)
  | _ => x = some o
theorem keepF_self (o : HO) : KeepF o (some o) := by cases o <;> first | rfl | exact ⟨_, rfl⟩
theorem keepF_some {o : HO} {x : Option HO} (h : KeepF o x) : ∃ u, x = some u := by
  cases o <;> first | exact ⟨_, h⟩ | (obtain ⟨ps, e⟩ := h; exact ⟨_, e⟩)
theorem keepF_trans {o : HO} {x y : Option HO} (h : KeepF o x) (k : ∀ u, x = some u → KeepF u y) : KeepF o y := by
  cases o with
  | tbl _ => obtain ⟨ps, e⟩ := h; exact (show ∃ qs, y = some (.tbl qs) from k (.tbl ps) e)
  | _ => exact k _ h
theorem Ex.refl (H : Hp) : Ex H H := fun a o h => by rw [h]; exact keepO_self o
theorem Ex.trans {A B C : Hp} (p : Ex A B) (q : Ex B C) : Ex A C := fun a o h => keepO_trans (p a o h) fun u e => q a u e
theorem Ex.none_back {G H : Hp} (e : Ex G H) {a : Addr} (h : H a = none) : G a = none := by
  cases h1 : G a with
  | none => rfl
  | some o =>
    obtain ⟨u, hu⟩ := keepO_some (e a o h1)
    rw [h] at hu; cases hu
theorem Ex.lst {G H : Hp} (e : Ex G H) {a : Addr} {xs : List V} (h : G a = some (.lst xs)) : H a = some (.lst xs) := e a _ h
theorem Ex.tup {G H : Hp} (e : Ex G H) {a : Addr} {xs : List V} (h : G a = some (.tup xs)) : H a = some (.tup xs) := e a _ h
theorem Ex.rdK {G H : Hp} (e : Ex G H) {a : Addr} {xs : List (Key × V)} (h : Rd G a (.dK xs)) : Rd H a (.dK xs) := by
  rcases h with h | ⟨o, h⟩
  · exact e a _ h
  · exact .inr ⟨o, e a _ h⟩
theorem Ex.rd {G H : Hp} (e : Ex G H) {a : Addr} {xs : List V} (h : Rd G a (.lst xs)) : Rd H a (.lst xs) := by
  rcases h with h | ⟨o, h⟩
  · exact .inl (e a _ h)
  · exact .inr ⟨o, e a _ h⟩
theorem Ex.rdT {G H : Hp} (e : Ex G H) {a : Addr} {xs : List V} (h : Rd G a (.tup xs)) : Rd H a (.tup xs) := by
  rcases h with h | ⟨o, h⟩
  · exact .inl (e a _ h)
  · exact .inr ⟨o, e a _ h⟩
theorem Ex.sqL {K : PySem.W.Frag} {G H : Hp} (e : Ex G H) {a : Addr} {xs : List V} (h : SqL K G a xs) : SqL K H a xs := by
  rcases h with h | h
  · exact .inl (e.rd h)
  · exact .inr h
theorem Ex.sqT {K : PySem.W.Frag} {G H : Hp} (e : Ex G H) {a : Addr} {xs : List V} (h : SqT K G a xs) : SqT K H a xs := by
  rcases h with h | h
  · exact .inl (e.rdT h)
  · exact .inr h
theorem Ex.new {H : Hp} {p : Addr} {o : HO} (h : H p = none) : Ex H (upd H p o) := fun a u e => by
  rw [upd_ne (ne_of_none e h), e]; exact keepO_self u
/-- what G does not know may change -/
theorem Ex.mut {G H : Hp} {p : Addr} {o : HO} (e : Ex G H) (h : G p = none) : Ex G (upd H p o) := fun a u ha => by
  rw [upd_ne (ne_of_none ha h)]
  exact e a u ha
/-- both learn the same -/
theorem Ex.both {G H : Hp} {p : Addr} {o : HO} (e : Ex G H) : Ex (upd G p o) (upd H p o) := fun a u ha => by
  by_cases hb : a = p
  · subst hb
    rw [upd_same] at ha ⊢
    cases ha
    exact keepO_self _
  · rw [upd_ne hb] at ha ⊢
    exact e a u ha

/-- one heap of data within another -/
def Sub (G G' : Hp) : Prop := ∀ a o, G a = some o → G' a = some o
theorem Sub.refl (G : Hp) : Sub G G := fun _ _ h => h
theorem Sub.trans {A B C : Hp} (p : Sub A B) (q : Sub B C) : Sub A C := fun a o h => q a o (p a o h)
theorem Sub.new {G : Hp} {p : Addr} {o : HO} (h : G p = none) : Sub G (upd G p o) := fun a u e => by
  rw [upd_ne (ne_of_none e h)]; exact e
theorem Sub.rd {G H : Hp} (e : Sub G H) {a : Addr} {u : HO} (h : Rd G a u) : Rd H a u := by
  rcases h with h | ⟨o, h⟩
  · exact .inl (e a _ h)
  · exact .inr ⟨o, e a _ h⟩
theorem Sub.sqL {K : PySem.W.Frag} {G H : Hp} (e : Sub G H) {a : Addr} {xs : List V} (h : SqL K G a xs) : SqL K H a xs := by
  rcases h with h | h
  · exact .inl (e.rd h)
  · exact .inr h
theorem Sub.sqT {K : PySem.W.Frag} {G H : Hp} (e : Sub G H) {a : Addr} {xs : List V} (h : SqT K G a xs) : SqT K H a xs := by
  rcases h with h | h
  · exact .inl (e.rd h)
  · exact .inr h

section
variable {K : PySem.W.Frag} {th th' : List Addr} {G G' : Hp}
theorem pre_get {l m : List Addr} {n : Nat} {a : Addr} (h : l <+: m) (e : l[n]? = some a) : m[n]? = some a := by
  obtain ⟨r, rfl⟩ := h
  obtain ⟨h1, _⟩ := List.getElem?_eq_some_iff.mp e
  rw [List.getElem?_append_left h1]; exact e
mutual
theorem At.mono (ht : th <+: th') (e : Sub G G') : ∀ {d : D} {v : V}, At K th G d v → At K th' G' d v
  | .non, _, h => h
  | .bl _, _, h => h
  | .int _, _, h => h
  | .str _, _, h => h
  | .tup _, _, h => by obtain ⟨a, vs, e1, q, r⟩ := h; exact ⟨a, vs, e1, e.sqT q, AtL.mono ht e r⟩
  | .lst _, _, h => by obtain ⟨a, vs, e1, q, r⟩ := h; exact ⟨a, vs, e1, e _ _ q, AtL.mono ht e r⟩
  | .dct _ _, _, h => by obtain ⟨a, vs, e1, q, z, r⟩ := h; exact ⟨a, vs, e1, e.rd q, z, AtL.mono ht e r⟩
  | .scr _, _, h => by obtain ⟨a, e1, q⟩ := h; exact ⟨a, e1, e.sqL q⟩
  | .loc _, _, h => by obtain ⟨a, e1, q⟩ := h; exact ⟨a, pre_get ht e1, q⟩
  | .obj _, _, h => h
  | .exn _ _ _ _, _, h => by obtain ⟨e1, vs, q, z, n, r⟩ := h; exact ⟨e1, vs, AtL.mono ht e q, z, n, fun dd hd => e _ _ (r dd hd)⟩
theorem AtL.mono (ht : th <+: th') (e : Sub G G') : ∀ {l : List D} {vs : List V}, AtL K th G l vs → AtL K th' G' l vs
  | [], _, h => h
  | _ :: _, _, h => by obtain ⟨v, r, e1, q, z⟩ := h; exact ⟨v, r, e1, At.mono ht e q, AtL.mono ht e z⟩
end
theorem AtL.length : ∀ {l : List D} {vs : List V}, AtL K th G l vs → vs.length = l.length
  | [], _, h => by cases h; rfl
  | _ :: _, _, h => by obtain ⟨v, r, rfl, q, z⟩ := h; simp [AtL.length z]
theorem AtL.get : ∀ {l : List D} {vs : List V} {i : Nat} {d : D}, AtL K th G l vs → l[i]? = some d → ∃ v, vs[i]? = some v ∧ At K th G d v
  | [], _, _, _, _, e => by simp at e
  | _ :: _, _, 0, d, h, e => by
    obtain ⟨v, r, rfl, q, z⟩ := h
    simp at e; subst e
    exact ⟨v, rfl, q⟩
  | _ :: _, _, i + 1, d, h, e => by
    obtain ⟨v, r, rfl, q, z⟩ := h
    simp at e
    obtain ⟨u, h1, h2⟩ := AtL.get z e
    exact ⟨u, by simpa using h1, h2⟩
theorem AtL.get2 : ∀ {l : List D} {vs : List V} {i : Nat} {v : V}, AtL K th G l vs → vs[i]? = some v → ∃ d, l[i]? = some d ∧ At K th G d v := fun {l vs i v} h e => by
  have hl := h.length
  have hi : i < vs.length := (List.getElem?_eq_some_iff.mp e).1
  have hd : i < l.length := by omega
  obtain ⟨u, h1, h2⟩ := h.get (List.getElem?_eq_getElem hd)
  rw [h1] at e; cases e
  exact ⟨_, List.getElem?_eq_getElem hd, h2⟩
theorem AtL.append : ∀ {l m : List D} {vs ws : List V}, AtL K th G l vs → AtL K th G m ws → AtL K th G (l ++ m) (vs ++ ws)
  | [], _, _, _, h, h2 => by cases h; exact h2
  | _ :: _, _, _, _, h, h2 => by
    obtain ⟨v, r, rfl, q, z⟩ := h
    exact ⟨v, r ++ _, rfl, q, AtL.append z h2⟩
theorem AtL.cons {d : D} {v : V} {l : List D} {vs : List V} (h : At K th G d v) (t : AtL K th G l vs) : AtL K th G (d :: l) (v :: vs) := ⟨v, vs, rfl, h, t⟩
theorem AtL.one {d : D} {v : V} (h : At K th G d v) : AtL K th G [d] [v] := ⟨v, [], rfl, h, rfl⟩
theorem AtL.drop : ∀ {l : List D} {vs : List V} (n : Nat), AtL K th G l vs → AtL K th G (l.drop n) (vs.drop n)
  | _, _, 0, h => h
  | [], _, n + 1, h => by cases h; exact rfl
  | _ :: _, _, n + 1, h => by obtain ⟨v, r, rfl, q, z⟩ := h; exact AtL.drop n z
theorem AtL.take : ∀ {l : List D} {vs : List V} (n : Nat), AtL K th G l vs → AtL K th G (l.take n) (vs.take n)
  | _, _, 0, h => rfl
  | [], _, n + 1, h => by cases h; exact rfl
  | _ :: _, _, n + 1, h => by obtain ⟨v, r, rfl, q, z⟩ := h; exact ⟨v, _, rfl, q, AtL.take n z⟩
theorem AtL.set : ∀ {l : List D} {vs : List V} {d : D} {v : V} (n : Nat), AtL K th G l vs → At K th G d v → AtL K th G (l.set n d) (vs.set n v)
  | [], _, _, _, _, h, _ => by cases h; exact rfl
  | _ :: _, _, _, _, 0, h, h2 => by obtain ⟨v, r, rfl, q, z⟩ := h; exact ⟨_, r, rfl, h2, z⟩
  | _ :: _, _, _, _, n + 1, h, h2 => by obtain ⟨v, r, rfl, q, z⟩ := h; exact ⟨v, _, rfl, q, AtL.set n z h2⟩
theorem AtL.eraseIdx : ∀ {l : List D} {vs : List V} (n : Nat), AtL K th G l vs → AtL K th G (l.eraseIdx n) (vs.eraseIdx n)
  | [], _, _, h => by cases h; exact rfl
  | _ :: _, _, 0, h => by obtain ⟨v, r, rfl, q, z⟩ := h; exact z
  | _ :: _, _, n + 1, h => by obtain ⟨v, r, rfl, q, z⟩ := h; exact ⟨v, _, rfl, q, AtL.eraseIdx n z⟩
theorem AtL.reverse {l : List D} {vs : List V} (h : AtL K th G l vs) : AtL K th G l.reverse vs.reverse := by
  induction l generalizing vs with
  | nil => cases h; exact rfl
  | cons d l ih =>
    obtain ⟨v, r, rfl, q, z⟩ := h
    rw [List.reverse_cons, List.reverse_cons]
    exact (ih z).append (.one q)
theorem AtL.ints : ∀ {ns : List Int} {vs : List V}, AtL K th G (ns.map D.int) vs → vs = ns.map V.int
  | [], _, h => h
  | _ :: _, _, h => by obtain ⟨v, r, rfl, q, z⟩ := h; cases q; rw [AtL.ints z]; rfl
theorem AtL.strs : ∀ {ns : List (List Nat)} {vs : List V}, AtL K th G (ns.map D.str) vs → vs = ns.map sv
  | [], _, h => h
  | _ :: _, _, h => by obtain ⟨v, r, rfl, q, z⟩ := h; cases q; rw [AtL.strs z]; rfl
theorem AtL.bls : ∀ {ns : List Bool} {vs : List V}, AtL K th G (ns.map D.bl) vs → vs = ns.map V.bl
  | [], _, h => h
  | _ :: _, _, h => by obtain ⟨v, r, rfl, q, z⟩ := h; cases q; rw [AtL.bls z]; rfl
theorem AtL.rep {l : List D} {vs : List V} (h : AtL K th G l vs) : ∀ n : Nat, AtL K th G (List.replicate n l).flatten (List.replicate n vs).flatten
  | 0 => rfl
  | n + 1 => by
    rw [List.replicate_succ, List.replicate_succ, List.flatten_cons, List.flatten_cons]
    exact h.append (AtL.rep h n)
end

/-- what stands at an own place -/
def ObAt (K : PySem.W.Frag) (th : List Addr) (G : Hp) (H : Hp) (a : Addr) : Ob → Prop
  | .lst l => G a = none ∧ ∃ vs, H a = some (.lst vs) ∧ AtL K th G l vs
  | .dct l => G a = none ∧ ∃ kvs : List (Key × V), H a = some (.dK kvs) ∧ kvs.map (·.1) = l.map (·.1) ∧ AtL K th G (l.map (·.2)) (kvs.map (·.2))
  | .ins C l => G a = none ∧ ∃ dx fs, H a = some (.ins C dx fs) ∧ fs.map (·.1) = l.map (·.1) ∧ AtL K th G (l.map (·.2)) (fs.map (·.2))
  | .dead => True

structure Exn where
  c : Str
  fs : List (Str × D)

/-- slots and own objects -/
structure S where
  r : List (Option D)
  m : List Ob

inductive R (α : Type) where
  | ok (a : α) | ex (e : Exn) (s : S) | no

/-- the tables of code objects that may grow, the classes by name -/
structure Bs where
  Tb : Addr → Prop
  cl : Str → Addr

structure Rep (K : PySem.W.Frag) (B : Bs) (th : List Addr) (G : Hp) (s : S) (σ : St) (H : Hp) : Prop where
  len : s.r.length = σ.length
  slot : ∀ (i : Nat) (d : D), s.r[i]? = some (some d) → ∃ v : V, σ[i]? = some (some v) ∧ At K th G d v
  eG : Ex G H
  tb : ∀ P, B.Tb P → GxR.TabG H P
  tl : th.length = s.m.length
  nd : th.Nodup
  al : ∀ a ∈ th, H a ≠ none
  st : ∀ (n : Nat) ob a, s.m[n]? = some ob → th[n]? = some a → ObAt K th G H a ob

/-- later: places and data stay, and so does whatever else stands -/
structure Le (th : List Addr) (G H : Hp) (th' : List Addr) (G' H' : Hp) : Prop where
  pre : th <+: th'
  ex : Sub G G'
  fr : ∀ a o, H a = some o → G a = none → a ∉ th → KeepF o (H' a) ∧ G' a = none ∧ a ∉ th'
theorem Le.refl (th : List Addr) (G H : Hp) : Le th G H th G H := ⟨List.prefix_rfl, Sub.refl G, fun a o e g n => ⟨by rw [e]; exact keepF_self o, g, n⟩⟩
theorem Le.trans {t1 t2 t3 : List Addr} {G1 G2 G3 H1 H2 H3 : Hp} (p : Le t1 G1 H1 t2 G2 H2) (q : Le t2 G2 H2 t3 G3 H3) : Le t1 G1 H1 t3 G3 H3 :=
  ⟨p.pre.trans q.pre, p.ex.trans q.ex, fun a o e g n => by
    obtain ⟨h1, h2, h3⟩ := p.fr a o e g n
    obtain ⟨u, hu⟩ := keepF_some h1
    obtain ⟨k1, k2, k3⟩ := q.fr a u hu h2 h3
    exact ⟨keepF_trans h1 fun u' e' => by rw [hu] at e'; cases e'; exact k1, k2, k3⟩⟩

section
variable {K : PySem.W.Frag} {B : Bs} {th : List Addr} {G : Hp} {s : S} {σ : St} {H : Hp}

theorem tab_upd {P p : Addr} {o : HO} (h : GxR.TabG H P) (hp : H p = none) : GxR.TabG (upd H p o) P := by
  obtain ⟨ps, e, t⟩ := h
  exact ⟨ps, by rw [upd_ne (ne_of_none e hp)]; exact e, t⟩
theorem ne_none {a p : Addr} (ha : H a ≠ none) (hp : H p = none) : a ≠ p := fun z => ha (by rw [z]; exact hp)
theorem some_ne {a : Addr} {o : HO} (h : H a = some o) : H a ≠ none := fun z => by rw [h] at z; cases z
theorem Rep.thne (R : Rep K B th G s σ H) {p : Addr} (hp : H p = none) : p ∉ th := fun hm => R.al p hm hp
theorem Rep.gnone (R : Rep K B th G s σ H) {p : Addr} (hp : H p = none) : G p = none := R.eG.none_back hp
theorem Le.new {p : Addr} {o : HO} (hp : H p = none) (e : Ex G H) : Le th G H th (upd G p o) (upd H p o) :=
  ⟨List.prefix_rfl, Sub.new (e.none_back hp), fun a u ha g n => by
    have hne := ne_none (some_ne ha) hp
    exact ⟨by rw [upd_ne hne, ha]; exact keepF_self u, by rw [upd_ne hne]; exact g, n⟩⟩

theorem ObAt.mono {th' : List Addr} {G' H' : Hp} {a : Addr} {ob : Ob} (ht : th <+: th') (e : Sub G G') (hg : ob ≠ .dead → G a = none → G' a = none) (hh : ob ≠ .dead → ∀ o, H a = some o → H' a = some o) (h : ObAt K th G H a ob) : ObAt K th' G' H' a ob := by
  cases ob with
  | lst l => obtain ⟨g, vs, e1, q⟩ := h; exact ⟨hg (fun z => nomatch z) g, vs, hh (fun z => nomatch z) _ e1, q.mono ht e⟩
  | dct l => obtain ⟨g, vs, e1, z, q⟩ := h; exact ⟨hg (fun z => nomatch z) g, vs, hh (fun z => nomatch z) _ e1, z, q.mono ht e⟩
  | ins C l => obtain ⟨g, dx, vs, e1, z, q⟩ := h; exact ⟨hg (fun z => nomatch z) g, dx, vs, hh (fun z => nomatch z) _ e1, z, q.mono ht e⟩
  | dead => exact trivial

/-- a new thing that is data from now on -/
theorem Rep.frz (R : Rep K B th G s σ H) {p : Addr} (hp : H p = none) (o : HO) : Rep K B th (upd G p o) s σ (upd H p o) where
  len := R.len
  slot := fun i d e => by
    obtain ⟨v, h1, h2⟩ := R.slot i d e
    exact ⟨v, h1, h2.mono List.prefix_rfl (Sub.new (R.gnone hp))⟩
  eG := R.eG.both
  tb := fun P h => tab_upd (R.tb P h) hp
  tl := R.tl
  nd := R.nd
  al := fun a h => by
    rw [upd_ne (ne_none (R.al a h) hp)]
    exact R.al a h
  st := fun n ob a e1 e2 => by
    have hne : a ≠ p := ne_none (R.al a (List.mem_of_getElem? e2)) hp
    refine (R.st n ob a e1 e2).mono List.prefix_rfl (Sub.new (R.gnone hp)) (fun _ g => ?_) (fun _ o h => ?_)
    · rw [upd_ne hne]; exact g
    · rw [upd_ne hne]; exact h

/-- a thing of nobody's is laid or changed aside -/
theorem Rep.side (R : Rep K B th G s σ H) {p : Addr} (o : HO) (hg : G p = none) (ht : p ∉ th) (hb : ∀ P, B.Tb P → P ≠ p) : Rep K B th G s σ (upd H p o) where
  len := R.len
  slot := R.slot
  eG := R.eG.mut hg
  tb := fun P h => by
    obtain ⟨ps, e, t⟩ := R.tb P h
    exact ⟨ps, by rw [upd_ne (hb P h)]; exact e, t⟩
  tl := R.tl
  nd := R.nd
  al := fun a h => by
    have hne : a ≠ p := fun z => ht (z ▸ h)
    rw [upd_ne hne]
    exact R.al a h
  st := fun n ob a e1 e2 => by
    have hne : a ≠ p := fun z => ht (z ▸ List.mem_of_getElem? e2)
    refine (R.st n ob a e1 e2).mono List.prefix_rfl (Sub.refl _) (fun _ g => g) (fun _ o h => ?_)
    rw [upd_ne hne]; exact h

/-- a new thing that is our own -/
theorem Rep.own (R : Rep K B th G s σ H) {p : Addr} (hl : H p ≠ none) (hn : p ∉ th) {ob : Ob} (ho : ObAt K (th ++ [p]) G H p ob) : Rep K B (th ++ [p]) G { s with m := s.m ++ [ob] } σ H where
  len := R.len
  slot := fun i d e => by
    obtain ⟨v, h1, h2⟩ := R.slot i d e
    exact ⟨v, h1, h2.mono (List.prefix_append _ _) (Sub.refl _)⟩
  eG := R.eG
  tb := R.tb
  tl := by simp [R.tl]
  nd := by
    rw [List.nodup_append]
    refine ⟨R.nd, by simp, fun a ha b hb => ?_⟩
    have : b = p := by simpa using hb
    subst this
    exact fun z => hn (z ▸ ha)
  al := fun a h => by
    rcases List.mem_append.mp h with h | h
    · exact R.al a h
    · have : a = p := by simpa using h
      rw [this]; exact hl
  st := fun n ob' a e1 e2 => by
    by_cases hn : n < th.length
    · rw [List.getElem?_append_left hn] at e2
      rw [List.getElem?_append_left (by rw [← R.tl]; exact hn)] at e1
      exact (R.st n ob' a e1 e2).mono (List.prefix_append _ _) (Sub.refl _) (fun _ g => g) (fun _ o h => h)
    · rw [List.getElem?_append_right (by omega)] at e2
      rw [List.getElem?_append_right (by rw [← R.tl]; omega), ← R.tl] at e1
      cases hk : n - th.length with
      | zero =>
        rw [hk] at e1 e2
        simp at e1 e2
        subst e1; subst e2
        exact ho
      | succ k => rw [hk] at e2; simp at e2

theorem nodup_get {l : List Addr} (h : l.Nodup) {i j : Nat} {a : Addr} (e1 : l[i]? = some a) (e2 : l[j]? = some a) : i = j := by
  obtain ⟨h1, q1⟩ := List.getElem?_eq_some_iff.mp e1
  obtain ⟨h2, q2⟩ := List.getElem?_eq_some_iff.mp e2
  exact (List.getElem_inj h).mp (q1.trans q2.symm)

/-- an own thing is changed -/
theorem Rep.put (R : Rep K B th G s σ H) {n : Nat} {a : Addr} {o : HO} {ob : Ob} (ha : th[n]? = some a) (hg : G a = none) (ho : ObAt K th G (upd H a o) a ob) (nt : ∀ P, B.Tb P → P ≠ a) : Rep K B th G { s with m := s.m.set n ob } σ (upd H a o) where
  len := R.len
  slot := R.slot
  eG := R.eG.mut hg
  tb := fun P h => by
    obtain ⟨ps, e, t⟩ := R.tb P h
    exact ⟨ps, by rw [upd_ne (nt P h)]; exact e, t⟩
  tl := by simp [R.tl]
  nd := R.nd
  al := fun b h => by
    by_cases hb : b = a
    · rw [hb, upd_same]; exact fun z => by cases z
    · rw [upd_ne hb]; exact R.al b h
  st := fun k ob' b e1 e2 => by
    by_cases hk : k = n
    · subst hk
      rw [ha] at e2; cases e2
      have hlt : k < s.m.length := by
        have := (List.getElem?_eq_some_iff.mp ha).1
        rw [R.tl] at this; exact this
      simp only [List.getElem?_set_self hlt] at e1
      cases e1
      exact ho
    · have hne : b ≠ a := fun z => hk (nodup_get R.nd (z ▸ e2) ha)
      simp only [List.getElem?_set_ne (Ne.symm hk)] at e1
      refine (R.st k ob' b e1 e2).mono List.prefix_rfl (Sub.refl _) (fun _ g => g) (fun _ u h => ?_)
      rw [upd_ne hne]; exact h
theorem Le.put {n : Nat} {a : Addr} {o : HO} (ha : th[n]? = some a) : Le th G H th G (upd H a o) :=
  ⟨List.prefix_rfl, Sub.refl G, fun b u hb g hn => by
    have hne : b ≠ a := fun z => hn (z ▸ List.mem_of_getElem? ha)
    exact ⟨by rw [upd_ne hne, hb]; exact keepF_self u, g, hn⟩⟩

/-- an own thing is data from now on -/
theorem Rep.still (R : Rep K B th G s σ H) {n : Nat} {a : Addr} {o : HO} (ha : th[n]? = some a) (hH : H a = some o) (hg : G a = none) : Rep K B th (upd G a o) { s with m := s.m.set n .dead } σ H where
  len := R.len
  slot := fun i d e => by
    obtain ⟨v, h1, h2⟩ := R.slot i d e
    exact ⟨v, h1, h2.mono List.prefix_rfl (Sub.new hg)⟩
  eG := fun b u e => by
    by_cases hb : b = a
    · rw [hb, upd_same] at e
      cases e
      rw [hb, hH]; exact keepO_self _
    · rw [upd_ne hb] at e
      exact R.eG b u e
  tb := R.tb
  tl := by simp [R.tl]
  nd := R.nd
  al := R.al
  st := fun k ob' b e1 e2 => by
    by_cases hk : k = n
    · subst hk
      have hlt : k < s.m.length := by
        have := (List.getElem?_eq_some_iff.mp ha).1
        rw [R.tl] at this; exact this
      simp only [List.getElem?_set_self hlt] at e1
      cases e1
      exact trivial
    · have hne : b ≠ a := fun z => hk (nodup_get R.nd (z ▸ e2) ha)
      simp only [List.getElem?_set_ne (Ne.symm hk)] at e1
      refine (R.st k ob' b e1 e2).mono List.prefix_rfl (Sub.new hg) (fun _ g => ?_) (fun _ u h => h)
      rw [upd_ne hne]; exact g
theorem Le.still {n : Nat} {a : Addr} {o : HO} (ha : th[n]? = some a) (hg : G a = none) : Le th G H th (upd G a o) H :=
  ⟨List.prefix_rfl, Sub.new hg, fun b u hb g hn => by
    have hne : b ≠ a := fun z => hn (z ▸ List.mem_of_getElem? ha)
    exact ⟨by rw [hb]; exact keepF_self u, by rw [upd_ne hne]; exact g, hn⟩⟩

/-- a thing of nobody's becomes data -/
theorem Rep.take (R : Rep K B th G s σ H) {a : Addr} {o : HO} (hH : H a = some o) (hg : G a = none) (hn : a ∉ th) : Rep K B th (upd G a o) s σ H where
  len := R.len
  slot := fun i d e => by
    obtain ⟨v, h1, h2⟩ := R.slot i d e
    exact ⟨v, h1, h2.mono List.prefix_rfl (Sub.new hg)⟩
  eG := fun b u e => by
    by_cases hb : b = a
    · rw [hb, upd_same] at e
      cases e
      rw [hb, hH]; exact keepO_self _
    · rw [upd_ne hb] at e
      exact R.eG b u e
  tb := R.tb
  tl := R.tl
  nd := R.nd
  al := R.al
  st := fun k ob' b e1 e2 => by
    have hne : b ≠ a := fun z => hn (z ▸ List.mem_of_getElem? e2)
    refine (R.st k ob' b e1 e2).mono List.prefix_rfl (Sub.new hg) (fun _ g => ?_) (fun _ u h => h)
    rw [upd_ne hne]; exact g

theorem set_get {r : List (Option D)} {i j : Nat} {x : Option D} {d : D} (h : (r.set i x)[j]? = some (some d)) : (i = j ∧ x = some d) ∨ (i ≠ j ∧ r[j]? = some (some d)) := by
  by_cases e : i = j
  · subst e
    by_cases hl : i < r.length
    · rw [List.getElem?_set_self hl] at h; exact .inl ⟨rfl, Option.some.inj h⟩
    · rw [List.getElem?_eq_none (by simpa using hl)] at h; cases h
  · rw [List.getElem?_set_ne e] at h; exact .inr ⟨e, h⟩

/-- a slot is stored -/
theorem Rep.sets (R : Rep K B th G s σ H) {i : Nat} {d : D} {v : V} (h : At K th G d v) : Rep K B th G { s with r := s.r.set i (some d) } (σ.set i (some v)) H where
  len := by simp [R.len]
  slot := fun j d' e => by
    rcases set_get e with ⟨hj, e'⟩ | ⟨hj, e'⟩
    · subst hj
      cases e'
      have hl : i < s.r.length := by
        have := (List.getElem?_eq_some_iff.mp e).1
        simpa using this
      exact ⟨v, List.getElem?_set_self (by rw [← R.len]; exact hl), h⟩
    · obtain ⟨u, h1, h2⟩ := R.slot j d' e'
      exact ⟨u, by rw [List.getElem?_set_ne hj]; exact h1, h2⟩
  eG := R.eG
  tb := R.tb
  tl := R.tl
  nd := R.nd
  al := R.al
  st := R.st
/-- other slots over the same things -/
theorem Rep.slots (R : Rep K B th G s σ H) {r' : List (Option D)} {σ' : St} (hl : r'.length = σ'.length) (h : ∀ (i : Nat) (d : D), r'[i]? = some (some d) → ∃ v : V, σ'[i]? = some (some v) ∧ At K th G d v) : Rep K B th G { s with r := r' } σ' H :=
  ⟨hl, h, R.eG, R.tb, R.tl, R.nd, R.al, R.st⟩
theorem Rep.tbne (R : Rep K B th G s σ H) {a : Addr} {o : HO} (h : H a = some o) (ho : ∀ ps, o ≠ .tbl ps) : ∀ P, B.Tb P → P ≠ a := fun P hP z => by
  obtain ⟨ps, e, _⟩ := R.tb P hP
  rw [z, h] at e
  exact ho ps (Option.some.inj e)
theorem Rep.tbnew (R : Rep K B th G s σ H) {a : Addr} (h : H a = none) : ∀ P, B.Tb P → P ≠ a := fun P hP z => by
  obtain ⟨ps, e, _⟩ := R.tb P hP
  rw [z, h] at e
  cases e
end
end VL
namespace VL
open PySem L2

def R.bind {α β : Type} (x : R (α × S)) (k : α → S → R β) : R β := match x with
  | .ok (a, s) => k a s
  | .ex e s => .ex e s
  | .no => .no
@[simp] theorem R.bind_ok {α β : Type} (a : α) (s : S) (k : α → S → R β) : R.bind (.ok (a, s)) k = k a s := id rfl
@[simp] theorem R.bind_ex {α β : Type} (e : Exn) (s : S) (k : α → S → R β) : R.bind (.ex e s) k = .ex e s := id rfl
@[simp] theorem R.bind_no {α β : Type} (k : α → S → R β) : R.bind .no k = .no := id rfl
theorem R.bind_assoc {α β γ : Type} (x : R (α × S)) (k : α → S → R (β × S)) (l : β → S → R γ) : (x.bind k).bind l = x.bind fun a s => (k a s).bind l := by
  cases x with
  | ok a => obtain ⟨a, s⟩ := a; rfl
  | ex e s => rfl
  | no => rfl

abbrev ME := S → R (D × S)
abbrev MT := S → R (Bool × S)
abbrev MA := S → R (List D × S)
abbrev MF := S → R (Ob × S)
/-- the first heap: the one at the start -/
abbrev Rel (α β : Type) := Hp → List Addr → Hp → Hp → α → β → Prop
class MonoR {α β : Type} (rel : Rel α β) : Prop where
  mono : ∀ {H H1 : Hp} {th : List Addr} {G H' : Hp} {a : α} {b : β}, (∀ p, H1 p = none → H p = none) → rel H1 th G H' a b → rel H th G H' a b
abbrev Tr (β : Type) := St → Hp → (β → Hp → Prop) → Prop

def ExAt (K : PySem.W.Frag) (B : Bs) (th : List Addr) (G H : Hp) (e : Exn) (cls : Value) (d : Option Addr) : Prop :=
  cls = .ref (B.cl e.c) ∧ ∃ vs, AtL K th G (e.fs.map (·.2)) vs ∧ vs.length = e.fs.length ∧ (d = none → e.fs = []) ∧ ∀ dd, d = some dd → G dd = some (.xd ((e.fs.map (·.1)).zip vs))

section
variable (K : PySem.W.Frag) (B : Bs) (W : WX)
def Post {α β : Type} (σ : St) (th : List Addr) (G H : Hp) (rel : Rel α β) (x : R (α × S)) (Q : β → Hp → Prop) : Prop := match x with
  | .ok (a, s') => ∀ th' G' H' b, Le th G H th' G' H' → Rep K B th' G' s' σ H' → rel H th' G' H' a b → Q b H'
  | .ex e s' => ∀ th' G' H' cls d, Le th G H th' G' H' → Rep K B th' G' s' σ H' → ExAt K B th' G' H' e cls d → W cls d σ H'
  | .no => False
def Sem {α β : Type} (rel : Rel α β) (t : Tr β) (m : S → R (α × S)) : Prop :=
  ∀ s th G σ H Q, Rep K B th G s σ H → Post K B W σ th G H rel (m s) Q → t σ H Q
end

def relE (K : PySem.W.Frag) : Rel D V := fun _ th G _ d v => At K th G d v
def relT : Rel Bool Bool := fun _ _ _ _ a b => b = a
def relO : Rel (Option Int) (Option Int) := fun _ _ _ _ a b => b = a
def relA (K : PySem.W.Frag) : Rel (List D) (List V) := fun _ th G _ l vs => AtL K th G l vs
/-- a fresh thing of nobody's -/
def relF (K : PySem.W.Frag) : Rel Ob V := fun H0 th G H ob v => ∃ p, v = .ref p ∧ ob ≠ .dead ∧ ObAt K th G H p ob ∧ p ∉ th ∧ H0 p = none
/-- an iterator's walk over data -/
def relI (K : PySem.W.Frag) : Rel (List D) It := fun _ th G H l J => ∀ th1 G1 H1 i, Le th G H th1 G1 H1 → Ex G1 H1 →
  (l.length ≤ i → J.stop i H1) ∧ ∀ d, l[i]? = some d → J.go i H1 ∧ ∀ x H2, J.yld i H1 x H2 → ∃ G2, ((H2 = H1 ∧ G2 = G1) ∨ ∃ p o, H1 p = none ∧ H2 = upd H1 p o ∧ G2 = upd G1 p o) ∧ At K th1 G2 d x
instance {K : PySem.W.Frag} : MonoR (relE K) := ⟨fun _ h => h⟩
instance : MonoR relT := ⟨fun _ h => h⟩
instance : MonoR relO := ⟨fun _ h => h⟩
instance {K : PySem.W.Frag} : MonoR (relA K) := ⟨fun _ h => h⟩
instance {K : PySem.W.Frag} : MonoR (relI K) := ⟨fun _ h => h⟩
instance {K : PySem.W.Frag} : MonoR (relF K) := ⟨fun k h => by obtain ⟨p, e, d, o, n, z⟩ := h; exact ⟨p, e, d, o, n, k p z⟩⟩

theorem Le.none_back {th th' : List Addr} {G G' H H' : Hp} (l : Le th G H th' G' H') (hx : Ex G' H') (ha : ∀ a ∈ th', H' a ≠ none) {p : Addr} (h : H' p = none) : H p = none := by
  cases e : H p with
  | none => rfl
  | some o =>
    by_cases hg : G p = none
    · by_cases ht : p ∈ th
      · exact absurd h (ha p (l.pre.subset ht))
      · obtain ⟨u, hu⟩ := keepF_some (l.fr p o e hg ht).1
        rw [h] at hu; cases hu
    · cases e2 : G p with
      | none => exact absurd e2 hg
      | some u =>
        have := hx.none_back h
        rw [l.ex p u e2] at this; cases this

section
variable {K : PySem.W.Frag} {B : Bs} {W : WX} {α β γ δ : Type} {σ : St} {th : List Addr} {G H : Hp}
theorem Post.later {rel : Rel α β} [MonoR rel] {x : R (α × S)} {Q : β → Hp → Prop} {th1 : List Addr} {G1 H1 : Hp} {s1 : S} (l : Le th G H th1 G1 H1) (R1 : Rep K B th1 G1 s1 σ H1) (P : Post K B W σ th G H rel x Q) : Post K B W σ th1 G1 H1 rel x Q := by
  cases x with
  | ok a => obtain ⟨a, s⟩ := a; exact fun th' G' H' b l' R r => P th' G' H' b (l.trans l') R (MonoR.mono (fun p h => l.none_back R1.eG R1.al h) r)
  | ex e s => exact fun th' G' H' cls d l' R r => P th' G' H' cls d (l.trans l') R r
  | no => exact P
theorem Post.bind {rel : Rel α β} {rel3 : Rel γ δ} [MonoR rel3] {x : R (α × S)} {k : α → S → R (γ × S)} {Q : δ → Hp → Prop} {Q2 : β → Hp → Prop} (P : Post K B W σ th G H rel3 (x.bind k) Q)
    (h : ∀ a s' th' G' H' b, Le th G H th' G' H' → Rep K B th' G' s' σ H' → rel H th' G' H' a b → Post K B W σ th' G' H' rel3 (k a s') Q → Q2 b H') : Post K B W σ th G H rel x Q2 := by
  cases x with
  | ok a => obtain ⟨a, s⟩ := a; exact fun th' G' H' b l R r => h a s th' G' H' b l R r (P.later l R)
  | ex e s => exact P
  | no => exact P
/-- .. what follows still seen from the start -/
theorem Post.bind0 {rel : Rel α β} {rel3 : Rel γ δ} {x : R (α × S)} {k : α → S → R (γ × S)} {Q : δ → Hp → Prop} {Q2 : β → Hp → Prop} (P : Post K B W σ th G H rel3 (x.bind k) Q)
    (h : ∀ a s' th' G' H' b, Le th G H th' G' H' → Rep K B th' G' s' σ H' → rel H th' G' H' a b → Post K B W σ th G H rel3 (k a s') Q → Q2 b H') : Post K B W σ th G H rel x Q2 := by
  cases x with
  | ok a => obtain ⟨a, s⟩ := a; exact fun th' G' H' b l R r => h a s th' G' H' b l R r P
  | ex e s => exact P
  | no => exact P
theorem Post.ok {rel : Rel α β} {a : α} {s : S} {b : β} {Q : β → Hp → Prop} (P : Post K B W σ th G H rel (.ok (a, s)) Q) (R : Rep K B th G s σ H) (r : rel H th G H a b) : Q b H := P th G H b (Le.refl _ _ _) R r
/-- the wish, weakened -/
theorem Post.mono {rel : Rel α β} {x : R (α × S)} {Q Q' : β → Hp → Prop} (P : Post K B W σ th G H rel x Q) (h : ∀ b H', Q b H' → Q' b H') : Post K B W σ th G H rel x Q' := by
  cases x with
  | ok a => obtain ⟨a, s⟩ := a; exact fun th' G' H' b l R r => h _ _ (P th' G' H' b l R r)
  | ex e s => exact P
  | no => exact P
end

/-! ### the judgements: a rule of the hand layer with what it is worth -/
structure VE (X : Cx) (B : Bs) (W : WX) (e : Expr) (t : TE) (m : ME) : Prop where
  pe : PE X e t
  sem : Sem X.K B W (relE X.K) t m
structure VF (X : Cx) (B : Bs) (W : WX) (e : Expr) (t : TE) (m : MF) : Prop where
  pe : PE X e t
  sem : Sem X.K B W (relF X.K) t m
structure VT (X : Cx) (B : Bs) (W : WX) (e : Expr) (t : TT) (m : MT) : Prop where
  pt : PT X e t
  sem : Sem X.K B W relT t m
structure VW (X : Cx) (B : Bs) (W : WX) (e : Expr) (t : TT) (m : MT) : Prop where
  pw : PW X e t
  sem : Sem X.K B W relT t m
structure VA (X : Cx) (B : Bs) (W : WX) (es : List Expr) (t : TA) (m : MA) : Prop where
  pa : PA X es t
  sem : Sem X.K B W (relA X.K) t m
structure VI (X : Cx) (B : Bs) (W : WX) (tg e : Expr) (t : TI) (m : MA) : Prop where
  pi : PI X tg e t
  sem : Sem X.K B W (relI X.K) t m
/-- an optional part of a slice -/
structure VO (X : Cx) (B : Bs) (W : WX) (e : Option Expr) (t : TO) (m : S → R (Option Int × S)) : Prop where
  po : PO X e t
  sem : Sem X.K B W relO t m

/-! ### names, constants -/
def eV (i : Nat) : ME := fun s => match s.r[i]? with
  | some (some d) => .ok (d, s)
  | _ => .no
def eC (d : D) : ME := fun s => .ok (d, s)
section
variable {X : Cx} {B : Bs} {W : WX} {e a b c : Expr} {te ta tb tc : TE} {m ma mb mc : ME} {pos : Pos}
theorem ve_v {x : Str} (i : Nat) (hN : X.N[i]? = some x := by rfl) (hv : Vis X.env.scope x := by first | exact Or.inl rfl | exact Or.inr (Or.inl rfl) | exact Or.inr (Or.inr rfl)) (hd : (x == ("__debug__" : Str)) = false := by decide)
    (hcd : (x == ("__classdict__" : Str)) = false := by decide) : VE X B W (.Name x pos) (tVar i) (eV i) := by
  refine ⟨pv i hN hv hd hcd, fun s th G σ H Q R P => ?_⟩
  unfold eV at P
  cases h : s.r[i]? with
  | none => rw [h] at P; exact P.elim
  | some o =>
    cases o with
    | none => rw [h] at P; exact P.elim
    | some d =>
      rw [h] at P
      obtain ⟨v, h1, h2⟩ := R.slot i d h
      exact ⟨v, h1, P.ok R h2⟩
theorem sem_c {K : PySem.W.Frag} {v : V} {d : D} (h : ∀ th G, At K th G d v) : Sem K B W (relE K) (tC v) (eC d) := fun s th G σ H Q R P => Post.ok (rel := relE K) P R (h th G)
theorem ve_int {i : Int} {j : Nat} : VE X B W (.Constant (.int i) j pos) (tC (.int i)) (eC (.int i)) := ⟨pe_int, sem_c fun _ _ => rfl⟩
theorem ve_bl {i : Bool} {j : Nat} : VE X B W (.Constant (.bool i) j pos) (tC (.bl i)) (eC (.bl i)) := ⟨pe_bl, sem_c fun _ _ => rfl⟩
theorem ve_non {j : Nat} : VE X B W (.Constant .none j pos) (tC .non) (eC .non) := ⟨pe_non, sem_c fun _ _ => rfl⟩
theorem ve_str {x : Str} {l : List Nat} {j : Nat} (h : x.cps = l.toArray := by rfl) : VE X B W (.Constant (.str x) j pos) (tC (.str x)) (eC (.str l)) := ⟨pe_str, sem_c fun _ _ => by
  obtain ⟨c⟩ := x
  have h : c = l.toArray := h
  subst h; rfl⟩
/-- a built-in class or a class of the program as a value -/
theorem ve_gobj {x : Str} {ad : Addr} (hg : Gl X x) (hm : X.mg x = some (.ref ad)) (hd : (x == ("__debug__" : Str)) = false := by decide) : VE X B W (.Name x pos) (tC (.ref ad)) (eC (.obj ad)) := ⟨pe_glob hg hm rfl hd, sem_c fun _ _ => rfl⟩

/-! ### two operands -/
def eOp (f : D → D → S → R (D × S)) (a b : ME) : ME := fun s => (a s).bind fun x s => (b s).bind fun y s => f x y s
/-- what an operation by values is worth -/
def SemR (K : PySem.W.Frag) (B : Bs) (W : WX) (r : R2) (f : D → D → S → R (D × S)) : Prop :=
  ∀ s th G σ H Q x y vx vy, Rep K B th G s σ H → At K th G x vx → At K th G y vy → Post K B W σ th G H (relE K) (f x y s) Q → r vx vy H Q
theorem sem_op {K : PySem.W.Frag} {r : R2} {f : D → D → S → R (D × S)} (hf : SemR K B W r f) (ha : Sem K B W (relE K) ta ma) (hb : Sem K B W (relE K) tb mb) : Sem K B W (relE K) (tOp r ta tb) (eOp f ma mb) := fun s th G σ H Q R P =>
  ha s th G σ H _ R (P.bind fun x s1 th1 G1 H1 vx l1 R1 r1 P1 => hb s1 th1 G1 σ H1 _ R1 (P1.bind fun y s2 th2 G2 H2 vy l2 R2 r2 P2 =>
    hf s2 th2 G2 σ H2 Q x y vx vy R2 (At.mono l2.pre l2.ex r1) r2 P2))
/-- a value reckoned from two, the heap as it was -/
def fP (g : D → D → Option D) : D → D → S → R (D × S) := fun x y s => match g x y with
  | some d => .ok (d, s)
  | none => .no
theorem semR_P {K : PySem.W.Frag} {r : R2} {g : D → D → Option D} (h : ∀ th G H (Q : VK) x y vx vy d, At K th G x vx → At K th G y vy → g x y = some d → (∀ v, At K th G d v → Q v H) → r vx vy H Q) : SemR K B W r (fP g) := fun s th G σ H Q x y vx vy R rx ry P => by
  unfold fP at P
  cases e : g x y with
  | none => rw [e] at P; exact P.elim
  | some d =>
    rw [e] at P
    exact h th G H Q x y vx vy d rx ry e fun v hv => Post.ok (rel := relE K) P R hv

theorem PE.or {t u : TE} (h : PE X e t) (k : PE X e u) : PE X e (fun σ H Q => t σ H Q ∨ u σ H Q) := ⟨fun pins s σ H Q I hw => by
  rcases hw with hw | hw
  · exact h.run pins s σ H Q I hw
  · exact k.run pins s σ H Q I hw⟩

/-- an operation on ints by its condition and its value -/
def gI (C : Int → Int → Bool) (g : Int → Int → D) : D → D → Option D
  | .int i, .int j => if C i j then some (g i j) else none
  | _, _ => none
theorem semR_I {K : PySem.W.Frag} {C : Int → Int → Prop} {Cb : Int → Int → Bool} {gv : Int → Int → V} {g : Int → Int → D} (hc : ∀ i j, Cb i j = true → C i j) (hg : ∀ th G i j, At K th G (g i j) (gv i j)) : SemR K B W (rI C gv) (fP (gI Cb g)) :=
  semR_P fun th G H Q x y vx vy d rx ry e q => by
    cases x <;> cases y <;> first
      | (simp only [gI] at e
         split at e
         · rename_i i j hij
           cases e; cases rx; cases ry
           exact ⟨_, _, rfl, rfl, hc _ _ hij, q _ (hg _ _ _ _)⟩
         · cases e)
      | (simp [gI] at e)
theorem semR_I0 {K : PySem.W.Frag} {gv : Int → Int → V} {g : Int → Int → D} (hg : ∀ th G i j, At K th G (g i j) (gv i j)) : SemR K B W (rI0 gv) (fP (gI (fun _ _ => true) g)) :=
  semR_P fun th G H Q x y vx vy d rx ry e q => by
    cases x <;> cases y <;> first
      | (simp [gI] at e; subst e; cases rx; cases ry; exact ⟨_, _, rfl, rfl, q _ (hg _ _ _ _)⟩)
      | (simp [gI] at e)
end
end VL
namespace VL
open PySem L2

/-! ### reading sequences -/
/-- a list: data, or an own place -/
def lstOf (s : S) : D → Option (List D)
  | .lst l => some l
  | .loc n => match s.m[n]? with
    | some (.lst l) => some l
    | _ => none
  | _ => none
def seqOf (s : S) : D → Option (List D)
  | .tup l => some l
  | .scr l => some (l.map D.int)
  | d => lstOf s d
section
variable {K : PySem.W.Frag} {B : Bs} {th : List Addr} {G : Hp} {s : S} {σ : St} {H : Hp}
theorem atL_ints (ns : List Int) : AtL K th G (ns.map D.int) (ns.map V.int) := by
  induction ns with
  | nil => exact rfl
  | cons n ns ih => exact .cons (d := .int n) (v := .int n) rfl ih
theorem Rep.lst_of (R : Rep K B th G s σ H) {d : D} {v : V} {l : List D} (h : At K th G d v) (e : lstOf s d = some l) : ∃ a vs, v = .ref a ∧ H a = some (.lst vs) ∧ AtL K th G l vs := by
  cases d with
  | lst m =>
    simp only [lstOf] at e; cases e
    obtain ⟨a, vs, e1, q, r⟩ := h
    exact ⟨a, vs, e1, R.eG.lst q, r⟩
  | loc n =>
    simp only [lstOf] at e
    obtain ⟨a, ha, e1⟩ := h
    cases hm : s.m[n]? with
    | none => rw [hm] at e; cases e
    | some ob =>
      rw [hm] at e
      cases ob with
      | lst m =>
        cases e
        obtain ⟨g, vs, q, r⟩ := R.st n _ a hm ha
        exact ⟨a, vs, e1, q, r⟩
      | _ => cases e
  | _ => simp [lstOf] at e
theorem Rep.seq_of (R : Rep K B th G s σ H) {d : D} {v : V} {l : List D} (h : At K th G d v) (e : seqOf s d = some l) : ∃ a vs, v = .ref a ∧ (SqL K H a vs ∨ SqT K H a vs) ∧ AtL K th G l vs := by
  cases d with
  | tup m =>
    simp only [seqOf] at e; cases e
    obtain ⟨a, vs, e1, q, r⟩ := h
    exact ⟨a, vs, e1, .inr (R.eG.sqT q), r⟩
  | scr m =>
    simp only [seqOf] at e; cases e
    obtain ⟨a, e1, q⟩ := h
    exact ⟨a, _, e1, .inl (R.eG.sqL q), atL_ints m⟩
  | lst m =>
    obtain ⟨a, vs, e1, q, r⟩ := R.lst_of h e
    exact ⟨a, vs, e1, .inl (SqL.of q), r⟩
  | loc n =>
    obtain ⟨a, vs, e1, q, r⟩ := R.lst_of h e
    exact ⟨a, vs, e1, .inl (SqL.of q), r⟩
  | _ => simp [seqOf, lstOf] at e
theorem ixN_eq {α β : Type} {l : List α} {m : List β} (h : m.length = l.length) (i : Int) : ixN m.length i = ixN l.length i := by rw [h]
theorem AtL.atI {l : List D} {vs : List V} {i : Int} {d : D} (h : AtL K th G l vs) (e : L2.atI l i = some d) : ∃ v, L2.atI vs i = some v ∧ At K th G d v := by
  unfold L2.atI at e ⊢
  rw [h.length]
  cases hn : ixN l.length i with
  | none => rw [hn] at e; cases e
  | some j =>
    rw [hn] at e
    exact h.get (by simpa using e)
end

/-! ### sizes -/
def SZ : Nat := 16777216
theorem SZ_eq : sizeLine = SZ := sizeLine_eq

section
variable {X : Cx} {B : Bs} {W : WX} {e a b c : Expr} {te ta tb tc : TE} {m ma mb mc : ME} {pos : Pos} {th : List Addr} {G H : Hp} {s : S} {σ : St}
/-- the value's place, as data, in a heap that learns of it -/
theorem post_tup {K : PySem.W.Frag} {l : List D} {vs : List V} {Q : VK} {p : Addr} (R : Rep K B th G s σ H) (P : Post K B W σ th G H (relE K) (.ok (.tup l, s)) Q) (r : AtL K th G l vs) (hp : H p = none) : Q (.ref p) (upd H p (.tup vs)) :=
  P th (upd G p (.tup vs)) (upd H p (.tup vs)) (.ref p) (Le.new hp R.eG) (R.frz hp _) ⟨p, vs, rfl, SqT.of upd_same, r.mono List.prefix_rfl (Sub.new (R.gnone hp))⟩
theorem post_lst {K : PySem.W.Frag} {l : List D} {vs : List V} {Q : VK} {p : Addr} (R : Rep K B th G s σ H) (P : Post K B W σ th G H (relE K) (.ok (.lst l, s)) Q) (r : AtL K th G l vs) (hp : H p = none) : Q (.ref p) (upd H p (.lst vs)) :=
  P th (upd G p (.lst vs)) (upd H p (.lst vs)) (.ref p) (Le.new hp R.eG) (R.frz hp _) ⟨p, vs, rfl, upd_same, r.mono List.prefix_rfl (Sub.new (R.gnone hp))⟩
/-- a list of nobody's -/
theorem post_f {K : PySem.W.Frag} {l : List D} {vs : List V} {Q : VK} {p : Addr} (R : Rep K B th G s σ H) (P : Post K B W σ th G H (relF K) (.ok (.lst l, s)) Q) (r : AtL K th G l vs) (hp : H p = none) : Q (.ref p) (upd H p (.lst vs)) :=
  P th G (upd H p (.lst vs)) (.ref p) ⟨List.prefix_rfl, Sub.refl G, fun a u ha g n => by
      have hne := ne_none (some_ne ha) hp
      exact ⟨by rw [upd_ne hne, ha]; exact keepF_self u, g, n⟩⟩ (R.side _ (R.gnone hp) (R.thne hp) (R.tbnew hp)) ⟨p, rfl, (fun z => nomatch z), ⟨R.gnone hp, vs, upd_same, r⟩, R.thne hp, hp⟩

/-! ### + -/
def fAdd : D → D → S → R (D × S)
  | .int i, .int j, s => .ok (.int (i + j), s)
  | .str x, .str y, s => if x.length + y.length ≤ SZ then .ok (.str (x ++ y), s) else .no
  | .tup x, .tup y, s => if x.length + y.length ≤ SZ then .ok (.tup (x ++ y), s) else .no
  | x, y, s => match lstOf s x, lstOf s y with
    | some l, some m => if l.length + m.length ≤ SZ then .ok (.lst (l ++ m), s) else .no
    | _, _ => .no
def rAddA (K : PySem.W.Frag) : R2 := fun x y H Q => rI0 (fun i j => .int (i + j)) x y H Q ∨ ((∃ i j, x = .str i ∧ y = .str j ∧ i.length + j.length ≤ sizeLine ∧ Q (.str (i ++ j)) H) ∨ (rCatA K x y H Q ∨ rCat x y H Q))
theorem op_addA : OpR X (binaryOp .Add) (rAddA X.K) := op_add.or (op_add_str.or (op_catA.or op_cat))
theorem str_app (x y : List Nat) : ((⟨x.toArray⟩ : Str) ++ (⟨y.toArray⟩ : Str)) = ⟨(x ++ y).toArray⟩ := by
  apply TL.ext_tl
  rw [TL.tl_append]
theorem str_len (x : List Nat) : (⟨x.toArray⟩ : Str).length = x.length := by simp [Str.length]
theorem sem_add_lst {K : PySem.W.Frag} {x y : D} {vx vy : V} {Q : VK} (R : Rep K B th G s σ H) (rx : At K th G x vx) (ry : At K th G y vy)
    (P : Post K B W σ th G H (relE K) (match lstOf s x, lstOf s y with
      | some l, some m => if l.length + m.length ≤ SZ then .ok (.lst (l ++ m), s) else .no
      | _, _ => .no) Q) : rCat vx vy H Q := by
  cases e1 : lstOf s x with
  | none => rw [e1] at P; exact P.elim
  | some l =>
    cases e2 : lstOf s y with
    | none => rw [e1, e2] at P; exact P.elim
    | some m =>
      rw [e1, e2] at P
      simp only at P
      split at P
      · rename_i hz
        obtain ⟨p, vs, h1, h2, h3⟩ := R.lst_of rx e1
        obtain ⟨q, ws, k1, k2, k3⟩ := R.lst_of ry e2
        exact ⟨p, q, vs, ws, h1, k1, h2, k2, by rw [h3.length, k3.length, SZ_eq]; exact hz, fun t ht => post_lst R P (h3.append k3) ht⟩
      · exact P.elim
theorem semR_add {K : PySem.W.Frag} : SemR K B W (rAddA K) fAdd := fun s th G σ H Q x y vx vy R rx ry P => by
  by_cases hii : (∃ i j, x = .int i ∧ y = .int j)
  · obtain ⟨i, j, rfl, rfl⟩ := hii
    cases rx; cases ry
    exact .inl ⟨i, j, rfl, rfl, Post.ok (rel := relE K) P R rfl⟩
  by_cases hss : (∃ i j, x = .str i ∧ y = .str j)
  · obtain ⟨i, j, rfl, rfl⟩ := hss
    cases rx; cases ry
    simp only [fAdd] at P
    split at P
    · rename_i hz
      exact .inr (.inl ⟨_, _, rfl, rfl, by rw [str_len, str_len, SZ_eq]; exact hz, by rw [str_app]; exact Post.ok (rel := relE K) P R rfl⟩)
    · exact P.elim
  by_cases htt : (∃ i j, x = .tup i ∧ y = .tup j)
  · obtain ⟨i, j, rfl, rfl⟩ := htt
    simp only [fAdd] at P
    split at P
    · rename_i hz
      obtain ⟨p, vs, e1, q1, r1⟩ := id rx
      obtain ⟨q, ws, e2, q2, r2⟩ := id ry
      refine .inr (.inr (.inl ⟨p, q, vs, ws, e1, e2, R.eG.sqT q1, R.eG.sqT q2, by rw [r1.length, r2.length, SZ_eq]; exact hz, fun z => ?_, fun z1 z2 => ?_, fun z1 z2 t ht => post_tup R P (r1.append r2) ht⟩))
      · subst z
        have : i = [] := List.eq_nil_of_length_eq_zero (by rw [← r1.length]; rfl)
        subst this
        exact Post.ok (rel := relE K) P R ⟨q, ws, rfl, q2, r2⟩
      · subst z2
        have : j = [] := List.eq_nil_of_length_eq_zero (by rw [← r2.length]; rfl)
        subst this
        rw [List.append_nil] at P
        exact Post.ok (rel := relE K) P R ⟨p, vs, rfl, q1, r1⟩
    · exact P.elim
  have P' : Post K B W σ th G H (relE K) (match lstOf s x, lstOf s y with
      | some l, some m => if l.length + m.length ≤ SZ then .ok (.lst (l ++ m), s) else .no
      | _, _ => .no) Q := by
    cases x <;> cases y <;> first
      | exact P
      | exact absurd ⟨_, _, rfl, rfl⟩ hii
      | exact absurd ⟨_, _, rfl, rfl⟩ hss
      | exact absurd ⟨_, _, rfl, rfl⟩ htt
  exact .inr (.inr (.inr (sem_add_lst R rx ry P')))
theorem ve_add (ha : VE X B W a ta ma) (hb : VE X B W b tb mb) : VE X B W (.BinOp a .Add b pos) (tOp (rAddA X.K) ta tb) (eOp fAdd ma mb) := ⟨pe_op op_addA ha.pe hb.pe, sem_op semR_add ha.sem hb.sem⟩

/-! ### - // % ** -/
abbrev fSub : D → D → S → R (D × S) := fP (gI (fun _ _ => true) fun i j => .int (i - j))
theorem ve_sub (ha : VE X B W a ta ma) (hb : VE X B W b tb mb) : VE X B W (.BinOp a .Sub b pos) (tOp (rI0 fun i j => .int (i - j)) ta tb) (eOp fSub ma mb) := ⟨pe_op op_sub ha.pe hb.pe, sem_op (semR_I0 fun _ _ _ _ => rfl) ha.sem hb.sem⟩
abbrev fDiv : D → D → S → R (D × S) := fP (gI (fun _ j => decide (0 < j ∧ j < 1073741824)) fun i j => .int (i / j))
theorem ve_div (ha : VE X B W a ta ma) (hb : VE X B W b tb mb) : VE X B W (.BinOp a .FloorDiv b pos) (tOp (rI CDiv fun i j => .int (i / j)) ta tb) (eOp fDiv ma mb) := ⟨pe_op op_fdiv ha.pe hb.pe, sem_op (semR_I (C := CDiv) (fun i j h => (show 0 < j ∧ j < 1073741824 from of_decide_eq_true h)) fun _ _ _ _ => rfl) ha.sem hb.sem⟩
abbrev fMod : D → D → S → R (D × S) := fP (gI (fun _ j => decide (0 < j)) fun i j => .int (i % j))
theorem ve_mod (ha : VE X B W a ta ma) (hb : VE X B W b tb mb) : VE X B W (.BinOp a .Mod b pos) (tOp (rI (fun _ j => 0 < j) fun i j => .int (i % j)) ta tb) (eOp fMod ma mb) := ⟨pe_op op_mod ha.pe hb.pe, sem_op (semR_I (fun _ _ h => of_decide_eq_true h) fun _ _ _ _ => rfl) ha.sem hb.sem⟩
def powOk (i j : Int) : Bool := decide (0 ≤ j ∧ j ≤ 1000000 ∧ i.natAbs < 18446744073709551616)
abbrev fPow : D → D → S → R (D × S) := fP (gI powOk fun i j => .int (i ^ j.toNat))
theorem ve_pow (ha : VE X B W a ta ma) (hb : VE X B W b tb mb) : VE X B W (.BinOp a .Pow b pos) (tOp (rI CPow fun i j => .int (i ^ j.toNat)) ta tb) (eOp fPow ma mb) := ⟨pe_op op_pow ha.pe hb.pe, sem_op (semR_I (fun _ _ h => by
  have q := of_decide_eq_true h
  exact ⟨q.1, q.2.1, q.2.2⟩) fun _ _ _ _ => rfl) ha.sem hb.sem⟩

/-! ### comparisons of ints and texts -/
def gLt (s : Nat → Nat → Bool) : D → D → Option D
  | .int i, .int j => some (.bl (decide (i < j)))
  | _, _ => none
def gCmp (p : Int → Int → Bool) (q : List Nat → List Nat → Bool) : D → D → Option D
  | .int i, .int j => some (.bl (p i j))
  | .str i, .str j => some (.bl (q i j))
  | _, _ => none
def rCmpS (q : List Nat → List Nat → Bool) : R2 := fun x y H Q => ∃ i j, x = .str i ∧ y = .str j ∧ Q (.bl (q i.cps.toList j.cps.toList)) H
theorem semR_cmp {K : PySem.W.Frag} {p : Int → Int → Bool} {q : List Nat → List Nat → Bool} : SemR K B W (fun x y H Q => rI0 (fun i j => .bl (p i j)) x y H Q ∨ rCmpS q x y H Q) (fP (gCmp p q)) :=
  semR_P fun th G H Q x y vx vy d rx ry e k => by
    cases x <;> cases y <;> first
      | (simp only [gCmp] at e; cases e; cases rx; cases ry; exact .inl ⟨_, _, rfl, rfl, k _ rfl⟩)
      | (simp only [gCmp] at e; cases e; cases rx; cases ry; exact .inr ⟨_, _, rfl, rfl, k _ rfl⟩)
      | (simp [gCmp] at e)
theorem op_ltA : OpR X (compareOp .Lt) (fun x y H Q => rI0 (fun i j => .bl (decide (i < j))) x y H Q ∨ rCmpS (fun i j => decide (i < j)) x y H Q) := op_lt.or op_lt_str
theorem op_leA : OpR X (compareOp .LtE) (fun x y H Q => rI0 (fun i j => .bl (decide (i ≤ j))) x y H Q ∨ rCmpS (fun i j => !decide (j < i)) x y H Q) := op_le.or op_le_str
theorem op_gtA : OpR X (compareOp .Gt) (fun x y H Q => rI0 (fun i j => .bl (decide (j < i))) x y H Q ∨ rCmpS (fun i j => decide (j < i)) x y H Q) := op_gt.or op_gt_str
theorem op_geA : OpR X (compareOp .GtE) (fun x y H Q => rI0 (fun i j => .bl (decide (j ≤ i))) x y H Q ∨ rCmpS (fun i j => !decide (i < j)) x y H Q) := op_ge.or op_ge_str
end
end VL
namespace VL
open PySem L2

/-! ### == -/
mutual
def toP : D → PyData
  | .non => .none
  | .bl b => .bool b
  | .int i => .int i
  | .str s => .str ⟨s.toArray⟩
  | .tup l => .tuple (toPs l)
  | .lst l => .list (toPs l)
  | _ => .none
def toPs : List D → List PyData
  | [] => []
  | d :: l => toP d :: toPs l
end
mutual
/-- plain data, at most n deep -/
def okD : Nat → D → Bool
  | _, .non => true
  | _, .bl _ => true
  | _, .int _ => true
  | _, .str s => s.all (· < 0x110000)
  | n, .tup l => match n with
    | 0 => false
    | n + 1 => okDs n l
  | n, .lst l => match n with
    | 0 => false
    | n + 1 => okDs n l
  | _, _ => false
def okDs : Nat → List D → Bool
  | _, [] => true
  | n, d :: l => okD n d && okDs n l
end
mutual
def eqD : D → D → Bool
  | .non, .non => true
  | .bl a, .bl b => a == b
  | .bl a, .int j => (if a then 1 else 0) == j
  | .int i, .bl b => i == (if b then 1 else 0)
  | .int i, .int j => decide (i = j)
  | .str x, .str y => decide (x = y)
  | .tup x, .tup y => eqDs x y
  | .lst x, .lst y => eqDs x y
  | _, _ => false
def eqDs : List D → List D → Bool
  | [], [] => true
  | x :: xs, y :: ys => eqD x y && eqDs xs ys
  | _, _ => false
end
mutual
theorem okD_P : ∀ (n : Nat) (d : D), okD n d = true → (toP d).canLay0 = true ∧ (toP d).depth ≤ n
  | _, .non, _ => ⟨rfl, Nat.zero_le _⟩
  | _, .bl _, _ => ⟨rfl, Nat.zero_le _⟩
  | _, .int _, _ => ⟨rfl, Nat.zero_le _⟩
  | _, .str s, h => ⟨by
      simp only [okD] at h
      simp only [toP, PyData.canLay0, PyData.strOk]
      rw [List.all_toArray]; exact h, Nat.zero_le _⟩
  | 0, .tup l, h => by simp [okD] at h
  | n + 1, .tup l, h => by
    simp only [okD] at h
    obtain ⟨h1, h2⟩ := okDs_P n l h
    simp only [toP, PyData.canLay0, PyData.depth]
    exact ⟨h1, by omega⟩
  | 0, .lst l, h => by simp [okD] at h
  | n + 1, .lst l, h => by
    simp only [okD] at h
    obtain ⟨h1, h2⟩ := okDs_P n l h
    simp only [toP, PyData.canLay0, PyData.depth]
    exact ⟨h1, by omega⟩
  | _, .dct _ _, h => by simp [okD] at h
  | _, .scr _, h => by simp [okD] at h
  | _, .loc _, h => by simp [okD] at h
  | _, .obj _, h => by simp [okD] at h
theorem okDs_P : ∀ (n : Nat) (l : List D), okDs n l = true → PyData.canLayAll0 (toPs l) = true ∧ PyData.depthAll (toPs l) ≤ n
  | _, [], _ => ⟨rfl, Nat.zero_le _⟩
  | n, d :: l, h => by
    simp only [okDs, Bool.and_eq_true] at h
    obtain ⟨h1, h2⟩ := okD_P n d h.1
    obtain ⟨h3, h4⟩ := okDs_P n l h.2
    simp only [toPs, PyData.canLayAll0, PyData.depthAll, h1, h3, Bool.and_self]
    exact ⟨trivial, by omega⟩
end
theorem shaped_of {d : D} (h : okD 64 d = true) : SeqAt.shaped (toP d) = true := by
  obtain ⟨h1, h2⟩ := okD_P 64 d h
  unfold SeqAt.shaped
  rw [h1, decide_eq_true h2]; rfl
theorem str_beq (x y : List Nat) : ((⟨x.toArray⟩ : Str) == ⟨y.toArray⟩) = decide (x = y) := by
  rw [Bool.eq_iff_iff]
  simp
mutual
theorem eqv_D : ∀ (x y : D) (n m : Nat), okD n x = true → okD m y = true → PyData.eqv (toP x) (toP y) = eqD x y
  | x, y, n, m, hx, hy => by
    cases x <;> cases y <;> first
      | (simp [okD] at hx; done)
      | (simp [okD] at hy; done)
      | (simp only [toP, PyData.eqv, eqD]; done)
      | rfl
      | (simp only [toP, PyData.eqv, eqD]; exact str_beq _ _)
      | (simp only [toP, PyData.eqv, eqD]; exact Int.beq_eq_decide _ _)
      | (simp only [toP, PyData.eqv, eqD]; rw [Bool.eq_iff_iff]; simp; done)
      | (cases n with
         | zero => simp [okD] at hx
         | succ n =>
           cases m with
           | zero => simp [okD] at hy
           | succ m =>
             simp only [okD] at hx hy
             simp only [toP, PyData.eqv, eqD]
             exact eqv_Ds _ _ n m hx hy)
theorem eqv_Ds : ∀ (x y : List D) (n m : Nat), okDs n x = true → okDs m y = true → PyData.eqvAll (toPs x) (toPs y) = eqDs x y
  | [], [], _, _, _, _ => rfl
  | [], _ :: _, _, _, _, _ => rfl
  | _ :: _, [], _, _, _, _ => rfl
  | x :: xs, y :: ys, n, m, hx, hy => by
    simp only [okDs, Bool.and_eq_true] at hx hy
    simp only [toPs, PyData.eqvAll, eqDs]
    rw [eqv_D x y n m hx.1 hy.1, eqv_Ds xs ys n m hx.2 hy.2]
end
section
variable {K : PySem.W.Frag} {th : List Addr} {G H : Hp}
mutual
theorem dp_of (e : Ex G H) : ∀ (n : Nat) (d : D) (v : V), okD n d = true → At K th G d v → Dp K H v (toP d)
  | _, .non, _, _, h => by cases h; exact .non
  | _, .bl _, _, _, h => by cases h; exact .bl _
  | _, .int _, _, _, h => by cases h; exact .int _
  | _, .str _, _, _, h => by cases h; exact .str _
  | 0, .tup l, _, hk, _ => by simp [okD] at hk
  | n + 1, .tup l, _, hk, h => by
    obtain ⟨a, vs, rfl, q, r⟩ := h
    simp only [okD] at hk
    exact .tup (e.sqT q) (dps_of e n l vs hk r)
  | 0, .lst l, _, hk, _ => by simp [okD] at hk
  | n + 1, .lst l, _, hk, h => by
    obtain ⟨a, vs, rfl, q, r⟩ := h
    simp only [okD] at hk
    exact .lst (SqL.of (e.lst q)) (dps_of e n l vs hk r)
  | _, .dct _ _, _, hk, _ => by simp [okD] at hk
  | _, .scr _, _, hk, _ => by simp [okD] at hk
  | _, .loc _, _, hk, _ => by simp [okD] at hk
  | _, .obj _, _, hk, _ => by simp [okD] at hk
theorem dps_of (e : Ex G H) : ∀ (n : Nat) (l : List D) (vs : List V), okDs n l = true → AtL K th G l vs → DpAll K H vs (toPs l)
  | _, [], _, _, h => by cases h; exact .nil
  | n, d :: l, _, hk, h => by
    obtain ⟨v, r, rfl, q, z⟩ := h
    simp only [okDs, Bool.and_eq_true] at hk
    exact .cons (dp_of e n d v hk.1 q) (dps_of e n l r hk.2 z)
end
end
/-- == of texts, numbers, truth values, None at once; of anything else by its data -/
def qEq : D → D → Option Bool
  | .str x, .str y => some (decide (x = y))
  | x, y => if okD 64 x && okD 64 y then some (eqD x y) else none
/-- an own list is compared by what it holds now -/
def peek (s : S) : D → D
  | .loc n => match s.m[n]? with
    | some (.lst l) => .lst l
    | _ => .loc n
  | d => d
def fEq : D → D → S → R (D × S) := fun x y s => match qEq (peek s x) (peek s y) with
  | some b => .ok (.bl b, s)
  | none => .no
def fNe : D → D → S → R (D × S) := fun x y s => match qEq (peek s x) (peek s y) with
  | some b => .ok (.bl (!b), s)
  | none => .no

section
variable {X : Cx} {B : Bs} {W : WX} {e a b c : Expr} {te ta tb tc : TE} {m ma mb mc : ME} {pos : Pos} {th : List Addr} {G H : Hp} {s : S} {σ : St}
theorem dp_peek {K : PySem.W.Frag} (R : Rep K B th G s σ H) {d : D} {v : V} (hk : okD 64 (peek s d) = true) (h : At K th G d v) : Dp K H v (toP (peek s d)) := by
  cases d with
  | loc n =>
    simp only [peek] at hk ⊢
    cases hm : s.m[n]? with
    | none => rw [hm] at hk; simp [okD] at hk
    | some ob =>
      rw [hm] at hk
      cases ob with
      | lst l =>
        obtain ⟨a, vs, e1, q, r⟩ := R.lst_of (d := .loc n) (l := l) h (by simp [lstOf, hm])
        subst e1
        simp only at hk ⊢
        have hk' : okDs 63 l = true := by simpa [okD] using hk
        exact .lst (SqL.of q) (dps_of R.eG 63 l vs hk' r)
      | _ => simp [okD] at hk
  | _ => exact dp_of R.eG 64 _ v hk h
def rEqA (K : PySem.W.Frag) : R2 := fun x y H Q => rEq x y H Q ∨ rEqD K x y H Q
def rNeA (K : PySem.W.Frag) : R2 := fun x y H Q => rNe x y H Q ∨ rNeD K x y H Q
theorem peek_str {s : S} {d : D} {x : List Nat} (h : peek s d = .str x) : d = .str x := by
  cases d with
  | loc n =>
    simp only [peek] at h
    split at h <;> cases h
  | _ => exact h
theorem qEq_cases {x y : D} {b : Bool} (h : qEq x y = some b) : (∃ u v, x = .str u ∧ y = .str v ∧ b = decide (u = v)) ∨ (okD 64 x = true ∧ okD 64 y = true ∧ b = eqD x y) := by
  by_cases hs : ∃ u v, x = .str u ∧ y = .str v
  · obtain ⟨u, v, rfl, rfl⟩ := hs
    simp only [qEq, Option.some.injEq] at h
    exact .inl ⟨u, v, rfl, rfl, h.symm⟩
  · have h' : (if okD 64 x && okD 64 y then some (eqD x y) else none) = some b := by
      cases x <;> cases y <;> first
        | exact h
        | exact absurd ⟨_, _, rfl, rfl⟩ hs
    split at h'
    · rename_i hh
      simp only [Bool.and_eq_true] at hh
      exact .inr ⟨hh.1, hh.2, (Option.some.inj h').symm⟩
    · cases h'
theorem dec_sv (u v : List Nat) : decide (sv u = sv v) = decide (u = v) := by
  rw [Bool.eq_iff_iff]; simp [sv]
theorem semR_eq {K : PySem.W.Frag} : SemR K B W (rEqA K) fEq := fun s th G σ H Q x y vx vy R rx ry P => by
  unfold fEq at P
  cases e : qEq (peek s x) (peek s y) with
  | none => rw [e] at P; exact P.elim
  | some b =>
    rw [e] at P
    have q : Q (.bl b) H := Post.ok (rel := relE K) P R rfl
    rcases qEq_cases e with ⟨u, v, e1, e2, rfl⟩ | ⟨h1, h2, rfl⟩
    · have e1 := peek_str e1
      have e2 := peek_str e2
      subst e1; subst e2
      cases rx; cases ry
      refine .inl ⟨rfl, ?_⟩
      show Q (.bl (decide (sv u = sv v))) H
      rw [dec_sv]; exact q
    · exact .inr ⟨_, _, dp_peek R h1 rx, dp_peek R h2 ry, shaped_of h1, shaped_of h2, by rw [eqv_D _ _ 64 64 h1 h2]; exact q⟩
theorem semR_ne {K : PySem.W.Frag} : SemR K B W (rNeA K) fNe := fun s th G σ H Q x y vx vy R rx ry P => by
  unfold fNe at P
  cases e : qEq (peek s x) (peek s y) with
  | none => rw [e] at P; exact P.elim
  | some b =>
    rw [e] at P
    have q : Q (.bl (!b)) H := Post.ok (rel := relE K) P R rfl
    rcases qEq_cases e with ⟨u, v, e1, e2, rfl⟩ | ⟨h1, h2, rfl⟩
    · have e1 := peek_str e1
      have e2 := peek_str e2
      subst e1; subst e2
      cases rx; cases ry
      refine .inl ⟨rfl, ?_⟩
      show Q (.bl (!decide (sv u = sv v))) H
      rw [dec_sv]; exact q
    · exact .inr ⟨_, _, dp_peek R h1 rx, dp_peek R h2 ry, shaped_of h1, shaped_of h2, by rw [eqv_D _ _ 64 64 h1 h2]; exact q⟩
theorem op_eqA (hu : X.A.units + 64 < cLine) : OpR X (compareOp .Eq) (rEqA X.K) := op_eq.or (op_eqD hu)
theorem op_neA (hu : X.A.units + 64 < cLine) : OpR X (compareOp .NotEq) (rNeA X.K) := op_ne.or (op_neD hu)

/-! ### is None -/
def isNon : D → Bool
  | .non => true
  | _ => false
theorem At.isNon {K : PySem.W.Frag} {d : D} {v : V} (h : At K th G d v) : decide (v = .non) = VL.isNon d := by
  cases d <;> first
    | (cases h; rfl)
    | (obtain ⟨rfl, _, _, _⟩ := h; rfl)
    | (obtain ⟨a, vs, rfl, _⟩ := h; rfl)
    | (obtain ⟨a, rfl, _⟩ := h; rfl)
    | (obtain ⟨a, _, rfl⟩ := h; rfl)
def fIs : D → D → S → R (D × S) := fP fun x y => if isNon y then some (.bl (isNon x)) else none
def fIsn : D → D → S → R (D × S) := fP fun x y => if isNon y then some (.bl (!isNon x)) else none
theorem isNon_eq {d : D} (h : isNon d = true) : d = .non := by cases d <;> first | rfl | cases h
theorem semR_is {K : PySem.W.Frag} : SemR K B W (fun x y H Q => y = .non ∧ Q (.bl (decide (x = .non))) H) fIs := semR_P fun th G H Q x y vx vy d rx ry e q => by
  split at e
  · rename_i h
    cases e
    have h := isNon_eq h
    subst h
    cases ry
    exact ⟨rfl, by rw [rx.isNon]; exact q _ rfl⟩
  · cases e
theorem semR_isn {K : PySem.W.Frag} : SemR K B W (fun x y H Q => y = .non ∧ Q (.bl (!decide (x = .non))) H) fIsn := semR_P fun th G H Q x y vx vy d rx ry e q => by
  split at e
  · rename_i h
    cases e
    have h := isNon_eq h
    subst h
    cases ry
    exact ⟨rfl, by rw [rx.isNon]; exact q _ rfl⟩
  · cases e

/-! ### comparisons as values and as tests -/
theorem ve_cmp {op : CmpOp} {r : R2} {f : D → D → S → R (D × S)} (ho : OpR X (compareOp op) r) (hf : SemR X.K B W r f) (ha : VE X B W a ta ma) (hb : VE X B W b tb mb) (hm : behindInMarks op b = false) : VE X B W (.Compare a [op] [b] pos) (tOp r ta tb) (eOp f ma mb) :=
  ⟨pe_cmpR ho ha.pe hb.pe hm, sem_op hf ha.sem hb.sem⟩
/-- a truth value, asked -/
def tBl (m : ME) : MT := fun s => (m s).bind fun d s => match d with
  | .bl b => .ok (b, s)
  | _ => .no
theorem sem_tst {K : PySem.W.Frag} {t : TE} {m : ME} (h : Sem K B W (relE K) t m) : Sem K B W relT (tTest t) (tBl m) := fun s th G σ H Q R P =>
  h s th G σ H _ R (P.bind fun d s1 th1 G1 H1 v l R1 r P1 => by
    cases d with
    | bl b => cases r; exact ⟨b, rfl, Post.ok (rel := relT) P1 R1 rfl⟩
    | _ => exact P1.elim)
theorem vt_cmp {op : CmpOp} {r : R2} {f : D → D → S → R (D × S)} (ho : OpR X (compareOp op) r) (hf : SemR X.K B W r f) (ha : VE X B W a ta ma) (hb : VE X B W b tb mb) (hm : behindInMarks op b = false) : VT X B W (.Compare a [op] [b] pos) (tTest (tOp r ta tb)) (tBl (eOp f ma mb)) :=
  ⟨pt_cmpR ho ha.pe hb.pe hm, sem_tst (sem_op hf ha.sem hb.sem)⟩
/-- a op b op' c -/
def eChain (f f' : D → D → S → R (D × S)) (a b c : ME) : ME := fun s => (a s).bind fun x s => (b s).bind fun y s => (f x y s).bind fun z s => match z with
  | .bl true => (c s).bind fun w s => f' y w s
  | .bl false => .ok (.bl false, s)
  | _ => .no
theorem sem_chain {K : PySem.W.Frag} {r r' : R2} {f f' : D → D → S → R (D × S)} (hf : SemR K B W r f) (hf' : SemR K B W r' f') (ha : Sem K B W (relE K) ta ma) (hb : Sem K B W (relE K) tb mb) (hc : Sem K B W (relE K) tc mc) :
    Sem K B W (relE K) (tChain r r' ta tb tc) (eChain f f' ma mb mc) := fun s th G σ H Q R P =>
  ha s th G σ H _ R (P.bind fun x s1 th1 G1 H1 vx l1 R1 r1 P1 => hb s1 th1 G1 σ H1 _ R1 (P1.bind fun y s2 th2 G2 H2 vy l2 R2 r2 P2 =>
    hf s2 th2 G2 σ H2 _ x y vx vy R2 (At.mono l2.pre l2.ex r1) r2 (P2.bind fun z s3 th3 G3 H3 vz l3 R3 r3 P3 => by
      cases z with
      | bl k =>
        cases r3
        refine ⟨k, rfl, ?_⟩
        cases k with
        | true => exact iteT (hc s3 th3 G3 σ H3 _ R3 (P3.bind fun w s4 th4 G4 H4 vw l4 R4 r4 P4 => hf' s4 th4 G4 σ H4 Q y w vy vw R4 (At.mono (l3.trans l4).pre (l3.trans l4).ex r2) r4 P4))
        | false => exact iteF (Post.ok (rel := relE K) P3 R3 rfl)
      | _ => exact P3.elim)))
theorem ve_chain {op op' : CmpOp} {r r' : R2} {f f' : D → D → S → R (D × S)} (ho : OpR X (compareOp op) r) (ho' : OpR X (compareOp op') r') (hf : SemR X.K B W r f) (hf' : SemR X.K B W r' f') (ha : VE X B W a ta ma) (hb : VE X B W b tb mb) (hc : VE X B W c tc mc)
    (hm : lastMarks [op, op'] [b, c] = false := by with_unfolding_all rfl) : VE X B W (.Compare a [op, op'] [b, c] pos) (tChain r r' ta tb tc) (eChain f f' ma mb mc) := ⟨pe_chain ho ho' ha.pe hb.pe hc.pe hm, sem_chain hf hf' ha.sem hb.sem hc.sem⟩
theorem vt_chain {op op' : CmpOp} {r r' : R2} {f f' : D → D → S → R (D × S)} (ho : OpR X (compareOp op) r) (ho' : OpR X (compareOp op') r') (hf : SemR X.K B W r f) (hf' : SemR X.K B W r' f') (ha : VE X B W a ta ma) (hb : VE X B W b tb mb) (hc : VE X B W c tc mc)
    (hm : lastMarks [op, op'] [b, c] = false := by with_unfolding_all rfl) : VT X B W (.Compare a [op, op'] [b, c] pos) (tTest (tChain r r' ta tb tc)) (tBl (eChain f f' ma mb mc)) := ⟨pt_chain ho ho' ha.pe hb.pe hc.pe hm, sem_tst (sem_chain hf hf' ha.sem hb.sem hc.sem)⟩

/-! ### tests by truth, and, or, not, if-else -/
def truD (s : S) : D → Option Bool
  | .non => some false
  | .bl b => some b
  | .int i => some (i != 0)
  | .str x => if x.length ≤ SZ then some (!x.isEmpty) else none
  | .dct ks _ => some (!ks.isEmpty)
  | d => match seqOf s d with
    | some l => some (!l.isEmpty)
    | none => none
def tTru (m : ME) : MT := fun s => (m s).bind fun d s => match truD s d with
  | some b => .ok (b, s)
  | none => .no
theorem isE {K : PySem.W.Frag} {l : List D} {vs : List V} (h : AtL K th G l vs) : (!vs.isEmpty) = !l.isEmpty := by
  have := h.length
  cases l <;> cases vs <;> simp_all
theorem tru_seq {K : PySem.W.Frag} (R : Rep K B th G s σ H) {d : D} {v : V} (h : At K th G d v) {l : List D} (e : seqOf s d = some l) : TruV K v H (!l.isEmpty) := by
  obtain ⟨a, vs, rfl, q, r⟩ := R.seq_of h e
  rcases q with q | q
  · exact .inl ⟨vs, q, (isE r).symm⟩
  · exact .inr (.inl ⟨vs, q, (isE r).symm⟩)
theorem tru_of {K : PySem.W.Frag} (R : Rep K B th G s σ H) {d : D} {v : V} {b : Bool} (h : At K th G d v) (e : truD s d = some b) (hd : ∀ ks l, d ≠ .dct ks l) : TruV K v H b := by
  cases d with
  | non => cases h; simp [truD] at e; subst e; rfl
  | bl c => cases h; simp [truD] at e; subst e; rfl
  | int i => cases h; simp only [truD, Option.some.injEq] at e; subst e; rfl
  | str x =>
    cases h
    simp only [truD] at e
    split at e
    · rename_i hz
      cases e
      refine ⟨by rw [str_len, SZ_eq]; exact hz, ?_⟩
      rw [str_len]
      cases x with
      | nil => rfl
      | cons a l =>
        simp; omega
    · cases e
  | dct ks l => exact absurd rfl (hd ks l)
  | tup l => simp only [truD, seqOf, Option.some.injEq] at e; subst e; exact tru_seq R h rfl
  | scr l => simp only [truD, seqOf, Option.some.injEq] at e; subst e; exact tru_seq R h rfl
  | lst l => simp only [truD, seqOf, lstOf, Option.some.injEq] at e; subst e; exact tru_seq R h rfl
  | loc n =>
    simp only [truD] at e
    cases hl : seqOf s (.loc n) with
    | none => rw [hl] at e; cases e
    | some l => rw [hl] at e; cases e; exact tru_seq R h hl
  | obj a => simp [truD, seqOf, lstOf] at e
  | exn a d ks l => simp [truD, seqOf, lstOf] at e
/-- a test by truth; a dict is not asked so -/
def tTruN (m : ME) : MT := fun s => (m s).bind fun d s => match d with
  | .dct _ _ => .no
  | d => match truD s d with
    | some b => .ok (b, s)
    | none => .no
theorem vt_tru (ha : VE X B W a ta ma) (he : ∀ whole, isTrue a X.env whole = (do let v ← whole; standAt a.pos; holding [v] (truthy v)) := by intro _; rfl) : VT X B W a (fun σ H Q => ta σ H fun x H' => ∃ k, TruV X.K x H' k ∧ Q k H') (tTruN ma) :=
  ⟨pt_truth ha.pe he, fun s th G σ H Q R P => ha.sem s th G σ H _ R (P.bind fun d s1 th1 G1 H1 v l R1 r P1 => by
    by_cases hd : ∃ ks l, d = .dct ks l
    · obtain ⟨ks, l, rfl⟩ := hd; exact P1.elim
    have P2 : Post X.K B W σ th1 G1 H1 relT (match truD s1 d with
      | some b => .ok (b, s1)
      | none => .no) Q := by
      cases d <;> first
        | exact P1
        | exact absurd ⟨_, _, rfl⟩ hd
    cases e : truD s1 d with
    | none => rw [e] at P2; exact P2.elim
    | some b =>
      rw [e] at P2
      exact ⟨b, tru_of R1 r e (fun ks l z => hd ⟨ks, l, z⟩), Post.ok (rel := relT) P2 R1 rfl⟩)⟩
def tAndM (a b : MT) : MT := fun s => (a s).bind fun x s => if x = true then b s else .ok (false, s)
def tOrM (a b : MT) : MT := fun s => (a s).bind fun x s => if x = true then .ok (true, s) else b s
def tNotM (a : MT) : MT := fun s => (a s).bind fun x s => .ok (!x, s)
variable {tA tB' : TT} {mA mB : MT} {rest : List Expr}
theorem vw_and1 (ha : VT X B W a tA mA) : VW X B W (.BoolOp .And [a] pos) tA mA := ⟨pw_and1 ha.pt, ha.sem⟩
theorem vw_or1 (ha : VT X B W a tA mA) : VW X B W (.BoolOp .Or [a] pos) tA mA := ⟨pw_or1 ha.pt, ha.sem⟩
theorem vw_and (ha : VT X B W a tA mA) (hb : VW X B W (.BoolOp .And (b :: rest) pos) tB' mB) : VW X B W (.BoolOp .And (a :: b :: rest) pos) (tAnd tA tB') (tAndM mA mB) :=
  ⟨pw_and ha.pt hb.pw, fun s th G σ H Q R P => ha.sem s th G σ H _ R (P.bind fun x s1 th1 G1 H1 v l R1 r P1 => by
    cases r
    cases x with
    | true => exact iteT (hb.sem s1 th1 G1 σ H1 Q R1 P1)
    | false => exact iteF (Post.ok (rel := relT) P1 R1 rfl))⟩
theorem vw_or (ha : VT X B W a tA mA) (hb : VW X B W (.BoolOp .Or (b :: rest) pos) tB' mB) : VW X B W (.BoolOp .Or (a :: b :: rest) pos) (tOr tA tB') (tOrM mA mB) :=
  ⟨pw_or ha.pt hb.pw, fun s th G σ H Q R P => ha.sem s th G σ H _ R (P.bind fun x s1 th1 G1 H1 v l R1 r P1 => by
    cases r
    cases x with
    | true => exact iteT (Post.ok (rel := relT) P1 R1 rfl)
    | false => exact iteF (hb.sem s1 th1 G1 σ H1 Q R1 P1))⟩
theorem vt_w (h : VW X B W a tA mA) : VT X B W a tA mA := ⟨h.pw.pt, h.sem⟩
theorem vt_not (ha : VT X B W a tA mA) : VT X B W (.UnaryOp .Not a pos) (tNot tA) (tNotM mA) :=
  ⟨pt_not ha.pt, fun s th G σ H Q R P => ha.sem s th G σ H _ R (P.bind fun x s1 th1 G1 H1 v l R1 r P1 => by
    cases r
    exact Post.ok (rel := relT) P1 R1 rfl)⟩
def eIf (t : MT) (a b : ME) : ME := fun s => (t s).bind fun x s => if x = true then a s else b s
theorem ve_if (ht : VT X B W c tA mA) (ha : VE X B W a ta ma) (hb : VE X B W b tb mb) : VE X B W (.IfExp c a b pos) (tIf tA ta tb) (eIf mA ma mb) :=
  ⟨pe_ifExp ht.pt ha.pe hb.pe, fun s th G σ H Q R P => ht.sem s th G σ H _ R (P.bind fun x s1 th1 G1 H1 v l R1 r P1 => by
    cases r
    cases x with
    | true => exact iteT (ha.sem s1 th1 G1 σ H1 Q R1 P1)
    | false => exact iteF (hb.sem s1 th1 G1 σ H1 Q R1 P1))⟩
/-- and, or, not as values: truth values all -/
def eAndV (a b : ME) : ME := fun s => (a s).bind fun x s => match x with
  | .bl true => b s
  | .bl false => .ok (.bl false, s)
  | _ => .no
def eOrV (a b : ME) : ME := fun s => (a s).bind fun x s => match x with
  | .bl true => .ok (.bl true, s)
  | .bl false => b s
  | _ => .no
def eNotV (a : ME) : ME := fun s => (a s).bind fun x s => match x with
  | .bl b => .ok (.bl (!b), s)
  | _ => .no
theorem ve_one {op : BoolOp} (ha : VE X B W a ta ma) : VE X B W (.BoolOp op [a] pos) ta ma := ⟨pe_one ha.pe, ha.sem⟩
theorem ve_and (ha : VE X B W a ta ma) (hb : VE X B W (.BoolOp .And (b :: rest) pos) tb mb) : VE X B W (.BoolOp .And (a :: b :: rest) pos) (tAndV ta tb) (eAndV ma mb) :=
  ⟨pe_and ha.pe hb.pe, fun s th G σ H Q R P => ha.sem s th G σ H _ R (P.bind fun x s1 th1 G1 H1 v l R1 r P1 => by
    cases x with
    | bl k =>
      cases r
      refine ⟨k, rfl, ?_⟩
      cases k with
      | true => exact iteT (hb.sem s1 th1 G1 σ H1 Q R1 P1)
      | false => exact iteF (Post.ok (rel := relE X.K) P1 R1 rfl)
    | _ => exact P1.elim)⟩
theorem ve_or (ha : VE X B W a ta ma) (hb : VE X B W (.BoolOp .Or (b :: rest) pos) tb mb) : VE X B W (.BoolOp .Or (a :: b :: rest) pos) (tOrV ta tb) (eOrV ma mb) :=
  ⟨pe_or ha.pe hb.pe, fun s th G σ H Q R P => ha.sem s th G σ H _ R (P.bind fun x s1 th1 G1 H1 v l R1 r P1 => by
    cases x with
    | bl k =>
      cases r
      refine ⟨k, rfl, ?_⟩
      cases k with
      | true => exact iteT (Post.ok (rel := relE X.K) P1 R1 rfl)
      | false => exact iteF (hb.sem s1 th1 G1 σ H1 Q R1 P1)
    | _ => exact P1.elim)⟩
theorem ve_not (ha : VE X B W a ta ma) : VE X B W (.UnaryOp .Not a pos) (tNotV ta) (eNotV ma) :=
  ⟨pe_not ha.pe, fun s th G σ H Q R P => ha.sem s th G σ H _ R (P.bind fun x s1 th1 G1 H1 v l R1 r P1 => by
    cases x with
    | bl k => cases r; exact ⟨k, rfl, Post.ok (rel := relE X.K) P1 R1 rfl⟩
    | _ => exact P1.elim)⟩
end
end VL
namespace VL
open PySem L2

/-! ### dicts as lists of pairs -/
def valD {A : Type} (l : List (Key × A)) (k : Key) : Option A := (l.find? fun kv => decide (kv.1 = k)).map (·.2)
def putD {A : Type} (l : List (Key × A)) (k : Key) (d : A) : List (Key × A) :=
  if (l.any fun kv => decide (kv.1 = k)) = true then l.map (fun kv => if kv.1 = k then (kv.1, d) else kv) else l ++ [(k, d)]
def dropD {A : Type} (l : List (Key × A)) (k : Key) : List (Key × A) := l.filter fun kv => decide (kv.1 ≠ k)
/-- a dict's pairs stand for data -/
def AtK (K : PySem.W.Frag) (th : List Addr) (G : Hp) (l : List (Key × D)) (kvs : List (Key × V)) : Prop := kvs.map (·.1) = l.map (·.1) ∧ AtL K th G (l.map (·.2)) (kvs.map (·.2))
section
variable {K : PySem.W.Frag} {B : Bs} {th th' : List Addr} {G G' H : Hp} {s : S} {σ : St}
theorem AtK.nil : AtK K th G [] [] := ⟨rfl, rfl⟩
theorem AtK.cons {k : Key} {d : D} {v : V} {l : List (Key × D)} {kvs : List (Key × V)} (h : At K th G d v) (t : AtK K th G l kvs) : AtK K th G ((k, d) :: l) ((k, v) :: kvs) := ⟨by simp [t.1], .cons h t.2⟩
theorem AtK.uncons {p : Key × D} {l : List (Key × D)} {kvs : List (Key × V)} (h : AtK K th G (p :: l) kvs) : ∃ v r, kvs = (p.1, v) :: r ∧ At K th G p.2 v ∧ AtK K th G l r := by
  obtain ⟨h1, h2⟩ := h
  cases kvs with
  | nil => simp at h1
  | cons q r =>
    obtain ⟨a, b⟩ := q
    simp only [List.map_cons, List.cons.injEq] at h1
    obtain ⟨v, z, e, q1, q2⟩ := h2
    simp only [List.map_cons, List.cons.injEq] at e
    obtain ⟨rfl, rfl⟩ := e
    exact ⟨b, r, by rw [h1.1], q1, h1.2, q2⟩
theorem AtK.unnil {kvs : List (Key × V)} (h : AtK K th G [] kvs) : kvs = [] := by
  have := h.1
  simpa using this
theorem AtK.mono {l : List (Key × D)} {kvs : List (Key × V)} (ht : th <+: th') (e : Sub G G') (h : AtK K th G l kvs) : AtK K th' G' l kvs := ⟨h.1, h.2.mono ht e⟩
theorem AtK.length {l : List (Key × D)} {kvs : List (Key × V)} (h : AtK K th G l kvs) : kvs.length = l.length := by
  have := congrArg List.length h.1
  simpa using this
theorem AtK.val : ∀ {l : List (Key × D)} {kvs : List (Key × V)} (k : Key), AtK K th G l kvs → (match valD l k with
    | some d => ∃ v, valV kvs k = some v ∧ At K th G d v
    | none => valV kvs k = none)
  | [], kvs, k, h => by rw [h.unnil]; rfl
  | p :: l, kvs, k, h => by
    obtain ⟨v, r, rfl, h1, h2⟩ := h.uncons
    by_cases e : p.1 = k
    · have q : valD (p :: l) k = some p.2 := by simp [valD, List.find?_cons, e]
      rw [q]
      exact ⟨v, valV_pos e, h1⟩
    · have q : valD (p :: l) k = valD l k := by simp [valD, List.find?_cons, e]
      rw [q]
      have ih := AtK.val (l := l) (kvs := r) k h2
      rw [valV_neg (p := (p.1, v)) e]
      exact ih
theorem AtK.any {l : List (Key × D)} {kvs : List (Key × V)} (k : Key) (h : AtK K th G l kvs) : (kvs.any fun kv => decide (kv.1 = k)) = (l.any fun kv => decide (kv.1 = k)) := by
  have e1 : (kvs.any fun kv => decide (kv.1 = k)) = ((kvs.map (·.1)).any fun j => decide (j = k)) := by rw [List.any_map]; rfl
  have e2 : (l.any fun kv => decide (kv.1 = k)) = ((l.map (·.1)).any fun j => decide (j = k)) := by rw [List.any_map]; rfl
  rw [e1, e2, h.1]
theorem AtK.map1 {k : Key} {d : D} {v : V} (hd : At K th G d v) : ∀ {l : List (Key × D)} {kvs : List (Key × V)}, AtK K th G l kvs → AtK K th G (l.map fun kv => if kv.1 = k then (kv.1, d) else kv) (kvs.map fun kv => if kv.1 = k then (kv.1, v) else kv)
  | [], kvs, h => by rw [h.unnil]; exact .nil
  | p :: l, kvs, h => by
    obtain ⟨v', r, rfl, h1, h2⟩ := h.uncons
    have ih := AtK.map1 (k := k) hd h2
    obtain ⟨p1, p2⟩ := p
    simp only [List.map_cons]
    by_cases e : p1 = k
    · simp only [e, if_true]; exact .cons hd ih
    · simp only [e, if_false]; exact .cons h1 ih
theorem AtK.append {l m : List (Key × D)} {kvs ws : List (Key × V)} (h : AtK K th G l kvs) (h2 : AtK K th G m ws) : AtK K th G (l ++ m) (kvs ++ ws) := ⟨by simp [h.1, h2.1], by simpa using h.2.append h2.2⟩
theorem AtK.put {l : List (Key × D)} {kvs : List (Key × V)} {k : Key} {d : D} {v : V} (h : AtK K th G l kvs) (hd : At K th G d v) : AtK K th G (putD l k d) (putK kvs k v) := by
  unfold putD putK
  rw [h.any k]
  split
  · exact h.map1 hd
  · exact h.append (.cons hd .nil)
theorem AtK.drop {k : Key} : ∀ {l : List (Key × D)} {kvs : List (Key × V)}, AtK K th G l kvs → AtK K th G (dropD l k) (dropK kvs k)
  | [], kvs, h => by rw [h.unnil]; exact .nil
  | p :: l, kvs, h => by
    obtain ⟨v', r, rfl, h1, h2⟩ := h.uncons
    have ih := AtK.drop (k := k) h2
    obtain ⟨p1, p2⟩ := p
    unfold dropD dropK at ih ⊢
    by_cases e : p1 = k
    · rw [List.filter_cons_of_neg (by simp [e]), List.filter_cons_of_neg (by simp [e])]; exact ih
    · rw [List.filter_cons_of_pos (by simp [e]), List.filter_cons_of_pos (by simp [e])]; exact .cons h1 ih
theorem AtK.iff_dct {ks : List Key} {l : List D} {kvs : List (Key × V)} (h1 : kvs.map (·.1) = ks) (h2 : AtL K th G l (kvs.map (·.2))) : AtK K th G (ks.zip l) kvs := by
  have hl : ks.length = l.length := by
    have a := h2.length
    have b := congrArg List.length h1
    simp at a b
    omega
  refine ⟨?_, ?_⟩
  · rw [List.map_fst_zip (by omega)]; exact h1
  · rw [List.map_snd_zip (by omega)]; exact h2

/-- a dict's pairs: data or an own place -/
def dctOf (s : S) : D → Option (List (Key × D))
  | .dct ks l => some (ks.zip l)
  | .loc n => match s.m[n]? with
    | some (.dct l) => some l
    | _ => none
  | _ => none
theorem Rep.dct_of (R : Rep K B th G s σ H) {d : D} {v : V} {l : List (Key × D)} (h : At K th G d v) (e : dctOf s d = some l) : ∃ a kvs, v = .ref a ∧ Rd H a (.dK kvs) ∧ AtK K th G l kvs := by
  cases d with
  | dct ks m =>
    simp only [dctOf] at e; cases e
    obtain ⟨a, kvs, e1, q, z, r⟩ := h
    exact ⟨a, kvs, e1, R.eG.rdK q, .iff_dct z r⟩
  | loc n =>
    simp only [dctOf] at e
    obtain ⟨a, ha, e1⟩ := h
    cases hm : s.m[n]? with
    | none => rw [hm] at e; cases e
    | some ob =>
      rw [hm] at e
      cases ob with
      | dct m =>
        cases e
        obtain ⟨g, kvs, q, z, r⟩ := R.st n _ a hm ha
        exact ⟨a, kvs, e1, .inl q, z, r⟩
      | _ => cases e
  | _ => simp [dctOf] at e
def keyOf : D → Option Key
  | .int i => some (.inl i)
  | .str x => some (.inr ⟨x.toArray⟩)
  | _ => none
theorem key_at {d : D} {v : V} {k : Key} (h : At K th G d v) (e : keyOf d = some k) : v = kV k := by
  cases d <;> first
    | (simp [keyOf] at e; done)
    | (simp only [keyOf, Option.some.injEq] at e; subst e; cases h; rfl)
end

section
variable {X : Cx} {B : Bs} {W : WX} {e a b c : Expr} {te ta tb tc : TE} {m ma mb mc : ME} {pos : Pos} {th : List Addr} {G H : Hp} {s : S} {σ : St}
/-! ### argument lists, displays -/
def aNil : MA := fun s => .ok ([], s)
def aCons (a : ME) (r : MA) : MA := fun s => (a s).bind fun x s => (r s).bind fun l s => .ok (x :: l, s)
variable {es : List Expr} {tr : TA} {mr : MA}
theorem va_nil : VA X B W [] tNil aNil := ⟨pa_nil, fun s th G σ H Q R P => Post.ok (rel := relA X.K) P R rfl⟩
theorem va_cons (ha : VE X B W a ta ma) (hr : VA X B W es tr mr) (hs : starEach (a :: es) X.env = (false, eval a X.env) :: starEach es X.env := by rfl) : VA X B W (a :: es) (tCons ta tr) (aCons ma mr) :=
  ⟨pa_cons ha.pe hr.pa hs, fun s th G σ H Q R P => ha.sem s th G σ H _ R (P.bind fun x s1 th1 G1 H1 v l1 R1 r1 P1 => hr.sem s1 th1 G1 σ H1 _ R1 (P1.bind fun l s2 th2 G2 H2 vs l2 R2 r2 P2 =>
    Post.ok (rel := relA X.K) P2 R2 (.cons (At.mono l2.pre l2.ex r1) r2)))⟩
def eTup (r : MA) : ME := fun s => (r s).bind fun l s => if l.length ≤ SZ then .ok (.tup l, s) else .no
theorem ve_tup {x1} (hr : VA X B W es tr mr) : VE X B W (.Tuple es x1 pos) (tTup tr) (eTup mr) :=
  ⟨pe_tup hr.pa, fun s th G σ H Q R P => hr.sem s th G σ H _ R (P.bind fun l s1 th1 G1 H1 vs l1 R1 r1 P1 => by
    split at P1
    · rename_i hz
      exact ⟨by rw [r1.length, SZ_eq]; exact hz, fun p hp => post_tup R1 P1 r1 hp⟩
    · exact P1.elim)⟩
def fLst (r : MA) : MF := fun s => (r s).bind fun l s => if l.length ≤ SZ then .ok (.lst l, s) else .no
theorem vf_lst (hr : VA X B W es tr mr) : VF X B W (.List es pos) (tLst tr) (fLst mr) :=
  ⟨pe_lst hr.pa, fun s th G σ H Q R P => hr.sem s th G σ H _ R (P.bind fun l s1 th1 G1 H1 vs l1 R1 r1 P1 => by
    split at P1
    · rename_i hz
      exact ⟨by rw [r1.length, SZ_eq]; exact hz, fun p hp => post_f R1 P1 r1 hp⟩
    · exact P1.elim)⟩
/-- a fresh thing, as data -/
def eFrz (m : MF) : ME := fun s => (m s).bind fun o s => match o with
  | .lst l => .ok (.lst l, s)
  | .dct l => .ok (.dct (l.map (·.1)) (l.map (·.2)), s)
  | _ => .no
/-- a fresh thing, as an own place -/
def eOwn (m : MF) : ME := fun s => (m s).bind fun o s => .ok (.loc s.m.length, { s with m := s.m ++ [o] })
theorem Le.takeNew {th th1 : List Addr} {G G1 H H1 : Hp} (l : Le th G H th1 G1 H1) {p : Addr} {o : HO} (hp : H p = none) (hg : G1 p = none) : Le th G H th1 (upd G1 p o) H1 :=
  ⟨l.pre, l.ex.trans (Sub.new hg), fun a u ha g n => by
    obtain ⟨h1, h2, h3⟩ := l.fr a u ha g n
    exact ⟨h1, by rw [upd_ne (ne_none (some_ne ha) hp)]; exact h2, h3⟩⟩
theorem Le.ownNew {th th1 : List Addr} {G G1 H H1 : Hp} (l : Le th G H th1 G1 H1) {p : Addr} (hp : H p = none) : Le th G H (th1 ++ [p]) G1 H1 :=
  ⟨l.pre.trans (List.prefix_append _ _), l.ex, fun a u ha g n => by
    obtain ⟨h1, h2, h3⟩ := l.fr a u ha g n
    refine ⟨h1, h2, fun z => ?_⟩
    rcases List.mem_append.mp z with z | z
    · exact h3 z
    · exact ne_none (some_ne ha) hp (by simpa using z)⟩
theorem obAt_some {K : PySem.W.Frag} {p : Addr} {ob : Ob} (h : ObAt K th G H p ob) (hd : ob ≠ .dead) : H p ≠ none := by
  cases ob with
  | lst l => obtain ⟨_, _, e, _⟩ := h; exact some_ne e
  | dct l => obtain ⟨_, _, e, _⟩ := h; exact some_ne e
  | ins C l => obtain ⟨_, _, _, e, _⟩ := h; exact some_ne e
  | dead => exact absurd rfl hd
theorem ve_frz {mf : MF} (h : VF X B W a ta mf) : VE X B W a ta (eFrz mf) :=
  ⟨h.pe, fun s th G σ H Q R P => h.sem s th G σ H _ R (P.bind0 fun o s1 th1 G1 H1 v l1 R1 r1 P1 => by
    obtain ⟨p, rfl, hd, ho, hn, hp⟩ := r1
    cases o with
    | lst l =>
      obtain ⟨g, vs, q, r⟩ := ho
      exact P1 th1 _ H1 (.ref p) (l1.takeNew hp g) (R1.take q g hn) ⟨p, vs, rfl, upd_same, r.mono List.prefix_rfl (Sub.new g)⟩
    | dct l =>
      obtain ⟨g, vs, q, z, r⟩ := ho
      exact P1 th1 _ H1 (.ref p) (l1.takeNew hp g) (R1.take q g hn) ⟨p, vs, rfl, .inl upd_same, z, r.mono List.prefix_rfl (Sub.new g)⟩
    | _ => exact P1.elim)⟩
theorem ve_own {mf : MF} (h : VF X B W a ta mf) : VE X B W a ta (eOwn mf) :=
  ⟨h.pe, fun s th G σ H Q R P => h.sem s th G σ H _ R (P.bind0 fun o s1 th1 G1 H1 v l1 R1 r1 P1 => by
    obtain ⟨p, rfl, hd, ho, hn, hp⟩ := r1
    refine P1 (th1 ++ [p]) G1 H1 (.ref p) (l1.ownNew hp) (R1.own (obAt_some ho hd) hn (ho.mono (List.prefix_append _ _) (Sub.refl _) (fun _ g => g) (fun _ _ h => h))) ⟨p, ?_, rfl⟩
    rw [← R1.tl, List.getElem?_append_right (Nat.le_refl _)]
    simp)⟩
/-- an own list in slot i, as data from now on -/
def eTake (i : Nat) : ME := fun s => match s.r[i]? with
  | some (some (.loc n)) => match s.m[n]? with
    | some (.lst l) => .ok (.lst l, { r := s.r.set i (some (.lst l)), m := s.m.set n .dead })
    | some (.dct l) => .ok (.dct (l.map (·.1)) (l.map (·.2)), { r := s.r.set i (some (.dct (l.map (·.1)) (l.map (·.2)))), m := s.m.set n .dead })
    | _ => .no
  | some (some d) => .ok (d, s)
  | _ => .no
theorem ve_take {x : Str} (i : Nat) (hN : X.N[i]? = some x := by rfl) (hv : Vis X.env.scope x := by first | exact Or.inl rfl | exact Or.inr (Or.inl rfl) | exact Or.inr (Or.inr rfl)) (hd : (x == ("__debug__" : Str)) = false := by decide)
    (hcd : (x == ("__classdict__" : Str)) = false := by decide) : VE X B W (.Name x pos) (tVar i) (eTake i) := by
  refine ⟨pv i hN hv hd hcd, fun s th G σ H Q R P => ?_⟩
  unfold eTake at P
  cases h : s.r[i]? with
  | none => rw [h] at P; exact P.elim
  | some o =>
    cases o with
    | none => rw [h] at P; exact P.elim
    | some d =>
      rw [h] at P
      obtain ⟨v, h1, h2⟩ := R.slot i d h
      refine ⟨v, h1, ?_⟩
      by_cases hl : ∃ n, d = .loc n
      · obtain ⟨n, rfl⟩ := hl
        obtain ⟨ad, ha, rfl⟩ := h2
        have hset : σ.set i (some (.ref ad)) = σ := by
          obtain ⟨hi, hx⟩ := List.getElem?_eq_some_iff.mp h1
          rw [← hx]; exact List.set_getElem_self hi
        dsimp only at P
        cases hm : s.m[n]? with
        | none => rw [hm] at P; exact P.elim
        | some ob =>
          rw [hm] at P
          cases ob with
          | lst l =>
            obtain ⟨g, vs, q, r⟩ := R.st n _ ad hm ha
            have R2 := R.still ha q g
            have at2 : At X.K th (upd G ad (.lst vs)) (.lst l) (.ref ad) := ⟨ad, vs, rfl, upd_same, r.mono List.prefix_rfl (Sub.new g)⟩
            have R3 := R2.sets (i := i) at2
            rw [hset] at R3
            exact P th _ H (.ref ad) (Le.still ha g) R3 at2
          | dct l =>
            obtain ⟨g, vs, q, z, r⟩ := R.st n _ ad hm ha
            have R2 := R.still ha q g
            have at2 : At X.K th (upd G ad (.dK vs)) (.dct (l.map (·.1)) (l.map (·.2))) (.ref ad) := ⟨ad, vs, rfl, .inl upd_same, z, r.mono List.prefix_rfl (Sub.new g)⟩
            have R3 := R2.sets (i := i) at2
            rw [hset] at R3
            exact P th _ H (.ref ad) (Le.still ha g) R3 at2
          | _ => exact P.elim
      · have P2 : Post X.K B W σ th G H (relE X.K) (.ok (d, s)) Q := by
          cases d <;> first
            | exact P
            | exact absurd ⟨_, rfl⟩ hl
        exact Post.ok (rel := relE X.K) P2 R h2

/-! ### subscripts -/
def fIx : D → D → S → R (D × S)
  | .str z, .int i, s => if z.length ≤ SZ then match L2.atI z i with
      | some ch => .ok (.str [ch], s)
      | none => .no
    else .no
  | x, k, s => match seqOf s x, k with
    | some l, .int i => match L2.atI l i with
      | some d => .ok (d, s)
      | none => .no
    | _, _ => match dctOf s x, keyOf k with
      | some l, some k => match valD l k with
        | some d => .ok (d, s)
        | none => .no
      | _, _ => .no
def tIx (K : PySem.W.Frag) (ta tb : TE) : TE := fun σ H Q => tOp (rIx K) ta tb σ H Q ∨ tDGet ta tb σ H Q
/-- the place of an item by values, in a sequence or in a dict -/
theorem fix_cases {s : S} {x k : D} {r : D × S} (h : fIx x k s = .ok r) : r.2 = s ∧ ((∃ z i ch, x = .str z ∧ k = .int i ∧ z.length ≤ SZ ∧ L2.atI z i = some ch ∧ r.1 = .str [ch]) ∨ (∃ l i, seqOf s x = some l ∧ k = .int i ∧ L2.atI l i = some r.1) ∨
    ∃ l kk, dctOf s x = some l ∧ keyOf k = some kk ∧ valD l kk = some r.1) := by
  by_cases hs : ∃ z i, x = .str z ∧ k = .int i
  · obtain ⟨z, i, rfl, rfl⟩ := hs
    simp only [fIx] at h
    split at h
    · split at h
      · rename_i hz _ ch hc
        cases h
        exact ⟨rfl, .inl ⟨z, i, ch, rfl, rfl, hz, hc, rfl⟩⟩
      · cases h
    · cases h
  · have h' : (match seqOf s x, k with
      | some l, .int i => match L2.atI l i with
        | some d => (.ok (d, s) : R (D × S))
        | none => .no
      | _, _ => match dctOf s x, keyOf k with
        | some l, some k => match valD l k with
          | some d => .ok (d, s)
          | none => .no
        | _, _ => .no) = .ok r := by
      cases x <;> cases k <;> first
        | exact h
        | exact absurd ⟨_, _, rfl, rfl⟩ hs
    split at h'
    · split at h'
      · rename_i l i e1 _ d hd
        cases h'
        exact ⟨rfl, .inr (.inl ⟨l, i, e1, rfl, hd⟩)⟩
      · cases h'
    · split at h'
      · split at h'
        · rename_i l kk e1 e2 _ d hd
          cases h'
          exact ⟨rfl, .inr (.inr ⟨l, kk, e1, e2, hd⟩)⟩
        · cases h'
      · cases h'
theorem fix_noex {s s' : S} {x k : D} {ex : Exn} : fIx x k s ≠ .ex ex s' := fun h => by
  by_cases hs : ∃ z i, x = .str z ∧ k = .int i
  · obtain ⟨z, i, rfl, rfl⟩ := hs
    simp only [fIx] at h
    split at h
    · split at h <;> cases h
    · cases h
  · have h' : (match seqOf s x, k with
      | some l, .int i => match L2.atI l i with
        | some d => (.ok (d, s) : R (D × S))
        | none => .no
      | _, _ => match dctOf s x, keyOf k with
        | some l, some k => match valD l k with
          | some d => .ok (d, s)
          | none => .no
        | _, _ => .no) = .ex ex s' := by
      cases x <;> cases k <;> first
        | exact h
        | exact absurd ⟨_, _, rfl, rfl⟩ hs
    split at h'
    · split at h' <;> cases h'
    · split at h'
      · split at h' <;> cases h'
      · cases h'
def rDGet : R2 := fun x y H Q => ∃ a v, x = .ref a ∧ DGet H a y (some v) ∧ Q v H
theorem ix_dict (hu : X.A.units + 1 < cLine) : IxR X rDGet := by
  intro value slice pins s σ H x y v u Q I rx ry h hs
  obtain ⟨ad, z, rfl, g, q⟩ := h
  cases rx
  exact PyProof.Rows.tail_any (dict_typeIs I g) PySem.F.slot_dict_getitem.lookup (d_getItem hu I g ry fun w' s3 I3 rw' => ⟨z, H, I3, rw', q⟩) hs
def rIxA (K : PySem.W.Frag) : R2 := fun x y H Q => rIx K x y H Q ∨ rDGet x y H Q
theorem semR_ix {K : PySem.W.Frag} : SemR K B W (rIxA K) fIx := fun s th G σ H Q x y vx vy R rx ry P => by
  cases e : fIx x y s with
  | no => rw [e] at P; exact P.elim
  | ex en s' => exact absurd e fix_noex
  | ok r =>
    obtain ⟨d, s'⟩ := r
    obtain ⟨e1, h⟩ := fix_cases e
    simp only at e1; subst e1
    rw [e] at P
    rcases h with ⟨z, i, ch, rfl, rfl, hz, hc, e2⟩ | ⟨l, i, hl, rfl, hd⟩ | ⟨l, kk, hl, hk, hd⟩
    · simp only at e2; subst e2
      cases rx; cases ry
      exact .inl (.inr (.inr ⟨_, i, ch, rfl, rfl, by rw [str_len, SZ_eq]; exact hz, hc, Post.ok (rel := relE K) P R rfl⟩))
    · cases ry
      obtain ⟨ad, vs, rfl, q, r⟩ := R.seq_of rx hl
      obtain ⟨v, h1, h2⟩ := r.atI hd
      rcases q with q | q
      · exact .inl (.inl ⟨ad, vs, i, v, rfl, rfl, q, h1, Post.ok (rel := relE K) P R h2⟩)
      · exact .inl (.inr (.inl ⟨ad, vs, i, v, rfl, rfl, q, h1, Post.ok (rel := relE K) P R h2⟩))
    · obtain ⟨ad, kvs, rfl, q, r⟩ := R.dct_of rx hl
      have hv := r.val kk
      rw [hd] at hv
      obtain ⟨v, h1, h2⟩ := hv
      have ek := key_at ry hk
      subst ek
      exact .inr ⟨ad, v, rfl, .inl ⟨kvs, kk, q, rfl, h1.symm⟩, Post.ok (rel := relE K) P R h2⟩
theorem ve_ix (hu : X.A.units + 1 < cLine) (ha : VE X B W a ta ma) (hb : VE X B W b tb mb) (hs : PlainIx b := by exact fun _ _ => rfl) : VE X B W (.Subscript a b pos) (tOp (rIxA X.K) ta tb) (eOp fIx ma mb) :=
  ⟨pe_ix (ix_seq.or (ix_dict hu)) ha.pe hb.pe hs, sem_op semR_ix ha.sem hb.sem⟩

/-! ### slices -/
def cut {α : Type} (l : List α) (lo hi : Option Int) : List α := (l.drop (HT.sIx l.length 0 lo)).take (HT.sIx l.length l.length hi - HT.sIx l.length 0 lo)
def oNone : S → R (Option Int × S) := fun s => .ok (none, s)
def oSome (m : ME) : S → R (Option Int × S) := fun s => (m s).bind fun d s => match d with
  | .int i => .ok (some i, s)
  | _ => .no
theorem vo_none : VO X B W none tNoPart oNone := ⟨po_none, fun s th G σ H Q R P => Post.ok (rel := relO) P R rfl⟩
theorem vo_some (ha : VE X B W a ta ma) : VO X B W (some a) (tPart ta) (oSome ma) :=
  ⟨po_some ha.pe, fun s th G σ H Q R P => ha.sem s th G σ H _ R (P.bind fun d s1 th1 G1 H1 v l R1 r P1 => by
    cases d with
    | int i => cases r; exact ⟨i, rfl, Post.ok (rel := relO) P1 R1 rfl⟩
    | _ => exact P1.elim)⟩
def fCut (x : D) (lo hi : Option Int) (s : S) : R (D × S) := match x with
  | .str z => if z.length ≤ SZ then .ok (.str (cut z lo hi), s) else .no
  | .tup l => .ok (.tup (cut l lo hi), s)
  | x => match lstOf s x with
    | some l => .ok (.lst (cut l lo hi), s)
    | none => .no
def eCut (a : ME) (lo hi : S → R (Option Int × S)) : ME := fun s => (a s).bind fun x s => (lo s).bind fun i s => (hi s).bind fun j s => fCut x i j s
def rCut (K : PySem.W.Frag) : V → Option Int → Option Int → Hp → VK → Prop := fun x lo hi H Q => rSlS x lo hi H Q ∨ (rSlA K x lo hi H Q ∨ rSlL K x lo hi H Q)
theorem AtL.cut {K : PySem.W.Frag} {l : List D} {vs : List V} (lo hi : Option Int) (h : AtL K th G l vs) : AtL K th G (VL.cut l lo hi) (cutV vs lo hi) := by
  unfold VL.cut cutV
  rw [h.length]
  exact (h.drop _).take _
theorem cutS_sv (z : List Nat) (lo hi : Option Int) : cutS ⟨z.toArray⟩ lo hi = ⟨(cut z lo hi).toArray⟩ := by
  unfold cutS cut
  rw [str_len]
theorem sem_cut {K : PySem.W.Frag} {Q : VK} {x : D} {vx : V} {lo hi : Option Int} (R : Rep K B th G s σ H) (rx : At K th G x vx) (P : Post K B W σ th G H (relE K) (fCut x lo hi s) Q) : rCut K vx lo hi H Q := by
  have key : (∀ z, x ≠ .str z) → (∀ l, x ≠ .tup l) → Post K B W σ th G H (relE K) (match lstOf s x with
    | some l => .ok (.lst (cut l lo hi), s)
    | none => .no) Q → rCut K vx lo hi H Q := fun _ _ P => by
    cases e : lstOf s x with
    | none => rw [e] at P; exact P.elim
    | some l =>
      rw [e] at P
      obtain ⟨ad, vs, rfl, q, r⟩ := R.lst_of rx e
      exact .inr (.inr ⟨ad, vs, rfl, SqL.of q, fun p hp => post_lst R P (r.cut lo hi) hp⟩)
  cases x with
  | str z =>
    cases rx
    simp only [fCut] at P
    split at P
    · rename_i hz
      exact .inl ⟨_, rfl, by rw [str_len, SZ_eq]; exact hz, by rw [cutS_sv]; exact Post.ok (rel := relE K) P R rfl⟩
    · exact P.elim
  | tup l =>
    obtain ⟨ad, vs, rfl, q, r⟩ := rx
    simp only [fCut] at P
    refine .inr (.inl ⟨ad, vs, rfl, R.eG.sqT q, fun hw => ?_, fun hw p hp => post_tup R P (r.cut lo hi) hp⟩)
    have e : cut l lo hi = l := by
      rw [r.length] at hw
      unfold cut
      rw [hw.1, hw.2, List.drop_zero, Nat.sub_zero, List.take_length]
    rw [e] at P
    exact Post.ok (rel := relE K) P R ⟨ad, vs, rfl, q, r⟩
  | _ => exact key (fun _ z => nomatch z) (fun _ z => nomatch z) P
theorem ve_cut {lo hi : Option Expr} {tl th' : TO} {ml mh : S → R (Option Int × S)} {p2 : Pos} (ha : VE X B W a ta ma) (hl : VO X B W lo tl ml) (hh : VO X B W hi th' mh) : VE X B W (.Subscript a (.Slice lo hi none p2) pos) (tSl (rCut X.K) ta tl th') (eCut ma ml mh) :=
  ⟨pe_slice (sl_str.or (sl_tupA.or sl_list)) ha.pe hl.po hh.po, fun s th G σ H Q R P => ha.sem s th G σ H _ R (P.bind fun x s1 th1 G1 H1 vx l1 R1 r1 P1 => hl.sem s1 th1 G1 σ H1 _ R1 (P1.bind fun i s2 th2 G2 H2 vi l2 R2 r2 P2 => hh.sem s2 th2 G2 σ H2 _ R2 (P2.bind fun j s3 th3 G3 H3 vj l3 R3 r3 P3 => by
    cases r2; cases r3
    exact sem_cut R3 (At.mono (l2.trans l3).pre (l2.trans l3).ex r1) P3)))⟩

end
end VL
namespace VL
open PySem L2

/-! ### in, not in -/
def flatD : D → Bool
  | .non => true
  | .bl _ => true
  | .int _ => true
  | .str _ => true
  | _ => false
def qIn (y x : D) (s : S) : Option Bool := match y, x with
  | .str c, .str z => match c with
    | [c] => some (decide (c ∈ z))
    | _ => none
  | _, _ => match seqOf s x with
    | some l => if flatD y && l.all flatD then some (l.any fun z => eqD z y) else match lstOf s x with
      | some l => if okD 64 y && okDs 63 l then some (l.any fun z => eqD z y) else none
      | none => none
    | none => match dctOf s x, keyOf y with
      | some l, some k => some (valD l k).isSome
      | _, _ => none
def fIn : D → D → S → R (D × S) := fun y x s => match qIn y x s with
  | some b => .ok (.bl b, s)
  | none => .no
def fNotIn : D → D → S → R (D × S) := fun y x s => match qIn y x s with
  | some b => .ok (.bl (!b), s)
  | none => .no
section
variable {K : PySem.W.Frag} {B : Bs} {th : List Addr} {G H : Hp} {s : S} {σ : St}
theorem flat_at {d : D} {v : V} (h : At K th G d v) (f : flatD d = true) : flatV v = true := by
  cases d <;> first
    | (cases h; rfl)
    | (simp [flatD] at f)
theorem flat_eqV {x y : D} {v w : V} (hx : At K th G x v) (hy : At K th G y w) (fx : flatD x = true) (fy : flatD y = true) : eqV v w = eqD x y := by
  cases x <;> cases y <;> first
    | (simp [flatD] at fx; done)
    | (simp [flatD] at fy; done)
    | (cases hx; cases hy; rfl)
    | (cases hx; cases hy; simp only [eqV, eqD]; exact str_beq _ _)
    | (cases hx; cases hy; simp only [eqV, eqD]; exact Int.beq_eq_decide _ _)
theorem flat_all : ∀ {l : List D} {vs : List V}, AtL K th G l vs → l.all flatD = true → vs.all flatV = true
  | [], _, h, _ => by cases h; rfl
  | d :: l, _, h, f => by
    obtain ⟨v, r, rfl, q, z⟩ := h
    simp only [List.all_cons, Bool.and_eq_true] at f ⊢
    exact ⟨flat_at q f.1, flat_all z f.2⟩
theorem flat_inV {y : D} {w : V} (hy : At K th G y w) (fy : flatD y = true) : ∀ {l : List D} {vs : List V}, AtL K th G l vs → l.all flatD = true → inV w vs = l.any fun z => eqD z y
  | [], _, h, _ => by cases h; rfl
  | d :: l, _, h, f => by
    obtain ⟨v, r, rfl, q, z⟩ := h
    simp only [List.all_cons, Bool.and_eq_true] at f
    have ih := flat_inV hy fy z f.2
    unfold inV at ih ⊢
    rw [List.any_cons, List.any_cons, ih, flat_eqV q hy f.1 fy]
theorem any_P {y : D} {m : Nat} (hy : okD m y = true) : ∀ {l : List D} {n : Nat}, okDs n l = true → ((toPs l).any fun z => PyData.eqv z (toP y)) = l.any fun z => eqD z y
  | [], _, _ => rfl
  | d :: l, n, h => by
    simp only [okDs, Bool.and_eq_true] at h
    rw [toPs, List.any_cons, List.any_cons, any_P hy h.2, eqv_D d y n m h.1 hy]
end
def rInA (K : PySem.W.Frag) (neg : Bool) : R2 := fun x y H Q => (∃ (c : Nat) (z : Str), x = .str ⟨#[c]⟩ ∧ y = .str z ∧ Q (.bl (if neg then !decide (c ∈ z.cps.toList) else decide (c ∈ z.cps.toList))) H) ∨
  (rIn K neg x y H Q ∨ ((∃ d ds, Dp K H x d ∧ Dp K H y (.list ds) ∧ SeqAt.shaped d = true ∧ SeqAt.shaped (.list ds) = true ∧ Q (.bl (if neg then !(ds.any fun z => PyData.eqv z d) else ds.any fun z => PyData.eqv z d)) H) ∨
    ∃ a o, y = .ref a ∧ DGet H a x o ∧ Q (.bl (if neg then !o.isSome else o.isSome)) H))
section
variable {X : Cx} {B : Bs} {W : WX} {e a b c : Expr} {te ta tb tc : TE} {m ma mb mc : ME} {pos : Pos} {th : List Addr} {G H : Hp} {s : S} {σ : St}
theorem op_in_dct (hu : X.A.units + 1 < cLine) : OpR X (compareOp .In) (fun x y H Q => ∃ a o, y = .ref a ∧ DGet H a x o ∧ Q (.bl o.isSome) H) := by
  intro pins s σ H x y v u Q I rx ry h
  obtain ⟨a, o, rfl, g, q⟩ := h
  cases ry
  exact d_in hu I g rx fun s3 I3 => ⟨.bl o.isSome, H, I3, rfl, q⟩
theorem op_notin_dct (hu : X.A.units + 1 < cLine) : OpR X (compareOp .NotIn) (fun x y H Q => ∃ a o, y = .ref a ∧ DGet H a x o ∧ Q (.bl (!o.isSome)) H) := by
  intro pins s σ H x y v u Q I rx ry h
  obtain ⟨a, o, rfl, g, q⟩ := h
  cases ry
  exact d_notIn hu I g rx fun s3 I3 => ⟨.bl (!o.isSome), H, I3, rfl, q⟩
theorem op_inA (hu : X.A.units + 65 < cLine) : OpR X (compareOp .In) (rInA X.K false) := op_in_sign.or (op_in_seq.or ((op_inD hu).or (op_in_dct (by omega))))
theorem op_notInA (hu : X.A.units + 65 < cLine) : OpR X (compareOp .NotIn) (rInA X.K true) := op_notIn_sign.or (op_notIn_seq.or ((op_notInD hu).or (op_notin_dct (by omega))))
theorem sem_in {K : PySem.W.Frag} {neg : Bool} {x y : D} {vx vy : V} {Q : VK} {k : Bool} (R : Rep K B th G s σ H) (rx : At K th G x vx) (ry : At K th G y vy) (e : qIn x y s = some k) (q : Q (.bl (if neg then !k else k)) H) : rInA K neg vx vy H Q := by
  by_cases hs : ∃ c z, x = .str c ∧ y = .str z
  · obtain ⟨c, z, rfl, rfl⟩ := hs
    simp only [qIn] at e
    split at e
    · rename_i c
      cases e
      cases rx; cases ry
      exact .inl ⟨c, _, rfl, rfl, q⟩
    · cases e
  have e' : (match seqOf s y with
    | some l => if flatD x && l.all flatD then some (l.any fun z => eqD z x) else match lstOf s y with
      | some l => if okD 64 x && okDs 63 l then some (l.any fun z => eqD z x) else none
      | none => none
    | none => match dctOf s y, keyOf x with
      | some l, some k => some (valD l k).isSome
      | _, _ => none) = some k := by
    cases x <;> cases y <;> first
      | exact e
      | exact absurd ⟨_, _, rfl, rfl⟩ hs
  cases h1 : seqOf s y with
  | some l =>
    rw [h1] at e'
    simp only at e'
    split at e'
    · rename_i hf
      simp only [Bool.and_eq_true] at hf
      cases e'
      obtain ⟨p, vs, rfl, hq, r⟩ := R.seq_of ry h1
      exact .inr (.inl ⟨p, vs, rfl, hq, flat_at rx hf.1, flat_all r hf.2, by rw [flat_inV rx hf.1 r hf.2]; exact q⟩)
    · split at e'
      · rename_i l2 h2
        split at e'
        · rename_i hk
          simp only [Bool.and_eq_true] at hk
          cases e'
          obtain ⟨p, vs, rfl, hq, r⟩ := R.lst_of ry h2
          refine .inr (.inr (.inl ⟨toP x, toPs l2, dp_of R.eG 64 x _ hk.1 rx, .lst (SqL.of hq) (dps_of R.eG 63 l2 vs hk.2 r), shaped_of hk.1, ?_, by rw [any_P hk.1 hk.2]; exact q⟩))
          exact shaped_of (d := .lst l2) (by simpa [okD] using hk.2)
        · cases e'
      · cases e'
  | none =>
    rw [h1] at e'
    simp only at e'
    split at e'
    · rename_i l kk h2 h3
      cases e'
      obtain ⟨p, kvs, rfl, hq, r⟩ := R.dct_of ry h2
      have hv := r.val kk
      have ek := key_at rx h3
      subst ek
      refine .inr (.inr (.inr ⟨p, valV kvs kk, rfl, .inl ⟨kvs, kk, hq, rfl, rfl⟩, ?_⟩))
      have : (valV kvs kk).isSome = (valD l kk).isSome := by
        cases hd : valD l kk with
        | none => rw [hd] at hv; rw [hv]; rfl
        | some d =>
          rw [hd] at hv
          obtain ⟨v, h4, _⟩ := hv
          rw [h4]; rfl
      rw [this]; exact q
    · cases e'
theorem semR_in {K : PySem.W.Frag} : SemR K B W (rInA K false) fIn := fun s th G σ H Q x y vx vy R rx ry P => by
  unfold fIn at P
  cases e : qIn x y s with
  | none => rw [e] at P; exact P.elim
  | some k => rw [e] at P; exact sem_in R rx ry e (Post.ok (rel := relE K) P R rfl)
theorem semR_notin {K : PySem.W.Frag} : SemR K B W (rInA K true) fNotIn := fun s th G σ H Q x y vx vy R rx ry P => by
  unfold fNotIn at P
  cases e : qIn x y s with
  | none => rw [e] at P; exact P.elim
  | some k => rw [e] at P; exact sem_in R rx ry e (Post.ok (rel := relE K) P R rfl)

/-! ### built-in calls: by the list of the arguments' data -/
def SemC (K : PySem.W.Frag) (B : Bs) (W : WX) (r : List V → Hp → VK → Prop) (f : List D → S → R (D × S)) : Prop :=
  ∀ s th G σ H Q l vs, Rep K B th G s σ H → AtL K th G l vs → Post K B W σ th G H (relE K) (f l s) Q → r vs H Q
def eCB (f : List D → S → R (D × S)) (r : MA) : ME := fun s => (r s).bind fun l s => f l s
variable {es : List Expr} {tr : TA} {mr : MA}
theorem sem_cb {K : PySem.W.Frag} {r : List V → Hp → VK → Prop} {f : List D → S → R (D × S)} (hf : SemC K B W r f) (ha : Sem K B W (relA K) tr mr) : Sem K B W (relE K) (tCB r tr) (eCB f mr) := fun s th G σ H Q R P =>
  ha s th G σ H _ R (P.bind fun l s1 th1 G1 H1 vs l1 R1 r1 P1 => hf s1 th1 G1 σ H1 Q l vs R1 r1 P1)
theorem ve_cb {x : Str} {p : Pos} {id : String} {r : List V → Hp → VK → Prop} {f : List D → S → R (D × S)} (hc : CallR X (.builtin id) r) (hf : SemC X.K B W r f) (hm : X.mg x = none) (hv : bootBuiltins x = some (.builtin id)) (ha : VA X B W (a :: es) tr mr)
    (hg : Gl X x := by rfl) (hn : x ≠ "__name__" := by decide) (hdb : (x == ("__debug__" : Str)) = false := by decide)
    (he : starEach (a :: es) X.env = (false, eval a X.env) :: starEach es X.env := by rfl) (hpl : (backTo pos (starEach es X.env)).any (·.1) = false := by rfl) : VE X B W (.Call (.Name x p) (a :: es) [] pos) (tCB r tr) (eCB f mr) :=
  ⟨pe_callB hc hg hm hv ha.pa hn hdb he hpl, sem_cb hf ha.sem⟩
theorem ve_ct {x : Str} {p : Pos} {id : String} {r : List V → Hp → VK → Prop} {f : List D → S → R (D × S)} (hc : CallR X (.type id) r) (hf : SemC X.K B W r f) (hm : X.mg x = none) (hv : bootBuiltins x = some (.type id)) (ha : VA X B W (a :: es) tr mr)
    (hg : Gl X x := by rfl) (hn : x ≠ "__name__" := by decide) (hdb : (x == ("__debug__" : Str)) = false := by decide)
    (he : starEach (a :: es) X.env = (false, eval a X.env) :: starEach es X.env := by rfl) (hpl : (backTo pos (starEach es X.env)).any (·.1) = false := by rfl) : VE X B W (.Call (.Name x p) (a :: es) [] pos) (tCB r tr) (eCB f mr) :=
  ⟨pe_callTy hc hg hm hv ha.pa hn hdb he hpl, sem_cb hf ha.sem⟩
/-- .. of a list or tuple handed out anew: fresh -/
def SemCF (K : PySem.W.Frag) (B : Bs) (W : WX) (r : List V → Hp → VK → Prop) (f : List D → S → R (Ob × S)) : Prop :=
  ∀ s th G σ H Q l vs, Rep K B th G s σ H → AtL K th G l vs → Post K B W σ th G H (relF K) (f l s) Q → r vs H Q
def fCB (f : List D → S → R (Ob × S)) (r : MA) : MF := fun s => (r s).bind fun l s => f l s
theorem vf_ct {x : Str} {p : Pos} {id : String} {r : List V → Hp → VK → Prop} {f : List D → S → R (Ob × S)} (hc : CallR X (.type id) r) (hf : SemCF X.K B W r f) (hm : X.mg x = none) (hv : bootBuiltins x = some (.type id)) (ha : VA X B W (a :: es) tr mr)
    (hg : Gl X x := by rfl) (hn : x ≠ "__name__" := by decide) (hdb : (x == ("__debug__" : Str)) = false := by decide)
    (he : starEach (a :: es) X.env = (false, eval a X.env) :: starEach es X.env := by rfl) (hpl : (backTo pos (starEach es X.env)).any (·.1) = false := by rfl) : VF X B W (.Call (.Name x p) (a :: es) [] pos) (tCB r tr) (fCB f mr) :=
  ⟨pe_callTy hc hg hm hv ha.pa hn hdb he hpl, fun s th G σ H Q R P => ha.sem s th G σ H _ R (P.bind fun l s1 th1 G1 H1 vs l1 R1 r1 P1 => hf s1 th1 G1 σ H1 Q l vs R1 r1 P1)⟩
theorem vf_cb {x : Str} {p : Pos} {id : String} {r : List V → Hp → VK → Prop} {f : List D → S → R (Ob × S)} (hc : CallR X (.builtin id) r) (hf : SemCF X.K B W r f) (hm : X.mg x = none) (hv : bootBuiltins x = some (.builtin id)) (ha : VA X B W (a :: es) tr mr)
    (hg : Gl X x := by rfl) (hn : x ≠ "__name__" := by decide) (hdb : (x == ("__debug__" : Str)) = false := by decide)
    (he : starEach (a :: es) X.env = (false, eval a X.env) :: starEach es X.env := by rfl) (hpl : (backTo pos (starEach es X.env)).any (·.1) = false := by rfl) : VF X B W (.Call (.Name x p) (a :: es) [] pos) (tCB r tr) (fCB f mr) :=
  ⟨pe_callB hc hg hm hv ha.pa hn hdb he hpl, fun s th G σ H Q R P => ha.sem s th G σ H _ R (P.bind fun l s1 th1 G1 H1 vs l1 R1 r1 P1 => hf s1 th1 G1 σ H1 Q l vs R1 r1 P1)⟩

/-! len -/
def lenD (s : S) : D → Option Nat
  | .str x => if x.length ≤ SZ then some x.length else none
  | d => match seqOf s d with
    | some l => some l.length
    | none => match dctOf s d with
      | some l => some l.length
      | none => none
def cLen : List D → S → R (D × S)
  | [d], s => match lenD s d with
    | some n => .ok (.int n, s)
    | none => .no
  | _, _ => .no
theorem AtL.one_of {K : PySem.W.Frag} {d : D} {vs : List V} (h : AtL K th G [d] vs) : ∃ v, vs = [v] ∧ At K th G d v := by
  obtain ⟨v, r, rfl, q, z⟩ := h
  cases z
  exact ⟨v, rfl, q⟩
theorem AtL.two_of {K : PySem.W.Frag} {d d' : D} {vs : List V} (h : AtL K th G [d, d'] vs) : ∃ v w, vs = [v, w] ∧ At K th G d v ∧ At K th G d' w := by
  obtain ⟨v, r, rfl, q, z⟩ := h
  obtain ⟨w, rfl, q2⟩ := z.one_of
  exact ⟨v, w, rfl, q, q2⟩
def rLenA (K : PySem.W.Frag) : List V → Hp → VK → Prop := fun xs H Q => (∃ x n, xs = [x] ∧ LenV K x H n ∧ Q (.int n) H) ∨ ∃ a kvs, xs = [.ref a] ∧ Rd H a (.dK kvs) ∧ Q (.int kvs.length) H
theorem call_lenA : CallR X (.builtin "len") (rLenA X.K) := call_len.or (by
  intro pins s σ H xs us Q I r h
  obtain ⟨ad, kvs, rfl, hq, q⟩ := h
  obtain ⟨u, rfl, r1⟩ := vals1 r
  cases r1
  exact d_len I hq fun t s' I' => ⟨.int kvs.length, H, I', ⟨_, rfl⟩, q⟩)
theorem semC_len {K : PySem.W.Frag} : SemC K B W (rLenA K) cLen := fun s th G σ H Q l vs R r P => by
  cases l with
  | nil => exact P.elim
  | cons d t =>
    cases t with
    | cons _ _ => exact P.elim
    | nil =>
      obtain ⟨v, rfl, h⟩ := r.one_of
      simp only [cLen] at P
      cases e : lenD s d with
      | none => rw [e] at P; exact P.elim
      | some n =>
        rw [e] at P
        have q : Q (.int n) H := Post.ok (rel := relE K) P R rfl
        by_cases hs : ∃ x, d = .str x
        · obtain ⟨x, rfl⟩ := hs
          simp only [lenD] at e
          split at e
          · rename_i hz
            cases e
            cases h
            exact .inl ⟨_, _, rfl, ⟨by rw [str_len, SZ_eq]; exact hz, by rw [str_len]⟩, q⟩
          · cases e
        have e' : (match seqOf s d with
          | some l => some l.length
          | none => match dctOf s d with
            | some l => some l.length
            | none => none) = some n := by
          cases d <;> first
            | exact e
            | exact absurd ⟨_, rfl⟩ hs
        cases h1 : seqOf s d with
        | some l =>
          rw [h1] at e'
          cases e'
          obtain ⟨p, vs, rfl, hq, r⟩ := R.seq_of h h1
          refine .inl ⟨_, _, rfl, ?_, q⟩
          rcases hq with hq | hq
          · exact .inl ⟨vs, hq, r.length.symm⟩
          · exact .inr ⟨vs, hq, r.length.symm⟩
        | none =>
          rw [h1] at e'
          simp only at e'
          cases h2 : dctOf s d with
          | none => rw [h2] at e'; cases e'
          | some l =>
            rw [h2] at e'
            cases e'
            obtain ⟨p, kvs, rfl, hq, r⟩ := R.dct_of h h2
            exact .inr ⟨p, kvs, rfl, hq, by rw [r.length]; exact q⟩
/-! ### one or two arguments -/
def c1 (g : S → D → Option D) : List D → S → R (D × S) := fun l s => match l with
  | [d] => match g s d with
    | some z => .ok (z, s)
    | none => .no
  | _ => .no
def c2 (g : S → D → D → Option D) : List D → S → R (D × S) := fun l s => match l with
  | [d, e] => match g s d e with
    | some z => .ok (z, s)
    | none => .no
  | _ => .no
theorem semC_1 {K : PySem.W.Frag} {r : List V → Hp → VK → Prop} {g : S → D → Option D}
    (h : ∀ s th G σ H Q d v z, Rep K B th G s σ H → At K th G d v → g s d = some z → Post K B W σ th G H (relE K) (.ok (z, s)) Q → r [v] H Q) : SemC K B W r (c1 g) := fun s th G σ H Q l vs R rl P => by
  match l, rl, P with
  | [], _, P => exact P.elim
  | [d], rl, P =>
    obtain ⟨v, rfl, hv⟩ := rl.one_of
    simp only [c1] at P
    cases e : g s d with
    | none => rw [e] at P; exact P.elim
    | some z => rw [e] at P; exact h s th G σ H Q d v z R hv e P
  | _ :: _ :: _, _, P => exact P.elim
theorem semC_2 {K : PySem.W.Frag} {r : List V → Hp → VK → Prop} {g : S → D → D → Option D}
    (h : ∀ s th G σ H Q d d' v v' z, Rep K B th G s σ H → At K th G d v → At K th G d' v' → g s d d' = some z → Post K B W σ th G H (relE K) (.ok (z, s)) Q → r [v, v'] H Q) : SemC K B W r (c2 g) := fun s th G σ H Q l vs R rl P => by
  match l, rl, P with
  | [], _, P => exact P.elim
  | [_], _, P => exact P.elim
  | [d, d'], rl, P =>
    obtain ⟨v, v', rfl, hv, hv'⟩ := rl.two_of
    simp only [c2] at P
    cases e : g s d d' with
    | none => rw [e] at P; exact P.elim
    | some z => rw [e] at P; exact h s th G σ H Q d d' v v' z R hv hv' e P
  | _ :: _ :: _ :: _, _, P => exact P.elim
def gAbs : S → D → Option D := fun _ d => match d with
  | .int i => some (.int (if i < 0 then -i else i))
  | _ => none
theorem semC_abs {K : PySem.W.Frag} : SemC K B W (fun xs H Q => ∃ i, xs = [.int i] ∧ Q (.int (if i < 0 then -i else i)) H) (c1 gAbs) := semC_1 fun s th G σ H Q d v z R h e P => by
  cases d <;> simp only [gAbs] at e <;> cases e
  cases h
  exact ⟨_, rfl, Post.ok (rel := relE K) P R rfl⟩
def gInt : S → D → Option D := fun _ d => match d with
  | .int i => some (.int i)
  | .bl b => some (.int (if b then 1 else 0))
  | _ => none
theorem semC_int {K : PySem.W.Frag} : SemC K B W (fun xs H Q => (∃ i, xs = [.int i] ∧ Q (.int i) H) ∨ ∃ k, xs = [.bl k] ∧ Q (.int (if k then 1 else 0)) H) (c1 gInt) := semC_1 fun s th G σ H Q d v z R h e P => by
  cases d <;> simp only [gInt] at e <;> cases e
  · cases h
    exact .inr ⟨_, rfl, Post.ok (rel := relE K) P R rfl⟩
  · cases h
    exact .inl ⟨_, rfl, Post.ok (rel := relE K) P R rfl⟩
def gMax2 : S → D → D → Option D := fun _ d e => match d, e with
  | .int i, .int j => some (.int (if j > i then j else i))
  | _, _ => none
def gMin2 : S → D → D → Option D := fun _ d e => match d, e with
  | .int i, .int j => some (.int (if j < i then j else i))
  | _, _ => none
theorem semC_max2 {K : PySem.W.Frag} : SemC K B W (fun xs H Q => ∃ i j, xs = [.int i, .int j] ∧ Q (.int (if j > i then j else i)) H) (c2 gMax2) := semC_2 fun s th G σ H Q d d' v v' z R h h' e P => by
  cases d <;> cases d' <;> simp only [gMax2] at e <;> cases e
  cases h; cases h'
  exact ⟨_, _, rfl, Post.ok (rel := relE K) P R rfl⟩
theorem semC_min2 {K : PySem.W.Frag} : SemC K B W (fun xs H Q => ∃ i j, xs = [.int i, .int j] ∧ Q (.int (if j < i then j else i)) H) (c2 gMin2) := semC_2 fun s th G σ H Q d d' v v' z R h h' e P => by
  cases d <;> cases d' <;> simp only [gMin2] at e <;> cases e
  cases h; cases h'
  exact ⟨_, _, rfl, Post.ok (rel := relE K) P R rfl⟩
/-- the ints of plain data -/
def intsD : List D → Option (List Int)
  | [] => some []
  | .int i :: l => (intsD l).map (i :: ·)
  | _ :: _ => none
theorem intsD_eq : ∀ {l : List D} {ns : List Int}, intsD l = some ns → l = ns.map D.int
  | [], ns, h => by simp [intsD] at h; subst h; rfl
  | d :: l, ns, h => by
    cases d <;> simp only [intsD] at h <;> try (cases h; done)
    cases e : intsD l with
    | none => rw [e] at h; cases h
    | some ms =>
      rw [e] at h
      simp at h
      subst h
      rw [intsD_eq e]; rfl
def gSum : S → D → Option D := fun s d => match lstOf s d with
  | some l => (intsD l).map fun ns => .int ns.sum
  | none => none
theorem semC_sum {K : PySem.W.Frag} : SemC K B W (rSum K) (c1 gSum) := semC_1 fun s th G σ H Q d v z R h e P => by
  simp only [gSum] at e
  cases e1 : lstOf s d with
  | none => rw [e1] at e; cases e
  | some l =>
    rw [e1] at e
    simp only at e
    cases e2 : intsD l with
    | none => rw [e2] at e; cases e
    | some ns =>
      rw [e2] at e
      simp at e
      subst e
      obtain ⟨p, vs, rfl, q, r⟩ := R.lst_of h e1
      rw [intsD_eq e2] at r
      rw [r.ints] at q
      exact ⟨p, ns, rfl, SqL.of q, Post.ok (rel := relE K) P R rfl⟩
/-- tuple(x): a list's items; a tuple itself -/
def gTuple : S → D → Option D := fun s d => match d with
  | .tup l => some (.tup l)
  | d => match lstOf s d with
    | some l => some (.tup l)
    | none => none
theorem semC_tuple {K : PySem.W.Frag} : SemC K B W (fun xs H Q => ∃ p ys, xs = [.ref p] ∧ ((SqL K H p ys ∧ ∀ l, H l = none → Q (.ref l) (upd H l (.tup ys))) ∨ (SqT K H p ys ∧ Q (.ref p) H))) (c1 gTuple) := semC_1 fun s th G σ H Q d v z R h e P => by
  have key : (match lstOf s d with
    | some l => some (D.tup l)
    | none => none) = some z → ∃ p ys, [v] = [V.ref p] ∧ ((SqL K H p ys ∧ ∀ l, H l = none → Q (.ref l) (upd H l (.tup ys))) ∨ (SqT K H p ys ∧ Q (.ref p) H)) := fun e => by
    cases e1 : lstOf s d with
    | none => rw [e1] at e; cases e
    | some l =>
      rw [e1] at e
      cases e
      obtain ⟨p, vs, rfl, q, r⟩ := R.lst_of h e1
      exact ⟨p, vs, rfl, .inl ⟨SqL.of q, fun t ht => post_tup R P r ht⟩⟩
  cases d with
  | tup l =>
    simp only [gTuple, Option.some.injEq] at e
    subst e
    obtain ⟨p, vs, rfl, q, r⟩ := id h
    exact ⟨p, vs, rfl, .inr ⟨R.eG.sqT q, Post.ok (rel := relE K) P R h⟩⟩
  | _ => exact key e
/-- list(x) of a list or a tuple -/
def gList : List D → S → R (Ob × S) := fun l s => match l with
  | [d] => match seqOf s d with
    | some l => .ok (.lst l, s)
    | none => .no
  | _ => .no
theorem semC_list {K : PySem.W.Frag} : SemCF K B W (fun xs H Q => ∃ p ys, xs = [.ref p] ∧ (SqL K H p ys ∨ SqT K H p ys) ∧ ∀ l, H l = none → Q (.ref l) (upd H l (.lst ys))) gList := fun s th G σ H Q l vs R rl P => by
  match l, rl, P with
  | [], _, P => exact P.elim
  | [d], rl, P =>
    obtain ⟨v, rfl, hv⟩ := rl.one_of
    simp only [gList] at P
    cases e : seqOf s d with
    | none => rw [e] at P; exact P.elim
    | some z =>
      rw [e] at P
      obtain ⟨p, vs, rfl, q, r⟩ := R.seq_of hv e
      exact ⟨p, vs, rfl, q, fun t ht => post_f R P r ht⟩
  | _ :: _ :: _, _, P => exact P.elim

/-! ### isinstance with a built-in class -/
def tyD : D → Option String
  | .non => some "NoneType"
  | .bl _ => some "bool"
  | .int _ => some "int"
  | .str _ => some "str"
  | .tup _ => some "tuple"
  | .lst _ => some "list"
  | _ => none
/-- the tuples of the written part are tuples -/
theorem ty_at {K : PySem.W.Frag} {d : D} {v : V} {t : String} (R : Rep K B th G s σ H) (h : At K th G d v) (e : tyD d = some t) : TyX K H v (.type t) := by
  cases d <;> simp only [tyD] at e <;> cases e
  · cases h; exact .base .non
  · cases h; exact .base (.bl _)
  · cases h; exact .base (.int _)
  · cases h; exact .base (.str _)
  · obtain ⟨p, vs, rfl, q, r⟩ := h
    rcases R.eG.sqT q with (q | ⟨o, q⟩) | ⟨o, its, n, q, hc, _⟩
    · exact .base (.tup q)
    · exact .fTuple q
    · exact .kTuple q hc
  · obtain ⟨p, vs, rfl, q, r⟩ := h
    exact .base (.lst (R.eG.lst q))
def isiB (T : String) (t : String) : Option Bool := kitB t T
/-- isinstance(x, T), T a built-in class by its name -/
def eIsi (T : String) (a : ME) : ME := fun s => (a s).bind fun d s => match tyD d with
  | some t => match kitB t T with
    | some b => .ok (.bl b, s)
    | none => .no
  | none => .no
def tIsi (K : PySem.W.Frag) (T : String) (ta : TE) : TE := tCB (rIsi K) (tCons ta (tCons (tC (.ty T)) tNil))
theorem ve_isi {x : Str} {p p2 : Pos} {T : String} (ha : VE X B W a ta ma) (hm : X.mg "isinstance" = none) (hmT : X.mg x = none) (hvT : bootBuiltins x = some (.type T)) (hgT : Gl X x := by rfl) (hg : Gl X "isinstance" := by rfl) (hn : x ≠ "__name__" := by decide) (hdb : (x == ("__debug__" : Str)) = false := by decide)
    (hs0 : starEach (a :: [.Name x p2]) X.env = (false, eval a X.env) :: starEach [.Name x p2] X.env := by rfl) (hs1 : starEach [.Name x p2] X.env = (false, eval (.Name x p2) X.env) :: starEach [] X.env := by rfl) (hpl : (backTo pos (starEach [.Name x p2] X.env)).any (·.1) = false := by rfl) :
    VE X B W (.Call (.Name "isinstance" p) [a, .Name x p2] [] pos) (tIsi X.K T ta) (eIsi T ma) :=
  ⟨pe_callB call_isi hg hm (by decide +kernel) (pa_cons ha.pe (pa_cons (pe_bltn hgT hmT hvT rfl hn hdb) pa_nil hs1) hs0) (by decide) (by decide) hs0 hpl, fun s th G σ H Q R P => ha.sem s th G σ H _ R (P.bind fun d s1 th1 G1 H1 v l1 R1 r1 P1 => by
    cases e : tyD d with
    | none => rw [e] at P1; exact P1.elim
    | some t =>
      rw [e] at P1
      simp only at P1
      cases e2 : kitB t T with
      | none => rw [e2] at P1; exact P1.elim
      | some b =>
        rw [e2] at P1
        exact ⟨v, .ty T, .type t, .type T, b, rfl, .ty T, ty_at R1 r1 e, kit_ty e2, Post.ok (rel := relE X.K) P1 R1 rfl⟩)⟩
end
end VL
namespace VL
open PySem L2

/-! ### statements -/
inductive C where
  | nx (s : S) | rt (d : D) (s : S) | bk (s : S) | ct (s : S) | ex (e : Exn) (s : S) | no
def R.to {α : Type} (x : R (α × S)) (k : α → S → C) : C := match x with
  | .ok (a, s) => k a s
  | .ex e s => .ex e s
  | .no => .no
@[simp] theorem R.to_ok {α : Type} (a : α) (s : S) (k : α → S → C) : R.to (.ok (a, s)) k = k a s := id rfl
@[simp] theorem R.to_ex {α : Type} (e : Exn) (s : S) (k : α → S → C) : R.to (.ex e s) k = .ex e s := id rfl
@[simp] theorem R.to_no {α : Type} (k : α → S → C) : R.to .no k = .no := id rfl
def C.seq (x : C) (k : S → C) : C := match x with
  | .nx s => k s
  | c => c
@[simp] theorem C.seq_nx (s : S) (k : S → C) : C.seq (.nx s) k = k s := id rfl
@[simp] theorem C.seq_rt (d : D) (s : S) (k : S → C) : C.seq (.rt d s) k = .rt d s := id rfl
@[simp] theorem C.seq_bk (s : S) (k : S → C) : C.seq (.bk s) k = .bk s := id rfl
@[simp] theorem C.seq_ct (s : S) (k : S → C) : C.seq (.ct s) k = .ct s := id rfl
@[simp] theorem C.seq_ex (e : Exn) (s : S) (k : S → C) : C.seq (.ex e s) k = .ex e s := id rfl
@[simp] theorem C.seq_no (k : S → C) : C.seq .no k = .no := id rfl
abbrev MS := S → C
abbrev MG := D → S → C

section
variable (K : PySem.W.Frag) (B : Bs) (W : WX)
def PostS (th : List Addr) (G H : Hp) (c : C) (Dn : Ends) : Prop := match c with
  | .nx s' => ∀ th' G' H' σ', Le th G H th' G' H' → Rep K B th' G' s' σ' H' → Dn.nx σ' H'
  | .rt d s' => ∀ th' G' H' σ' v, Le th G H th' G' H' → Rep K B th' G' s' σ' H' → At K th' G' d v → Dn.rt v H'
  | .bk s' => ∀ th' G' H' σ', Le th G H th' G' H' → Rep K B th' G' s' σ' H' → Dn.bk σ' H'
  | .ct s' => ∀ th' G' H' σ', Le th G H th' G' H' → Rep K B th' G' s' σ' H' → Dn.ct σ' H'
  | .ex e s' => ∀ th' G' H' σ' cls d, Le th G H th' G' H' → Rep K B th' G' s' σ' H' → ExAt K B th' G' H' e cls d → W cls d σ' H'
  | .no => False
def SemS (t : TS) (m : MS) : Prop := ∀ s th G σ H Dn, Rep K B th G s σ H → PostS K B W th G H (m s) Dn → t Dn σ H
def SemG (t : TG) (m : MG) : Prop := ∀ s th G σ H d v (Q : St → Hp → Prop), Rep K B th G s σ H → At K th G d v → PostS K B W th G H (m d s) { nx := Q, rt := fun _ _ => False } → t v σ H Q
def SemGs (t : TGs) (m : List D → S → C) : Prop := ∀ s th G σ H l vs (Q : St → Hp → Prop), Rep K B th G s σ H → AtL K th G l vs → PostS K B W th G H (m l s) { nx := Q, rt := fun _ _ => False } → t vs σ H Q
end
structure VS (X : Cx) (B : Bs) (W : WX) (st : Stmt) (t : TS) (m : MS) : Prop where
  ps : PS X st t
  sem : SemS X.K B W t m
structure VSs (X : Cx) (B : Bs) (W : WX) (st : List Stmt) (t : TS) (m : MS) : Prop where
  ps : PSs X st t
  sem : SemS X.K B W t m
structure VG (X : Cx) (B : Bs) (W : WX) (tg : Expr) (t : TG) (m : MG) : Prop where
  pg : PG X tg t
  sem : SemG X.K B W t m
structure VGs (X : Cx) (B : Bs) (W : WX) (tgs : List Expr) (t : TGs) (m : List D → S → C) : Prop where
  pg : PGs X tgs t
  sem : SemGs X.K B W t m

section
variable {K : PySem.W.Frag} {B : Bs} {W : WX} {th th1 : List Addr} {G G1 H H1 : Hp} {σ : St} {α β : Type}
theorem PostS.later {c : C} {Dn : Ends} (l : Le th G H th1 G1 H1) (P : PostS K B W th G H c Dn) : PostS K B W th1 G1 H1 c Dn := by
  cases c with
  | nx s => exact fun th' G' H' σ' l' R => P th' G' H' σ' (l.trans l') R
  | rt d s => exact fun th' G' H' σ' v l' R r => P th' G' H' σ' v (l.trans l') R r
  | bk s => exact fun th' G' H' σ' l' R => P th' G' H' σ' (l.trans l') R
  | ct s => exact fun th' G' H' σ' l' R => P th' G' H' σ' (l.trans l') R
  | ex e s => exact fun th' G' H' σ' cls d l' R r => P th' G' H' σ' cls d (l.trans l') R r
  | no => exact P
theorem PostS.to {rel : Rel α β} {x : R (α × S)} {k : α → S → C} {Dn : Ends} {Q2 : β → Hp → Prop} (P : PostS K B W th G H (x.to k) Dn)
    (h : ∀ a s' th' G' H' b, Le th G H th' G' H' → Rep K B th' G' s' σ H' → rel H th' G' H' a b → PostS K B W th' G' H' (k a s') Dn → Q2 b H') : Post K B W σ th G H rel x Q2 := by
  cases x with
  | ok a => obtain ⟨a, s⟩ := a; exact fun th' G' H' b l R r => h a s th' G' H' b l R r (P.later l)
  | ex e s => exact fun th' G' H' cls d l R r => P th' G' H' σ cls d l R r
  | no => exact P
theorem PostS.seq {x : C} {k : S → C} {Dn : Ends} {N : St → Hp → Prop} (P : PostS K B W th G H (x.seq k) Dn)
    (h : ∀ s' th' G' H' σ', Le th G H th' G' H' → Rep K B th' G' s' σ' H' → PostS K B W th' G' H' (k s') Dn → N σ' H') : PostS K B W th G H x { Dn with nx := N } := by
  cases x with
  | nx s => exact fun th' G' H' σ' l R => h s th' G' H' σ' l R (PostS.later l P)
  | _ => exact P
/-- a target's end: nx or nothing -/
theorem PostS.g {c : C} {Dn : Ends} {k : S → C} (P : PostS K B W th G H (c.seq k) Dn) (hc : (∃ s, c = .nx s) ∨ c = .no)
    {Q : St → Hp → Prop} (h : ∀ s' th' G' H' σ', Le th G H th' G' H' → Rep K B th' G' s' σ' H' → PostS K B W th' G' H' (k s') Dn → Q σ' H') : PostS K B W th G H c { nx := Q, rt := fun _ _ => False } := by
  rcases hc with ⟨s, rfl⟩ | rfl
  · exact fun th' G' H' σ' l R => h s th' G' H' σ' l R (PostS.later l P)
  · exact P.elim
theorem PostS.nx0 {s : S} {Dn : Ends} (P : PostS K B W th G H (.nx s) Dn) (R : Rep K B th G s σ H) : Dn.nx σ H := P th G H σ (Le.refl _ _ _) R
theorem PostS.rt0 {d : D} {v : V} {s : S} {Dn : Ends} (P : PostS K B W th G H (.rt d s) Dn) (R : Rep K B th G s σ H) (r : At K th G d v) : Dn.rt v H := P th G H σ v (Le.refl _ _ _) R r
end

def sSeq (a b : MS) : MS := fun s => (a s).seq b
def sNil : MS := fun s => .nx s
def sRet (e : ME) : MS := fun s => (e s).to fun d s => .rt d s
def sRetN : MS := fun s => .rt .non s
def sBk : MS := fun s => .bk s
def sCt : MS := fun s => .ct s
def sDrop (e : ME) : MS := fun s => (e s).to fun _ s => .nx s
def sIf (t : MT) (a b : MS) : MS := fun s => (t s).to fun x s => if x = true then a s else b s
def gN (i : Nat) : MG := fun d s => .nx { s with r := s.r.set i (some d) }
def sAsg (e : ME) (g : MG) : MS := fun s => (e s).to fun d s => g d s
def gTupM (g : List D → S → C) : MG := fun d s => match d with
  | .tup l => g l s
  | _ => .no
def gsNil : List D → S → C := fun l s => match l with
  | [] => .nx s
  | _ => .no
def gsCons (g : MG) (r : List D → S → C) : List D → S → C := fun l s => match l with
  | d :: l => (g d s).seq fun s => r l s
  | [] => .no

section
variable {X : Cx} {B : Bs} {W : WX} {e a b c tg : Expr} {te ta tb tc : TE} {m ma mb mc : ME} {pos : Pos} {st : Stmt} {rest sts sts' : List Stmt} {t u : TS} {ms mr : MS} {tt : TT} {mt : MT}
theorem vss_nil : VSs X B W [] tNext sNil := ⟨pss_nil, fun s th G σ H Dn R P => P.nx0 R⟩
theorem vss_cons (h : VS X B W st t ms) (k : VSs X B W rest u mr) : VSs X B W (st :: rest) (tSeq t u) (sSeq ms mr) :=
  ⟨pss_cons h.ps k.ps, fun s th G σ H Dn R P => h.sem s th G σ H _ R (P.seq fun s' th' G' H' σ' l R' P' => k.sem s' th' G' σ' H' Dn R' P')⟩
theorem vss_one (h : VS X B W st t ms) : VSs X B W [st] t ms := ⟨pss_one h.ps, h.sem⟩
theorem vs_ret (h : VE X B W e te m) : VS X B W (.Return (some e) pos) (tRet te) (sRet m) := ⟨ps_ret h.pe, fun s th G σ H Dn R P => h.sem s th G σ H _ R (P.to fun d s' th' G' H' v l R' r P' => P'.rt0 R' r)⟩
theorem vs_retN : VS X B W (.Return none pos) tRetN sRetN := ⟨ps_retN, fun s th G σ H Dn R P => P.rt0 (v := V.non) R rfl⟩
theorem vs_break : VS X B W (.Break pos) tBreak sBk := ⟨ps_break, fun s th G σ H Dn R P => P th G H σ (Le.refl _ _ _) R⟩
theorem vs_cont : VS X B W (.Continue pos) tCont sCt := ⟨ps_continue, fun s th G σ H Dn R P => P th G H σ (Le.refl _ _ _) R⟩
theorem vs_pass : VS X B W (.Pass pos) tNext sNil := ⟨ps_pass, fun s th G σ H Dn R P => P.nx0 R⟩
theorem vs_doc {x : Str} {j : Nat} {pos' : Pos} : VS X B W (.Expr (.Constant (.str x) j pos) pos') tNext sNil := ⟨ps_doc, fun s th G σ H Dn R P => P.nx0 R⟩
theorem vs_expr (h : VE X B W e te m) (hs : swapsWith e none pos.line X.env = pure false := by rfl) : VS X B W (.Expr e pos) (tDrop te) (sDrop m) := ⟨ps_expr h.pe hs, fun s th G σ H Dn R P => h.sem s th G σ H _ R (P.to fun d s' th' G' H' v l R' r P' => P'.nx0 R')⟩
theorem vs_if (ht : VT X B W c tt mt) (ha : VSs X B W sts t ms) (hb : VSs X B W sts' u mr) : VS X B W (.If c sts sts' pos) (tIfS tt t u) (sIf mt ms mr) :=
  ⟨ps_if ht.pt ha.ps hb.ps, fun s th G σ H Dn R P => ht.sem s th G σ H _ R (P.to fun x s' th' G' H' v l R' r P' => by
    cases r
    cases x with
    | true => exact iteT (ha.sem s' th' G' σ H' Dn R' P')
    | false => exact iteF (hb.sem s' th' G' σ H' Dn R' P'))⟩
/-! targets -/
theorem vg_name {x : Str} (i : Nat) (hN : X.N.Nodup) (hi : X.N[i]? = some x := by rfl) (hx : Loc X.env.scope x := by first | exact Or.inl rfl | exact Or.inr rfl) (hf : X.fn x = true ∨ X.env.scope.names.lookup x = some .local := by first | exact .inl rfl | exact .inr rfl | assumption) : VG X B W (.Name x pos) (gName i) (gN i) :=
  ⟨pg_name hN hi hx hf, fun s th G σ H d v Q R h P => P.nx0 (R.sets h)⟩
theorem vgs_nil : VGs X B W [] gNil gsNil := ⟨pgs_nil, fun s th G σ H l vs Q R h P => by
  cases l with
  | nil => cases h; exact ⟨rfl, P.nx0 R⟩
  | cons _ _ => exact P.elim⟩
/-- a target ends with nx or not at all -/
def GOk (g : MG) : Prop := ∀ d s, (∃ s', g d s = .nx s') ∨ g d s = .no
def GsOk (g : List D → S → C) : Prop := ∀ d s, (∃ s', g d s = .nx s') ∨ g d s = .no
theorem gN_ok {i : Nat} : GOk (gN i) := fun d s => .inl ⟨_, rfl⟩
theorem gsNil_ok : GsOk gsNil := fun d s => by cases d <;> first | exact .inl ⟨_, rfl⟩ | exact .inr rfl
theorem gsCons_ok {g : MG} {r : List D → S → C} (h : GOk g) (k : GsOk r) : GsOk (gsCons g r) := fun d s => by
  cases d with
  | nil => exact .inr rfl
  | cons d l =>
    simp only [gsCons]
    rcases h d s with ⟨s', e⟩ | e
    · rw [e]; exact k l s'
    · rw [e]; exact .inr rfl
theorem gTupM_ok {g : List D → S → C} (h : GsOk g) : GOk (gTupM g) := fun d s => by
  cases d <;> first
    | exact h _ s
    | exact .inr rfl
theorem vgs_cons {ts : List Expr} {g : TG} {gs : TGs} {mg : MG} {mgs : List D → S → C} (h : VG X B W tg g mg) (k : VGs X B W ts gs mgs) (hg : GOk mg) (hs : (assignEach (tg :: ts) X.env).map (·.2) = assign tg X.env :: (assignEach ts X.env).map (·.2) := by rfl) :
    VGs X B W (tg :: ts) (gCons g gs) (gsCons mg mgs) := ⟨pgs_cons h.pg k.pg hs, fun s th G σ H l vs Q R r P => by
  cases l with
  | nil => exact P.elim
  | cons d l =>
    obtain ⟨v, vr, rfl, q, z⟩ := r
    exact ⟨v, vr, rfl, h.sem s th G σ H d v _ R q (PostS.g P (hg d s) fun s' th' G' H' σ' l' R' P' => k.sem s' th' G' σ' H' l vr Q R' (z.mono l'.pre l'.ex) P')⟩⟩
theorem gsCons_len {g : TGs} {es : List Expr} : True := trivial
theorem vg_tup {es : List Expr} {k n : Nat} {gs : TGs} {mgs : List D → S → C} (hc : X.calm = true) (h : VGs X B W es gs mgs) (hl : ∀ l s, l.length ≠ n → mgs l s = .no) (hn : (assignEach es X.env).length = n := by rfl) (hst : (assignEach es X.env).findIdx? (·.1) = none := by rfl) :
    VG X B W (.Tuple es k pos) (gTup X.K n gs) (gTupM mgs) := ⟨pg_tup hc h.pg hn hst, fun s th G σ H d v Q R r P => by
  cases d with
  | tup l =>
    obtain ⟨p, vs, rfl, q, z⟩ := r
    have hll : l.length = n := by
      by_cases hh : l.length = n
      · exact hh
      · simp only [gTupM] at P
        rw [hl l s hh] at P
        exact P.elim
    exact ⟨p, vs, rfl, R.eG.sqT q, by rw [z.length]; exact hll, h.sem s th G σ H l vs Q R z P⟩
  | _ => exact P.elim⟩
theorem len_nil : ∀ l s, l.length ≠ 0 → gsNil l s = .no := fun l s h => by cases l <;> first | exact absurd rfl h | rfl
theorem len_cons {n : Nat} {g : MG} {r : List D → S → C} (hg : GOk g) (h : ∀ l s, l.length ≠ n → r l s = .no) : ∀ l s, l.length ≠ n + 1 → gsCons g r l s = .no := fun l s hl => by
  cases l with
  | nil => rfl
  | cons d l =>
    simp only [gsCons]
    rcases hg d s with ⟨s', e⟩ | e
    · rw [e]; exact h l s' (fun z => hl (by simp [z]))
    · rw [e]; rfl
theorem vs_set {x : Str} {pos' : Pos} (i : Nat) (hN : X.N.Nodup) (h : VE X B W e te m) (hs : swapsWith e (some (.Name x pos')) pos.line X.env = pure false := by rfl) (hi : X.N[i]? = some x := by rfl) (hx : Loc X.env.scope x := by first | exact Or.inl rfl | exact Or.inr rfl) (hf : X.fn x = true ∨ X.env.scope.names.lookup x = some .local := by first | exact .inl rfl | exact .inr rfl | assumption) :
    VS X B W (.Assign [.Name x pos'] e pos) (tAsg te (gName i)) (sAsg m (gN i)) := ⟨ps_set hN hi hx h.pe hs hf, fun s th G σ H Dn R P => h.sem s th G σ H _ R (P.to fun d s' th' G' H' v l R' r P' => P'.nx0 (R'.sets r))⟩
theorem vs_asg {g : TG} {mg : MG} (h : VE X B W e te m) (hg : VG X B W tg g mg) (hok : GOk mg) (hs : swapsWithSole [tg] e pos.line X.env = pure false := by rfl) (hw : swappedStores [tg] e X.env = pure none := by rfl)
    (h1 : (assignEach [tg] X.env).map (·.2) = [assign tg X.env] := by rfl) : VS X B W (.Assign [tg] e pos) (tAsg te g) (sAsg m mg) :=
  ⟨ps_asg h.pe hg.pg hs hw h1, fun s th G σ H Dn R P => h.sem s th G σ H _ R (P.to fun d s' th' G' H' v l R' r P' => hg.sem s' th' G' σ H' d v _ R' r (by
    rcases hok d s' with ⟨s2, e2⟩ | e2
    · rw [e2] at P' ⊢; exact P'
    · rw [e2] at P' ⊢; exact P'))⟩
end
end VL
namespace VL
open PySem L2

/-! ### what is walked -/
theorem PI.or {X : Cx} {tg e : Expr} {t u : TI} (h : PI X tg e t) (k : PI X tg e u) : PI X tg e (fun σ H R => t σ H R ∨ u σ H R) := ⟨fun pins s σ H Q I hw => by
  rcases hw with hw | hw
  · exact h.run pins s σ H Q I hw
  · exact k.run pins s σ H Q I hw⟩
def itD : D → Option (List D)
  | .lst l => some l
  | .tup l => some l
  | .scr l => some (l.map D.int)
  | .str x => some (x.map fun c => .str [c])
  | _ => none
def iSeqM (e : ME) : MA := fun s => (e s).bind fun d s => match itD d with
  | some l => .ok (l, s)
  | none => .no
def rng (lo : Int) (n : Nat) : List D := (List.range n).map fun i => .int (lo + (i : Nat))
def rngC (lo c : Int) (n : Nat) : List D := (List.range n).map fun i => .int (lo + (i : Nat) * c)
def okR (i : Int) : Bool := decide (-(2 ^ 62) ≤ i ∧ i < 2 ^ 62)
def iRg1M (a : MA) : MA := fun s => (a s).bind fun l s => match l with
  | [.int j] => if okR j then .ok (rng 0 j.toNat, s) else .no
  | _ => .no
def iRg2M (a : MA) : MA := fun s => (a s).bind fun l s => match l with
  | [.int i, .int j] => if okR i && okR j then .ok (rng i (j - i).toNat, s) else .no
  | _ => .no
/-- downwards by one -/
def iRg3M (a : MA) : MA := fun s => (a s).bind fun l s => match l with
  | [.int i, .int j, .int c] => if okR i && okR j && decide (c = -1) then .ok (rngC i (-1) (i - j).toNat, s) else .no
  | _ => .no
def pairs (l m : List D) : List D := List.zipWith (fun x y => .tup [x, y]) l m
def iZipM (a : MA) : MA := fun s => (a s).bind fun l s => match l with
  | [x, y] => match x, y with
    | .tup l, .tup m => .ok (pairs l m, s)
    | .lst l, .lst m => .ok (pairs l m, s)
    | _, _ => .no
  | _ => .no
section
variable {K : PySem.W.Frag} {B : Bs} {W : WX} {th : List Addr} {G H H0 : Hp} {s : S} {σ : St}
theorem relI_lst {a : Addr} {l : List D} {vs : List V} (q : ∀ th1 G1 H1, Le th G H th1 G1 H1 → Ex G1 H1 → SqL K H1 a vs) (r : AtL K th G l vs) : relI K H0 th G H l (Itl K a) := fun th1 G1 H1 i le ex => by
  have q1 := q th1 G1 H1 le ex
  refine ⟨fun hi => ⟨vs, q1, by rw [r.length]; exact hi⟩, fun d hd => ?_⟩
  obtain ⟨v, hv, hx⟩ := (r.mono le.pre le.ex).get hd
  refine ⟨⟨vs, v, q1, hv⟩, fun x H2 y => ?_⟩
  obtain ⟨rfl, y⟩ := y
  have := y vs q1
  rw [hv] at this; cases this
  exact ⟨G1, .inl ⟨rfl, rfl⟩, hx⟩
theorem relI_tup {a : Addr} {l : List D} {vs : List V} (q : ∀ th1 G1 H1, Le th G H th1 G1 H1 → Ex G1 H1 → SqT K H1 a vs) (r : AtL K th G l vs) : relI K H0 th G H l (Itt K a) := fun th1 G1 H1 i le ex => by
  have q1 := q th1 G1 H1 le ex
  refine ⟨fun hi => ⟨vs, q1, by rw [r.length]; exact hi⟩, fun d hd => ?_⟩
  obtain ⟨v, hv, hx⟩ := (r.mono le.pre le.ex).get hd
  refine ⟨⟨vs, v, q1, hv⟩, fun x H2 y => ?_⟩
  obtain ⟨rfl, y⟩ := y
  have := y vs q1
  rw [hv] at this; cases this
  exact ⟨G1, .inl ⟨rfl, rfl⟩, hx⟩
theorem relI_str {x : List Nat} : relI K H0 th G H (x.map fun c => D.str [c]) (Its ⟨x.toArray⟩) := fun th1 G1 H1 i le ex => by
  refine ⟨fun hi => by simpa [Its] using hi, fun d hd => ?_⟩
  rw [List.getElem?_map] at hd
  cases hc : x[i]? with
  | none => rw [hc] at hd; cases hd
  | some c =>
    rw [hc] at hd; cases hd
    have hlt : i < x.length := (List.getElem?_eq_some_iff.mp hc).1
    refine ⟨by simpa [Its] using hlt, fun v H2 y => ?_⟩
    obtain ⟨rfl, c', e, rfl⟩ := y
    simp [hc] at e
    subst e
    exact ⟨G1, .inl ⟨rfl, rfl⟩, rfl⟩
theorem relI_rng {lo : Int} {n : Nat} : relI K H0 th G H (rng lo n) (Itr lo n) := fun th1 G1 H1 i le ex => by
  refine ⟨fun hi => show n ≤ i by simpa [rng] using hi, fun d hd => ?_⟩
  have hlt : i < n := by
    have := (List.getElem?_eq_some_iff.mp hd).1
    simpa [rng] using this
  simp [rng, hlt] at hd
  subst hd
  refine ⟨hlt, fun v H2 y => ?_⟩
  obtain ⟨rfl, rfl⟩ := y
  exact ⟨G1, .inl ⟨rfl, rfl⟩, rfl⟩
theorem relI_rngC {lo c : Int} {n : Nat} : relI K H0 th G H (rngC lo c n) (Itc lo c n) := fun th1 G1 H1 i le ex => by
  refine ⟨fun hi => show n ≤ i by simpa [rngC] using hi, fun d hd => ?_⟩
  have hlt : i < n := by
    have := (List.getElem?_eq_some_iff.mp hd).1
    simpa [rngC] using this
  simp [rngC, hlt] at hd
  subst hd
  refine ⟨hlt, fun v H2 y => ?_⟩
  obtain ⟨rfl, rfl⟩ := y
  exact ⟨G1, .inl ⟨rfl, rfl⟩, rfl⟩
theorem pairs_get {l m : List D} {i : Nat} {d : D} (h : (pairs l m)[i]? = some d) : ∃ x y, l[i]? = some x ∧ m[i]? = some y ∧ d = .tup [x, y] := by
  unfold pairs at h
  rw [List.getElem?_zipWith] at h
  cases h1 : l[i]? with
  | none => rw [h1] at h; simp at h
  | some x =>
    cases h2 : m[i]? with
    | none => rw [h1, h2] at h; simp at h
    | some y =>
      rw [h1, h2] at h
      simp at h
      exact ⟨x, y, rfl, rfl, h.symm⟩
theorem at_pair {th1 : List Addr} {G1 H1 : Hp} {x y : D} {v w : V} {T : Addr} (hx : At K th1 G1 x v) (hy : At K th1 G1 y w) (hT : H1 T = none) (ex : Ex G1 H1) : At K th1 (upd G1 T (.tup [v, w])) (.tup [x, y]) (.ref T) :=
  have hn := ex.none_back hT
  ⟨T, [v, w], rfl, .inl (.inl upd_same), .cons (hx.mono List.prefix_rfl (Sub.new hn)) (.one (hy.mono List.prefix_rfl (Sub.new hn)))⟩
theorem relI_zipT {a b : Addr} {l m : List D} {vs ws : List V} (q : ∀ th1 G1 H1, Le th G H th1 G1 H1 → Ex G1 H1 → SqT K H1 a vs ∧ SqT K H1 b ws) (r : AtL K th G l vs) (r2 : AtL K th G m ws) : relI K H0 th G H (pairs l m) (RZ.ItzT K a b) := fun th1 G1 H1 i le ex => by
  obtain ⟨q1, q2⟩ := q th1 G1 H1 le ex
  refine ⟨fun hi => ⟨vs, ws, q1, q2, ?_⟩, fun d hd => ?_⟩
  · rw [r.length, r2.length]
    simp [pairs] at hi; omega
  · obtain ⟨x, y, hx, hy, rfl⟩ := pairs_get hd
    obtain ⟨v, hv, hx⟩ := (r.mono le.pre le.ex).get hx
    obtain ⟨w, hw, hy⟩ := (r2.mono le.pre le.ex).get hy
    refine ⟨⟨vs, ws, v, w, q1, q2, hv, hw⟩, fun z H2 y => ?_⟩
    obtain ⟨T, x', y', rfl, hT, rfl, f1, f2⟩ := y
    have e1 := f1 vs q1
    have e2 := f2 ws q2
    rw [hv] at e1; cases e1
    rw [hw] at e2; cases e2
    exact ⟨_, .inr ⟨T, _, hT, rfl, rfl⟩, at_pair hx hy hT ex⟩
theorem relI_zipL {a b : Addr} {l m : List D} {vs ws : List V} (q : ∀ th1 G1 H1, Le th G H th1 G1 H1 → Ex G1 H1 → SqL K H1 a vs ∧ SqL K H1 b ws) (r : AtL K th G l vs) (r2 : AtL K th G m ws) : relI K H0 th G H (pairs l m) (Itz K a b) := fun th1 G1 H1 i le ex => by
  obtain ⟨q1, q2⟩ := q th1 G1 H1 le ex
  refine ⟨fun hi => ⟨vs, ws, q1, q2, ?_⟩, fun d hd => ?_⟩
  · rw [r.length, r2.length]
    simp [pairs] at hi; omega
  · obtain ⟨x, y, hx, hy, rfl⟩ := pairs_get hd
    obtain ⟨v, hv, hx⟩ := (r.mono le.pre le.ex).get hx
    obtain ⟨w, hw, hy⟩ := (r2.mono le.pre le.ex).get hy
    refine ⟨⟨vs, ws, v, w, q1, q2, hv, hw⟩, fun z H2 y => ?_⟩
    obtain ⟨T, x', y', rfl, hT, rfl, f1, f2⟩ := y
    have e1 := f1 vs q1
    have e2 := f2 ws q2
    rw [hv] at e1; cases e1
    rw [hw] at e2; cases e2
    exact ⟨_, .inr ⟨T, _, hT, rfl, rfl⟩, at_pair hx hy hT ex⟩
theorem two_at {x y : D} {vs : List V} (h : AtL K th G [x, y] vs) : ∃ v w, vs = [v, w] ∧ At K th G x v ∧ At K th G y w := by
  obtain ⟨v, r, rfl, h1, w, r2, rfl, h2, rfl⟩ := h
  exact ⟨v, w, rfl, h1, h2⟩
end
def iSeqT (K : PySem.W.Frag) (te : TE) : TI := fun σ H R => iList K te σ H R ∨ (iTup K te σ H R ∨ iStr te σ H R)
section
variable {X : Cx} {B : Bs} {W : WX} {e a b tg : Expr} {te : TE} {ta : TA} {m : ME} {ma : MA} {p pos tpos : Pos}
theorem vi_seq (h : VE X B W e te m) : VI X B W tg e (iSeqT X.K te) (iSeqM m) := ⟨PI.or (pi_list h.pe) (PI.or (pi_tup h.pe) (pi_str h.pe)), fun s th G σ H Q R P => by
  have hS := h.sem s th G σ H
  unfold iSeqM at P
  cases hm : m s with
  | no => rw [hm] at P; exact P.elim
  | ex e s' => exact .inl (hS _ R (by rw [hm] at P ⊢; exact P))
  | ok x =>
    obtain ⟨d, s1⟩ := x
    rw [hm] at hS P
    simp only [VL.R.bind_ok] at P
    cases d with
    | lst l => exact .inl (hS _ R fun th1 G1 H1 v l1 R1 r => by
        obtain ⟨ad, vs, rfl, q, z⟩ := r
        exact ⟨ad, rfl, ⟨vs, .inl (.inl (R1.eG.lst q))⟩, P th1 G1 H1 _ l1 R1 (relI_lst (fun th2 G2 H2 l2 ex => .inl (.inl (ex.lst (l2.ex _ _ q)))) z)⟩)
    | scr l => exact .inl (hS _ R fun th1 G1 H1 v l1 R1 r => by
        obtain ⟨ad, rfl, q⟩ := r
        exact ⟨ad, rfl, ⟨_, R1.eG.sqL q⟩, P th1 G1 H1 _ l1 R1 (relI_lst (fun th2 G2 H2 l2 ex => ex.sqL (l2.ex.sqL q)) (atL_ints l))⟩)
    | tup l => exact .inr (.inl (hS _ R fun th1 G1 H1 v l1 R1 r => by
        obtain ⟨ad, vs, rfl, q, z⟩ := r
        exact ⟨ad, rfl, ⟨vs, R1.eG.sqT q⟩, P th1 G1 H1 _ l1 R1 (relI_tup (fun th2 G2 H2 l2 ex => ex.sqT (l2.ex.sqT q)) z)⟩))
    | str x => exact .inr (.inr (hS _ R fun th1 G1 H1 v l1 R1 r => by
        cases r
        exact ⟨_, rfl, P th1 G1 H1 _ l1 R1 relI_str⟩))
    | _ => exact P.elim⟩
theorem okR_iff {i : Int} (h : okR i = true) : -(2 ^ 62) ≤ i ∧ i < 2 ^ 62 := of_decide_eq_true h
theorem vi_range1 (hg : Gl X "range") (hm : X.mg "range" = none) (h : VA X B W [a] ta ma) (hs : starEach [a] X.env = [(false, eval a X.env)] := by rfl) : VI X B W tg (.Call (.Name "range" p) [a] [] pos) (iRng1 ta) (iRg1M ma) := ⟨pi_range1 hg hm h.pa hs, fun s th G σ H Q R P => h.sem s th G σ H _ R (P.bind0 fun l s1 th1 G1 H1 vs l1 R1 r P1 => by
  split at P1
  · rename_i j
    split at P1
    · rename_i hj
      obtain ⟨h1, h2⟩ := okR_iff hj
      obtain ⟨v, rfl, hv⟩ := r.one_of
      cases hv
      exact ⟨j, rfl, h1, h2, P1 th1 G1 H1 _ l1 R1 relI_rng⟩
    · exact P1.elim
  · exact P1.elim)⟩
theorem vi_range2 (hg : Gl X "range") (hm : X.mg "range" = none) (h : VA X B W [a, b] ta ma) (hs : starEach [a, b] X.env = [(false, eval a X.env), (false, eval b X.env)] := by rfl) (hs2 : starEach [b] X.env = [(false, eval b X.env)] := by rfl) : VI X B W tg (.Call (.Name "range" p) [a, b] [] pos) (iRng2 ta) (iRg2M ma) := ⟨pi_range2 hg hm h.pa hs hs2, fun s th G σ H Q R P => h.sem s th G σ H _ R (P.bind0 fun l s1 th1 G1 H1 vs l1 R1 r P1 => by
  split at P1
  · rename_i i j
    split at P1
    · rename_i hj
      simp only [Bool.and_eq_true] at hj
      obtain ⟨h1, h2⟩ := okR_iff hj.1
      obtain ⟨h3, h4⟩ := okR_iff hj.2
      obtain ⟨v, w, rfl, hv, hw⟩ := two_at r
      cases hv; cases hw
      exact ⟨i, j, rfl, ⟨h1, h2, h3, h4⟩, P1 th1 G1 H1 _ l1 R1 relI_rng⟩
    · exact P1.elim
  · exact P1.elim)⟩
theorem vi_range3 {c : Expr} (hg : Gl X "range") (hm : X.mg "range" = none) (h : VA X B W [a, b, c] ta ma) (hs : starEach [a, b, c] X.env = (false, eval a X.env) :: starEach [b, c] X.env := by rfl) (hpl : (backTo pos (starEach [b, c] X.env)).any (·.1) = false := by rfl) : VI X B W tg (.Call (.Name "range" p) [a, b, c] [] pos) (iRng3 ta) (iRg3M ma) := ⟨pi_range3 hg hm h.pa hs hpl, fun s th G σ H Q R P => h.sem s th G σ H _ R (P.bind0 fun l s1 th1 G1 H1 vs l1 R1 r P1 => by
  split at P1
  · rename_i i j c
    split at P1
    · rename_i hj
      simp only [Bool.and_eq_true, decide_eq_true_eq] at hj
      obtain ⟨⟨hj1, hj2⟩, rfl⟩ := hj
      obtain ⟨h1, h2⟩ := okR_iff hj1
      obtain ⟨h3, h4⟩ := okR_iff hj2
      obtain ⟨v, r, rfl, hv, hr⟩ := r
      obtain ⟨w, u, rfl, hw, hu⟩ := two_at hr
      cases hv; cases hw; cases hu
      exact ⟨i, j, -1, _, rfl, RgC.neg h1 h2 h3 h4, P1 th1 G1 H1 _ l1 R1 relI_rngC⟩
    · exact P1.elim
  · exact P1.elim)⟩
theorem vi_zip {elts : List Expr} {kk : Nat} (hg : Gl X "zip") (hm : X.mg "zip" = none) (h : VA X B W [a, b] ta ma) (hs : starEach [a, b] X.env = (false, eval a X.env) :: starEach [b] X.env := by rfl) (hpl : (backTo pos (starEach [b] X.env)).any (·.1) = false := by rfl) :
    VI X B W (.Tuple elts kk tpos) (.Call (.Name "zip" p) [a, b] [] pos) (RZ.iZipA X.K ta) (iZipM ma) := ⟨RZ.pi_zipA hg hm h.pa hs hpl, fun s th G σ H Q R P => h.sem s th G σ H _ R (P.bind0 fun l s1 th1 G1 H1 vs l1 R1 r P1 => by
  split at P1
  · rename_i x y
    obtain ⟨v, w, rfl, hv, hw⟩ := two_at r
    split at P1
    · obtain ⟨a1, v1, rfl, q1, z1⟩ := hv
      obtain ⟨a2, v2, rfl, q2, z2⟩ := hw
      exact ⟨a1, a2, v1, v2, rfl, .inr ⟨R1.eG.sqT q1, R1.eG.sqT q2, P1 th1 G1 H1 _ l1 R1 (relI_zipT (fun th2 G2 H2 l2 ex => ⟨ex.sqT (l2.ex.sqT q1), ex.sqT (l2.ex.sqT q2)⟩) z1 z2)⟩⟩
    · obtain ⟨a1, v1, rfl, q1, z1⟩ := hv
      obtain ⟨a2, v2, rfl, q2, z2⟩ := hw
      exact ⟨a1, a2, v1, v2, rfl, .inl ⟨.inl (.inl (R1.eG.lst q1)), .inl (.inl (R1.eG.lst q2)), P1 th1 G1 H1 _ l1 R1 (relI_zipL (fun th2 G2 H2 l2 ex => ⟨.inl (.inl (ex.lst (l2.ex _ _ q1))), .inl (.inl (ex.lst (l2.ex _ _ q2)))⟩) z1 z2)⟩⟩
    · exact P1.elim
  · exact P1.elim)⟩
end

/-! ### for, while -/
def C.loop (x : C) (k : S → C) : C := match x with
  | .nx s => k s
  | .ct s => k s
  | .bk s => .nx s
  | c => c
@[simp] theorem C.loop_nx (s : S) (k : S → C) : C.loop (.nx s) k = k s := id rfl
@[simp] theorem C.loop_ct (s : S) (k : S → C) : C.loop (.ct s) k = k s := id rfl
@[simp] theorem C.loop_bk (s : S) (k : S → C) : C.loop (.bk s) k = .nx s := id rfl
@[simp] theorem C.loop_rt (d : D) (s : S) (k : S → C) : C.loop (.rt d s) k = .rt d s := id rfl
@[simp] theorem C.loop_ex (e : Exn) (s : S) (k : S → C) : C.loop (.ex e s) k = .ex e s := id rfl
@[simp] theorem C.loop_no (k : S → C) : C.loop .no k = .no := id rfl
def forL (g : MG) (b : MS) : List D → MS
  | [] => fun s => .nx s
  | d :: l => fun s => (g d s).seq fun s => (b s).loop fun s => forL g b l s
def sFor (it : MA) (g : MG) (b : MS) : MS := fun s => (it s).to fun l s => forL g b l s
def whileN (t : MT) (b : MS) : Nat → MS
  | 0 => fun _ => .no
  | n + 1 => fun s => (t s).to fun x s => if x = true then (b s).loop fun s => whileN t b n s else .nx s
def sWhile (n : Nat) (t : MT) (b : MS) : MS := fun s => whileN t b n s
section
variable {K : PySem.W.Frag} {B : Bs} {W : WX} {th th0 : List Addr} {G H G0 H0 Hs : Hp} {s : S} {σ : St}
theorem PostS.loop {x : C} {k : S → C} {Dn : Ends} {N : St → Hp → Prop} (P : PostS K B W th G H (x.loop k) Dn)
    (h : ∀ s' th' G' H' σ', Le th G H th' G' H' → Rep K B th' G' s' σ' H' → PostS K B W th' G' H' (k s') Dn → N σ' H') : PostS K B W th G H x { Dn with nx := N, ct := N, bk := Dn.nx } := by
  cases x with
  | nx s => exact fun th' G' H' σ' l R => h s th' G' H' σ' l R (PostS.later l P)
  | ct s => exact fun th' G' H' σ' l R => h s th' G' H' σ' l R (PostS.later l P)
  | _ => exact P
theorem for_core {J : It} {g : TG} {tb : TS} {mg : MG} {mb : MS} {l : List D} {Dn : Ends} (hg : SemG K B W g mg) (hok : GOk mg) (hb : SemS K B W tb mb) (rI : relI K Hs th0 G0 H0 l J) (le0 : Le th0 G0 H0 th G H) (R0 : Rep K B th G s σ H) (P0 : PostS K B W th G H (forL mg mb l s) Dn) :
    ∃ W : Nat → Nat → St → Hp → Prop, (∃ m, W 0 m σ H) ∧ ∀ i m σ H, W i m σ H →
      (J.stop i H ∧ Dn.nx σ H) ∨ (J.go i H ∧ ∃ N : St → Hp → Prop, (∀ σ' H', N σ' H' → ∃ m', m' < m ∧ W (i + 1) m' σ' H') ∧ ∀ x H', J.yld i H x H' → g x σ H' fun σ2 H2 => tb { Dn with nx := N, ct := N, bk := Dn.nx } σ2 H2) := by
  refine ⟨fun i m σ H => i ≤ l.length ∧ m = l.length - i ∧ ∃ th G s, Le th0 G0 H0 th G H ∧ Rep K B th G s σ H ∧ PostS K B W th G H (forL mg mb (l.drop i) s) Dn, ⟨l.length, Nat.zero_le _, rfl, th, G, s, le0, R0, P0⟩, ?_⟩
  rintro i m σ H ⟨hi, rfl, th, G, s, le, R, P⟩
  by_cases hlt : i < l.length
  · have hdr : l.drop i = l[i] :: l.drop (i + 1) := List.drop_eq_getElem_cons hlt
    rw [hdr] at P
    obtain ⟨_, hgo⟩ := rI th G H i le R.eG
    obtain ⟨go, hy⟩ := hgo l[i] (List.getElem?_eq_getElem hlt)
    refine .inr ⟨go, fun σ' H' => (i + 1) ≤ l.length ∧ ∃ th G s, Le th0 G0 H0 th G H' ∧ Rep K B th G s σ' H' ∧ PostS K B W th G H' (forL mg mb (l.drop (i + 1)) s) Dn, fun σ' H' q => ⟨l.length - (i + 1), by omega, q.1, rfl, q.2⟩, fun x H' y => ?_⟩
    obtain ⟨G2, hG, hx⟩ := hy x H' y
    have key : Le th G H th G2 H' ∧ Rep K B th G2 s σ H' := by
      rcases hG with ⟨rfl, rfl⟩ | ⟨p, o, hp, rfl, rfl⟩
      · exact ⟨Le.refl _ _ _, R⟩
      · exact ⟨Le.new hp R.eG, R.frz hp o⟩
    obtain ⟨l2, R2⟩ := key
    have P2 := PostS.later l2 P
    exact hg s th G2 σ H' l[i] x _ R2 hx (PostS.g P2 (hok _ _) fun s' th' G' H'' σ' l' R' P' => hb s' th' G' σ' H'' _ R' (PostS.loop P' fun s'' th'' G'' H3 σ'' l'' R'' P'' => ⟨hlt, th'', G'', s'', le.trans (l2.trans (l'.trans l'')), R'', P''⟩))
  · have e : i = l.length := by omega
    subst e
    rw [List.drop_length] at P
    exact .inl ⟨(rI th G H _ le R.eG).1 (Nat.le_refl _), P.nx0 R⟩
end
section
variable {X : Cx} {B : Bs} {W : WX} {e c tg : Expr} {pos : Pos} {body : List Stmt} {tb : TS} {mb : MS} {tt : TT} {mt : MT} {g : TG} {mg : MG} {wi : TI} {mi : MA}
theorem vs_for (hp : PassesOwn (model X.prog X.w) X.A X.env X.xe) (hc : X.calm = true) (hi : VI X B W tg e wi mi) (hg : VG X B W tg g mg) (hok : GOk mg) (hb : VSs X B W body tb mb) (hs : ∀ x, foldedSetIterable e X.env x = pure x := by intro _; rfl) :
    VS X B W (.For tg e body [] pos) (tFor wi g tb) (sFor mi mg mb) := ⟨ps_for hp hc hi.pi hg.pg hb.ps hs, fun s th G σ H Dn R P => hi.sem s th G σ H _ R (P.to fun l s' th' G' H' J l' R' r P' => for_core hg.sem hok hb.sem r (Le.refl _ _ _) R' P')⟩
theorem vs_while (n : Nat) (hp : PassesOwn (model X.prog X.w) X.A X.env X.xe) (hc : VT X B W c tt mt) (hb : VSs X B W body tb mb) : VS X B W (.While c body [] pos) (tWhile tt tb) (sWhile n mt mb) := ⟨ps_while hp hc.pt hb.ps, fun s th G σ H Dn R P => by
  refine ⟨fun m σ H => ∃ th G s, Rep X.K B th G s σ H ∧ PostS X.K B W th G H (whileN mt mb m s) Dn, ⟨n, th, G, s, R, P⟩, ?_⟩
  rintro m σ H ⟨th, G, s, R, P⟩
  cases m with
  | zero => exact P.elim
  | succ m =>
    refine hc.sem s th G σ H _ R (PostS.to P fun x s' th' G' H' v l' R' r P' => ?_)
    cases r
    cases x with
    | false => exact iteF (PostS.nx0 P' R')
    | true =>
      refine iteT ⟨fun σ' H' => ∃ th G s, Rep X.K B th G s σ' H' ∧ PostS X.K B W th G H' (whileN mt mb m s) Dn, fun σ' H' q => ⟨m, Nat.lt_succ_self _, q⟩, ?_⟩
      exact hb.sem s' th' G' σ H' _ R' (PostS.loop P' fun s'' th'' G'' H3 σ'' l'' R'' P'' => ⟨th'', G'', s'', R'', P''⟩)⟩
end
end VL
namespace VL
open PySem L2

/-! ### comprehensions -/
def wipeD (r : List (Option D)) : List Nat → List (Option D)
  | [] => r
  | v :: vs => (wipeD r vs).set v none
theorem wipeD_length (r : List (Option D)) : ∀ vs : List Nat, (wipeD r vs).length = r.length
  | [] => rfl
  | v :: vs => by unfold wipeD; rw [List.length_set, wipeD_length r vs]
theorem wipeD_some {r : List (Option D)} {i : Nat} {x : D} : ∀ {vs : List Nat}, (wipeD r vs)[i]? = some (some x) → r[i]? = some (some x) ∧ i ∉ vs
  | [], h => ⟨h, by simp⟩
  | v :: vs, h => by
    unfold wipeD at h
    by_cases hi : v = i
    · subst hi
      by_cases hv : v < (wipeD r vs).length
      · rw [List.getElem?_set_self hv] at h; cases h
      · rw [List.getElem?_eq_none (by simpa using hv)] at h; cases h
    · rw [List.getElem?_set_ne hi] at h
      obtain ⟨h1, h2⟩ := wipeD_some h
      exact ⟨h1, by simp only [List.mem_cons, not_or]; exact ⟨fun e => hi e.symm, h2⟩⟩
theorem wipe_in {σ : St} {i : Nat} : ∀ {vs : List Nat}, i ∈ vs → (wipe σ vs)[i]? = (σ[i]?).map fun _ => none
  | v :: vs, h => by
    unfold wipe
    by_cases hi : v = i
    · subst hi
      by_cases hv : v < σ.length
      · rw [List.getElem?_set_self (by rw [wipe_length]; exact hv), List.getElem?_eq_getElem hv]; rfl
      · have h0 : σ[v]? = none := List.getElem?_eq_none (by omega)
        rw [h0, List.getElem?_eq_none (by rw [List.length_set, wipe_length]; omega)]; rfl
    · rw [List.getElem?_set_ne hi]
      rcases List.mem_cons.mp h with e | h
      · exact absurd e.symm hi
      · exact wipe_in h
theorem wipe_set {σ : St} {i : Nat} {vs : List Nat} {x : Option V} (h : i ∈ vs) : wipe (σ.set i x) vs = wipe σ vs := by
  apply List.ext_getElem?
  intro j
  by_cases hj : j ∈ vs
  · rw [wipe_in hj, wipe_in hj]
    by_cases e : i = j
    · subst e
      by_cases hl : i < σ.length
      · rw [List.getElem?_set_self hl, List.getElem?_eq_getElem hl]; rfl
      · rw [List.getElem?_eq_none (by simpa using hl), List.getElem?_eq_none (by simpa using hl)]
    · rw [List.getElem?_set_ne e]
  · rw [wipe_out hj, wipe_out hj, List.getElem?_set_ne (fun e => hj (by rw [← e]; exact h))]
theorem wipe_wipe {σ : St} {vs : List Nat} : wipe (wipe σ vs) vs = wipe σ vs := by
  apply List.ext_getElem?
  intro j
  by_cases hj : j ∈ vs
  · rw [wipe_in hj, wipe_in hj]
    cases σ[j]? <;> rfl
  · rw [wipe_out hj]
/-- a target that stores within vs -/
def GIn (g : TG) (vs : List Nat) : Prop := ∀ x σ H Q, g x σ H Q → g x σ H fun σ2 H2 => Q σ2 H2 ∧ wipe σ2 vs = wipe σ vs
def GsIn (g : TGs) (vs : List Nat) : Prop := ∀ x σ H Q, g x σ H Q → g x σ H fun σ2 H2 => Q σ2 H2 ∧ wipe σ2 vs = wipe σ vs
theorem gin_name {i : Nat} {vs : List Nat} (h : i ∈ vs := by decide) : GIn (gName i) vs := fun x σ H Q q => ⟨q, wipe_set h⟩
theorem gin_nil {vs : List Nat} : GsIn gNil vs := fun x σ H Q q => ⟨q.1, q.2, rfl⟩
theorem gin_cons {g : TG} {gs : TGs} {vs : List Nat} (h : GIn g vs) (k : GsIn gs vs) (hm : ∀ x σ H (Q Q' : St → Hp → Prop), (∀ a b, Q a b → Q' a b) → g x σ H Q → g x σ H Q') (km : ∀ x σ H (Q Q' : St → Hp → Prop), (∀ a b, Q a b → Q' a b) → gs x σ H Q → gs x σ H Q') : GsIn (gCons g gs) vs := fun x σ H Q q => by
  obtain ⟨v, r, rfl, q⟩ := q
  refine ⟨v, r, rfl, hm _ _ _ _ _ (fun σ1 H1 ⟨q1, e1⟩ => km _ _ _ _ _ (fun σ2 H2 ⟨q2, e2⟩ => ⟨q2, e2.trans e1⟩) (k _ _ _ _ q1)) (h _ _ _ _ q)⟩
def GMono (g : TG) : Prop := ∀ x σ H (Q Q' : St → Hp → Prop), (∀ a b, Q a b → Q' a b) → g x σ H Q → g x σ H Q'
def GsMono (g : TGs) : Prop := ∀ x σ H (Q Q' : St → Hp → Prop), (∀ a b, Q a b → Q' a b) → g x σ H Q → g x σ H Q'
theorem gmono_name {i : Nat} : GMono (gName i) := fun x σ H Q Q' k q => k _ _ q
theorem gmono_nil : GsMono gNil := fun x σ H Q Q' k q => ⟨q.1, k _ _ q.2⟩
theorem gmono_cons {g : TG} {gs : TGs} (h : GMono g) (k : GsMono gs) : GsMono (gCons g gs) := fun x σ H Q Q' kk q => by
  obtain ⟨v, r, rfl, q⟩ := q
  exact ⟨v, r, rfl, h _ _ _ _ _ (fun _ _ q1 => k _ _ _ _ _ kk q1) q⟩
theorem gmono_tup {K : PySem.W.Frag} {n : Nat} {gs : TGs} (k : GsMono gs) : GMono (gTup K n gs) := fun x σ H Q Q' kk q => by
  obtain ⟨a, xs, rfl, q1, q2, q⟩ := q
  exact ⟨a, xs, rfl, q1, q2, k _ _ _ _ _ kk q⟩
theorem gin_tup {K : PySem.W.Frag} {n : Nat} {gs : TGs} {vs : List Nat} (k : GsIn gs vs) : GIn (gTup K n gs) vs := fun x σ H Q q => by
  obtain ⟨a, xs, rfl, q1, q2, q⟩ := q
  exact ⟨a, xs, rfl, q1, q2, k _ _ _ _ q⟩

def Wf : WX := fun _ _ _ _ => False
structure VTs (X : Cx) (B : Bs) (W : WX) (ifs : List Expr) (t : TT) (m : MT) : Prop where
  pt : PTs X ifs t
  sem : Sem X.K B W relT t m
def tYesM : MT := fun s => .ok (true, s)
def lcL (g : MG) (t : MT) (e : ME) (vs : List Nat) (r0 : List (Option D)) : List D → List D → S → R (List D × S)
  | [], acc, s => .ok (acc, s)
  | d :: l, acc, s => match g d { s with r := wipeD r0 vs } with
    | .nx s1 => match t s1 with
      | .ok (b, s2) => if b = true then match e s2 with
          | .ok (y, s3) => if acc.length < SZ then lcL g t e vs r0 l (acc ++ [y]) { s3 with r := r0 } else .no
          | _ => .no
        else lcL g t e vs r0 l acc { s2 with r := r0 }
      | _ => .no
    | _ => .no
def fLc (it : MA) (g : MG) (t : MT) (e : ME) (vs : List Nat) : MF := fun s => (it s).bind fun l s => (lcL g t e vs s.r l [] s).bind fun acc s => .ok (.lst acc, s)
section
variable {K : PySem.W.Frag} {B : Bs} {W : WX} {th th0 th1 : List Addr} {G H G0 H0 G1 H1 : Hp} {s s0 : S} {σ σ2 : St}
theorem Rep.wipe (R : Rep K B th G s σ H) (vs : List Nat) : Rep K B th G { s with r := wipeD s.r vs } (L2.wipe σ vs) H := R.slots (by rw [wipeD_length, wipe_length]; exact R.len) fun i d e => by
  obtain ⟨e1, e2⟩ := wipeD_some e
  rw [wipe_out e2]
  exact R.slot i d e1
theorem Rep.back (R : Rep K B th G s σ2 H) (R0 : Rep K B th0 G0 s0 σ H0) (l : Le th0 G0 H1 th G G1) : Rep K B th G { s with r := s0.r } σ H := R.slots R0.len fun i d e => by
  obtain ⟨v, h1, h2⟩ := R0.slot i d e
  exact ⟨v, h1, h2.mono l.pre l.ex⟩
theorem Le.aside {t t' : List Addr} {G G' H H' : Hp} (l : Le t G H t' G' H') {p : Addr} {o : HO} (hp : H p = none) : Le t G H t' G' (upd H' p o) := ⟨l.pre, l.ex, fun a u e g n => by
  have hne : a ≠ p := ne_none (some_ne e) hp
  rw [upd_ne hne]
  exact l.fr a u e g n⟩
theorem sem_lc {wi : TI} {g : TG} {tt : TT} {te : TE} {vs : List Nat} {mi : MA} {mg : MG} {mt : MT} {me : ME} (hi : Sem K B W (relI K) wi mi) (hg : SemG K B Wf g mg) (ht : Sem K B Wf relT tt mt) (he : Sem K B Wf (relE K) te me) (hin : GIn g vs) (hmono : GMono g) :
    Sem K B W (relF K) (tLc wi g tt te vs) (fLc mi mg mt me vs) := fun s th G σ H Q R P => by
  refine hi s th G σ H _ R (P.bind0 fun l s1 th1 G1 H1 J l1 R1 rI P1 => fun D hD => ?_)
  have hGD : G1 D = none := R1.gnone hD
  have hHD : H D = none := l1.none_back R1.eG R1.al hD
  have hTD : D ∉ th1 := R1.thne hD
  refine ⟨fun i m H' => i ≤ l.length ∧ m = l.length - i ∧ ∃ th' G' s' acc xs, Le th1 G1 H1 th' G' H' ∧ Rep K B th' G' s' σ H' ∧ s'.r = s1.r ∧ H' D = some (.lst xs) ∧ AtL K th' G' acc xs ∧ D ∉ th' ∧ G' D = none ∧
    Post K B W σ th G H (relF K) ((lcL mg mt me vs s1.r (l.drop i) acc s').bind fun acc s => .ok (.lst acc, s)) Q,
    ⟨l.length, Nat.zero_le _, rfl, th1, G1, s1, [], [], (Le.refl _ _ _).aside hD, R1.side (.lst []) hGD hTD (R1.tbnew hD), rfl, upd_same, rfl, hTD, hGD, P1⟩, ?_⟩
  rintro i m H2 ⟨hi, rfl, th2, G2, s2, acc, xs, l2, R2, hr, hx, hacc, hTD2, hGD2, P2⟩
  by_cases hlt : i < l.length
  · have hdr : l.drop i = l[i] :: l.drop (i + 1) := List.drop_eq_getElem_cons hlt
    rw [hdr] at P2
    obtain ⟨_, hgo⟩ := rI th2 G2 H2 i l2 R2.eG
    obtain ⟨go, hy⟩ := hgo l[i] (List.getElem?_eq_getElem hlt)
    refine .inr ⟨go, fun H' => (i + 1) ≤ l.length ∧ ∃ th' G' s' acc xs, Le th1 G1 H1 th' G' H' ∧ Rep K B th' G' s' σ H' ∧ s'.r = s1.r ∧ H' D = some (.lst xs) ∧ AtL K th' G' acc xs ∧ D ∉ th' ∧ G' D = none ∧
      Post K B W σ th G H (relF K) ((lcL mg mt me vs s1.r (l.drop (i + 1)) acc s').bind fun acc s => .ok (.lst acc, s)) Q, fun H' q => ⟨l.length - (i + 1), by omega, q.1, rfl, q.2⟩, fun x H3 y => ?_⟩
    obtain ⟨G3, hG, hxx⟩ := hy x H3 y
    have key : Le th2 G2 H2 th2 G3 H3 ∧ Rep K B th2 G3 s2 σ H3 := by
      rcases hG with ⟨rfl, rfl⟩ | ⟨p, o, hp, rfl, rfl⟩
      · exact ⟨Le.refl _ _ _, R2⟩
      · exact ⟨Le.new hp R2.eG, R2.frz hp o⟩
    obtain ⟨l3, R3⟩ := key
    -- what D keeps
    have keep : ∀ {th' G' H'}, Le th2 G2 H2 th' G' H' → H' D = some (.lst xs) ∧ D ∉ th' ∧ G' D = none := fun {th' G' H'} le => by
      obtain ⟨h1, h2, h3⟩ := le.fr D _ hx hGD2 hTD2
      exact ⟨h1, h3, h2⟩
    have R3w := R3.wipe vs
    rw [hr] at R3w
    simp only [lcL] at P2
    cases hmg : mg l[i] { s2 with r := wipeD s1.r vs } with
    | nx sA =>
      rw [hmg] at P2
      dsimp only at P2
      refine hmono _ _ _ _ _ ?_ (hin _ _ _ _ (hg _ th2 G3 _ H3 l[i] x (fun σ' H' => ∃ b c, Le th2 G3 H3 b c H' ∧ Rep K B b c sA σ' H') R3w hxx (by rw [hmg]; exact fun th' G' H' σ' le R => ⟨th', G', le, R⟩)))
      rintro σ4 H4 ⟨⟨th4, G4, l4, R4⟩, hw⟩
      rw [wipe_wipe] at hw
      refine ⟨hw, ht sA th4 G4 σ4 H4 _ R4 ?_⟩
      cases hmt : mt sA with
      | ok q =>
        obtain ⟨b, sB⟩ := q
        rw [hmt] at P2
        rintro th5 G5 H5 b' l5 R5 rfl
        dsimp only at P2
        cases b' with
        | false =>
          refine iteF ?_
          have le := l3.trans (l4.trans l5)
          obtain ⟨k1, k2, k3⟩ := keep le
          exact ⟨hlt, th5, G5, _, acc, xs, l2.trans le, R5.back R1 (l2.trans le), rfl, k1, hacc.mono le.pre le.ex, k2, k3, P2⟩
        | true =>
          refine iteT (he sB th5 G5 σ4 H5 _ R5 ?_)
          simp only [if_true] at P2
          cases hme : me sB with
          | ok q =>
            obtain ⟨y, sC⟩ := q
            rw [hme] at P2
            dsimp only at P2
            by_cases hz : acc.length < SZ
            · rw [if_pos hz] at P2
              intro th6 G6 H6 v l6 R6 hv
              have le := l3.trans (l4.trans (l5.trans l6))
              obtain ⟨k1, k2, k3⟩ := keep le
              have hacc' := hacc.mono le.pre le.ex
              refine ⟨xs, k1, by rw [hacc'.length, SZ_eq]; exact hz, hlt, th6, G6, { r := s1.r, m := sC.m }, acc ++ [y], xs ++ [v], ?_, ?_, rfl, upd_same, hacc'.append (.one hv), k2, k3, P2⟩
              · exact (l2.trans le).aside hD
              · exact (R6.back R1 (l2.trans le)).side _ k3 k2 (R6.tbne k1 fun _ z => nomatch z)
            · rw [if_neg hz] at P2; exact P2.elim
          | _ => rw [hme] at P2; exact P2.elim
      | _ => rw [hmt] at P2; exact P2.elim
    | _ => rw [hmg] at P2; exact P2.elim
  · have e : i = l.length := by omega
    subst e
    rw [List.drop_length] at P2
    refine .inl ⟨(rI th2 G2 H2 _ l2 R2.eG).1 (Nat.le_refl _), ?_⟩
    exact P2 th2 G2 H2 (.ref D) (l1.trans l2) R2 ⟨D, rfl, (fun z => nomatch z), ⟨hGD2, xs, hx, hacc⟩, hTD2, hHD⟩
end
section
variable {X : Cx} {B : Bs} {W : WX} {c : Expr} {tt : TT} {mt : MT}
theorem vts_nil : VTs X B W [] tYes tYesM := ⟨pts_nil, fun s th G σ H Q R P => Post.ok (rel := relT) P R rfl⟩
theorem vts_one (h : VT X B W c tt mt) : VTs X B W [c] tt mt := ⟨pts_one h.pt, h.sem⟩
variable {elt tg iter : Expr} {ifs : List Expr} {scope : Scope} {own : List (Str × Nat)} {pos : Pos} {wi : TI} {g : TG} {te : TE} {mi : MA} {mg : MG} {me : ME}
theorem vf_lc (hc : X.calm = true) (hN : X.N.Nodup) (hi : VI X B W tg iter wi mi) (ok : BlkOk X.N X.env.scope scope own)
    (hg : ∀ (s : Shared) (H : Hp) (C : Addr) (cl : List (Str × Addr)) (fp : List Addr), VG (X.blk s H scope (compEnvC scope cl C X.env) fp) B Wf tg g mg) (hin : GIn g (own.map (·.2))) (hmono : GMono g)
    (ht : ∀ (s : Shared) (H : Hp) (C : Addr) (cl : List (Str × Addr)) (fp : List Addr), VTs (X.blk s H scope (compEnvC scope cl C X.env) fp) B Wf ifs tt mt)
    (he : ∀ (s : Shared) (H : Hp) (C : Addr) (cl : List (Str × Addr)) (fp : List Addr), VE (X.blk s H scope (compEnvC scope cl C X.env) fp) B Wf elt te me) (s0 : Shared) (hs : ∀ x, foldedSetIterable iter X.env x = pure x := by intro _; rfl) :
    VF X B W (.ListComp elt [⟨tg, iter, ifs, 0⟩] scope pos) (tLc wi g tt te (own.map (·.2))) (fLc mi mg mt me (own.map (·.2))) :=
  ⟨pe_lc hc hN hi.pi ok (fun s H C cl fp => (hg s H C cl fp).pg) (fun s H C cl fp => (ht s H C cl fp).pt) (fun s H C cl fp => (he s H C cl fp).pe) hs,
    sem_lc hi.sem (hg s0 (fun _ => none) 0 [] []).sem (ht s0 (fun _ => none) 0 [] []).sem (he s0 (fun _ => none) 0 [] []).sem hin hmono⟩
end
end VL
namespace VL
open PySem L2

section
variable {K : PySem.W.Frag} {B : Bs} {W : WX} {α β γ δ : Type} {th th0 th1 : List Addr} {G H G0 H0 G1 H1 : Hp} {s s0 : S} {σ σ2 : St}
/-- .. behind a step aside -/
theorem Post.bind1 {rel : Rel α β} {rel3 : Rel γ δ} {x : R (α × S)} {k : α → S → R (γ × S)} {Q : δ → Hp → Prop} {Q2 : β → Hp → Prop} (le : Le th G H th1 G1 H1) (P : Post K B W σ th G H rel3 (x.bind k) Q)
    (h : ∀ a s' th' G' H' b, Le th1 G1 H1 th' G' H' → Rep K B th' G' s' σ H' → rel H1 th' G' H' a b → Post K B W σ th G H rel3 (k a s') Q → Q2 b H') : Post K B W σ th1 G1 H1 rel x Q2 := by
  cases x with
  | ok a => obtain ⟨a, s⟩ := a; exact fun th' G' H' b l R r => h a s th' G' H' b l R r P
  | ex e s => exact fun th' G' H' cls d l R r => P th' G' H' cls d (le.trans l) R r
  | no => exact P
theorem obAt_dct {a : Addr} {l : List (Key × D)} {kvs : List (Key × V)} (hg : G a = none) (h : H a = some (.dK kvs)) (r : AtK K th G l kvs) : ObAt K th G H a (.dct l) := ⟨hg, kvs, h, r.1, r.2⟩
theorem Rep.asideNew (R : Rep K B th G s σ H) {p : Addr} (o : HO) (hp : H p = none) : Rep K B th G s σ (upd H p o) := R.side o (R.gnone hp) (R.thne hp) (R.tbnew hp)
end
/-! ### new dicts -/
def fDctN : MF := fun s => .ok (.dct [], s)
def fDct1 (k v : ME) : MF := fun s => (k s).bind fun x s => (v s).bind fun y s => match keyOf x with
  | some k => .ok (.dct [(k, y)], s)
  | none => .no
section
variable {X : Cx} {B : Bs} {W : WX} {e k v o i a tg : Expr} {te tk tv to ti : TE} {ta : TA} {m mk mv mo mi : ME} {ma : MA} {p pos tpos apos cpos : Pos}
theorem vf_dctN : VF X B W (.Dict [] [] pos) tDNewK fDctN := ⟨pe_dnewK, fun s th G σ H Q R P p hp => by
  exact P th G _ _ ((Le.refl th G H).aside hp) (R.asideNew _ hp) ⟨p, rfl, (fun z => nomatch z), obAt_dct (R.gnone hp) upd_same .nil, R.thne hp, hp⟩⟩
theorem vf_dct1 (hk : VE X B W k tk mk) (hv : VE X B W v tv mv) : VF X B W (.Dict [some k] [v] pos) (tDisp [(tk, tv)]) (fDct1 mk mv) := ⟨pe_disp (pps_cons hk.pe hv.pe pps_nil) rfl rfl (by simp) (by simp), fun s th G σ H Q R P p hp => by
  have hle : Le th G H th G (upd H p (.dK [])) := (Le.refl th G H).aside hp
  refine hk.sem s th G σ _ _ (R.asideNew _ hp) (Post.bind1 hle P fun x s1 th1 G1 H1 vx l1 R1 r1 P1 => hv.sem s1 th1 G1 σ H1 _ R1 (Post.bind1 (hle.trans l1) P1 fun y s2 th2 G2 H2 vy l2 R2 r2 P2 => ?_))
  have l12 := l1.trans l2
  obtain ⟨k1, k2, k3⟩ := l12.fr p _ upd_same (R.gnone hp) (R.thne hp)
  have k1 : H2 p = some (.dK []) := k1
  cases e : keyOf x with
  | none => rw [e] at P2; exact P2.elim
  | some kk =>
    rw [e] at P2
    cases key_at r1 e
    refine ⟨k1, [(kk, vy)], rfl, by simp, ?_⟩
    refine P2 th2 G2 _ _ ((hle.trans l12).aside hp) (R2.side _ k2 k3 (R2.tbne k1 fun _ z => nomatch z)) ⟨p, rfl, (fun z => nomatch z), obAt_dct k2 upd_same ?_, k3, hp⟩
    exact .cons r2 .nil⟩
end

/-! ### o[i] = .. -/
def fSet (o i d : D) (s : S) : C := match o with
  | .loc n => match s.m[n]? with
    | some (.lst l) => match i with
      | .int k => match ixN l.length k with
        | some j => .nx { s with m := s.m.set n (.lst (l.set j d)) }
        | none => .no
      | _ => .no
    | some (.dct l) => match keyOf i with
      | some k => if l.length < SZ then .nx { s with m := s.m.set n (.dct (putD l k d)) } else .no
      | none => .no
    | _ => .no
  | _ => .no
def gSet (mo mi : ME) : MG := fun d s => match mo s with
  | .ok (o, s) => match mi s with
    | .ok (i, s) => fSet o i d s
    | _ => .no
  | _ => .no
def rSet : TSet := fun o i v H Q => rSetL o i v H Q ∨ rSetD o i v H Q
section
variable {K : PySem.W.Frag} {B : Bs} {W : WX} {th : List Addr} {G H : Hp} {s : S} {σ : St}
theorem PSet.or {X : Cx} {t u : TSet} (h : PSet X t) (k : PSet X u) : PSet X (fun o i v H Q => t o i v H Q ∨ u o i v H Q) := fun pins s σ H o i v ov iv u Q I ro ri rv hw => by
  rcases hw with hw | hw
  · exact h pins s σ H o i v ov iv u Q I ro ri rv hw
  · exact k pins s σ H o i v ov iv u Q I ro ri rv hw
theorem Rep.putLst (R : Rep K B th G s σ H) {n : Nat} {a : Addr} {l l' : List D} {vs vs' : List V} (hm : s.m[n]? = some (.lst l)) (ha : th[n]? = some a) (hq : H a = some (.lst vs)) (r : AtL K th G l' vs') : Rep K B th G { s with m := s.m.set n (.lst l') } σ (upd H a (.lst vs')) := by
  obtain ⟨g, _, _, _⟩ := R.st n _ a hm ha
  exact R.put ha g ⟨g, vs', upd_same, r⟩ (R.tbne hq fun _ z => nomatch z)
theorem Rep.putDct (R : Rep K B th G s σ H) {n : Nat} {a : Addr} {l l' : List (Key × D)} {vs vs' : List (Key × V)} (hm : s.m[n]? = some (.dct l)) (ha : th[n]? = some a) (hq : H a = some (.dK vs)) (r : AtK K th G l' vs') : Rep K B th G { s with m := s.m.set n (.dct l') } σ (upd H a (.dK vs')) := by
  obtain ⟨g, _, _, _⟩ := R.st n _ a hm ha
  exact R.put ha g (obAt_dct g upd_same r) (R.tbne hq fun _ z => nomatch z)
theorem fset_nx {o i d : D} {s : S} : (∃ s', fSet o i d s = .nx s') ∨ fSet o i d s = .no := by
  unfold fSet
  cases o with
  | loc n =>
    dsimp only
    cases s.m[n]? with
    | none => exact .inr rfl
    | some ob =>
      cases ob with
      | lst l =>
        cases i with
        | int k =>
          dsimp only
          cases ixN l.length k with
          | none => exact .inr rfl
          | some j => exact .inl ⟨_, rfl⟩
        | _ => exact .inr rfl
      | dct l =>
        dsimp only
        cases keyOf i with
        | none => exact .inr rfl
        | some k =>
          dsimp only
          split
          · exact .inl ⟨_, rfl⟩
          · exact .inr rfl
      | _ => exact .inr rfl
  | _ => exact .inr rfl
theorem gset_ok {mo mi : ME} : GOk (gSet mo mi) := fun d s => by
  unfold gSet
  split
  · split
    · exact fset_nx
    · exact .inr rfl
  · exact .inr rfl
theorem sem_set (R : Rep K B th G s σ H) {o i d : D} {vo vi vd : V} {Q : Hp → Prop} (ho : At K th G o vo) (hi : At K th G i vi) (hd : At K th G d vd) (P : ∀ s' H', fSet o i d s = .nx s' → Le th G H th G H' → Rep K B th G s' σ H' → Q H') (hn : fSet o i d s ≠ .no) : rSet vo vi vd H Q := by
  unfold fSet at P hn
  cases o with
  | loc n =>
    dsimp only at P hn
    obtain ⟨a, ha, rfl⟩ := ho
    cases hm : s.m[n]? with
    | none => rw [hm] at hn; exact absurd rfl hn
    | some ob =>
      rw [hm] at P hn
      cases ob with
      | lst l =>
        cases i with
        | int k =>
          dsimp only at P hn
          cases hj : ixN l.length k with
          | none => rw [hj] at hn; exact absurd rfl hn
          | some j =>
            rw [hj] at P
            cases hi
            obtain ⟨g, vs, q, r⟩ := R.st n _ a hm ha
            exact .inl ⟨a, vs, k, j, rfl, rfl, q, by rw [r.length]; exact hj, P _ _ rfl (Le.put ha) (R.putLst hm ha q (r.set j hd))⟩
        | _ => exact absurd rfl hn
      | dct l =>
        dsimp only at P hn
        cases hk : keyOf i with
        | none => rw [hk] at hn; exact absurd rfl hn
        | some k =>
          rw [hk] at P hn
          dsimp only at P hn
          by_cases hz : l.length < SZ
          · rw [if_pos hz] at P
            cases key_at hi hk
            obtain ⟨g, vs, q, r1, r2⟩ := R.st n _ a hm ha
            have r : AtK K th G l vs := ⟨r1, r2⟩
            exact .inr ⟨a, _, rfl, .inl ⟨vs, k, q, rfl, by rw [r.length, SZ_eq]; exact hz, rfl⟩, P _ _ rfl (Le.put ha) (R.putDct hm ha q (r.put hd))⟩
          · rw [if_neg hz] at hn; exact absurd rfl hn
      | _ => exact absurd rfl hn
  | _ => exact absurd rfl hn
end
section
variable {X : Cx} {B : Bs} {W : WX} {e k v o i a tg f : Expr} {te tk tv to ti tf : TE} {ta : TA} {m mk mv mo mi mf : ME} {ma : MA} {p pos tpos apos cpos : Pos}
theorem vg_set (hu : X.A.units + 1 < cLine) (ho : VE X B W o to mo) (hi : VE X B W i ti mi) (ha : ∀ v, assign (.Subscript o i pos) X.env v = (do
      let ov ← holding [v] (eval o X.env)
      let iv ← holding [v, ov] (eval i X.env)
      standAt pos
      holding [v, ov, iv] (setItem ov iv v)
      release [v, ov, iv] []) := by intro _; rfl) : VG X B W (.Subscript o i pos) (gSub to ti rSet) (gSet mo mi) := ⟨pg_sub ho.pe hi.pe (PSet.or set_list (set_dict hu)) ha, fun s th G σ H d v Q R r P => by
  unfold gSet at P
  refine ho.sem s th G σ H _ R ?_
  cases ho1 : mo s with
  | ok q =>
    obtain ⟨o', s1⟩ := q
    rw [ho1] at P
    intro th1 G1 H1 vo l1 R1 r1
    dsimp only at P
    refine hi.sem s1 th1 G1 σ H1 _ R1 ?_
    cases hi1 : mi s1 with
    | ok q =>
      obtain ⟨i', s2⟩ := q
      rw [hi1] at P
      intro th2 G2 H2 vi l2 R2 r2
      dsimp only at P
      have l12 := l1.trans l2
      refine sem_set R2 (r1.mono l2.pre l2.ex) r2 (r.mono l12.pre l12.ex) (fun s' H' e le R' => ?_) (fun z => by rw [z] at P; exact P.elim)
      rw [e] at P
      exact P th2 G2 H' σ (l12.trans le) R'
    | _ => rw [hi1] at P; exact P.elim
  | _ => rw [ho1] at P; exact P.elim⟩

/-! ### d.get -/
def fGet2 (d k x : D) (s : S) : R (D × S) := match dctOf s d, keyOf k with
  | some l, some k => .ok ((valD l k).getD x, s)
  | _, _ => .no
def isDct (s : S) (d : D) : Bool := (dctOf s d).isSome
def eGet2 (mo mi mf : ME) : ME := fun s => (mo s).bind fun d s => if isDct s d = true then (mi s).bind fun k s => (mf s).bind fun x s => fGet2 d k x s else .no
def eGet1 (mo mi : ME) : ME := fun s => (mo s).bind fun d s => if isDct s d = true then (mi s).bind fun k s => fGet2 d k .non s else .no
theorem sem_get {K : PySem.W.Frag} {th : List Addr} {G H : Hp} {s : S} {σ : St} {d k x : D} {vd vk vx : V} {Q : VK} (R : Rep K B th G s σ H) (h : At K th G d vd) (hk : At K th G k vk) (hx : At K th G x vx) (P : Post K B W σ th G H (relE K) (fGet2 d k x s) Q) : ∃ a o, vd = .ref a ∧ DGet H a vk o ∧ Q (o.getD vx) H := by
  unfold fGet2 at P
  cases hd : dctOf s d with
  | none => rw [hd] at P; exact P.elim
  | some l =>
    cases hkk : keyOf k with
    | none => rw [hd, hkk] at P; exact P.elim
    | some kk =>
      rw [hd, hkk] at P
      dsimp only at P
      obtain ⟨a, kvs, rfl, q, r⟩ := R.dct_of h hd
      cases key_at hk hkk
      refine ⟨a, _, rfl, .inl ⟨kvs, kk, q, rfl, rfl⟩, Post.ok (rel := relE K) P R ?_⟩
      have := r.val kk
      cases hv : valD l kk with
      | none => rw [hv] at this; rw [this]; exact hx
      | some z => rw [hv] at this; obtain ⟨v, e, q⟩ := this; rw [e]; exact q
theorem isD_of {K : PySem.W.Frag} {th : List Addr} {G H : Hp} {s : S} {σ : St} {d : D} {vd : V} (R : Rep K B th G s σ H) (h : At K th G d vd) (hi : isDct s d = true) : ∃ a, vd = .ref a ∧ IsD H a := by
  unfold isDct at hi
  cases hd : dctOf s d with
  | none => rw [hd] at hi; cases hi
  | some l =>
    obtain ⟨a, kvs, rfl, q, r⟩ := R.dct_of h hd
    exact ⟨a, rfl, .inl ⟨kvs, q⟩⟩
theorem ve_get2 (hu : X.A.units + 1 < cLine) (ho : VE X B W o to mo) (hi : VE X B W i ti mi) (hf : VE X B W f tf mf) (m : M2 X o "get" apos i f cpos) : VE X B W (.Call (.Attribute o "get" apos) [i, f] [] cpos) (tDGet2 to ti tf) (eGet2 mo mi mf) :=
  ⟨pe_dget2 hu ho.pe hi.pe hf.pe m, fun s th G σ H Q R P => ho.sem s th G σ H _ R (P.bind fun d s1 th1 G1 H1 vd l1 R1 r1 P1 => by
    split at P1
    · rename_i hd
      obtain ⟨a, rfl, q⟩ := isD_of R1 r1 hd
      refine ⟨a, rfl, q, hi.sem s1 th1 G1 σ H1 _ R1 (P1.bind fun k s2 th2 G2 H2 vk l2 R2 r2 P2 => hf.sem s2 th2 G2 σ H2 _ R2 (P2.bind fun x s3 th3 G3 H3 vx l3 R3 r3 P3 => ?_))⟩
      have l23 := l2.trans l3
      obtain ⟨a', o, e, g, q⟩ := sem_get R3 (r1.mono l23.pre l23.ex) (r2.mono l3.pre l3.ex) r3 P3
      cases e
      exact ⟨o, g, q⟩
    · exact P1.elim)⟩
theorem ve_get1 (hu : X.A.units + 1 < cLine) (ho : VE X B W o to mo) (hi : VE X B W i ti mi) (m : M1 X o "get" apos i cpos) : VE X B W (.Call (.Attribute o "get" apos) [i] [] cpos) (tDGet1 to ti) (eGet1 mo mi) :=
  ⟨pe_dget1 hu ho.pe hi.pe m, fun s th G σ H Q R P => ho.sem s th G σ H _ R (P.bind fun d s1 th1 G1 H1 vd l1 R1 r1 P1 => by
    split at P1
    · rename_i hd
      obtain ⟨a, rfl, q⟩ := isD_of R1 r1 hd
      refine ⟨a, rfl, q, hi.sem s1 th1 G1 σ H1 _ R1 (P1.bind fun k s2 th2 G2 H2 vk l2 R2 r2 P2 => ?_)⟩
      obtain ⟨a', o, e, g, q⟩ := sem_get (x := .non) (vx := V.non) R2 (r1.mono l2.pre l2.ex) r2 (show V.non = V.non from rfl) P2
      cases e
      exact ⟨o, g, q⟩
    · exact P1.elim)⟩

/-! ### methods of an own list -/
def eLM (f : List D → List D → Option (D × List D)) (mo : ME) (ma : MA) : ME := fun s => (mo s).bind fun d s => match d with
  | .loc n => match s.m[n]? with
    | some (.lst _) => (ma s).bind fun as s => match s.m[n]? with
      | some (.lst l) => match f l as with
        | some (y, l') => .ok (y, { s with m := s.m.set n (.lst l') })
        | none => .no
      | _ => .no
    | _ => .no
  | _ => .no
def SemLM (K : PySem.W.Frag) (r : V → List V → Hp → VK → Prop) (f : List D → List D → Option (D × List D)) : Prop :=
  ∀ th G H a l as vs xs y l' (Q : VK), H a = some (.lst vs) → AtL K th G l vs → AtL K th G as xs → f l as = some (y, l') → (∀ v vs', At K th G y v → AtL K th G l' vs' → Q v (upd H a (.lst vs'))) → r (.ref a) xs H Q
theorem sem_lm {r : V → List V → Hp → VK → Prop} {f : List D → List D → Option (D × List D)} (hr : SemLM X.K r f) (ho : Sem X.K B W (relE X.K) to mo) (ha : Sem X.K B W (relA X.K) ta ma) : Sem X.K B W (relE X.K) (tBM X.K "list" r to ta) (eLM f mo ma) := fun s th G σ H Q R P =>
  ho s th G σ H _ R (P.bind fun d s1 th1 G1 H1 vd l1 R1 r1 P1 => by
    split at P1
    · rename_i n
      obtain ⟨a, hn, rfl⟩ := r1
      split at P1
      · rename_i l0 hm
        obtain ⟨_, vs0, q0, _⟩ := R1.st n _ a hm hn
        refine ⟨.inl ⟨rfl, vs0, .inl (.inl q0)⟩, ha s1 th1 G1 σ H1 _ R1 (P1.bind fun as s2 th2 G2 H2 xs l2 R2 r2 P2 => ?_)⟩
        split at P2
        · rename_i l hm2
          have hn2 := pre_get l2.pre hn
          obtain ⟨_, vs, q, rr⟩ := R2.st n _ a hm2 hn2
          cases hf : f l as with
          | none => rw [hf] at P2; exact P2.elim
          | some z =>
            obtain ⟨y, l'⟩ := z
            rw [hf] at P2
            exact hr th2 G2 H2 a l as vs xs y l' Q q rr r2 hf fun v vs' hv hvs => P2 th2 G2 _ v (Le.put hn2) (R2.putLst hm2 hn2 q hvs) hv
        · exact P2.elim
      · exact P1.elim
    · exact P1.elim)
def lmApp (l as : List D) : Option (D × List D) := match as with
  | [y] => if l.length < SZ then some (.non, l ++ [y]) else none
  | _ => none
def lmPop (l as : List D) : Option (D × List D) := match as with
  | [] => match l[l.length - 1]? with
    | some y => some (y, l.dropLast)
    | none => none
  | _ => none
def lmPopAt (l as : List D) : Option (D × List D) := match as with
  | [.int i] => if l.length ≤ SZ then match ixN l.length i with
      | some k => match l[k]? with
        | some y => some (y, l.eraseIdx k)
        | none => none
      | none => none
    else none
  | _ => none
def lmIns (l as : List D) : Option (D × List D) := match as with
  | [.int i, y] => if l.length < SZ ∧ 0 ≤ i ∧ i < 2 ^ 63 then some (.non, l.take i.toNat ++ [y] ++ l.drop i.toNat) else none
  | _ => none
theorem AtL.dropLast {K : PySem.W.Frag} {th : List Addr} {G : Hp} {l : List D} {vs : List V} (h : AtL K th G l vs) : AtL K th G l.dropLast vs.dropLast := by
  rw [List.dropLast_eq_take, List.dropLast_eq_take, h.length]
  exact h.take _
theorem semlm_app {K : PySem.W.Frag} : SemLM K rAppend lmApp := fun th G H a l as vs xs y l' Q q rl ra hf k => by
  unfold lmApp at hf
  split at hf
  · rename_i z
    split at hf
    · rename_i hz
      cases hf
      obtain ⟨v, rfl, hv⟩ := ra.one_of
      exact ⟨a, vs, v, rfl, rfl, q, by rw [rl.length, SZ_eq]; exact hz, k .non _ rfl (rl.append (.one hv))⟩
    · cases hf
  · cases hf
theorem semlm_pop {K : PySem.W.Frag} : SemLM K rPop lmPop := fun th G H a l as vs xs y l' Q q rl ra hf k => by
  unfold lmPop at hf
  split at hf
  · cases hy : l[l.length - 1]? with
    | none => rw [hy] at hf; cases hf
    | some z =>
      rw [hy] at hf
      cases hf
      cases ra
      obtain ⟨v, h1, h2⟩ := rl.get hy
      exact ⟨a, vs, v, rfl, rfl, q, by rw [rl.length]; exact h1, k _ _ h2 rl.dropLast⟩
  · cases hf
theorem semlm_popAt {K : PySem.W.Frag} : SemLM K rPopAt lmPopAt := fun th G H a l as vs xs y l' Q q rl ra hf k => by
  unfold lmPopAt at hf
  split at hf
  · rename_i i
    split at hf
    · rename_i hz
      cases hi : ixN l.length i with
      | none => rw [hi] at hf; cases hf
      | some j =>
        rw [hi] at hf
        dsimp only at hf
        cases hy : l[j]? with
        | none => rw [hy] at hf; cases hf
        | some z =>
          rw [hy] at hf
          cases hf
          obtain ⟨v, rfl, hv⟩ := ra.one_of
          cases hv
          obtain ⟨w, h1, h2⟩ := rl.get hy
          obtain ⟨e1, e2, e3, e4⟩ := ixN_seq hi
          have hz' : l.length ≤ 16777216 := hz
          exact ⟨a, vs, i, j, w, rfl, rfl, q, by omega, by omega, by rw [rl.length]; exact e1, h1, k _ _ h2 (rl.eraseIdx j)⟩
    · cases hf
  · cases hf
def rInsL : V → List V → Hp → VK → Prop := fun x vs H Q => ∃ (l : Addr) (xs : List V) (i : Int) (y : V), x = .ref l ∧ vs = [.int i, y] ∧ H l = some (.lst xs) ∧ xs.length < sizeLine ∧ 0 ≤ i ∧ i < 2 ^ 63 ∧
    Q .non (upd H l (.lst (xs.take i.toNat ++ [y] ++ xs.drop i.toNat)))
theorem semlm_ins {K : PySem.W.Frag} : SemLM K rInsL lmIns := fun th G H a l as vs xs y l' Q q rl ra hf k => by
  unfold lmIns at hf
  split at hf
  · rename_i i z
    split at hf
    · rename_i hz
      cases hf
      obtain ⟨v, w, rfl, hv, hw⟩ := two_at ra
      cases hv
      exact ⟨a, vs, i, w, rfl, rfl, q, by rw [rl.length, SZ_eq]; exact hz.1, hz.2.1, hz.2.2, k .non _ rfl (((rl.take _).append (.one hw)).append (rl.drop _))⟩
    · cases hf
  · cases hf
theorem ve_append (ho : VE X B W o to mo) (ha : VA X B W [a] ta ma) (hbase : attributeBase o "append" X.env (eval o X.env) = eval o X.env := by rfl)
    (hfew : ((backTo cpos (starEach [a] X.env)).all (fun x => !x.1) && (backToKw cpos (keywordEach [] X.env)).all (fun x => x.1.isSome)
      && decide (([a] : List Expr).length + ([] : List Keyword).length + (if ([] : List Keyword).isEmpty then 0 else 1) < 30)) = true := by rfl)
    (hline : (apos.endLine == cpos.line) = true := by rfl) (hs : starEach [a] X.env = (false, eval a X.env) :: starEach [] X.env := by rfl) :
    VE X B W (.Call (.Attribute o "append" apos) [a] [] cpos) (tBM X.K "list" rAppend to ta) (eLM lmApp mo ma) := ⟨pe_bm F.plainAttrs_list F.slot_list_append F.type_list_append mt_append ho.pe ha.pa hbase hfew hline hs rfl, sem_lm semlm_app ho.sem ha.sem⟩
theorem ve_popAt (ho : VE X B W o to mo) (ha : VA X B W [a] ta ma) (hbase : attributeBase o "pop" X.env (eval o X.env) = eval o X.env := by rfl)
    (hfew : ((backTo cpos (starEach [a] X.env)).all (fun x => !x.1) && (backToKw cpos (keywordEach [] X.env)).all (fun x => x.1.isSome)
      && decide (([a] : List Expr).length + ([] : List Keyword).length + (if ([] : List Keyword).isEmpty then 0 else 1) < 30)) = true := by rfl)
    (hline : (apos.endLine == cpos.line) = true := by rfl) (hs : starEach [a] X.env = (false, eval a X.env) :: starEach [] X.env := by rfl) :
    VE X B W (.Call (.Attribute o "pop" apos) [a] [] cpos) (tBM X.K "list" rPopAt to ta) (eLM lmPopAt mo ma) := ⟨pe_bm F.plainAttrs_list F.slot_list_pop F.type_list_pop mt_popAt ho.pe ha.pa hbase hfew hline hs rfl, sem_lm semlm_popAt ho.sem ha.sem⟩
theorem ve_insert {b : Expr} (ho : VE X B W o to mo) (ha : VA X B W [a, b] ta ma) (hbase : attributeBase o "insert" X.env (eval o X.env) = eval o X.env := by rfl)
    (hfew : ((backTo cpos (starEach [a, b] X.env)).all (fun x => !x.1) && (backToKw cpos (keywordEach [] X.env)).all (fun x => x.1.isSome)
      && decide (([a, b] : List Expr).length + ([] : List Keyword).length + (if ([] : List Keyword).isEmpty then 0 else 1) < 30)) = true := by rfl)
    (hline : (apos.endLine == cpos.line) = true := by rfl) (hs : starEach [a, b] X.env = (false, eval a X.env) :: starEach [b] X.env := by rfl) (hpl : (backTo cpos (starEach [b] X.env)).any (·.1) = false := by rfl) :
    VE X B W (.Call (.Attribute o "insert" apos) [a, b] [] cpos) (tBM X.K "list" rInsL to ta) (eLM lmIns mo ma) := ⟨pe_bm F.plainAttrs_list F.slot_list_insert F.type_list_insert mt_insert ho.pe ha.pa hbase hfew hline hs hpl, sem_lm semlm_ins ho.sem ha.sem⟩

theorem sem_lm0 {r : V → List V → Hp → VK → Prop} {f : List D → List D → Option (D × List D)} (hr : SemLM X.K r f) (ho : Sem X.K B W (relE X.K) to mo) : Sem X.K B W (relE X.K) (tBM0 X.K "list" r to) (eLM f mo aNil) := fun s th G σ H Q R P =>
  sem_lm (ta := tNil) hr ho (va_nil (X := X) (B := B) (W := W)).sem s th G σ H Q R P
theorem ve_pop (ho : VE X B W o to mo) (hbase : attributeBase o "pop" X.env (eval o X.env) = eval o X.env := by rfl) (hline : (apos.endLine == cpos.line) = true := by rfl) :
    VE X B W (.Call (.Attribute o "pop" apos) [] [] cpos) (tBM0 X.K "list" rPop to) (eLM lmPop mo aNil) := ⟨pe_bm0 F.plainAttrs_list F.slot_list_pop F.type_list_pop mt_pop ho.pe hbase hline, sem_lm0 semlm_pop ho.sem⟩

/-! ### del d[k] -/
def sDelM (mo mi : ME) : MS := fun s => (mo s).to fun d s => (mi s).to fun k s => match d with
  | .loc n => match s.m[n]?, keyOf k with
    | some (.dct l), some k => if (valD l k).isSome then .nx { s with m := s.m.set n (.dct (dropD l k)) } else .no
    | _, _ => .no
  | _ => .no
theorem vs_ddel (ho : VE X B W o to mo) (hi : VE X B W i ti mi) : VS X B W (.Delete [.Subscript o i tpos] pos) (sDDel to ti) (sDelM mo mi) := ⟨ps_ddel ho.pe hi.pe, fun s th G σ H Dn R P =>
  ho.sem s th G σ H _ R (P.to fun d s1 th1 G1 H1 vd l1 R1 r1 P1 => hi.sem s1 th1 G1 σ H1 _ R1 (P1.to fun k s2 th2 G2 H2 vk l2 R2 r2 P2 => by
    split at P2
    · rename_i n
      obtain ⟨a, hn, rfl⟩ := r1
      have hn2 := pre_get l2.pre hn
      split at P2
      · rename_i l kk hm hk
        split at P2
        · rename_i hv
          obtain ⟨g, kvs, q, rr1, rr2⟩ := R2.st n _ a hm hn2
          have rr : AtK X.K th2 G2 l kvs := ⟨rr1, rr2⟩
          cases key_at r2 hk
          refine ⟨a, kvs, kk, rfl, q, rfl, ?_, P2 th2 G2 _ σ (Le.put hn2) (R2.putDct hm hn2 q rr.drop)⟩
          have := rr.val kk
          cases e : valD l kk with
          | none => rw [e] at hv; cases hv
          | some z => rw [e] at this; obtain ⟨v, e', _⟩ := this; rw [e']; rfl
        · exact P2.elim
      · exact P2.elim
    · exact P2.elim))⟩
end
end VL
namespace VL
open PySem L2

/-! ### a walk over a dict of data -/
def kD : Key → D
  | .inl i => .int i
  | .inr x => .str x.cps.toList
def dItems (ks : List Key) (l : List D) : List D := pairs (ks.map kD) l
def dKeys (ks : List Key) (_ : List D) : List D := ks.map kD
def sForD (w : List Key → List D → List D) (i : Nat) (g : MG) (b : MS) : MS := fun s => (eTake i s).to fun d s => match d with
  | .dct ks l => forL g b (w ks l) s
  | _ => .no
structure Swp (G G' : Hp) : Prop where
  d : ∀ a kvs, Rd G a (.dK kvs) → Rd G' a (.dK kvs)
  l : ∀ a xs, G a = some (.lst xs) → G' a = some (.lst xs)
  rl : ∀ a xs, Rd G a (.lst xs) → Rd G' a (.lst xs)
  t : ∀ a xs, Rd G a (.tup xs) → Rd G' a (.tup xs)
  x : ∀ a fs, G a = some (.xd fs) → G' a = some (.xd fs)
section
variable {K : PySem.W.Frag} {B : Bs} {W : WX} {th th0 th1 : List Addr} {G G' H G0 H0 G1 H1 : Hp} {s s0 : S} {σ σ2 : St}
mutual
theorem At.swap (e : Swp G G') : ∀ {d : D} {v : V}, At K th G d v → At K th G' d v
  | .non, _, h => h
  | .bl _, _, h => h
  | .int _, _, h => h
  | .str _, _, h => h
  | .tup _, _, h => by obtain ⟨a, vs, e1, q, r⟩ := h; exact ⟨a, vs, e1, q.imp (e.t _ _) id, AtL.swap e r⟩
  | .lst _, _, h => by obtain ⟨a, vs, e1, q, r⟩ := h; exact ⟨a, vs, e1, e.l _ _ q, AtL.swap e r⟩
  | .dct _ _, _, h => by obtain ⟨a, vs, e1, q, z, r⟩ := h; exact ⟨a, vs, e1, e.d _ _ q, z, AtL.swap e r⟩
  | .scr _, _, h => by obtain ⟨a, e1, q⟩ := h; exact ⟨a, e1, q.imp (e.rl _ _) id⟩
  | .loc _, _, h => h
  | .obj _, _, h => h
  | .exn _ _ _ _, _, h => by obtain ⟨e1, vs, q, z, n, r⟩ := h; exact ⟨e1, vs, AtL.swap e q, z, n, fun dd hd => e.x _ _ (r dd hd)⟩
theorem AtL.swap (e : Swp G G') : ∀ {l : List D} {vs : List V}, AtL K th G l vs → AtL K th G' l vs
  | [], _, h => h
  | _ :: _, _, h => by obtain ⟨v, r, e1, q, z⟩ := h; exact ⟨v, r, e1, At.swap e q, AtL.swap e z⟩
end
theorem swp_lock {a : Addr} {kvs : List (Key × V)} {od : Obj} (h : G a = some (.dK kvs)) : Swp G (upd G a (.frz od (.dK kvs))) where
  d := fun b ks r => by
    by_cases hb : b = a
    · subst hb
      rcases r with r | ⟨o, r⟩
      · rw [h] at r; cases r; exact .inr ⟨od, upd_same⟩
      · rw [h] at r; cases r
    · rcases r with r | ⟨o, r⟩
      · exact .inl (by rw [upd_ne hb]; exact r)
      · exact .inr ⟨o, by rw [upd_ne hb]; exact r⟩
  l := fun b xs r => by
    have hb : b ≠ a := fun z => by rw [z, h] at r; cases r
    rw [upd_ne hb]; exact r
  rl := fun b xs r => by
    have hb : b ≠ a := fun z => by
      rcases r with r | ⟨o, r⟩ <;> (rw [z, h] at r; cases r)
    rcases r with r | ⟨o, r⟩
    · exact .inl (by rw [upd_ne hb]; exact r)
    · exact .inr ⟨o, by rw [upd_ne hb]; exact r⟩
  t := fun b xs r => by
    have hb : b ≠ a := fun z => by
      rcases r with r | ⟨o, r⟩ <;> (rw [z, h] at r; cases r)
    rcases r with r | ⟨o, r⟩
    · exact .inl (by rw [upd_ne hb]; exact r)
    · exact .inr ⟨o, by rw [upd_ne hb]; exact r⟩
  x := fun b xs r => by
    have hb : b ≠ a := fun z => by rw [z, h] at r; cases r
    rw [upd_ne hb]; exact r
theorem swp_unlock {a : Addr} {kvs : List (Key × V)} {od : Obj} (h : G a = some (.frz od (.dK kvs))) : Swp G (upd G a (.dK kvs)) where
  d := fun b ks r => by
    by_cases hb : b = a
    · subst hb
      rcases r with r | ⟨o, r⟩
      · rw [h] at r; cases r
      · rw [h] at r; cases r; exact .inl upd_same
    · rcases r with r | ⟨o, r⟩
      · exact .inl (by rw [upd_ne hb]; exact r)
      · exact .inr ⟨o, by rw [upd_ne hb]; exact r⟩
  l := fun b xs r => by
    have hb : b ≠ a := fun z => by rw [z, h] at r; cases r
    rw [upd_ne hb]; exact r
  rl := fun b xs r => by
    have hb : b ≠ a := fun z => by
      rcases r with r | ⟨o, r⟩ <;> (rw [z, h] at r; cases r)
    rcases r with r | ⟨o, r⟩
    · exact .inl (by rw [upd_ne hb]; exact r)
    · exact .inr ⟨o, by rw [upd_ne hb]; exact r⟩
  t := fun b xs r => by
    have hb : b ≠ a := fun z => by
      rcases r with r | ⟨o, r⟩ <;> (rw [z, h] at r; cases r)
    rcases r with r | ⟨o, r⟩
    · exact .inl (by rw [upd_ne hb]; exact r)
    · exact .inr ⟨o, by rw [upd_ne hb]; exact r⟩
  x := fun b xs r => by
    have hb : b ≠ a := fun z => by rw [z, h] at r; cases r
    rw [upd_ne hb]; exact r
theorem ObAt.swap {H' : Hp} {a : Addr} {ob : Ob} (sw : Swp G G') (hg : ∀ b, G b = none → G' b = none) (keep : ∀ b o, G b = none → H b = some o → H' b = some o) (h : ObAt K th G H a ob) : ObAt K th G' H' a ob := by
  cases ob with
  | lst l => obtain ⟨g, vs, e1, q⟩ := h; exact ⟨hg _ g, vs, keep _ _ g e1, q.swap sw⟩
  | dct l => obtain ⟨g, vs, e1, z, q⟩ := h; exact ⟨hg _ g, vs, keep _ _ g e1, z, q.swap sw⟩
  | ins C l => obtain ⟨g, dx, vs, e1, z, q⟩ := h; exact ⟨hg _ g, dx, vs, keep _ _ g e1, z, q.swap sw⟩
  | dead => exact h
theorem Rep.swap {H' : Hp} (R : Rep K B th G s σ H) (sw : Swp G G') (hg : ∀ b, G b = none → G' b = none) (ex : Ex G' H') (tb : ∀ P, GxR.TabG H P → GxR.TabG H' P) (al : ∀ b, H b ≠ none → H' b ≠ none) (keep : ∀ b o, G b = none → H b = some o → H' b = some o) : Rep K B th G' s σ H' where
  len := R.len
  slot := fun i d e => by
    obtain ⟨v, h1, h2⟩ := R.slot i d e
    exact ⟨v, h1, h2.swap sw⟩
  eG := ex
  tb := fun P h => tb P (R.tb P h)
  tl := R.tl
  nd := R.nd
  al := fun a h => al a (R.al a h)
  st := fun n ob a e1 e2 => (R.st n ob a e1 e2).swap sw hg keep
theorem some_of_upd {a : Addr} {o : HO} {b : Addr} {X : Hp} (h : X b ≠ none) : upd X a o b ≠ none := by
  by_cases hb : b = a
  · rw [hb, upd_same]; exact fun z => by cases z
  · rw [upd_ne hb]; exact h
theorem tabG_upd {a P : Addr} {o o' : HO} (h : GxR.TabG H P) (ha : H a = some o) (ho : ∀ ps, o ≠ .tbl ps) : GxR.TabG (upd H a o') P := by
  obtain ⟨ps, e, t⟩ := h
  have : P ≠ a := fun z => by rw [z, ha] at e; exact ho ps (Option.some.inj e)
  exact ⟨ps, by rw [upd_ne this]; exact e, t⟩
section
variable {a : Addr} {kvs : List (Key × V)} {od : Obj}
/-- lock in the data alone, the heap locked -/
theorem Rep.frzG (R : Rep K B th G s σ H) (hG : G a = some (.dK kvs)) (hH : H a = some (.frz od (.dK kvs))) : Rep K B th (upd G a (.frz od (.dK kvs))) s σ H :=
  R.swap (swp_lock hG) (fun b g => by rw [upd_ne (fun z => by rw [z, hG] at g; cases g)]; exact g) (fun b o e => by
    by_cases hb : b = a
    · rw [hb, upd_same] at e; cases e; rw [hb, hH]; exact rfl
    · rw [upd_ne hb] at e; exact R.eG b o e) (fun _ h => h) (fun _ h => h) fun _ _ _ h => h
theorem Rep.thawG (R : Rep K B th G s σ H) (hG : G a = some (.frz od (.dK kvs))) : Rep K B th (upd G a (.dK kvs)) s σ H :=
  R.swap (swp_unlock hG) (fun b g => by rw [upd_ne (fun z => by rw [z, hG] at g; cases g)]; exact g) (fun b o e => by
    by_cases hb : b = a
    · rw [hb, upd_same] at e; cases e; rw [hb]; exact .inr ⟨od, R.eG a _ hG⟩
    · rw [upd_ne hb] at e; exact R.eG b o e) (fun _ h => h) (fun _ h => h) fun _ _ _ h => h
theorem Rep.lockH (R : Rep K B th G s σ H) (hG : G a = some (.dK kvs)) (hH : H a = some (.dK kvs)) : Rep K B th (upd G a (.frz od (.dK kvs))) s σ (upd H a (.frz od (.dK kvs))) :=
  R.swap (swp_lock hG) (fun b g => by rw [upd_ne (fun z => by rw [z, hG] at g; cases g)]; exact g) R.eG.both (fun P h => tabG_upd h hH fun _ z => nomatch z) (fun _ h => some_of_upd h) fun b o g h => by
    rw [upd_ne (fun z => by rw [z, hG] at g; cases g)]; exact h
theorem Rep.openH (R : Rep K B th G s σ H) (hG : G a = some (.frz od (.dK kvs))) : Rep K B th (upd G a (.dK kvs)) s σ (upd H a (.dK kvs)) :=
  have hH : H a = some (.frz od (.dK kvs)) := R.eG a _ hG
  R.swap (swp_unlock hG) (fun b g => by rw [upd_ne (fun z => by rw [z, hG] at g; cases g)]; exact g) R.eG.both (fun P h => tabG_upd h hH fun _ z => nomatch z) (fun _ h => some_of_upd h) fun b o g h => by
    rw [upd_ne (fun z => by rw [z, hG] at g; cases g)]; exact h
theorem Le.thaw {th' : List Addr} {G' H' Hf H2 : Hp} (hG : G a = some (.dK kvs)) (l : Le th (upd G a (.frz od (.dK kvs))) Hf th' G' H') (hf : ∀ b o, G b = none → H b = some o → Hf b = some o) (h2 : ∀ b, b ≠ a → H2 b = H' b) : Le th G H th' (upd G' a (.dK kvs)) H2 :=
  ⟨l.pre, fun b o e => by
    by_cases hb : b = a
    · rw [hb, hG] at e; cases e; rw [hb, upd_same]
    · rw [upd_ne hb]; exact l.ex b o (by rw [upd_ne hb]; exact e), fun b o e g n => by
    have hb : b ≠ a := fun z => by rw [z, hG] at g; cases g
    obtain ⟨h1, h3, h4⟩ := l.fr b o (hf b o g e) (by rw [upd_ne hb]; exact g) n
    exact ⟨by rw [h2 b hb]; exact h1, by rw [upd_ne hb]; exact h3, h4⟩⟩
theorem PostS.thaw {c : C} {Dn : Ends} (P : PostS K B W th G H c Dn) (hG : G a = some (.dK kvs)) : PostS K B W th (upd G a (.frz od (.dK kvs))) H c Dn := by
  have gf : ∀ {th' G' H'}, Le th (upd G a (.frz od (.dK kvs))) H th' G' H' → G' a = some (.frz od (.dK kvs)) := fun l => l.ex _ _ upd_same
  have le : ∀ {th' G' H'}, Le th (upd G a (.frz od (.dK kvs))) H th' G' H' → Le th G H th' (upd G' a (.dK kvs)) H' := fun l => l.thaw hG (fun _ _ _ h => h) fun _ _ => rfl
  cases c with
  | nx s => exact fun th' G' H' σ' l R => P th' _ H' σ' (le l) (R.thawG (gf l))
  | rt d s => exact fun th' G' H' σ' v l R r => P th' _ H' σ' v (le l) (R.thawG (gf l)) (r.swap (swp_unlock (gf l)))
  | bk s => exact fun th' G' H' σ' l R => P th' _ H' σ' (le l) (R.thawG (gf l))
  | ct s => exact fun th' G' H' σ' l R => P th' _ H' σ' (le l) (R.thawG (gf l))
  | ex e s => exact fun th' G' H' σ' cls d l R r => P th' _ H' σ' cls d (le l) (R.thawG (gf l)) (by obtain ⟨q1, us, q2, q3, q4, q5⟩ := r; exact ⟨q1, us, q2.swap (swp_unlock (gf l)), q3, q4, fun dd hd => (swp_unlock (gf l)).x _ _ (q5 dd hd)⟩)
  | no => exact P
theorem PostS.openL {c : C} {Dn : Ends} (P : PostS K B W th G H c Dn) (hG : G a = some (.dK kvs)) : PostS K B W th (upd G a (.frz od (.dK kvs))) (upd H a (.frz od (.dK kvs))) c
    ⟨fun σ' H' => H' a = some (.frz od (.dK kvs)) ∧ Dn.nx σ' (upd H' a (.dK kvs)), fun v H' => H' a = some (.frz od (.dK kvs)) ∧ Dn.rt v (upd H' a (.dK kvs)), fun σ' H' => H' a = some (.frz od (.dK kvs)) ∧ Dn.bk σ' (upd H' a (.dK kvs)), fun σ' H' => H' a = some (.frz od (.dK kvs)) ∧ Dn.ct σ' (upd H' a (.dK kvs))⟩ := by
  have gf : ∀ {th' G' H'}, Le th (upd G a (.frz od (.dK kvs))) (upd H a (.frz od (.dK kvs))) th' G' H' → G' a = some (.frz od (.dK kvs)) := fun l => l.ex _ _ upd_same
  have hf : ∀ b o, G b = none → H b = some o → upd H a (.frz od (.dK kvs)) b = some o := fun b o g h => by
    rw [upd_ne (fun z => by rw [z, hG] at g; cases g)]; exact h
  have le : ∀ {th' G' H'}, Le th (upd G a (.frz od (.dK kvs))) (upd H a (.frz od (.dK kvs))) th' G' H' → Le th G H th' (upd G' a (.dK kvs)) (upd H' a (.dK kvs)) := fun l => l.thaw hG hf fun b hb => upd_ne hb
  have le2 : ∀ {th' G' H'}, Le th (upd G a (.frz od (.dK kvs))) (upd H a (.frz od (.dK kvs))) th' G' H' → Le th G H th' (upd G' a (.dK kvs)) H' := fun l => l.thaw hG hf fun _ _ => rfl
  cases c with
  | nx s => exact fun th' G' H' σ' l R => ⟨R.eG _ _ (gf l), P th' _ _ σ' (le l) (R.openH (gf l))⟩
  | rt d s => exact fun th' G' H' σ' v l R r => ⟨R.eG _ _ (gf l), P th' _ _ σ' v (le l) (R.openH (gf l)) (r.swap (swp_unlock (gf l)))⟩
  | bk s => exact fun th' G' H' σ' l R => ⟨R.eG _ _ (gf l), P th' _ _ σ' (le l) (R.openH (gf l))⟩
  | ct s => exact fun th' G' H' σ' l R => ⟨R.eG _ _ (gf l), P th' _ _ σ' (le l) (R.openH (gf l))⟩
  | ex e s => exact fun th' G' H' σ' cls d l R r => P th' _ H' σ' cls d (le2 l) (R.thawG (gf l)) (by obtain ⟨q1, us, q2, q3, q4, q5⟩ := r; exact ⟨q1, us, q2.swap (swp_unlock (gf l)), q3, q4, fun dd hd => (swp_unlock (gf l)).x _ _ (q5 dd hd)⟩)
  | no => exact P
end
theorem kD_at {k : Key} : At K th G (kD k) (kV k) := by
  cases k with
  | inl i => rfl
  | inr x => obtain ⟨c⟩ := x; rfl
theorem relI_items {d : Addr} {o : Obj} {kvs : List (Key × V)} {ks : List Key} {l : List D} (q : ∀ th1 G1 H1, Le th G H th1 G1 H1 → Ex G1 H1 → H1 d = some (.frz o (.dK kvs))) (hk : kvs.map (·.1) = ks) (r : AtL K th G l (kvs.map (·.2))) : relI K H0 th G H (dItems ks l) (Iti d o kvs) := fun th1 G1 H1 i le ex => by
  have q1 := q th1 G1 H1 le ex
  have hl := r.length
  have hlen : (dItems ks l).length = kvs.length := by
    rw [← hk]; simp [dItems, pairs] at hl ⊢; omega
  refine ⟨fun hi => ⟨q1, by omega⟩, fun x hx => ?_⟩
  have hlt : i < kvs.length := by
    have := (List.getElem?_eq_some_iff.mp hx).1
    omega
  refine ⟨⟨q1, hlt⟩, fun z H2 y => ?_⟩
  obtain ⟨T, k, v, h1, rfl, hT, rfl⟩ := y
  obtain ⟨x1, y1, e1, e2, rfl⟩ := pairs_get hx
  rw [← hk] at e1
  simp [h1] at e1
  subst e1
  obtain ⟨w, h3, h4⟩ := (r.mono le.pre le.ex).get e2
  simp [h1] at h3
  subst h3
  exact ⟨_, .inr ⟨T, _, hT, rfl, rfl⟩, at_pair kD_at h4 hT ex⟩
theorem relI_keys {d : Addr} {o : Obj} {kvs : List (Key × V)} {ks : List Key} {l : List D} (q : ∀ th1 G1 H1, Le th G H th1 G1 H1 → Ex G1 H1 → H1 d = some (.frz o (.dK kvs))) (hk : kvs.map (·.1) = ks) (r : AtL K th G l (kvs.map (·.2))) : relI K H0 th G H (dKeys ks l) (Itk d o kvs) := fun th1 G1 H1 i le ex => by
  have q1 := q th1 G1 H1 le ex
  have hlen : (dKeys ks l).length = kvs.length := by rw [← hk]; simp [dKeys]
  refine ⟨fun hi => ⟨q1, by omega⟩, fun x hx => ?_⟩
  have hlt : i < kvs.length := by
    have := (List.getElem?_eq_some_iff.mp hx).1
    omega
  refine ⟨⟨q1, hlt⟩, fun z H2 y => ?_⟩
  obtain ⟨rfl, k, v, h1, rfl⟩ := y
  simp only [dKeys, ← hk] at hx
  simp [h1] at hx
  subst hx
  exact ⟨_, .inl ⟨rfl, rfl⟩, kD_at⟩
theorem PS.or {X : Cx} {st : Stmt} {t u : TS} (h : PS X st t) (k : PS X st u) : PS X st (fun D σ H => t D σ H ∨ u D σ H) := ⟨fun pins s σ H D I hw => by
  rcases hw with hw | hw
  · exact h.run pins s σ H D I hw
  · exact k.run pins s σ H D I hw⟩
/-- a walker of a locked dict -/
def WalkD (K : PySem.W.Frag) (w : List Key → List D → List D) (wi : TI) (i : Nat) : Prop := ∀ (σ : St) (a : Addr) (H : Hp) (od : Obj) (kvs : List (Key × V)) (R : It → Hp → Prop), σ[i]? = some (some (.ref a)) → H a = some (.frz od (.dK kvs)) →
  (∀ J, (∀ th G l H0, (∀ th1 G1 H1, Le th G H th1 G1 H1 → Ex G1 H1 → H1 a = some (.frz od (.dK kvs))) → AtL K th G l (kvs.map (·.2)) → relI K H0 th G H (w (kvs.map (·.1)) l) J) → R J H) → wi σ H R
theorem walkd_items {i : Nat} : WalkD K dItems (iItems (tVar i)) i := fun σ a H od kvs R hs hH k => ⟨.ref a, hs, a, od, kvs, rfl, hH, k _ fun th G l H0 q r => relI_items q rfl r⟩
theorem walkd_keys {i : Nat} : WalkD K dKeys (iKeys (tVar i)) i := fun σ a H od kvs R hs hH k => ⟨.ref a, hs, a, od, rfl, .inl ⟨kvs, hH, k _ fun th G l H0 q r => relI_keys q rfl r⟩⟩
theorem sem_forD {X : Cx} {w : List Key → List D → List D} {wi : TI} {i : Nat} {g : TG} {tb : TS} {mg : MG} {mb : MS} (he : Sem K B W (relE K) (tVar i) (eTake i)) (hw : WalkD K w wi i) (hg : SemG K B W g mg) (hok : GOk mg) (hb : SemS K B W tb mb) :
    SemS K B W (fun D σ H => tFor wi g tb D σ H ∨ tLock (tFor wi g tb) D σ H) (sForD w i mg mb) := fun s th G σ H Dn R P => by
  cases hm : eTake i s with
  | no => unfold sForD at P; rw [hm] at P; exact P.elim
  | ex e s' =>
    unfold eTake at hm
    split at hm
    · split at hm
      · cases hm
      · cases hm
      · cases hm
    · cases hm
    · cases hm
  | ok q =>
    obtain ⟨d, s1⟩ := q
    have h0 := he s th G σ H (fun v H' => ∃ th1 G1, Le th G H th1 G1 H' ∧ Rep K B th1 G1 s1 σ H' ∧ At K th1 G1 d v) R (by rw [hm]; exact fun th' G' H' b l R r => ⟨th', G', l, R, r⟩)
    obtain ⟨v, hs, th1, G1, l1, R1, r1⟩ := h0
    unfold sForD at P
    rw [hm] at P
    simp only [VL.R.to_ok] at P
    cases d with
    | dct ks l =>
      obtain ⟨a, kvs, rfl, q, rfl, r⟩ := r1
      dsimp only at P
      have P1 := P.later l1
      rcases q with hG | ⟨od, hG⟩
      · rcases R1.eG a _ hG with hH | ⟨od, hH⟩
        · refine .inr ⟨a, _, hH, True.intro, fun od => ?_⟩
          have R2 := R1.lockH (od := od) hG hH
          have hg1 : upd G1 a (.frz od (.dK kvs)) a = some (.frz od (.dK kvs)) := upd_same
          exact hw σ a _ od kvs _ hs upd_same fun J hJ => for_core hg hok hb (hJ th1 _ l (fun _ => none) (fun th2 G2 H2 l2 ex => ex _ _ (l2.ex _ _ hg1)) (r.swap (swp_lock hG))) (Le.refl _ _ _) R2 (P1.openL hG)
        · have hg1 : upd G1 a (.frz od (.dK kvs)) a = some (.frz od (.dK kvs)) := upd_same
          exact .inl (hw σ a _ od kvs _ hs hH fun J hJ => for_core hg hok hb (hJ th1 _ l (fun _ => none) (fun th2 G2 H2 l2 ex => ex _ _ (l2.ex _ _ hg1)) (r.swap (swp_lock hG))) (Le.refl _ _ _) (R1.frzG hG hH) (P1.thaw hG))
      · exact .inl (hw σ a _ od kvs _ hs (R1.eG _ _ hG) fun J hJ => for_core hg hok hb (hJ th1 G1 l (fun _ => none) (fun th2 G2 H2 l2 ex => ex _ _ (l2.ex _ _ hG)) r) (Le.refl _ _ _) R1 P1)
    | _ => exact P.elim
end
section
variable {X : Cx} {B : Bs} {W : WX} {tg : Expr} {pos p2 apos cpos tpos : Pos} {body : List Stmt} {tb : TS} {mb : MS} {g : TG} {mg : MG} {x : Str}
theorem vs_forKeys (i : Nat) (hp : PassesOwn (model X.prog X.w) X.A X.env X.xe) (hc : X.calm = true) (he : VE X B W (.Name x pos) (tVar i) (eTake i)) (hg : VG X B W tg g mg) (hok : GOk mg) (hb : VSs X B W body tb mb) (hs : ∀ v, foldedSetIterable (.Name x pos) X.env v = pure v := by intro _; rfl) :
    VS X B W (.For tg (.Name x pos) body [] p2) (fun D σ H => tFor (iKeys (tVar i)) g tb D σ H ∨ tLock (tFor (iKeys (tVar i)) g tb) D σ H) (sForD dKeys i mg mb) :=
  have h := ps_for hp hc (pi_keys he.pe) hg.pg hb.ps hs
  ⟨PS.or h (ps_lock h), sem_forD (X := X) he.sem walkd_keys hg.sem hok hb.sem⟩
theorem vs_forItems {elts : List Expr} {kk : Nat} (i : Nat) (hp : PassesOwn (model X.prog X.w) X.A X.env X.xe) (hc : X.calm = true) (he : VE X B W (.Name x pos) (tVar i) (eTake i)) (hg : VG X B W (.Tuple elts kk tpos) g mg) (hok : GOk mg) (hb : VSs X B W body tb mb)
    (hbase : attributeBase (.Name x pos) "items" X.env (eval (.Name x pos) X.env) = eval (.Name x pos) X.env := by rfl) (hline : (apos.endLine == cpos.line) = true := by rfl) (hs : ∀ v, foldedSetIterable (.Call (.Attribute (.Name x pos) "items" apos) [] [] cpos) X.env v = pure v := by intro _; rfl) :
    VS X B W (.For (.Tuple elts kk tpos) (.Call (.Attribute (.Name x pos) "items" apos) [] [] cpos) body [] p2) (fun D σ H => tFor (iItems (tVar i)) g tb D σ H ∨ tLock (tFor (iItems (tVar i)) g tb) D σ H) (sForD dItems i mg mb) :=
  have h := ps_for hp hc (pi_items he.pe hbase hline) hg.pg hb.ps hs
  ⟨PS.or h (ps_lock h), sem_forD (X := X) he.sem walkd_items hg.sem hok hb.sem⟩
end
end VL
/-! all, any of a generator expression over a tuple or a list; the element is quiet -/
namespace GW
open PySem PySem.Spec PyProof.Rows L2 GxR

/-- the element at the item v answers b, whatever runs it, while all but the table stands as in sA -/
def EltQ (X : Cx) (P : Addr) (scope : Scope) (x : Str) (elt : Expr) (Bq : L2.St → Hp → V → Bool → Prop) : Prop :=
  ∀ (pins : List (Addr × Obj)) (σ : L2.St) (HA : Hp) (sA : Shared) (ce : Env) (A' : Around) (E' : Value → Shared → Prop) (v : V) (u : Value) (b : Bool) (sB : Shared) (mB : Str → Option Value),
    Inv X pins σ HA sA → ce.scope = scope → ce.globals = X.env.globals → ce.cells = cloFrom X.env.cells scope.names [] → A'.handled = none →
    (∀ q o, q ≠ P → sA.heap.get? q = some o → sB.heap.get? q = some o) → sB.heap.Ns ce.locals mB → mB x = some u → RelV v u → Bq σ HA v b →
    wpAny (model X.prog X.w) A' (eval elt ce) (fun y sC => y = .bool b ∧ Keeps sB sC) E' sB

def bAt (bs : List Bool) (j : Nat) : Bool := (bs[j]?).getD false
theorem all_bAt (bs : List Bool) : (List.range bs.length).all (bAt bs) = bs.all id := by
  rw [Bool.eq_iff_iff, List.all_eq_true, List.all_eq_true]
  constructor
  · intro h b hb
    obtain ⟨j, hj, rfl⟩ := List.getElem_of_mem hb
    have := h j (List.mem_range.mpr hj)
    simpa [bAt, hj] using this
  · intro h j hj
    have hj' := List.mem_range.mp hj
    have := h bs[j] (List.getElem_mem hj')
    simpa [bAt, hj'] using this
theorem any_bAt (bs : List Bool) : (List.range bs.length).any (bAt bs) = bs.any id := by
  rw [Bool.eq_iff_iff, List.any_eq_true, List.any_eq_true]
  constructor
  · rintro ⟨j, hj, h⟩
    have hj' := List.mem_range.mp hj
    refine ⟨bs[j], List.getElem_mem hj', ?_⟩
    simpa [bAt, hj'] using h
  · rintro ⟨b, hb, h⟩
    obtain ⟨j, hj, rfl⟩ := List.getElem_of_mem hb
    exact ⟨j, List.mem_range.mpr hj, by simpa [bAt, hj] using h⟩

section
variable {X : Cx} {pins : List (Addr × Obj)} {σ : L2.St} {H : Hp} {s : Shared}
/-- the generator at g in sE, to be walked -/
def Set1 (X : Cx) (pins : List (Addr × Obj)) (σ : L2.St) (HA : Hp) (P : Addr) (bs : List Bool) (g : Addr) (sE : Shared) : Prop :=
  ∃ (fp wr : List Addr) (G : Array GenState → Array GenState → Prop) (F : Nat → Value → Prop) (St : Nat → Shared → Prop),
    WalksS X.prog X.w X.A.in1 g fp wr G bs.length F St ∧ St 0 sE ∧ TruthOf X.prog X.w X.A.in1 F (bAt bs) ∧ ∀ s', Moved wr G sE s' → ∃ HB, Tabbed P HA HB ∧ Inv X pins σ HB s'

theorem walks_mono {prog : Program} {w : World} {A : Around} {I : Addr} {fp wr : List Addr} {n : Nat} {P P' : Nat → Value → Prop} {St : Nat → Heap → Prop} (W : Walks prog w A I fp wr n P St) (hP : ∀ i v, i < n → P i v → P' i v) : Walks prog w A I fp wr n P' St :=
  ⟨W.sub, W.frame, fun i s Q E hi st k => W.item i s Q E hi st fun v h' tk p => k v h' tk (hP i v hi p), W.done, W.self⟩
/-- walks of a tuple, of a list -/
theorem src {a : Addr} {vs : List V} {HA : Hp} {sA : Shared} {Q : Value → Shared → Prop} (I : Inv X pins σ HA sA) (h : SqL X.K HA a vs ∨ SqT X.K HA a vs)
    (k : ∀ (o : Obj) (St : Nat → Heap → Prop), (∀ A' : Around, A'.handled = none → Walks X.prog X.w A' sA.heap.objs.size [sA.heap.objs.size, a] [sA.heap.objs.size] vs.length (fun i y => ∃ z, vs[i]? = some z ∧ RelV z y) St) → St 0 (sA.heap.push o) →
      a < sA.heap.objs.size → Q (.ref sA.heap.objs.size) { sA with heap := sA.heap.push o }) : wpAny (model X.prog X.w) X.A (pyIter (.ref a)) Q X.xe sA := by
  rcases h with h | h
  · obtain ⟨its, rv, p, _⟩ := I.list h
    have pl : sA.heap.IsList a its.toArray := p.isList
    have hlt : a < sA.heap.objs.size := p.lt
    refine wpAny_pyIter_list pl (k _ (fun i h => h.IsListIter sA.heap.objs.size a i ∧ h.IsList a its.toArray) (fun A' hA => ?_) ⟨⟨_, Heap.get?_push_size _ rfl, rfl, rfl⟩, pl.push _⟩ hlt)
    have W := walks_mono (Walks.list (prog := X.prog) (w := X.w) (A := A') hA sA.heap.objs.size a (Nat.ne_of_lt hlt) its.toArray) (P' := fun i y => ∃ z, vs[i]? = some z ∧ RelV z y) fun i v hi e => ?_
    · have e9 : its.toArray.size = vs.length := by rw [rv.length]; exact List.size_toArray
      rw [e9] at W
      exact W
    · rw [List.getElem?_toArray] at e
      have hi' : i < vs.length := by rw [rv.length]; exact (List.getElem?_eq_some_iff.mp e).1
      obtain ⟨u, hu, ru⟩ := rv.get (List.getElem?_eq_getElem hi')
      rw [e] at hu; cases hu
      exact ⟨_, List.getElem?_eq_getElem hi', ru⟩
  · obtain ⟨its, rv, p, _⟩ := I.tuple h
    have pl : sA.heap.IsTuple a its.toArray := p
    have hlt : a < sA.heap.objs.size := by obtain ⟨o, ho, _⟩ := id p; exact Heap.lt_size ho
    refine wpAny_pyIter_tuple pl (k _ (fun i h => h.IsTupleIter sA.heap.objs.size a i ∧ h.IsTuple a its.toArray) (fun A' hA => ?_) ⟨⟨_, Heap.get?_push_size _ rfl, rfl, rfl⟩, pl.push _⟩ hlt)
    have W := walks_mono (Walks.tuple (prog := X.prog) (w := X.w) (A := A') hA sA.heap.objs.size a (Nat.ne_of_lt hlt) its.toArray) (P' := fun i y => ∃ z, vs[i]? = some z ∧ RelV z y) fun i v hi e => ?_
    · have e9 : its.toArray.size = vs.length := by rw [rv.length]; exact List.size_toArray
      rw [e9] at W
      exact W
    · rw [List.getElem?_toArray] at e
      have hi' : i < vs.length := by rw [rv.length]; exact (List.getElem?_eq_some_iff.mp e).1
      obtain ⟨u, hu, ru⟩ := rv.get (List.getElem?_eq_getElem hi')
      rw [e] at hu; cases hu
      exact ⟨_, List.getElem?_eq_getElem hi', ru⟩

theorem gen_seq {c P : Addr} {elt iter : Expr} {x : Str} {px gp : Pos} {scope : Scope} {Bq : L2.St → Hp → V → Bool → Prop} {te : TE} {k : Nat} {QQ : Value → Shared → Prop} {RR : List Bool → Hp → Prop}
    (hr : Room k X.A) (TB : TabB X.base X.mg c P) (hcode : X.env.code = .ref c) (S : GenS X.env scope x) (hi : PE X iter te) (hel : EltQ X P scope x elt Bq) (hfo : ∀ v, genFold iter X.env v = pure v) (I : Inv X pins σ H s)
    (h : te σ H fun v HA => ∃ a vs bs, v = .ref a ∧ (SqL X.K HA a vs ∨ SqT X.K HA a vs) ∧ bs.length = vs.length ∧ (∀ (i : Nat) z b, vs[i]? = some z → bs[i]? = some b → Bq σ HA z b) ∧ TabG HA P ∧ RR bs HA)
    (hQ : ∀ bs HA g sE, RR bs HA → Set1 X pins σ HA P bs g sE → QQ (.ref g) sE) :
    wpAny (model X.prog X.w) X.A (eval (.GeneratorExp elt [⟨.Name x px, iter, [], 0⟩] scope gp) X.env) QQ X.xe s := by
  refine wpAny_GeneratorExp_walksQ hr.hd S.co (closure_ok S.free) S.cell S.dot S.loc S.kind (by have := hr.dp; omega) (thn (hi.run pins s σ H _ I h) fun xv sA ⟨v, HA, IA, rA, a, vs, bs, ev, hsq, hbl, hbq, ⟨ps, hP, ht⟩, qA⟩ => ?_) hfo
  subst ev
  obtain rfl : xv = Value.ref a := rA
  refine src IA hsq fun o St W hst haS => ?_
  have tP : sA.heap.get? P = some { cls := .none, data := .fields ps } := IA.hok P _ hP
  have ltP : P < sA.heap.objs.size := Heap.lt_size tP
  have tP2 : (sA.heap.push o).get? P = some { cls := .none, data := .fields ps } := Heap.get?_push_of_some _ tP
  have hd2 : PySem.W.CodeHd (sA.heap.push o) c P := TB.code.keeps fun b u e => Heap.get?_push_of_some _ (IA.bk b u e)
  have nl2 : (sA.heap.push o).NoLimit := IA.nolimit.push o
  have szp : (sA.heap.push o).objs.size = sA.heap.objs.size + 1 := Heap.size_push ..
  have go : ∀ (code : Value) (hC : Heap) (tk : Nat) (ps' : Array Value), Heap.ExtBut P (sA.heap.push o) hC → (sA.heap.push o).objs.size ≤ hC.objs.size → hC.get? P = some { cls := .none, data := .fields ps' } → (∃ more, ps' = ps ++ more) → TriplesOk ps'.toList →
      wpAny (model X.prog X.w) X.A (builtinsFor X.env.globals X.env.builtins) (fun bi sD =>
        ∃ Ia fp wr n₀ Pf St₀ pz F, Value.ref sA.heap.objs.size = .ref Ia ∧ (∀ A' : Around, A'.handled = none → Walks X.prog X.w A' Ia fp wr n₀ Pf St₀) ∧ St₀ 0 sD.heap ∧ (∀ b ∈ fp, b < sD.heap.objs.size) ∧ sD.heap.NoLimit ∧ cStatics ∉ wr ∧
          (∀ hr2 : Heap, (∀ b o, sD.heap.get? b = some o → hr2.get? b = some o) →
            QuietGen X.prog X.w (genEnv scope (cloFrom X.env.cells scope.names []) sD.heap.objs.size code bi X.env) x [] elt (List.range sD.heap.objs.size) wr Pf pz F hr2) ∧
          (∀ g hE tkE gs, gs.bare = true → sD.heap.objs.size < g → hE.objs.size = g + 1 → (∀ b o, sD.heap.get? b = some o → hE.get? b = some o) →
            WalksS X.prog X.w X.A.in4 g (g :: sD.heap.objs.size :: List.range sD.heap.objs.size) (sD.heap.objs.size :: wr) (GenOnlyQ sD.gens.size) (passing pz n₀ 0).length
              (fun j y => ∃ i, (passing pz n₀ 0)[j]? = some i ∧ F i y) (GenAt X.prog X.w X.A.in4 g sD.gens.size sD.heap.objs.size (List.range sD.heap.objs.size) wr pz n₀ F) →
            GenAt X.prog X.w X.A.in4 g sD.gens.size sD.heap.objs.size (List.range sD.heap.objs.size) wr pz n₀ F 0 { sD with gens := sD.gens.push gs, toks := tkE, heap := hE } →
            QQ (.ref g) { sD with gens := sD.gens.push gs, toks := tkE, heap := hE })) X.xe { sA with heap := hC, toks := tk } := by
    intro code hC tk ps' ext hsz tC hmore htC
    obtain ⟨bm, ob, e1, e2, e3, e4, e5, e6, e7, e8⟩ := TB.bm
    have ncP : cStatics ≠ P := fun e => by
      obtain ⟨_, hns, _⟩ := IA.nolimit
      obtain ⟨o', es, ep, ho, hd, _⟩ := hns
      rw [e, tP] at ho
      cases ho
      cases hd
    have ncl : cStatics < sA.heap.objs.size := let ⟨_, hns, _⟩ := IA.nolimit; hns.lt
    have kC : ∀ b u, b ≠ P → sA.heap.get? b = some u → hC.get? b = some u := fun b u hb e => ext b u hb (Heap.get?_push_of_some _ e)
    refine wpAny_builtinsFor (m := X.mg) (by rw [IA.ok.glob]; exact ((IA.mod.glob.keeps IA.bk).push o).extBut ext TB.gP) e1 e2 (kC _ _ e4 (IA.bk _ _ e5)) e6 e7 e8 ?_
    have two : ∀ b ∈ [sA.heap.objs.size, a], b = sA.heap.objs.size ∨ b = a := fun b hb => by simpa using hb
    have naP : a ≠ P := fun z => by
      rcases hsq with q | q
      · obtain ⟨its, rv, p, _⟩ := IA.list q
        obtain ⟨o', ho, hc, _⟩ := p.isList
        rw [z, tP] at ho
        cases ho
        cases hc
      · obtain ⟨its, rv, p, _⟩ := IA.tuple q
        obtain ⟨o', ho, hc, _⟩ := id p
        rw [z, tP] at ho
        cases ho
        cases hc
    refine ⟨sA.heap.objs.size, _, [sA.heap.objs.size], vs.length, _, St, (fun _ => true), (fun i y => ∃ b, bs[i]? = some b ∧ y = .bool b), rfl, W, ?_, ?_, nl2.extBut ext ncP, ?_, ?_, ?_⟩
    · refine (W X.A hr.hd).frame _ _ _ hst fun b hb u e => ext b u (fun z => ?_) e
      rcases two b hb with z2 | z2
      · exact Nat.ne_of_lt ltP (z.symm.trans z2)
      · exact naP (z2.symm.trans z)
    · intro b hb
      show b < hC.objs.size
      have hlC : sA.heap.objs.size < hC.objs.size := by rw [szp] at hsz; exact hsz
      rcases two b hb with z | z
      · rw [z]; exact hlC
      · rw [z]; exact Nat.lt_trans haS hlC
    · intro z
      have e9 : cStatics = sA.heap.objs.size := by simpa using z
      rw [e9] at ncl
      exact Nat.lt_irrefl _ ncl
    · intro hr2 hrk
      refine ⟨fun A' E' i v s₂ m₂ hA hPv hn hm hk => by simp only [List.forIn_nil]; exact wpAny_pure ⟨rfl, keeps_refl _⟩, fun A' E' i v s₂ m₂ hA hPv hp hn hm hk => ?_⟩
      obtain ⟨z, hz, rz⟩ := hPv
      have hlt : i < bs.length := by rw [hbl]; exact (List.getElem?_eq_some_iff.mp hz).1
      refine wpAny_mono (hel pins σ HA sA _ A' E' z v bs[i] s₂ m₂ IA rfl rfl rfl hA (fun q oq hq e => ?_) hn hm rz (hbq i z _ hz (List.getElem?_eq_getElem hlt))) (fun y s3 r => ⟨⟨_, List.getElem?_eq_getElem hlt, r.1⟩, r.2⟩) fun _ _ e => e
      have hql := Heap.lt_size e
      have hlC : sA.heap.objs.size < hC.objs.size := by rw [szp] at hsz; exact hsz
      refine hk q (List.mem_range.mpr (Nat.lt_trans hql hlC)) (fun zz => ?_) oq (hrk q oq (kC q oq hq e))
      have e9 : q = sA.heap.objs.size := by simpa using zz
      rw [e9] at hql
      exact Nat.lt_irrefl _ hql
    · intro g hE tkE gs hgb hag hszE hkE WE hat
      simp only [GxR.passing_true, List.length_range] at WE
      rw [← hbl] at WE hat
      refine hQ bs HA g _ qA ⟨_, _, _, _, _, WE.in4_1, hat, ?_, fun s' hm => ?_⟩
      · intro j y sj Qj Ej hy hQj
        obtain ⟨i, hij, b, hb, rfl⟩ := hy
        obtain ⟨hj, ej⟩ := List.getElem?_eq_some_iff.mp hij
        rw [List.getElem_range] at ej
        subst ej
        have hQ2 : Qj (bAt bs j) sj := hQj
        unfold bAt at hQ2
        rw [hb] at hQ2
        exact wpAny_truthy_bool hQ2
      · obtain ⟨more, em⟩ := hmore
        have nwr : ∀ b u, sA.heap.get? b = some u → b ∉ hC.objs.size :: [sA.heap.objs.size] := fun b u e hb => by
          have hl := Heap.lt_size e
          have hlC : sA.heap.objs.size < hC.objs.size := by rw [szp] at hsz; exact hsz
          rcases (show b = hC.objs.size ∨ b = sA.heap.objs.size by simpa using hb) with z | z
          · rw [z] at hl; exact Nat.lt_irrefl _ (Nat.lt_trans hl hlC)
          · rw [z] at hl; exact Nat.lt_irrefl _ hl
        have J := inv_tab (more := more) (h' := s'.heap) (g' := s'.gens) (d' := s'.drawn) (t' := s'.toks) IA hP (fun b u hb e => hm.heap b u (nwr b u e) (hkE b u (kC b u hb e)))
          (by rw [← em]; exact hm.heap P _ (nwr P _ tP) (hkE P _ tC)) (AllBare.movedS (IA.bare.push hgb) hm)
        rw [sh_eta sA s' hm.os] at J
        exact ⟨upd HA P (.tbl (ps ++ more)), ⟨⟨ps ++ more, upd_same, by rw [← em]; exact htC⟩, fun b hb => upd_ne hb⟩, J⟩
  refine ⟨nl2, ?_⟩
  cases hf : codeAmong gp ps.toList with
  | none =>
    refine wpAny_genexprCodeX hcode (hd2.code tP2 ht) (hd2.tab tP2) hf fun c' h' tk hx hge hlt hco' _ htab' _ => ?_
    obtain ⟨o1, vv, f1, tf, fl, tg, inF, tx, tt, op, _, _, _, _, _, _, _, _, _, htr, _⟩ := hco'
    exact go _ h' tk _ hx (Nat.le_trans hge (Nat.le_of_lt hlt)) htab'.2 ⟨_, rfl⟩ htr
  | some cv =>
    refine wpAny_genexprCode_hit hcode (hd2.code tP2 ht) hf ?_
    exact go cv (sA.heap.push o) sA.toks ps (Heap.ExtBut.refl _ _) (Nat.le_refl _) tP2 ⟨#[], by simp⟩ ht
def tQ (K : PySem.W.Frag) (P : Addr) (Bq : L2.St → Hp → V → Bool → Prop) (f : List Bool → Bool) (te : TE) : TE := fun σ H Q => te σ H fun v HA => ∃ a vs bs, v = .ref a ∧ (SqL K HA a vs ∨ SqT K HA a vs) ∧ bs.length = vs.length ∧ (∀ (i : Nat) z b, vs[i]? = some z → bs[i]? = some b → Bq σ HA z b) ∧ TabG HA P ∧
  ∀ HB, Tabbed P HA HB → Q (.bl (f bs)) HB
theorem pe_all {c P : Addr} {elt iter : Expr} {x : Str} {px p pos gp : Pos} {scope : Scope} {Bq : L2.St → Hp → V → Bool → Prop} {te : TE} {k : Nat}
    (hr : Room k X.A) (hg : Gl X "all") (hm : X.mg "all" = none) (hbt : bootBuiltins "all" = some (.builtin "all")) (TB : TabB X.base X.mg c P) (hcode : X.env.code = .ref c) (S : GenS X.env scope x) (hi : PE X iter te) (hel : EltQ X P scope x elt Bq) (hfo : ∀ v, genFold iter X.env v = pure v)
    (he : starEach [.GeneratorExp elt [⟨.Name x px, iter, [], 0⟩] scope gp] X.env = (false, eval (.GeneratorExp elt [⟨.Name x px, iter, [], 0⟩] scope gp) X.env) :: starEach [] X.env := by rfl) :
    PE X (.Call (.Name "all" p) [.GeneratorExp elt [⟨.Name x px, iter, [], 0⟩] scope gp] [] pos) (tQ X.K P Bq (fun bs => bs.all id) te) := by
  refine ⟨fun pins s σ H Q I h => ?_⟩
  refine wpAny_Call_Name_kw (ld_blt I hg hm hbt (PyProof.Rows.callWith_builtin1 ?_ he (by rfl)))
  rw [he]
  refine Calls.spliced_cons (gen_seq (RR := fun bs HA => ∀ HB, Tabbed P HA HB → Q (.bl (bs.all id)) HB) hr TB hcode S hi hel hfo I h fun bs HA g sE hR hG => ?_)
  obtain ⟨fp, wr, G, F, St, W, hst, htr, hI⟩ := hG
  refine Calls.spliced_nil (call_all_walkS (W.self 0 _ _ _ hst ⟨g, fp, wr, G, _, F, St, _, rfl, W, hst, htr, fun s' hmv => ?_⟩))
  obtain ⟨HB, hT, J⟩ := hI s' hmv
  refine ⟨.bl _, HB, J, rfl, ?_⟩
  rw [all_bAt bs]
  exact hR HB hT
theorem pe_any {c P : Addr} {elt iter : Expr} {x : Str} {px p pos gp : Pos} {scope : Scope} {Bq : L2.St → Hp → V → Bool → Prop} {te : TE} {k : Nat}
    (hr : Room k X.A) (hg : Gl X "any") (hm : X.mg "any" = none) (TB : TabB X.base X.mg c P) (hcode : X.env.code = .ref c) (S : GenS X.env scope x) (hi : PE X iter te) (hel : EltQ X P scope x elt Bq) (hfo : ∀ v, genFold iter X.env v = pure v)
    (he : starEach [.GeneratorExp elt [⟨.Name x px, iter, [], 0⟩] scope gp] X.env = (false, eval (.GeneratorExp elt [⟨.Name x px, iter, [], 0⟩] scope gp) X.env) :: starEach [] X.env := by rfl) :
    PE X (.Call (.Name "any" p) [.GeneratorExp elt [⟨.Name x px, iter, [], 0⟩] scope gp] [] pos) (tQ X.K P Bq (fun bs => bs.any id) te) := by
  refine ⟨fun pins s σ H Q I h => ?_⟩
  refine wpAny_Call_Name_kw (ld_blt I hg hm boot_any (PyProof.Rows.callWith_builtin1 ?_ he (by rfl)))
  rw [he]
  refine Calls.spliced_cons (gen_seq (RR := fun bs HA => ∀ HB, Tabbed P HA HB → Q (.bl (bs.any id)) HB) hr TB hcode S hi hel hfo I h fun bs HA g sE hR hG => ?_)
  obtain ⟨fp, wr, G, F, St, W, hst, htr, hI⟩ := hG
  refine Calls.spliced_nil (call_any_walkS (W.self 0 _ _ _ hst ⟨g, fp, wr, G, _, F, St, _, rfl, W, hst, htr, fun s' hmv => ?_⟩))
  obtain ⟨HB, hT, J⟩ := hI s' hmv
  refine ⟨.bl _, HB, J, rfl, ?_⟩
  rw [any_bAt bs]
  exact hR HB hT
end
end GW
namespace VL
open PySem PySem.Spec PyProof.Rows L2 GxR

/-! ### all(.. for x in ..), any(.. for x in ..), the element quiet -/
def testL (pb : S → D → Option Bool) (s : S) : List D → Option (List Bool)
  | [] => some []
  | d :: l => match pb s d, testL pb s l with
    | some b, some bs => some (b :: bs)
    | _, _ => none
def eQ (f : List Bool → Bool) (pb : S → D → Option Bool) (it : ME) : ME := fun s => (it s).bind fun d s => match seqOf s d with
  | some l => match testL pb s l with
    | some bs => .ok (.bl (f bs), s)
    | none => .no
  | none => .no
def allB (bs : List Bool) : Bool := bs.all id
def anyB (bs : List Bool) : Bool := bs.any id
def BqOf (K : PySem.W.Frag) (B : Bs) (pb : S → D → Option Bool) : L2.St → Hp → V → Bool → Prop := fun σ H v b => ∃ s th G d, Rep K B th G s σ H ∧ At K th G d v ∧ pb s d = some b
section
variable {K : PySem.W.Frag} {B : Bs} {W : WX} {th : List Addr} {G H H' : Hp} {s : S} {σ : L2.St}
theorem Rep.tabbed (R : Rep K B th G s σ H) {P : Addr} (hP : B.Tb P) (h : Tabbed P H H') : Rep K B th G s σ H' ∧ Le th G H th G H' := by
  obtain ⟨ps, e0, _⟩ := R.tb P hP
  obtain ⟨⟨qs, e1, t1⟩, oth⟩ := h
  have ne : ∀ b o, H b = some o → (∀ p, o ≠ .tbl p) → b ≠ P := fun b o e k z => by rw [z, e0] at e; exact k ps (Option.some.inj e).symm
  refine ⟨⟨R.len, R.slot, fun a o e => ?_, fun P2 h2 => ?_, R.tl, R.nd, fun a h => ?_, fun n ob a h1 h2 => ?_⟩, ⟨List.prefix_rfl, Sub.refl G, fun a o e g n => ⟨?_, g, n⟩⟩⟩
  · have k := R.eG a o e
    by_cases ha : a = P
    · subst ha
      rw [e0] at k
      cases o <;> first
        | exact ⟨qs, e1⟩
        | (cases k; done)
        | (rcases k with k | ⟨u, k⟩ <;> cases k)
        | (obtain ⟨_, k⟩ := k; cases k)
    · rw [oth a ha]; exact k
  · by_cases hp : P2 = P
    · rw [hp]; exact ⟨qs, e1, t1⟩
    · obtain ⟨ps2, e2, t2⟩ := R.tb P2 h2
      exact ⟨ps2, by rw [oth P2 hp]; exact e2, t2⟩
  · by_cases ha : a = P
    · rw [ha, e1]; exact fun z => by cases z
    · rw [oth a ha]; exact R.al a h
  · have o := R.st n ob a h1 h2
    cases ob with
    | lst l => obtain ⟨g, vs, q, r⟩ := o; exact ⟨g, vs, by rw [oth a (ne a _ q fun _ z => nomatch z)]; exact q, r⟩
    | dct l => obtain ⟨g, vs, q, z, r⟩ := o; exact ⟨g, vs, by rw [oth a (ne a _ q fun _ z => nomatch z)]; exact q, z, r⟩
    | ins C l => obtain ⟨g, dx, vs, q, z, r⟩ := o; exact ⟨g, dx, vs, by rw [oth a (ne a _ q fun _ z => nomatch z)]; exact q, z, r⟩
    | dead => trivial
  · by_cases ha : a = P
    · rw [ha, e0] at e; cases e
      rw [ha]; exact ⟨qs, e1⟩
    · rw [oth a ha, e]; exact keepF_self o
theorem testL_get {pb : S → D → Option Bool} : ∀ {l : List D} {bs : List Bool}, testL pb s l = some bs → bs.length = l.length ∧ ∀ (i : Nat) d b, l[i]? = some d → bs[i]? = some b → pb s d = some b
  | [], bs, h => by cases h; exact ⟨rfl, fun i d b e => by simp at e⟩
  | d :: l, bs, h => by
    simp only [testL] at h
    cases h1 : pb s d with
    | none => rw [h1] at h; cases h
    | some b =>
      cases h2 : testL pb s l with
      | none => rw [h1, h2] at h; cases h
      | some cs =>
        rw [h1, h2] at h; cases h
        obtain ⟨i1, i2⟩ := testL_get h2
        refine ⟨by simp [i1], fun i d' b' e1 e2 => ?_⟩
        cases i with
        | zero => simp at e1 e2; subst e1; subst e2; exact h1
        | succ i => simp at e1 e2; exact i2 i d' b' e1 e2
theorem sem_q {P : Addr} {te : TE} {m : ME} {f : List Bool → Bool} {pb : S → D → Option Bool} (hP : B.Tb P) (h : Sem K B W (relE K) te m) : Sem K B W (relE K) (GW.tQ K P (BqOf K B pb) f te) (eQ f pb m) := fun s th G σ H Q R Pq =>
  h s th G σ H _ R (Pq.bind fun d s1 th1 G1 H1 v l1 R1 r1 P1 => by
    cases hd : seqOf s1 d with
    | none => rw [hd] at P1; exact P1.elim
    | some l =>
      rw [hd] at P1
      dsimp only at P1
      cases ht : testL pb s1 l with
      | none => rw [ht] at P1; exact P1.elim
      | some bs =>
        rw [ht] at P1
        obtain ⟨a, vs, rfl, hsq, r⟩ := R1.seq_of r1 hd
        obtain ⟨hl, hb⟩ := testL_get ht
        refine ⟨a, vs, bs, rfl, hsq, by rw [hl, r.length], fun i z b e1 e2 => ?_, R1.tb P hP, fun HB hT => ?_⟩
        · obtain ⟨d', e3, at3⟩ := r.get2 e1
          exact ⟨s1, th1, G1, d', R1, at3, hb i d' b e3 e2⟩
        · obtain ⟨R2, l2⟩ := R1.tabbed hP hT
          exact P1 th1 G1 HB _ l2 R2 rfl)
end
section
variable {X : Cx} {B : Bs} {W : WX} {elt iter : Expr} {te : TE} {m : ME} {x : Str} {px p pos gp : Pos} {scope : Scope} {pb : S → D → Option Bool} {c P : Addr} {k : Nat}
theorem ve_all (hr : Room k X.A) (hg : Gl X "all") (hm : X.mg "all" = none) (hbt : bootBuiltins "all" = some (.builtin "all")) (TB : TabB X.base X.mg c P) (hP : B.Tb P) (hcode : X.env.code = .ref c) (Sc : GenS X.env scope x) (hi : VE X B W iter te m) (hel : GW.EltQ X P scope x elt (BqOf X.K B pb))
    (hfo : ∀ v, genFold iter X.env v = pure v := by intro _; rfl) (he : starEach [.GeneratorExp elt [⟨.Name x px, iter, [], 0⟩] scope gp] X.env = (false, eval (.GeneratorExp elt [⟨.Name x px, iter, [], 0⟩] scope gp) X.env) :: starEach [] X.env := by rfl) :
    VE X B W (.Call (.Name "all" p) [.GeneratorExp elt [⟨.Name x px, iter, [], 0⟩] scope gp] [] pos) (GW.tQ X.K P (BqOf X.K B pb) allB te) (eQ allB pb m) := ⟨GW.pe_all hr hg hm hbt TB hcode Sc hi.pe hel hfo he, sem_q hP hi.sem⟩
theorem ve_any (hr : Room k X.A) (hg : Gl X "any") (hm : X.mg "any" = none) (TB : TabB X.base X.mg c P) (hP : B.Tb P) (hcode : X.env.code = .ref c) (Sc : GenS X.env scope x) (hi : VE X B W iter te m) (hel : GW.EltQ X P scope x elt (BqOf X.K B pb))
    (hfo : ∀ v, genFold iter X.env v = pure v := by intro _; rfl) (he : starEach [.GeneratorExp elt [⟨.Name x px, iter, [], 0⟩] scope gp] X.env = (false, eval (.GeneratorExp elt [⟨.Name x px, iter, [], 0⟩] scope gp) X.env) :: starEach [] X.env := by rfl) :
    VE X B W (.Call (.Name "any" p) [.GeneratorExp elt [⟨.Name x px, iter, [], 0⟩] scope gp] [] pos) (GW.tQ X.K P (BqOf X.K B pb) anyB te) (eQ anyB pb m) := ⟨GW.pe_any hr hg hm TB hcode Sc hi.pe hel hfo he, sem_q hP hi.sem⟩
/-- i <= x < j -/
def pbRange (i j : Int) : S → D → Option Bool := fun _ d => match d with
  | .int z => some (decide (i ≤ z) && decide (z < j))
  | _ => none
theorem elt_range {i j : Int} {k1 k2 : Nat} {p1 p2 p3 p4 : Pos} (hk : scope.kind = .function) (hl : scope.names.lookup x = some .local) (hd : (x == ("__debug__" : Str)) = false := by decide) :
    GW.EltQ X P scope x (.Compare (.Constant (.int i) k1 p1) [.LtE, .Lt] [.Name x p2, .Constant (.int j) k2 p3] p4) (BqOf X.K B (pbRange i j)) := by
  intro pins σ HA sA ce A' E' v u b sB mB I hsc _ _ hA keep hn hm rv hb
  obtain ⟨s, th, G, d, R, at1, hp⟩ := hb
  cases d with
  | int z =>
    cases at1
    simp only [pbRange, Option.some.injEq] at hp
    obtain ⟨t, rfl⟩ := rv
    refine Compare_chain (wpAny_Constant_int (chain_link ?_)) (by with_unfolding_all rfl)
    refine wpAny_Name (wpAny_loadName_local (by rw [hsc]; exact hk) (show ce.scope.names.lookup x = some .local by rw [hsc]; exact hl) hn hm ?_) hd
    refine le_int (wpAny_truthy_bool ?_)
    cases hz : decide (i ≤ z) with
    | false =>
      rw [hz] at hp
      exact ite_ff ⟨by rw [← hp]; rfl, keeps_tok _ _⟩
    | true =>
      rw [hz] at hp
      refine ite_tt (chain_last (wpAny_Constant_int ?_))
      exact lt_int ⟨by rw [← hp]; rfl, keeps_tok _ _⟩
  | _ => simp [pbRange] at hp
end
end VL
namespace VL
open PySem PySem.Spec PyProof.Rows L2

/-! ### defs that take data and give data -/
inductive PR where
  | ok (d : D) | ex (e : Exn) | no
mutual
def noLoc : D → Bool
  | .loc _ => false
  | .exn _ _ _ _ => false
  | .tup l => noLocs l
  | .lst l => noLocs l
  | .dct _ l => noLocs l
  | _ => true
def noLocs : List D → Bool
  | [] => true
  | d :: l => noLoc d && noLocs l
end
def startD (n : Nat) (ds : List D) : List (Option D) := ds.map some ++ List.replicate (n - ds.length) none
def pureOf (n np : Nat) (m : MS) : List D → PR := fun ds => if ds.length = np then match m ⟨startD n ds, []⟩ with
    | .rt d _ => if noLoc d = true then .ok d else .no
    | .nx _ => .ok .non
    | .ex e _ => if noLocs (e.fs.map (·.2)) = true then .ex e else .no
    | _ => .no
  else .no
def eCall (f : List D → PR) (a : MA) : ME := fun s => (a s).bind fun ds s => if noLocs ds = true then match f ds with
    | .ok d => .ok (d, s)
    | .ex e => .ex e s
    | .no => .no
  else .no
abbrev s0 : S := ⟨[], []⟩
def spP (K : PySem.W.Frag) (B : Bs) (f : List D → PR) : Sp := fun vs H Q E => ∃ G ds, Rep K B [] G s0 [] H ∧ AtL K [] G ds vs ∧ match f ds with
  | .ok d => ∀ G' H' v, Le [] G H [] G' H' → Rep K B [] G' s0 [] H' → At K [] G' d v → Q v H'
  | .ex e => ∀ G' H' cls dd, Le [] G H [] G' H' → Rep K B [] G' s0 [] H' → ExAt K B [] G' H' e cls dd → E cls dd H'
  | .no => False
section
variable {K : PySem.W.Frag} {B : Bs} {th th' : List Addr} {G G' H H' : Hp} {s : S} {σ : L2.St}
mutual
theorem At.bare : ∀ {d : D} {v : V}, noLoc d = true → At K th G d v → At K th' G d v
  | .non, _, _, h => h
  | .bl _, _, _, h => h
  | .int _, _, _, h => h
  | .str _, _, _, h => h
  | .tup _, _, n, h => by obtain ⟨a, vs, e1, q, r⟩ := h; exact ⟨a, vs, e1, q, AtL.bare n r⟩
  | .lst _, _, n, h => by obtain ⟨a, vs, e1, q, r⟩ := h; exact ⟨a, vs, e1, q, AtL.bare n r⟩
  | .dct _ _, _, n, h => by obtain ⟨a, vs, e1, q, z, r⟩ := h; exact ⟨a, vs, e1, q, z, AtL.bare n r⟩
  | .scr _, _, _, h => h
  | .loc _, _, n, _ => by cases n
  | .obj _, _, _, h => h
  | .exn _ _ _ _, _, n, _ => by cases n
theorem AtL.bare : ∀ {l : List D} {vs : List V}, noLocs l = true → AtL K th G l vs → AtL K th' G l vs
  | [], _, _, h => h
  | _ :: _, _, n, h => by
    obtain ⟨v, r, e1, q, z⟩ := h
    simp only [noLocs, Bool.and_eq_true] at n
    exact ⟨v, r, e1, At.bare n.1 q, AtL.bare n.2 z⟩
end
theorem Rep.enter (R : Rep K B th G s σ H) : Rep K B [] G s0 [] H := ⟨rfl, fun i d e => by simp at e, R.eG, R.tb, rfl, List.nodup_nil, fun a h => by simp at h, fun n ob a e => by simp at e⟩
theorem Le.enter {th0 : List Addr} (l : Le th0 G H th' G' H') (h : th0 = []) : Le [] G H [] G' H' := ⟨List.prefix_rfl, l.ex, fun a o e g _ => by
  subst h
  obtain ⟨h1, h2, _⟩ := l.fr a o e g (by simp)
  exact ⟨h1, h2, by simp⟩⟩
theorem Rep.leave (R : Rep K B th G s σ H) (l : Le [] G H [] G' H') (R' : Rep K B [] G' s0 [] H') : Rep K B th G' s σ H' ∧ Le th G H th G' H' := by
  have ne : ∀ a, H a ≠ none → H' a ≠ none := fun a h => by
    cases e : H a with
    | none => exact absurd e h
    | some o =>
      cases g : G a with
      | none =>
        obtain ⟨u, hu⟩ := keepF_some (l.fr a o e g (by simp)).1
        rw [hu]; exact fun z => by cases z
      | some u =>
        obtain ⟨w, hw⟩ := keepO_some (R'.eG a u (l.ex a u g))
        rw [hw]; exact fun z => by cases z
  refine ⟨⟨R.len, fun i d e => ?_, R'.eG, R'.tb, R.tl, R.nd, fun a h => ne a (R.al a h), fun n ob a e1 e2 => ?_⟩, ⟨List.prefix_rfl, l.ex, fun a o e g n => ?_⟩⟩
  · obtain ⟨v, h1, h2⟩ := R.slot i d e
    exact ⟨v, h1, h2.mono List.prefix_rfl l.ex⟩
  · have h := R.st n ob a e1 e2
    cases ob with
    | lst z => obtain ⟨g, vs, q, r⟩ := h; exact ⟨(l.fr a _ q g (by simp)).2.1, vs, (l.fr a _ q g (by simp)).1, r.mono List.prefix_rfl l.ex⟩
    | dct z => obtain ⟨g, vs, q, z, r⟩ := h; exact ⟨(l.fr a _ q g (by simp)).2.1, vs, (l.fr a _ q g (by simp)).1, z, r.mono List.prefix_rfl l.ex⟩
    | ins C z => obtain ⟨g, dx, vs, q, z, r⟩ := h; exact ⟨(l.fr a _ q g (by simp)).2.1, dx, vs, (l.fr a _ q g (by simp)).1, z, r.mono List.prefix_rfl l.ex⟩
    | dead => trivial
  · exact ⟨(l.fr a o e g (by simp)).1, (l.fr a o e g (by simp)).2.1, n⟩
theorem sem_call {W : WX} {f : List D → PR} {t : TA} {m : MA} (h : Sem K B W (relA K) t m) : Sem K B W (relE K) (tCallS (spP K B f) (WE W) t) (eCall f m) := fun s th G σ H Q R P =>
  h s th G σ H _ R (P.bind fun ds s1 th1 G1 H1 vs l1 R1 r1 P1 => by
    split at P1
    · rename_i hn
      refine ⟨G1, ds, R1.enter, AtL.bare hn r1, ?_⟩
      cases hf : f ds with
      | ok d =>
        rw [hf] at P1
        intro G' H' v l R2 r2
        obtain ⟨R3, l3⟩ := R1.leave l R2
        exact P1 th1 G' H' v l3 R3 (r2.mono List.nil_prefix (Sub.refl _))
      | ex e =>
        rw [hf] at P1
        intro G' H' cls dd l R2 r2
        obtain ⟨R3, l3⟩ := R1.leave l R2
        exact P1 th1 G' H' cls dd l3 R3 (by obtain ⟨q1, us, q2, q3⟩ := r2; exact ⟨q1, us, q2.mono List.nil_prefix (Sub.refl _), q3⟩)
      | no => rw [hf] at P1; exact P1.elim
    · exact P1.elim)
theorem startD_len {N : List Str} {ds : List D} {vs : List V} (h : vs.length = ds.length) : (startD N.length ds).length = (L2.start N vs).length := by
  simp [startD, L2.start, h]
theorem Rep.start {N : List Str} {ds : List D} {vs : List V} (R : Rep K B [] G s0 [] H) (r : AtL K [] G ds vs) : Rep K B [] G ⟨startD N.length ds, []⟩ (L2.start N vs) H := by
  refine R.slots (startD_len r.length) fun i d e => ?_
  unfold startD at e
  unfold L2.start
  have hl := r.length
  by_cases hi : i < ds.length
  · rw [List.getElem?_append_left (by simpa using hi)] at e
    rw [List.getElem?_append_left (by rw [List.length_map, hl]; exact hi)]
    rw [List.getElem?_map] at e
    cases hd : ds[i]? with
    | none => rw [hd] at e; cases e
    | some z =>
      rw [hd] at e
      cases e
      obtain ⟨v, h1, h2⟩ := r.get hd
      exact ⟨v, by rw [List.getElem?_map, h1]; rfl, h2⟩
  · rw [List.getElem?_append_right (by simpa using Nat.le_of_not_lt hi)] at e
    rw [List.getElem?_replicate] at e
    split at e <;> cases e
theorem body_run {P : Program} {w : World} {mg : Str → Option Value} {base : Heap} {N : List Str} {np : Nat} {W : WX} {t : TS} {m : MS} {vs : List V} {Q : VK} {E : XK} (hW : W = fun c d _ H => E c d H) (h : SemS K B W t m) (hsp : spP K B (pureOf N.length np m) vs H Q E) :
    t { nx := fun _ H' => Q .non H', rt := Q } (L2.start N vs) H := by
  obtain ⟨G, ds, R, r, hm⟩ := hsp
  have key : pureOf N.length np m ds = if ds.length = np then (match m ⟨startD N.length ds, []⟩ with
    | .rt d _ => if noLoc d = true then .ok d else .no
    | .nx _ => .ok .non
    | .ex e _ => if noLocs (e.fs.map (·.2)) = true then .ex e else .no
    | _ => .no) else .no := rfl
  by_cases hl : ds.length = np
  · rw [if_pos hl] at key
    refine h _ _ _ _ _ _ (R.start (N := N) r) ?_
    cases hc : m ⟨startD N.length ds, []⟩ with
    | nx s' =>
      rw [hc] at key
      rw [key] at hm
      exact fun th' G' H' σ' l R' => hm G' H' .non (l.enter rfl) R'.enter rfl
    | rt d s' =>
      rw [hc] at key
      by_cases hn : noLoc d = true
      · rw [key] at hm
        simp only [hn, if_true] at hm
        exact fun th' G' H' σ' v l R' r' => hm G' H' v (l.enter rfl) R'.enter (r'.bare hn)
      · rw [key] at hm
        simp only [hn] at hm
        exact hm.elim
    | ex e s' =>
      rw [hc] at key
      by_cases hn : noLocs (e.fs.map (·.2)) = true
      · rw [key] at hm
        simp only [hn, if_true] at hm
        subst hW
        exact fun th' G' H' σ' cls dd l R' r' => hm G' H' cls dd (l.enter rfl) R'.enter (by obtain ⟨q1, us, q2, q3⟩ := r'; exact ⟨q1, us, q2.bare hn, q3⟩)
      · rw [key] at hm
        simp only [hn] at hm
        exact hm.elim
    | bk s' => rw [hc] at key; rw [key] at hm; exact hm.elim
    | ct s' => rw [hc] at key; rw [key] at hm; exact hm.elim
    | no => rw [hc] at key; rw [key] at hm; exact hm.elim
  · rw [if_neg hl] at key
    rw [key] at hm
    exact hm.elim
theorem sp_len {n np : Nat} {m : MS} {vs : List V} {Q : VK} {E : XK} (hsp : spP K B (pureOf n np m) vs H Q E) : vs.length = np := by
  obtain ⟨G, ds, R, r, hm⟩ := hsp
  by_cases hl : ds.length = np
  · rw [r.length]; exact hl
  · have key : pureOf n np m ds = .no := if_neg hl
    rw [key] at hm
    exact hm.elim
end
/-- the promise of a def that takes data and gives data -/
abbrev FnP (P : Program) (w : World) (K : PySem.W.Frag) (mg : Str → Option Value) (base : Heap) (B : Bs) (k : Nat) (f : Addr) (fd : FuncData) (ps : List Str) (pf : List D → PR) : Prop := FnOk P w K mg base (L2.CX P w) k f fd ps (spP K B pf)
section
variable {P : Program} {w : World} {K : PySem.W.Frag} {mg : Str → Option Value} {base : Heap} {B : Bs} {x qual : Str} {params : Arguments} {body : List Stmt} {scope : Scope} {dvs : List V} {kws : List (Str × V)} {f : Addr} {fd : FuncData}
theorem def_pure {N ps : List Str} {k : Nat} {m : MS} (F : FunD K x qual params body scope dvs kws f fd) (Sc : FnScope N ps scope)
    (hbody : ∀ (cdv : Value) (A : Around) (outer : List Env) (s : Shared) (H : Hp) (E : XK), fd.code = cdv → Room k (A.deeper (envOfC qual scope s.heap.objs.size f cdv)) → ∃ t, VSs (cxOf (L2.CX P w) P w K mg base N qual scope f cdv A outer s H E) B (fun c d _ H => E c d H) body t m) :
    FnP P w K mg base B (k + 1) f fd ps (pureOf N.length ps.length m) :=
  by
  obtain ⟨oc, od, dV, kV, doc, pm, an, cdv, ct, osl, rfl, lk, hcd, _, _⟩ := F.ex
  exact fn_of lk hcd Sc (fun vs H Q E h => sp_len h) fun A outer s H vs Q E hr h => by
    obtain ⟨t, hv⟩ := hbody cdv A outer s H E rfl hr
    exact ⟨t, hv.ps, body_run (P := P) (w := w) (mg := mg) (base := base) rfl hv.sem h⟩
end
section
variable {X : Cx} {B : Bs} {W : WX} {e : Expr} {es : List Expr} {t : TA} {m : MA} {pf : List D → PR} {p pos : Pos} {k : Nat} {f : Addr} {fd : FuncData} {ps : List Str} {x : Str}
theorem ve_call (F : FnP X.prog X.w X.K X.mg X.base B k f fd ps pf) (hr : Room k X.A) (hg : Gl X x) (hm : X.mg x = some (.ref f)) (hk : PySem.W.keepIn X.K (.ref f) = true) (hb : Binds X.K fd ps []) (tk : Takes X W) (ha : VA X B W (e :: es) t m)
    (hdb : (x == ("__debug__" : Str)) = false := by decide) (he : starEach (e :: es) X.env = (false, eval e X.env) :: starEach es X.env := by rfl) (hpl : (backTo pos (starEach es X.env)).any (·.1) = false := by rfl) :
    VE X B W (.Call (.Name x p) (e :: es) [] pos) (tCallS (spP X.K B pf) (WE W) t) (eCall pf m) := ⟨pe_callS F hr hg hm hk hb (fun σ => passAt tk σ) ha.pa hdb he hpl, sem_call ha.sem⟩
end
end VL
namespace VL
open PySem PySem.Spec PyProof.Rows L2

/-! ### a def by its name -/
structure CallOk (P : Program) (w : World) (K : PySem.W.Frag) (mg : Str → Option Value) (base : Heap) (B : Bs) (x : Str) (k : Nat) (ps : List Str) (pf : List D → PR) : Prop where
  ex : ∃ f fd, FnP P w K mg base B k f fd ps pf ∧ mg x = some (.ref f) ∧ PySem.W.keepIn K (.ref f) = true ∧ Binds K fd ps []
section
variable {X : Cx} {B : Bs} {W : WX} {e : Expr} {es : List Expr} {t : TA} {m : MA} {pf : List D → PR} {p pos : Pos} {k n : Nat} {ps : List Str} {x : Str} {a b : Expr} {ta tb : TE} {ma mb : ME}
theorem ve_own_call (c : CallOk X.prog X.w X.K X.mg X.base B x k ps pf) (hr : Room n X.A) (hn : k ≤ n) (hg : Gl X x) (tk : Takes X W) (ha : VA X B W (e :: es) t m)
    (hdb : (x == ("__debug__" : Str)) = false := by decide) (he : starEach (e :: es) X.env = (false, eval e X.env) :: starEach es X.env := by rfl) (hpl : (backTo pos (starEach es X.env)).any (·.1) = false := by rfl) :
    VE X B W (.Call (.Name x p) (e :: es) [] pos) (tCallS (spP X.K B pf) (WE W) t) (eCall pf m) := by
  obtain ⟨f, fd, F, hm, hk, hb⟩ := c.ex
  exact ve_call F (hr.mono hn) hg hm hk hb tk ha hdb he hpl
/-! ### a global that is an int, a text -/
theorem ve_gint {i : Int} (hg : Gl X x) (hm : ∃ t, X.mg x = some (.int i t)) (hd : (x == ("__debug__" : Str)) = false := by decide) : VE X B W (.Name x p) (tC (.int i)) (eC (.int i)) := by
  obtain ⟨t, hm⟩ := hm
  exact ⟨pe_glob hg hm ⟨t, rfl⟩ hd, sem_c fun _ _ => rfl⟩
theorem ve_gstr {z : Str} {l : List Nat} (hg : Gl X x) (hm : ∃ t, X.mg x = some (.str z t)) (h : z.cps = l.toArray := by rfl) (hd : (x == ("__debug__" : Str)) = false := by decide) : VE X B W (.Name x p) (tC (.str z)) (eC (.str l)) := by
  obtain ⟨t, hm⟩ := hm
  refine ⟨pe_glob hg hm ⟨t, rfl⟩ hd, sem_c fun _ _ => ?_⟩
  obtain ⟨c⟩ := z
  have h : c = l.toArray := h
  subst h; rfl
abbrev fLt : D → D → S → R (D × S) := fP (gCmp (fun i j => decide (i < j)) fun i j => decide (i < j))
abbrev fLe : D → D → S → R (D × S) := fP (gCmp (fun i j => decide (i ≤ j)) fun i j => !decide (j < i))
abbrev fGt : D → D → S → R (D × S) := fP (gCmp (fun i j => decide (j < i)) fun i j => decide (j < i))
abbrev fGe : D → D → S → R (D × S) := fP (gCmp (fun i j => decide (j ≤ i)) fun i j => !decide (i < j))
/-! ### times -/
def mulOk (i j : Int) : Bool := decide (-18446744073709551616 < i ∧ i < 18446744073709551616) || decide (-18446744073709551616 < j ∧ j < 18446744073709551616)
def fMul : D → D → S → R (D × S) := fP (gI mulOk fun i j => .int (i * j))
theorem ve_mul (ha : VE X B W a ta ma) (hb : VE X B W b tb mb) : VE X B W (.BinOp a .Mult b pos) (tOp (rI CMul fun i j => .int (i * j)) ta tb) (eOp fMul ma mb) := ⟨pe_op op_mul ha.pe hb.pe, sem_op (semR_I (fun i j h => by
  simp only [mulOk, Bool.or_eq_true, decide_eq_true_eq] at h
  have e : (2 : Int) ^ 64 = 18446744073709551616 := rfl
  show (-(2 ^ 64 : Int) < i ∧ i < (2 ^ 64 : Int)) ∨ (-(2 ^ 64 : Int) < j ∧ j < (2 ^ 64 : Int))
  rw [e]
  exact h) fun _ _ _ _ => rfl) ha.sem hb.sem⟩
/-! ### the block of a comprehension -/
structure BlkC (N : List Str) (sc scope : Scope) (own : List (Str × Nat)) : Prop where
  u : scope.names.all (fun y => decide (scope.names.lookup y.1 = some y.2)) = true
  i : own.all (fun p => decide (N[p.2]? = some p.1)) = true
  f : scope.names.all (fun y => decide (y.2 ≠ .free) || (decide (sc.names.lookup y.1 = some .cell) || decide (sc.names.lookup y.1 = some .free))) = true
  o : scope.names.all (fun y => (decide (y.2 ≠ .local) && decide (y.2 ≠ .cell)) || (decide (y.1 ∈ own.map (·.1)) || decide (y.1 ∉ N))) = true
theorem blk_ok {N : List Str} {sc scope : Scope} {own : List (Str × Nat)} (hk : scope.kind = .function) (h : BlkC N sc scope own) : BlkOk N sc scope own where
  kind := hk
  uniq := fun y hy => of_decide_eq_true (List.all_eq_true.mp h.u y hy)
  ix := fun p hp => of_decide_eq_true (List.all_eq_true.mp h.i p hp)
  free := fun y hy e => by
    have := List.all_eq_true.mp h.f y hy
    simp only [Bool.or_eq_true, decide_eq_true_eq] at this
    rcases this with q | q
    · exact absurd e q
    · exact q
  own := fun y hy e => by
    have := List.all_eq_true.mp h.o y hy
    simp only [Bool.or_eq_true, Bool.and_eq_true, decide_eq_true_eq] at this
    rcases this with q | q
    · rcases e with e | e
      · exact absurd e q.1
      · exact absurd e q.2
    · exact q

theorem hu {A : Around} {n : Nat} (j : Nat) (hr : Room n A) (h : j ≤ 199 := by decide) : A.units + j < cLine := by have := hr.un; omega
theorem gen_sc {env : Env} {scope : Scope} {x : Str} (hk : scope.kind = .function) (hc : scope.isCoroutine = false) (cell : scope.names.all (fun y => decide (y.2 ≠ .cell)) = true) (dot : scope.names.lookup (".0" : Str) = some NameKind.local)
    (loc : scope.names.lookup x = some .local) (fr : scope.names.all (fun y => decide (y.2 ≠ .free)) = true) : GxR.GenS env scope x :=
  ⟨hk, hc, fun y hy => of_decide_eq_true (List.all_eq_true.mp cell y hy), dot, loc, fun y hy e => absurd e (of_decide_eq_true (List.all_eq_true.mp fr y hy))⟩
theorem tk_of {P : Program} {w : World} {K : PySem.W.Frag} {mg : Str → Option Value} {base : Heap} {N : List Str} {qual : Str} {scope : Scope} {f : Addr} {cd : Value} {A : Around} {outer : List Env} {s : Shared} {H : Hp} {E : XK} :
    Takes (cxOf (L2.CX P w) P w K mg base N qual scope f cd A outer s H E) (fun c d _ H => E c d H) := takes_of rfl rfl rfl rfl
theorem vb_len : bootBuiltins "len" = some (.builtin "len") := by decide +kernel
theorem vb_sum : bootBuiltins "sum" = some (.builtin "sum") := by decide +kernel
theorem vb_abs : bootBuiltins "abs" = some (.builtin "abs") := by decide +kernel
theorem vb_max : bootBuiltins "max" = some (.builtin "max") := by decide +kernel
theorem vb_min : bootBuiltins "min" = some (.builtin "min") := by decide +kernel
theorem vb_all : bootBuiltins "all" = some (.builtin "all") := by decide +kernel
theorem vb_any : bootBuiltins "any" = some (.builtin "any") := by decide +kernel
theorem vb_sorted : bootBuiltins "sorted" = some (.builtin "sorted") := by decide +kernel
theorem vb_int : bootBuiltins "int" = some (.type "int") := by decide +kernel
theorem vb_bool : bootBuiltins "bool" = some (.type "bool") := by decide +kernel
theorem vb_str : bootBuiltins "str" = some (.type "str") := by decide +kernel
theorem vb_list : bootBuiltins "list" = some (.type "list") := by decide +kernel
theorem vb_tuple : bootBuiltins "tuple" = some (.type "tuple") := by decide +kernel
theorem vb_set : bootBuiltins "set" = some (.type "set") := by decide +kernel
theorem vb_dict : bootBuiltins "dict" = some (.type "dict") := by decide +kernel
/-! ### all, any of a list of truths -/
def blsD : List D → Option (List Bool)
  | [] => some []
  | .bl b :: l => (blsD l).map (b :: ·)
  | _ => none
theorem blsD_at {K : PySem.W.Frag} {th : List Addr} {G : Hp} : ∀ {l : List D} {vs : List V} {bs : List Bool}, AtL K th G l vs → blsD l = some bs → vs = bs.map V.bl
  | [], _, _, h, e => by cases h; cases e; rfl
  | d :: l, _, bs, h, e => by
    obtain ⟨v, r, rfl, q, z⟩ := h
    cases d <;> simp only [blsD] at e <;> first
      | (cases e; done)
      | (cases hb : blsD l with
         | none => rw [hb] at e; cases e
         | some cs =>
           rw [hb] at e
           cases e
           cases q
           rw [blsD_at z hb]; rfl)
def gAllL (f : List Bool → Bool) : S → D → Option D := fun s d => match lstOf s d with
  | some l => match blsD l with
    | some bs => some (.bl (f bs))
    | none => none
  | none => none
theorem semC_all {K : PySem.W.Frag} : SemC K B W (rAll K) (c1 (gAllL allB)) := semC_1 fun s th G σ H Q d v z R h e P => by
  simp only [gAllL] at e
  cases hl : lstOf s d with
  | none => rw [hl] at e; cases e
  | some l =>
    rw [hl] at e
    dsimp only at e
    cases hb : blsD l with
    | none => rw [hb] at e; cases e
    | some bs =>
      rw [hb] at e
      cases e
      obtain ⟨a, vs, rfl, q, r⟩ := R.lst_of h hl
      cases blsD_at r hb
      exact ⟨a, bs, rfl, .inl (.inl q), Post.ok (rel := relE K) P R rfl⟩
theorem semC_any {K : PySem.W.Frag} : SemC K B W (rAny K) (c1 (gAllL anyB)) := semC_1 fun s th G σ H Q d v z R h e P => by
  simp only [gAllL] at e
  cases hl : lstOf s d with
  | none => rw [hl] at e; cases e
  | some l =>
    rw [hl] at e
    dsimp only at e
    cases hb : blsD l with
    | none => rw [hb] at e; cases e
    | some bs =>
      rw [hb] at e
      cases e
      obtain ⟨a, vs, rfl, q, r⟩ := R.lst_of h hl
      cases blsD_at r hb
      exact ⟨a, bs, rfl, .inl (.inl q), Post.ok (rel := relE K) P R rfl⟩

/-! ### the reading that the mirror itself tells -/
def cE (K : PySem.W.Frag) (B : Bs) (W : WX) (m : ME) : TE := fun σ H Q => ∃ s th G, Rep K B th G s σ H ∧ Post K B W σ th G H (relE K) (m s) Q
def cTt (K : PySem.W.Frag) (B : Bs) (W : WX) (m : MT) : TT := fun σ H Q => ∃ s th G, Rep K B th G s σ H ∧ Post K B W σ th G H relT (m s) Q
theorem ve_c {K : PySem.W.Frag} {t : TE} (h : VE X B W a t ma) (hK : X.K = K := by rfl) : VE X B W a (cE K B W ma) ma := by
  subst hK
  exact ⟨⟨fun pins s σ H Q I ⟨s', th, G, R, P⟩ => h.pe.run pins s σ H Q I (h.sem s' th G σ H Q R P)⟩, fun s th G σ H Q R P => ⟨s, th, G, R, P⟩⟩
theorem vts_c {K : PySem.W.Frag} {t : TT} {mt : MT} {ifs : List Expr} (h : VTs X B W ifs t mt) (hK : X.K = K := by rfl) : VTs X B W ifs (cTt K B W mt) mt := by
  subst hK
  exact ⟨⟨fun pins s σ H Q I ⟨s', th, G, R, P⟩ => h.pt.run pins s σ H Q I (h.sem s' th G σ H Q R P)⟩, fun s th G σ H Q R P => ⟨s, th, G, R, P⟩⟩

/-! ### name = [..] on one line -/
variable {elt tg iter : Expr} {ifs : List Expr} {scope : Scope} {own : List (Str × Nat)} {spos py : Pos} {wi : TI} {g : TG} {tt : TT} {te : TE} {mi : MA} {mg : MG} {mt : MT} {me : ME} {y : Str}
theorem vs_setLc (i : Nat) {ef : MF → ME} (hef : ∀ {X : Cx} {e : Expr} {t : TE} {mf : MF}, VF X B W e t mf → VE X B W e t (ef mf)) (hc : X.calm = true) (hN : X.N.Nodup) (hi : VI X B W tg iter wi mi) (ok : BlkOk X.N X.env.scope scope own)
    (hg : ∀ (s : Shared) (H : Hp) (C : Addr) (cl : List (Str × Addr)) (fp : List Addr), VG (X.blk s H scope (compEnvC scope cl C X.env) fp) B Wf tg g mg) (hin : GIn g (own.map (·.2))) (hmono : GMono g)
    (ht : ∀ (s : Shared) (H : Hp) (C : Addr) (cl : List (Str × Addr)) (fp : List Addr), VTs (X.blk s H scope (compEnvC scope cl C X.env) fp) B Wf ifs tt mt)
    (he : ∀ (s : Shared) (H : Hp) (C : Addr) (cl : List (Str × Addr)) (fp : List Addr), VE (X.blk s H scope (compEnvC scope cl C X.env) fp) B Wf elt te me) (s0 : Shared)
    (hy : X.N[i]? = some y := by rfl) (hyl : X.env.scope.names.lookup y = some .local := by rfl) (hsw : swapsWith (.ListComp elt [⟨tg, iter, ifs, 0⟩] scope pos) (some (.Name y py)) spos.line X.env = pure true := by rfl)
    (hs : ∀ x, foldedSetIterable iter X.env x = pure x := by intro _; rfl) :
    VS X B W (.Assign [.Name y py] (.ListComp elt [⟨tg, iter, ifs, 0⟩] scope pos) spos) (tAsg (tLc wi g tt te (own.map (·.2))) (gName i)) (sAsg (ef (fLc mi mg mt me (own.map (·.2)))) (gN i)) :=
  ⟨ps_setLc hc hN hy hyl hsw hi.pi ok (fun s H C cl fp => (hg s H C cl fp).pg) (fun s H C cl fp => (ht s H C cl fp).pt) (fun s H C cl fp => (he s H C cl fp).pe) hs,
    fun s th G σ H Dn R P => (hef (vf_lc (pos := pos) hc hN hi ok hg hin hmono ht he s0 hs)).sem s th G σ H _ R (P.to fun d s' th' G' H' v l' R' r P' => P'.nx0 (R'.sets r))⟩
end
end VL
namespace VL
open PySem PySem.Spec PyProof.Rows L2 He

theorem walk_ofET {l : PySem.W.OpenLaw} {n k : Nat} {q : Program} {loose : List Str} {XP : (Str → Option Value) → Heap → Prop} {YP : World → Heap → Prop} {d : DefRec} {CX : World → CXT} {x : Str}
    (hn : l.most = some n) (hn2 : n ≤ sizeLine) (hdf : d.params.defaults = []) (hr : Room k callerA)
    (F : ∀ (w : World) (mg : Str → Option Value) (fa : Addr) (h : Heap), YP w h → h.Ns mainGlobals mg → mg d.name = some (.ref fa) → ∃ K : PySem.W.Frag, K.In h ∧ LamX.LawAtS l w K (CX w) k n x mg fa h)
    (hCX : ∀ (w : World) (H : Hp) (s : Shared) (e : Value) (s' : Shared), CX w [] H s (fun _ _ _ => False) e s' → False) :
    PySem.W.WalkO q loose XP YP l.row.toRowW d [] (fun f vs => PySem.call f vs) := by
  refine Att.attach_callB hn hdf fun w s₀ s₁ mg mb fa o pm cd doc a vs ns G Y ho hd hcd hmg hobj hints hlen hbits hg => ?_
  obtain ⟨K, KX, fd, cs, sp, hT, nT, C, hb, hsp, hF⟩ := F w mg fa _ Y G.T.g hmg
  exact LamX.law_callTs KX G.T.g G.T.b G.T.builtins G.T.nolimit hg hT nT C G.T.bmain hobj hints (Nat.le_trans hlen hn2) hr hF hb (fun H hH hS => hsp H a ns hlen hbits hH hS) fun H e s' => hCX w H s₁ e s'
theorem cx_end {P : Program} {w : World} {H : Hp} {s : Shared} {e : Value} {s' : Shared} (h : L2.CX P w [] H s (fun _ _ _ => False) e s') : False := by
  obtain ⟨_, _, _, _, _, _, _, _, _, _, _, _, z⟩ := h
  exact z
theorem law_sp {K : PySem.W.Frag} {B : Bs} {f : List D → PR} {H : Hp} {a : Addr} {ns : List Int} (hf : f [.scr ns] = .ok (.bl true)) (hT : ∀ P, B.Tb P → GxR.TabG H P) (hS : SqL K H a (ns.map V.int)) :
    spP K B f [.ref a] H (fun v _ => v = .bl true) fun _ _ _ => False := by
  refine ⟨H, [.scr ns], ⟨rfl, fun i d e => by simp at e, Ex.refl H, hT, rfl, List.nodup_nil, fun a h => by simp at h, fun n ob a e => by simp at e⟩, ⟨_, _, rfl, ⟨a, rfl, hS⟩, rfl⟩, ?_⟩
  rw [hf]
  exact fun G' H' v _ _ r => r
/-- the tables of the defs tf, the classes by their names -/
def bsOf (K : PySem.W.Frag) (tf : List Defn) : Bs := ⟨fun P => ∃ p ∈ tf, (cT K p).2 = P, fun x => ga K x⟩
theorem code_tab {K : PySem.W.Frag} {x qual : Str} {params : Arguments} {body : List Stmt} {scope : Scope} {dvs : List V} {kws : List (Str × V)} {p : Defn} {fd : FuncData} (F : FunD K x qual params body scope dvs kws (fAd K p) fd) : fd.code = .ref (He.cT K p).1 := by
  obtain ⟨oc, od, dV, kV, doc, pm, an, cdv, ct, osl, rfl, lk, hcd, _, _⟩ := F.ex
  obtain ⟨c, rfl⟩ := codeIn_ref hcd
  show Value.ref c = .ref (codeOf K p)
  rw [codeOf_eq lk rfl]
theorem call_ok {P : Program} {w : World} {K : PySem.W.Frag} {mg : Str → Option Value} {base : Heap} {B : Bs} {x : Str} {k : Nat} {ps : List Str} {pf : List D → PR} {params : Arguments} {body : List Stmt} {scope : Scope} {kws : List (Str × V)} {f : Addr} {fd : FuncData}
    (F : FunD K x x params body scope [] kws f fd) (hm : mg x = some (.ref f)) (h : FnP P w K mg base B k f fd ps pf)
    (hb : ∀ (kV doc pm : Value) (an : Option Addr) (cdv ct : Value) (us : List Value), us.length = ps.length → bindArgs (PySem.W.fnOf x x params body scope .none kV doc pm an cdv ct) ⟨us, []⟩ = pure (ps.zip us)) : CallOk P w K mg base B x k ps pf :=
  ⟨f, fd, h, hm, F.kp, F.bindsN hb⟩
theorem tab_of {base : Heap} {mg : Str → Option Value} {c P : Addr} (t : LamX.TabB base mg c P) : GxR.TabB base mg c P := ⟨t.code, t.bm, t.gP⟩
theorem callerRoom : Room 30 callerA := ⟨rfl, by decide, by decide⟩
end VL
/-! t[::-1] of tuples -/
namespace TR
open PySem PySem.Spec PyProof.Rows L2
section
variable {prog : Program} {w : World} {A : Around} {E : Value → Shared → Prop} {s : Shared}
theorem adj_back (n : Nat) : Builtin.Slice.sliceAdjust none none (-1) (n : Int) = ((n : Int) - 1, -1) := by
  unfold Builtin.Slice.sliceAdjust
  have neg : (-1 : Int) < 0 := by omega
  simp [neg]
theorem places_back (n : Nat) : Builtin.Slice.slicePlaces ((n : Int) - 1) (-1) (-1) = n := by
  unfold Builtin.Slice.slicePlaces
  have neg : ¬ ((-1 : Int) > 0) := by omega
  simp only [neg, if_false]
  split <;> simp <;> omega
theorem applied_back {sl : Addr} {vs : Value} {n : Nat} {Q : Int × Int × Nat → Shared → Prop} (hsl : s.heap.IsSliceOf sl .none .none vs) (ps : IsPart vs (some (-1)))
    (k : Q ((n : Int) - 1, -1, n) s) : wpAny (model prog w) A (Builtin.Slice.sliceApplied (.ref sl) (pure (n : Int))) Q E s := by
  obtain ⟨o3, g3, c3, d3⟩ := id hsl
  unfold Builtin.Slice.sliceApplied Builtin.Slice.sliceFields
  refine wpAny_bind (wpAny_bind (wpAny_field g3 d3 (x := .none) rfl (wpAny_bind (wpAny_field g3 d3 (x := .none) rfl (wpAny_bind (wpAny_field g3 d3 (x := vs) rfl (wpAny_pure ?_)))))))
  refine wpAny_bind (HT.slicePart_ ps ?_)
  show wpAny _ _ (if ((-1 : Int) == 0) = true then _ else _) _ _ s
  rw [if_neg (by decide)]
  refine wpAny_bind (HT.slicePart_ .none (wpAny_bind (HT.slicePart_ .none (wpAny_bind (wpAny_pure ?_)))))
  show wpAny _ _ (match Builtin.Slice.sliceAdjust none none (-1) (n : Int) with | (p, q) => pure (p, (-1 : Int), Builtin.Slice.slicePlaces p q (-1))) _ _ s
  rw [adj_back n]
  show wpAny _ _ (pure ((n : Int) - 1, (-1 : Int), Builtin.Slice.slicePlaces ((n : Int) - 1) (-1) (-1))) _ _ s
  rw [places_back]
  exact wpAny_pure k
theorem fm_congr {α β : Type} {f g : α → Option β} : ∀ {l : List α}, (∀ a ∈ l, f a = g a) → l.filterMap f = l.filterMap g
  | [], _ => rfl
  | a :: l, h => by rw [List.filterMap_cons, List.filterMap_cons, h a List.mem_cons_self, fm_congr fun b hb => h b (List.mem_cons_of_mem _ hb)]
theorem pick_back (xs : Array Value) : ((List.range xs.size).filterMap fun (m : Nat) => xs[(((xs.size : Int) - 1) + (m : Int) * (-1)).toNat]?).toArray = xs.toList.reverse.toArray := by
  have e := PySem.W.krv_pick xs
  unfold slicePick at e
  rw [PySem.W.krv_bounds] at e
  rw [← e]
  show _ = ((sliceRange ((xs.size : Int) - 1) (-1) (-1)).filterMap (xs[·]?)).toArray
  rw [PySem.W.krv_sliceRange, List.filterMap_map]
  congr 1
  apply fm_congr
  intro m hm
  have := List.mem_range.mp hm
  show xs[(((xs.size : Int) - 1) + (m : Int) * (-1)).toNat]? = xs[xs.size - 1 - m]?
  congr 1
  omega
theorem item_back {t sl : Addr} {items : Array Value} {vs : Value} {Q : Value → Shared → Prop} (ht : IsTup s.heap t items) (hsl : s.heap.IsSliceOf sl .none .none vs) (ps : IsPart vs (some (-1)))
    (k : Q (.ref s.heap.objs.size) { s with heap := s.heap.push { cls := .type "tuple", data := .seq items.toList.reverse.toArray } })
    (hz : items.size ≤ sizeLine) : wpAny (model prog w) A (getItem (.ref t) (.ref sl)) Q E s := by
  have fits : sizeOk (.seq items.toList.reverse.toArray) := by
    show items.toList.reverse.toArray.size ≤ sizeLine
    rw [List.size_toArray, List.length_reverse, Array.length_toList]
    exact hz
  obtain ⟨o3, g3, c3, d3⟩ := id hsl
  have hT3 : s.TypeIs (.ref sl) "slice" := ⟨o3, g3, c3⟩
  unfold getItem
  try with_reducible refine wpAny_holding ?_
  first | refine wpAny_bind (wpAny_pure ?_) | skip
  refine wpAny_bind (wpAny_sequenceKey ht.typeIs (by decide) ?_)
  refine wpAny_bind (wpAny_callSpecial?_slot (name := Str.ofString "__getitem__") ht.typeIs PyProof.Rows.slot_tuple_getitem
    (wpAny_call_entry PyProof.Rows.slot_tuple_getitem ht.typeIs entry_tuple_getitem ?_ (args_tuple_getitem _ _)))
  show wpAny _ _ (Builtin.Tuple.tupleItemsOf (.ref t) >>= _) _ _ s
  refine wpAny_bind (tupleItemsOf_ ht ?_)
  refine wpAny_bind (wpAny_typeOf hT3 ?_)
  rw [if_pos (by decide)]
  refine wpAny_bind (applied_back hsl ps ?_)
  have hno : ¬ ((((items.size : Int) - 1) == 0 && (-1 : Int) == 1 && items.size == items.size) = true) := by
    rw [show ((-1 : Int) == 1) = false by decide, Bool.and_false, Bool.false_and]
    exact Bool.false_ne_true
  show wpAny _ _ (if (((items.size : Int) - 1) == 0 && (-1 : Int) == 1 && items.size == items.size) = true then _ else _) _ _ s
  rw [if_neg hno, pick_back]
  first
    | exact wpAny_bind (m := Builtin.Tuple.tupleExact _) (wpAny_newObj_type (wpAny_pure ⟨_, rfl, wpAny_pure k⟩) fits)
    | exact wpAny_bind (m := Builtin.Tuple.tupleExact _) (wpAny_newObj_type (wpAny_bind (wpAny_pure (wpAny_pure ⟨_, rfl, wpAny_pure k⟩))) fits)
    | exact wpAny_bind (wpAny_bind (m := Builtin.Tuple.tupleExact _) (wpAny_newObj_type (wpAny_pure (wpAny_pure ⟨_, rfl, wpAny_pure k⟩)) fits))
    | exact wpAny_bind (wpAny_bind (m := Builtin.Tuple.tupleExact _) (wpAny_newObj_type (wpAny_pure ⟨_, rfl, wpAny_pure k⟩) fits))
end
section
variable {X : Cx}
/-- xs[::-1] of a list or a tuple -/
def tBack (K : PySem.W.Frag) (te : TE) : TE := fun σ H Q => te σ H fun x H1 => ∃ a xs, x = .ref a ∧ ((SqL K H1 a xs ∧ ∀ p, H1 p = none → Q (.ref p) (upd H1 p (.lst xs.reverse))) ∨ (SqT K H1 a xs ∧ ∀ p, H1 p = none → Q (.ref p) (upd H1 p (.tup xs.reverse))))
theorem pe_back {e : Expr} {te : TE} {k : Nat} {p1 p2 p3 pos : Pos} (he : PE X e te) : PE X (.Subscript e (.Slice none none (some (.UnaryOp .USub (.Constant (.int 1) k p1) p2)) p3) pos) (tBack X.K te) := by
  refine ⟨fun pins s σ H Q I h => Subscript_ (thn (he.run pins s σ H _ I h) fun v s1 ⟨x, H1, I1, r1, a, xs, ex, q1⟩ => ?_)⟩
  subst ex
  cases r1
  have minus : PO X (some (.UnaryOp .USub (.Constant (.int 1) k p1) p2)) (tPart (tUn (rU fun i => .int (-i)) (tC (.int 1)))) := po_some (pe_un un_neg pe_int)
  refine wpAny_Slice (thn (po_none.run pins s1 σ H1 (fun o Hx => o = none ∧ Hx = H1) I1 ⟨rfl, rfl⟩) fun vl s2 ⟨l, H2, I2, pl, el, e2⟩ => ?_)
  subst el e2
  refine thn (po_none.run pins s2 σ H2 (fun o Hx => o = none ∧ Hx = H2) I2 ⟨rfl, rfl⟩) fun vu s3 ⟨u, H3, I3, pu, eu, e3⟩ => ?_
  subst eu e3
  refine thn (minus.run pins s3 σ H3 (fun o Hx => o = some (-1) ∧ Hx = H3) I3 ⟨1, rfl, -1, rfl, rfl, rfl⟩) fun vs s4 ⟨o, H4, I4, ps, eo, e4⟩ => ?_
  subst eo e4
  have I5 : Inv X pins σ H4 { s4 with heap := s4.heap.push { cls := .type "slice", data := .fields #[vl, vu, vs] } } := I4.kept (t' := s4.toks) fun b ob q => Heap.get?_push_of_some _ q
  show wpAny (model X.prog X.w) X.A (subscriptTail e (.Slice none none (some (.UnaryOp .USub (.Constant (.int 1) k p1) p2)) p3) (.ref a) (.ref s4.heap.objs.size)) (EP X pins σ Q) X.xe _
  rcases q1 with ⟨hx, q⟩ | ⟨hx, q⟩
  · obtain ⟨its, r, ht, hz⟩ := I5.list hx
    have hl := r.length
    refine tail_any (ops := [.ref a, .ref s4.heap.objs.size]) ht.isList.typeIs (PySem.slot_list_getitem.lookup) ?_ (by with_unfolding_all rfl)
    refine wpAny_getItem_list_slice ht.isList (Heap.IsSliceOf.new _ vl vu vs) pl pu ps (by decide) ?_ (by rw [List.size_toArray]; omega)
    rw [PySem.W.krv_pick]
    exact ⟨.ref _, _, I5.laid (t' := s4.toks) (o := .lst xs.reverse) (fun b ob q => Heap.get?_push_of_some _ q) (Nat.le_refl _) ⟨by rw [List.length_reverse]; exact hz, _, 0, r.reverse, Heap.get?_push_size _ rfl⟩, rfl, q _ (I5.hok.fresh (Nat.le_refl _))⟩
  · obtain ⟨its, r, ht, hz⟩ := I5.tuple hx
    have hl := r.length
    have e0 : vl = .none := by cases pl; rfl
    have e1 : vu = .none := by cases pu; rfl
    subst e0 e1
    refine tail_any (ops := [.ref a, .ref s4.heap.objs.size]) ht.typeIs PyProof.Rows.slot_tuple_getitem.lookup ?_ (by with_unfolding_all rfl)
    refine item_back ht (Heap.IsSliceOf.new _ _ _ vs) ps ?_ (by rw [List.size_toArray]; omega)
    exact ⟨.ref _, _, I5.laid (t' := s4.toks) (o := .tup xs.reverse) (fun b ob q => Heap.get?_push_of_some _ q) (Nat.le_refl _) ⟨by rw [List.length_reverse]; exact hz, _, r.reverse, IsTup.new _ _⟩, rfl, q _ (I5.hok.fresh (Nat.le_refl _))⟩
end
end TR
/-! enumerate over tuples -/
namespace ET
open PySem PySem.Spec PyProof.Rows L2
theorem newT (t : Addr) (items : Array Value) :
    Meets (Builtin.«enumerate.__new__» ⟨[.type "enumerate", .ref t], []⟩) (fun _ R s => s.heap.IsTuple t items ∧
      R (.ok (.ret (.ref (s.heap.push { cls := .type "tuple_iterator", data := .fields #[.ref t, .int 0 0] }).objs.size)))
        { s with heap := (s.heap.push { cls := .type "tuple_iterator", data := .fields #[.ref t, .int 0 0] }).push { cls := .type "enumerate", data := .fields #[.none, .bool false, .ref s.heap.objs.size, rawInt 0, .none, .none] } }) :=
  .of_wp fun prog w A R s h => by
    obtain ⟨hp, g, d, tk, os⟩ := s
    obtain ⟨hT, h⟩ := h
    have hsub := sub_enumerate
    have q1 : ∀ {A' : Around} {E : Value → Shared → Prop} {Q : Value → Shared → Prop}, Q (.ref hp.objs.size) ⟨hp.push { cls := .type "tuple_iterator", data := .fields #[.ref t, .int 0 0] }, g, d, tk, os⟩ → wpAny (model prog w) A' (pyIter (.ref t)) Q E ⟨hp, g, d, tk, os⟩ :=
      fun q => (begins_tuple t items).iter prog w _ _ ⟨hp, g, d, tk, os⟩ _ hT q
    wp_walk using q1
    refine wpAny_stack_any fun st => wpAny_pure ?_
    split
    · rename_i c _ _ _ _ _
      cases (c == Value.type "enumerate") <;> (wp_walk using q1; exact ⟨_, rfl, h⟩)
    · wp_walk using q1
      exact ⟨_, rfl, h⟩
section
variable {prog : Program} {w : World} {A : Around} {E : Value → Shared → Prop} {s : Shared}
theorem make {t : Addr} {items : Array Value} {Q : Value → Shared → Prop} (hT : s.heap.IsTuple t items)
    (k : ∀ hh, IsEnum hh (s.heap.objs.size + 1) s.heap.objs.size 0 .none → hh.IsTupleIter s.heap.objs.size t 0 → hh.objs.size = s.heap.objs.size + 2 →
      (∀ b o, s.heap.get? b = some o → hh.get? b = some o) → Q (.ref (s.heap.objs.size + 1)) { s with heap := hh }) :
    wpAny (model prog w) A (call (.type "enumerate") [.ref t]) Q E s := by
  refine callType_new F.called_enumerate (by decide) (F.typeCall_enumerate_1 _) (F.newCall_enumerate_1 _) (fun obj => F.args_object_init_2 obj _) F.entry_enumerate_new
    (newT t items) ⟨hT, ?_⟩
  have hz : (s.heap.push { cls := .type "tuple_iterator", data := .fields #[.ref t, .int 0 0] }).objs.size = s.heap.objs.size + 1 := Heap.size_push ..
  show _ ∧ _
  rw [hz]
  have he : IsEnum ((s.heap.push { cls := .type "tuple_iterator", data := .fields #[.ref t, .int 0 0] }).push
      { cls := .type "enumerate", data := .fields #[.none, .bool false, .ref s.heap.objs.size, rawInt 0, .none, .none] }) (s.heap.objs.size + 1) s.heap.objs.size 0 .none := by
    have q := Heap.get?_push_size (s.heap.push { cls := .type "tuple_iterator", data := .fields #[.ref t, .int 0 0] })
      (o := { cls := .type "enumerate", data := .fields #[.none, .bool false, .ref s.heap.objs.size, rawInt 0, .none, .none] }) rfl
    rw [hz] at q; exact q
  exact ⟨⟨_, he, rfl⟩, k _ he ⟨_, Heap.get?_push_of_some _ (Heap.get?_push_size _ rfl), rfl, rfl⟩ (by rw [Heap.size_push, hz]) fun b o x => Heap.get?_push_of_some _ (Heap.get?_push_of_some _ x)⟩
end
/-- the tuple at a, each item in a new pair with its place -/
def IteT (K : PySem.W.Frag) (a : Addr) : It where
  go := fun i H => ∃ (xs : List V) (x : V), SqT K H a xs ∧ xs[i]? = some x
  yld := fun i H v H' => ∃ T x, v = .ref T ∧ H T = none ∧ H' = upd H T (.tup [.int (i : Nat), x]) ∧ ∀ xs, SqT K H a xs → xs[i]? = some x
  stop := fun i H => ∃ xs : List V, SqT K H a xs ∧ xs.length ≤ i
theorem turn {P : Program} {w : World} {K : PySem.W.Frag} {elts : List Expr} {kk : Nat} {tpos : Pos} (a e it : Addr) (dis : a ≠ it ∧ a ≠ e ∧ e ≠ it) :
    Turn P w K (.Tuple elts kk tpos) (IteT K a) [e, it] e (fun i h => (∃ old, IsEnum h e it ((i : Nat) : Int) old) ∧ h.IsTupleIter it a i) where
  mem := by simp
  obj := fun i h st b hb => by
    obtain ⟨⟨old, he⟩, o, ho, hc, hd⟩ := st
    rcases (show b = e ∨ b = it by simpa using hb) with rfl | rfl
    · exact ⟨_, he, fun v q => nomatch q⟩
    · exact ⟨o, ho, fun v q => by rw [hd] at q; cases q⟩
  keep := fun i h h' st k => ⟨⟨st.1.choose, k e (by simp) _ st.1.choose_spec⟩, st.2.at fun o q => k it (by simp) o q⟩
  item := by
    intro X hP hw hK hc i pins s σ H E I hf st hg
    subst hP hw hK
    obtain ⟨⟨old, he⟩, hit⟩ := st
    obtain ⟨xs, x, hq, hx⟩ := hg
    obtain ⟨its, rv, p, hz⟩ := I.tuple hq
    obtain ⟨u, hu, ru⟩ := rv.get hx
    have hel : e < s.heap.objs.size := Heap.lt_size he
    have hil : it < s.heap.objs.size := by obtain ⟨_, q, _⟩ := hit; exact Heap.lt_size q
    have hpt : s.heap.IsTuple a its.toArray := p
    have hlt : i < its.toArray.size := by
      rw [List.size_toArray, ← rv.length]
      exact (List.getElem?_eq_some_iff.mp hx).1
    refine wpAny_pyNext_enum_itemD (Draws.tuple (show X.A.in1.handled = none from I.ok.hd hc) it a dis.1 its.toArray) he ⟨hit, hpt⟩ hlt dis.2.2 (by simp [dis.2.2, Ne.symm dis.2.1]) fun y hh tk hy ho hst hT hsz hk => ?_
    have ey : y = u := by
      have q : its.toArray[i]? = some u := by simpa using hu
      rw [q] at hy
      exact (Option.some.inj hy).symm
    subst ey
    refine ⟨_, rfl, wpAny_letOwnedTupleGo_enum (s := { s with heap := hh, toks := tk + 1 }) ho fun h2 he2 sb => ?_⟩
    have hT2 : h2.get? s.heap.objs.size = some { cls := .type "tuple", data := .seq #[.int i tk, y] } := (sb.2 _ (Nat.ne_of_gt hel)).trans hT
    have new : ObjOk X.prog X.w (upd H s.heap.objs.size (.tup [.int (i : Nat), x])) h2 s.heap.objs.size (.tup [.int (i : Nat), x]) :=
      ⟨by show 2 ≤ sizeLine; decide, [.int i tk, y], .cons ⟨_, rfl⟩ (.cons ru .nil), ⟨_, hT2, rfl, _, rfl⟩⟩
    have I1 : Inv X pins σ (upd H s.heap.objs.size (.tup [.int (i : Nat), x])) { s with heap := h2, toks := tk + 1 } :=
      I.turnedNew (ch := [e, it]) (fun b ob hb q => (sb.2 b (fun z => hb (by simp [z]))).trans (hk b ob (fun z => hb (by simp [z])) (fun z => hb (by simp [z])) q)) hf (Nat.le_refl _) new
    refine ⟨.ref s.heap.objs.size, _, I1, rfl, ⟨_, x, rfl, I.hok.fresh (Nat.le_refl _), rfl, fun ys hy => by rw [I.tuple_inj hy hq]; exact hx⟩, ⟨⟨y, ?_⟩, hst.1.at fun o q => (sb.2 it (Ne.symm dis.2.2)).trans q⟩, fun b hb => ?_⟩
    · rw [show ((i + 1 : Nat) : Int) = (i : Int) + 1 by omega]; exact he2
    · have hb' : b < s.heap.objs.size := by
        rcases (show b = e ∨ b = it by simpa using hb) with z | z <;> rw [z] <;> assumption
      rw [upd_ne (Nat.ne_of_lt hb')]
      exact (hf b hb).1
  done := by
    intro X hP hw hK hc i pins s σ H E I hf st hg
    subst hP hw hK
    obtain ⟨⟨old, he⟩, hit⟩ := st
    obtain ⟨xs, hq, hx⟩ := hg
    obtain ⟨its, rv, p, hz⟩ := I.tuple hq
    have hpt : s.heap.IsTuple a its.toArray := p
    obtain ⟨f0, f1, f2, f3, f4, f5⟩ := hf it (by simp)
    have none : its.toArray[i]? = none := by
      rw [List.getElem?_toArray, List.getElem?_eq_none_iff]
      have := rv.length
      omega
    have D : Draws X.prog X.w X.A.in1 it [it, a] i (fun _ _ => False) (fun j hh => j = i ∧ hh.IsTupleIter it a i ∧ hh.IsTuple a its.toArray) :=
      { live := fun _ _ st => let ⟨o, ho, _⟩ := st.2.1; ⟨o, ho⟩
        frame := fun _ _ _ st hk => ⟨st.1, st.2.1.at fun o e => hk it (by simp) o e, st.2.2.at fun o e => hk a (by simp) o e⟩
        item := fun j _ _ _ lt st _ => absurd st.1 (Nat.ne_of_lt lt)
        done := fun s Q E st hE => wpAny_nextOf_tuple_end (show X.A.in1.handled = .none from I.ok.hd hc) st.2.1 st.2.2 none hE }
    exact wpAny_pyNext_enum_endD D he ⟨rfl, hit, hpt⟩ fun hh eb => ⟨rfl, I.turned (t' := s.toks) (fun b o hb q => eb b o hb q) f0 f1 f3 f4 f5⟩
  self := fun A i s Q E st h => wpAny_pyIter_enum st.1.choose_spec h
def iEnumT (K : PySem.W.Frag) (ta : TA) : TI := fun σ H R => ta σ H fun vs H1 => ∃ a xs, vs = [.ref a] ∧ SqT K H1 a xs ∧ R (IteT K a) H1
theorem pi_enumT {X : Cx} {e : Expr} {ta : TA} {p pos tpos : Pos} {elts : List Expr} {kk : Nat} (hg : Gl X "enumerate") (hm : X.mg "enumerate" = none) (ha : PA X [e] ta) (hs : starEach [e] X.env = [(false, eval e X.env)] := by rfl) :
    PI X (.Tuple elts kk tpos) (.Call (.Name "enumerate" p) [e] [] pos) (iEnumT X.K ta) := by
  refine ⟨fun pins s σ H R I h => Call_ (ld_blt I hg hm boot_enumerate (PyProof.Rows.callWith_type1 (thn (ha.run pos pins s σ H _ I h) fun us s1 ⟨vs, H1, I1, r1, q1⟩ => ?_) hs rfl))⟩
  obtain ⟨a, xs, ex, hq, q⟩ := q1
  subst ex
  cases r1 with
  | cons r rr =>
    cases rr
    cases r
    obtain ⟨its, rv, pt, hz⟩ := I1.tuple hq
    have hpt : s1.heap.IsTuple a its.toArray := pt
    have la : a < s1.heap.objs.size := by obtain ⟨o, ho, _⟩ := hpt; exact Heap.lt_size ho
    refine make hpt fun hh he hit hsz hk => wpAny_pyIter_enum he ?_
    have I2 : Inv X pins σ H1 { s1 with heap := hh } := I1.kept (t' := s1.toks) hk
    have dis : a ≠ s1.heap.objs.size ∧ a ≠ s1.heap.objs.size + 1 ∧ s1.heap.objs.size + 1 ≠ s1.heap.objs.size := ⟨Nat.ne_of_lt la, Nat.ne_of_lt (Nat.lt_succ_of_lt la), Nat.succ_ne_self _⟩
    refine ⟨s1.heap.objs.size + 1, [s1.heap.objs.size + 1, s1.heap.objs.size], _, _, H1, rfl, I2, turn a (s1.heap.objs.size + 1) s1.heap.objs.size dis, ⟨⟨.none, he⟩, hit⟩, fun b hb => ?_, q⟩
    have hle : s1.heap.objs.size ≤ b := by
      rcases (show b = s1.heap.objs.size + 1 ∨ b = s1.heap.objs.size by simpa using hb) with z | z <;> rw [z]
      · exact Nat.le_add_right _ _
      · exact Nat.le_refl _
    exact I1.fpOk hle (I1.hok.fresh hle)
end ET
/-! sorted of a list of data -/
namespace SD
open PySem PySem.Spec PyProof.Rows L2 PySem.W
section
variable {X : Cx} {β : Type}
theorem each_of {vf : β → V} : ∀ {bs : List β} {its : List Value}, Vals (bs.map vf) its → EachIs (fun u b => RelV (vf b) u) its bs
  | [], _, h => by cases h; exact .nil
  | b :: bs, _, h => by
    cases h with
    | cons r t => exact .cons r (each_of t)
theorem vals_of {vf : β → V} : ∀ {bs : List β} {its : List Value}, EachIs (fun u b => RelV (vf b) u) its bs → Vals (bs.map vf) its
  | _, _, .nil => .nil
  | _, _, .cons r t => .cons r (vals_of t)
theorem each_reads {vf : β → V} {enc : β → PyData} {pins : List (Addr × Obj)} {σ : L2.St} {H : Hp} {s : Shared} (I : Inv X pins σ H s) : ∀ {bs : List β} {its : List Value}, (∀ b ∈ bs, Dp X.K H (vf b) (enc b)) → Vals (bs.map vf) its → EachIs (fun u b => ∃ as, Reads s.heap u (enc b) as) its bs
  | [], _, _, h => by cases h; exact .nil
  | b :: bs, _, hd, h => by
    cases h with
    | cons r t => exact .cons (Dp.reads I (enc b) (vf b) _ (hd b List.mem_cons_self) r) (each_reads I (fun c hc => hd c (List.mem_cons_of_mem _ hc)) t)
def rSD (K : PySem.W.Frag) (β : Type) : List V → Hp → VK → Prop := fun vs H Q => ∃ (a : Addr) (bs : List β) (vf : β → V) (enc : β → PyData), vs = [.ref a] ∧ SqL K H a (bs.map vf) ∧ (∀ b ∈ bs, Dp K H (vf b) (enc b)) ∧
  AllAlike (bs.map enc) ∧ Sortable (bs.map enc) ∧ (∀ b ∈ bs, (enc b).depth ≤ 64) ∧ ∀ p, H p = none → Q (.ref p) (upd H p (.lst ((bs.mergeSort (dataLe false enc)).map vf)))
theorem cr_SD (hu : X.A.units + 67 < cLine) : CallR X (.builtin "sorted") (rSD X.K β) := by
  intro pins s σ H vs us Q I r h
  obtain ⟨a, bs, vf, enc, rfl, hs, hd, hal, hk, hdep, q⟩ := h
  obtain ⟨its, rv, hl, hz⟩ := I.list hs
  rw [Vals.ref1 r]
  have hlen : its.length = bs.length := by rw [← rv.length, List.length_map]
  have hz' : bs.length ≤ sizeLine := by rw [List.length_map] at hz; exact hz
  refine sorted_data hl.isList (each_of rv) (each_reads I hd rv) hal hk hz' (fun b hb => by have := hdep b hb; omega) fun out ho he => ?_
  obtain ⟨ep, he'⟩ := PyProof.Rows.sortedAll_at s.heap its out.toArray
  have hlen2 : ((bs.mergeSort (dataLe false enc)).map vf).length ≤ sizeLine := by
    rw [List.length_map, List.length_mergeSort]
    exact hz'
  exact ⟨.ref _, _, I.laid (t' := s.toks) (o := .lst ((bs.mergeSort (dataLe false enc)).map vf)) (fun _ _ => PyProof.Rows.sortedAll_old) (Nat.le_succ _) ⟨hlen2, out, ep, vals_of he, he'⟩, rfl, q _ (I.hok.fresh (Nat.le_succ _))⟩
end
end SD
namespace VL
open PySem L2
section
variable {X : Cx} {B : Bs} {W : WX} {e a b c : Expr} {te ta tb tc : TE} {m ma mb mc : ME} {pos p : Pos} {tg : Expr}
variable {th : List Addr} {G H : Hp} {s : S} {σ : St}
/-! ### x[::-1] -/
def eBack (m : ME) : ME := fun s => (m s).bind fun d s => match d with
  | .tup l => .ok (.tup l.reverse, s)
  | .lst l => .ok (.lst l.reverse, s)
  | .scr l => .ok (.lst (l.reverse.map D.int), s)
  | .loc n => match lstOf s (.loc n) with
    | some l => .ok (.lst l.reverse, s)
    | none => .no
  | _ => .no
theorem post_tupF {K : PySem.W.Frag} {l : List D} {vs : List V} {Q : VK} {q : Addr} (R : Rep K B th G s σ H) (P : Post K B W σ th G H (relE K) (.ok (.tup l, s)) Q) (r : AtL K th G l vs) (hq : H q = none) : Q (.ref q) (upd H q (.tup vs)) :=
  P th (upd G q (.tup vs)) (upd H q (.tup vs)) (.ref q) (Le.new hq R.eG) (R.frz hq _) ⟨q, vs, rfl, .inl (.inl upd_same), r.mono List.prefix_rfl (Sub.new (R.gnone hq))⟩
theorem post_lstF {K : PySem.W.Frag} {l : List D} {vs : List V} {Q : VK} {q : Addr} (R : Rep K B th G s σ H) (P : Post K B W σ th G H (relE K) (.ok (.lst l, s)) Q) (r : AtL K th G l vs) (hq : H q = none) : Q (.ref q) (upd H q (.lst vs)) :=
  P th (upd G q (.lst vs)) (upd H q (.lst vs)) (.ref q) (Le.new hq R.eG) (R.frz hq _) ⟨q, vs, rfl, upd_same, r.mono List.prefix_rfl (Sub.new (R.gnone hq))⟩
theorem scr_at {K : PySem.W.Frag} {l : List Int} : AtL K th G (l.map D.int) (l.map V.int) := by
  induction l with
  | nil => rfl
  | cons i l ih => exact ⟨_, _, rfl, rfl, ih⟩
theorem ve_back {k : Nat} {p1 p2 p3 : Pos} (h : VE X B W e te m) : VE X B W (.Subscript e (.Slice none none (some (.UnaryOp .USub (.Constant (.int 1) k p1) p2)) p3) pos) (TR.tBack X.K te) (eBack m) :=
  ⟨TR.pe_back h.pe, fun s th G σ H Q R P => h.sem s th G σ H _ R (P.bind fun d s1 th1 G1 H1 v l1 R1 r P1 => by
    cases d with
    | tup l =>
      obtain ⟨q, vs, rfl, hq, hr⟩ := r
      exact ⟨q, vs, rfl, .inr ⟨R1.eG.sqT hq, fun t ht => post_tupF R1 P1 hr.reverse ht⟩⟩
    | lst l =>
      obtain ⟨q, vs, rfl, hq, hr⟩ := r
      exact ⟨q, vs, rfl, .inl ⟨.inl (.inl (R1.eG.lst hq)), fun t ht => post_lstF R1 P1 hr.reverse ht⟩⟩
    | scr l =>
      obtain ⟨q, rfl, hq⟩ := r
      exact ⟨q, l.map V.int, rfl, .inl ⟨R1.eG.sqL hq, fun t ht => post_lstF R1 P1 (by rw [← List.map_reverse]; exact scr_at) ht⟩⟩
    | loc n =>
      simp only at P1
      cases e2 : lstOf s1 (.loc n) with
      | none => rw [e2] at P1; exact P1.elim
      | some l =>
        rw [e2] at P1
        obtain ⟨q, vs, rfl, hq, hr⟩ := R1.lst_of r e2
        exact ⟨q, vs, rfl, .inl ⟨.inl (.inl hq), fun t ht => post_lstF R1 P1 hr.reverse ht⟩⟩
    | _ => exact P1.elim)⟩

/-! ### a, b = x, y -/
def sPar2 (i j : Nat) (ma : MA) : MS := fun s => (ma s).to fun l s => match l with
  | [d, e] => .nx { s with r := (s.r.set i (some d)).set j (some e) }
  | _ => .no
def sPar3 (i j k : Nat) (ma : MA) : MS := fun s => (ma s).to fun l s => match l with
  | [d, e, f] => .nx { s with r := ((s.r.set i (some d)).set j (some e)).set k (some f) }
  | _ => .no
theorem vs_par2 {tl : TA} {ml : MA} {x y : Str} {px py pt : Pos} {kt k2 pt2} (i j : Nat) (hc : X.calm = true) (hN : X.N.Nodup) (h : VA X B W [a, b] tl ml) (hw : swappedStores [.Tuple [.Name x px, .Name y py] kt pt] (.Tuple [a, b] k2 pt2) X.env = pure (some [x, y]) := by rfl)
    (hi : X.N[i]? = some x := by rfl) (hj : X.N[j]? = some y := by rfl) (hij : i ≠ j := by decide) (hx : X.env.scope.names.lookup x = some .local := by rfl) (hy : X.env.scope.names.lookup y = some .local := by rfl)
    (hs : swapsWithSole [.Tuple [.Name x px, .Name y py] kt pt] (.Tuple [a, b] k2 pt2) pos.line X.env = pure false := by rfl) :
    VS X B W (.Assign [.Tuple [.Name x px, .Name y py] kt pt] (.Tuple [a, b] k2 pt2) pos) (tPar i j tl) (sPar2 i j ml) :=
  ⟨ps_par hc hN hi hj hij hx hy h.pa hw hs, fun s th G σ H Dn R P => h.sem s th G σ H _ R (P.to fun l s1 th1 G1 H1 vs l1 R1 r P1 => by
    split at P1
    · obtain ⟨v, w, rfl, hv, hw⟩ := two_at r
      exact ⟨v, w, rfl, P1.nx0 ((R1.sets hv).sets hw)⟩
    · exact P1.elim)⟩
theorem three_at {K : PySem.W.Frag} {x y z : D} {vs : List V} (h : AtL K th G [x, y, z] vs) : ∃ v w u, vs = [v, w, u] ∧ At K th G x v ∧ At K th G y w ∧ At K th G z u := by
  obtain ⟨v, r, rfl, h1, w, r2, rfl, h2, u, r3, rfl, h3, rfl⟩ := h
  exact ⟨v, w, u, rfl, h1, h2, h3⟩
theorem vs_par3 {tl : TA} {ml : MA} {x y z : Str} {px py pz pt : Pos} {kt k2 pt2} (i j k : Nat) (hc : X.calm = true) (hN : X.N.Nodup) (h : VA X B W [a, b, c] tl ml) (hw : swappedStores [.Tuple [.Name x px, .Name y py, .Name z pz] kt pt] (.Tuple [a, b, c] k2 pt2) X.env = pure (some [x, y, z]) := by rfl)
    (hi : X.N[i]? = some x := by rfl) (hj : X.N[j]? = some y := by rfl) (hk : X.N[k]? = some z := by rfl) (hij : i ≠ j := by decide) (hik : i ≠ k := by decide) (hjk : j ≠ k := by decide) (hx : X.env.scope.names.lookup x = some .local := by rfl) (hy : X.env.scope.names.lookup y = some .local := by rfl) (hz : X.env.scope.names.lookup z = some .local := by rfl)
    (hs : swapsWithSole [.Tuple [.Name x px, .Name y py, .Name z pz] kt pt] (.Tuple [a, b, c] k2 pt2) pos.line X.env = pure false := by rfl) :
    VS X B W (.Assign [.Tuple [.Name x px, .Name y py, .Name z pz] kt pt] (.Tuple [a, b, c] k2 pt2) pos) (tPar3 i j k tl) (sPar3 i j k ml) :=
  ⟨ps_par3 hc hN hi hj hk hij hik hjk hx hy hz h.pa hw hs, fun s th G σ H Dn R P => h.sem s th G σ H _ R (P.to fun l s1 th1 G1 H1 vs l1 R1 r P1 => by
    split at P1
    · obtain ⟨v, w, u, rfl, hv, hw, hu⟩ := three_at r
      exact ⟨v, w, u, rfl, P1.nx0 (((R1.sets hv).sets hw).sets hu)⟩
    · exact P1.elim)⟩
/-! ### enumerate -/
def enumL (l : List D) : List D := pairs (rng 0 l.length) l
def iEnumM (a : MA) : MA := fun s => (a s).bind fun l s => match l with
  | [.tup l] => .ok (enumL l, s)
  | [.lst l] => .ok (enumL l, s)
  | _ => .no
theorem enumL_get {l : List D} {i : Nat} {d : D} (h : (enumL l)[i]? = some d) : ∃ x, l[i]? = some x ∧ d = .tup [.int (i : Nat), x] := by
  obtain ⟨x, y, h1, h2, rfl⟩ := pairs_get h
  refine ⟨y, h2, ?_⟩
  have hi := (List.getElem?_eq_some_iff.mp h1).1
  simp only [rng, List.length_map, List.length_range] at hi
  simp [rng, hi] at h1
  rw [← h1]
theorem enumL_length {l : List D} : (enumL l).length = l.length := by simp [enumL, pairs, rng]
theorem relI_enumT {K : PySem.W.Frag} {H0 : Hp} {a : Addr} {l : List D} {vs : List V} (q : ∀ th1 G1 H1, Le th G H th1 G1 H1 → Ex G1 H1 → SqT K H1 a vs) (r : AtL K th G l vs) : relI K H0 th G H (enumL l) (ET.IteT K a) := fun th1 G1 H1 i le ex => by
  have q1 := q th1 G1 H1 le ex
  refine ⟨fun hi => ⟨vs, q1, by rw [r.length]; rw [enumL_length] at hi; exact hi⟩, fun d hd => ?_⟩
  obtain ⟨x, hx, rfl⟩ := enumL_get hd
  obtain ⟨v, hv, hx⟩ := (r.mono le.pre le.ex).get hx
  refine ⟨⟨vs, v, q1, hv⟩, fun z H2 y => ?_⟩
  obtain ⟨T, x', rfl, hT, rfl, f1⟩ := y
  have e1 := f1 vs q1
  rw [hv] at e1; cases e1
  exact ⟨_, .inr ⟨T, _, hT, rfl, rfl⟩, at_pair (show At K th1 G1 (.int (i : Nat)) (.int (i : Nat)) from rfl) hx hT ex⟩
theorem relI_enumL {K : PySem.W.Frag} {H0 : Hp} {a : Addr} {l : List D} {vs : List V} (q : ∀ th1 G1 H1, Le th G H th1 G1 H1 → Ex G1 H1 → SqL K H1 a vs) (r : AtL K th G l vs) : relI K H0 th G H (enumL l) (Ite K a) := fun th1 G1 H1 i le ex => by
  have q1 := q th1 G1 H1 le ex
  refine ⟨fun hi => ⟨vs, q1, by rw [r.length]; rw [enumL_length] at hi; exact hi⟩, fun d hd => ?_⟩
  obtain ⟨x, hx, rfl⟩ := enumL_get hd
  obtain ⟨v, hv, hx⟩ := (r.mono le.pre le.ex).get hx
  refine ⟨⟨vs, v, q1, hv⟩, fun z H2 y => ?_⟩
  obtain ⟨T, x', rfl, hT, rfl, f1⟩ := y
  have e1 := f1 vs q1
  rw [hv] at e1; cases e1
  exact ⟨_, .inr ⟨T, _, hT, rfl, rfl⟩, at_pair (show At K th1 G1 (.int (i : Nat)) (.int (i : Nat)) from rfl) hx hT ex⟩
def iEnumA (K : PySem.W.Frag) (ta : TA) : TI := fun σ H R => ET.iEnumT K ta σ H R ∨ iEnum K ta σ H R
theorem vi_enum {elts : List Expr} {kk : Nat} {tpos : Pos} {tl : TA} {ml : MA} (hg : Gl X "enumerate") (hm : X.mg "enumerate" = none) (h : VA X B W [a] tl ml) (hs : starEach [a] X.env = [(false, eval a X.env)] := by rfl) :
    VI X B W (.Tuple elts kk tpos) (.Call (.Name "enumerate" p) [a] [] pos) (iEnumA X.K tl) (iEnumM ml) := ⟨PI.or (ET.pi_enumT hg hm h.pa hs) (pi_enum hg hm h.pa hs), fun s th G σ H Q R P => by
  unfold iEnumM at P
  cases hk : ml s with
  | no => rw [hk] at P; exact P.elim
  | ex x s1 => rw [hk] at P; exact .inl (h.sem s th G σ H _ R (by rw [hk]; exact P))
  | ok z =>
    obtain ⟨l, s1⟩ := z
    rw [hk, VL.R.bind_ok] at P
    split at P
    · exact .inl (h.sem s th G σ H _ R (by
        rw [hk]
        intro th1 G1 H1 vs l1 R1 r
        obtain ⟨v, rfl, q, ws, rfl, hq, hr⟩ := AtL.one_of r
        exact ⟨q, ws, rfl, R1.eG.sqT hq, P th1 G1 H1 _ l1 R1 (relI_enumT (fun th2 G2 H2 l2 ex => ex.sqT (l2.ex.sqT hq)) hr)⟩))
    · exact .inr (h.sem s th G σ H _ R (by
        rw [hk]
        intro th1 G1 H1 vs l1 R1 r
        obtain ⟨v, rfl, q, ws, rfl, hq, hr⟩ := AtL.one_of r
        exact ⟨q, ws, rfl, .inl (.inl (R1.eG.lst hq)), P th1 G1 H1 _ l1 R1 (relI_enumL (fun th2 G2 H2 l2 ex => .inl (.inl (ex.lst (l2.ex _ _ hq)))) hr)⟩))
    · exact P.elim⟩

/-! ### sorted -/
def alikes (l : List D) : Bool := l.all fun d => l.all fun e => PySem.W.alike (toP d) (toP e)
def srtKind (l : List D) : Bool := l.all (fun d => match d with
  | .tup (_ :: _) => true
  | _ => false) || l.all fun d => match d with
  | .int _ => true
  | .str _ => true
  | .bl _ => true
  | .lst _ => true
  | _ => false
def srtOk (l : List D) : Bool := okDs 63 l && (alikes l && srtKind l)
def sortD (l : List D) : List D := l.mergeSort (PySem.W.dataLe false toP)
def gSorted : List D → S → R (Ob × S) := fun l s => match l with
  | [d] => match lstOf s d with
    | some l => if srtOk l = true then .ok (.lst (sortD l), s) else .no
    | none => .no
  | _ => .no
theorem AtL.zip {K : PySem.W.Frag} : ∀ {l : List D} {vs : List V}, AtL K th G l vs → ∃ bs : List (D × V), bs.map Prod.fst = l ∧ bs.map Prod.snd = vs ∧ ∀ b ∈ bs, At K th G b.1 b.2
  | [], _, h => ⟨[], rfl, h.symm, fun _ hb => by simp at hb⟩
  | d :: l, _, h => by
    obtain ⟨v, r, rfl, h1, h2⟩ := h
    obtain ⟨bs, e1, e2, h3⟩ := AtL.zip h2
    refine ⟨(d, v) :: bs, by simp [e1], by simp [e2], fun b hb => ?_⟩
    rcases List.mem_cons.mp hb with rfl | hb
    · exact h1
    · exact h3 b hb
theorem AtL.unzip {K : PySem.W.Frag} : ∀ {bs : List (D × V)}, (∀ b ∈ bs, At K th G b.1 b.2) → AtL K th G (bs.map Prod.fst) (bs.map Prod.snd)
  | [], _ => rfl
  | b :: bs, h => ⟨b.2, _, rfl, h b List.mem_cons_self, AtL.unzip fun c hc => h c (List.mem_cons_of_mem _ hc)⟩
theorem okDs_all : ∀ {l : List D} {n : Nat}, okDs n l = true → ∀ d ∈ l, okD n d = true
  | d :: l, n, h, e, he => by
    simp only [okDs, Bool.and_eq_true] at h
    rcases List.mem_cons.mp he with rfl | he
    · exact h.1
    · exact okDs_all h.2 e he
theorem sort_fst {bs : List (D × V)} : (bs.mergeSort (PySem.W.dataLe false fun b => toP b.1)).map Prod.fst = sortD (bs.map Prod.fst) :=
  List.map_mergeSort fun _ _ _ _ => rfl
theorem kind_of {l : List D} (h : srtKind l = true) : PySem.W.Sortable (l.map toP) := by
  unfold srtKind at h
  rw [Bool.or_eq_true] at h
  rcases h with h | h
  · refine .inl fun d hd => ?_
    obtain ⟨z, hz, rfl⟩ := List.mem_map.mp hd
    have := List.all_eq_true.mp h z hz
    split at this
    · exact ⟨_, _, rfl⟩
    · cases this
  · refine .inr fun d hd => ?_
    obtain ⟨z, hz, rfl⟩ := List.mem_map.mp hd
    have := List.all_eq_true.mp h z hz
    cases z <;> first | (cases this; done) | exact ⟨fun q => by simp [toP] at q, fun xs q => by simp [toP] at q⟩
theorem semC_sorted {K : PySem.W.Frag} : SemCF K B W (SD.rSD K (D × V)) gSorted := fun s th G σ H Q l vs R rl P => by
  match l, rl, P with
  | [], _, P => exact P.elim
  | [d], rl, P =>
    obtain ⟨v, rfl, hv⟩ := rl.one_of
    simp only [gSorted] at P
    cases e : lstOf s d with
    | none => rw [e] at P; exact P.elim
    | some z =>
      rw [e] at P
      simp only at P
      split at P
      · rename_i ho
        unfold srtOk at ho
        simp only [Bool.and_eq_true] at ho
        obtain ⟨h1, h2, h3⟩ := ho
        obtain ⟨p, ws, rfl, hq, hr⟩ := R.lst_of hv e
        obtain ⟨bs, rfl, rfl, hb⟩ := hr.zip
        have em : bs.map (fun b => toP b.1) = (bs.map Prod.fst).map toP := by rw [List.map_map]; rfl
        refine ⟨p, bs, Prod.snd, fun b => toP b.1, rfl, .inl (.inl hq), fun b hm => dp_of R.eG 63 _ _ (okDs_all h1 _ (List.mem_map.mpr ⟨b, hm, rfl⟩)) (hb b hm), ?_, ?_, fun b hm => ?_, fun t ht => ?_⟩
        · rw [em]
          intro x hx y hy
          obtain ⟨x2, hx2, rfl⟩ := List.mem_map.mp hx
          obtain ⟨y2, hy2, rfl⟩ := List.mem_map.mp hy
          exact List.all_eq_true.mp (List.all_eq_true.mp h2 x2 hx2) y2 hy2
        · rw [em]; exact kind_of h3
        · exact Nat.le_trans (okD_P 63 _ (okDs_all h1 _ (List.mem_map.mpr ⟨b, hm, rfl⟩))).2 (by decide)
        · exact post_f R P (by rw [← sort_fst]; exact AtL.unzip fun b hm => hb b ((List.mergeSort_perm _ _).mem_iff.mp hm)) ht
      · exact P.elim
  | _ :: _ :: _, _, P => exact P.elim
end
end VL
/-! own exceptions whose __init__ says super().__init__(f'..') and stores its arguments -/
namespace XI
open PySem PySem.W PySem.Calls PyProof.Rows PySem.HandSPX
section
variable {prog : Program} {w : World} {A : Around} {E : Value → Shared → Prop} {K : Frag} {mg : Str → Option Value} {C fI cc cda : Addr} {q : Str} {scope : Scope}
theorem kept_but {h h' : Heap} {x : Addr} (X : K.In h) (hx : K.lookup x = none) (k : ∀ b o, b ≠ x → h.get? b = some o → h'.get? b = some o) : K.In h' := fun a o e =>
  k a o (fun z => by rw [z, hx] at e; cases e) (X a o e)
/-- what the written part says of the class at C (its __init__ at fI: with a cell for __class__ at cc, its code object at cda) -/
structure Txt (prog : Program) (K : Frag) (mg : Str → Option Value) (C fI cc cda : Addr) : Prop where
  cls : ∃ nm q N bs bm sn sub ab col dd k0 k1 k2 k3 k5, K.lookup C = some (excClassObj nm q C N bs bm true sn sub ab col dd k0 k1 k2 k3 k5 "ValueError.__new__") ∧ refsVE bm = true
  cell : ∃ cl cld csl, K.lookup cc = some ⟨cl, cld, .cell (some (.ref C)), csl⟩
  code : ∃ (vs : Array Value) (file : Str) (tf : Tok) (ccl : Value) (cdd : Option Addr) (ccs : Array (Option Value)), K.lookup cda = some ⟨ccl, cdd, .fields vs, ccs⟩ ∧ vs[2]? = some (.str file tf) ∧ ((prog.main.file : Str) == file) = true
  self : mroIn K C (.ref C) = some true
  sup : ks_superIn K C C "__init__" = some (some (.builtin "ValueError.__init__"))
  subV : subIn K (.ref C) (.type "ValueError") = some true
  stat : nsIn K cStatics "thirdparty.any" = some none
  top : (prog.main.scope.names.lookup ("super" : Str)).isSome = false
  noS : mg "super" = none
/-- super().__init__(e), e one value that leaves the heap as it is -/
theorem super_row (T : Txt prog K mg C fI cc cda) {s : Shared} {fd : FuncData} {oc : Value} {od : Option Addr} {osl : Array (Option Value)} {ar : Arg} {x t0 L : Addr} {m mb : Str → Option Value} {e : Expr} {body : List Stmt} {p0 p1 p2 p3 p4 : Pos} {Q : Flow → Shared → Prop} {pl : Sem Bool}
    (X : K.In s.heap) (hG : s.heap.Ns mainGlobals mg) (hB : s.heap.Ns builtinsNs mb) (hb : mb "super" = some (.type "super"))
    (hf : K.lookup fI = some ⟨oc, od, .func fd, osl⟩) (hp : (fd.params.posonlyargs ++ fd.params.args).head? = some ar) (hn : s.heap.Ns L m) (hv : m ar.arg = some (.ref x))
    (hx : s.heap.get? x = some (excO C t0)) (hnx : K.lookup x = none)
    (hks : scope.names.lookup ("super" : Str) = some .globalImplicit) (hkc : scope.names.lookup ("__class__" : Str) = some .free) (hka : scope.names.lookup ar.arg = some .local) (hk : scope.kind = .function)
    (he : ∀ (s1 : Shared) (R : Value → Shared → Prop) (E' : Value → Shared → Prop), (∀ b o, s.heap.get? b = some o → s1.heap.get? b = some o) → s1.heap.Ns L m → (∀ v tk, R v { s1 with toks := tk }) → wpAny (model prog w) A (eval e (ksEnv q scope L fI (.ref cda) cc)) R E' s1)
    (hpl : starEach [e] (ksEnv q scope L fI (.ref cda) cc) = [(false, eval e (ksEnv q scope L fI (.ref cda) cc))])
    (hsw : swapsWith (.Call (.Attribute (.Call (.Name "super" p0) [] [] p1) "__init__" p2) [e] [] p3) none p4.line (ksEnv q scope L fI (.ref cda) cc) = pure false)
    (hi : interactive (ksEnv q scope L fI (.ref cda) cc) = false)
    (hmc : eval (.Call (.Attribute (.Call (.Name "super" p0) [] [] p1) "__init__" p2) [e] [] p3) (ksEnv q scope L fI (.ref cda) cc) = (do
      let ov ← attributeBase (.Call (.Name "super" p0) [] [] p1) "__init__" (ksEnv q scope L fI (.ref cda) cc) (eval (.Call (.Name "super" p0) [] [] p1) (ksEnv q scope L fI (.ref cda) cc))
      standAt p2.atName
      let (f, first) ← holding [ov] (getMethod ov "__init__" pl)
      callWith p3 f first (backTo p3 (starEach [e] (ksEnv q scope L fI (.ref cda) cc))) []))
    (hq : ∀ h' tk t1, (∀ b o, b ≠ x → s.heap.get? b = some o → h'.get? b = some o) → h'.get? x = some (excO C t1) → s.heap.objs.size ≤ h'.objs.size → Q .next { s with heap := h', toks := tk }) :
    _root_.PySem.wpAt (model prog w) A (.func body (ksEnv q scope L fI (.ref cda) cc)) (exec (.Expr (.Call (.Attribute (.Call (.Name "super" p0) [] [] p1) "__init__" p2) [e] [] p3) p4) (ksEnv q scope L fI (.ref cda) cc)) Q E s := by
  obtain ⟨nm, qn, N, bs, bm, sn, sub, ab, col, dd, k0, k1, k2, k3, k5, hC, hbm⟩ := T.cls
  obtain ⟨cl, cld, csl, hcell⟩ := T.cell
  obtain ⟨vs, file, tf, ccl, cdd, ccs, hcode, hvs, hfile⟩ := T.code
  refine ks_wpAt_Expr_any (ks_wpAt_MethodCall (pl := pl) ?_ hmc) hi hsw
  obtain ⟨hh, g, d, tk, os⟩ := s
  have hcl : clsIn K C = some { name := nm, bases := bs, mro := .ref C :: bm, ns := N, qualname := qn, hasDict := true, slotNames := sn, subclasses := sub, abstract := ab, collection := col, hasDel := false } := by unfold clsIn; rw [hC] <;> rfl
  have hxC : x ≠ C := fun z => by rw [z, hC] at hnx; cases hnx
  have hD1 := X _ _ hC
  refine ks_wpAt_super_base (env := ksEnv q scope L fI (.ref cda) cc) hks hkc rfl rfl (X _ _ hf) rfl hp rfl (X _ _ hcode) rfl hvs hfile T.top ?_
  refine ks_loadName_global hk hks (loadGlobal_builtin (env := ksEnv q scope L fI (.ref cda) cc) hG T.noS hB hb ⟨rfl, ?_⟩)
  refine wpAny_loadName_free hk hkc rfl ⟨_, X _ _ hcell, rfl⟩ ?_
  refine wpAny_loadName_local hk hka hn hv ?_
  refine ks_wpAny_isType_cls hD1 rfl ⟨rfl, ?_⟩
  refine ks_wpAny_call_super hD1 rfl hx rfl (fun c z => by cases z) (looks_mroIn X T.self) (fun h1 e1 k1' => ?_)
  have X1 : K.In h1 := X.keeps k1'
  have I1 : InstAt h1 x (excO C t0) C none := ⟨k1' _ _ hx, rfl, rfl, trivial⟩
  have hI : Looks (model prog w) h1 (isInstance (.ref x) (.type "ValueError")) true := I1.type.andThen (looks_subIn X1 T.subV)
  have hsup := T.sup
  unfold ks_superIn at hsup
  rw [hcl] at hsup
  refine kxs_getMethod kxs_ValueError e1 (looks_opaque X1 T.stat) (l₀ := .ref C :: bm) (fun A Q E s k q => wpAny_bind ((looks_clsIn X1 hcl) A _ E s k (wpAny_pure q))) rfl X1 hsup hI hxC rfl ?_
  rw [hpl]
  refine kxs_callWith (i := "ValueError.__init__") (x := x) (by rfl) (evalArgs_plain ?_)
  refine Calls.spliced_cons (he _ _ _ (fun b o z => Heap.get?_push_of_some _ (k1' b o z)) ?_ fun v tk2 => Calls.spliced_nil ⟨Heap.get?_push_size _ rfl, ?_⟩)
  · obtain ⟨oL, es, ep, hL, r⟩ := hn
    exact ⟨oL, es, ep, Heap.get?_push_of_some _ (k1' _ _ hL), r⟩
  · have F := PySem.F.excBase_ValueError
    have hx2 : (h1.push (kxs_mw "ValueError.__init__" x)).get? x = some (excO C t0) := Heap.get?_push_of_some _ (k1' _ _ hx)
    have hC2 : (h1.push (kxs_mw "ValueError.__init__" x)).get? C = some _ := Heap.get?_push_of_some _ (k1' _ _ hD1)
    have hu : (h1.push (kxs_mw "ValueError.__init__" x)).get? h1.objs.size = some (kxs_mw "ValueError.__init__" x) := Heap.get?_push_size _ rfl
    refine wpAny_call (codeAny_of_tree ?_)
    show wpAny _ A.in1 (callAny (.ref h1.objs.size) ⟨[v], []⟩) _ _ _
    simp only [callAny]
    refine wpAny_bind (wpAny_load hu ?_)
    simp only [kxs_mw, show (Value.type "method-wrapper" == Value.type "method" || Value.type "method-wrapper" == Value.type "builtin_function_or_method" || Value.type "method-wrapper" == Value.type "method-wrapper") = true by decide, if_true]
    refine KFB.if_so (by decide) ?_
    refine wpAny_bind (check_bound_init F.toExcCallFacts hC2 hx2 rfl (wpAny_bind (wpAny_pure (wpAny_pure ⟨plainId_quiet F.init.plain _, codeAny_builtin F.initEntry ?_⟩))))
    refine exc_init_tree (cls := .ref C) (t0 := t0) (dv := none) (c2 := .none) (c3 := .none) (b4 := .bool false) hx2 (by rw [sizeLine_eq]; exact (by decide : 1 ≤ 16777216)) fun h3 k3 e3 t3 => ?_
    refine hq h3 _ _ (fun b o hb z => k3 b o hb (Heap.get?_push_of_some _ (k1' b o z))) e3 ?_
    have z1 : hh.objs.size < h1.objs.size := Heap.lt_size e1
    have z2 : (h1.push (kxs_mw "ValueError.__init__" x)).objs.size < h3.objs.size := Heap.lt_size t3
    rw [Heap.size_push] at z2
    show hh.objs.size ≤ h3.objs.size
    omega
/-- self.f = f, the exception without a dict -/
theorem field_new (T : Txt prog K mg C fI cc cda) {s : Shared} {x t0 L : Addr} {m : Str → Option Value} {v : Value} {f : Str} {env : Env} {q1 q2 q3 q4 : Pos} {Q : Flow → Shared → Prop} (X : K.In s.heap) (hn : s.heap.Ns env.locals m) (hv : m f = some v) (hs : m "self" = some (.ref x)) (hx : s.heap.get? x = some (excO C t0))
    (noN : findIn K (.ref C) f = some none) (sa : findIn K (.ref C) "__setattr__" = some (some (.builtin "object.__setattr__"))) (hk : env.scope.kind = .function) (hl : env.kindOf f = some .local) (hl2 : env.kindOf "self" = some .local) (hd : (f == ("__debug__" : Str)) = false)
    (hsw : swapsWith (.Name f q3) (some (.Attribute (.Name "self" q1) f q2)) q4.line env = pure false)
    (hq : ∀ h' tk dx, (∀ b o, b ≠ x → s.heap.get? b = some o → h'.get? b = some o) → s.heap.objs.size ≤ dx → dx ≠ x → h'.get? x = some { cls := .ref C, dict := some dx, data := .fields #[.ref t0, .none, .none, .none, .bool false, .none] } → h'.Ns1 dx (fun y => if y = f then some v else none) → Q .next { s with heap := h', toks := tk }) :
    wpAny (model prog w) A (exec (.Assign [.Attribute (.Name "self" q1) f q2] (.Name f q3) q4) env) Q E s := by
  obtain ⟨nm, qn, N, bs, bm, sn, sub, ab, col, dd, k0, k1, k2, k3, k5, hC, hbm⟩ := T.cls
  have hcl : clsIn K C = some { name := nm, bases := bs, mro := .ref C :: bm, ns := N, qualname := qn, hasDict := true, slotNames := sn, subclasses := sub, abstract := ab, collection := col, hasDel := false } := by unfold clsIn; rw [hC] <;> rfl
  refine plainObj_wpAny_Assign_Attribute ?_ hsw
  refine wpAny_Name (wpAny_loadName_local hk hl hn hv ?_) hd
  refine wpAny_Name (wpAny_loadName_local hk hl2 hn hs ?_) (by decide)
  refine set_plain X (ox := excO C t0) (od := none) ⟨hx, rfl, rfl, trivial⟩ sa ?_
  exact exc_osa X hx hcl (show refsVE (.ref C :: bm) = true from hbm) rfl noN fun h3 tk3 dx k3 dn dne hx3 hn3 => hq h3 tk3 dx k3 dn dne hx3 hn3
/-- .. with its dict -/
theorem field_old (T : Txt prog K mg C fI cc cda) {s : Shared} {x t0 L dx : Addr} {m m0 : Str → Option Value} {v : Value} {f : Str} {nl : List Str} {env : Env} {q1 q2 q3 q4 : Pos} {Q : Flow → Shared → Prop} (X : K.In s.heap) (hn : s.heap.Ns env.locals m) (hv : m f = some v) (hs : m "self" = some (.ref x))
    (hx : s.heap.get? x = some { cls := .ref C, dict := some dx, data := .fields #[.ref t0, .none, .none, .none, .bool false, .none] }) (hns : s.heap.Ns1 dx m0) (hw : Within m0 nl) (hz : nl.length ≤ 1000)
    (noN : findIn K (.ref C) f = some none) (sa : findIn K (.ref C) "__setattr__" = some (some (.builtin "object.__setattr__"))) (hk : env.scope.kind = .function) (hl : env.kindOf f = some .local) (hl2 : env.kindOf "self" = some .local) (hd : (f == ("__debug__" : Str)) = false)
    (hsw : swapsWith (.Name f q3) (some (.Attribute (.Name "self" q1) f q2)) q4.line env = pure false)
    (hq : ∀ h' tk, (∀ b o, b ≠ dx → s.heap.get? b = some o → h'.get? b = some o) → h'.Ns1 dx (fun y => if y = f then some v else m0 y) → Q .next { s with heap := h', toks := tk }) :
    wpAny (model prog w) A (exec (.Assign [.Attribute (.Name "self" q1) f q2] (.Name f q3) q4) env) Q E s := by
  obtain ⟨nm, qn, N, bs, bm, sn, sub, ab, col, dd, k0, k1, k2, k3, k5, hC, hbm⟩ := T.cls
  have hcl : clsIn K C = some { name := nm, bases := bs, mro := .ref C :: bm, ns := N, qualname := qn, hasDict := true, slotNames := sn, subclasses := sub, abstract := ab, collection := col, hasDel := false } := by unfold clsIn; rw [hC] <;> rfl
  obtain ⟨oD, esD, epD, hoD, hdD, _⟩ := hns.count hw
  refine plainObj_wpAny_Assign_Attribute ?_ hsw
  refine wpAny_Name (wpAny_loadName_local hk hl hn hv ?_) hd
  refine wpAny_Name (wpAny_loadName_local hk hl2 hn hs ?_) (by decide)
  refine set_plain X (ox := { cls := .ref C, dict := some dx, data := .fields #[.ref t0, .none, .none, .none, .bool false, .none] }) (od := some oD) ⟨hx, rfl, rfl, hoD⟩ sa ?_
  exact OEX.osa_old X hx hns hw hz hcl (show refsVE (.ref C :: bm) = true from hbm) rfl noN fun h3 tk3 k3 hn3 => hq h3 tk3 k3 hn3
/-! the message -/
/-- a piece: a text of at most n signs, the heap as it is -/
def Piece (prog : Program) (w : World) (A : Around) (E : Value → Shared → Prop) (env : Env) (m : Str → Option Value) (n : Nat) (e : Expr) : Prop :=
  ∀ (s : Shared) (Q : Value → Shared → Prop), s.heap.Ns env.locals m → (∀ y t tk, y.length ≤ n → Q (.str y t) { s with toks := tk }) → wpAny (model prog w) A (eval e env) Q E s
theorem piece_txt {env : Env} {m : Str → Option Value} {z : Str} {k n : Nat} {pos : Pos} (h : z.length ≤ n) : Piece prog w A E env m n (.Constant (.str z) k pos) := fun s Q _ q => by
  obtain ⟨hp, g, d, tk, os⟩ := s
  exact wpAny_Constant_str (q z _ _ h)
theorem piece_int {env : Env} {m : Str → Option Value} {x : Str} {i : Int} {t : Tok} {pos p2 : Pos} (hv : m x = some (.int i t)) (hi : i.natAbs.log2 < 1920) (hk : env.scope.kind = .function) (hl : env.kindOf x = some .local) (hd : (x == ("__debug__" : Str)) = false) :
    Piece prog w A E env m 1921 (.FormattedValue (.Name x pos) (-1) none p2) := fun s Q hn q => by
  refine wpAny_FormattedValue_plain (wpAny_Name (wpAny_loadName_local hk hl hn hv ?_) hd)
  exact wpAny_formatField_int hi (q _ _ _ (int_text_len_1921 hi))
theorem piece_str {env : Env} {m : Str → Option Value} {x z : Str} {t : Tok} {n : Nat} {pos p2 : Pos} (hv : m x = some (.str z t)) (hz : z.length ≤ n) (hn : n ≤ sizeLine) (hk : env.scope.kind = .function) (hl : env.kindOf x = some .local) (hd : (x == ("__debug__" : Str)) = false) :
    Piece prog w A E env m n (.FormattedValue (.Name x pos) (-1) none p2) := fun s Q hns q => by
  refine wpAny_FormattedValue_plain (wpAny_Name (wpAny_loadName_local hk hl hns hv ?_) hd)
  exact wpAny_formatField_str (q _ _ s.toks hz) (q _ _ _ hz) (Nat.le_trans hz hn)
theorem joins {env : Env} {m : Str → Option Value} : ∀ (es : List (Nat × Expr)) (acc : Str) (s : Shared) (Q : Str → Shared → Prop), (∀ p ∈ es, Piece prog w A E env m p.1 p.2) → s.heap.Ns env.locals m → acc.length + (es.map (·.1)).sum ≤ sizeLine →
    (∀ y tk, y.length ≤ sizeLine → Q y { s with toks := tk }) → Joins (model prog w) A E (es.map fun p => eval p.2 env) acc Q s
  | [], acc, s, Q, _, _, hz, q => q acc s.toks (by simpa using hz)
  | p :: es, acc, s, Q, h, hn, hz, q => by
    rw [List.map_cons, List.sum_cons] at hz
    refine h p (by simp) s _ hn fun y t tk hy => ⟨y, t, rfl, ?_, ?_⟩
    · rw [strLen_append]; omega
    · exact joins es (acc ++ y) { s with toks := tk } Q (fun p hp => h p (by simp [hp])) hn (by rw [strLen_append]; omega) fun y tk hy => q y tk hy
/-! ### the texts -/
def iArg (x : Str) (p : Pos) : Arg := { arg := x, annotation := none, pos := p }
def iAs (l : List Arg) : Arguments := { posonlyargs := [], args := l, vararg := none, kwonlyargs := [], kw_defaults := [], kwarg := none, defaults := [] }
def iSc (l : List Str) : Scope := { kind := .function, names := (l.map fun x => (x, NameKind.local)) ++ [(PySem.Str.ofString "__class__", .free), (PySem.Str.ofString "super", .globalImplicit)], isGenerator := false, isCoroutine := false, more := [] }
def iR (e : Expr) (p0 p1 p2 p3 p4 : Pos) : Stmt := .Expr (.Call (.Attribute (.Call (.Name "super" p0) [] [] p1) "__init__" p2) [e] [] p3) p4
def iF (f : Str) (q1 q2 q3 q4 : Pos) : Stmt := .Assign [.Attribute (.Name "self" q1) f q2] (.Name f q3) q4
/-- a field's value: what the message can tell -/
def Short (v : Value) : Prop := (∃ i t, v = .int i t ∧ i.natAbs.log2 < 1920) ∨ ∃ z t, v = .str z t ∧ z.length ≤ 1000000
theorem piece_fld {env : Env} {m : Str → Option Value} {x : Str} {v : Value} {pos p2 : Pos} (hv : m x = some v) (hs : Short v) (hk : env.scope.kind = .function) (hl : env.kindOf x = some .local) (hd : (x == ("__debug__" : Str)) = false) :
    Piece prog w A E env m 1000000 (.FormattedValue (.Name x pos) (-1) none p2) := by
  rcases hs with ⟨i, t, rfl, hi⟩ | ⟨z, t, rfl, hz⟩
  · intro s Q hn q
    exact piece_int hv hi hk hl hd s Q hn fun y t tk hy => q y t tk (Nat.le_trans hy (by omega))
  · exact piece_str hv hz (by rw [sizeLine_eq]; show 1000000 ≤ 16777216; omega) hk hl hd
theorem joinsM {env : Env} {m : Str → Option Value} {s : Shared} {R : Value → Shared → Prop} {es : List Expr} (hl : es.length ≤ 8) (h : ∀ e ∈ es, Piece prog w A E env m 1000000 e) (hn : s.heap.Ns env.locals m) (q : ∀ v tk, R v { s with toks := tk }) :
    Joins (model prog w) A E (es.map fun e => eval e env) Str.empty (fun y s1 => y.length ≤ sizeLine ∧ R (.str y s1.toks) { s1 with toks := s1.toks + 1 }) s := by
  have e1 : es.map (fun e => eval e env) = (es.map fun e => (1000000, e)).map fun p : Nat × Expr => eval p.2 env := by simp
  rw [e1]
  refine joins (es.map fun e => (1000000, e)) Str.empty s _ (fun p hp => ?_) hn ?_ fun y tk hy => ⟨hy, q _ _⟩
  · obtain ⟨e, he, rfl⟩ := List.mem_map.mp hp
    exact h e he
  · have e0 : Str.empty.length = 0 := rfl
    have e2 : ((es.map fun e => (1000000, e)).map fun p : Nat × Expr => p.1) = List.replicate es.length 1000000 := by
      rw [List.map_map]
      exact List.eq_replicate_iff.mpr ⟨by simp, fun b hb => by
      have z : (∃ x, x ∈ es) ∧ 1000000 = b := by simpa using hb
      exact z.2.symm⟩
    rw [e0, e2, List.sum_replicate_nat, sizeLine_eq]
    omega

/-- the call of __init__ over super() -/
theorem mc {e : Expr} {p0 p1 p2 p3 : Pos} {env : Env} (hst : starEach [e] env = [(false, eval e env)]) (hl : (p2.endLine == p3.line) = true) :
    eval (.Call (.Attribute (.Call (.Name "super" p0) [] [] p1) "__init__" p2) [e] [] p3) env = (do
      let ov ← attributeBase (.Call (.Name "super" p0) [] [] p1) "__init__" env (eval (.Call (.Name "super" p0) [] [] p1) env)
      standAt p2.atName
      let (f, first) ← holding [ov] (getMethod ov "__init__" (do return (← importBound (.Call (.Name "super" p0) [] [] p1) env).getD true))
      callWith p3 f first (backTo p3 (starEach [e] env)) []) := by
  show (do
    let ov ← attributeBase (.Call (.Name "super" p0) [] [] p1) "__init__" env (eval (.Call (.Name "super" p0) [] [] p1) env)
    standAt p2.atName
    methodCall (.Call (.Name "super" p0) [] [] p1) "__init__" p2 p3 env ov 1 (backTo p3 (starEach [e] env)) (backToKw p3 (keywordEach [] env))) = _
  rw [hst]
  have h1 : methodCallForm 1 (backTo p3 [(false, eval e env)]) (backToKw p3 (keywordEach [] env)) = true := rfl
  unfold methodCall
  rw [h1]
  unfold methodCallPos calleeOf
  rw [hl]
  rfl
/-- what __init__ leaves of a fresh exception at x -/
structure InitEnd (h h' : Heap) (x C dx t1 : Addr) (f : Str → Option Value) : Prop where
  keep : ∀ b o, b ≠ x → h.get? b = some o → h'.get? b = some o
  obj : h'.get? x = some { cls := .ref C, dict := some dx, data := .fields #[.ref t1, .none, .none, .none, .bool false, .none] }
  dbig : h.objs.size ≤ dx
  dne : dx ≠ x
  ns : h'.Ns1 dx f
/-- the message is told, whatever stands in the place of the fields -/
def Tells (prog : Program) (w : World) (A : Around) (E : Value → Shared → Prop) (env : Env) (m : Str → Option Value) (e : Expr) : Prop :=
  ∀ (s1 : Shared) (R : Value → Shared → Prop), s1.heap.Ns env.locals m → (∀ v tk, R v { s1 with toks := tk }) → wpAny (model prog w) A (eval e env) R E s1
theorem init1 (T : Txt prog K mg C fI cc cda) {s : Shared} {R : Result → Shared → Prop} {x t0 : Addr} {f : Str} {e : Expr} {v : Value} {mb : Str → Option Value} {oc doc pm ct : Value} {od an : Option Addr} {osl : Array (Option Value)} {a1 a2 p0 p1 p2 p3 p4 u1 u2 u3 u4 : Pos}
    (hf : f = "line" ∨ f = "place" ∨ f = "tick" ∨ f = "amount")
    (ho : K.lookup fI = some ⟨oc, od, .func (ksFn "__init__" q (iAs [iArg "self" a1, iArg f a2]) [iR e p0 p1 p2 p3 p4, iF f u1 u2 u3 u4] (iSc ["self", f]) .none .none doc pm an (.ref cda) ct cc), osl⟩) (hcd : codeIn K (.ref cda) q = true)
    (sa : findIn K (.ref C) "__setattr__" = some (some (.builtin "object.__setattr__"))) (n1 : findIn K (.ref C) f = some none)
    (hst : ∀ env, starEach [e] env = [(false, eval e env)]) (hl : (p2.endLine == p3.line) = true) (hsw : ∀ env, swapsWith (.Call (.Attribute (.Call (.Name "super" p0) [] [] p1) "__init__" p2) [e] [] p3) none p4.line env = pure false) (hmsg : ∀ A E L m, m f = some v → Tells prog w A E (ksEnv q (iSc ["self", f]) L fI (.ref cda) cc) m e)
    (X : K.In s.heap) (hG : s.heap.Ns mainGlobals mg) (hB : s.heap.Ns builtinsNs mb) (hb : mb "super" = some (.type "super")) (hlim : s.heap.NoLimit) (hroom : A.depth < recursionLimit) (hx : s.heap.get? x = some (excO C t0)) (hnx : K.lookup x = none)
    (hq : ∀ h' tk dx t1', InitEnd s.heap h' x C dx t1' (fun y => if y = f then some v else none) → R (.ok (.ret .none)) { s with heap := h', toks := tk }) :
    codeAny (model prog w) A (.call (.ref fI) ⟨[.ref x, v], []⟩) R s := by
  rcases hf with rfl | rfl | rfl | rfl
  all_goals
    refine ks_codeAny_call_defAt (binds := [("self", .ref x), (_, v)]) hroom (X _ _ ho) rfl hlim (codeRec_of X hcd) rfl (BindsTo.of_eq (by first | rfl | with_unfolding_all rfl)) (show ∀ y ∈ (iSc _).names, y.2 ≠ .cell by decide) (fun y hy => by
      simp only [List.mem_cons, List.not_mem_nil, or_false] at hy
      rcases hy with rfl | rfl <;> rfl) (fun g0 hns k => ?_) rfl rfl rfl
    have X0 : K.In g0 := X.keeps k
    have hxL : s.heap.objs.size ≠ x := Nat.ne_of_gt (Heap.lt_size hx)
    refine ks_wpAt_execs_cons (super_row (q := q) T X0 (hG.keeps k) (hB.keeps k) hb ho rfl hns rfl (k _ _ hx) hnx rfl rfl rfl rfl (fun s1 R' E' k' hn1 qq => hmsg _ _ _ _ (by rfl) s1 R' hn1 qq) (hst _) (hsw _) rfl (mc (hst _) hl) fun h2 tk2 t2 k2 hx2 hs2 => ?_)
    have hns2 : h2.Ns s.heap.objs.size _ := hns.at fun o z => k2 _ _ hxL z
    refine ks_wpAt_execs_cons (wpAt_of_wpAny (field_new (L := 0) T (kept_but X0 hnx k2) hns2 (by rfl) (by rfl) hx2 n1 sa rfl rfl rfl (by decide) rfl fun h3 tk3 dx k3 dbig dne hx3 hn3 => ?_))
    have z : s.heap.objs.size < g0.objs.size := hns.lt
    exact wpAt_of_wpAny (wpAny_execs_nil (hq h3 _ dx t2 ⟨fun b o hb e => k3 b o hb (k2 b o hb (k b o e)), hx3, Nat.le_trans (Nat.le_of_lt z) (Nat.le_trans hs2 dbig), dne, hn3⟩))

theorem init0 (T : Txt prog K mg C fI cc cda) {s : Shared} {R : Result → Shared → Prop} {x t0 : Addr} {e : Expr} {mb : Str → Option Value} {oc doc pm ct : Value} {od an : Option Addr} {osl : Array (Option Value)} {a1 p0 p1 p2 p3 p4 : Pos}
    (ho : K.lookup fI = some ⟨oc, od, .func (ksFn "__init__" q (iAs [iArg "self" a1]) [iR e p0 p1 p2 p3 p4] (iSc ["self"]) .none .none doc pm an (.ref cda) ct cc), osl⟩) (hcd : codeIn K (.ref cda) q = true)
    (hst : ∀ env, starEach [e] env = [(false, eval e env)]) (hl : (p2.endLine == p3.line) = true) (hsw : ∀ env, swapsWith (.Call (.Attribute (.Call (.Name "super" p0) [] [] p1) "__init__" p2) [e] [] p3) none p4.line env = pure false) (hmsg : ∀ A E L m, Tells prog w A E (ksEnv q (iSc ["self"]) L fI (.ref cda) cc) m e)
    (X : K.In s.heap) (hG : s.heap.Ns mainGlobals mg) (hB : s.heap.Ns builtinsNs mb) (hb : mb "super" = some (.type "super")) (hlim : s.heap.NoLimit) (hroom : A.depth < recursionLimit) (hx : s.heap.get? x = some (excO C t0)) (hnx : K.lookup x = none)
    (hq : ∀ h' tk t1', (∀ b o, b ≠ x → s.heap.get? b = some o → h'.get? b = some o) → h'.get? x = some (excO C t1') → R (.ok (.ret .none)) { s with heap := h', toks := tk }) :
    codeAny (model prog w) A (.call (.ref fI) ⟨[.ref x], []⟩) R s := by
  refine ks_codeAny_call_defAt (binds := [("self", .ref x)]) hroom (X _ _ ho) rfl hlim (codeRec_of X hcd) rfl (BindsTo.of_eq (by first | rfl | with_unfolding_all rfl)) (show ∀ y ∈ (iSc _).names, y.2 ≠ .cell by decide) (fun y hy => by
    simp only [List.mem_cons, List.not_mem_nil, or_false] at hy
    rcases hy with rfl <;> rfl) (fun g0 hns k => ?_) rfl rfl rfl
  have X0 : K.In g0 := X.keeps k
  refine ks_wpAt_execs_cons (super_row (q := q) T X0 (hG.keeps k) (hB.keeps k) hb ho rfl hns rfl (k _ _ hx) hnx rfl rfl rfl rfl (fun s1 R' E' k' hn1 qq => hmsg _ _ _ _ s1 R' hn1 qq) (hst _) (hsw _) rfl (mc (hst _) hl) fun h2 tk2 t2 k2 hx2 hs2 => ?_)
  exact wpAt_of_wpAny (wpAny_execs_nil (hq h2 _ t2 (fun b o hb e => k2 b o hb (k b o e)) hx2))
theorem init2 (T : Txt prog K mg C fI cc cda) {s : Shared} {R : Result → Shared → Prop} {x t0 : Addr} {e : Expr} {v v2 : Value} {mb : Str → Option Value} {oc doc pm ct : Value} {od an : Option Addr} {osl : Array (Option Value)} {a1 a2 a3 p0 p1 p2 p3 p4 u1 u2 u3 u4 u5 u6 u7 u8 : Pos}
    (ho : K.lookup fI = some ⟨oc, od, .func (ksFn "__init__" q (iAs [iArg "self" a1, iArg "place" a2, iArg "fault" a3]) [iR e p0 p1 p2 p3 p4, iF "place" u1 u2 u3 u4, iF "fault" u5 u6 u7 u8] (iSc ["self", "place", "fault"]) .none .none doc pm an (.ref cda) ct cc), osl⟩) (hcd : codeIn K (.ref cda) q = true)
    (sa : findIn K (.ref C) "__setattr__" = some (some (.builtin "object.__setattr__"))) (n1 : findIn K (.ref C) "place" = some none) (n2 : findIn K (.ref C) "fault" = some none)
    (hst : ∀ env, starEach [e] env = [(false, eval e env)]) (hl : (p2.endLine == p3.line) = true) (hsw : ∀ env, swapsWith (.Call (.Attribute (.Call (.Name "super" p0) [] [] p1) "__init__" p2) [e] [] p3) none p4.line env = pure false)
    (hmsg : ∀ A E L m, m "place" = some v → m "fault" = some v2 → Tells prog w A E (ksEnv q (iSc ["self", "place", "fault"]) L fI (.ref cda) cc) m e)
    (X : K.In s.heap) (hG : s.heap.Ns mainGlobals mg) (hB : s.heap.Ns builtinsNs mb) (hb : mb "super" = some (.type "super")) (hlim : s.heap.NoLimit) (hroom : A.depth < recursionLimit) (hx : s.heap.get? x = some (excO C t0)) (hnx : K.lookup x = none)
    (hq : ∀ h' tk dx t1', InitEnd s.heap h' x C dx t1' (fun y => if y = "fault" then some v2 else if y = "place" then some v else none) → R (.ok (.ret .none)) { s with heap := h', toks := tk }) :
    codeAny (model prog w) A (.call (.ref fI) ⟨[.ref x, v, v2], []⟩) R s := by
  refine ks_codeAny_call_defAt (binds := [("self", .ref x), ("place", v), ("fault", v2)]) hroom (X _ _ ho) rfl hlim (codeRec_of X hcd) rfl (BindsTo.of_eq (by first | rfl | with_unfolding_all rfl)) (show ∀ y ∈ (iSc _).names, y.2 ≠ .cell by decide) (fun y hy => by
    simp only [List.mem_cons, List.not_mem_nil, or_false] at hy
    rcases hy with rfl | rfl | rfl <;> rfl) (fun g0 hns k => ?_) rfl rfl rfl
  have X0 : K.In g0 := X.keeps k
  have hxL : s.heap.objs.size ≠ x := Nat.ne_of_gt (Heap.lt_size hx)
  refine ks_wpAt_execs_cons (super_row (q := q) T X0 (hG.keeps k) (hB.keeps k) hb ho rfl hns rfl (k _ _ hx) hnx rfl rfl rfl rfl (fun s1 R' E' k' hn1 qq => hmsg _ _ _ _ (by rfl) (by rfl) s1 R' hn1 qq) (hst _) (hsw _) rfl (mc (hst _) hl) fun h2 tk2 t2 k2 hx2 hs2 => ?_)
  have hns2 : h2.Ns s.heap.objs.size _ := hns.at fun o z => k2 _ _ hxL z
  have X2 := kept_but X0 hnx k2
  refine ks_wpAt_execs_cons (wpAt_of_wpAny (field_new (L := 0) T X2 hns2 (by rfl) (by rfl) hx2 n1 sa rfl rfl rfl (by decide) rfl fun h3 tk3 dx k3 dbig dne hx3 hn3 => ?_))
  have z : s.heap.objs.size < g0.objs.size := hns.lt
  have hns3 : h3.Ns s.heap.objs.size _ := hns2.at fun o z => k3 _ _ hxL z
  refine ks_wpAt_execs_cons (wpAt_of_wpAny (field_old (L := 0) (nl := ["place"]) T (kept_but X2 hnx k3) hns3 (by rfl) (by rfl) hx3 hn3 (fun y hy => ?_) (by decide) n2 sa rfl rfl rfl (by decide) rfl fun h4 tk4 k4 hn4 => ?_))
  · by_cases hp : y = "place"
    · rw [hp]; decide
    · rw [if_neg hp] at hy; exact absurd rfl hy
  exact wpAt_of_wpAny (wpAny_execs_nil (hq h4 _ dx t2 ⟨fun b o hb e => k4 b o (fun q => by
    rw [q] at e
    exact absurd (Nat.lt_of_lt_of_le (Heap.lt_size e) (Nat.le_trans (Nat.le_of_lt z) (Nat.le_trans hs2 dbig))) (Nat.lt_irrefl _)) (k3 b o hb (k2 b o hb (k b o e))), k4 _ _ (Ne.symm dne) hx3, Nat.le_trans (Nat.le_of_lt z) (Nat.le_trans hs2 dbig), dne, hn4⟩))
end
end XI
/-! an own exception is made: __init__ as XJ tells -/
namespace XI
open PySem PySem.W PySem.Calls PyProof.Rows PySem.HandSPX
/-- what __init__ leaves, with or without a dict -/
structure IEnd (h h' : Heap) (x C : Addr) (d : Option Addr) (t1 : Addr) (fs : List (Str × Value)) : Prop where
  keep : ∀ b o, b ≠ x → h.get? b = some o → h'.get? b = some o
  obj : h'.get? x = some { cls := .ref C, dict := d, data := .fields #[.ref t1, .none, .none, .none, .bool false, .none] }
  big : ∀ dx, d = some dx → h.objs.size ≤ dx ∧ dx ≠ x ∧ h'.Ns1 dx (fun y => fs.lookup y)
def Inits (prog : Program) (w : World) (K : Frag) (mg : Str → Option Value) (C fI : Addr) (vs : List Value) (fs : List (Str × Value)) : Prop :=
  ∀ (A : Around) (s : Shared) (R : Result → Shared → Prop) (x t0 : Addr) (mb : Str → Option Value), K.In s.heap → s.heap.Ns mainGlobals mg → s.heap.Ns builtinsNs mb → mb "super" = some (.type "super") → s.heap.NoLimit → A.depth < recursionLimit →
    s.heap.get? x = some (excO C t0) → K.lookup x = none → (∀ h' tk d t1, (d = none ↔ fs = []) → IEnd s.heap h' x C d t1 fs → R (.ok (.ret .none)) { s with heap := h', toks := tk }) → codeAny (model prog w) A (.call (.ref fI) ⟨.ref x :: vs, []⟩) R s
/-- a made exception -/
structure Made (h h' : Heap) (e C : Addr) (d : Option Addr) (fs : List (Str × Value)) : Prop where
  keep : ∀ b o, h.get? b = some o → h'.get? b = some o
  new : h.objs.size ≤ e
  obj : ∃ oe vs, h'.get? e = some oe ∧ oe.cls = .ref C ∧ oe.dict = d ∧ oe.data = .fields vs ∧ vs[1]? = some .none
  big : ∀ dx, d = some dx → h.objs.size ≤ dx ∧ dx ≠ e ∧ h'.Ns1 dx (fun y => fs.lookup y)
/-- the class's facts that the making asks -/
structure Cl (K : Frag) (C fI : Addr) : Prop where
  cls : ∃ nm q N bs bm sn sub ab col dd k0 k1 k2 k3 k5, K.lookup C = some (excClassObj nm q C N bs bm true sn sub ab col dd k0 k1 k2 k3 k5 "ValueError.__new__") ∧ refsVE bm = true
  iC : findIn K (.ref C) "__init__" = some (some (.ref fI))
  tC : typeIn K (.ref fI) = some (.type "function")
  kC : keepIn K (.ref C) = true
  exC : subIn K (.ref C) (.type "BaseException") = some true
  tyC : typeIn K (.ref C) = some (.type "type")
section
variable {prog : Program} {w : World} {A : Around} {R : Result → Shared → Prop} {s : Shared} {K : Frag} {mg : Str → Option Value} {C fI : Addr} {vs : List Value} {fs : List (Str × Value)} {mb : Str → Option Value}
theorem made (T : Cl K C fI) (I : Inits prog w K mg C fI vs fs) (hz : vs.length ≤ 1000) (X : K.In s.heap) (hG : s.heap.Ns mainGlobals mg) (hB : s.heap.Ns builtinsNs mb) (hb : mb "super" = some (.type "super")) (hlim : s.heap.NoLimit) (hroom : A.depth + 1 < recursionLimit)
    (hq : ∀ h' tk e d, (d = none ↔ fs = []) → Made s.heap h' e C d fs → R (.ok (.ret (.ref e))) { s with heap := h', toks := tk }) :
    codeAny (model prog w) A (.call (.ref C) ⟨vs, []⟩) R s := by
  obtain ⟨nm, q, N, bs, bm, sn, sub, ab, col, dd, k0, k1, k2, k3, k5, hC, hbm⟩ := T.cls
  obtain ⟨h0, g, dr, tk, os⟩ := s
  have kp : ∀ b o, h0.get? b = some o → ((h0.push (kdv_tup vs)).push (excO C h0.objs.size)).get? b = some o := fun b o z => Heap.get?_push_of_some _ (Heap.get?_push_of_some _ z)
  have at_e : ((h0.push (kdv_tup vs)).push (excO C h0.objs.size)).get? (h0.objs.size + 1) = some (excO C h0.objs.size) := by heap_get
  have notK : K.lookup (h0.objs.size + 1) = none := by
    cases z : K.lookup (h0.objs.size + 1) with
    | none => rfl
    | some o => exact absurd (Nat.lt_of_succ_lt (Heap.lt_size (X _ _ z))) (Nat.lt_irrefl _)
  refine call_own F.excBase_ValueError (fun X => refsVE_contains X bm hbm) (X _ _ hC) (looks_findIn X T.iC) (fun self => bind_fn X self T.tC) (by rw [sizeLine_eq]; omega) ?_
  refine I _ ⟨(h0.push (kdv_tup vs)).push (excO C h0.objs.size), g, dr, tk, os⟩ _ _ _ mb (X.keeps kp) (hG.keeps kp) (hB.keeps kp) hb (hlim.keeps kp) (show A.depth + 1 < recursionLimit from hroom) at_e notK fun h' tk' d t1 hd M => ?_
  refine ⟨rfl, hq h' tk' (h0.objs.size + 1) d hd ⟨fun b o z => M.keep b o (Nat.ne_of_lt (Nat.lt_succ_of_lt (Heap.lt_size z))) (kp b o z), Nat.le_succ _, ⟨_, _, M.obj, rfl, rfl, rfl, rfl⟩, fun dx hx => ?_⟩⟩
  obtain ⟨b1, b2, b3⟩ := M.big dx hx
  have z : h0.objs.size + 1 + 1 ≤ dx := by simpa only [Heap.size_push] using b1
  exact ⟨Nat.le_trans (show h0.objs.size ≤ h0.objs.size + 1 + 1 by omega) z, b2, b3⟩
end
end XI
namespace VL
open PySem PySem.Spec PyProof.Rows L2
/-- a field that a message can tell -/
def ShortV : V → Prop
  | .int i => i.natAbs.log2 < 1920
  | .str z => z.length ≤ 1000000
  | _ => False
theorem short_of {v : V} {u : Value} (h : ShortV v) (r : RelV v u) : XI.Short u := by
  cases v with
  | int i => obtain ⟨t, rfl⟩ := r; exact .inl ⟨i, t, rfl, h⟩
  | str z => obtain ⟨t, rfl⟩ := r; exact .inr ⟨z, t, rfl, h⟩
  | _ => exact h.elim
/-- the own exception x -/
structure ExcMk (prog : Program) (w : World) (K : PySem.W.Frag) (mg : Str → Option Value) (x : Str) (C : Addr) (ks : List Str) : Prop where
  gC : mg x = some (.ref C)
  ini : ∃ fI, XI.Cl K C fI ∧ ∀ us : List Value, us.length = ks.length → (∀ u ∈ us, XI.Short u) → XI.Inits prog w K mg C fI us (ks.zip us)
  len : ks.length ≤ 1000
theorem zip_rel (f : Str) : ∀ {ks : List Str} {vs : List V} {us : List Value}, Vals vs us → RelO (List.lookup f (ks.zip vs)) (List.lookup f (ks.zip us))
  | [], _, _, _ => by simp; trivial
  | k :: ks, _, _, .nil => by simp; trivial
  | k :: ks, _, _, .cons r rs => by
    simp only [List.zip_cons_cons, List.lookup]
    cases f == k with
    | true => exact r
    | false => exact zip_rel f rs
variable {X : Cx} {C : Addr} {ks : List Str}
def tMk (C : Addr) (ks : List Str) (ta : TA) : L2.St → Hp → XK → Prop := fun σ H Q => ta σ H fun vs H1 => vs.length = ks.length ∧ (∀ v ∈ vs, ShortV v) ∧ (ks = [] → Q (.ref C) none H1) ∧ (ks ≠ [] → ∀ d, H1 d = none → Q (.ref C) (some d) (upd H1 d (.xd (ks.zip vs))))
theorem pmk_x {a : Expr} {as : List Expr} {ta : TA} {x : Str} {p pos : Pos} {k : Nat} (T : ExcMk X.prog X.w X.K X.mg x C ks) (hr : Room k X.A) (ha : PA X (a :: as) ta) (hg : Gl X x)
    (he : starEach (a :: as) X.env = (false, eval a X.env) :: starEach as X.env := by rfl) (hpl : (backTo pos (starEach as X.env)).any (·.1) = false := by rfl) (hdb : (x == ("__debug__" : Str)) = false := by decide) :
    PMk X (.Call (.Name x p) (a :: as) [] pos) (tMk C ks ta) := by
  intro pins s σ H Q I h
  obtain ⟨fI, cl, ini⟩ := T.ini
  refine wpAny_Call_Name_kw (ld_glob I hg T.gC ?_ hdb)
  refine PySem.W.callWith_K (h₀ := X.base) I.ok.mod.kin cl.kC (thn (ha.run pos pins s σ H _ I h) fun us s1 hh => ?_) he hpl
  obtain ⟨vs, H1, I1, r1, hlen, hsh, q0, q1⟩ := hh
  refine ⟨I1.kIn, ?_⟩
  have hul : us.length = ks.length := by rw [← hlen]; exact r1.length.symm
  have hus : ∀ u ∈ us, XI.Short u := by
    clear q0 q1 hul hlen
    induction r1 with
    | nil => intro u hu; simp at hu
    | cons r rs ih =>
      intro u hu
      rcases List.mem_cons.mp hu with rfl | hu
      · exact short_of (hsh _ List.mem_cons_self) r
      · exact ih (fun v hv => hsh v (List.mem_cons_of_mem _ hv)) u hu
  have lim := I1.nolimit
  obtain ⟨mb, hb1, hb2⟩ := I1.mod.blt
  have hB : s1.heap.Ns builtinsNs mb := hb1.keeps I1.bk
  have hG : s1.heap.Ns mainGlobals X.mg := I1.mod.glob.keeps I1.bk
  have hsup : mb "super" = some (.type "super") := (hb2 "super" (by decide)).trans (by decide +kernel)
  show wpAny _ _ (call (.ref C) ([] ++ us)) _ _ _
  rw [List.nil_append]
  obtain ⟨h0, g, dr, tk, os⟩ := s1
  refine wpAny_call (XI.made (s := ⟨h0, g, dr, tk, os⟩) cl (ini us hul hus) (by rw [hul]; exact T.len) I1.kIn hG hB hsup lim (by have := hr.dp; omega) fun h' tk' e d hd M => ?_)
  show MkP X pins σ Q (.ref e) ⟨h', g, dr, tk', os⟩
  obtain ⟨oe, fv, hoe, hc, hdd, hdat, h1⟩ := M.obj
  obtain ⟨G', g1, g2⟩ := restrict h' fun b => decide (b ≠ e)
  have gk : ∀ b, b ≠ e → G'.get? b = h'.get? b := fun b hb => g1 b (decide_eq_true hb)
  have ge : G'.get? e = none := g2 e (by simp)
  have old : ∀ b o, h0.get? b = some o → G'.get? b = some o := fun b o q => (gk b (Nat.ne_of_lt (Nat.lt_of_lt_of_le (Heap.lt_size q) M.new))).trans (M.keep b o q)
  have back : ∀ b o, G'.get? b = some o → h'.get? b = some o := fun b o q => by
    by_cases hb : b = e
    · rw [hb, ge] at q; cases q
    · exact (gk b hb).symm.trans q
  have hz : (ks.zip us = []) ↔ ks = [] := by
    cases ks with
    | nil => simp
    | cons a b => cases us with
      | nil => simp at hul
      | cons c d => simp
  cases d with
  | none =>
    have hk : ks = [] := hz.mp (hd.mp rfl)
    have J : Inv X pins σ H1 ⟨G', g, dr, tk', os⟩ := I1.kept (t' := tk') old
    exact ⟨e, oe, fv, ⟨G', g, dr, tk', os⟩, H1, .ref C, none, rfl, J, back, ge, hoe, ⟨hc, hdd⟩, hdat, h1, I1.hok.fresh M.new, rfl, I1.bare, raises_own cl.exC cl.tyC, q0 hk⟩
  | some dx =>
    obtain ⟨b1, b2, b3⟩ := M.big dx rfl
    have hk : ks ≠ [] := fun z => by have := hd.mpr (hz.mpr z); cases this
    have ob : ObjOk X.prog X.w (upd H1 dx (.xd (ks.zip vs))) G' dx (.xd (ks.zip vs)) := ⟨_, b3.at (fun o q => (gk dx b2).trans q), fun f => zip_rel f r1⟩
    have J : Inv X pins σ (upd H1 dx (.xd (ks.zip vs))) ⟨G', g, dr, tk', os⟩ := I1.laid (t' := tk') old b1 ob
    refine ⟨e, oe, fv, ⟨G', g, dr, tk', os⟩, _, .ref C, some dx, rfl, J, back, ge, hoe, ⟨hc, hdd⟩, hdat, h1, ?_, rfl, I1.bare, raises_own cl.exC cl.tyC, q1 hk dx (I1.hok.fresh b1)⟩
    rw [upd_ne (Ne.symm b2)]
    exact I1.hok.fresh M.new
end VL
/-! what the head tells of own exception classes and of their __init__ -/
namespace VL
open PySem PySem.Spec PyProof.Rows L2 He
open PySem.W
/-! ### the texts of __init__ -/
structure IniD where
  cls : Str
  qual : Str
  params : Arguments
  body : List Stmt
  scope : Scope
abbrev IniV : Type := Option (Str × Str × Arguments × FuncBody × Scope × Addr × List Str × Addr × Value × Value)
def iniAd (K : Frag) (x : Str) : Addr := ma K (ga K x) "__init__"
def iniW (K : Frag) (x : Str) : IniV := match K.lookup (iniAd K x) with
  | some ⟨_, _, .func fd, _⟩ => some (fd.name, fd.qualname, fd.params, fd.body, fd.scope, fd.globals, fd.closure.map (·.1), fd.builtins, fd.defaults, fd.kwdefaults)
  | _ => none
def IniD.val (d : IniD) : IniV := some ("__init__", d.qual, d.params, .stmts d.body, d.scope, mainGlobals, ["__class__"], builtinsNs, .none, .none)
def cellB (K : Frag) (cc C : Addr) : Bool := match K.lookup cc with
  | some ⟨_, _, .cell (some (.ref c)), _⟩ => c == C
  | _ => false
def fileB (K : Frag) (cda : Addr) (file : Str) : Bool := match K.lookup cda with
  | some ⟨_, _, .fields vs, _⟩ => (match vs[2]? with
    | some (Value.str f _) => file == f
    | _ => false)
  | _ => false
def iniB (K : Frag) (x q file : Str) : Bool := match K.lookup (iniAd K x) with
  | some ⟨_, _, .func fd, _⟩ => (match fd.closure with
    | [(_, cc)] => cellB K cc (ga K x)
    | _ => false) && ((match fd.code with
    | .ref cda => fileB K cda file
    | _ => false) && codeIn K fd.code q)
  | _ => false
/-- the function's object, in the form that XJ reads -/
theorem ini_ok {K : Frag} {d : IniD} {file : Str} (e : iniW K d.cls = d.val) (c : iniB K d.cls d.qual file = true) :
    ∃ (oc doc pm ct : Value) (od an : Option Addr) (osl : Array (Option Value)) (cda cc : Addr), K.lookup (iniAd K d.cls) = some ⟨oc, od, .func (ksFn "__init__" d.qual d.params d.body d.scope .none .none doc pm an (.ref cda) ct cc), osl⟩ ∧
      cellB K cc (ga K d.cls) = true ∧ fileB K cda file = true ∧ codeIn K (.ref cda) d.qual = true := by
  unfold iniW at e
  unfold iniB at c
  cases q : K.lookup (iniAd K d.cls) with
  | none => rw [q] at c; cases c
  | some o =>
    obtain ⟨oc, od, dt, osl⟩ := o
    rw [q] at c e
    cases dt with
    | func fd =>
      obtain ⟨n1, n2, n3, n4, n5, n6, n7, n8, n9, n10, n11, n12, n13, n14, n15⟩ := fd
      have e2 : (some (n1, n2, n3, n4, n5, n6, n7.map (·.1), n15, n8, n9) : IniV) = d.val := e
      simp only [IniD.val, Option.some.injEq, Prod.mk.injEq] at e2
      obtain ⟨h1, h2, h3, h4, h5, h6, h7, h8, h9, h10⟩ := e2
      obtain ⟨c1, c2⟩ := ba c
      obtain ⟨c3, c4⟩ := ba c2
      subst h1 h2 h3 h4 h5 h6 h8 h9 h10
      dsimp only at c1 c3 c4
      cases n7 with
      | nil => cases h7
      | cons p r =>
        cases r with
        | cons _ _ => exact absurd (congrArg List.length h7) (by simp)
        | nil =>
          obtain ⟨pn, cc⟩ := p
          have h8 : [pn] = [("__class__" : Str)] := h7
          injection h8 with h9 _
          subst h9
          cases n13 with
          | ref cda => exact ⟨oc, n10, n11, n14, od, n12, osl, cda, cc, rfl, c1, c3, c4⟩
          | _ => cases c3
    | _ => cases c
/-! ### the class -/
def slB : List (Option Value) → Bool
  | [_, _, _, _, some (.builtin n), _] => decide (n = "ValueError.__new__")
  | _ => false
theorem slB_ok {l : List (Option Value)} (h : slB l = true) : ∃ k0 k1 k2 k3 k5, l = [k0, k1, k2, k3, some (.builtin "ValueError.__new__"), k5] := by
  unfold slB at h
  split at h
  · rename_i k0 k1 k2 k3 n k5
    have hn : n = "ValueError.__new__" := of_decide_eq_true h
    rw [hn]
    exact ⟨k0, k1, k2, k3, k5, rfl⟩
  · cases h
def clB (K : Frag) (C : Addr) : Bool := match K.lookup C with
  | some ⟨.type t, _, .cls cd, sl⟩ => decide (t = "type") && ((match cd.mro with
    | .ref C' :: bm => C' == C && HandSPX.refsVE bm
    | _ => false) && (cd.hasDict && (!cd.hasDel && slB sl.toList)))
  | _ => false
theorem clB_ok {K : Frag} {C : Addr} (h : clB K C = true) : ∃ nm q N bs bm sn sub ab col dd k0 k1 k2 k3 k5, K.lookup C = some (excClassObj nm q C N bs bm true sn sub ab col dd k0 k1 k2 k3 k5 "ValueError.__new__") ∧ HandSPX.refsVE bm = true := by
  unfold clB at h
  cases q : K.lookup C with
  | none => rw [q] at h; cases h
  | some o =>
    obtain ⟨oc, od, dt, osl⟩ := o
    rw [q] at h
    cases oc with
    | type t =>
      cases dt with
      | cls cd =>
        obtain ⟨c1, c2, c3, c4, c5, c6, c7, c8, c9, c10, c11⟩ := cd
        obtain ⟨h1, h⟩ := ba h
        obtain ⟨h2, h⟩ := ba h
        obtain ⟨h3, h⟩ := ba h
        obtain ⟨h4, h5⟩ := ba h
        dsimp only at h2 h3 h4 h5
        have h1 : t = "type" := of_decide_eq_true h1
        subst h1
        have h3 : c6 = true := h3
        subst h3
        have h4 : c11 = false := by cases c11 <;> first | rfl | cases h4
        subst h4
        obtain ⟨ol⟩ := osl
        obtain ⟨k0, k1, k2, k3, k5, e5⟩ := slB_ok (l := ol) h5
        subst e5
        cases c3 with
        | nil => cases h2
        | cons v bm =>
          cases v with
          | ref C' =>
            have h2 : (C' == C && HandSPX.refsVE bm) = true := h2
            obtain ⟨g1, g2⟩ := ba h2
            have g1 : C' = C := by simpa using g1
            subst g1
            exact ⟨c1, c5, c4, c2, bm, c7, c8, c9, c10, od, k0, k1, k2, k3, k5, rfl, g2⟩
          | _ => cases h2
      | _ => cases h
    | _ => cases dt <;> cases h
def excB (K : Frag) (x : Str) : Bool :=
  clB K (ga K x) && (eqO (findIn K (.ref (ga K x)) "__init__") (some (some (.ref (iniAd K x)))) && (decide (typeIn K (.ref (iniAd K x)) = some (.type "function")) && (keepIn K (.ref (ga K x)) && (decide (subIn K (.ref (ga K x)) (.type "BaseException") = some true) &&
  (decide (typeIn K (.ref (ga K x)) = some (.type "type")) && (eqO (findIn K (.ref (ga K x)) "__setattr__") (some (some (.builtin "object.__setattr__"))) && (eqO (findIn K (.ref (ga K x)) "__getattribute__") (some (some (.builtin "BaseException.__getattribute__"))) &&
  (eqO (findIn K (.ref (ga K x)) "__getattr__") (some none) && (hasDictIn K (ga K x) && (eqO (findIn K (.ref (ga K x)) "__class__") (some (some (.builtin "object.__class__"))) && (eqO (specialIn K (.builtin "object.__class__") "__get__") (some (some (.builtin "getset_descriptor.__get__"))) &&
  (decide (takesIn K (.builtin "object.__class__") = some true) && (decide (mroIn K (ga K x) (.type "object") = some true) && (decide (exmOne K (.ref (ga K x)) (.ref (ga K x)) = some true) && (decide (mroIn K (ga K x) (.ref (ga K x)) = some true) &&
  (eqO (ks_superIn K (ga K x) (ga K x) "__init__") (some (some (.builtin "ValueError.__init__"))) && (decide (subIn K (.ref (ga K x)) (.type "ValueError") = some true) && (eqO (nsIn K cStatics "thirdparty.any") (some none) && decide (kitOne K (.ref (ga K x)) (.type "ValueError") = some true)))))))))))))))))))
structure ExcT (K : Frag) (x : Str) : Prop where
  cls : ∃ nm q N bs bm sn sub ab col dd k0 k1 k2 k3 k5, K.lookup (ga K x) = some (excClassObj nm q (ga K x) N bs bm true sn sub ab col dd k0 k1 k2 k3 k5 "ValueError.__new__") ∧ HandSPX.refsVE bm = true
  iC : findIn K (.ref (ga K x)) "__init__" = some (some (.ref (iniAd K x)))
  tC : typeIn K (.ref (iniAd K x)) = some (.type "function")
  kC : keepIn K (.ref (ga K x)) = true
  exC : subIn K (.ref (ga K x)) (.type "BaseException") = some true
  tyC : typeIn K (.ref (ga K x)) = some (.type "type")
  sa : findIn K (.ref (ga K x)) "__setattr__" = some (some (.builtin "object.__setattr__"))
  gt : findIn K (.ref (ga K x)) "__getattribute__" = some (some (.builtin "BaseException.__getattribute__"))
  gg : findIn K (.ref (ga K x)) "__getattr__" = some none
  hd : hasDictIn K (ga K x) = true
  cl : findIn K (.ref (ga K x)) "__class__" = some (some (.builtin "object.__class__"))
  sp : specialIn K (.builtin "object.__class__") "__get__" = some (some (.builtin "getset_descriptor.__get__"))
  tk : takesIn K (.builtin "object.__class__") = some true
  mo : mroIn K (ga K x) (.type "object") = some true
  te : exmOne K (.ref (ga K x)) (.ref (ga K x)) = some true
  self : mroIn K (ga K x) (.ref (ga K x)) = some true
  sup : ks_superIn K (ga K x) (ga K x) "__init__" = some (some (.builtin "ValueError.__init__"))
  subV : subIn K (.ref (ga K x)) (.type "ValueError") = some true
  stat : nsIn K cStatics "thirdparty.any" = some none
  kv : kitOne K (.ref (ga K x)) (.type "ValueError") = some true
theorem excB_ok {K : Frag} {x : Str} (h : excB K x = true) : ExcT K x := by
  unfold excB at h
  simp only [Bool.and_eq_true] at h
  obtain ⟨h1, h2, h3, h4, h5, h6, h7, h8, h9, h10, h11, h12, h13, h14, h15, h16, h17, h18, h19, h20⟩ := h
  exact ⟨clB_ok h1, eqO_ok h2, of_decide_eq_true h3, h4, of_decide_eq_true h5, of_decide_eq_true h6, eqO_ok h7, eqO_ok h8, eqO_ok h9, h10, eqO_ok h11, eqO_ok h12, of_decide_eq_true h13, of_decide_eq_true h14, of_decide_eq_true h15, of_decide_eq_true h16, eqO_ok h17, of_decide_eq_true h18, eqO_ok h19, of_decide_eq_true h20⟩
theorem ExcT.txt {K : Frag} {x file : Str} (T : ExcT K x) {prog : Program} {mg : Str → Option Value} {cc cda : Addr} (h1 : cellB K cc (ga K x) = true) (h2 : fileB K cda file = true) (hf : prog.main.file = file) (hs : (prog.main.scope.names.lookup ("super" : Str)).isSome = false) (hn : mg "super" = none) :
    XI.Txt prog K mg (ga K x) (iniAd K x) cc cda := by
  refine ⟨T.cls, ?_, ?_, T.self, T.sup, T.subV, T.stat, hs, hn⟩
  · unfold cellB at h1
    split at h1
    · rename_i c1 c2 c c3 q
      have h1 : c = ga K x := by simpa using h1
      subst h1
      exact ⟨_, _, _, q⟩
    · cases h1
  · unfold fileB at h2
    split at h2
    · rename_i c1 c2 vs c3 q
      split at h2
      · rename_i f t q2
        exact ⟨vs, f, t, _, _, _, q, q2, by rw [hf]; exact h2⟩
      · cases h2
    · cases h2
theorem ExcT.c {K : Frag} {x : Str} (T : ExcT K x) : XI.Cl K (ga K x) (iniAd K x) := ⟨T.cls, T.iC, T.tC, T.kC, T.exC, T.tyC⟩
theorem ExcT.e {K : Frag} {x : Str} (T : ExcT K x) : ExcC K (ga K x) := ⟨T.gt, T.gg, T.exC, T.hd, T.cl, T.sp, T.tk, T.mo⟩
/-! ### the Hook -/
def frY (n : Nat) (g : Addr → Option Obj) : Frag := frT g (asD g n ++ [cStatics])
abbrev AlY : Type := AlT × Bool × List IniV
def obsK (fa : List Fa) (fn : List DefD) (ts : List Tab) (tf : List Defn) (ex : Frag → Bool) (fi : List IniD) (g : Addr → Option Obj) (K : Frag) : AlY := (obsT fa fn ts K, ex K && tabsB g tf K, fi.map fun d => iniW K d.cls)
def obsY (n : Nat) (fa : List Fa) (fn : List DefD) (ts : List Tab) (tf : List Defn) (ex : Frag → Bool) (fi : List IniD) (g : Addr → Option Obj) : AlY := obsK fa fn ts tf ex fi g (frY n g)
def valY (fn : List DefD) (ts : List Tab) (fi : List IniD) (w : World) : AlY := (valT fn ts w, true, fi.map IniD.val)
def SaysY (fa : List Fa) (fn : List DefD) (ts : List Tab) (tf : List Defn) (ex : Frag → Bool) (fi : List IniD) (w : World) (h : Heap) (K : Frag) : Prop := SaysX fa fn ts tf ex w h K ∧ fi.map (fun d => iniW K d.cls) = fi.map IniD.val
theorem saysY_of {n : Nat} {fa : List Fa} {fn : List DefD} {ts : List Tab} {tf : List Defn} {ex : Frag → Bool} {fi : List IniD} {w : World} {h : Heap} (e : obsY n fa fn ts tf ex fi h.get? = valY fn ts fi w) : SaysY fa fn ts tf ex fi w h (frY n h.get?) := by
  obtain ⟨K, hK⟩ : ∃ K, K = frY n h.get? := ⟨_, rfl⟩
  have e : obsK fa fn ts tf ex fi h.get? K = valY fn ts fi w := by rw [hK]; exact e
  have hno : ∀ {a : Addr} {o : Obj}, h.get? a = some o → emptyTab o = true → K.lookup a = none := fun q z => by rw [hK]; exact frT_none q z
  rw [← hK]
  have e1 : obsT fa fn ts K = valT fn ts w := congrArg (fun z : AlY => z.1) e
  have e2 : (ex K && tabsB h.get? tf K) = true := congrArg (fun z : AlY => z.2.1) e
  have e3 : (fi.map fun d => iniW K d.cls) = fi.map IniD.val := congrArg (fun z : AlY => z.2.2) e
  obtain ⟨h1, h2⟩ := ba e2
  have tab : ∀ p ∈ tf, PySem.W.codeHdIn K (cT K p).1 (cT K p).2 = true ∧ ∃ o, h.get? (cT K p).2 = some o ∧ emptyTab o = true := fun p hp => by
    obtain ⟨h3, h4⟩ := ba (List.all_eq_true.mp h2 p hp)
    refine ⟨h3, ?_⟩
    cases q : h.get? (cT K p).2 with
    | none => rw [q] at h4; cases h4
    | some o => rw [q] at h4; exact ⟨o, rfl, h4⟩
  refine ⟨⟨e1, h1, fun p hp => (tab p hp).1, fun p hp => ?_, fun p hp => ?_⟩, e3⟩
  · obtain ⟨_, o, q, z⟩ := tab p hp
    exact hno q z
  · obtain ⟨_, o, q, z⟩ := tab p hp
    rw [q, emptyTab_eq z]
def hookY (n : Nat) (fa : List Fa) (fn : List DefD) (ts : List Tab) (tf : List Defn) (ex : Frag → Bool) (fi : List IniD) : PySem.W.Hook where
  α := AlY
  obs := fun s => obsY n fa fn ts tf ex fi s.heap.get?
  val := fun w => valY fn ts fi w
  says := fun w h => ∃ K : Frag, K.In h ∧ SaysY fa fn ts tf ex fi w h K
  of := fun _ _ e => ⟨_, frT_in, saysY_of e⟩
  keeps := fun _ _ _ ⟨K, hK, c, ci⟩ k => ⟨K, PySem.W.Frag.In.keeps hK k, ⟨c.t, c.more, c.hd, c.out, fun p hp => k _ _ (c.empty p hp)⟩, ci⟩
theorem obsY_eq {n : Nat} {fa : List Fa} {fn : List DefD} {ts : List Tab} {tf : List Defn} {ex : Frag → Bool} {fi : List IniD} {g : Addr → Option Obj} {s : Shared} (h : ∀ a, g a = s.heap.get? a) : obsY n fa fn ts tf ex fi g = (hookY n fa fn ts tf ex fi).obs s := by
  have e : g = s.heap.get? := funext h
  rw [e] <;> rfl
theorem SaysY.ini {fa : List Fa} {fn : List DefD} {ts : List Tab} {tf : List Defn} {ex : Frag → Bool} {fi : List IniD} {w : World} {h : Heap} {K : Frag} (c : SaysY fa fn ts tf ex fi w h K) (i : Nat) {d : IniD} (hd : fi[i]? = some d := by rfl) : iniW K d.cls = d.val := by
  have e := congrArg (fun l => l[i]?) c.2
  simp only [List.getElem?_map, hd, Option.map_some, Option.some.injEq] at e
  exact e
/-! ### the making, by the shape of __init__ -/
section
variable {prog : Program} {w : World} {K : Frag} {mg : Str → Option Value} {x q file : Str} {e : Expr} {a1 a2 a3 p0 p1 p2 p3 p4 u1 u2 u3 u4 u5 u6 u7 u8 : Pos}
theorem mk2 (T : ExcT K x) (hw : iniW K x = (⟨x, q, XI.iAs [XI.iArg "self" a1, XI.iArg "place" a2, XI.iArg "fault" a3], [XI.iR e p0 p1 p2 p3 p4, XI.iF "place" u1 u2 u3 u4, XI.iF "fault" u5 u6 u7 u8], XI.iSc ["self", "place", "fault"]⟩ : IniD).val) (hB : iniB K x q file = true)
    (hf : prog.main.file = file) (hs : (prog.main.scope.names.lookup ("super" : Str)).isSome = false) (hn : mg "super" = none) (hg : mg x = some (.ref (ga K x))) (n1 : findIn K (.ref (ga K x)) "place" = some none) (n2 : findIn K (.ref (ga K x)) "fault" = some none)
    (hst : ∀ env, starEach [e] env = [(false, eval e env)]) (hl : (p2.endLine == p3.line) = true) (hsw : ∀ env, swapsWith (.Call (.Attribute (.Call (.Name "super" p0) [] [] p1) "__init__" p2) [e] [] p3) none p4.line env = pure false)
    (hmsg : ∀ (cc cda : Addr) (v v2 : Value) A E L m, XI.Short v → XI.Short v2 → m "place" = some v → m "fault" = some v2 → XI.Tells prog w A E (ksEnv q (XI.iSc ["self", "place", "fault"]) L (iniAd K x) (.ref cda) cc) m e) :
    ExcMk prog w K mg x (ga K x) ["place", "fault"] := by
  obtain ⟨oc, doc, pm, ct, od, an, osl, cda, cc, ho, c1, c2, c3⟩ := ini_ok (d := ⟨x, q, _, _, _⟩) hw hB
  refine ⟨hg, ⟨iniAd K x, T.c, fun us hl2 hsh => ?_⟩, by decide⟩
  match us, hl2 with
  | [v, v2], _ =>
    intro A s R y t0 mb X G B b lim room hy hnx hq
    exact XI.init2 (T.txt (mg := mg) c1 c2 hf hs hn) (s := s) ho c3 T.sa n1 n2 hst hl hsw (fun A E L m => hmsg cc cda v v2 A E L m (hsh v (by simp)) (hsh v2 (by simp))) X G B b lim room hy hnx fun h' tk dx t1 z => hq h' tk (some dx) t1 (by simp) ⟨z.keep, z.obj, fun d hd => by
      cases hd
      refine ⟨z.dbig, z.dne, ?_⟩
      have ez : (fun y : Str => if y = "fault" then some v2 else if y = "place" then some v else none) = fun y : Str => List.lookup y (([("place" : Str), ("fault" : Str)]).zip [v, v2]) := by
        funext y
        by_cases e1 : y = "place"
        · subst e1; rfl
        · have b1 : (y == ("place" : Str)) = false := by simpa using e1
          by_cases e2 : y = "fault"
          · subst e2; rfl
          · have b2 : (y == ("fault" : Str)) = false := by simpa using e2
            simp [List.lookup, b1, b2, e1, e2]
      rw [← ez]
      exact z.ns⟩
end
end VL
namespace VL
open PySem PySem.W PySem.Calls PyProof.Rows
section
variable {prog : Program} {w : World} {A : Around} {E : Value → Shared → Prop} {env : Env} {m : Str → Option Value}
theorem tells_tftf {z0 z1 x y : Str} {v v2 : Value} {k0 k1 : Nat} {m0 m1 m2 m3 m4 m5 m6 : Pos} (h0 : z0.length ≤ 1000000) (h1 : z1.length ≤ 1000000) (hv : XI.Short v) (hv2 : XI.Short v2) (e1 : m x = some v) (e2 : m y = some v2) (hk : env.scope.kind = .function) (hx : env.kindOf x = some .local) (hy : env.kindOf y = some .local) (hd : (x == ("__debug__" : Str)) = false) (hd2 : (y == ("__debug__" : Str)) = false) :
    XI.Tells prog w A E env m (.JoinedStr [.Constant (.str z0) k0 m0, .FormattedValue (.Name x m1) (-1) none m2, .Constant (.str z1) k1 m3, .FormattedValue (.Name y m4) (-1) none m5] m6) := fun s1 R hn q => by
  refine wpAny_JoinedStr (XI.joinsM (es := [_, _, _, _]) (by simp) (fun e he => ?_) hn q)
  simp only [List.mem_cons, List.not_mem_nil, or_false] at he
  rcases he with rfl | rfl | rfl | rfl
  · exact XI.piece_txt h0
  · exact XI.piece_fld e1 hv hk hx hd
  · exact XI.piece_txt h1
  · exact XI.piece_fld e2 hv2 hk hy hd2
end
end VL
/-! raise, try .. except X as n, isinstance of what is caught, its fields -/
namespace VL
open PySem PySem.Spec PyProof.Rows L2
/-! ### raise X(..) -/
def shortD : D → Bool
  | .int i => decide (-18446744073709551616 < i ∧ i < 18446744073709551616)
  | .str z => decide (z.length ≤ 1000000)
  | _ => false
def sRaise (c : Str) (ks : List Str) (m : MA) : MS := fun s => (m s).to fun ds s => if ds.length = ks.length ∧ ds.all shortD = true then .ex ⟨c, ks.zip ds⟩ s else .no
theorem short_at {K : PySem.W.Frag} {th : List Addr} {G : Hp} : ∀ {ds : List D} {vs : List V}, AtL K th G ds vs → ds.all shortD = true → ∀ v ∈ vs, ShortV v
  | [], vs, h, _, v, hv => by cases h; cases hv
  | d :: ds, vs, h, e, v, hv => by
    obtain ⟨u, r, rfl, q, z⟩ := h
    simp only [List.all_cons, Bool.and_eq_true] at e
    rcases List.mem_cons.mp hv with rfl | hv
    · cases d with
      | int i =>
        have q : v = V.int i := q
        subst q
        have h := of_decide_eq_true e.1
        show i.natAbs.log2 < 1920
        have h2 : i.natAbs < 2 ^ 64 := by
          have e3 : (2 : Nat) ^ 64 = 18446744073709551616 := rfl
          rw [e3]; omega
        by_cases h0 : i.natAbs = 0
        · rw [h0]; decide
        · have := (Nat.log2_lt h0).mpr h2
          omega
      | str z' =>
        have q : v = sv z' := q
        subst q
        have h := of_decide_eq_true e.1
        show (Str.length _) ≤ 1000000
        exact h
      | _ => cases e.1
    · exact short_at z e.2 v hv
section
variable {X : Cx} {B : Bs} {W : WX} {pos p pos2 : Pos}
theorem vs_raise {a : Expr} {as : List Expr} {ta : TA} {ma : MA} {x : Str} {ks : List Str} {k : Nat} (hc : X.calm = true) (tk : Takes X W) (T : ExcMk X.prog X.w X.K X.mg x (B.cl x) ks) (hr : Room k X.A) (ha : VA X B W (a :: as) ta ma) (hg : Gl X x := by rfl)
    (he : starEach (a :: as) X.env = (false, eval a X.env) :: starEach as X.env := by rfl) (hpl : (backTo pos (starEach as X.env)).any (·.1) = false := by rfl) (hdb : (x == ("__debug__" : Str)) = false := by decide) :
    VS X B W (.Raise (some (.Call (.Name x p) (a :: as) [] pos)) none pos2) (fun _ σ H => tMk (B.cl x) ks ta σ H fun cls d H' => W cls d σ H') (sRaise x ks ma) :=
  ⟨ps_raise hc tk (pmk_x T hr ha.pa hg he hpl hdb), fun s th G σ H Dn R P => ha.sem s th G σ H _ R (P.to fun ds s1 th1 G1 H1 vs l1 R1 r1 P1 => by
    by_cases hh : ds.length = ks.length ∧ ds.all shortD = true
    · rw [if_pos hh] at P1
      have hv : vs.length = ks.length := by rw [AtL.length r1]; exact hh.1
      have e1 : (ks.zip ds).map (·.1) = ks := List.map_fst_zip (by omega)
      have e2 : (ks.zip ds).map (·.2) = ds := List.map_snd_zip (by omega)
      refine ⟨hv, short_at r1 hh.2, fun hk => ?_, fun hk d hd => ?_⟩
      · refine P1 th1 G1 H1 σ _ _ (Le.refl _ _ _) R1 ⟨rfl, vs, by rw [e2]; exact r1, by simp [hv, hh.1], fun _ => by subst hk; rfl, fun dd z => by cases z⟩
      · refine P1 th1 _ _ σ _ _ (Le.new hd R1.eG) (R1.frz hd _) ⟨rfl, vs, by rw [e2]; exact r1.mono List.prefix_rfl (Sub.new (R1.gnone hd)), by simp [hv, hh.1], fun z => (by cases z), fun dd z => ?_⟩
        cases z
        rw [e1]; exact upd_same
    · rw [if_neg hh] at P1; exact P1.elim)⟩
/-! ### the reading that a statement's mirror tells -/
def cSt (K : PySem.W.Frag) (B : Bs) (W : WX) (m : MS) : TS := fun Dn σ H => ∃ s th G, Rep K B th G s σ H ∧ PostS K B W th G H (m s) Dn
theorem vss_c {K : PySem.W.Frag} {st : List Stmt} {t : TS} {m : MS} (h : VSs X B W st t m) (hK : X.K = K := by rfl) : PSs X st (cSt K B W m) := by
  subst hK
  exact ⟨fun pins s σ H Dn I ⟨s', th, G, R, P⟩ => h.ps.run pins s σ H Dn I (h.sem s' th G σ H Dn R P)⟩
/-! ### try .. except X as n -/
def cutS (i : Nat) (s : S) : S := { s with r := s.r.set i none }
def cutC (i : Nat) : C → C
  | .nx s => .nx (cutS i s)
  | .rt d s => .rt d (cutS i s)
  | .bk s => .bk (cutS i s)
  | .ct s => .ct (cutS i s)
  | _ => .no
open Classical in
noncomputable def allC (f : Addr → Option Addr → C) : C := if ∀ a d, f a d = f 0 none then f 0 none else .no
theorem allC_eq {f : Addr → Option Addr → C} {c : C} (h : ∀ a d, f a d = c) : allC f = c := by
  unfold allC
  rw [if_pos (fun a d => by rw [h, h]), h]
theorem allC_at {f : Addr → Option Addr → C} (h : allC f ≠ .no) (a : Addr) (d : Option Addr) : allC f = f a d := by
  unfold allC at h ⊢
  split
  · rename_i q; exact (q a d).symm
  · rename_i q; rw [if_neg q] at h; exact absurd rfl h
def hotS (i : Nat) (a : Addr) (d : Option Addr) (x : Exn) (s : S) : S := { s with r := s.r.set i (some (.exn a d (x.fs.map (·.1)) (x.fs.map (·.2)))) }
noncomputable def sTryAs (i : Nat) (c : Str) (body : MS) (h : Addr → Option Addr → MS) : MS := fun s => match body s with
  | .ex x s1 => if x.c = c then allC fun a d => cutC i (h a d (hotS i a d x s1)) else .no
  | r => r
theorem Rep.cut {K : PySem.W.Frag} {th : List Addr} {G H : Hp} {s : S} {σ : L2.St} (R : Rep K B th G s σ H) (i : Nat) (o : Option V) : Rep K B th G (cutS i s) (σ.set i o) H :=
  R.slots (by simp [R.len]) fun j d e => by
    rcases set_get e with ⟨_, q⟩ | ⟨hj, q⟩
    · cases q
    · obtain ⟨v, h1, h2⟩ := R.slot j d q
      exact ⟨v, by rw [List.getElem?_set_ne hj]; exact h1, h2⟩
theorem set_self {σ : L2.St} {i : Nat} : ∃ o, σ.set i o = σ := by
  by_cases h : i < σ.length
  · exact ⟨σ[i], List.set_getElem_self h⟩
  · exact ⟨none, List.set_eq_of_length_le (by omega)⟩
abbrev W0 : WX := fun _ _ _ _ => False
theorem PostS.uncut {K : PySem.W.Frag} {th : List Addr} {G H : Hp} {c : C} {Dn : Ends} {i : Nat} (P : PostS K B W th G H (cutC i c) Dn) :
    PostS K B W0 th G H c { nx := fun σ' H' => Dn.nx (σ'.set i none) H', rt := Dn.rt, bk := fun σ' H' => Dn.bk (σ'.set i none) H', ct := fun σ' H' => Dn.ct (σ'.set i none) H' } := by
  cases c with
  | nx s => exact fun th' G' H' σ' l R => P th' G' H' _ l (R.cut i none)
  | rt d s => exact fun th' G' H' σ' v l R r => P th' G' H' _ v l (R.cut i none) r
  | bk s => exact fun th' G' H' σ' l R => P th' G' H' _ l (R.cut i none)
  | ct s => exact fun th' G' H' σ' l R => P th' G' H' _ l (R.cut i none)
  | ex e s => exact P.elim
  | no => exact P.elim
theorem at_hot {K : PySem.W.Frag} {th : List Addr} {G H : Hp} {x : Exn} {cls : Value} {a : Addr} {d : Option Addr} (h : ExAt K B th G H x cls d) : At K th G (.exn a d (x.fs.map (·.1)) (x.fs.map (·.2))) (.ref a) := by
  obtain ⟨_, vs, h1, h2, h3, h4⟩ := h
  exact ⟨rfl, vs, h1, by simp [h2], fun z => by rw [h3 z]; rfl, h4⟩
theorem vs_tryAs {x n : Str} {i : Nat} {body suite : List Stmt} {b₀ : Stmt} {np pos' : Pos} {mb : MS} {h : Addr → Option Addr → MS} (hs : X.stack = X.env :: X.outer) (hf : X.env.frame = some X.env.locals) (hN : X.N.Nodup) (hc : Names X x (.ref (B.cl x))) (tk : Takes X W)
    (hm : PySem.W.exmOne X.K (.ref (B.cl x)) (.ref (B.cl x)) = some true)
    (hb : ∀ (W : WX) (pn : List (Addr × Obj)) (xe : Value → Shared → Prop), Takes (X.tr pn xe) W → PassesOwn (model X.prog X.w) X.A X.env xe → ∃ t, VSs (X.tr pn xe) B W body t mb)
    (hsu : ∀ (a : Addr) (oe : Obj) (d : Option Addr) (pn : List (Addr × Obj)), Zc (.ref (B.cl x)) d oe → (∃ vs, oe.data = .fields vs) → ∃ t, VSs (X.suite a ((a, oe) :: pn)) B W0 (b₀ :: suite) t (h a d)) (hi : X.N[i]? = some n := by rfl) (hln : X.env.kindOf n = some .local := by rfl) :
    VS X B W (.Try body [.ExceptHandler (some (.Name x np)) (some n) (b₀ :: suite) pos'] [] [] pos)
      (fun D σ H => cSt X.K B (wAs X.K (.ref (B.cl x)) i (fun a cls d D σ H => cls = .ref (B.cl x) ∧ cSt X.K B W0 (h a d) D σ H) W D) mb D σ H) (sTryAs i x mb h) := by
  refine ⟨ps_try_as (tb := fun W => cSt X.K B W mb) hs hf hN hi hln hc tk (fun W pn xe tk' po => ?_) (fun a oe cls d pn hz hfv => ?_), fun s th G σ H Dn R P => ⟨s, th, G, R, ?_⟩⟩
  · obtain ⟨t, v⟩ := hb W pn xe tk' po
    exact vss_c v
  · refine ⟨fun pins s σ H Dn I hh => ?_⟩
    obtain ⟨rfl, q⟩ := hh
    obtain ⟨t, v⟩ := hsu a oe d pn hz hfv
    exact (vss_c v).run pins s σ H Dn I q
  · unfold sTryAs at P
    cases hbs : mb s with
    | ex e s1 =>
      rw [hbs] at P
      intro th' G' H' σ' cls d l R' xa
      by_cases hx : e.c = x
      · dsimp only at P
        rw [if_pos hx] at P
        have hcl : cls = .ref (B.cl x) := by rw [← hx]; exact xa.1
        refine ⟨true, by rw [hcl]; exact hm, fun _ a ha => ⟨hcl, hotS i a d e s1, th', G', R'.sets (at_hot xa), ?_⟩, fun z => by cases z⟩
        have ne : allC (fun a d => cutC i (h a d (hotS i a d e s1))) ≠ .no := fun z => by rw [z] at P; exact P.elim
        rw [allC_at ne a d] at P
        exact (PostS.later l P).uncut
      · dsimp only at P
        rw [if_neg hx] at P
        exact P.elim
    | _ => rw [hbs] at P; exact P
/-! ### isinstance(e, Y), e.f -/
def eIsE (i : Nat) (b : Bool) (a : Addr) (d : Option Addr) : ME := fun s => match s.r[i]? with
  | some (some (.exn a' d' _ _)) => if a' = a ∧ d' = d then .ok (.bl b, s) else .no
  | _ => .no
def eFld (i : Nat) (f : Str) (a : Addr) (d : Option Addr) : ME := fun s => match s.r[i]? with
  | some (some (.exn a' d' ks l)) => if a' = a ∧ d' = d ∧ l.length = ks.length then (match (ks.zip l).lookup f with
    | some v => .ok (v, s)
    | none => .no) else .no
  | _ => .no
/-- the exception's own dict stands -/
def Hasd (d : Option Addr) (H : Hp) : Prop := ∀ dd, d = some dd → ∃ fs, H dd = some (.xd fs)
def rIsX (K : PySem.W.Frag) (C a : Addr) (d : Option Addr) : List V → Hp → VK → Prop := fun xs H Q => ∃ (c : V) (cv : Value) (b : Bool), xs = [.ref a, c] ∧ Hasd d H ∧ (∀ u, RelV c u → u = cv) ∧ PySem.W.kitOne K (.ref C) cv = some b ∧ Q (.bl b) H
theorem inst_exn {a D : Addr} {d : Option Addr} {oe : Obj} {pn pins : List (Addr × Obj)} {s : Shared} {σ : L2.St} {H : Hp} (hz : Zc (.ref D) d oe) (hf : ∃ vs, oe.data = .fields vs) (I : Inv (X.suite a ((a, oe) :: pn)) pins σ H s) (hd : Hasd d H) : ∃ od, PySem.W.InstAt s.heap a oe D od := by
  obtain ⟨hget, _⟩ := I.pin (a, oe) (List.mem_append.mpr (.inl List.mem_cons_self))
  obtain ⟨vs, hv⟩ := hf
  have nc : PySem.W.notCls oe = true := by unfold PySem.W.notCls; rw [hv] <;> rfl
  cases d with
  | none => exact ⟨none, hget, hz.1, nc, by rw [hz.2]; trivial⟩
  | some dd =>
    obtain ⟨fs, e⟩ := hd dd rfl
    obtain ⟨mA, hns, _⟩ := I.hok dd _ e
    obtain ⟨od, ho, _⟩ := lookIn_ns hns
    exact ⟨some od, hget, hz.1, nc, by rw [hz.2]; exact ho⟩
theorem call_isX {a D : Addr} {d : Option Addr} {oe : Obj} {pn : List (Addr × Obj)} (T : ExcC X.K D) (hz : Zc (.ref D) d oe) (hf : ∃ vs, oe.data = .fields vs) : CallR (X.suite a ((a, oe) :: pn)) (.builtin "isinstance") (rIsX X.K D a d) := by
  intro pins s σ H xs us Q I r h
  obtain ⟨c, cv, b, rfl, hd, hcv, e, q⟩ := h
  match us, r with
  | [_, u], .cons rx (.cons rt .nil) =>
    cases rx
    have ec := hcv _ rt
    subst ec
    obtain ⟨od, J⟩ := inst_exn hz hf I hd
    obtain ⟨cd, hcd, _⟩ := PySem.W.any_some T.hd
    exact PySem.W.kia_one (PySem.W.kitx_exc (by rw [hcd]; rfl) T.hg T.hk T.hs T.ha T.hn T.ht T.hm) I.kIn J e (fun z => nomatch z) fun tk => ⟨.bl b, H, I.kept (t' := tk) fun _ _ z => z, rfl, q⟩
theorem not_in_suite : True := trivial
/-- isinstance(e, Y), e in slot i -/
theorem ve_isX {a : Addr} {d : Option Addr} {oe : Obj} {pn : List (Addr × Obj)} {C : Addr} {n y : Str} {b : Bool} {c : V} {cv : Value} {p1 p2 : Pos} (i : Nat) (T : ExcC X.K C) (hz : Zc (.ref C) d oe) (hf : ∃ vs, oe.data = .fields vs) (hm : X.mg "isinstance" = none)
    (hy : PE (X.suite a ((a, oe) :: pn)) (.Name y p2) (tC c)) (hcv : ∀ u, RelV c u → u = cv) (hk : PySem.W.kitOne X.K (.ref C) cv = some b)
    (hN : X.N[i]? = some n := by rfl) (hv : Vis X.env.scope n := by first | exact Or.inl rfl | exact Or.inr (Or.inl rfl) | exact Or.inr (Or.inr rfl)) (hg : Gl X "isinstance" := by rfl) (hd1 : (n == ("__debug__" : Str)) = false := by decide) (hd2 : (n == ("__classdict__" : Str)) = false := by decide)
    (hs0 : starEach (.Name n p1 :: [.Name y p2]) X.env = (false, eval (.Name n p1) X.env) :: starEach [.Name y p2] X.env := by rfl) (hs1 : starEach [.Name y p2] X.env = (false, eval (.Name y p2) X.env) :: starEach [] X.env := by rfl) (hpl : (backTo pos (starEach [.Name y p2] X.env)).any (·.1) = false := by rfl) :
    VE (X.suite a ((a, oe) :: pn)) B W (.Call (.Name "isinstance" p) [.Name n p1, .Name y p2] [] pos) (tCB (rIsX X.K C a d) (tCons (tVar i) (tCons (tC c) tNil))) (eIsE i b a d) := by
  refine ⟨pe_callB (X := X.suite a ((a, oe) :: pn)) (call_isX T hz hf) hg hm (by decide +kernel) (pa_cons (pv i hN hv hd1 hd2) (pa_cons hy pa_nil hs1) hs0) (by decide) (by decide) hs0 hpl, fun s th G σ H Q R P => ?_⟩
  unfold eIsE at P
  split at P
  · rename_i a' d' ks l e
    split at P
    · rename_i hh
      obtain ⟨rfl, rfl⟩ := hh
      obtain ⟨v, h1, h2⟩ := R.slot i _ e
      obtain ⟨rfl, vs, q1, q2, q3, q4⟩ := h2
      exact ⟨_, h1, c, cv, b, rfl, fun dd hdd => ⟨_, R.eG _ _ (q4 dd hdd)⟩, hcv, hk, Post.ok (rel := relE X.K) P R rfl⟩
    · exact P.elim
  · exact P.elim
/-- e.f, e in slot i -/
def tFld (a : Addr) (d : Option Addr) (f : Str) (te : TE) : TE := fun σ H Q => te σ H fun x H1 => x = .ref a ∧ ∃ (dd : Addr) (fs : List (Str × V)) (v : V), d = some dd ∧ H1 dd = some (.xd fs) ∧ fs.lookup f = some v ∧ Q v H1
theorem pe_fld {a : Addr} {d : Option Addr} {oe : Obj} {pn : List (Addr × Obj)} {C : Addr} {f : Str} {e : Expr} {te : TE} (T : ExcC X.K C) (hz : Zc (.ref C) d oe) (hf : ∃ vs, oe.data = .fields vs) (no : PySem.W.findIn X.K (.ref C) f = some none) (he : PE (X.suite a ((a, oe) :: pn)) e te)
    (hb : attributeBase e f X.env (eval e X.env) = eval e X.env := by rfl) : PE (X.suite a ((a, oe) :: pn)) (.Attribute e f pos) (tFld a d f te) := by
  refine ⟨fun pins s σ H Q I h => attr_of hb (thn (he.run pins s σ H _ I h) fun u s1 hh => ?_)⟩
  obtain ⟨x, H1, I1, rx, rfl, dd, fs, v, rfl, ea, el, q⟩ := hh
  obtain rfl : u = Value.ref a := rx
  obtain ⟨mA, hns, hr⟩ := I1.hok dd _ ea
  obtain ⟨od, ho, hl⟩ := lookIn_ns hns
  obtain ⟨u, hu, ru⟩ := RelO.some_of (v := v) (o := mA f) (by rw [← el]; exact hr f)
  obtain ⟨hget, _⟩ := I1.pin (a, oe) (List.mem_append_left _ List.mem_cons_self)
  obtain ⟨vs, hdat⟩ := hf
  have nc : PySem.W.notCls oe = true := by unfold PySem.W.notCls; rw [hdat] <;> rfl
  have J : PySem.W.InstAt s1.heap a oe C (some od) := ⟨hget, hz.1, nc, by rw [hz.2]; exact ho⟩
  exact HandSPX.exc_get I1.kIn J T.hg T.hk T.hs (PySem.W.findObj_own T.hd no rfl (by rw [hl, hu])) (handed_of ru) ⟨v, H1, I1.tok _, ru, q⟩
theorem zip_look {K : PySem.W.Frag} {th : List Addr} {G : Hp} {f : Str} {dv : D} : ∀ {ks : List Str} {l : List D} {vs : List V}, AtL K th G l vs → (ks.zip l).lookup f = some dv → ∃ v, (ks.zip vs).lookup f = some v ∧ At K th G dv v
  | [], _, _, _, e => by simp at e
  | _ :: _, [], _, _, e => by simp at e
  | k :: ks, d :: l, vs, h, e => by
    obtain ⟨v, r, rfl, q, z⟩ := h
    simp only [List.zip_cons_cons, List.lookup] at e ⊢
    cases hk : f == k with
    | true => rw [hk] at e; cases e; exact ⟨v, rfl, q⟩
    | false => rw [hk] at e; exact zip_look z e
theorem ve_fld {a : Addr} {d : Option Addr} {oe : Obj} {pn : List (Addr × Obj)} {C : Addr} {n f : Str} {p1 : Pos} (i : Nat) (T : ExcC X.K C) (hz : Zc (.ref C) d oe) (hf : ∃ vs, oe.data = .fields vs) (no : PySem.W.findIn X.K (.ref C) f = some none)
    (hN : X.N[i]? = some n := by rfl) (hv : Vis X.env.scope n := by first | exact Or.inl rfl | exact Or.inr (Or.inl rfl) | exact Or.inr (Or.inr rfl)) (hd1 : (n == ("__debug__" : Str)) = false := by decide) (hd2 : (n == ("__classdict__" : Str)) = false := by decide)
    (hb : attributeBase (.Name n p1) f X.env (eval (.Name n p1) X.env) = eval (.Name n p1) X.env := by rfl) :
    VE (X.suite a ((a, oe) :: pn)) B W (.Attribute (.Name n p1) f pos) (tFld a d f (tVar i)) (eFld i f a d) := by
  refine ⟨pe_fld T hz hf no (pv i hN hv hd1 hd2) hb, fun s th G σ H Q R P => ?_⟩
  unfold eFld at P
  split at P
  · rename_i a' d' ks l e
    split at P
    · rename_i hh
      obtain ⟨rfl, rfl, hll⟩ := hh
      obtain ⟨v, h1, h2⟩ := R.slot i _ e
      obtain ⟨rfl, vs, q1, q2, q3, q4⟩ := h2
      split at P
      · rename_i dv hlk
        obtain ⟨u, hu, hau⟩ := zip_look q1 hlk
        refine ⟨_, h1, rfl, ?_⟩
        cases hd : d' with
        | none =>
          rw [q3 hd] at hlk
          simp at hlk
        | some dd => exact ⟨dd, _, u, rfl, R.eG _ _ (q4 dd hd), hu, Post.ok (rel := relE X.K) P R hau⟩
      · exact P.elim
    · exact P.elim
  · exact P.elim
end
end VL
/-! list(s), s * n, t * n, sep.join(..) -/
namespace VL
open PySem PySem.Spec PyProof.Rows L2
section
variable {X : Cx} {B : Bs} {W : WX} {K : PySem.W.Frag} {pos : Pos}
/-! ### list of a text -/
abbrev signV (c : Nat) : V := .str ⟨#[c]⟩
theorem signs_vals {x : Str} : ∀ (l : List Nat) (n : Nat) (its : List Value), (∀ j v, its[j]? = some v → SignAt x (n + j) v) → (∀ j, l[j]? = x.cps[n + j]?) → its.length = l.length → Vals (l.map signV) its
  | [], _, [], _, _, _ => .nil
  | [], _, _ :: _, _, _, h => by cases h
  | _ :: _, _, [], _, _, h => by cases h
  | c :: l, n, v :: its, h1, h2, h3 => by
    refine .cons ?_ (signs_vals (x := x) l (n + 1) its (fun j u hu => ?_) (fun j => ?_) (by simpa using h3))
    · obtain ⟨c', t, e1, rfl⟩ := h1 0 v rfl
      have e2 := h2 0
      rw [Nat.add_zero] at e1 e2
      rw [e1] at e2
      have e2 : some c = some c' := e2
      cases e2
      exact ⟨t, rfl⟩
    · have := h1 (j + 1) u (by simpa using hu)
      rwa [show n + (j + 1) = n + 1 + j by omega] at this
    · have := h2 (j + 1)
      rw [show n + (j + 1) = n + 1 + j by omega] at this
      simpa using this
theorem call_listS (hc : X.calm = true) : CallR X (.type "list") (fun xs H Q => ∃ x : Str, xs = [.str x] ∧ x.cps.size ≤ 1000000 ∧ ∀ p, H p = none → Q (.ref p) (upd H p (.lst (x.cps.toList.map signV)))) := by
  intro pins s σ H xs us Q I r h
  obtain ⟨x, rfl, hz, q⟩ := h
  obtain ⟨u, rfl, rx⟩ := vals1 r
  obtain ⟨t, rfl⟩ := rx
  have hz2 : x.cps.size ≤ sizeLine := by rw [sizeLine_eq]; omega
  refine call_list_str (I.ok.hd hc) x t (fun h' tk acc c' kp e hit => ?_) (hn := hz2)
  have rv : Vals (x.cps.toList.map signV) acc.toList := signs_vals _ 0 _ (fun j v hv => by
    rw [Nat.zero_add]
    exact hit.2 j v (by simpa using hv)) (fun j => by simp) (by rw [Array.length_toList, hit.1]; simp)
  have ob : ObjOk X.prog X.w (upd H s.heap.objs.size (.lst (x.cps.toList.map signV))) h' s.heap.objs.size (.lst (x.cps.toList.map signV)) := ⟨by simpa using hz2, acc.toList, c', rv, by simpa using e⟩
  exact ⟨.ref s.heap.objs.size, _, I.laid (t' := tk) kp (Nat.le_refl _) ob, rfl, q _ (I.hok.fresh (Nat.le_refl _))⟩
def gListS : List D → S → R (Ob × S) := fun l s => match l with
  | [.str z] => if z.length ≤ 1000000 then .ok (.lst (z.map fun c => .str [c]), s) else .no
  | _ => .no
theorem at_signs {th : List Addr} {G : Hp} : ∀ z : List Nat, AtL K th G (z.map fun c => D.str [c]) (z.map signV)
  | [] => rfl
  | c :: z => ⟨_, _, rfl, rfl, at_signs z⟩
theorem semC_listS : SemCF K B W (fun xs H Q => ∃ x : Str, xs = [.str x] ∧ x.cps.size ≤ 1000000 ∧ ∀ p, H p = none → Q (.ref p) (upd H p (.lst (x.cps.toList.map signV)))) gListS := fun s th G σ H Q l vs R rl P => by
  match l, rl, P with
  | [.str z], rl, P =>
    obtain ⟨v, rfl, hv⟩ := rl.one_of
    cases hv
    simp only [gListS] at P
    split at P
    · rename_i hz
      exact ⟨_, rfl, by simpa using hz, fun p hp => post_f R P (at_signs z) hp⟩
    · exact P.elim
  | [], _, P => exact P.elim
  | [.non], _, P => exact P.elim
  | [.bl _], _, P => exact P.elim
  | [.int _], _, P => exact P.elim
  | [.tup _], _, P => exact P.elim
  | [.lst _], _, P => exact P.elim
  | [.dct _ _], _, P => exact P.elim
  | [.scr _], _, P => exact P.elim
  | [.loc _], _, P => exact P.elim
  | [.obj _], _, P => exact P.elim
  | [.exn _ _ _ _], _, P => exact P.elim
  | d :: _ :: _, _, P => cases d <;> exact P.elim
/-! ### s * n -/
def rRepS : R2 := fun x y H Q => ∃ (z : Str) (n : Int), x = .str z ∧ y = .int n ∧ 0 ≤ n ∧ n ≤ 1000000 ∧ z.length * n.toNat ≤ 1000000 ∧ Q (.str ⟨(List.replicate n.toNat z.cps.toList).flatten.toArray⟩) H
theorem rep_cps (z : Str) : ∀ n : Nat, (List.replicate n z.cps).foldl (· ++ ·) #[] = (List.replicate n z.cps.toList).flatten.toArray := by
  have h : ∀ (n : Nat) (a : Array Nat), (List.replicate n z.cps).foldl (· ++ ·) a = a ++ (List.replicate n z.cps.toList).flatten.toArray := by
    intro n
    induction n with
    | zero => intro a; simp
    | succ n ih =>
      intro a
      rw [List.replicate_succ, List.foldl_cons, ih, List.replicate_succ, List.flatten_cons]
      apply Array.toList_inj.mp
      simp
  intro n
  rw [h]; simp
theorem op_repS : OpR X (binaryOp .Mult) rRepS := by
  intro pins s σ H x y v u Q I rx ry h
  obtain ⟨z, n, rfl, rfl, h0, h1, h2, q⟩ := h
  obtain ⟨t, rfl⟩ := rx
  obtain ⟨t', rfl⟩ := ry
  have e63 : (2 : Int) ^ 63 = 9223372036854775808 := rfl
  have hpost : ∀ y : Str, y.length ≤ 1000000 → y = ⟨(List.replicate n.toNat z.cps.toList).flatten.toArray⟩ → ∀ tk, EP X pins σ Q (.str y s.toks) { s with toks := tk } := fun y _ hy tk => ⟨.str y, H, I.kept (t' := tk) fun _ _ w => w, ⟨_, rfl⟩, by rw [hy]; exact q⟩
  refine P.mul_str ?_ (fun h3 _ => ?_) (fun h3 _ => ?_) ?_
  · rw [e63, decide_eq_false (by omega), decide_eq_false (by omega)]; rfl
  · rw [e63]
    have h4 : z.length ≤ 1000000 := by
      have : 1 ≤ n.toNat := by omega
      exact Nat.le_trans (Nat.le_mul_of_pos_right _ this) h2
    have : (1000000 : Int) ≤ (9223372036854775808 - 1) / n := by
      rw [Int.le_ediv_iff_mul_le (by omega)]
      omega
    omega
  · show decide (z.length * n.toNat > sizeLine) = false
    rw [sizeLine_eq]
    exact decide_eq_false (by omega)
  · have lenE : ((List.replicate n.toNat z.cps.toList).flatten.toArray).size ≤ 1000000 := by
      simp only [List.size_toArray, List.length_flatten, List.map_replicate, List.sum_replicate_nat, Array.length_toList]
      rw [Nat.mul_comm]; exact h2
    by_cases c1 : n < 1
    · rw [if_pos c1]
      have hn : n = 0 := by omega
      subst hn
      refine ⟨by decide, ?_⟩
      exact hpost Str.empty (by decide) rfl _
    · rw [if_neg c1]
      by_cases c2 : (n == 1 || z.length == 0) = true
      · rw [if_pos c2]
        show EP X pins σ Q (.str z t) s
        refine ⟨.str z, H, I, ⟨_, rfl⟩, ?_⟩
        have : z = ⟨(List.replicate n.toNat z.cps.toList).flatten.toArray⟩ := by
          simp only [Bool.or_eq_true, beq_iff_eq] at c2
          rcases c2 with c2 | c2
          · subst c2
            obtain ⟨⟨l⟩⟩ := z
            simp
          · obtain ⟨⟨l⟩⟩ := z
            have : l = [] := List.eq_nil_of_length_eq_zero c2
            subst this
            simp
        rw [← this] at q
        exact q
      · rw [if_neg c2]
        rw [rep_cps]
        refine ⟨?_, hpost _ lenE rfl _⟩
        show ((List.replicate n.toNat z.cps.toList).flatten.toArray).size ≤ sizeLine
        rw [sizeLine_eq]; omega
/-! ### every times -/
def rMulA (K : PySem.W.Frag) : R2 := fun x y H Q => rI CMul (fun i j => .int (i * j)) x y H Q ∨ (rRepS x y H Q ∨ (rRep x y H Q ∨ rRepT K x y H Q))
theorem op_mulA : OpR X (binaryOp .Mult) (rMulA X.K) := op_mul.or (op_repS.or (op_rep.or op_repT))
def fMulA : D → D → S → R (D × S)
  | .int i, .int j, s => if mulOk i j = true then .ok (.int (i * j), s) else .no
  | .str z, .int n, s => if 0 ≤ n ∧ n ≤ 1000000 ∧ z.length * n.toNat ≤ 1000000 then .ok (.str (List.replicate n.toNat z).flatten, s) else .no
  | .tup l, .int n, s => if l ≠ [] ∧ 2 ≤ n ∧ n ≤ 1000 ∧ l.length ≤ 1000 then .ok (.tup (List.replicate n.toNat l).flatten, s) else .no
  | x, .int n, s => match lstOf s x with
    | some l => if 0 ≤ n ∧ n ≤ 1000000 ∧ l.length * n.toNat ≤ 1000000 then .ok (.lst (List.replicate n.toNat l).flatten, s) else .no
    | none => .no
  | _, _, _ => .no
theorem sem_rep_lst {th : List Addr} {G H : Hp} {s : S} {σ : L2.St} {x : D} {n : Int} {vx : V} {Q : VK} (R : Rep K B th G s σ H) (rx : At K th G x vx) (P : Post K B W σ th G H (relE K) (match lstOf s x with
    | some l => if 0 ≤ n ∧ n ≤ 1000000 ∧ l.length * n.toNat ≤ 1000000 then .ok (.lst (List.replicate n.toNat l).flatten, s) else .no
    | none => .no) Q) : rRep vx (.int n) H Q := by
  cases e : lstOf s x with
  | none => rw [e] at P; exact P.elim
  | some l =>
    rw [e] at P
    simp only at P
    split at P
    · rename_i hz
      obtain ⟨p, vs, h1, h2, h3⟩ := R.lst_of rx e
      exact ⟨p, n, vs, h1, rfl, h2, by have e63 : (2 : Int) ^ 63 = 9223372036854775808 := rfl
                                       rw [e63]; omega, by have e63 : (2 : Int) ^ 63 = 9223372036854775808 := rfl
                                                           rw [e63]; omega, by rw [h3.length, sizeLine_eq]; omega, fun t ht => post_lst R P (h3.rep _) ht⟩
    · exact P.elim
theorem semR_mulA : SemR K B W (rMulA K) fMulA := fun s th G σ H Q x y vx vy R rx ry P => by
  cases y with
  | int n =>
    cases ry
    cases x with
    | int i =>
      cases rx
      simp only [fMulA] at P
      split at P
      · rename_i h
        refine .inl ⟨i, n, rfl, rfl, ?_, Post.ok (rel := relE K) P R rfl⟩
        simp only [mulOk, Bool.or_eq_true, decide_eq_true_eq] at h
        have e : (2 : Int) ^ 64 = 18446744073709551616 := rfl
        show (-(2 ^ 64 : Int) < i ∧ i < (2 ^ 64 : Int)) ∨ (-(2 ^ 64 : Int) < n ∧ n < (2 ^ 64 : Int))
        rw [e]; exact h
      · exact P.elim
    | str z =>
      cases rx
      simp only [fMulA] at P
      split at P
      · rename_i h
        refine .inr (.inl ⟨_, n, rfl, rfl, h.1, h.2.1, by rw [str_len]; exact h.2.2, ?_⟩)
        exact Post.ok (rel := relE K) P R rfl
      · exact P.elim
    | tup l =>
      simp only [fMulA] at P
      split at P
      · rename_i h
        obtain ⟨p, vs, rfl, q, r⟩ := rx
        refine .inr (.inr (.inr ⟨p, n, vs, rfl, rfl, R.eG.sqT q, fun z => ?_, h.2.1, h.2.2.1, by rw [r.length]; exact h.2.2.2, fun t ht => post_tup R P (r.rep _) ht⟩))
        exact h.1 (List.eq_nil_of_length_eq_zero (by rw [← r.length, z]; rfl))
      · exact P.elim
    | _ => exact .inr (.inr (.inl (sem_rep_lst R rx P)))
  | _ => cases x <;> exact P.elim
theorem ve_mulA {a b : Expr} {ta tb : TE} {ma mb : ME} (ha : VE X B W a ta ma) (hb : VE X B W b tb mb) : VE X B W (.BinOp a .Mult b pos) (tOp (rMulA X.K) ta tb) (eOp fMulA ma mb) := ⟨pe_op op_mulA ha.pe hb.pe, sem_op semR_mulA ha.sem hb.sem⟩
/-! ### sep.join(xs) -/
def strsD : List D → Option (List (List Nat))
  | [] => some []
  | .str z :: l => (strsD l).map (z :: ·)
  | _ => none
theorem strsD_at {th : List Addr} {G : Hp} : ∀ {l : List D} {vs : List V} {ys : List (List Nat)}, AtL K th G l vs → strsD l = some ys → vs = (ys.map fun z => (⟨z.toArray⟩ : Str)).map V.str
  | [], _, _, h, e => by cases h; cases e; rfl
  | d :: l, _, ys, h, e => by
    obtain ⟨v, r, rfl, q, z⟩ := h
    cases d <;> simp only [strsD] at e <;> first
      | (cases e; done)
      | (cases hb : strsD l with
         | none => rw [hb] at e; cases e
         | some cs =>
           rw [hb] at e
           cases e
           cases q
           rw [strsD_at z hb]; rfl)
def joinLen (a : List Nat) (ys : List (List Nat)) : Nat := (ys.map List.length).sum + ys.length * a.length
def eJoin (o m : ME) : ME := fun s => (o s).bind fun a s => match a with
  | .str a => (m s).bind fun x s => match seqOf s x with
    | some l => match strsD l with
      | some ys => if joinLen a ys ≤ 1000000 then .ok (.str (TL.joinL a ys), s) else .no
      | none => .no
    | none => .no
  | _ => .no
theorem ve_join {o e : Expr} {to te : TE} {mo me : ME} {apos : Pos} (ho : VE X B W o to mo) (he : VE X B W e te me) (hs : starEach [e] X.env = [(false, eval e X.env)] := by rfl) (hbase : attributeBase o "join" X.env (eval o X.env) = eval o X.env := by rfl) (hline : (apos.endLine == pos.line) = true := by rfl) :
    VE X B W (.Call (.Attribute o "join" apos) [e] [] pos) (tM1 (fun x xs H Q => ∃ a p, ∃ ys : List Str, x = .str a ∧ xs = [.ref p] ∧ (SqL X.K H p (ys.map V.str) ∨ SqT X.K H p (ys.map V.str)) ∧ (ys.map (·.length)).sum + ys.length * a.length ≤ 16777216 ∧ Q (.str (Txt.join a ys)) H) to te) (eJoin mo me) :=
  ⟨pe_join ho.pe he.pe hs hbase hline, fun s th G σ H Q R P => ho.sem s th G σ H _ R (P.bind fun x s1 th1 G1 H1 vx l1 R1 r1 P1 => by
    cases x with
    | str a =>
      have r1 : vx = sv a := r1
      subst r1
      refine ⟨⟨_, rfl⟩, he.sem s1 th1 G1 σ H1 _ R1 (P1.bind fun y s2 th2 G2 H2 vy l2 R2 r2 P2 => ?_)⟩
      cases e1 : seqOf s2 y with
      | none => rw [e1] at P2; exact P2.elim
      | some l =>
        rw [e1] at P2
        simp only at P2
        cases e2 : strsD l with
        | none => rw [e2] at P2; exact P2.elim
        | some ys =>
          rw [e2] at P2
          simp only at P2
          split at P2
          · rename_i hz
            obtain ⟨p, vs, rfl, q, r⟩ := R2.seq_of r2 e1
            cases strsD_at r e2
            refine ⟨_, p, ys.map fun z => (⟨z.toArray⟩ : Str), rfl, rfl, q, ?_, ?_⟩
            · have e3 : ((ys.map fun z => (⟨z.toArray⟩ : Str)).map (·.length)) = ys.map List.length := by
                rw [List.map_map]; exact List.map_congr_left fun z _ => str_len z
              rw [e3, List.length_map, str_len]
              have : (ys.map List.length).sum + ys.length * a.length ≤ 1000000 := hz
              omega
            · have e4 : Txt.join (⟨a.toArray⟩ : Str) (ys.map fun z => (⟨z.toArray⟩ : Str)) = ⟨(TL.joinL a ys).toArray⟩ := by
                rw [TL.join_eq]
                apply TL.ext_tl
                rw [TL.tl_join, List.map_map]
                have : ys.map (TL.tl ∘ fun z => (⟨z.toArray⟩ : Str)) = ys := by
                  have e5 : (TL.tl ∘ fun z : List Nat => (⟨z.toArray⟩ : Str)) = id := by funext z; simp [TL.tl]
                  rw [e5, List.map_id]
                rw [this]
              rw [e4]
              exact Post.ok (rel := relE X.K) P2 R2 rfl
          · exact P2.elim
    | _ => exact P1.elim)⟩
/-! ### a def that calls itself, by fuel -/
theorem fn_no {P : Program} {w : World} {mg : Str → Option Value} {base : Heap} {f : Addr} {fd : FuncData} {ps : List Str} {k : Nat} : FnP P w K mg base B k f fd ps (fun _ => .no) :=
  ⟨fun vs H Q E h => (by obtain ⟨_, _, _, _, z⟩ := h; exact z.elim), fun A outer s H args us vs Q E hr env b r h => (by obtain ⟨_, _, _, _, z⟩ := h; exact z.elim)⟩
theorem fn_rec {P : Program} {w : World} {mg : Str → Option Value} {base : Heap} {x : Str} {f : Addr} {fd : FuncData} {ps : List Str} {k : Nat} {F : Nat → List D → PR} (h0 : F 0 = fun _ => .no) (hm : mg x = some (.ref f)) (hk : PySem.W.keepIn K (.ref f) = true) (hb : Binds K fd ps [])
    (step : ∀ n, CallOk P w K mg base B x (k + n) ps (F n) → FnP P w K mg base B (k + n + 1) f fd ps (F (n + 1))) : ∀ n, FnP P w K mg base B (k + n) f fd ps (F n)
  | 0 => by rw [h0]; exact fn_no
  | n + 1 => step n ⟨f, fd, fn_rec h0 hm hk hb step n, hm, hk, hb⟩
/-! ### isinstance of what is caught: an own class, a built-in one -/
theorem vb_ValueError : bootBuiltins "ValueError" = some (.type "ValueError") := by decide +kernel
theorem ve_isG {a C D : Addr} {d : Option Addr} {oe : Obj} {pn : List (Addr × Obj)} {n y : Str} {b : Bool} {p p1 p2 : Pos} (i : Nat) (T : ExcC X.K C) (hz : Zc (.ref C) d oe) (hf : ∃ vs, oe.data = .fields vs) (hm : X.mg "isinstance" = none)
    (hy : X.mg y = some (.ref D)) (hk : PySem.W.kitOne X.K (.ref C) (.ref D) = some b)
    (hN : X.N[i]? = some n := by rfl) (hv : Vis X.env.scope n := by first | exact Or.inl rfl | exact Or.inr (Or.inl rfl) | exact Or.inr (Or.inr rfl)) (hgy : Gl X y := by rfl) (hg : Gl X "isinstance" := by rfl) (hd1 : (n == ("__debug__" : Str)) = false := by decide) (hd2 : (n == ("__classdict__" : Str)) = false := by decide) (hd3 : (y == ("__debug__" : Str)) = false := by decide)
    (hs0 : starEach (.Name n p1 :: [.Name y p2]) X.env = (false, eval (.Name n p1) X.env) :: starEach [.Name y p2] X.env := by rfl) (hs1 : starEach [.Name y p2] X.env = (false, eval (.Name y p2) X.env) :: starEach [] X.env := by rfl) (hpl : (backTo pos (starEach [.Name y p2] X.env)).any (·.1) = false := by rfl) :
    VE (X.suite a ((a, oe) :: pn)) B W (.Call (.Name "isinstance" p) [.Name n p1, .Name y p2] [] pos) (tCB (rIsX X.K C a d) (tCons (tVar i) (tCons (tC (.ref D)) tNil))) (eIsE i b a d) :=
  ve_isX i T hz hf hm (pe_glob (v := .ref D) (u := .ref D) hgy hy rfl hd3) (fun u (h : u = Value.ref D) => h) hk hN hv hg hd1 hd2 hs0 hs1 hpl
theorem ve_isT {a C : Addr} {d : Option Addr} {oe : Obj} {pn : List (Addr × Obj)} {n y : Str} {T0 : String} {b : Bool} {p p1 p2 : Pos} (i : Nat) (T : ExcC X.K C) (hz : Zc (.ref C) d oe) (hf : ∃ vs, oe.data = .fields vs) (hm : X.mg "isinstance" = none)
    (hy : X.mg y = none) (hb : bootBuiltins y = some (.type T0)) (hk : PySem.W.kitOne X.K (.ref C) (.type T0) = some b)
    (hN : X.N[i]? = some n := by rfl) (hv : Vis X.env.scope n := by first | exact Or.inl rfl | exact Or.inr (Or.inl rfl) | exact Or.inr (Or.inr rfl)) (hgy : Gl X y := by rfl) (hg : Gl X "isinstance" := by rfl) (hd1 : (n == ("__debug__" : Str)) = false := by decide) (hd2 : (n == ("__classdict__" : Str)) = false := by decide) (hd3 : (y == ("__debug__" : Str)) = false := by decide) (hnn : y ≠ "__name__" := by decide)
    (hs0 : starEach (.Name n p1 :: [.Name y p2]) X.env = (false, eval (.Name n p1) X.env) :: starEach [.Name y p2] X.env := by rfl) (hs1 : starEach [.Name y p2] X.env = (false, eval (.Name y p2) X.env) :: starEach [] X.env := by rfl) (hpl : (backTo pos (starEach [.Name y p2] X.env)).any (·.1) = false := by rfl) :
    VE (X.suite a ((a, oe) :: pn)) B W (.Call (.Name "isinstance" p) [.Name n p1, .Name y p2] [] pos) (tCB (rIsX X.K C a d) (tCons (tVar i) (tCons (tC (.ty T0)) tNil))) (eIsE i b a d) :=
  ve_isX i T hz hf hm (pe_bltn (v := .ty T0) (u := .type T0) hgy hy hb rfl hnn hd3) (fun u (h : u = Value.type T0) => h) hk hN hv hg hd1 hd2 hs0 hs1 hpl
end
end VL
/-! all, any of a generator expression over a text; the element is quiet -/
namespace GW
open PySem PySem.Spec PyProof.Rows L2 GxR
section
variable {X : Cx} {pins : List (Addr × Obj)} {σ : L2.St} {H : Hp} {s : Shared}
theorem gen_sig {c P : Addr} {elt iter : Expr} {x : Str} {px gp : Pos} {scope : Scope} {Bq : L2.St → Hp → V → Bool → Prop} {te : TE} {k : Nat} {QQ : Value → Shared → Prop} {RR : List Bool → Hp → Prop}
    (hr : Room k X.A) (TB : TabB X.base X.mg c P) (hcode : X.env.code = .ref c) (S : GenS X.env scope x) (hi : PE X iter te) (hel : EltQ X P scope x elt Bq) (hfo : ∀ v, genFold iter X.env v = pure v) (I : Inv X pins σ H s)
    (h : te σ H fun v HA => ∃ (a : Str) (bs : List Bool), v = .str a ∧ bs.length = a.cps.size ∧ (∀ (i : Nat) z b, a.cps[i]? = some z → bs[i]? = some b → Bq σ HA (.str ⟨#[z]⟩) b) ∧ TabG HA P ∧ RR bs HA)
    (hQ : ∀ bs HA g sE, RR bs HA → Set1 X pins σ HA P bs g sE → QQ (.ref g) sE) :
    wpAny (model X.prog X.w) X.A (eval (.GeneratorExp elt [⟨.Name x px, iter, [], 0⟩] scope gp) X.env) QQ X.xe s := by
  refine wpAny_GeneratorExp_walksQ hr.hd S.co (closure_ok S.free) S.cell S.dot S.loc S.kind (by have := hr.dp; omega) (thn (hi.run pins s σ H _ I h) fun xv sA ⟨v, HA, IA, rA, a, bs, ev, hbl, hbq, ⟨ps, hP, ht⟩, qA⟩ => ?_) hfo
  subst ev
  obtain ⟨tv, rfl⟩ := id rA
  refine wpAny_pyIter_str fun o St W hst => ?_
  have tP : sA.heap.get? P = some { cls := .none, data := .fields ps } := IA.hok P _ hP
  have ltP : P < sA.heap.objs.size := Heap.lt_size tP
  have tP2 : (sA.heap.push o).get? P = some { cls := .none, data := .fields ps } := Heap.get?_push_of_some _ tP
  have hd2 : PySem.W.CodeHd (sA.heap.push o) c P := TB.code.keeps fun b u e => Heap.get?_push_of_some _ (IA.bk b u e)
  have nl2 : (sA.heap.push o).NoLimit := IA.nolimit.push o
  have szp : (sA.heap.push o).objs.size = sA.heap.objs.size + 1 := Heap.size_push ..
  have go : ∀ (code : Value) (hC : Heap) (tk : Nat) (ps' : Array Value), Heap.ExtBut P (sA.heap.push o) hC → (sA.heap.push o).objs.size ≤ hC.objs.size → hC.get? P = some { cls := .none, data := .fields ps' } → (∃ more, ps' = ps ++ more) → TriplesOk ps'.toList →
      wpAny (model X.prog X.w) X.A (builtinsFor X.env.globals X.env.builtins) (fun bi sD =>
        ∃ Ia fp wr n₀ Pf St₀ pz F, Value.ref sA.heap.objs.size = .ref Ia ∧ (∀ A' : Around, A'.handled = none → Walks X.prog X.w A' Ia fp wr n₀ Pf St₀) ∧ St₀ 0 sD.heap ∧ (∀ b ∈ fp, b < sD.heap.objs.size) ∧ sD.heap.NoLimit ∧ cStatics ∉ wr ∧
          (∀ hr2 : Heap, (∀ b o, sD.heap.get? b = some o → hr2.get? b = some o) →
            QuietGen X.prog X.w (genEnv scope (cloFrom X.env.cells scope.names []) sD.heap.objs.size code bi X.env) x [] elt (List.range sD.heap.objs.size) wr Pf pz F hr2) ∧
          (∀ g hE tkE gs, gs.bare = true → sD.heap.objs.size < g → hE.objs.size = g + 1 → (∀ b o, sD.heap.get? b = some o → hE.get? b = some o) →
            WalksS X.prog X.w X.A.in4 g (g :: sD.heap.objs.size :: List.range sD.heap.objs.size) (sD.heap.objs.size :: wr) (GenOnlyQ sD.gens.size) (passing pz n₀ 0).length
              (fun j y => ∃ i, (passing pz n₀ 0)[j]? = some i ∧ F i y) (GenAt X.prog X.w X.A.in4 g sD.gens.size sD.heap.objs.size (List.range sD.heap.objs.size) wr pz n₀ F) →
            GenAt X.prog X.w X.A.in4 g sD.gens.size sD.heap.objs.size (List.range sD.heap.objs.size) wr pz n₀ F 0 { sD with gens := sD.gens.push gs, toks := tkE, heap := hE } →
            QQ (.ref g) { sD with gens := sD.gens.push gs, toks := tkE, heap := hE })) X.xe { sA with heap := hC, toks := tk } := by
    intro code hC tk ps' ext hsz tC hmore htC
    obtain ⟨bm, ob, e1, e2, e3, e4, e5, e6, e7, e8⟩ := TB.bm
    have ncP : cStatics ≠ P := fun e => by
      obtain ⟨_, hns, _⟩ := IA.nolimit
      obtain ⟨o', es, ep, ho, hd, _⟩ := hns
      rw [e, tP] at ho
      cases ho
      cases hd
    have ncl : cStatics < sA.heap.objs.size := let ⟨_, hns, _⟩ := IA.nolimit; hns.lt
    have kC : ∀ b u, b ≠ P → sA.heap.get? b = some u → hC.get? b = some u := fun b u hb e => ext b u hb (Heap.get?_push_of_some _ e)
    refine wpAny_builtinsFor (m := X.mg) (by rw [IA.ok.glob]; exact ((IA.mod.glob.keeps IA.bk).push o).extBut ext TB.gP) e1 e2 (kC _ _ e4 (IA.bk _ _ e5)) e6 e7 e8 ?_
    have two : ∀ b ∈ [sA.heap.objs.size], b = sA.heap.objs.size := fun b hb => by simpa using hb
    refine ⟨sA.heap.objs.size, _, [sA.heap.objs.size], a.cps.size, _, St, (fun _ => true), (fun i y => ∃ b, bs[i]? = some b ∧ y = .bool b), rfl, W, ?_, ?_, nl2.extBut ext ncP, ?_, ?_, ?_⟩
    · refine (W X.A hr.hd).frame _ _ _ hst fun b hb u e => ext b u (fun z => ?_) e
      exact Nat.ne_of_lt ltP (z.symm.trans (two b hb))
    · intro b hb
      show b < hC.objs.size
      have hlC : sA.heap.objs.size < hC.objs.size := by rw [szp] at hsz; exact hsz
      rw [two b hb]; exact hlC
    · intro z
      have e9 : cStatics = sA.heap.objs.size := by simpa using z
      rw [e9] at ncl
      exact Nat.lt_irrefl _ ncl
    · intro hr2 hrk
      refine ⟨fun A' E' i v s₂ m₂ hA hPv hn hm hk => by simp only [List.forIn_nil]; exact wpAny_pure ⟨rfl, keeps_refl _⟩, fun A' E' i v s₂ m₂ hA hPv hp hn hm hk => ?_⟩
      obtain ⟨z, tz, hz, rfl⟩ := hPv
      have hlt : i < bs.length := by rw [hbl]; exact (Array.getElem?_eq_some_iff.mp hz).1
      refine wpAny_mono (hel pins σ HA sA _ A' E' (.str ⟨#[z]⟩) _ bs[i] s₂ m₂ IA rfl rfl rfl hA (fun q oq hq e => ?_) hn hm ⟨tz, rfl⟩ (hbq i z _ hz (List.getElem?_eq_getElem hlt))) (fun y s3 r => ⟨⟨_, List.getElem?_eq_getElem hlt, r.1⟩, r.2⟩) fun _ _ e => e
      have hql := Heap.lt_size e
      have hlC : sA.heap.objs.size < hC.objs.size := by rw [szp] at hsz; exact hsz
      refine hk q (List.mem_range.mpr (Nat.lt_trans hql hlC)) (fun zz => ?_) oq (hrk q oq (kC q oq hq e))
      have e9 : q = sA.heap.objs.size := by simpa using zz
      rw [e9] at hql
      exact Nat.lt_irrefl _ hql
    · intro g hE tkE gs hgb hag hszE hkE WE hat
      simp only [GxR.passing_true, List.length_range] at WE
      rw [← hbl] at WE hat
      refine hQ bs HA g _ qA ⟨_, _, _, _, _, WE.in4_1, hat, ?_, fun s' hm => ?_⟩
      · intro j y sj Qj Ej hy hQj
        obtain ⟨i, hij, b, hb, rfl⟩ := hy
        obtain ⟨hj, ej⟩ := List.getElem?_eq_some_iff.mp hij
        rw [List.getElem_range] at ej
        subst ej
        have hQ2 : Qj (bAt bs j) sj := hQj
        unfold bAt at hQ2
        rw [hb] at hQ2
        exact wpAny_truthy_bool hQ2
      · obtain ⟨more, em⟩ := hmore
        have nwr : ∀ b u, sA.heap.get? b = some u → b ∉ hC.objs.size :: [sA.heap.objs.size] := fun b u e hb => by
          have hl := Heap.lt_size e
          have hlC : sA.heap.objs.size < hC.objs.size := by rw [szp] at hsz; exact hsz
          rcases (show b = hC.objs.size ∨ b = sA.heap.objs.size by simpa using hb) with z | z
          · rw [z] at hl; exact Nat.lt_irrefl _ (Nat.lt_trans hl hlC)
          · rw [z] at hl; exact Nat.lt_irrefl _ hl
        have J := inv_tab (more := more) (h' := s'.heap) (g' := s'.gens) (d' := s'.drawn) (t' := s'.toks) IA hP (fun b u hb e => hm.heap b u (nwr b u e) (hkE b u (kC b u hb e)))
          (by rw [← em]; exact hm.heap P _ (nwr P _ tP) (hkE P _ tC)) (AllBare.movedS (IA.bare.push hgb) hm)
        rw [sh_eta sA s' hm.os] at J
        exact ⟨upd HA P (.tbl (ps ++ more)), ⟨⟨ps ++ more, upd_same, by rw [← em]; exact htC⟩, fun b hb => upd_ne hb⟩, J⟩
  refine ⟨nl2, ?_⟩
  cases hf : codeAmong gp ps.toList with
  | none =>
    refine wpAny_genexprCodeX hcode (hd2.code tP2 ht) (hd2.tab tP2) hf fun c' h' tk hx hge hlt hco' _ htab' _ => ?_
    obtain ⟨o1, vv, f1, tf, fl, tg, inF, tx, tt, op, _, _, _, _, _, _, _, _, _, htr, _⟩ := hco'
    exact go _ h' tk _ hx (Nat.le_trans hge (Nat.le_of_lt hlt)) htab'.2 ⟨_, rfl⟩ htr
  | some cv =>
    refine wpAny_genexprCode_hit hcode (hd2.code tP2 ht) hf ?_
    exact go cv (sA.heap.push o) sA.toks ps (Heap.ExtBut.refl _ _) (Nat.le_refl _) tP2 ⟨#[], by simp⟩ ht
def tQs (P : Addr) (Bq : L2.St → Hp → V → Bool → Prop) (f : List Bool → Bool) (te : TE) : TE := fun σ H Q => te σ H fun v HA => ∃ (a : Str) (bs : List Bool), v = .str a ∧ bs.length = a.cps.size ∧ (∀ (i : Nat) z b, a.cps[i]? = some z → bs[i]? = some b → Bq σ HA (.str ⟨#[z]⟩) b) ∧ TabG HA P ∧
  ∀ HB, Tabbed P HA HB → Q (.bl (f bs)) HB
theorem pe_allT {c P : Addr} {elt iter : Expr} {x : Str} {px p pos gp : Pos} {scope : Scope} {Bq : L2.St → Hp → V → Bool → Prop} {te : TE} {k : Nat}
    (hr : Room k X.A) (hg : Gl X "all") (hm : X.mg "all" = none) (hbt : bootBuiltins "all" = some (.builtin "all")) (TB : TabB X.base X.mg c P) (hcode : X.env.code = .ref c) (S : GenS X.env scope x) (hi : PE X iter te) (hel : EltQ X P scope x elt Bq) (hfo : ∀ v, genFold iter X.env v = pure v)
    (he : starEach [.GeneratorExp elt [⟨.Name x px, iter, [], 0⟩] scope gp] X.env = (false, eval (.GeneratorExp elt [⟨.Name x px, iter, [], 0⟩] scope gp) X.env) :: starEach [] X.env := by rfl) :
    PE X (.Call (.Name "all" p) [.GeneratorExp elt [⟨.Name x px, iter, [], 0⟩] scope gp] [] pos) (tQs P Bq (fun bs => bs.all id) te) := by
  refine ⟨fun pins s σ H Q I h => ?_⟩
  refine wpAny_Call_Name_kw (ld_blt I hg hm hbt (PyProof.Rows.callWith_builtin1 ?_ he (by rfl)))
  rw [he]
  refine Calls.spliced_cons (gen_sig (RR := fun bs HA => ∀ HB, Tabbed P HA HB → Q (.bl (bs.all id)) HB) hr TB hcode S hi hel hfo I h fun bs HA g sE hR hG => ?_)
  obtain ⟨fp, wr, G, F, St, W, hst, htr, hI⟩ := hG
  refine Calls.spliced_nil (call_all_walkS (W.self 0 _ _ _ hst ⟨g, fp, wr, G, _, F, St, _, rfl, W, hst, htr, fun s' hmv => ?_⟩))
  obtain ⟨HB, hT, J⟩ := hI s' hmv
  refine ⟨.bl _, HB, J, rfl, ?_⟩
  rw [all_bAt bs]
  exact hR HB hT
theorem pe_anyT {c P : Addr} {elt iter : Expr} {x : Str} {px p pos gp : Pos} {scope : Scope} {Bq : L2.St → Hp → V → Bool → Prop} {te : TE} {k : Nat}
    (hr : Room k X.A) (hg : Gl X "any") (hm : X.mg "any" = none) (TB : TabB X.base X.mg c P) (hcode : X.env.code = .ref c) (S : GenS X.env scope x) (hi : PE X iter te) (hel : EltQ X P scope x elt Bq) (hfo : ∀ v, genFold iter X.env v = pure v)
    (he : starEach [.GeneratorExp elt [⟨.Name x px, iter, [], 0⟩] scope gp] X.env = (false, eval (.GeneratorExp elt [⟨.Name x px, iter, [], 0⟩] scope gp) X.env) :: starEach [] X.env := by rfl) :
    PE X (.Call (.Name "any" p) [.GeneratorExp elt [⟨.Name x px, iter, [], 0⟩] scope gp] [] pos) (tQs P Bq (fun bs => bs.any id) te) := by
  refine ⟨fun pins s σ H Q I h => ?_⟩
  refine wpAny_Call_Name_kw (ld_blt I hg hm boot_any (PyProof.Rows.callWith_builtin1 ?_ he (by rfl)))
  rw [he]
  refine Calls.spliced_cons (gen_sig (RR := fun bs HA => ∀ HB, Tabbed P HA HB → Q (.bl (bs.any id)) HB) hr TB hcode S hi hel hfo I h fun bs HA g sE hR hG => ?_)
  obtain ⟨fp, wr, G, F, St, W, hst, htr, hI⟩ := hG
  refine Calls.spliced_nil (call_any_walkS (W.self 0 _ _ _ hst ⟨g, fp, wr, G, _, F, St, _, rfl, W, hst, htr, fun s' hmv => ?_⟩))
  obtain ⟨HB, hT, J⟩ := hI s' hmv
  refine ⟨.bl _, HB, J, rfl, ?_⟩
  rw [any_bAt bs]
  exact hR HB hT
end
end GW
namespace VL
open PySem PySem.Spec PyProof.Rows L2 GxR
/-! all(.. for x in s), any(.. for x in s), s a text -/
def eQs (f : List Bool → Bool) (pb : S → D → Option Bool) (it : ME) : ME := fun s => (it s).bind fun d s => match d with
  | .str z => match testL pb s (z.map fun c => .str [c]) with
    | some bs => .ok (.bl (f bs), s)
    | none => .no
  | _ => .no
section
variable {K : PySem.W.Frag} {B : Bs} {W : WX} {th : List Addr} {G H H' : Hp} {s : S} {σ : L2.St}
theorem sem_qs {P : Addr} {te : TE} {m : ME} {f : List Bool → Bool} {pb : S → D → Option Bool} (hP : B.Tb P) (h : Sem K B W (relE K) te m) : Sem K B W (relE K) (GW.tQs P (BqOf K B pb) f te) (eQs f pb m) := fun s th G σ H Q R Pq =>
  h s th G σ H _ R (Pq.bind fun d s1 th1 G1 H1 v l1 R1 r1 P1 => by
    cases d with
    | str z =>
      cases r1
      dsimp only at P1
      cases ht : testL pb s1 (z.map fun c => .str [c]) with
      | none => rw [ht] at P1; exact P1.elim
      | some bs =>
        rw [ht] at P1
        obtain ⟨hl, hb⟩ := testL_get ht
        refine ⟨_, bs, rfl, by rw [hl]; simp, fun i c b e1 e2 => ?_, R1.tb P hP, fun HB hT => ?_⟩
        · have e3 : (z.map fun c => D.str [c])[i]? = some (.str [c]) := by
            have : z[i]? = some c := by simpa using e1
            simp [this]
          exact ⟨s1, th1, G1, .str [c], R1, rfl, hb i _ b e3 e2⟩
        · obtain ⟨R2, l2⟩ := R1.tabbed hP hT
          exact P1 th1 G1 HB _ l2 R2 rfl
    | _ => exact P1.elim)
end
section
variable {X : Cx} {B : Bs} {W : WX} {elt iter : Expr} {te : TE} {m : ME} {x : Str} {px p pos gp : Pos} {scope : Scope} {pb : S → D → Option Bool} {c P : Addr} {k : Nat}
theorem ve_allT (hr : Room k X.A) (hg : Gl X "all") (hm : X.mg "all" = none) (hbt : bootBuiltins "all" = some (.builtin "all")) (TB : TabB X.base X.mg c P) (hP : B.Tb P) (hcode : X.env.code = .ref c) (Sc : GenS X.env scope x) (hi : VE X B W iter te m) (hel : GW.EltQ X P scope x elt (BqOf X.K B pb))
    (hfo : ∀ v, genFold iter X.env v = pure v := by intro _; rfl) (he : starEach [.GeneratorExp elt [⟨.Name x px, iter, [], 0⟩] scope gp] X.env = (false, eval (.GeneratorExp elt [⟨.Name x px, iter, [], 0⟩] scope gp) X.env) :: starEach [] X.env := by rfl) :
    VE X B W (.Call (.Name "all" p) [.GeneratorExp elt [⟨.Name x px, iter, [], 0⟩] scope gp] [] pos) (GW.tQs P (BqOf X.K B pb) allB te) (eQs allB pb m) := ⟨GW.pe_allT hr hg hm hbt TB hcode Sc hi.pe hel hfo he, sem_qs hP hi.sem⟩
/-- c in TEXT, TEXT a global text -/
def pbIn (l : List Nat) : S → D → Option Bool := fun _ d => match d with
  | .str [c] => some (decide (c ∈ l))
  | _ => none
theorem elt_in {y z : Str} {l : List Nat} {p2 p3 p4 : Pos} (hk : scope.kind = .function) (hl : scope.names.lookup x = some .local) (hgy : scope.names.lookup y = some .globalImplicit) (hgl : X.env.globals = mainGlobals) (TB : TabB X.base X.mg c P) (hmy : ∃ t, X.mg y = some (.str z t)) (hz : z.cps = l.toArray)
    (hd : (x == ("__debug__" : Str)) = false := by decide) (hd2 : (y == ("__debug__" : Str)) = false := by decide) :
    GW.EltQ X P scope x (.Compare (.Name x p2) [.In] [.Name y p3] p4) (BqOf X.K B (pbIn l)) := by
  intro pins σ HA sA ce A' E' v u b sB mB I hsc hgc _ hA keep hn hm rv hb
  obtain ⟨s, th, G, d, R, at1, hp⟩ := hb
  obtain ⟨t, hmy⟩ := hmy
  cases d with
  | str q =>
    cases at1
    match q, hp with
    | [k], hp =>
      simp only [pbIn, Option.some.injEq] at hp
      obtain ⟨tv, rfl⟩ := rv
      refine wpAny_Compare1 ?_
      refine wpAny_Name (wpAny_loadName_local (by rw [hsc]; exact hk) (show ce.scope.names.lookup x = some .local by rw [hsc]; exact hl) hn hm ?_) hd
      have gl : sB.heap.Ns ce.globals X.mg := by
        rw [hgc, hgl]
        exact (I.mod.glob.keeps I.bk).at fun o e => keep _ _ TB.gP e
      refine Calls.Name_function_global (by rw [hsc]; exact hk) (show ce.scope.names.lookup y = some .globalImplicit by rw [hsc]; exact hgy) (Calls.loadGlobal_global gl hmy ?_) hd2
      refine PyProof.Rows.in_str ⟨?_, keeps_tok _ _⟩
      have e1 := PySem.StrLaws.found_one z k
      have e2 : z.cps.toList = l := by rw [hz]
      rw [e2] at e1
      rw [← hp]
      exact congrArg Value.bool e1
    | [], hp => simp [pbIn] at hp
    | _ :: _ :: _, hp => simp [pbIn] at hp
  | _ => simp [pbIn] at hp
end
end VL
/-! sorted of a tuple -/
namespace ST
open PySem PySem.Calls PyProof.Rows PySem.W
section
variable {prog : Program} {w : World} {A : Around} {E : Value → Shared → Prop} {s : Shared}
theorem collect_tup {l : Addr} {vs : List Value} {Q : List Value → Shared → Prop} (hl : s.heap.IsTuple l vs.toArray)
    (h : Q vs { s with heap := (s.heap.push (seqObj "list" #[] 0)).update s.heap.objs.size (Obj.mapSeq (· ++ vs.toArray)) }) (hsz : vs.length ≤ sizeLine) :
    wpAny (model prog w) A (collect (.ref l)) Q E s := by
  obtain ⟨o, ho, hc, n, hd⟩ := id hl
  unfold collect
  refine wpAny_bind (wpAny_runValue (codeAny_builtin entry_proto_collect' ?_))
  show wpAny _ _ (do again (.builtin "list.__iadd__" ⟨[← newList [], .ref l], []⟩)) _ _ s
  refine wpAny_bind (wpAny_newList (wpAny_pure ⟨Code.quiet_builtin _ (by decide +kernel), codeAny_builtin entry_list_iadd' ?_⟩))
  show wpAny _ _ (Builtin.List.listExtendWith (.ref s.heap.objs.size) (.ref l) (.ref s.heap.objs.size)) _ _ { s with heap := s.heap.push (seqObj "list" #[] 0) }
  unfold Builtin.List.listExtendWith
  have ho' : (s.heap.push (seqObj "list" #[] 0)).get? l = some o := Heap.get?_push_of_some _ ho
  refine wpAny_bind (wpAny_typeOf (T := "tuple") ⟨o, ho', hc⟩ ?_)
  have ht : (Value.type "tuple" == Value.type "tuple") = true := by rfl
  rw [if_pos (by rw [ht]; simp)]
  refine wpAny_bind (listItems_at ho' hd ?_)
  refine wpAny_bind (listItems_at (xs := #[]) (n := 0) (Heap.get?_push_size _ rfl) rfl ?_)
  rw [if_neg (by simp)]
  refine wpAny_bind (listUpdate_at (xs := #[]) (n := 0) (Heap.get?_push_size _ rfl) rfl ?_ (Nat.zero_le _) (by show (#[] ++ vs.toArray).size ≤ sizeLine + 1; simp only [Array.size_append, List.size_toArray, List.length_nil]; omega))
  refine wpAny_pure ?_
  show wpAny (model prog w) A (do
      let o ← load s.heap.objs.size
      match o.data with
      | .seq xs _ => pure xs.toList
      | _ => unsupported "internal:collect") Q E { s with heap := (s.heap.push (seqObj "list" #[] 0)).update s.heap.objs.size (Obj.mapSeq (· ++ vs.toArray)) }
  refine wpAny_bind (wpAny_load (get?_update_seq (Heap.get?_push_size _ rfl) _) ?_)
  show wpAny _ _ (pure ((#[] : Array Value) ++ vs.toArray).toList) Q E _
  rw [show ((#[] : Array Value) ++ vs.toArray).toList = vs by simp]
  exact wpAny_pure h
theorem sortedT {κ : PyProof.Rows.KeyKind} {l : Addr} {vs : List Value} {Q : Value → Shared → Prop} (hl : s.heap.IsTuple l vs.toArray) (S : SortsAt prog w A.in1.in1 { s with heap := sortingHeap (copyHeap s.heap vs) (s.heap.objs.size + 1) vs } κ vs) (hL : vs.length ≤ sizeLine)
    (h : Q (.ref (s.heap.objs.size + 1)) { s with heap := sortedAll s.heap vs (sortVals κ false vs vs).toArray }) : wpAny (model prog w) A (call (.builtin "sorted") [.ref l]) Q E s := by
  refine call_function_entry_kw kind_sorted plain_sorted entry_sorted (args_sorted1 _) ?_
  unfold Builtin.«sorted»
  refine wpAny_bind (m := checkCount "sorted" 1 1 _) (wpAny_pure (wpAny_bind (collect_tup hl (wpAny_bind (wpAny_newList ?_ hL)) hL)))
  have hsz : ((s.heap.push (seqObj "list" #[] 0)).update s.heap.objs.size (Obj.mapSeq (· ++ vs.toArray))).objs.size = s.heap.objs.size + 1 := by
    rw [Heap.size_update, size_push']
  show wpAny _ _ _ _ _ { s with heap := copyHeap s.heap vs }
  rw [hsz]
  refine wpAny_bind (wpAny_holding (wpAny_call_entry_kw slot_list_sort ⟨_, copyHeap_at s.heap vs, rfl⟩ entry_list_sort ?body (args_list_sort _)))
  case body =>
    show wpAny (model prog w) A.in1.in1 (Builtin.«list.sort» ⟨[.ref (s.heap.objs.size + 1)], []⟩) _ _ _
    refine list_sort_vals (s := { s with heap := copyHeap s.heap vs }) (copyHeap_at s.heap vs) S hL ?_
    exact ⟨_, rfl, wpAny_pure ⟨_, rfl, h⟩⟩
theorem sortedDT {β : Type} {vs : List Value} {bs : List β} {enc : β → PyData} {R : Value → β → Prop} {l : Addr} {Q : Value → Shared → Prop} (hl : s.heap.IsTuple l vs.toArray) (e : EachIs R vs bs) (er : EachIs (fun v b => ∃ as, Reads s.heap v (enc b) as) vs bs) (hal : AllAlike (bs.map enc)) (hk : Sortable (bs.map enc)) (hL : bs.length ≤ sizeLine)
    (hu : ∀ b, b ∈ bs → A.units + 2 + (enc b).depth < cLine) (h : ∀ out, out.length = bs.length → EachIs R out (bs.mergeSort (dataLe false enc)) → Q (.ref (s.heap.objs.size + 1)) { s with heap := sortedAll s.heap vs (List.toArray out) }) :
    wpAny (model prog w) A (call (.builtin "sorted") [.ref l]) Q E s := by
  have er2 : EachIs (fun v b => ∃ as, Reads (sortingHeap (copyHeap s.heap vs) (s.heap.objs.size + 1) vs) v (enc b) as) vs bs := er.mono fun _ _ ⟨as, r⟩ => ⟨as, PyProof.Rows.Reads.keeps (fun _ _ => sorting_copy_old) r⟩
  refine sortedT hl (SortsAt.data (s := { s with heap := sortingHeap (copyHeap s.heap vs) (s.heap.objs.size + 1) vs }) (each_map (R := fun v d => ∃ as, Reads (sortingHeap (copyHeap s.heap vs) (s.heap.objs.size + 1) vs) v d as) enc er2) hal hk (bound_map hu)) (by rw [e.length]; exact hL) ?_
  exact h _ (by rw [sortVals_length false rfl]; exact e.length) (sortVals_data false e er2 hal)
end
end ST
namespace SD
open PySem PySem.Spec PyProof.Rows L2 PySem.W
section
variable {X : Cx} {β : Type}
def rSDT (K : PySem.W.Frag) (β : Type) : List V → Hp → VK → Prop := fun vs H Q => ∃ (a : Addr) (bs : List β) (vf : β → V) (enc : β → PyData), vs = [.ref a] ∧ SqT K H a (bs.map vf) ∧ (∀ b ∈ bs, Dp K H (vf b) (enc b)) ∧
  AllAlike (bs.map enc) ∧ Sortable (bs.map enc) ∧ (∀ b ∈ bs, (enc b).depth ≤ 64) ∧ ∀ p, H p = none → Q (.ref p) (upd H p (.lst ((bs.mergeSort (dataLe false enc)).map vf)))
theorem cr_SDT (hu : X.A.units + 67 < cLine) : CallR X (.builtin "sorted") (rSDT X.K β) := by
  intro pins s σ H vs us Q I r h
  obtain ⟨a, bs, vf, enc, rfl, hs, hd, hal, hk, hdep, q⟩ := h
  obtain ⟨its, rv, hl, hz⟩ := I.tuple hs
  rw [Vals.ref1 r]
  have hlen : its.length = bs.length := by rw [← rv.length, List.length_map]
  have hz' : bs.length ≤ sizeLine := by rw [List.length_map] at hz; exact hz
  refine ST.sortedDT hl (each_of rv) (each_reads I hd rv) hal hk hz' (fun b hb => by have := hdep b hb; omega) fun out ho he => ?_
  obtain ⟨ep, he'⟩ := PyProof.Rows.sortedAll_at s.heap its out.toArray
  have hlen2 : ((bs.mergeSort (dataLe false enc)).map vf).length ≤ sizeLine := by
    rw [List.length_map, List.length_mergeSort]
    exact hz'
  exact ⟨.ref _, _, I.laid (t' := s.toks) (o := .lst ((bs.mergeSort (dataLe false enc)).map vf)) (fun _ _ => PyProof.Rows.sortedAll_old) (Nat.le_succ _) ⟨hlen2, out, ep, vals_of he, he'⟩, rfl, q _ (I.hok.fresh (Nat.le_succ _))⟩
end
end SD
/-! all, any of a generator expression over a tuple or a list; the element is quiet, and may call -/
namespace GW
open PySem PySem.Spec PyProof.Rows L2 GxR
/-- as EltQ, the depth told -/
def EltQD (X : Cx) (P : Addr) (scope : Scope) (x : Str) (elt : Expr) (Bq : L2.St → Hp → V → Bool → Prop) : Prop :=
  ∀ (pins : List (Addr × Obj)) (σ : L2.St) (HA : Hp) (sA : Shared) (ce : Env) (A' : Around) (E' : Value → Shared → Prop) (v : V) (u : Value) (b : Bool) (sB : Shared) (mB : Str → Option Value),
    Inv X pins σ HA sA → ce.scope = scope → ce.globals = X.env.globals → ce.cells = cloFrom X.env.cells scope.names [] → A'.handled = none → A'.depth ≤ X.A.depth + 1 → A'.units ≤ X.A.units + 8 →
    (∀ q o, q ≠ P → sA.heap.get? q = some o → sB.heap.get? q = some o) → sB.heap.Ns ce.locals mB → mB x = some u → RelV v u → Bq σ HA v b →
    wpAny (model X.prog X.w) A' (eval elt ce) (fun y sC => y = .bool b ∧ Keeps sB sC) E' sB
section
variable {X : Cx} {pins : List (Addr × Obj)} {σ : L2.St} {H : Hp} {s : Shared}
theorem gen_seqD {c P : Addr} {elt iter : Expr} {x : Str} {px gp : Pos} {scope : Scope} {Bq : L2.St → Hp → V → Bool → Prop} {te : TE} {k : Nat} {QQ : Value → Shared → Prop} {RR : List Bool → Hp → Prop}
    (hr : Room k X.A) (TB : TabB X.base X.mg c P) (hcode : X.env.code = .ref c) (S : GenS X.env scope x) (hi : PE X iter te) (hel : EltQD X P scope x elt Bq) (hfo : ∀ v, genFold iter X.env v = pure v) (I : Inv X pins σ H s)
    (h : te σ H fun v HA => ∃ a vs bs, v = .ref a ∧ (SqL X.K HA a vs ∨ SqT X.K HA a vs) ∧ bs.length = vs.length ∧ (∀ (i : Nat) z b, vs[i]? = some z → bs[i]? = some b → Bq σ HA z b) ∧ TabG HA P ∧ RR bs HA)
    (hQ : ∀ bs HA g sE, RR bs HA → Set1 X pins σ HA P bs g sE → QQ (.ref g) sE) :
    wpAny (model X.prog X.w) X.A (eval (.GeneratorExp elt [⟨.Name x px, iter, [], 0⟩] scope gp) X.env) QQ X.xe s := by
  refine wpAny_GeneratorExp_walksQD hr.hd S.co (closure_ok S.free) S.cell S.dot S.loc S.kind (by have := hr.dp; omega) (thn (hi.run pins s σ H _ I h) fun xv sA ⟨v, HA, IA, rA, a, vs, bs, ev, hsq, hbl, hbq, ⟨ps, hP, ht⟩, qA⟩ => ?_) hfo
  subst ev
  obtain rfl : xv = Value.ref a := rA
  refine src IA hsq fun o St W hst haS => ?_
  have tP : sA.heap.get? P = some { cls := .none, data := .fields ps } := IA.hok P _ hP
  have ltP : P < sA.heap.objs.size := Heap.lt_size tP
  have tP2 : (sA.heap.push o).get? P = some { cls := .none, data := .fields ps } := Heap.get?_push_of_some _ tP
  have hd2 : PySem.W.CodeHd (sA.heap.push o) c P := TB.code.keeps fun b u e => Heap.get?_push_of_some _ (IA.bk b u e)
  have nl2 : (sA.heap.push o).NoLimit := IA.nolimit.push o
  have szp : (sA.heap.push o).objs.size = sA.heap.objs.size + 1 := Heap.size_push ..
  have go : ∀ (code : Value) (hC : Heap) (tk : Nat) (ps' : Array Value), Heap.ExtBut P (sA.heap.push o) hC → (sA.heap.push o).objs.size ≤ hC.objs.size → hC.get? P = some { cls := .none, data := .fields ps' } → (∃ more, ps' = ps ++ more) → TriplesOk ps'.toList →
      wpAny (model X.prog X.w) X.A (builtinsFor X.env.globals X.env.builtins) (fun bi sD =>
        ∃ Ia fp wr n₀ Pf St₀ pz F, Value.ref sA.heap.objs.size = .ref Ia ∧ (∀ A' : Around, A'.handled = none → Walks X.prog X.w A' Ia fp wr n₀ Pf St₀) ∧ St₀ 0 sD.heap ∧ (∀ b ∈ fp, b < sD.heap.objs.size) ∧ sD.heap.NoLimit ∧ cStatics ∉ wr ∧
          (∀ hr2 : Heap, (∀ b o, sD.heap.get? b = some o → hr2.get? b = some o) →
            QuietGenD X.prog X.w (genEnv scope (cloFrom X.env.cells scope.names []) sD.heap.objs.size code bi X.env) x [] elt (List.range sD.heap.objs.size) wr Pf pz F hr2 (X.A.depth + 1) (X.A.units + 8)) ∧
          (∀ g hE tkE gs, gs.bare = true → sD.heap.objs.size < g → hE.objs.size = g + 1 → (∀ b o, sD.heap.get? b = some o → hE.get? b = some o) →
            WalksS X.prog X.w X.A.in4 g (g :: sD.heap.objs.size :: List.range sD.heap.objs.size) (sD.heap.objs.size :: wr) (GenOnlyQ sD.gens.size) (passing pz n₀ 0).length
              (fun j y => ∃ i, (passing pz n₀ 0)[j]? = some i ∧ F i y) (GenAt X.prog X.w X.A.in4 g sD.gens.size sD.heap.objs.size (List.range sD.heap.objs.size) wr pz n₀ F) →
            GenAt X.prog X.w X.A.in4 g sD.gens.size sD.heap.objs.size (List.range sD.heap.objs.size) wr pz n₀ F 0 { sD with gens := sD.gens.push gs, toks := tkE, heap := hE } →
            QQ (.ref g) { sD with gens := sD.gens.push gs, toks := tkE, heap := hE })) X.xe { sA with heap := hC, toks := tk } := by
    intro code hC tk ps' ext hsz tC hmore htC
    obtain ⟨bm, ob, e1, e2, e3, e4, e5, e6, e7, e8⟩ := TB.bm
    have ncP : cStatics ≠ P := fun e => by
      obtain ⟨_, hns, _⟩ := IA.nolimit
      obtain ⟨o', es, ep, ho, hd, _⟩ := hns
      rw [e, tP] at ho
      cases ho
      cases hd
    have ncl : cStatics < sA.heap.objs.size := let ⟨_, hns, _⟩ := IA.nolimit; hns.lt
    have kC : ∀ b u, b ≠ P → sA.heap.get? b = some u → hC.get? b = some u := fun b u hb e => ext b u hb (Heap.get?_push_of_some _ e)
    refine wpAny_builtinsFor (m := X.mg) (by rw [IA.ok.glob]; exact ((IA.mod.glob.keeps IA.bk).push o).extBut ext TB.gP) e1 e2 (kC _ _ e4 (IA.bk _ _ e5)) e6 e7 e8 ?_
    have two : ∀ b ∈ [sA.heap.objs.size, a], b = sA.heap.objs.size ∨ b = a := fun b hb => by simpa using hb
    have naP : a ≠ P := fun z => by
      rcases hsq with q | q
      · obtain ⟨its, rv, p, _⟩ := IA.list q
        obtain ⟨o', ho, hc, _⟩ := p.isList
        rw [z, tP] at ho
        cases ho
        cases hc
      · obtain ⟨its, rv, p, _⟩ := IA.tuple q
        obtain ⟨o', ho, hc, _⟩ := id p
        rw [z, tP] at ho
        cases ho
        cases hc
    refine ⟨sA.heap.objs.size, _, [sA.heap.objs.size], vs.length, _, St, (fun _ => true), (fun i y => ∃ b, bs[i]? = some b ∧ y = .bool b), rfl, W, ?_, ?_, nl2.extBut ext ncP, ?_, ?_, ?_⟩
    · refine (W X.A hr.hd).frame _ _ _ hst fun b hb u e => ext b u (fun z => ?_) e
      rcases two b hb with z2 | z2
      · exact Nat.ne_of_lt ltP (z.symm.trans z2)
      · exact naP (z2.symm.trans z)
    · intro b hb
      show b < hC.objs.size
      have hlC : sA.heap.objs.size < hC.objs.size := by rw [szp] at hsz; exact hsz
      rcases two b hb with z | z
      · rw [z]; exact hlC
      · rw [z]; exact Nat.lt_trans haS hlC
    · intro z
      have e9 : cStatics = sA.heap.objs.size := by simpa using z
      rw [e9] at ncl
      exact Nat.lt_irrefl _ ncl
    · intro hr2 hrk
      refine ⟨fun A' E' i v s₂ m₂ hA hD hU hPv hn hm hk => by simp only [List.forIn_nil]; exact wpAny_pure ⟨rfl, keeps_refl _⟩, fun A' E' i v s₂ m₂ hA hD hU hPv hp hn hm hk => ?_⟩
      obtain ⟨z, hz, rz⟩ := hPv
      have hlt : i < bs.length := by rw [hbl]; exact (List.getElem?_eq_some_iff.mp hz).1
      refine wpAny_mono (hel pins σ HA sA _ A' E' z v bs[i] s₂ m₂ IA rfl rfl rfl hA hD hU (fun q oq hq e => ?_) hn hm rz (hbq i z _ hz (List.getElem?_eq_getElem hlt))) (fun y s3 r => ⟨⟨_, List.getElem?_eq_getElem hlt, r.1⟩, r.2⟩) fun _ _ e => e
      have hql := Heap.lt_size e
      have hlC : sA.heap.objs.size < hC.objs.size := by rw [szp] at hsz; exact hsz
      refine hk q (List.mem_range.mpr (Nat.lt_trans hql hlC)) (fun zz => ?_) oq (hrk q oq (kC q oq hq e))
      have e9 : q = sA.heap.objs.size := by simpa using zz
      rw [e9] at hql
      exact Nat.lt_irrefl _ hql
    · intro g hE tkE gs hgb hag hszE hkE WE hat
      simp only [GxR.passing_true, List.length_range] at WE
      rw [← hbl] at WE hat
      refine hQ bs HA g _ qA ⟨_, _, _, _, _, WE.in4_1, hat, ?_, fun s' hm => ?_⟩
      · intro j y sj Qj Ej hy hQj
        obtain ⟨i, hij, b, hb, rfl⟩ := hy
        obtain ⟨hj, ej⟩ := List.getElem?_eq_some_iff.mp hij
        rw [List.getElem_range] at ej
        subst ej
        have hQ2 : Qj (bAt bs j) sj := hQj
        unfold bAt at hQ2
        rw [hb] at hQ2
        exact wpAny_truthy_bool hQ2
      · obtain ⟨more, em⟩ := hmore
        have nwr : ∀ b u, sA.heap.get? b = some u → b ∉ hC.objs.size :: [sA.heap.objs.size] := fun b u e hb => by
          have hl := Heap.lt_size e
          have hlC : sA.heap.objs.size < hC.objs.size := by rw [szp] at hsz; exact hsz
          rcases (show b = hC.objs.size ∨ b = sA.heap.objs.size by simpa using hb) with z | z
          · rw [z] at hl; exact Nat.lt_irrefl _ (Nat.lt_trans hl hlC)
          · rw [z] at hl; exact Nat.lt_irrefl _ hl
        have J := inv_tab (more := more) (h' := s'.heap) (g' := s'.gens) (d' := s'.drawn) (t' := s'.toks) IA hP (fun b u hb e => hm.heap b u (nwr b u e) (hkE b u (kC b u hb e)))
          (by rw [← em]; exact hm.heap P _ (nwr P _ tP) (hkE P _ tC)) (AllBare.movedS (IA.bare.push hgb) hm)
        rw [sh_eta sA s' hm.os] at J
        exact ⟨upd HA P (.tbl (ps ++ more)), ⟨⟨ps ++ more, upd_same, by rw [← em]; exact htC⟩, fun b hb => upd_ne hb⟩, J⟩
  refine ⟨nl2, ?_⟩
  cases hf : codeAmong gp ps.toList with
  | none =>
    refine wpAny_genexprCodeX hcode (hd2.code tP2 ht) (hd2.tab tP2) hf fun c' h' tk hx hge hlt hco' _ htab' _ => ?_
    obtain ⟨o1, vv, f1, tf, fl, tg, inF, tx, tt, op, _, _, _, _, _, _, _, _, _, htr, _⟩ := hco'
    exact go _ h' tk _ hx (Nat.le_trans hge (Nat.le_of_lt hlt)) htab'.2 ⟨_, rfl⟩ htr
  | some cv =>
    refine wpAny_genexprCode_hit hcode (hd2.code tP2 ht) hf ?_
    exact go cv (sA.heap.push o) sA.toks ps (Heap.ExtBut.refl _ _) (Nat.le_refl _) tP2 ⟨#[], by simp⟩ ht
theorem pe_allD {c P : Addr} {elt iter : Expr} {x : Str} {px p pos gp : Pos} {scope : Scope} {Bq : L2.St → Hp → V → Bool → Prop} {te : TE} {k : Nat}
    (hr : Room k X.A) (hg : Gl X "all") (hm : X.mg "all" = none) (hbt : bootBuiltins "all" = some (.builtin "all")) (TB : TabB X.base X.mg c P) (hcode : X.env.code = .ref c) (S : GenS X.env scope x) (hi : PE X iter te) (hel : EltQD X P scope x elt Bq) (hfo : ∀ v, genFold iter X.env v = pure v)
    (he : starEach [.GeneratorExp elt [⟨.Name x px, iter, [], 0⟩] scope gp] X.env = (false, eval (.GeneratorExp elt [⟨.Name x px, iter, [], 0⟩] scope gp) X.env) :: starEach [] X.env := by rfl) :
    PE X (.Call (.Name "all" p) [.GeneratorExp elt [⟨.Name x px, iter, [], 0⟩] scope gp] [] pos) (tQ X.K P Bq (fun bs => bs.all id) te) := by
  refine ⟨fun pins s σ H Q I h => ?_⟩
  refine wpAny_Call_Name_kw (ld_blt I hg hm hbt (PyProof.Rows.callWith_builtin1 ?_ he (by rfl)))
  rw [he]
  refine Calls.spliced_cons (gen_seqD (RR := fun bs HA => ∀ HB, Tabbed P HA HB → Q (.bl (bs.all id)) HB) hr TB hcode S hi hel hfo I h fun bs HA g sE hR hG => ?_)
  obtain ⟨fp, wr, G, F, St, W, hst, htr, hI⟩ := hG
  refine Calls.spliced_nil (call_all_walkS (W.self 0 _ _ _ hst ⟨g, fp, wr, G, _, F, St, _, rfl, W, hst, htr, fun s' hmv => ?_⟩))
  obtain ⟨HB, hT, J⟩ := hI s' hmv
  refine ⟨.bl _, HB, J, rfl, ?_⟩
  rw [all_bAt bs]
  exact hR HB hT
theorem pe_anyD {c P : Addr} {elt iter : Expr} {x : Str} {px p pos gp : Pos} {scope : Scope} {Bq : L2.St → Hp → V → Bool → Prop} {te : TE} {k : Nat}
    (hr : Room k X.A) (hg : Gl X "any") (hm : X.mg "any" = none) (TB : TabB X.base X.mg c P) (hcode : X.env.code = .ref c) (S : GenS X.env scope x) (hi : PE X iter te) (hel : EltQD X P scope x elt Bq) (hfo : ∀ v, genFold iter X.env v = pure v)
    (he : starEach [.GeneratorExp elt [⟨.Name x px, iter, [], 0⟩] scope gp] X.env = (false, eval (.GeneratorExp elt [⟨.Name x px, iter, [], 0⟩] scope gp) X.env) :: starEach [] X.env := by rfl) :
    PE X (.Call (.Name "any" p) [.GeneratorExp elt [⟨.Name x px, iter, [], 0⟩] scope gp] [] pos) (tQ X.K P Bq (fun bs => bs.any id) te) := by
  refine ⟨fun pins s σ H Q I h => ?_⟩
  refine wpAny_Call_Name_kw (ld_blt I hg hm boot_any (PyProof.Rows.callWith_builtin1 ?_ he (by rfl)))
  rw [he]
  refine Calls.spliced_cons (gen_seqD (RR := fun bs HA => ∀ HB, Tabbed P HA HB → Q (.bl (bs.any id)) HB) hr TB hcode S hi hel hfo I h fun bs HA g sE hR hG => ?_)
  obtain ⟨fp, wr, G, F, St, W, hst, htr, hI⟩ := hG
  refine Calls.spliced_nil (call_any_walkS (W.self 0 _ _ _ hst ⟨g, fp, wr, G, _, F, St, _, rfl, W, hst, htr, fun s' hmv => ?_⟩))
  obtain ⟨HB, hT, J⟩ := hI s' hmv
  refine ⟨.bl _, HB, J, rfl, ?_⟩
  rw [any_bAt bs]
  exact hR HB hT
end
end GW
/-! any(f(xs[i], x) for x in ..), f the test of two notices -/
namespace GT
open PySem PySem.Spec PyProof.Rows L2 GxR
section
variable {prog : Program} {w : World} {A : Around} {E : Value → Shared → Prop} {s : Shared}
theorem ix_name {env : Env} {m : Str → Option Value} {n : Str} {t : Addr} {l : List Value} {i : Int} {k j : Nat} {x : Value} {Q : Value → Shared → Prop} {p1 p2 p3 : Pos} (hk : env.scope.kind = .function) (hl : env.kindOf n = some .local) (hn : s.heap.Ns env.locals m) (hv : m n = some (.ref t)) (ht : IsTup s.heap t l.toArray)
    (hlo : -(2 ^ 63) ≤ i) (hhi : i < 2 ^ 63) (hj : seqIndex? i l.length = some j) (hx : l[j]? = some x) (h : Q x { s with toks := s.toks + 1 }) (hd : (n == ("__debug__" : Str)) = false := by decide) : wpAny (model prog w) A (eval (.Subscript (.Name n p1) (.Constant (.int i) k p2) p3) env) Q E s :=
  Subscript_ (wpAny_Name (wpAny_loadName_local hk hl hn hv (wpAny_Constant_int (item_tupleL ht hlo hhi hj hx h))) hd)
theorem ix_names {env : Env} {n q : Str} {t : Addr} {l : List Value} {i : Int} {u : Tok} {j : Nat} {x : Value} {Q : Value → Shared → Prop} {p1 p2 p3 : Pos} (h1 : ∀ {s : Shared} {Q : Value → Shared → Prop} {E : Value → Shared → Prop}, Q (.ref t) s → True) : True := trivial
abbrev sub (n : Str) (i : Int) (k : Nat) (p1 p2 p3 : Pos) : Expr := .Subscript (.Name n p1) (.Constant (.int i) k p2) p3
variable {K : PySem.W.Frag} {fa : Addr} {fd : FuncData} {params : Arguments} {scope : Scope} {k1 k2 k3 k4 k5 k6 : Nat} {a1 a2 a3 b1 b2 b3 c1 c2 c3 d1 d2 d3 e1 e2 e3 f1 f2 f3 g1 g2 g3 g4 g5 : Pos}
abbrev togB (k1 k2 k3 k4 k5 k6 : Nat) (a1 a2 a3 b1 b2 b3 c1 c2 c3 d1 d2 d3 e1 e2 e3 f1 f2 f3 g1 g2 g3 g4 g5 : Pos) : List Stmt :=
  [.Return (some (.BoolOp .And [.Compare (sub "one" 0 k1 a1 a2 a3) [.Eq] [sub "other" 0 k2 b1 b2 b3] g1, .Compare (sub "one" 1 k3 c1 c2 c3) [.LtE] [sub "other" 2 k4 d1 d2 d3] g2, .Compare (sub "other" 1 k5 e1 e2 e3) [.LtE] [sub "one" 2 k6 f1 f2 f3] g3] g4)) g5]
def togV (x1 x2 : Str) (i1 j1 i2 j2 : Int) : Bool := (x1.cps.toList == x2.cps.toList) && (decide (i1 ≤ j2) && decide (i2 ≤ j1))
theorem tog_run {R : Result → Shared → Prop} {t1 t2 : Addr} {x1 x2 : Str} {i1 j1 i2 j2 : Int} {y1 y2 : Value} {u1 u2 u3 v1 v2 v3 : Tok}
    (F : FunD K "are_together" "are_together" params (togB k1 k2 k3 k4 k5 k6 a1 a2 a3 b1 b2 b3 c1 c2 c3 d1 d2 d3 e1 e2 e3 f1 f2 f3 g1 g2 g3 g4 g5) scope [] [] fa fd) (hs : FnScope ["one", "other"] ["one", "other"] scope)
    (hlo : scope.names.lookup ("one" : Str) = some .local) (hlt : scope.names.lookup ("other" : Str) = some .local)
    (hB : ∀ (s : Shared) (us : List Value), us.length = 2 → BindsTo s fd ⟨us, []⟩ (([("one" : Str), ("other" : Str)] : List Str).zip us))
    (X : K.In s.heap) (hlim : s.heap.NoLimit) (hroom : A.depth < recursionLimit) (h1 : IsTup s.heap t1 [.str x1 u1, .int i1 u2, .int j1 u3, y1].toArray) (h2 : IsTup s.heap t2 [.str x2 v1, .int i2 v2, .int j2 v3, y2].toArray)
    (hq : ∀ s', Keeps s s' → R (.ok (.ret (.bool (togV x1 x2 i1 j1 i2 j2)))) s') : codeAny (model prog w) A (.call (.ref fa) ⟨[.ref t1, .ref t2], []⟩) R s := by
  have hbd := hB s [.ref t1, .ref t2] rfl
  obtain ⟨oc, od, dV, kV, doc, pm, an, cdv, ct, osl, rfl, lk, hcd, _, _⟩ := F.ex
  refine Att.call_fn (binds := [("one", .ref t1), ("other", .ref t2)]) X hlim lk hcd hroom hbd (by simp [hlo, hlt]) (fun s₁ IC => ?_) hs.co hs.gen hs.kind
  obtain ⟨h₁, tk₁, rfl⟩ := IC.toInCall.same
  have k : ∀ b o, s.heap.get? b = some o → h₁.get? b = some o := IC.toInCall.keep
  have hn := IC.toInCall.ns
  have g1' : IsTup h₁ t1 [.str x1 u1, .int i1 u2, .int j1 u3, y1].toArray := h1.keeps k
  have g2' : IsTup h₁ t2 [.str x2 v1, .int i2 v2, .int j2 v3, y2].toArray := h2.keeps k
  have fin : ∀ tk, Keeps s { s with heap := h₁, toks := tk } := fun tk => ⟨h₁, tk, rfl, k⟩
  have ko : (envOfC "are_together" scope s.heap.objs.size fa cdv).kindOf "one" = some .local := hlo
  have kt : (envOfC "are_together" scope s.heap.objs.size fa cdv).kindOf "other" = some .local := hlt
  have hne : ¬ (("one" : Str) = "other") := by decide
  have hne2 : ¬ (("other" : Str) = "one") := by decide
  have mo : bindL (envOfC "are_together" scope s.heap.objs.size fa cdv).kindOf [("one", .ref t1), ("other", .ref t2)] (fun _ => none) "one" = some (.ref t1) := by
    simp only [bindL, ko, kt, if_true, hne, hne2, if_false]
  have mt : bindL (envOfC "are_together" scope s.heap.objs.size fa cdv).kindOf [("one", .ref t1), ("other", .ref t2)] (fun _ => none) "other" = some (.ref t2) := by
    simp only [bindL, ko, kt, if_true, hne, hne2, if_false]
  have hk : (envOfC "are_together" scope s.heap.objs.size fa cdv).scope.kind = .function := hs.kind
  show wpAny _ _ (execs [_] _) _ _ _
  refine wpAny_execs_cons (wpAny_Return_some (BoolOp_and (wpAny_Compare1 ?_)))
  refine ix_name hk ko hn mo g1' (by decide) (by decide) (show seqIndex? 0 4 = some 0 by decide) rfl ?_
  refine ix_name hk kt hn mt g2' (by decide) (by decide) (show seqIndex? 0 4 = some 0 by decide) rfl ?_
  refine PySem.P.eq_str (wpAny_truthy_bool ?_)
  cases hx : (x1.cps.toList == x2.cps.toList) with
  | false =>
    simp only [Bool.false_eq_true, if_false]
    have : togV x1 x2 i1 j1 i2 j2 = false := by simp [togV, hx]
    rw [← this]
    exact hq _ (fin _)
  | true =>
    simp only [if_true]
    refine BoolOp_and (wpAny_Compare1 ?_)
    refine ix_name hk ko hn mo g1' (by decide) (by decide) (show seqIndex? 1 4 = some 1 by decide) rfl ?_
    refine ix_name hk kt hn mt g2' (by decide) (by decide) (show seqIndex? 2 4 = some 2 by decide) rfl ?_
    refine le_int (wpAny_truthy_bool ?_)
    cases hy : decide (i1 ≤ j2) with
    | false =>
      simp only [Bool.false_eq_true, if_false]
      have : togV x1 x2 i1 j1 i2 j2 = false := by simp [togV, hx, hy]
      rw [← this]
      exact hq _ (fin _)
    | true =>
      simp only [if_true]
      refine BoolOp_one (wpAny_Compare1 ?_)
      refine ix_name hk kt hn mt g2' (by decide) (by decide) (show seqIndex? 1 4 = some 1 by decide) rfl ?_
      refine ix_name hk ko hn mo g1' (by decide) (by decide) (show seqIndex? 2 4 = some 2 by decide) rfl ?_
      refine le_int ?_
      have : togV x1 x2 i1 j1 i2 j2 = decide (i2 ≤ j1) := by simp [togV, hx, hy]
      rw [← this]
      exact hq _ (fin _)
end
end GT


namespace VL
open PySem PySem.Spec PyProof.Rows L2 GxR
/-- two rows (text, whole number, whole number, ..) touch -/
def togD : D → D → Option Bool
  | .tup [.str x, .int a, .int b, _], .tup [.str y, .int c, .int d, _] => some (decide (x = y) && (decide (a ≤ d) && decide (c ≤ b)))
  | _, _ => none
def pbTog : S → D → Option Bool := fun s d => match (s.r[0]? : Option (Option D)), (s.r[1]? : Option (Option D)) with
  | some (some (D.tup l)), some (some (D.int p)) => (match L2.atI l p with
    | some e => togD e d
    | none => none)
  | _, _ => none
theorem tog_some {e d : D} {b : Bool} (h : togD e d = some b) : ∃ x a c w y a2 c2 w2, e = .tup [.str x, .int a, .int c, w] ∧ d = .tup [.str y, .int a2, .int c2, w2] ∧ b = (decide (x = y) && (decide (a ≤ c2) && decide (a2 ≤ c))) := by
  unfold togD at h
  split at h
  · cases h; exact ⟨_, _, _, _, _, _, _, _, rfl, rfl, rfl⟩
  · cases h
theorem tup_keep {h h' : Heap} {a P : Addr} {l : Array Value} {ps : Array Value} (ht : IsTup h a l) (hP : h.get? P = some { cls := .none, data := .fields ps }) (keep : ∀ q o, q ≠ P → h.get? q = some o → h'.get? q = some o) : IsTup h' a l := by
  obtain ⟨o, ho, hc, r⟩ := ht
  refine ⟨o, keep a o (fun z => ?_) ho, hc, r⟩
  rw [z, hP] at ho
  cases ho
  cases hc
theorem row_at {X : Cx} {pins : List (Addr × Obj)} {σ : L2.St} {H : Hp} {sA : Shared} {th : List Addr} {G : Hp} {x : List Nat} {a c : Int} {w : D} {v : V} (I : Inv X pins σ H sA) (ex : Ex G H) (h : At X.K th G (.tup [.str x, .int a, .int c, w]) v) :
    ∃ t k1 k2 k3 y, v = .ref t ∧ IsTup sA.heap t [.str ⟨x.toArray⟩ k1, .int a k2, .int c k3, y].toArray := by
  obtain ⟨t, vs, rfl, hq, hl⟩ := h
  obtain ⟨v1, r1, rfl, q1, hl⟩ := hl
  obtain ⟨v2, r2, rfl, q2, hl⟩ := hl
  obtain ⟨v3, r3, rfl, q3, hl⟩ := hl
  obtain ⟨v4, r4, rfl, q4, hl⟩ := hl
  cases q1; cases q2; cases q3; cases hl
  obtain ⟨its, rv, ht, _⟩ := I.tuple (ex.sqT hq)
  cases rv with
  | cons e1 rv =>
    cases rv with
    | cons e2 rv =>
      cases rv with
      | cons e3 rv =>
        cases rv with
        | cons e4 rv =>
          cases rv
          obtain ⟨k1, rfl⟩ := e1
          obtain ⟨k2, rfl⟩ := e2
          obtain ⟨k3, rfl⟩ := e3
          exact ⟨t, k1, k2, k3, _, rfl, ht⟩
section
variable {X : Cx} {B : Bs} {scope : Scope} {P : Addr} {fa : Addr} {fd : FuncData} {params : Arguments} {fsc : Scope} {k1 k2 k3 k4 k5 k6 : Nat} {a1 a2 a3 b1 b2 b3 c1 c2 c3 d1 d2 d3 e1 e2 e3 f1 f2 f3 g1 g2 g3 g4 g5 p p1 p2 p3 p4 p5 : Pos}
theorem elt_tog (F : FunD X.K "are_together" "are_together" params (GT.togB k1 k2 k3 k4 k5 k6 a1 a2 a3 b1 b2 b3 c1 c2 c3 d1 d2 d3 e1 e2 e3 f1 f2 f3 g1 g2 g3 g4 g5) fsc [] [] fa fd) (hs : FnScope ["one", "other"] ["one", "other"] fsc)
    (hlo : fsc.names.lookup ("one" : Str) = some .local) (hlt : fsc.names.lookup ("other" : Str) = some .local) (hB : ∀ (s : Shared) (us : List Value), us.length = 2 → BindsTo s fd ⟨us, []⟩ (([("one" : Str), ("other" : Str)] : List Str).zip us))
    (hmf : X.mg "are_together" = some (.ref fa)) (hdep : X.A.depth + 1 < recursionLimit) (hP : B.Tb P) (hKP : X.K.lookup P = none) (hgP : mainGlobals ≠ P)
    (hk : scope.kind = .function) (ho : scope.names.lookup ("other" : Str) = some .local) (hnf : scope.names.lookup ("notices" : Str) = some .free) (hpf : scope.names.lookup ("place" : Str) = some .free) (hgf : scope.names.lookup ("are_together" : Str) = some .globalImplicit)
    (hcl : ∀ cells : List (Str × Addr), cloFrom cells scope.names [] = [(("place" : Str), (cells.lookup ("place" : Str)).getD 0), (("notices" : Str), (cells.lookup ("notices" : Str)).getD 0)])
    (hN0 : X.N[0]? = some ("notices" : Str)) (hN1 : X.N[1]? = some ("place" : Str)) (hc0 : X.env.scope.names.lookup ("notices" : Str) = some .cell) (hc1 : X.env.scope.names.lookup ("place" : Str) = some .cell) :
    GW.EltQD X P scope "other" (.Call (.Name "are_together" p) [.Subscript (.Name "notices" p1) (.Name "place" p2) p3, .Name "other" p4] [] p5) (BqOf X.K B pbTog) := by
  intro pins σ HA sA ce A' E' v u b sB mB I hsc hgc hcc hA hD hU keep hn hm rv hb
  obtain ⟨s, th, G, d, R, at1, hp⟩ := hb
  unfold pbTog at hp
  split at hp
  · rename_i l pl h0 h1
    split at hp
    · rename_i e he
      obtain ⟨x, i1, j1, w, y, i2, j2, w2, rfl, rfl, rfl⟩ := tog_some hp
      -- the table
      obtain ⟨ps, hPt, _⟩ := R.tb P hP
      have tP : sA.heap.get? P = some { cls := .none, data := .fields ps } := I.hok P _ hPt
      -- the two captured names
      obtain ⟨v0, hv0, q0⟩ := R.slot 0 _ h0
      obtain ⟨v1, hv1, q1⟩ := R.slot 1 _ h1
      cases q1
      obtain ⟨m, hns, look⟩ := I.loc
      obtain ⟨u0, r0, l0⟩ := look 0 _ _ hN0 hv0 (.inr (.inl hc0))
      obtain ⟨u1, r1, l1⟩ := look 1 _ _ hN1 hv1 (.inr (.inl hc1))
      have cellsOf : ∀ {n : Str} {uu : Value}, X.env.scope.names.lookup n = some .cell → Look X.env sA.heap m n uu → ∃ c, X.env.cells.lookup n = some c ∧ sB.heap.IsCell c (some uu) := fun hc hl => by
        rcases hl with ⟨z, _⟩ | ⟨_, c, z, o, ho, hd⟩
        · have z : X.env.scope.names.lookup _ = some NameKind.local := z
          rw [hc] at z; cases z
        · refine ⟨c, z, o, keep c o (fun q => ?_) ho, hd⟩
          rw [q, tP] at ho; cases ho; cases hd
      obtain ⟨cn, ecn, cell0⟩ := cellsOf hc0 l0
      obtain ⟨cp, ecp, cell1⟩ := cellsOf hc1 l1
      have hcells : ce.cells = [(("place" : Str), cp), (("notices" : Str), cn)] := by rw [hcc, hcl, ecn, ecp]; rfl
      have lkp : ce.cells.lookup ("place" : Str) = some cp := by rw [hcells]; rfl
      have lkn : ce.cells.lookup ("notices" : Str) = some cn := by rw [hcells]; rfl
      -- the values
      obtain ⟨ta, vs, rfl, hq, hl⟩ := q0
      obtain rfl : u0 = Value.ref ta := r0
      obtain ⟨tk1, rfl⟩ := r1
      obtain ⟨its, rvs, htup, hz⟩ := I.tuple (R.eG.sqT hq)
      obtain ⟨j, s1, s2, s3, s4, s5⟩ := atI_get he
      obtain ⟨w1, ew1, aw1⟩ := hl.get s2
      obtain ⟨uw, euw, ruw⟩ := rvs.get ew1
      obtain ⟨t1, m1, m2, m3, y1, rfl, tup1⟩ := row_at I R.eG aw1
      obtain rfl : uw = Value.ref t1 := ruw
      obtain ⟨t2, n1, n2, n3, y2, rfl, tup2⟩ := row_at I R.eG at1
      obtain rfl : u = Value.ref t2 := rv
      have hlen : its.length = l.length := by rw [← rvs.length, hl.length]
      have htupB := tup_keep htup tP keep
      have tup1B := tup_keep tup1 tP keep
      have tup2B := tup_keep tup2 tP keep
      -- the state
      have kinB : X.K.In sB.heap := fun q o z => keep q o (fun zz => by rw [zz, hKP] at z; cases z) (I.kIn q o z)
      have ncP : cStatics ≠ P := fun z => by
        obtain ⟨_, hns, _⟩ := I.nolimit
        obtain ⟨o', es, ep, ho', hd', _⟩ := hns
        rw [z, tP] at ho'
        cases ho'
        cases hd'
      have nlB : sB.heap.NoLimit := I.nolimit.extBut (fun q o z zz => keep q o z zz) ncP
      have gl : sB.heap.Ns ce.globals X.mg := by
        rw [hgc, I.ok.glob]
        exact (I.mod.glob.keeps I.bk).at fun o z => keep _ _ hgP z
      have hsk : ce.scope.kind = .function := by rw [hsc]; exact hk
      refine wpAny_Call_Name_kw (Calls.Name_function_global hsk (show ce.scope.names.lookup _ = _ by rw [hsc]; exact hgf) (Calls.loadGlobal_global gl hmf ?_))
      refine PySem.W.callWith_K (h₀ := X.base) I.mod.kin F.kp (Calls.spliced_cons ?_)
      have vlen : l.length ≤ sizeLine := by rw [← hl.length]; exact hz
      have e63 : (2 : Int) ^ 63 = 9223372036854775808 := rfl
      have hsl : l.length ≤ 16777216 := by rw [sizeLine_eq] at vlen; exact vlen
      refine Subscript_ (wpAny_Name (wpAny_loadName_free hsk (show ce.scope.names.lookup _ = _ by rw [hsc]; exact hnf) lkn cell0 (wpAny_Name (wpAny_loadName_free hsk (show ce.scope.names.lookup _ = _ by rw [hsc]; exact hpf) lkp cell1 ?_) (by decide))) (by decide))
      refine item_tupleL htupB (by rw [e63]; omega) (by rw [e63]; omega) (by rw [hlen]; exact s1) euw ?_
      refine Calls.spliced_cons (wpAny_Name (wpAny_loadName_local hsk (show ce.scope.names.lookup _ = _ by rw [hsc]; exact ho) hn hm ?_) (by decide))
      refine Calls.spliced_nil ⟨kinB, ?_⟩
      refine wpAny_call ?_
      show codeAny _ A' (.call (.ref fa) ⟨[.ref t1, .ref t2], []⟩) _ _
      refine GT.tog_run F hs hlo hlt hB kinB nlB (by omega) tup1B tup2B fun s' ks => ?_
      refine ⟨congrArg Value.bool ?_, ks⟩
      unfold GT.togV
      have e1 : (((⟨x.toArray⟩ : Str).cps.toList == (⟨y.toArray⟩ : Str).cps.toList) : Bool) = decide (x = y) := by
        show (x.toArray.toList == y.toArray.toList) = _
        by_cases q : x = y
        · subst q; simp
        · simp [q]
      rw [e1]
    · cases hp
  · cases hp
theorem ve_anyD {W : WX} {elt iter : Expr} {te : TE} {m : ME} {x : Str} {px q1 q2 gp : Pos} {pb : S → D → Option Bool} {c : Addr} {k : Nat} (hr : Room k X.A) (hg : Gl X "any") (hm : X.mg "any" = none) (TB : TabB X.base X.mg c P) (hP : B.Tb P) (hcode : X.env.code = .ref c) (Sc : GenS X.env scope x) (hi : VE X B W iter te m) (hel : GW.EltQD X P scope x elt (BqOf X.K B pb))
    (hfo : ∀ v, genFold iter X.env v = pure v := by intro _; rfl) (he : starEach [.GeneratorExp elt [⟨.Name x px, iter, [], 0⟩] scope gp] X.env = (false, eval (.GeneratorExp elt [⟨.Name x px, iter, [], 0⟩] scope gp) X.env) :: starEach [] X.env := by rfl) :
    VE X B W (.Call (.Name "any" q1) [.GeneratorExp elt [⟨.Name x px, iter, [], 0⟩] scope gp] [] q2) (GW.tQ X.K P (BqOf X.K B pb) anyB te) (eQ anyB pb m) := ⟨GW.pe_anyD hr hg hm TB hcode Sc hi.pe hel hfo he, sem_q hP hi.sem⟩
end
end VL
/-! sorted of a tuple, order of data -/
namespace VL
open PySem PySem.Spec PyProof.Rows L2
section
variable {X : Cx} {B : Bs} {W : WX} {K : PySem.W.Frag}
def gSortedT : List D → S → R (Ob × S) := fun l s => match l with
  | [.tup l] => if srtOk l = true then .ok (.lst (sortD l), s) else .no
  | _ => .no
theorem semC_sortedT : SemCF K B W (SD.rSDT K (D × V)) gSortedT := fun s th G σ H Q l vs R rl P => by
  cases l with
  | nil => exact P.elim
  | cons d l =>
    cases l with
    | cons _ _ => cases d <;> exact P.elim
    | nil =>
      cases d with
      | tup z =>
        obtain ⟨v, rfl, hv⟩ := rl.one_of
        simp only [gSortedT] at P
        split at P
        · rename_i ho
          unfold srtOk at ho
          simp only [Bool.and_eq_true] at ho
          obtain ⟨h1, h2, h3⟩ := ho
          obtain ⟨p, ws, rfl, hq, hr⟩ := hv
          obtain ⟨bs, rfl, rfl, hb⟩ := hr.zip
          have em : bs.map (fun b => toP b.1) = (bs.map Prod.fst).map toP := by rw [List.map_map]; rfl
          refine ⟨p, bs, Prod.snd, fun b => toP b.1, rfl, R.eG.sqT hq, fun b hm => dp_of R.eG 63 _ _ (okDs_all h1 _ (List.mem_map.mpr ⟨b, hm, rfl⟩)) (hb b hm), ?_, ?_, fun b hm => ?_, fun t ht => ?_⟩
          · rw [em]
            intro x hx y hy
            obtain ⟨x2, hx2, rfl⟩ := List.mem_map.mp hx
            obtain ⟨y2, hy2, rfl⟩ := List.mem_map.mp hy
            exact List.all_eq_true.mp (List.all_eq_true.mp h2 x2 hx2) y2 hy2
          · rw [em]; exact kind_of h3
          · exact Nat.le_trans (okD_P 63 _ (okDs_all h1 _ (List.mem_map.mpr ⟨b, hm, rfl⟩))).2 (by decide)
          · exact post_f R P (by rw [← sort_fst]; exact AtL.unzip fun b hm => hb b ((List.mergeSort_perm _ _).mem_iff.mp hm)) ht
        · exact P.elim
      | _ => exact P.elim
/-! ### order of data -/
def rDat (f : PyData → PyData → Bool) (K : PySem.W.Frag) : R2 := fun x y H Q => ∃ dx dy, Dp K H x dx ∧ Dp K H y dy ∧ PySem.W.alike dx dy = true ∧ dx ≠ .none ∧ dx.depth ≤ 63 ∧ Q (.bl (f dx dy)) H
theorem op_ltD (hu : X.A.units + 64 < cLine) : OpR X (compareOp .Lt) (rDat (fun a b => PySem.W.dataLt a b) X.K) := by
  intro pins s σ H x y v u Q I rx ry h
  obtain ⟨dx, dy, hx, hy, ha, hn, hd, q⟩ := h
  obtain ⟨as, ra⟩ := Dp.reads I dx x v hx rx
  obtain ⟨bs, rb⟩ := Dp.reads I dy y u hy ry
  exact PySem.W.lt_data ra rb ha hn (by have := Nat.min_le_left dx.depth dy.depth; omega) ⟨.bl _, H, I, rfl, q⟩
theorem op_leD (hu : X.A.units + 64 < cLine) : OpR X (compareOp .LtE) (rDat (fun a b => !PySem.W.dataLt b a) X.K) := by
  intro pins s σ H x y v u Q I rx ry h
  obtain ⟨dx, dy, hx, hy, ha, hn, hd, q⟩ := h
  obtain ⟨as, ra⟩ := Dp.reads I dx x v hx rx
  obtain ⟨bs, rb⟩ := Dp.reads I dy y u hy ry
  exact PySem.W.le_data ra rb ha hn (by have := Nat.min_le_left dx.depth dy.depth; omega) ⟨.bl _, H, I, rfl, q⟩
def gDat (f : PyData → PyData → Bool) : D → D → Option D := fun x y => if okD 63 x && (okD 63 y && (PySem.W.alike (toP x) (toP y) && !isNon x)) then some (.bl (f (toP x) (toP y))) else none
def fLtD : D → D → S → R (D × S) := fun x y s => match gDat (fun a b => PySem.W.dataLt a b) x y with
  | some d => .ok (d, s)
  | none => .no
def fLeD : D → D → S → R (D × S) := fun x y s => match gDat (fun a b => !PySem.W.dataLt b a) x y with
  | some d => .ok (d, s)
  | none => .no
theorem toP_non {d : D} {n : Nat} (h : okD n d = true) (hn : isNon d = false) : toP d ≠ .none := by
  cases d <;> first | (intro z; cases z; done) | (cases hn; done) | (simp [okD] at h; done) | (intro z; simp [toP] at z)
theorem semR_dat {f : PyData → PyData → Bool} : SemR K B W (rDat f K) (fun x y s => match gDat f x y with
  | some d => .ok (d, s)
  | none => .no) := fun s th G σ H Q x y vx vy R rx ry P => by
  dsimp only at P
  unfold gDat at P
  split at P
  · rename_i d e
    split at e
    · rename_i hh
      cases e
      simp only [Bool.and_eq_true, Bool.not_eq_true'] at hh
      obtain ⟨h1, h2, h3, h4⟩ := hh
      exact ⟨toP x, toP y, dp_of R.eG 63 _ _ h1 rx, dp_of R.eG 63 _ _ h2 ry, h3, toP_non h1 h4, (okD_P 63 _ h1).2, Post.ok (rel := relE K) P R rfl⟩
    · cases e
  · exact P.elim
theorem semR_ltD : SemR K B W (rDat (fun a b => PySem.W.dataLt a b) K) fLtD := semR_dat
theorem semR_leD : SemR K B W (rDat (fun a b => !PySem.W.dataLt b a) K) fLeD := semR_dat
end
end VL
/-! [e for x in xs if t], xs an own list that stays as it is -/
namespace VL
open PySem L2
open Classical in
noncomputable def lcLO (n : Nat) (L : List D) (g : MG) (t : MT) (e : ME) (vs : List Nat) (r0 : List (Option D)) : List D → List D → S → R (List D × S)
  | [], acc, s => .ok (acc, s)
  | d :: l, acc, s => match g d { s with r := wipeD r0 vs } with
    | .nx s1 => match t s1 with
      | .ok (b, s2) => if b = true then match e s2 with
          | .ok (y, s3) => if acc.length < SZ ∧ s3.m[n]? = some (.lst L) then lcLO n L g t e vs r0 l (acc ++ [y]) { s3 with r := r0 } else .no
          | _ => .no
        else if s2.m[n]? = some (.lst L) then lcLO n L g t e vs r0 l acc { s2 with r := r0 } else .no
      | _ => .no
    | _ => .no
noncomputable def fLcO (i : Nat) (g : MG) (t : MT) (e : ME) (vs : List Nat) : MF := fun s => match s.r[i]? with
  | some (some (.loc n)) => match s.m[n]? with
    | some (.lst L) => (lcLO n L g t e vs s.r L [] s).bind fun acc s => .ok (.lst acc, s)
    | _ => .no
  | _ => .no
section
variable {K : PySem.W.Frag} {B : Bs} {W : WX} {th th0 th1 : List Addr} {G H G0 H0 G1 H1 : Hp} {s s0 : S} {σ σ2 : St}
theorem own_it {n : Nat} {L : List D} {a : Addr} (R : Rep K B th G s σ H) (hm : s.m[n]? = some (.lst L)) (ha : th[n]? = some a) (i : Nat) : (L.length ≤ i → (Itl K a).stop i H) ∧ ∀ d, L[i]? = some d → (Itl K a).go i H ∧ ∀ x H2, (Itl K a).yld i H x H2 → H2 = H ∧ At K th G d x := by
  obtain ⟨_, vs, e, r⟩ := R.st n _ a hm ha
  have q1 : SqL K H a vs := .inl (.inl e)
  refine ⟨fun hi => ⟨vs, q1, by rw [r.length]; exact hi⟩, fun d hd => ?_⟩
  obtain ⟨v, hv, hx⟩ := r.get hd
  refine ⟨⟨vs, v, q1, hv⟩, fun x H2 y => ?_⟩
  obtain ⟨rfl, y⟩ := y
  have := y vs q1
  rw [hv] at this; cases this
  exact ⟨rfl, hx⟩
theorem sem_lcO {i0 : Nat} {g : TG} {tt : TT} {te : TE} {vs : List Nat} {mg : MG} {mt : MT} {me : ME} (hg : SemG K B Wf g mg) (ht : Sem K B Wf relT tt mt) (he : Sem K B Wf (relE K) te me) (hin : GIn g vs) (hmono : GMono g) :
    Sem K B W (relF K) (tLc (iList K (tVar i0)) g tt te vs) (fLcO i0 mg mt me vs) := fun s th G σ H Q R P => by
  unfold fLcO at P
  cases hr0 : s.r[i0]? with
  | none => rw [hr0] at P; exact P.elim
  | some od =>
    cases od with
    | none => rw [hr0] at P; exact P.elim
    | some d0 =>
      cases d0 with
      | loc n =>
        rw [hr0] at P
        dsimp only at P
        cases hm0 : s.m[n]? with
        | none => rw [hm0] at P; exact P.elim
        | some ob =>
          cases ob with
          | lst L =>
            rw [hm0] at P
            dsimp only at P
            obtain ⟨v0, hv0, a, ha, rfl⟩ := R.slot i0 _ hr0
            obtain ⟨hGa, vs0, hHa, hL0⟩ := R.st n _ a hm0 ha
            refine ⟨.ref a, hv0, a, rfl, ⟨vs0, .inl (.inl hHa)⟩, fun D hD => ?_⟩
            have hGD : G D = none := R.gnone hD
            have hTD : D ∉ th := R.thne hD
            refine ⟨fun i m H' => i ≤ L.length ∧ m = L.length - i ∧ ∃ th' G' s' acc xs, Le th G H th' G' H' ∧ Rep K B th' G' s' σ H' ∧ s'.r = s.r ∧ s'.m[n]? = some (.lst L) ∧ H' D = some (.lst xs) ∧ AtL K th' G' acc xs ∧ D ∉ th' ∧ G' D = none ∧
              Post K B W σ th G H (relF K) ((lcLO n L mg mt me vs s.r (L.drop i) acc s').bind fun acc s => .ok (.lst acc, s)) Q,
              ⟨L.length, Nat.zero_le _, rfl, th, G, s, [], [], (Le.refl _ _ _).aside hD, R.side (.lst []) hGD hTD (R.tbnew hD), rfl, hm0, upd_same, rfl, hTD, hGD, P⟩, ?_⟩
            rintro i m H2 ⟨hi, rfl, th2, G2, s2, acc, xs, l2, R2, hr, hmn, hx, hacc, hTD2, hGD2, P2⟩
            have ha2 : th2[n]? = some a := pre_get l2.pre ha
            by_cases hlt : i < L.length
            · have hdr : L.drop i = L[i] :: L.drop (i + 1) := List.drop_eq_getElem_cons hlt
              rw [hdr] at P2
              obtain ⟨_, hgo⟩ := own_it R2 hmn ha2 i
              obtain ⟨go, hy⟩ := hgo L[i] (List.getElem?_eq_getElem hlt)
              refine .inr ⟨go, fun H' => (i + 1) ≤ L.length ∧ ∃ th' G' s' acc xs, Le th G H th' G' H' ∧ Rep K B th' G' s' σ H' ∧ s'.r = s.r ∧ s'.m[n]? = some (.lst L) ∧ H' D = some (.lst xs) ∧ AtL K th' G' acc xs ∧ D ∉ th' ∧ G' D = none ∧
                Post K B W σ th G H (relF K) ((lcLO n L mg mt me vs s.r (L.drop (i + 1)) acc s').bind fun acc s => .ok (.lst acc, s)) Q, fun H' q => ⟨L.length - (i + 1), by omega, q.1, rfl, q.2⟩, fun x H3 y => ?_⟩
              obtain ⟨rfl, hxx⟩ := hy x H3 y
              have keep : ∀ {th' G' H'}, Le th2 G2 H3 th' G' H' → H' D = some (.lst xs) ∧ D ∉ th' ∧ G' D = none := fun {th' G' H'} le => by
                obtain ⟨h1, h2, h3⟩ := le.fr D _ hx hGD2 hTD2
                exact ⟨h1, h3, h2⟩
              have R3w := R2.wipe vs
              rw [hr] at R3w
              simp only [lcLO] at P2
              cases hmg : mg L[i] { s2 with r := wipeD s.r vs } with
              | nx sA =>
                rw [hmg] at P2
                dsimp only at P2
                refine hmono _ _ _ _ _ ?_ (hin _ _ _ _ (hg _ th2 G2 _ H3 L[i] x (fun σ' H' => ∃ b c, Le th2 G2 H3 b c H' ∧ Rep K B b c sA σ' H') R3w hxx (by rw [hmg]; exact fun th' G' H' σ' le R => ⟨th', G', le, R⟩)))
                rintro σ4 H4 ⟨⟨th4, G4, l4, R4⟩, hw⟩
                rw [wipe_wipe] at hw
                refine ⟨hw, ht sA th4 G4 σ4 H4 _ R4 ?_⟩
                cases hmt : mt sA with
                | ok q =>
                  obtain ⟨b, sB⟩ := q
                  rw [hmt] at P2
                  rintro th5 G5 H5 b' l5 R5 rfl
                  dsimp only at P2
                  cases b' with
                  | false =>
                    simp only [Bool.false_eq_true, if_false] at P2
                    refine iteF ?_
                    have le := l4.trans l5
                    obtain ⟨k1, k2, k3⟩ := keep le
                    by_cases hk : sB.m[n]? = some (.lst L)
                    · rw [if_pos hk] at P2
                      exact ⟨hlt, th5, G5, _, acc, xs, l2.trans le, R5.back R (l2.trans le), rfl, hk, k1, hacc.mono le.pre le.ex, k2, k3, P2⟩
                    · rw [if_neg hk] at P2; exact P2.elim
                  | true =>
                    refine iteT (he sB th5 G5 σ4 H5 _ R5 ?_)
                    simp only [if_true] at P2
                    cases hme : me sB with
                    | ok q =>
                      obtain ⟨y, sC⟩ := q
                      rw [hme] at P2
                      dsimp only at P2
                      by_cases hz : acc.length < SZ ∧ sC.m[n]? = some (.lst L)
                      · rw [if_pos hz] at P2
                        intro th6 G6 H6 v l6 R6 hv
                        have le := l4.trans (l5.trans l6)
                        obtain ⟨k1, k2, k3⟩ := keep le
                        have hacc' := hacc.mono le.pre le.ex
                        refine ⟨xs, k1, by rw [hacc'.length, SZ_eq]; exact hz.1, hlt, th6, G6, { r := s.r, m := sC.m }, acc ++ [y], xs ++ [v], ?_, ?_, rfl, hz.2, upd_same, hacc'.append (.one hv), k2, k3, P2⟩
                        · exact (l2.trans le).aside hD
                        · exact (R6.back R (l2.trans le)).side _ k3 k2 (R6.tbne k1 fun _ z => nomatch z)
                      · rw [if_neg hz] at P2; exact P2.elim
                    | _ => rw [hme] at P2; exact P2.elim
                | _ => rw [hmt] at P2; exact P2.elim
              | _ => rw [hmg] at P2; exact P2.elim
            · have e : i = L.length := by omega
              subst e
              rw [List.drop_length] at P2
              refine .inl ⟨(own_it R2 hmn ha2 _).1 (Nat.le_refl _), ?_⟩
              exact P2 th2 G2 H2 (.ref D) l2 R2 ⟨D, rfl, (fun z => nomatch z), ⟨hGD2, xs, hx, hacc⟩, hTD2, hD⟩
          | _ => rw [hm0] at P; exact P.elim
      | _ => rw [hr0] at P; exact P.elim
end
section
variable {X : Cx} {B : Bs} {W : WX} {tt : TT} {mt : MT} {elt tg : Expr} {ifs : List Expr} {scope : Scope} {own : List (Str × Nat)} {pos py spos : Pos} {g : TG} {te : TE} {mg : MG} {me : ME} {x y : Str}
theorem vf_lcO (i : Nat) (hc : X.calm = true) (hN : X.N.Nodup) (ok : BlkOk X.N X.env.scope scope own)
    (hg : ∀ (s : Shared) (H : Hp) (C : Addr) (cl : List (Str × Addr)) (fp : List Addr), VG (X.blk s H scope (compEnvC scope cl C X.env) fp) B Wf tg g mg) (hin : GIn g (own.map (·.2))) (hmono : GMono g)
    (ht : ∀ (s : Shared) (H : Hp) (C : Addr) (cl : List (Str × Addr)) (fp : List Addr), VTs (X.blk s H scope (compEnvC scope cl C X.env) fp) B Wf ifs tt mt)
    (he : ∀ (s : Shared) (H : Hp) (C : Addr) (cl : List (Str × Addr)) (fp : List Addr), VE (X.blk s H scope (compEnvC scope cl C X.env) fp) B Wf elt te me) (s0 : Shared) (hi : X.N[i]? = some x := by rfl) (hv : Vis X.env.scope x := by first | exact Or.inl rfl | exact Or.inr (Or.inl rfl) | exact Or.inr (Or.inr rfl)) (hd : (x == ("__debug__" : Str)) = false := by decide)
    (hcd : (x == ("__classdict__" : Str)) = false := by decide) (hs : ∀ z, foldedSetIterable (.Name x py) X.env z = pure z := by intro _; rfl) :
    VF X B W (.ListComp elt [⟨tg, .Name x py, ifs, 0⟩] scope pos) (tLc (iList X.K (tVar i)) g tt te (own.map (·.2))) (fLcO i mg mt me (own.map (·.2))) :=
  ⟨pe_lc hc hN (pi_list (pv i hi hv hd hcd)) ok (fun s H C cl fp => (hg s H C cl fp).pg) (fun s H C cl fp => (ht s H C cl fp).pt) (fun s H C cl fp => (he s H C cl fp).pe) hs,
    sem_lcO (hg s0 (fun _ => none) 0 [] []).sem (ht s0 (fun _ => none) 0 [] []).sem (he s0 (fun _ => none) 0 [] []).sem hin hmono⟩
theorem vs_setLcO (j i : Nat) {ef : MF → ME} (hef : ∀ {X : Cx} {e : Expr} {t : TE} {mf : MF}, VF X B W e t mf → VE X B W e t (ef mf)) (hc : X.calm = true) (hN : X.N.Nodup) (ok : BlkOk X.N X.env.scope scope own)
    (hg : ∀ (s : Shared) (H : Hp) (C : Addr) (cl : List (Str × Addr)) (fp : List Addr), VG (X.blk s H scope (compEnvC scope cl C X.env) fp) B Wf tg g mg) (hin : GIn g (own.map (·.2))) (hmono : GMono g)
    (ht : ∀ (s : Shared) (H : Hp) (C : Addr) (cl : List (Str × Addr)) (fp : List Addr), VTs (X.blk s H scope (compEnvC scope cl C X.env) fp) B Wf ifs tt mt)
    (he : ∀ (s : Shared) (H : Hp) (C : Addr) (cl : List (Str × Addr)) (fp : List Addr), VE (X.blk s H scope (compEnvC scope cl C X.env) fp) B Wf elt te me) (s0 : Shared) {px : Pos}
    (hi : X.N[i]? = some x := by rfl) (hv : Vis X.env.scope x := by first | exact Or.inl rfl | exact Or.inr (Or.inl rfl) | exact Or.inr (Or.inr rfl)) (hd : (x == ("__debug__" : Str)) = false := by decide) (hcd : (x == ("__classdict__" : Str)) = false := by decide)
    (hy : X.N[j]? = some y := by rfl) (hyl : X.env.scope.names.lookup y = some .local := by rfl) (hsw : swapsWith (.ListComp elt [⟨tg, .Name x px, ifs, 0⟩] scope pos) (some (.Name y py)) spos.line X.env = pure true := by rfl)
    (hs : ∀ z, foldedSetIterable (.Name x px) X.env z = pure z := by intro _; rfl) :
    VS X B W (.Assign [.Name y py] (.ListComp elt [⟨tg, .Name x px, ifs, 0⟩] scope pos) spos) (tAsg (tLc (iList X.K (tVar i)) g tt te (own.map (·.2))) (gName j)) (sAsg (ef (fLcO i mg mt me (own.map (·.2)))) (gN j)) :=
  ⟨ps_setLc hc hN hy hyl hsw (pi_list (pv i hi hv hd hcd)) ok (fun s H C cl fp => (hg s H C cl fp).pg) (fun s H C cl fp => (ht s H C cl fp).pt) (fun s H C cl fp => (he s H C cl fp).pe) hs,
    fun s th G σ H Dn R P => (hef (vf_lcO (pos := pos) i hc hN ok hg hin hmono ht he s0 hi hv hd hcd hs)).sem s th G σ H _ R (P.to fun d s' th' G' H' v l R' r P' => P'.nx0 (R'.sets r))⟩
end
end VL

namespace VL
open PySem PySem.Spec PyProof.Rows L2 GxR
theorem gen_sc2 {env : Env} {scope : Scope} {x : Str} (hk : scope.kind = .function) (hc : scope.isCoroutine = false) (cell : scope.names.all (fun y => decide (y.2 ≠ .cell)) = true) (dot : scope.names.lookup (".0" : Str) = some NameKind.local)
    (loc : scope.names.lookup x = some .local) (fr : scope.names.all (fun y => decide (y.2 ≠ .free) || (env.cells.lookup y.1).isSome) = true) : GxR.GenS env scope x :=
  ⟨hk, hc, fun y hy => of_decide_eq_true (List.all_eq_true.mp cell y hy), dot, loc, fun y hy e => by
    have := List.all_eq_true.mp fr y hy
    rw [Bool.or_eq_true] at this
    rcases this with h | h
    · exact absurd e (of_decide_eq_true h)
    · exact Option.isSome_iff_exists.mp h⟩
theorem room1 {k : Nat} {A} (hr : Room k A) : A.depth + 1 < recursionLimit := by have := hr.dp; omega
end VL
/-! running the mirrors by simp; loops; data of ints -/
namespace VL
open PySem L2

section
variable {s : S} {r : List (Option D)} {m : List Ob} {d x y : D} {f : D → D → S → R (D × S)} {a b c e : ME} {A : MA} {t u : MT} {g : MG} {p q : MS} {i j : Nat}
@[simp] theorem x_eV : eV i s = (match s.r[i]? with | some (some d) => .ok (d, s) | _ => .no) := id rfl
@[simp] theorem x_eC : eC d s = .ok (d, s) := id rfl
@[simp] theorem x_eOp : eOp f a b s = (a s).bind fun x s => (b s).bind fun y s => f x y s := id rfl
@[simp] theorem x_aNil : aNil s = .ok ([], s) := id rfl
@[simp] theorem x_aCons : aCons a A s = (a s).bind fun x s => (A s).bind fun l s => .ok (x :: l, s) := id rfl
@[simp] theorem x_eCB {F : List D → S → R (D × S)} : eCB F A s = (A s).bind fun l s => F l s := id rfl
@[simp] theorem x_fCB {F : List D → S → R (Ob × S)} : fCB F A s = (A s).bind fun l s => F l s := id rfl
@[simp] theorem x_eCall {F : List D → PR} : eCall F A s = (A s).bind fun ds s => if noLocs ds = true then (match F ds with | .ok d => .ok (d, s) | .ex e => .ex e s | .no => .no) else .no := id rfl
@[simp] theorem x_eTup : eTup A s = (A s).bind fun l s => if l.length ≤ SZ then .ok (.tup l, s) else .no := id rfl
@[simp] theorem x_fLst : fLst A s = (A s).bind fun l s => if l.length ≤ SZ then .ok (.lst l, s) else .no := id rfl
@[simp] theorem x_eFrz {F : MF} : eFrz F s = (F s).bind fun o s => (match o with | .lst l => .ok (.lst l, s) | .dct l => .ok (.dct (l.map (·.1)) (l.map (·.2)), s) | _ => .no) := id rfl
@[simp] theorem x_eOwn {F : MF} : eOwn F s = (F s).bind fun o s => .ok (.loc s.m.length, { s with m := s.m ++ [o] }) := id rfl
@[simp] theorem x_eIf : eIf t a b s = (t s).bind fun x s => if x = true then a s else b s := id rfl
@[simp] theorem x_eAndV : eAndV a b s = (a s).bind fun x s => (match x with | .bl true => b s | .bl false => .ok (.bl false, s) | _ => .no) := id rfl
@[simp] theorem x_eOrV : eOrV a b s = (a s).bind fun x s => (match x with | .bl true => .ok (.bl true, s) | .bl false => b s | _ => .no) := id rfl
@[simp] theorem x_eNotV : eNotV a s = (a s).bind fun x s => (match x with | .bl b => .ok (.bl (!b), s) | _ => .no) := id rfl
@[simp] theorem x_tBl : tBl a s = (a s).bind fun d s => (match d with | .bl b => .ok (b, s) | _ => .no) := id rfl
@[simp] theorem x_tTruN : tTruN a s = (a s).bind fun d s => (match d with | .dct _ _ => .no | d => match truD s d with | some b => .ok (b, s) | none => .no) := id rfl
@[simp] theorem x_tAndM : tAndM t u s = (t s).bind fun x s => if x = true then u s else .ok (false, s) := id rfl
@[simp] theorem x_tOrM : tOrM t u s = (t s).bind fun x s => if x = true then .ok (true, s) else u s := id rfl
@[simp] theorem x_tNotM : tNotM t s = (t s).bind fun x s => .ok (!x, s) := id rfl
@[simp] theorem x_tYesM : tYesM s = .ok (true, s) := id rfl
@[simp] theorem x_eChain {F G : D → D → S → R (D × S)} : eChain F G a b c s = (a s).bind fun x s => (b s).bind fun y s => (F x y s).bind fun z s => (match z with | .bl true => (c s).bind fun w s => G y w s | .bl false => .ok (.bl false, s) | _ => .no) := id rfl
@[simp] theorem x_eCut {lo hi : S → R (Option Int × S)} : eCut a lo hi s = (a s).bind fun x s => (lo s).bind fun i s => (hi s).bind fun j s => fCut x i j s := id rfl
@[simp] theorem x_oNone : oNone s = .ok (none, s) := id rfl
@[simp] theorem x_oSome : oSome a s = (a s).bind fun d s => (match d with | .int i => .ok (some i, s) | _ => .no) := id rfl
@[simp] theorem x_sSeq : sSeq p q s = (p s).seq q := id rfl
@[simp] theorem x_sNil : sNil s = .nx s := id rfl
@[simp] theorem x_sRet : sRet a s = (a s).to fun d s => .rt d s := id rfl
@[simp] theorem x_sRetN : sRetN s = .rt .non s := id rfl
@[simp] theorem x_sBk : sBk s = .bk s := id rfl
@[simp] theorem x_sCt : sCt s = .ct s := id rfl
@[simp] theorem x_sDrop : sDrop a s = (a s).to fun _ s => .nx s := id rfl
@[simp] theorem x_sIf : sIf t p q s = (t s).to fun x s => if x = true then p s else q s := id rfl
@[simp] theorem x_gN : gN i d s = .nx { s with r := s.r.set i (some d) } := id rfl
@[simp] theorem x_sAsg : sAsg a g s = (a s).to fun d s => g d s := id rfl
@[simp] theorem x_gTupM {G : List D → S → C} {l : List D} : gTupM G (.tup l) s = G l s := id rfl
@[simp] theorem x_gsNil : gsNil [] s = .nx s := id rfl
@[simp] theorem x_gsCons {G : List D → S → C} {l : List D} : gsCons g G (d :: l) s = (g d s).seq fun s => G l s := id rfl
@[simp] theorem x_sFor {it : MA} : sFor it g p s = (it s).to fun l s => forL g p l s := id rfl
@[simp] theorem x_sForD {w : List Key → List D → List D} : sForD w i g p s = (eTake i s).to fun d s => (match d with | .dct ks l => forL g p (w ks l) s | _ => .no) := id rfl
@[simp] theorem x_iSeqM : iSeqM a s = (a s).bind fun d s => (match itD d with | some l => .ok (l, s) | none => .no) := id rfl
@[simp] theorem x_iRg1M : iRg1M A s = (A s).bind fun l s => (match l with | [.int j] => if okR j then .ok (rng 0 j.toNat, s) else .no | _ => .no) := id rfl
@[simp] theorem x_iRg2M : iRg2M A s = (A s).bind fun l s => (match l with | [.int i, .int j] => if okR i && okR j then .ok (rng i (j - i).toNat, s) else .no | _ => .no) := id rfl
@[simp] theorem x_iZipM : iZipM A s = (A s).bind fun l s => (match l with
  | [x, y] => match x, y with
    | .tup l, .tup m => .ok (pairs l m, s)
    | .lst l, .lst m => .ok (pairs l m, s)
    | _, _ => .no
  | _ => .no) := id rfl
@[simp] theorem x_fLc {it : MA} {vs : List Nat} : fLc it g t e vs s = (it s).bind fun l s => (lcL g t e vs s.r l [] s).bind fun acc s => .ok (.lst acc, s) := id rfl
@[simp] theorem x_eGet2 : eGet2 a b c s = (a s).bind fun d s => if isDct s d = true then (b s).bind fun k s => (c s).bind fun x s => fGet2 d k x s else .no := id rfl
@[simp] theorem x_gSet : gSet a b d s = (match a s with | .ok (o, s) => (match b s with | .ok (i, s) => fSet o i d s | _ => .no) | _ => .no) := id rfl
@[simp] theorem x_eLM {F : List D → List D → Option (D × List D)} : eLM F a A s = (a s).bind fun d s => (match d with
  | .loc n => match s.m[n]? with
    | some (.lst _) => (A s).bind fun as s => match s.m[n]? with
      | some (.lst l) => match F l as with
        | some (y, l') => .ok (y, { s with m := s.m.set n (.lst l') })
        | none => .no
      | _ => .no
    | _ => .no
  | _ => .no) := id rfl
@[simp] theorem x_eTake : eTake i s = (match s.r[i]? with
  | some (some (.loc n)) => match s.m[n]? with
    | some (.lst l) => .ok (.lst l, { r := s.r.set i (some (.lst l)), m := s.m.set n .dead })
    | some (.dct l) => .ok (.dct (l.map (·.1)) (l.map (·.2)), { r := s.r.set i (some (.dct (l.map (·.1)) (l.map (·.2)))), m := s.m.set n .dead })
    | _ => .no
  | some (some d) => .ok (d, s)
  | _ => .no) := id rfl
@[simp] theorem x_fP {G : D → D → Option D} : fP G x y s = (match G x y with | some d => .ok (d, s) | none => .no) := id rfl
@[simp] theorem x_gI {C : Int → Int → Bool} {G : Int → Int → D} {i j : Int} : gI C G (.int i) (.int j) = if C i j then some (G i j) else none := id rfl
@[simp] theorem x_gCmp {P : Int → Int → Bool} {Q : List Nat → List Nat → Bool} {i j : Int} : gCmp P Q (.int i) (.int j) = some (.bl (P i j)) := id rfl
@[simp] theorem x_fAddI {i j : Int} : fAdd (.int i) (.int j) s = .ok (.int (i + j), s) := id rfl
@[simp] theorem x_fAddT {l k : List D} : fAdd (.tup l) (.tup k) s = if l.length + k.length ≤ SZ then .ok (.tup (l ++ k), s) else .no := id rfl
@[simp] theorem x_fAddL {l k : List D} : fAdd (.lst l) (.lst k) s = if l.length + k.length ≤ SZ then .ok (.lst (l ++ k), s) else .no := id rfl
@[simp] theorem x_c1 {G : S → D → Option D} : c1 G [d] s = (match G s d with | some z => .ok (z, s) | none => .no) := id rfl
@[simp] theorem x_cLen : cLen [d] s = (match lenD s d with | some n => .ok (.int n, s) | none => .no) := id rfl
@[simp] theorem x_lenT {l : List D} : lenD s (.tup l) = some l.length := id rfl
@[simp] theorem x_lenL {l : List D} : lenD s (.lst l) = some l.length := id rfl
@[simp] theorem x_lenS {l : List Int} : lenD s (.scr l) = some l.length := by show some (l.map D.int).length = _; simp
@[simp] theorem x_seqT {l : List D} : seqOf s (.tup l) = some l := id rfl
@[simp] theorem x_seqL {l : List D} : seqOf s (.lst l) = some l := id rfl
@[simp] theorem x_seqS {l : List Int} : seqOf s (.scr l) = some (l.map D.int) := id rfl
@[simp] theorem x_lstL {l : List D} : lstOf s (.lst l) = some l := id rfl
@[simp] theorem x_itL {l : List D} : itD (.lst l) = some l := id rfl
@[simp] theorem x_itT {l : List D} : itD (.tup l) = some l := id rfl
@[simp] theorem x_gAbs {i : Int} : gAbs s (.int i) = some (.int (if i < 0 then -i else i)) := id rfl
@[simp] theorem x_gInt {i : Int} : gInt s (.int i) = some (.int i) := id rfl
@[simp] theorem x_gTupleT {l : List D} : gTuple s (.tup l) = some (.tup l) := id rfl
@[simp] theorem x_gTupleL {l : List D} : gTuple s (.lst l) = some (.tup l) := id rfl
@[simp] theorem x_gListT {l : List D} : gList [.tup l] s = .ok (.lst l, s) := id rfl
@[simp] theorem x_gListL {l : List D} : gList [.lst l] s = .ok (.lst l, s) := id rfl
@[simp] theorem x_truB {b : Bool} : truD s (.bl b) = some b := id rfl
@[simp] theorem x_truI {i : Int} : truD s (.int i) = some (i != 0) := id rfl
@[simp] theorem x_fIs : fIs x .non s = .ok (.bl (isNon x), s) := id rfl
@[simp] theorem x_fIsn : fIsn x .non s = .ok (.bl (!isNon x), s) := id rfl
@[simp] theorem x_lmApp {l : List D} : lmApp l [y] = if l.length < SZ then some (.non, l ++ [y]) else none := id rfl
@[simp] theorem x_noLocs0 : noLocs [] = true := id rfl
@[simp] theorem x_noLocs {l : List D} : noLocs (d :: l) = (noLoc d && noLocs l) := id rfl
@[simp] theorem x_noLocI {i : Int} : noLoc (.int i) = true := id rfl
@[simp] theorem x_noLocB {b : Bool} : noLoc (.bl b) = true := id rfl
@[simp] theorem x_noLocN : noLoc .non = true := id rfl
@[simp] theorem x_noLocX {z : List Nat} : noLoc (.str z) = true := id rfl
@[simp] theorem x_noLocS {l : List Int} : noLoc (.scr l) = true := id rfl
@[simp] theorem x_noLocT {l : List D} : noLoc (.tup l) = noLocs l := id rfl
@[simp] theorem x_noLocL {l : List D} : noLoc (.lst l) = noLocs l := id rfl
@[simp] theorem x_okR {i : Int} : okR i = decide (-(2 ^ 62) ≤ i ∧ i < 2 ^ 62) := id rfl
theorem x_mulOk {i j : Int} : mulOk i j = (decide (-18446744073709551616 < i ∧ i < 18446744073709551616) || decide (-18446744073709551616 < j ∧ j < 18446744073709551616)) := rfl
@[simp] theorem mulOk_r {i j : Int} (h1 : -18446744073709551616 < j) (h2 : j < 18446744073709551616) : mulOk i j = true := by
  simp only [x_mulOk, Bool.or_eq_true, decide_eq_true_eq]; exact .inr ⟨h1, h2⟩
@[simp] theorem mulOk_l {i j : Int} (h1 : -18446744073709551616 < i) (h2 : i < 18446744073709551616) : mulOk i j = true := by
  simp only [x_mulOk, Bool.or_eq_true, decide_eq_true_eq]; exact .inl ⟨h1, h2⟩
@[simp] theorem x_isNonN : isNon .non = true := id rfl
@[simp] theorem x_isNonT {l : List D} : isNon (.tup l) = false := id rfl
@[simp] theorem x_isNonI {i : Int} : isNon (.int i) = false := id rfl
end
@[simp] theorem x_startD {n : Nat} {ds : List D} : startD n ds = ds.map some ++ List.replicate (n - ds.length) none := id rfl
@[simp] theorem x_pureOf {n np : Nat} {m : MS} {ds : List D} : pureOf n np m ds = if ds.length = np then (match m ⟨startD n ds, []⟩ with
    | .rt d _ => if noLoc d = true then .ok d else .no
    | .nx _ => .ok .non
    | .ex e _ => if noLocs (e.fs.map (·.2)) = true then .ex e else .no
    | _ => .no)
  else .no := id rfl
theorem pure_rt {n np : Nat} {m : MS} {ds : List D} {d : D} (h : ds.length = np) (hm : ∃ s, m ⟨startD n ds, []⟩ = .rt d s) (hn : noLoc d = true) : pureOf n np m ds = .ok d := by
  obtain ⟨s, hm⟩ := hm
  rw [x_pureOf, if_pos h, hm]
  exact if_pos hn
theorem pure_nx {n np : Nat} {m : MS} {ds : List D} (h : ds.length = np) (hm : ∃ s, m ⟨startD n ds, []⟩ = .nx s) : pureOf n np m ds = .ok .non := by
  obtain ⟨s, hm⟩ := hm
  rw [x_pureOf, if_pos h, hm]
@[simp] theorem x_fDctN {s : S} : fDctN s = .ok (.dct [], s) := id rfl
@[simp] theorem x_fDct1 {k v : ME} {s : S} : fDct1 k v s = (k s).bind fun x s => (v s).bind fun y s => (match keyOf x with | some k => .ok (.dct [(k, y)], s) | none => .no) := id rfl
@[simp] theorem x_keyI {i : Int} : keyOf (.int i) = some (.inl i) := id rfl
@[simp] theorem x_fGet2 {s : S} {d k x : D} : fGet2 d k x s = (match dctOf s d, keyOf k with | some l, some k => .ok ((valD l k).getD x, s) | _, _ => .no) := id rfl
@[simp] theorem x_isDct {s : S} {d : D} : isDct s d = (dctOf s d).isSome := id rfl
theorem SZv : SZ = 16777216 := rfl

/-! ### data of ints -/
def iL (l : List Int) : List D := l.map D.int
@[simp] theorem iL_nil : iL [] = [] := rfl
@[simp] theorem iL_cons (a : Int) (l : List Int) : iL (a :: l) = .int a :: iL l := rfl
theorem iL_app (l k : List Int) : iL (l ++ k) = iL l ++ iL k := List.map_append
@[simp] theorem iL_snoc (l : List Int) (a : Int) : iL l ++ [.int a] = iL (l ++ [a]) := by rw [iL_app]; rfl
@[simp] theorem iL_iL (l k : List Int) : iL l ++ iL k = iL (l ++ k) := (iL_app l k).symm
@[simp] theorem iL_len (l : List Int) : (iL l).length = l.length := by simp [iL]
theorem iL_get {l : List Int} {k : Nat} (h : k < (iL l).length) : (iL l)[k] = .int (l[k]'(by simpa using h)) := by simp [iL]
theorem iL_take (l : List Int) (k : Nat) : (iL l).take k = iL (l.take k) := by simp [iL, List.map_take]
theorem iL_drop (l : List Int) (k : Nat) : (iL l).drop k = iL (l.drop k) := by simp [iL, List.map_drop]
theorem iL_inj : ∀ {l k : List Int}, iL l = iL k → l = k
  | [], [], _ => rfl
  | [], _ :: _, h => by cases h
  | _ :: _, [], h => by cases h
  | a :: l, b :: k, h => by
    simp only [iL_cons, List.cons.injEq, D.int.injEq] at h
    rw [h.1, iL_inj h.2]
@[simp] theorem noLocs_iL (l : List Int) : noLocs (iL l) = true := by induction l with | nil => rfl | cons a l ih => simpa using ih
theorem noLocs_all {l : List D} (h : ∀ d ∈ l, noLoc d = true) : noLocs l = true := by
  induction l with
  | nil => rfl
  | cons a l ih =>
    rw [x_noLocs, h a (by simp), ih fun d hd => h d (by simp [hd])]; rfl
theorem noLocs_app (l k : List D) : noLocs (l ++ k) = (noLocs l && noLocs k) := by
  induction l with
  | nil => rfl
  | cons a l ih => simp [ih, Bool.and_assoc]
@[simp] theorem intsD_iL (l : List Int) : intsD (iL l) = some l := by
  induction l with
  | nil => rfl
  | cons a l ih => simp [intsD, ih]
@[simp] theorem gSum_iL {s : S} (l : List Int) : gSum s (.lst (iL l)) = some (.int l.sum) := by simp [gSum]
@[simp] theorem okDs_iL (n : Nat) (l : List Int) : okDs n (iL l) = true := by
  induction l with
  | nil => simp [okDs]
  | cons a l ih => simp only [iL_cons, okDs, okD, Bool.true_and]; exact ih
@[simp] theorem eqDs_iL : ∀ (l k : List Int), eqDs (iL l) (iL k) = decide (l = k)
  | [], [] => rfl
  | [], _ :: _ => rfl
  | _ :: _, [] => rfl
  | a :: l, b :: k => by
    have ih := eqDs_iL l k
    simp only [iL_cons, eqDs, eqD, ih]
    by_cases h : a = b <;> simp [h]
@[simp] theorem fEqI {s : S} {i j : Int} : fEq (.int i) (.int j) s = .ok (.bl (decide (i = j)), s) := rfl
@[simp] theorem fNeI {s : S} {i j : Int} : fNe (.int i) (.int j) s = .ok (.bl (!decide (i = j)), s) := rfl
@[simp] theorem fNeB {s : S} {i j : Bool} : fNe (.bl i) (.bl j) s = .ok (.bl (!(i == j)), s) := rfl
@[simp] theorem fEqB {s : S} {i j : Bool} : fEq (.bl i) (.bl j) s = .ok (.bl (i == j), s) := rfl
@[simp] theorem fEqT {s : S} {l k : List Int} : fEq (.tup (iL l)) (.tup (iL k)) s = .ok (.bl (decide (l = k)), s) := by simp [fEq, qEq, peek, okD, eqD]
@[simp] theorem fNeT {s : S} {l k : List Int} : fNe (.tup (iL l)) (.tup (iL k)) s = .ok (.bl (!decide (l = k)), s) := by simp [fNe, qEq, peek, okD, eqD]
@[simp] theorem fEqL {s : S} {l k : List Int} : fEq (.lst (iL l)) (.lst (iL k)) s = .ok (.bl (decide (l = k)), s) := by simp [fEq, qEq, peek, okD, eqD]
@[simp] theorem fNeL {s : S} {l k : List Int} : fNe (.lst (iL l)) (.lst (iL k)) s = .ok (.bl (!decide (l = k)), s) := by simp [fNe, qEq, peek, okD, eqD]
@[simp] theorem x_fMul {s : S} {i j : Int} : fMul (.int i) (.int j) s = if mulOk i j then .ok (.int (i * j), s) else .no := by
  simp only [fMul, x_fP, x_gI]
  split <;> simp_all
theorem rng_iL (lo : Int) (n : Nat) : rng lo n = iL ((List.range n).map fun i => lo + (i : Nat)) := by simp [rng, iL, Function.comp_def]
theorem scr_iL (l : List Int) : l.map D.int = iL l := rfl
theorem ixN_nat {n k : Nat} (h : k < n) : ixN n (k : Int) = some k := by
  unfold ixN
  rw [if_pos (by omega), if_pos (by omega)]
  simp
theorem atI_nat {α : Type} {l : List α} {k : Nat} (h : k < l.length) : L2.atI l (k : Int) = some l[k] := by
  unfold L2.atI
  rw [ixN_nat h]
  simp [h]
theorem fIx_seq {s : S} {x : D} {l : List D} {k : Nat} (hx : seqOf s x = some l) (h : k < l.length) : fIx x (.int (k : Int)) s = .ok (l[k], s) := by
  have hs : ∀ z, x ≠ .str z := fun z e => by rw [e] at hx; cases hx
  unfold fIx
  split
  · exact absurd rfl (hs _)
  · rw [hx]
    dsimp only
    rw [atI_nat h]
theorem fIxT {s : S} {l : List D} {k : Nat} (h : k < l.length) : fIx (.tup l) (.int (k : Int)) s = .ok (l[k], s) := fIx_seq rfl h
theorem fIxL {s : S} {l : List D} {k : Nat} (h : k < l.length) : fIx (.lst l) (.int (k : Int)) s = .ok (l[k], s) := fIx_seq rfl h
theorem cut_take {α : Type} (l : List α) (k : Nat) : cut l none (some (k : Int)) = l.take k := by
  unfold cut
  rw [HT.sIx_none, HT.sIx_nat]
  simp [List.take_eq_take_iff]
theorem cut_drop {α : Type} (l : List α) (k : Nat) : cut l (some (k : Int)) none = l.drop k := by
  unfold cut
  rw [HT.sIx_none, HT.sIx_nat]
  by_cases h : k ≤ l.length
  · rw [Nat.min_eq_left h]
    apply List.take_of_length_le
    simp
  · rw [List.drop_of_length_le (by omega), List.drop_of_length_le (by omega)]; simp

@[simp] theorem x_eQ {s : S} {f : List Bool → Bool} {pb : S → D → Option Bool} {it : ME} : eQ f pb it s = (it s).bind fun d s => (match seqOf s d with
  | some l => match testL pb s l with
    | some bs => .ok (.bl (f bs), s)
    | none => .no
  | none => .no) := id rfl
@[simp] theorem testL_range {s : S} {i j : Int} : ∀ l : List Int, testL (pbRange i j) s (iL l) = some (l.map fun z => decide (i ≤ z) && decide (z < j))
  | [] => rfl
  | a :: l => by simp only [iL_cons, testL, pbRange, testL_range l]; rfl
@[simp] theorem x_eIsi {s : S} {T : String} {a : ME} : eIsi T a s = (a s).bind fun d s => (match tyD d with
  | some t => match kitB t T with
    | some b => .ok (.bl b, s)
    | none => .no
  | none => .no) := id rfl
@[simp] theorem x_tyI {i : Int} : tyD (.int i) = some "int" := id rfl
@[simp] theorem x_tyB {i : Bool} : tyD (.bl i) = some "bool" := id rfl
@[simp] theorem x_tyT {i : List D} : tyD (.tup i) = some "tuple" := id rfl
@[simp] theorem x_tyL {i : List D} : tyD (.lst i) = some "list" := id rfl
@[simp] theorem x_tyS {i : List Nat} : tyD (.str i) = some "str" := id rfl
@[simp] theorem x_tyN : tyD .non = some "NoneType" := id rfl
@[simp] theorem kit_ii : kitB "int" "int" = some true := by decide +kernel
@[simp] theorem kit_ib : kitB "int" "bool" = some false := by decide +kernel
@[simp] theorem kit_bb : kitB "bool" "bool" = some true := by decide +kernel
@[simp] theorem kit_bi : kitB "bool" "int" = some true := by decide +kernel
@[simp] theorem kit_tt : kitB "tuple" "tuple" = some true := by decide +kernel
@[simp] theorem kit_ti : kitB "tuple" "int" = some false := by decide +kernel
@[simp] theorem kit_tb : kitB "tuple" "bool" = some false := by decide +kernel
@[simp] theorem kit_ts : kitB "tuple" "str" = some false := by decide +kernel
@[simp] theorem kit_ss : kitB "str" "str" = some true := by decide +kernel
@[simp] theorem kit_si : kitB "str" "int" = some false := by decide +kernel
@[simp] theorem kit_sb : kitB "str" "bool" = some false := by decide +kernel
@[simp] theorem kit_st : kitB "str" "tuple" = some false := by decide +kernel
@[simp] theorem kit_is : kitB "int" "str" = some false := by decide +kernel
@[simp] theorem kit_it : kitB "int" "tuple" = some false := by decide +kernel
@[simp] theorem kit_bs : kitB "bool" "str" = some false := by decide +kernel
@[simp] theorem kit_bt : kitB "bool" "tuple" = some false := by decide +kernel
@[simp] theorem kit_nt : kitB "NoneType" "tuple" = some false := by decide +kernel
@[simp] theorem kit_ni : kitB "NoneType" "int" = some false := by decide +kernel
@[simp] theorem kit_ns : kitB "NoneType" "str" = some false := by decide +kernel
@[simp] theorem kit_nb : kitB "NoneType" "bool" = some false := by decide +kernel
@[simp] theorem x_gAllL {s : S} {f : List Bool → Bool} {l : List D} : gAllL f s (.lst l) = (match blsD l with | some bs => some (.bl (f bs)) | none => none) := id rfl
theorem blsD_map : ∀ (bs : List Bool), blsD (bs.map D.bl) = some bs
  | [] => rfl
  | b :: bs => by simp [blsD, blsD_map bs]

/-! ### loops -/
theorem forL_cons {g : MG} {b : MS} {d : D} {l : List D} {s : S} : forL g b (d :: l) s = (g d s).seq fun s => (b s).loop fun s => forL g b l s := id rfl
theorem forL_nil {g : MG} {b : MS} {s : S} : forL g b [] s = .nx s := id rfl
theorem forL_inv {g : MG} {b : MS} (I : Nat → S → Prop) : ∀ (l : List D) (n : Nat) (s : S), I n s → (∀ i d s, l[i]? = some d → I (n + i) s → ∃ s1, g d s = .nx s1 ∧ ∃ s', (b s1 = .nx s' ∨ b s1 = .ct s') ∧ I (n + i + 1) s') → ∃ s', forL g b l s = .nx s' ∧ I (n + l.length) s'
  | [], n, s, h, _ => ⟨s, rfl, h⟩
  | d :: l, n, s, h, st => by
    obtain ⟨s1, e1, s', e, h'⟩ := st 0 d s rfl h
    obtain ⟨s2, e2, h2⟩ := forL_inv I l (n + 1) s' h' fun i d s hd hi => by
      have := st (i + 1) d s (by simpa using hd) (by rw [show n + (i + 1) = n + 1 + i by omega]; exact hi)
      rw [show n + (i + 1) + 1 = n + 1 + i + 1 by omega] at this
      exact this
    refine ⟨s2, ?_, by rw [List.length_cons, show n + (l.length + 1) = n + 1 + l.length by omega]; exact h2⟩
    rw [← e2]
    simp only [forL, e1, C.seq_nx]
    rcases e with e | e <;> rw [e] <;> rfl
theorem lcL_pure {g : MG} {t : MT} {e : ME} {vs : List Nat} {r0 : List (Option D)} {m : List Ob} (p : D → Bool) (F : D → D) : ∀ (l acc : List D), acc.length + l.length ≤ SZ →
    (∀ d ∈ l, ∃ s1, g d ⟨wipeD r0 vs, m⟩ = .nx s1 ∧ ∃ s2, t s1 = .ok (p d, s2) ∧ (p d = true → ∃ r3, e s2 = .ok (F d, ⟨r3, m⟩)) ∧ s2.m = m) → lcL g t e vs r0 l acc ⟨r0, m⟩ = .ok (acc ++ (l.filter p).map F, ⟨r0, m⟩)
  | [], acc, _, _ => by simp [lcL]
  | d :: l, acc, hz, h => by
    obtain ⟨s1, h1, s2, h2, h3, h4⟩ := h d (by simp)
    have hz' : acc.length + (l.length + 1) ≤ SZ := by simpa using hz
    simp only [lcL, h1, h2]
    cases hp : p d with
    | true =>
      obtain ⟨r3, h5⟩ := h3 hp
      simp only [if_true, h5]
      rw [if_pos (by omega), lcL_pure p F l (acc ++ [F d]) (by simp; omega) fun d' hd' => h d' (by simp [hd'])]
      simp [hp]
    | false =>
      obtain ⟨r2, m2⟩ := s2
      have h4 : m2 = m := h4
      subst h4
      simp only [Bool.false_eq_true, if_false]
      rw [lcL_pure p F l acc (by omega) fun d' hd' => h d' (by simp [hd'])]
      simp [hp]
end VL
/-! the laws' common helpers: cells, draws -/
namespace VL
open PySem L2
def bDraws : MS :=
  (sIf (tAndM (tTruN (eV 3)) (tBl (eOp fGt (eV 2) (eC (.int 0))))) (sSeq (sDrop (eLM lmApp (eV 5) (aCons (eOp fMod (eCB (c1 gInt) (aCons (eV 2) aNil)) (eC (.int 5040))) aNil)))
  (sAsg (eOp fDiv (eV 2) (eC (.int 5040))) (gN 2))) (sSeq (sAsg (eOp fMod (eCB (c1 gInt) (aCons (eOp fAdd (eOp fAdd (eOp fMul (eV 4) (eC (.int 48271))) (eOp fMul (eOp fAdd (eV 6) (eC (.int 1))) (eC (.int 69621)))) (eC (.int 11))) aNil)) (eC (.int 2147483647))) (gN 7))
  (sSeq (sAsg (eOp fMod (eCB (c1 gInt) (aCons (eOp fAdd (eOp fMul (eV 7) (eV 7)) (eOp fMul (eC (.int 40692)) (eOp fAdd (eV 6) (eC (.int 3))))) aNil)) (eC (.int 2147483399))) (gN 7))
  (sDrop (eLM lmApp (eV 5) (aCons (eOp fMod (eCB (c1 gInt) (aCons (eOp fDiv (eV 7) (eC (.int 64))) aNil)) (eC (.int 5040))) aNil))))))
def mDraws : MS :=
  (sSeq (sAsg (eCB (c1 gAbs) (aCons (eCB (c1 gInt) (aCons (eV 0) aNil)) aNil)) (gN 2))
  (sSeq (sAsg (eOp fGe (eV 2) (eOp fPow (eC (.int 10)) (eC (.int 18)))) (gN 3))
  (sSeq (sAsg (eV 2) (gN 4))
  (sSeq (sAsg (eOwn (fLst aNil)) (gN 5))
  (sSeq (sFor (iRg1M (aCons (eV 1) aNil)) (gN 6) bDraws)
  (sRet (eTake 5)))))))
def mCell : MS :=
  (sSeq (sIf (tBl (eOp fLt (eV 1) (eCB cLen (aCons (eV 0) aNil)))) (sRet (eOp fIx (eV 0) (eV 1))) sNil)
  (sRet (eOp fAdd (eOp fMul (eC (.int 5)) (eV 1)) (eC (.int 3)))))

theorem cell_ok (ns : List Int) (k : Nat) (hl : ns.length ≤ 63) (hk : k ≤ 1000) : ∃ c : Int, pureOf 2 2 mCell [.scr ns, .int k] = .ok (.int c) := by
  by_cases h : k < ns.length
  · have e : fIx (.scr ns) (.int (k : Int)) ⟨[some (.scr ns), some (.int k)], []⟩ = .ok (.int ns[k], ⟨[some (.scr ns), some (.int k)], []⟩) := by
      have := fIx_seq (s := ⟨[some (.scr ns), some (.int k)], []⟩) (x := .scr ns) (l := ns.map D.int) rfl (k := k) (by simpa using h)
      rw [this]; simp
    refine ⟨ns[k], ?_⟩
    have h' : ((k : Int) < (ns.length : Int)) := by omega
    simp [mCell, h', e]
  · have h' : ¬ ((k : Int) < (ns.length : Int)) := by omega
    have hm : mulOk 5 (k : Int) = true := by simp only [x_mulOk, Bool.or_eq_true, decide_eq_true_eq]; left; omega
    refine ⟨5 * (k : Int) + 3, ?_⟩
    simp [mCell, h', hm]
def DrawsI (c n : Int) (dg : Bool) (sd : Int) (i : Nat) (s : S) : Prop := ∃ (rest : Int) (ds : List Int) (k mx : Option D), s = ⟨[some (.int c), some (.int n), some (.int rest), some (.bl dg), some (.int sd), some (.loc 0), k, mx], [.lst (iL ds)]⟩ ∧ ds.length = i ∧ ∀ x ∈ ds, 0 ≤ x ∧ x < 5040
abbrev dS (c n rest : Int) (dg : Bool) (sd : Int) (k mx : Option D) (ds : List Int) : S := ⟨[some (.int c), some (.int n), some (.int rest), some (.bl dg), some (.int sd), some (.loc 0), k, mx], [.lst (iL ds)]⟩
theorem draws_a {c n rest sd i : Int} {mx : Option D} {ds : List Int} (h0 : 0 < rest) (hz : ds.length < SZ) : bDraws (dS c n rest true sd (some (.int i)) mx ds) = .nx (dS c n (rest / 5040) true sd (some (.int i)) mx (ds ++ [rest % 5040])) := by
  simp [bDraws, h0, hz]
theorem draws_b {c n rest sd i : Int} {dg : Bool} {mx : Option D} {ds : List Int} (hc : ¬ (dg = true ∧ 0 < rest)) (hi : 0 ≤ i ∧ i < 1000000) (hz : ds.length < SZ) (m1 m2 : Int) (h1 : m1 = (sd * 48271 + (i + 1) * 69621 + 11) % 2147483647) (h2 : m2 = (m1 * m1 + 40692 * (i + 3)) % 2147483399) :
    bDraws (dS c n rest dg sd (some (.int i)) mx ds) = .nx (dS c n rest dg sd (some (.int i)) (some (.int m2)) (ds ++ [m2 / 64 % 5040])) := by
  have e4 : mulOk m1 m1 = true := mulOk_r (by omega) (by omega)
  have e3 : mulOk 40692 (i + 3) = true := mulOk_r (by omega) (by omega)
  cases dg with
  | false => simp [bDraws, hz, e3, e4, ← h1, ← h2]
  | true =>
    have h0 : ¬ 0 < rest := fun z => hc ⟨rfl, z⟩
    simp [bDraws, hz, h0, e3, e4, ← h1, ← h2]
theorem draws_loop (c : Int) (n : Nat) (dg : Bool) (sd : Int) (hn : n ≤ 1000000) : ∃ s', forL (gN 6) bDraws (rng 0 n) (dS c n sd dg sd none none []) = .nx s' ∧ DrawsI c n dg sd (0 + (rng 0 n).length) s' := by
  refine forL_inv (DrawsI c n dg sd) (rng 0 n) 0 _ ⟨_, [], _, _, rfl, rfl, by simp⟩ ?_
  rintro i d s hd ⟨rest, ds, k, mx, rfl, hl, hb⟩
  have hi : i < n := by
    have := (List.getElem?_eq_some_iff.mp hd).1
    simpa [rng] using this
  simp [rng, hi] at hd
  subst hd
  have hz : ds.length < SZ := by rw [SZv]; omega
  refine ⟨dS c n rest dg sd (some (.int i)) mx ds, rfl, ?_⟩
  by_cases hc : dg = true ∧ 0 < rest
  · obtain ⟨rfl, h0⟩ := hc
    refine ⟨_, .inl (draws_a h0 hz), rest / 5040, ds ++ [rest % 5040], some (.int i), mx, rfl, by simp [hl], ?_⟩
    intro x hx
    rcases List.mem_append.mp hx with h | h
    · exact hb x h
    · simp at h; subst h; omega
  · obtain ⟨m1, h1⟩ : ∃ q, q = (sd * 48271 + ((i : Int) + 1) * 69621 + 11) % 2147483647 := ⟨_, rfl⟩
    obtain ⟨m2, h2⟩ : ∃ q, q = (m1 * m1 + 40692 * ((i : Int) + 3)) % 2147483399 := ⟨_, rfl⟩
    refine ⟨_, .inl (draws_b hc (by omega) hz m1 m2 h1 h2), rest, ds ++ [m2 / 64 % 5040], some (.int i), some (.int m2), rfl, by simp [hl], ?_⟩
    intro x hx
    rcases List.mem_append.mp hx with h | h
    · exact hb x h
    · simp at h; subst h; omega
theorem draws_ok (c : Int) (n : Nat) (hn : n ≤ 1000000) : ∃ ds : List Int, ds.length = n ∧ (∀ x ∈ ds, 0 ≤ x ∧ x < 5040) ∧ pureOf 8 2 mDraws [.int c, .int n] = .ok (.lst (iL ds)) := by
  obtain ⟨s', e, rest, ds, k, mx, rfl, hl, hb⟩ := draws_loop c n (decide (1000000000000000000 ≤ (if c < 0 then -c else c))) (if c < 0 then -c else c) hn
  refine ⟨ds, by simpa [rng] using hl, hb, ?_⟩
  have h1 : (n : Int) < 4611686018427387904 := by omega
  simp only [dS, iL_nil] at e
  refine pure_rt rfl ?_ (by simp)
  unfold mDraws
  simp [powOk, h1, e]
end VL
/-! loops that return, loops that gather, comprehensions: laws of the mirrors -/
namespace VL
open PySem L2

theorem seq_assoc (x : C) (k l : S → C) : (x.seq k).seq l = x.seq fun s => (k s).seq l := by cases x <;> rfl
theorem forL_find {g : MG} {b : MS} (I : S → Prop) (q : D → Option D) : ∀ (l : List D) (s : S), I s →
    (∀ d ∈ l, ∀ s, I s → ∃ s1, g d s = .nx s1 ∧ match q d with
      | none => ∃ s', (b s1 = .nx s' ∨ b s1 = .ct s') ∧ I s'
      | some z => ∃ s', b s1 = .rt z s') →
    match l.findSome? q with
      | none => ∃ s', forL g b l s = .nx s' ∧ I s'
      | some z => ∃ s', forL g b l s = .rt z s'
  | [], s, h, _ => ⟨s, rfl, h⟩
  | d :: l, s, h, st => by
    obtain ⟨s1, e1, h1⟩ := st d (by simp) s h
    rw [List.findSome?_cons]
    cases hq : q d with
    | none =>
      rw [hq] at h1
      obtain ⟨s', e, h'⟩ := h1
      have ih := forL_find I q l s' h' fun d hd => st d (by simp [hd])
      have e0 : forL g b (d :: l) s = forL g b l s' := by
        rw [forL_cons, e1, VL.C.seq_nx]
        rcases e with e | e <;> rw [e] <;> rfl
      rw [e0]
      exact ih
    | some z =>
      rw [hq] at h1
      obtain ⟨s', e⟩ := h1
      exact ⟨s', by rw [forL_cons, e1, VL.C.seq_nx, e]; rfl⟩
theorem forL_fold {α : Type} {g : MG} {b : MS} (I : α → S → Prop) (f : α → D → α) : ∀ (l : List D) (a : α) (s : S), I a s →
    (∀ l1 d l2, l = l1 ++ d :: l2 → ∀ s, I (l1.foldl f a) s → ∃ s1, g d s = .nx s1 ∧ ∃ s', (b s1 = .nx s' ∨ b s1 = .ct s') ∧ I (f (l1.foldl f a) d) s') →
    ∃ s', forL g b l s = .nx s' ∧ I (l.foldl f a) s'
  | [], a, s, h, _ => ⟨s, rfl, h⟩
  | d :: l, a, s, h, st => by
    obtain ⟨s1, e1, s', e, h'⟩ := st [] d l rfl s h
    obtain ⟨s2, e2, h2⟩ := forL_fold I f l (f a d) s' h' fun l1 x l2 hl => st (d :: l1) x l2 (by rw [hl]; rfl)
    refine ⟨s2, ?_, h2⟩
    rw [forL_cons, e1, VL.C.seq_nx, ← e2]
    rcases e with e | e <;> rw [e] <;> rfl
/-- what each turn adds -/
theorem forL_acc {β : Type} {g : MG} {b : MS} (I : List β → S → Prop) (F : D → List β) (z : Nat) : ∀ (l : List D) (a : List β) (s : S), I a s → a.length + (l.flatMap F).length ≤ z →
    (∀ d ∈ l, ∀ a s, I a s → a.length + (F d).length ≤ z → ∃ s1, g d s = .nx s1 ∧ ∃ s', (b s1 = .nx s' ∨ b s1 = .ct s') ∧ I (a ++ F d) s') →
    ∃ s', forL g b l s = .nx s' ∧ I (a ++ l.flatMap F) s'
  | [], a, s, h, _, _ => ⟨s, rfl, by simpa using h⟩
  | d :: l, a, s, h, hz, st => by
    rw [List.flatMap_cons, List.length_append] at hz
    obtain ⟨s1, e1, s', e, h'⟩ := st d (by simp) a s h (by omega)
    obtain ⟨s2, e2, h2⟩ := forL_acc I F z l (a ++ F d) s' h' (by rw [List.length_append]; omega) fun d hd => st d (by simp [hd])
    refine ⟨s2, ?_, by rw [List.flatMap_cons, ← List.append_assoc]; exact h2⟩
    rw [forL_cons, e1, VL.C.seq_nx, ← e2]
    rcases e with e | e <;> rw [e] <;> rfl
theorem wipe1 {r : List (Option D)} {i : Nat} {d : D} : (wipeD r [i]).set i (some d) = r.set i (some d) := by
  simp [wipeD]
/-- [e for x in it if t] -/
theorem lc1_if {it : MA} {i : Nat} {t : MT} {e : ME} {s : S} {l : List D} (p : D → Bool) (F : D → D) (hit : it s = .ok (l, s)) (hz : l.length ≤ SZ)
    (h : ∀ d ∈ l, t { s with r := s.r.set i (some d) } = .ok (p d, { s with r := s.r.set i (some d) }) ∧ (p d = true → e { s with r := s.r.set i (some d) } = .ok (F d, { s with r := s.r.set i (some d) }))) :
    fLc it (gN i) t e [i] s = .ok (.lst ((l.filter p).map F), s) := by
  obtain ⟨r, m⟩ := s
  rw [x_fLc, hit, VL.R.bind_ok, lcL_pure p F l [] (by simpa using hz) (fun d hd => by
    obtain ⟨h1, h2⟩ := h d hd
    exact ⟨_, rfl, _, by rw [wipe1]; exact h1, fun hp => ⟨_, h2 hp⟩, rfl⟩)]
  simp
theorem lc1_run {it : MA} {i : Nat} {e : ME} {s : S} {l : List D} (F : D → D) (hit : it s = .ok (l, s)) (hz : l.length ≤ SZ)
    (h : ∀ d ∈ l, e { s with r := s.r.set i (some d) } = .ok (F d, { s with r := s.r.set i (some d) })) :
    fLc it (gN i) tYesM e [i] s = .ok (.lst (l.map F), s) := by
  rw [lc1_if (fun _ => true) F hit hz fun d hd => ⟨rfl, fun _ => h d hd⟩]
  rw [List.filter_eq_self.mpr fun _ _ => rfl]
theorem rng_len {lo : Int} {n : Nat} : (rng lo n).length = n := by simp [rng]
theorem rng_mem {n : Nat} {d : D} (h : d ∈ rng 0 n) : ∃ i : Nat, i < n ∧ d = .int i := by
  simp only [rng, List.mem_map, List.mem_range] at h
  obtain ⟨i, hi, rfl⟩ := h
  exact ⟨i, hi, by simp⟩
theorem rng_mem2 {lo : Int} {n : Nat} {d : D} (h : d ∈ rng lo n) : ∃ i : Nat, i < n ∧ d = .int (lo + i) := by
  simp only [rng, List.mem_map, List.mem_range] at h
  obtain ⟨i, hi, rfl⟩ := h
  exact ⟨i, hi, rfl⟩
theorem rng_map {n : Nat} {α : Type} {F : D → α} : (rng 0 n).map F = (List.range n).map fun i : Nat => F (.int (i : Int)) := by
  simp [rng, Function.comp_def]
theorem rng_get {lo : Int} {n i : Nat} {d : D} (h : (rng lo n)[i]? = some d) : i < n ∧ d = .int (lo + (i : Int)) := by
  have hi : i < n := by
    have := (List.getElem?_eq_some_iff.mp h).1
    simpa [rng] using this
  simp [rng, hi] at h
  exact ⟨hi, h.symm⟩
/-- the loop over range(n), by its turns -/
theorem forL_rng {g : MG} {b : MS} (I : Nat → S → Prop) {n : Nat} {s : S} (h : I 0 s) (st : ∀ i s, i < n → I i s → ∃ s1, g (.int (i : Int)) s = .nx s1 ∧ ∃ s', (b s1 = .nx s' ∨ b s1 = .ct s') ∧ I (i + 1) s') :
    ∃ s', forL g b (rng 0 n) s = .nx s' ∧ I n s' := by
  obtain ⟨s', e, h'⟩ := forL_inv I (rng 0 n) 0 s h fun i d s hd hi => by
    obtain ⟨h1, rfl⟩ := rng_get hd
    rw [Nat.zero_add] at hi ⊢
    rw [Int.zero_add]
    exact st i s h1 hi
  rw [rng_len, Nat.zero_add] at h'
  exact ⟨s', e, h'⟩
@[simp] theorem x_sPar2 {i j : Nat} {A : MA} {s : S} : sPar2 i j A s = (A s).to fun l s => (match l with
  | [d, e] => .nx { s with r := (s.r.set i (some d)).set j (some e) }
  | _ => .no) := id rfl
@[simp] theorem x_sPar3 {i j k : Nat} {A : MA} {s : S} : sPar3 i j k A s = (A s).to fun l s => (match l with
  | [d, e, f] => .nx { s with r := ((s.r.set i (some d)).set j (some e)).set k (some f) }
  | _ => .no) := id rfl
@[simp] theorem x_eBackT {a : ME} {s s' : S} {l : List D} (h : a s = .ok (.tup l, s')) : eBack a s = .ok (.tup l.reverse, s') := by
  unfold eBack; rw [h]; rfl
@[simp] theorem x_eBackL {a : ME} {s s' : S} {l : List D} (h : a s = .ok (.lst l, s')) : eBack a s = .ok (.lst l.reverse, s') := by
  unfold eBack; rw [h]; rfl
@[simp] theorem x_iEnumM {A : MA} {s : S} : iEnumM A s = (A s).bind fun l s => (match l with
  | [.tup l] => .ok (enumL l, s)
  | [.lst l] => .ok (enumL l, s)
  | _ => .no) := id rfl
@[simp] theorem x_lstLoc {n : Nat} {s : S} : lstOf s (.loc n) = (match s.m[n]? with | some (.lst l) => some l | _ => none) := id rfl
@[simp] theorem x_gSorted {d : D} {s : S} : gSorted [d] s = (match lstOf s d with | some l => if srtOk l = true then .ok (.lst (sortD l), s) else .no | none => .no) := id rfl
theorem sortD_perm (l : List D) : (sortD l).Perm l := List.mergeSort_perm _ _
theorem sortD_len (l : List D) : (sortD l).length = l.length := (sortD_perm l).length_eq
theorem sortD_mem {l : List D} {d : D} : d ∈ sortD l ↔ d ∈ l := (sortD_perm l).mem_iff
/-- [e for x in range(n)], ints -/
theorem lcI {it : MA} {i : Nat} {e : ME} {s : S} {n : Nat} (f : Nat → Int) (hit : it s = .ok (rng 0 n, s)) (hz : n ≤ SZ)
    (h : ∀ j : Nat, j < n → e { s with r := s.r.set i (some (.int (j : Int))) } = .ok (.int (f j), { s with r := s.r.set i (some (.int (j : Int))) })) :
    fLc it (gN i) tYesM e [i] s = .ok (.lst (iL ((List.range n).map f)), s) := by
  rw [lc1_run (fun d => match d with | .int a => .int (f a.toNat) | _ => .non) hit (by rw [rng_len]; exact hz) fun d hd => by
    obtain ⟨j, hj, rfl⟩ := rng_mem hd
    exact h j hj]
  rw [rng_map]
  simp [iL, Function.comp_def]
/-- an item by its place -/
def datI (l : List Int) (i : Int) : Int := (l[i.toNat]?).getD 0
theorem fIx_L {s : S} {l : List Int} {i : Int} (h0 : 0 ≤ i) (h1 : i < (l.length : Int)) : fIx (.lst (iL l)) (.int i) s = .ok (.int (datI l i), s) := by
  obtain ⟨k, rfl⟩ : ∃ k : Nat, i = k := ⟨i.toNat, by omega⟩
  have hk : k < l.length := by omega
  rw [fIxL (by simpa using hk)]
  simp [iL_get, datI, hk]
theorem fIx_T {s : S} {l : List Int} {i : Int} (h0 : 0 ≤ i) (h1 : i < (l.length : Int)) : fIx (.tup (iL l)) (.int i) s = .ok (.int (datI l i), s) := by
  obtain ⟨k, rfl⟩ : ∃ k : Nat, i = k := ⟨i.toNat, by omega⟩
  have hk : k < l.length := by omega
  rw [fIxT (by simpa using hk)]
  simp [iL_get, datI, hk]
theorem datI_mem {l : List Int} {i : Int} (h0 : 0 ≤ i) (h1 : i < (l.length : Int)) : datI l i ∈ l := by
  obtain ⟨k, rfl⟩ : ∃ k : Nat, i = k := ⟨i.toNat, by omega⟩
  have hk : k < l.length := by omega
  simp [datI, hk]
@[simp] theorem app_get {α : Type} {l k : List α} {x : α} : (l ++ x :: k)[l.length]? = some x := by simp
@[simp] theorem app_set {α : Type} {l k : List α} {x y : α} : (l ++ x :: k).set l.length y = l ++ y :: k := by simp
theorem gs_assoc (x : C) (k l : MS) : x.seq (sSeq k l) = (x.seq k).seq l := (seq_assoc x k l).symm
/-! ### rows of ints -/
def rowsD (L : List (List Int)) : List D := L.map fun r => .tup (iL r)
theorem toPs_iL : ∀ l : List Int, toPs (iL l) = l.map .int
  | [] => rfl
  | a :: l => by rw [iL_cons, toPs, toPs_iL l]; rfl
theorem okDs_rows : ∀ (L : List (List Int)) (n : Nat), okDs (n + 1) (rowsD L) = true
  | [], _ => rfl
  | r :: L, n => by
    show (okD (n + 1) (.tup (iL r)) && okDs (n + 1) (rowsD L)) = true
    rw [okDs_rows L n, Bool.and_true]
    exact okDs_iL n r
theorem srtOk_rows {L : List (List Int)} (h : ∀ r ∈ L, r ≠ []) : srtOk (rowsD L) = true := by
  unfold srtOk
  rw [okDs_rows, Bool.true_and, Bool.and_eq_true]
  constructor
  · refine List.all_eq_true.mpr fun d hd => List.all_eq_true.mpr fun e he => ?_
    obtain ⟨r, _, rfl⟩ := List.mem_map.mp hd
    obtain ⟨q, _, rfl⟩ := List.mem_map.mp he
    simp only [toP, toPs_iL, PySem.W.alike]
    exact PySem.W.alike_ints r q
  · unfold srtKind
    rw [Bool.or_eq_true]
    refine .inl (List.all_eq_true.mpr fun d hd => ?_)
    obtain ⟨r, hr, rfl⟩ := List.mem_map.mp hd
    cases r with
    | nil => exact absurd rfl (h _ hr)
    | cons a r => rfl
theorem srtOk_ints (l : List Int) : srtOk (iL l) = true := by
  unfold srtOk
  rw [okDs_iL, Bool.true_and, Bool.and_eq_true]
  constructor
  · refine List.all_eq_true.mpr fun d hd => List.all_eq_true.mpr fun e he => ?_
    obtain ⟨r, _, rfl⟩ := List.mem_map.mp hd
    obtain ⟨q, _, rfl⟩ := List.mem_map.mp he
    rfl
  · unfold srtKind
    rw [Bool.or_eq_true]
    refine .inr (List.all_eq_true.mpr fun d hd => ?_)
    obtain ⟨r, hr, rfl⟩ := List.mem_map.mp hd
    rfl
end VL
/-! texts, exceptions, the helpers that more laws share: alphabet, _law_is -/
namespace VL
open PySem L2
section
variable {s : S} {a b c e : ME} {A : MA}
@[simp] theorem fEqS {x y : List Nat} : fEq (.str x) (.str y) s = .ok (.bl (decide (x = y)), s) := rfl
@[simp] theorem fNeS {x y : List Nat} : fNe (.str x) (.str y) s = .ok (.bl (!decide (x = y)), s) := rfl
@[simp] theorem x_lenX {z : List Nat} : lenD s (.str z) = if z.length ≤ SZ then some z.length else none := id rfl
@[simp] theorem x_fAddS {x y : List Nat} : fAdd (.str x) (.str y) s = if x.length + y.length ≤ SZ then .ok (.str (x ++ y), s) else .no := id rfl
@[simp] theorem x_gCmpS {p : Int → Int → Bool} {q : List Nat → List Nat → Bool} {x y : List Nat} : gCmp p q (.str x) (.str y) = some (.bl (q x y)) := id rfl
@[simp] theorem x_gListS {z : List Nat} : gListS [.str z] s = if z.length ≤ 1000000 then .ok (.lst (z.map fun c => .str [c]), s) else .no := id rfl
@[simp] theorem x_fMulAI {i j : Int} : fMulA (.int i) (.int j) s = if mulOk i j = true then .ok (.int (i * j), s) else .no := id rfl
@[simp] theorem x_fMulAS {z : List Nat} {n : Int} : fMulA (.str z) (.int n) s = if 0 ≤ n ∧ n ≤ 1000000 ∧ z.length * n.toNat ≤ 1000000 then .ok (.str (List.replicate n.toNat z).flatten, s) else .no := id rfl
@[simp] theorem x_eJoin {o m : ME} : eJoin o m s = (o s).bind fun a s => (match a with
  | .str a => (m s).bind fun x s => match seqOf s x with
    | some l => match strsD l with
      | some ys => if joinLen a ys ≤ 1000000 then .ok (.str (TL.joinL a ys), s) else .no
      | none => .no
    | none => .no
  | _ => .no) := id rfl
@[simp] theorem x_sRaise {c : Str} {ks : List Str} {m : MA} : sRaise c ks m s = (m s).to fun ds s => if ds.length = ks.length ∧ ds.all shortD = true then .ex ⟨c, ks.zip ds⟩ s else .no := id rfl
@[simp] theorem x_isNonS {z : List Nat} : isNon (.str z) = false := id rfl
@[simp] theorem x_isNonB {z : Bool} : isNon (.bl z) = false := id rfl
@[simp] theorem kit_nt2 : kitB "tuple" "NoneType" = some false := by decide +kernel
end
theorem tryAs_ex {i : Nat} {c : Str} {body : MS} {h : Addr → Option Addr → MS} {s s1 : S} {x : Exn} {r : C} (e : body s = .ex x s1) (hc : x.c = c) (hr : ∀ a d, cutC i (h a d (hotS i a d x s1)) = r) : sTryAs i c body h s = r := by
  unfold sTryAs
  rw [e]
  dsimp only
  rw [if_pos hc]
  exact allC_eq hr
theorem tryAs_rt {i : Nat} {c : Str} {body : MS} {h : Addr → Option Addr → MS} {s s1 : S} {d : D} (e : body s = .rt d s1) : sTryAs i c body h s = .rt d s1 := by
  unfold sTryAs
  rw [e]
theorem pure_ex {n np : Nat} {m : MS} {ds : List D} {e : Exn} (h : ds.length = np) (hm : ∃ s, m ⟨startD n ds, []⟩ = .ex e s) (hn : noLocs (e.fs.map (·.2)) = true) : pureOf n np m ds = .ex e := by
  obtain ⟨s, hm⟩ := hm
  rw [x_pureOf, if_pos h, hm]
  exact if_pos hn
theorem shortD_int {i : Int} (h : -18446744073709551616 < i) (h2 : i < 18446744073709551616) : shortD (.int i) = true := by simp only [shortD, decide_eq_true_eq]; exact ⟨h, h2⟩
theorem shortD_str {z : List Nat} (h : z.length ≤ 1000000) : shortD (.str z) = true := by simp only [shortD, decide_eq_true_eq]; exact h
/-- what the laws' except clauses do with a faulty place -/
def hA (j : Nat) (a : Addr) (d : Option Addr) : MS := (sSeq (sIf (tOrM (tNotM (tTruN (eIsE j true a d))) (tNotM (tTruN (eIsE j true a d)))) (sRet (eTup (aCons (eC (.bl true)) (aCons (eC .non) aNil)))) sNil)
  (sSeq (sIf (tOrM (tTruN (eIsE j false a d)) (tOrM (tTruN (eIsE j false a d)) (tOrM (tTruN (eIsE j false a d)) (tTruN (eIsE j false a d))))) (sRet (eTup (aCons (eC (.bl true)) (aCons (eC .non) aNil)))) sNil)
  (sRet (eTup (aCons (eC (.bl true)) (aCons (eTup (aCons (eFld j "place" a d) (aCons (eFld j "fault" a d) aNil))) aNil))))))
theorem tryA_ex {j : Nat} {c : Str} {body : MS} {s s1 : S} {p f : D} (e : body s = .ex ⟨c, [("place", p), ("fault", f)]⟩ s1) (hj : j < s1.r.length) : sTryAs j c body (hA j) s = .rt (.tup [.bl true, .tup [p, f]]) (VL.cutS j s1) := by
  refine tryAs_ex e rfl fun a d => ?_
  obtain ⟨h, hh⟩ : ∃ h, h = hotS j a d ⟨c, [("place", p), ("fault", f)]⟩ s1 := ⟨_, rfl⟩
  have hr : h.r[j]? = some (some (.exn a d ["place", "fault"] [p, f])) := by rw [hh]; simp [hotS, hj]
  have e1 : ∀ b, eIsE j b a d h = .ok (.bl b, h) := fun b => by simp [eIsE, hr]
  have e2 : eFld j "place" a d h = .ok (p, h) := by simp [eFld, hr, List.lookup]
  have e3 : eFld j "fault" a d h = .ok (f, h) := by
    have : (("fault" : Str) == ("place" : Str)) = false := by decide
    simp [eFld, hr, List.lookup, this]
  rw [← hh]
  have e4 : hA j a d h = .rt (.tup [.bl true, .tup [p, f]]) h := by
    simp [hA, e1, e2, e3, SZv]
  rw [e4, hh]
  simp [cutC, VL.cutS, hotS]
/-! ### _law_is -/
def mIsInt : MS := (sRet (eAndV (eIsi "int" (eV 0)) (eNotV (eIsi "bool" (eV 0)))))
def cIs (rec : List D → PR) : MF := (fLc (iRg1M (aCons (eCB cLen (aCons (eV 1) aNil)) aNil)) (gN 2) tYesM (eCall rec (aCons (eOp fIx (eV 0) (eV 2)) (aCons (eOp fIx (eV 1) (eV 2)) aNil))) [2])
def mIs (rec : List D → PR) : MS :=
  (sSeq (sIf (tBl (eOp fIs (eV 1) (eC .non))) (sRet (eOp fIs (eV 0) (eC .non))) sNil)
  (sSeq (sIf (tTruN (eIsi "bool" (eV 1))) (sRet (eAndV (eIsi "bool" (eV 0)) (eOp fEq (eV 0) (eV 1)))) sNil)
  (sSeq (sIf (tTruN (eIsi "int" (eV 1))) (sRet (eAndV (eCall (pureOf 1 1 mIsInt) (aCons (eV 0) aNil)) (eOp fEq (eV 0) (eV 1)))) sNil)
  (sSeq (sIf (tTruN (eIsi "str" (eV 1))) (sRet (eAndV (eIsi "str" (eV 0)) (eOp fEq (eV 0) (eV 1)))) sNil)
  (sSeq (sIf (tOrM (tNotM (tTruN (eIsi "tuple" (eV 0)))) (tBl (eOp fNe (eCB cLen (aCons (eV 0) aNil)) (eCB cLen (aCons (eV 1) aNil))))) (sRet (eC (.bl false))) sNil)
  (sRet (eCB (c1 (gAllL allB)) (aCons (eFrz (cIs rec)) aNil))))))))
def isF : Nat → List D → PR
  | 0 => fun _ => .no
  | n + 1 => pureOf 3 2 (mIs (isF n))
/-- data that _law_is compares to itself -/
def Good : Nat → D → Prop
  | 0, _ => False
  | n + 1, d => match d with
    | .non => True
    | .bl _ => True
    | .int _ => True
    | .str _ => True
    | .tup l => l.length ≤ 1000000 ∧ ∀ e ∈ l, Good n e
    | _ => False
theorem Good.noLoc : ∀ {n : Nat} {d : D}, Good n d → noLoc d = true
  | 0, _, h => h.elim
  | n + 1, .non, _ => rfl
  | n + 1, .bl _, _ => rfl
  | n + 1, .int _, _ => rfl
  | n + 1, .str _, _ => rfl
  | n + 1, .tup l, h => by
    rw [x_noLocT]
    exact noLocs_all fun d hd => Good.noLoc (h.2 d hd)
  | n + 1, .lst _, h => h.elim
  | n + 1, .dct _ _, h => h.elim
  | n + 1, .scr _, h => h.elim
  | n + 1, .loc _, h => h.elim
  | n + 1, .obj _, h => h.elim
  | n + 1, .exn _ _ _ _, h => h.elim
theorem isF_refl : ∀ {n : Nat} {d : D}, Good n d → isF n [d, d] = .ok (.bl true)
  | 0, _, h => h.elim
  | n + 1, .non, _ => by simp [isF, mIs]
  | n + 1, .bl b, _ => by simp [isF, mIs]
  | n + 1, .int i, _ => by simp [isF, mIs, mIsInt]
  | n + 1, .str z, _ => by simp [isF, mIs]
  | n + 1, .lst _, h => h.elim
  | n + 1, .dct _ _, h => h.elim
  | n + 1, .scr _, h => h.elim
  | n + 1, .loc _, h => h.elim
  | n + 1, .obj _, h => h.elim
  | n + 1, .exn _ _ _ _, h => h.elim
  | n + 1, .tup l, h => by
    have hl : ((l.length : Nat) : Int) < 4611686018427387904 := by have := h.1; omega
    have hc : cIs (isF n) ⟨[some (.tup l), some (.tup l), none], []⟩ = .ok (.lst ((rng 0 l.length).map fun _ => .bl true), ⟨[some (.tup l), some (.tup l), none], []⟩) := by
      refine lc1_run (fun _ => .bl true) (by simp [hl]) (by rw [rng_len, SZv]; have := h.1; omega) fun d hd => ?_
      obtain ⟨i, hi, rfl⟩ := rng_mem hd
      have hg := h.2 l[i] (List.getElem_mem hi)
      simp [fIxT hi, hg.noLoc, isF_refl hg]
    have hb : blsD ((rng 0 l.length).map fun _ => D.bl true) = some (List.replicate l.length true) := by
      have e1 : ((rng 0 l.length).map fun _ => D.bl true) = (List.replicate l.length true).map D.bl := by
        rw [List.map_replicate]
        exact List.eq_replicate_iff.mpr ⟨by simp [rng_len], fun b hb => by
          obtain ⟨_, _, rfl⟩ := List.mem_map.mp hb
          rfl⟩
      rw [e1, blsD_map]
    refine pure_rt rfl ⟨⟨[some (.tup l), some (.tup l), none], []⟩, ?_⟩ (by simp)
    simp [mIs, hc, hb, allB]
/-! ### _law_alphabet -/
def st1 (z : List Nat) : List D := z.map fun c => .str [c]
theorem lcL_inv {g : MG} {t : MT} {e : ME} {vs : List Nat} {r0 : List (Option D)} (N : Nat) (I : List D → List Ob → Prop) : ∀ (l acc : List D) (m : List Ob), acc.length + l.length ≤ N → N ≤ SZ → I acc m →
    (∀ d ∈ l, ∀ acc m, acc.length < N → I acc m → ∃ s1, g d ⟨wipeD r0 vs, m⟩ = .nx s1 ∧ t s1 = .ok (true, s1) ∧ ∃ y r3 m3, e s1 = .ok (y, ⟨r3, m3⟩) ∧ I (acc ++ [y]) m3) →
    ∃ acc' m', lcL g t e vs r0 l acc ⟨r0, m⟩ = .ok (acc', ⟨r0, m'⟩) ∧ acc'.length = acc.length + l.length ∧ I acc' m'
  | [], acc, m, _, _, h, _ => ⟨acc, m, rfl, rfl, h⟩
  | d :: l, acc, m, hz, hN, h, st => by
    rw [List.length_cons] at hz
    obtain ⟨s1, e1, e2, y, r3, m3, e3, h3⟩ := st d (by simp) acc m (by omega) h
    obtain ⟨acc', m', q1, q2, q3⟩ := lcL_inv N I l (acc ++ [y]) m3 (by simp; omega) hN h3 fun d hd => st d (by simp [hd])
    refine ⟨acc', m', ?_, by rw [q2]; simp; omega, q3⟩
    simp only [lcL, e1, e2, if_true, e3]
    rw [if_pos (by omega)]
    exact q1
def cAlpha : MF := (fLc (iRg1M (aCons (eV 1) aNil)) (gN 4) tYesM (eLM lmPopAt (eV 2) (aCons (eOp fMod (eCB (c1 gInt) (aCons (eOp fIx (eV 0) (eV 4)) aNil)) (eCB cLen (aCons (eV 2) aNil))) aNil)) [4])
def abc : List Nat := [97, 98, 99, 100, 101, 102, 103, 104, 105, 106, 107, 108, 109, 110, 111, 112, 113, 114, 115, 116, 117, 118, 119, 120, 121, 122]
def mAlpha : MS :=
  (sSeq (sAsg (eOwn (fCB gListS (aCons (eC (.str [97, 98, 99, 100, 101, 102, 103, 104, 105, 106, 107, 108, 109, 110, 111, 112, 113, 114, 115, 116, 117, 118, 119, 120, 121, 122])) aNil))) (gN 2))
  (sSeq (sAsg (eFrz cAlpha) (gN 3))
  (sRet (eJoin (eC (.str [])) (eFrz (fCB gSorted (aCons (eV 3) aNil)))))))
def Low (c : Nat) : Prop := 97 ≤ c ∧ c ≤ 122
theorem st1_of : ∀ {l : List D}, (∀ d ∈ l, ∃ c, Low c ∧ d = .str [c]) → ∃ z : List Nat, l = st1 z ∧ ∀ c ∈ z, Low c
  | [], _ => ⟨[], rfl, by simp⟩
  | d :: l, h => by
    obtain ⟨c, hc, rfl⟩ := h d (by simp)
    obtain ⟨z, rfl, hz⟩ := st1_of (l := l) fun d hd => h d (List.mem_cons_of_mem _ hd)
    exact ⟨c :: z, rfl, by simpa using ⟨hc, hz⟩⟩
theorem strsD_st1 : ∀ z : List Nat, strsD (st1 z) = some (z.map fun c => [c])
  | [] => rfl
  | c :: z => by show (strsD (st1 z)).map ([c] :: ·) = _; rw [strsD_st1 z]; rfl
theorem joinL_st1 : ∀ z : List Nat, TL.joinL [] (z.map fun c => [c]) = z
  | [] => rfl
  | [_] => rfl
  | c :: b :: z => by
    show [c] ++ ([] ++ TL.joinL [] ((b :: z).map fun c => [c])) = _
    rw [joinL_st1 (b :: z)]; rfl
theorem srt_st1 {z : List Nat} (h : ∀ c ∈ z, Low c) : srtOk (st1 z) = true := by
  unfold srtOk
  have h1 : ∀ (n : Nat) (z : List Nat), (∀ c ∈ z, Low c) → okDs n (st1 z) = true := by
    intro n z
    induction z with
    | nil => intro _; simp [st1, okDs]
    | cons c z ih =>
      intro h
      have hc := h c (by simp)
      simp only [st1, List.map_cons, okDs, okD, List.all_cons, List.all_nil, Bool.and_true, Bool.and_eq_true, decide_eq_true_eq]
      exact ⟨by unfold Low at hc; omega, ih fun c hc => h c (by simp [hc])⟩
  rw [h1 63 z h, Bool.true_and, Bool.and_eq_true]
  constructor
  · refine List.all_eq_true.mpr fun d hd => List.all_eq_true.mpr fun e he => ?_
    obtain ⟨r, _, rfl⟩ := List.mem_map.mp hd
    obtain ⟨q, _, rfl⟩ := List.mem_map.mp he
    rfl
  · unfold srtKind
    rw [Bool.or_eq_true]
    refine .inr (List.all_eq_true.mpr fun d hd => ?_)
    obtain ⟨r, hr, rfl⟩ := List.mem_map.mp hd
    rfl
theorem alpha_ok (ds : List Int) (n : Nat) (hb : ∀ x ∈ ds, 0 ≤ x) (hn : n ≤ ds.length) (h26 : n ≤ 26) : ∃ z : List Nat, z.length = n ∧ (∀ c ∈ z, Low c) ∧ pureOf 5 2 mAlpha [.lst (iL ds), .int n] = .ok (.str z) := by
  have hr : (n : Int) < 4611686018427387904 := by omega
  have habc : ∀ d ∈ st1 abc, ∃ c, Low c ∧ d = .str [c] := fun d hd => by
    obtain ⟨c, hc, rfl⟩ := List.mem_map.mp hd
    have : ∀ c ∈ abc, Low c := by unfold Low; decide
    exact ⟨c, this c hc, rfl⟩
  obtain ⟨acc, m', e1, e2, e5⟩ := lcL_inv (g := gN 4) (t := tYesM) (e := (eLM lmPopAt (eV 2) (aCons (eOp fMod (eCB (c1 gInt) (aCons (eOp fIx (eV 0) (eV 4)) aNil)) (eCB cLen (aCons (eV 2) aNil))) aNil))) (vs := [4]) (r0 := [some (.lst (iL ds)), some (.int n), some (.loc 0), none, none]) n
    (fun acc m => (∃ pool : List D, m = [.lst pool] ∧ acc.length + pool.length = 26 ∧ ∀ d ∈ pool, ∃ c, Low c ∧ d = .str [c]) ∧ ∀ d ∈ acc, ∃ c, Low c ∧ d = .str [c]) (rng 0 n) [] [.lst (st1 abc)] (by rw [rng_len]; simp) (by rw [SZv]; omega) ⟨⟨st1 abc, rfl, rfl, habc⟩, by simp⟩ (fun d hd acc m hacc ⟨⟨pool, em, h1, h2⟩, h3⟩ => by
      obtain ⟨i, hi, rfl⟩ := rng_mem hd
      subst em
      have hi2 : i < ds.length := by omega
      have hp : (0 : Int) < pool.length := by omega
      obtain ⟨q, hq⟩ : ∃ q, q = ds[i] % (pool.length : Int) := ⟨_, rfl⟩
      have q0 : 0 ≤ q := by rw [hq]; exact Int.emod_nonneg _ (by omega)
      have q1 : q < pool.length := by rw [hq]; exact Int.emod_lt_of_pos _ hp
      obtain ⟨k, rfl⟩ : ∃ k : Nat, q = k := ⟨q.toNat, by omega⟩
      have hk : k < pool.length := by omega
      have hpl : pool.length ≤ SZ := by rw [SZv]; omega
      refine ⟨_, rfl, rfl, pool[k], [some (.lst (iL ds)), some (.int n), some (.loc 0), none, some (.int i)], [.lst (pool.eraseIdx k)], ?_, ⟨pool.eraseIdx k, rfl, ?_, fun c hc => h2 c (List.mem_of_mem_eraseIdx hc)⟩, fun d hd => ?_⟩
      · have ix : fIx (.lst (iL ds)) (.int (i : Int)) ⟨[some (.lst (iL ds)), some (.int n), some (.loc 0), none, some (.int i)], [.lst pool]⟩ = .ok (.int ds[i], ⟨[some (.lst (iL ds)), some (.int n), some (.loc 0), none, some (.int i)], [.lst pool]⟩) := by
          rw [fIxL (by simpa using hi2), iL_get]
        have ln : cLen [.loc 0] ⟨[some (.lst (iL ds)), some (.int n), some (.loc 0), none, some (.int i)], [.lst pool]⟩ = .ok (.int pool.length, ⟨[some (.lst (iL ds)), some (.int n), some (.loc 0), none, some (.int i)], [.lst pool]⟩) := by
          simp [lenD, seqOf, lstOf]
        have pp : lmPopAt pool [.int (k : Int)] = some (pool[k], pool.eraseIdx k) := by
          simp only [lmPopAt, if_pos hpl, ixN_nat hk, List.getElem?_eq_getElem hk]
        have hp2 : 0 < pool.length := by omega
        simp [wipeD, ix, ln, fMod, hp, hp2, ← hq, pp, -x_cLen]
      · simp [List.length_eraseIdx, hk]; omega
      · rcases List.mem_append.mp hd with hd | hd
        · exact h3 d hd
        · simp at hd
          rw [hd]
          exact h2 _ (List.getElem_mem hk))
  obtain ⟨⟨pool, rfl, e3, e4⟩, e5⟩ := e5
  obtain ⟨z0, rfl, hz0⟩ := st1_of e5
  have el : z0.length = n := by simpa [st1, rng_len] using e2
  obtain ⟨z, ez, hz⟩ := st1_of (l := sortD (st1 z0)) fun d hd => e5 d (sortD_mem.mp hd)
  have hzl : z.length = n := by
    have := sortD_len (st1 z0)
    rw [ez] at this
    simpa [st1, el] using this
  refine ⟨z, hzl, hz, ?_⟩
  have hc : cAlpha ⟨[some (.lst (iL ds)), some (.int n), some (.loc 0), none, none], [.lst (st1 abc)]⟩ = .ok (.lst (st1 z0), ⟨[some (.lst (iL ds)), some (.int n), some (.loc 0), none, none], [.lst pool]⟩) := by
    simp [cAlpha, hr, e1]
  have hj : joinLen [] (z.map fun c => [c]) ≤ 1000000 := by
    unfold joinLen
    have : ((z.map fun c => [c]).map List.length) = List.replicate z.length 1 := by
      rw [List.map_map]
      exact List.eq_replicate_iff.mpr ⟨by simp, fun b hb => by
        obtain ⟨_, _, rfl⟩ := List.mem_map.mp hb
        rfl⟩
    rw [this, List.sum_replicate_nat]
    simp
    omega
  refine pure_rt rfl ⟨⟨[some (.lst (iL ds)), some (.int n), some (.loc 0), some (.lst (st1 z0)), none], [.lst pool]⟩, ?_⟩ (by simp)
  have h1 : (sAsg (eOwn (fCB gListS (aCons (eC (.str [97, 98, 99, 100, 101, 102, 103, 104, 105, 106, 107, 108, 109, 110, 111, 112, 113, 114, 115, 116, 117, 118, 119, 120, 121, 122])) aNil))) (gN 2)) ⟨startD 5 [.lst (iL ds), .int n], []⟩ = .nx ⟨[some (.lst (iL ds)), some (.int n), some (.loc 0), none, none], [.lst (st1 abc)]⟩ := by
    simp [st1, abc]
  simp only [mAlpha, x_sSeq, h1, VL.C.seq_nx]
  simp [hc, srt_st1 hz0, ez, strsD_st1, joinL_st1, hj]
/-- for at in range(len(..)): the place decides -/
theorem find_rng {g : MG} {b : MS} (I : S → Prop) (q : Nat → Option D) {n : Nat} : ∀ {m k : Nat} {s : S}, k + m = n → I s →
    (∀ i s, i < n → I s → ∃ s1, g (.int (i : Int)) s = .nx s1 ∧ match q i with
      | none => ∃ s', (b s1 = .nx s' ∨ b s1 = .ct s') ∧ I s'
      | some z => ∃ s', b s1 = .rt z s') →
    match (List.range' k m).findSome? q with
      | none => ∃ s', forL g b (rng k m) s = .nx s' ∧ I s'
      | some z => ∃ s', forL g b (rng k m) s = .rt z s'
  | 0, k, s, _, h, _ => ⟨s, rfl, h⟩
  | m + 1, k, s, hk, h, st => by
    obtain ⟨s1, e1, h1⟩ := st k s (by omega) h
    have er : rng (k : Int) (m + 1) = .int (k : Int) :: rng ((k + 1 : Nat) : Int) m := by
      unfold rng
      rw [List.range_succ_eq_map, List.map_cons, List.map_map]
      congr 1
      simp
      intro a _
      omega
    rw [er, List.range'_succ, List.findSome?_cons]
    cases hq : q k with
    | none =>
      rw [hq] at h1
      obtain ⟨s', e, h'⟩ := h1
      have ih := find_rng I q (m := m) (k := k + 1) (s := s') (by omega) h' st
      have e0 : forL g b (.int (k : Int) :: rng ((k + 1 : Nat) : Int) m) s = forL g b (rng ((k + 1 : Nat) : Int) m) s' := by
        rw [forL_cons, e1, VL.C.seq_nx]
        rcases e with e | e <;> rw [e] <;> rfl
      rw [e0]
      exact ih
    | some z =>
      rw [hq] at h1
      obtain ⟨s', e⟩ := h1
      exact ⟨s', by rw [forL_cons, e1, VL.C.seq_nx, e]; rfl⟩
/-- find_rng, a turn that ends by any end that a loop hands on -/
theorem find_rngC {β : Type} {g : MG} {b : MS} (I : S → Prop) (q : Nat → Option β) (c : β → S → C) (hc : ∀ z s f, (c z s).loop f = c z s) {n : Nat} : ∀ {m k : Nat} {s : S}, k + m = n → I s →
    (∀ i s, i < n → I s → ∃ s1, g (.int (i : Int)) s = .nx s1 ∧ match q i with
      | none => ∃ s', (b s1 = .nx s' ∨ b s1 = .ct s') ∧ I s'
      | some z => ∃ s', b s1 = c z s') →
    match (List.range' k m).findSome? q with
      | none => ∃ s', forL g b (rng k m) s = .nx s' ∧ I s'
      | some z => ∃ s', forL g b (rng k m) s = c z s'
  | 0, k, s, _, h, _ => ⟨s, rfl, h⟩
  | m + 1, k, s, hk, h, st => by
    obtain ⟨s1, e1, h1⟩ := st k s (by omega) h
    have er : rng (k : Int) (m + 1) = .int (k : Int) :: rng ((k + 1 : Nat) : Int) m := by
      unfold rng
      rw [List.range_succ_eq_map, List.map_cons, List.map_map]
      congr 1
      simp
      intro a _
      omega
    rw [er, List.range'_succ, List.findSome?_cons]
    cases hq : q k with
    | none =>
      rw [hq] at h1
      obtain ⟨s', e, h'⟩ := h1
      have ih := find_rngC I q c hc (m := m) (k := k + 1) (s := s') (by omega) h' st
      have e0 : forL g b (.int (k : Int) :: rng ((k + 1 : Nat) : Int) m) s = forL g b (rng ((k + 1 : Nat) : Int) m) s' := by
        rw [forL_cons, e1, VL.C.seq_nx]
        rcases e with e | e <;> rw [e] <;> rfl
      rw [e0]
      exact ih
    | some z =>
      rw [hq] at h1
      obtain ⟨s', e⟩ := h1
      exact ⟨s', by rw [forL_cons, e1, VL.C.seq_nx, e, hc]⟩
/-- two readings of a place that are the same as long as no earlier place told anything -/
theorem fs_congr {β : Type} {p q : Nat → Option β} : ∀ {m k : Nat}, (∀ i, k ≤ i → i < k + m → (∀ j, k ≤ j → j < i → p j = none) → p i = q i) → (List.range' k m).findSome? p = (List.range' k m).findSome? q
  | 0, _, _ => rfl
  | m + 1, k, h => by
    rw [List.range'_succ, List.findSome?_cons, List.findSome?_cons, ← h k (Nat.le_refl _) (by omega) (fun j h1 h2 => by omega)]
    cases hp : p k with
    | some z => rfl
    | none =>
      exact fs_congr (m := m) (k := k + 1) fun i h1 h2 h3 => h i (by omega) (by omega) fun j h4 h5 => by
        rcases Nat.eq_or_lt_of_le h4 with rfl | h6
        · exact hp
        · exact h3 j h6 h5
/-! ### cuts, places, least and greatest -/
@[simp] theorem x_fCutL {l : List D} {lo hi : Option Int} {s : S} : fCut (.lst l) lo hi s = .ok (.lst (cut l lo hi), s) := id rfl
@[simp] theorem x_fCutT {l : List D} {lo hi : Option Int} {s : S} : fCut (.tup l) lo hi s = .ok (.tup (cut l lo hi), s) := id rfl
@[simp] theorem x_c2 {g : S → D → D → Option D} {d e : D} {s : S} : c2 g [d, e] s = (match g s d e with | some z => .ok (z, s) | none => .no) := id rfl
@[simp] theorem x_gMin2 {i j : Int} {s : S} : gMin2 s (.int i) (.int j) = some (.int (if j < i then j else i)) := id rfl
@[simp] theorem x_gMax2 {i j : Int} {s : S} : gMax2 s (.int i) (.int j) = some (.int (if j > i then j else i)) := id rfl
theorem cut_mid {α : Type} (l : List α) (a b : Nat) (h : b ≤ l.length) (hab : a ≤ b) : cut l (some (a : Int)) (some (b : Int)) = (l.drop a).take (b - a) := by
  unfold cut
  rw [HT.sIx_nat, HT.sIx_nat, Nat.min_eq_left h, Nat.min_eq_left (by omega)]
theorem cut_iL {ds : List Int} {a n : Nat} (h : a + n ≤ ds.length) : cut (iL ds) (some (a : Int)) (some ((a : Int) + (n : Int))) = iL ((List.range n).map fun j => datI ds ((a + j : Nat) : Int)) := by
  have e : ((a : Int) + (n : Int)) = ((a + n : Nat) : Int) := by omega
  rw [e, cut_mid _ _ _ (by simpa using h) (by omega)]
  unfold iL
  rw [← List.map_drop, ← List.map_take]
  congr 1
  apply List.ext_getElem
  · simp; omega
  · intro i h1 h2
    simp at h1 h2
    have h3 : a + i < ds.length := by omega
    have h4 : ((a : Int) + (i : Int)).toNat = a + i := by omega
    simp [datI, h3, h4]
theorem fIx_S {s : S} {z : List Nat} {i : Int} (hz : z.length ≤ 1000000) (h0 : 0 ≤ i) (h1 : i < (z.length : Int)) : ∃ c, c ∈ z ∧ fIx (.str z) (.int i) s = .ok (.str [c], s) := by
  obtain ⟨k, rfl⟩ : ∃ k : Nat, i = k := ⟨i.toNat, by omega⟩
  have hk : k < z.length := by omega
  refine ⟨z[k], List.getElem_mem hk, ?_⟩
  have hs : z.length ≤ SZ := by rw [SZv]; omega
  unfold fIx
  simp only [if_pos hs, atI_nat hk]
theorem fMod_p {s : S} {i j : Int} (h : 0 < j) : fMod (.int i) (.int j) s = .ok (.int (i % j), s) := by
  have h2 : ¬ j = 0 := by omega
  simp [fMod, h, h2]
theorem datI_in {l : List Int} {P : Int → Prop} (h : ∀ x ∈ l, P x) {i : Int} (h0 : 0 ≤ i) (h1 : i < (l.length : Int)) : P (datI l i) := h _ (datI_mem h0 h1)
end VL
/-! plain helpers: comprehensions over an own list -/
namespace VL
open PySem L2
theorem lcLO_pure {n : Nat} {L : List D} {g : MG} {t : MT} {e : ME} {vs : List Nat} {r0 : List (Option D)} {m : List Ob} (hm : m[n]? = some (.lst L)) (p : D → Bool) (F : D → D) : ∀ (l acc : List D), acc.length + l.length ≤ SZ →
    (∀ d ∈ l, ∃ s1, g d ⟨wipeD r0 vs, m⟩ = .nx s1 ∧ ∃ r2, t s1 = .ok (p d, ⟨r2, m⟩) ∧ (p d = true → ∃ r3, e ⟨r2, m⟩ = .ok (F d, ⟨r3, m⟩))) → lcLO n L g t e vs r0 l acc ⟨r0, m⟩ = .ok (acc ++ (l.filter p).map F, ⟨r0, m⟩)
  | [], acc, _, _ => by simp [lcLO]
  | d :: l, acc, hz, h => by
    obtain ⟨s1, h1, r2, h2, h3⟩ := h d (by simp)
    have hz' : acc.length + (l.length + 1) ≤ SZ := by simpa using hz
    simp only [lcLO, h1, h2]
    cases hp : p d with
    | true =>
      obtain ⟨r3, h5⟩ := h3 hp
      simp only [if_true, h5]
      rw [if_pos ⟨by omega, hm⟩, lcLO_pure hm p F l (acc ++ [F d]) (by simp; omega) fun d' hd' => h d' (by simp [hd'])]
      simp [hp]
    | false =>
      simp only [Bool.false_eq_true, if_false]
      rw [if_pos hm, lcLO_pure hm p F l acc (by omega) fun d' hd' => h d' (by simp [hd'])]
      simp [hp]
theorem lcO1_if {i j n : Nat} {t : MT} {e : ME} {s : S} {L : List D} (p : D → Bool) (F : D → D) (hi : s.r[i]? = some (some (.loc n))) (hm : s.m[n]? = some (.lst L)) (hz : L.length ≤ SZ)
    (h : ∀ d ∈ L, t { s with r := s.r.set j (some d) } = .ok (p d, { s with r := s.r.set j (some d) }) ∧ (p d = true → e { s with r := s.r.set j (some d) } = .ok (F d, { s with r := s.r.set j (some d) }))) :
    fLcO i (gN j) t e [j] s = .ok (.lst ((L.filter p).map F), s) := by
  obtain ⟨r, m⟩ := s
  unfold fLcO
  dsimp only at hi hm ⊢
  rw [hi]
  dsimp only
  rw [hm]
  dsimp only
  rw [lcLO_pure hm p F L [] (by simpa using hz) (fun d hd => by
    obtain ⟨h1, h2⟩ := h d hd
    exact ⟨_, rfl, _, by rw [wipe1]; exact h1, fun hp => ⟨_, h2 hp⟩⟩)]
  simp
end VL
namespace K73
open PySem PySem.Spec PyProof.Rows L2 VL
def top (i : Nat) : Stmt := PySem.Challenge.pw_mailways_k73_checked_notices.main.body.getD i (.Pass ⟨0, 0, 0, 0⟩)
abbrev FnD (K : PySem.W.Frag) (x : Str) (st : Stmt) (f : Addr) (fd : FuncData) : Prop := FunD K x x (defArgs st) (defBody st) (defScope st) [] [] f fd
noncomputable section
/-! is_letter -/
abbrev st_is_letter : Stmt := top 9
abbrev N_is_letter : List Str := ["text"]
abbrev P_is_letter : List Str := ["text"]
structure L_is_letter where
  v_text : Option D := none
  mm : List Ob := []
def L_is_letter.S (v : L_is_letter) : S := ⟨[v.v_text], v.mm⟩
def m_is_letter : MS :=
  (sRet (eAndV (eOp fEq (eCB cLen (aCons (eV 0) aNil)) (eC (.int 1))) (eOp fIn (eV 0) (eC (.str [97, 98, 99, 100, 101, 102, 103, 104, 105, 106, 107, 108, 109, 110, 111, 112, 113, 114, 115, 116, 117, 118, 119, 120, 121, 122])))))
def f_is_letter : List D → PR := pureOf 1 1 m_is_letter
/-! are_together -/
abbrev st_are_together : Stmt := top 11
abbrev N_are_together : List Str := ["one", "other"]
abbrev P_are_together : List Str := ["one", "other"]
structure L_are_together where
  v_one : Option D := none
  v_other : Option D := none
  mm : List Ob := []
def L_are_together.S (v : L_are_together) : S := ⟨[v.v_one, v.v_other], v.mm⟩
def m_are_together : MS :=
  (sRet (eAndV (eOp fEq (eOp fIx (eV 0) (eC (.int 0))) (eOp fIx (eV 1) (eC (.int 0)))) (eAndV (eOp fLe (eOp fIx (eV 0) (eC (.int 1))) (eOp fIx (eV 1) (eC (.int 2)))) (eOp fLe (eOp fIx (eV 1) (eC (.int 1))) (eOp fIx (eV 0) (eC (.int 2)))))))
def f_are_together : List D → PR := pureOf 2 2 m_are_together
/-! notice_fault -/
abbrev st_notice_fault : Stmt := top 12
abbrev N_notice_fault : List Str := ["notices", "place", "address", "first", "last", "new"]
abbrev P_notice_fault : List Str := ["notices", "place"]
structure L_notice_fault where
  v_notices : Option D := none
  v_place : Option D := none
  v_address : Option D := none
  v_first : Option D := none
  v_last : Option D := none
  v_new : Option D := none
  mm : List Ob := []
def L_notice_fault.S (v : L_notice_fault) : S := ⟨[v.v_notices, v.v_place, v.v_address, v.v_first, v.v_last, v.v_new], v.mm⟩
def s_notice_fault_1 : MS := (sAsg (eOp fIx (eV 0) (eV 1)) (gTupM (gsCons (gN 2) (gsCons (gN 3) (gsCons (gN 4) (gsCons (gN 5) gsNil))))))
def s_notice_fault_2 : MS := (sIf (tOrM (tNotM (tTruN (eCall f_is_letter (aCons (eV 2) aNil)))) (tNotM (tTruN (eCall f_is_letter (aCons (eV 5) aNil))))) (sRet (eC (.str [97, 100, 100, 114, 101, 115, 115]))) sNil)
def s_notice_fault_3 : MS := (sIf (tOrM (tBl (eOp fLt (eV 3) (eC (.int 0)))) (tBl (eOp fGt (eV 3) (eV 4)))) (sRet (eC (.str [100, 97, 121, 115]))) sNil)
def s_notice_fault_4 : MS := (sIf (tAndM (tBl (eOp fGt (eV 1) (eC (.int 0)))) (tBl (eOp fLeD (eOp fIx (eV 0) (eV 1)) (eOp fIx (eV 0) (eOp fSub (eV 1) (eC (.int 1))))))) (sRet (eC (.str [111, 114, 100, 101, 114]))) sNil)
def s_notice_fault_5 : MS := (sRet (eIf (tTruN (eQ anyB pbTog (eCut (eV 0) oNone (oSome (eV 1))))) (eC (.str [116, 119, 105, 99, 101])) (eC .non)))
def m_notice_fault : MS :=
  (sSeq s_notice_fault_1
  (sSeq s_notice_fault_2
  (sSeq s_notice_fault_3
  (sSeq s_notice_fault_4
  s_notice_fault_5))))
def f_notice_fault : List D → PR := pureOf 6 2 m_notice_fault
/-! check_notices -/
abbrev st_check_notices : Stmt := top 13
abbrev N_check_notices : List Str := ["notices", "place", "fault"]
abbrev P_check_notices : List Str := ["notices"]
structure L_check_notices where
  v_notices : Option D := none
  v_place : Option D := none
  v_fault : Option D := none
  mm : List Ob := []
def L_check_notices.S (v : L_check_notices) : S := ⟨[v.v_notices, v.v_place, v.v_fault], v.mm⟩
def s_check_notices_1 : MS := (sAsg (eCall f_notice_fault (aCons (eV 0) (aCons (eV 1) aNil))) (gN 2))
def s_check_notices_2 : MS := (sIf (tBl (eOp fIsn (eV 2) (eC .non))) (sRaise "BadNotices" ["place", "fault"] (aCons (eV 1) (aCons (eV 2) aNil))) sNil)
def b_check_notices_3 : MS := (sSeq s_check_notices_1
  s_check_notices_2)
def m_check_notices : MS :=
  (sFor (iRg1M (aCons (eCB cLen (aCons (eV 0) aNil)) aNil)) (gN 1) b_check_notices_3)
def f_check_notices : List D → PR := pureOf 3 1 m_check_notices
/-! _law_cell -/
abbrev st__law_cell : Stmt := top 15
abbrev N__law_cell : List Str := ["script", "k"]
abbrev P__law_cell : List Str := ["script", "k"]
structure L__law_cell where
  v_script : Option D := none
  v_k : Option D := none
  mm : List Ob := []
def L__law_cell.S (v : L__law_cell) : S := ⟨[v.v_script, v.v_k], v.mm⟩
def s__law_cell_1 : MS := (sIf (tBl (eOp fLt (eV 1) (eCB cLen (aCons (eV 0) aNil)))) (sRet (eOp fIx (eV 0) (eV 1))) sNil)
def s__law_cell_2 : MS := (sRet (eOp fAdd (eOp fMul (eC (.int 5)) (eV 1)) (eC (.int 3))))
def m__law_cell : MS :=
  (sSeq s__law_cell_1
  s__law_cell_2)
def f__law_cell : List D → PR := pureOf 2 2 m__law_cell
/-! _law_draws -/
abbrev st__law_draws : Stmt := top 16
abbrev N__law_draws : List Str := ["cell", "count", "rest", "digits", "seed", "draws", "k", "mixed"]
abbrev P__law_draws : List Str := ["cell", "count"]
structure L__law_draws where
  v_cell : Option D := none
  v_count : Option D := none
  v_rest : Option D := none
  v_digits : Option D := none
  v_seed : Option D := none
  v_draws : Option D := none
  v_k : Option D := none
  v_mixed : Option D := none
  mm : List Ob := []
def L__law_draws.S (v : L__law_draws) : S := ⟨[v.v_cell, v.v_count, v.v_rest, v.v_digits, v.v_seed, v.v_draws, v.v_k, v.v_mixed], v.mm⟩
def b__law_draws_1 : MS := (sIf (tAndM (tTruN (eV 3)) (tBl (eOp fGt (eV 2) (eC (.int 0))))) (sSeq (sDrop (eLM lmApp (eV 5) (aCons (eOp fMod (eCB (c1 gInt) (aCons (eV 2) aNil)) (eC (.int 5040))) aNil)))
  (sAsg (eOp fDiv (eV 2) (eC (.int 5040))) (gN 2))) (sSeq (sAsg (eOp fMod (eCB (c1 gInt) (aCons (eOp fAdd (eOp fAdd (eOp fMul (eV 4) (eC (.int 48271))) (eOp fMul (eOp fAdd (eV 6) (eC (.int 1))) (eC (.int 69621)))) (eC (.int 11))) aNil)) (eC (.int 2147483647))) (gN 7))
  (sSeq (sAsg (eOp fMod (eCB (c1 gInt) (aCons (eOp fAdd (eOp fMul (eV 7) (eV 7)) (eOp fMul (eC (.int 40692)) (eOp fAdd (eV 6) (eC (.int 3))))) aNil)) (eC (.int 2147483399))) (gN 7))
  (sDrop (eLM lmApp (eV 5) (aCons (eOp fMod (eCB (c1 gInt) (aCons (eOp fDiv (eV 7) (eC (.int 64))) aNil)) (eC (.int 5040))) aNil))))))
def s__law_draws_2 : MS := (sAsg (eCB (c1 gAbs) (aCons (eCB (c1 gInt) (aCons (eV 0) aNil)) aNil)) (gN 2))
def s__law_draws_3 : MS := (sAsg (eOp fGe (eV 2) (eOp fPow (eC (.int 10)) (eC (.int 18)))) (gN 3))
def s__law_draws_4 : MS := (sAsg (eV 2) (gN 4))
def s__law_draws_5 : MS := (sAsg (eOwn (fLst aNil)) (gN 5))
def s__law_draws_6 : MS := (sFor (iRg1M (aCons (eV 1) aNil)) (gN 6) b__law_draws_1)
def s__law_draws_7 : MS := (sRet (eTake 5))
def m__law_draws : MS :=
  (sSeq s__law_draws_2
  (sSeq s__law_draws_3
  (sSeq s__law_draws_4
  (sSeq s__law_draws_5
  (sSeq s__law_draws_6
  s__law_draws_7)))))
def f__law_draws : List D → PR := pureOf 8 2 m__law_draws
/-! _law_is_integer -/
abbrev st__law_is_integer : Stmt := top 17
abbrev N__law_is_integer : List Str := ["value"]
abbrev P__law_is_integer : List Str := ["value"]
structure L__law_is_integer where
  v_value : Option D := none
  mm : List Ob := []
def L__law_is_integer.S (v : L__law_is_integer) : S := ⟨[v.v_value], v.mm⟩
def m__law_is_integer : MS :=
  (sRet (eAndV (eIsi "int" (eV 0)) (eNotV (eIsi "bool" (eV 0)))))
def f__law_is_integer : List D → PR := pureOf 1 1 m__law_is_integer
/-! _law_alphabet -/
abbrev st__law_alphabet : Stmt := top 18
abbrev N__law_alphabet : List Str := ["draws", "count", "pool", "found", "at"]
abbrev P__law_alphabet : List Str := ["draws", "count"]
structure L__law_alphabet where
  v_draws : Option D := none
  v_count : Option D := none
  v_pool : Option D := none
  v_found : Option D := none
  v_at : Option D := none
  mm : List Ob := []
def L__law_alphabet.S (v : L__law_alphabet) : S := ⟨[v.v_draws, v.v_count, v.v_pool, v.v_found, v.v_at], v.mm⟩
def c__law_alphabet_1 : MF := (fLc (iRg1M (aCons (eV 1) aNil)) (gN 4) tYesM (eLM lmPopAt (eV 2) (aCons (eOp fMod (eCB (c1 gInt) (aCons (eOp fIx (eV 0) (eV 4)) aNil)) (eCB cLen (aCons (eV 2) aNil))) aNil)) [4])
def s__law_alphabet_2 : MS := (sAsg (eOwn (fCB gListS (aCons (eC (.str [97, 98, 99, 100, 101, 102, 103, 104, 105, 106, 107, 108, 109, 110, 111, 112, 113, 114, 115, 116, 117, 118, 119, 120, 121, 122])) aNil))) (gN 2))
def s__law_alphabet_3 : MS := (sAsg (eFrz c__law_alphabet_1) (gN 3))
def s__law_alphabet_4 : MS := (sRet (eJoin (eC (.str [])) (eFrz (fCB gSorted (aCons (eV 3) aNil)))))
def m__law_alphabet : MS :=
  (sSeq s__law_alphabet_2
  (sSeq s__law_alphabet_3
  s__law_alphabet_4))
def f__law_alphabet : List D → PR := pureOf 5 2 m__law_alphabet
/-! _law_is -/
abbrev st__law_is : Stmt := top 19
abbrev N__law_is : List Str := ["value", "due", "at"]
abbrev P__law_is : List Str := ["value", "due"]
structure L__law_is where
  v_value : Option D := none
  v_due : Option D := none
  v_at : Option D := none
  mm : List Ob := []
def L__law_is.S (v : L__law_is) : S := ⟨[v.v_value, v.v_due, v.v_at], v.mm⟩
def c__law_is_1 (rec : List D → PR) : MF := (fLc (iRg1M (aCons (eCB cLen (aCons (eV 1) aNil)) aNil)) (gN 2) tYesM (eCall rec (aCons (eOp fIx (eV 0) (eV 2)) (aCons (eOp fIx (eV 1) (eV 2)) aNil))) [2])
def s__law_is_2 : MS := (sIf (tBl (eOp fIs (eV 1) (eC .non))) (sRet (eOp fIs (eV 0) (eC .non))) sNil)
def s__law_is_3 : MS := (sIf (tTruN (eIsi "bool" (eV 1))) (sRet (eAndV (eIsi "bool" (eV 0)) (eOp fEq (eV 0) (eV 1)))) sNil)
def s__law_is_4 : MS := (sIf (tTruN (eIsi "int" (eV 1))) (sRet (eAndV (eCall f__law_is_integer (aCons (eV 0) aNil)) (eOp fEq (eV 0) (eV 1)))) sNil)
def s__law_is_5 : MS := (sIf (tTruN (eIsi "str" (eV 1))) (sRet (eAndV (eIsi "str" (eV 0)) (eOp fEq (eV 0) (eV 1)))) sNil)
def s__law_is_6 : MS := (sIf (tOrM (tNotM (tTruN (eIsi "tuple" (eV 0)))) (tBl (eOp fNe (eCB cLen (aCons (eV 0) aNil)) (eCB cLen (aCons (eV 1) aNil))))) (sRet (eC (.bl false))) sNil)
def s__law_is_7 (rec : List D → PR) : MS := (sRet (eCB (c1 (gAllL allB)) (aCons (eFrz (c__law_is_1 rec)) aNil)))
def m__law_is (rec : List D → PR) : MS :=
  (sSeq s__law_is_2
  (sSeq s__law_is_3
  (sSeq s__law_is_4
  (sSeq s__law_is_5
  (sSeq s__law_is_6
  (s__law_is_7 rec))))))
def f__law_is : Nat → List D → PR
  | 0 => fun _ => .no
  | n + 1 => pureOf 3 2 (m__law_is (f__law_is n))
/-! _law_az -/
abbrev st__law_az : Stmt := top 20
abbrev N__law_az : List Str := ["text"]
abbrev P__law_az : List Str := ["text"]
structure L__law_az where
  v_text : Option D := none
  mm : List Ob := []
def L__law_az.S (v : L__law_az) : S := ⟨[v.v_text], v.mm⟩
def m__law_az : MS :=
  (sRet (eAndV (eOp fEq (eCB cLen (aCons (eV 0) aNil)) (eC (.int 1))) (eChain fLe fLe (eC (.str [97])) (eV 0) (eC (.str [122])))))
def f__law_az : List D → PR := pureOf 1 1 m__law_az
/-! _law_notices -/
abbrev st__law_notices : Stmt := top 21
abbrev N__law_notices : List Str := ["draws", "alphabet", "count", "days", "found", "at", "part", "first", "last", "address", "met", "one"]
abbrev P__law_notices : List Str := ["draws", "alphabet", "count", "days"]
structure L__law_notices where
  v_draws : Option D := none
  v_alphabet : Option D := none
  v_count : Option D := none
  v_days : Option D := none
  v_found : Option D := none
  v_at : Option D := none
  v_part : Option D := none
  v_first : Option D := none
  v_last : Option D := none
  v_address : Option D := none
  v_met : Option D := none
  v_one : Option D := none
  mm : List Ob := []
def L__law_notices.S (v : L__law_notices) : S := ⟨[v.v_draws, v.v_alphabet, v.v_count, v.v_days, v.v_found, v.v_at, v.v_part, v.v_first, v.v_last, v.v_address, v.v_met, v.v_one], v.mm⟩
def c__law_notices_1 : MF := (fLcO 4 (gN 11) (tAndM (tBl (eOp fEq (eOp fIx (eV 11) (eC (.int 0))) (eV 9))) (tBl (eOp fLe (eOp fIx (eV 11) (eC (.int 1))) (eV 8)))) (eV 11) [11])
def c__law_notices_2 : MF := (fLc (iSeqM (eV 10)) (gN 11) (tBl (eOp fLe (eV 7) (eOp fIx (eV 11) (eC (.int 2))))) (eV 11) [11])
def s__law_notices_3 : MS := (sAsg (eCut (eV 0) (oSome (eOp fMul (eC (.int 4)) (eV 5))) (oSome (eOp fAdd (eOp fMul (eC (.int 4)) (eV 5)) (eC (.int 4))))) (gN 6))
def s__law_notices_4 : MS := (sAsg (eOp fMod (eCB (c1 gInt) (aCons (eOp fIx (eV 6) (eC (.int 1))) aNil)) (eV 3)) (gN 7))
def s__law_notices_5 : MS := (sAsg (eCB (c2 gMin2) (aCons (eOp fSub (eV 3) (eC (.int 1))) (aCons (eOp fAdd (eV 7) (eOp fIx (eTup (aCons (eC (.int 0)) (aCons (eC (.int 1)) (aCons (eV 3) (aCons (eC (.int 2)) (aCons (eC (.int 5)) (aCons (eC (.int 40)) aNil))))))) (eOp fMod (eCB (c1 gInt) (aCons (eOp fIx (eV 6) (eC (.int 2))) aNil)) (eC (.int 6))))) aNil))) (gN 8))
def s__law_notices_6 : MS := (sAsg (eOp fIx (eV 1) (eOp fMod (eCB (c1 gInt) (aCons (eOp fIx (eV 6) (eC (.int 0))) aNil)) (eCB cLen (aCons (eV 1) aNil)))) (gN 9))
def s__law_notices_7 : MS := (sAsg (eFrz c__law_notices_1) (gN 10))
def s__law_notices_8 : MS := (sIf (tBl (eOp fEq (eCB cLen (aCons (eFrz c__law_notices_2) aNil)) (eC (.int 0)))) (sDrop (eLM lmApp (eV 4) (aCons (eTup (aCons (eV 9) (aCons (eV 7) (aCons (eV 8) (aCons (eOp fIx (eV 1) (eOp fMod (eCB (c1 gInt) (aCons (eOp fIx (eV 6) (eC (.int 3))) aNil)) (eCB cLen (aCons (eV 1) aNil)))) aNil))))) aNil))) sNil)
def b__law_notices_9 : MS := (sSeq s__law_notices_3
  (sSeq s__law_notices_4
  (sSeq s__law_notices_5
  (sSeq s__law_notices_6
  (sSeq s__law_notices_7
  s__law_notices_8)))))
def s__law_notices_10 : MS := (sAsg (eOwn (fLst aNil)) (gN 4))
def s__law_notices_11 : MS := (sFor (iRg1M (aCons (eIf (tBl (eOp fGt (eCB cLen (aCons (eV 1) aNil)) (eC (.int 0)))) (eV 2) (eC (.int 0))) aNil)) (gN 5) b__law_notices_9)
def s__law_notices_12 : MS := (sRet (eCB (c1 gTuple) (aCons (eFrz (fCB gSorted (aCons (eV 4) aNil))) aNil)))
def m__law_notices : MS :=
  (sSeq s__law_notices_10
  (sSeq s__law_notices_11
  s__law_notices_12))
def f__law_notices : List D → PR := pureOf 12 4 m__law_notices
/-! _law_due -/
abbrev st__law_due : Stmt := top 22
abbrev N__law_due : List Str := ["notices", "at", "address", "first", "last", "new", "other"]
abbrev P__law_due : List Str := ["notices"]
structure L__law_due where
  v_notices : Option D := none
  v_at : Option D := none
  v_address : Option D := none
  v_first : Option D := none
  v_last : Option D := none
  v_new : Option D := none
  v_other : Option D := none
  mm : List Ob := []
def L__law_due.S (v : L__law_due) : S := ⟨[v.v_notices, v.v_at, v.v_address, v.v_first, v.v_last, v.v_new, v.v_other], v.mm⟩
def b__law_due_1 : MS := (sIf (tAndM (tBl (eOp fEq (eOp fIx (eV 6) (eC (.int 0))) (eV 2))) (tBl (eOp fLe (eCB (c2 gMax2) (aCons (eV 3) (aCons (eOp fIx (eV 6) (eC (.int 1))) aNil))) (eCB (c2 gMin2) (aCons (eV 4) (aCons (eOp fIx (eV 6) (eC (.int 2))) aNil)))))) (sRet (eTup (aCons (eV 1) (aCons (eC (.str [116, 119, 105, 99, 101])) aNil)))) sNil)
def s__law_due_2 : MS := (sAsg (eOp fIx (eV 0) (eV 1)) (gTupM (gsCons (gN 2) (gsCons (gN 3) (gsCons (gN 4) (gsCons (gN 5) gsNil))))))
def s__law_due_3 : MS := (sIf (tOrM (tNotM (tTruN (eCall f__law_az (aCons (eV 2) aNil)))) (tNotM (tTruN (eCall f__law_az (aCons (eV 5) aNil))))) (sRet (eTup (aCons (eV 1) (aCons (eC (.str [97, 100, 100, 114, 101, 115, 115])) aNil)))) sNil)
def s__law_due_4 : MS := (sIf (tOrM (tBl (eOp fLt (eV 3) (eC (.int 0)))) (tBl (eOp fLt (eV 4) (eV 3)))) (sRet (eTup (aCons (eV 1) (aCons (eC (.str [100, 97, 121, 115])) aNil)))) sNil)
def s__law_due_5 : MS := (sIf (tAndM (tBl (eOp fGt (eV 1) (eC (.int 0)))) (tNotM (tBl (eOp fLtD (eOp fIx (eV 0) (eOp fSub (eV 1) (eC (.int 1)))) (eOp fIx (eV 0) (eV 1)))))) (sRet (eTup (aCons (eV 1) (aCons (eC (.str [111, 114, 100, 101, 114])) aNil)))) sNil)
def s__law_due_6 : MS := (sFor (iSeqM (eCut (eV 0) oNone (oSome (eV 1)))) (gN 6) b__law_due_1)
def b__law_due_7 : MS := (sSeq s__law_due_2
  (sSeq s__law_due_3
  (sSeq s__law_due_4
  (sSeq s__law_due_5
  s__law_due_6))))
def s__law_due_8 : MS := (sFor (iRg1M (aCons (eCB cLen (aCons (eV 0) aNil)) aNil)) (gN 1) b__law_due_7)
def s__law_due_9 : MS := (sRet (eC .non))
def m__law_due : MS :=
  (sSeq s__law_due_8
  s__law_due_9)
def f__law_due : List D → PR := pureOf 7 1 m__law_due
/-! _law_told -/
abbrev st__law_told : Stmt := top 23
abbrev N__law_told : List Str := ["notices", "e"]
abbrev P__law_told : List Str := ["notices"]
structure L__law_told where
  v_notices : Option D := none
  v_e : Option D := none
  mm : List Ob := []
def L__law_told.S (v : L__law_told) : S := ⟨[v.v_notices, v.v_e], v.mm⟩
def m__law_told : MS :=
  (sTryAs 1 "BadNotices" (sRet (eTup (aCons (eC (.bl false)) (aCons (eCall f_check_notices (aCons (eV 0) aNil)) aNil)))) fun a d => (sSeq (sIf (tOrM (tNotM (tTruN (eIsE 1 true a d))) (tNotM (tTruN (eIsE 1 true a d)))) (sRet (eTup (aCons (eC (.bl true)) (aCons (eC .non) aNil)))) sNil)
  (sSeq (sIf (tOrM (tTruN (eIsE 1 false a d)) (tOrM (tTruN (eIsE 1 false a d)) (tOrM (tTruN (eIsE 1 false a d)) (tTruN (eIsE 1 false a d))))) (sRet (eTup (aCons (eC (.bl true)) (aCons (eC .non) aNil)))) sNil)
  (sRet (eTup (aCons (eC (.bl true)) (aCons (eTup (aCons (eFld 1 "place" a d) (aCons (eFld 1 "fault" a d) aNil))) aNil)))))))
def f__law_told : List D → PR := pureOf 2 1 m__law_told
/-! _law_right -/
abbrev st__law_right : Stmt := top 24
abbrev N__law_right : List Str := ["notices", "due", "raised", "told"]
abbrev P__law_right : List Str := ["notices"]
structure L__law_right where
  v_notices : Option D := none
  v_due : Option D := none
  v_raised : Option D := none
  v_told : Option D := none
  mm : List Ob := []
def L__law_right.S (v : L__law_right) : S := ⟨[v.v_notices, v.v_due, v.v_raised, v.v_told], v.mm⟩
def s__law_right_1 : MS := (sAsg (eCall f__law_due (aCons (eV 0) aNil)) (gN 1))
def s__law_right_2 : MS := (sAsg (eCall f__law_told (aCons (eV 0) aNil)) (gTupM (gsCons (gN 2) (gsCons (gN 3) gsNil))))
def s__law_right_3 : MS := (sRet (eAndV (eOp fEq (eV 2) (eOp fIsn (eV 1) (eC .non))) (eCall (f__law_is 6) (aCons (eV 3) (aCons (eV 1) aNil)))))
def m__law_right : MS :=
  (sSeq s__law_right_1
  (sSeq s__law_right_2
  s__law_right_3))
def f__law_right : List D → PR := pureOf 4 1 m__law_right
/-! _law_bent -/
abbrev st__law_bent : Stmt := top 25
abbrev N__law_bent : List Str := ["notices", "draws", "at", "address", "first", "last", "new", "kind", "strange", "number", "one"]
abbrev P__law_bent : List Str := ["notices", "draws"]
structure L__law_bent where
  v_notices : Option D := none
  v_draws : Option D := none
  v_at : Option D := none
  v_address : Option D := none
  v_first : Option D := none
  v_last : Option D := none
  v_new : Option D := none
  v_kind : Option D := none
  v_strange : Option D := none
  v_number : Option D := none
  v_one : Option D := none
  mm : List Ob := []
def L__law_bent.S (v : L__law_bent) : S := ⟨[v.v_notices, v.v_draws, v.v_at, v.v_address, v.v_first, v.v_last, v.v_new, v.v_kind, v.v_strange, v.v_number, v.v_one], v.mm⟩
def s__law_bent_1 : MS := (sIf (tBl (eOp fEq (eCB cLen (aCons (eV 0) aNil)) (eC (.int 0)))) (sRet (eCut (eTup (aCons (eTup (aCons (eC (.str [97])) (aCons (eC (.int 3)) (aCons (eC (.int 2)) (aCons (eC (.str [98])) aNil))))) (aCons (eTup (aCons (eC (.str [98])) (aCons (eC (.int 0)) (aCons (eC (.int 0)) (aCons (eC (.str [])) aNil))))) aNil))) (oSome (eOp fMod (eCB (c1 gInt) (aCons (eOp fIx (eV 1) (eC (.int 0))) aNil)) (eC (.int 2)))) oNone)) sNil)
def s__law_bent_2 : MS := (sAsg (eOp fMod (eCB (c1 gInt) (aCons (eOp fIx (eV 1) (eC (.int 0))) aNil)) (eCB cLen (aCons (eV 0) aNil))) (gN 2))
def s__law_bent_3 : MS := (sAsg (eOp fIx (eV 0) (eV 2)) (gTupM (gsCons (gN 3) (gsCons (gN 4) (gsCons (gN 5) (gsCons (gN 6) gsNil))))))
def s__law_bent_4 : MS := (sAsg (eOp fMod (eCB (c1 gInt) (aCons (eOp fIx (eV 1) (eC (.int 1))) aNil)) (eC (.int 9))) (gN 7))
def s__law_bent_5 : MS := (sAsg (eOp fIx (eTup (aCons (eC (.str [])) (aCons (eC (.str [65])) (aCons (eC (.str [97, 98])) (aCons (eC (.str [49])) (aCons (eOp fAdd (eV 3) (eV 6)) (aCons (eC (.str [63])) (aCons (eC (.str [32])) (aCons (eOp fMulA (eV 3) (eC (.int 12))) aNil))))))))) (eOp fMod (eCB (c1 gInt) (aCons (eOp fIx (eV 1) (eC (.int 2))) aNil)) (eC (.int 8)))) (gN 8))
def s__law_bent_6 : MS := (sAsg (eOp fIx (eTup (aCons (eOp fSub (eC (.int 0)) (eC (.int 1))) (aCons (eOp fAdd (eV 5) (eC (.int 1))) (aCons (eOp fPow (eC (.int 10)) (eC (.int 9))) (aCons (eOp fSub (eC (.int 0)) (eOp fPow (eC (.int 10)) (eC (.int 20)))) (aCons (eV 5) (aCons (eC (.int 400)) aNil))))))) (eOp fMod (eOp fDiv (eCB (c1 gInt) (aCons (eOp fIx (eV 1) (eC (.int 2))) aNil)) (eC (.int 8))) (eC (.int 6)))) (gN 9))
def s__law_bent_7 : MS := (sAsg (eTup (aCons (eTup (aCons (eV 8) (aCons (eV 4) (aCons (eV 5) (aCons (eV 6) aNil))))) (aCons (eTup (aCons (eV 3) (aCons (eV 4) (aCons (eV 5) (aCons (eV 8) aNil))))) (aCons (eTup (aCons (eV 3) (aCons (eV 9) (aCons (eV 5) (aCons (eV 6) aNil))))) aNil)))) (gN 10))
def s__law_bent_8 : MS := (sAsg (eOp fIx (eOp fAdd (eV 10) (eTup (aCons (eTup (aCons (eV 3) (aCons (eOp fAdd (eV 5) (eC (.int 1))) (aCons (eV 4) (aCons (eV 6) aNil))))) (aCons (eTup (aCons (eV 3) (aCons (eV 4) (aCons (eV 9) (aCons (eV 6) aNil))))) aNil)))) (eOp fMod (eV 7) (eC (.int 5)))) (gN 10))
def s__law_bent_9 : MS := (sIf (tBl (eOp fLt (eV 7) (eC (.int 5)))) (sRet (eOp fAdd (eOp fAdd (eCut (eV 0) oNone (oSome (eV 2))) (eTup (aCons (eV 10) aNil))) (eCut (eV 0) (oSome (eOp fAdd (eV 2) (eC (.int 1)))) oNone))) sNil)
def s__law_bent_10 : MS := (sIf (tBl (eOp fEq (eV 7) (eC (.int 5)))) (sRet (eOp fAdd (eOp fAdd (eCut (eV 0) oNone (oSome (eV 2))) (eTup (aCons (eOp fIx (eV 0) (eV 2)) aNil))) (eCut (eV 0) (oSome (eV 2)) oNone))) sNil)
def s__law_bent_11 : MS := (sIf (tBl (eOp fEq (eV 7) (eC (.int 6)))) (sRet (eOp fAdd (eOp fAdd (eCut (eV 0) oNone (oSome (eV 2))) (eCut (eV 0) (oSome (eOp fAdd (eV 2) (eC (.int 1)))) oNone)) (eTup (aCons (eOp fIx (eV 0) (eV 2)) aNil)))) sNil)
def s__law_bent_12 : MS := (sIf (tBl (eOp fEq (eV 7) (eC (.int 7)))) (sRet (eCB (c1 gTuple) (aCons (eFrz (fCB gSortedT (aCons (eOp fAdd (eV 0) (eTup (aCons (eTup (aCons (eV 3) (aCons (eV 5) (aCons (eOp fAdd (eV 5) (eOp fMod (eCB (c1 gInt) (aCons (eOp fIx (eV 1) (eC (.int 2))) aNil)) (eC (.int 3)))) (aCons (eC (.str [113])) aNil))))) aNil))) aNil))) aNil))) sNil)
def s__law_bent_13 : MS := (sRet (eBack (eV 0)))
def m__law_bent : MS :=
  (sSeq s__law_bent_1
  (sSeq s__law_bent_2
  (sSeq s__law_bent_3
  (sSeq s__law_bent_4
  (sSeq s__law_bent_5
  (sSeq s__law_bent_6
  (sSeq s__law_bent_7
  (sSeq s__law_bent_8
  (sSeq s__law_bent_9
  (sSeq s__law_bent_10
  (sSeq s__law_bent_11
  (sSeq s__law_bent_12
  s__law_bent_13))))))))))))
def f__law_bent : List D → PR := pureOf 11 2 m__law_bent
/-! law -/
abbrev st_law : Stmt := top 26
abbrev N_law : List Str := ["script", "draws", "alphabet", "many", "days", "notices", "bent", "k"]
abbrev P_law : List Str := ["script"]
structure L_law where
  v_script : Option D := none
  v_draws : Option D := none
  v_alphabet : Option D := none
  v_many : Option D := none
  v_days : Option D := none
  v_notices : Option D := none
  v_bent : Option D := none
  v_k : Option D := none
  mm : List Ob := []
def L_law.S (v : L_law) : S := ⟨[v.v_script, v.v_draws, v.v_alphabet, v.v_many, v.v_days, v.v_notices, v.v_bent, v.v_k], v.mm⟩
def s_law_1 : MS := (sIf (tNotM (tTruN (eCall f__law_right (aCons (eV 6) aNil)))) (sRet (eC (.bl false))) sNil)
def s_law_2 : MS := (sAsg (eCall f__law_bent (aCons (eV 6) (aCons (eCut (eV 1) (oSome (eOp fAdd (eC (.int 10)) (eOp fMul (eC (.int 3)) (eV 7)))) (oSome (eOp fAdd (eC (.int 13)) (eOp fMul (eC (.int 3)) (eV 7))))) aNil))) (gN 6))
def b_law_3 : MS := (sSeq s_law_1
  s_law_2)
def s_law_4 : MS := (sAsg (eCall f__law_draws (aCons (eCall f__law_cell (aCons (eV 0) (aCons (eC (.int 0)) aNil))) (aCons (eC (.int 24)) aNil))) (gN 1))
def s_law_5 : MS := (sAsg (eCall f__law_alphabet (aCons (eCut (eV 1) oNone (oSome (eC (.int 6)))) (aCons (eOp fIx (eTup (aCons (eC (.int 3)) (aCons (eC (.int 6)) (aCons (eC (.int 1)) (aCons (eC (.int 4)) (aCons (eC (.int 2)) (aCons (eC (.int 5)) aNil))))))) (eOp fMod (eCB (c1 gInt) (aCons (eOp fIx (eV 1) (eC (.int 6))) aNil)) (eC (.int 6)))) aNil))) (gN 2))
def s_law_6 : MS := (sAsg (eOp fIx (eTup (aCons (eC (.int 5)) (aCons (eC (.int 3)) (aCons (eC (.int 8)) (aCons (eC (.int 1)) (aCons (eC (.int 10)) (aCons (eC (.int 2)) (aCons (eC (.int 6)) (aCons (eC (.int 4)) (aCons (eC (.int 7)) (aCons (eC (.int 0)) (aCons (eC (.int 9)) (aCons (eC (.int 40)) aNil))))))))))))) (eOp fMod (eCB (c1 gInt) (aCons (eOp fIx (eV 1) (eC (.int 7))) aNil)) (eC (.int 12)))) (gN 3))
def s_law_7 : MS := (sAsg (eIf (tBl (eOp fGt (eV 3) (eC (.int 8)))) (eC (.int 401)) (eOp fIx (eTup (aCons (eC (.int 30)) (aCons (eC (.int 401)) (aCons (eC (.int 9)) aNil)))) (eOp fMod (eCB (c1 gInt) (aCons (eOp fIx (eV 1) (eC (.int 8))) aNil)) (eC (.int 3))))) (gN 4))
def s_law_8 : MS := (sAsg (eCall f__law_notices (aCons (eCall f__law_draws (aCons (eCall f__law_cell (aCons (eV 0) (aCons (eC (.int 1)) aNil))) (aCons (eOp fMul (eC (.int 4)) (eV 3)) aNil))) (aCons (eV 2) (aCons (eV 3) (aCons (eV 4) aNil))))) (gN 5))
def s_law_9 : MS := (sAsg (eV 5) (gN 6))
def s_law_10 : MS := (sFor (iRg1M (aCons (eOp fAdd (eC (.int 1)) (eOp fMod (eCB (c1 gInt) (aCons (eOp fIx (eV 1) (eC (.int 9))) aNil)) (eC (.int 3)))) aNil)) (gN 7) b_law_3)
def s_law_11 : MS := (sRet (eAndV (eCall f__law_right (aCons (eV 6) aNil)) (eAndV (eCall f__law_right (aCons (eV 5) aNil)) (eAndV (eCall f__law_right (aCons (eOp fAdd (eCut (eV 6) oNone (oSome (eC (.int 1)))) (eV 5)) aNil)) (eCall f__law_right (aCons (eTup aNil) aNil))))))
def m_law : MS :=
  (sSeq s_law_4
  (sSeq s_law_5
  (sSeq s_law_6
  (sSeq s_law_7
  (sSeq s_law_8
  (sSeq s_law_9
  (sSeq s_law_10
  s_law_11)))))))
def f_law : List D → PR := pureOf 8 1 m_law
end
end K73
namespace K73
open PySem L2 VL
structure Row where
  z : List Nat
  a : Int
  b : Int
  y : List Nat
def rowD (r : Row) : D := .tup [.str r.z, .int r.a, .int r.b, .str r.y]
def tabD (t : List Row) : D := .tup (t.map rowD)
def isL : List Nat → Bool
  | [c] => decide (97 ≤ c ∧ c ≤ 122)
  | _ => false
def Sg (z : List Nat) : Prop := z.length ≤ 100000 ∧ ∀ c ∈ z, c < 1114112
def Fine (r : Row) : Prop := Sg r.z ∧ Sg r.y
@[simp] theorem x_fIn1 {c : Nat} {z : List Nat} {s : S} : fIn (.str [c]) (.str z) s = .ok (.bl (decide (c ∈ z)), s) := rfl
theorem letter_ok {z : List Nat} (h : z.length ≤ 100000) : f_is_letter [.str z] = .ok (.bl (isL z)) := by
  have hz : z.length ≤ SZ := by rw [SZv]; omega
  refine pure_rt rfl ⟨⟨[some (.str z)], []⟩, ?_⟩ rfl
  match z, hz with
  | [], _ => simp [m_is_letter, isL, SZv]
  | [c], _ =>
    simp [m_is_letter, isL, SZv]
    rw [Bool.eq_iff_iff]
    simp
    omega
  | a :: b :: r, hz =>
    have h2 : r.length + 1 + 1 ≤ SZ := by simpa using hz
    have h3 : ¬ ((r.length : Int) + 1 + 1 = 1) := by omega
    simp [m_is_letter, isL, h2, h3]
theorem az_ok {z : List Nat} (h : z.length ≤ 100000) : f__law_az [.str z] = .ok (.bl (isL z)) := by
  have hz : z.length ≤ SZ := by rw [SZv]; omega
  refine pure_rt rfl ⟨⟨[some (.str z)], []⟩, ?_⟩ rfl
  match z, hz with
  | [], _ => simp [m__law_az, isL, SZv]
  | [c], _ =>
    by_cases h1 : 97 ≤ c
    · by_cases h2 : c ≤ 122
      · have h3 : ¬ c < 97 := by omega
        have h4 : ¬ 122 < c := by omega
        simp [m__law_az, isL, SZv, h1, h2, h3, h4, List.cons_lt_cons_iff]
      · have h3 : ¬ c < 97 := by omega
        have h4 : 122 < c := by omega
        simp [m__law_az, isL, SZv, h1, h2, h3, h4, List.cons_lt_cons_iff]
    · have h3 : c < 97 := by omega
      simp [m__law_az, isL, SZv, h1, h3, List.cons_lt_cons_iff]
  | a :: b :: r, hz =>
    have h2 : r.length + 1 + 1 ≤ SZ := by simpa using hz
    have h3 : ¬ ((r.length : Int) + 1 + 1 = 1) := by omega
    simp [m__law_az, isL, h2, h3]
/-! ### the order of rows -/
noncomputable def ordB (a b : Row) : Bool := PySem.W.dataLt (toP (rowD a)) (toP (rowD b))
theorem okD_row {n : Nat} {r : Row} (h : Fine r) : okD (n + 1) (rowD r) = true := by
  obtain ⟨⟨_, h1⟩, _, h2⟩ := h
  simp only [rowD, okD, okDs, Bool.and_true, Bool.true_and, Bool.and_eq_true, List.all_eq_true, decide_eq_true_eq]
  exact ⟨h1, h2⟩
theorem alike_row (a b : Row) : PySem.W.alike (toP (rowD a)) (toP (rowD b)) = true := rfl
theorem gDat_row {f : PyData → PyData → Bool} {a b : Row} (ha : Fine a) (hb : Fine b) : gDat f (rowD a) (rowD b) = some (.bl (f (toP (rowD a)) (toP (rowD b)))) := by
  unfold gDat
  rw [okD_row ha, okD_row hb, alike_row]
  rfl
theorem fLtD_row {a b : Row} (ha : Fine a) (hb : Fine b) (s : S) : fLtD (rowD a) (rowD b) s = .ok (.bl (ordB a b), s) := by
  unfold fLtD; rw [gDat_row ha hb]; rfl
theorem fLeD_row {a b : Row} (ha : Fine a) (hb : Fine b) (s : S) : fLeD (rowD a) (rowD b) s = .ok (.bl (!ordB b a), s) := by
  unfold fLeD; rw [gDat_row ha hb]; rfl
theorem okDs_rows {n : Nat} : ∀ {t : List Row}, (∀ r ∈ t, Fine r) → okDs (n + 1) (t.map rowD) = true
  | [], _ => by simp [okDs]
  | r :: t, h => by
    simp only [List.map_cons, okDs, Bool.and_eq_true]
    exact ⟨okD_row (h r (by simp)), okDs_rows fun r hr => h r (by simp [hr])⟩
theorem srt_rows {t : List Row} (h : ∀ r ∈ t, Fine r) : srtOk (t.map rowD) = true := by
  unfold srtOk
  rw [okDs_rows (n := 62) h, Bool.true_and, Bool.and_eq_true]
  constructor
  · refine List.all_eq_true.mpr fun d hd => List.all_eq_true.mpr fun e he => ?_
    obtain ⟨r, _, rfl⟩ := List.mem_map.mp hd
    obtain ⟨q, _, rfl⟩ := List.mem_map.mp he
    exact alike_row r q
  · unfold srtKind
    rw [Bool.or_eq_true]
    refine .inl (List.all_eq_true.mpr fun d hd => ?_)
    obtain ⟨r, _, rfl⟩ := List.mem_map.mp hd
    rfl
theorem rows_of {P : Row → Prop} : ∀ {l : List D}, (∀ d ∈ l, ∃ r, P r ∧ d = rowD r) → ∃ t : List Row, l = t.map rowD ∧ ∀ r ∈ t, P r
  | [], _ => ⟨[], rfl, by simp⟩
  | d :: l, h => by
    obtain ⟨r, hr, rfl⟩ := h d (by simp)
    obtain ⟨t, rfl, ht⟩ := rows_of (l := l) fun d hd => h d (List.mem_cons_of_mem _ hd)
    exact ⟨r :: t, rfl, by simpa using ⟨hr, ht⟩⟩
theorem sort_rows {t : List Row} {P : Row → Prop} (h : ∀ r ∈ t, P r) : ∃ t' : List Row, sortD (t.map rowD) = t'.map rowD ∧ t'.length = t.length ∧ ∀ r ∈ t', P r := by
  obtain ⟨t', e, ht⟩ := rows_of (P := P) (l := sortD (t.map rowD)) fun d hd => by
    obtain ⟨r, hr, rfl⟩ := List.mem_map.mp (sortD_mem.mp hd)
    exact ⟨r, h r hr, rfl⟩
  refine ⟨t', e, ?_, ht⟩
  have := sortD_len (t.map rowD)
  rw [e] at this
  simpa using this
/-! ### the fault of a place -/
def tog (r o : Row) : Bool := decide (r.z = o.z) && (decide (r.a ≤ o.b) && decide (o.a ≤ r.b))
def togL (r o : Row) : Bool := decide (o.z = r.z) && decide ((if o.a > r.a then o.a else r.a) ≤ (if o.b < r.b then o.b else r.b))
def zAddr : List Nat := [97, 100, 100, 114, 101, 115, 115]
def zDays : List Nat := [100, 97, 121, 115]
def zOrd : List Nat := [111, 114, 100, 101, 114]
def zTw : List Nat := [116, 119, 105, 99, 101]
def bad1 (r : Row) : Bool := !isL r.z || !isL r.y
def bad2 (r : Row) : Bool := decide (r.a < 0 ∨ r.b < r.a)
noncomputable def bad3 (t : List Row) (i : Nat) (r : Row) : Bool := match t[i - 1]? with
  | some o => decide (0 < i) && !ordB o r
  | none => false
noncomputable def fltG (tg : Row → Row → Bool) (t : List Row) (i : Nat) : Option (List Nat) := match t[i]? with
  | none => none
  | some r => if bad1 r then some zAddr else if bad2 r then some zDays else if bad3 t i r then some zOrd else if (t.take i).any (tg r) then some zTw else none
noncomputable abbrev flt : List Row → Nat → Option (List Nat) := fltG tog
noncomputable abbrev fltL : List Row → Nat → Option (List Nat) := fltG togL
def optS : Option (List Nat) → D
  | none => .non
  | some z => .str z
theorem flt_days {tg : Row → Row → Bool} {t : List Row} {i : Nat} {r : Row} (h : t[i]? = some r) (hf : fltG tg t i = none) : r.a ≤ r.b := by
  unfold fltG at hf
  rw [h] at hf
  dsimp only at hf
  split at hf
  · cases hf
  · split at hf
    · cases hf
    · rename_i _ h2
      have h2 : ¬ (r.a < 0 ∨ r.b < r.a) := fun q => h2 (decide_eq_true q)
      omega
theorem tog_eq {r o : Row} (h1 : r.a ≤ r.b) (h2 : o.a ≤ o.b) : tog r o = togL r o := by
  unfold tog togL
  by_cases hz : r.z = o.z
  · rw [decide_eq_true hz, decide_eq_true hz.symm, Bool.true_and, Bool.true_and, Bool.eq_iff_iff]
    simp only [Bool.and_eq_true, decide_eq_true_eq]
    constructor
    · intro h; split <;> split <;> omega
    · intro h; split at h <;> split at h <;> omega
  · have hz' : ¬ o.z = r.z := fun q => hz q.symm
    rw [decide_eq_false hz, decide_eq_false hz', Bool.false_and, Bool.false_and]
theorem flt_eq {t : List Row} {i : Nat} (h : ∀ j, 0 ≤ j → j < i → flt t j = none) : flt t i = fltL t i := by
  unfold flt fltL fltG
  cases hr : t[i]? with
  | none => rfl
  | some r =>
    dsimp only
    split
    · rfl
    · split
      · rfl
      · rename_i _ h2
        have h2 : ¬ (r.a < 0 ∨ r.b < r.a) := fun q => h2 (decide_eq_true q)
        have e : (t.take i).any (tog r) = (t.take i).any (togL r) := by
          rw [Bool.eq_iff_iff, List.any_eq_true, List.any_eq_true]
          have key : ∀ o ∈ t.take i, tog r o = togL r o := fun o ho => by
            obtain ⟨j, hj, e⟩ := List.getElem_of_mem ho
            rw [List.length_take] at hj
            rw [List.getElem_take] at e
            exact tog_eq (by omega) (flt_days (i := j) (by rw [List.getElem?_eq_getElem (by omega), e]) (h j (Nat.zero_le _) (by omega)))
          exact ⟨fun ⟨o, ho, q⟩ => ⟨o, ho, by rw [← key o ho]; exact q⟩, fun ⟨o, ho, q⟩ => ⟨o, ho, by rw [key o ho]; exact q⟩⟩
        rw [e]
theorem flt_short {tg : Row → Row → Bool} {t : List Row} {i : Nat} {z : List Nat} (h : fltG tg t i = some z) : z.length ≤ 1000 := by
  unfold fltG at h
  split at h
  · cases h
  · split at h
    · cases h; decide
    · split at h
      · cases h; decide
      · split at h
        · cases h; decide
        · split at h
          · cases h; decide
          · cases h
noncomputable def first (t : List Row) : Option (Nat × List Nat) := (List.range' 0 t.length).findSome? fun i => (flt t i).map fun z => (i, z)
theorem first_eq (t : List Row) : first t = (List.range' 0 t.length).findSome? fun i => (fltL t i).map fun z => (i, z) := by
  refine fs_congr fun i _ _ h => ?_
  rw [flt_eq fun j h1 h2 => ?_]
  have := h j h1 h2
  cases hf : flt t j with
  | none => rfl
  | some z => rw [hf] at this; cases this
end K73
namespace K73
open PySem L2 VL
def Ok (t : List Row) : Prop := (∀ r ∈ t, Fine r) ∧ t.length ≤ 1000000
theorem noLoc_row (r : Row) : noLoc (rowD r) = true := rfl
theorem noLoc_tab (t : List Row) : noLoc (tabD t) = true := by
  show noLocs (t.map rowD) = true
  exact noLocs_all fun d hd => by
    obtain ⟨r, _, rfl⟩ := List.mem_map.mp hd
    rfl
theorem ixT {t : List Row} {n : Nat} {r : Row} (h : t[n]? = some r) (s : S) : fIx (tabD t) (.int (n : Int)) s = .ok (rowD r, s) := by
  obtain ⟨hn, hr⟩ := List.getElem?_eq_some_iff.mp h
  unfold tabD
  rw [fIxT (by simpa using hn)]
  simp [hr]
theorem cutP (t : List Row) (n : Nat) (s : S) : fCut (tabD t) none (some (n : Int)) s = .ok (tabD (t.take n), s) := by
  unfold tabD
  rw [x_fCutT, cut_take, List.map_take]
theorem cutS (t : List Row) (n : Nat) (s : S) : fCut (tabD t) (some (n : Int)) none s = .ok (tabD (t.drop n), s) := by
  unfold tabD
  rw [x_fCutT, cut_drop, List.map_drop]
theorem atT {t : List Row} {n : Nat} {r : Row} (h : t[n]? = some r) : L2.atI (t.map rowD) (n : Int) = some (rowD r) := by
  obtain ⟨hn, hr⟩ := List.getElem?_eq_some_iff.mp h
  rw [atI_nat (by simpa using hn)]
  simp [hr]
theorem test_tog {t : List Row} {n : Nat} {r : Row} (h : t[n]? = some r) (v : L_notice_fault) (h0 : v.v_notices = some (tabD t)) (h1 : v.v_place = some (.int n)) : ∀ l : List Row, testL pbTog v.S (l.map rowD) = some (l.map (tog r))
  | [] => rfl
  | o :: l => by
    have e : pbTog v.S (rowD o) = some (tog r o) := by
      simp only [pbTog, L_notice_fault.S, h0, h1, tabD, List.getElem?_cons_zero, List.getElem?_cons_succ, atT h]
      rfl
    simp only [List.map_cons, testL, e, test_tog h v h0 h1 l]
theorem fault_ok {t : List Row} {n : Nat} (h : Ok t) (hn : n < t.length) : f_notice_fault [tabD t, .int n] = .ok (optS (flt t n)) := by
  obtain ⟨r, hr⟩ : ∃ r, t[n]? = some r := ⟨_, List.getElem?_eq_getElem hn⟩
  have hrf : Fine r := h.1 r (List.mem_of_getElem? hr)
  let V0 : L_notice_fault := { v_notices := some (tabD t), v_place := some (.int n) }
  let V : L_notice_fault := { V0 with v_address := some (.str r.z), v_first := some (.int r.a), v_last := some (.int r.b), v_new := some (.str r.y) }
  have s1 : s_notice_fault_1 V0.S = .nx V.S := by
    simp [s_notice_fault_1, V0, V, L_notice_fault.S, ixT hr, rowD]
  have l1 := letter_ok hrf.1.1
  have l2 := letter_ok hrf.2.1
  refine pure_rt rfl ⟨V.S, ?_⟩ (by unfold optS; split <;> rfl)
  show m_notice_fault V0.S = _
  simp only [m_notice_fault, x_sSeq, s1, VL.C.seq_nx]
  unfold flt fltG
  rw [hr]
  dsimp only
  by_cases h1 : bad1 r = true
  · rw [if_pos h1]
    have s2 : s_notice_fault_2 V.S = .rt (.str zAddr) V.S := by
      unfold bad1 at h1
      cases hz : isL r.z with
      | false => simp [s_notice_fault_2, V0, V, L_notice_fault.S, l1, l2, hz, zAddr]
      | true =>
        rw [hz] at h1
        cases hy : isL r.y with
        | false => simp [s_notice_fault_2, V0, V, L_notice_fault.S, l1, l2, hz, hy, zAddr]
        | true => rw [hy] at h1; cases h1
    rw [s2]; rfl
  · rw [if_neg h1]
    have s2 : s_notice_fault_2 V.S = .nx V.S := by
      unfold bad1 at h1
      cases hz : isL r.z with
      | false => rw [hz] at h1; simp at h1
      | true =>
        rw [hz] at h1
        cases hy : isL r.y with
        | false => rw [hy] at h1; simp at h1
        | true => simp [s_notice_fault_2, V0, V, L_notice_fault.S, l1, l2, hz, hy]
    simp only [s2, VL.C.seq_nx, x_sSeq]
    by_cases h2 : r.a < 0 ∨ r.b < r.a
    · have h2' : bad2 r = true := decide_eq_true h2
      rw [if_pos h2']
      have s3 : s_notice_fault_3 V.S = .rt (.str zDays) V.S := by
        by_cases ha : r.a < 0
        · simp [s_notice_fault_3, V0, V, L_notice_fault.S, ha, zDays]
        · have hb : r.b < r.a := by omega
          simp [s_notice_fault_3, V0, V, L_notice_fault.S, ha, hb, zDays]
      rw [s3]; rfl
    · have h2' : bad2 r = false := decide_eq_false h2
      rw [h2', if_neg Bool.false_ne_true]
      have s3 : s_notice_fault_3 V.S = .nx V.S := by
        have ha : ¬ r.a < 0 := by omega
        have hb : ¬ r.b < r.a := by omega
        simp [s_notice_fault_3, V0, V, L_notice_fault.S, ha, hb]
      simp only [s3, VL.C.seq_nx, x_sSeq]
      have s4 : s_notice_fault_4 V.S = if bad3 t n r then .rt (.str zOrd) V.S else .nx V.S := by
        by_cases hp : 0 < n
        · obtain ⟨o, ho⟩ : ∃ o, t[n - 1]? = some o := ⟨_, List.getElem?_eq_getElem (by omega)⟩
          have hof : Fine o := h.1 o (List.mem_of_getElem? ho)
          have ix : ∀ s, fIx (tabD t) (.int ((n : Int) - 1)) s = .ok (rowD o, s) := fun s => by
            rw [show ((n : Int) - 1) = ((n - 1 : Nat) : Int) by omega]; exact ixT ho s
          have hp2 : (0 : Int) < n := by omega
          have eb : bad3 t n r = !ordB o r := by
            unfold bad3
            rw [ho]
            simp only [hp, decide_true, Bool.true_and]
          rw [eb]
          cases hb : ordB o r with
          | true => simp [s_notice_fault_4, V0, V, L_notice_fault.S, hp, hp2, ix, ixT hr, fLeD_row hrf hof, hb]
          | false => simp [s_notice_fault_4, V0, V, L_notice_fault.S, hp, hp2, ix, ixT hr, fLeD_row hrf hof, hb, zOrd]
        · have hn0 : n = 0 := by omega
          have hb : bad3 t n r = false := by
            unfold bad3; subst hn0; split <;> simp
          rw [hb]
          simp [s_notice_fault_4, V0, V, L_notice_fault.S, hn0]
      rw [s4]
      by_cases h3 : bad3 t n r = true
      · rw [if_pos h3, if_pos h3]; rfl
      · rw [if_neg h3, if_neg h3, VL.C.seq_nx]
        have tt := test_tog hr V rfl rfl (t.take n)
        have s5 : eQ anyB pbTog (eCut (eV 0) oNone (oSome (eV 1))) V.S = .ok (.bl ((t.take n).any (tog r)), V.S) := by
          have ec : eCut (eV 0) oNone (oSome (eV 1)) V.S = .ok (tabD (t.take n), V.S) := by
            simp [V0, V, L_notice_fault.S, cutP]
          rw [x_eQ, ec, VL.R.bind_ok]
          simp only [tabD, x_seqT, tt, anyB, List.any_map]
          rfl
        cases hb : (t.take n).any (tog r) with
        | true => rw [hb] at s5; simp [s_notice_fault_5, s5, zTw, optS, -x_eQ]
        | false => rw [hb] at s5; simp [s_notice_fault_5, s5, optS, -x_eQ]
theorem check_ok {t : List Row} (h : Ok t) : f_check_notices [tabD t] = match first t with
    | none => .ok .non
    | some (i, z) => .ex ⟨"BadNotices", [("place", .int i), ("fault", .str z)]⟩ := by
  have hl : ((t.length : Nat) : Int) < 4611686018427387904 := by have := h.2; omega
  have key := find_rngC (g := gN 1) (b := b_check_notices_3) (fun s => ∃ q1 q2, s = ⟨[some (tabD t), q1, q2], []⟩) (fun i => (flt t i).map fun z => (i, z)) (fun p => C.ex ⟨"BadNotices", [("place", .int p.1), ("fault", .str p.2)]⟩) (fun _ _ _ => rfl) (n := t.length) (m := t.length) (k := 0) (s := ⟨[some (tabD t), none, none], []⟩) (by omega) ⟨_, _, rfl⟩ (fun i s hi ⟨q1, q2, e⟩ => by
    subst e
    have hk := h.2
    refine ⟨⟨[some (tabD t), some (.int i), q2], []⟩, rfl, ?_⟩
    have s1 : s_check_notices_1 ⟨[some (tabD t), some (.int i), q2], []⟩ = .nx ⟨[some (tabD t), some (.int i), some (optS (flt t i))], []⟩ := by
      simp [s_check_notices_1, fault_ok h hi, noLoc_tab]
    cases hf : flt t i with
    | none =>
      rw [hf] at s1
      have s2 : s_check_notices_2 ⟨[some (tabD t), some (.int i), some .non], []⟩ = .nx ⟨[some (tabD t), some (.int i), some .non], []⟩ := by
        simp [s_check_notices_2]
      exact ⟨_, .inl (by rw [b_check_notices_3, x_sSeq, s1, VL.C.seq_nx]; exact s2), _, _, rfl⟩
    | some z =>
      rw [hf] at s1
      have hz := flt_short hf
      have s2 : s_check_notices_2 ⟨[some (tabD t), some (.int i), some (.str z)], []⟩ = .ex ⟨"BadNotices", [("place", .int i), ("fault", .str z)]⟩ ⟨[some (tabD t), some (.int i), some (.str z)], []⟩ := by
        have e1 : shortD (.int (i : Int)) = true := shortD_int (by omega) (by omega)
        have e2 : shortD (.str z) = true := shortD_str (by omega)
        simp [s_check_notices_2, e1, e2]
      exact ⟨_, by rw [b_check_notices_3, x_sSeq, s1, VL.C.seq_nx]; exact s2⟩)
  have hm : m_check_notices ⟨startD 3 [tabD t], []⟩ = forL (gN 1) b_check_notices_3 (rng 0 t.length) ⟨[some (tabD t), none, none], []⟩ := by
    simp [m_check_notices, tabD, hl]
  cases hf : first t with
  | none =>
    rw [show (List.range' 0 t.length).findSome? _ = none from hf] at key
    obtain ⟨s', e, _⟩ := key
    exact pure_nx rfl ⟨s', by rw [hm]; exact e⟩
  | some p =>
    obtain ⟨i, z⟩ := p
    rw [show (List.range' 0 t.length).findSome? _ = some (i, z) from hf] at key
    obtain ⟨s', e⟩ := key
    exact pure_ex rfl ⟨s', by rw [hm]; exact e⟩ rfl
def dueG : Option (Nat × List Nat) → D
  | none => .non
  | some (i, z) => .tup [.int i, .str z]
def toldG : Option (Nat × List Nat) → D
  | none => .tup [.bl false, .non]
  | some (i, z) => .tup [.bl true, .tup [.int i, .str z]]
theorem told_ok {t : List Row} (h : Ok t) : f__law_told [tabD t] = .ok (toldG (first t)) := by
  have hc := check_ok h
  cases hf : first t with
  | none =>
    rw [hf] at hc
    refine pure_rt rfl ⟨_, tryAs_rt (s1 := ⟨[some (tabD t), none], []⟩) ?_⟩ rfl
    simp [hc, noLoc_tab, SZv, toldG]
  | some p =>
    obtain ⟨i, z⟩ := p
    rw [hf] at hc
    refine pure_rt rfl ⟨⟨[some (tabD t), none], []⟩, tryA_ex (s1 := ⟨[some (tabD t), none], []⟩) ?_ (by simp)⟩ rfl
    simp [hc, noLoc_tab]
end K73
namespace K73
open PySem L2 VL
theorem find_tog {r : Row} {d : D} : ∀ l : List Row, (l.map rowD).findSome? (fun e => match e with
    | .tup [.str z, .int a, .int b, .str y] => if togL r ⟨z, a, b, y⟩ = true then some d else none
    | _ => none) = if l.any (togL r) = true then some d else none
  | [] => rfl
  | o :: l => by
    obtain ⟨z, a, b, y⟩ := o
    rw [List.map_cons, List.findSome?_cons, List.any_cons]
    simp only [rowD]
    cases h : togL r ⟨z, a, b, y⟩ with
    | true => simp
    | false =>
      simp only [Bool.false_eq_true, if_false, Bool.false_or]
      exact find_tog l
theorem due_step {t : List Row} {n : Nat} {r : Row} (h : t[n]? = some r) (hok : Ok t) (v : L__law_due) (h0 : v.v_notices = some (tabD t)) (h1 : v.v_at = some (.int n)) :
    match fltL t n with
      | none => ∃ s', (∃ q1 q2 q3 q4 q5, s' = L__law_due.S { v with v_address := q1, v_first := q2, v_last := q3, v_new := q4, v_other := q5 }) ∧ b__law_due_7 v.S = .nx s'
      | some z => ∃ s', b__law_due_7 v.S = .rt (.tup [.int n, .str z]) s' := by
  have hrf : Fine r := hok.1 r (List.mem_of_getElem? h)
  have hn : n < t.length := (List.getElem?_eq_some_iff.mp h).1
  obtain ⟨V, hV⟩ : ∃ V : L__law_due, V = { v with v_address := some (.str r.z), v_first := some (.int r.a), v_last := some (.int r.b), v_new := some (.str r.y) } := ⟨_, rfl⟩
  have w0 : V.v_notices = some (tabD t) := by rw [hV]; exact h0
  have w1 : V.v_at = some (.int n) := by rw [hV]; exact h1
  have w2 : V.v_address = some (.str r.z) := by rw [hV]
  have w3 : V.v_first = some (.int r.a) := by rw [hV]
  have w4 : V.v_last = some (.int r.b) := by rw [hV]
  have w5 : V.v_new = some (.str r.y) := by rw [hV]
  have s1 : s__law_due_2 v.S = .nx V.S := by
    simp [s__law_due_2, hV, L__law_due.S, h0, h1, ixT h, rowD]
  have l1 := az_ok hrf.1.1
  have l2 := az_ok hrf.2.1
  simp only [b__law_due_7, x_sSeq, s1, VL.C.seq_nx]
  unfold fltL fltG
  rw [h]
  dsimp only
  by_cases h1 : bad1 r = true
  · rw [if_pos h1]
    have s2 : s__law_due_3 V.S = .rt (.tup [.int n, .str zAddr]) V.S := by
      unfold bad1 at h1
      cases hz : isL r.z with
      | false => simp [s__law_due_3, L__law_due.S, w1, w2, w5, l1, l2, hz, zAddr, SZv]
      | true =>
        rw [hz] at h1
        cases hy : isL r.y with
        | false => simp [s__law_due_3, L__law_due.S, w1, w2, w5, l1, l2, hz, hy, zAddr, SZv]
        | true => rw [hy] at h1; cases h1
    exact ⟨V.S, by rw [s2]; rfl⟩
  · rw [if_neg h1]
    have s2 : s__law_due_3 V.S = .nx V.S := by
      unfold bad1 at h1
      cases hz : isL r.z with
      | false => rw [hz] at h1; simp at h1
      | true =>
        rw [hz] at h1
        cases hy : isL r.y with
        | false => rw [hy] at h1; simp at h1
        | true => simp [s__law_due_3, L__law_due.S, w1, w2, w5, l1, l2, hz, hy]
    simp only [s2, VL.C.seq_nx, x_sSeq]
    by_cases h2 : r.a < 0 ∨ r.b < r.a
    · have h2' : bad2 r = true := decide_eq_true h2
      rw [if_pos h2']
      have s3 : s__law_due_4 V.S = .rt (.tup [.int n, .str zDays]) V.S := by
        by_cases ha : r.a < 0
        · simp [s__law_due_4, L__law_due.S, w1, w3, w4, ha, zDays, SZv]
        · have hb : r.b < r.a := by omega
          simp [s__law_due_4, L__law_due.S, w1, w3, w4, ha, hb, zDays, SZv]
      exact ⟨V.S, by rw [s3]; rfl⟩
    · have h2' : bad2 r = false := decide_eq_false h2
      rw [h2', if_neg Bool.false_ne_true]
      have s3 : s__law_due_4 V.S = .nx V.S := by
        have ha : ¬ r.a < 0 := by omega
        have hb : ¬ r.b < r.a := by omega
        simp [s__law_due_4, L__law_due.S, w1, w3, w4, ha, hb]
      simp only [s3, VL.C.seq_nx, x_sSeq]
      have s4 : s__law_due_5 V.S = if bad3 t n r then .rt (.tup [.int n, .str zOrd]) V.S else .nx V.S := by
        by_cases hp : 0 < n
        · obtain ⟨o, ho⟩ : ∃ o, t[n - 1]? = some o := ⟨_, List.getElem?_eq_getElem (by omega)⟩
          have hof : Fine o := hok.1 o (List.mem_of_getElem? ho)
          have ix : ∀ s, fIx (tabD t) (.int ((n : Int) - 1)) s = .ok (rowD o, s) := fun s => by
            rw [show ((n : Int) - 1) = ((n - 1 : Nat) : Int) by omega]; exact ixT ho s
          have hp2 : (0 : Int) < n := by omega
          have eb : bad3 t n r = !ordB o r := by
            unfold bad3
            rw [ho]
            simp only [hp, decide_true, Bool.true_and]
          rw [eb]
          cases hb : ordB o r with
          | true => simp [s__law_due_5, L__law_due.S, w0, w1, hp, hp2, ix, ixT h, fLtD_row hof hrf, hb]
          | false => simp [s__law_due_5, L__law_due.S, w0, w1, hp, hp2, ix, ixT h, fLtD_row hof hrf, hb, zOrd, SZv]
        · have hn0 : n = 0 := by omega
          have hb : bad3 t n r = false := by
            unfold bad3; subst hn0; split <;> simp
          rw [hb]
          simp [s__law_due_5, L__law_due.S, w0, w1, hn0]
      rw [s4]
      by_cases h3 : bad3 t n r = true
      · rw [if_pos h3, if_pos h3]; exact ⟨V.S, rfl⟩
      · rw [if_neg h3, if_neg h3, VL.C.seq_nx]
        have key := forL_find (g := gN 6) (b := b__law_due_1) (fun s => ∃ q, s = L__law_due.S { V with v_other := q }) (fun e => match e with
            | .tup [.str z, .int a, .int b, .str y] => if togL r ⟨z, a, b, y⟩ = true then some (D.tup [.int n, .str zTw]) else none
            | _ => none) ((t.take n).map rowD) V.S ⟨V.v_other, rfl⟩ (fun d hd s ⟨q, e⟩ => by
          subst e
          obtain ⟨o, _, rfl⟩ := List.mem_map.mp hd
          obtain ⟨z, a, b, y⟩ := o
          refine ⟨L__law_due.S { V with v_other := some (rowD ⟨z, a, b, y⟩) }, rfl, ?_⟩
          have i0 : ∀ s, fIx (.tup [.str z, .int a, .int b, .str y]) (.int 0) s = .ok (.str z, s) := fun s => fIxT (k := 0) (by simp)
          have i1 : ∀ s, fIx (.tup [.str z, .int a, .int b, .str y]) (.int 1) s = .ok (.int a, s) := fun s => fIxT (k := 1) (by simp)
          have i2 : ∀ s, fIx (.tup [.str z, .int a, .int b, .str y]) (.int 2) s = .ok (.int b, s) := fun s => fIxT (k := 2) (by simp)
          simp only [rowD]
          by_cases hz : z = r.z
          · subst hz
            by_cases hm : (if a > r.a then a else r.a) ≤ (if b < r.b then b else r.b)
            · have ht : togL r ⟨r.z, a, b, y⟩ = true := by simp only [togL, hm, decide_true, Bool.and_self]
              rw [if_pos ht]
              exact ⟨L__law_due.S { V with v_other := some (rowD ⟨r.z, a, b, y⟩) }, by simp [b__law_due_1, L__law_due.S, w1, w2, w3, w4, rowD, i0, i1, i2, hm, zTw, SZv]⟩
            · have ht : ¬ togL r ⟨r.z, a, b, y⟩ = true := by simp only [togL, decide_eq_false hm, Bool.and_false]; exact Bool.false_ne_true
              rw [if_neg ht]
              exact ⟨L__law_due.S { V with v_other := some (rowD ⟨r.z, a, b, y⟩) }, .inl (by simp [b__law_due_1, L__law_due.S, w1, w2, w3, w4, rowD, i0, i1, i2, hm]), _, rfl⟩
          · have ht : ¬ togL r ⟨z, a, b, y⟩ = true := by simp only [togL, decide_eq_false hz, Bool.false_and]; exact Bool.false_ne_true
            rw [if_neg ht]
            exact ⟨L__law_due.S { V with v_other := some (rowD ⟨z, a, b, y⟩) }, .inl (by simp [b__law_due_1, L__law_due.S, w1, w2, w3, w4, rowD, i0, i1, i2, hz]), _, rfl⟩)
        rw [find_tog] at key
        have s5 : s__law_due_6 V.S = forL (gN 6) b__law_due_1 ((t.take n).map rowD) V.S := by
          have ec : eCut (eV 0) oNone (oSome (eV 1)) V.S = .ok (tabD (t.take n), V.S) := by
            simp [L__law_due.S, w0, w1, cutP]
          simp only [s__law_due_6, x_sFor, x_iSeqM, ec, VL.R.bind_ok]
          simp [tabD]
        rw [s5]
        by_cases h4 : (t.take n).any (togL r) = true
        · rw [if_pos h4] at key ⊢
          obtain ⟨s', e⟩ := key
          exact ⟨s', e⟩
        · rw [if_neg h4] at key ⊢
          obtain ⟨s', e, q, es⟩ := key
          exact ⟨s', ⟨_, _, _, _, q, by rw [es, hV]⟩, e⟩
theorem due_ok {t : List Row} (h : Ok t) : f__law_due [tabD t] = .ok (dueG (first t)) := by
  have hl : ((t.length : Nat) : Int) < 4611686018427387904 := by have := h.2; omega
  have key := find_rngC (g := gN 1) (b := b__law_due_7) (fun s => ∃ q0 q1 q2 q3 q4 q5, s = L__law_due.S { v_notices := some (tabD t), v_at := q0, v_address := q1, v_first := q2, v_last := q3, v_new := q4, v_other := q5 }) (fun i => (fltL t i).map fun z => (i, z)) (fun p => C.rt (.tup [.int p.1, .str p.2])) (fun _ _ _ => rfl) (n := t.length) (m := t.length) (k := 0) (s := L__law_due.S { v_notices := some (tabD t) }) (by omega) ⟨_, _, _, _, _, _, rfl⟩ (fun i s hi ⟨q0, q1, q2, q3, q4, q5, e⟩ => by
    subst e
    refine ⟨L__law_due.S { v_notices := some (tabD t), v_at := some (.int i), v_address := q1, v_first := q2, v_last := q3, v_new := q4, v_other := q5 }, rfl, ?_⟩
    have st := due_step (List.getElem?_eq_getElem hi) h { v_notices := some (tabD t), v_at := some (.int i), v_address := q1, v_first := q2, v_last := q3, v_new := q4, v_other := q5 } rfl rfl
    cases hf : fltL t i with
    | none =>
      rw [hf] at st
      obtain ⟨s', ⟨p1, p2, p3, p4, p5, es⟩, e⟩ := st
      exact ⟨s', .inl e, _, _, _, _, _, _, es⟩
    | some z =>
      rw [hf] at st
      exact st)
  have hm : ∀ r, m__law_due ⟨startD 7 [tabD t], []⟩ = r ↔ (forL (gN 1) b__law_due_7 (rng 0 t.length) (L__law_due.S { v_notices := some (tabD t) })).seq s__law_due_9 = r := fun r => by
    have : m__law_due ⟨startD 7 [tabD t], []⟩ = (forL (gN 1) b__law_due_7 (rng 0 t.length) (L__law_due.S { v_notices := some (tabD t) })).seq s__law_due_9 := by
      simp [m__law_due, s__law_due_8, tabD, hl, L__law_due.S]
    rw [this]
  cases hf : first t with
  | none =>
    rw [show (List.range' 0 t.length).findSome? _ = none from (first_eq t).symm.trans hf] at key
    obtain ⟨s', e1, _⟩ := key
    have e1 : forL (gN 1) b__law_due_7 (rng 0 t.length) (L__law_due.S { v_notices := some (tabD t) }) = .nx s' := e1
    exact pure_rt rfl ⟨s', (hm _).mpr (by rw [e1]; simp [s__law_due_9, dueG])⟩ rfl
  | some p =>
    obtain ⟨i, z⟩ := p
    rw [show (List.range' 0 t.length).findSome? _ = some (i, z) from (first_eq t).symm.trans hf] at key
    obtain ⟨s', e1⟩ := key
    have e1 : forL (gN 1) b__law_due_7 (rng 0 t.length) (L__law_due.S { v_notices := some (tabD t) }) = .rt (.tup [.int i, .str z]) s' := e1
    exact pure_rt rfl ⟨s', (hm _).mpr (by rw [e1]; rfl)⟩ rfl
theorem is_eq (n : Nat) : f__law_is n = isF n := by
  induction n with
  | zero => rfl
  | succ n ih =>
    show pureOf 3 2 (m__law_is (f__law_is n)) = pureOf 3 2 (mIs (isF n))
    rw [ih]; rfl
theorem right_ok {t : List Row} (h : Ok t) : f__law_right [tabD t] = .ok (.bl true) := by
  have hd := due_ok h
  have ht := told_ok h
  refine pure_rt rfl ?_ rfl
  cases hf : first t with
  | none =>
    rw [hf] at hd ht
    have hi : f__law_is 6 [.non, .non] = .ok (.bl true) := by rw [is_eq]; exact isF_refl trivial
    refine ⟨⟨[some (tabD t), some .non, some (.bl false), some .non], []⟩, ?_⟩
    simp [m__law_right, s__law_right_1, s__law_right_2, s__law_right_3, hd, ht, hi, noLoc_tab, dueG, toldG]
  | some p =>
    obtain ⟨n, z⟩ := p
    rw [hf] at hd ht
    have hi : f__law_is 6 [.tup [.int n, .str z], .tup [.int n, .str z]] = .ok (.bl true) := by
      rw [is_eq]
      exact isF_refl ⟨by simp, by simp [Good]⟩
    refine ⟨⟨[some (tabD t), some (.tup [.int n, .str z]), some (.bl true), some (.tup [.int n, .str z])], []⟩, ?_⟩
    simp [m__law_right, s__law_right_1, s__law_right_2, s__law_right_3, hd, ht, hi, noLoc_tab, dueG, toldG]
end K73
namespace K73
open PySem L2 VL
def Sgs (L : Nat) (z : List Nat) : Prop := z.length ≤ L ∧ ∀ c ∈ z, c < 1114112
def Lim (L N : Nat) (t : List Row) : Prop := (∀ r ∈ t, Sgs L r.z ∧ Sgs L r.y) ∧ t.length ≤ N
def pMet (ad : List Nat) (last : Int) : D → Bool
  | .tup [.str z, .int a, _, _] => decide (z = ad) && decide (a ≤ last)
  | _ => false
def pMet2 (first : Int) : D → Bool
  | .tup [_, _, .int b, _] => decide (first ≤ b)
  | _ => false
def Base (ds : List Int) (al : List Nat) (n m : Int) (t : List Row) (v : L__law_notices) : Prop := v.v_draws = some (.lst (iL ds)) ∧ v.v_alphabet = some (.str al) ∧ v.v_count = some (.int n) ∧ v.v_days = some (.int m) ∧ v.v_found = some (.loc 0) ∧ v.mm = [.lst (t.map rowD)]
theorem step {ds : List Int} {al : List Nat} {n m : Int} {i : Nat} {t : List Row} {v : L__law_notices} (h : Base ds al n m t v) (hat : v.v_at = some (.int i)) (hd : ∀ x ∈ ds, 0 ≤ x ∧ x < 5040) (hi : 4 * i + 4 ≤ ds.length) (hi2 : i ≤ 1000) (ha : 0 < al.length) (ha2 : al.length ≤ 1000) (hlow : ∀ c ∈ al, c < 1114112) (hm : 0 < m) (ht : Lim 1 i t) :
    ∃ v' t', Base ds al n m t' v' ∧ Lim 1 (i + 1) t' ∧ b__law_notices_9 v.S = .nx v'.S := by
  obtain ⟨w0, w1, w2, w3, w4, w5⟩ := h
  have hp : ∀ j : Nat, j < 4 → 0 ≤ datI ds ((4 * i + j : Nat) : Int) ∧ datI ds ((4 * i + j : Nat) : Int) < 5040 := fun j hj => datI_in (P := fun x => 0 ≤ x ∧ x < 5040) hd (by omega) (by omega)
  obtain ⟨p0, e0⟩ : ∃ p, p = datI ds ((4 * i + 0 : Nat) : Int) := ⟨_, rfl⟩
  obtain ⟨p1, e1⟩ : ∃ p, p = datI ds ((4 * i + 1 : Nat) : Int) := ⟨_, rfl⟩
  obtain ⟨p2, e2⟩ : ∃ p, p = datI ds ((4 * i + 2 : Nat) : Int) := ⟨_, rfl⟩
  obtain ⟨p3, e3⟩ : ∃ p, p = datI ds ((4 * i + 3 : Nat) : Int) := ⟨_, rfl⟩
  have b0 := hp 0 (by omega); rw [← e0] at b0
  have b1 := hp 1 (by omega); rw [← e1] at b1
  have b2 := hp 2 (by omega); rw [← e2] at b2
  have b3 := hp 3 (by omega); rw [← e3] at b3
  clear hp
  have hc : cut (iL ds) (some (4 * (i : Int))) (some (4 * (i : Int) + 4)) = [.int p0, .int p1, .int p2, .int p3] := by
    have := cut_iL (ds := ds) (a := 4 * i) (n := 4) hi
    rw [show (4 * (i : Int)) = ((4 * i : Nat) : Int) by omega]
    rw [show (((4 * i : Nat) : Int) + 4) = ((4 * i : Nat) : Int) + ((4 : Nat) : Int) by omega, this, e0, e1, e2, e3]
    rfl
  have ix0 : ∀ s, fIx (.lst [.int p0, .int p1, .int p2, .int p3]) (.int 0) s = .ok (.int p0, s) := fun s => fIxL (k := 0) (by simp)
  have ix1 : ∀ s, fIx (.lst [.int p0, .int p1, .int p2, .int p3]) (.int 1) s = .ok (.int p1, s) := fun s => fIxL (k := 1) (by simp)
  have ix2 : ∀ s, fIx (.lst [.int p0, .int p1, .int p2, .int p3]) (.int 2) s = .ok (.int p2, s) := fun s => fIxL (k := 2) (by simp)
  have ix3 : ∀ s, fIx (.lst [.int p0, .int p1, .int p2, .int p3]) (.int 3) s = .ok (.int p3, s) := fun s => fIxL (k := 3) (by simp)
  have tt : ∀ s, fIx (.tup [.int 0, .int 1, .int m, .int 2, .int 5, .int 40]) (.int (p2 % 6)) s = .ok (.int (datI [0, 1, m, 2, 5, 40] (p2 % 6)), s) := fun s => fIx_T (l := [0, 1, m, 2, 5, 40]) (by omega) (by simp; omega)
  have hal : (0 : Int) < al.length := by omega
  have hsl : al.length ≤ SZ := by rw [SZv]; omega
  have m1 : mulOk 4 (i : Int) = true := mulOk_l (by omega) (by omega)
  have letter : ∀ p : Int, ∃ c, c < 1114112 ∧ ∀ s, fIx (.str al) (.int (p % (al.length : Int))) s = .ok (.str [c], s) := fun p => by
    obtain ⟨kk, hkk, ekk⟩ : ∃ kk : Nat, kk < al.length ∧ p % (al.length : Int) = kk := ⟨(p % (al.length : Int)).toNat, by have := Int.emod_lt_of_pos p hal; have := Int.emod_nonneg p (show (al.length : Int) ≠ 0 by omega); omega, by have := Int.emod_nonneg p (show (al.length : Int) ≠ 0 by omega); omega⟩
    refine ⟨al[kk], hlow _ (List.getElem_mem hkk), fun s => ?_⟩
    rw [ekk]
    unfold fIx
    simp only [if_pos hsl, atI_nat hkk]
  obtain ⟨c0, hc0, iz0⟩ := letter p0
  obtain ⟨c3, hc3, iz3⟩ := letter p3
  obtain ⟨first, ef⟩ : ∃ f, f = p1 % m := ⟨_, rfl⟩
  obtain ⟨last, el⟩ : ∃ f, f = (if first + datI [0, 1, m, 2, 5, 40] (p2 % 6) < m - 1 then first + datI [0, 1, m, 2, 5, 40] (p2 % 6) else m - 1) := ⟨_, rfl⟩
  obtain ⟨V1, hV1⟩ : ∃ V : L__law_notices, V = { v with v_part := some (.lst [.int p0, .int p1, .int p2, .int p3]) } := ⟨_, rfl⟩
  have s3 : s__law_notices_3 v.S = .nx V1.S := by
    simp [s__law_notices_3, hV1, L__law_notices.S, w0, hat, m1, hc]
  obtain ⟨V2, hV2⟩ : ∃ V : L__law_notices, V = { V1 with v_first := some (.int first) } := ⟨_, rfl⟩
  have s4 : s__law_notices_4 V1.S = .nx V2.S := by
    simp [s__law_notices_4, hV1, hV2, L__law_notices.S, w3, ix1, hm, ef]
  obtain ⟨V3, hV3⟩ : ∃ V : L__law_notices, V = { V2 with v_last := some (.int last) } := ⟨_, rfl⟩
  have s5 : s__law_notices_5 V2.S = .nx V3.S := by
    have f6 : ∀ s, fMod (.int p2) (.int 6) s = .ok (.int (p2 % 6), s) := fun s => fMod_p (by omega)
    simp [s__law_notices_5, hV1, hV2, hV3, L__law_notices.S, w3, ix2, f6, tt, SZv, el]
  obtain ⟨V4, hV4⟩ : ∃ V : L__law_notices, V = { V3 with v_address := some (.str [c0]) } := ⟨_, rfl⟩
  have s6 : s__law_notices_6 V3.S = .nx V4.S := by
    simp [s__law_notices_6, hV1, hV2, hV3, hV4, L__law_notices.S, w1, ix0, hsl, hal, ha, iz0]
  have m0 : V4.mm = [.lst (t.map rowD)] := by rw [hV4, hV3, hV2, hV1]; exact w5
  have x9 : V4.v_address = some (.str [c0]) := by rw [hV4]
  have x8 : V4.v_last = some (.int last) := by rw [hV4, hV3]
  have x7 : V4.v_first = some (.int first) := by rw [hV4, hV3, hV2]
  have x6 : V4.v_part = some (.lst [.int p0, .int p1, .int p2, .int p3]) := by rw [hV4, hV3, hV2, hV1]
  have x4 : V4.v_found = some (.loc 0) := by rw [hV4, hV3, hV2, hV1]; exact w4
  have x1 : V4.v_alphabet = some (.str al) := by rw [hV4, hV3, hV2, hV1]; exact w1
  have x0 : V4.v_draws = some (.lst (iL ds)) := by rw [hV4, hV3, hV2, hV1]; exact w0
  have x2 : V4.v_count = some (.int n) := by rw [hV4, hV3, hV2, hV1]; exact w2
  have x3 : V4.v_days = some (.int m) := by rw [hV4, hV3, hV2, hV1]; exact w3
  have htl := ht.2
  have i0 : ∀ (z : List Nat) (a b : Int) (y : List Nat) s, fIx (.tup [.str z, .int a, .int b, .str y]) (.int 0) s = .ok (.str z, s) := fun _ _ _ _ s => fIxT (k := 0) (by simp)
  have i1 : ∀ (z : List Nat) (a b : Int) (y : List Nat) s, fIx (.tup [.str z, .int a, .int b, .str y]) (.int 1) s = .ok (.int a, s) := fun _ _ _ _ s => fIxT (k := 1) (by simp)
  have i2 : ∀ (z : List Nat) (a b : Int) (y : List Nat) s, fIx (.tup [.str z, .int a, .int b, .str y]) (.int 2) s = .ok (.int b, s) := fun _ _ _ _ s => fIxT (k := 2) (by simp)
  have c1 : c__law_notices_1 V4.S = .ok (.lst ((t.filter (pMet [c0] last ∘ rowD)).map rowD), V4.S) := by
    have := lcO1_if (i := 4) (j := 11) (n := 0) (t := (tAndM (tBl (eOp fEq (eOp fIx (eV 11) (eC (.int 0))) (eV 9))) (tBl (eOp fLe (eOp fIx (eV 11) (eC (.int 1))) (eV 8))))) (e := eV 11) (s := V4.S) (L := t.map rowD) (pMet [c0] last) id (by simp [L__law_notices.S, x4]) (by simp [L__law_notices.S, m0]) (by rw [SZv, List.length_map]; omega) (fun d hd => by
      obtain ⟨⟨z, a, b, y⟩, hr, rfl⟩ := List.mem_map.mp hd
      refine ⟨?_, fun _ => by simp [L__law_notices.S, rowD]⟩
      by_cases hz : z = [c0]
      · subst hz
        simp [L__law_notices.S, rowD, x9, x8, i0, i1, pMet]
      · simp [L__law_notices.S, rowD, x9, x8, i0, i1, pMet, hz])
    rw [List.map_id, List.filter_map] at this
    exact this
  obtain ⟨V5, hV5⟩ : ∃ V : L__law_notices, V = { V4 with v_met := some (.lst ((t.filter (pMet [c0] last ∘ rowD)).map rowD)) } := ⟨_, rfl⟩
  have s7 : s__law_notices_7 V4.S = .nx V5.S := by
    simp only [s__law_notices_7, x_sAsg, x_eFrz, c1, VL.R.bind_ok, VL.R.to_ok]
    rw [hV5]
    rfl
  have y9 : V5.v_address = some (.str [c0]) := by rw [hV5]; exact x9
  have y8 : V5.v_last = some (.int last) := by rw [hV5]; exact x8
  have y7 : V5.v_first = some (.int first) := by rw [hV5]; exact x7
  have y6 : V5.v_part = some (.lst [.int p0, .int p1, .int p2, .int p3]) := by rw [hV5]; exact x6
  have y4 : V5.v_found = some (.loc 0) := by rw [hV5]; exact x4
  have y1 : V5.v_alphabet = some (.str al) := by rw [hV5]; exact x1
  have y0 : V5.mm = [.lst (t.map rowD)] := by rw [hV5]; exact m0
  obtain ⟨t2, ht2⟩ : ∃ t2, t2 = t.filter (pMet [c0] last ∘ rowD) := ⟨_, rfl⟩
  have y10 : V5.v_met = some (.lst (t2.map rowD)) := by rw [hV5, ht2]
  have hl2 : t2.length ≤ i := by rw [ht2]; exact Nat.le_trans (List.length_filter_le _ _) htl
  have c2 : c__law_notices_2 V5.S = .ok (.lst ((t2.filter (pMet2 first ∘ rowD)).map rowD), V5.S) := by
    have := lc1_if (i := 11) (it := iSeqM (eV 10)) (t := (tBl (eOp fLe (eV 7) (eOp fIx (eV 11) (eC (.int 2)))))) (e := eV 11) (s := V5.S) (l := t2.map rowD) (pMet2 first) id (by simp [L__law_notices.S, y10]) (by rw [SZv, List.length_map]; omega) (fun d hd => by
      obtain ⟨⟨z, a, b, y⟩, hr, rfl⟩ := List.mem_map.mp hd
      exact ⟨by simp [L__law_notices.S, rowD, y7, i2, pMet2], fun _ => by simp [L__law_notices.S, rowD]⟩)
    rw [List.map_id, List.filter_map] at this
    exact this
  have hlen : eOp fEq (eCB cLen (aCons (eFrz c__law_notices_2) aNil)) (eC (.int 0)) V5.S = .ok (.bl (decide (((t2.filter (pMet2 first ∘ rowD)).length : Int) = 0)), V5.S) := by
    simp only [x_eOp, x_eCB, x_aCons, x_eFrz, c2, VL.R.bind_ok, x_aNil, x_cLen, x_lenL, x_eC, List.length_map, fEqI]
  have run : ∀ {c : C}, s__law_notices_8 V5.S = c → b__law_notices_9 v.S = c := fun e => by
    simp only [b__law_notices_9, x_sSeq, s3, s4, s5, s6, s7, VL.C.seq_nx]
    exact e
  by_cases hz : ((t2.filter (pMet2 first ∘ rowD)).length : Int) = 0
  · rw [decide_eq_true hz] at hlen
    refine ⟨{ V5 with mm := [.lst ((t ++ [(⟨[c0], first, last, [c3]⟩ : Row)]).map rowD)] }, t ++ [⟨[c0], first, last, [c3]⟩], ⟨by rw [hV5]; exact x0, y1, by rw [hV5]; exact x2, by rw [hV5]; exact x3, y4, rfl⟩, ⟨fun r hr => ?_, by simp; omega⟩, run ?_⟩
    · rcases List.mem_append.mp hr with hr | hr
      · exact ht.1 r hr
      · simp at hr
        subst hr
        exact ⟨⟨by simp, by simpa using hc0⟩, by simp, by simpa using hc3⟩
    · rw [s__law_notices_8, x_sIf, x_tBl, hlen]
      have htS : t.length < SZ := by rw [SZv]; omega
      rw [SZv] at htS
      have hsl2 : al.length ≤ 16777216 := by omega
      simp [L__law_notices.S, y9, y8, y7, y6, y4, y1, y0, ix3, hsl2, hal, ha, iz3, rowD, SZv, htS]
  · rw [decide_eq_false hz] at hlen
    refine ⟨V5, t, ⟨by rw [hV5]; exact x0, y1, by rw [hV5]; exact x2, by rw [hV5]; exact x3, y4, y0⟩, ⟨ht.1, by omega⟩, run ?_⟩
    rw [s__law_notices_8, x_sIf, x_tBl, hlen]
    rfl
theorem notices_ok {ds : List Int} {al : List Nat} {n : Nat} {m : Int} (hd : ∀ x ∈ ds, 0 ≤ x ∧ x < 5040) (hl : 4 * n ≤ ds.length) (hn : n ≤ 1000) (ha : 0 < al.length) (ha2 : al.length ≤ 1000) (hlow : ∀ c ∈ al, c < 1114112) (hm : 0 < m) :
    ∃ t : List Row, Lim 1 n t ∧ f__law_notices [.lst (iL ds), .str al, .int n, .int m] = .ok (tabD t) := by
  let V0 : L__law_notices := { v_draws := some (.lst (iL ds)), v_alphabet := some (.str al), v_count := some (.int n), v_days := some (.int m) }
  let V1 : L__law_notices := { V0 with v_found := some (.loc 0), mm := [.lst []] }
  obtain ⟨s', e, v', t, rfl, hb, ht⟩ := forL_rng (g := gN 5) (b := b__law_notices_9) (n := n) (s := V1.S)
    (fun i s => ∃ v t, s = L__law_notices.S v ∧ Base ds al n m t v ∧ Lim 1 i t) ⟨V1, [], rfl, ⟨rfl, rfl, rfl, rfl, rfl, rfl⟩, by simp [Lim]⟩ (fun i s hi ⟨v, t, e, hb, ht⟩ => by
      subst e
      obtain ⟨w0, w1, w2, w3, w4, w5⟩ := hb
      obtain ⟨v', t', hb', ht', e'⟩ := step (v := { v with v_at := some (.int i) }) (i := i) ⟨w0, w1, w2, w3, w4, w5⟩ rfl hd (by omega) (by omega) ha ha2 hlow hm ht
      exact ⟨L__law_notices.S { v with v_at := some (.int i) }, rfl, _, .inl e', v', t', rfl, hb', ht'⟩)
  have hnr : (n : Int) < 4611686018427387904 := by omega
  obtain ⟨w0, w1, w2, w3, w4, w5⟩ := hb
  obtain ⟨t', et, el, ht'⟩ := sort_rows (P := fun r => Sgs 1 r.z ∧ Sgs 1 r.y) ht.1
  have so : srtOk (t.map rowD) = true := srt_rows fun r hr => by
    obtain ⟨⟨q1, q2⟩, q3, q4⟩ := ht.1 r hr
    exact ⟨⟨by omega, q2⟩, by omega, q4⟩
  refine ⟨t', ⟨ht', by rw [el]; exact ht.2⟩, pure_rt rfl ⟨v'.S, ?_⟩ (noLoc_tab t')⟩
  show m__law_notices V0.S = _
  have hal : (0 : Int) < al.length := by omega
  have hsl : al.length ≤ SZ := by rw [SZv]; omega
  have s10 : s__law_notices_10 V0.S = .nx V1.S := by simp [s__law_notices_10, V0, V1, L__law_notices.S]
  have s11 : s__law_notices_11 V1.S = .nx v'.S := by
    have hit : iRg1M (aCons (eIf (tBl (eOp fGt (eCB cLen (aCons (eV 1) aNil)) (eC (.int 0)))) (eV 2) (eC (.int 0))) aNil) V1.S = .ok (rng 0 n, V1.S) := by
      simp [V0, V1, L__law_notices.S, hsl, hal, ha, hnr]
    rw [s__law_notices_11, x_sFor, hit]
    exact e
  simp only [m__law_notices, x_sSeq, s10, s11, VL.C.seq_nx]
  simp [s__law_notices_12, L__law_notices.S, w4, w5, gSorted, lstOf, so, et, gTuple, tabD]
end K73
namespace K73
open PySem L2 VL
theorem lim_mono {L N L' N' : Nat} {t : List Row} (h : Lim L N t) (h1 : L ≤ L') (h2 : N ≤ N') : Lim L' N' t :=
  ⟨fun r hr => by obtain ⟨⟨a, b⟩, c, d⟩ := h.1 r hr; exact ⟨⟨by omega, b⟩, by omega, d⟩, by have := h.2; omega⟩
theorem lim_ok {L N : Nat} {t : List Row} (h : Lim L N t) (h1 : L ≤ 100000) (h2 : N ≤ 1000000) : Ok t :=
  ⟨fun r hr => by obtain ⟨⟨a, b⟩, c, d⟩ := h.1 r hr; exact ⟨⟨by omega, b⟩, by omega, d⟩, by have := h.2; omega⟩
theorem addT {e1 e2 : ME} {a b : List Row} {s : S} (h1 : e1 s = .ok (tabD a, s)) (h2 : e2 s = .ok (tabD b, s)) (hl : a.length + b.length ≤ 10000) : eOp fAdd e1 e2 s = .ok (tabD (a ++ b), s) := by
  have z : a.length + b.length ≤ SZ := by rw [SZv]; omega
  rw [x_eOp, h1, VL.R.bind_ok, h2, VL.R.bind_ok]
  unfold tabD
  rw [x_fAddT, if_pos (by simpa using z), List.map_append]
theorem oneT {e : ME} {r : Row} {s : S} (h : e s = .ok (rowD r, s)) : eTup (aCons e aNil) s = .ok (tabD [r], s) := by
  have z0 : 1 ≤ SZ := by rw [SZv]; omega
  simp only [x_eTup, x_aCons, x_aNil, h, VL.R.bind_ok, List.length_cons, List.length_nil, Nat.zero_add, z0, if_true]
  rfl
section
variable {t : List Row} {k : Nat} {v : L__law_bent} (w0 : v.v_notices = some (tabD t)) (w2 : v.v_at = some (.int k))
include w0 w2
theorem pre : eCut (eV 0) oNone (oSome (eV 2)) v.S = .ok (tabD (t.take k), v.S) := by simp [L__law_bent.S, w0, w2, cutP]
theorem suf0 : eCut (eV 0) (oSome (eV 2)) oNone v.S = .ok (tabD (t.drop k), v.S) := by simp [L__law_bent.S, w0, w2, cutS]
theorem suf1 : eCut (eV 0) (oSome (eOp fAdd (eV 2) (eC (.int 1)))) oNone v.S = .ok (tabD (t.drop (k + 1)), v.S) := by
  have := fun s => cutS t (k + 1) s
  have e : (((k + 1 : Nat)) : Int) = (k : Int) + 1 := by omega
  rw [e] at this
  simp [L__law_bent.S, w0, w2, this]
theorem nth {r : Row} (h : t[k]? = some r) : eOp fIx (eV 0) (eV 2) v.S = .ok (rowD r, v.S) := by simp [L__law_bent.S, w0, w2, ixT h]
end
theorem end_ok {t : List Row} {k L N : Nat} {v : L__law_bent} {r r' : Row} {kind d0 d1 d2 : Int} (w0 : v.v_notices = some (tabD t)) (w1 : v.v_draws = some (.lst (iL [d0, d1, d2]))) (w2 : v.v_at = some (.int k)) (w3 : v.v_address = some (.str r.z)) (w5 : v.v_last = some (.int r.b)) (w7 : v.v_kind = some (.int kind)) (w10 : v.v_one = some (rowD r'))
    (hr : t[k]? = some r) (hl : Lim L N t) (hL : L ≤ 8000) (hN : N ≤ 900) (hr' : Sgs (12 * L + 2) r'.z ∧ Sgs (12 * L + 2) r'.y) :
    ∃ t', Lim (12 * L + 2) (N + 2) t' ∧ (sSeq s__law_bent_9 (sSeq s__law_bent_10 (sSeq s__law_bent_11 (sSeq s__law_bent_12 s__law_bent_13)))) v.S = .rt (tabD t') v.S := by
  have hk : k < t.length := (List.getElem?_eq_some_iff.mp hr).1
  have htl := hl.2
  have hB := lim_mono hl (show L ≤ 12 * L + 2 by omega) (show N ≤ N + 2 by omega)
  have hrt := hB.1 r (List.mem_of_getElem? hr)
  have lt : (t.take k).length ≤ k := by rw [List.length_take]; omega
  have ld : (t.drop k).length = t.length - k := List.length_drop
  have ld1 : (t.drop (k + 1)).length = t.length - (k + 1) := List.length_drop
  have mt : ∀ {r : Row}, r ∈ t.take k → Sgs (12 * L + 2) r.z ∧ Sgs (12 * L + 2) r.y := fun h => hB.1 _ (List.mem_of_mem_take h)
  have md : ∀ {r : Row} {j : Nat}, r ∈ t.drop j → Sgs (12 * L + 2) r.z ∧ Sgs (12 * L + 2) r.y := fun h => hB.1 _ (List.mem_of_mem_drop h)
  have e10 : eV 10 v.S = .ok (rowD r', v.S) := by simp [L__law_bent.S, w10]
  by_cases h5 : kind < 5
  · have q : s__law_bent_9 v.S = .rt (tabD (t.take k ++ [r'] ++ t.drop (k + 1))) v.S := by
      rw [s__law_bent_9, x_sIf, show tBl (eOp fLt (eV 7) (eC (.int 5))) v.S = .ok (true, v.S) from by simp [L__law_bent.S, w7, h5], VL.R.to_ok, if_pos rfl, x_sRet,
        addT (addT (pre w0 w2) (oneT e10) (by simp; omega)) (suf1 w0 w2) (by simp; omega)]
      rfl
    refine ⟨_, ⟨fun x hx => ?_, ?_⟩, by rw [x_sSeq, q]; rfl⟩
    · rcases List.mem_append.mp hx with hx | hx
      · rcases List.mem_append.mp hx with hx | hx
        · exact mt hx
        · simp at hx; subst hx; exact hr'
      · exact md hx
    · simp only [List.length_append, List.length_cons, List.length_nil]; omega
  · have q9 : s__law_bent_9 v.S = .nx v.S := by
      rw [s__law_bent_9, x_sIf, show tBl (eOp fLt (eV 7) (eC (.int 5))) v.S = .ok (false, v.S) from by simp [L__law_bent.S, w7, h5]]; rfl
    rw [x_sSeq, q9, VL.C.seq_nx, x_sSeq]
    by_cases h6 : kind = 5
    · have q : s__law_bent_10 v.S = .rt (tabD (t.take k ++ [r] ++ t.drop k)) v.S := by
        rw [s__law_bent_10, x_sIf, show tBl (eOp fEq (eV 7) (eC (.int 5))) v.S = .ok (true, v.S) from by simp [L__law_bent.S, w7, h6], VL.R.to_ok, if_pos rfl, x_sRet,
          addT (addT (pre w0 w2) (oneT (nth w0 w2 hr)) (by simp; omega)) (suf0 w0 w2) (by simp; omega)]
        rfl
      refine ⟨_, ⟨fun x hx => ?_, ?_⟩, by rw [q]; rfl⟩
      · rcases List.mem_append.mp hx with hx | hx
        · rcases List.mem_append.mp hx with hx | hx
          · exact mt hx
          · simp at hx; subst hx; exact hrt
        · exact md hx
      · simp only [List.length_append, List.length_cons, List.length_nil]; omega
    · have q10 : s__law_bent_10 v.S = .nx v.S := by
        rw [s__law_bent_10, x_sIf, show tBl (eOp fEq (eV 7) (eC (.int 5))) v.S = .ok (false, v.S) from by simp [L__law_bent.S, w7, h6]]; rfl
      rw [q10, VL.C.seq_nx, x_sSeq]
      by_cases h7 : kind = 6
      · have q : s__law_bent_11 v.S = .rt (tabD (t.take k ++ t.drop (k + 1) ++ [r])) v.S := by
          rw [s__law_bent_11, x_sIf, show tBl (eOp fEq (eV 7) (eC (.int 6))) v.S = .ok (true, v.S) from by simp [L__law_bent.S, w7, h7], VL.R.to_ok, if_pos rfl, x_sRet,
            addT (addT (pre w0 w2) (suf1 w0 w2) (by simp; omega)) (oneT (nth w0 w2 hr)) (by simp; omega)]
          rfl
        refine ⟨_, ⟨fun x hx => ?_, ?_⟩, by rw [q]; rfl⟩
        · rcases List.mem_append.mp hx with hx | hx
          · rcases List.mem_append.mp hx with hx | hx
            · exact mt hx
            · exact md hx
          · simp at hx; subst hx; exact hrt
        · simp only [List.length_append, List.length_cons, List.length_nil]; omega
      · have q11 : s__law_bent_11 v.S = .nx v.S := by
          rw [s__law_bent_11, x_sIf, show tBl (eOp fEq (eV 7) (eC (.int 6))) v.S = .ok (false, v.S) from by simp [L__law_bent.S, w7, h7]]; rfl
        rw [q11, VL.C.seq_nx, x_sSeq]
        by_cases h8 : kind = 7
        · obtain ⟨rn, ern⟩ : ∃ rn : Row, rn = ⟨r.z, r.b, r.b + d2 % 3, [113]⟩ := ⟨_, rfl⟩
          have hB2 : ∀ x ∈ t ++ [rn], Sgs (12 * L + 2) x.z ∧ Sgs (12 * L + 2) x.y := fun x hx => by
            rcases List.mem_append.mp hx with hx | hx
            · exact hB.1 x hx
            · simp at hx; subst hx; rw [ern]; exact ⟨hrt.1, by simp, by simp⟩
          obtain ⟨t', et, el, ht'⟩ := sort_rows (P := fun r => Sgs (12 * L + 2) r.z ∧ Sgs (12 * L + 2) r.y) hB2
          have so : srtOk ((t ++ [rn]).map rowD) = true := srt_rows fun x hx => by
            obtain ⟨⟨q1, q2⟩, q3, q4⟩ := hB2 x hx
            exact ⟨⟨by omega, q2⟩, by omega, q4⟩
          have ix2 : ∀ s, fIx (.lst (iL [d0, d1, d2])) (.int 2) s = .ok (.int d2, s) := fun s => fIxL (k := 2) (by simp)
          have z4 : 4 ≤ SZ := by rw [SZv]; omega
          have er : (eTup (aCons (eV 3) (aCons (eV 5) (aCons (eOp fAdd (eV 5) (eOp fMod (eCB (c1 gInt) (aCons (eOp fIx (eV 1) (eC (.int 2))) aNil)) (eC (.int 3)))) (aCons (eC (.str [113])) aNil))))) v.S = .ok (rowD rn, v.S) := by
            rw [ern]
            simp [L__law_bent.S, w1, w3, w5, ix2, rowD, z4, -iL_cons]
          have e0 : eV 0 v.S = .ok (tabD t, v.S) := by simp [L__law_bent.S, w0]
          have ea := addT e0 (oneT er) (by simp; omega)
          have q : s__law_bent_12 v.S = .rt (tabD t') v.S := by
            rw [s__law_bent_12, x_sIf, show tBl (eOp fEq (eV 7) (eC (.int 7))) v.S = .ok (true, v.S) from by simp [L__law_bent.S, w7, h8], VL.R.to_ok, if_pos rfl, x_sRet]
            simp only [x_eCB, x_aCons, x_eFrz, x_fCB, ea, VL.R.bind_ok, x_aNil]
            simp only [tabD, gSortedT, so, if_true, VL.R.bind_ok, et]
            rfl
          exact ⟨t', ⟨ht', by rw [el]; simp; omega⟩, by rw [q]; rfl⟩
        · have q12 : s__law_bent_12 v.S = .nx v.S := by
            rw [s__law_bent_12, x_sIf, show tBl (eOp fEq (eV 7) (eC (.int 7))) v.S = .ok (false, v.S) from by simp [L__law_bent.S, w7, h8]]; rfl
          rw [q12, VL.C.seq_nx]
          have e0 : eV 0 v.S = .ok (.tup (t.map rowD), v.S) := by simp [L__law_bent.S, w0, tabD]
          refine ⟨t.reverse, ⟨fun x hx => hB.1 x (List.mem_reverse.mp hx), by rw [List.length_reverse]; omega⟩, ?_⟩
          rw [s__law_bent_13, x_sRet, x_eBackT e0, ← List.map_reverse]
          rfl
end K73
namespace K73
open PySem L2 VL
theorem bent_ok {t : List Row} {L N : Nat} {d0 d1 d2 : Int} (h : Lim L N t) (hL : L ≤ 8000) (hN : N ≤ 900) : ∃ t', Lim (12 * L + 2) (N + 2) t' ∧ f__law_bent [tabD t, .lst (iL [d0, d1, d2])] = .ok (tabD t') := by
  have ix0 : ∀ s, fIx (.lst (iL [d0, d1, d2])) (.int 0) s = .ok (.int d0, s) := fun s => fIxL (k := 0) (by simp)
  have ix1 : ∀ s, fIx (.lst (iL [d0, d1, d2])) (.int 1) s = .ok (.int d1, s) := fun s => fIxL (k := 1) (by simp)
  have ix2 : ∀ s, fIx (.lst (iL [d0, d1, d2])) (.int 2) s = .ok (.int d2, s) := fun s => fIxL (k := 2) (by simp)
  have hp9 : powOk 10 9 = true := by decide
  have hp20 : powOk 10 20 = true := by decide
  let V0 : L__law_bent := { v_notices := some (tabD t), v_draws := some (.lst (iL [d0, d1, d2])) }
  by_cases h0 : t.length = 0
  · have ht : t = [] := List.eq_nil_of_length_eq_zero h0
    subst ht
    obtain ⟨k, hk, ek⟩ : ∃ k : Nat, k < 2 ∧ d0 % 2 = k := ⟨(d0 % 2).toNat, by omega, by omega⟩
    obtain ⟨t2, et2⟩ : ∃ t2 : List Row, t2 = [⟨[97], 3, 2, [98]⟩, ⟨[98], 0, 0, []⟩] := ⟨_, rfl⟩
    refine ⟨t2.drop k, ⟨fun r hr => ?_, ?_⟩, ?_⟩
    · have := List.mem_of_mem_drop hr
      rw [et2] at this
      simp only [List.mem_cons, List.not_mem_nil, or_false] at this
      rcases this with rfl | rfl <;> simp [Sgs]
    · rw [List.length_drop, et2]; simp; omega
    · refine pure_rt rfl ⟨V0.S, ?_⟩ (noLoc_tab _)
      have ct : ∀ s, fCut (.tup [D.tup [.str [97], .int 3, .int 2, .str [98]], .tup [.str [98], .int 0, .int 0, .str []]]) (some (k : Int)) none s = .ok (tabD (t2.drop k), s) := fun s => by
        rw [← cutS, et2]; rfl
      have s1 : s__law_bent_1 V0.S = .rt (tabD (t2.drop k)) V0.S := by
        simp [s__law_bent_1, V0, L__law_bent.S, tabD, ix0, SZv, ek, ct, -iL_cons, -x_fCutT]
      show m__law_bent V0.S = _
      simp only [m__law_bent, x_sSeq, s1, VL.C.seq_rt]
  · have hpos : (0 : Int) < t.length := by omega
    obtain ⟨k, hk, ek⟩ : ∃ k : Nat, k < t.length ∧ d0 % (t.length : Int) = k := ⟨(d0 % (t.length : Int)).toNat, by have := Int.emod_lt_of_pos d0 hpos; have := Int.emod_nonneg d0 (show (t.length : Int) ≠ 0 by omega); omega, by have := Int.emod_nonneg d0 (show (t.length : Int) ≠ 0 by omega); omega⟩
    obtain ⟨r, hr⟩ : ∃ r, t[k]? = some r := ⟨_, List.getElem?_eq_getElem hk⟩
    have hrl := h.1 r (List.mem_of_getElem? hr)
    obtain ⟨z, a, b, y⟩ := r
    obtain ⟨⟨hz, hzc⟩, hy, hyc⟩ : Sgs L z ∧ Sgs L y := hrl
    have hp : 0 < t.length := by omega
    have hne : t ≠ [] := fun q => h0 (by rw [q]; rfl)
    have s1 : s__law_bent_1 V0.S = .nx V0.S := by
      simp [s__law_bent_1, V0, L__law_bent.S, tabD, hne]
    let V2 : L__law_bent := { V0 with v_at := some (.int k) }
    have s2 : s__law_bent_2 V0.S = .nx V2.S := by
      have e1 : ∀ s, cLen [tabD t] s = .ok (.int t.length, s) := fun s => by simp [tabD]
      simp [s__law_bent_2, V0, V2, L__law_bent.S, ix0, e1, hpos, hp, ek, -iL_cons, -x_cLen]
    let V3 : L__law_bent := { V2 with v_address := some (.str z), v_first := some (.int a), v_last := some (.int b), v_new := some (.str y) }
    have s3 : s__law_bent_3 V2.S = .nx V3.S := by
      simp [s__law_bent_3, V0, V2, V3, L__law_bent.S, ixT hr, rowD, -iL_cons]
    let V4 : L__law_bent := { V3 with v_kind := some (.int (d1 % 9)) }
    have s4 : s__law_bent_4 V3.S = .nx V4.S := by
      simp [s__law_bent_4, V0, V2, V3, V4, L__law_bent.S, ix1, -iL_cons]
    -- strange
    obtain ⟨zz, ezz⟩ : ∃ zz, zz = (List.replicate 12 z).flatten := ⟨_, rfl⟩
    obtain ⟨zl, hzl⟩ : ∃ zl : List (List Nat), zl = [[], [65], [97, 98], [49], z ++ y, [63], [32], zz] := ⟨_, rfl⟩
    obtain ⟨j, hj, ej⟩ : ∃ j : Nat, j < 8 ∧ d2 % 8 = j := ⟨(d2 % 8).toNat, by omega, by omega⟩
    have hj8 : j < zl.length := by rw [hzl]; simpa using hj
    have hrep : zz.length = z.length * 12 := by rw [ezz]; simp [List.replicate_succ]; omega
    obtain ⟨x, ex⟩ : ∃ x, x = zl[j] := ⟨_, rfl⟩
    have hx : Sgs (12 * L + 2) x := by
      have : ∀ y' ∈ zl, Sgs (12 * L + 2) y' := by
        rw [hzl]
        intro y' hy'
        simp only [List.mem_cons, List.not_mem_nil, or_false] at hy'
        rcases hy' with rfl | rfl | rfl | rfl | rfl | rfl | rfl | rfl
        · exact ⟨by simp, by simp⟩
        · exact ⟨by simp, by simp⟩
        · exact ⟨by simp, by simp⟩
        · exact ⟨by simp, by simp⟩
        · exact ⟨by rw [List.length_append]; omega, fun c hc => by
            rcases List.mem_append.mp hc with hc | hc
            · exact hzc c hc
            · exact hyc c hc⟩
        · exact ⟨by simp, by simp⟩
        · exact ⟨by simp, by simp⟩
        · exact ⟨by rw [hrep]; omega, fun c hc => by
            rw [ezz] at hc
            obtain ⟨l, hl, hc⟩ := List.mem_flatten.mp hc
            rw [List.eq_of_mem_replicate hl] at hc
            exact hzc c hc⟩
      rw [ex]
      exact this _ (List.getElem_mem hj8)
    let V5 : L__law_bent := { V4 with v_strange := some (.str x) }
    have s5 : s__law_bent_5 V4.S = .nx V5.S := by
      have tt : ∀ s, fIx (.tup [.str [], .str [65], .str [97, 98], .str [49], .str (z ++ y), .str [63], .str [32], .str zz]) (.int (d2 % 8)) s = .ok (.str x, s) := fun s => by
        have e1 : (D.tup [.str [], .str [65], .str [97, 98], .str [49], .str (z ++ y), .str [63], .str [32], .str zz]) = .tup (zl.map D.str) := by rw [hzl]; rfl
        rw [e1, ej, fIxT (by simpa using hj8)]
        simp [ex]
      have m12 : ∀ s, fMulA (.str z) (.int 12) s = .ok (.str zz, s) := fun s => by
        rw [x_fMulAS, if_pos ⟨by omega, by omega, by show z.length * 12 ≤ 1000000; omega⟩, ezz]
        rfl
      have a2 : ∀ s, fAdd (.str z) (.str y) s = .ok (.str (z ++ y), s) := fun s => by
        rw [x_fAddS, if_pos (by rw [SZv]; omega)]
      simp [s__law_bent_5, V0, V2, V3, V4, V5, L__law_bent.S, ix2, m12, a2, tt, SZv, -iL_cons, -x_fMulAS, -x_fAddS]
    -- number
    obtain ⟨nu, enu⟩ : ∃ nu, nu = datI [-1, b + 1, 1000000000, -100000000000000000000, b, 400] (d2 / 8 % 6) := ⟨_, rfl⟩
    let V6 : L__law_bent := { V5 with v_number := some (.int nu) }
    have s6 : s__law_bent_6 V5.S = .nx V6.S := by
      have tt : ∀ s, fIx (.tup [.int (-1), .int (b + 1), .int 1000000000, .int (-100000000000000000000), .int b, .int 400]) (.int (d2 / 8 % 6)) s = .ok (.int nu, s) := fun s => by
        rw [enu]; exact fIx_T (l := [-1, b + 1, 1000000000, -100000000000000000000, b, 400]) (by omega) (by simp; omega)
      simp [s__law_bent_6, V0, V2, V3, V4, V5, V6, L__law_bent.S, ix2, hp9, hp20, tt, SZv, -iL_cons]
    let V7 : L__law_bent := { V6 with v_one := some (tabD [⟨x, a, b, y⟩, ⟨z, a, b, x⟩, ⟨z, nu, b, y⟩]) }
    have s7 : s__law_bent_7 V6.S = .nx V7.S := by
      simp [s__law_bent_7, V0, V2, V3, V4, V5, V6, V7, L__law_bent.S, tabD, rowD, SZv, -iL_cons]
    obtain ⟨rl, hrl⟩ : ∃ rl : List Row, rl = [⟨x, a, b, y⟩, ⟨z, a, b, x⟩, ⟨z, nu, b, y⟩, ⟨z, b + 1, a, y⟩, ⟨z, a, nu, y⟩] := ⟨_, rfl⟩
    obtain ⟨i, hi, ei⟩ : ∃ i : Nat, i < 5 ∧ (d1 % 9) % 5 = i := ⟨((d1 % 9) % 5).toNat, by omega, by omega⟩
    have hi5 : i < rl.length := by rw [hrl]; simpa using hi
    obtain ⟨r', er'⟩ : ∃ r', rl[i]? = some r' := ⟨_, List.getElem?_eq_getElem hi5⟩
    have hz' : Sgs (12 * L + 2) z := ⟨by omega, hzc⟩
    have hy' : Sgs (12 * L + 2) y := ⟨by omega, hyc⟩
    have hr' : Sgs (12 * L + 2) r'.z ∧ Sgs (12 * L + 2) r'.y := by
      have : ∀ q ∈ rl, Sgs (12 * L + 2) q.z ∧ Sgs (12 * L + 2) q.y := by
        rw [hrl]
        intro q hq
        simp only [List.mem_cons, List.not_mem_nil, or_false] at hq
        rcases hq with rfl | rfl | rfl | rfl | rfl
        · exact ⟨hx, hy'⟩
        · exact ⟨hz', hx⟩
        · exact ⟨hz', hy'⟩
        · exact ⟨hz', hy'⟩
        · exact ⟨hz', hy'⟩
      exact this _ (List.mem_of_getElem? er')
    let V8 : L__law_bent := { V7 with v_one := some (rowD r') }
    have s8 : s__law_bent_8 V7.S = .nx V8.S := by
      have ta : ∀ s, fAdd (tabD [⟨x, a, b, y⟩, ⟨z, a, b, x⟩, ⟨z, nu, b, y⟩]) (.tup [.tup [.str z, .int (b + 1), .int a, .str y], .tup [.str z, .int a, .int nu, .str y]]) s = .ok (tabD rl, s) := fun s => by
        unfold tabD
        rw [x_fAddT, if_pos (by rw [SZv]; simp), hrl]
        rfl
      have tt : ∀ s, fIx (tabD rl) (.int (i : Int)) s = .ok (rowD r', s) := fun s => ixT er' s
      have f5 : ∀ s, fMod (.int (d1 % 9)) (.int 5) s = .ok (.int (i : Int), s) := fun s => by rw [← ei]; exact fMod_p (by omega)
      simp [s__law_bent_8, V0, V2, V3, V4, V5, V6, V7, V8, L__law_bent.S, ta, tt, ei, SZv, -iL_cons]
    obtain ⟨t', ht', e⟩ := end_ok (v := V8) (r := ⟨z, a, b, y⟩) (r' := r') rfl rfl rfl rfl rfl rfl rfl hr h hL hN hr'
    refine ⟨t', ht', pure_rt rfl ⟨V8.S, ?_⟩ (noLoc_tab t')⟩
    show m__law_bent V0.S = _
    rw [m__law_bent, x_sSeq, s1, VL.C.seq_nx, x_sSeq, s2, VL.C.seq_nx, x_sSeq, s3, VL.C.seq_nx, x_sSeq, s4, VL.C.seq_nx, x_sSeq, s5, VL.C.seq_nx, x_sSeq, s6, VL.C.seq_nx, x_sSeq, s7, VL.C.seq_nx, x_sSeq, s8, VL.C.seq_nx]
    exact e
end K73
namespace K73
open PySem L2 VL
def Dr (n : Nat) (ds : List Int) : Prop := ds.length = n ∧ ∀ x ∈ ds, 0 ≤ x ∧ x < 5040
theorem ixd {n : Nat} {ds : List Int} (h : Dr n ds) (j : Int) (h0 : 0 ≤ j) (h1 : j < n) (s : S) : fIx (.lst (iL ds)) (.int j) s = .ok (.int (datI ds j), s) := fIx_L h0 (by have := h.1; omega)
def lims : Nat → Nat
  | 0 => 1
  | n + 1 => 12 * lims n + 2
theorem loop_bent {ds : List Int} (h : Dr 24 ds) (v : L_law) (hd : v.v_draws = some (.lst (iL ds))) {t : List Row} (hb : v.v_bent = some (tabD t)) (ht : Lim 1 40 t) {n : Nat} (hn : n ≤ 3) :
    ∃ q t', Lim 2042 46 t' ∧ forL (gN 7) b_law_3 (rng 0 n) v.S = .nx (L_law.S { v with v_k := q, v_bent := some (tabD t') }) := by
  obtain ⟨s', e, q, t', rfl, hl⟩ := forL_rng (g := gN 7) (b := b_law_3) (n := n) (s := v.S) (fun i s => ∃ q t', s = L_law.S { v with v_k := q, v_bent := some (tabD t') } ∧ Lim (lims i) (40 + 2 * i) t') ⟨v.v_k, t, by rw [← hb], ht⟩ (fun i s hi ⟨q, t', e, hl⟩ => by
    subst e
    have hi3 : i < 3 := by omega
    have hli : lims i ≤ 170 := by
      have : i = 0 ∨ i = 1 ∨ i = 2 := by omega
      rcases this with rfl | rfl | rfl <;> decide
    have hr := right_ok (lim_ok hl (by omega) (by omega))
    obtain ⟨t2, hl2, hb2⟩ := bent_ok (d0 := datI ds (10 + 3 * i)) (d1 := datI ds (10 + 3 * i + 1)) (d2 := datI ds (10 + 3 * i + 2)) hl (by omega) (by omega)
    have hc : cut (iL ds) (some (10 + 3 * (i : Int))) (some (13 + 3 * (i : Int))) = iL [datI ds (10 + 3 * i), datI ds (10 + 3 * i + 1), datI ds (10 + 3 * i + 2)] := by
      have := cut_iL (ds := ds) (a := 10 + 3 * i) (n := 3) (by have := h.1; omega)
      rw [show (10 + 3 * (i : Int)) = ((10 + 3 * i : Nat) : Int) by omega, show (13 + 3 * (i : Int)) = ((10 + 3 * i : Nat) : Int) + ((3 : Nat) : Int) by omega, this]
      rfl
    have m1 : mulOk 3 (i : Int) = true := mulOk_l (by omega) (by omega)
    refine ⟨L_law.S { v with v_k := some (.int i), v_bent := some (tabD t') }, rfl, L_law.S { v with v_k := some (.int i), v_bent := some (tabD t2) }, .inl ?_, some (.int i), t2, rfl, ?_⟩
    · have s1 : s_law_1 (L_law.S { v with v_k := some (.int i), v_bent := some (tabD t') }) = .nx (L_law.S { v with v_k := some (.int i), v_bent := some (tabD t') }) := by
        simp [s_law_1, L_law.S, hr, noLoc_tab]
      have s2 : s_law_2 (L_law.S { v with v_k := some (.int i), v_bent := some (tabD t') }) = .nx (L_law.S { v with v_k := some (.int i), v_bent := some (tabD t2) }) := by
        simp [s_law_2, L_law.S, hd, m1, hc, hb2, noLoc_tab, -iL_cons]
      rw [b_law_3, x_sSeq, s1, VL.C.seq_nx, s2]
    · exact lim_mono hl2 (Nat.le_refl _) (by omega))
  refine ⟨q, t', lim_mono hl ?_ (by omega), e⟩
  have : n = 0 ∨ n = 1 ∨ n = 2 ∨ n = 3 := by omega
  rcases this with rfl | rfl | rfl | rfl <;> decide
theorem law_true (ns : List Int) (h : ns.length ≤ 63) : f_law [.scr ns] = .ok (.bl true) := by
  obtain ⟨c, hc⟩ := cell_ok ns 0 h (by omega)
  obtain ⟨c', hc'⟩ := cell_ok ns 1 h (by omega)
  obtain ⟨ds, d1, d2, hd⟩ := draws_ok c 24 (by omega)
  have hD : Dr 24 ds := ⟨d1, d2⟩
  have hc : f__law_cell [.scr ns, .int 0] = .ok (.int c) := hc
  have hc' : f__law_cell [.scr ns, .int 1] = .ok (.int c') := hc'
  have hd : f__law_draws [.int c, .int 24] = .ok (.lst (iL ds)) := hd
  have ix := fun j h0 h1 => ixd hD j h0 h1
  let V : L_law := { v_script := some (.scr ns) }
  have e4 : s_law_4 V.S = .nx (L_law.S { V with v_draws := some (.lst (iL ds)) }) := by
    simp [V, s_law_4, L_law.S, hc, hd]
  -- the alphabet
  obtain ⟨na, ena, na1, na6⟩ : ∃ na : Nat, datI [3, 6, 1, 4, 2, 5] (datI ds 6 % 6) = na ∧ 1 ≤ na ∧ na ≤ 6 := by
    have := datI_in (l := [3, 6, 1, 4, 2, 5]) (P := fun x => 1 ≤ x ∧ x ≤ 6) (by simp) (i := datI ds 6 % 6) (by omega) (by simp; omega)
    exact ⟨(datI [3, 6, 1, 4, 2, 5] (datI ds 6 % 6)).toNat, by omega, by omega, by omega⟩
  obtain ⟨al, al1, al2, hal⟩ := alpha_ok (ds.take 6) na (fun x hx => (d2 x (List.mem_of_mem_take hx)).1) (by rw [List.length_take]; omega) (by omega)
  have hal : f__law_alphabet [.lst (iL (ds.take 6)), .int na] = .ok (.str al) := hal
  have c6 : cut (iL ds) none (some 6) = iL (ds.take 6) := by
    rw [show (some (6 : Int)) = some ((6 : Nat) : Int) from rfl, cut_take, iL_take]
  let V5 : L_law := { V with v_draws := some (.lst (iL ds)), v_alphabet := some (.str al) }
  have e5 : s_law_5 (L_law.S { V with v_draws := some (.lst (iL ds)) }) = .nx V5.S := by
    have tt : ∀ s, fIx (.tup [.int 3, .int 6, .int 1, .int 4, .int 2, .int 5]) (.int (datI ds 6 % 6)) s = .ok (.int na, s) := fun s => by
      rw [← ena]; exact fIx_T (l := [3, 6, 1, 4, 2, 5]) (by omega) (by simp; omega)
    simp [V, V5, s_law_5, L_law.S, c6, ix 6 (by omega) (by omega), tt, SZv, hal]
  -- many
  obtain ⟨n, en, n40⟩ : ∃ n : Nat, datI [5, 3, 8, 1, 10, 2, 6, 4, 7, 0, 9, 40] (datI ds 7 % 12) = n ∧ n ≤ 40 := by
    have := datI_in (l := [5, 3, 8, 1, 10, 2, 6, 4, 7, 0, 9, 40]) (P := fun x => 0 ≤ x ∧ x ≤ 40) (by simp) (i := datI ds 7 % 12) (by omega) (by simp; omega)
    exact ⟨(datI [5, 3, 8, 1, 10, 2, 6, 4, 7, 0, 9, 40] (datI ds 7 % 12)).toNat, by omega, by omega⟩
  let V6 : L_law := { V5 with v_many := some (.int n) }
  have e6 : s_law_6 V5.S = .nx V6.S := by
    have tt : ∀ s, fIx (.tup [.int 5, .int 3, .int 8, .int 1, .int 10, .int 2, .int 6, .int 4, .int 7, .int 0, .int 9, .int 40]) (.int (datI ds 7 % 12)) s = .ok (.int n, s) := fun s => by
      rw [← en]; exact fIx_T (l := [5, 3, 8, 1, 10, 2, 6, 4, 7, 0, 9, 40]) (by omega) (by simp; omega)
    simp [V, V5, V6, s_law_6, L_law.S, ix 7 (by omega) (by omega), SZv, tt]
  -- days
  obtain ⟨m, em⟩ : ∃ m, m = (if (8 : Int) < n then 401 else datI [30, 401, 9] (datI ds 8 % 3)) := ⟨_, rfl⟩
  have hm : 0 < m := by
    rw [em]
    split
    · omega
    · exact datI_in (P := fun x => 0 < x) (by simp) (by omega) (by simp; omega)
  let V7 : L_law := { V6 with v_days := some (.int m) }
  have e7 : s_law_7 V6.S = .nx V7.S := by
    have tt : ∀ s, fIx (.tup [.int 30, .int 401, .int 9]) (.int (datI ds 8 % 3)) s = .ok (.int (datI [30, 401, 9] (datI ds 8 % 3)), s) := fun s => fIx_T (l := [30, 401, 9]) (by omega) (by simp; omega)
    by_cases h8 : (8 : Int) < n
    · rw [if_pos h8] at em
      have h8' : 8 < n := by omega
      simp [V, V5, V6, V7, s_law_7, L_law.S, h8, h8', em]
    · rw [if_neg h8] at em
      have h8' : ¬ 8 < n := by omega
      simp [V, V5, V6, V7, s_law_7, L_law.S, ix 8 (by omega) (by omega), SZv, tt, h8, h8', em]
  -- the notices
  obtain ⟨dt, t1, t2, hdt⟩ := draws_ok c' (4 * n) (by omega)
  have hdt : f__law_draws [.int c', .int ((4 * n : Nat) : Int)] = .ok (.lst (iL dt)) := hdt
  have e4n : ((4 * n : Nat) : Int) = 4 * (n : Int) := by omega
  rw [e4n] at hdt
  obtain ⟨t, hlim, hst⟩ := notices_ok (ds := dt) (al := al) (n := n) (m := m) t2 (by omega) (by omega) (by omega) (by omega) (fun c hc => by have := al2 c hc; unfold Low at this; omega) hm
  have hlim : Lim 1 40 t := lim_mono hlim (by omega) n40
  let V8 : L_law := { V7 with v_notices := some (tabD t) }
  have e8 : s_law_8 V7.S = .nx V8.S := by
    have m4 : mulOk 4 (n : Int) = true := mulOk_l (by omega) (by omega)
    simp [V, V5, V6, V7, V8, s_law_8, L_law.S, hc', hdt, hst, m4]
  let V9 : L_law := { V8 with v_bent := some (tabD t) }
  have e9 : s_law_9 V8.S = .nx V9.S := by
    simp [V, V5, V6, V7, V8, V9, s_law_9, L_law.S]
  -- the changes
  obtain ⟨k, ek, k3⟩ : ∃ k : Nat, 1 + datI ds 9 % 3 = k ∧ k ≤ 3 := ⟨(1 + datI ds 9 % 3).toNat, by omega, by omega⟩
  obtain ⟨q, t', hl', e10'⟩ := loop_bent hD V9 rfl rfl hlim k3
  let V10 : L_law := { V9 with v_k := q, v_bent := some (tabD t') }
  have e10 : s_law_10 V9.S = .nx V10.S := by
    have hkr : (k : Int) < 4611686018427387904 := by omega
    have ht : s_law_10 V9.S = forL (gN 7) b_law_3 (rng 0 k) V9.S := by
      simp [V, V5, V6, V7, V8, V9, s_law_10, L_law.S, ix 9 (by omega) (by omega), ek, hkr]
    rw [ht, e10']
  refine pure_rt rfl ⟨V10.S, ?_⟩ (by simp)
  show m_law V.S = _
  rw [m_law, x_sSeq, e4, VL.C.seq_nx, x_sSeq, e5, VL.C.seq_nx, x_sSeq, e6, VL.C.seq_nx, x_sSeq, e7, VL.C.seq_nx, x_sSeq, e8, VL.C.seq_nx, x_sSeq, e9, VL.C.seq_nx, x_sSeq, e10, VL.C.seq_nx]
  have r1 := right_ok (lim_ok hl' (by omega) (by omega))
  have r2 := right_ok (lim_ok hlim (by omega) (by omega))
  have hl2 := hl'.2
  have hlt := hlim.2
  have r3 : f__law_right [tabD (t'.take 1 ++ t)] = .ok (.bl true) := right_ok ⟨fun r hr => by
    rcases List.mem_append.mp hr with hr | hr
    · exact (lim_ok hl' (by omega) (by omega)).1 r (List.mem_of_mem_take hr)
    · exact (lim_ok hlim (by omega) (by omega)).1 r hr, by rw [List.length_append, List.length_take]; omega⟩
  have r4 : f__law_right [.tup []] = .ok (.bl true) := right_ok (t := []) ⟨by simp, by simp⟩
  have c5 : ∀ s, fCut (tabD t') none (some 1) s = .ok (tabD (t'.take 1), s) := fun s => cutP t' 1 s
  have a5 : ∀ s, fAdd (tabD (t'.take 1)) (tabD t) s = .ok (tabD (t'.take 1 ++ t), s) := fun s => by
    unfold tabD
    rw [x_fAddT, if_pos (by rw [SZv, List.length_map, List.length_map, List.length_take]; omega), List.map_append]
  simp [V, V5, V6, V7, V8, V9, V10, s_law_11, L_law.S, r1, r2, r3, r4, c5, a5, noLoc_tab]
end K73
namespace K73
open PySem PySem.Spec PyProof.Rows L2 VL
section
variable {P : Program} {w : World} {K : PySem.W.Frag} {mg : Str → Option Value} {base : Heap} {B : Bs} {f : Addr} {fd : FuncData}
structure XF (P : Program) (w : World) (K : PySem.W.Frag) (mg : Str → Option Value) (B : Bs) : Prop where
  n_BadLine : mg "BadLine" = some (.ref (B.cl "BadLine"))
  n_BadNotices : mg "BadNotices" = some (.ref (B.cl "BadNotices"))
  n_BadPlan : mg "BadPlan" = some (.ref (B.cl "BadPlan"))
  n_BadRoom : mg "BadRoom" = some (.ref (B.cl "BadRoom"))
  n_BadTable : mg "BadTable" = some (.ref (B.cl "BadTable"))
  n_MailwaysError : mg "MailwaysError" = some (.ref (B.cl "MailwaysError"))
  x_BadNotices : ExcMk P w K mg "BadNotices" (B.cl "BadNotices") ["place", "fault"]
  t_BadNotices : PySem.W.exmOne K (.ref (B.cl "BadNotices")) (.ref (B.cl "BadNotices")) = some true
  e_BadNotices : ExcC K (B.cl "BadNotices")
  o_BadNotices_fault : PySem.W.findIn K (.ref (B.cl "BadNotices")) "fault" = some none
  o_BadNotices_place : PySem.W.findIn K (.ref (B.cl "BadNotices")) "place" = some none
  k_BadNotices_BadLine : PySem.W.kitOne K (.ref (B.cl "BadNotices")) (.ref (B.cl "BadLine")) = some false
  k_BadNotices_BadPlan : PySem.W.kitOne K (.ref (B.cl "BadNotices")) (.ref (B.cl "BadPlan")) = some false
  k_BadNotices_BadRoom : PySem.W.kitOne K (.ref (B.cl "BadNotices")) (.ref (B.cl "BadRoom")) = some false
  k_BadNotices_BadTable : PySem.W.kitOne K (.ref (B.cl "BadNotices")) (.ref (B.cl "BadTable")) = some false
  k_BadNotices_MailwaysError : PySem.W.kitOne K (.ref (B.cl "BadNotices")) (.ref (B.cl "MailwaysError")) = some true
  k_BadNotices_ValueError : PySem.W.kitOne K (.ref (B.cl "BadNotices")) (.type "ValueError") = some true
theorem sc_is_letter : FnScope N_is_letter P_is_letter (defScope st_is_letter) := ⟨rfl, rfl, rfl, by decide +kernel, rfl, by decide +kernel, by decide +kernel⟩
theorem ok_is_letter (F : FnD K "is_letter" st_is_letter f fd) (f_len : mg "len" = none) (g_LETTERS : ∃ t, mg "LETTERS" = some (.str "abcdefghijklmnopqrstuvwxyz" t)) : FnP P w K mg base B 1 f fd P_is_letter f_is_letter := by
  refine def_pure (k := 0) (N := N_is_letter) (m := m_is_letter) F sc_is_letter fun cdv A outer s H E hc hr => ?_
  apply Exists.intro
  exact (vss_one (vs_ret (ve_and (ve_cmp (op_eqA (hu 64 hr)) semR_eq (ve_cb call_lenA semC_len f_len vb_len (va_cons (ve_v 0) va_nil)) ve_int (nomark _)) (ve_one (ve_cmp (op_inA (hu 65 hr)) semR_in (ve_v 0) (ve_gstr (l := [97, 98, 99, 100, 101, 102, 103, 104, 105, 106, 107, 108, 109, 110, 111, 112, 113, 114, 115, 116, 117, 118, 119, 120, 121, 122]) (by rfl) g_LETTERS) (by rfl))))))
theorem sc_are_together : FnScope N_are_together P_are_together (defScope st_are_together) := ⟨rfl, rfl, rfl, by decide +kernel, rfl, by decide +kernel, by decide +kernel⟩
theorem ok_are_together (F : FnD K "are_together" st_are_together f fd)  : FnP P w K mg base B 1 f fd P_are_together f_are_together := by
  refine def_pure (k := 0) (N := N_are_together) (m := m_are_together) F sc_are_together fun cdv A outer s H E hc hr => ?_
  apply Exists.intro
  exact (vss_one (vs_ret (ve_and (ve_cmp (op_eqA (hu 64 hr)) semR_eq (ve_ix (hu 1 hr) (ve_v 0) ve_int) (ve_ix (hu 1 hr) (ve_v 1) ve_int) (nomark _)) (ve_and (ve_cmp op_leA semR_cmp (ve_ix (hu 1 hr) (ve_v 0) ve_int) (ve_ix (hu 1 hr) (ve_v 1) ve_int) (nomark _)) (ve_one (ve_cmp op_leA semR_cmp (ve_ix (hu 1 hr) (ve_v 1) ve_int) (ve_ix (hu 1 hr) (ve_v 0) ve_int) (nomark _)))))))
theorem sc_notice_fault : FnScope N_notice_fault P_notice_fault (defScope st_notice_fault) := ⟨rfl, rfl, rfl, by decide +kernel, rfl, by decide +kernel, by decide +kernel⟩
theorem ok_notice_fault (F : FnD K "notice_fault" st_notice_fault f fd) (f_any : mg "any" = none) (c_is_letter : CallOk P w K mg base B "is_letter" 1 P_is_letter f_is_letter) {ft : Addr} {fdt : FuncData} (Ft : FnD K "are_together" st_are_together ft fdt) (mt : mg "are_together" = some (.ref ft)) (ht : ∃ c Pt, fd.code = .ref c ∧ GxR.TabB base mg c Pt ∧ B.Tb Pt ∧ K.lookup Pt = none) : FnP P w K mg base B 2 f fd P_notice_fault f_notice_fault := by
  obtain ⟨cad, Pt, hcr, TB, hPt, hKP⟩ := ht
  refine def_pure (k := 1) (N := N_notice_fault) (m := m_notice_fault) F sc_notice_fault fun cdv A outer s H E hc hr => ?_
  have hcd := hc.symm.trans hcr
  apply Exists.intro
  exact (vss_cons (vs_asg (ve_ix (hu 1 hr) (ve_v 0) (ve_v 1)) (vg_tup rfl (vgs_cons (vg_name 2 sc_notice_fault.nd) (vgs_cons (vg_name 3 sc_notice_fault.nd) (vgs_cons (vg_name 4 sc_notice_fault.nd) (vgs_cons (vg_name 5 sc_notice_fault.nd) vgs_nil gN_ok) gN_ok) gN_ok) gN_ok) (len_cons gN_ok (len_cons gN_ok (len_cons gN_ok (len_cons gN_ok len_nil))))) (gTupM_ok (gsCons_ok gN_ok (gsCons_ok gN_ok (gsCons_ok gN_ok (gsCons_ok gN_ok gsNil_ok))))))
      (vss_cons (vs_if (vt_w (vw_or (vt_not (vt_tru (ve_own_call c_is_letter hr (by decide) (by rfl) tk_of (va_cons (ve_v 2) va_nil)))) (vw_or1 (vt_not (vt_tru (ve_own_call c_is_letter hr (by decide) (by rfl) tk_of (va_cons (ve_v 5) va_nil))))))) (vss_one (vs_ret (ve_str (l := [97, 100, 100, 114, 101, 115, 115])))) vss_nil)
      (vss_cons (vs_if (vt_w (vw_or (vt_cmp op_ltA semR_cmp (ve_v 3) ve_int (nomark _)) (vw_or1 (vt_cmp op_gtA semR_cmp (ve_v 3) (ve_v 4) (nomark _))))) (vss_one (vs_ret (ve_str (l := [100, 97, 121, 115])))) vss_nil)
      (vss_cons (vs_if (vt_w (vw_and (vt_cmp op_gtA semR_cmp (ve_v 1) ve_int (nomark _)) (vw_and1 (vt_cmp (op_leD (hu 64 hr)) semR_leD (ve_ix (hu 1 hr) (ve_v 0) (ve_v 1)) (ve_ix (hu 1 hr) (ve_v 0) (ve_sub (ve_v 1) ve_int)) (nomark _))))) (vss_one (vs_ret (ve_str (l := [111, 114, 100, 101, 114])))) vss_nil)
      (vss_one (vs_ret (ve_if (vt_tru (ve_anyD hr (by rfl) f_any TB hPt hcd (gen_sc2 rfl rfl (by decide +kernel) rfl rfl (by rfl)) (ve_cut (ve_v 0) vo_none (vo_some (ve_v 1))) (elt_tog Ft sc_are_together rfl rfl (fun s us hl => FunD.bindsA (ps := P_are_together) Ft (fun _ _ _ _ _ _ us hl => match us, hl with | [_, _], _ => rfl) s us hl) mt (room1 hr) hPt hKP TB.gP rfl rfl rfl rfl rfl (fun _ => rfl) rfl rfl rfl rfl))) (ve_str (l := [116, 119, 105, 99, 101])) ve_non)))))))
theorem sc_check_notices : FnScope N_check_notices P_check_notices (defScope st_check_notices) := ⟨rfl, rfl, rfl, by decide +kernel, rfl, by decide +kernel, by decide +kernel⟩
theorem ok_check_notices (F : FnD K "check_notices" st_check_notices f fd) (f_len : mg "len" = none) (f_range : mg "range" = none) (c_notice_fault : CallOk P w K mg base B "notice_fault" 2 P_notice_fault f_notice_fault) (xf : XF P w K mg B) : FnP P w K mg base B 3 f fd P_check_notices f_check_notices := by
  refine def_pure (k := 2) (N := N_check_notices) (m := m_check_notices) F sc_check_notices fun cdv A outer s H E hc hr => ?_
  apply Exists.intro
  exact (vss_one (vs_for PassesOwn.leaving rfl (vi_range1 (by rfl) f_range (va_cons (ve_cb call_lenA semC_len f_len vb_len (va_cons (ve_v 0) va_nil)) va_nil)) (vg_name 1 sc_check_notices.nd) gN_ok (vss_cons (vs_set 2 sc_check_notices.nd (ve_own_call c_notice_fault hr (by decide) (by rfl) tk_of (va_cons (ve_v 0) (va_cons (ve_v 1) va_nil))))
      (vss_one (vs_if (vt_cmp op_notN semR_isn (ve_v 2) ve_non (nomark _)) (vss_one (vs_raise rfl tk_of xf.x_BadNotices hr (va_cons (ve_v 1) (va_cons (ve_v 2) va_nil)))) vss_nil)))))
theorem sc__law_cell : FnScope N__law_cell P__law_cell (defScope st__law_cell) := ⟨rfl, rfl, rfl, by decide +kernel, rfl, by decide +kernel, by decide +kernel⟩
theorem ok__law_cell (F : FnD K "_law_cell" st__law_cell f fd) (f_len : mg "len" = none) : FnP P w K mg base B 1 f fd P__law_cell f__law_cell := by
  refine def_pure (k := 0) (N := N__law_cell) (m := m__law_cell) F sc__law_cell fun cdv A outer s H E hc hr => ?_
  apply Exists.intro
  exact (vss_cons (vs_if (vt_cmp op_ltA semR_cmp (ve_v 1) (ve_cb call_lenA semC_len f_len vb_len (va_cons (ve_v 0) va_nil)) (nomark _)) (vss_one (vs_ret (ve_ix (hu 1 hr) (ve_v 0) (ve_v 1)))) vss_nil)
      (vss_one (vs_ret (ve_add (ve_mul ve_int (ve_v 1)) ve_int))))
theorem sc__law_draws : FnScope N__law_draws P__law_draws (defScope st__law_draws) := ⟨rfl, rfl, rfl, by decide +kernel, rfl, by decide +kernel, by decide +kernel⟩
theorem ok__law_draws (F : FnD K "_law_draws" st__law_draws f fd) (f_abs : mg "abs" = none) (f_int : mg "int" = none) (f_range : mg "range" = none) : FnP P w K mg base B 1 f fd P__law_draws f__law_draws := by
  refine def_pure (k := 0) (N := N__law_draws) (m := m__law_draws) F sc__law_draws fun cdv A outer s H E hc hr => ?_
  apply Exists.intro
  exact (vss_cons (vs_set 2 sc__law_draws.nd (ve_cb call_abs semC_abs f_abs vb_abs (va_cons (ve_ct call_int1 semC_int f_int vb_int (va_cons (ve_v 0) va_nil)) va_nil)))
      (vss_cons (vs_set 3 sc__law_draws.nd (ve_cmp op_geA semR_cmp (ve_v 2) (ve_pow ve_int ve_int) (nomark _)))
      (vss_cons (vs_set 4 sc__law_draws.nd (ve_v 2))
      (vss_cons (vs_set 5 sc__law_draws.nd (ve_own (vf_lst va_nil)))
      (vss_cons (vs_for PassesOwn.leaving rfl (vi_range1 (by rfl) f_range (va_cons (ve_v 1) va_nil)) (vg_name 6 sc__law_draws.nd) gN_ok (vss_one (vs_if (vt_w (vw_and (vt_tru (ve_v 3)) (vw_and1 (vt_cmp op_gtA semR_cmp (ve_v 2) ve_int (nomark _))))) (vss_cons (vs_expr (ve_append (ve_v 5) (va_cons (ve_mod (ve_ct call_int1 semC_int f_int vb_int (va_cons (ve_v 2) va_nil)) ve_int) va_nil)))
      (vss_one (vs_set 2 sc__law_draws.nd (ve_div (ve_v 2) ve_int)))) (vss_cons (vs_set 7 sc__law_draws.nd (ve_mod (ve_ct call_int1 semC_int f_int vb_int (va_cons (ve_add (ve_add (ve_mul (ve_v 4) ve_int) (ve_mul (ve_add (ve_v 6) ve_int) ve_int)) ve_int) va_nil)) ve_int))
      (vss_cons (vs_set 7 sc__law_draws.nd (ve_mod (ve_ct call_int1 semC_int f_int vb_int (va_cons (ve_add (ve_mul (ve_v 7) (ve_v 7)) (ve_mul ve_int (ve_add (ve_v 6) ve_int))) va_nil)) ve_int))
      (vss_one (vs_expr (ve_append (ve_v 5) (va_cons (ve_mod (ve_ct call_int1 semC_int f_int vb_int (va_cons (ve_div (ve_v 7) ve_int) va_nil)) ve_int) va_nil)))))))))
      (vss_one (vs_ret (ve_take 5))))))))
theorem sc__law_is_integer : FnScope N__law_is_integer P__law_is_integer (defScope st__law_is_integer) := ⟨rfl, rfl, rfl, by decide +kernel, rfl, by decide +kernel, by decide +kernel⟩
theorem ok__law_is_integer (F : FnD K "_law_is_integer" st__law_is_integer f fd) (f_bool : mg "bool" = none) (f_int : mg "int" = none) (f_isinstance : mg "isinstance" = none) : FnP P w K mg base B 1 f fd P__law_is_integer f__law_is_integer := by
  refine def_pure (k := 0) (N := N__law_is_integer) (m := m__law_is_integer) F sc__law_is_integer fun cdv A outer s H E hc hr => ?_
  apply Exists.intro
  exact (vss_one (vs_ret (ve_and (ve_isi (ve_v 0) f_isinstance f_int vb_int) (ve_one (ve_not (ve_isi (ve_v 0) f_isinstance f_bool vb_bool))))))
theorem sc__law_alphabet : FnScope N__law_alphabet P__law_alphabet (defScope st__law_alphabet) := ⟨rfl, rfl, rfl, by decide +kernel, rfl, by decide +kernel, by decide +kernel⟩
theorem ok__law_alphabet (F : FnD K "_law_alphabet" st__law_alphabet f fd) (f_int : mg "int" = none) (f_len : mg "len" = none) (f_list : mg "list" = none) (f_range : mg "range" = none) (f_sorted : mg "sorted" = none) : FnP P w K mg base B 1 f fd P__law_alphabet f__law_alphabet := by
  refine def_pure (k := 0) (N := N__law_alphabet) (m := m__law_alphabet) F sc__law_alphabet fun cdv A outer s H E hc hr => ?_
  apply Exists.intro
  exact (vss_cons (vs_set 2 sc__law_alphabet.nd (ve_own (vf_ct (call_listS rfl) semC_listS f_list vb_list (va_cons (ve_str (l := [97, 98, 99, 100, 101, 102, 103, 104, 105, 106, 107, 108, 109, 110, 111, 112, 113, 114, 115, 116, 117, 118, 119, 120, 121, 122])) va_nil))))
      (vss_cons (vs_setLc 3 ve_frz (own := [("at", 4)]) rfl sc__law_alphabet.nd (vi_range1 (by rfl) f_range (va_cons (ve_v 1) va_nil)) (blk_ok (N := N__law_alphabet) (sc := defScope st__law_alphabet) rfl ⟨by decide +kernel, by decide +kernel, by decide +kernel, by decide +kernel⟩) (fun _ _ _ _ _ => (vg_name 4 sc__law_alphabet.nd)) gin_name gmono_name (fun _ _ _ _ _ => vts_nil) (fun _ _ _ _ _ => (ve_c (K := K) (ve_popAt (ve_v 2) (va_cons (ve_mod (ve_ct call_int1 semC_int f_int vb_int (va_cons (ve_ix (hu 1 hr) (ve_v 0) (ve_v 4)) va_nil)) (ve_cb call_lenA semC_len f_len vb_len (va_cons (ve_v 2) va_nil))) va_nil)))) s)
      (vss_one (vs_ret (ve_join (ve_str (l := [])) (ve_frz (vf_cb (SD.cr_SD (hu 67 hr)) semC_sorted f_sorted vb_sorted (va_cons (ve_v 3) va_nil))))))))
theorem sc__law_is : FnScope N__law_is P__law_is (defScope st__law_is) := ⟨rfl, rfl, rfl, by decide +kernel, rfl, by decide +kernel, by decide +kernel⟩
theorem ok__law_is (F : FnD K "_law_is" st__law_is f fd) (f_all : mg "all" = none) (f_bool : mg "bool" = none) (f_int : mg "int" = none) (f_isinstance : mg "isinstance" = none) (f_len : mg "len" = none) (f_range : mg "range" = none) (f_str : mg "str" = none) (f_tuple : mg "tuple" = none) (c__law_is_integer : CallOk P w K mg base B "_law_is_integer" 1 P__law_is_integer f__law_is_integer) (hm : mg "_law_is" = some (.ref f)) (hb : Binds K fd P__law_is []) : FnP P w K mg base B 7 f fd P__law_is (f__law_is 6) := by
  refine fn_rec (k := 1) (F := f__law_is) rfl hm F.kp hb (fun n c__law_is => ?_) 6
  refine def_pure (k := 1 + n) (N := N__law_is) (m := m__law_is (f__law_is n)) F sc__law_is fun cdv A outer s H E hc hr => ?_
  apply Exists.intro
  exact (vss_cons (vs_if (vt_cmp op_isN semR_is (ve_v 1) ve_non (nomark _)) (vss_one (vs_ret (ve_cmp op_isN semR_is (ve_v 0) ve_non (nomark _)))) vss_nil)
      (vss_cons (vs_if (vt_tru (ve_isi (ve_v 1) f_isinstance f_bool vb_bool)) (vss_one (vs_ret (ve_and (ve_isi (ve_v 0) f_isinstance f_bool vb_bool) (ve_one (ve_cmp (op_eqA (hu 64 hr)) semR_eq (ve_v 0) (ve_v 1) (nomark _)))))) vss_nil)
      (vss_cons (vs_if (vt_tru (ve_isi (ve_v 1) f_isinstance f_int vb_int)) (vss_one (vs_ret (ve_and (ve_own_call c__law_is_integer hr (by omega) (by rfl) tk_of (va_cons (ve_v 0) va_nil)) (ve_one (ve_cmp (op_eqA (hu 64 hr)) semR_eq (ve_v 0) (ve_v 1) (nomark _)))))) vss_nil)
      (vss_cons (vs_if (vt_tru (ve_isi (ve_v 1) f_isinstance f_str vb_str)) (vss_one (vs_ret (ve_and (ve_isi (ve_v 0) f_isinstance f_str vb_str) (ve_one (ve_cmp (op_eqA (hu 64 hr)) semR_eq (ve_v 0) (ve_v 1) (nomark _)))))) vss_nil)
      (vss_cons (vs_if (vt_w (vw_or (vt_not (vt_tru (ve_isi (ve_v 0) f_isinstance f_tuple vb_tuple))) (vw_or1 (vt_cmp (op_neA (hu 64 hr)) semR_ne (ve_cb call_lenA semC_len f_len vb_len (va_cons (ve_v 0) va_nil)) (ve_cb call_lenA semC_len f_len vb_len (va_cons (ve_v 1) va_nil)) (nomark _))))) (vss_one (vs_ret ve_bl)) vss_nil)
      (vss_one (vs_ret (ve_cb (cr_all rfl) semC_all f_all vb_all (va_cons (ve_frz (vf_lc (own := [("at", 2)]) rfl sc__law_is.nd (vi_range1 (by rfl) f_range (va_cons (ve_cb call_lenA semC_len f_len vb_len (va_cons (ve_v 1) va_nil)) va_nil)) (blk_ok (N := N__law_is) (sc := defScope st__law_is) rfl ⟨by decide +kernel, by decide +kernel, by decide +kernel, by decide +kernel⟩) (fun _ _ _ _ _ => (vg_name 2 sc__law_is.nd)) gin_name gmono_name (fun _ _ _ _ _ => vts_nil) (fun _ _ _ _ _ => (ve_c (K := K) (ve_own_call c__law_is hr (by omega) (by rfl) takes0 (va_cons (ve_ix (hu 1 hr) (ve_v 0) (ve_v 2)) (va_cons (ve_ix (hu 1 hr) (ve_v 1) (ve_v 2)) va_nil))))) s)) va_nil)))))))))
theorem sc__law_az : FnScope N__law_az P__law_az (defScope st__law_az) := ⟨rfl, rfl, rfl, by decide +kernel, rfl, by decide +kernel, by decide +kernel⟩
theorem ok__law_az (F : FnD K "_law_az" st__law_az f fd) (f_len : mg "len" = none) : FnP P w K mg base B 1 f fd P__law_az f__law_az := by
  refine def_pure (k := 0) (N := N__law_az) (m := m__law_az) F sc__law_az fun cdv A outer s H E hc hr => ?_
  apply Exists.intro
  exact (vss_one (vs_ret (ve_and (ve_cmp (op_eqA (hu 64 hr)) semR_eq (ve_cb call_lenA semC_len f_len vb_len (va_cons (ve_v 0) va_nil)) ve_int (nomark _)) (ve_one (ve_chain op_leA op_leA semR_cmp semR_cmp (ve_str (l := [97])) (ve_v 0) (ve_str (l := [122])))))))
theorem sc__law_notices : FnScope N__law_notices P__law_notices (defScope st__law_notices) := ⟨rfl, rfl, rfl, by decide +kernel, rfl, by decide +kernel, by decide +kernel⟩
theorem ok__law_notices (F : FnD K "_law_notices" st__law_notices f fd) (f_int : mg "int" = none) (f_len : mg "len" = none) (f_min : mg "min" = none) (f_range : mg "range" = none) (f_sorted : mg "sorted" = none) (f_tuple : mg "tuple" = none) : FnP P w K mg base B 1 f fd P__law_notices f__law_notices := by
  refine def_pure (k := 0) (N := N__law_notices) (m := m__law_notices) F sc__law_notices fun cdv A outer s H E hc hr => ?_
  apply Exists.intro
  exact (vss_cons (vs_set 4 sc__law_notices.nd (ve_own (vf_lst va_nil)))
      (vss_cons (vs_for PassesOwn.leaving rfl (vi_range1 (by rfl) f_range (va_cons (ve_if (vt_cmp op_gtA semR_cmp (ve_cb call_lenA semC_len f_len vb_len (va_cons (ve_v 1) va_nil)) ve_int (nomark _)) (ve_v 2) ve_int) va_nil)) (vg_name 5 sc__law_notices.nd) gN_ok (vss_cons (vs_set 6 sc__law_notices.nd (ve_cut (ve_v 0) (vo_some (ve_mul ve_int (ve_v 5))) (vo_some (ve_add (ve_mul ve_int (ve_v 5)) ve_int))))
      (vss_cons (vs_set 7 sc__law_notices.nd (ve_mod (ve_ct call_int1 semC_int f_int vb_int (va_cons (ve_ix (hu 1 hr) (ve_v 6) ve_int) va_nil)) (ve_v 3)))
      (vss_cons (vs_set 8 sc__law_notices.nd (ve_cb (call_min2 rfl) semC_min2 f_min vb_min (va_cons (ve_sub (ve_v 3) ve_int) (va_cons (ve_add (ve_v 7) (ve_ix (hu 1 hr) (ve_tup (va_cons ve_int (va_cons ve_int (va_cons (ve_v 3) (va_cons ve_int (va_cons ve_int (va_cons ve_int va_nil))))))) (ve_mod (ve_ct call_int1 semC_int f_int vb_int (va_cons (ve_ix (hu 1 hr) (ve_v 6) ve_int) va_nil)) ve_int))) va_nil))))
      (vss_cons (vs_set 9 sc__law_notices.nd (ve_ix (hu 1 hr) (ve_v 1) (ve_mod (ve_ct call_int1 semC_int f_int vb_int (va_cons (ve_ix (hu 1 hr) (ve_v 6) ve_int) va_nil)) (ve_cb call_lenA semC_len f_len vb_len (va_cons (ve_v 1) va_nil)))))
      (vss_cons (vs_setLcO 10 4 ve_frz (own := [("one", 11)]) rfl sc__law_notices.nd (blk_ok (N := N__law_notices) (sc := defScope st__law_notices) rfl ⟨by decide +kernel, by decide +kernel, by decide +kernel, by decide +kernel⟩) (fun _ _ _ _ _ => (vg_name 11 sc__law_notices.nd)) gin_name gmono_name (fun _ _ _ _ _ => (vts_c (K := K) (vts_one (vt_w (vw_and (vt_cmp (op_eqA (hu 64 hr)) semR_eq (ve_ix (hu 1 hr) (ve_v 11) ve_int) (ve_v 9) (nomark _)) (vw_and1 (vt_cmp op_leA semR_cmp (ve_ix (hu 1 hr) (ve_v 11) ve_int) (ve_v 8) (nomark _)))))))) (fun _ _ _ _ _ => (ve_c (K := K) (ve_v 11))) s)
      (vss_one (vs_if (vt_cmp (op_eqA (hu 64 hr)) semR_eq (ve_cb call_lenA semC_len f_len vb_len (va_cons (ve_frz (vf_lc (own := [("one", 11)]) rfl sc__law_notices.nd (vi_seq (ve_v 10)) (blk_ok (N := N__law_notices) (sc := defScope st__law_notices) rfl ⟨by decide +kernel, by decide +kernel, by decide +kernel, by decide +kernel⟩) (fun _ _ _ _ _ => (vg_name 11 sc__law_notices.nd)) gin_name gmono_name (fun _ _ _ _ _ => (vts_c (K := K) (vts_one (vt_cmp op_leA semR_cmp (ve_v 7) (ve_ix (hu 1 hr) (ve_v 11) ve_int) (nomark _))))) (fun _ _ _ _ _ => (ve_c (K := K) (ve_v 11))) s)) va_nil)) ve_int (nomark _)) (vss_one (vs_expr (ve_append (ve_v 4) (va_cons (ve_tup (va_cons (ve_v 9) (va_cons (ve_v 7) (va_cons (ve_v 8) (va_cons (ve_ix (hu 1 hr) (ve_v 1) (ve_mod (ve_ct call_int1 semC_int f_int vb_int (va_cons (ve_ix (hu 1 hr) (ve_v 6) ve_int) va_nil)) (ve_cb call_lenA semC_len f_len vb_len (va_cons (ve_v 1) va_nil)))) va_nil))))) va_nil)))) vss_nil))))))))
      (vss_one (vs_ret (ve_ct call_tuple_of semC_tuple f_tuple vb_tuple (va_cons (ve_frz (vf_cb (SD.cr_SD (hu 67 hr)) semC_sorted f_sorted vb_sorted (va_cons (ve_v 4) va_nil))) va_nil))))))
theorem sc__law_due : FnScope N__law_due P__law_due (defScope st__law_due) := ⟨rfl, rfl, rfl, by decide +kernel, rfl, by decide +kernel, by decide +kernel⟩
theorem ok__law_due (F : FnD K "_law_due" st__law_due f fd) (f_len : mg "len" = none) (f_max : mg "max" = none) (f_min : mg "min" = none) (f_range : mg "range" = none) (c__law_az : CallOk P w K mg base B "_law_az" 1 P__law_az f__law_az) : FnP P w K mg base B 2 f fd P__law_due f__law_due := by
  refine def_pure (k := 1) (N := N__law_due) (m := m__law_due) F sc__law_due fun cdv A outer s H E hc hr => ?_
  apply Exists.intro
  exact (vss_cons (vs_for PassesOwn.leaving rfl (vi_range1 (by rfl) f_range (va_cons (ve_cb call_lenA semC_len f_len vb_len (va_cons (ve_v 0) va_nil)) va_nil)) (vg_name 1 sc__law_due.nd) gN_ok (vss_cons (vs_asg (ve_ix (hu 1 hr) (ve_v 0) (ve_v 1)) (vg_tup rfl (vgs_cons (vg_name 2 sc__law_due.nd) (vgs_cons (vg_name 3 sc__law_due.nd) (vgs_cons (vg_name 4 sc__law_due.nd) (vgs_cons (vg_name 5 sc__law_due.nd) vgs_nil gN_ok) gN_ok) gN_ok) gN_ok) (len_cons gN_ok (len_cons gN_ok (len_cons gN_ok (len_cons gN_ok len_nil))))) (gTupM_ok (gsCons_ok gN_ok (gsCons_ok gN_ok (gsCons_ok gN_ok (gsCons_ok gN_ok gsNil_ok))))))
      (vss_cons (vs_if (vt_w (vw_or (vt_not (vt_tru (ve_own_call c__law_az hr (by decide) (by rfl) tk_of (va_cons (ve_v 2) va_nil)))) (vw_or1 (vt_not (vt_tru (ve_own_call c__law_az hr (by decide) (by rfl) tk_of (va_cons (ve_v 5) va_nil))))))) (vss_one (vs_ret (ve_tup (va_cons (ve_v 1) (va_cons (ve_str (l := [97, 100, 100, 114, 101, 115, 115])) va_nil))))) vss_nil)
      (vss_cons (vs_if (vt_w (vw_or (vt_cmp op_ltA semR_cmp (ve_v 3) ve_int (nomark _)) (vw_or1 (vt_cmp op_ltA semR_cmp (ve_v 4) (ve_v 3) (nomark _))))) (vss_one (vs_ret (ve_tup (va_cons (ve_v 1) (va_cons (ve_str (l := [100, 97, 121, 115])) va_nil))))) vss_nil)
      (vss_cons (vs_if (vt_w (vw_and (vt_cmp op_gtA semR_cmp (ve_v 1) ve_int (nomark _)) (vw_and1 (vt_not (vt_cmp (op_ltD (hu 64 hr)) semR_ltD (ve_ix (hu 1 hr) (ve_v 0) (ve_sub (ve_v 1) ve_int)) (ve_ix (hu 1 hr) (ve_v 0) (ve_v 1)) (nomark _)))))) (vss_one (vs_ret (ve_tup (va_cons (ve_v 1) (va_cons (ve_str (l := [111, 114, 100, 101, 114])) va_nil))))) vss_nil)
      (vss_one (vs_for PassesOwn.leaving rfl (vi_seq (ve_cut (ve_v 0) vo_none (vo_some (ve_v 1)))) (vg_name 6 sc__law_due.nd) gN_ok (vss_one (vs_if (vt_w (vw_and (vt_cmp (op_eqA (hu 64 hr)) semR_eq (ve_ix (hu 1 hr) (ve_v 6) ve_int) (ve_v 2) (nomark _)) (vw_and1 (vt_cmp op_leA semR_cmp (ve_cb (call_max2 rfl) semC_max2 f_max vb_max (va_cons (ve_v 3) (va_cons (ve_ix (hu 1 hr) (ve_v 6) ve_int) va_nil))) (ve_cb (call_min2 rfl) semC_min2 f_min vb_min (va_cons (ve_v 4) (va_cons (ve_ix (hu 1 hr) (ve_v 6) ve_int) va_nil))) (nomark _))))) (vss_one (vs_ret (ve_tup (va_cons (ve_v 1) (va_cons (ve_str (l := [116, 119, 105, 99, 101])) va_nil))))) vss_nil)))))))))
      (vss_one (vs_ret ve_non)))
theorem sc__law_told : FnScope N__law_told P__law_told (defScope st__law_told) := ⟨rfl, rfl, rfl, by decide +kernel, rfl, by decide +kernel, by decide +kernel⟩
theorem ok__law_told (F : FnD K "_law_told" st__law_told f fd) (f_ValueError : mg "ValueError" = none) (f_isinstance : mg "isinstance" = none) (c_check_notices : CallOk P w K mg base B "check_notices" 3 P_check_notices f_check_notices) (xf : XF P w K mg B) : FnP P w K mg base B 4 f fd P__law_told f__law_told := by
  refine def_pure (k := 3) (N := N__law_told) (m := m__law_told) F sc__law_told fun cdv A outer s H E hc hr => ?_
  apply Exists.intro
  exact (vss_one (vs_tryAs (i := 1) rfl rfl sc__law_told.nd ⟨by rfl, by decide, .inl xf.n_BadNotices⟩ tk_of xf.t_BadNotices (fun W pn xe tk po => ⟨_, (vss_one (vs_ret (ve_tup (va_cons ve_bl (va_cons (ve_own_call c_check_notices hr (by decide) (by rfl) tk (va_cons (ve_v 0) va_nil)) va_nil)))))⟩) (fun a oe d pn hz hf => ⟨_, (vss_cons (vs_if (vt_w (vw_or (vt_not (vt_tru (ve_isG 1 xf.e_BadNotices hz hf f_isinstance xf.n_MailwaysError xf.k_BadNotices_MailwaysError))) (vw_or1 (vt_not (vt_tru (ve_isT 1 xf.e_BadNotices hz hf f_isinstance f_ValueError vb_ValueError xf.k_BadNotices_ValueError)))))) (vss_one (vs_ret (ve_tup (va_cons ve_bl (va_cons ve_non va_nil))))) vss_nil)
      (vss_cons (vs_if (vt_w (vw_or (vt_tru (ve_isG 1 xf.e_BadNotices hz hf f_isinstance xf.n_BadTable xf.k_BadNotices_BadTable)) (vw_or (vt_tru (ve_isG 1 xf.e_BadNotices hz hf f_isinstance xf.n_BadPlan xf.k_BadNotices_BadPlan)) (vw_or (vt_tru (ve_isG 1 xf.e_BadNotices hz hf f_isinstance xf.n_BadRoom xf.k_BadNotices_BadRoom)) (vw_or1 (vt_tru (ve_isG 1 xf.e_BadNotices hz hf f_isinstance xf.n_BadLine xf.k_BadNotices_BadLine))))))) (vss_one (vs_ret (ve_tup (va_cons ve_bl (va_cons ve_non va_nil))))) vss_nil)
      (vss_one (vs_ret (ve_tup (va_cons ve_bl (va_cons (ve_tup (va_cons (ve_fld 1 xf.e_BadNotices hz hf xf.o_BadNotices_place) (va_cons (ve_fld 1 xf.e_BadNotices hz hf xf.o_BadNotices_fault) va_nil))) va_nil)))))))⟩)))
theorem sc__law_right : FnScope N__law_right P__law_right (defScope st__law_right) := ⟨rfl, rfl, rfl, by decide +kernel, rfl, by decide +kernel, by decide +kernel⟩
theorem ok__law_right (F : FnD K "_law_right" st__law_right f fd) (c__law_due : CallOk P w K mg base B "_law_due" 2 P__law_due f__law_due) (c__law_is : CallOk P w K mg base B "_law_is" 7 P__law_is (f__law_is 6)) (c__law_told : CallOk P w K mg base B "_law_told" 4 P__law_told f__law_told) : FnP P w K mg base B 8 f fd P__law_right f__law_right := by
  refine def_pure (k := 7) (N := N__law_right) (m := m__law_right) F sc__law_right fun cdv A outer s H E hc hr => ?_
  apply Exists.intro
  exact (vss_cons (vs_set 1 sc__law_right.nd (ve_own_call c__law_due hr (by decide) (by rfl) tk_of (va_cons (ve_v 0) va_nil)))
      (vss_cons (vs_asg (ve_own_call c__law_told hr (by decide) (by rfl) tk_of (va_cons (ve_v 0) va_nil)) (vg_tup rfl (vgs_cons (vg_name 2 sc__law_right.nd) (vgs_cons (vg_name 3 sc__law_right.nd) vgs_nil gN_ok) gN_ok) (len_cons gN_ok (len_cons gN_ok len_nil))) (gTupM_ok (gsCons_ok gN_ok (gsCons_ok gN_ok gsNil_ok))))
      (vss_one (vs_ret (ve_and (ve_cmp (op_eqA (hu 64 hr)) semR_eq (ve_v 2) (ve_cmp op_notN semR_isn (ve_v 1) ve_non (nomark _)) (nomark _)) (ve_one (ve_own_call c__law_is hr (by decide) (by rfl) tk_of (va_cons (ve_v 3) (va_cons (ve_v 1) va_nil)))))))))
theorem sc__law_bent : FnScope N__law_bent P__law_bent (defScope st__law_bent) := ⟨rfl, rfl, rfl, by decide +kernel, rfl, by decide +kernel, by decide +kernel⟩
theorem ok__law_bent (F : FnD K "_law_bent" st__law_bent f fd) (f_int : mg "int" = none) (f_len : mg "len" = none) (f_sorted : mg "sorted" = none) (f_tuple : mg "tuple" = none) : FnP P w K mg base B 1 f fd P__law_bent f__law_bent := by
  refine def_pure (k := 0) (N := N__law_bent) (m := m__law_bent) F sc__law_bent fun cdv A outer s H E hc hr => ?_
  apply Exists.intro
  exact (vss_cons (vs_if (vt_cmp (op_eqA (hu 64 hr)) semR_eq (ve_cb call_lenA semC_len f_len vb_len (va_cons (ve_v 0) va_nil)) ve_int (nomark _)) (vss_one (vs_ret (ve_cut (ve_tup (va_cons (ve_tup (va_cons (ve_str (l := [97])) (va_cons ve_int (va_cons ve_int (va_cons (ve_str (l := [98])) va_nil))))) (va_cons (ve_tup (va_cons (ve_str (l := [98])) (va_cons ve_int (va_cons ve_int (va_cons (ve_str (l := [])) va_nil))))) va_nil))) (vo_some (ve_mod (ve_ct call_int1 semC_int f_int vb_int (va_cons (ve_ix (hu 1 hr) (ve_v 1) ve_int) va_nil)) ve_int)) vo_none))) vss_nil)
      (vss_cons (vs_set 2 sc__law_bent.nd (ve_mod (ve_ct call_int1 semC_int f_int vb_int (va_cons (ve_ix (hu 1 hr) (ve_v 1) ve_int) va_nil)) (ve_cb call_lenA semC_len f_len vb_len (va_cons (ve_v 0) va_nil))))
      (vss_cons (vs_asg (ve_ix (hu 1 hr) (ve_v 0) (ve_v 2)) (vg_tup rfl (vgs_cons (vg_name 3 sc__law_bent.nd) (vgs_cons (vg_name 4 sc__law_bent.nd) (vgs_cons (vg_name 5 sc__law_bent.nd) (vgs_cons (vg_name 6 sc__law_bent.nd) vgs_nil gN_ok) gN_ok) gN_ok) gN_ok) (len_cons gN_ok (len_cons gN_ok (len_cons gN_ok (len_cons gN_ok len_nil))))) (gTupM_ok (gsCons_ok gN_ok (gsCons_ok gN_ok (gsCons_ok gN_ok (gsCons_ok gN_ok gsNil_ok))))))
      (vss_cons (vs_set 7 sc__law_bent.nd (ve_mod (ve_ct call_int1 semC_int f_int vb_int (va_cons (ve_ix (hu 1 hr) (ve_v 1) ve_int) va_nil)) ve_int))
      (vss_cons (vs_set 8 sc__law_bent.nd (ve_ix (hu 1 hr) (ve_tup (va_cons (ve_str (l := [])) (va_cons (ve_str (l := [65])) (va_cons (ve_str (l := [97, 98])) (va_cons (ve_str (l := [49])) (va_cons (ve_add (ve_v 3) (ve_v 6)) (va_cons (ve_str (l := [63])) (va_cons (ve_str (l := [32])) (va_cons (ve_mulA (ve_v 3) ve_int) va_nil))))))))) (ve_mod (ve_ct call_int1 semC_int f_int vb_int (va_cons (ve_ix (hu 1 hr) (ve_v 1) ve_int) va_nil)) ve_int)))
      (vss_cons (vs_set 9 sc__law_bent.nd (ve_ix (hu 1 hr) (ve_tup (va_cons (ve_sub ve_int ve_int) (va_cons (ve_add (ve_v 5) ve_int) (va_cons (ve_pow ve_int ve_int) (va_cons (ve_sub ve_int (ve_pow ve_int ve_int)) (va_cons (ve_v 5) (va_cons ve_int va_nil))))))) (ve_mod (ve_div (ve_ct call_int1 semC_int f_int vb_int (va_cons (ve_ix (hu 1 hr) (ve_v 1) ve_int) va_nil)) ve_int) ve_int)))
      (vss_cons (vs_set 10 sc__law_bent.nd (ve_tup (va_cons (ve_tup (va_cons (ve_v 8) (va_cons (ve_v 4) (va_cons (ve_v 5) (va_cons (ve_v 6) va_nil))))) (va_cons (ve_tup (va_cons (ve_v 3) (va_cons (ve_v 4) (va_cons (ve_v 5) (va_cons (ve_v 8) va_nil))))) (va_cons (ve_tup (va_cons (ve_v 3) (va_cons (ve_v 9) (va_cons (ve_v 5) (va_cons (ve_v 6) va_nil))))) va_nil)))))
      (vss_cons (vs_set 10 sc__law_bent.nd (ve_ix (hu 1 hr) (ve_add (ve_v 10) (ve_tup (va_cons (ve_tup (va_cons (ve_v 3) (va_cons (ve_add (ve_v 5) ve_int) (va_cons (ve_v 4) (va_cons (ve_v 6) va_nil))))) (va_cons (ve_tup (va_cons (ve_v 3) (va_cons (ve_v 4) (va_cons (ve_v 9) (va_cons (ve_v 6) va_nil))))) va_nil)))) (ve_mod (ve_v 7) ve_int)))
      (vss_cons (vs_if (vt_cmp op_ltA semR_cmp (ve_v 7) ve_int (nomark _)) (vss_one (vs_ret (ve_add (ve_add (ve_cut (ve_v 0) vo_none (vo_some (ve_v 2))) (ve_tup (va_cons (ve_v 10) va_nil))) (ve_cut (ve_v 0) (vo_some (ve_add (ve_v 2) ve_int)) vo_none)))) vss_nil)
      (vss_cons (vs_if (vt_cmp (op_eqA (hu 64 hr)) semR_eq (ve_v 7) ve_int (nomark _)) (vss_one (vs_ret (ve_add (ve_add (ve_cut (ve_v 0) vo_none (vo_some (ve_v 2))) (ve_tup (va_cons (ve_ix (hu 1 hr) (ve_v 0) (ve_v 2)) va_nil))) (ve_cut (ve_v 0) (vo_some (ve_v 2)) vo_none)))) vss_nil)
      (vss_cons (vs_if (vt_cmp (op_eqA (hu 64 hr)) semR_eq (ve_v 7) ve_int (nomark _)) (vss_one (vs_ret (ve_add (ve_add (ve_cut (ve_v 0) vo_none (vo_some (ve_v 2))) (ve_cut (ve_v 0) (vo_some (ve_add (ve_v 2) ve_int)) vo_none)) (ve_tup (va_cons (ve_ix (hu 1 hr) (ve_v 0) (ve_v 2)) va_nil))))) vss_nil)
      (vss_cons (vs_if (vt_cmp (op_eqA (hu 64 hr)) semR_eq (ve_v 7) ve_int (nomark _)) (vss_one (vs_ret (ve_ct call_tuple_of semC_tuple f_tuple vb_tuple (va_cons (ve_frz (vf_cb (SD.cr_SDT (hu 67 hr)) semC_sortedT f_sorted vb_sorted (va_cons (ve_add (ve_v 0) (ve_tup (va_cons (ve_tup (va_cons (ve_v 3) (va_cons (ve_v 5) (va_cons (ve_add (ve_v 5) (ve_mod (ve_ct call_int1 semC_int f_int vb_int (va_cons (ve_ix (hu 1 hr) (ve_v 1) ve_int) va_nil)) ve_int)) (va_cons (ve_str (l := [113])) va_nil))))) va_nil))) va_nil))) va_nil)))) vss_nil)
      (vss_one (vs_ret (ve_back (ve_v 0))))))))))))))))
theorem sc_law : FnScope N_law P_law (defScope st_law) := ⟨rfl, rfl, rfl, by decide +kernel, rfl, by decide +kernel, by decide +kernel⟩
theorem ok_law (F : FnD K "law" st_law f fd) (f_int : mg "int" = none) (f_range : mg "range" = none) (c__law_alphabet : CallOk P w K mg base B "_law_alphabet" 1 P__law_alphabet f__law_alphabet) (c__law_bent : CallOk P w K mg base B "_law_bent" 1 P__law_bent f__law_bent) (c__law_cell : CallOk P w K mg base B "_law_cell" 1 P__law_cell f__law_cell) (c__law_draws : CallOk P w K mg base B "_law_draws" 1 P__law_draws f__law_draws) (c__law_notices : CallOk P w K mg base B "_law_notices" 1 P__law_notices f__law_notices) (c__law_right : CallOk P w K mg base B "_law_right" 8 P__law_right f__law_right) : FnP P w K mg base B 9 f fd P_law f_law := by
  refine def_pure (k := 8) (N := N_law) (m := m_law) F sc_law fun cdv A outer s H E hc hr => ?_
  apply Exists.intro
  exact (vss_cons (vs_set 1 sc_law.nd (ve_own_call c__law_draws hr (by decide) (by rfl) tk_of (va_cons (ve_own_call c__law_cell hr (by decide) (by rfl) tk_of (va_cons (ve_v 0) (va_cons ve_int va_nil))) (va_cons ve_int va_nil))))
      (vss_cons (vs_set 2 sc_law.nd (ve_own_call c__law_alphabet hr (by decide) (by rfl) tk_of (va_cons (ve_cut (ve_v 1) vo_none (vo_some ve_int)) (va_cons (ve_ix (hu 1 hr) (ve_tup (va_cons ve_int (va_cons ve_int (va_cons ve_int (va_cons ve_int (va_cons ve_int (va_cons ve_int va_nil))))))) (ve_mod (ve_ct call_int1 semC_int f_int vb_int (va_cons (ve_ix (hu 1 hr) (ve_v 1) ve_int) va_nil)) ve_int)) va_nil))))
      (vss_cons (vs_set 3 sc_law.nd (ve_ix (hu 1 hr) (ve_tup (va_cons ve_int (va_cons ve_int (va_cons ve_int (va_cons ve_int (va_cons ve_int (va_cons ve_int (va_cons ve_int (va_cons ve_int (va_cons ve_int (va_cons ve_int (va_cons ve_int (va_cons ve_int va_nil))))))))))))) (ve_mod (ve_ct call_int1 semC_int f_int vb_int (va_cons (ve_ix (hu 1 hr) (ve_v 1) ve_int) va_nil)) ve_int)))
      (vss_cons (vs_set 4 sc_law.nd (ve_if (vt_cmp op_gtA semR_cmp (ve_v 3) ve_int (nomark _)) ve_int (ve_ix (hu 1 hr) (ve_tup (va_cons ve_int (va_cons ve_int (va_cons ve_int va_nil)))) (ve_mod (ve_ct call_int1 semC_int f_int vb_int (va_cons (ve_ix (hu 1 hr) (ve_v 1) ve_int) va_nil)) ve_int))))
      (vss_cons (vs_set 5 sc_law.nd (ve_own_call c__law_notices hr (by decide) (by rfl) tk_of (va_cons (ve_own_call c__law_draws hr (by decide) (by rfl) tk_of (va_cons (ve_own_call c__law_cell hr (by decide) (by rfl) tk_of (va_cons (ve_v 0) (va_cons ve_int va_nil))) (va_cons (ve_mul ve_int (ve_v 3)) va_nil))) (va_cons (ve_v 2) (va_cons (ve_v 3) (va_cons (ve_v 4) va_nil))))))
      (vss_cons (vs_set 6 sc_law.nd (ve_v 5))
      (vss_cons (vs_for PassesOwn.leaving rfl (vi_range1 (by rfl) f_range (va_cons (ve_add ve_int (ve_mod (ve_ct call_int1 semC_int f_int vb_int (va_cons (ve_ix (hu 1 hr) (ve_v 1) ve_int) va_nil)) ve_int)) va_nil)) (vg_name 7 sc_law.nd) gN_ok (vss_cons (vs_if (vt_not (vt_tru (ve_own_call c__law_right hr (by decide) (by rfl) tk_of (va_cons (ve_v 6) va_nil)))) (vss_one (vs_ret ve_bl)) vss_nil)
      (vss_one (vs_set 6 sc_law.nd (ve_own_call c__law_bent hr (by decide) (by rfl) tk_of (va_cons (ve_v 6) (va_cons (ve_cut (ve_v 1) (vo_some (ve_add ve_int (ve_mul ve_int (ve_v 7)))) (vo_some (ve_add ve_int (ve_mul ve_int (ve_v 7))))) va_nil)))))))
      (vss_one (vs_ret (ve_and (ve_own_call c__law_right hr (by decide) (by rfl) tk_of (va_cons (ve_v 6) va_nil)) (ve_and (ve_own_call c__law_right hr (by decide) (by rfl) tk_of (va_cons (ve_v 5) va_nil)) (ve_and (ve_own_call c__law_right hr (by decide) (by rfl) tk_of (va_cons (ve_add (ve_cut (ve_v 6) vo_none (vo_some ve_int)) (ve_v 5)) va_nil)) (ve_one (ve_own_call c__law_right hr (by decide) (by rfl) tk_of (va_cons (ve_tup va_nil) va_nil)))))))))))))))
end
end K73
namespace K73
open PySem PySem.Spec PyProof.Rows L2 VL
def dd_is_letter : He.DefD := ⟨("is_letter", none), "is_letter", "is_letter", defArgs st_is_letter, defBody st_is_letter, defScope st_is_letter, [], []⟩
def dd_are_together : He.DefD := ⟨("are_together", none), "are_together", "are_together", defArgs st_are_together, defBody st_are_together, defScope st_are_together, [], []⟩
def dd_notice_fault : He.DefD := ⟨("notice_fault", none), "notice_fault", "notice_fault", defArgs st_notice_fault, defBody st_notice_fault, defScope st_notice_fault, [], []⟩
def dd_check_notices : He.DefD := ⟨("check_notices", none), "check_notices", "check_notices", defArgs st_check_notices, defBody st_check_notices, defScope st_check_notices, [], []⟩
def dd__law_cell : He.DefD := ⟨("_law_cell", none), "_law_cell", "_law_cell", defArgs st__law_cell, defBody st__law_cell, defScope st__law_cell, [], []⟩
def dd__law_draws : He.DefD := ⟨("_law_draws", none), "_law_draws", "_law_draws", defArgs st__law_draws, defBody st__law_draws, defScope st__law_draws, [], []⟩
def dd__law_is_integer : He.DefD := ⟨("_law_is_integer", none), "_law_is_integer", "_law_is_integer", defArgs st__law_is_integer, defBody st__law_is_integer, defScope st__law_is_integer, [], []⟩
def dd__law_alphabet : He.DefD := ⟨("_law_alphabet", none), "_law_alphabet", "_law_alphabet", defArgs st__law_alphabet, defBody st__law_alphabet, defScope st__law_alphabet, [], []⟩
def dd__law_is : He.DefD := ⟨("_law_is", none), "_law_is", "_law_is", defArgs st__law_is, defBody st__law_is, defScope st__law_is, [], []⟩
def dd__law_az : He.DefD := ⟨("_law_az", none), "_law_az", "_law_az", defArgs st__law_az, defBody st__law_az, defScope st__law_az, [], []⟩
def dd__law_notices : He.DefD := ⟨("_law_notices", none), "_law_notices", "_law_notices", defArgs st__law_notices, defBody st__law_notices, defScope st__law_notices, [], []⟩
def dd__law_due : He.DefD := ⟨("_law_due", none), "_law_due", "_law_due", defArgs st__law_due, defBody st__law_due, defScope st__law_due, [], []⟩
def dd__law_told : He.DefD := ⟨("_law_told", none), "_law_told", "_law_told", defArgs st__law_told, defBody st__law_told, defScope st__law_told, [], []⟩
def dd__law_right : He.DefD := ⟨("_law_right", none), "_law_right", "_law_right", defArgs st__law_right, defBody st__law_right, defScope st__law_right, [], []⟩
def dd__law_bent : He.DefD := ⟨("_law_bent", none), "_law_bent", "_law_bent", defArgs st__law_bent, defBody st__law_bent, defScope st__law_bent, [], []⟩
def dd_law : He.DefD := ⟨("law", none), "law", "law", defArgs st_law, defBody st_law, defScope st_law, [], []⟩
def fn : List He.DefD := [dd_is_letter, dd_are_together, dd_notice_fault, dd_check_notices, dd__law_cell, dd__law_draws, dd__law_is_integer, dd__law_alphabet, dd__law_is, dd__law_az, dd__law_notices, dd__law_due, dd__law_told, dd__law_right, dd__law_bent, dd_law]
def fa : List He.Fa := [.glo "is_letter", .glo "are_together", .glo "notice_fault", .glo "check_notices", .glo "_law_cell", .glo "_law_draws", .glo "_law_is_integer", .glo "_law_alphabet", .glo "_law_is", .glo "_law_az", .glo "_law_notices", .glo "_law_due", .glo "_law_told", .glo "_law_right", .glo "_law_bent", .glo "law", .free "ValueError", .free "abs", .free "all", .free "any", .free "bool", .free "int", .free "isinstance", .free "len", .free "list", .free "max", .free "min", .free "range", .free "sorted", .free "str", .free "super", .free "tuple", .str "LETTERS" "abcdefghijklmnopqrstuvwxyz", .glo "BadLine", .glo "BadNotices", .glo "BadPlan", .glo "BadRoom", .glo "BadTable", .glo "MailwaysError", .noat "BadNotices" "fault", .noat "BadNotices" "place"]
def tf : List He.Defn := [("notice_fault", none)]
def i_BadNotices : IniD := ⟨"BadNotices", "BadNotices.__init__", XI.iAs [XI.iArg "self" ⟨23, 17, 23, 21⟩, XI.iArg "place" ⟨23, 23, 23, 28⟩, XI.iArg "fault" ⟨23, 30, 23, 35⟩], [XI.iR (.JoinedStr [.Constant (.str "notice ") 0 ⟨24, 27, 24, 34⟩, .FormattedValue (.Name "place" ⟨24, 35, 24, 40⟩) (-1) none ⟨24, 34, 24, 41⟩, .Constant (.str " is faulty: ") 0 ⟨24, 41, 24, 53⟩, .FormattedValue (.Name "fault" ⟨24, 54, 24, 59⟩) (-1) none ⟨24, 53, 24, 60⟩] ⟨24, 25, 24, 61⟩) ⟨24, 8, 24, 13⟩ ⟨24, 8, 24, 15⟩ ⟨24, 8, 24, 24⟩ ⟨24, 8, 24, 62⟩ ⟨24, 8, 24, 62⟩, XI.iF "place" ⟨25, 8, 25, 12⟩ ⟨25, 8, 25, 18⟩ ⟨25, 21, 25, 26⟩ ⟨25, 8, 25, 26⟩, XI.iF "fault" ⟨26, 8, 26, 12⟩ ⟨26, 8, 26, 18⟩ ⟨26, 21, 26, 26⟩ ⟨26, 8, 26, 26⟩], XI.iSc ["self", "place", "fault"]⟩
abbrev fileN : Str := PySem.Challenge.pw_mailways_k73_checked_notices.main.file
def ex (K : PySem.W.Frag) : Bool := excB K "BadNotices" && iniB K "BadNotices" "BadNotices.__init__" fileN && decide (PySem.W.kitOne K (.ref (He.ga K "BadNotices")) (.ref (He.ga K "BadLine")) = some false) && decide (PySem.W.kitOne K (.ref (He.ga K "BadNotices")) (.ref (He.ga K "BadPlan")) = some false) && decide (PySem.W.kitOne K (.ref (He.ga K "BadNotices")) (.ref (He.ga K "BadRoom")) = some false) && decide (PySem.W.kitOne K (.ref (He.ga K "BadNotices")) (.ref (He.ga K "BadTable")) = some false) && decide (PySem.W.kitOne K (.ref (He.ga K "BadNotices")) (.ref (He.ga K "MailwaysError")) = some true) && decide (PySem.W.kitOne K (.ref (He.ga K "BadNotices")) (.type "ValueError") = some true)
def fi : List IniD := [i_BadNotices]
abbrev R : PySem.W.OpenRow := PySem.W.OpenLaw.row PySem.Challenge.rw_mailways_k73_checked_notices
abbrev hk : PySem.W.Hook := hookY 4 fa fn [] tf ex fi
def ob (s : PySem.W.SharedT) : AlY := obsY 4 fa fn [] tf ex fi (HandSHeadRun.getT s)
theorem ob_eq (s : PySem.W.SharedT) : ob s = hk.obs s.abs := obsY_eq (HandSHeadRun.getT_eq s)
abbrev loose : List Str := ["MailwaysError", "BadLine", "BadPlan", "BadTable", "BadNotices", "BadRoom", "LETTERS", "is_letter", "are_together", "notice_fault", "check_notices", "_law_cell", "_law_draws", "_law_is_integer", "_law_alphabet", "_law_is", "_law_az", "_law_notices", "_law_due", "_law_told", "_law_right", "_law_bent"]
theorem run (w : World) : HandSHeadRun.RunEq R (PySem.W.view R.prog [26]) hk ob 4700 loose w := by
  intro os
  kernel_rfl
theorem law_at {w : World} {mg : Str → Option Value} {fadr : Addr} {h : Heap} (Y : hk.says w h) (G : h.Ns mainGlobals mg) (hfa : mg "law" = some (.ref fadr)) : ∃ K : PySem.W.Frag, K.In h ∧ LamX.LawAtS PySem.Challenge.rw_mailways_k73_checked_notices w K (L2.CX (PySem.Challenge.rw_mailways_k73_checked_notices).prog w) 30 63 "script" mg fadr h := by
  obtain ⟨K, X, cY⟩ := Y
  have c := cY.1
  have sd := c.t.d
  obtain ⟨fd_is_letter, F_is_letter⟩ := sd.def_ 0 (d := dd_is_letter) rfl
  have m_is_letter := He.glo_ok X G (sd.fact 0 (f := .glo "is_letter") rfl)
  obtain ⟨fd_are_together, F_are_together⟩ := sd.def_ 1 (d := dd_are_together) rfl
  have m_are_together := He.glo_ok X G (sd.fact 1 (f := .glo "are_together") rfl)
  obtain ⟨fd_notice_fault, F_notice_fault⟩ := sd.def_ 2 (d := dd_notice_fault) rfl
  have m_notice_fault := He.glo_ok X G (sd.fact 2 (f := .glo "notice_fault") rfl)
  obtain ⟨fd_check_notices, F_check_notices⟩ := sd.def_ 3 (d := dd_check_notices) rfl
  have m_check_notices := He.glo_ok X G (sd.fact 3 (f := .glo "check_notices") rfl)
  obtain ⟨fd__law_cell, F__law_cell⟩ := sd.def_ 4 (d := dd__law_cell) rfl
  have m__law_cell := He.glo_ok X G (sd.fact 4 (f := .glo "_law_cell") rfl)
  obtain ⟨fd__law_draws, F__law_draws⟩ := sd.def_ 5 (d := dd__law_draws) rfl
  have m__law_draws := He.glo_ok X G (sd.fact 5 (f := .glo "_law_draws") rfl)
  obtain ⟨fd__law_is_integer, F__law_is_integer⟩ := sd.def_ 6 (d := dd__law_is_integer) rfl
  have m__law_is_integer := He.glo_ok X G (sd.fact 6 (f := .glo "_law_is_integer") rfl)
  obtain ⟨fd__law_alphabet, F__law_alphabet⟩ := sd.def_ 7 (d := dd__law_alphabet) rfl
  have m__law_alphabet := He.glo_ok X G (sd.fact 7 (f := .glo "_law_alphabet") rfl)
  obtain ⟨fd__law_is, F__law_is⟩ := sd.def_ 8 (d := dd__law_is) rfl
  have m__law_is := He.glo_ok X G (sd.fact 8 (f := .glo "_law_is") rfl)
  obtain ⟨fd__law_az, F__law_az⟩ := sd.def_ 9 (d := dd__law_az) rfl
  have m__law_az := He.glo_ok X G (sd.fact 9 (f := .glo "_law_az") rfl)
  obtain ⟨fd__law_notices, F__law_notices⟩ := sd.def_ 10 (d := dd__law_notices) rfl
  have m__law_notices := He.glo_ok X G (sd.fact 10 (f := .glo "_law_notices") rfl)
  obtain ⟨fd__law_due, F__law_due⟩ := sd.def_ 11 (d := dd__law_due) rfl
  have m__law_due := He.glo_ok X G (sd.fact 11 (f := .glo "_law_due") rfl)
  obtain ⟨fd__law_told, F__law_told⟩ := sd.def_ 12 (d := dd__law_told) rfl
  have m__law_told := He.glo_ok X G (sd.fact 12 (f := .glo "_law_told") rfl)
  obtain ⟨fd__law_right, F__law_right⟩ := sd.def_ 13 (d := dd__law_right) rfl
  have m__law_right := He.glo_ok X G (sd.fact 13 (f := .glo "_law_right") rfl)
  obtain ⟨fd__law_bent, F__law_bent⟩ := sd.def_ 14 (d := dd__law_bent) rfl
  have m__law_bent := He.glo_ok X G (sd.fact 14 (f := .glo "_law_bent") rfl)
  obtain ⟨fd_law, F_law⟩ := sd.def_ 15 (d := dd_law) rfl
  have m_law := He.glo_ok X G (sd.fact 15 (f := .glo "law") rfl)
  have f_ValueError := He.free_ok X G (sd.fact 16 (f := .free "ValueError") rfl)
  have f_abs := He.free_ok X G (sd.fact 17 (f := .free "abs") rfl)
  have f_all := He.free_ok X G (sd.fact 18 (f := .free "all") rfl)
  have f_any := He.free_ok X G (sd.fact 19 (f := .free "any") rfl)
  have f_bool := He.free_ok X G (sd.fact 20 (f := .free "bool") rfl)
  have f_int := He.free_ok X G (sd.fact 21 (f := .free "int") rfl)
  have f_isinstance := He.free_ok X G (sd.fact 22 (f := .free "isinstance") rfl)
  have f_len := He.free_ok X G (sd.fact 23 (f := .free "len") rfl)
  have f_list := He.free_ok X G (sd.fact 24 (f := .free "list") rfl)
  have f_max := He.free_ok X G (sd.fact 25 (f := .free "max") rfl)
  have f_min := He.free_ok X G (sd.fact 26 (f := .free "min") rfl)
  have f_range := He.free_ok X G (sd.fact 27 (f := .free "range") rfl)
  have f_sorted := He.free_ok X G (sd.fact 28 (f := .free "sorted") rfl)
  have f_str := He.free_ok X G (sd.fact 29 (f := .free "str") rfl)
  have f_super := He.free_ok X G (sd.fact 30 (f := .free "super") rfl)
  have f_tuple := He.free_ok X G (sd.fact 31 (f := .free "tuple") rfl)
  have g_LETTERS := He.str_ok X G (sd.fact 32 (f := .str "LETTERS" "abcdefghijklmnopqrstuvwxyz") rfl)
  have n_BadLine := He.glo_ok X G (sd.fact 33 (f := .glo "BadLine") rfl)
  have n_BadNotices := He.glo_ok X G (sd.fact 34 (f := .glo "BadNotices") rfl)
  have n_BadPlan := He.glo_ok X G (sd.fact 35 (f := .glo "BadPlan") rfl)
  have n_BadRoom := He.glo_ok X G (sd.fact 36 (f := .glo "BadRoom") rfl)
  have n_BadTable := He.glo_ok X G (sd.fact 37 (f := .glo "BadTable") rfl)
  have n_MailwaysError := He.glo_ok X G (sd.fact 38 (f := .glo "MailwaysError") rfl)
  have o_BadNotices_fault : PySem.W.findIn K (.ref (He.ga K "BadNotices")) "fault" = some none := He.noat_ok (sd.fact 39 (f := .noat "BadNotices" "fault") rfl)
  have o_BadNotices_place : PySem.W.findIn K (.ref (He.ga K "BadNotices")) "place" = some none := He.noat_ok (sd.fact 40 (f := .noat "BadNotices" "place") rfl)
  have hex := c.more
  simp only [ex, Bool.and_eq_true, decide_eq_true_eq] at hex
  obtain ⟨⟨⟨⟨⟨⟨⟨b_BadNotices, ib_BadNotices⟩, k_BadNotices_BadLine⟩, k_BadNotices_BadPlan⟩, k_BadNotices_BadRoom⟩, k_BadNotices_BadTable⟩, k_BadNotices_MailwaysError⟩, k_BadNotices_ValueError⟩ := hex
  have T_BadNotices := excB_ok b_BadNotices
  have x_BadNotices : ExcMk (PySem.Challenge.rw_mailways_k73_checked_notices).prog w K mg "BadNotices" (He.ga K "BadNotices") ["place", "fault"] := mk2 T_BadNotices (cY.ini 0 (d := i_BadNotices) rfl) ib_BadNotices rfl (by kernel_rfl) f_super n_BadNotices o_BadNotices_place o_BadNotices_fault (fun _ => rfl) rfl (fun _ => rfl) (fun cc cda v v2 A E L m hv hv2 e1 e2 => tells_tftf (by decide) (by decide) hv hv2 e1 e2 rfl rfl rfl (by decide) (by decide))
  have xf : XF (PySem.Challenge.rw_mailways_k73_checked_notices).prog w K mg (bsOf K tf) := ⟨n_BadLine, n_BadNotices, n_BadPlan, n_BadRoom, n_BadTable, n_MailwaysError, x_BadNotices, T_BadNotices.te, T_BadNotices.e, o_BadNotices_fault, o_BadNotices_place, k_BadNotices_BadLine, k_BadNotices_BadPlan, k_BadNotices_BadRoom, k_BadNotices_BadTable, k_BadNotices_MailwaysError, k_BadNotices_ValueError⟩
  have e0 := hfa.symm.trans m_law
  cases e0
  refine ⟨K, X, fd_law, tf.map (He.cT K), spP K (bsOf K tf) f_law, fun p hp => ?_, fun p hp => ?_, fun p hp => ?_, fun s u => FunD.bindsA (ps := ["script"]) F_law (fun _ _ _ _ _ _ us hl => match us, hl with | [_], _ => rfl) s [u] rfl, fun H a ns hl hb hT hS => law_sp (law_true ns hl) (fun P hP => ?_) hS, fun base KB NB TB => ?_⟩
  · obtain ⟨d, hd, rfl⟩ := List.mem_map.mp hp
    exact c.empty d hd
  · obtain ⟨d, hd, rfl⟩ := List.mem_map.mp hp
    exact c.out d hd
  · obtain ⟨d, hd, rfl⟩ := List.mem_map.mp hp
    exact PySem.W.codeHd_of_K X (c.hd d hd)
  · obtain ⟨d, hd, rfl⟩ := hP
    exact ⟨#[], hT _ (List.mem_map.mpr ⟨d, hd, rfl⟩), trivial⟩
  have c_is_letter := call_ok (P := (PySem.Challenge.rw_mailways_k73_checked_notices).prog) (w := w) (base := base) (ps := P_is_letter) F_is_letter m_is_letter (ok_is_letter (B := bsOf K tf) F_is_letter f_len g_LETTERS) (fun _ _ _ _ _ _ us hl => match us, hl with | [_], _ => rfl)
  have c_are_together := call_ok (P := (PySem.Challenge.rw_mailways_k73_checked_notices).prog) (w := w) (base := base) (ps := P_are_together) F_are_together m_are_together (ok_are_together (B := bsOf K tf) F_are_together ) (fun _ _ _ _ _ _ us hl => match us, hl with | [_, _], _ => rfl)
  have c_notice_fault := call_ok (P := (PySem.Challenge.rw_mailways_k73_checked_notices).prog) (w := w) (base := base) (ps := P_notice_fault) F_notice_fault m_notice_fault (ok_notice_fault (B := bsOf K tf) F_notice_fault f_any c_is_letter F_are_together m_are_together ⟨_, _, code_tab F_notice_fault, tab_of (TB _ (List.mem_map.mpr ⟨("notice_fault", none), by simp [tf], rfl⟩)), ⟨("notice_fault", none), by simp [tf], rfl⟩, c.out ("notice_fault", none) (by simp [tf])⟩) (fun _ _ _ _ _ _ us hl => match us, hl with | [_, _], _ => rfl)
  have c_check_notices := call_ok (P := (PySem.Challenge.rw_mailways_k73_checked_notices).prog) (w := w) (base := base) (ps := P_check_notices) F_check_notices m_check_notices (ok_check_notices (B := bsOf K tf) F_check_notices f_len f_range c_notice_fault xf) (fun _ _ _ _ _ _ us hl => match us, hl with | [_], _ => rfl)
  have c__law_cell := call_ok (P := (PySem.Challenge.rw_mailways_k73_checked_notices).prog) (w := w) (base := base) (ps := P__law_cell) F__law_cell m__law_cell (ok__law_cell (B := bsOf K tf) F__law_cell f_len) (fun _ _ _ _ _ _ us hl => match us, hl with | [_, _], _ => rfl)
  have c__law_draws := call_ok (P := (PySem.Challenge.rw_mailways_k73_checked_notices).prog) (w := w) (base := base) (ps := P__law_draws) F__law_draws m__law_draws (ok__law_draws (B := bsOf K tf) F__law_draws f_abs f_int f_range) (fun _ _ _ _ _ _ us hl => match us, hl with | [_, _], _ => rfl)
  have c__law_is_integer := call_ok (P := (PySem.Challenge.rw_mailways_k73_checked_notices).prog) (w := w) (base := base) (ps := P__law_is_integer) F__law_is_integer m__law_is_integer (ok__law_is_integer (B := bsOf K tf) F__law_is_integer f_bool f_int f_isinstance) (fun _ _ _ _ _ _ us hl => match us, hl with | [_], _ => rfl)
  have c__law_alphabet := call_ok (P := (PySem.Challenge.rw_mailways_k73_checked_notices).prog) (w := w) (base := base) (ps := P__law_alphabet) F__law_alphabet m__law_alphabet (ok__law_alphabet (B := bsOf K tf) F__law_alphabet f_int f_len f_list f_range f_sorted) (fun _ _ _ _ _ _ us hl => match us, hl with | [_, _], _ => rfl)
  have c__law_is := call_ok (P := (PySem.Challenge.rw_mailways_k73_checked_notices).prog) (w := w) (base := base) (ps := P__law_is) F__law_is m__law_is (ok__law_is (B := bsOf K tf) F__law_is f_all f_bool f_int f_isinstance f_len f_range f_str f_tuple c__law_is_integer m__law_is (FunD.bindsN F__law_is (fun _ _ _ _ _ _ us hl => match us, hl with | [_, _], _ => rfl))) (fun _ _ _ _ _ _ us hl => match us, hl with | [_, _], _ => rfl)
  have c__law_az := call_ok (P := (PySem.Challenge.rw_mailways_k73_checked_notices).prog) (w := w) (base := base) (ps := P__law_az) F__law_az m__law_az (ok__law_az (B := bsOf K tf) F__law_az f_len) (fun _ _ _ _ _ _ us hl => match us, hl with | [_], _ => rfl)
  have c__law_notices := call_ok (P := (PySem.Challenge.rw_mailways_k73_checked_notices).prog) (w := w) (base := base) (ps := P__law_notices) F__law_notices m__law_notices (ok__law_notices (B := bsOf K tf) F__law_notices f_int f_len f_min f_range f_sorted f_tuple) (fun _ _ _ _ _ _ us hl => match us, hl with | [_, _, _, _], _ => rfl)
  have c__law_due := call_ok (P := (PySem.Challenge.rw_mailways_k73_checked_notices).prog) (w := w) (base := base) (ps := P__law_due) F__law_due m__law_due (ok__law_due (B := bsOf K tf) F__law_due f_len f_max f_min f_range c__law_az) (fun _ _ _ _ _ _ us hl => match us, hl with | [_], _ => rfl)
  have c__law_told := call_ok (P := (PySem.Challenge.rw_mailways_k73_checked_notices).prog) (w := w) (base := base) (ps := P__law_told) F__law_told m__law_told (ok__law_told (B := bsOf K tf) F__law_told f_ValueError f_isinstance c_check_notices xf) (fun _ _ _ _ _ _ us hl => match us, hl with | [_], _ => rfl)
  have c__law_right := call_ok (P := (PySem.Challenge.rw_mailways_k73_checked_notices).prog) (w := w) (base := base) (ps := P__law_right) F__law_right m__law_right (ok__law_right (B := bsOf K tf) F__law_right c__law_due c__law_is c__law_told) (fun _ _ _ _ _ _ us hl => match us, hl with | [_], _ => rfl)
  have c__law_bent := call_ok (P := (PySem.Challenge.rw_mailways_k73_checked_notices).prog) (w := w) (base := base) (ps := P__law_bent) F__law_bent m__law_bent (ok__law_bent (B := bsOf K tf) F__law_bent f_int f_len f_sorted f_tuple) (fun _ _ _ _ _ _ us hl => match us, hl with | [_, _], _ => rfl)
  exact (ok_law (P := (PySem.Challenge.rw_mailways_k73_checked_notices).prog) (w := w) (mg := mg) (base := base) F_law f_int f_range c__law_alphabet c__law_bent c__law_cell c__law_draws c__law_notices c__law_right).mono (by decide)
end K73
open PySem PySem.W PySem.Calls PyProof.Rows
theorem PySem.Challenge.cw_mailways_k73_checked_notices_holds : PySem.Challenge.rw_mailways_k73_checked_notices.Holds := by
  w_on; o_law
  refine HandSHeadRun.head_any (r := OpenLaw.row PySem.Challenge.rw_mailways_k73_checked_notices) (q := view (OpenLaw.row PySem.Challenge.rw_mailways_k73_checked_notices).prog [26]) (H := K73.hk) (ob := K73.ob) (M := 4700) (loose := K73.loose) (d := HandSHeadRun.topDef (OpenLaw.row PySem.Challenge.rw_mailways_k73_checked_notices).prog 26) (kwd := []) K73.ob_eq
    (by kernel_rfl) (fun s => by kernel_rfl) K73.run (by kernel_rfl) (by kernel_rfl) (by kernel_rfl) (by rfl) (by first | assumption | decide +kernel) (by decide +kernel) ⟨rfl, rfl, rfl, rfl, rfl, by decide +kernel⟩ ?hw ?hc
  case hw => w_witness2
  case hc =>
    refine VL.walk_ofET (l := PySem.Challenge.rw_mailways_k73_checked_notices) (n := 63) (k := 30) (x := "script") (CX := fun w => L2.CX (PySem.Challenge.rw_mailways_k73_checked_notices).prog w) rfl (by decide) (by kernel_rfl) VL.callerRoom ?F (fun _ _ _ _ _ z => VL.cx_end z)
    intro w mg fa h Y G hmg0
    have hmg : mg ("law" : PySem.Str) = some (.ref fa) := by
      have e : (HandSHeadRun.topDef (OpenLaw.row PySem.Challenge.rw_mailways_k73_checked_notices).prog 26).name = ("law" : PySem.Str) := by kernel_rfl
      rw [← e]
      exact hmg0
    exact K73.law_at Y G hmg
