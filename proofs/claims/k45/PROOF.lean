import PyProof.Rows.All
import Wide.All
import OpenK.AllK
import Wide.FinOn
import HandS.Base
import HandS.Call
import HandS.List
import HandS.Comp
import HandS.Dict
import HandS.Iter
import HandS.Text
import HandS.Walk
import HandS.Wide
import HandS.TupAny
import HandS.Exc
import HandS.AnyAll
import HandS.WordsExc
import HandS.IsInst
import HandS.Conv
import HandS.Deep
import HandS.Small
import HandS.Zip
import HandS.More
import HandS.ExcOwn
import HandS.Defaults
import HandS.TupMul
import HandS.EndTab
import HandS.HeadHook4
import HandS.Head0
import HandS.Head1
import HandS.Head2
import HandS.HeadEnd
import HandS.Words
import KE.KNestM
import PySem.Challenge.RW_mailways_k45_whole_sealed_figures_counte
set_option Elab.async false
set_option linter.all false
set_option maxRecDepth 100000
set_option maxHeartbeats 2000000
namespace VL
open PySem L2

/-- plain data: what a value is worth, without addresses -/
inductive D where
  | non | bl (b : Bool) | int (i : Int) | str (s : List Nat)
  | tup (l : List D) | lst (l : List D)
  | dct (ks : List Key) (l : List D)
  | scr (l : List Int) | loc (n : Nat) | obj (a : Addr)

abbrev sv (s : List Nat) : V := .str ⟨s.toArray⟩

mutual
def At (K : PySem.W.Frag) (th : List Addr) (G : Hp) : D → V → Prop
  | .non, v => v = .non
  | .bl b, v => v = .bl b
  | .int i, v => v = .int i
  | .str s, v => v = sv s
  | .tup l, v => ∃ a vs, v = .ref a ∧ SqT K G a vs ∧ AtL K th G l vs
  | .lst l, v => ∃ a vs, v = .ref a ∧ G a = some (.lst vs) ∧ AtL K th G l vs
  | .dct ks l, v => ∃ a kvs, v = .ref a ∧ Rd G a (.dK kvs) ∧ kvs.map (·.1) = ks ∧ AtL K th G l (kvs.map (·.2))
  | .scr l, v => ∃ a, v = .ref a ∧ SqL K G a (l.map V.int)
  | .loc n, v => ∃ a, th[n]? = some a ∧ v = .ref a
  | .obj a, v => v = .ref a
def AtL (K : PySem.W.Frag) (th : List Addr) (G : Hp) : List D → List V → Prop
  | [], vs => vs = []
  | d :: l, vs => ∃ v r, vs = v :: r ∧ At K th G d v ∧ AtL K th G l r
end

/-- an own object of a running def, by its data -/
inductive Ob where
  | lst (l : List D) | dct (l : List (Key × D)) | ins (C : Addr) (l : List (Str × D)) | dead

def KeepO (o : HO) (x : Option HO) : Prop := match o with
  | .tbl _ => ∃ ps, x = some (.tbl ps)
  | .dK kvs => x = some (.dK kvs) ∨ ∃ u, x = some (.frz u (.dK kvs))
  | _ => x = some o
/-- all that G knows stands in H (tables of code objects may grow) -/
def Ex (G H : Hp) : Prop := ∀ a o, G a = some o → KeepO o (H a)

theorem keepO_self (o : HO) : KeepO o (some o) := by cases o <;> first | rfl | exact ⟨_, rfl⟩ | exact .inl rfl
theorem keepO_some {o : HO} {x : Option HO} (h : KeepO o x) : ∃ u, x = some u := by
  cases o <;> first | exact ⟨_, h⟩ | (obtain ⟨ps, e⟩ := h; exact ⟨_, e⟩) | (rcases h with e | ⟨u, e⟩ <;> exact ⟨_, e⟩)
theorem keepO_trans {o : HO} {x y : Option HO} (h : KeepO o x) (k : ∀ u, x = some u → KeepO u y) : KeepO o y := by
  cases o with
  | tbl _ => obtain ⟨ps, e⟩ := h; exact (show ∃ qs, y = some (.tbl qs) from k (.tbl ps) e)
  | dK kvs =>
    rcases h with e | ⟨u, e⟩
    · exact k (.dK kvs) e
    · exact .inr ⟨u, (show y = some (.frz u (.dK kvs)) from k (.frz u (.dK kvs)) e)⟩
  | _ => exact k _ h
/-- .. and so does whatever is nobody's -/
def KeepF (o : HO) (x : Option HO) : Prop := match o with
  | .tbl _ => ∃ ps, x = some (.tbl ps)
  | _ => x = some o
theorem keepF_self (o : HO) : KeepF o (some o) := by cases o <;> first | rfl | exact ⟨_, rfl⟩
theorem keepF_some {o : HO} {x : Option HO} (h : KeepF o x) : ∃ u, x = some u := by
  cases o <;> first | exact ⟨_, h⟩ | (obtain ⟨ps, e⟩ := h; exact ⟨_, e⟩)
theorem keepF_trans {o : HO} {x y : Option HO} (h : KeepF o x) (k : ∀ u, x = some u → KeepF u y) : KeepF o y := by
  cases o with
  | tbl _ => obtain ⟨ps, e⟩ := h; exact (show ∃ qs, y = some (.tbl qs) from k (.tbl ps) e)
  | _ => exact k _ h
theorem Ex.refl (H : Hp) : Ex H H := fun a o h => by rw [h]; exact keepO_self o
theorem Ex.trans {A B C : Hp} (p : Ex A B) (q : Ex B C) : Ex A C := fun a o h => keepO_trans (p a o h) fun u e => q a u e
theorem Ex.none_back {G H : Hp} (e : Ex G H) {a : Addr} (h : H a = none) : G a = none := by
  cases h1 : G a with
  | none => rfl
  | some o =>
    obtain ⟨u, hu⟩ := keepO_some (e a o h1)
    rw [h] at hu; cases hu
theorem Ex.lst {G H : Hp} (e : Ex G H) {a : Addr} {xs : List V} (h : G a = some (.lst xs)) : H a = some (.lst xs) := e a _ h
theorem Ex.tup {G H : Hp} (e : Ex G H) {a : Addr} {xs : List V} (h : G a = some (.tup xs)) : H a = some (.tup xs) := e a _ h
theorem Ex.rdK {G H : Hp} (e : Ex G H) {a : Addr} {xs : List (Key × V)} (h : Rd G a (.dK xs)) : Rd H a (.dK xs) := by
  rcases h with h | ⟨o, h⟩
  · exact e a _ h
  · exact .inr ⟨o, e a _ h⟩
theorem Ex.rd {G H : Hp} (e : Ex G H) {a : Addr} {xs : List V} (h : Rd G a (.lst xs)) : Rd H a (.lst xs) := by
  rcases h with h | ⟨o, h⟩
  · exact .inl (e a _ h)
  · exact .inr ⟨o, e a _ h⟩
theorem Ex.rdT {G H : Hp} (e : Ex G H) {a : Addr} {xs : List V} (h : Rd G a (.tup xs)) : Rd H a (.tup xs) := by
  rcases h with h | ⟨o, h⟩
  · exact .inl (e a _ h)
  · exact .inr ⟨o, e a _ h⟩
theorem Ex.sqL {K : PySem.W.Frag} {G H : Hp} (e : Ex G H) {a : Addr} {xs : List V} (h : SqL K G a xs) : SqL K H a xs := by
  rcases h with h | h
  · exact .inl (e.rd h)
  · exact .inr h
theorem Ex.sqT {K : PySem.W.Frag} {G H : Hp} (e : Ex G H) {a : Addr} {xs : List V} (h : SqT K G a xs) : SqT K H a xs := by
  rcases h with h | h
  · exact .inl (e.rdT h)
  · exact .inr h
theorem Ex.new {H : Hp} {p : Addr} {o : HO} (h : H p = none) : Ex H (upd H p o) := fun a u e => by
  rw [upd_ne (ne_of_none e h), e]; exact keepO_self u
/-- what G does not know may change -/
theorem Ex.mut {G H : Hp} {p : Addr} {o : HO} (e : Ex G H) (h : G p = none) : Ex G (upd H p o) := fun a u ha => by
  rw [upd_ne (ne_of_none ha h)]
  exact e a u ha
/-- both learn the same -/
theorem Ex.both {G H : Hp} {p : Addr} {o : HO} (e : Ex G H) : Ex (upd G p o) (upd H p o) := fun a u ha => by
  by_cases hb : a = p
  · subst hb
    rw [upd_same] at ha ⊢
    cases ha
    exact keepO_self _
  · rw [upd_ne hb] at ha ⊢
    exact e a u ha

/-- one heap of data within another -/
def Sub (G G' : Hp) : Prop := ∀ a o, G a = some o → G' a = some o
theorem Sub.refl (G : Hp) : Sub G G := fun _ _ h => h
theorem Sub.trans {A B C : Hp} (p : Sub A B) (q : Sub B C) : Sub A C := fun a o h => q a o (p a o h)
theorem Sub.new {G : Hp} {p : Addr} {o : HO} (h : G p = none) : Sub G (upd G p o) := fun a u e => by
  rw [upd_ne (ne_of_none e h)]; exact e
theorem Sub.rd {G H : Hp} (e : Sub G H) {a : Addr} {u : HO} (h : Rd G a u) : Rd H a u := by
  rcases h with h | ⟨o, h⟩
  · exact .inl (e a _ h)
  · exact .inr ⟨o, e a _ h⟩
theorem Sub.sqL {K : PySem.W.Frag} {G H : Hp} (e : Sub G H) {a : Addr} {xs : List V} (h : SqL K G a xs) : SqL K H a xs := by
  rcases h with h | h
  · exact .inl (e.rd h)
  · exact .inr h
theorem Sub.sqT {K : PySem.W.Frag} {G H : Hp} (e : Sub G H) {a : Addr} {xs : List V} (h : SqT K G a xs) : SqT K H a xs := by
  rcases h with h | h
  · exact .inl (e.rd h)
  · exact .inr h

section
variable {K : PySem.W.Frag} {th th' : List Addr} {G G' : Hp}
theorem pre_get {l m : List Addr} {n : Nat} {a : Addr} (h : l <+: m) (e : l[n]? = some a) : m[n]? = some a := by
  obtain ⟨r, rfl⟩ := h
  obtain ⟨h1, _⟩ := List.getElem?_eq_some_iff.mp e
  rw [List.getElem?_append_left h1]; exact e
mutual
theorem At.mono (ht : th <+: th') (e : Sub G G') : ∀ {d : D} {v : V}, At K th G d v → At K th' G' d v
  | .non, _, h => h
  | .bl _, _, h => h
  | .int _, _, h => h
  | .str _, _, h => h
  | .tup _, _, h => by obtain ⟨a, vs, e1, q, r⟩ := h; exact ⟨a, vs, e1, e.sqT q, AtL.mono ht e r⟩
  | .lst _, _, h => by obtain ⟨a, vs, e1, q, r⟩ := h; exact ⟨a, vs, e1, e _ _ q, AtL.mono ht e r⟩
  | .dct _ _, _, h => by obtain ⟨a, vs, e1, q, z, r⟩ := h; exact ⟨a, vs, e1, e.rd q, z, AtL.mono ht e r⟩
  | .scr _, _, h => by obtain ⟨a, e1, q⟩ := h; exact ⟨a, e1, e.sqL q⟩
  | .loc _, _, h => by obtain ⟨a, e1, q⟩ := h; exact ⟨a, pre_get ht e1, q⟩
  | .obj _, _, h => h
theorem AtL.mono (ht : th <+: th') (e : Sub G G') : ∀ {l : List D} {vs : List V}, AtL K th G l vs → AtL K th' G' l vs
  | [], _, h => h
  | _ :: _, _, h => by obtain ⟨v, r, e1, q, z⟩ := h; exact ⟨v, r, e1, At.mono ht e q, AtL.mono ht e z⟩
end
theorem AtL.length : ∀ {l : List D} {vs : List V}, AtL K th G l vs → vs.length = l.length
  | [], _, h => by cases h; rfl
  | _ :: _, _, h => by obtain ⟨v, r, rfl, q, z⟩ := h; simp [AtL.length z]
theorem AtL.get : ∀ {l : List D} {vs : List V} {i : Nat} {d : D}, AtL K th G l vs → l[i]? = some d → ∃ v, vs[i]? = some v ∧ At K th G d v
  | [], _, _, _, _, e => by simp at e
  | _ :: _, _, 0, d, h, e => by
    obtain ⟨v, r, rfl, q, z⟩ := h
    simp at e; subst e
    exact ⟨v, rfl, q⟩
  | _ :: _, _, i + 1, d, h, e => by
    obtain ⟨v, r, rfl, q, z⟩ := h
    simp at e
    obtain ⟨u, h1, h2⟩ := AtL.get z e
    exact ⟨u, by simpa using h1, h2⟩
theorem AtL.get2 : ∀ {l : List D} {vs : List V} {i : Nat} {v : V}, AtL K th G l vs → vs[i]? = some v → ∃ d, l[i]? = some d ∧ At K th G d v := fun {l vs i v} h e => by
  have hl := h.length
  have hi : i < vs.length := (List.getElem?_eq_some_iff.mp e).1
  have hd : i < l.length := by omega
  obtain ⟨u, h1, h2⟩ := h.get (List.getElem?_eq_getElem hd)
  rw [h1] at e; cases e
  exact ⟨_, List.getElem?_eq_getElem hd, h2⟩
theorem AtL.append : ∀ {l m : List D} {vs ws : List V}, AtL K th G l vs → AtL K th G m ws → AtL K th G (l ++ m) (vs ++ ws)
  | [], _, _, _, h, h2 => by cases h; exact h2
  | _ :: _, _, _, _, h, h2 => by
    obtain ⟨v, r, rfl, q, z⟩ := h
    exact ⟨v, r ++ _, rfl, q, AtL.append z h2⟩
theorem AtL.cons {d : D} {v : V} {l : List D} {vs : List V} (h : At K th G d v) (t : AtL K th G l vs) : AtL K th G (d :: l) (v :: vs) := ⟨v, vs, rfl, h, t⟩
theorem AtL.one {d : D} {v : V} (h : At K th G d v) : AtL K th G [d] [v] := ⟨v, [], rfl, h, rfl⟩
theorem AtL.drop : ∀ {l : List D} {vs : List V} (n : Nat), AtL K th G l vs → AtL K th G (l.drop n) (vs.drop n)
  | _, _, 0, h => h
  | [], _, n + 1, h => by cases h; exact rfl
  | _ :: _, _, n + 1, h => by obtain ⟨v, r, rfl, q, z⟩ := h; exact AtL.drop n z
theorem AtL.take : ∀ {l : List D} {vs : List V} (n : Nat), AtL K th G l vs → AtL K th G (l.take n) (vs.take n)
  | _, _, 0, h => rfl
  | [], _, n + 1, h => by cases h; exact rfl
  | _ :: _, _, n + 1, h => by obtain ⟨v, r, rfl, q, z⟩ := h; exact ⟨v, _, rfl, q, AtL.take n z⟩
theorem AtL.set : ∀ {l : List D} {vs : List V} {d : D} {v : V} (n : Nat), AtL K th G l vs → At K th G d v → AtL K th G (l.set n d) (vs.set n v)
  | [], _, _, _, _, h, _ => by cases h; exact rfl
  | _ :: _, _, _, _, 0, h, h2 => by obtain ⟨v, r, rfl, q, z⟩ := h; exact ⟨_, r, rfl, h2, z⟩
  | _ :: _, _, _, _, n + 1, h, h2 => by obtain ⟨v, r, rfl, q, z⟩ := h; exact ⟨v, _, rfl, q, AtL.set n z h2⟩
theorem AtL.eraseIdx : ∀ {l : List D} {vs : List V} (n : Nat), AtL K th G l vs → AtL K th G (l.eraseIdx n) (vs.eraseIdx n)
  | [], _, _, h => by cases h; exact rfl
  | _ :: _, _, 0, h => by obtain ⟨v, r, rfl, q, z⟩ := h; exact z
  | _ :: _, _, n + 1, h => by obtain ⟨v, r, rfl, q, z⟩ := h; exact ⟨v, _, rfl, q, AtL.eraseIdx n z⟩
theorem AtL.reverse {l : List D} {vs : List V} (h : AtL K th G l vs) : AtL K th G l.reverse vs.reverse := by
  induction l generalizing vs with
  | nil => cases h; exact rfl
  | cons d l ih =>
    obtain ⟨v, r, rfl, q, z⟩ := h
    rw [List.reverse_cons, List.reverse_cons]
    exact (ih z).append (.one q)
theorem AtL.ints : ∀ {ns : List Int} {vs : List V}, AtL K th G (ns.map D.int) vs → vs = ns.map V.int
  | [], _, h => h
  | _ :: _, _, h => by obtain ⟨v, r, rfl, q, z⟩ := h; cases q; rw [AtL.ints z]; rfl
theorem AtL.strs : ∀ {ns : List (List Nat)} {vs : List V}, AtL K th G (ns.map D.str) vs → vs = ns.map sv
  | [], _, h => h
  | _ :: _, _, h => by obtain ⟨v, r, rfl, q, z⟩ := h; cases q; rw [AtL.strs z]; rfl
theorem AtL.bls : ∀ {ns : List Bool} {vs : List V}, AtL K th G (ns.map D.bl) vs → vs = ns.map V.bl
  | [], _, h => h
  | _ :: _, _, h => by obtain ⟨v, r, rfl, q, z⟩ := h; cases q; rw [AtL.bls z]; rfl
theorem AtL.rep {l : List D} {vs : List V} (h : AtL K th G l vs) : ∀ n : Nat, AtL K th G (List.replicate n l).flatten (List.replicate n vs).flatten
  | 0 => rfl
  | n + 1 => by
    rw [List.replicate_succ, List.replicate_succ, List.flatten_cons, List.flatten_cons]
    exact h.append (AtL.rep h n)
end

/-- what stands at an own place -/
def ObAt (K : PySem.W.Frag) (th : List Addr) (G : Hp) (H : Hp) (a : Addr) : Ob → Prop
  | .lst l => G a = none ∧ ∃ vs, H a = some (.lst vs) ∧ AtL K th G l vs
  | .dct l => G a = none ∧ ∃ kvs : List (Key × V), H a = some (.dK kvs) ∧ kvs.map (·.1) = l.map (·.1) ∧ AtL K th G (l.map (·.2)) (kvs.map (·.2))
  | .ins C l => G a = none ∧ ∃ dx fs, H a = some (.ins C dx fs) ∧ fs.map (·.1) = l.map (·.1) ∧ AtL K th G (l.map (·.2)) (fs.map (·.2))
  | .dead => True

structure Exn where
  c : Str
  fs : List (Str × D)

/-- slots and own objects -/
structure S where
  r : List (Option D)
  m : List Ob

inductive R (α : Type) where
  | ok (a : α) | ex (e : Exn) (s : S) | no

/-- the tables of code objects that may grow, the classes by name -/
structure Bs where
  Tb : Addr → Prop
  cl : Str → Addr

structure Rep (K : PySem.W.Frag) (B : Bs) (th : List Addr) (G : Hp) (s : S) (σ : St) (H : Hp) : Prop where
  len : s.r.length = σ.length
  slot : ∀ (i : Nat) (d : D), s.r[i]? = some (some d) → ∃ v : V, σ[i]? = some (some v) ∧ At K th G d v
  eG : Ex G H
  tb : ∀ P, B.Tb P → GxR.TabG H P
  tl : th.length = s.m.length
  nd : th.Nodup
  al : ∀ a ∈ th, H a ≠ none
  st : ∀ (n : Nat) ob a, s.m[n]? = some ob → th[n]? = some a → ObAt K th G H a ob

/-- later: places and data stay, and so does whatever else stands -/
structure Le (th : List Addr) (G H : Hp) (th' : List Addr) (G' H' : Hp) : Prop where
  pre : th <+: th'
  ex : Sub G G'
  fr : ∀ a o, H a = some o → G a = none → a ∉ th → KeepF o (H' a) ∧ G' a = none ∧ a ∉ th'
theorem Le.refl (th : List Addr) (G H : Hp) : Le th G H th G H := ⟨List.prefix_rfl, Sub.refl G, fun a o e g n => ⟨by rw [e]; exact keepF_self o, g, n⟩⟩
theorem Le.trans {t1 t2 t3 : List Addr} {G1 G2 G3 H1 H2 H3 : Hp} (p : Le t1 G1 H1 t2 G2 H2) (q : Le t2 G2 H2 t3 G3 H3) : Le t1 G1 H1 t3 G3 H3 :=
  ⟨p.pre.trans q.pre, p.ex.trans q.ex, fun a o e g n => by
    obtain ⟨h1, h2, h3⟩ := p.fr a o e g n
    obtain ⟨u, hu⟩ := keepF_some h1
    obtain ⟨k1, k2, k3⟩ := q.fr a u hu h2 h3
    exact ⟨keepF_trans h1 fun u' e' => by rw [hu] at e'; cases e'; exact k1, k2, k3⟩⟩

section
variable {K : PySem.W.Frag} {B : Bs} {th : List Addr} {G : Hp} {s : S} {σ : St} {H : Hp}

theorem tab_upd {P p : Addr} {o : HO} (h : GxR.TabG H P) (hp : H p = none) : GxR.TabG (upd H p o) P := by
  obtain ⟨ps, e, t⟩ := h
  exact ⟨ps, by rw [upd_ne (ne_of_none e hp)]; exact e, t⟩
theorem ne_none {a p : Addr} (ha : H a ≠ none) (hp : H p = none) : a ≠ p := fun z => ha (by rw [z]; exact hp)
theorem some_ne {a : Addr} {o : HO} (h : H a = some o) : H a ≠ none := fun z => by rw [h] at z; cases z
theorem Rep.thne (R : Rep K B th G s σ H) {p : Addr} (hp : H p = none) : p ∉ th := fun hm => R.al p hm hp
theorem Rep.gnone (R : Rep K B th G s σ H) {p : Addr} (hp : H p = none) : G p = none := R.eG.none_back hp
theorem Le.new {p : Addr} {o : HO} (hp : H p = none) (e : Ex G H) : Le th G H th (upd G p o) (upd H p o) :=
  ⟨List.prefix_rfl, Sub.new (e.none_back hp), fun a u ha g n => by
    have hne := ne_none (some_ne ha) hp
    exact ⟨by rw [upd_ne hne, ha]; exact keepF_self u, by rw [upd_ne hne]; exact g, n⟩⟩

theorem ObAt.mono {th' : List Addr} {G' H' : Hp} {a : Addr} {ob : Ob} (ht : th <+: th') (e : Sub G G') (hg : ob ≠ .dead → G a = none → G' a = none) (hh : ob ≠ .dead → ∀ o, H a = some o → H' a = some o) (h : ObAt K th G H a ob) : ObAt K th' G' H' a ob := by
  cases ob with
  | lst l => obtain ⟨g, vs, e1, q⟩ := h; exact ⟨hg (fun z => nomatch z) g, vs, hh (fun z => nomatch z) _ e1, q.mono ht e⟩
  | dct l => obtain ⟨g, vs, e1, z, q⟩ := h; exact ⟨hg (fun z => nomatch z) g, vs, hh (fun z => nomatch z) _ e1, z, q.mono ht e⟩
  | ins C l => obtain ⟨g, dx, vs, e1, z, q⟩ := h; exact ⟨hg (fun z => nomatch z) g, dx, vs, hh (fun z => nomatch z) _ e1, z, q.mono ht e⟩
  | dead => exact trivial

/-- a new thing that is data from now on -/
theorem Rep.frz (R : Rep K B th G s σ H) {p : Addr} (hp : H p = none) (o : HO) : Rep K B th (upd G p o) s σ (upd H p o) where
  len := R.len
  slot := fun i d e => by
    obtain ⟨v, h1, h2⟩ := R.slot i d e
    exact ⟨v, h1, h2.mono List.prefix_rfl (Sub.new (R.gnone hp))⟩
  eG := R.eG.both
  tb := fun P h => tab_upd (R.tb P h) hp
  tl := R.tl
  nd := R.nd
  al := fun a h => by
    rw [upd_ne (ne_none (R.al a h) hp)]
    exact R.al a h
  st := fun n ob a e1 e2 => by
    have hne : a ≠ p := ne_none (R.al a (List.mem_of_getElem? e2)) hp
    refine (R.st n ob a e1 e2).mono List.prefix_rfl (Sub.new (R.gnone hp)) (fun _ g => ?_) (fun _ o h => ?_)
    · rw [upd_ne hne]; exact g
    · rw [upd_ne hne]; exact h

/-- a thing of nobody's is laid or changed aside -/
theorem Rep.side (R : Rep K B th G s σ H) {p : Addr} (o : HO) (hg : G p = none) (ht : p ∉ th) (hb : ∀ P, B.Tb P → P ≠ p) : Rep K B th G s σ (upd H p o) where
  len := R.len
  slot := R.slot
  eG := R.eG.mut hg
  tb := fun P h => by
    obtain ⟨ps, e, t⟩ := R.tb P h
    exact ⟨ps, by rw [upd_ne (hb P h)]; exact e, t⟩
  tl := R.tl
  nd := R.nd
  al := fun a h => by
    have hne : a ≠ p := fun z => ht (z ▸ h)
    rw [upd_ne hne]
    exact R.al a h
  st := fun n ob a e1 e2 => by
    have hne : a ≠ p := fun z => ht (z ▸ List.mem_of_getElem? e2)
    refine (R.st n ob a e1 e2).mono List.prefix_rfl (Sub.refl _) (fun _ g => g) (fun _ o h => ?_)
    rw [upd_ne hne]; exact h

/-- a new thing that is our own -/
theorem Rep.own (R : Rep K B th G s σ H) {p : Addr} (hl : H p ≠ none) (hn : p ∉ th) {ob : Ob} (ho : ObAt K (th ++ [p]) G H p ob) : Rep K B (th ++ [p]) G { s with m := s.m ++ [ob] } σ H where
  len := R.len
  slot := fun i d e => by
    obtain ⟨v, h1, h2⟩ := R.slot i d e
    exact ⟨v, h1, h2.mono (List.prefix_append _ _) (Sub.refl _)⟩
  eG := R.eG
  tb := R.tb
  tl := by simp [R.tl]
  nd := by
    rw [List.nodup_append]
    refine ⟨R.nd, by simp, fun a ha b hb => ?_⟩
    have : b = p := by simpa using hb
    subst this
    exact fun z => hn (z ▸ ha)
  al := fun a h => by
    rcases List.mem_append.mp h with h | h
    · exact R.al a h
    · have : a = p := by simpa using h
      rw [this]; exact hl
  st := fun n ob' a e1 e2 => by
    by_cases hn : n < th.length
    · rw [List.getElem?_append_left hn] at e2
      rw [List.getElem?_append_left (by rw [← R.tl]; exact hn)] at e1
      exact (R.st n ob' a e1 e2).mono (List.prefix_append _ _) (Sub.refl _) (fun _ g => g) (fun _ o h => h)
    · rw [List.getElem?_append_right (by omega)] at e2
      rw [List.getElem?_append_right (by rw [← R.tl]; omega), ← R.tl] at e1
      cases hk : n - th.length with
      | zero =>
        rw [hk] at e1 e2
        simp at e1 e2
        subst e1; subst e2
        exact ho
      | succ k => rw [hk] at e2; simp at e2

theorem nodup_get {l : List Addr} (h : l.Nodup) {i j : Nat} {a : Addr} (e1 : l[i]? = some a) (e2 : l[j]? = some a) : i = j := by
  obtain ⟨h1, q1⟩ := List.getElem?_eq_some_iff.mp e1
  obtain ⟨h2, q2⟩ := List.getElem?_eq_some_iff.mp e2
  exact (List.getElem_inj h).mp (q1.trans q2.symm)

/-- an own thing is changed -/
theorem Rep.put (R : Rep K B th G s σ H) {n : Nat} {a : Addr} {o : HO} {ob : Ob} (ha : th[n]? = some a) (hg : G a = none) (ho : ObAt K th G (upd H a o) a ob) (nt : ∀ P, B.Tb P → P ≠ a) : Rep K B th G { s with m := s.m.set n ob } σ (upd H a o) where
  len := R.len
  slot := R.slot
  eG := R.eG.mut hg
  tb := fun P h => by
    obtain ⟨ps, e, t⟩ := R.tb P h
    exact ⟨ps, by rw [upd_ne (nt P h)]; exact e, t⟩
  tl := by simp [R.tl]
  nd := R.nd
  al := fun b h => by
    by_cases hb : b = a
    · rw [hb, upd_same]; exact fun z => by cases z
    · rw [upd_ne hb]; exact R.al b h
  st := fun k ob' b e1 e2 => by
    by_cases hk : k = n
    · subst hk
      rw [ha] at e2; cases e2
      have hlt : k < s.m.length := by
        have := (List.getElem?_eq_some_iff.mp ha).1
        rw [R.tl] at this; exact this
      simp only [List.getElem?_set_self hlt] at e1
      cases e1
      exact ho
    · have hne : b ≠ a := fun z => hk (nodup_get R.nd (z ▸ e2) ha)
      simp only [List.getElem?_set_ne (Ne.symm hk)] at e1
      refine (R.st k ob' b e1 e2).mono List.prefix_rfl (Sub.refl _) (fun _ g => g) (fun _ u h => ?_)
      rw [upd_ne hne]; exact h
theorem Le.put {n : Nat} {a : Addr} {o : HO} (ha : th[n]? = some a) : Le th G H th G (upd H a o) :=
  ⟨List.prefix_rfl, Sub.refl G, fun b u hb g hn => by
    have hne : b ≠ a := fun z => hn (z ▸ List.mem_of_getElem? ha)
    exact ⟨by rw [upd_ne hne, hb]; exact keepF_self u, g, hn⟩⟩

/-- an own thing is data from now on -/
theorem Rep.still (R : Rep K B th G s σ H) {n : Nat} {a : Addr} {o : HO} (ha : th[n]? = some a) (hH : H a = some o) (hg : G a = none) : Rep K B th (upd G a o) { s with m := s.m.set n .dead } σ H where
  len := R.len
  slot := fun i d e => by
    obtain ⟨v, h1, h2⟩ := R.slot i d e
    exact ⟨v, h1, h2.mono List.prefix_rfl (Sub.new hg)⟩
  eG := fun b u e => by
    by_cases hb : b = a
    · rw [hb, upd_same] at e
      cases e
      rw [hb, hH]; exact keepO_self _
    · rw [upd_ne hb] at e
      exact R.eG b u e
  tb := R.tb
  tl := by simp [R.tl]
  nd := R.nd
  al := R.al
  st := fun k ob' b e1 e2 => by
    by_cases hk : k = n
    · subst hk
      have hlt : k < s.m.length := by
        have := (List.getElem?_eq_some_iff.mp ha).1
        rw [R.tl] at this; exact this
      simp only [List.getElem?_set_self hlt] at e1
      cases e1
      exact trivial
    · have hne : b ≠ a := fun z => hk (nodup_get R.nd (z ▸ e2) ha)
      simp only [List.getElem?_set_ne (Ne.symm hk)] at e1
      refine (R.st k ob' b e1 e2).mono List.prefix_rfl (Sub.new hg) (fun _ g => ?_) (fun _ u h => h)
      rw [upd_ne hne]; exact g
theorem Le.still {n : Nat} {a : Addr} {o : HO} (ha : th[n]? = some a) (hg : G a = none) : Le th G H th (upd G a o) H :=
  ⟨List.prefix_rfl, Sub.new hg, fun b u hb g hn => by
    have hne : b ≠ a := fun z => hn (z ▸ List.mem_of_getElem? ha)
    exact ⟨by rw [hb]; exact keepF_self u, by rw [upd_ne hne]; exact g, hn⟩⟩

/-- a thing of nobody's becomes data -/
theorem Rep.take (R : Rep K B th G s σ H) {a : Addr} {o : HO} (hH : H a = some o) (hg : G a = none) (hn : a ∉ th) : Rep K B th (upd G a o) s σ H where
  len := R.len
  slot := fun i d e => by
    obtain ⟨v, h1, h2⟩ := R.slot i d e
    exact ⟨v, h1, h2.mono List.prefix_rfl (Sub.new hg)⟩
  eG := fun b u e => by
    by_cases hb : b = a
    · rw [hb, upd_same] at e
      cases e
      rw [hb, hH]; exact keepO_self _
    · rw [upd_ne hb] at e
      exact R.eG b u e
  tb := R.tb
  tl := R.tl
  nd := R.nd
  al := R.al
  st := fun k ob' b e1 e2 => by
    have hne : b ≠ a := fun z => hn (z ▸ List.mem_of_getElem? e2)
    refine (R.st k ob' b e1 e2).mono List.prefix_rfl (Sub.new hg) (fun _ g => ?_) (fun _ u h => h)
    rw [upd_ne hne]; exact g

theorem set_get {r : List (Option D)} {i j : Nat} {x : Option D} {d : D} (h : (r.set i x)[j]? = some (some d)) : (i = j ∧ x = some d) ∨ (i ≠ j ∧ r[j]? = some (some d)) := by
  by_cases e : i = j
  · subst e
    by_cases hl : i < r.length
    · rw [List.getElem?_set_self hl] at h; exact .inl ⟨rfl, Option.some.inj h⟩
    · rw [List.getElem?_eq_none (by simpa using hl)] at h; cases h
  · rw [List.getElem?_set_ne e] at h; exact .inr ⟨e, h⟩

/-- a slot is stored -/
theorem Rep.sets (R : Rep K B th G s σ H) {i : Nat} {d : D} {v : V} (h : At K th G d v) : Rep K B th G { s with r := s.r.set i (some d) } (σ.set i (some v)) H where
  len := by simp [R.len]
  slot := fun j d' e => by
    rcases set_get e with ⟨hj, e'⟩ | ⟨hj, e'⟩
    · subst hj
      cases e'
      have hl : i < s.r.length := by
        have := (List.getElem?_eq_some_iff.mp e).1
        simpa using this
      exact ⟨v, List.getElem?_set_self (by rw [← R.len]; exact hl), h⟩
    · obtain ⟨u, h1, h2⟩ := R.slot j d' e'
      exact ⟨u, by rw [List.getElem?_set_ne hj]; exact h1, h2⟩
  eG := R.eG
  tb := R.tb
  tl := R.tl
  nd := R.nd
  al := R.al
  st := R.st
/-- other slots over the same things -/
theorem Rep.slots (R : Rep K B th G s σ H) {r' : List (Option D)} {σ' : St} (hl : r'.length = σ'.length) (h : ∀ (i : Nat) (d : D), r'[i]? = some (some d) → ∃ v : V, σ'[i]? = some (some v) ∧ At K th G d v) : Rep K B th G { s with r := r' } σ' H :=
  ⟨hl, h, R.eG, R.tb, R.tl, R.nd, R.al, R.st⟩
theorem Rep.tbne (R : Rep K B th G s σ H) {a : Addr} {o : HO} (h : H a = some o) (ho : ∀ ps, o ≠ .tbl ps) : ∀ P, B.Tb P → P ≠ a := fun P hP z => by
  obtain ⟨ps, e, _⟩ := R.tb P hP
  rw [z, h] at e
  exact ho ps (Option.some.inj e)
theorem Rep.tbnew (R : Rep K B th G s σ H) {a : Addr} (h : H a = none) : ∀ P, B.Tb P → P ≠ a := fun P hP z => by
  obtain ⟨ps, e, _⟩ := R.tb P hP
  rw [z, h] at e
  cases e
end
end VL
namespace VL
open PySem L2

def R.bind {α β : Type} (x : R (α × S)) (k : α → S → R β) : R β := match x with
  | .ok (a, s) => k a s
  | .ex e s => .ex e s
  | .no => .no
@[simp] theorem R.bind_ok {α β : Type} (a : α) (s : S) (k : α → S → R β) : R.bind (.ok (a, s)) k = k a s := id rfl
@[simp] theorem R.bind_ex {α β : Type} (e : Exn) (s : S) (k : α → S → R β) : R.bind (.ex e s) k = .ex e s := id rfl
@[simp] theorem R.bind_no {α β : Type} (k : α → S → R β) : R.bind .no k = .no := id rfl
theorem R.bind_assoc {α β γ : Type} (x : R (α × S)) (k : α → S → R (β × S)) (l : β → S → R γ) : (x.bind k).bind l = x.bind fun a s => (k a s).bind l := by
  cases x with
  | ok a => obtain ⟨a, s⟩ := a; rfl
  | ex e s => rfl
  | no => rfl

abbrev ME := S → R (D × S)
abbrev MT := S → R (Bool × S)
abbrev MA := S → R (List D × S)
abbrev MF := S → R (Ob × S)
/-- the first heap: the one at the start -/
abbrev Rel (α β : Type) := Hp → List Addr → Hp → Hp → α → β → Prop
class MonoR {α β : Type} (rel : Rel α β) : Prop where
  mono : ∀ {H H1 : Hp} {th : List Addr} {G H' : Hp} {a : α} {b : β}, (∀ p, H1 p = none → H p = none) → rel H1 th G H' a b → rel H th G H' a b
abbrev Tr (β : Type) := St → Hp → (β → Hp → Prop) → Prop

def ExAt (K : PySem.W.Frag) (B : Bs) (th : List Addr) (G H : Hp) (e : Exn) (cls : Value) (d : Option Addr) : Prop :=
  cls = .ref (B.cl e.c) ∧ ((d = none ∧ e.fs = []) ∨ ∃ dd fs, d = some dd ∧ H dd = some (.xd fs) ∧ fs.map (·.1) = e.fs.map (·.1) ∧ AtL K th G (e.fs.map (·.2)) (fs.map (·.2)))

section
variable (K : PySem.W.Frag) (B : Bs) (W : WX)
def Post {α β : Type} (σ : St) (th : List Addr) (G H : Hp) (rel : Rel α β) (x : R (α × S)) (Q : β → Hp → Prop) : Prop := match x with
  | .ok (a, s') => ∀ th' G' H' b, Le th G H th' G' H' → Rep K B th' G' s' σ H' → rel H th' G' H' a b → Q b H'
  | .ex e s' => ∀ th' G' H' cls d, Le th G H th' G' H' → Rep K B th' G' s' σ H' → ExAt K B th' G' H' e cls d → W cls d σ H'
  | .no => False
def Sem {α β : Type} (rel : Rel α β) (t : Tr β) (m : S → R (α × S)) : Prop :=
  ∀ s th G σ H Q, Rep K B th G s σ H → Post K B W σ th G H rel (m s) Q → t σ H Q
end

def relE (K : PySem.W.Frag) : Rel D V := fun _ th G _ d v => At K th G d v
def relT : Rel Bool Bool := fun _ _ _ _ a b => b = a
def relO : Rel (Option Int) (Option Int) := fun _ _ _ _ a b => b = a
def relA (K : PySem.W.Frag) : Rel (List D) (List V) := fun _ th G _ l vs => AtL K th G l vs
/-- a fresh thing of nobody's -/
def relF (K : PySem.W.Frag) : Rel Ob V := fun H0 th G H ob v => ∃ p, v = .ref p ∧ ob ≠ .dead ∧ ObAt K th G H p ob ∧ p ∉ th ∧ H0 p = none
/-- an iterator's walk over data -/
def relI (K : PySem.W.Frag) : Rel (List D) It := fun _ th G H l J => ∀ th1 G1 H1 i, Le th G H th1 G1 H1 → Ex G1 H1 →
  (l.length ≤ i → J.stop i H1) ∧ ∀ d, l[i]? = some d → J.go i H1 ∧ ∀ x H2, J.yld i H1 x H2 → ∃ G2, ((H2 = H1 ∧ G2 = G1) ∨ ∃ p o, H1 p = none ∧ H2 = upd H1 p o ∧ G2 = upd G1 p o) ∧ At K th1 G2 d x
instance {K : PySem.W.Frag} : MonoR (relE K) := ⟨fun _ h => h⟩
instance : MonoR relT := ⟨fun _ h => h⟩
instance : MonoR relO := ⟨fun _ h => h⟩
instance {K : PySem.W.Frag} : MonoR (relA K) := ⟨fun _ h => h⟩
instance {K : PySem.W.Frag} : MonoR (relI K) := ⟨fun _ h => h⟩
instance {K : PySem.W.Frag} : MonoR (relF K) := ⟨fun k h => by obtain ⟨p, e, d, o, n, z⟩ := h; exact ⟨p, e, d, o, n, k p z⟩⟩

theorem Le.none_back {th th' : List Addr} {G G' H H' : Hp} (l : Le th G H th' G' H') (hx : Ex G' H') (ha : ∀ a ∈ th', H' a ≠ none) {p : Addr} (h : H' p = none) : H p = none := by
  cases e : H p with
  | none => rfl
  | some o =>
    by_cases hg : G p = none
    · by_cases ht : p ∈ th
      · exact absurd h (ha p (l.pre.subset ht))
      · obtain ⟨u, hu⟩ := keepF_some (l.fr p o e hg ht).1
        rw [h] at hu; cases hu
    · cases e2 : G p with
      | none => exact absurd e2 hg
      | some u =>
        have := hx.none_back h
        rw [l.ex p u e2] at this; cases this

section
variable {K : PySem.W.Frag} {B : Bs} {W : WX} {α β γ δ : Type} {σ : St} {th : List Addr} {G H : Hp}
theorem Post.later {rel : Rel α β} [MonoR rel] {x : R (α × S)} {Q : β → Hp → Prop} {th1 : List Addr} {G1 H1 : Hp} {s1 : S} (l : Le th G H th1 G1 H1) (R1 : Rep K B th1 G1 s1 σ H1) (P : Post K B W σ th G H rel x Q) : Post K B W σ th1 G1 H1 rel x Q := by
  cases x with
  | ok a => obtain ⟨a, s⟩ := a; exact fun th' G' H' b l' R r => P th' G' H' b (l.trans l') R (MonoR.mono (fun p h => l.none_back R1.eG R1.al h) r)
  | ex e s => exact fun th' G' H' cls d l' R r => P th' G' H' cls d (l.trans l') R r
  | no => exact P
theorem Post.bind {rel : Rel α β} {rel3 : Rel γ δ} [MonoR rel3] {x : R (α × S)} {k : α → S → R (γ × S)} {Q : δ → Hp → Prop} {Q2 : β → Hp → Prop} (P : Post K B W σ th G H rel3 (x.bind k) Q)
    (h : ∀ a s' th' G' H' b, Le th G H th' G' H' → Rep K B th' G' s' σ H' → rel H th' G' H' a b → Post K B W σ th' G' H' rel3 (k a s') Q → Q2 b H') : Post K B W σ th G H rel x Q2 := by
  cases x with
  | ok a => obtain ⟨a, s⟩ := a; exact fun th' G' H' b l R r => h a s th' G' H' b l R r (P.later l R)
  | ex e s => exact P
  | no => exact P
/-- .. what follows still seen from the start -/
theorem Post.bind0 {rel : Rel α β} {rel3 : Rel γ δ} {x : R (α × S)} {k : α → S → R (γ × S)} {Q : δ → Hp → Prop} {Q2 : β → Hp → Prop} (P : Post K B W σ th G H rel3 (x.bind k) Q)
    (h : ∀ a s' th' G' H' b, Le th G H th' G' H' → Rep K B th' G' s' σ H' → rel H th' G' H' a b → Post K B W σ th G H rel3 (k a s') Q → Q2 b H') : Post K B W σ th G H rel x Q2 := by
  cases x with
  | ok a => obtain ⟨a, s⟩ := a; exact fun th' G' H' b l R r => h a s th' G' H' b l R r P
  | ex e s => exact P
  | no => exact P
theorem Post.ok {rel : Rel α β} {a : α} {s : S} {b : β} {Q : β → Hp → Prop} (P : Post K B W σ th G H rel (.ok (a, s)) Q) (R : Rep K B th G s σ H) (r : rel H th G H a b) : Q b H := P th G H b (Le.refl _ _ _) R r
/-- the wish, weakened -/
theorem Post.mono {rel : Rel α β} {x : R (α × S)} {Q Q' : β → Hp → Prop} (P : Post K B W σ th G H rel x Q) (h : ∀ b H', Q b H' → Q' b H') : Post K B W σ th G H rel x Q' := by
  cases x with
  | ok a => obtain ⟨a, s⟩ := a; exact fun th' G' H' b l R r => h _ _ (P th' G' H' b l R r)
  | ex e s => exact P
  | no => exact P
end

/-! ### the judgements: a rule of the hand layer with what it is worth -/
structure VE (X : Cx) (B : Bs) (W : WX) (e : Expr) (t : TE) (m : ME) : Prop where
  pe : PE X e t
  sem : Sem X.K B W (relE X.K) t m
structure VF (X : Cx) (B : Bs) (W : WX) (e : Expr) (t : TE) (m : MF) : Prop where
  pe : PE X e t
  sem : Sem X.K B W (relF X.K) t m
structure VT (X : Cx) (B : Bs) (W : WX) (e : Expr) (t : TT) (m : MT) : Prop where
  pt : PT X e t
  sem : Sem X.K B W relT t m
structure VW (X : Cx) (B : Bs) (W : WX) (e : Expr) (t : TT) (m : MT) : Prop where
  pw : PW X e t
  sem : Sem X.K B W relT t m
structure VA (X : Cx) (B : Bs) (W : WX) (es : List Expr) (t : TA) (m : MA) : Prop where
  pa : PA X es t
  sem : Sem X.K B W (relA X.K) t m
structure VI (X : Cx) (B : Bs) (W : WX) (tg e : Expr) (t : TI) (m : MA) : Prop where
  pi : PI X tg e t
  sem : Sem X.K B W (relI X.K) t m
/-- an optional part of a slice -/
structure VO (X : Cx) (B : Bs) (W : WX) (e : Option Expr) (t : TO) (m : S → R (Option Int × S)) : Prop where
  po : PO X e t
  sem : Sem X.K B W relO t m

/-! ### names, constants -/
def eV (i : Nat) : ME := fun s => match s.r[i]? with
  | some (some d) => .ok (d, s)
  | _ => .no
def eC (d : D) : ME := fun s => .ok (d, s)
section
variable {X : Cx} {B : Bs} {W : WX} {e a b c : Expr} {te ta tb tc : TE} {m ma mb mc : ME} {pos : Pos}
theorem ve_v {x : Str} (i : Nat) (hN : X.N[i]? = some x := by rfl) (hv : Vis X.env.scope x := by first | exact Or.inl rfl | exact Or.inr (Or.inl rfl) | exact Or.inr (Or.inr rfl)) (hd : (x == ("__debug__" : Str)) = false := by decide)
    (hcd : (x == ("__classdict__" : Str)) = false := by decide) : VE X B W (.Name x pos) (tVar i) (eV i) := by
  refine ⟨pv i hN hv hd hcd, fun s th G σ H Q R P => ?_⟩
  unfold eV at P
  cases h : s.r[i]? with
  | none => rw [h] at P; exact P.elim
  | some o =>
    cases o with
    | none => rw [h] at P; exact P.elim
    | some d =>
      rw [h] at P
      obtain ⟨v, h1, h2⟩ := R.slot i d h
      exact ⟨v, h1, P.ok R h2⟩
theorem sem_c {K : PySem.W.Frag} {v : V} {d : D} (h : ∀ th G, At K th G d v) : Sem K B W (relE K) (tC v) (eC d) := fun s th G σ H Q R P => Post.ok (rel := relE K) P R (h th G)
theorem ve_int {i : Int} {j : Nat} : VE X B W (.Constant (.int i) j pos) (tC (.int i)) (eC (.int i)) := ⟨pe_int, sem_c fun _ _ => rfl⟩
theorem ve_bl {i : Bool} {j : Nat} : VE X B W (.Constant (.bool i) j pos) (tC (.bl i)) (eC (.bl i)) := ⟨pe_bl, sem_c fun _ _ => rfl⟩
theorem ve_non {j : Nat} : VE X B W (.Constant .none j pos) (tC .non) (eC .non) := ⟨pe_non, sem_c fun _ _ => rfl⟩
theorem ve_str {x : Str} {l : List Nat} {j : Nat} (h : x.cps = l.toArray := by rfl) : VE X B W (.Constant (.str x) j pos) (tC (.str x)) (eC (.str l)) := ⟨pe_str, sem_c fun _ _ => by
  obtain ⟨c⟩ := x
  have h : c = l.toArray := h
  subst h; rfl⟩
/-- a built-in class or a class of the program as a value -/
theorem ve_gobj {x : Str} {ad : Addr} (hg : Gl X x) (hm : X.mg x = some (.ref ad)) (hd : (x == ("__debug__" : Str)) = false := by decide) : VE X B W (.Name x pos) (tC (.ref ad)) (eC (.obj ad)) := ⟨pe_glob hg hm rfl hd, sem_c fun _ _ => rfl⟩

/-! ### two operands -/
def eOp (f : D → D → S → R (D × S)) (a b : ME) : ME := fun s => (a s).bind fun x s => (b s).bind fun y s => f x y s
/-- what an operation by values is worth -/
def SemR (K : PySem.W.Frag) (B : Bs) (W : WX) (r : R2) (f : D → D → S → R (D × S)) : Prop :=
  ∀ s th G σ H Q x y vx vy, Rep K B th G s σ H → At K th G x vx → At K th G y vy → Post K B W σ th G H (relE K) (f x y s) Q → r vx vy H Q
theorem sem_op {K : PySem.W.Frag} {r : R2} {f : D → D → S → R (D × S)} (hf : SemR K B W r f) (ha : Sem K B W (relE K) ta ma) (hb : Sem K B W (relE K) tb mb) : Sem K B W (relE K) (tOp r ta tb) (eOp f ma mb) := fun s th G σ H Q R P =>
  ha s th G σ H _ R (P.bind fun x s1 th1 G1 H1 vx l1 R1 r1 P1 => hb s1 th1 G1 σ H1 _ R1 (P1.bind fun y s2 th2 G2 H2 vy l2 R2 r2 P2 =>
    hf s2 th2 G2 σ H2 Q x y vx vy R2 (At.mono l2.pre l2.ex r1) r2 P2))
/-- a value reckoned from two, the heap as it was -/
def fP (g : D → D → Option D) : D → D → S → R (D × S) := fun x y s => match g x y with
  | some d => .ok (d, s)
  | none => .no
theorem semR_P {K : PySem.W.Frag} {r : R2} {g : D → D → Option D} (h : ∀ th G H (Q : VK) x y vx vy d, At K th G x vx → At K th G y vy → g x y = some d → (∀ v, At K th G d v → Q v H) → r vx vy H Q) : SemR K B W r (fP g) := fun s th G σ H Q x y vx vy R rx ry P => by
  unfold fP at P
  cases e : g x y with
  | none => rw [e] at P; exact P.elim
  | some d =>
    rw [e] at P
    exact h th G H Q x y vx vy d rx ry e fun v hv => Post.ok (rel := relE K) P R hv

theorem PE.or {t u : TE} (h : PE X e t) (k : PE X e u) : PE X e (fun σ H Q => t σ H Q ∨ u σ H Q) := ⟨fun pins s σ H Q I hw => by
  rcases hw with hw | hw
  · exact h.run pins s σ H Q I hw
  · exact k.run pins s σ H Q I hw⟩

/-- an operation on ints by its condition and its value -/
def gI (C : Int → Int → Bool) (g : Int → Int → D) : D → D → Option D
  | .int i, .int j => if C i j then some (g i j) else none
  | _, _ => none
theorem semR_I {K : PySem.W.Frag} {C : Int → Int → Prop} {Cb : Int → Int → Bool} {gv : Int → Int → V} {g : Int → Int → D} (hc : ∀ i j, Cb i j = true → C i j) (hg : ∀ th G i j, At K th G (g i j) (gv i j)) : SemR K B W (rI C gv) (fP (gI Cb g)) :=
  semR_P fun th G H Q x y vx vy d rx ry e q => by
    cases x <;> cases y <;> first
      | (simp only [gI] at e
         split at e
         · rename_i i j hij
           cases e; cases rx; cases ry
           exact ⟨_, _, rfl, rfl, hc _ _ hij, q _ (hg _ _ _ _)⟩
         · cases e)
      | (simp [gI] at e)
theorem semR_I0 {K : PySem.W.Frag} {gv : Int → Int → V} {g : Int → Int → D} (hg : ∀ th G i j, At K th G (g i j) (gv i j)) : SemR K B W (rI0 gv) (fP (gI (fun _ _ => true) g)) :=
  semR_P fun th G H Q x y vx vy d rx ry e q => by
    cases x <;> cases y <;> first
      | (simp [gI] at e; subst e; cases rx; cases ry; exact ⟨_, _, rfl, rfl, q _ (hg _ _ _ _)⟩)
      | (simp [gI] at e)
end
end VL
namespace VL
open PySem L2

/-! ### reading sequences -/
/-- a list: data, or an own place -/
def lstOf (s : S) : D → Option (List D)
  | .lst l => some l
  | .loc n => match s.m[n]? with
    | some (.lst l) => some l
    | _ => none
  | _ => none
def seqOf (s : S) : D → Option (List D)
  | .tup l => some l
  | .scr l => some (l.map D.int)
  | d => lstOf s d
section
variable {K : PySem.W.Frag} {B : Bs} {th : List Addr} {G : Hp} {s : S} {σ : St} {H : Hp}
theorem atL_ints (ns : List Int) : AtL K th G (ns.map D.int) (ns.map V.int) := by
  induction ns with
  | nil => exact rfl
  | cons n ns ih => exact .cons (d := .int n) (v := .int n) rfl ih
theorem Rep.lst_of (R : Rep K B th G s σ H) {d : D} {v : V} {l : List D} (h : At K th G d v) (e : lstOf s d = some l) : ∃ a vs, v = .ref a ∧ H a = some (.lst vs) ∧ AtL K th G l vs := by
  cases d with
  | lst m =>
    simp only [lstOf] at e; cases e
    obtain ⟨a, vs, e1, q, r⟩ := h
    exact ⟨a, vs, e1, R.eG.lst q, r⟩
  | loc n =>
    simp only [lstOf] at e
    obtain ⟨a, ha, e1⟩ := h
    cases hm : s.m[n]? with
    | none => rw [hm] at e; cases e
    | some ob =>
      rw [hm] at e
      cases ob with
      | lst m =>
        cases e
        obtain ⟨g, vs, q, r⟩ := R.st n _ a hm ha
        exact ⟨a, vs, e1, q, r⟩
      | _ => cases e
  | _ => simp [lstOf] at e
theorem Rep.seq_of (R : Rep K B th G s σ H) {d : D} {v : V} {l : List D} (h : At K th G d v) (e : seqOf s d = some l) : ∃ a vs, v = .ref a ∧ (SqL K H a vs ∨ SqT K H a vs) ∧ AtL K th G l vs := by
  cases d with
  | tup m =>
    simp only [seqOf] at e; cases e
    obtain ⟨a, vs, e1, q, r⟩ := h
    exact ⟨a, vs, e1, .inr (R.eG.sqT q), r⟩
  | scr m =>
    simp only [seqOf] at e; cases e
    obtain ⟨a, e1, q⟩ := h
    exact ⟨a, _, e1, .inl (R.eG.sqL q), atL_ints m⟩
  | lst m =>
    obtain ⟨a, vs, e1, q, r⟩ := R.lst_of h e
    exact ⟨a, vs, e1, .inl (SqL.of q), r⟩
  | loc n =>
    obtain ⟨a, vs, e1, q, r⟩ := R.lst_of h e
    exact ⟨a, vs, e1, .inl (SqL.of q), r⟩
  | _ => simp [seqOf, lstOf] at e
theorem ixN_eq {α β : Type} {l : List α} {m : List β} (h : m.length = l.length) (i : Int) : ixN m.length i = ixN l.length i := by rw [h]
theorem AtL.atI {l : List D} {vs : List V} {i : Int} {d : D} (h : AtL K th G l vs) (e : L2.atI l i = some d) : ∃ v, L2.atI vs i = some v ∧ At K th G d v := by
  unfold L2.atI at e ⊢
  rw [h.length]
  cases hn : ixN l.length i with
  | none => rw [hn] at e; cases e
  | some j =>
    rw [hn] at e
    exact h.get (by simpa using e)
end

/-! ### sizes -/
def SZ : Nat := 16777216
theorem SZ_eq : sizeLine = SZ := sizeLine_eq

section
variable {X : Cx} {B : Bs} {W : WX} {e a b c : Expr} {te ta tb tc : TE} {m ma mb mc : ME} {pos : Pos} {th : List Addr} {G H : Hp} {s : S} {σ : St}
/-- the value's place, as data, in a heap that learns of it -/
theorem post_tup {K : PySem.W.Frag} {l : List D} {vs : List V} {Q : VK} {p : Addr} (R : Rep K B th G s σ H) (P : Post K B W σ th G H (relE K) (.ok (.tup l, s)) Q) (r : AtL K th G l vs) (hp : H p = none) : Q (.ref p) (upd H p (.tup vs)) :=
  P th (upd G p (.tup vs)) (upd H p (.tup vs)) (.ref p) (Le.new hp R.eG) (R.frz hp _) ⟨p, vs, rfl, SqT.of upd_same, r.mono List.prefix_rfl (Sub.new (R.gnone hp))⟩
theorem post_lst {K : PySem.W.Frag} {l : List D} {vs : List V} {Q : VK} {p : Addr} (R : Rep K B th G s σ H) (P : Post K B W σ th G H (relE K) (.ok (.lst l, s)) Q) (r : AtL K th G l vs) (hp : H p = none) : Q (.ref p) (upd H p (.lst vs)) :=
  P th (upd G p (.lst vs)) (upd H p (.lst vs)) (.ref p) (Le.new hp R.eG) (R.frz hp _) ⟨p, vs, rfl, upd_same, r.mono List.prefix_rfl (Sub.new (R.gnone hp))⟩
/-- a list of nobody's -/
theorem post_f {K : PySem.W.Frag} {l : List D} {vs : List V} {Q : VK} {p : Addr} (R : Rep K B th G s σ H) (P : Post K B W σ th G H (relF K) (.ok (.lst l, s)) Q) (r : AtL K th G l vs) (hp : H p = none) : Q (.ref p) (upd H p (.lst vs)) :=
  P th G (upd H p (.lst vs)) (.ref p) ⟨List.prefix_rfl, Sub.refl G, fun a u ha g n => by
      have hne := ne_none (some_ne ha) hp
      exact ⟨by rw [upd_ne hne, ha]; exact keepF_self u, g, n⟩⟩ (R.side _ (R.gnone hp) (R.thne hp) (R.tbnew hp)) ⟨p, rfl, (fun z => nomatch z), ⟨R.gnone hp, vs, upd_same, r⟩, R.thne hp, hp⟩

/-! ### + -/
def fAdd : D → D → S → R (D × S)
  | .int i, .int j, s => .ok (.int (i + j), s)
  | .str x, .str y, s => if x.length + y.length ≤ SZ then .ok (.str (x ++ y), s) else .no
  | .tup x, .tup y, s => if x.length + y.length ≤ SZ then .ok (.tup (x ++ y), s) else .no
  | x, y, s => match lstOf s x, lstOf s y with
    | some l, some m => if l.length + m.length ≤ SZ then .ok (.lst (l ++ m), s) else .no
    | _, _ => .no
def rAddA (K : PySem.W.Frag) : R2 := fun x y H Q => rI0 (fun i j => .int (i + j)) x y H Q ∨ ((∃ i j, x = .str i ∧ y = .str j ∧ i.length + j.length ≤ sizeLine ∧ Q (.str (i ++ j)) H) ∨ (rCatA K x y H Q ∨ rCat x y H Q))
theorem op_addA : OpR X (binaryOp .Add) (rAddA X.K) := op_add.or (op_add_str.or (op_catA.or op_cat))
theorem str_app (x y : List Nat) : ((⟨x.toArray⟩ : Str) ++ (⟨y.toArray⟩ : Str)) = ⟨(x ++ y).toArray⟩ := by
  apply TL.ext_tl
  rw [TL.tl_append]
theorem str_len (x : List Nat) : (⟨x.toArray⟩ : Str).length = x.length := by simp [Str.length]
theorem sem_add_lst {K : PySem.W.Frag} {x y : D} {vx vy : V} {Q : VK} (R : Rep K B th G s σ H) (rx : At K th G x vx) (ry : At K th G y vy)
    (P : Post K B W σ th G H (relE K) (match lstOf s x, lstOf s y with
      | some l, some m => if l.length + m.length ≤ SZ then .ok (.lst (l ++ m), s) else .no
      | _, _ => .no) Q) : rCat vx vy H Q := by
  cases e1 : lstOf s x with
  | none => rw [e1] at P; exact P.elim
  | some l =>
    cases e2 : lstOf s y with
    | none => rw [e1, e2] at P; exact P.elim
    | some m =>
      rw [e1, e2] at P
      simp only at P
      split at P
      · rename_i hz
        obtain ⟨p, vs, h1, h2, h3⟩ := R.lst_of rx e1
        obtain ⟨q, ws, k1, k2, k3⟩ := R.lst_of ry e2
        exact ⟨p, q, vs, ws, h1, k1, h2, k2, by rw [h3.length, k3.length, SZ_eq]; exact hz, fun t ht => post_lst R P (h3.append k3) ht⟩
      · exact P.elim
theorem semR_add {K : PySem.W.Frag} : SemR K B W (rAddA K) fAdd := fun s th G σ H Q x y vx vy R rx ry P => by
  by_cases hii : (∃ i j, x = .int i ∧ y = .int j)
  · obtain ⟨i, j, rfl, rfl⟩ := hii
    cases rx; cases ry
    exact .inl ⟨i, j, rfl, rfl, Post.ok (rel := relE K) P R rfl⟩
  by_cases hss : (∃ i j, x = .str i ∧ y = .str j)
  · obtain ⟨i, j, rfl, rfl⟩ := hss
    cases rx; cases ry
    simp only [fAdd] at P
    split at P
    · rename_i hz
      exact .inr (.inl ⟨_, _, rfl, rfl, by rw [str_len, str_len, SZ_eq]; exact hz, by rw [str_app]; exact Post.ok (rel := relE K) P R rfl⟩)
    · exact P.elim
  by_cases htt : (∃ i j, x = .tup i ∧ y = .tup j)
  · obtain ⟨i, j, rfl, rfl⟩ := htt
    simp only [fAdd] at P
    split at P
    · rename_i hz
      obtain ⟨p, vs, e1, q1, r1⟩ := id rx
      obtain ⟨q, ws, e2, q2, r2⟩ := id ry
      refine .inr (.inr (.inl ⟨p, q, vs, ws, e1, e2, R.eG.sqT q1, R.eG.sqT q2, by rw [r1.length, r2.length, SZ_eq]; exact hz, fun z => ?_, fun z1 z2 => ?_, fun z1 z2 t ht => post_tup R P (r1.append r2) ht⟩))
      · subst z
        have : i = [] := List.eq_nil_of_length_eq_zero (by rw [← r1.length]; rfl)
        subst this
        exact Post.ok (rel := relE K) P R ⟨q, ws, rfl, q2, r2⟩
      · subst z2
        have : j = [] := List.eq_nil_of_length_eq_zero (by rw [← r2.length]; rfl)
        subst this
        rw [List.append_nil] at P
        exact Post.ok (rel := relE K) P R ⟨p, vs, rfl, q1, r1⟩
    · exact P.elim
  have P' : Post K B W σ th G H (relE K) (match lstOf s x, lstOf s y with
      | some l, some m => if l.length + m.length ≤ SZ then .ok (.lst (l ++ m), s) else .no
      | _, _ => .no) Q := by
    cases x <;> cases y <;> first
      | exact P
      | exact absurd ⟨_, _, rfl, rfl⟩ hii
      | exact absurd ⟨_, _, rfl, rfl⟩ hss
      | exact absurd ⟨_, _, rfl, rfl⟩ htt
  exact .inr (.inr (.inr (sem_add_lst R rx ry P')))
theorem ve_add (ha : VE X B W a ta ma) (hb : VE X B W b tb mb) : VE X B W (.BinOp a .Add b pos) (tOp (rAddA X.K) ta tb) (eOp fAdd ma mb) := ⟨pe_op op_addA ha.pe hb.pe, sem_op semR_add ha.sem hb.sem⟩

/-! ### - // % ** -/
abbrev fSub : D → D → S → R (D × S) := fP (gI (fun _ _ => true) fun i j => .int (i - j))
theorem ve_sub (ha : VE X B W a ta ma) (hb : VE X B W b tb mb) : VE X B W (.BinOp a .Sub b pos) (tOp (rI0 fun i j => .int (i - j)) ta tb) (eOp fSub ma mb) := ⟨pe_op op_sub ha.pe hb.pe, sem_op (semR_I0 fun _ _ _ _ => rfl) ha.sem hb.sem⟩
abbrev fDiv : D → D → S → R (D × S) := fP (gI (fun _ j => decide (0 < j ∧ j < 1073741824)) fun i j => .int (i / j))
theorem ve_div (ha : VE X B W a ta ma) (hb : VE X B W b tb mb) : VE X B W (.BinOp a .FloorDiv b pos) (tOp (rI CDiv fun i j => .int (i / j)) ta tb) (eOp fDiv ma mb) := ⟨pe_op op_fdiv ha.pe hb.pe, sem_op (semR_I (C := CDiv) (fun i j h => (show 0 < j ∧ j < 1073741824 from of_decide_eq_true h)) fun _ _ _ _ => rfl) ha.sem hb.sem⟩
abbrev fMod : D → D → S → R (D × S) := fP (gI (fun _ j => decide (0 < j)) fun i j => .int (i % j))
theorem ve_mod (ha : VE X B W a ta ma) (hb : VE X B W b tb mb) : VE X B W (.BinOp a .Mod b pos) (tOp (rI (fun _ j => 0 < j) fun i j => .int (i % j)) ta tb) (eOp fMod ma mb) := ⟨pe_op op_mod ha.pe hb.pe, sem_op (semR_I (fun _ _ h => of_decide_eq_true h) fun _ _ _ _ => rfl) ha.sem hb.sem⟩
def powOk (i j : Int) : Bool := decide (0 ≤ j ∧ j ≤ 1000000 ∧ i.natAbs < 18446744073709551616)
abbrev fPow : D → D → S → R (D × S) := fP (gI powOk fun i j => .int (i ^ j.toNat))
theorem ve_pow (ha : VE X B W a ta ma) (hb : VE X B W b tb mb) : VE X B W (.BinOp a .Pow b pos) (tOp (rI CPow fun i j => .int (i ^ j.toNat)) ta tb) (eOp fPow ma mb) := ⟨pe_op op_pow ha.pe hb.pe, sem_op (semR_I (fun _ _ h => by
  have q := of_decide_eq_true h
  exact ⟨q.1, q.2.1, q.2.2⟩) fun _ _ _ _ => rfl) ha.sem hb.sem⟩

/-! ### comparisons of ints and texts -/
def gLt (s : Nat → Nat → Bool) : D → D → Option D
  | .int i, .int j => some (.bl (decide (i < j)))
  | _, _ => none
def gCmp (p : Int → Int → Bool) (q : List Nat → List Nat → Bool) : D → D → Option D
  | .int i, .int j => some (.bl (p i j))
  | .str i, .str j => some (.bl (q i j))
  | _, _ => none
def rCmpS (q : List Nat → List Nat → Bool) : R2 := fun x y H Q => ∃ i j, x = .str i ∧ y = .str j ∧ Q (.bl (q i.cps.toList j.cps.toList)) H
theorem semR_cmp {K : PySem.W.Frag} {p : Int → Int → Bool} {q : List Nat → List Nat → Bool} : SemR K B W (fun x y H Q => rI0 (fun i j => .bl (p i j)) x y H Q ∨ rCmpS q x y H Q) (fP (gCmp p q)) :=
  semR_P fun th G H Q x y vx vy d rx ry e k => by
    cases x <;> cases y <;> first
      | (simp only [gCmp] at e; cases e; cases rx; cases ry; exact .inl ⟨_, _, rfl, rfl, k _ rfl⟩)
      | (simp only [gCmp] at e; cases e; cases rx; cases ry; exact .inr ⟨_, _, rfl, rfl, k _ rfl⟩)
      | (simp [gCmp] at e)
theorem op_ltA : OpR X (compareOp .Lt) (fun x y H Q => rI0 (fun i j => .bl (decide (i < j))) x y H Q ∨ rCmpS (fun i j => decide (i < j)) x y H Q) := op_lt.or op_lt_str
theorem op_leA : OpR X (compareOp .LtE) (fun x y H Q => rI0 (fun i j => .bl (decide (i ≤ j))) x y H Q ∨ rCmpS (fun i j => !decide (j < i)) x y H Q) := op_le.or op_le_str
theorem op_gtA : OpR X (compareOp .Gt) (fun x y H Q => rI0 (fun i j => .bl (decide (j < i))) x y H Q ∨ rCmpS (fun i j => decide (j < i)) x y H Q) := op_gt.or op_gt_str
theorem op_geA : OpR X (compareOp .GtE) (fun x y H Q => rI0 (fun i j => .bl (decide (j ≤ i))) x y H Q ∨ rCmpS (fun i j => !decide (i < j)) x y H Q) := op_ge.or op_ge_str
end
end VL
namespace VL
open PySem L2

/-! ### == -/
mutual
def toP : D → PyData
  | .non => .none
  | .bl b => .bool b
  | .int i => .int i
  | .str s => .str ⟨s.toArray⟩
  | .tup l => .tuple (toPs l)
  | .lst l => .list (toPs l)
  | _ => .none
def toPs : List D → List PyData
  | [] => []
  | d :: l => toP d :: toPs l
end
mutual
/-- plain data, at most n deep -/
def okD : Nat → D → Bool
  | _, .non => true
  | _, .bl _ => true
  | _, .int _ => true
  | _, .str s => s.all (· < 0x110000)
  | n, .tup l => match n with
    | 0 => false
    | n + 1 => okDs n l
  | n, .lst l => match n with
    | 0 => false
    | n + 1 => okDs n l
  | _, _ => false
def okDs : Nat → List D → Bool
  | _, [] => true
  | n, d :: l => okD n d && okDs n l
end
mutual
def eqD : D → D → Bool
  | .non, .non => true
  | .bl a, .bl b => a == b
  | .bl a, .int j => (if a then 1 else 0) == j
  | .int i, .bl b => i == (if b then 1 else 0)
  | .int i, .int j => decide (i = j)
  | .str x, .str y => decide (x = y)
  | .tup x, .tup y => eqDs x y
  | .lst x, .lst y => eqDs x y
  | _, _ => false
def eqDs : List D → List D → Bool
  | [], [] => true
  | x :: xs, y :: ys => eqD x y && eqDs xs ys
  | _, _ => false
end
mutual
theorem okD_P : ∀ (n : Nat) (d : D), okD n d = true → (toP d).canLay0 = true ∧ (toP d).depth ≤ n
  | _, .non, _ => ⟨rfl, Nat.zero_le _⟩
  | _, .bl _, _ => ⟨rfl, Nat.zero_le _⟩
  | _, .int _, _ => ⟨rfl, Nat.zero_le _⟩
  | _, .str s, h => ⟨by
      simp only [okD] at h
      simp only [toP, PyData.canLay0, PyData.strOk]
      rw [List.all_toArray]; exact h, Nat.zero_le _⟩
  | 0, .tup l, h => by simp [okD] at h
  | n + 1, .tup l, h => by
    simp only [okD] at h
    obtain ⟨h1, h2⟩ := okDs_P n l h
    simp only [toP, PyData.canLay0, PyData.depth]
    exact ⟨h1, by omega⟩
  | 0, .lst l, h => by simp [okD] at h
  | n + 1, .lst l, h => by
    simp only [okD] at h
    obtain ⟨h1, h2⟩ := okDs_P n l h
    simp only [toP, PyData.canLay0, PyData.depth]
    exact ⟨h1, by omega⟩
  | _, .dct _ _, h => by simp [okD] at h
  | _, .scr _, h => by simp [okD] at h
  | _, .loc _, h => by simp [okD] at h
  | _, .obj _, h => by simp [okD] at h
theorem okDs_P : ∀ (n : Nat) (l : List D), okDs n l = true → PyData.canLayAll0 (toPs l) = true ∧ PyData.depthAll (toPs l) ≤ n
  | _, [], _ => ⟨rfl, Nat.zero_le _⟩
  | n, d :: l, h => by
    simp only [okDs, Bool.and_eq_true] at h
    obtain ⟨h1, h2⟩ := okD_P n d h.1
    obtain ⟨h3, h4⟩ := okDs_P n l h.2
    simp only [toPs, PyData.canLayAll0, PyData.depthAll, h1, h3, Bool.and_self]
    exact ⟨trivial, by omega⟩
end
theorem shaped_of {d : D} (h : okD 64 d = true) : SeqAt.shaped (toP d) = true := by
  obtain ⟨h1, h2⟩ := okD_P 64 d h
  unfold SeqAt.shaped
  rw [h1, decide_eq_true h2]; rfl
theorem str_beq (x y : List Nat) : ((⟨x.toArray⟩ : Str) == ⟨y.toArray⟩) = decide (x = y) := by
  rw [Bool.eq_iff_iff]
  simp
mutual
theorem eqv_D : ∀ (x y : D) (n m : Nat), okD n x = true → okD m y = true → PyData.eqv (toP x) (toP y) = eqD x y
  | x, y, n, m, hx, hy => by
    cases x <;> cases y <;> first
      | (simp [okD] at hx; done)
      | (simp [okD] at hy; done)
      | (simp only [toP, PyData.eqv, eqD]; done)
      | rfl
      | (simp only [toP, PyData.eqv, eqD]; exact str_beq _ _)
      | (simp only [toP, PyData.eqv, eqD]; exact Int.beq_eq_decide _ _)
      | (simp only [toP, PyData.eqv, eqD]; rw [Bool.eq_iff_iff]; simp; done)
      | (cases n with
         | zero => simp [okD] at hx
         | succ n =>
           cases m with
           | zero => simp [okD] at hy
           | succ m =>
             simp only [okD] at hx hy
             simp only [toP, PyData.eqv, eqD]
             exact eqv_Ds _ _ n m hx hy)
theorem eqv_Ds : ∀ (x y : List D) (n m : Nat), okDs n x = true → okDs m y = true → PyData.eqvAll (toPs x) (toPs y) = eqDs x y
  | [], [], _, _, _, _ => rfl
  | [], _ :: _, _, _, _, _ => rfl
  | _ :: _, [], _, _, _, _ => rfl
  | x :: xs, y :: ys, n, m, hx, hy => by
    simp only [okDs, Bool.and_eq_true] at hx hy
    simp only [toPs, PyData.eqvAll, eqDs]
    rw [eqv_D x y n m hx.1 hy.1, eqv_Ds xs ys n m hx.2 hy.2]
end
section
variable {K : PySem.W.Frag} {th : List Addr} {G H : Hp}
mutual
theorem dp_of (e : Ex G H) : ∀ (n : Nat) (d : D) (v : V), okD n d = true → At K th G d v → Dp K H v (toP d)
  | _, .non, _, _, h => by cases h; exact .non
  | _, .bl _, _, _, h => by cases h; exact .bl _
  | _, .int _, _, _, h => by cases h; exact .int _
  | _, .str _, _, _, h => by cases h; exact .str _
  | 0, .tup l, _, hk, _ => by simp [okD] at hk
  | n + 1, .tup l, _, hk, h => by
    obtain ⟨a, vs, rfl, q, r⟩ := h
    simp only [okD] at hk
    exact .tup (e.sqT q) (dps_of e n l vs hk r)
  | 0, .lst l, _, hk, _ => by simp [okD] at hk
  | n + 1, .lst l, _, hk, h => by
    obtain ⟨a, vs, rfl, q, r⟩ := h
    simp only [okD] at hk
    exact .lst (SqL.of (e.lst q)) (dps_of e n l vs hk r)
  | _, .dct _ _, _, hk, _ => by simp [okD] at hk
  | _, .scr _, _, hk, _ => by simp [okD] at hk
  | _, .loc _, _, hk, _ => by simp [okD] at hk
  | _, .obj _, _, hk, _ => by simp [okD] at hk
theorem dps_of (e : Ex G H) : ∀ (n : Nat) (l : List D) (vs : List V), okDs n l = true → AtL K th G l vs → DpAll K H vs (toPs l)
  | _, [], _, _, h => by cases h; exact .nil
  | n, d :: l, _, hk, h => by
    obtain ⟨v, r, rfl, q, z⟩ := h
    simp only [okDs, Bool.and_eq_true] at hk
    exact .cons (dp_of e n d v hk.1 q) (dps_of e n l r hk.2 z)
end
end
/-- == of texts, numbers, truth values, None at once; of anything else by its data -/
def qEq : D → D → Option Bool
  | .str x, .str y => some (decide (x = y))
  | x, y => if okD 64 x && okD 64 y then some (eqD x y) else none
/-- an own list is compared by what it holds now -/
def peek (s : S) : D → D
  | .loc n => match s.m[n]? with
    | some (.lst l) => .lst l
    | _ => .loc n
  | d => d
def fEq : D → D → S → R (D × S) := fun x y s => match qEq (peek s x) (peek s y) with
  | some b => .ok (.bl b, s)
  | none => .no
def fNe : D → D → S → R (D × S) := fun x y s => match qEq (peek s x) (peek s y) with
  | some b => .ok (.bl (!b), s)
  | none => .no

section
variable {X : Cx} {B : Bs} {W : WX} {e a b c : Expr} {te ta tb tc : TE} {m ma mb mc : ME} {pos : Pos} {th : List Addr} {G H : Hp} {s : S} {σ : St}
theorem dp_peek {K : PySem.W.Frag} (R : Rep K B th G s σ H) {d : D} {v : V} (hk : okD 64 (peek s d) = true) (h : At K th G d v) : Dp K H v (toP (peek s d)) := by
  cases d with
  | loc n =>
    simp only [peek] at hk ⊢
    cases hm : s.m[n]? with
    | none => rw [hm] at hk; simp [okD] at hk
    | some ob =>
      rw [hm] at hk
      cases ob with
      | lst l =>
        obtain ⟨a, vs, e1, q, r⟩ := R.lst_of (d := .loc n) (l := l) h (by simp [lstOf, hm])
        subst e1
        simp only at hk ⊢
        have hk' : okDs 63 l = true := by simpa [okD] using hk
        exact .lst (SqL.of q) (dps_of R.eG 63 l vs hk' r)
      | _ => simp [okD] at hk
  | _ => exact dp_of R.eG 64 _ v hk h
def rEqA (K : PySem.W.Frag) : R2 := fun x y H Q => rEq x y H Q ∨ rEqD K x y H Q
def rNeA (K : PySem.W.Frag) : R2 := fun x y H Q => rNe x y H Q ∨ rNeD K x y H Q
theorem peek_str {s : S} {d : D} {x : List Nat} (h : peek s d = .str x) : d = .str x := by
  cases d with
  | loc n =>
    simp only [peek] at h
    split at h <;> cases h
  | _ => exact h
theorem qEq_cases {x y : D} {b : Bool} (h : qEq x y = some b) : (∃ u v, x = .str u ∧ y = .str v ∧ b = decide (u = v)) ∨ (okD 64 x = true ∧ okD 64 y = true ∧ b = eqD x y) := by
  by_cases hs : ∃ u v, x = .str u ∧ y = .str v
  · obtain ⟨u, v, rfl, rfl⟩ := hs
    simp only [qEq, Option.some.injEq] at h
    exact .inl ⟨u, v, rfl, rfl, h.symm⟩
  · have h' : (if okD 64 x && okD 64 y then some (eqD x y) else none) = some b := by
      cases x <;> cases y <;> first
        | exact h
        | exact absurd ⟨_, _, rfl, rfl⟩ hs
    split at h'
    · rename_i hh
      simp only [Bool.and_eq_true] at hh
      exact .inr ⟨hh.1, hh.2, (Option.some.inj h').symm⟩
    · cases h'
theorem dec_sv (u v : List Nat) : decide (sv u = sv v) = decide (u = v) := by
  rw [Bool.eq_iff_iff]; simp [sv]
theorem semR_eq {K : PySem.W.Frag} : SemR K B W (rEqA K) fEq := fun s th G σ H Q x y vx vy R rx ry P => by
  unfold fEq at P
  cases e : qEq (peek s x) (peek s y) with
  | none => rw [e] at P; exact P.elim
  | some b =>
    rw [e] at P
    have q : Q (.bl b) H := Post.ok (rel := relE K) P R rfl
    rcases qEq_cases e with ⟨u, v, e1, e2, rfl⟩ | ⟨h1, h2, rfl⟩
    · have e1 := peek_str e1
      have e2 := peek_str e2
      subst e1; subst e2
      cases rx; cases ry
      refine .inl ⟨rfl, ?_⟩
      show Q (.bl (decide (sv u = sv v))) H
      rw [dec_sv]; exact q
    · exact .inr ⟨_, _, dp_peek R h1 rx, dp_peek R h2 ry, shaped_of h1, shaped_of h2, by rw [eqv_D _ _ 64 64 h1 h2]; exact q⟩
theorem semR_ne {K : PySem.W.Frag} : SemR K B W (rNeA K) fNe := fun s th G σ H Q x y vx vy R rx ry P => by
  unfold fNe at P
  cases e : qEq (peek s x) (peek s y) with
  | none => rw [e] at P; exact P.elim
  | some b =>
    rw [e] at P
    have q : Q (.bl (!b)) H := Post.ok (rel := relE K) P R rfl
    rcases qEq_cases e with ⟨u, v, e1, e2, rfl⟩ | ⟨h1, h2, rfl⟩
    · have e1 := peek_str e1
      have e2 := peek_str e2
      subst e1; subst e2
      cases rx; cases ry
      refine .inl ⟨rfl, ?_⟩
      show Q (.bl (!decide (sv u = sv v))) H
      rw [dec_sv]; exact q
    · exact .inr ⟨_, _, dp_peek R h1 rx, dp_peek R h2 ry, shaped_of h1, shaped_of h2, by rw [eqv_D _ _ 64 64 h1 h2]; exact q⟩
theorem op_eqA (hu : X.A.units + 64 < cLine) : OpR X (compareOp .Eq) (rEqA X.K) := op_eq.or (op_eqD hu)
theorem op_neA (hu : X.A.units + 64 < cLine) : OpR X (compareOp .NotEq) (rNeA X.K) := op_ne.or (op_neD hu)

/-! ### is None -/
def isNon : D → Bool
  | .non => true
  | _ => false
theorem At.isNon {K : PySem.W.Frag} {d : D} {v : V} (h : At K th G d v) : decide (v = .non) = VL.isNon d := by
  cases d <;> first
    | (cases h; rfl)
    | (obtain ⟨a, vs, rfl, _⟩ := h; rfl)
    | (obtain ⟨a, rfl, _⟩ := h; rfl)
    | (obtain ⟨a, _, rfl⟩ := h; rfl)
def fIs : D → D → S → R (D × S) := fP fun x y => if isNon y then some (.bl (isNon x)) else none
def fIsn : D → D → S → R (D × S) := fP fun x y => if isNon y then some (.bl (!isNon x)) else none
theorem isNon_eq {d : D} (h : isNon d = true) : d = .non := by cases d <;> first | rfl | cases h
theorem semR_is {K : PySem.W.Frag} : SemR K B W (fun x y H Q => y = .non ∧ Q (.bl (decide (x = .non))) H) fIs := semR_P fun th G H Q x y vx vy d rx ry e q => by
  split at e
  · rename_i h
    cases e
    have h := isNon_eq h
    subst h
    cases ry
    exact ⟨rfl, by rw [rx.isNon]; exact q _ rfl⟩
  · cases e
theorem semR_isn {K : PySem.W.Frag} : SemR K B W (fun x y H Q => y = .non ∧ Q (.bl (!decide (x = .non))) H) fIsn := semR_P fun th G H Q x y vx vy d rx ry e q => by
  split at e
  · rename_i h
    cases e
    have h := isNon_eq h
    subst h
    cases ry
    exact ⟨rfl, by rw [rx.isNon]; exact q _ rfl⟩
  · cases e

/-! ### comparisons as values and as tests -/
theorem ve_cmp {op : CmpOp} {r : R2} {f : D → D → S → R (D × S)} (ho : OpR X (compareOp op) r) (hf : SemR X.K B W r f) (ha : VE X B W a ta ma) (hb : VE X B W b tb mb) (hm : behindInMarks op b = false) : VE X B W (.Compare a [op] [b] pos) (tOp r ta tb) (eOp f ma mb) :=
  ⟨pe_cmpR ho ha.pe hb.pe hm, sem_op hf ha.sem hb.sem⟩
/-- a truth value, asked -/
def tBl (m : ME) : MT := fun s => (m s).bind fun d s => match d with
  | .bl b => .ok (b, s)
  | _ => .no
theorem sem_tst {K : PySem.W.Frag} {t : TE} {m : ME} (h : Sem K B W (relE K) t m) : Sem K B W relT (tTest t) (tBl m) := fun s th G σ H Q R P =>
  h s th G σ H _ R (P.bind fun d s1 th1 G1 H1 v l R1 r P1 => by
    cases d with
    | bl b => cases r; exact ⟨b, rfl, Post.ok (rel := relT) P1 R1 rfl⟩
    | _ => exact P1.elim)
theorem vt_cmp {op : CmpOp} {r : R2} {f : D → D → S → R (D × S)} (ho : OpR X (compareOp op) r) (hf : SemR X.K B W r f) (ha : VE X B W a ta ma) (hb : VE X B W b tb mb) (hm : behindInMarks op b = false) : VT X B W (.Compare a [op] [b] pos) (tTest (tOp r ta tb)) (tBl (eOp f ma mb)) :=
  ⟨pt_cmpR ho ha.pe hb.pe hm, sem_tst (sem_op hf ha.sem hb.sem)⟩
/-- a op b op' c -/
def eChain (f f' : D → D → S → R (D × S)) (a b c : ME) : ME := fun s => (a s).bind fun x s => (b s).bind fun y s => (f x y s).bind fun z s => match z with
  | .bl true => (c s).bind fun w s => f' y w s
  | .bl false => .ok (.bl false, s)
  | _ => .no
theorem sem_chain {K : PySem.W.Frag} {r r' : R2} {f f' : D → D → S → R (D × S)} (hf : SemR K B W r f) (hf' : SemR K B W r' f') (ha : Sem K B W (relE K) ta ma) (hb : Sem K B W (relE K) tb mb) (hc : Sem K B W (relE K) tc mc) :
    Sem K B W (relE K) (tChain r r' ta tb tc) (eChain f f' ma mb mc) := fun s th G σ H Q R P =>
  ha s th G σ H _ R (P.bind fun x s1 th1 G1 H1 vx l1 R1 r1 P1 => hb s1 th1 G1 σ H1 _ R1 (P1.bind fun y s2 th2 G2 H2 vy l2 R2 r2 P2 =>
    hf s2 th2 G2 σ H2 _ x y vx vy R2 (At.mono l2.pre l2.ex r1) r2 (P2.bind fun z s3 th3 G3 H3 vz l3 R3 r3 P3 => by
      cases z with
      | bl k =>
        cases r3
        refine ⟨k, rfl, ?_⟩
        cases k with
        | true => exact iteT (hc s3 th3 G3 σ H3 _ R3 (P3.bind fun w s4 th4 G4 H4 vw l4 R4 r4 P4 => hf' s4 th4 G4 σ H4 Q y w vy vw R4 (At.mono (l3.trans l4).pre (l3.trans l4).ex r2) r4 P4))
        | false => exact iteF (Post.ok (rel := relE K) P3 R3 rfl)
      | _ => exact P3.elim)))
theorem ve_chain {op op' : CmpOp} {r r' : R2} {f f' : D → D → S → R (D × S)} (ho : OpR X (compareOp op) r) (ho' : OpR X (compareOp op') r') (hf : SemR X.K B W r f) (hf' : SemR X.K B W r' f') (ha : VE X B W a ta ma) (hb : VE X B W b tb mb) (hc : VE X B W c tc mc)
    (hm : lastMarks [op, op'] [b, c] = false := by with_unfolding_all rfl) : VE X B W (.Compare a [op, op'] [b, c] pos) (tChain r r' ta tb tc) (eChain f f' ma mb mc) := ⟨pe_chain ho ho' ha.pe hb.pe hc.pe hm, sem_chain hf hf' ha.sem hb.sem hc.sem⟩
theorem vt_chain {op op' : CmpOp} {r r' : R2} {f f' : D → D → S → R (D × S)} (ho : OpR X (compareOp op) r) (ho' : OpR X (compareOp op') r') (hf : SemR X.K B W r f) (hf' : SemR X.K B W r' f') (ha : VE X B W a ta ma) (hb : VE X B W b tb mb) (hc : VE X B W c tc mc)
    (hm : lastMarks [op, op'] [b, c] = false := by with_unfolding_all rfl) : VT X B W (.Compare a [op, op'] [b, c] pos) (tTest (tChain r r' ta tb tc)) (tBl (eChain f f' ma mb mc)) := ⟨pt_chain ho ho' ha.pe hb.pe hc.pe hm, sem_tst (sem_chain hf hf' ha.sem hb.sem hc.sem)⟩

/-! ### tests by truth, and, or, not, if-else -/
def truD (s : S) : D → Option Bool
  | .non => some false
  | .bl b => some b
  | .int i => some (i != 0)
  | .str x => if x.length ≤ SZ then some (!x.isEmpty) else none
  | .dct ks _ => some (!ks.isEmpty)
  | d => match seqOf s d with
    | some l => some (!l.isEmpty)
    | none => none
def tTru (m : ME) : MT := fun s => (m s).bind fun d s => match truD s d with
  | some b => .ok (b, s)
  | none => .no
theorem isE {K : PySem.W.Frag} {l : List D} {vs : List V} (h : AtL K th G l vs) : (!vs.isEmpty) = !l.isEmpty := by
  have := h.length
  cases l <;> cases vs <;> simp_all
theorem tru_seq {K : PySem.W.Frag} (R : Rep K B th G s σ H) {d : D} {v : V} (h : At K th G d v) {l : List D} (e : seqOf s d = some l) : TruV K v H (!l.isEmpty) := by
  obtain ⟨a, vs, rfl, q, r⟩ := R.seq_of h e
  rcases q with q | q
  · exact .inl ⟨vs, q, (isE r).symm⟩
  · exact .inr (.inl ⟨vs, q, (isE r).symm⟩)
theorem tru_of {K : PySem.W.Frag} (R : Rep K B th G s σ H) {d : D} {v : V} {b : Bool} (h : At K th G d v) (e : truD s d = some b) (hd : ∀ ks l, d ≠ .dct ks l) : TruV K v H b := by
  cases d with
  | non => cases h; simp [truD] at e; subst e; rfl
  | bl c => cases h; simp [truD] at e; subst e; rfl
  | int i => cases h; simp only [truD, Option.some.injEq] at e; subst e; rfl
  | str x =>
    cases h
    simp only [truD] at e
    split at e
    · rename_i hz
      cases e
      refine ⟨by rw [str_len, SZ_eq]; exact hz, ?_⟩
      rw [str_len]
      cases x with
      | nil => rfl
      | cons a l =>
        simp; omega
    · cases e
  | dct ks l => exact absurd rfl (hd ks l)
  | tup l => simp only [truD, seqOf, Option.some.injEq] at e; subst e; exact tru_seq R h rfl
  | scr l => simp only [truD, seqOf, Option.some.injEq] at e; subst e; exact tru_seq R h rfl
  | lst l => simp only [truD, seqOf, lstOf, Option.some.injEq] at e; subst e; exact tru_seq R h rfl
  | loc n =>
    simp only [truD] at e
    cases hl : seqOf s (.loc n) with
    | none => rw [hl] at e; cases e
    | some l => rw [hl] at e; cases e; exact tru_seq R h hl
  | obj a => simp [truD, seqOf, lstOf] at e
/-- a test by truth; a dict is not asked so -/
def tTruN (m : ME) : MT := fun s => (m s).bind fun d s => match d with
  | .dct _ _ => .no
  | d => match truD s d with
    | some b => .ok (b, s)
    | none => .no
theorem vt_tru (ha : VE X B W a ta ma) (he : ∀ whole, isTrue a X.env whole = (do let v ← whole; standAt a.pos; holding [v] (truthy v)) := by intro _; rfl) : VT X B W a (fun σ H Q => ta σ H fun x H' => ∃ k, TruV X.K x H' k ∧ Q k H') (tTruN ma) :=
  ⟨pt_truth ha.pe he, fun s th G σ H Q R P => ha.sem s th G σ H _ R (P.bind fun d s1 th1 G1 H1 v l R1 r P1 => by
    by_cases hd : ∃ ks l, d = .dct ks l
    · obtain ⟨ks, l, rfl⟩ := hd; exact P1.elim
    have P2 : Post X.K B W σ th1 G1 H1 relT (match truD s1 d with
      | some b => .ok (b, s1)
      | none => .no) Q := by
      cases d <;> first
        | exact P1
        | exact absurd ⟨_, _, rfl⟩ hd
    cases e : truD s1 d with
    | none => rw [e] at P2; exact P2.elim
    | some b =>
      rw [e] at P2
      exact ⟨b, tru_of R1 r e (fun ks l z => hd ⟨ks, l, z⟩), Post.ok (rel := relT) P2 R1 rfl⟩)⟩
def tAndM (a b : MT) : MT := fun s => (a s).bind fun x s => if x = true then b s else .ok (false, s)
def tOrM (a b : MT) : MT := fun s => (a s).bind fun x s => if x = true then .ok (true, s) else b s
def tNotM (a : MT) : MT := fun s => (a s).bind fun x s => .ok (!x, s)
variable {tA tB' : TT} {mA mB : MT} {rest : List Expr}
theorem vw_and1 (ha : VT X B W a tA mA) : VW X B W (.BoolOp .And [a] pos) tA mA := ⟨pw_and1 ha.pt, ha.sem⟩
theorem vw_or1 (ha : VT X B W a tA mA) : VW X B W (.BoolOp .Or [a] pos) tA mA := ⟨pw_or1 ha.pt, ha.sem⟩
theorem vw_and (ha : VT X B W a tA mA) (hb : VW X B W (.BoolOp .And (b :: rest) pos) tB' mB) : VW X B W (.BoolOp .And (a :: b :: rest) pos) (tAnd tA tB') (tAndM mA mB) :=
  ⟨pw_and ha.pt hb.pw, fun s th G σ H Q R P => ha.sem s th G σ H _ R (P.bind fun x s1 th1 G1 H1 v l R1 r P1 => by
    cases r
    cases x with
    | true => exact iteT (hb.sem s1 th1 G1 σ H1 Q R1 P1)
    | false => exact iteF (Post.ok (rel := relT) P1 R1 rfl))⟩
theorem vw_or (ha : VT X B W a tA mA) (hb : VW X B W (.BoolOp .Or (b :: rest) pos) tB' mB) : VW X B W (.BoolOp .Or (a :: b :: rest) pos) (tOr tA tB') (tOrM mA mB) :=
  ⟨pw_or ha.pt hb.pw, fun s th G σ H Q R P => ha.sem s th G σ H _ R (P.bind fun x s1 th1 G1 H1 v l R1 r P1 => by
    cases r
    cases x with
    | true => exact iteT (Post.ok (rel := relT) P1 R1 rfl)
    | false => exact iteF (hb.sem s1 th1 G1 σ H1 Q R1 P1))⟩
theorem vt_w (h : VW X B W a tA mA) : VT X B W a tA mA := ⟨h.pw.pt, h.sem⟩
theorem vt_not (ha : VT X B W a tA mA) : VT X B W (.UnaryOp .Not a pos) (tNot tA) (tNotM mA) :=
  ⟨pt_not ha.pt, fun s th G σ H Q R P => ha.sem s th G σ H _ R (P.bind fun x s1 th1 G1 H1 v l R1 r P1 => by
    cases r
    exact Post.ok (rel := relT) P1 R1 rfl)⟩
def eIf (t : MT) (a b : ME) : ME := fun s => (t s).bind fun x s => if x = true then a s else b s
theorem ve_if (ht : VT X B W c tA mA) (ha : VE X B W a ta ma) (hb : VE X B W b tb mb) : VE X B W (.IfExp c a b pos) (tIf tA ta tb) (eIf mA ma mb) :=
  ⟨pe_ifExp ht.pt ha.pe hb.pe, fun s th G σ H Q R P => ht.sem s th G σ H _ R (P.bind fun x s1 th1 G1 H1 v l R1 r P1 => by
    cases r
    cases x with
    | true => exact iteT (ha.sem s1 th1 G1 σ H1 Q R1 P1)
    | false => exact iteF (hb.sem s1 th1 G1 σ H1 Q R1 P1))⟩
/-- and, or, not as values: truth values all -/
def eAndV (a b : ME) : ME := fun s => (a s).bind fun x s => match x with
  | .bl true => b s
  | .bl false => .ok (.bl false, s)
  | _ => .no
def eOrV (a b : ME) : ME := fun s => (a s).bind fun x s => match x with
  | .bl true => .ok (.bl true, s)
  | .bl false => b s
  | _ => .no
def eNotV (a : ME) : ME := fun s => (a s).bind fun x s => match x with
  | .bl b => .ok (.bl (!b), s)
  | _ => .no
theorem ve_one {op : BoolOp} (ha : VE X B W a ta ma) : VE X B W (.BoolOp op [a] pos) ta ma := ⟨pe_one ha.pe, ha.sem⟩
theorem ve_and (ha : VE X B W a ta ma) (hb : VE X B W (.BoolOp .And (b :: rest) pos) tb mb) : VE X B W (.BoolOp .And (a :: b :: rest) pos) (tAndV ta tb) (eAndV ma mb) :=
  ⟨pe_and ha.pe hb.pe, fun s th G σ H Q R P => ha.sem s th G σ H _ R (P.bind fun x s1 th1 G1 H1 v l R1 r P1 => by
    cases x with
    | bl k =>
      cases r
      refine ⟨k, rfl, ?_⟩
      cases k with
      | true => exact iteT (hb.sem s1 th1 G1 σ H1 Q R1 P1)
      | false => exact iteF (Post.ok (rel := relE X.K) P1 R1 rfl)
    | _ => exact P1.elim)⟩
theorem ve_or (ha : VE X B W a ta ma) (hb : VE X B W (.BoolOp .Or (b :: rest) pos) tb mb) : VE X B W (.BoolOp .Or (a :: b :: rest) pos) (tOrV ta tb) (eOrV ma mb) :=
  ⟨pe_or ha.pe hb.pe, fun s th G σ H Q R P => ha.sem s th G σ H _ R (P.bind fun x s1 th1 G1 H1 v l R1 r P1 => by
    cases x with
    | bl k =>
      cases r
      refine ⟨k, rfl, ?_⟩
      cases k with
      | true => exact iteT (Post.ok (rel := relE X.K) P1 R1 rfl)
      | false => exact iteF (hb.sem s1 th1 G1 σ H1 Q R1 P1)
    | _ => exact P1.elim)⟩
theorem ve_not (ha : VE X B W a ta ma) : VE X B W (.UnaryOp .Not a pos) (tNotV ta) (eNotV ma) :=
  ⟨pe_not ha.pe, fun s th G σ H Q R P => ha.sem s th G σ H _ R (P.bind fun x s1 th1 G1 H1 v l R1 r P1 => by
    cases x with
    | bl k => cases r; exact ⟨k, rfl, Post.ok (rel := relE X.K) P1 R1 rfl⟩
    | _ => exact P1.elim)⟩
end
end VL
namespace VL
open PySem L2

/-! ### dicts as lists of pairs -/
def valD {A : Type} (l : List (Key × A)) (k : Key) : Option A := (l.find? fun kv => decide (kv.1 = k)).map (·.2)
def putD {A : Type} (l : List (Key × A)) (k : Key) (d : A) : List (Key × A) :=
  if (l.any fun kv => decide (kv.1 = k)) = true then l.map (fun kv => if kv.1 = k then (kv.1, d) else kv) else l ++ [(k, d)]
def dropD {A : Type} (l : List (Key × A)) (k : Key) : List (Key × A) := l.filter fun kv => decide (kv.1 ≠ k)
/-- a dict's pairs stand for data -/
def AtK (K : PySem.W.Frag) (th : List Addr) (G : Hp) (l : List (Key × D)) (kvs : List (Key × V)) : Prop := kvs.map (·.1) = l.map (·.1) ∧ AtL K th G (l.map (·.2)) (kvs.map (·.2))
section
variable {K : PySem.W.Frag} {B : Bs} {th th' : List Addr} {G G' H : Hp} {s : S} {σ : St}
theorem AtK.nil : AtK K th G [] [] := ⟨rfl, rfl⟩
theorem AtK.cons {k : Key} {d : D} {v : V} {l : List (Key × D)} {kvs : List (Key × V)} (h : At K th G d v) (t : AtK K th G l kvs) : AtK K th G ((k, d) :: l) ((k, v) :: kvs) := ⟨by simp [t.1], .cons h t.2⟩
theorem AtK.uncons {p : Key × D} {l : List (Key × D)} {kvs : List (Key × V)} (h : AtK K th G (p :: l) kvs) : ∃ v r, kvs = (p.1, v) :: r ∧ At K th G p.2 v ∧ AtK K th G l r := by
  obtain ⟨h1, h2⟩ := h
  cases kvs with
  | nil => simp at h1
  | cons q r =>
    obtain ⟨a, b⟩ := q
    simp only [List.map_cons, List.cons.injEq] at h1
    obtain ⟨v, z, e, q1, q2⟩ := h2
    simp only [List.map_cons, List.cons.injEq] at e
    obtain ⟨rfl, rfl⟩ := e
    exact ⟨b, r, by rw [h1.1], q1, h1.2, q2⟩
theorem AtK.unnil {kvs : List (Key × V)} (h : AtK K th G [] kvs) : kvs = [] := by
  have := h.1
  simpa using this
theorem AtK.mono {l : List (Key × D)} {kvs : List (Key × V)} (ht : th <+: th') (e : Sub G G') (h : AtK K th G l kvs) : AtK K th' G' l kvs := ⟨h.1, h.2.mono ht e⟩
theorem AtK.length {l : List (Key × D)} {kvs : List (Key × V)} (h : AtK K th G l kvs) : kvs.length = l.length := by
  have := congrArg List.length h.1
  simpa using this
theorem AtK.val : ∀ {l : List (Key × D)} {kvs : List (Key × V)} (k : Key), AtK K th G l kvs → (match valD l k with
    | some d => ∃ v, valV kvs k = some v ∧ At K th G d v
    | none => valV kvs k = none)
  | [], kvs, k, h => by rw [h.unnil]; rfl
  | p :: l, kvs, k, h => by
    obtain ⟨v, r, rfl, h1, h2⟩ := h.uncons
    by_cases e : p.1 = k
    · have q : valD (p :: l) k = some p.2 := by simp [valD, List.find?_cons, e]
      rw [q]
      exact ⟨v, valV_pos e, h1⟩
    · have q : valD (p :: l) k = valD l k := by simp [valD, List.find?_cons, e]
      rw [q]
      have ih := AtK.val (l := l) (kvs := r) k h2
      rw [valV_neg (p := (p.1, v)) e]
      exact ih
theorem AtK.any {l : List (Key × D)} {kvs : List (Key × V)} (k : Key) (h : AtK K th G l kvs) : (kvs.any fun kv => decide (kv.1 = k)) = (l.any fun kv => decide (kv.1 = k)) := by
  have e1 : (kvs.any fun kv => decide (kv.1 = k)) = ((kvs.map (·.1)).any fun j => decide (j = k)) := by rw [List.any_map]; rfl
  have e2 : (l.any fun kv => decide (kv.1 = k)) = ((l.map (·.1)).any fun j => decide (j = k)) := by rw [List.any_map]; rfl
  rw [e1, e2, h.1]
theorem AtK.map1 {k : Key} {d : D} {v : V} (hd : At K th G d v) : ∀ {l : List (Key × D)} {kvs : List (Key × V)}, AtK K th G l kvs → AtK K th G (l.map fun kv => if kv.1 = k then (kv.1, d) else kv) (kvs.map fun kv => if kv.1 = k then (kv.1, v) else kv)
  | [], kvs, h => by rw [h.unnil]; exact .nil
  | p :: l, kvs, h => by
    obtain ⟨v', r, rfl, h1, h2⟩ := h.uncons
    have ih := AtK.map1 (k := k) hd h2
    obtain ⟨p1, p2⟩ := p
    simp only [List.map_cons]
    by_cases e : p1 = k
    · simp only [e, if_true]; exact .cons hd ih
    · simp only [e, if_false]; exact .cons h1 ih
theorem AtK.append {l m : List (Key × D)} {kvs ws : List (Key × V)} (h : AtK K th G l kvs) (h2 : AtK K th G m ws) : AtK K th G (l ++ m) (kvs ++ ws) := ⟨by simp [h.1, h2.1], by simpa using h.2.append h2.2⟩
theorem AtK.put {l : List (Key × D)} {kvs : List (Key × V)} {k : Key} {d : D} {v : V} (h : AtK K th G l kvs) (hd : At K th G d v) : AtK K th G (putD l k d) (putK kvs k v) := by
  unfold putD putK
  rw [h.any k]
  split
  · exact h.map1 hd
  · exact h.append (.cons hd .nil)
theorem AtK.drop {k : Key} : ∀ {l : List (Key × D)} {kvs : List (Key × V)}, AtK K th G l kvs → AtK K th G (dropD l k) (dropK kvs k)
  | [], kvs, h => by rw [h.unnil]; exact .nil
  | p :: l, kvs, h => by
    obtain ⟨v', r, rfl, h1, h2⟩ := h.uncons
    have ih := AtK.drop (k := k) h2
    obtain ⟨p1, p2⟩ := p
    unfold dropD dropK at ih ⊢
    by_cases e : p1 = k
    · rw [List.filter_cons_of_neg (by simp [e]), List.filter_cons_of_neg (by simp [e])]; exact ih
    · rw [List.filter_cons_of_pos (by simp [e]), List.filter_cons_of_pos (by simp [e])]; exact .cons h1 ih
theorem AtK.iff_dct {ks : List Key} {l : List D} {kvs : List (Key × V)} (h1 : kvs.map (·.1) = ks) (h2 : AtL K th G l (kvs.map (·.2))) : AtK K th G (ks.zip l) kvs := by
  have hl : ks.length = l.length := by
    have a := h2.length
    have b := congrArg List.length h1
    simp at a b
    omega
  refine ⟨?_, ?_⟩
  · rw [List.map_fst_zip (by omega)]; exact h1
  · rw [List.map_snd_zip (by omega)]; exact h2

/-- a dict's pairs: data or an own place -/
def dctOf (s : S) : D → Option (List (Key × D))
  | .dct ks l => some (ks.zip l)
  | .loc n => match s.m[n]? with
    | some (.dct l) => some l
    | _ => none
  | _ => none
theorem Rep.dct_of (R : Rep K B th G s σ H) {d : D} {v : V} {l : List (Key × D)} (h : At K th G d v) (e : dctOf s d = some l) : ∃ a kvs, v = .ref a ∧ Rd H a (.dK kvs) ∧ AtK K th G l kvs := by
  cases d with
  | dct ks m =>
    simp only [dctOf] at e; cases e
    obtain ⟨a, kvs, e1, q, z, r⟩ := h
    exact ⟨a, kvs, e1, R.eG.rdK q, .iff_dct z r⟩
  | loc n =>
    simp only [dctOf] at e
    obtain ⟨a, ha, e1⟩ := h
    cases hm : s.m[n]? with
    | none => rw [hm] at e; cases e
    | some ob =>
      rw [hm] at e
      cases ob with
      | dct m =>
        cases e
        obtain ⟨g, kvs, q, z, r⟩ := R.st n _ a hm ha
        exact ⟨a, kvs, e1, .inl q, z, r⟩
      | _ => cases e
  | _ => simp [dctOf] at e
def keyOf : D → Option Key
  | .int i => some (.inl i)
  | .str x => some (.inr ⟨x.toArray⟩)
  | _ => none
theorem key_at {d : D} {v : V} {k : Key} (h : At K th G d v) (e : keyOf d = some k) : v = kV k := by
  cases d <;> first
    | (simp [keyOf] at e; done)
    | (simp only [keyOf, Option.some.injEq] at e; subst e; cases h; rfl)
end

section
variable {X : Cx} {B : Bs} {W : WX} {e a b c : Expr} {te ta tb tc : TE} {m ma mb mc : ME} {pos : Pos} {th : List Addr} {G H : Hp} {s : S} {σ : St}
/-! ### argument lists, displays -/
def aNil : MA := fun s => .ok ([], s)
def aCons (a : ME) (r : MA) : MA := fun s => (a s).bind fun x s => (r s).bind fun l s => .ok (x :: l, s)
variable {es : List Expr} {tr : TA} {mr : MA}
theorem va_nil : VA X B W [] tNil aNil := ⟨pa_nil, fun s th G σ H Q R P => Post.ok (rel := relA X.K) P R rfl⟩
theorem va_cons (ha : VE X B W a ta ma) (hr : VA X B W es tr mr) (hs : starEach (a :: es) X.env = (false, eval a X.env) :: starEach es X.env := by rfl) : VA X B W (a :: es) (tCons ta tr) (aCons ma mr) :=
  ⟨pa_cons ha.pe hr.pa hs, fun s th G σ H Q R P => ha.sem s th G σ H _ R (P.bind fun x s1 th1 G1 H1 v l1 R1 r1 P1 => hr.sem s1 th1 G1 σ H1 _ R1 (P1.bind fun l s2 th2 G2 H2 vs l2 R2 r2 P2 =>
    Post.ok (rel := relA X.K) P2 R2 (.cons (At.mono l2.pre l2.ex r1) r2)))⟩
def eTup (r : MA) : ME := fun s => (r s).bind fun l s => if l.length ≤ SZ then .ok (.tup l, s) else .no
theorem ve_tup {x1} (hr : VA X B W es tr mr) : VE X B W (.Tuple es x1 pos) (tTup tr) (eTup mr) :=
  ⟨pe_tup hr.pa, fun s th G σ H Q R P => hr.sem s th G σ H _ R (P.bind fun l s1 th1 G1 H1 vs l1 R1 r1 P1 => by
    split at P1
    · rename_i hz
      exact ⟨by rw [r1.length, SZ_eq]; exact hz, fun p hp => post_tup R1 P1 r1 hp⟩
    · exact P1.elim)⟩
def fLst (r : MA) : MF := fun s => (r s).bind fun l s => if l.length ≤ SZ then .ok (.lst l, s) else .no
theorem vf_lst (hr : VA X B W es tr mr) : VF X B W (.List es pos) (tLst tr) (fLst mr) :=
  ⟨pe_lst hr.pa, fun s th G σ H Q R P => hr.sem s th G σ H _ R (P.bind fun l s1 th1 G1 H1 vs l1 R1 r1 P1 => by
    split at P1
    · rename_i hz
      exact ⟨by rw [r1.length, SZ_eq]; exact hz, fun p hp => post_f R1 P1 r1 hp⟩
    · exact P1.elim)⟩
/-- a fresh thing, as data -/
def eFrz (m : MF) : ME := fun s => (m s).bind fun o s => match o with
  | .lst l => .ok (.lst l, s)
  | .dct l => .ok (.dct (l.map (·.1)) (l.map (·.2)), s)
  | _ => .no
/-- a fresh thing, as an own place -/
def eOwn (m : MF) : ME := fun s => (m s).bind fun o s => .ok (.loc s.m.length, { s with m := s.m ++ [o] })
theorem Le.takeNew {th th1 : List Addr} {G G1 H H1 : Hp} (l : Le th G H th1 G1 H1) {p : Addr} {o : HO} (hp : H p = none) (hg : G1 p = none) : Le th G H th1 (upd G1 p o) H1 :=
  ⟨l.pre, l.ex.trans (Sub.new hg), fun a u ha g n => by
    obtain ⟨h1, h2, h3⟩ := l.fr a u ha g n
    exact ⟨h1, by rw [upd_ne (ne_none (some_ne ha) hp)]; exact h2, h3⟩⟩
theorem Le.ownNew {th th1 : List Addr} {G G1 H H1 : Hp} (l : Le th G H th1 G1 H1) {p : Addr} (hp : H p = none) : Le th G H (th1 ++ [p]) G1 H1 :=
  ⟨l.pre.trans (List.prefix_append _ _), l.ex, fun a u ha g n => by
    obtain ⟨h1, h2, h3⟩ := l.fr a u ha g n
    refine ⟨h1, h2, fun z => ?_⟩
    rcases List.mem_append.mp z with z | z
    · exact h3 z
    · exact ne_none (some_ne ha) hp (by simpa using z)⟩
theorem obAt_some {K : PySem.W.Frag} {p : Addr} {ob : Ob} (h : ObAt K th G H p ob) (hd : ob ≠ .dead) : H p ≠ none := by
  cases ob with
  | lst l => obtain ⟨_, _, e, _⟩ := h; exact some_ne e
  | dct l => obtain ⟨_, _, e, _⟩ := h; exact some_ne e
  | ins C l => obtain ⟨_, _, _, e, _⟩ := h; exact some_ne e
  | dead => exact absurd rfl hd
theorem ve_frz {mf : MF} (h : VF X B W a ta mf) : VE X B W a ta (eFrz mf) :=
  ⟨h.pe, fun s th G σ H Q R P => h.sem s th G σ H _ R (P.bind0 fun o s1 th1 G1 H1 v l1 R1 r1 P1 => by
    obtain ⟨p, rfl, hd, ho, hn, hp⟩ := r1
    cases o with
    | lst l =>
      obtain ⟨g, vs, q, r⟩ := ho
      exact P1 th1 _ H1 (.ref p) (l1.takeNew hp g) (R1.take q g hn) ⟨p, vs, rfl, upd_same, r.mono List.prefix_rfl (Sub.new g)⟩
    | dct l =>
      obtain ⟨g, vs, q, z, r⟩ := ho
      exact P1 th1 _ H1 (.ref p) (l1.takeNew hp g) (R1.take q g hn) ⟨p, vs, rfl, .inl upd_same, z, r.mono List.prefix_rfl (Sub.new g)⟩
    | _ => exact P1.elim)⟩
theorem ve_own {mf : MF} (h : VF X B W a ta mf) : VE X B W a ta (eOwn mf) :=
  ⟨h.pe, fun s th G σ H Q R P => h.sem s th G σ H _ R (P.bind0 fun o s1 th1 G1 H1 v l1 R1 r1 P1 => by
    obtain ⟨p, rfl, hd, ho, hn, hp⟩ := r1
    refine P1 (th1 ++ [p]) G1 H1 (.ref p) (l1.ownNew hp) (R1.own (obAt_some ho hd) hn (ho.mono (List.prefix_append _ _) (Sub.refl _) (fun _ g => g) (fun _ _ h => h))) ⟨p, ?_, rfl⟩
    rw [← R1.tl, List.getElem?_append_right (Nat.le_refl _)]
    simp)⟩
/-- an own list in slot i, as data from now on -/
def eTake (i : Nat) : ME := fun s => match s.r[i]? with
  | some (some (.loc n)) => match s.m[n]? with
    | some (.lst l) => .ok (.lst l, { r := s.r.set i (some (.lst l)), m := s.m.set n .dead })
    | some (.dct l) => .ok (.dct (l.map (·.1)) (l.map (·.2)), { r := s.r.set i (some (.dct (l.map (·.1)) (l.map (·.2)))), m := s.m.set n .dead })
    | _ => .no
  | some (some d) => .ok (d, s)
  | _ => .no
theorem ve_take {x : Str} (i : Nat) (hN : X.N[i]? = some x := by rfl) (hv : Vis X.env.scope x := by first | exact Or.inl rfl | exact Or.inr (Or.inl rfl) | exact Or.inr (Or.inr rfl)) (hd : (x == ("__debug__" : Str)) = false := by decide)
    (hcd : (x == ("__classdict__" : Str)) = false := by decide) : VE X B W (.Name x pos) (tVar i) (eTake i) := by
  refine ⟨pv i hN hv hd hcd, fun s th G σ H Q R P => ?_⟩
  unfold eTake at P
  cases h : s.r[i]? with
  | none => rw [h] at P; exact P.elim
  | some o =>
    cases o with
    | none => rw [h] at P; exact P.elim
    | some d =>
      rw [h] at P
      obtain ⟨v, h1, h2⟩ := R.slot i d h
      refine ⟨v, h1, ?_⟩
      by_cases hl : ∃ n, d = .loc n
      · obtain ⟨n, rfl⟩ := hl
        obtain ⟨ad, ha, rfl⟩ := h2
        have hset : σ.set i (some (.ref ad)) = σ := by
          obtain ⟨hi, hx⟩ := List.getElem?_eq_some_iff.mp h1
          rw [← hx]; exact List.set_getElem_self hi
        dsimp only at P
        cases hm : s.m[n]? with
        | none => rw [hm] at P; exact P.elim
        | some ob =>
          rw [hm] at P
          cases ob with
          | lst l =>
            obtain ⟨g, vs, q, r⟩ := R.st n _ ad hm ha
            have R2 := R.still ha q g
            have at2 : At X.K th (upd G ad (.lst vs)) (.lst l) (.ref ad) := ⟨ad, vs, rfl, upd_same, r.mono List.prefix_rfl (Sub.new g)⟩
            have R3 := R2.sets (i := i) at2
            rw [hset] at R3
            exact P th _ H (.ref ad) (Le.still ha g) R3 at2
          | dct l =>
            obtain ⟨g, vs, q, z, r⟩ := R.st n _ ad hm ha
            have R2 := R.still ha q g
            have at2 : At X.K th (upd G ad (.dK vs)) (.dct (l.map (·.1)) (l.map (·.2))) (.ref ad) := ⟨ad, vs, rfl, .inl upd_same, z, r.mono List.prefix_rfl (Sub.new g)⟩
            have R3 := R2.sets (i := i) at2
            rw [hset] at R3
            exact P th _ H (.ref ad) (Le.still ha g) R3 at2
          | _ => exact P.elim
      · have P2 : Post X.K B W σ th G H (relE X.K) (.ok (d, s)) Q := by
          cases d <;> first
            | exact P
            | exact absurd ⟨_, rfl⟩ hl
        exact Post.ok (rel := relE X.K) P2 R h2

/-! ### subscripts -/
def fIx : D → D → S → R (D × S)
  | .str z, .int i, s => if z.length ≤ SZ then match L2.atI z i with
      | some ch => .ok (.str [ch], s)
      | none => .no
    else .no
  | x, k, s => match seqOf s x, k with
    | some l, .int i => match L2.atI l i with
      | some d => .ok (d, s)
      | none => .no
    | _, _ => match dctOf s x, keyOf k with
      | some l, some k => match valD l k with
        | some d => .ok (d, s)
        | none => .no
      | _, _ => .no
def tIx (K : PySem.W.Frag) (ta tb : TE) : TE := fun σ H Q => tOp (rIx K) ta tb σ H Q ∨ tDGet ta tb σ H Q
/-- the place of an item by values, in a sequence or in a dict -/
theorem fix_cases {s : S} {x k : D} {r : D × S} (h : fIx x k s = .ok r) : r.2 = s ∧ ((∃ z i ch, x = .str z ∧ k = .int i ∧ z.length ≤ SZ ∧ L2.atI z i = some ch ∧ r.1 = .str [ch]) ∨ (∃ l i, seqOf s x = some l ∧ k = .int i ∧ L2.atI l i = some r.1) ∨
    ∃ l kk, dctOf s x = some l ∧ keyOf k = some kk ∧ valD l kk = some r.1) := by
  by_cases hs : ∃ z i, x = .str z ∧ k = .int i
  · obtain ⟨z, i, rfl, rfl⟩ := hs
    simp only [fIx] at h
    split at h
    · split at h
      · rename_i hz _ ch hc
        cases h
        exact ⟨rfl, .inl ⟨z, i, ch, rfl, rfl, hz, hc, rfl⟩⟩
      · cases h
    · cases h
  · have h' : (match seqOf s x, k with
      | some l, .int i => match L2.atI l i with
        | some d => (.ok (d, s) : R (D × S))
        | none => .no
      | _, _ => match dctOf s x, keyOf k with
        | some l, some k => match valD l k with
          | some d => .ok (d, s)
          | none => .no
        | _, _ => .no) = .ok r := by
      cases x <;> cases k <;> first
        | exact h
        | exact absurd ⟨_, _, rfl, rfl⟩ hs
    split at h'
    · split at h'
      · rename_i l i e1 _ d hd
        cases h'
        exact ⟨rfl, .inr (.inl ⟨l, i, e1, rfl, hd⟩)⟩
      · cases h'
    · split at h'
      · split at h'
        · rename_i l kk e1 e2 _ d hd
          cases h'
          exact ⟨rfl, .inr (.inr ⟨l, kk, e1, e2, hd⟩)⟩
        · cases h'
      · cases h'
theorem fix_noex {s s' : S} {x k : D} {ex : Exn} : fIx x k s ≠ .ex ex s' := fun h => by
  by_cases hs : ∃ z i, x = .str z ∧ k = .int i
  · obtain ⟨z, i, rfl, rfl⟩ := hs
    simp only [fIx] at h
    split at h
    · split at h <;> cases h
    · cases h
  · have h' : (match seqOf s x, k with
      | some l, .int i => match L2.atI l i with
        | some d => (.ok (d, s) : R (D × S))
        | none => .no
      | _, _ => match dctOf s x, keyOf k with
        | some l, some k => match valD l k with
          | some d => .ok (d, s)
          | none => .no
        | _, _ => .no) = .ex ex s' := by
      cases x <;> cases k <;> first
        | exact h
        | exact absurd ⟨_, _, rfl, rfl⟩ hs
    split at h'
    · split at h' <;> cases h'
    · split at h'
      · split at h' <;> cases h'
      · cases h'
def rDGet : R2 := fun x y H Q => ∃ a v, x = .ref a ∧ DGet H a y (some v) ∧ Q v H
theorem ix_dict (hu : X.A.units + 1 < cLine) : IxR X rDGet := by
  intro value slice pins s σ H x y v u Q I rx ry h hs
  obtain ⟨ad, z, rfl, g, q⟩ := h
  cases rx
  exact PyProof.Rows.tail_any (dict_typeIs I g) PySem.F.slot_dict_getitem.lookup (d_getItem hu I g ry fun w' s3 I3 rw' => ⟨z, H, I3, rw', q⟩) hs
def rIxA (K : PySem.W.Frag) : R2 := fun x y H Q => rIx K x y H Q ∨ rDGet x y H Q
theorem semR_ix {K : PySem.W.Frag} : SemR K B W (rIxA K) fIx := fun s th G σ H Q x y vx vy R rx ry P => by
  cases e : fIx x y s with
  | no => rw [e] at P; exact P.elim
  | ex en s' => exact absurd e fix_noex
  | ok r =>
    obtain ⟨d, s'⟩ := r
    obtain ⟨e1, h⟩ := fix_cases e
    simp only at e1; subst e1
    rw [e] at P
    rcases h with ⟨z, i, ch, rfl, rfl, hz, hc, e2⟩ | ⟨l, i, hl, rfl, hd⟩ | ⟨l, kk, hl, hk, hd⟩
    · simp only at e2; subst e2
      cases rx; cases ry
      exact .inl (.inr (.inr ⟨_, i, ch, rfl, rfl, by rw [str_len, SZ_eq]; exact hz, hc, Post.ok (rel := relE K) P R rfl⟩))
    · cases ry
      obtain ⟨ad, vs, rfl, q, r⟩ := R.seq_of rx hl
      obtain ⟨v, h1, h2⟩ := r.atI hd
      rcases q with q | q
      · exact .inl (.inl ⟨ad, vs, i, v, rfl, rfl, q, h1, Post.ok (rel := relE K) P R h2⟩)
      · exact .inl (.inr (.inl ⟨ad, vs, i, v, rfl, rfl, q, h1, Post.ok (rel := relE K) P R h2⟩))
    · obtain ⟨ad, kvs, rfl, q, r⟩ := R.dct_of rx hl
      have hv := r.val kk
      rw [hd] at hv
      obtain ⟨v, h1, h2⟩ := hv
      have ek := key_at ry hk
      subst ek
      exact .inr ⟨ad, v, rfl, .inl ⟨kvs, kk, q, rfl, h1.symm⟩, Post.ok (rel := relE K) P R h2⟩
theorem ve_ix (hu : X.A.units + 1 < cLine) (ha : VE X B W a ta ma) (hb : VE X B W b tb mb) (hs : PlainIx b := by exact fun _ _ => rfl) : VE X B W (.Subscript a b pos) (tOp (rIxA X.K) ta tb) (eOp fIx ma mb) :=
  ⟨pe_ix (ix_seq.or (ix_dict hu)) ha.pe hb.pe hs, sem_op semR_ix ha.sem hb.sem⟩

/-! ### slices -/
def cut {α : Type} (l : List α) (lo hi : Option Int) : List α := (l.drop (HT.sIx l.length 0 lo)).take (HT.sIx l.length l.length hi - HT.sIx l.length 0 lo)
def oNone : S → R (Option Int × S) := fun s => .ok (none, s)
def oSome (m : ME) : S → R (Option Int × S) := fun s => (m s).bind fun d s => match d with
  | .int i => .ok (some i, s)
  | _ => .no
theorem vo_none : VO X B W none tNoPart oNone := ⟨po_none, fun s th G σ H Q R P => Post.ok (rel := relO) P R rfl⟩
theorem vo_some (ha : VE X B W a ta ma) : VO X B W (some a) (tPart ta) (oSome ma) :=
  ⟨po_some ha.pe, fun s th G σ H Q R P => ha.sem s th G σ H _ R (P.bind fun d s1 th1 G1 H1 v l R1 r P1 => by
    cases d with
    | int i => cases r; exact ⟨i, rfl, Post.ok (rel := relO) P1 R1 rfl⟩
    | _ => exact P1.elim)⟩
def fCut (x : D) (lo hi : Option Int) (s : S) : R (D × S) := match x with
  | .str z => if z.length ≤ SZ then .ok (.str (cut z lo hi), s) else .no
  | .tup l => .ok (.tup (cut l lo hi), s)
  | x => match lstOf s x with
    | some l => .ok (.lst (cut l lo hi), s)
    | none => .no
def eCut (a : ME) (lo hi : S → R (Option Int × S)) : ME := fun s => (a s).bind fun x s => (lo s).bind fun i s => (hi s).bind fun j s => fCut x i j s
def rCut (K : PySem.W.Frag) : V → Option Int → Option Int → Hp → VK → Prop := fun x lo hi H Q => rSlS x lo hi H Q ∨ (rSlA K x lo hi H Q ∨ rSlL K x lo hi H Q)
theorem AtL.cut {K : PySem.W.Frag} {l : List D} {vs : List V} (lo hi : Option Int) (h : AtL K th G l vs) : AtL K th G (VL.cut l lo hi) (cutV vs lo hi) := by
  unfold VL.cut cutV
  rw [h.length]
  exact (h.drop _).take _
theorem cutS_sv (z : List Nat) (lo hi : Option Int) : cutS ⟨z.toArray⟩ lo hi = ⟨(cut z lo hi).toArray⟩ := by
  unfold cutS cut
  rw [str_len]
theorem sem_cut {K : PySem.W.Frag} {Q : VK} {x : D} {vx : V} {lo hi : Option Int} (R : Rep K B th G s σ H) (rx : At K th G x vx) (P : Post K B W σ th G H (relE K) (fCut x lo hi s) Q) : rCut K vx lo hi H Q := by
  have key : (∀ z, x ≠ .str z) → (∀ l, x ≠ .tup l) → Post K B W σ th G H (relE K) (match lstOf s x with
    | some l => .ok (.lst (cut l lo hi), s)
    | none => .no) Q → rCut K vx lo hi H Q := fun _ _ P => by
    cases e : lstOf s x with
    | none => rw [e] at P; exact P.elim
    | some l =>
      rw [e] at P
      obtain ⟨ad, vs, rfl, q, r⟩ := R.lst_of rx e
      exact .inr (.inr ⟨ad, vs, rfl, SqL.of q, fun p hp => post_lst R P (r.cut lo hi) hp⟩)
  cases x with
  | str z =>
    cases rx
    simp only [fCut] at P
    split at P
    · rename_i hz
      exact .inl ⟨_, rfl, by rw [str_len, SZ_eq]; exact hz, by rw [cutS_sv]; exact Post.ok (rel := relE K) P R rfl⟩
    · exact P.elim
  | tup l =>
    obtain ⟨ad, vs, rfl, q, r⟩ := rx
    simp only [fCut] at P
    refine .inr (.inl ⟨ad, vs, rfl, R.eG.sqT q, fun hw => ?_, fun hw p hp => post_tup R P (r.cut lo hi) hp⟩)
    have e : cut l lo hi = l := by
      rw [r.length] at hw
      unfold cut
      rw [hw.1, hw.2, List.drop_zero, Nat.sub_zero, List.take_length]
    rw [e] at P
    exact Post.ok (rel := relE K) P R ⟨ad, vs, rfl, q, r⟩
  | _ => exact key (fun _ z => nomatch z) (fun _ z => nomatch z) P
theorem ve_cut {lo hi : Option Expr} {tl th' : TO} {ml mh : S → R (Option Int × S)} {p2 : Pos} (ha : VE X B W a ta ma) (hl : VO X B W lo tl ml) (hh : VO X B W hi th' mh) : VE X B W (.Subscript a (.Slice lo hi none p2) pos) (tSl (rCut X.K) ta tl th') (eCut ma ml mh) :=
  ⟨pe_slice (sl_str.or (sl_tupA.or sl_list)) ha.pe hl.po hh.po, fun s th G σ H Q R P => ha.sem s th G σ H _ R (P.bind fun x s1 th1 G1 H1 vx l1 R1 r1 P1 => hl.sem s1 th1 G1 σ H1 _ R1 (P1.bind fun i s2 th2 G2 H2 vi l2 R2 r2 P2 => hh.sem s2 th2 G2 σ H2 _ R2 (P2.bind fun j s3 th3 G3 H3 vj l3 R3 r3 P3 => by
    cases r2; cases r3
    exact sem_cut R3 (At.mono (l2.trans l3).pre (l2.trans l3).ex r1) P3)))⟩

end
end VL
namespace VL
open PySem L2

/-! ### in, not in -/
def flatD : D → Bool
  | .non => true
  | .bl _ => true
  | .int _ => true
  | .str _ => true
  | _ => false
def qIn (y x : D) (s : S) : Option Bool := match y, x with
  | .str c, .str z => match c with
    | [c] => some (decide (c ∈ z))
    | _ => none
  | _, _ => match seqOf s x with
    | some l => if flatD y && l.all flatD then some (l.any fun z => eqD z y) else match lstOf s x with
      | some l => if okD 64 y && okDs 63 l then some (l.any fun z => eqD z y) else none
      | none => none
    | none => match dctOf s x, keyOf y with
      | some l, some k => some (valD l k).isSome
      | _, _ => none
def fIn : D → D → S → R (D × S) := fun y x s => match qIn y x s with
  | some b => .ok (.bl b, s)
  | none => .no
def fNotIn : D → D → S → R (D × S) := fun y x s => match qIn y x s with
  | some b => .ok (.bl (!b), s)
  | none => .no
section
variable {K : PySem.W.Frag} {B : Bs} {th : List Addr} {G H : Hp} {s : S} {σ : St}
theorem flat_at {d : D} {v : V} (h : At K th G d v) (f : flatD d = true) : flatV v = true := by
  cases d <;> first
    | (cases h; rfl)
    | (simp [flatD] at f)
theorem flat_eqV {x y : D} {v w : V} (hx : At K th G x v) (hy : At K th G y w) (fx : flatD x = true) (fy : flatD y = true) : eqV v w = eqD x y := by
  cases x <;> cases y <;> first
    | (simp [flatD] at fx; done)
    | (simp [flatD] at fy; done)
    | (cases hx; cases hy; rfl)
    | (cases hx; cases hy; simp only [eqV, eqD]; exact str_beq _ _)
    | (cases hx; cases hy; simp only [eqV, eqD]; exact Int.beq_eq_decide _ _)
theorem flat_all : ∀ {l : List D} {vs : List V}, AtL K th G l vs → l.all flatD = true → vs.all flatV = true
  | [], _, h, _ => by cases h; rfl
  | d :: l, _, h, f => by
    obtain ⟨v, r, rfl, q, z⟩ := h
    simp only [List.all_cons, Bool.and_eq_true] at f ⊢
    exact ⟨flat_at q f.1, flat_all z f.2⟩
theorem flat_inV {y : D} {w : V} (hy : At K th G y w) (fy : flatD y = true) : ∀ {l : List D} {vs : List V}, AtL K th G l vs → l.all flatD = true → inV w vs = l.any fun z => eqD z y
  | [], _, h, _ => by cases h; rfl
  | d :: l, _, h, f => by
    obtain ⟨v, r, rfl, q, z⟩ := h
    simp only [List.all_cons, Bool.and_eq_true] at f
    have ih := flat_inV hy fy z f.2
    unfold inV at ih ⊢
    rw [List.any_cons, List.any_cons, ih, flat_eqV q hy f.1 fy]
theorem any_P {y : D} {m : Nat} (hy : okD m y = true) : ∀ {l : List D} {n : Nat}, okDs n l = true → ((toPs l).any fun z => PyData.eqv z (toP y)) = l.any fun z => eqD z y
  | [], _, _ => rfl
  | d :: l, n, h => by
    simp only [okDs, Bool.and_eq_true] at h
    rw [toPs, List.any_cons, List.any_cons, any_P hy h.2, eqv_D d y n m h.1 hy]
end
def rInA (K : PySem.W.Frag) (neg : Bool) : R2 := fun x y H Q => (∃ (c : Nat) (z : Str), x = .str ⟨#[c]⟩ ∧ y = .str z ∧ Q (.bl (if neg then !decide (c ∈ z.cps.toList) else decide (c ∈ z.cps.toList))) H) ∨
  (rIn K neg x y H Q ∨ ((∃ d ds, Dp K H x d ∧ Dp K H y (.list ds) ∧ SeqAt.shaped d = true ∧ SeqAt.shaped (.list ds) = true ∧ Q (.bl (if neg then !(ds.any fun z => PyData.eqv z d) else ds.any fun z => PyData.eqv z d)) H) ∨
    ∃ a o, y = .ref a ∧ DGet H a x o ∧ Q (.bl (if neg then !o.isSome else o.isSome)) H))
section
variable {X : Cx} {B : Bs} {W : WX} {e a b c : Expr} {te ta tb tc : TE} {m ma mb mc : ME} {pos : Pos} {th : List Addr} {G H : Hp} {s : S} {σ : St}
theorem op_in_dct (hu : X.A.units + 1 < cLine) : OpR X (compareOp .In) (fun x y H Q => ∃ a o, y = .ref a ∧ DGet H a x o ∧ Q (.bl o.isSome) H) := by
  intro pins s σ H x y v u Q I rx ry h
  obtain ⟨a, o, rfl, g, q⟩ := h
  cases ry
  exact d_in hu I g rx fun s3 I3 => ⟨.bl o.isSome, H, I3, rfl, q⟩
theorem op_notin_dct (hu : X.A.units + 1 < cLine) : OpR X (compareOp .NotIn) (fun x y H Q => ∃ a o, y = .ref a ∧ DGet H a x o ∧ Q (.bl (!o.isSome)) H) := by
  intro pins s σ H x y v u Q I rx ry h
  obtain ⟨a, o, rfl, g, q⟩ := h
  cases ry
  exact d_notIn hu I g rx fun s3 I3 => ⟨.bl (!o.isSome), H, I3, rfl, q⟩
theorem op_inA (hu : X.A.units + 65 < cLine) : OpR X (compareOp .In) (rInA X.K false) := op_in_sign.or (op_in_seq.or ((op_inD hu).or (op_in_dct (by omega))))
theorem op_notInA (hu : X.A.units + 65 < cLine) : OpR X (compareOp .NotIn) (rInA X.K true) := op_notIn_sign.or (op_notIn_seq.or ((op_notInD hu).or (op_notin_dct (by omega))))
theorem sem_in {K : PySem.W.Frag} {neg : Bool} {x y : D} {vx vy : V} {Q : VK} {k : Bool} (R : Rep K B th G s σ H) (rx : At K th G x vx) (ry : At K th G y vy) (e : qIn x y s = some k) (q : Q (.bl (if neg then !k else k)) H) : rInA K neg vx vy H Q := by
  by_cases hs : ∃ c z, x = .str c ∧ y = .str z
  · obtain ⟨c, z, rfl, rfl⟩ := hs
    simp only [qIn] at e
    split at e
    · rename_i c
      cases e
      cases rx; cases ry
      exact .inl ⟨c, _, rfl, rfl, q⟩
    · cases e
  have e' : (match seqOf s y with
    | some l => if flatD x && l.all flatD then some (l.any fun z => eqD z x) else match lstOf s y with
      | some l => if okD 64 x && okDs 63 l then some (l.any fun z => eqD z x) else none
      | none => none
    | none => match dctOf s y, keyOf x with
      | some l, some k => some (valD l k).isSome
      | _, _ => none) = some k := by
    cases x <;> cases y <;> first
      | exact e
      | exact absurd ⟨_, _, rfl, rfl⟩ hs
  cases h1 : seqOf s y with
  | some l =>
    rw [h1] at e'
    simp only at e'
    split at e'
    · rename_i hf
      simp only [Bool.and_eq_true] at hf
      cases e'
      obtain ⟨p, vs, rfl, hq, r⟩ := R.seq_of ry h1
      exact .inr (.inl ⟨p, vs, rfl, hq, flat_at rx hf.1, flat_all r hf.2, by rw [flat_inV rx hf.1 r hf.2]; exact q⟩)
    · split at e'
      · rename_i l2 h2
        split at e'
        · rename_i hk
          simp only [Bool.and_eq_true] at hk
          cases e'
          obtain ⟨p, vs, rfl, hq, r⟩ := R.lst_of ry h2
          refine .inr (.inr (.inl ⟨toP x, toPs l2, dp_of R.eG 64 x _ hk.1 rx, .lst (SqL.of hq) (dps_of R.eG 63 l2 vs hk.2 r), shaped_of hk.1, ?_, by rw [any_P hk.1 hk.2]; exact q⟩))
          exact shaped_of (d := .lst l2) (by simpa [okD] using hk.2)
        · cases e'
      · cases e'
  | none =>
    rw [h1] at e'
    simp only at e'
    split at e'
    · rename_i l kk h2 h3
      cases e'
      obtain ⟨p, kvs, rfl, hq, r⟩ := R.dct_of ry h2
      have hv := r.val kk
      have ek := key_at rx h3
      subst ek
      refine .inr (.inr (.inr ⟨p, valV kvs kk, rfl, .inl ⟨kvs, kk, hq, rfl, rfl⟩, ?_⟩))
      have : (valV kvs kk).isSome = (valD l kk).isSome := by
        cases hd : valD l kk with
        | none => rw [hd] at hv; rw [hv]; rfl
        | some d =>
          rw [hd] at hv
          obtain ⟨v, h4, _⟩ := hv
          rw [h4]; rfl
      rw [this]; exact q
    · cases e'
theorem semR_in {K : PySem.W.Frag} : SemR K B W (rInA K false) fIn := fun s th G σ H Q x y vx vy R rx ry P => by
  unfold fIn at P
  cases e : qIn x y s with
  | none => rw [e] at P; exact P.elim
  | some k => rw [e] at P; exact sem_in R rx ry e (Post.ok (rel := relE K) P R rfl)
theorem semR_notin {K : PySem.W.Frag} : SemR K B W (rInA K true) fNotIn := fun s th G σ H Q x y vx vy R rx ry P => by
  unfold fNotIn at P
  cases e : qIn x y s with
  | none => rw [e] at P; exact P.elim
  | some k => rw [e] at P; exact sem_in R rx ry e (Post.ok (rel := relE K) P R rfl)

/-! ### built-in calls: by the list of the arguments' data -/
def SemC (K : PySem.W.Frag) (B : Bs) (W : WX) (r : List V → Hp → VK → Prop) (f : List D → S → R (D × S)) : Prop :=
  ∀ s th G σ H Q l vs, Rep K B th G s σ H → AtL K th G l vs → Post K B W σ th G H (relE K) (f l s) Q → r vs H Q
def eCB (f : List D → S → R (D × S)) (r : MA) : ME := fun s => (r s).bind fun l s => f l s
variable {es : List Expr} {tr : TA} {mr : MA}
theorem sem_cb {K : PySem.W.Frag} {r : List V → Hp → VK → Prop} {f : List D → S → R (D × S)} (hf : SemC K B W r f) (ha : Sem K B W (relA K) tr mr) : Sem K B W (relE K) (tCB r tr) (eCB f mr) := fun s th G σ H Q R P =>
  ha s th G σ H _ R (P.bind fun l s1 th1 G1 H1 vs l1 R1 r1 P1 => hf s1 th1 G1 σ H1 Q l vs R1 r1 P1)
theorem ve_cb {x : Str} {p : Pos} {id : String} {r : List V → Hp → VK → Prop} {f : List D → S → R (D × S)} (hc : CallR X (.builtin id) r) (hf : SemC X.K B W r f) (hm : X.mg x = none) (hv : bootBuiltins x = some (.builtin id)) (ha : VA X B W (a :: es) tr mr)
    (hg : Gl X x := by rfl) (hn : x ≠ "__name__" := by decide) (hdb : (x == ("__debug__" : Str)) = false := by decide)
    (he : starEach (a :: es) X.env = (false, eval a X.env) :: starEach es X.env := by rfl) (hpl : (backTo pos (starEach es X.env)).any (·.1) = false := by rfl) : VE X B W (.Call (.Name x p) (a :: es) [] pos) (tCB r tr) (eCB f mr) :=
  ⟨pe_callB hc hg hm hv ha.pa hn hdb he hpl, sem_cb hf ha.sem⟩
theorem ve_ct {x : Str} {p : Pos} {id : String} {r : List V → Hp → VK → Prop} {f : List D → S → R (D × S)} (hc : CallR X (.type id) r) (hf : SemC X.K B W r f) (hm : X.mg x = none) (hv : bootBuiltins x = some (.type id)) (ha : VA X B W (a :: es) tr mr)
    (hg : Gl X x := by rfl) (hn : x ≠ "__name__" := by decide) (hdb : (x == ("__debug__" : Str)) = false := by decide)
    (he : starEach (a :: es) X.env = (false, eval a X.env) :: starEach es X.env := by rfl) (hpl : (backTo pos (starEach es X.env)).any (·.1) = false := by rfl) : VE X B W (.Call (.Name x p) (a :: es) [] pos) (tCB r tr) (eCB f mr) :=
  ⟨pe_callTy hc hg hm hv ha.pa hn hdb he hpl, sem_cb hf ha.sem⟩
/-- .. of a list or tuple handed out anew: fresh -/
def SemCF (K : PySem.W.Frag) (B : Bs) (W : WX) (r : List V → Hp → VK → Prop) (f : List D → S → R (Ob × S)) : Prop :=
  ∀ s th G σ H Q l vs, Rep K B th G s σ H → AtL K th G l vs → Post K B W σ th G H (relF K) (f l s) Q → r vs H Q
def fCB (f : List D → S → R (Ob × S)) (r : MA) : MF := fun s => (r s).bind fun l s => f l s
theorem vf_ct {x : Str} {p : Pos} {id : String} {r : List V → Hp → VK → Prop} {f : List D → S → R (Ob × S)} (hc : CallR X (.type id) r) (hf : SemCF X.K B W r f) (hm : X.mg x = none) (hv : bootBuiltins x = some (.type id)) (ha : VA X B W (a :: es) tr mr)
    (hg : Gl X x := by rfl) (hn : x ≠ "__name__" := by decide) (hdb : (x == ("__debug__" : Str)) = false := by decide)
    (he : starEach (a :: es) X.env = (false, eval a X.env) :: starEach es X.env := by rfl) (hpl : (backTo pos (starEach es X.env)).any (·.1) = false := by rfl) : VF X B W (.Call (.Name x p) (a :: es) [] pos) (tCB r tr) (fCB f mr) :=
  ⟨pe_callTy hc hg hm hv ha.pa hn hdb he hpl, fun s th G σ H Q R P => ha.sem s th G σ H _ R (P.bind fun l s1 th1 G1 H1 vs l1 R1 r1 P1 => hf s1 th1 G1 σ H1 Q l vs R1 r1 P1)⟩
theorem vf_cb {x : Str} {p : Pos} {id : String} {r : List V → Hp → VK → Prop} {f : List D → S → R (Ob × S)} (hc : CallR X (.builtin id) r) (hf : SemCF X.K B W r f) (hm : X.mg x = none) (hv : bootBuiltins x = some (.builtin id)) (ha : VA X B W (a :: es) tr mr)
    (hg : Gl X x := by rfl) (hn : x ≠ "__name__" := by decide) (hdb : (x == ("__debug__" : Str)) = false := by decide)
    (he : starEach (a :: es) X.env = (false, eval a X.env) :: starEach es X.env := by rfl) (hpl : (backTo pos (starEach es X.env)).any (·.1) = false := by rfl) : VF X B W (.Call (.Name x p) (a :: es) [] pos) (tCB r tr) (fCB f mr) :=
  ⟨pe_callB hc hg hm hv ha.pa hn hdb he hpl, fun s th G σ H Q R P => ha.sem s th G σ H _ R (P.bind fun l s1 th1 G1 H1 vs l1 R1 r1 P1 => hf s1 th1 G1 σ H1 Q l vs R1 r1 P1)⟩

/-! len -/
def lenD (s : S) : D → Option Nat
  | .str x => if x.length ≤ SZ then some x.length else none
  | d => match seqOf s d with
    | some l => some l.length
    | none => match dctOf s d with
      | some l => some l.length
      | none => none
def cLen : List D → S → R (D × S)
  | [d], s => match lenD s d with
    | some n => .ok (.int n, s)
    | none => .no
  | _, _ => .no
theorem AtL.one_of {K : PySem.W.Frag} {d : D} {vs : List V} (h : AtL K th G [d] vs) : ∃ v, vs = [v] ∧ At K th G d v := by
  obtain ⟨v, r, rfl, q, z⟩ := h
  cases z
  exact ⟨v, rfl, q⟩
theorem AtL.two_of {K : PySem.W.Frag} {d d' : D} {vs : List V} (h : AtL K th G [d, d'] vs) : ∃ v w, vs = [v, w] ∧ At K th G d v ∧ At K th G d' w := by
  obtain ⟨v, r, rfl, q, z⟩ := h
  obtain ⟨w, rfl, q2⟩ := z.one_of
  exact ⟨v, w, rfl, q, q2⟩
def rLenA (K : PySem.W.Frag) : List V → Hp → VK → Prop := fun xs H Q => (∃ x n, xs = [x] ∧ LenV K x H n ∧ Q (.int n) H) ∨ ∃ a kvs, xs = [.ref a] ∧ Rd H a (.dK kvs) ∧ Q (.int kvs.length) H
theorem call_lenA : CallR X (.builtin "len") (rLenA X.K) := call_len.or (by
  intro pins s σ H xs us Q I r h
  obtain ⟨ad, kvs, rfl, hq, q⟩ := h
  obtain ⟨u, rfl, r1⟩ := vals1 r
  cases r1
  exact d_len I hq fun t s' I' => ⟨.int kvs.length, H, I', ⟨_, rfl⟩, q⟩)
theorem semC_len {K : PySem.W.Frag} : SemC K B W (rLenA K) cLen := fun s th G σ H Q l vs R r P => by
  cases l with
  | nil => exact P.elim
  | cons d t =>
    cases t with
    | cons _ _ => exact P.elim
    | nil =>
      obtain ⟨v, rfl, h⟩ := r.one_of
      simp only [cLen] at P
      cases e : lenD s d with
      | none => rw [e] at P; exact P.elim
      | some n =>
        rw [e] at P
        have q : Q (.int n) H := Post.ok (rel := relE K) P R rfl
        by_cases hs : ∃ x, d = .str x
        · obtain ⟨x, rfl⟩ := hs
          simp only [lenD] at e
          split at e
          · rename_i hz
            cases e
            cases h
            exact .inl ⟨_, _, rfl, ⟨by rw [str_len, SZ_eq]; exact hz, by rw [str_len]⟩, q⟩
          · cases e
        have e' : (match seqOf s d with
          | some l => some l.length
          | none => match dctOf s d with
            | some l => some l.length
            | none => none) = some n := by
          cases d <;> first
            | exact e
            | exact absurd ⟨_, rfl⟩ hs
        cases h1 : seqOf s d with
        | some l =>
          rw [h1] at e'
          cases e'
          obtain ⟨p, vs, rfl, hq, r⟩ := R.seq_of h h1
          refine .inl ⟨_, _, rfl, ?_, q⟩
          rcases hq with hq | hq
          · exact .inl ⟨vs, hq, r.length.symm⟩
          · exact .inr ⟨vs, hq, r.length.symm⟩
        | none =>
          rw [h1] at e'
          simp only at e'
          cases h2 : dctOf s d with
          | none => rw [h2] at e'; cases e'
          | some l =>
            rw [h2] at e'
            cases e'
            obtain ⟨p, kvs, rfl, hq, r⟩ := R.dct_of h h2
            exact .inr ⟨p, kvs, rfl, hq, by rw [r.length]; exact q⟩
/-! ### one or two arguments -/
def c1 (g : S → D → Option D) : List D → S → R (D × S) := fun l s => match l with
  | [d] => match g s d with
    | some z => .ok (z, s)
    | none => .no
  | _ => .no
def c2 (g : S → D → D → Option D) : List D → S → R (D × S) := fun l s => match l with
  | [d, e] => match g s d e with
    | some z => .ok (z, s)
    | none => .no
  | _ => .no
theorem semC_1 {K : PySem.W.Frag} {r : List V → Hp → VK → Prop} {g : S → D → Option D}
    (h : ∀ s th G σ H Q d v z, Rep K B th G s σ H → At K th G d v → g s d = some z → Post K B W σ th G H (relE K) (.ok (z, s)) Q → r [v] H Q) : SemC K B W r (c1 g) := fun s th G σ H Q l vs R rl P => by
  match l, rl, P with
  | [], _, P => exact P.elim
  | [d], rl, P =>
    obtain ⟨v, rfl, hv⟩ := rl.one_of
    simp only [c1] at P
    cases e : g s d with
    | none => rw [e] at P; exact P.elim
    | some z => rw [e] at P; exact h s th G σ H Q d v z R hv e P
  | _ :: _ :: _, _, P => exact P.elim
theorem semC_2 {K : PySem.W.Frag} {r : List V → Hp → VK → Prop} {g : S → D → D → Option D}
    (h : ∀ s th G σ H Q d d' v v' z, Rep K B th G s σ H → At K th G d v → At K th G d' v' → g s d d' = some z → Post K B W σ th G H (relE K) (.ok (z, s)) Q → r [v, v'] H Q) : SemC K B W r (c2 g) := fun s th G σ H Q l vs R rl P => by
  match l, rl, P with
  | [], _, P => exact P.elim
  | [_], _, P => exact P.elim
  | [d, d'], rl, P =>
    obtain ⟨v, v', rfl, hv, hv'⟩ := rl.two_of
    simp only [c2] at P
    cases e : g s d d' with
    | none => rw [e] at P; exact P.elim
    | some z => rw [e] at P; exact h s th G σ H Q d d' v v' z R hv hv' e P
  | _ :: _ :: _ :: _, _, P => exact P.elim
def gAbs : S → D → Option D := fun _ d => match d with
  | .int i => some (.int (if i < 0 then -i else i))
  | _ => none
theorem semC_abs {K : PySem.W.Frag} : SemC K B W (fun xs H Q => ∃ i, xs = [.int i] ∧ Q (.int (if i < 0 then -i else i)) H) (c1 gAbs) := semC_1 fun s th G σ H Q d v z R h e P => by
  cases d <;> simp only [gAbs] at e <;> cases e
  cases h
  exact ⟨_, rfl, Post.ok (rel := relE K) P R rfl⟩
def gInt : S → D → Option D := fun _ d => match d with
  | .int i => some (.int i)
  | .bl b => some (.int (if b then 1 else 0))
  | _ => none
theorem semC_int {K : PySem.W.Frag} : SemC K B W (fun xs H Q => (∃ i, xs = [.int i] ∧ Q (.int i) H) ∨ ∃ k, xs = [.bl k] ∧ Q (.int (if k then 1 else 0)) H) (c1 gInt) := semC_1 fun s th G σ H Q d v z R h e P => by
  cases d <;> simp only [gInt] at e <;> cases e
  · cases h
    exact .inr ⟨_, rfl, Post.ok (rel := relE K) P R rfl⟩
  · cases h
    exact .inl ⟨_, rfl, Post.ok (rel := relE K) P R rfl⟩
def gMax2 : S → D → D → Option D := fun _ d e => match d, e with
  | .int i, .int j => some (.int (if j > i then j else i))
  | _, _ => none
def gMin2 : S → D → D → Option D := fun _ d e => match d, e with
  | .int i, .int j => some (.int (if j < i then j else i))
  | _, _ => none
theorem semC_max2 {K : PySem.W.Frag} : SemC K B W (fun xs H Q => ∃ i j, xs = [.int i, .int j] ∧ Q (.int (if j > i then j else i)) H) (c2 gMax2) := semC_2 fun s th G σ H Q d d' v v' z R h h' e P => by
  cases d <;> cases d' <;> simp only [gMax2] at e <;> cases e
  cases h; cases h'
  exact ⟨_, _, rfl, Post.ok (rel := relE K) P R rfl⟩
theorem semC_min2 {K : PySem.W.Frag} : SemC K B W (fun xs H Q => ∃ i j, xs = [.int i, .int j] ∧ Q (.int (if j < i then j else i)) H) (c2 gMin2) := semC_2 fun s th G σ H Q d d' v v' z R h h' e P => by
  cases d <;> cases d' <;> simp only [gMin2] at e <;> cases e
  cases h; cases h'
  exact ⟨_, _, rfl, Post.ok (rel := relE K) P R rfl⟩
/-- the ints of plain data -/
def intsD : List D → Option (List Int)
  | [] => some []
  | .int i :: l => (intsD l).map (i :: ·)
  | _ :: _ => none
theorem intsD_eq : ∀ {l : List D} {ns : List Int}, intsD l = some ns → l = ns.map D.int
  | [], ns, h => by simp [intsD] at h; subst h; rfl
  | d :: l, ns, h => by
    cases d <;> simp only [intsD] at h <;> try (cases h; done)
    cases e : intsD l with
    | none => rw [e] at h; cases h
    | some ms =>
      rw [e] at h
      simp at h
      subst h
      rw [intsD_eq e]; rfl
def gSum : S → D → Option D := fun s d => match lstOf s d with
  | some l => (intsD l).map fun ns => .int ns.sum
  | none => none
theorem semC_sum {K : PySem.W.Frag} : SemC K B W (rSum K) (c1 gSum) := semC_1 fun s th G σ H Q d v z R h e P => by
  simp only [gSum] at e
  cases e1 : lstOf s d with
  | none => rw [e1] at e; cases e
  | some l =>
    rw [e1] at e
    simp only at e
    cases e2 : intsD l with
    | none => rw [e2] at e; cases e
    | some ns =>
      rw [e2] at e
      simp at e
      subst e
      obtain ⟨p, vs, rfl, q, r⟩ := R.lst_of h e1
      rw [intsD_eq e2] at r
      rw [r.ints] at q
      exact ⟨p, ns, rfl, SqL.of q, Post.ok (rel := relE K) P R rfl⟩
/-- tuple(x): a list's items; a tuple itself -/
def gTuple : S → D → Option D := fun s d => match d with
  | .tup l => some (.tup l)
  | d => match lstOf s d with
    | some l => some (.tup l)
    | none => none
theorem semC_tuple {K : PySem.W.Frag} : SemC K B W (fun xs H Q => ∃ p ys, xs = [.ref p] ∧ ((SqL K H p ys ∧ ∀ l, H l = none → Q (.ref l) (upd H l (.tup ys))) ∨ (SqT K H p ys ∧ Q (.ref p) H))) (c1 gTuple) := semC_1 fun s th G σ H Q d v z R h e P => by
  have key : (match lstOf s d with
    | some l => some (D.tup l)
    | none => none) = some z → ∃ p ys, [v] = [V.ref p] ∧ ((SqL K H p ys ∧ ∀ l, H l = none → Q (.ref l) (upd H l (.tup ys))) ∨ (SqT K H p ys ∧ Q (.ref p) H)) := fun e => by
    cases e1 : lstOf s d with
    | none => rw [e1] at e; cases e
    | some l =>
      rw [e1] at e
      cases e
      obtain ⟨p, vs, rfl, q, r⟩ := R.lst_of h e1
      exact ⟨p, vs, rfl, .inl ⟨SqL.of q, fun t ht => post_tup R P r ht⟩⟩
  cases d with
  | tup l =>
    simp only [gTuple, Option.some.injEq] at e
    subst e
    obtain ⟨p, vs, rfl, q, r⟩ := id h
    exact ⟨p, vs, rfl, .inr ⟨R.eG.sqT q, Post.ok (rel := relE K) P R h⟩⟩
  | _ => exact key e
/-- list(x) of a list or a tuple -/
def gList : List D → S → R (Ob × S) := fun l s => match l with
  | [d] => match seqOf s d with
    | some l => .ok (.lst l, s)
    | none => .no
  | _ => .no
theorem semC_list {K : PySem.W.Frag} : SemCF K B W (fun xs H Q => ∃ p ys, xs = [.ref p] ∧ (SqL K H p ys ∨ SqT K H p ys) ∧ ∀ l, H l = none → Q (.ref l) (upd H l (.lst ys))) gList := fun s th G σ H Q l vs R rl P => by
  match l, rl, P with
  | [], _, P => exact P.elim
  | [d], rl, P =>
    obtain ⟨v, rfl, hv⟩ := rl.one_of
    simp only [gList] at P
    cases e : seqOf s d with
    | none => rw [e] at P; exact P.elim
    | some z =>
      rw [e] at P
      obtain ⟨p, vs, rfl, q, r⟩ := R.seq_of hv e
      exact ⟨p, vs, rfl, q, fun t ht => post_f R P r ht⟩
  | _ :: _ :: _, _, P => exact P.elim

/-! ### isinstance with a built-in class -/
def tyD : D → Option String
  | .non => some "NoneType"
  | .bl _ => some "bool"
  | .int _ => some "int"
  | .str _ => some "str"
  | .tup _ => some "tuple"
  | .lst _ => some "list"
  | _ => none
/-- the tuples of the written part are tuples -/
theorem ty_at {K : PySem.W.Frag} {d : D} {v : V} {t : String} (R : Rep K B th G s σ H) (h : At K th G d v) (e : tyD d = some t) : TyX K H v (.type t) := by
  cases d <;> simp only [tyD] at e <;> cases e
  · cases h; exact .base .non
  · cases h; exact .base (.bl _)
  · cases h; exact .base (.int _)
  · cases h; exact .base (.str _)
  · obtain ⟨p, vs, rfl, q, r⟩ := h
    rcases R.eG.sqT q with (q | ⟨o, q⟩) | ⟨o, its, n, q, hc, _⟩
    · exact .base (.tup q)
    · exact .fTuple q
    · exact .kTuple q hc
  · obtain ⟨p, vs, rfl, q, r⟩ := h
    exact .base (.lst (R.eG.lst q))
def isiB (T : String) (t : String) : Option Bool := kitB t T
/-- isinstance(x, T), T a built-in class by its name -/
def eIsi (T : String) (a : ME) : ME := fun s => (a s).bind fun d s => match tyD d with
  | some t => match kitB t T with
    | some b => .ok (.bl b, s)
    | none => .no
  | none => .no
def tIsi (K : PySem.W.Frag) (T : String) (ta : TE) : TE := tCB (rIsi K) (tCons ta (tCons (tC (.ty T)) tNil))
theorem ve_isi {x : Str} {p p2 : Pos} {T : String} (ha : VE X B W a ta ma) (hm : X.mg "isinstance" = none) (hmT : X.mg x = none) (hvT : bootBuiltins x = some (.type T)) (hgT : Gl X x := by rfl) (hg : Gl X "isinstance" := by rfl) (hn : x ≠ "__name__" := by decide) (hdb : (x == ("__debug__" : Str)) = false := by decide)
    (hs0 : starEach (a :: [.Name x p2]) X.env = (false, eval a X.env) :: starEach [.Name x p2] X.env := by rfl) (hs1 : starEach [.Name x p2] X.env = (false, eval (.Name x p2) X.env) :: starEach [] X.env := by rfl) (hpl : (backTo pos (starEach [.Name x p2] X.env)).any (·.1) = false := by rfl) :
    VE X B W (.Call (.Name "isinstance" p) [a, .Name x p2] [] pos) (tIsi X.K T ta) (eIsi T ma) :=
  ⟨pe_callB call_isi hg hm (by decide +kernel) (pa_cons ha.pe (pa_cons (pe_bltn hgT hmT hvT rfl hn hdb) pa_nil hs1) hs0) (by decide) (by decide) hs0 hpl, fun s th G σ H Q R P => ha.sem s th G σ H _ R (P.bind fun d s1 th1 G1 H1 v l1 R1 r1 P1 => by
    cases e : tyD d with
    | none => rw [e] at P1; exact P1.elim
    | some t =>
      rw [e] at P1
      simp only at P1
      cases e2 : kitB t T with
      | none => rw [e2] at P1; exact P1.elim
      | some b =>
        rw [e2] at P1
        exact ⟨v, .ty T, .type t, .type T, b, rfl, .ty T, ty_at R1 r1 e, kit_ty e2, Post.ok (rel := relE X.K) P1 R1 rfl⟩)⟩
end
end VL
namespace VL
open PySem L2

/-! ### statements -/
inductive C where
  | nx (s : S) | rt (d : D) (s : S) | bk (s : S) | ct (s : S) | ex (e : Exn) (s : S) | no
def R.to {α : Type} (x : R (α × S)) (k : α → S → C) : C := match x with
  | .ok (a, s) => k a s
  | .ex e s => .ex e s
  | .no => .no
@[simp] theorem R.to_ok {α : Type} (a : α) (s : S) (k : α → S → C) : R.to (.ok (a, s)) k = k a s := id rfl
@[simp] theorem R.to_ex {α : Type} (e : Exn) (s : S) (k : α → S → C) : R.to (.ex e s) k = .ex e s := id rfl
@[simp] theorem R.to_no {α : Type} (k : α → S → C) : R.to .no k = .no := id rfl
def C.seq (x : C) (k : S → C) : C := match x with
  | .nx s => k s
  | c => c
@[simp] theorem C.seq_nx (s : S) (k : S → C) : C.seq (.nx s) k = k s := id rfl
@[simp] theorem C.seq_rt (d : D) (s : S) (k : S → C) : C.seq (.rt d s) k = .rt d s := id rfl
@[simp] theorem C.seq_bk (s : S) (k : S → C) : C.seq (.bk s) k = .bk s := id rfl
@[simp] theorem C.seq_ct (s : S) (k : S → C) : C.seq (.ct s) k = .ct s := id rfl
@[simp] theorem C.seq_ex (e : Exn) (s : S) (k : S → C) : C.seq (.ex e s) k = .ex e s := id rfl
@[simp] theorem C.seq_no (k : S → C) : C.seq .no k = .no := id rfl
abbrev MS := S → C
abbrev MG := D → S → C

section
variable (K : PySem.W.Frag) (B : Bs) (W : WX)
def PostS (th : List Addr) (G H : Hp) (c : C) (Dn : Ends) : Prop := match c with
  | .nx s' => ∀ th' G' H' σ', Le th G H th' G' H' → Rep K B th' G' s' σ' H' → Dn.nx σ' H'
  | .rt d s' => ∀ th' G' H' σ' v, Le th G H th' G' H' → Rep K B th' G' s' σ' H' → At K th' G' d v → Dn.rt v H'
  | .bk s' => ∀ th' G' H' σ', Le th G H th' G' H' → Rep K B th' G' s' σ' H' → Dn.bk σ' H'
  | .ct s' => ∀ th' G' H' σ', Le th G H th' G' H' → Rep K B th' G' s' σ' H' → Dn.ct σ' H'
  | .ex e s' => ∀ th' G' H' σ' cls d, Le th G H th' G' H' → Rep K B th' G' s' σ' H' → ExAt K B th' G' H' e cls d → W cls d σ' H'
  | .no => False
def SemS (t : TS) (m : MS) : Prop := ∀ s th G σ H Dn, Rep K B th G s σ H → PostS K B W th G H (m s) Dn → t Dn σ H
def SemG (t : TG) (m : MG) : Prop := ∀ s th G σ H d v (Q : St → Hp → Prop), Rep K B th G s σ H → At K th G d v → PostS K B W th G H (m d s) { nx := Q, rt := fun _ _ => False } → t v σ H Q
def SemGs (t : TGs) (m : List D → S → C) : Prop := ∀ s th G σ H l vs (Q : St → Hp → Prop), Rep K B th G s σ H → AtL K th G l vs → PostS K B W th G H (m l s) { nx := Q, rt := fun _ _ => False } → t vs σ H Q
end
structure VS (X : Cx) (B : Bs) (W : WX) (st : Stmt) (t : TS) (m : MS) : Prop where
  ps : PS X st t
  sem : SemS X.K B W t m
structure VSs (X : Cx) (B : Bs) (W : WX) (st : List Stmt) (t : TS) (m : MS) : Prop where
  ps : PSs X st t
  sem : SemS X.K B W t m
structure VG (X : Cx) (B : Bs) (W : WX) (tg : Expr) (t : TG) (m : MG) : Prop where
  pg : PG X tg t
  sem : SemG X.K B W t m
structure VGs (X : Cx) (B : Bs) (W : WX) (tgs : List Expr) (t : TGs) (m : List D → S → C) : Prop where
  pg : PGs X tgs t
  sem : SemGs X.K B W t m

section
variable {K : PySem.W.Frag} {B : Bs} {W : WX} {th th1 : List Addr} {G G1 H H1 : Hp} {σ : St} {α β : Type}
theorem PostS.later {c : C} {Dn : Ends} (l : Le th G H th1 G1 H1) (P : PostS K B W th G H c Dn) : PostS K B W th1 G1 H1 c Dn := by
  cases c with
  | nx s => exact fun th' G' H' σ' l' R => P th' G' H' σ' (l.trans l') R
  | rt d s => exact fun th' G' H' σ' v l' R r => P th' G' H' σ' v (l.trans l') R r
  | bk s => exact fun th' G' H' σ' l' R => P th' G' H' σ' (l.trans l') R
  | ct s => exact fun th' G' H' σ' l' R => P th' G' H' σ' (l.trans l') R
  | ex e s => exact fun th' G' H' σ' cls d l' R r => P th' G' H' σ' cls d (l.trans l') R r
  | no => exact P
theorem PostS.to {rel : Rel α β} {x : R (α × S)} {k : α → S → C} {Dn : Ends} {Q2 : β → Hp → Prop} (P : PostS K B W th G H (x.to k) Dn)
    (h : ∀ a s' th' G' H' b, Le th G H th' G' H' → Rep K B th' G' s' σ H' → rel H th' G' H' a b → PostS K B W th' G' H' (k a s') Dn → Q2 b H') : Post K B W σ th G H rel x Q2 := by
  cases x with
  | ok a => obtain ⟨a, s⟩ := a; exact fun th' G' H' b l R r => h a s th' G' H' b l R r (P.later l)
  | ex e s => exact fun th' G' H' cls d l R r => P th' G' H' σ cls d l R r
  | no => exact P
theorem PostS.seq {x : C} {k : S → C} {Dn : Ends} {N : St → Hp → Prop} (P : PostS K B W th G H (x.seq k) Dn)
    (h : ∀ s' th' G' H' σ', Le th G H th' G' H' → Rep K B th' G' s' σ' H' → PostS K B W th' G' H' (k s') Dn → N σ' H') : PostS K B W th G H x { Dn with nx := N } := by
  cases x with
  | nx s => exact fun th' G' H' σ' l R => h s th' G' H' σ' l R (PostS.later l P)
  | _ => exact P
/-- a target's end: nx or nothing -/
theorem PostS.g {c : C} {Dn : Ends} {k : S → C} (P : PostS K B W th G H (c.seq k) Dn) (hc : (∃ s, c = .nx s) ∨ c = .no)
    {Q : St → Hp → Prop} (h : ∀ s' th' G' H' σ', Le th G H th' G' H' → Rep K B th' G' s' σ' H' → PostS K B W th' G' H' (k s') Dn → Q σ' H') : PostS K B W th G H c { nx := Q, rt := fun _ _ => False } := by
  rcases hc with ⟨s, rfl⟩ | rfl
  · exact fun th' G' H' σ' l R => h s th' G' H' σ' l R (PostS.later l P)
  · exact P.elim
theorem PostS.nx0 {s : S} {Dn : Ends} (P : PostS K B W th G H (.nx s) Dn) (R : Rep K B th G s σ H) : Dn.nx σ H := P th G H σ (Le.refl _ _ _) R
theorem PostS.rt0 {d : D} {v : V} {s : S} {Dn : Ends} (P : PostS K B W th G H (.rt d s) Dn) (R : Rep K B th G s σ H) (r : At K th G d v) : Dn.rt v H := P th G H σ v (Le.refl _ _ _) R r
end

def sSeq (a b : MS) : MS := fun s => (a s).seq b
def sNil : MS := fun s => .nx s
def sRet (e : ME) : MS := fun s => (e s).to fun d s => .rt d s
def sRetN : MS := fun s => .rt .non s
def sBk : MS := fun s => .bk s
def sCt : MS := fun s => .ct s
def sDrop (e : ME) : MS := fun s => (e s).to fun _ s => .nx s
def sIf (t : MT) (a b : MS) : MS := fun s => (t s).to fun x s => if x = true then a s else b s
def gN (i : Nat) : MG := fun d s => .nx { s with r := s.r.set i (some d) }
def sAsg (e : ME) (g : MG) : MS := fun s => (e s).to fun d s => g d s
def gTupM (g : List D → S → C) : MG := fun d s => match d with
  | .tup l => g l s
  | _ => .no
def gsNil : List D → S → C := fun l s => match l with
  | [] => .nx s
  | _ => .no
def gsCons (g : MG) (r : List D → S → C) : List D → S → C := fun l s => match l with
  | d :: l => (g d s).seq fun s => r l s
  | [] => .no

section
variable {X : Cx} {B : Bs} {W : WX} {e a b c tg : Expr} {te ta tb tc : TE} {m ma mb mc : ME} {pos : Pos} {st : Stmt} {rest sts sts' : List Stmt} {t u : TS} {ms mr : MS} {tt : TT} {mt : MT}
theorem vss_nil : VSs X B W [] tNext sNil := ⟨pss_nil, fun s th G σ H Dn R P => P.nx0 R⟩
theorem vss_cons (h : VS X B W st t ms) (k : VSs X B W rest u mr) : VSs X B W (st :: rest) (tSeq t u) (sSeq ms mr) :=
  ⟨pss_cons h.ps k.ps, fun s th G σ H Dn R P => h.sem s th G σ H _ R (P.seq fun s' th' G' H' σ' l R' P' => k.sem s' th' G' σ' H' Dn R' P')⟩
theorem vss_one (h : VS X B W st t ms) : VSs X B W [st] t ms := ⟨pss_one h.ps, h.sem⟩
theorem vs_ret (h : VE X B W e te m) : VS X B W (.Return (some e) pos) (tRet te) (sRet m) := ⟨ps_ret h.pe, fun s th G σ H Dn R P => h.sem s th G σ H _ R (P.to fun d s' th' G' H' v l R' r P' => P'.rt0 R' r)⟩
theorem vs_retN : VS X B W (.Return none pos) tRetN sRetN := ⟨ps_retN, fun s th G σ H Dn R P => P.rt0 (v := V.non) R rfl⟩
theorem vs_break : VS X B W (.Break pos) tBreak sBk := ⟨ps_break, fun s th G σ H Dn R P => P th G H σ (Le.refl _ _ _) R⟩
theorem vs_cont : VS X B W (.Continue pos) tCont sCt := ⟨ps_continue, fun s th G σ H Dn R P => P th G H σ (Le.refl _ _ _) R⟩
theorem vs_pass : VS X B W (.Pass pos) tNext sNil := ⟨ps_pass, fun s th G σ H Dn R P => P.nx0 R⟩
theorem vs_doc {x : Str} {j : Nat} {pos' : Pos} : VS X B W (.Expr (.Constant (.str x) j pos) pos') tNext sNil := ⟨ps_doc, fun s th G σ H Dn R P => P.nx0 R⟩
theorem vs_expr (h : VE X B W e te m) (hs : swapsWith e none pos.line X.env = pure false := by rfl) : VS X B W (.Expr e pos) (tDrop te) (sDrop m) := ⟨ps_expr h.pe hs, fun s th G σ H Dn R P => h.sem s th G σ H _ R (P.to fun d s' th' G' H' v l R' r P' => P'.nx0 R')⟩
theorem vs_if (ht : VT X B W c tt mt) (ha : VSs X B W sts t ms) (hb : VSs X B W sts' u mr) : VS X B W (.If c sts sts' pos) (tIfS tt t u) (sIf mt ms mr) :=
  ⟨ps_if ht.pt ha.ps hb.ps, fun s th G σ H Dn R P => ht.sem s th G σ H _ R (P.to fun x s' th' G' H' v l R' r P' => by
    cases r
    cases x with
    | true => exact iteT (ha.sem s' th' G' σ H' Dn R' P')
    | false => exact iteF (hb.sem s' th' G' σ H' Dn R' P'))⟩
/-! targets -/
theorem vg_name {x : Str} (i : Nat) (hN : X.N.Nodup) (hi : X.N[i]? = some x := by rfl) (hx : Loc X.env.scope x := by first | exact Or.inl rfl | exact Or.inr rfl) (hf : X.fn x = true ∨ X.env.scope.names.lookup x = some .local := by first | exact .inl rfl | exact .inr rfl | assumption) : VG X B W (.Name x pos) (gName i) (gN i) :=
  ⟨pg_name hN hi hx hf, fun s th G σ H d v Q R h P => P.nx0 (R.sets h)⟩
theorem vgs_nil : VGs X B W [] gNil gsNil := ⟨pgs_nil, fun s th G σ H l vs Q R h P => by
  cases l with
  | nil => cases h; exact ⟨rfl, P.nx0 R⟩
  | cons _ _ => exact P.elim⟩
/-- a target ends with nx or not at all -/
def GOk (g : MG) : Prop := ∀ d s, (∃ s', g d s = .nx s') ∨ g d s = .no
def GsOk (g : List D → S → C) : Prop := ∀ d s, (∃ s', g d s = .nx s') ∨ g d s = .no
theorem gN_ok {i : Nat} : GOk (gN i) := fun d s => .inl ⟨_, rfl⟩
theorem gsNil_ok : GsOk gsNil := fun d s => by cases d <;> first | exact .inl ⟨_, rfl⟩ | exact .inr rfl
theorem gsCons_ok {g : MG} {r : List D → S → C} (h : GOk g) (k : GsOk r) : GsOk (gsCons g r) := fun d s => by
  cases d with
  | nil => exact .inr rfl
  | cons d l =>
    simp only [gsCons]
    rcases h d s with ⟨s', e⟩ | e
    · rw [e]; exact k l s'
    · rw [e]; exact .inr rfl
theorem gTupM_ok {g : List D → S → C} (h : GsOk g) : GOk (gTupM g) := fun d s => by
  cases d <;> first
    | exact h _ s
    | exact .inr rfl
theorem vgs_cons {ts : List Expr} {g : TG} {gs : TGs} {mg : MG} {mgs : List D → S → C} (h : VG X B W tg g mg) (k : VGs X B W ts gs mgs) (hg : GOk mg) (hs : (assignEach (tg :: ts) X.env).map (·.2) = assign tg X.env :: (assignEach ts X.env).map (·.2) := by rfl) :
    VGs X B W (tg :: ts) (gCons g gs) (gsCons mg mgs) := ⟨pgs_cons h.pg k.pg hs, fun s th G σ H l vs Q R r P => by
  cases l with
  | nil => exact P.elim
  | cons d l =>
    obtain ⟨v, vr, rfl, q, z⟩ := r
    exact ⟨v, vr, rfl, h.sem s th G σ H d v _ R q (PostS.g P (hg d s) fun s' th' G' H' σ' l' R' P' => k.sem s' th' G' σ' H' l vr Q R' (z.mono l'.pre l'.ex) P')⟩⟩
theorem gsCons_len {g : TGs} {es : List Expr} : True := trivial
theorem vg_tup {es : List Expr} {k n : Nat} {gs : TGs} {mgs : List D → S → C} (hc : X.calm = true) (h : VGs X B W es gs mgs) (hl : ∀ l s, l.length ≠ n → mgs l s = .no) (hn : (assignEach es X.env).length = n := by rfl) (hst : (assignEach es X.env).findIdx? (·.1) = none := by rfl) :
    VG X B W (.Tuple es k pos) (gTup X.K n gs) (gTupM mgs) := ⟨pg_tup hc h.pg hn hst, fun s th G σ H d v Q R r P => by
  cases d with
  | tup l =>
    obtain ⟨p, vs, rfl, q, z⟩ := r
    have hll : l.length = n := by
      by_cases hh : l.length = n
      · exact hh
      · simp only [gTupM] at P
        rw [hl l s hh] at P
        exact P.elim
    exact ⟨p, vs, rfl, R.eG.sqT q, by rw [z.length]; exact hll, h.sem s th G σ H l vs Q R z P⟩
  | _ => exact P.elim⟩
theorem len_nil : ∀ l s, l.length ≠ 0 → gsNil l s = .no := fun l s h => by cases l <;> first | exact absurd rfl h | rfl
theorem len_cons {n : Nat} {g : MG} {r : List D → S → C} (hg : GOk g) (h : ∀ l s, l.length ≠ n → r l s = .no) : ∀ l s, l.length ≠ n + 1 → gsCons g r l s = .no := fun l s hl => by
  cases l with
  | nil => rfl
  | cons d l =>
    simp only [gsCons]
    rcases hg d s with ⟨s', e⟩ | e
    · rw [e]; exact h l s' (fun z => hl (by simp [z]))
    · rw [e]; rfl
theorem vs_set {x : Str} {pos' : Pos} (i : Nat) (hN : X.N.Nodup) (h : VE X B W e te m) (hs : swapsWith e (some (.Name x pos')) pos.line X.env = pure false := by rfl) (hi : X.N[i]? = some x := by rfl) (hx : Loc X.env.scope x := by first | exact Or.inl rfl | exact Or.inr rfl) (hf : X.fn x = true ∨ X.env.scope.names.lookup x = some .local := by first | exact .inl rfl | exact .inr rfl | assumption) :
    VS X B W (.Assign [.Name x pos'] e pos) (tAsg te (gName i)) (sAsg m (gN i)) := ⟨ps_set hN hi hx h.pe hs hf, fun s th G σ H Dn R P => h.sem s th G σ H _ R (P.to fun d s' th' G' H' v l R' r P' => P'.nx0 (R'.sets r))⟩
theorem vs_asg {g : TG} {mg : MG} (h : VE X B W e te m) (hg : VG X B W tg g mg) (hok : GOk mg) (hs : swapsWithSole [tg] e pos.line X.env = pure false := by rfl) (hw : swappedStores [tg] e X.env = pure none := by rfl)
    (h1 : (assignEach [tg] X.env).map (·.2) = [assign tg X.env] := by rfl) : VS X B W (.Assign [tg] e pos) (tAsg te g) (sAsg m mg) :=
  ⟨ps_asg h.pe hg.pg hs hw h1, fun s th G σ H Dn R P => h.sem s th G σ H _ R (P.to fun d s' th' G' H' v l R' r P' => hg.sem s' th' G' σ H' d v _ R' r (by
    rcases hok d s' with ⟨s2, e2⟩ | e2
    · rw [e2] at P' ⊢; exact P'
    · rw [e2] at P' ⊢; exact P'))⟩
end
end VL
namespace VL
open PySem L2

/-! ### what is walked -/
theorem PI.or {X : Cx} {tg e : Expr} {t u : TI} (h : PI X tg e t) (k : PI X tg e u) : PI X tg e (fun σ H R => t σ H R ∨ u σ H R) := ⟨fun pins s σ H Q I hw => by
  rcases hw with hw | hw
  · exact h.run pins s σ H Q I hw
  · exact k.run pins s σ H Q I hw⟩
def itD : D → Option (List D)
  | .lst l => some l
  | .tup l => some l
  | .scr l => some (l.map D.int)
  | .str x => some (x.map fun c => .str [c])
  | _ => none
def iSeqM (e : ME) : MA := fun s => (e s).bind fun d s => match itD d with
  | some l => .ok (l, s)
  | none => .no
def rng (lo : Int) (n : Nat) : List D := (List.range n).map fun i => .int (lo + (i : Nat))
def rngC (lo c : Int) (n : Nat) : List D := (List.range n).map fun i => .int (lo + (i : Nat) * c)
def okR (i : Int) : Bool := decide (-(2 ^ 62) ≤ i ∧ i < 2 ^ 62)
def iRg1M (a : MA) : MA := fun s => (a s).bind fun l s => match l with
  | [.int j] => if okR j then .ok (rng 0 j.toNat, s) else .no
  | _ => .no
def iRg2M (a : MA) : MA := fun s => (a s).bind fun l s => match l with
  | [.int i, .int j] => if okR i && okR j then .ok (rng i (j - i).toNat, s) else .no
  | _ => .no
/-- downwards by one -/
def iRg3M (a : MA) : MA := fun s => (a s).bind fun l s => match l with
  | [.int i, .int j, .int c] => if okR i && okR j && decide (c = -1) then .ok (rngC i (-1) (i - j).toNat, s) else .no
  | _ => .no
def pairs (l m : List D) : List D := List.zipWith (fun x y => .tup [x, y]) l m
def iZipM (a : MA) : MA := fun s => (a s).bind fun l s => match l with
  | [x, y] => match x, y with
    | .tup l, .tup m => .ok (pairs l m, s)
    | .lst l, .lst m => .ok (pairs l m, s)
    | _, _ => .no
  | _ => .no
section
variable {K : PySem.W.Frag} {B : Bs} {W : WX} {th : List Addr} {G H H0 : Hp} {s : S} {σ : St}
theorem relI_lst {a : Addr} {l : List D} {vs : List V} (q : ∀ th1 G1 H1, Le th G H th1 G1 H1 → Ex G1 H1 → SqL K H1 a vs) (r : AtL K th G l vs) : relI K H0 th G H l (Itl K a) := fun th1 G1 H1 i le ex => by
  have q1 := q th1 G1 H1 le ex
  refine ⟨fun hi => ⟨vs, q1, by rw [r.length]; exact hi⟩, fun d hd => ?_⟩
  obtain ⟨v, hv, hx⟩ := (r.mono le.pre le.ex).get hd
  refine ⟨⟨vs, v, q1, hv⟩, fun x H2 y => ?_⟩
  obtain ⟨rfl, y⟩ := y
  have := y vs q1
  rw [hv] at this; cases this
  exact ⟨G1, .inl ⟨rfl, rfl⟩, hx⟩
theorem relI_tup {a : Addr} {l : List D} {vs : List V} (q : ∀ th1 G1 H1, Le th G H th1 G1 H1 → Ex G1 H1 → SqT K H1 a vs) (r : AtL K th G l vs) : relI K H0 th G H l (Itt K a) := fun th1 G1 H1 i le ex => by
  have q1 := q th1 G1 H1 le ex
  refine ⟨fun hi => ⟨vs, q1, by rw [r.length]; exact hi⟩, fun d hd => ?_⟩
  obtain ⟨v, hv, hx⟩ := (r.mono le.pre le.ex).get hd
  refine ⟨⟨vs, v, q1, hv⟩, fun x H2 y => ?_⟩
  obtain ⟨rfl, y⟩ := y
  have := y vs q1
  rw [hv] at this; cases this
  exact ⟨G1, .inl ⟨rfl, rfl⟩, hx⟩
theorem relI_str {x : List Nat} : relI K H0 th G H (x.map fun c => D.str [c]) (Its ⟨x.toArray⟩) := fun th1 G1 H1 i le ex => by
  refine ⟨fun hi => by simpa [Its] using hi, fun d hd => ?_⟩
  rw [List.getElem?_map] at hd
  cases hc : x[i]? with
  | none => rw [hc] at hd; cases hd
  | some c =>
    rw [hc] at hd; cases hd
    have hlt : i < x.length := (List.getElem?_eq_some_iff.mp hc).1
    refine ⟨by simpa [Its] using hlt, fun v H2 y => ?_⟩
    obtain ⟨rfl, c', e, rfl⟩ := y
    simp [hc] at e
    subst e
    exact ⟨G1, .inl ⟨rfl, rfl⟩, rfl⟩
theorem relI_rng {lo : Int} {n : Nat} : relI K H0 th G H (rng lo n) (Itr lo n) := fun th1 G1 H1 i le ex => by
  refine ⟨fun hi => show n ≤ i by simpa [rng] using hi, fun d hd => ?_⟩
  have hlt : i < n := by
    have := (List.getElem?_eq_some_iff.mp hd).1
    simpa [rng] using this
  simp [rng, hlt] at hd
  subst hd
  refine ⟨hlt, fun v H2 y => ?_⟩
  obtain ⟨rfl, rfl⟩ := y
  exact ⟨G1, .inl ⟨rfl, rfl⟩, rfl⟩
theorem relI_rngC {lo c : Int} {n : Nat} : relI K H0 th G H (rngC lo c n) (Itc lo c n) := fun th1 G1 H1 i le ex => by
  refine ⟨fun hi => show n ≤ i by simpa [rngC] using hi, fun d hd => ?_⟩
  have hlt : i < n := by
    have := (List.getElem?_eq_some_iff.mp hd).1
    simpa [rngC] using this
  simp [rngC, hlt] at hd
  subst hd
  refine ⟨hlt, fun v H2 y => ?_⟩
  obtain ⟨rfl, rfl⟩ := y
  exact ⟨G1, .inl ⟨rfl, rfl⟩, rfl⟩
theorem pairs_get {l m : List D} {i : Nat} {d : D} (h : (pairs l m)[i]? = some d) : ∃ x y, l[i]? = some x ∧ m[i]? = some y ∧ d = .tup [x, y] := by
  unfold pairs at h
  rw [List.getElem?_zipWith] at h
  cases h1 : l[i]? with
  | none => rw [h1] at h; simp at h
  | some x =>
    cases h2 : m[i]? with
    | none => rw [h1, h2] at h; simp at h
    | some y =>
      rw [h1, h2] at h
      simp at h
      exact ⟨x, y, rfl, rfl, h.symm⟩
theorem at_pair {th1 : List Addr} {G1 H1 : Hp} {x y : D} {v w : V} {T : Addr} (hx : At K th1 G1 x v) (hy : At K th1 G1 y w) (hT : H1 T = none) (ex : Ex G1 H1) : At K th1 (upd G1 T (.tup [v, w])) (.tup [x, y]) (.ref T) :=
  have hn := ex.none_back hT
  ⟨T, [v, w], rfl, .inl (.inl upd_same), .cons (hx.mono List.prefix_rfl (Sub.new hn)) (.one (hy.mono List.prefix_rfl (Sub.new hn)))⟩
theorem relI_zipT {a b : Addr} {l m : List D} {vs ws : List V} (q : ∀ th1 G1 H1, Le th G H th1 G1 H1 → Ex G1 H1 → SqT K H1 a vs ∧ SqT K H1 b ws) (r : AtL K th G l vs) (r2 : AtL K th G m ws) : relI K H0 th G H (pairs l m) (RZ.ItzT K a b) := fun th1 G1 H1 i le ex => by
  obtain ⟨q1, q2⟩ := q th1 G1 H1 le ex
  refine ⟨fun hi => ⟨vs, ws, q1, q2, ?_⟩, fun d hd => ?_⟩
  · rw [r.length, r2.length]
    simp [pairs] at hi; omega
  · obtain ⟨x, y, hx, hy, rfl⟩ := pairs_get hd
    obtain ⟨v, hv, hx⟩ := (r.mono le.pre le.ex).get hx
    obtain ⟨w, hw, hy⟩ := (r2.mono le.pre le.ex).get hy
    refine ⟨⟨vs, ws, v, w, q1, q2, hv, hw⟩, fun z H2 y => ?_⟩
    obtain ⟨T, x', y', rfl, hT, rfl, f1, f2⟩ := y
    have e1 := f1 vs q1
    have e2 := f2 ws q2
    rw [hv] at e1; cases e1
    rw [hw] at e2; cases e2
    exact ⟨_, .inr ⟨T, _, hT, rfl, rfl⟩, at_pair hx hy hT ex⟩
theorem relI_zipL {a b : Addr} {l m : List D} {vs ws : List V} (q : ∀ th1 G1 H1, Le th G H th1 G1 H1 → Ex G1 H1 → SqL K H1 a vs ∧ SqL K H1 b ws) (r : AtL K th G l vs) (r2 : AtL K th G m ws) : relI K H0 th G H (pairs l m) (Itz K a b) := fun th1 G1 H1 i le ex => by
  obtain ⟨q1, q2⟩ := q th1 G1 H1 le ex
  refine ⟨fun hi => ⟨vs, ws, q1, q2, ?_⟩, fun d hd => ?_⟩
  · rw [r.length, r2.length]
    simp [pairs] at hi; omega
  · obtain ⟨x, y, hx, hy, rfl⟩ := pairs_get hd
    obtain ⟨v, hv, hx⟩ := (r.mono le.pre le.ex).get hx
    obtain ⟨w, hw, hy⟩ := (r2.mono le.pre le.ex).get hy
    refine ⟨⟨vs, ws, v, w, q1, q2, hv, hw⟩, fun z H2 y => ?_⟩
    obtain ⟨T, x', y', rfl, hT, rfl, f1, f2⟩ := y
    have e1 := f1 vs q1
    have e2 := f2 ws q2
    rw [hv] at e1; cases e1
    rw [hw] at e2; cases e2
    exact ⟨_, .inr ⟨T, _, hT, rfl, rfl⟩, at_pair hx hy hT ex⟩
theorem two_at {x y : D} {vs : List V} (h : AtL K th G [x, y] vs) : ∃ v w, vs = [v, w] ∧ At K th G x v ∧ At K th G y w := by
  obtain ⟨v, r, rfl, h1, w, r2, rfl, h2, rfl⟩ := h
  exact ⟨v, w, rfl, h1, h2⟩
end
def iSeqT (K : PySem.W.Frag) (te : TE) : TI := fun σ H R => iList K te σ H R ∨ (iTup K te σ H R ∨ iStr te σ H R)
section
variable {X : Cx} {B : Bs} {W : WX} {e a b tg : Expr} {te : TE} {ta : TA} {m : ME} {ma : MA} {p pos tpos : Pos}
theorem vi_seq (h : VE X B W e te m) : VI X B W tg e (iSeqT X.K te) (iSeqM m) := ⟨PI.or (pi_list h.pe) (PI.or (pi_tup h.pe) (pi_str h.pe)), fun s th G σ H Q R P => by
  have hS := h.sem s th G σ H
  unfold iSeqM at P
  cases hm : m s with
  | no => rw [hm] at P; exact P.elim
  | ex e s' => exact .inl (hS _ R (by rw [hm] at P ⊢; exact P))
  | ok x =>
    obtain ⟨d, s1⟩ := x
    rw [hm] at hS P
    simp only [VL.R.bind_ok] at P
    cases d with
    | lst l => exact .inl (hS _ R fun th1 G1 H1 v l1 R1 r => by
        obtain ⟨ad, vs, rfl, q, z⟩ := r
        exact ⟨ad, rfl, ⟨vs, .inl (.inl (R1.eG.lst q))⟩, P th1 G1 H1 _ l1 R1 (relI_lst (fun th2 G2 H2 l2 ex => .inl (.inl (ex.lst (l2.ex _ _ q)))) z)⟩)
    | scr l => exact .inl (hS _ R fun th1 G1 H1 v l1 R1 r => by
        obtain ⟨ad, rfl, q⟩ := r
        exact ⟨ad, rfl, ⟨_, R1.eG.sqL q⟩, P th1 G1 H1 _ l1 R1 (relI_lst (fun th2 G2 H2 l2 ex => ex.sqL (l2.ex.sqL q)) (atL_ints l))⟩)
    | tup l => exact .inr (.inl (hS _ R fun th1 G1 H1 v l1 R1 r => by
        obtain ⟨ad, vs, rfl, q, z⟩ := r
        exact ⟨ad, rfl, ⟨vs, R1.eG.sqT q⟩, P th1 G1 H1 _ l1 R1 (relI_tup (fun th2 G2 H2 l2 ex => ex.sqT (l2.ex.sqT q)) z)⟩))
    | str x => exact .inr (.inr (hS _ R fun th1 G1 H1 v l1 R1 r => by
        cases r
        exact ⟨_, rfl, P th1 G1 H1 _ l1 R1 relI_str⟩))
    | _ => exact P.elim⟩
theorem okR_iff {i : Int} (h : okR i = true) : -(2 ^ 62) ≤ i ∧ i < 2 ^ 62 := of_decide_eq_true h
theorem vi_range1 (hg : Gl X "range") (hm : X.mg "range" = none) (h : VA X B W [a] ta ma) (hs : starEach [a] X.env = [(false, eval a X.env)] := by rfl) : VI X B W tg (.Call (.Name "range" p) [a] [] pos) (iRng1 ta) (iRg1M ma) := ⟨pi_range1 hg hm h.pa hs, fun s th G σ H Q R P => h.sem s th G σ H _ R (P.bind0 fun l s1 th1 G1 H1 vs l1 R1 r P1 => by
  split at P1
  · rename_i j
    split at P1
    · rename_i hj
      obtain ⟨h1, h2⟩ := okR_iff hj
      obtain ⟨v, rfl, hv⟩ := r.one_of
      cases hv
      exact ⟨j, rfl, h1, h2, P1 th1 G1 H1 _ l1 R1 relI_rng⟩
    · exact P1.elim
  · exact P1.elim)⟩
theorem vi_range2 (hg : Gl X "range") (hm : X.mg "range" = none) (h : VA X B W [a, b] ta ma) (hs : starEach [a, b] X.env = [(false, eval a X.env), (false, eval b X.env)] := by rfl) (hs2 : starEach [b] X.env = [(false, eval b X.env)] := by rfl) : VI X B W tg (.Call (.Name "range" p) [a, b] [] pos) (iRng2 ta) (iRg2M ma) := ⟨pi_range2 hg hm h.pa hs hs2, fun s th G σ H Q R P => h.sem s th G σ H _ R (P.bind0 fun l s1 th1 G1 H1 vs l1 R1 r P1 => by
  split at P1
  · rename_i i j
    split at P1
    · rename_i hj
      simp only [Bool.and_eq_true] at hj
      obtain ⟨h1, h2⟩ := okR_iff hj.1
      obtain ⟨h3, h4⟩ := okR_iff hj.2
      obtain ⟨v, w, rfl, hv, hw⟩ := two_at r
      cases hv; cases hw
      exact ⟨i, j, rfl, ⟨h1, h2, h3, h4⟩, P1 th1 G1 H1 _ l1 R1 relI_rng⟩
    · exact P1.elim
  · exact P1.elim)⟩
theorem vi_range3 {c : Expr} (hg : Gl X "range") (hm : X.mg "range" = none) (h : VA X B W [a, b, c] ta ma) (hs : starEach [a, b, c] X.env = (false, eval a X.env) :: starEach [b, c] X.env := by rfl) (hpl : (backTo pos (starEach [b, c] X.env)).any (·.1) = false := by rfl) : VI X B W tg (.Call (.Name "range" p) [a, b, c] [] pos) (iRng3 ta) (iRg3M ma) := ⟨pi_range3 hg hm h.pa hs hpl, fun s th G σ H Q R P => h.sem s th G σ H _ R (P.bind0 fun l s1 th1 G1 H1 vs l1 R1 r P1 => by
  split at P1
  · rename_i i j c
    split at P1
    · rename_i hj
      simp only [Bool.and_eq_true, decide_eq_true_eq] at hj
      obtain ⟨⟨hj1, hj2⟩, rfl⟩ := hj
      obtain ⟨h1, h2⟩ := okR_iff hj1
      obtain ⟨h3, h4⟩ := okR_iff hj2
      obtain ⟨v, r, rfl, hv, hr⟩ := r
      obtain ⟨w, u, rfl, hw, hu⟩ := two_at hr
      cases hv; cases hw; cases hu
      exact ⟨i, j, -1, _, rfl, RgC.neg h1 h2 h3 h4, P1 th1 G1 H1 _ l1 R1 relI_rngC⟩
    · exact P1.elim
  · exact P1.elim)⟩
theorem vi_zip {elts : List Expr} {kk : Nat} (hg : Gl X "zip") (hm : X.mg "zip" = none) (h : VA X B W [a, b] ta ma) (hs : starEach [a, b] X.env = (false, eval a X.env) :: starEach [b] X.env := by rfl) (hpl : (backTo pos (starEach [b] X.env)).any (·.1) = false := by rfl) :
    VI X B W (.Tuple elts kk tpos) (.Call (.Name "zip" p) [a, b] [] pos) (RZ.iZipA X.K ta) (iZipM ma) := ⟨RZ.pi_zipA hg hm h.pa hs hpl, fun s th G σ H Q R P => h.sem s th G σ H _ R (P.bind0 fun l s1 th1 G1 H1 vs l1 R1 r P1 => by
  split at P1
  · rename_i x y
    obtain ⟨v, w, rfl, hv, hw⟩ := two_at r
    split at P1
    · obtain ⟨a1, v1, rfl, q1, z1⟩ := hv
      obtain ⟨a2, v2, rfl, q2, z2⟩ := hw
      exact ⟨a1, a2, v1, v2, rfl, .inr ⟨R1.eG.sqT q1, R1.eG.sqT q2, P1 th1 G1 H1 _ l1 R1 (relI_zipT (fun th2 G2 H2 l2 ex => ⟨ex.sqT (l2.ex.sqT q1), ex.sqT (l2.ex.sqT q2)⟩) z1 z2)⟩⟩
    · obtain ⟨a1, v1, rfl, q1, z1⟩ := hv
      obtain ⟨a2, v2, rfl, q2, z2⟩ := hw
      exact ⟨a1, a2, v1, v2, rfl, .inl ⟨.inl (.inl (R1.eG.lst q1)), .inl (.inl (R1.eG.lst q2)), P1 th1 G1 H1 _ l1 R1 (relI_zipL (fun th2 G2 H2 l2 ex => ⟨.inl (.inl (ex.lst (l2.ex _ _ q1))), .inl (.inl (ex.lst (l2.ex _ _ q2)))⟩) z1 z2)⟩⟩
    · exact P1.elim
  · exact P1.elim)⟩
end

/-! ### for, while -/
def C.loop (x : C) (k : S → C) : C := match x with
  | .nx s => k s
  | .ct s => k s
  | .bk s => .nx s
  | c => c
@[simp] theorem C.loop_nx (s : S) (k : S → C) : C.loop (.nx s) k = k s := id rfl
@[simp] theorem C.loop_ct (s : S) (k : S → C) : C.loop (.ct s) k = k s := id rfl
@[simp] theorem C.loop_bk (s : S) (k : S → C) : C.loop (.bk s) k = .nx s := id rfl
@[simp] theorem C.loop_rt (d : D) (s : S) (k : S → C) : C.loop (.rt d s) k = .rt d s := id rfl
@[simp] theorem C.loop_ex (e : Exn) (s : S) (k : S → C) : C.loop (.ex e s) k = .ex e s := id rfl
@[simp] theorem C.loop_no (k : S → C) : C.loop .no k = .no := id rfl
def forL (g : MG) (b : MS) : List D → MS
  | [] => fun s => .nx s
  | d :: l => fun s => (g d s).seq fun s => (b s).loop fun s => forL g b l s
def sFor (it : MA) (g : MG) (b : MS) : MS := fun s => (it s).to fun l s => forL g b l s
def whileN (t : MT) (b : MS) : Nat → MS
  | 0 => fun _ => .no
  | n + 1 => fun s => (t s).to fun x s => if x = true then (b s).loop fun s => whileN t b n s else .nx s
def sWhile (n : Nat) (t : MT) (b : MS) : MS := fun s => whileN t b n s
section
variable {K : PySem.W.Frag} {B : Bs} {W : WX} {th th0 : List Addr} {G H G0 H0 Hs : Hp} {s : S} {σ : St}
theorem PostS.loop {x : C} {k : S → C} {Dn : Ends} {N : St → Hp → Prop} (P : PostS K B W th G H (x.loop k) Dn)
    (h : ∀ s' th' G' H' σ', Le th G H th' G' H' → Rep K B th' G' s' σ' H' → PostS K B W th' G' H' (k s') Dn → N σ' H') : PostS K B W th G H x { Dn with nx := N, ct := N, bk := Dn.nx } := by
  cases x with
  | nx s => exact fun th' G' H' σ' l R => h s th' G' H' σ' l R (PostS.later l P)
  | ct s => exact fun th' G' H' σ' l R => h s th' G' H' σ' l R (PostS.later l P)
  | _ => exact P
theorem for_core {J : It} {g : TG} {tb : TS} {mg : MG} {mb : MS} {l : List D} {Dn : Ends} (hg : SemG K B W g mg) (hok : GOk mg) (hb : SemS K B W tb mb) (rI : relI K Hs th0 G0 H0 l J) (le0 : Le th0 G0 H0 th G H) (R0 : Rep K B th G s σ H) (P0 : PostS K B W th G H (forL mg mb l s) Dn) :
    ∃ W : Nat → Nat → St → Hp → Prop, (∃ m, W 0 m σ H) ∧ ∀ i m σ H, W i m σ H →
      (J.stop i H ∧ Dn.nx σ H) ∨ (J.go i H ∧ ∃ N : St → Hp → Prop, (∀ σ' H', N σ' H' → ∃ m', m' < m ∧ W (i + 1) m' σ' H') ∧ ∀ x H', J.yld i H x H' → g x σ H' fun σ2 H2 => tb { Dn with nx := N, ct := N, bk := Dn.nx } σ2 H2) := by
  refine ⟨fun i m σ H => i ≤ l.length ∧ m = l.length - i ∧ ∃ th G s, Le th0 G0 H0 th G H ∧ Rep K B th G s σ H ∧ PostS K B W th G H (forL mg mb (l.drop i) s) Dn, ⟨l.length, Nat.zero_le _, rfl, th, G, s, le0, R0, P0⟩, ?_⟩
  rintro i m σ H ⟨hi, rfl, th, G, s, le, R, P⟩
  by_cases hlt : i < l.length
  · have hdr : l.drop i = l[i] :: l.drop (i + 1) := List.drop_eq_getElem_cons hlt
    rw [hdr] at P
    obtain ⟨_, hgo⟩ := rI th G H i le R.eG
    obtain ⟨go, hy⟩ := hgo l[i] (List.getElem?_eq_getElem hlt)
    refine .inr ⟨go, fun σ' H' => (i + 1) ≤ l.length ∧ ∃ th G s, Le th0 G0 H0 th G H' ∧ Rep K B th G s σ' H' ∧ PostS K B W th G H' (forL mg mb (l.drop (i + 1)) s) Dn, fun σ' H' q => ⟨l.length - (i + 1), by omega, q.1, rfl, q.2⟩, fun x H' y => ?_⟩
    obtain ⟨G2, hG, hx⟩ := hy x H' y
    have key : Le th G H th G2 H' ∧ Rep K B th G2 s σ H' := by
      rcases hG with ⟨rfl, rfl⟩ | ⟨p, o, hp, rfl, rfl⟩
      · exact ⟨Le.refl _ _ _, R⟩
      · exact ⟨Le.new hp R.eG, R.frz hp o⟩
    obtain ⟨l2, R2⟩ := key
    have P2 := PostS.later l2 P
    exact hg s th G2 σ H' l[i] x _ R2 hx (PostS.g P2 (hok _ _) fun s' th' G' H'' σ' l' R' P' => hb s' th' G' σ' H'' _ R' (PostS.loop P' fun s'' th'' G'' H3 σ'' l'' R'' P'' => ⟨hlt, th'', G'', s'', le.trans (l2.trans (l'.trans l'')), R'', P''⟩))
  · have e : i = l.length := by omega
    subst e
    rw [List.drop_length] at P
    exact .inl ⟨(rI th G H _ le R.eG).1 (Nat.le_refl _), P.nx0 R⟩
end
section
variable {X : Cx} {B : Bs} {W : WX} {e c tg : Expr} {pos : Pos} {body : List Stmt} {tb : TS} {mb : MS} {tt : TT} {mt : MT} {g : TG} {mg : MG} {wi : TI} {mi : MA}
theorem vs_for (hp : PassesOwn (model X.prog X.w) X.A X.env X.xe) (hc : X.calm = true) (hi : VI X B W tg e wi mi) (hg : VG X B W tg g mg) (hok : GOk mg) (hb : VSs X B W body tb mb) (hs : ∀ x, foldedSetIterable e X.env x = pure x := by intro _; rfl) :
    VS X B W (.For tg e body [] pos) (tFor wi g tb) (sFor mi mg mb) := ⟨ps_for hp hc hi.pi hg.pg hb.ps hs, fun s th G σ H Dn R P => hi.sem s th G σ H _ R (P.to fun l s' th' G' H' J l' R' r P' => for_core hg.sem hok hb.sem r (Le.refl _ _ _) R' P')⟩
theorem vs_while (n : Nat) (hp : PassesOwn (model X.prog X.w) X.A X.env X.xe) (hc : VT X B W c tt mt) (hb : VSs X B W body tb mb) : VS X B W (.While c body [] pos) (tWhile tt tb) (sWhile n mt mb) := ⟨ps_while hp hc.pt hb.ps, fun s th G σ H Dn R P => by
  refine ⟨fun m σ H => ∃ th G s, Rep X.K B th G s σ H ∧ PostS X.K B W th G H (whileN mt mb m s) Dn, ⟨n, th, G, s, R, P⟩, ?_⟩
  rintro m σ H ⟨th, G, s, R, P⟩
  cases m with
  | zero => exact P.elim
  | succ m =>
    refine hc.sem s th G σ H _ R (PostS.to P fun x s' th' G' H' v l' R' r P' => ?_)
    cases r
    cases x with
    | false => exact iteF (PostS.nx0 P' R')
    | true =>
      refine iteT ⟨fun σ' H' => ∃ th G s, Rep X.K B th G s σ' H' ∧ PostS X.K B W th G H' (whileN mt mb m s) Dn, fun σ' H' q => ⟨m, Nat.lt_succ_self _, q⟩, ?_⟩
      exact hb.sem s' th' G' σ H' _ R' (PostS.loop P' fun s'' th'' G'' H3 σ'' l'' R'' P'' => ⟨th'', G'', s'', R'', P''⟩)⟩
end
end VL
namespace VL
open PySem L2

/-! ### comprehensions -/
def wipeD (r : List (Option D)) : List Nat → List (Option D)
  | [] => r
  | v :: vs => (wipeD r vs).set v none
theorem wipeD_length (r : List (Option D)) : ∀ vs : List Nat, (wipeD r vs).length = r.length
  | [] => rfl
  | v :: vs => by unfold wipeD; rw [List.length_set, wipeD_length r vs]
theorem wipeD_some {r : List (Option D)} {i : Nat} {x : D} : ∀ {vs : List Nat}, (wipeD r vs)[i]? = some (some x) → r[i]? = some (some x) ∧ i ∉ vs
  | [], h => ⟨h, by simp⟩
  | v :: vs, h => by
    unfold wipeD at h
    by_cases hi : v = i
    · subst hi
      by_cases hv : v < (wipeD r vs).length
      · rw [List.getElem?_set_self hv] at h; cases h
      · rw [List.getElem?_eq_none (by simpa using hv)] at h; cases h
    · rw [List.getElem?_set_ne hi] at h
      obtain ⟨h1, h2⟩ := wipeD_some h
      exact ⟨h1, by simp only [List.mem_cons, not_or]; exact ⟨fun e => hi e.symm, h2⟩⟩
theorem wipe_in {σ : St} {i : Nat} : ∀ {vs : List Nat}, i ∈ vs → (wipe σ vs)[i]? = (σ[i]?).map fun _ => none
  | v :: vs, h => by
    unfold wipe
    by_cases hi : v = i
    · subst hi
      by_cases hv : v < σ.length
      · rw [List.getElem?_set_self (by rw [wipe_length]; exact hv), List.getElem?_eq_getElem hv]; rfl
      · have h0 : σ[v]? = none := List.getElem?_eq_none (by omega)
        rw [h0, List.getElem?_eq_none (by rw [List.length_set, wipe_length]; omega)]; rfl
    · rw [List.getElem?_set_ne hi]
      rcases List.mem_cons.mp h with e | h
      · exact absurd e.symm hi
      · exact wipe_in h
theorem wipe_set {σ : St} {i : Nat} {vs : List Nat} {x : Option V} (h : i ∈ vs) : wipe (σ.set i x) vs = wipe σ vs := by
  apply List.ext_getElem?
  intro j
  by_cases hj : j ∈ vs
  · rw [wipe_in hj, wipe_in hj]
    by_cases e : i = j
    · subst e
      by_cases hl : i < σ.length
      · rw [List.getElem?_set_self hl, List.getElem?_eq_getElem hl]; rfl
      · rw [List.getElem?_eq_none (by simpa using hl), List.getElem?_eq_none (by simpa using hl)]
    · rw [List.getElem?_set_ne e]
  · rw [wipe_out hj, wipe_out hj, List.getElem?_set_ne (fun e => hj (by rw [← e]; exact h))]
theorem wipe_wipe {σ : St} {vs : List Nat} : wipe (wipe σ vs) vs = wipe σ vs := by
  apply List.ext_getElem?
  intro j
  by_cases hj : j ∈ vs
  · rw [wipe_in hj, wipe_in hj]
    cases σ[j]? <;> rfl
  · rw [wipe_out hj]
/-- a target that stores within vs -/
def GIn (g : TG) (vs : List Nat) : Prop := ∀ x σ H Q, g x σ H Q → g x σ H fun σ2 H2 => Q σ2 H2 ∧ wipe σ2 vs = wipe σ vs
def GsIn (g : TGs) (vs : List Nat) : Prop := ∀ x σ H Q, g x σ H Q → g x σ H fun σ2 H2 => Q σ2 H2 ∧ wipe σ2 vs = wipe σ vs
theorem gin_name {i : Nat} {vs : List Nat} (h : i ∈ vs := by decide) : GIn (gName i) vs := fun x σ H Q q => ⟨q, wipe_set h⟩
theorem gin_nil {vs : List Nat} : GsIn gNil vs := fun x σ H Q q => ⟨q.1, q.2, rfl⟩
theorem gin_cons {g : TG} {gs : TGs} {vs : List Nat} (h : GIn g vs) (k : GsIn gs vs) (hm : ∀ x σ H (Q Q' : St → Hp → Prop), (∀ a b, Q a b → Q' a b) → g x σ H Q → g x σ H Q') (km : ∀ x σ H (Q Q' : St → Hp → Prop), (∀ a b, Q a b → Q' a b) → gs x σ H Q → gs x σ H Q') : GsIn (gCons g gs) vs := fun x σ H Q q => by
  obtain ⟨v, r, rfl, q⟩ := q
  refine ⟨v, r, rfl, hm _ _ _ _ _ (fun σ1 H1 ⟨q1, e1⟩ => km _ _ _ _ _ (fun σ2 H2 ⟨q2, e2⟩ => ⟨q2, e2.trans e1⟩) (k _ _ _ _ q1)) (h _ _ _ _ q)⟩
def GMono (g : TG) : Prop := ∀ x σ H (Q Q' : St → Hp → Prop), (∀ a b, Q a b → Q' a b) → g x σ H Q → g x σ H Q'
def GsMono (g : TGs) : Prop := ∀ x σ H (Q Q' : St → Hp → Prop), (∀ a b, Q a b → Q' a b) → g x σ H Q → g x σ H Q'
theorem gmono_name {i : Nat} : GMono (gName i) := fun x σ H Q Q' k q => k _ _ q
theorem gmono_nil : GsMono gNil := fun x σ H Q Q' k q => ⟨q.1, k _ _ q.2⟩
theorem gmono_cons {g : TG} {gs : TGs} (h : GMono g) (k : GsMono gs) : GsMono (gCons g gs) := fun x σ H Q Q' kk q => by
  obtain ⟨v, r, rfl, q⟩ := q
  exact ⟨v, r, rfl, h _ _ _ _ _ (fun _ _ q1 => k _ _ _ _ _ kk q1) q⟩
theorem gmono_tup {K : PySem.W.Frag} {n : Nat} {gs : TGs} (k : GsMono gs) : GMono (gTup K n gs) := fun x σ H Q Q' kk q => by
  obtain ⟨a, xs, rfl, q1, q2, q⟩ := q
  exact ⟨a, xs, rfl, q1, q2, k _ _ _ _ _ kk q⟩
theorem gin_tup {K : PySem.W.Frag} {n : Nat} {gs : TGs} {vs : List Nat} (k : GsIn gs vs) : GIn (gTup K n gs) vs := fun x σ H Q q => by
  obtain ⟨a, xs, rfl, q1, q2, q⟩ := q
  exact ⟨a, xs, rfl, q1, q2, k _ _ _ _ q⟩

def Wf : WX := fun _ _ _ _ => False
structure VTs (X : Cx) (B : Bs) (W : WX) (ifs : List Expr) (t : TT) (m : MT) : Prop where
  pt : PTs X ifs t
  sem : Sem X.K B W relT t m
def tYesM : MT := fun s => .ok (true, s)
def lcL (g : MG) (t : MT) (e : ME) (vs : List Nat) (r0 : List (Option D)) : List D → List D → S → R (List D × S)
  | [], acc, s => .ok (acc, s)
  | d :: l, acc, s => match g d { s with r := wipeD r0 vs } with
    | .nx s1 => match t s1 with
      | .ok (b, s2) => if b = true then match e s2 with
          | .ok (y, s3) => if acc.length < SZ then lcL g t e vs r0 l (acc ++ [y]) { s3 with r := r0 } else .no
          | _ => .no
        else lcL g t e vs r0 l acc { s2 with r := r0 }
      | _ => .no
    | _ => .no
def fLc (it : MA) (g : MG) (t : MT) (e : ME) (vs : List Nat) : MF := fun s => (it s).bind fun l s => (lcL g t e vs s.r l [] s).bind fun acc s => .ok (.lst acc, s)
section
variable {K : PySem.W.Frag} {B : Bs} {W : WX} {th th0 th1 : List Addr} {G H G0 H0 G1 H1 : Hp} {s s0 : S} {σ σ2 : St}
theorem Rep.wipe (R : Rep K B th G s σ H) (vs : List Nat) : Rep K B th G { s with r := wipeD s.r vs } (L2.wipe σ vs) H := R.slots (by rw [wipeD_length, wipe_length]; exact R.len) fun i d e => by
  obtain ⟨e1, e2⟩ := wipeD_some e
  rw [wipe_out e2]
  exact R.slot i d e1
theorem Rep.back (R : Rep K B th G s σ2 H) (R0 : Rep K B th0 G0 s0 σ H0) (l : Le th0 G0 H1 th G G1) : Rep K B th G { s with r := s0.r } σ H := R.slots R0.len fun i d e => by
  obtain ⟨v, h1, h2⟩ := R0.slot i d e
  exact ⟨v, h1, h2.mono l.pre l.ex⟩
theorem Le.aside {t t' : List Addr} {G G' H H' : Hp} (l : Le t G H t' G' H') {p : Addr} {o : HO} (hp : H p = none) : Le t G H t' G' (upd H' p o) := ⟨l.pre, l.ex, fun a u e g n => by
  have hne : a ≠ p := ne_none (some_ne e) hp
  rw [upd_ne hne]
  exact l.fr a u e g n⟩
theorem sem_lc {wi : TI} {g : TG} {tt : TT} {te : TE} {vs : List Nat} {mi : MA} {mg : MG} {mt : MT} {me : ME} (hi : Sem K B W (relI K) wi mi) (hg : SemG K B Wf g mg) (ht : Sem K B Wf relT tt mt) (he : Sem K B Wf (relE K) te me) (hin : GIn g vs) (hmono : GMono g) :
    Sem K B W (relF K) (tLc wi g tt te vs) (fLc mi mg mt me vs) := fun s th G σ H Q R P => by
  refine hi s th G σ H _ R (P.bind0 fun l s1 th1 G1 H1 J l1 R1 rI P1 => fun D hD => ?_)
  have hGD : G1 D = none := R1.gnone hD
  have hHD : H D = none := l1.none_back R1.eG R1.al hD
  have hTD : D ∉ th1 := R1.thne hD
  refine ⟨fun i m H' => i ≤ l.length ∧ m = l.length - i ∧ ∃ th' G' s' acc xs, Le th1 G1 H1 th' G' H' ∧ Rep K B th' G' s' σ H' ∧ s'.r = s1.r ∧ H' D = some (.lst xs) ∧ AtL K th' G' acc xs ∧ D ∉ th' ∧ G' D = none ∧
    Post K B W σ th G H (relF K) ((lcL mg mt me vs s1.r (l.drop i) acc s').bind fun acc s => .ok (.lst acc, s)) Q,
    ⟨l.length, Nat.zero_le _, rfl, th1, G1, s1, [], [], (Le.refl _ _ _).aside hD, R1.side (.lst []) hGD hTD (R1.tbnew hD), rfl, upd_same, rfl, hTD, hGD, P1⟩, ?_⟩
  rintro i m H2 ⟨hi, rfl, th2, G2, s2, acc, xs, l2, R2, hr, hx, hacc, hTD2, hGD2, P2⟩
  by_cases hlt : i < l.length
  · have hdr : l.drop i = l[i] :: l.drop (i + 1) := List.drop_eq_getElem_cons hlt
    rw [hdr] at P2
    obtain ⟨_, hgo⟩ := rI th2 G2 H2 i l2 R2.eG
    obtain ⟨go, hy⟩ := hgo l[i] (List.getElem?_eq_getElem hlt)
    refine .inr ⟨go, fun H' => (i + 1) ≤ l.length ∧ ∃ th' G' s' acc xs, Le th1 G1 H1 th' G' H' ∧ Rep K B th' G' s' σ H' ∧ s'.r = s1.r ∧ H' D = some (.lst xs) ∧ AtL K th' G' acc xs ∧ D ∉ th' ∧ G' D = none ∧
      Post K B W σ th G H (relF K) ((lcL mg mt me vs s1.r (l.drop (i + 1)) acc s').bind fun acc s => .ok (.lst acc, s)) Q, fun H' q => ⟨l.length - (i + 1), by omega, q.1, rfl, q.2⟩, fun x H3 y => ?_⟩
    obtain ⟨G3, hG, hxx⟩ := hy x H3 y
    have key : Le th2 G2 H2 th2 G3 H3 ∧ Rep K B th2 G3 s2 σ H3 := by
      rcases hG with ⟨rfl, rfl⟩ | ⟨p, o, hp, rfl, rfl⟩
      · exact ⟨Le.refl _ _ _, R2⟩
      · exact ⟨Le.new hp R2.eG, R2.frz hp o⟩
    obtain ⟨l3, R3⟩ := key
    -- what D keeps
    have keep : ∀ {th' G' H'}, Le th2 G2 H2 th' G' H' → H' D = some (.lst xs) ∧ D ∉ th' ∧ G' D = none := fun {th' G' H'} le => by
      obtain ⟨h1, h2, h3⟩ := le.fr D _ hx hGD2 hTD2
      exact ⟨h1, h3, h2⟩
    have R3w := R3.wipe vs
    rw [hr] at R3w
    simp only [lcL] at P2
    cases hmg : mg l[i] { s2 with r := wipeD s1.r vs } with
    | nx sA =>
      rw [hmg] at P2
      dsimp only at P2
      refine hmono _ _ _ _ _ ?_ (hin _ _ _ _ (hg _ th2 G3 _ H3 l[i] x (fun σ' H' => ∃ b c, Le th2 G3 H3 b c H' ∧ Rep K B b c sA σ' H') R3w hxx (by rw [hmg]; exact fun th' G' H' σ' le R => ⟨th', G', le, R⟩)))
      rintro σ4 H4 ⟨⟨th4, G4, l4, R4⟩, hw⟩
      rw [wipe_wipe] at hw
      refine ⟨hw, ht sA th4 G4 σ4 H4 _ R4 ?_⟩
      cases hmt : mt sA with
      | ok q =>
        obtain ⟨b, sB⟩ := q
        rw [hmt] at P2
        rintro th5 G5 H5 b' l5 R5 rfl
        dsimp only at P2
        cases b' with
        | false =>
          refine iteF ?_
          have le := l3.trans (l4.trans l5)
          obtain ⟨k1, k2, k3⟩ := keep le
          exact ⟨hlt, th5, G5, _, acc, xs, l2.trans le, R5.back R1 (l2.trans le), rfl, k1, hacc.mono le.pre le.ex, k2, k3, P2⟩
        | true =>
          refine iteT (he sB th5 G5 σ4 H5 _ R5 ?_)
          simp only [if_true] at P2
          cases hme : me sB with
          | ok q =>
            obtain ⟨y, sC⟩ := q
            rw [hme] at P2
            dsimp only at P2
            by_cases hz : acc.length < SZ
            · rw [if_pos hz] at P2
              intro th6 G6 H6 v l6 R6 hv
              have le := l3.trans (l4.trans (l5.trans l6))
              obtain ⟨k1, k2, k3⟩ := keep le
              have hacc' := hacc.mono le.pre le.ex
              refine ⟨xs, k1, by rw [hacc'.length, SZ_eq]; exact hz, hlt, th6, G6, { r := s1.r, m := sC.m }, acc ++ [y], xs ++ [v], ?_, ?_, rfl, upd_same, hacc'.append (.one hv), k2, k3, P2⟩
              · exact (l2.trans le).aside hD
              · exact (R6.back R1 (l2.trans le)).side _ k3 k2 (R6.tbne k1 fun _ z => nomatch z)
            · rw [if_neg hz] at P2; exact P2.elim
          | _ => rw [hme] at P2; exact P2.elim
      | _ => rw [hmt] at P2; exact P2.elim
    | _ => rw [hmg] at P2; exact P2.elim
  · have e : i = l.length := by omega
    subst e
    rw [List.drop_length] at P2
    refine .inl ⟨(rI th2 G2 H2 _ l2 R2.eG).1 (Nat.le_refl _), ?_⟩
    exact P2 th2 G2 H2 (.ref D) (l1.trans l2) R2 ⟨D, rfl, (fun z => nomatch z), ⟨hGD2, xs, hx, hacc⟩, hTD2, hHD⟩
end
section
variable {X : Cx} {B : Bs} {W : WX} {c : Expr} {tt : TT} {mt : MT}
theorem vts_nil : VTs X B W [] tYes tYesM := ⟨pts_nil, fun s th G σ H Q R P => Post.ok (rel := relT) P R rfl⟩
theorem vts_one (h : VT X B W c tt mt) : VTs X B W [c] tt mt := ⟨pts_one h.pt, h.sem⟩
variable {elt tg iter : Expr} {ifs : List Expr} {scope : Scope} {own : List (Str × Nat)} {pos : Pos} {wi : TI} {g : TG} {te : TE} {mi : MA} {mg : MG} {me : ME}
theorem vf_lc (hc : X.calm = true) (hN : X.N.Nodup) (hi : VI X B W tg iter wi mi) (ok : BlkOk X.N X.env.scope scope own)
    (hg : ∀ (s : Shared) (H : Hp) (C : Addr) (cl : List (Str × Addr)) (fp : List Addr), VG (X.blk s H scope (compEnvC scope cl C X.env) fp) B Wf tg g mg) (hin : GIn g (own.map (·.2))) (hmono : GMono g)
    (ht : ∀ (s : Shared) (H : Hp) (C : Addr) (cl : List (Str × Addr)) (fp : List Addr), VTs (X.blk s H scope (compEnvC scope cl C X.env) fp) B Wf ifs tt mt)
    (he : ∀ (s : Shared) (H : Hp) (C : Addr) (cl : List (Str × Addr)) (fp : List Addr), VE (X.blk s H scope (compEnvC scope cl C X.env) fp) B Wf elt te me) (s0 : Shared) (hs : ∀ x, foldedSetIterable iter X.env x = pure x := by intro _; rfl) :
    VF X B W (.ListComp elt [⟨tg, iter, ifs, 0⟩] scope pos) (tLc wi g tt te (own.map (·.2))) (fLc mi mg mt me (own.map (·.2))) :=
  ⟨pe_lc hc hN hi.pi ok (fun s H C cl fp => (hg s H C cl fp).pg) (fun s H C cl fp => (ht s H C cl fp).pt) (fun s H C cl fp => (he s H C cl fp).pe) hs,
    sem_lc hi.sem (hg s0 (fun _ => none) 0 [] []).sem (ht s0 (fun _ => none) 0 [] []).sem (he s0 (fun _ => none) 0 [] []).sem hin hmono⟩
end
end VL
namespace VL
open PySem L2

section
variable {K : PySem.W.Frag} {B : Bs} {W : WX} {α β γ δ : Type} {th th0 th1 : List Addr} {G H G0 H0 G1 H1 : Hp} {s s0 : S} {σ σ2 : St}
/-- .. behind a step aside -/
theorem Post.bind1 {rel : Rel α β} {rel3 : Rel γ δ} {x : R (α × S)} {k : α → S → R (γ × S)} {Q : δ → Hp → Prop} {Q2 : β → Hp → Prop} (le : Le th G H th1 G1 H1) (P : Post K B W σ th G H rel3 (x.bind k) Q)
    (h : ∀ a s' th' G' H' b, Le th1 G1 H1 th' G' H' → Rep K B th' G' s' σ H' → rel H1 th' G' H' a b → Post K B W σ th G H rel3 (k a s') Q → Q2 b H') : Post K B W σ th1 G1 H1 rel x Q2 := by
  cases x with
  | ok a => obtain ⟨a, s⟩ := a; exact fun th' G' H' b l R r => h a s th' G' H' b l R r P
  | ex e s => exact fun th' G' H' cls d l R r => P th' G' H' cls d (le.trans l) R r
  | no => exact P
theorem obAt_dct {a : Addr} {l : List (Key × D)} {kvs : List (Key × V)} (hg : G a = none) (h : H a = some (.dK kvs)) (r : AtK K th G l kvs) : ObAt K th G H a (.dct l) := ⟨hg, kvs, h, r.1, r.2⟩
theorem Rep.asideNew (R : Rep K B th G s σ H) {p : Addr} (o : HO) (hp : H p = none) : Rep K B th G s σ (upd H p o) := R.side o (R.gnone hp) (R.thne hp) (R.tbnew hp)
end
/-! ### new dicts -/
def fDctN : MF := fun s => .ok (.dct [], s)
def fDct1 (k v : ME) : MF := fun s => (k s).bind fun x s => (v s).bind fun y s => match keyOf x with
  | some k => .ok (.dct [(k, y)], s)
  | none => .no
section
variable {X : Cx} {B : Bs} {W : WX} {e k v o i a tg : Expr} {te tk tv to ti : TE} {ta : TA} {m mk mv mo mi : ME} {ma : MA} {p pos tpos apos cpos : Pos}
theorem vf_dctN : VF X B W (.Dict [] [] pos) tDNewK fDctN := ⟨pe_dnewK, fun s th G σ H Q R P p hp => by
  exact P th G _ _ ((Le.refl th G H).aside hp) (R.asideNew _ hp) ⟨p, rfl, (fun z => nomatch z), obAt_dct (R.gnone hp) upd_same .nil, R.thne hp, hp⟩⟩
theorem vf_dct1 (hk : VE X B W k tk mk) (hv : VE X B W v tv mv) : VF X B W (.Dict [some k] [v] pos) (tDisp [(tk, tv)]) (fDct1 mk mv) := ⟨pe_disp (pps_cons hk.pe hv.pe pps_nil) rfl rfl (by simp) (by simp), fun s th G σ H Q R P p hp => by
  have hle : Le th G H th G (upd H p (.dK [])) := (Le.refl th G H).aside hp
  refine hk.sem s th G σ _ _ (R.asideNew _ hp) (Post.bind1 hle P fun x s1 th1 G1 H1 vx l1 R1 r1 P1 => hv.sem s1 th1 G1 σ H1 _ R1 (Post.bind1 (hle.trans l1) P1 fun y s2 th2 G2 H2 vy l2 R2 r2 P2 => ?_))
  have l12 := l1.trans l2
  obtain ⟨k1, k2, k3⟩ := l12.fr p _ upd_same (R.gnone hp) (R.thne hp)
  have k1 : H2 p = some (.dK []) := k1
  cases e : keyOf x with
  | none => rw [e] at P2; exact P2.elim
  | some kk =>
    rw [e] at P2
    cases key_at r1 e
    refine ⟨k1, [(kk, vy)], rfl, by simp, ?_⟩
    refine P2 th2 G2 _ _ ((hle.trans l12).aside hp) (R2.side _ k2 k3 (R2.tbne k1 fun _ z => nomatch z)) ⟨p, rfl, (fun z => nomatch z), obAt_dct k2 upd_same ?_, k3, hp⟩
    exact .cons r2 .nil⟩
end

/-! ### o[i] = .. -/
def fSet (o i d : D) (s : S) : C := match o with
  | .loc n => match s.m[n]? with
    | some (.lst l) => match i with
      | .int k => match ixN l.length k with
        | some j => .nx { s with m := s.m.set n (.lst (l.set j d)) }
        | none => .no
      | _ => .no
    | some (.dct l) => match keyOf i with
      | some k => if l.length < SZ then .nx { s with m := s.m.set n (.dct (putD l k d)) } else .no
      | none => .no
    | _ => .no
  | _ => .no
def gSet (mo mi : ME) : MG := fun d s => match mo s with
  | .ok (o, s) => match mi s with
    | .ok (i, s) => fSet o i d s
    | _ => .no
  | _ => .no
def rSet : TSet := fun o i v H Q => rSetL o i v H Q ∨ rSetD o i v H Q
section
variable {K : PySem.W.Frag} {B : Bs} {W : WX} {th : List Addr} {G H : Hp} {s : S} {σ : St}
theorem PSet.or {X : Cx} {t u : TSet} (h : PSet X t) (k : PSet X u) : PSet X (fun o i v H Q => t o i v H Q ∨ u o i v H Q) := fun pins s σ H o i v ov iv u Q I ro ri rv hw => by
  rcases hw with hw | hw
  · exact h pins s σ H o i v ov iv u Q I ro ri rv hw
  · exact k pins s σ H o i v ov iv u Q I ro ri rv hw
theorem Rep.putLst (R : Rep K B th G s σ H) {n : Nat} {a : Addr} {l l' : List D} {vs vs' : List V} (hm : s.m[n]? = some (.lst l)) (ha : th[n]? = some a) (hq : H a = some (.lst vs)) (r : AtL K th G l' vs') : Rep K B th G { s with m := s.m.set n (.lst l') } σ (upd H a (.lst vs')) := by
  obtain ⟨g, _, _, _⟩ := R.st n _ a hm ha
  exact R.put ha g ⟨g, vs', upd_same, r⟩ (R.tbne hq fun _ z => nomatch z)
theorem Rep.putDct (R : Rep K B th G s σ H) {n : Nat} {a : Addr} {l l' : List (Key × D)} {vs vs' : List (Key × V)} (hm : s.m[n]? = some (.dct l)) (ha : th[n]? = some a) (hq : H a = some (.dK vs)) (r : AtK K th G l' vs') : Rep K B th G { s with m := s.m.set n (.dct l') } σ (upd H a (.dK vs')) := by
  obtain ⟨g, _, _, _⟩ := R.st n _ a hm ha
  exact R.put ha g (obAt_dct g upd_same r) (R.tbne hq fun _ z => nomatch z)
theorem fset_nx {o i d : D} {s : S} : (∃ s', fSet o i d s = .nx s') ∨ fSet o i d s = .no := by
  unfold fSet
  cases o with
  | loc n =>
    dsimp only
    cases s.m[n]? with
    | none => exact .inr rfl
    | some ob =>
      cases ob with
      | lst l =>
        cases i with
        | int k =>
          dsimp only
          cases ixN l.length k with
          | none => exact .inr rfl
          | some j => exact .inl ⟨_, rfl⟩
        | _ => exact .inr rfl
      | dct l =>
        dsimp only
        cases keyOf i with
        | none => exact .inr rfl
        | some k =>
          dsimp only
          split
          · exact .inl ⟨_, rfl⟩
          · exact .inr rfl
      | _ => exact .inr rfl
  | _ => exact .inr rfl
theorem gset_ok {mo mi : ME} : GOk (gSet mo mi) := fun d s => by
  unfold gSet
  split
  · split
    · exact fset_nx
    · exact .inr rfl
  · exact .inr rfl
theorem sem_set (R : Rep K B th G s σ H) {o i d : D} {vo vi vd : V} {Q : Hp → Prop} (ho : At K th G o vo) (hi : At K th G i vi) (hd : At K th G d vd) (P : ∀ s' H', fSet o i d s = .nx s' → Le th G H th G H' → Rep K B th G s' σ H' → Q H') (hn : fSet o i d s ≠ .no) : rSet vo vi vd H Q := by
  unfold fSet at P hn
  cases o with
  | loc n =>
    dsimp only at P hn
    obtain ⟨a, ha, rfl⟩ := ho
    cases hm : s.m[n]? with
    | none => rw [hm] at hn; exact absurd rfl hn
    | some ob =>
      rw [hm] at P hn
      cases ob with
      | lst l =>
        cases i with
        | int k =>
          dsimp only at P hn
          cases hj : ixN l.length k with
          | none => rw [hj] at hn; exact absurd rfl hn
          | some j =>
            rw [hj] at P
            cases hi
            obtain ⟨g, vs, q, r⟩ := R.st n _ a hm ha
            exact .inl ⟨a, vs, k, j, rfl, rfl, q, by rw [r.length]; exact hj, P _ _ rfl (Le.put ha) (R.putLst hm ha q (r.set j hd))⟩
        | _ => exact absurd rfl hn
      | dct l =>
        dsimp only at P hn
        cases hk : keyOf i with
        | none => rw [hk] at hn; exact absurd rfl hn
        | some k =>
          rw [hk] at P hn
          dsimp only at P hn
          by_cases hz : l.length < SZ
          · rw [if_pos hz] at P
            cases key_at hi hk
            obtain ⟨g, vs, q, r1, r2⟩ := R.st n _ a hm ha
            have r : AtK K th G l vs := ⟨r1, r2⟩
            exact .inr ⟨a, _, rfl, .inl ⟨vs, k, q, rfl, by rw [r.length, SZ_eq]; exact hz, rfl⟩, P _ _ rfl (Le.put ha) (R.putDct hm ha q (r.put hd))⟩
          · rw [if_neg hz] at hn; exact absurd rfl hn
      | _ => exact absurd rfl hn
  | _ => exact absurd rfl hn
end
section
variable {X : Cx} {B : Bs} {W : WX} {e k v o i a tg f : Expr} {te tk tv to ti tf : TE} {ta : TA} {m mk mv mo mi mf : ME} {ma : MA} {p pos tpos apos cpos : Pos}
theorem vg_set (hu : X.A.units + 1 < cLine) (ho : VE X B W o to mo) (hi : VE X B W i ti mi) (ha : ∀ v, assign (.Subscript o i pos) X.env v = (do
      let ov ← holding [v] (eval o X.env)
      let iv ← holding [v, ov] (eval i X.env)
      standAt pos
      holding [v, ov, iv] (setItem ov iv v)
      release [v, ov, iv] []) := by intro _; rfl) : VG X B W (.Subscript o i pos) (gSub to ti rSet) (gSet mo mi) := ⟨pg_sub ho.pe hi.pe (PSet.or set_list (set_dict hu)) ha, fun s th G σ H d v Q R r P => by
  unfold gSet at P
  refine ho.sem s th G σ H _ R ?_
  cases ho1 : mo s with
  | ok q =>
    obtain ⟨o', s1⟩ := q
    rw [ho1] at P
    intro th1 G1 H1 vo l1 R1 r1
    dsimp only at P
    refine hi.sem s1 th1 G1 σ H1 _ R1 ?_
    cases hi1 : mi s1 with
    | ok q =>
      obtain ⟨i', s2⟩ := q
      rw [hi1] at P
      intro th2 G2 H2 vi l2 R2 r2
      dsimp only at P
      have l12 := l1.trans l2
      refine sem_set R2 (r1.mono l2.pre l2.ex) r2 (r.mono l12.pre l12.ex) (fun s' H' e le R' => ?_) (fun z => by rw [z] at P; exact P.elim)
      rw [e] at P
      exact P th2 G2 H' σ (l12.trans le) R'
    | _ => rw [hi1] at P; exact P.elim
  | _ => rw [ho1] at P; exact P.elim⟩

/-! ### d.get -/
def fGet2 (d k x : D) (s : S) : R (D × S) := match dctOf s d, keyOf k with
  | some l, some k => .ok ((valD l k).getD x, s)
  | _, _ => .no
def isDct (s : S) (d : D) : Bool := (dctOf s d).isSome
def eGet2 (mo mi mf : ME) : ME := fun s => (mo s).bind fun d s => if isDct s d = true then (mi s).bind fun k s => (mf s).bind fun x s => fGet2 d k x s else .no
def eGet1 (mo mi : ME) : ME := fun s => (mo s).bind fun d s => if isDct s d = true then (mi s).bind fun k s => fGet2 d k .non s else .no
theorem sem_get {K : PySem.W.Frag} {th : List Addr} {G H : Hp} {s : S} {σ : St} {d k x : D} {vd vk vx : V} {Q : VK} (R : Rep K B th G s σ H) (h : At K th G d vd) (hk : At K th G k vk) (hx : At K th G x vx) (P : Post K B W σ th G H (relE K) (fGet2 d k x s) Q) : ∃ a o, vd = .ref a ∧ DGet H a vk o ∧ Q (o.getD vx) H := by
  unfold fGet2 at P
  cases hd : dctOf s d with
  | none => rw [hd] at P; exact P.elim
  | some l =>
    cases hkk : keyOf k with
    | none => rw [hd, hkk] at P; exact P.elim
    | some kk =>
      rw [hd, hkk] at P
      dsimp only at P
      obtain ⟨a, kvs, rfl, q, r⟩ := R.dct_of h hd
      cases key_at hk hkk
      refine ⟨a, _, rfl, .inl ⟨kvs, kk, q, rfl, rfl⟩, Post.ok (rel := relE K) P R ?_⟩
      have := r.val kk
      cases hv : valD l kk with
      | none => rw [hv] at this; rw [this]; exact hx
      | some z => rw [hv] at this; obtain ⟨v, e, q⟩ := this; rw [e]; exact q
theorem isD_of {K : PySem.W.Frag} {th : List Addr} {G H : Hp} {s : S} {σ : St} {d : D} {vd : V} (R : Rep K B th G s σ H) (h : At K th G d vd) (hi : isDct s d = true) : ∃ a, vd = .ref a ∧ IsD H a := by
  unfold isDct at hi
  cases hd : dctOf s d with
  | none => rw [hd] at hi; cases hi
  | some l =>
    obtain ⟨a, kvs, rfl, q, r⟩ := R.dct_of h hd
    exact ⟨a, rfl, .inl ⟨kvs, q⟩⟩
theorem ve_get2 (hu : X.A.units + 1 < cLine) (ho : VE X B W o to mo) (hi : VE X B W i ti mi) (hf : VE X B W f tf mf) (m : M2 X o "get" apos i f cpos) : VE X B W (.Call (.Attribute o "get" apos) [i, f] [] cpos) (tDGet2 to ti tf) (eGet2 mo mi mf) :=
  ⟨pe_dget2 hu ho.pe hi.pe hf.pe m, fun s th G σ H Q R P => ho.sem s th G σ H _ R (P.bind fun d s1 th1 G1 H1 vd l1 R1 r1 P1 => by
    split at P1
    · rename_i hd
      obtain ⟨a, rfl, q⟩ := isD_of R1 r1 hd
      refine ⟨a, rfl, q, hi.sem s1 th1 G1 σ H1 _ R1 (P1.bind fun k s2 th2 G2 H2 vk l2 R2 r2 P2 => hf.sem s2 th2 G2 σ H2 _ R2 (P2.bind fun x s3 th3 G3 H3 vx l3 R3 r3 P3 => ?_))⟩
      have l23 := l2.trans l3
      obtain ⟨a', o, e, g, q⟩ := sem_get R3 (r1.mono l23.pre l23.ex) (r2.mono l3.pre l3.ex) r3 P3
      cases e
      exact ⟨o, g, q⟩
    · exact P1.elim)⟩
theorem ve_get1 (hu : X.A.units + 1 < cLine) (ho : VE X B W o to mo) (hi : VE X B W i ti mi) (m : M1 X o "get" apos i cpos) : VE X B W (.Call (.Attribute o "get" apos) [i] [] cpos) (tDGet1 to ti) (eGet1 mo mi) :=
  ⟨pe_dget1 hu ho.pe hi.pe m, fun s th G σ H Q R P => ho.sem s th G σ H _ R (P.bind fun d s1 th1 G1 H1 vd l1 R1 r1 P1 => by
    split at P1
    · rename_i hd
      obtain ⟨a, rfl, q⟩ := isD_of R1 r1 hd
      refine ⟨a, rfl, q, hi.sem s1 th1 G1 σ H1 _ R1 (P1.bind fun k s2 th2 G2 H2 vk l2 R2 r2 P2 => ?_)⟩
      obtain ⟨a', o, e, g, q⟩ := sem_get (x := .non) (vx := V.non) R2 (r1.mono l2.pre l2.ex) r2 (show V.non = V.non from rfl) P2
      cases e
      exact ⟨o, g, q⟩
    · exact P1.elim)⟩

/-! ### methods of an own list -/
def eLM (f : List D → List D → Option (D × List D)) (mo : ME) (ma : MA) : ME := fun s => (mo s).bind fun d s => match d with
  | .loc n => match s.m[n]? with
    | some (.lst _) => (ma s).bind fun as s => match s.m[n]? with
      | some (.lst l) => match f l as with
        | some (y, l') => .ok (y, { s with m := s.m.set n (.lst l') })
        | none => .no
      | _ => .no
    | _ => .no
  | _ => .no
def SemLM (K : PySem.W.Frag) (r : V → List V → Hp → VK → Prop) (f : List D → List D → Option (D × List D)) : Prop :=
  ∀ th G H a l as vs xs y l' (Q : VK), H a = some (.lst vs) → AtL K th G l vs → AtL K th G as xs → f l as = some (y, l') → (∀ v vs', At K th G y v → AtL K th G l' vs' → Q v (upd H a (.lst vs'))) → r (.ref a) xs H Q
theorem sem_lm {r : V → List V → Hp → VK → Prop} {f : List D → List D → Option (D × List D)} (hr : SemLM X.K r f) (ho : Sem X.K B W (relE X.K) to mo) (ha : Sem X.K B W (relA X.K) ta ma) : Sem X.K B W (relE X.K) (tBM X.K "list" r to ta) (eLM f mo ma) := fun s th G σ H Q R P =>
  ho s th G σ H _ R (P.bind fun d s1 th1 G1 H1 vd l1 R1 r1 P1 => by
    split at P1
    · rename_i n
      obtain ⟨a, hn, rfl⟩ := r1
      split at P1
      · rename_i l0 hm
        obtain ⟨_, vs0, q0, _⟩ := R1.st n _ a hm hn
        refine ⟨.inl ⟨rfl, vs0, .inl (.inl q0)⟩, ha s1 th1 G1 σ H1 _ R1 (P1.bind fun as s2 th2 G2 H2 xs l2 R2 r2 P2 => ?_)⟩
        split at P2
        · rename_i l hm2
          have hn2 := pre_get l2.pre hn
          obtain ⟨_, vs, q, rr⟩ := R2.st n _ a hm2 hn2
          cases hf : f l as with
          | none => rw [hf] at P2; exact P2.elim
          | some z =>
            obtain ⟨y, l'⟩ := z
            rw [hf] at P2
            exact hr th2 G2 H2 a l as vs xs y l' Q q rr r2 hf fun v vs' hv hvs => P2 th2 G2 _ v (Le.put hn2) (R2.putLst hm2 hn2 q hvs) hv
        · exact P2.elim
      · exact P1.elim
    · exact P1.elim)
def lmApp (l as : List D) : Option (D × List D) := match as with
  | [y] => if l.length < SZ then some (.non, l ++ [y]) else none
  | _ => none
def lmPop (l as : List D) : Option (D × List D) := match as with
  | [] => match l[l.length - 1]? with
    | some y => some (y, l.dropLast)
    | none => none
  | _ => none
def lmPopAt (l as : List D) : Option (D × List D) := match as with
  | [.int i] => if l.length ≤ SZ then match ixN l.length i with
      | some k => match l[k]? with
        | some y => some (y, l.eraseIdx k)
        | none => none
      | none => none
    else none
  | _ => none
def lmIns (l as : List D) : Option (D × List D) := match as with
  | [.int i, y] => if l.length < SZ ∧ 0 ≤ i ∧ i < 2 ^ 63 then some (.non, l.take i.toNat ++ [y] ++ l.drop i.toNat) else none
  | _ => none
theorem AtL.dropLast {K : PySem.W.Frag} {th : List Addr} {G : Hp} {l : List D} {vs : List V} (h : AtL K th G l vs) : AtL K th G l.dropLast vs.dropLast := by
  rw [List.dropLast_eq_take, List.dropLast_eq_take, h.length]
  exact h.take _
theorem semlm_app {K : PySem.W.Frag} : SemLM K rAppend lmApp := fun th G H a l as vs xs y l' Q q rl ra hf k => by
  unfold lmApp at hf
  split at hf
  · rename_i z
    split at hf
    · rename_i hz
      cases hf
      obtain ⟨v, rfl, hv⟩ := ra.one_of
      exact ⟨a, vs, v, rfl, rfl, q, by rw [rl.length, SZ_eq]; exact hz, k .non _ rfl (rl.append (.one hv))⟩
    · cases hf
  · cases hf
theorem semlm_pop {K : PySem.W.Frag} : SemLM K rPop lmPop := fun th G H a l as vs xs y l' Q q rl ra hf k => by
  unfold lmPop at hf
  split at hf
  · cases hy : l[l.length - 1]? with
    | none => rw [hy] at hf; cases hf
    | some z =>
      rw [hy] at hf
      cases hf
      cases ra
      obtain ⟨v, h1, h2⟩ := rl.get hy
      exact ⟨a, vs, v, rfl, rfl, q, by rw [rl.length]; exact h1, k _ _ h2 rl.dropLast⟩
  · cases hf
theorem semlm_popAt {K : PySem.W.Frag} : SemLM K rPopAt lmPopAt := fun th G H a l as vs xs y l' Q q rl ra hf k => by
  unfold lmPopAt at hf
  split at hf
  · rename_i i
    split at hf
    · rename_i hz
      cases hi : ixN l.length i with
      | none => rw [hi] at hf; cases hf
      | some j =>
        rw [hi] at hf
        dsimp only at hf
        cases hy : l[j]? with
        | none => rw [hy] at hf; cases hf
        | some z =>
          rw [hy] at hf
          cases hf
          obtain ⟨v, rfl, hv⟩ := ra.one_of
          cases hv
          obtain ⟨w, h1, h2⟩ := rl.get hy
          obtain ⟨e1, e2, e3, e4⟩ := ixN_seq hi
          have hz' : l.length ≤ 16777216 := hz
          exact ⟨a, vs, i, j, w, rfl, rfl, q, by omega, by omega, by rw [rl.length]; exact e1, h1, k _ _ h2 (rl.eraseIdx j)⟩
    · cases hf
  · cases hf
def rInsL : V → List V → Hp → VK → Prop := fun x vs H Q => ∃ (l : Addr) (xs : List V) (i : Int) (y : V), x = .ref l ∧ vs = [.int i, y] ∧ H l = some (.lst xs) ∧ xs.length < sizeLine ∧ 0 ≤ i ∧ i < 2 ^ 63 ∧
    Q .non (upd H l (.lst (xs.take i.toNat ++ [y] ++ xs.drop i.toNat)))
theorem semlm_ins {K : PySem.W.Frag} : SemLM K rInsL lmIns := fun th G H a l as vs xs y l' Q q rl ra hf k => by
  unfold lmIns at hf
  split at hf
  · rename_i i z
    split at hf
    · rename_i hz
      cases hf
      obtain ⟨v, w, rfl, hv, hw⟩ := two_at ra
      cases hv
      exact ⟨a, vs, i, w, rfl, rfl, q, by rw [rl.length, SZ_eq]; exact hz.1, hz.2.1, hz.2.2, k .non _ rfl (((rl.take _).append (.one hw)).append (rl.drop _))⟩
    · cases hf
  · cases hf
theorem ve_append (ho : VE X B W o to mo) (ha : VA X B W [a] ta ma) (hbase : attributeBase o "append" X.env (eval o X.env) = eval o X.env := by rfl)
    (hfew : ((backTo cpos (starEach [a] X.env)).all (fun x => !x.1) && (backToKw cpos (keywordEach [] X.env)).all (fun x => x.1.isSome)
      && decide (([a] : List Expr).length + ([] : List Keyword).length + (if ([] : List Keyword).isEmpty then 0 else 1) < 30)) = true := by rfl)
    (hline : (apos.endLine == cpos.line) = true := by rfl) (hs : starEach [a] X.env = (false, eval a X.env) :: starEach [] X.env := by rfl) :
    VE X B W (.Call (.Attribute o "append" apos) [a] [] cpos) (tBM X.K "list" rAppend to ta) (eLM lmApp mo ma) := ⟨pe_bm F.plainAttrs_list F.slot_list_append F.type_list_append mt_append ho.pe ha.pa hbase hfew hline hs rfl, sem_lm semlm_app ho.sem ha.sem⟩
theorem ve_popAt (ho : VE X B W o to mo) (ha : VA X B W [a] ta ma) (hbase : attributeBase o "pop" X.env (eval o X.env) = eval o X.env := by rfl)
    (hfew : ((backTo cpos (starEach [a] X.env)).all (fun x => !x.1) && (backToKw cpos (keywordEach [] X.env)).all (fun x => x.1.isSome)
      && decide (([a] : List Expr).length + ([] : List Keyword).length + (if ([] : List Keyword).isEmpty then 0 else 1) < 30)) = true := by rfl)
    (hline : (apos.endLine == cpos.line) = true := by rfl) (hs : starEach [a] X.env = (false, eval a X.env) :: starEach [] X.env := by rfl) :
    VE X B W (.Call (.Attribute o "pop" apos) [a] [] cpos) (tBM X.K "list" rPopAt to ta) (eLM lmPopAt mo ma) := ⟨pe_bm F.plainAttrs_list F.slot_list_pop F.type_list_pop mt_popAt ho.pe ha.pa hbase hfew hline hs rfl, sem_lm semlm_popAt ho.sem ha.sem⟩
theorem ve_insert {b : Expr} (ho : VE X B W o to mo) (ha : VA X B W [a, b] ta ma) (hbase : attributeBase o "insert" X.env (eval o X.env) = eval o X.env := by rfl)
    (hfew : ((backTo cpos (starEach [a, b] X.env)).all (fun x => !x.1) && (backToKw cpos (keywordEach [] X.env)).all (fun x => x.1.isSome)
      && decide (([a, b] : List Expr).length + ([] : List Keyword).length + (if ([] : List Keyword).isEmpty then 0 else 1) < 30)) = true := by rfl)
    (hline : (apos.endLine == cpos.line) = true := by rfl) (hs : starEach [a, b] X.env = (false, eval a X.env) :: starEach [b] X.env := by rfl) (hpl : (backTo cpos (starEach [b] X.env)).any (·.1) = false := by rfl) :
    VE X B W (.Call (.Attribute o "insert" apos) [a, b] [] cpos) (tBM X.K "list" rInsL to ta) (eLM lmIns mo ma) := ⟨pe_bm F.plainAttrs_list F.slot_list_insert F.type_list_insert mt_insert ho.pe ha.pa hbase hfew hline hs hpl, sem_lm semlm_ins ho.sem ha.sem⟩

theorem sem_lm0 {r : V → List V → Hp → VK → Prop} {f : List D → List D → Option (D × List D)} (hr : SemLM X.K r f) (ho : Sem X.K B W (relE X.K) to mo) : Sem X.K B W (relE X.K) (tBM0 X.K "list" r to) (eLM f mo aNil) := fun s th G σ H Q R P =>
  sem_lm (ta := tNil) hr ho (va_nil (X := X) (B := B) (W := W)).sem s th G σ H Q R P
theorem ve_pop (ho : VE X B W o to mo) (hbase : attributeBase o "pop" X.env (eval o X.env) = eval o X.env := by rfl) (hline : (apos.endLine == cpos.line) = true := by rfl) :
    VE X B W (.Call (.Attribute o "pop" apos) [] [] cpos) (tBM0 X.K "list" rPop to) (eLM lmPop mo aNil) := ⟨pe_bm0 F.plainAttrs_list F.slot_list_pop F.type_list_pop mt_pop ho.pe hbase hline, sem_lm0 semlm_pop ho.sem⟩

/-! ### del d[k] -/
def sDelM (mo mi : ME) : MS := fun s => (mo s).to fun d s => (mi s).to fun k s => match d with
  | .loc n => match s.m[n]?, keyOf k with
    | some (.dct l), some k => if (valD l k).isSome then .nx { s with m := s.m.set n (.dct (dropD l k)) } else .no
    | _, _ => .no
  | _ => .no
theorem vs_ddel (ho : VE X B W o to mo) (hi : VE X B W i ti mi) : VS X B W (.Delete [.Subscript o i tpos] pos) (sDDel to ti) (sDelM mo mi) := ⟨ps_ddel ho.pe hi.pe, fun s th G σ H Dn R P =>
  ho.sem s th G σ H _ R (P.to fun d s1 th1 G1 H1 vd l1 R1 r1 P1 => hi.sem s1 th1 G1 σ H1 _ R1 (P1.to fun k s2 th2 G2 H2 vk l2 R2 r2 P2 => by
    split at P2
    · rename_i n
      obtain ⟨a, hn, rfl⟩ := r1
      have hn2 := pre_get l2.pre hn
      split at P2
      · rename_i l kk hm hk
        split at P2
        · rename_i hv
          obtain ⟨g, kvs, q, rr1, rr2⟩ := R2.st n _ a hm hn2
          have rr : AtK X.K th2 G2 l kvs := ⟨rr1, rr2⟩
          cases key_at r2 hk
          refine ⟨a, kvs, kk, rfl, q, rfl, ?_, P2 th2 G2 _ σ (Le.put hn2) (R2.putDct hm hn2 q rr.drop)⟩
          have := rr.val kk
          cases e : valD l kk with
          | none => rw [e] at hv; cases hv
          | some z => rw [e] at this; obtain ⟨v, e', _⟩ := this; rw [e']; rfl
        · exact P2.elim
      · exact P2.elim
    · exact P2.elim))⟩
end
end VL
namespace VL
open PySem L2

/-! ### a walk over a dict of data -/
def kD : Key → D
  | .inl i => .int i
  | .inr x => .str x.cps.toList
def dItems (ks : List Key) (l : List D) : List D := pairs (ks.map kD) l
def dKeys (ks : List Key) (_ : List D) : List D := ks.map kD
def sForD (w : List Key → List D → List D) (i : Nat) (g : MG) (b : MS) : MS := fun s => (eTake i s).to fun d s => match d with
  | .dct ks l => forL g b (w ks l) s
  | _ => .no
structure Swp (G G' : Hp) : Prop where
  d : ∀ a kvs, Rd G a (.dK kvs) → Rd G' a (.dK kvs)
  l : ∀ a xs, G a = some (.lst xs) → G' a = some (.lst xs)
  rl : ∀ a xs, Rd G a (.lst xs) → Rd G' a (.lst xs)
  t : ∀ a xs, Rd G a (.tup xs) → Rd G' a (.tup xs)
section
variable {K : PySem.W.Frag} {B : Bs} {W : WX} {th th0 th1 : List Addr} {G G' H G0 H0 G1 H1 : Hp} {s s0 : S} {σ σ2 : St}
mutual
theorem At.swap (e : Swp G G') : ∀ {d : D} {v : V}, At K th G d v → At K th G' d v
  | .non, _, h => h
  | .bl _, _, h => h
  | .int _, _, h => h
  | .str _, _, h => h
  | .tup _, _, h => by obtain ⟨a, vs, e1, q, r⟩ := h; exact ⟨a, vs, e1, q.imp (e.t _ _) id, AtL.swap e r⟩
  | .lst _, _, h => by obtain ⟨a, vs, e1, q, r⟩ := h; exact ⟨a, vs, e1, e.l _ _ q, AtL.swap e r⟩
  | .dct _ _, _, h => by obtain ⟨a, vs, e1, q, z, r⟩ := h; exact ⟨a, vs, e1, e.d _ _ q, z, AtL.swap e r⟩
  | .scr _, _, h => by obtain ⟨a, e1, q⟩ := h; exact ⟨a, e1, q.imp (e.rl _ _) id⟩
  | .loc _, _, h => h
  | .obj _, _, h => h
theorem AtL.swap (e : Swp G G') : ∀ {l : List D} {vs : List V}, AtL K th G l vs → AtL K th G' l vs
  | [], _, h => h
  | _ :: _, _, h => by obtain ⟨v, r, e1, q, z⟩ := h; exact ⟨v, r, e1, At.swap e q, AtL.swap e z⟩
end
theorem swp_lock {a : Addr} {kvs : List (Key × V)} {od : Obj} (h : G a = some (.dK kvs)) : Swp G (upd G a (.frz od (.dK kvs))) where
  d := fun b ks r => by
    by_cases hb : b = a
    · subst hb
      rcases r with r | ⟨o, r⟩
      · rw [h] at r; cases r; exact .inr ⟨od, upd_same⟩
      · rw [h] at r; cases r
    · rcases r with r | ⟨o, r⟩
      · exact .inl (by rw [upd_ne hb]; exact r)
      · exact .inr ⟨o, by rw [upd_ne hb]; exact r⟩
  l := fun b xs r => by
    have hb : b ≠ a := fun z => by rw [z, h] at r; cases r
    rw [upd_ne hb]; exact r
  rl := fun b xs r => by
    have hb : b ≠ a := fun z => by
      rcases r with r | ⟨o, r⟩ <;> (rw [z, h] at r; cases r)
    rcases r with r | ⟨o, r⟩
    · exact .inl (by rw [upd_ne hb]; exact r)
    · exact .inr ⟨o, by rw [upd_ne hb]; exact r⟩
  t := fun b xs r => by
    have hb : b ≠ a := fun z => by
      rcases r with r | ⟨o, r⟩ <;> (rw [z, h] at r; cases r)
    rcases r with r | ⟨o, r⟩
    · exact .inl (by rw [upd_ne hb]; exact r)
    · exact .inr ⟨o, by rw [upd_ne hb]; exact r⟩
theorem swp_unlock {a : Addr} {kvs : List (Key × V)} {od : Obj} (h : G a = some (.frz od (.dK kvs))) : Swp G (upd G a (.dK kvs)) where
  d := fun b ks r => by
    by_cases hb : b = a
    · subst hb
      rcases r with r | ⟨o, r⟩
      · rw [h] at r; cases r
      · rw [h] at r; cases r; exact .inl upd_same
    · rcases r with r | ⟨o, r⟩
      · exact .inl (by rw [upd_ne hb]; exact r)
      · exact .inr ⟨o, by rw [upd_ne hb]; exact r⟩
  l := fun b xs r => by
    have hb : b ≠ a := fun z => by rw [z, h] at r; cases r
    rw [upd_ne hb]; exact r
  rl := fun b xs r => by
    have hb : b ≠ a := fun z => by
      rcases r with r | ⟨o, r⟩ <;> (rw [z, h] at r; cases r)
    rcases r with r | ⟨o, r⟩
    · exact .inl (by rw [upd_ne hb]; exact r)
    · exact .inr ⟨o, by rw [upd_ne hb]; exact r⟩
  t := fun b xs r => by
    have hb : b ≠ a := fun z => by
      rcases r with r | ⟨o, r⟩ <;> (rw [z, h] at r; cases r)
    rcases r with r | ⟨o, r⟩
    · exact .inl (by rw [upd_ne hb]; exact r)
    · exact .inr ⟨o, by rw [upd_ne hb]; exact r⟩
theorem ObAt.swap {H' : Hp} {a : Addr} {ob : Ob} (sw : Swp G G') (hg : ∀ b, G b = none → G' b = none) (keep : ∀ b o, G b = none → H b = some o → H' b = some o) (h : ObAt K th G H a ob) : ObAt K th G' H' a ob := by
  cases ob with
  | lst l => obtain ⟨g, vs, e1, q⟩ := h; exact ⟨hg _ g, vs, keep _ _ g e1, q.swap sw⟩
  | dct l => obtain ⟨g, vs, e1, z, q⟩ := h; exact ⟨hg _ g, vs, keep _ _ g e1, z, q.swap sw⟩
  | ins C l => obtain ⟨g, dx, vs, e1, z, q⟩ := h; exact ⟨hg _ g, dx, vs, keep _ _ g e1, z, q.swap sw⟩
  | dead => exact h
theorem Rep.swap {H' : Hp} (R : Rep K B th G s σ H) (sw : Swp G G') (hg : ∀ b, G b = none → G' b = none) (ex : Ex G' H') (tb : ∀ P, GxR.TabG H P → GxR.TabG H' P) (al : ∀ b, H b ≠ none → H' b ≠ none) (keep : ∀ b o, G b = none → H b = some o → H' b = some o) : Rep K B th G' s σ H' where
  len := R.len
  slot := fun i d e => by
    obtain ⟨v, h1, h2⟩ := R.slot i d e
    exact ⟨v, h1, h2.swap sw⟩
  eG := ex
  tb := fun P h => tb P (R.tb P h)
  tl := R.tl
  nd := R.nd
  al := fun a h => al a (R.al a h)
  st := fun n ob a e1 e2 => (R.st n ob a e1 e2).swap sw hg keep
theorem some_of_upd {a : Addr} {o : HO} {b : Addr} {X : Hp} (h : X b ≠ none) : upd X a o b ≠ none := by
  by_cases hb : b = a
  · rw [hb, upd_same]; exact fun z => by cases z
  · rw [upd_ne hb]; exact h
theorem tabG_upd {a P : Addr} {o o' : HO} (h : GxR.TabG H P) (ha : H a = some o) (ho : ∀ ps, o ≠ .tbl ps) : GxR.TabG (upd H a o') P := by
  obtain ⟨ps, e, t⟩ := h
  have : P ≠ a := fun z => by rw [z, ha] at e; exact ho ps (Option.some.inj e)
  exact ⟨ps, by rw [upd_ne this]; exact e, t⟩
section
variable {a : Addr} {kvs : List (Key × V)} {od : Obj}
/-- lock in the data alone, the heap locked -/
theorem Rep.frzG (R : Rep K B th G s σ H) (hG : G a = some (.dK kvs)) (hH : H a = some (.frz od (.dK kvs))) : Rep K B th (upd G a (.frz od (.dK kvs))) s σ H :=
  R.swap (swp_lock hG) (fun b g => by rw [upd_ne (fun z => by rw [z, hG] at g; cases g)]; exact g) (fun b o e => by
    by_cases hb : b = a
    · rw [hb, upd_same] at e; cases e; rw [hb, hH]; exact rfl
    · rw [upd_ne hb] at e; exact R.eG b o e) (fun _ h => h) (fun _ h => h) fun _ _ _ h => h
theorem Rep.thawG (R : Rep K B th G s σ H) (hG : G a = some (.frz od (.dK kvs))) : Rep K B th (upd G a (.dK kvs)) s σ H :=
  R.swap (swp_unlock hG) (fun b g => by rw [upd_ne (fun z => by rw [z, hG] at g; cases g)]; exact g) (fun b o e => by
    by_cases hb : b = a
    · rw [hb, upd_same] at e; cases e; rw [hb]; exact .inr ⟨od, R.eG a _ hG⟩
    · rw [upd_ne hb] at e; exact R.eG b o e) (fun _ h => h) (fun _ h => h) fun _ _ _ h => h
theorem Rep.lockH (R : Rep K B th G s σ H) (hG : G a = some (.dK kvs)) (hH : H a = some (.dK kvs)) : Rep K B th (upd G a (.frz od (.dK kvs))) s σ (upd H a (.frz od (.dK kvs))) :=
  R.swap (swp_lock hG) (fun b g => by rw [upd_ne (fun z => by rw [z, hG] at g; cases g)]; exact g) R.eG.both (fun P h => tabG_upd h hH fun _ z => nomatch z) (fun _ h => some_of_upd h) fun b o g h => by
    rw [upd_ne (fun z => by rw [z, hG] at g; cases g)]; exact h
theorem Rep.openH (R : Rep K B th G s σ H) (hG : G a = some (.frz od (.dK kvs))) : Rep K B th (upd G a (.dK kvs)) s σ (upd H a (.dK kvs)) :=
  have hH : H a = some (.frz od (.dK kvs)) := R.eG a _ hG
  R.swap (swp_unlock hG) (fun b g => by rw [upd_ne (fun z => by rw [z, hG] at g; cases g)]; exact g) R.eG.both (fun P h => tabG_upd h hH fun _ z => nomatch z) (fun _ h => some_of_upd h) fun b o g h => by
    rw [upd_ne (fun z => by rw [z, hG] at g; cases g)]; exact h
theorem Le.thaw {th' : List Addr} {G' H' Hf H2 : Hp} (hG : G a = some (.dK kvs)) (l : Le th (upd G a (.frz od (.dK kvs))) Hf th' G' H') (hf : ∀ b o, G b = none → H b = some o → Hf b = some o) (h2 : ∀ b, b ≠ a → H2 b = H' b) : Le th G H th' (upd G' a (.dK kvs)) H2 :=
  ⟨l.pre, fun b o e => by
    by_cases hb : b = a
    · rw [hb, hG] at e; cases e; rw [hb, upd_same]
    · rw [upd_ne hb]; exact l.ex b o (by rw [upd_ne hb]; exact e), fun b o e g n => by
    have hb : b ≠ a := fun z => by rw [z, hG] at g; cases g
    obtain ⟨h1, h3, h4⟩ := l.fr b o (hf b o g e) (by rw [upd_ne hb]; exact g) n
    exact ⟨by rw [h2 b hb]; exact h1, by rw [upd_ne hb]; exact h3, h4⟩⟩
theorem PostS.thaw {c : C} {Dn : Ends} (P : PostS K B W th G H c Dn) (hG : G a = some (.dK kvs)) : PostS K B W th (upd G a (.frz od (.dK kvs))) H c Dn := by
  have gf : ∀ {th' G' H'}, Le th (upd G a (.frz od (.dK kvs))) H th' G' H' → G' a = some (.frz od (.dK kvs)) := fun l => l.ex _ _ upd_same
  have le : ∀ {th' G' H'}, Le th (upd G a (.frz od (.dK kvs))) H th' G' H' → Le th G H th' (upd G' a (.dK kvs)) H' := fun l => l.thaw hG (fun _ _ _ h => h) fun _ _ => rfl
  cases c with
  | nx s => exact fun th' G' H' σ' l R => P th' _ H' σ' (le l) (R.thawG (gf l))
  | rt d s => exact fun th' G' H' σ' v l R r => P th' _ H' σ' v (le l) (R.thawG (gf l)) (r.swap (swp_unlock (gf l)))
  | bk s => exact fun th' G' H' σ' l R => P th' _ H' σ' (le l) (R.thawG (gf l))
  | ct s => exact fun th' G' H' σ' l R => P th' _ H' σ' (le l) (R.thawG (gf l))
  | ex e s => exact fun th' G' H' σ' cls d l R r => P th' _ H' σ' cls d (le l) (R.thawG (gf l)) ⟨r.1, r.2.imp id fun ⟨dd, fs, e1, e2, e3, e4⟩ => ⟨dd, fs, e1, e2, e3, e4.swap (swp_unlock (gf l))⟩⟩
  | no => exact P
theorem PostS.openL {c : C} {Dn : Ends} (P : PostS K B W th G H c Dn) (hG : G a = some (.dK kvs)) : PostS K B W th (upd G a (.frz od (.dK kvs))) (upd H a (.frz od (.dK kvs))) c
    ⟨fun σ' H' => H' a = some (.frz od (.dK kvs)) ∧ Dn.nx σ' (upd H' a (.dK kvs)), fun v H' => H' a = some (.frz od (.dK kvs)) ∧ Dn.rt v (upd H' a (.dK kvs)), fun σ' H' => H' a = some (.frz od (.dK kvs)) ∧ Dn.bk σ' (upd H' a (.dK kvs)), fun σ' H' => H' a = some (.frz od (.dK kvs)) ∧ Dn.ct σ' (upd H' a (.dK kvs))⟩ := by
  have gf : ∀ {th' G' H'}, Le th (upd G a (.frz od (.dK kvs))) (upd H a (.frz od (.dK kvs))) th' G' H' → G' a = some (.frz od (.dK kvs)) := fun l => l.ex _ _ upd_same
  have hf : ∀ b o, G b = none → H b = some o → upd H a (.frz od (.dK kvs)) b = some o := fun b o g h => by
    rw [upd_ne (fun z => by rw [z, hG] at g; cases g)]; exact h
  have le : ∀ {th' G' H'}, Le th (upd G a (.frz od (.dK kvs))) (upd H a (.frz od (.dK kvs))) th' G' H' → Le th G H th' (upd G' a (.dK kvs)) (upd H' a (.dK kvs)) := fun l => l.thaw hG hf fun b hb => upd_ne hb
  have le2 : ∀ {th' G' H'}, Le th (upd G a (.frz od (.dK kvs))) (upd H a (.frz od (.dK kvs))) th' G' H' → Le th G H th' (upd G' a (.dK kvs)) H' := fun l => l.thaw hG hf fun _ _ => rfl
  cases c with
  | nx s => exact fun th' G' H' σ' l R => ⟨R.eG _ _ (gf l), P th' _ _ σ' (le l) (R.openH (gf l))⟩
  | rt d s => exact fun th' G' H' σ' v l R r => ⟨R.eG _ _ (gf l), P th' _ _ σ' v (le l) (R.openH (gf l)) (r.swap (swp_unlock (gf l)))⟩
  | bk s => exact fun th' G' H' σ' l R => ⟨R.eG _ _ (gf l), P th' _ _ σ' (le l) (R.openH (gf l))⟩
  | ct s => exact fun th' G' H' σ' l R => ⟨R.eG _ _ (gf l), P th' _ _ σ' (le l) (R.openH (gf l))⟩
  | ex e s => exact fun th' G' H' σ' cls d l R r => P th' _ H' σ' cls d (le2 l) (R.thawG (gf l)) ⟨r.1, r.2.imp id fun ⟨dd, fs, e1, e2, e3, e4⟩ => ⟨dd, fs, e1, e2, e3, e4.swap (swp_unlock (gf l))⟩⟩
  | no => exact P
end
theorem kD_at {k : Key} : At K th G (kD k) (kV k) := by
  cases k with
  | inl i => rfl
  | inr x => obtain ⟨c⟩ := x; rfl
theorem relI_items {d : Addr} {o : Obj} {kvs : List (Key × V)} {ks : List Key} {l : List D} (q : ∀ th1 G1 H1, Le th G H th1 G1 H1 → Ex G1 H1 → H1 d = some (.frz o (.dK kvs))) (hk : kvs.map (·.1) = ks) (r : AtL K th G l (kvs.map (·.2))) : relI K H0 th G H (dItems ks l) (Iti d o kvs) := fun th1 G1 H1 i le ex => by
  have q1 := q th1 G1 H1 le ex
  have hl := r.length
  have hlen : (dItems ks l).length = kvs.length := by
    rw [← hk]; simp [dItems, pairs] at hl ⊢; omega
  refine ⟨fun hi => ⟨q1, by omega⟩, fun x hx => ?_⟩
  have hlt : i < kvs.length := by
    have := (List.getElem?_eq_some_iff.mp hx).1
    omega
  refine ⟨⟨q1, hlt⟩, fun z H2 y => ?_⟩
  obtain ⟨T, k, v, h1, rfl, hT, rfl⟩ := y
  obtain ⟨x1, y1, e1, e2, rfl⟩ := pairs_get hx
  rw [← hk] at e1
  simp [h1] at e1
  subst e1
  obtain ⟨w, h3, h4⟩ := (r.mono le.pre le.ex).get e2
  simp [h1] at h3
  subst h3
  exact ⟨_, .inr ⟨T, _, hT, rfl, rfl⟩, at_pair kD_at h4 hT ex⟩
theorem relI_keys {d : Addr} {o : Obj} {kvs : List (Key × V)} {ks : List Key} {l : List D} (q : ∀ th1 G1 H1, Le th G H th1 G1 H1 → Ex G1 H1 → H1 d = some (.frz o (.dK kvs))) (hk : kvs.map (·.1) = ks) (r : AtL K th G l (kvs.map (·.2))) : relI K H0 th G H (dKeys ks l) (Itk d o kvs) := fun th1 G1 H1 i le ex => by
  have q1 := q th1 G1 H1 le ex
  have hlen : (dKeys ks l).length = kvs.length := by rw [← hk]; simp [dKeys]
  refine ⟨fun hi => ⟨q1, by omega⟩, fun x hx => ?_⟩
  have hlt : i < kvs.length := by
    have := (List.getElem?_eq_some_iff.mp hx).1
    omega
  refine ⟨⟨q1, hlt⟩, fun z H2 y => ?_⟩
  obtain ⟨rfl, k, v, h1, rfl⟩ := y
  simp only [dKeys, ← hk] at hx
  simp [h1] at hx
  subst hx
  exact ⟨_, .inl ⟨rfl, rfl⟩, kD_at⟩
theorem PS.or {X : Cx} {st : Stmt} {t u : TS} (h : PS X st t) (k : PS X st u) : PS X st (fun D σ H => t D σ H ∨ u D σ H) := ⟨fun pins s σ H D I hw => by
  rcases hw with hw | hw
  · exact h.run pins s σ H D I hw
  · exact k.run pins s σ H D I hw⟩
/-- a walker of a locked dict -/
def WalkD (K : PySem.W.Frag) (w : List Key → List D → List D) (wi : TI) (i : Nat) : Prop := ∀ (σ : St) (a : Addr) (H : Hp) (od : Obj) (kvs : List (Key × V)) (R : It → Hp → Prop), σ[i]? = some (some (.ref a)) → H a = some (.frz od (.dK kvs)) →
  (∀ J, (∀ th G l H0, (∀ th1 G1 H1, Le th G H th1 G1 H1 → Ex G1 H1 → H1 a = some (.frz od (.dK kvs))) → AtL K th G l (kvs.map (·.2)) → relI K H0 th G H (w (kvs.map (·.1)) l) J) → R J H) → wi σ H R
theorem walkd_items {i : Nat} : WalkD K dItems (iItems (tVar i)) i := fun σ a H od kvs R hs hH k => ⟨.ref a, hs, a, od, kvs, rfl, hH, k _ fun th G l H0 q r => relI_items q rfl r⟩
theorem walkd_keys {i : Nat} : WalkD K dKeys (iKeys (tVar i)) i := fun σ a H od kvs R hs hH k => ⟨.ref a, hs, a, od, rfl, .inl ⟨kvs, hH, k _ fun th G l H0 q r => relI_keys q rfl r⟩⟩
theorem sem_forD {X : Cx} {w : List Key → List D → List D} {wi : TI} {i : Nat} {g : TG} {tb : TS} {mg : MG} {mb : MS} (he : Sem K B W (relE K) (tVar i) (eTake i)) (hw : WalkD K w wi i) (hg : SemG K B W g mg) (hok : GOk mg) (hb : SemS K B W tb mb) :
    SemS K B W (fun D σ H => tFor wi g tb D σ H ∨ tLock (tFor wi g tb) D σ H) (sForD w i mg mb) := fun s th G σ H Dn R P => by
  cases hm : eTake i s with
  | no => unfold sForD at P; rw [hm] at P; exact P.elim
  | ex e s' =>
    unfold eTake at hm
    split at hm
    · split at hm
      · cases hm
      · cases hm
      · cases hm
    · cases hm
    · cases hm
  | ok q =>
    obtain ⟨d, s1⟩ := q
    have h0 := he s th G σ H (fun v H' => ∃ th1 G1, Le th G H th1 G1 H' ∧ Rep K B th1 G1 s1 σ H' ∧ At K th1 G1 d v) R (by rw [hm]; exact fun th' G' H' b l R r => ⟨th', G', l, R, r⟩)
    obtain ⟨v, hs, th1, G1, l1, R1, r1⟩ := h0
    unfold sForD at P
    rw [hm] at P
    simp only [VL.R.to_ok] at P
    cases d with
    | dct ks l =>
      obtain ⟨a, kvs, rfl, q, rfl, r⟩ := r1
      dsimp only at P
      have P1 := P.later l1
      rcases q with hG | ⟨od, hG⟩
      · rcases R1.eG a _ hG with hH | ⟨od, hH⟩
        · refine .inr ⟨a, _, hH, True.intro, fun od => ?_⟩
          have R2 := R1.lockH (od := od) hG hH
          have hg1 : upd G1 a (.frz od (.dK kvs)) a = some (.frz od (.dK kvs)) := upd_same
          exact hw σ a _ od kvs _ hs upd_same fun J hJ => for_core hg hok hb (hJ th1 _ l (fun _ => none) (fun th2 G2 H2 l2 ex => ex _ _ (l2.ex _ _ hg1)) (r.swap (swp_lock hG))) (Le.refl _ _ _) R2 (P1.openL hG)
        · have hg1 : upd G1 a (.frz od (.dK kvs)) a = some (.frz od (.dK kvs)) := upd_same
          exact .inl (hw σ a _ od kvs _ hs hH fun J hJ => for_core hg hok hb (hJ th1 _ l (fun _ => none) (fun th2 G2 H2 l2 ex => ex _ _ (l2.ex _ _ hg1)) (r.swap (swp_lock hG))) (Le.refl _ _ _) (R1.frzG hG hH) (P1.thaw hG))
      · exact .inl (hw σ a _ od kvs _ hs (R1.eG _ _ hG) fun J hJ => for_core hg hok hb (hJ th1 G1 l (fun _ => none) (fun th2 G2 H2 l2 ex => ex _ _ (l2.ex _ _ hG)) r) (Le.refl _ _ _) R1 P1)
    | _ => exact P.elim
end
section
variable {X : Cx} {B : Bs} {W : WX} {tg : Expr} {pos p2 apos cpos tpos : Pos} {body : List Stmt} {tb : TS} {mb : MS} {g : TG} {mg : MG} {x : Str}
theorem vs_forKeys (i : Nat) (hp : PassesOwn (model X.prog X.w) X.A X.env X.xe) (hc : X.calm = true) (he : VE X B W (.Name x pos) (tVar i) (eTake i)) (hg : VG X B W tg g mg) (hok : GOk mg) (hb : VSs X B W body tb mb) (hs : ∀ v, foldedSetIterable (.Name x pos) X.env v = pure v := by intro _; rfl) :
    VS X B W (.For tg (.Name x pos) body [] p2) (fun D σ H => tFor (iKeys (tVar i)) g tb D σ H ∨ tLock (tFor (iKeys (tVar i)) g tb) D σ H) (sForD dKeys i mg mb) :=
  have h := ps_for hp hc (pi_keys he.pe) hg.pg hb.ps hs
  ⟨PS.or h (ps_lock h), sem_forD (X := X) he.sem walkd_keys hg.sem hok hb.sem⟩
theorem vs_forItems {elts : List Expr} {kk : Nat} (i : Nat) (hp : PassesOwn (model X.prog X.w) X.A X.env X.xe) (hc : X.calm = true) (he : VE X B W (.Name x pos) (tVar i) (eTake i)) (hg : VG X B W (.Tuple elts kk tpos) g mg) (hok : GOk mg) (hb : VSs X B W body tb mb)
    (hbase : attributeBase (.Name x pos) "items" X.env (eval (.Name x pos) X.env) = eval (.Name x pos) X.env := by rfl) (hline : (apos.endLine == cpos.line) = true := by rfl) (hs : ∀ v, foldedSetIterable (.Call (.Attribute (.Name x pos) "items" apos) [] [] cpos) X.env v = pure v := by intro _; rfl) :
    VS X B W (.For (.Tuple elts kk tpos) (.Call (.Attribute (.Name x pos) "items" apos) [] [] cpos) body [] p2) (fun D σ H => tFor (iItems (tVar i)) g tb D σ H ∨ tLock (tFor (iItems (tVar i)) g tb) D σ H) (sForD dItems i mg mb) :=
  have h := ps_for hp hc (pi_items he.pe hbase hline) hg.pg hb.ps hs
  ⟨PS.or h (ps_lock h), sem_forD (X := X) he.sem walkd_items hg.sem hok hb.sem⟩
end
end VL
/-! all, any of a generator expression over a tuple or a list; the element is quiet -/
namespace GW
open PySem PySem.Spec PyProof.Rows L2 GxR

/-- the element at the item v answers b, whatever runs it, while all but the table stands as in sA -/
def EltQ (X : Cx) (P : Addr) (scope : Scope) (x : Str) (elt : Expr) (Bq : L2.St → Hp → V → Bool → Prop) : Prop :=
  ∀ (pins : List (Addr × Obj)) (σ : L2.St) (HA : Hp) (sA : Shared) (ce : Env) (A' : Around) (E' : Value → Shared → Prop) (v : V) (u : Value) (b : Bool) (sB : Shared) (mB : Str → Option Value),
    Inv X pins σ HA sA → ce.scope = scope → ce.globals = X.env.globals → ce.cells = cloFrom X.env.cells scope.names [] → A'.handled = none →
    (∀ q o, q ≠ P → sA.heap.get? q = some o → sB.heap.get? q = some o) → sB.heap.Ns ce.locals mB → mB x = some u → RelV v u → Bq σ HA v b →
    wpAny (model X.prog X.w) A' (eval elt ce) (fun y sC => y = .bool b ∧ Keeps sB sC) E' sB

def bAt (bs : List Bool) (j : Nat) : Bool := (bs[j]?).getD false
theorem all_bAt (bs : List Bool) : (List.range bs.length).all (bAt bs) = bs.all id := by
  rw [Bool.eq_iff_iff, List.all_eq_true, List.all_eq_true]
  constructor
  · intro h b hb
    obtain ⟨j, hj, rfl⟩ := List.getElem_of_mem hb
    have := h j (List.mem_range.mpr hj)
    simpa [bAt, hj] using this
  · intro h j hj
    have hj' := List.mem_range.mp hj
    have := h bs[j] (List.getElem_mem hj')
    simpa [bAt, hj'] using this
theorem any_bAt (bs : List Bool) : (List.range bs.length).any (bAt bs) = bs.any id := by
  rw [Bool.eq_iff_iff, List.any_eq_true, List.any_eq_true]
  constructor
  · rintro ⟨j, hj, h⟩
    have hj' := List.mem_range.mp hj
    refine ⟨bs[j], List.getElem_mem hj', ?_⟩
    simpa [bAt, hj'] using h
  · rintro ⟨b, hb, h⟩
    obtain ⟨j, hj, rfl⟩ := List.getElem_of_mem hb
    exact ⟨j, List.mem_range.mpr hj, by simpa [bAt, hj] using h⟩

section
variable {X : Cx} {pins : List (Addr × Obj)} {σ : L2.St} {H : Hp} {s : Shared}
/-- the generator at g in sE, to be walked -/
def Set1 (X : Cx) (pins : List (Addr × Obj)) (σ : L2.St) (HA : Hp) (P : Addr) (bs : List Bool) (g : Addr) (sE : Shared) : Prop :=
  ∃ (fp wr : List Addr) (G : Array GenState → Array GenState → Prop) (F : Nat → Value → Prop) (St : Nat → Shared → Prop),
    WalksS X.prog X.w X.A.in1 g fp wr G bs.length F St ∧ St 0 sE ∧ TruthOf X.prog X.w X.A.in1 F (bAt bs) ∧ ∀ s', Moved wr G sE s' → ∃ HB, Tabbed P HA HB ∧ Inv X pins σ HB s'

theorem walks_mono {prog : Program} {w : World} {A : Around} {I : Addr} {fp wr : List Addr} {n : Nat} {P P' : Nat → Value → Prop} {St : Nat → Heap → Prop} (W : Walks prog w A I fp wr n P St) (hP : ∀ i v, i < n → P i v → P' i v) : Walks prog w A I fp wr n P' St :=
  ⟨W.sub, W.frame, fun i s Q E hi st k => W.item i s Q E hi st fun v h' tk p => k v h' tk (hP i v hi p), W.done, W.self⟩
/-- walks of a tuple, of a list -/
theorem src {a : Addr} {vs : List V} {HA : Hp} {sA : Shared} {Q : Value → Shared → Prop} (I : Inv X pins σ HA sA) (h : SqL X.K HA a vs ∨ SqT X.K HA a vs)
    (k : ∀ (o : Obj) (St : Nat → Heap → Prop), (∀ A' : Around, A'.handled = none → Walks X.prog X.w A' sA.heap.objs.size [sA.heap.objs.size, a] [sA.heap.objs.size] vs.length (fun i y => ∃ z, vs[i]? = some z ∧ RelV z y) St) → St 0 (sA.heap.push o) →
      a < sA.heap.objs.size → Q (.ref sA.heap.objs.size) { sA with heap := sA.heap.push o }) : wpAny (model X.prog X.w) X.A (pyIter (.ref a)) Q X.xe sA := by
  rcases h with h | h
  · obtain ⟨its, rv, p, _⟩ := I.list h
    have pl : sA.heap.IsList a its.toArray := p.isList
    have hlt : a < sA.heap.objs.size := p.lt
    refine wpAny_pyIter_list pl (k _ (fun i h => h.IsListIter sA.heap.objs.size a i ∧ h.IsList a its.toArray) (fun A' hA => ?_) ⟨⟨_, Heap.get?_push_size _ rfl, rfl, rfl⟩, pl.push _⟩ hlt)
    have W := walks_mono (Walks.list (prog := X.prog) (w := X.w) (A := A') hA sA.heap.objs.size a (Nat.ne_of_lt hlt) its.toArray) (P' := fun i y => ∃ z, vs[i]? = some z ∧ RelV z y) fun i v hi e => ?_
    · have e9 : its.toArray.size = vs.length := by rw [rv.length]; exact List.size_toArray
      rw [e9] at W
      exact W
    · rw [List.getElem?_toArray] at e
      have hi' : i < vs.length := by rw [rv.length]; exact (List.getElem?_eq_some_iff.mp e).1
      obtain ⟨u, hu, ru⟩ := rv.get (List.getElem?_eq_getElem hi')
      rw [e] at hu; cases hu
      exact ⟨_, List.getElem?_eq_getElem hi', ru⟩
  · obtain ⟨its, rv, p, _⟩ := I.tuple h
    have pl : sA.heap.IsTuple a its.toArray := p
    have hlt : a < sA.heap.objs.size := by obtain ⟨o, ho, _⟩ := id p; exact Heap.lt_size ho
    refine wpAny_pyIter_tuple pl (k _ (fun i h => h.IsTupleIter sA.heap.objs.size a i ∧ h.IsTuple a its.toArray) (fun A' hA => ?_) ⟨⟨_, Heap.get?_push_size _ rfl, rfl, rfl⟩, pl.push _⟩ hlt)
    have W := walks_mono (Walks.tuple (prog := X.prog) (w := X.w) (A := A') hA sA.heap.objs.size a (Nat.ne_of_lt hlt) its.toArray) (P' := fun i y => ∃ z, vs[i]? = some z ∧ RelV z y) fun i v hi e => ?_
    · have e9 : its.toArray.size = vs.length := by rw [rv.length]; exact List.size_toArray
      rw [e9] at W
      exact W
    · rw [List.getElem?_toArray] at e
      have hi' : i < vs.length := by rw [rv.length]; exact (List.getElem?_eq_some_iff.mp e).1
      obtain ⟨u, hu, ru⟩ := rv.get (List.getElem?_eq_getElem hi')
      rw [e] at hu; cases hu
      exact ⟨_, List.getElem?_eq_getElem hi', ru⟩

theorem gen_seq {c P : Addr} {elt iter : Expr} {x : Str} {px gp : Pos} {scope : Scope} {Bq : L2.St → Hp → V → Bool → Prop} {te : TE} {k : Nat} {QQ : Value → Shared → Prop} {RR : List Bool → Hp → Prop}
    (hr : Room k X.A) (TB : TabB X.base X.mg c P) (hcode : X.env.code = .ref c) (S : GenS X.env scope x) (hi : PE X iter te) (hel : EltQ X P scope x elt Bq) (hfo : ∀ v, genFold iter X.env v = pure v) (I : Inv X pins σ H s)
    (h : te σ H fun v HA => ∃ a vs bs, v = .ref a ∧ (SqL X.K HA a vs ∨ SqT X.K HA a vs) ∧ bs.length = vs.length ∧ (∀ (i : Nat) z b, vs[i]? = some z → bs[i]? = some b → Bq σ HA z b) ∧ TabG HA P ∧ RR bs HA)
    (hQ : ∀ bs HA g sE, RR bs HA → Set1 X pins σ HA P bs g sE → QQ (.ref g) sE) :
    wpAny (model X.prog X.w) X.A (eval (.GeneratorExp elt [⟨.Name x px, iter, [], 0⟩] scope gp) X.env) QQ X.xe s := by
  refine wpAny_GeneratorExp_walksQ hr.hd S.co (closure_ok S.free) S.cell S.dot S.loc S.kind (by have := hr.dp; omega) (thn (hi.run pins s σ H _ I h) fun xv sA ⟨v, HA, IA, rA, a, vs, bs, ev, hsq, hbl, hbq, ⟨ps, hP, ht⟩, qA⟩ => ?_) hfo
  subst ev
  obtain rfl : xv = Value.ref a := rA
  refine src IA hsq fun o St W hst haS => ?_
  have tP : sA.heap.get? P = some { cls := .none, data := .fields ps } := IA.hok P _ hP
  have ltP : P < sA.heap.objs.size := Heap.lt_size tP
  have tP2 : (sA.heap.push o).get? P = some { cls := .none, data := .fields ps } := Heap.get?_push_of_some _ tP
  have hd2 : PySem.W.CodeHd (sA.heap.push o) c P := TB.code.keeps fun b u e => Heap.get?_push_of_some _ (IA.bk b u e)
  have nl2 : (sA.heap.push o).NoLimit := IA.nolimit.push o
  have szp : (sA.heap.push o).objs.size = sA.heap.objs.size + 1 := Heap.size_push ..
  have go : ∀ (code : Value) (hC : Heap) (tk : Nat) (ps' : Array Value), Heap.ExtBut P (sA.heap.push o) hC → (sA.heap.push o).objs.size ≤ hC.objs.size → hC.get? P = some { cls := .none, data := .fields ps' } → (∃ more, ps' = ps ++ more) → TriplesOk ps'.toList →
      wpAny (model X.prog X.w) X.A (builtinsFor X.env.globals X.env.builtins) (fun bi sD =>
        ∃ Ia fp wr n₀ Pf St₀ pz F, Value.ref sA.heap.objs.size = .ref Ia ∧ (∀ A' : Around, A'.handled = none → Walks X.prog X.w A' Ia fp wr n₀ Pf St₀) ∧ St₀ 0 sD.heap ∧ (∀ b ∈ fp, b < sD.heap.objs.size) ∧ sD.heap.NoLimit ∧ cStatics ∉ wr ∧
          (∀ hr2 : Heap, (∀ b o, sD.heap.get? b = some o → hr2.get? b = some o) →
            QuietGen X.prog X.w (genEnv scope (cloFrom X.env.cells scope.names []) sD.heap.objs.size code bi X.env) x [] elt (List.range sD.heap.objs.size) wr Pf pz F hr2) ∧
          (∀ g hE tkE gs, gs.bare = true → sD.heap.objs.size < g → hE.objs.size = g + 1 → (∀ b o, sD.heap.get? b = some o → hE.get? b = some o) →
            WalksS X.prog X.w X.A.in4 g (g :: sD.heap.objs.size :: List.range sD.heap.objs.size) (sD.heap.objs.size :: wr) (GenOnlyQ sD.gens.size) (passing pz n₀ 0).length
              (fun j y => ∃ i, (passing pz n₀ 0)[j]? = some i ∧ F i y) (GenAt X.prog X.w X.A.in4 g sD.gens.size sD.heap.objs.size (List.range sD.heap.objs.size) wr pz n₀ F) →
            GenAt X.prog X.w X.A.in4 g sD.gens.size sD.heap.objs.size (List.range sD.heap.objs.size) wr pz n₀ F 0 { sD with gens := sD.gens.push gs, toks := tkE, heap := hE } →
            QQ (.ref g) { sD with gens := sD.gens.push gs, toks := tkE, heap := hE })) X.xe { sA with heap := hC, toks := tk } := by
    intro code hC tk ps' ext hsz tC hmore htC
    obtain ⟨bm, ob, e1, e2, e3, e4, e5, e6, e7, e8⟩ := TB.bm
    have ncP : cStatics ≠ P := fun e => by
      obtain ⟨_, hns, _⟩ := IA.nolimit
      obtain ⟨o', es, ep, ho, hd, _⟩ := hns
      rw [e, tP] at ho
      cases ho
      cases hd
    have ncl : cStatics < sA.heap.objs.size := let ⟨_, hns, _⟩ := IA.nolimit; hns.lt
    have kC : ∀ b u, b ≠ P → sA.heap.get? b = some u → hC.get? b = some u := fun b u hb e => ext b u hb (Heap.get?_push_of_some _ e)
    refine wpAny_builtinsFor (m := X.mg) (by rw [IA.ok.glob]; exact ((IA.mod.glob.keeps IA.bk).push o).extBut ext TB.gP) e1 e2 (kC _ _ e4 (IA.bk _ _ e5)) e6 e7 e8 ?_
    have two : ∀ b ∈ [sA.heap.objs.size, a], b = sA.heap.objs.size ∨ b = a := fun b hb => by simpa using hb
    have naP : a ≠ P := fun z => by
      rcases hsq with q | q
      · obtain ⟨its, rv, p, _⟩ := IA.list q
        obtain ⟨o', ho, hc, _⟩ := p.isList
        rw [z, tP] at ho
        cases ho
        cases hc
      · obtain ⟨its, rv, p, _⟩ := IA.tuple q
        obtain ⟨o', ho, hc, _⟩ := id p
        rw [z, tP] at ho
        cases ho
        cases hc
    refine ⟨sA.heap.objs.size, _, [sA.heap.objs.size], vs.length, _, St, (fun _ => true), (fun i y => ∃ b, bs[i]? = some b ∧ y = .bool b), rfl, W, ?_, ?_, nl2.extBut ext ncP, ?_, ?_, ?_⟩
    · refine (W X.A hr.hd).frame _ _ _ hst fun b hb u e => ext b u (fun z => ?_) e
      rcases two b hb with z2 | z2
      · exact Nat.ne_of_lt ltP (z.symm.trans z2)
      · exact naP (z2.symm.trans z)
    · intro b hb
      show b < hC.objs.size
      have hlC : sA.heap.objs.size < hC.objs.size := by rw [szp] at hsz; exact hsz
      rcases two b hb with z | z
      · rw [z]; exact hlC
      · rw [z]; exact Nat.lt_trans haS hlC
    · intro z
      have e9 : cStatics = sA.heap.objs.size := by simpa using z
      rw [e9] at ncl
      exact Nat.lt_irrefl _ ncl
    · intro hr2 hrk
      refine ⟨fun A' E' i v s₂ m₂ hA hPv hn hm hk => by simp only [List.forIn_nil]; exact wpAny_pure ⟨rfl, keeps_refl _⟩, fun A' E' i v s₂ m₂ hA hPv hp hn hm hk => ?_⟩
      obtain ⟨z, hz, rz⟩ := hPv
      have hlt : i < bs.length := by rw [hbl]; exact (List.getElem?_eq_some_iff.mp hz).1
      refine wpAny_mono (hel pins σ HA sA _ A' E' z v bs[i] s₂ m₂ IA rfl rfl rfl hA (fun q oq hq e => ?_) hn hm rz (hbq i z _ hz (List.getElem?_eq_getElem hlt))) (fun y s3 r => ⟨⟨_, List.getElem?_eq_getElem hlt, r.1⟩, r.2⟩) fun _ _ e => e
      have hql := Heap.lt_size e
      have hlC : sA.heap.objs.size < hC.objs.size := by rw [szp] at hsz; exact hsz
      refine hk q (List.mem_range.mpr (Nat.lt_trans hql hlC)) (fun zz => ?_) oq (hrk q oq (kC q oq hq e))
      have e9 : q = sA.heap.objs.size := by simpa using zz
      rw [e9] at hql
      exact Nat.lt_irrefl _ hql
    · intro g hE tkE gs hgb hag hszE hkE WE hat
      simp only [GxR.passing_true, List.length_range] at WE
      rw [← hbl] at WE hat
      refine hQ bs HA g _ qA ⟨_, _, _, _, _, WE.in4_1, hat, ?_, fun s' hm => ?_⟩
      · intro j y sj Qj Ej hy hQj
        obtain ⟨i, hij, b, hb, rfl⟩ := hy
        obtain ⟨hj, ej⟩ := List.getElem?_eq_some_iff.mp hij
        rw [List.getElem_range] at ej
        subst ej
        have hQ2 : Qj (bAt bs j) sj := hQj
        unfold bAt at hQ2
        rw [hb] at hQ2
        exact wpAny_truthy_bool hQ2
      · obtain ⟨more, em⟩ := hmore
        have nwr : ∀ b u, sA.heap.get? b = some u → b ∉ hC.objs.size :: [sA.heap.objs.size] := fun b u e hb => by
          have hl := Heap.lt_size e
          have hlC : sA.heap.objs.size < hC.objs.size := by rw [szp] at hsz; exact hsz
          rcases (show b = hC.objs.size ∨ b = sA.heap.objs.size by simpa using hb) with z | z
          · rw [z] at hl; exact Nat.lt_irrefl _ (Nat.lt_trans hl hlC)
          · rw [z] at hl; exact Nat.lt_irrefl _ hl
        have J := inv_tab (more := more) (h' := s'.heap) (g' := s'.gens) (d' := s'.drawn) (t' := s'.toks) IA hP (fun b u hb e => hm.heap b u (nwr b u e) (hkE b u (kC b u hb e)))
          (by rw [← em]; exact hm.heap P _ (nwr P _ tP) (hkE P _ tC)) (AllBare.movedS (IA.bare.push hgb) hm)
        rw [sh_eta sA s' hm.os] at J
        exact ⟨upd HA P (.tbl (ps ++ more)), ⟨⟨ps ++ more, upd_same, by rw [← em]; exact htC⟩, fun b hb => upd_ne hb⟩, J⟩
  refine ⟨nl2, ?_⟩
  cases hf : codeAmong gp ps.toList with
  | none =>
    refine wpAny_genexprCodeX hcode (hd2.code tP2 ht) (hd2.tab tP2) hf fun c' h' tk hx hge hlt hco' _ htab' _ => ?_
    obtain ⟨o1, vv, f1, tf, fl, tg, inF, tx, tt, op, _, _, _, _, _, _, _, _, _, htr, _⟩ := hco'
    exact go _ h' tk _ hx (Nat.le_trans hge (Nat.le_of_lt hlt)) htab'.2 ⟨_, rfl⟩ htr
  | some cv =>
    refine wpAny_genexprCode_hit hcode (hd2.code tP2 ht) hf ?_
    exact go cv (sA.heap.push o) sA.toks ps (Heap.ExtBut.refl _ _) (Nat.le_refl _) tP2 ⟨#[], by simp⟩ ht
def tQ (K : PySem.W.Frag) (P : Addr) (Bq : L2.St → Hp → V → Bool → Prop) (f : List Bool → Bool) (te : TE) : TE := fun σ H Q => te σ H fun v HA => ∃ a vs bs, v = .ref a ∧ (SqL K HA a vs ∨ SqT K HA a vs) ∧ bs.length = vs.length ∧ (∀ (i : Nat) z b, vs[i]? = some z → bs[i]? = some b → Bq σ HA z b) ∧ TabG HA P ∧
  ∀ HB, Tabbed P HA HB → Q (.bl (f bs)) HB
theorem pe_all {c P : Addr} {elt iter : Expr} {x : Str} {px p pos gp : Pos} {scope : Scope} {Bq : L2.St → Hp → V → Bool → Prop} {te : TE} {k : Nat}
    (hr : Room k X.A) (hg : Gl X "all") (hm : X.mg "all" = none) (hbt : bootBuiltins "all" = some (.builtin "all")) (TB : TabB X.base X.mg c P) (hcode : X.env.code = .ref c) (S : GenS X.env scope x) (hi : PE X iter te) (hel : EltQ X P scope x elt Bq) (hfo : ∀ v, genFold iter X.env v = pure v)
    (he : starEach [.GeneratorExp elt [⟨.Name x px, iter, [], 0⟩] scope gp] X.env = (false, eval (.GeneratorExp elt [⟨.Name x px, iter, [], 0⟩] scope gp) X.env) :: starEach [] X.env := by rfl) :
    PE X (.Call (.Name "all" p) [.GeneratorExp elt [⟨.Name x px, iter, [], 0⟩] scope gp] [] pos) (tQ X.K P Bq (fun bs => bs.all id) te) := by
  refine ⟨fun pins s σ H Q I h => ?_⟩
  refine wpAny_Call_Name_kw (ld_blt I hg hm hbt (PyProof.Rows.callWith_builtin1 ?_ he (by rfl)))
  rw [he]
  refine Calls.spliced_cons (gen_seq (RR := fun bs HA => ∀ HB, Tabbed P HA HB → Q (.bl (bs.all id)) HB) hr TB hcode S hi hel hfo I h fun bs HA g sE hR hG => ?_)
  obtain ⟨fp, wr, G, F, St, W, hst, htr, hI⟩ := hG
  refine Calls.spliced_nil (call_all_walkS (W.self 0 _ _ _ hst ⟨g, fp, wr, G, _, F, St, _, rfl, W, hst, htr, fun s' hmv => ?_⟩))
  obtain ⟨HB, hT, J⟩ := hI s' hmv
  refine ⟨.bl _, HB, J, rfl, ?_⟩
  rw [all_bAt bs]
  exact hR HB hT
theorem pe_any {c P : Addr} {elt iter : Expr} {x : Str} {px p pos gp : Pos} {scope : Scope} {Bq : L2.St → Hp → V → Bool → Prop} {te : TE} {k : Nat}
    (hr : Room k X.A) (hg : Gl X "any") (hm : X.mg "any" = none) (TB : TabB X.base X.mg c P) (hcode : X.env.code = .ref c) (S : GenS X.env scope x) (hi : PE X iter te) (hel : EltQ X P scope x elt Bq) (hfo : ∀ v, genFold iter X.env v = pure v)
    (he : starEach [.GeneratorExp elt [⟨.Name x px, iter, [], 0⟩] scope gp] X.env = (false, eval (.GeneratorExp elt [⟨.Name x px, iter, [], 0⟩] scope gp) X.env) :: starEach [] X.env := by rfl) :
    PE X (.Call (.Name "any" p) [.GeneratorExp elt [⟨.Name x px, iter, [], 0⟩] scope gp] [] pos) (tQ X.K P Bq (fun bs => bs.any id) te) := by
  refine ⟨fun pins s σ H Q I h => ?_⟩
  refine wpAny_Call_Name_kw (ld_blt I hg hm boot_any (PyProof.Rows.callWith_builtin1 ?_ he (by rfl)))
  rw [he]
  refine Calls.spliced_cons (gen_seq (RR := fun bs HA => ∀ HB, Tabbed P HA HB → Q (.bl (bs.any id)) HB) hr TB hcode S hi hel hfo I h fun bs HA g sE hR hG => ?_)
  obtain ⟨fp, wr, G, F, St, W, hst, htr, hI⟩ := hG
  refine Calls.spliced_nil (call_any_walkS (W.self 0 _ _ _ hst ⟨g, fp, wr, G, _, F, St, _, rfl, W, hst, htr, fun s' hmv => ?_⟩))
  obtain ⟨HB, hT, J⟩ := hI s' hmv
  refine ⟨.bl _, HB, J, rfl, ?_⟩
  rw [any_bAt bs]
  exact hR HB hT
end
end GW
namespace VL
open PySem PySem.Spec PyProof.Rows L2 GxR

/-! ### all(.. for x in ..), any(.. for x in ..), the element quiet -/
def testL (pb : S → D → Option Bool) (s : S) : List D → Option (List Bool)
  | [] => some []
  | d :: l => match pb s d, testL pb s l with
    | some b, some bs => some (b :: bs)
    | _, _ => none
def eQ (f : List Bool → Bool) (pb : S → D → Option Bool) (it : ME) : ME := fun s => (it s).bind fun d s => match seqOf s d with
  | some l => match testL pb s l with
    | some bs => .ok (.bl (f bs), s)
    | none => .no
  | none => .no
def allB (bs : List Bool) : Bool := bs.all id
def anyB (bs : List Bool) : Bool := bs.any id
def BqOf (K : PySem.W.Frag) (B : Bs) (pb : S → D → Option Bool) : L2.St → Hp → V → Bool → Prop := fun σ H v b => ∃ s th G d, Rep K B th G s σ H ∧ At K th G d v ∧ pb s d = some b
section
variable {K : PySem.W.Frag} {B : Bs} {W : WX} {th : List Addr} {G H H' : Hp} {s : S} {σ : L2.St}
theorem Rep.tabbed (R : Rep K B th G s σ H) {P : Addr} (hP : B.Tb P) (h : Tabbed P H H') : Rep K B th G s σ H' ∧ Le th G H th G H' := by
  obtain ⟨ps, e0, _⟩ := R.tb P hP
  obtain ⟨⟨qs, e1, t1⟩, oth⟩ := h
  have ne : ∀ b o, H b = some o → (∀ p, o ≠ .tbl p) → b ≠ P := fun b o e k z => by rw [z, e0] at e; exact k ps (Option.some.inj e).symm
  refine ⟨⟨R.len, R.slot, fun a o e => ?_, fun P2 h2 => ?_, R.tl, R.nd, fun a h => ?_, fun n ob a h1 h2 => ?_⟩, ⟨List.prefix_rfl, Sub.refl G, fun a o e g n => ⟨?_, g, n⟩⟩⟩
  · have k := R.eG a o e
    by_cases ha : a = P
    · subst ha
      rw [e0] at k
      cases o <;> first
        | exact ⟨qs, e1⟩
        | (cases k; done)
        | (rcases k with k | ⟨u, k⟩ <;> cases k)
        | (obtain ⟨_, k⟩ := k; cases k)
    · rw [oth a ha]; exact k
  · by_cases hp : P2 = P
    · rw [hp]; exact ⟨qs, e1, t1⟩
    · obtain ⟨ps2, e2, t2⟩ := R.tb P2 h2
      exact ⟨ps2, by rw [oth P2 hp]; exact e2, t2⟩
  · by_cases ha : a = P
    · rw [ha, e1]; exact fun z => by cases z
    · rw [oth a ha]; exact R.al a h
  · have o := R.st n ob a h1 h2
    cases ob with
    | lst l => obtain ⟨g, vs, q, r⟩ := o; exact ⟨g, vs, by rw [oth a (ne a _ q fun _ z => nomatch z)]; exact q, r⟩
    | dct l => obtain ⟨g, vs, q, z, r⟩ := o; exact ⟨g, vs, by rw [oth a (ne a _ q fun _ z => nomatch z)]; exact q, z, r⟩
    | ins C l => obtain ⟨g, dx, vs, q, z, r⟩ := o; exact ⟨g, dx, vs, by rw [oth a (ne a _ q fun _ z => nomatch z)]; exact q, z, r⟩
    | dead => trivial
  · by_cases ha : a = P
    · rw [ha, e0] at e; cases e
      rw [ha]; exact ⟨qs, e1⟩
    · rw [oth a ha, e]; exact keepF_self o
theorem testL_get {pb : S → D → Option Bool} : ∀ {l : List D} {bs : List Bool}, testL pb s l = some bs → bs.length = l.length ∧ ∀ (i : Nat) d b, l[i]? = some d → bs[i]? = some b → pb s d = some b
  | [], bs, h => by cases h; exact ⟨rfl, fun i d b e => by simp at e⟩
  | d :: l, bs, h => by
    simp only [testL] at h
    cases h1 : pb s d with
    | none => rw [h1] at h; cases h
    | some b =>
      cases h2 : testL pb s l with
      | none => rw [h1, h2] at h; cases h
      | some cs =>
        rw [h1, h2] at h; cases h
        obtain ⟨i1, i2⟩ := testL_get h2
        refine ⟨by simp [i1], fun i d' b' e1 e2 => ?_⟩
        cases i with
        | zero => simp at e1 e2; subst e1; subst e2; exact h1
        | succ i => simp at e1 e2; exact i2 i d' b' e1 e2
theorem sem_q {P : Addr} {te : TE} {m : ME} {f : List Bool → Bool} {pb : S → D → Option Bool} (hP : B.Tb P) (h : Sem K B W (relE K) te m) : Sem K B W (relE K) (GW.tQ K P (BqOf K B pb) f te) (eQ f pb m) := fun s th G σ H Q R Pq =>
  h s th G σ H _ R (Pq.bind fun d s1 th1 G1 H1 v l1 R1 r1 P1 => by
    cases hd : seqOf s1 d with
    | none => rw [hd] at P1; exact P1.elim
    | some l =>
      rw [hd] at P1
      dsimp only at P1
      cases ht : testL pb s1 l with
      | none => rw [ht] at P1; exact P1.elim
      | some bs =>
        rw [ht] at P1
        obtain ⟨a, vs, rfl, hsq, r⟩ := R1.seq_of r1 hd
        obtain ⟨hl, hb⟩ := testL_get ht
        refine ⟨a, vs, bs, rfl, hsq, by rw [hl, r.length], fun i z b e1 e2 => ?_, R1.tb P hP, fun HB hT => ?_⟩
        · obtain ⟨d', e3, at3⟩ := r.get2 e1
          exact ⟨s1, th1, G1, d', R1, at3, hb i d' b e3 e2⟩
        · obtain ⟨R2, l2⟩ := R1.tabbed hP hT
          exact P1 th1 G1 HB _ l2 R2 rfl)
end
section
variable {X : Cx} {B : Bs} {W : WX} {elt iter : Expr} {te : TE} {m : ME} {x : Str} {px p pos gp : Pos} {scope : Scope} {pb : S → D → Option Bool} {c P : Addr} {k : Nat}
theorem ve_all (hr : Room k X.A) (hg : Gl X "all") (hm : X.mg "all" = none) (hbt : bootBuiltins "all" = some (.builtin "all")) (TB : TabB X.base X.mg c P) (hP : B.Tb P) (hcode : X.env.code = .ref c) (Sc : GenS X.env scope x) (hi : VE X B W iter te m) (hel : GW.EltQ X P scope x elt (BqOf X.K B pb))
    (hfo : ∀ v, genFold iter X.env v = pure v := by intro _; rfl) (he : starEach [.GeneratorExp elt [⟨.Name x px, iter, [], 0⟩] scope gp] X.env = (false, eval (.GeneratorExp elt [⟨.Name x px, iter, [], 0⟩] scope gp) X.env) :: starEach [] X.env := by rfl) :
    VE X B W (.Call (.Name "all" p) [.GeneratorExp elt [⟨.Name x px, iter, [], 0⟩] scope gp] [] pos) (GW.tQ X.K P (BqOf X.K B pb) allB te) (eQ allB pb m) := ⟨GW.pe_all hr hg hm hbt TB hcode Sc hi.pe hel hfo he, sem_q hP hi.sem⟩
theorem ve_any (hr : Room k X.A) (hg : Gl X "any") (hm : X.mg "any" = none) (TB : TabB X.base X.mg c P) (hP : B.Tb P) (hcode : X.env.code = .ref c) (Sc : GenS X.env scope x) (hi : VE X B W iter te m) (hel : GW.EltQ X P scope x elt (BqOf X.K B pb))
    (hfo : ∀ v, genFold iter X.env v = pure v := by intro _; rfl) (he : starEach [.GeneratorExp elt [⟨.Name x px, iter, [], 0⟩] scope gp] X.env = (false, eval (.GeneratorExp elt [⟨.Name x px, iter, [], 0⟩] scope gp) X.env) :: starEach [] X.env := by rfl) :
    VE X B W (.Call (.Name "any" p) [.GeneratorExp elt [⟨.Name x px, iter, [], 0⟩] scope gp] [] pos) (GW.tQ X.K P (BqOf X.K B pb) anyB te) (eQ anyB pb m) := ⟨GW.pe_any hr hg hm TB hcode Sc hi.pe hel hfo he, sem_q hP hi.sem⟩
/-- i <= x < j -/
def pbRange (i j : Int) : S → D → Option Bool := fun _ d => match d with
  | .int z => some (decide (i ≤ z) && decide (z < j))
  | _ => none
theorem elt_range {i j : Int} {k1 k2 : Nat} {p1 p2 p3 p4 : Pos} (hk : scope.kind = .function) (hl : scope.names.lookup x = some .local) (hd : (x == ("__debug__" : Str)) = false := by decide) :
    GW.EltQ X P scope x (.Compare (.Constant (.int i) k1 p1) [.LtE, .Lt] [.Name x p2, .Constant (.int j) k2 p3] p4) (BqOf X.K B (pbRange i j)) := by
  intro pins σ HA sA ce A' E' v u b sB mB I hsc _ _ hA keep hn hm rv hb
  obtain ⟨s, th, G, d, R, at1, hp⟩ := hb
  cases d with
  | int z =>
    cases at1
    simp only [pbRange, Option.some.injEq] at hp
    obtain ⟨t, rfl⟩ := rv
    refine Compare_chain (wpAny_Constant_int (chain_link ?_)) (by with_unfolding_all rfl)
    refine wpAny_Name (wpAny_loadName_local (by rw [hsc]; exact hk) (show ce.scope.names.lookup x = some .local by rw [hsc]; exact hl) hn hm ?_) hd
    refine le_int (wpAny_truthy_bool ?_)
    cases hz : decide (i ≤ z) with
    | false =>
      rw [hz] at hp
      exact ite_ff ⟨by rw [← hp]; rfl, keeps_tok _ _⟩
    | true =>
      rw [hz] at hp
      refine ite_tt (chain_last (wpAny_Constant_int ?_))
      exact lt_int ⟨by rw [← hp]; rfl, keeps_tok _ _⟩
  | _ => simp [pbRange] at hp
end
end VL
namespace VL
open PySem PySem.Spec PyProof.Rows L2

/-! ### defs that take data and give data -/
inductive PR where
  | ok (d : D) | ex (e : Exn) | no
mutual
def noLoc : D → Bool
  | .loc _ => false
  | .tup l => noLocs l
  | .lst l => noLocs l
  | .dct _ l => noLocs l
  | _ => true
def noLocs : List D → Bool
  | [] => true
  | d :: l => noLoc d && noLocs l
end
def startD (n : Nat) (ds : List D) : List (Option D) := ds.map some ++ List.replicate (n - ds.length) none
def pureOf (n np : Nat) (m : MS) : List D → PR := fun ds => if ds.length = np then match m ⟨startD n ds, []⟩ with
    | .rt d _ => if noLoc d = true then .ok d else .no
    | .nx _ => .ok .non
    | .ex e _ => if noLocs (e.fs.map (·.2)) = true then .ex e else .no
    | _ => .no
  else .no
def eCall (f : List D → PR) (a : MA) : ME := fun s => (a s).bind fun ds s => if noLocs ds = true then match f ds with
    | .ok d => .ok (d, s)
    | .ex e => .ex e s
    | .no => .no
  else .no
abbrev s0 : S := ⟨[], []⟩
def spP (K : PySem.W.Frag) (B : Bs) (f : List D → PR) : Sp := fun vs H Q E => ∃ G ds, Rep K B [] G s0 [] H ∧ AtL K [] G ds vs ∧ match f ds with
  | .ok d => ∀ G' H' v, Le [] G H [] G' H' → Rep K B [] G' s0 [] H' → At K [] G' d v → Q v H'
  | .ex e => ∀ G' H' cls dd, Le [] G H [] G' H' → Rep K B [] G' s0 [] H' → ExAt K B [] G' H' e cls dd → E cls dd H'
  | .no => False
section
variable {K : PySem.W.Frag} {B : Bs} {th th' : List Addr} {G G' H H' : Hp} {s : S} {σ : L2.St}
mutual
theorem At.bare : ∀ {d : D} {v : V}, noLoc d = true → At K th G d v → At K th' G d v
  | .non, _, _, h => h
  | .bl _, _, _, h => h
  | .int _, _, _, h => h
  | .str _, _, _, h => h
  | .tup _, _, n, h => by obtain ⟨a, vs, e1, q, r⟩ := h; exact ⟨a, vs, e1, q, AtL.bare n r⟩
  | .lst _, _, n, h => by obtain ⟨a, vs, e1, q, r⟩ := h; exact ⟨a, vs, e1, q, AtL.bare n r⟩
  | .dct _ _, _, n, h => by obtain ⟨a, vs, e1, q, z, r⟩ := h; exact ⟨a, vs, e1, q, z, AtL.bare n r⟩
  | .scr _, _, _, h => h
  | .loc _, _, n, _ => by cases n
  | .obj _, _, _, h => h
theorem AtL.bare : ∀ {l : List D} {vs : List V}, noLocs l = true → AtL K th G l vs → AtL K th' G l vs
  | [], _, _, h => h
  | _ :: _, _, n, h => by
    obtain ⟨v, r, e1, q, z⟩ := h
    simp only [noLocs, Bool.and_eq_true] at n
    exact ⟨v, r, e1, At.bare n.1 q, AtL.bare n.2 z⟩
end
theorem Rep.enter (R : Rep K B th G s σ H) : Rep K B [] G s0 [] H := ⟨rfl, fun i d e => by simp at e, R.eG, R.tb, rfl, List.nodup_nil, fun a h => by simp at h, fun n ob a e => by simp at e⟩
theorem Le.enter {th0 : List Addr} (l : Le th0 G H th' G' H') (h : th0 = []) : Le [] G H [] G' H' := ⟨List.prefix_rfl, l.ex, fun a o e g _ => by
  subst h
  obtain ⟨h1, h2, _⟩ := l.fr a o e g (by simp)
  exact ⟨h1, h2, by simp⟩⟩
theorem Rep.leave (R : Rep K B th G s σ H) (l : Le [] G H [] G' H') (R' : Rep K B [] G' s0 [] H') : Rep K B th G' s σ H' ∧ Le th G H th G' H' := by
  have ne : ∀ a, H a ≠ none → H' a ≠ none := fun a h => by
    cases e : H a with
    | none => exact absurd e h
    | some o =>
      cases g : G a with
      | none =>
        obtain ⟨u, hu⟩ := keepF_some (l.fr a o e g (by simp)).1
        rw [hu]; exact fun z => by cases z
      | some u =>
        obtain ⟨w, hw⟩ := keepO_some (R'.eG a u (l.ex a u g))
        rw [hw]; exact fun z => by cases z
  refine ⟨⟨R.len, fun i d e => ?_, R'.eG, R'.tb, R.tl, R.nd, fun a h => ne a (R.al a h), fun n ob a e1 e2 => ?_⟩, ⟨List.prefix_rfl, l.ex, fun a o e g n => ?_⟩⟩
  · obtain ⟨v, h1, h2⟩ := R.slot i d e
    exact ⟨v, h1, h2.mono List.prefix_rfl l.ex⟩
  · have h := R.st n ob a e1 e2
    cases ob with
    | lst z => obtain ⟨g, vs, q, r⟩ := h; exact ⟨(l.fr a _ q g (by simp)).2.1, vs, (l.fr a _ q g (by simp)).1, r.mono List.prefix_rfl l.ex⟩
    | dct z => obtain ⟨g, vs, q, z, r⟩ := h; exact ⟨(l.fr a _ q g (by simp)).2.1, vs, (l.fr a _ q g (by simp)).1, z, r.mono List.prefix_rfl l.ex⟩
    | ins C z => obtain ⟨g, dx, vs, q, z, r⟩ := h; exact ⟨(l.fr a _ q g (by simp)).2.1, dx, vs, (l.fr a _ q g (by simp)).1, z, r.mono List.prefix_rfl l.ex⟩
    | dead => trivial
  · exact ⟨(l.fr a o e g (by simp)).1, (l.fr a o e g (by simp)).2.1, n⟩
theorem sem_call {W : WX} {f : List D → PR} {t : TA} {m : MA} (h : Sem K B W (relA K) t m) : Sem K B W (relE K) (tCallS (spP K B f) (WE W) t) (eCall f m) := fun s th G σ H Q R P =>
  h s th G σ H _ R (P.bind fun ds s1 th1 G1 H1 vs l1 R1 r1 P1 => by
    split at P1
    · rename_i hn
      refine ⟨G1, ds, R1.enter, AtL.bare hn r1, ?_⟩
      cases hf : f ds with
      | ok d =>
        rw [hf] at P1
        intro G' H' v l R2 r2
        obtain ⟨R3, l3⟩ := R1.leave l R2
        exact P1 th1 G' H' v l3 R3 (r2.mono List.nil_prefix (Sub.refl _))
      | ex e =>
        rw [hf] at P1
        intro G' H' cls dd l R2 r2
        obtain ⟨R3, l3⟩ := R1.leave l R2
        exact P1 th1 G' H' cls dd l3 R3 ⟨r2.1, r2.2.imp id fun ⟨d1, fs, e1, e2, e3, e4⟩ => ⟨d1, fs, e1, e2, e3, e4.mono List.nil_prefix (Sub.refl _)⟩⟩
      | no => rw [hf] at P1; exact P1.elim
    · exact P1.elim)
theorem startD_len {N : List Str} {ds : List D} {vs : List V} (h : vs.length = ds.length) : (startD N.length ds).length = (L2.start N vs).length := by
  simp [startD, L2.start, h]
theorem Rep.start {N : List Str} {ds : List D} {vs : List V} (R : Rep K B [] G s0 [] H) (r : AtL K [] G ds vs) : Rep K B [] G ⟨startD N.length ds, []⟩ (L2.start N vs) H := by
  refine R.slots (startD_len r.length) fun i d e => ?_
  unfold startD at e
  unfold L2.start
  have hl := r.length
  by_cases hi : i < ds.length
  · rw [List.getElem?_append_left (by simpa using hi)] at e
    rw [List.getElem?_append_left (by rw [List.length_map, hl]; exact hi)]
    rw [List.getElem?_map] at e
    cases hd : ds[i]? with
    | none => rw [hd] at e; cases e
    | some z =>
      rw [hd] at e
      cases e
      obtain ⟨v, h1, h2⟩ := r.get hd
      exact ⟨v, by rw [List.getElem?_map, h1]; rfl, h2⟩
  · rw [List.getElem?_append_right (by simpa using Nat.le_of_not_lt hi)] at e
    rw [List.getElem?_replicate] at e
    split at e <;> cases e
theorem body_run {P : Program} {w : World} {mg : Str → Option Value} {base : Heap} {N : List Str} {np : Nat} {W : WX} {t : TS} {m : MS} {vs : List V} {Q : VK} {E : XK} (hW : W = fun c d _ H => E c d H) (h : SemS K B W t m) (hsp : spP K B (pureOf N.length np m) vs H Q E) :
    t { nx := fun _ H' => Q .non H', rt := Q } (L2.start N vs) H := by
  obtain ⟨G, ds, R, r, hm⟩ := hsp
  have key : pureOf N.length np m ds = if ds.length = np then (match m ⟨startD N.length ds, []⟩ with
    | .rt d _ => if noLoc d = true then .ok d else .no
    | .nx _ => .ok .non
    | .ex e _ => if noLocs (e.fs.map (·.2)) = true then .ex e else .no
    | _ => .no) else .no := rfl
  by_cases hl : ds.length = np
  · rw [if_pos hl] at key
    refine h _ _ _ _ _ _ (R.start (N := N) r) ?_
    cases hc : m ⟨startD N.length ds, []⟩ with
    | nx s' =>
      rw [hc] at key
      rw [key] at hm
      exact fun th' G' H' σ' l R' => hm G' H' .non (l.enter rfl) R'.enter rfl
    | rt d s' =>
      rw [hc] at key
      by_cases hn : noLoc d = true
      · rw [key] at hm
        simp only [hn, if_true] at hm
        exact fun th' G' H' σ' v l R' r' => hm G' H' v (l.enter rfl) R'.enter (r'.bare hn)
      · rw [key] at hm
        simp only [hn] at hm
        exact hm.elim
    | ex e s' =>
      rw [hc] at key
      by_cases hn : noLocs (e.fs.map (·.2)) = true
      · rw [key] at hm
        simp only [hn, if_true] at hm
        subst hW
        exact fun th' G' H' σ' cls dd l R' r' => hm G' H' cls dd (l.enter rfl) R'.enter ⟨r'.1, r'.2.imp id fun ⟨d1, fs, e1, e2, e3, e4⟩ => ⟨d1, fs, e1, e2, e3, e4.bare hn⟩⟩
      · rw [key] at hm
        simp only [hn] at hm
        exact hm.elim
    | bk s' => rw [hc] at key; rw [key] at hm; exact hm.elim
    | ct s' => rw [hc] at key; rw [key] at hm; exact hm.elim
    | no => rw [hc] at key; rw [key] at hm; exact hm.elim
  · rw [if_neg hl] at key
    rw [key] at hm
    exact hm.elim
theorem sp_len {n np : Nat} {m : MS} {vs : List V} {Q : VK} {E : XK} (hsp : spP K B (pureOf n np m) vs H Q E) : vs.length = np := by
  obtain ⟨G, ds, R, r, hm⟩ := hsp
  by_cases hl : ds.length = np
  · rw [r.length]; exact hl
  · have key : pureOf n np m ds = .no := if_neg hl
    rw [key] at hm
    exact hm.elim
end
/-- the promise of a def that takes data and gives data -/
abbrev FnP (P : Program) (w : World) (K : PySem.W.Frag) (mg : Str → Option Value) (base : Heap) (B : Bs) (k : Nat) (f : Addr) (fd : FuncData) (ps : List Str) (pf : List D → PR) : Prop := FnOk P w K mg base (L2.CX P w) k f fd ps (spP K B pf)
section
variable {P : Program} {w : World} {K : PySem.W.Frag} {mg : Str → Option Value} {base : Heap} {B : Bs} {x qual : Str} {params : Arguments} {body : List Stmt} {scope : Scope} {dvs : List V} {kws : List (Str × V)} {f : Addr} {fd : FuncData}
theorem def_pure {N ps : List Str} {k : Nat} {m : MS} (F : FunD K x qual params body scope dvs kws f fd) (Sc : FnScope N ps scope)
    (hbody : ∀ (cdv : Value) (A : Around) (outer : List Env) (s : Shared) (H : Hp) (E : XK), fd.code = cdv → Room k (A.deeper (envOfC qual scope s.heap.objs.size f cdv)) → ∃ t, VSs (cxOf (L2.CX P w) P w K mg base N qual scope f cdv A outer s H E) B (fun c d _ H => E c d H) body t m) :
    FnP P w K mg base B (k + 1) f fd ps (pureOf N.length ps.length m) :=
  by
  obtain ⟨oc, od, dV, kV, doc, pm, an, cdv, ct, osl, rfl, lk, hcd, _, _⟩ := F.ex
  exact fn_of lk hcd Sc (fun vs H Q E h => sp_len h) fun A outer s H vs Q E hr h => by
    obtain ⟨t, hv⟩ := hbody cdv A outer s H E rfl hr
    exact ⟨t, hv.ps, body_run (P := P) (w := w) (mg := mg) (base := base) rfl hv.sem h⟩
end
section
variable {X : Cx} {B : Bs} {W : WX} {e : Expr} {es : List Expr} {t : TA} {m : MA} {pf : List D → PR} {p pos : Pos} {k : Nat} {f : Addr} {fd : FuncData} {ps : List Str} {x : Str}
theorem ve_call (F : FnP X.prog X.w X.K X.mg X.base B k f fd ps pf) (hr : Room k X.A) (hg : Gl X x) (hm : X.mg x = some (.ref f)) (hk : PySem.W.keepIn X.K (.ref f) = true) (hb : Binds X.K fd ps []) (tk : Takes X W) (ha : VA X B W (e :: es) t m)
    (hdb : (x == ("__debug__" : Str)) = false := by decide) (he : starEach (e :: es) X.env = (false, eval e X.env) :: starEach es X.env := by rfl) (hpl : (backTo pos (starEach es X.env)).any (·.1) = false := by rfl) :
    VE X B W (.Call (.Name x p) (e :: es) [] pos) (tCallS (spP X.K B pf) (WE W) t) (eCall pf m) := ⟨pe_callS F hr hg hm hk hb (fun σ => passAt tk σ) ha.pa hdb he hpl, sem_call ha.sem⟩
end
end VL
namespace VL
open PySem PySem.Spec PyProof.Rows L2

/-! ### a def by its name -/
structure CallOk (P : Program) (w : World) (K : PySem.W.Frag) (mg : Str → Option Value) (base : Heap) (B : Bs) (x : Str) (k : Nat) (ps : List Str) (pf : List D → PR) : Prop where
  ex : ∃ f fd, FnP P w K mg base B k f fd ps pf ∧ mg x = some (.ref f) ∧ PySem.W.keepIn K (.ref f) = true ∧ Binds K fd ps []
section
variable {X : Cx} {B : Bs} {W : WX} {e : Expr} {es : List Expr} {t : TA} {m : MA} {pf : List D → PR} {p pos : Pos} {k n : Nat} {ps : List Str} {x : Str} {a b : Expr} {ta tb : TE} {ma mb : ME}
theorem ve_own_call (c : CallOk X.prog X.w X.K X.mg X.base B x k ps pf) (hr : Room n X.A) (hn : k ≤ n) (hg : Gl X x) (tk : Takes X W) (ha : VA X B W (e :: es) t m)
    (hdb : (x == ("__debug__" : Str)) = false := by decide) (he : starEach (e :: es) X.env = (false, eval e X.env) :: starEach es X.env := by rfl) (hpl : (backTo pos (starEach es X.env)).any (·.1) = false := by rfl) :
    VE X B W (.Call (.Name x p) (e :: es) [] pos) (tCallS (spP X.K B pf) (WE W) t) (eCall pf m) := by
  obtain ⟨f, fd, F, hm, hk, hb⟩ := c.ex
  exact ve_call F (hr.mono hn) hg hm hk hb tk ha hdb he hpl
/-! ### a global that is an int, a text -/
theorem ve_gint {i : Int} (hg : Gl X x) (hm : ∃ t, X.mg x = some (.int i t)) (hd : (x == ("__debug__" : Str)) = false := by decide) : VE X B W (.Name x p) (tC (.int i)) (eC (.int i)) := by
  obtain ⟨t, hm⟩ := hm
  exact ⟨pe_glob hg hm ⟨t, rfl⟩ hd, sem_c fun _ _ => rfl⟩
theorem ve_gstr {z : Str} {l : List Nat} (hg : Gl X x) (hm : ∃ t, X.mg x = some (.str z t)) (h : z.cps = l.toArray := by rfl) (hd : (x == ("__debug__" : Str)) = false := by decide) : VE X B W (.Name x p) (tC (.str z)) (eC (.str l)) := by
  obtain ⟨t, hm⟩ := hm
  refine ⟨pe_glob hg hm ⟨t, rfl⟩ hd, sem_c fun _ _ => ?_⟩
  obtain ⟨c⟩ := z
  have h : c = l.toArray := h
  subst h; rfl
abbrev fLt : D → D → S → R (D × S) := fP (gCmp (fun i j => decide (i < j)) fun i j => decide (i < j))
abbrev fLe : D → D → S → R (D × S) := fP (gCmp (fun i j => decide (i ≤ j)) fun i j => !decide (j < i))
abbrev fGt : D → D → S → R (D × S) := fP (gCmp (fun i j => decide (j < i)) fun i j => decide (j < i))
abbrev fGe : D → D → S → R (D × S) := fP (gCmp (fun i j => decide (j ≤ i)) fun i j => !decide (i < j))
/-! ### times -/
def mulOk (i j : Int) : Bool := decide (-18446744073709551616 < i ∧ i < 18446744073709551616) || decide (-18446744073709551616 < j ∧ j < 18446744073709551616)
def fMul : D → D → S → R (D × S) := fP (gI mulOk fun i j => .int (i * j))
theorem ve_mul (ha : VE X B W a ta ma) (hb : VE X B W b tb mb) : VE X B W (.BinOp a .Mult b pos) (tOp (rI CMul fun i j => .int (i * j)) ta tb) (eOp fMul ma mb) := ⟨pe_op op_mul ha.pe hb.pe, sem_op (semR_I (fun i j h => by
  simp only [mulOk, Bool.or_eq_true, decide_eq_true_eq] at h
  have e : (2 : Int) ^ 64 = 18446744073709551616 := rfl
  show (-(2 ^ 64 : Int) < i ∧ i < (2 ^ 64 : Int)) ∨ (-(2 ^ 64 : Int) < j ∧ j < (2 ^ 64 : Int))
  rw [e]
  exact h) fun _ _ _ _ => rfl) ha.sem hb.sem⟩
/-! ### the block of a comprehension -/
structure BlkC (N : List Str) (sc scope : Scope) (own : List (Str × Nat)) : Prop where
  u : scope.names.all (fun y => decide (scope.names.lookup y.1 = some y.2)) = true
  i : own.all (fun p => decide (N[p.2]? = some p.1)) = true
  f : scope.names.all (fun y => decide (y.2 ≠ .free) || (decide (sc.names.lookup y.1 = some .cell) || decide (sc.names.lookup y.1 = some .free))) = true
  o : scope.names.all (fun y => (decide (y.2 ≠ .local) && decide (y.2 ≠ .cell)) || (decide (y.1 ∈ own.map (·.1)) || decide (y.1 ∉ N))) = true
theorem blk_ok {N : List Str} {sc scope : Scope} {own : List (Str × Nat)} (hk : scope.kind = .function) (h : BlkC N sc scope own) : BlkOk N sc scope own where
  kind := hk
  uniq := fun y hy => of_decide_eq_true (List.all_eq_true.mp h.u y hy)
  ix := fun p hp => of_decide_eq_true (List.all_eq_true.mp h.i p hp)
  free := fun y hy e => by
    have := List.all_eq_true.mp h.f y hy
    simp only [Bool.or_eq_true, decide_eq_true_eq] at this
    rcases this with q | q
    · exact absurd e q
    · exact q
  own := fun y hy e => by
    have := List.all_eq_true.mp h.o y hy
    simp only [Bool.or_eq_true, Bool.and_eq_true, decide_eq_true_eq] at this
    rcases this with q | q
    · rcases e with e | e
      · exact absurd e q.1
      · exact absurd e q.2
    · exact q

theorem hu {A : Around} {n : Nat} (j : Nat) (hr : Room n A) (h : j ≤ 199 := by decide) : A.units + j < cLine := by have := hr.un; omega
theorem gen_sc {env : Env} {scope : Scope} {x : Str} (hk : scope.kind = .function) (hc : scope.isCoroutine = false) (cell : scope.names.all (fun y => decide (y.2 ≠ .cell)) = true) (dot : scope.names.lookup (".0" : Str) = some NameKind.local)
    (loc : scope.names.lookup x = some .local) (fr : scope.names.all (fun y => decide (y.2 ≠ .free)) = true) : GxR.GenS env scope x :=
  ⟨hk, hc, fun y hy => of_decide_eq_true (List.all_eq_true.mp cell y hy), dot, loc, fun y hy e => absurd e (of_decide_eq_true (List.all_eq_true.mp fr y hy))⟩
theorem tk_of {P : Program} {w : World} {K : PySem.W.Frag} {mg : Str → Option Value} {base : Heap} {N : List Str} {qual : Str} {scope : Scope} {f : Addr} {cd : Value} {A : Around} {outer : List Env} {s : Shared} {H : Hp} {E : XK} :
    Takes (cxOf (L2.CX P w) P w K mg base N qual scope f cd A outer s H E) (fun c d _ H => E c d H) := takes_of rfl rfl rfl rfl
theorem vb_len : bootBuiltins "len" = some (.builtin "len") := by decide +kernel
theorem vb_sum : bootBuiltins "sum" = some (.builtin "sum") := by decide +kernel
theorem vb_abs : bootBuiltins "abs" = some (.builtin "abs") := by decide +kernel
theorem vb_max : bootBuiltins "max" = some (.builtin "max") := by decide +kernel
theorem vb_min : bootBuiltins "min" = some (.builtin "min") := by decide +kernel
theorem vb_all : bootBuiltins "all" = some (.builtin "all") := by decide +kernel
theorem vb_any : bootBuiltins "any" = some (.builtin "any") := by decide +kernel
theorem vb_sorted : bootBuiltins "sorted" = some (.builtin "sorted") := by decide +kernel
theorem vb_int : bootBuiltins "int" = some (.type "int") := by decide +kernel
theorem vb_bool : bootBuiltins "bool" = some (.type "bool") := by decide +kernel
theorem vb_str : bootBuiltins "str" = some (.type "str") := by decide +kernel
theorem vb_list : bootBuiltins "list" = some (.type "list") := by decide +kernel
theorem vb_tuple : bootBuiltins "tuple" = some (.type "tuple") := by decide +kernel
theorem vb_set : bootBuiltins "set" = some (.type "set") := by decide +kernel
theorem vb_dict : bootBuiltins "dict" = some (.type "dict") := by decide +kernel
/-! ### all, any of a list of truths -/
def blsD : List D → Option (List Bool)
  | [] => some []
  | .bl b :: l => (blsD l).map (b :: ·)
  | _ => none
theorem blsD_at {K : PySem.W.Frag} {th : List Addr} {G : Hp} : ∀ {l : List D} {vs : List V} {bs : List Bool}, AtL K th G l vs → blsD l = some bs → vs = bs.map V.bl
  | [], _, _, h, e => by cases h; cases e; rfl
  | d :: l, _, bs, h, e => by
    obtain ⟨v, r, rfl, q, z⟩ := h
    cases d <;> simp only [blsD] at e <;> first
      | (cases e; done)
      | (cases hb : blsD l with
         | none => rw [hb] at e; cases e
         | some cs =>
           rw [hb] at e
           cases e
           cases q
           rw [blsD_at z hb]; rfl)
def gAllL (f : List Bool → Bool) : S → D → Option D := fun s d => match lstOf s d with
  | some l => match blsD l with
    | some bs => some (.bl (f bs))
    | none => none
  | none => none
theorem semC_all {K : PySem.W.Frag} : SemC K B W (rAll K) (c1 (gAllL allB)) := semC_1 fun s th G σ H Q d v z R h e P => by
  simp only [gAllL] at e
  cases hl : lstOf s d with
  | none => rw [hl] at e; cases e
  | some l =>
    rw [hl] at e
    dsimp only at e
    cases hb : blsD l with
    | none => rw [hb] at e; cases e
    | some bs =>
      rw [hb] at e
      cases e
      obtain ⟨a, vs, rfl, q, r⟩ := R.lst_of h hl
      cases blsD_at r hb
      exact ⟨a, bs, rfl, .inl (.inl q), Post.ok (rel := relE K) P R rfl⟩
theorem semC_any {K : PySem.W.Frag} : SemC K B W (rAny K) (c1 (gAllL anyB)) := semC_1 fun s th G σ H Q d v z R h e P => by
  simp only [gAllL] at e
  cases hl : lstOf s d with
  | none => rw [hl] at e; cases e
  | some l =>
    rw [hl] at e
    dsimp only at e
    cases hb : blsD l with
    | none => rw [hb] at e; cases e
    | some bs =>
      rw [hb] at e
      cases e
      obtain ⟨a, vs, rfl, q, r⟩ := R.lst_of h hl
      cases blsD_at r hb
      exact ⟨a, bs, rfl, .inl (.inl q), Post.ok (rel := relE K) P R rfl⟩

/-! ### the reading that the mirror itself tells -/
def cE (K : PySem.W.Frag) (B : Bs) (W : WX) (m : ME) : TE := fun σ H Q => ∃ s th G, Rep K B th G s σ H ∧ Post K B W σ th G H (relE K) (m s) Q
def cTt (K : PySem.W.Frag) (B : Bs) (W : WX) (m : MT) : TT := fun σ H Q => ∃ s th G, Rep K B th G s σ H ∧ Post K B W σ th G H relT (m s) Q
theorem ve_c {K : PySem.W.Frag} {t : TE} (h : VE X B W a t ma) (hK : X.K = K := by rfl) : VE X B W a (cE K B W ma) ma := by
  subst hK
  exact ⟨⟨fun pins s σ H Q I ⟨s', th, G, R, P⟩ => h.pe.run pins s σ H Q I (h.sem s' th G σ H Q R P)⟩, fun s th G σ H Q R P => ⟨s, th, G, R, P⟩⟩
theorem vts_c {K : PySem.W.Frag} {t : TT} {mt : MT} {ifs : List Expr} (h : VTs X B W ifs t mt) (hK : X.K = K := by rfl) : VTs X B W ifs (cTt K B W mt) mt := by
  subst hK
  exact ⟨⟨fun pins s σ H Q I ⟨s', th, G, R, P⟩ => h.pt.run pins s σ H Q I (h.sem s' th G σ H Q R P)⟩, fun s th G σ H Q R P => ⟨s, th, G, R, P⟩⟩

/-! ### name = [..] on one line -/
variable {elt tg iter : Expr} {ifs : List Expr} {scope : Scope} {own : List (Str × Nat)} {spos py : Pos} {wi : TI} {g : TG} {tt : TT} {te : TE} {mi : MA} {mg : MG} {mt : MT} {me : ME} {y : Str}
theorem vs_setLc (i : Nat) {ef : MF → ME} (hef : ∀ {X : Cx} {e : Expr} {t : TE} {mf : MF}, VF X B W e t mf → VE X B W e t (ef mf)) (hc : X.calm = true) (hN : X.N.Nodup) (hi : VI X B W tg iter wi mi) (ok : BlkOk X.N X.env.scope scope own)
    (hg : ∀ (s : Shared) (H : Hp) (C : Addr) (cl : List (Str × Addr)) (fp : List Addr), VG (X.blk s H scope (compEnvC scope cl C X.env) fp) B Wf tg g mg) (hin : GIn g (own.map (·.2))) (hmono : GMono g)
    (ht : ∀ (s : Shared) (H : Hp) (C : Addr) (cl : List (Str × Addr)) (fp : List Addr), VTs (X.blk s H scope (compEnvC scope cl C X.env) fp) B Wf ifs tt mt)
    (he : ∀ (s : Shared) (H : Hp) (C : Addr) (cl : List (Str × Addr)) (fp : List Addr), VE (X.blk s H scope (compEnvC scope cl C X.env) fp) B Wf elt te me) (s0 : Shared)
    (hy : X.N[i]? = some y := by rfl) (hyl : X.env.scope.names.lookup y = some .local := by rfl) (hsw : swapsWith (.ListComp elt [⟨tg, iter, ifs, 0⟩] scope pos) (some (.Name y py)) spos.line X.env = pure true := by rfl)
    (hs : ∀ x, foldedSetIterable iter X.env x = pure x := by intro _; rfl) :
    VS X B W (.Assign [.Name y py] (.ListComp elt [⟨tg, iter, ifs, 0⟩] scope pos) spos) (tAsg (tLc wi g tt te (own.map (·.2))) (gName i)) (sAsg (ef (fLc mi mg mt me (own.map (·.2)))) (gN i)) :=
  ⟨ps_setLc hc hN hy hyl hsw hi.pi ok (fun s H C cl fp => (hg s H C cl fp).pg) (fun s H C cl fp => (ht s H C cl fp).pt) (fun s H C cl fp => (he s H C cl fp).pe) hs,
    fun s th G σ H Dn R P => (hef (vf_lc (pos := pos) hc hN hi ok hg hin hmono ht he s0 hs)).sem s th G σ H _ R (P.to fun d s' th' G' H' v l' R' r P' => P'.nx0 (R'.sets r))⟩
end
end VL
namespace VL
open PySem PySem.Spec PyProof.Rows L2 He

theorem walk_ofET {l : PySem.W.OpenLaw} {n k : Nat} {q : Program} {loose : List Str} {XP : (Str → Option Value) → Heap → Prop} {YP : World → Heap → Prop} {d : DefRec} {CX : World → CXT} {x : Str}
    (hn : l.most = some n) (hn2 : n ≤ sizeLine) (hdf : d.params.defaults = []) (hr : Room k callerA)
    (F : ∀ (w : World) (mg : Str → Option Value) (fa : Addr) (h : Heap), YP w h → h.Ns mainGlobals mg → mg d.name = some (.ref fa) → ∃ K : PySem.W.Frag, K.In h ∧ LamX.LawAtS l w K (CX w) k n x mg fa h)
    (hCX : ∀ (w : World) (H : Hp) (s : Shared) (e : Value) (s' : Shared), CX w [] H s (fun _ _ _ => False) e s' → False) :
    PySem.W.WalkO q loose XP YP l.row.toRowW d [] (fun f vs => PySem.call f vs) := by
  refine Att.attach_callB hn hdf fun w s₀ s₁ mg mb fa o pm cd doc a vs ns G Y ho hd hcd hmg hobj hints hlen hbits hg => ?_
  obtain ⟨K, KX, fd, cs, sp, hT, nT, C, hb, hsp, hF⟩ := F w mg fa _ Y G.T.g hmg
  exact LamX.law_callTs KX G.T.g G.T.b G.T.builtins G.T.nolimit hg hT nT C G.T.bmain hobj hints (Nat.le_trans hlen hn2) hr hF hb (fun H hH hS => hsp H a ns hlen hbits hH hS) fun H e s' => hCX w H s₁ e s'
theorem cx_end {P : Program} {w : World} {H : Hp} {s : Shared} {e : Value} {s' : Shared} (h : L2.CX P w [] H s (fun _ _ _ => False) e s') : False := by
  obtain ⟨_, _, _, _, _, _, _, _, _, _, _, _, z⟩ := h
  exact z
theorem law_sp {K : PySem.W.Frag} {B : Bs} {f : List D → PR} {H : Hp} {a : Addr} {ns : List Int} (hf : f [.scr ns] = .ok (.bl true)) (hT : ∀ P, B.Tb P → GxR.TabG H P) (hS : SqL K H a (ns.map V.int)) :
    spP K B f [.ref a] H (fun v _ => v = .bl true) fun _ _ _ => False := by
  refine ⟨H, [.scr ns], ⟨rfl, fun i d e => by simp at e, Ex.refl H, hT, rfl, List.nodup_nil, fun a h => by simp at h, fun n ob a e => by simp at e⟩, ⟨_, _, rfl, ⟨a, rfl, hS⟩, rfl⟩, ?_⟩
  rw [hf]
  exact fun G' H' v _ _ r => r
/-- the tables of the defs tf, the classes by their names -/
def bsOf (K : PySem.W.Frag) (tf : List Defn) : Bs := ⟨fun P => ∃ p ∈ tf, (cT K p).2 = P, fun x => ga K x⟩
theorem code_tab {K : PySem.W.Frag} {x qual : Str} {params : Arguments} {body : List Stmt} {scope : Scope} {dvs : List V} {kws : List (Str × V)} {p : Defn} {fd : FuncData} (F : FunD K x qual params body scope dvs kws (fAd K p) fd) : fd.code = .ref (He.cT K p).1 := by
  obtain ⟨oc, od, dV, kV, doc, pm, an, cdv, ct, osl, rfl, lk, hcd, _, _⟩ := F.ex
  obtain ⟨c, rfl⟩ := codeIn_ref hcd
  show Value.ref c = .ref (codeOf K p)
  rw [codeOf_eq lk rfl]
theorem call_ok {P : Program} {w : World} {K : PySem.W.Frag} {mg : Str → Option Value} {base : Heap} {B : Bs} {x : Str} {k : Nat} {ps : List Str} {pf : List D → PR} {params : Arguments} {body : List Stmt} {scope : Scope} {kws : List (Str × V)} {f : Addr} {fd : FuncData}
    (F : FunD K x x params body scope [] kws f fd) (hm : mg x = some (.ref f)) (h : FnP P w K mg base B k f fd ps pf)
    (hb : ∀ (kV doc pm : Value) (an : Option Addr) (cdv ct : Value) (us : List Value), us.length = ps.length → bindArgs (PySem.W.fnOf x x params body scope .none kV doc pm an cdv ct) ⟨us, []⟩ = pure (ps.zip us)) : CallOk P w K mg base B x k ps pf :=
  ⟨f, fd, h, hm, F.kp, F.bindsN hb⟩
theorem tab_of {base : Heap} {mg : Str → Option Value} {c P : Addr} (t : LamX.TabB base mg c P) : GxR.TabB base mg c P := ⟨t.code, t.bm, t.gP⟩
theorem callerRoom : Room 30 callerA := ⟨rfl, by decide, by decide⟩
end VL
/-! running the mirrors by simp; loops; data of ints -/
namespace VL
open PySem L2

section
variable {s : S} {r : List (Option D)} {m : List Ob} {d x y : D} {f : D → D → S → R (D × S)} {a b c e : ME} {A : MA} {t u : MT} {g : MG} {p q : MS} {i j : Nat}
@[simp] theorem x_eV : eV i s = (match s.r[i]? with | some (some d) => .ok (d, s) | _ => .no) := id rfl
@[simp] theorem x_eC : eC d s = .ok (d, s) := id rfl
@[simp] theorem x_eOp : eOp f a b s = (a s).bind fun x s => (b s).bind fun y s => f x y s := id rfl
@[simp] theorem x_aNil : aNil s = .ok ([], s) := id rfl
@[simp] theorem x_aCons : aCons a A s = (a s).bind fun x s => (A s).bind fun l s => .ok (x :: l, s) := id rfl
@[simp] theorem x_eCB {F : List D → S → R (D × S)} : eCB F A s = (A s).bind fun l s => F l s := id rfl
@[simp] theorem x_fCB {F : List D → S → R (Ob × S)} : fCB F A s = (A s).bind fun l s => F l s := id rfl
@[simp] theorem x_eCall {F : List D → PR} : eCall F A s = (A s).bind fun ds s => if noLocs ds = true then (match F ds with | .ok d => .ok (d, s) | .ex e => .ex e s | .no => .no) else .no := id rfl
@[simp] theorem x_eTup : eTup A s = (A s).bind fun l s => if l.length ≤ SZ then .ok (.tup l, s) else .no := id rfl
@[simp] theorem x_fLst : fLst A s = (A s).bind fun l s => if l.length ≤ SZ then .ok (.lst l, s) else .no := id rfl
@[simp] theorem x_eFrz {F : MF} : eFrz F s = (F s).bind fun o s => (match o with | .lst l => .ok (.lst l, s) | .dct l => .ok (.dct (l.map (·.1)) (l.map (·.2)), s) | _ => .no) := id rfl
@[simp] theorem x_eOwn {F : MF} : eOwn F s = (F s).bind fun o s => .ok (.loc s.m.length, { s with m := s.m ++ [o] }) := id rfl
@[simp] theorem x_eIf : eIf t a b s = (t s).bind fun x s => if x = true then a s else b s := id rfl
@[simp] theorem x_eAndV : eAndV a b s = (a s).bind fun x s => (match x with | .bl true => b s | .bl false => .ok (.bl false, s) | _ => .no) := id rfl
@[simp] theorem x_eOrV : eOrV a b s = (a s).bind fun x s => (match x with | .bl true => .ok (.bl true, s) | .bl false => b s | _ => .no) := id rfl
@[simp] theorem x_eNotV : eNotV a s = (a s).bind fun x s => (match x with | .bl b => .ok (.bl (!b), s) | _ => .no) := id rfl
@[simp] theorem x_tBl : tBl a s = (a s).bind fun d s => (match d with | .bl b => .ok (b, s) | _ => .no) := id rfl
@[simp] theorem x_tTruN : tTruN a s = (a s).bind fun d s => (match d with | .dct _ _ => .no | d => match truD s d with | some b => .ok (b, s) | none => .no) := id rfl
@[simp] theorem x_tAndM : tAndM t u s = (t s).bind fun x s => if x = true then u s else .ok (false, s) := id rfl
@[simp] theorem x_tOrM : tOrM t u s = (t s).bind fun x s => if x = true then .ok (true, s) else u s := id rfl
@[simp] theorem x_tNotM : tNotM t s = (t s).bind fun x s => .ok (!x, s) := id rfl
@[simp] theorem x_tYesM : tYesM s = .ok (true, s) := id rfl
@[simp] theorem x_eChain {F G : D → D → S → R (D × S)} : eChain F G a b c s = (a s).bind fun x s => (b s).bind fun y s => (F x y s).bind fun z s => (match z with | .bl true => (c s).bind fun w s => G y w s | .bl false => .ok (.bl false, s) | _ => .no) := id rfl
@[simp] theorem x_eCut {lo hi : S → R (Option Int × S)} : eCut a lo hi s = (a s).bind fun x s => (lo s).bind fun i s => (hi s).bind fun j s => fCut x i j s := id rfl
@[simp] theorem x_oNone : oNone s = .ok (none, s) := id rfl
@[simp] theorem x_oSome : oSome a s = (a s).bind fun d s => (match d with | .int i => .ok (some i, s) | _ => .no) := id rfl
@[simp] theorem x_sSeq : sSeq p q s = (p s).seq q := id rfl
@[simp] theorem x_sNil : sNil s = .nx s := id rfl
@[simp] theorem x_sRet : sRet a s = (a s).to fun d s => .rt d s := id rfl
@[simp] theorem x_sRetN : sRetN s = .rt .non s := id rfl
@[simp] theorem x_sBk : sBk s = .bk s := id rfl
@[simp] theorem x_sCt : sCt s = .ct s := id rfl
@[simp] theorem x_sDrop : sDrop a s = (a s).to fun _ s => .nx s := id rfl
@[simp] theorem x_sIf : sIf t p q s = (t s).to fun x s => if x = true then p s else q s := id rfl
@[simp] theorem x_gN : gN i d s = .nx { s with r := s.r.set i (some d) } := id rfl
@[simp] theorem x_sAsg : sAsg a g s = (a s).to fun d s => g d s := id rfl
@[simp] theorem x_gTupM {G : List D → S → C} {l : List D} : gTupM G (.tup l) s = G l s := id rfl
@[simp] theorem x_gsNil : gsNil [] s = .nx s := id rfl
@[simp] theorem x_gsCons {G : List D → S → C} {l : List D} : gsCons g G (d :: l) s = (g d s).seq fun s => G l s := id rfl
@[simp] theorem x_sFor {it : MA} : sFor it g p s = (it s).to fun l s => forL g p l s := id rfl
@[simp] theorem x_sForD {w : List Key → List D → List D} : sForD w i g p s = (eTake i s).to fun d s => (match d with | .dct ks l => forL g p (w ks l) s | _ => .no) := id rfl
@[simp] theorem x_iSeqM : iSeqM a s = (a s).bind fun d s => (match itD d with | some l => .ok (l, s) | none => .no) := id rfl
@[simp] theorem x_iRg1M : iRg1M A s = (A s).bind fun l s => (match l with | [.int j] => if okR j then .ok (rng 0 j.toNat, s) else .no | _ => .no) := id rfl
@[simp] theorem x_iRg2M : iRg2M A s = (A s).bind fun l s => (match l with | [.int i, .int j] => if okR i && okR j then .ok (rng i (j - i).toNat, s) else .no | _ => .no) := id rfl
@[simp] theorem x_iZipM : iZipM A s = (A s).bind fun l s => (match l with
  | [x, y] => match x, y with
    | .tup l, .tup m => .ok (pairs l m, s)
    | .lst l, .lst m => .ok (pairs l m, s)
    | _, _ => .no
  | _ => .no) := id rfl
@[simp] theorem x_fLc {it : MA} {vs : List Nat} : fLc it g t e vs s = (it s).bind fun l s => (lcL g t e vs s.r l [] s).bind fun acc s => .ok (.lst acc, s) := id rfl
@[simp] theorem x_eGet2 : eGet2 a b c s = (a s).bind fun d s => if isDct s d = true then (b s).bind fun k s => (c s).bind fun x s => fGet2 d k x s else .no := id rfl
@[simp] theorem x_gSet : gSet a b d s = (match a s with | .ok (o, s) => (match b s with | .ok (i, s) => fSet o i d s | _ => .no) | _ => .no) := id rfl
@[simp] theorem x_eLM {F : List D → List D → Option (D × List D)} : eLM F a A s = (a s).bind fun d s => (match d with
  | .loc n => match s.m[n]? with
    | some (.lst _) => (A s).bind fun as s => match s.m[n]? with
      | some (.lst l) => match F l as with
        | some (y, l') => .ok (y, { s with m := s.m.set n (.lst l') })
        | none => .no
      | _ => .no
    | _ => .no
  | _ => .no) := id rfl
@[simp] theorem x_eTake : eTake i s = (match s.r[i]? with
  | some (some (.loc n)) => match s.m[n]? with
    | some (.lst l) => .ok (.lst l, { r := s.r.set i (some (.lst l)), m := s.m.set n .dead })
    | some (.dct l) => .ok (.dct (l.map (·.1)) (l.map (·.2)), { r := s.r.set i (some (.dct (l.map (·.1)) (l.map (·.2)))), m := s.m.set n .dead })
    | _ => .no
  | some (some d) => .ok (d, s)
  | _ => .no) := id rfl
@[simp] theorem x_fP {G : D → D → Option D} : fP G x y s = (match G x y with | some d => .ok (d, s) | none => .no) := id rfl
@[simp] theorem x_gI {C : Int → Int → Bool} {G : Int → Int → D} {i j : Int} : gI C G (.int i) (.int j) = if C i j then some (G i j) else none := id rfl
@[simp] theorem x_gCmp {P : Int → Int → Bool} {Q : List Nat → List Nat → Bool} {i j : Int} : gCmp P Q (.int i) (.int j) = some (.bl (P i j)) := id rfl
@[simp] theorem x_fAddI {i j : Int} : fAdd (.int i) (.int j) s = .ok (.int (i + j), s) := id rfl
@[simp] theorem x_fAddT {l k : List D} : fAdd (.tup l) (.tup k) s = if l.length + k.length ≤ SZ then .ok (.tup (l ++ k), s) else .no := id rfl
@[simp] theorem x_fAddL {l k : List D} : fAdd (.lst l) (.lst k) s = if l.length + k.length ≤ SZ then .ok (.lst (l ++ k), s) else .no := id rfl
@[simp] theorem x_c1 {G : S → D → Option D} : c1 G [d] s = (match G s d with | some z => .ok (z, s) | none => .no) := id rfl
@[simp] theorem x_cLen : cLen [d] s = (match lenD s d with | some n => .ok (.int n, s) | none => .no) := id rfl
@[simp] theorem x_lenT {l : List D} : lenD s (.tup l) = some l.length := id rfl
@[simp] theorem x_lenL {l : List D} : lenD s (.lst l) = some l.length := id rfl
@[simp] theorem x_lenS {l : List Int} : lenD s (.scr l) = some l.length := by show some (l.map D.int).length = _; simp
@[simp] theorem x_seqT {l : List D} : seqOf s (.tup l) = some l := id rfl
@[simp] theorem x_seqL {l : List D} : seqOf s (.lst l) = some l := id rfl
@[simp] theorem x_seqS {l : List Int} : seqOf s (.scr l) = some (l.map D.int) := id rfl
@[simp] theorem x_lstL {l : List D} : lstOf s (.lst l) = some l := id rfl
@[simp] theorem x_itL {l : List D} : itD (.lst l) = some l := id rfl
@[simp] theorem x_itT {l : List D} : itD (.tup l) = some l := id rfl
@[simp] theorem x_gAbs {i : Int} : gAbs s (.int i) = some (.int (if i < 0 then -i else i)) := id rfl
@[simp] theorem x_gInt {i : Int} : gInt s (.int i) = some (.int i) := id rfl
@[simp] theorem x_gTupleT {l : List D} : gTuple s (.tup l) = some (.tup l) := id rfl
@[simp] theorem x_gTupleL {l : List D} : gTuple s (.lst l) = some (.tup l) := id rfl
@[simp] theorem x_gListT {l : List D} : gList [.tup l] s = .ok (.lst l, s) := id rfl
@[simp] theorem x_gListL {l : List D} : gList [.lst l] s = .ok (.lst l, s) := id rfl
@[simp] theorem x_truB {b : Bool} : truD s (.bl b) = some b := id rfl
@[simp] theorem x_truI {i : Int} : truD s (.int i) = some (i != 0) := id rfl
@[simp] theorem x_fIs : fIs x .non s = .ok (.bl (isNon x), s) := id rfl
@[simp] theorem x_fIsn : fIsn x .non s = .ok (.bl (!isNon x), s) := id rfl
@[simp] theorem x_lmApp {l : List D} : lmApp l [y] = if l.length < SZ then some (.non, l ++ [y]) else none := id rfl
@[simp] theorem x_noLocs0 : noLocs [] = true := id rfl
@[simp] theorem x_noLocs {l : List D} : noLocs (d :: l) = (noLoc d && noLocs l) := id rfl
@[simp] theorem x_noLocI {i : Int} : noLoc (.int i) = true := id rfl
@[simp] theorem x_noLocB {b : Bool} : noLoc (.bl b) = true := id rfl
@[simp] theorem x_noLocN : noLoc .non = true := id rfl
@[simp] theorem x_noLocX {z : List Nat} : noLoc (.str z) = true := id rfl
@[simp] theorem x_noLocS {l : List Int} : noLoc (.scr l) = true := id rfl
@[simp] theorem x_noLocT {l : List D} : noLoc (.tup l) = noLocs l := id rfl
@[simp] theorem x_noLocL {l : List D} : noLoc (.lst l) = noLocs l := id rfl
@[simp] theorem x_okR {i : Int} : okR i = decide (-(2 ^ 62) ≤ i ∧ i < 2 ^ 62) := id rfl
theorem x_mulOk {i j : Int} : mulOk i j = (decide (-18446744073709551616 < i ∧ i < 18446744073709551616) || decide (-18446744073709551616 < j ∧ j < 18446744073709551616)) := rfl
@[simp] theorem mulOk_r {i j : Int} (h1 : -18446744073709551616 < j) (h2 : j < 18446744073709551616) : mulOk i j = true := by
  simp only [x_mulOk, Bool.or_eq_true, decide_eq_true_eq]; exact .inr ⟨h1, h2⟩
@[simp] theorem mulOk_l {i j : Int} (h1 : -18446744073709551616 < i) (h2 : i < 18446744073709551616) : mulOk i j = true := by
  simp only [x_mulOk, Bool.or_eq_true, decide_eq_true_eq]; exact .inl ⟨h1, h2⟩
@[simp] theorem x_isNonN : isNon .non = true := id rfl
@[simp] theorem x_isNonT {l : List D} : isNon (.tup l) = false := id rfl
@[simp] theorem x_isNonI {i : Int} : isNon (.int i) = false := id rfl
end
@[simp] theorem x_startD {n : Nat} {ds : List D} : startD n ds = ds.map some ++ List.replicate (n - ds.length) none := id rfl
@[simp] theorem x_pureOf {n np : Nat} {m : MS} {ds : List D} : pureOf n np m ds = if ds.length = np then (match m ⟨startD n ds, []⟩ with
    | .rt d _ => if noLoc d = true then .ok d else .no
    | .nx _ => .ok .non
    | .ex e _ => if noLocs (e.fs.map (·.2)) = true then .ex e else .no
    | _ => .no)
  else .no := id rfl
theorem pure_rt {n np : Nat} {m : MS} {ds : List D} {d : D} (h : ds.length = np) (hm : ∃ s, m ⟨startD n ds, []⟩ = .rt d s) (hn : noLoc d = true) : pureOf n np m ds = .ok d := by
  obtain ⟨s, hm⟩ := hm
  rw [x_pureOf, if_pos h, hm]
  exact if_pos hn
theorem pure_nx {n np : Nat} {m : MS} {ds : List D} (h : ds.length = np) (hm : ∃ s, m ⟨startD n ds, []⟩ = .nx s) : pureOf n np m ds = .ok .non := by
  obtain ⟨s, hm⟩ := hm
  rw [x_pureOf, if_pos h, hm]
@[simp] theorem x_fDctN {s : S} : fDctN s = .ok (.dct [], s) := id rfl
@[simp] theorem x_fDct1 {k v : ME} {s : S} : fDct1 k v s = (k s).bind fun x s => (v s).bind fun y s => (match keyOf x with | some k => .ok (.dct [(k, y)], s) | none => .no) := id rfl
@[simp] theorem x_keyI {i : Int} : keyOf (.int i) = some (.inl i) := id rfl
@[simp] theorem x_fGet2 {s : S} {d k x : D} : fGet2 d k x s = (match dctOf s d, keyOf k with | some l, some k => .ok ((valD l k).getD x, s) | _, _ => .no) := id rfl
@[simp] theorem x_isDct {s : S} {d : D} : isDct s d = (dctOf s d).isSome := id rfl
theorem SZv : SZ = 16777216 := rfl

/-! ### data of ints -/
def iL (l : List Int) : List D := l.map D.int
@[simp] theorem iL_nil : iL [] = [] := rfl
@[simp] theorem iL_cons (a : Int) (l : List Int) : iL (a :: l) = .int a :: iL l := rfl
theorem iL_app (l k : List Int) : iL (l ++ k) = iL l ++ iL k := List.map_append
@[simp] theorem iL_snoc (l : List Int) (a : Int) : iL l ++ [.int a] = iL (l ++ [a]) := by rw [iL_app]; rfl
@[simp] theorem iL_iL (l k : List Int) : iL l ++ iL k = iL (l ++ k) := (iL_app l k).symm
@[simp] theorem iL_len (l : List Int) : (iL l).length = l.length := by simp [iL]
theorem iL_get {l : List Int} {k : Nat} (h : k < (iL l).length) : (iL l)[k] = .int (l[k]'(by simpa using h)) := by simp [iL]
theorem iL_take (l : List Int) (k : Nat) : (iL l).take k = iL (l.take k) := by simp [iL, List.map_take]
theorem iL_drop (l : List Int) (k : Nat) : (iL l).drop k = iL (l.drop k) := by simp [iL, List.map_drop]
theorem iL_inj : ∀ {l k : List Int}, iL l = iL k → l = k
  | [], [], _ => rfl
  | [], _ :: _, h => by cases h
  | _ :: _, [], h => by cases h
  | a :: l, b :: k, h => by
    simp only [iL_cons, List.cons.injEq, D.int.injEq] at h
    rw [h.1, iL_inj h.2]
@[simp] theorem noLocs_iL (l : List Int) : noLocs (iL l) = true := by induction l with | nil => rfl | cons a l ih => simpa using ih
theorem noLocs_all {l : List D} (h : ∀ d ∈ l, noLoc d = true) : noLocs l = true := by
  induction l with
  | nil => rfl
  | cons a l ih =>
    rw [x_noLocs, h a (by simp), ih fun d hd => h d (by simp [hd])]; rfl
theorem noLocs_app (l k : List D) : noLocs (l ++ k) = (noLocs l && noLocs k) := by
  induction l with
  | nil => rfl
  | cons a l ih => simp [ih, Bool.and_assoc]
@[simp] theorem intsD_iL (l : List Int) : intsD (iL l) = some l := by
  induction l with
  | nil => rfl
  | cons a l ih => simp [intsD, ih]
@[simp] theorem gSum_iL {s : S} (l : List Int) : gSum s (.lst (iL l)) = some (.int l.sum) := by simp [gSum]
@[simp] theorem okDs_iL (n : Nat) (l : List Int) : okDs n (iL l) = true := by
  induction l with
  | nil => simp [okDs]
  | cons a l ih => simp only [iL_cons, okDs, okD, Bool.true_and]; exact ih
@[simp] theorem eqDs_iL : ∀ (l k : List Int), eqDs (iL l) (iL k) = decide (l = k)
  | [], [] => rfl
  | [], _ :: _ => rfl
  | _ :: _, [] => rfl
  | a :: l, b :: k => by
    have ih := eqDs_iL l k
    simp only [iL_cons, eqDs, eqD, ih]
    by_cases h : a = b <;> simp [h]
@[simp] theorem fEqI {s : S} {i j : Int} : fEq (.int i) (.int j) s = .ok (.bl (decide (i = j)), s) := rfl
@[simp] theorem fNeI {s : S} {i j : Int} : fNe (.int i) (.int j) s = .ok (.bl (!decide (i = j)), s) := rfl
@[simp] theorem fNeB {s : S} {i j : Bool} : fNe (.bl i) (.bl j) s = .ok (.bl (!(i == j)), s) := rfl
@[simp] theorem fEqB {s : S} {i j : Bool} : fEq (.bl i) (.bl j) s = .ok (.bl (i == j), s) := rfl
@[simp] theorem fEqT {s : S} {l k : List Int} : fEq (.tup (iL l)) (.tup (iL k)) s = .ok (.bl (decide (l = k)), s) := by simp [fEq, qEq, peek, okD, eqD]
@[simp] theorem fNeT {s : S} {l k : List Int} : fNe (.tup (iL l)) (.tup (iL k)) s = .ok (.bl (!decide (l = k)), s) := by simp [fNe, qEq, peek, okD, eqD]
@[simp] theorem fEqL {s : S} {l k : List Int} : fEq (.lst (iL l)) (.lst (iL k)) s = .ok (.bl (decide (l = k)), s) := by simp [fEq, qEq, peek, okD, eqD]
@[simp] theorem fNeL {s : S} {l k : List Int} : fNe (.lst (iL l)) (.lst (iL k)) s = .ok (.bl (!decide (l = k)), s) := by simp [fNe, qEq, peek, okD, eqD]
@[simp] theorem x_fMul {s : S} {i j : Int} : fMul (.int i) (.int j) s = if mulOk i j then .ok (.int (i * j), s) else .no := by
  simp only [fMul, x_fP, x_gI]
  split <;> simp_all
theorem rng_iL (lo : Int) (n : Nat) : rng lo n = iL ((List.range n).map fun i => lo + (i : Nat)) := by simp [rng, iL, Function.comp_def]
theorem scr_iL (l : List Int) : l.map D.int = iL l := rfl
theorem ixN_nat {n k : Nat} (h : k < n) : ixN n (k : Int) = some k := by
  unfold ixN
  rw [if_pos (by omega), if_pos (by omega)]
  simp
theorem atI_nat {α : Type} {l : List α} {k : Nat} (h : k < l.length) : L2.atI l (k : Int) = some l[k] := by
  unfold L2.atI
  rw [ixN_nat h]
  simp [h]
theorem fIx_seq {s : S} {x : D} {l : List D} {k : Nat} (hx : seqOf s x = some l) (h : k < l.length) : fIx x (.int (k : Int)) s = .ok (l[k], s) := by
  have hs : ∀ z, x ≠ .str z := fun z e => by rw [e] at hx; cases hx
  unfold fIx
  split
  · exact absurd rfl (hs _)
  · rw [hx]
    dsimp only
    rw [atI_nat h]
theorem fIxT {s : S} {l : List D} {k : Nat} (h : k < l.length) : fIx (.tup l) (.int (k : Int)) s = .ok (l[k], s) := fIx_seq rfl h
theorem fIxL {s : S} {l : List D} {k : Nat} (h : k < l.length) : fIx (.lst l) (.int (k : Int)) s = .ok (l[k], s) := fIx_seq rfl h
theorem cut_take {α : Type} (l : List α) (k : Nat) : cut l none (some (k : Int)) = l.take k := by
  unfold cut
  rw [HT.sIx_none, HT.sIx_nat]
  simp [List.take_eq_take_iff]
theorem cut_drop {α : Type} (l : List α) (k : Nat) : cut l (some (k : Int)) none = l.drop k := by
  unfold cut
  rw [HT.sIx_none, HT.sIx_nat]
  by_cases h : k ≤ l.length
  · rw [Nat.min_eq_left h]
    apply List.take_of_length_le
    simp
  · rw [List.drop_of_length_le (by omega), List.drop_of_length_le (by omega)]; simp

@[simp] theorem x_eQ {s : S} {f : List Bool → Bool} {pb : S → D → Option Bool} {it : ME} : eQ f pb it s = (it s).bind fun d s => (match seqOf s d with
  | some l => match testL pb s l with
    | some bs => .ok (.bl (f bs), s)
    | none => .no
  | none => .no) := id rfl
@[simp] theorem testL_range {s : S} {i j : Int} : ∀ l : List Int, testL (pbRange i j) s (iL l) = some (l.map fun z => decide (i ≤ z) && decide (z < j))
  | [] => rfl
  | a :: l => by simp only [iL_cons, testL, pbRange, testL_range l]; rfl
@[simp] theorem x_eIsi {s : S} {T : String} {a : ME} : eIsi T a s = (a s).bind fun d s => (match tyD d with
  | some t => match kitB t T with
    | some b => .ok (.bl b, s)
    | none => .no
  | none => .no) := id rfl
@[simp] theorem x_tyI {i : Int} : tyD (.int i) = some "int" := id rfl
@[simp] theorem x_tyB {i : Bool} : tyD (.bl i) = some "bool" := id rfl
@[simp] theorem x_tyT {i : List D} : tyD (.tup i) = some "tuple" := id rfl
@[simp] theorem x_tyL {i : List D} : tyD (.lst i) = some "list" := id rfl
@[simp] theorem x_tyS {i : List Nat} : tyD (.str i) = some "str" := id rfl
@[simp] theorem x_tyN : tyD .non = some "NoneType" := id rfl
@[simp] theorem kit_ii : kitB "int" "int" = some true := by decide +kernel
@[simp] theorem kit_ib : kitB "int" "bool" = some false := by decide +kernel
@[simp] theorem kit_bb : kitB "bool" "bool" = some true := by decide +kernel
@[simp] theorem kit_bi : kitB "bool" "int" = some true := by decide +kernel
@[simp] theorem kit_tt : kitB "tuple" "tuple" = some true := by decide +kernel
@[simp] theorem kit_ti : kitB "tuple" "int" = some false := by decide +kernel
@[simp] theorem kit_tb : kitB "tuple" "bool" = some false := by decide +kernel
@[simp] theorem kit_ts : kitB "tuple" "str" = some false := by decide +kernel
@[simp] theorem kit_ss : kitB "str" "str" = some true := by decide +kernel
@[simp] theorem kit_si : kitB "str" "int" = some false := by decide +kernel
@[simp] theorem kit_sb : kitB "str" "bool" = some false := by decide +kernel
@[simp] theorem kit_st : kitB "str" "tuple" = some false := by decide +kernel
@[simp] theorem kit_is : kitB "int" "str" = some false := by decide +kernel
@[simp] theorem kit_it : kitB "int" "tuple" = some false := by decide +kernel
@[simp] theorem kit_bs : kitB "bool" "str" = some false := by decide +kernel
@[simp] theorem kit_bt : kitB "bool" "tuple" = some false := by decide +kernel
@[simp] theorem kit_nt : kitB "NoneType" "tuple" = some false := by decide +kernel
@[simp] theorem kit_ni : kitB "NoneType" "int" = some false := by decide +kernel
@[simp] theorem kit_ns : kitB "NoneType" "str" = some false := by decide +kernel
@[simp] theorem kit_nb : kitB "NoneType" "bool" = some false := by decide +kernel
@[simp] theorem x_gAllL {s : S} {f : List Bool → Bool} {l : List D} : gAllL f s (.lst l) = (match blsD l with | some bs => some (.bl (f bs)) | none => none) := id rfl
theorem blsD_map : ∀ (bs : List Bool), blsD (bs.map D.bl) = some bs
  | [] => rfl
  | b :: bs => by simp [blsD, blsD_map bs]

/-! ### loops -/
theorem forL_cons {g : MG} {b : MS} {d : D} {l : List D} {s : S} : forL g b (d :: l) s = (g d s).seq fun s => (b s).loop fun s => forL g b l s := id rfl
theorem forL_nil {g : MG} {b : MS} {s : S} : forL g b [] s = .nx s := id rfl
theorem forL_inv {g : MG} {b : MS} (I : Nat → S → Prop) : ∀ (l : List D) (n : Nat) (s : S), I n s → (∀ i d s, l[i]? = some d → I (n + i) s → ∃ s1, g d s = .nx s1 ∧ ∃ s', (b s1 = .nx s' ∨ b s1 = .ct s') ∧ I (n + i + 1) s') → ∃ s', forL g b l s = .nx s' ∧ I (n + l.length) s'
  | [], n, s, h, _ => ⟨s, rfl, h⟩
  | d :: l, n, s, h, st => by
    obtain ⟨s1, e1, s', e, h'⟩ := st 0 d s rfl h
    obtain ⟨s2, e2, h2⟩ := forL_inv I l (n + 1) s' h' fun i d s hd hi => by
      have := st (i + 1) d s (by simpa using hd) (by rw [show n + (i + 1) = n + 1 + i by omega]; exact hi)
      rw [show n + (i + 1) + 1 = n + 1 + i + 1 by omega] at this
      exact this
    refine ⟨s2, ?_, by rw [List.length_cons, show n + (l.length + 1) = n + 1 + l.length by omega]; exact h2⟩
    rw [← e2]
    simp only [forL, e1, C.seq_nx]
    rcases e with e | e <;> rw [e] <;> rfl
theorem lcL_pure {g : MG} {t : MT} {e : ME} {vs : List Nat} {r0 : List (Option D)} {m : List Ob} (p : D → Bool) (F : D → D) : ∀ (l acc : List D), acc.length + l.length ≤ SZ →
    (∀ d ∈ l, ∃ s1, g d ⟨wipeD r0 vs, m⟩ = .nx s1 ∧ ∃ s2, t s1 = .ok (p d, s2) ∧ (p d = true → ∃ r3, e s2 = .ok (F d, ⟨r3, m⟩)) ∧ s2.m = m) → lcL g t e vs r0 l acc ⟨r0, m⟩ = .ok (acc ++ (l.filter p).map F, ⟨r0, m⟩)
  | [], acc, _, _ => by simp [lcL]
  | d :: l, acc, hz, h => by
    obtain ⟨s1, h1, s2, h2, h3, h4⟩ := h d (by simp)
    have hz' : acc.length + (l.length + 1) ≤ SZ := by simpa using hz
    simp only [lcL, h1, h2]
    cases hp : p d with
    | true =>
      obtain ⟨r3, h5⟩ := h3 hp
      simp only [if_true, h5]
      rw [if_pos (by omega), lcL_pure p F l (acc ++ [F d]) (by simp; omega) fun d' hd' => h d' (by simp [hd'])]
      simp [hp]
    | false =>
      obtain ⟨r2, m2⟩ := s2
      have h4 : m2 = m := h4
      subst h4
      simp only [Bool.false_eq_true, if_false]
      rw [lcL_pure p F l acc (by omega) fun d' hd' => h d' (by simp [hd'])]
      simp [hp]
end VL
/-! the laws' common helpers: cells, draws -/
namespace VL
open PySem L2
def bDraws : MS :=
  (sIf (tAndM (tTruN (eV 3)) (tBl (eOp fGt (eV 2) (eC (.int 0))))) (sSeq (sDrop (eLM lmApp (eV 5) (aCons (eOp fMod (eCB (c1 gInt) (aCons (eV 2) aNil)) (eC (.int 5040))) aNil)))
  (sAsg (eOp fDiv (eV 2) (eC (.int 5040))) (gN 2))) (sSeq (sAsg (eOp fMod (eCB (c1 gInt) (aCons (eOp fAdd (eOp fAdd (eOp fMul (eV 4) (eC (.int 48271))) (eOp fMul (eOp fAdd (eV 6) (eC (.int 1))) (eC (.int 69621)))) (eC (.int 11))) aNil)) (eC (.int 2147483647))) (gN 7))
  (sSeq (sAsg (eOp fMod (eCB (c1 gInt) (aCons (eOp fAdd (eOp fMul (eV 7) (eV 7)) (eOp fMul (eC (.int 40692)) (eOp fAdd (eV 6) (eC (.int 3))))) aNil)) (eC (.int 2147483399))) (gN 7))
  (sDrop (eLM lmApp (eV 5) (aCons (eOp fMod (eCB (c1 gInt) (aCons (eOp fDiv (eV 7) (eC (.int 64))) aNil)) (eC (.int 5040))) aNil))))))
def mDraws : MS :=
  (sSeq (sAsg (eCB (c1 gAbs) (aCons (eCB (c1 gInt) (aCons (eV 0) aNil)) aNil)) (gN 2))
  (sSeq (sAsg (eOp fGe (eV 2) (eOp fPow (eC (.int 10)) (eC (.int 18)))) (gN 3))
  (sSeq (sAsg (eV 2) (gN 4))
  (sSeq (sAsg (eOwn (fLst aNil)) (gN 5))
  (sSeq (sFor (iRg1M (aCons (eV 1) aNil)) (gN 6) bDraws)
  (sRet (eTake 5)))))))
def mCell : MS :=
  (sSeq (sIf (tBl (eOp fLt (eV 1) (eCB cLen (aCons (eV 0) aNil)))) (sRet (eOp fIx (eV 0) (eV 1))) sNil)
  (sRet (eOp fAdd (eOp fMul (eC (.int 5)) (eV 1)) (eC (.int 3)))))

theorem cell_ok (ns : List Int) (k : Nat) (hl : ns.length ≤ 63) (hk : k ≤ 1000) : ∃ c : Int, pureOf 2 2 mCell [.scr ns, .int k] = .ok (.int c) := by
  by_cases h : k < ns.length
  · have e : fIx (.scr ns) (.int (k : Int)) ⟨[some (.scr ns), some (.int k)], []⟩ = .ok (.int ns[k], ⟨[some (.scr ns), some (.int k)], []⟩) := by
      have := fIx_seq (s := ⟨[some (.scr ns), some (.int k)], []⟩) (x := .scr ns) (l := ns.map D.int) rfl (k := k) (by simpa using h)
      rw [this]; simp
    refine ⟨ns[k], ?_⟩
    have h' : ((k : Int) < (ns.length : Int)) := by omega
    simp [mCell, h', e]
  · have h' : ¬ ((k : Int) < (ns.length : Int)) := by omega
    have hm : mulOk 5 (k : Int) = true := by simp only [x_mulOk, Bool.or_eq_true, decide_eq_true_eq]; left; omega
    refine ⟨5 * (k : Int) + 3, ?_⟩
    simp [mCell, h', hm]
def DrawsI (c n : Int) (dg : Bool) (sd : Int) (i : Nat) (s : S) : Prop := ∃ (rest : Int) (ds : List Int) (k mx : Option D), s = ⟨[some (.int c), some (.int n), some (.int rest), some (.bl dg), some (.int sd), some (.loc 0), k, mx], [.lst (iL ds)]⟩ ∧ ds.length = i ∧ ∀ x ∈ ds, 0 ≤ x ∧ x < 5040
abbrev dS (c n rest : Int) (dg : Bool) (sd : Int) (k mx : Option D) (ds : List Int) : S := ⟨[some (.int c), some (.int n), some (.int rest), some (.bl dg), some (.int sd), some (.loc 0), k, mx], [.lst (iL ds)]⟩
theorem draws_a {c n rest sd i : Int} {mx : Option D} {ds : List Int} (h0 : 0 < rest) (hz : ds.length < SZ) : bDraws (dS c n rest true sd (some (.int i)) mx ds) = .nx (dS c n (rest / 5040) true sd (some (.int i)) mx (ds ++ [rest % 5040])) := by
  simp [bDraws, h0, hz]
theorem draws_b {c n rest sd i : Int} {dg : Bool} {mx : Option D} {ds : List Int} (hc : ¬ (dg = true ∧ 0 < rest)) (hi : 0 ≤ i ∧ i < 1000000) (hz : ds.length < SZ) (m1 m2 : Int) (h1 : m1 = (sd * 48271 + (i + 1) * 69621 + 11) % 2147483647) (h2 : m2 = (m1 * m1 + 40692 * (i + 3)) % 2147483399) :
    bDraws (dS c n rest dg sd (some (.int i)) mx ds) = .nx (dS c n rest dg sd (some (.int i)) (some (.int m2)) (ds ++ [m2 / 64 % 5040])) := by
  have e4 : mulOk m1 m1 = true := mulOk_r (by omega) (by omega)
  have e3 : mulOk 40692 (i + 3) = true := mulOk_r (by omega) (by omega)
  cases dg with
  | false => simp [bDraws, hz, e3, e4, ← h1, ← h2]
  | true =>
    have h0 : ¬ 0 < rest := fun z => hc ⟨rfl, z⟩
    simp [bDraws, hz, h0, e3, e4, ← h1, ← h2]
theorem draws_loop (c : Int) (n : Nat) (dg : Bool) (sd : Int) (hn : n ≤ 1000000) : ∃ s', forL (gN 6) bDraws (rng 0 n) (dS c n sd dg sd none none []) = .nx s' ∧ DrawsI c n dg sd (0 + (rng 0 n).length) s' := by
  refine forL_inv (DrawsI c n dg sd) (rng 0 n) 0 _ ⟨_, [], _, _, rfl, rfl, by simp⟩ ?_
  rintro i d s hd ⟨rest, ds, k, mx, rfl, hl, hb⟩
  have hi : i < n := by
    have := (List.getElem?_eq_some_iff.mp hd).1
    simpa [rng] using this
  simp [rng, hi] at hd
  subst hd
  have hz : ds.length < SZ := by rw [SZv]; omega
  refine ⟨dS c n rest dg sd (some (.int i)) mx ds, rfl, ?_⟩
  by_cases hc : dg = true ∧ 0 < rest
  · obtain ⟨rfl, h0⟩ := hc
    refine ⟨_, .inl (draws_a h0 hz), rest / 5040, ds ++ [rest % 5040], some (.int i), mx, rfl, by simp [hl], ?_⟩
    intro x hx
    rcases List.mem_append.mp hx with h | h
    · exact hb x h
    · simp at h; subst h; omega
  · obtain ⟨m1, h1⟩ : ∃ q, q = (sd * 48271 + ((i : Int) + 1) * 69621 + 11) % 2147483647 := ⟨_, rfl⟩
    obtain ⟨m2, h2⟩ : ∃ q, q = (m1 * m1 + 40692 * ((i : Int) + 3)) % 2147483399 := ⟨_, rfl⟩
    refine ⟨_, .inl (draws_b hc (by omega) hz m1 m2 h1 h2), rest, ds ++ [m2 / 64 % 5040], some (.int i), some (.int m2), rfl, by simp [hl], ?_⟩
    intro x hx
    rcases List.mem_append.mp hx with h | h
    · exact hb x h
    · simp at h; subst h; omega
theorem draws_ok (c : Int) (n : Nat) (hn : n ≤ 1000000) : ∃ ds : List Int, ds.length = n ∧ (∀ x ∈ ds, 0 ≤ x ∧ x < 5040) ∧ pureOf 8 2 mDraws [.int c, .int n] = .ok (.lst (iL ds)) := by
  obtain ⟨s', e, rest, ds, k, mx, rfl, hl, hb⟩ := draws_loop c n (decide (1000000000000000000 ≤ (if c < 0 then -c else c))) (if c < 0 then -c else c) hn
  refine ⟨ds, by simpa [rng] using hl, hb, ?_⟩
  have h1 : (n : Int) < 4611686018427387904 := by omega
  simp only [dS, iL_nil] at e
  refine pure_rt rfl ?_ (by simp)
  unfold mDraws
  simp [powOk, h1, e]
end VL
namespace K45
open PySem PySem.Spec PyProof.Rows L2 VL
def top (i : Nat) : Stmt := PySem.Challenge.pw_mailways_k45_whole_sealed_figures_counte.main.body.getD i (.Pass ⟨0, 0, 0, 0⟩)
abbrev FnD (K : PySem.W.Frag) (x : Str) (st : Stmt) (f : Addr) (fd : FuncData) : Prop := FunD K x x (defArgs st) (defBody st) (defScope st) [] [] f fd
/-! rest_of -/
abbrev st_rest_of : Stmt := top 1
abbrev N_rest_of : List Str := ["weights", "m", "figures", "weight", "figure"]
abbrev P_rest_of : List Str := ["weights", "m", "figures"]
def m_rest_of : MS :=
  (sRet (eOp fMod (eCB (c1 gSum) (aCons (eFrz (fLc (iZipM (aCons (eV 0) (aCons (eV 2) aNil))) (gTupM (gsCons (gN 3) (gsCons (gN 4) gsNil))) tYesM (eOp fMul (eV 3) (eV 4)) [3, 4])) aNil)) (eV 1)))
def f_rest_of : List D → PR := pureOf 5 3 m_rest_of
/-! is_sealed -/
abbrev st_is_sealed : Stmt := top 2
abbrev N_is_sealed : List Str := ["weights", "m", "figures"]
abbrev P_is_sealed : List Str := ["weights", "m", "figures"]
def m_is_sealed : MS :=
  (sSeq (sIf (tOrM (tBl (eOp fNe (eCB cLen (aCons (eV 2) aNil)) (eCB cLen (aCons (eV 0) aNil)))) (tNotM (tTruN (eQ allB (pbRange 0 10) (eV 2))))) (sRet (eC (.bl false))) sNil)
  (sRet (eOp fEq (eCall f_rest_of (aCons (eV 0) (aCons (eV 1) (aCons (eV 2) aNil)))) (eC (.int 0)))))
def f_is_sealed : List D → PR := pureOf 3 3 m_is_sealed
/-! seals_of -/
abbrev st_seals_of : Stmt := top 3
abbrev N_seals_of : List Str := ["weights", "m", "figures", "last"]
abbrev P_seals_of : List Str := ["weights", "m", "figures"]
def m_seals_of : MS :=
  (sRet (eCB (c1 gTuple) (aCons (eFrz (fLc (iRg1M (aCons (eC (.int 10)) aNil)) (gN 3) (tTruN (eCall f_is_sealed (aCons (eV 0) (aCons (eV 1) (aCons (eOp fAdd (eCB (c1 gTuple) (aCons (eV 2) aNil)) (eTup (aCons (eV 3) aNil))) aNil))))) (eV 3) [3])) aNil)))
def f_seals_of : List D → PR := pureOf 4 3 m_seals_of
/-! number_sealed -/
abbrev st_number_sealed : Stmt := top 4
abbrev N_number_sealed : List Str := ["weights", "m", "counts", "weight", "after", "rest", "number", "figure", "key"]
abbrev P_number_sealed : List Str := ["weights", "m"]
def m_number_sealed : MS :=
  (sSeq (sAsg (eFrz (fDct1 (eC (.int 0)) (eC (.int 1)))) (gN 2))
  (sSeq (sFor (iSeqM (eV 0)) (gN 3) (sSeq (sAsg (eOwn fDctN) (gN 4))
  (sSeq (sForD dItems 2 (gTupM (gsCons (gN 5) (gsCons (gN 6) gsNil))) (sFor (iRg1M (aCons (eC (.int 10)) aNil)) (gN 7) (sSeq (sAsg (eOp fMod (eOp fAdd (eV 5) (eOp fMul (eV 3) (eV 7))) (eV 1)) (gN 8))
  (sAsg (eOp fAdd (eGet2 (eV 4) (eV 8) (eC (.int 0))) (eV 6)) (gSet (eV 4) (eV 8))))))
  (sAsg (eV 4) (gN 2)))))
  (sRet (eGet2 (eV 2) (eC (.int 0)) (eC (.int 0))))))
def f_number_sealed : List D → PR := pureOf 9 2 m_number_sealed
/-! can_be_sealed -/
abbrev st_can_be_sealed : Stmt := top 5
abbrev N_can_be_sealed : List Str := ["weights", "m", "rest", "known", "weight", "after", "one", "figure"]
abbrev P_can_be_sealed : List Str := ["weights", "m", "rest"]
def m_can_be_sealed : MS :=
  (sSeq (sAsg (eFrz (fDct1 (eOp fMod (eV 2) (eV 1)) (eC (.bl true)))) (gN 3))
  (sSeq (sFor (iSeqM (eV 0)) (gN 4) (sSeq (sAsg (eOwn fDctN) (gN 5))
  (sSeq (sForD dKeys 3 (gN 6) (sFor (iRg1M (aCons (eC (.int 10)) aNil)) (gN 7) (sAsg (eC (.bl true)) (gSet (eV 5) (eOp fMod (eOp fAdd (eV 6) (eOp fMul (eV 4) (eV 7))) (eV 1))))))
  (sAsg (eV 5) (gN 3)))))
  (sRet (eOp fIn (eC (.int 0)) (eV 3)))))
def f_can_be_sealed : List D → PR := pureOf 8 3 m_can_be_sealed
/-! least_sealed -/
abbrev st_least_sealed : Stmt := top 6
abbrev N_least_sealed : List Str := ["weights", "m", "begun", "rest", "weight", "figure", "figures", "place", "after"]
abbrev P_least_sealed : List Str := ["weights", "m", "begun"]
def m_least_sealed : MS :=
  (sSeq (sAsg (eCB (c1 gSum) (aCons (eFrz (fLc (iZipM (aCons (eV 0) (aCons (eV 2) aNil))) (gTupM (gsCons (gN 4) (gsCons (gN 5) gsNil))) tYesM (eOp fMul (eV 4) (eV 5)) [4, 5])) aNil)) (gN 3))
  (sSeq (sIf (tNotM (tTruN (eCall f_can_be_sealed (aCons (eCut (eV 0) (oSome (eCB cLen (aCons (eV 2) aNil))) oNone) (aCons (eV 1) (aCons (eV 3) aNil)))))) (sRet (eC .non)) sNil)
  (sSeq (sAsg (eCB (c1 gTuple) (aCons (eV 2) aNil)) (gN 6))
  (sSeq (sFor (iRg2M (aCons (eCB cLen (aCons (eV 2) aNil)) (aCons (eCB cLen (aCons (eV 0) aNil)) aNil))) (gN 7) (sFor (iRg1M (aCons (eC (.int 10)) aNil)) (gN 5) (sSeq (sAsg (eOp fAdd (eV 3) (eOp fMul (eOp fIx (eV 0) (eV 7)) (eV 5))) (gN 8))
  (sIf (tTruN (eCall f_can_be_sealed (aCons (eCut (eV 0) (oSome (eOp fAdd (eV 7) (eC (.int 1)))) oNone) (aCons (eV 1) (aCons (eV 8) aNil))))) (sSeq (sAsg (eOp fAdd (eV 6) (eTup (aCons (eV 5) aNil))) (gN 6))
  (sSeq (sAsg (eV 8) (gN 3))
  sBk)) sNil))))
  (sRet (eV 6))))))
def f_least_sealed : List D → PR := pureOf 9 3 m_least_sealed
/-! _law_cell -/
abbrev st__law_cell : Stmt := top 8
abbrev N__law_cell : List Str := ["script", "k"]
abbrev P__law_cell : List Str := ["script", "k"]
def m__law_cell : MS :=
  (sSeq (sIf (tBl (eOp fLt (eV 1) (eCB cLen (aCons (eV 0) aNil)))) (sRet (eOp fIx (eV 0) (eV 1))) sNil)
  (sRet (eOp fAdd (eOp fMul (eC (.int 5)) (eV 1)) (eC (.int 3)))))
def f__law_cell : List D → PR := pureOf 2 2 m__law_cell
/-! _law_draws -/
abbrev st__law_draws : Stmt := top 9
abbrev N__law_draws : List Str := ["cell", "count", "rest", "digits", "seed", "draws", "k", "mixed"]
abbrev P__law_draws : List Str := ["cell", "count"]
def m__law_draws : MS :=
  (sSeq (sAsg (eCB (c1 gAbs) (aCons (eCB (c1 gInt) (aCons (eV 0) aNil)) aNil)) (gN 2))
  (sSeq (sAsg (eOp fGe (eV 2) (eOp fPow (eC (.int 10)) (eC (.int 18)))) (gN 3))
  (sSeq (sAsg (eV 2) (gN 4))
  (sSeq (sAsg (eOwn (fLst aNil)) (gN 5))
  (sSeq (sFor (iRg1M (aCons (eV 1) aNil)) (gN 6) (sIf (tAndM (tTruN (eV 3)) (tBl (eOp fGt (eV 2) (eC (.int 0))))) (sSeq (sDrop (eLM lmApp (eV 5) (aCons (eOp fMod (eCB (c1 gInt) (aCons (eV 2) aNil)) (eC (.int 5040))) aNil)))
  (sAsg (eOp fDiv (eV 2) (eC (.int 5040))) (gN 2))) (sSeq (sAsg (eOp fMod (eCB (c1 gInt) (aCons (eOp fAdd (eOp fAdd (eOp fMul (eV 4) (eC (.int 48271))) (eOp fMul (eOp fAdd (eV 6) (eC (.int 1))) (eC (.int 69621)))) (eC (.int 11))) aNil)) (eC (.int 2147483647))) (gN 7))
  (sSeq (sAsg (eOp fMod (eCB (c1 gInt) (aCons (eOp fAdd (eOp fMul (eV 7) (eV 7)) (eOp fMul (eC (.int 40692)) (eOp fAdd (eV 6) (eC (.int 3))))) aNil)) (eC (.int 2147483399))) (gN 7))
  (sDrop (eLM lmApp (eV 5) (aCons (eOp fMod (eCB (c1 gInt) (aCons (eOp fDiv (eV 7) (eC (.int 64))) aNil)) (eC (.int 5040))) aNil)))))))
  (sRet (eTake 5)))))))
def f__law_draws : List D → PR := pureOf 8 2 m__law_draws
/-! _law_is_integer -/
abbrev st__law_is_integer : Stmt := top 10
abbrev N__law_is_integer : List Str := ["value"]
abbrev P__law_is_integer : List Str := ["value"]
def m__law_is_integer : MS :=
  (sRet (eAndV (eIsi "int" (eV 0)) (eNotV (eIsi "bool" (eV 0)))))
def f__law_is_integer : List D → PR := pureOf 1 1 m__law_is_integer
/-! _law_rest -/
abbrev st__law_rest : Stmt := top 11
abbrev N__law_rest : List Str := ["weights", "m", "figures", "weight", "figure"]
abbrev P__law_rest : List Str := ["weights", "m", "figures"]
def m__law_rest : MS :=
  (sRet (eOp fMod (eCB (c1 gSum) (aCons (eFrz (fLc (iZipM (aCons (eV 0) (aCons (eV 2) aNil))) (gTupM (gsCons (gN 3) (gsCons (gN 4) gsNil))) tYesM (eOp fMul (eV 3) (eV 4)) [3, 4])) aNil)) (eV 1)))
def f__law_rest : List D → PR := pureOf 5 3 m__law_rest
/-! _law_every -/
abbrev st__law_every : Stmt := top 12
abbrev N__law_every : List Str := ["n", "found", "turn", "longer", "row", "figure"]
abbrev P__law_every : List Str := ["n"]
def m__law_every : MS :=
  (sSeq (sAsg (eFrz (fLst (aCons (eTup aNil) aNil))) (gN 1))
  (sSeq (sFor (iRg1M (aCons (eV 0) aNil)) (gN 2) (sSeq (sAsg (eFrz (fLst aNil)) (gN 3))
  (sSeq (sFor (iSeqM (eV 1)) (gN 4) (sAsg (eOp fAdd (eV 3) (eFrz (fLc (iRg1M (aCons (eC (.int 10)) aNil)) (gN 5) tYesM (eOp fAdd (eV 4) (eTup (aCons (eV 5) aNil))) [5]))) (gN 3)))
  (sAsg (eV 3) (gN 1)))))
  (sRet (eV 1))))
def f__law_every : List D → PR := pureOf 6 1 m__law_every
/-! law -/
abbrev st_law : Stmt := top 13
abbrev N_law : List Str := ["script", "draws", "k", "n", "m", "weights", "at", "rows", "row", "told", "turn", "begun", "good", "least", "figure", "sealed", "figures", "due", "last", "seals"]
abbrev P_law : List Str := ["script"]
def m_law : MS :=
  (sSeq (sAsg (eCall f__law_draws (aCons (eCall f__law_cell (aCons (eV 0) (aCons (eC (.int 0)) aNil))) (aCons (eC (.int 24)) aNil))) (gN 1))
  (sSeq (sFor (iRg1M (aCons (eC (.int 2)) aNil)) (gN 2) (sSeq (sAsg (eIf (tBl (eOp fGt (eOp fMod (eCB (c1 gInt) (aCons (eOp fIx (eV 1) (eC (.int 2))) aNil)) (eC (.int 10))) (eC (.int 0)))) (eOp fIx (eTup (aCons (eC (.int 3)) (aCons (eC (.int 2)) (aCons (eC (.int 1)) (aCons (eC (.int 3)) aNil))))) (eOp fMod (eCB (c1 gInt) (aCons (eOp fIx (eV 1) (eV 2)) aNil)) (eC (.int 4)))) (eC (.int 4))) (gN 3))
  (sSeq (sAsg (eOp fAdd (eC (.int 2)) (eOp fMod (eCB (c1 gInt) (aCons (eOp fIx (eV 1) (eOp fAdd (eC (.int 3)) (eV 2))) aNil)) (eOp fIx (eTup (aCons (eC (.int 9)) (aCons (eC (.int 59)) aNil))) (eOp fMod (eCB (c1 gInt) (aCons (eOp fIx (eV 1) (eC (.int 5))) aNil)) (eC (.int 2)))))) (gN 4))
  (sSeq (sAsg (eCB (c1 gTuple) (aCons (eFrz (fLc (iRg1M (aCons (eV 3) aNil)) (gN 6) tYesM (eOp fSub (eOp fMod (eOp fDiv (eCB (c1 gInt) (aCons (eOp fIx (eV 1) (eOp fAdd (eC (.int 6)) (eV 6))) aNil)) (eOp fAdd (eC (.int 1)) (eV 2))) (eC (.int 21))) (eC (.int 5))) [6])) aNil)) (gN 5))
  (sSeq (sAsg (eFrz (fLc (iSeqM (eCall f__law_every (aCons (eV 3) aNil))) (gN 8) (tBl (eOp fEq (eCall f__law_rest (aCons (eV 5) (aCons (eV 4) (aCons (eV 8) aNil)))) (eC (.int 0)))) (eV 8) [8])) (gN 7))
  (sSeq (sAsg (eCall f_number_sealed (aCons (eV 5) (aCons (eV 4) aNil))) (gN 9))
  (sSeq (sIf (tOrM (tNotM (tTruN (eCall f__law_is_integer (aCons (eV 9) aNil)))) (tBl (eOp fNe (eV 9) (eCB cLen (aCons (eV 7) aNil))))) (sRet (eC (.bl false))) sNil)
  (sSeq (sFor (iRg1M (aCons (eC (.int 5)) aNil)) (gN 10) (sSeq (sAsg (eCB (c1 gTuple) (aCons (eFrz (fLc (iRg1M (aCons (eOp fMod (eV 10) (eOp fAdd (eV 3) (eC (.int 1)))) aNil)) (gN 6) tYesM (eOp fMod (eOp fDiv (eCB (c1 gInt) (aCons (eOp fIx (eV 1) (eOp fAdd (eOp fAdd (eC (.int 10)) (eV 10)) (eV 6))) aNil)) (eOp fAdd (eC (.int 1)) (eV 10))) (eC (.int 10))) [6])) aNil)) (gN 11))
  (sSeq (sAsg (eFrz (fLc (iSeqM (eV 7)) (gN 8) (tBl (eOp fEq (eCut (eV 8) oNone (oSome (eCB cLen (aCons (eV 11) aNil)))) (eV 11))) (eV 8) [8])) (gN 12))
  (sSeq (sAsg (eCall f_least_sealed (aCons (eV 5) (aCons (eV 4) (aCons (eV 11) aNil)))) (gN 13))
  (sSeq (sIf (tBl (eOp fNe (eOp fIs (eV 13) (eC .non)) (eOp fEq (eCB cLen (aCons (eV 12) aNil)) (eC (.int 0))))) (sRet (eC (.bl false))) sNil)
  (sIf (tBl (eOp fIsn (eV 13) (eC .non))) (sSeq (sIf (tOrM (tNotM (tTruN (eIsi "tuple" (eV 13)))) (tOrM (tNotM (tTruN (eCB (c1 (gAllL allB)) (aCons (eFrz (fLc (iSeqM (eV 13)) (gN 14) tYesM (eCall f__law_is_integer (aCons (eV 14) aNil)) [14])) aNil)))) (tBl (eOp fNe (eV 13) (eOp fIx (eV 12) (eC (.int 0))))))) (sRet (eC (.bl false))) sNil)
  (sSeq (sAsg (eCall f_is_sealed (aCons (eV 5) (aCons (eV 4) (aCons (eV 13) aNil)))) (gN 15))
  (sIf (tOrM (tNotM (tTruN (eIsi "bool" (eV 15)))) (tNotM (tTruN (eV 15)))) (sRet (eC (.bl false))) sNil))) sNil))))))
  (sSeq (sAsg (eCB (c1 gTuple) (aCons (eFrz (fLc (iRg1M (aCons (eOp fSub (eV 3) (eC (.int 1))) aNil)) (gN 6) tYesM (eOp fMod (eCB (c1 gInt) (aCons (eOp fIx (eV 1) (eOp fAdd (eC (.int 16)) (eV 6))) aNil)) (eC (.int 10))) [6])) aNil)) (gN 16))
  (sSeq (sAsg (eFrz (fLc (iRg1M (aCons (eC (.int 10)) aNil)) (gN 18) (tBl (eOp fEq (eCall f__law_rest (aCons (eV 5) (aCons (eV 4) (aCons (eOp fAdd (eV 16) (eTup (aCons (eV 18) aNil))) aNil)))) (eC (.int 0)))) (eV 18) [18])) (gN 17))
  (sSeq (sAsg (eCall f_seals_of (aCons (eV 5) (aCons (eV 4) (aCons (eV 16) aNil)))) (gN 19))
  (sIf (tOrM (tNotM (tTruN (eIsi "tuple" (eV 19)))) (tOrM (tNotM (tTruN (eCB (c1 (gAllL allB)) (aCons (eFrz (fLc (iSeqM (eV 19)) (gN 18) tYesM (eCall f__law_is_integer (aCons (eV 18) aNil)) [18])) aNil)))) (tBl (eOp fNe (eFrz (fCB gList (aCons (eV 19) aNil))) (eV 17))))) (sRet (eC (.bl false))) sNil))))))))))))
  (sRet (eC (.bl true)))))
def f_law : List D → PR := pureOf 20 1 m_law
end K45
namespace K45
open PySem L2 VL

def dot (ws fs : List Int) : Int := (List.zipWith (· * ·) ws fs).sum
def prodD : D → D
  | .tup [.int a, .int b] => .int (a * b)
  | _ => .non
theorem prod_pairs : ∀ (ws fs : List Int), (pairs (iL ws) (iL fs)).map prodD = iL (List.zipWith (· * ·) ws fs)
  | [], _ => rfl
  | _ :: _, [] => rfl
  | a :: ws, b :: fs => by
    have ih := prod_pairs ws fs
    simp only [pairs] at ih
    simp [pairs, prodD, ih]
/-- small factors -/
def Sm (ws : List Int) : Prop := ∀ w ∈ ws, -1000000 < w ∧ w < 1000000
theorem mem_pairs {d : D} : ∀ {ws fs : List Int}, d ∈ pairs (iL ws) (iL fs) → ∃ a b, d = .tup [.int a, .int b] ∧ a ∈ ws ∧ b ∈ fs
  | [], _, h => by simp [pairs] at h
  | _ :: _, [], h => by simp [pairs] at h
  | a :: ws, b :: fs, h => by
    simp only [pairs, iL_cons, List.zipWith_cons_cons, List.mem_cons] at h
    rcases h with rfl | h
    · exact ⟨a, b, rfl, by simp, by simp⟩
    · obtain ⟨x, y, e, h1, h2⟩ := mem_pairs (ws := ws) (fs := fs) h
      exact ⟨x, y, e, by simp [h1], by simp [h2]⟩
theorem sum_run {r : List (Option D)} {ws fs : List Int} (hw : Sm ws) (hl : ws.length ≤ 1000000) {i j : Nat} (hij : i ≠ j) (hi : i < r.length) (hj : j < r.length) :
    lcL (gTupM (gsCons (gN i) (gsCons (gN j) gsNil))) tYesM (eOp fMul (eV i) (eV j)) [i, j] r (pairs (iL ws) (iL fs)) [] ⟨r, []⟩ = .ok (iL (List.zipWith (· * ·) ws fs), ⟨r, []⟩) := by
  rw [lcL_pure (fun _ => true) prodD]
  · have : (pairs (iL ws) (iL fs)).filter (fun _ => true) = pairs (iL ws) (iL fs) := List.filter_eq_self.mpr fun _ _ => rfl
    rw [this, prod_pairs]; rfl
  · rw [SZv]
    have : (pairs (iL ws) (iL fs)).length ≤ ws.length := by simp [pairs]; omega
    simp only [List.length_nil]; omega
  · intro d hd
    obtain ⟨a, b, rfl, ha, hb⟩ := mem_pairs hd
    obtain ⟨h1, h2⟩ := hw a ha
    refine ⟨_, rfl, _, rfl, fun _ => ⟨((wipeD r [i, j]).set i (some (.int a))).set j (some (.int b)), ?_⟩, rfl⟩
    have li : i < (wipeD r [i, j]).length := by rw [wipeD_length]; exact hi
    have lj : j < ((wipeD r [i, j]).set i (some (.int a))).length := by rw [List.length_set, wipeD_length]; exact hj
    have e1 : (((wipeD r [i, j]).set i (some (.int a))).set j (some (.int b)))[i]? = some (some (.int a)) := by
      rw [List.getElem?_set_ne (Ne.symm hij), List.getElem?_set_self li]
    have e2 : (((wipeD r [i, j]).set i (some (.int a))).set j (some (.int b)))[j]? = some (some (.int b)) := List.getElem?_set_self lj
    have hm : mulOk a b = true := by
      simp only [x_mulOk, Bool.or_eq_true, decide_eq_true_eq]; left; omega
    simp only [x_eOp, x_eV, e1, e2, VL.R.bind_ok, x_fMul, hm, if_true, prodD]
theorem rest_ok {ws fs : List Int} {m : Int} (hw : Sm ws) (hl : ws.length ≤ 1000000) (hm : 0 < m) : f_rest_of [.tup (iL ws), .int m, .tup (iL fs)] = .ok (.int (dot ws fs % m)) := by
  have := sum_run (r := [some (.tup (iL ws)), some (.int m), some (.tup (iL fs)), none, none]) (fs := fs) hw hl (i := 3) (j := 4) (by decide) (by simp) (by simp)
  simp [f_rest_of, m_rest_of, this, hm, dot]
theorem law_rest_ok {ws fs : List Int} {m : Int} (hw : Sm ws) (hl : ws.length ≤ 1000000) (hm : 0 < m) : f__law_rest [.tup (iL ws), .int m, .tup (iL fs)] = .ok (.int (dot ws fs % m)) := rest_ok hw hl hm

def inFig (fs : List Int) : Bool := fs.all fun f => decide (0 ≤ f) && decide (f < 10)
def sealedB (ws : List Int) (m : Int) (fs : List Int) : Bool := decide (fs.length = ws.length) && inFig fs && decide (dot ws fs % m = 0)
theorem allB_map (l : List Int) (p : Int → Bool) : allB (l.map p) = l.all p := by simp [allB, List.all_map, Function.comp_def]
theorem sealed_ok {ws fs : List Int} {m : Int} (hw : Sm ws) (hl : ws.length ≤ 1000000) (hm : 0 < m) : f_is_sealed [.tup (iL ws), .int m, .tup (iL fs)] = .ok (.bl (sealedB ws m fs)) := by
  simp only [f_is_sealed, m_is_sealed]
  by_cases h1 : fs.length = ws.length
  · cases h2 : inFig fs with
    | true =>
      have h3 : allB (fs.map fun z => decide (0 ≤ z) && decide (z < 10)) = true := by rw [allB_map]; exact h2
      simp [h1, h2, h3, rest_ok hw hl hm, sealedB]
    | false =>
      have h3 : allB (fs.map fun z => decide (0 ≤ z) && decide (z < 10)) = false := by rw [allB_map]; exact h2
      simp [h1, h2, h3, sealedB]
  · have h1' : ¬ ((fs.length : Int) = (ws.length : Int)) := by omega
    simp [h1, h1', sealedB]
theorem isint_ok (i : Int) : f__law_is_integer [.int i] = .ok (.bl true) := by
  simp [f__law_is_integer, m__law_is_integer]

def figs : List Int := [0, 1, 2, 3, 4, 5, 6, 7, 8, 9]
theorem rng10 : rng 0 10 = iL figs := rfl
def ext (r : List Int) : List (List Int) := figs.map fun f => r ++ [f]
def E : Nat → List (List Int)
  | 0 => [[]]
  | n + 1 => (E n).flatMap ext
def rowsD (L : List (List Int)) : List D := L.map fun r => .tup (iL r)
theorem E_len (n : Nat) : (E n).length = 10 ^ n := by
  induction n with
  | zero => rfl
  | succ n ih =>
    have : ∀ L : List (List Int), (L.flatMap ext).length = L.length * 10 := fun L => by
      induction L with
      | nil => rfl
      | cons a L ih => rw [List.flatMap_cons, List.length_append, ih, List.length_cons]; simp [ext, figs]; omega
    rw [E, this, ih, Nat.pow_succ]
theorem E_mem {n : Nat} {r : List Int} (h : r ∈ E n) : r.length = n ∧ ∀ f ∈ r, f ∈ figs := by
  induction n generalizing r with
  | zero => simp [E] at h; subst h; simp
  | succ n ih =>
    simp only [E, List.mem_flatMap, ext, List.mem_map] at h
    obtain ⟨q, hq, f, hf, rfl⟩ := h
    obtain ⟨h1, h2⟩ := ih hq
    refine ⟨by simp [h1], fun g hg => ?_⟩
    rcases List.mem_append.mp hg with hg | hg
    · exact h2 g hg
    · simp at hg; subst hg; exact hf
def extD (row : List Int) : D → D
  | .int f => .tup (iL (row ++ [f]))
  | _ => .non
theorem ext_run {a b c d0 x y : Option D} {row : List Int} (hr : row.length ≤ 1000) :
    lcL (gN 5) tYesM (eOp fAdd (eV 4) (eTup (aCons (eV 5) aNil))) [5] [a, b, c, d0, some (.tup (iL row)), y] (iL figs) [] ⟨[a, b, c, d0, some (.tup (iL row)), y], []⟩ = .ok (rowsD (ext row), ⟨[a, b, c, d0, some (.tup (iL row)), y], []⟩) := by
  rw [lcL_pure (fun _ => true) (extD row)]
  · simp [figs, extD, rowsD, ext]
  · rw [SZv]; simp [figs]
  · intro d hd
    obtain ⟨f, hf, rfl⟩ := List.mem_map.mp hd
    refine ⟨_, rfl, _, rfl, fun _ => ⟨[a, b, c, d0, some (.tup (iL row)), some (.int f)], ?_⟩, rfl⟩
    have h2 : row.length + 1 ≤ SZ := by rw [SZv]; omega
    have h3 : 1 ≤ SZ := by rw [SZv]; omega
    simp [wipeD, h2, h3, extD]
def bEv : MS := (sAsg (eOp fAdd (eV 3) (eFrz (fLc (iRg1M (aCons (eC (.int 10)) aNil)) (gN 5) tYesM (eOp fAdd (eV 4) (eTup (aCons (eV 5) aNil))) [5]))) (gN 3))
theorem every_inner {a b c : Option D} : ∀ (L acc : List (List Int)) (x y : Option D), (∀ r ∈ L, r.length ≤ 1000) → acc.length + L.length * 10 ≤ SZ →
    ∃ x' y', forL (gN 4) bEv (rowsD L) ⟨[a, b, c, some (.lst (rowsD acc)), x, y], []⟩ = .nx ⟨[a, b, c, some (.lst (rowsD (acc ++ L.flatMap ext))), x', y'], []⟩
  | [], acc, x, y, _, _ => ⟨x, y, by simp [rowsD, forL]⟩
  | r :: L, acc, x, y, h, hz => by
    have hz' : acc.length + (L.length + 1) * 10 ≤ SZ := hz
    have hr := ext_run (a := a) (b := b) (c := c) (d0 := some (.lst (rowsD acc))) (x := x) (y := y) (h r (by simp))
    have hl : (rowsD acc).length + (rowsD (ext r)).length ≤ SZ := by simp [rowsD, ext, figs]; omega
    obtain ⟨x', y', e⟩ := every_inner L (acc ++ ext r) (some (.tup (iL r))) y (fun q hq => h q (by simp [hq])) (by simp [ext, figs]; omega)
    refine ⟨x', y', ?_⟩
    have e0 : rowsD (r :: L) = .tup (iL r) :: rowsD L := rfl
    have e1 : rowsD acc ++ rowsD (ext r) = rowsD (acc ++ ext r) := by simp [rowsD]
    have e2 : acc ++ (r :: L).flatMap ext = acc ++ ext r ++ L.flatMap ext := by simp
    rw [e0, e2, ← e, forL]
    simp [bEv, rng10, hr, hl, e1]
def bEv2 : MS := (sSeq (sAsg (eFrz (fLst aNil)) (gN 3))
  (sSeq (sFor (iSeqM (eV 1)) (gN 4) bEv)
  (sAsg (eV 3) (gN 1))))
theorem every_outer {n : Option D} : ∀ (l : List D) (k : Nat) (a b c d : Option D), k + l.length ≤ 5 →
    ∃ a' b' c' d', forL (gN 2) bEv2 l ⟨[n, some (.lst (rowsD (E k))), a, b, c, d], []⟩ = .nx ⟨[n, some (.lst (rowsD (E (k + l.length)))), a', b', c', d'], []⟩
  | [], k, a, b, c, d, _ => ⟨a, b, c, d, rfl⟩
  | t :: l, k, a, b, c, d, h => by
    have h : k + (l.length + 1) ≤ 5 := h
    have hp : 10 ^ k * 10 ≤ 100000 := by
      have : 10 ^ (k + 1) ≤ 10 ^ 5 := Nat.pow_le_pow_right (by omega) (by omega)
      rw [Nat.pow_succ] at this; omega
    obtain ⟨x', y', e1⟩ := every_inner (a := n) (b := some (.lst (rowsD (E k)))) (c := some t) (E k) [] c d (fun r hr => by rw [(E_mem hr).1]; omega) (by rw [E_len, SZv]; simp; omega)
    obtain ⟨a', b', c', d', e2⟩ := every_outer l (k + 1) (some t) (some (.lst (rowsD (E (k + 1))))) x' y' (by omega)
    refine ⟨a', b', c', d', ?_⟩
    rw [List.length_cons, show k + (l.length + 1) = k + 1 + l.length by omega, ← e2, forL]
    have e0 : rowsD [] = [] := rfl
    rw [e0] at e1
    have e3 : [] ++ (E k).flatMap ext = E (k + 1) := by simp [E]
    rw [e3] at e1
    simp [bEv2, e1]
theorem every_ok (n : Nat) (hn : n ≤ 4) : f__law_every [.int n] = .ok (.lst (rowsD (E n))) := by
  have hl : (rng 0 n).length = n := by simp [rng]
  obtain ⟨a, b, c, d, e⟩ := every_outer (n := some (.int n)) (rng 0 n) 0 none none none none (by rw [hl]; omega)
  rw [hl, Nat.zero_add] at e
  have e0 : rowsD (E 0) = [.tup []] := rfl
  rw [e0] at e
  have h1 : (n : Int) < 4611686018427387904 := by omega
  have h3 : 1 ≤ SZ := by rw [SZv]; omega
  have hno : noLocs (rowsD (E n)) = true := noLocs_all fun d hd => by
    obtain ⟨r, _, rfl⟩ := List.mem_map.mp hd
    simp
  refine pure_rt rfl ?_ (by simpa using hno)
  show ∃ s, m__law_every _ = _
  have hm : m__law_every = (sSeq (sAsg (eFrz (fLst (aCons (eTup aNil) aNil))) (gN 1)) (sSeq (sFor (iRg1M (aCons (eV 0) aNil)) (gN 2) bEv2) (sRet (eV 1)))) := rfl
  rw [hm]
  simp [h1, h3, e]
end K45
namespace K45
open PySem L2 VL

/-! counts as pairs -/
def dI (l : List (Int × Int)) : List (Key × D) := l.map fun p => (.inl p.1, .int p.2)
def getI : List (Int × Int) → Int → Int
  | [], _ => 0
  | (a, b) :: l, k => if a = k then b else getI l k
def putI : List (Int × Int) → Int → Int → List (Int × Int)
  | [], k, v => [(k, v)]
  | (a, b) :: l, k, v => if a = k then (a, v) :: l else (a, b) :: putI l k v
def Nd (l : List (Int × Int)) : Prop := (l.map (·.1)).Nodup
theorem getI_run (l : List (Int × Int)) (k : Int) : (valD (dI l) (.inl k)).getD (.int 0) = .int (getI l k) := by
  induction l with
  | nil => rfl
  | cons p l ih =>
    obtain ⟨a, b⟩ := p
    by_cases h : a = k
    · subst h; simp [dI, valD, getI]
    · have h' : ¬ ((Sum.inl a : Key) = .inl k) := fun z => h (Sum.inl.inj z)
      simp only [dI, valD, List.map_cons, List.find?_cons, h', decide_false, getI, if_neg h] at ih ⊢
      exact ih
theorem putI_mem {l : List (Int × Int)} {k v : Int} {x : Int} (h : x ∈ (putI l k v).map (·.1)) : x = k ∨ x ∈ l.map (·.1) := by
  induction l with
  | nil => simp [putI] at h; exact .inl h
  | cons p l ih =>
    obtain ⟨a, b⟩ := p
    simp only [putI] at h
    split at h
    · rename_i e; simp only [List.map_cons, List.mem_cons] at h ⊢; exact .inr h
    · simp only [List.map_cons, List.mem_cons] at h ⊢
      rcases h with h | h
      · exact .inr (.inl h)
      · rcases ih h with h | h
        · exact .inl h
        · exact .inr (.inr h)
theorem putI_nd {l : List (Int × Int)} {k v : Int} (h : Nd l) : Nd (putI l k v) := by
  unfold Nd at *
  induction l with
  | nil => simp [putI]
  | cons p l ih =>
    obtain ⟨a, b⟩ := p
    simp only [List.map_cons, List.nodup_cons] at h
    simp only [putI]
    split
    · simp only [List.map_cons, List.nodup_cons]; exact h
    · rename_i e
      simp only [List.map_cons, List.nodup_cons]
      refine ⟨fun z => ?_, ih h.2⟩
      rcases putI_mem z with z | z
      · exact e z
      · exact h.1 z
theorem putI_len {l : List (Int × Int)} {k v : Int} : (putI l k v).length ≤ l.length + 1 := by
  induction l with
  | nil => simp [putI]
  | cons p l ih =>
    obtain ⟨a, b⟩ := p
    simp only [putI]
    split
    · simp
    · simp only [List.length_cons]; omega
theorem mapKey_id {l : List (Int × Int)} {k v : Int} (h : k ∉ l.map (·.1)) : ((dI l).map fun kv => if kv.1 = (Sum.inl k : Key) then (kv.1, D.int v) else kv) = dI l := by
  have : ∀ kv ∈ dI l, (if kv.1 = (Sum.inl k : Key) then (kv.1, D.int v) else kv) = kv := fun kv hkv => by
    obtain ⟨p, hp, rfl⟩ := List.mem_map.mp hkv
    rw [if_neg]
    intro z
    exact h (List.mem_map.mpr ⟨p, hp, Sum.inl.inj z⟩)
  rw [List.map_congr_left this]; simp
theorem putD_ne {A : Type} {p : Key × A} {l : List (Key × A)} {k : Key} {d : A} (h : ¬ p.1 = k) : putD (p :: l) k d = p :: putD l k d := by
  unfold putD
  cases hb : l.any fun kv => decide (kv.1 = k) <;> simp [h, hb]
theorem putI_run : ∀ {l : List (Int × Int)} {k v : Int}, Nd l → putD (dI l) (.inl k) (.int v) = dI (putI l k v)
  | [], k, v, _ => rfl
  | (a, b) :: l, k, v, h => by
    have h' := List.nodup_cons.mp h
    have e0 : dI ((a, b) :: l) = (Sum.inl a, D.int b) :: dI l := rfl
    by_cases e : a = k
    · subst e
      have := mapKey_id (l := l) (k := a) (v := v) h'.1
      rw [e0, putI, if_pos rfl]
      unfold putD
      rw [List.any_cons, if_pos (by simp), List.map_cons, this, if_pos rfl]
      rfl
    · have ih := putI_run (l := l) (k := k) (v := v) h'.2
      rw [e0, putI, if_neg e, putD_ne (fun z => e (Sum.inl.inj z)), ih]
      rfl
def Sg (g : Int → Int) (l : List (Int × Int)) : Int := (l.map fun p => p.2 * g p.1).sum
theorem Sg_put (g : Int → Int) (l : List (Int × Int)) (k c : Int) : Sg g (putI l k (getI l k + c)) = Sg g l + c * g k := by
  induction l with
  | nil => simp [Sg, putI, getI]
  | cons p l ih =>
    obtain ⟨a, b⟩ := p
    by_cases h : a = k
    · subst h; simp only [Sg, putI, getI, if_pos, List.map_cons, List.sum_cons]; rw [Int.add_mul]; omega
    · simp only [Sg, putI, getI, if_neg h, List.map_cons, List.sum_cons] at ih ⊢; omega
def step1 (w m r c : Int) (a : List (Int × Int)) (f : Int) : List (Int × Int) := putI a ((r + w * f) % m) (getI a ((r + w * f) % m) + c)
def stepI (w m : Int) (a : List (Int × Int)) (p : Int × Int) : List (Int × Int) := figs.foldl (step1 w m p.1 p.2) a
def stepW (m : Int) (l : List (Int × Int)) (w : Int) : List (Int × Int) := l.foldl (stepI w m) []
theorem Sg_F (g : Int → Int) (w m r c : Int) : ∀ (fl : List Int) (a : List (Int × Int)), Sg g (fl.foldl (step1 w m r c) a) = Sg g a + c * (fl.map fun f => g ((r + w * f) % m)).sum
  | [], a => by simp
  | f :: fl, a => by
    rw [List.foldl_cons, Sg_F g w m r c fl, step1, Sg_put, List.map_cons, List.sum_cons, Int.mul_add]; omega
theorem Sg_I (g : Int → Int) (w m : Int) : ∀ (l a : List (Int × Int)), Sg g (l.foldl (stepI w m) a) = Sg g a + Sg (fun r => (figs.map fun f => g ((r + w * f) % m)).sum) l
  | [], a => by simp [Sg]
  | p :: l, a => by
    rw [List.foldl_cons, Sg_I g w m l, stepI, Sg_F]
    simp only [Sg, List.map_cons, List.sum_cons]; omega
theorem nd_F {w m r c : Int} : ∀ (fl : List Int) (a : List (Int × Int)), Nd a → Nd (fl.foldl (step1 w m r c) a)
  | [], a, h => h
  | f :: fl, a, h => nd_F fl _ (putI_nd h)
theorem nd_I {w m : Int} : ∀ (l a : List (Int × Int)), Nd a → Nd (l.foldl (stepI w m) a)
  | [], a, h => h
  | p :: l, a, h => nd_I l _ (nd_F _ _ h)
theorem len_F {w m r c : Int} : ∀ (fl : List Int) (a : List (Int × Int)), (fl.foldl (step1 w m r c) a).length ≤ a.length + fl.length
  | [], a => by simp
  | f :: fl, a => by
    have h1 := len_F (w := w) (m := m) (r := r) (c := c) fl (step1 w m r c a f)
    have h2 : (step1 w m r c a f).length ≤ a.length + 1 := putI_len
    rw [List.foldl_cons, List.length_cons]; omega
theorem len_I {w m : Int} : ∀ (l a : List (Int × Int)), (l.foldl (stepI w m) a).length ≤ a.length + l.length * 10
  | [], a => by simp
  | p :: l, a => by
    have h1 := len_I (w := w) (m := m) l (stepI w m a p)
    have h2 : (stepI w m a p).length ≤ a.length + 10 := len_F figs a
    rw [List.foldl_cons, List.length_cons]; omega
theorem Sg_ind {l : List (Int × Int)} {k : Int} (h : Nd l) : Sg (fun r => if r = k then 1 else 0) l = getI l k := by
  induction l with
  | nil => rfl
  | cons p l ih =>
    obtain ⟨a, b⟩ := p
    have h' := List.nodup_cons.mp h
    by_cases e : a = k
    · subst e
      have z : Sg (fun r => if r = a then 1 else 0) l = 0 := by
        have : ∀ p ∈ l, p.2 * (if p.1 = a then 1 else 0) = (0 : Int) := fun p hp => by
          rw [if_neg (fun z => h'.1 (List.mem_map.mpr ⟨p, hp, z⟩))]; simp
        unfold Sg
        rw [List.map_congr_left this]
        clear h h' ih this
        induction l with
        | nil => rfl
        | cons a l ih => simpa using ih
      simp only [Sg, List.map_cons, List.sum_cons, getI, if_true] at z ⊢
      rw [z]; simp
    · have ih := ih h'.2
      simp only [Sg, List.map_cons, List.sum_cons, getI, if_neg e] at ih ⊢
      rw [ih]; simp
theorem dot_snoc {ws row : List Int} {w f : Int} (h : row.length = ws.length) : dot (ws ++ [w]) (row ++ [f]) = dot ws row + w * f := by
  unfold dot
  rw [List.zipWith_append h.symm]
  simp
theorem sum_flat (g : List Int → Int) (L : List (List Int)) : ((L.flatMap ext).map g).sum = (L.map fun r => (figs.map fun f => g (r ++ [f])).sum).sum := by
  induction L with
  | nil => rfl
  | cons a L ih =>
    rw [List.flatMap_cons, List.map_append, List.sum_append, ih, List.map_cons, List.sum_cons]
    simp [ext, Function.comp_def]
theorem Sg_W {g : Int → Int} {m w : Int} {ps : List Int} {l : List (Int × Int)} (h : ∀ g, Sg g l = ((E ps.length).map fun row => g (dot ps row % m)).sum) : Sg g (stepW m l w) = ((E (ps ++ [w]).length).map fun row => g (dot (ps ++ [w]) row % m)).sum := by
  unfold stepW
  rw [Sg_I, h, List.length_append, show ps.length + [w].length = ps.length + 1 from rfl, E, sum_flat]
  simp only [show Sg g [] = 0 from rfl, Int.zero_add]
  congr 1
  refine List.map_congr_left fun row hr => ?_
  congr 1
  refine List.map_congr_left fun f hf => ?_
  rw [dot_snoc (E_mem hr).1, Int.emod_add_emod]
theorem num_val {m : Int} : ∀ (ws ps : List Int) (l : List (Int × Int)), Nd l → (∀ g, Sg g l = ((E ps.length).map fun row => g (dot ps row % m)).sum) → Nd (ws.foldl (stepW m) l) ∧ ∀ g, Sg g (ws.foldl (stepW m) l) = ((E (ps ++ ws).length).map fun row => g (dot (ps ++ ws) row % m)).sum
  | [], ps, l, n, h => ⟨n, by simpa using h⟩
  | w :: ws, ps, l, n, h => by
    have := num_val ws (ps ++ [w]) (stepW m l w) (nd_I l [] List.nodup_nil) fun g => Sg_W h
    simpa using this
theorem cnt_sum {m : Int} {ws : List Int} (L : List (List Int)) : (L.map fun row => if dot ws row % m = 0 then (1 : Int) else 0).sum = ((L.filter fun row => decide (dot ws row % m = 0)).length : Int) := by
  induction L with
  | nil => rfl
  | cons a L ih =>
    rw [List.map_cons, List.sum_cons, ih, List.filter_cons]
    by_cases h : dot ws a % m = 0
    · simp [h]; omega
    · simp [h]
theorem num_eq {m : Int} (hm : 0 < m) (ws : List Int) : getI (ws.foldl (stepW m) [(0, 1)]) 0 = (((E ws.length).filter fun row => decide (dot ws row % m = 0)).length : Int) := by
  obtain ⟨n, h⟩ := num_val (m := m) ws [] [(0, 1)] (by simp [Nd]) fun g => by simp [Sg, E, dot]
  rw [← Sg_ind n, h]
  simp only [List.nil_append]
  exact cnt_sum _
end K45
namespace K45
open PySem L2 VL

theorem dct_loc {r : List (Option D)} {M : List Ob} {n : Nat} {l : List (Key × D)} (h : M[n]? = some (.dct l)) : dctOf ⟨r, M⟩ (.loc n) = some l := by
  simp [dctOf, h]
theorem set_same {M : List Ob} {n : Nat} {o : Ob} (h : M[n]? = some o) : M.set n o = M := by
  obtain ⟨h1, h2⟩ := List.getElem?_eq_some_iff.mp h
  subst h2
  exact List.set_getElem_self h1
theorem get_set {M : List Ob} {n : Nat} {o o' : Ob} (h : M[n]? = some o) : (M.set n o')[n]? = some o' := List.getElem?_set_self (List.getElem?_eq_some_iff.mp h).1
def bN : MS := (sSeq (sAsg (eOp fMod (eOp fAdd (eV 5) (eOp fMul (eV 3) (eV 7))) (eV 1)) (gN 8))
  (sAsg (eOp fAdd (eGet2 (eV 4) (eV 8) (eC (.int 0))) (eV 6)) (gSet (eV 4) (eV 8))))
theorem bN_run {W C x : Option D} {m w r c f : Int} {n : Nat} {M : List Ob} {a : List (Int × Int)} (hm : 0 < m) (hw : -1000000 < w ∧ w < 1000000) (hM : M[n]? = some (.dct (dI a))) (ha : Nd a) (hl : a.length < SZ) :
    bN ⟨[W, some (.int m), C, some (.int w), some (.loc n), some (.int r), some (.int c), some (.int f), x], M⟩ = .nx ⟨[W, some (.int m), C, some (.int w), some (.loc n), some (.int r), some (.int c), some (.int f), some (.int ((r + w * f) % m))], M.set n (.dct (dI (step1 w m r c a f)))⟩ := by
  have hk : mulOk w f = true := mulOk_l (by omega) (by omega)
  have e2 := getI_run a ((r + w * f) % m)
  have e3 : (dI a).length < SZ := by simpa [dI] using hl
  have e4 := putI_run (k := (r + w * f) % m) (v := getI a ((r + w * f) % m) + c) ha
  simp [bN, hk, hm, dct_loc hM, e2, fSet, hM, e3, e4, step1]
theorem inner_run {W C : Option D} {m w r c : Int} {n : Nat} (hm : 0 < m) (hw : -1000000 < w ∧ w < 1000000) : ∀ (fl : List Int) (M : List Ob) (a : List (Int × Int)) (x y : Option D), M[n]? = some (.dct (dI a)) → Nd a → a.length + fl.length < SZ →
    ∃ x' y', forL (gN 7) bN (iL fl) ⟨[W, some (.int m), C, some (.int w), some (.loc n), some (.int r), some (.int c), x, y], M⟩ = .nx ⟨[W, some (.int m), C, some (.int w), some (.loc n), some (.int r), some (.int c), x', y'], M.set n (.dct (dI (fl.foldl (step1 w m r c) a)))⟩
  | [], M, a, x, y, hM, ha, hl => ⟨x, y, by rw [List.foldl_nil, set_same hM]; rfl⟩
  | f :: fl, M, a, x, y, hM, ha, hl => by
    have hl : a.length + (fl.length + 1) < SZ := hl
    have hp : (step1 w m r c a f).length ≤ a.length + 1 := putI_len
    obtain ⟨x', y', e⟩ := inner_run (W := W) (C := C) (r := r) (c := c) hm hw fl (M.set n (.dct (dI (step1 w m r c a f)))) (step1 w m r c a f) (some (.int f)) (some (.int ((r + w * f) % m))) (get_set hM) (putI_nd ha) (by omega)
    rw [List.set_set] at e
    refine ⟨x', y', ?_⟩
    rw [List.foldl_cons, ← e, iL_cons, forL_cons, x_gN, VL.C.seq_nx]
    have hb := bN_run (W := W) (C := C) (x := y) (r := r) (c := c) (f := f) hm hw hM ha (by omega)
    simp only [List.set_cons_succ, List.set_cons_zero]
    rw [hb, VL.C.loop_nx]
def bM : MS := sFor (iRg1M (aCons (eC (.int 10)) aNil)) (gN 7) bN
theorem items_D (l : List (Int × Int)) : dItems ((dI l).map (·.1)) ((dI l).map (·.2)) = l.map fun p => D.tup [.int p.1, .int p.2] := by
  induction l with
  | nil => rfl
  | cons p l ih =>
    simp only [dItems, pairs, dI] at ih
    simp only [dItems, pairs, dI, List.map_cons, List.zipWith_cons_cons, kD]
    rw [ih]
abbrev g2 : MG := gTupM (gsCons (gN 5) (gsCons (gN 6) gsNil))
theorem mid_run {W C : Option D} {m w : Int} {n : Nat} (hm : 0 < m) (hw : -1000000 < w ∧ w < 1000000) : ∀ (l : List (Int × Int)) (M : List Ob) (a : List (Int × Int)) (x y z u : Option D), M[n]? = some (.dct (dI a)) → Nd a → a.length + l.length * 10 < SZ →
    ∃ x' y' z' u', forL g2 bM (l.map fun p => D.tup [.int p.1, .int p.2]) ⟨[W, some (.int m), C, some (.int w), some (.loc n), x, y, z, u], M⟩ = .nx ⟨[W, some (.int m), C, some (.int w), some (.loc n), x', y', z', u'], M.set n (.dct (dI (l.foldl (stepI w m) a)))⟩
  | [], M, a, x, y, z, u, hM, ha, hl => ⟨x, y, z, u, by rw [List.foldl_nil, set_same hM]; rfl⟩
  | p :: l, M, a, x, y, z, u, hM, ha, hl => by
    obtain ⟨r, c⟩ := p
    have hl : a.length + (l.length + 1) * 10 < SZ := hl
    have hf : figs.length = 10 := rfl
    obtain ⟨z1, u1, e1⟩ := inner_run (W := W) (C := C) (r := r) (c := c) hm hw figs M a z u hM ha (by omega)
    have hp : (stepI w m a (r, c)).length ≤ a.length + 10 := len_F figs a
    obtain ⟨x', y', z', u', e⟩ := mid_run (W := W) (C := C) hm hw l (M.set n (.dct (dI (stepI w m a (r, c))))) (stepI w m a (r, c)) (some (.int r)) (some (.int c)) z1 u1 (get_set hM) (nd_F _ _ ha) (by omega)
    rw [List.set_set] at e
    refine ⟨x', y', z', u', ?_⟩
    rw [List.foldl_cons, ← e, List.map_cons, forL_cons]
    have e1' : forL (gN 7) bN (iL figs) ⟨[W, some (.int m), C, some (.int w), some (.loc n), some (.int r), some (.int c), z, u], M⟩ = .nx ⟨[W, some (.int m), C, some (.int w), some (.loc n), some (.int r), some (.int c), z1, u1], M.set n (.dct (dI (stepI w m a (r, c))))⟩ := e1
    simp [bM, rng10, e1']
def bO : MS := (sSeq (sAsg (eOwn fDctN) (gN 4)) (sSeq (sForD dItems 2 g2 bM) (sAsg (eV 4) (gN 2))))
/-- the dict that slot 2 names -/
def CntAt (d : D) (M : List Ob) (l : List (Key × D)) : Prop := (d = .dct (l.map (·.1)) (l.map (·.2))) ∨ ∃ n, d = .loc n ∧ M[n]? = some (.dct l)
theorem bO_run {W : Option D} {m w : Int} (hm : 0 < m) (hw : -1000000 < w ∧ w < 1000000) {d : D} {M : List Ob} {l : List (Int × Int)} (hd : CntAt d M (dI l)) (hl : l.length * 10 < SZ) (a b c e f : Option D) :
    ∃ d' M' a' b' c' e' f', bO ⟨[W, some (.int m), some d, some (.int w), a, b, c, e, f], M⟩ = .nx ⟨[W, some (.int m), some d', some (.int w), a', b', c', e', f'], M'⟩ ∧ CntAt d' M' (dI (stepW m l w)) := by
  rcases hd with rfl | ⟨n, rfl, hn⟩
  · have h0 : (M ++ [Ob.dct []])[M.length]? = some (.dct (dI [])) := by simp [dI]
    obtain ⟨x', y', z', u', e1⟩ := mid_run (W := W) (C := some (.dct ((dI l).map (·.1)) ((dI l).map (·.2)))) hm hw l (M ++ [Ob.dct []]) [] b c e f h0 List.nodup_nil (by simpa using hl)
    refine ⟨.loc M.length, _, some (.loc M.length), x', y', z', u', ?_, .inr ⟨M.length, rfl, get_set h0⟩⟩
    simp only [bO, x_sSeq, x_sAsg, x_eOwn, x_fDctN, VL.R.bind_ok, VL.R.to_ok, x_gN, VL.C.seq_nx, List.set_cons_succ, List.set_cons_zero, x_sForD, x_eTake, List.getElem?_cons_succ, List.getElem?_cons_zero, items_D, x_eV]
    rw [e1]
    simp [stepW]
  · have hlt : n < M.length := (List.getElem?_eq_some_iff.mp hn).1
    have h0 : ((M ++ [Ob.dct []]).set n .dead)[M.length]? = some (.dct (dI [])) := by
      rw [List.getElem?_set_ne (by omega)]; simp [dI]
    have h1 : (M ++ [Ob.dct []])[n]? = some (.dct (dI l)) := by rw [List.getElem?_append_left hlt]; exact hn
    obtain ⟨x', y', z', u', e1⟩ := mid_run (W := W) (C := some (.dct ((dI l).map (·.1)) ((dI l).map (·.2)))) hm hw l ((M ++ [Ob.dct []]).set n .dead) [] b c e f h0 List.nodup_nil (by simpa using hl)
    refine ⟨.loc M.length, _, some (.loc M.length), x', y', z', u', ?_, .inr ⟨M.length, rfl, get_set h0⟩⟩
    simp only [bO, x_sSeq, x_sAsg, x_eOwn, x_fDctN, VL.R.bind_ok, VL.R.to_ok, x_gN, VL.C.seq_nx, List.set_cons_succ, List.set_cons_zero, x_sForD, x_eTake, List.getElem?_cons_succ, List.getElem?_cons_zero, h1, items_D, x_eV]
    rw [e1]
    simp [stepW]
theorem outer_run {W : Option D} {m : Int} (hm : 0 < m) : ∀ (ws : List Int) (d : D) (M : List Ob) (l : List (Int × Int)) (a b c e f g : Option D), Sm ws → CntAt d M (dI l) → l.length * 10 ^ (ws.length + 1) < SZ →
    ∃ d' M' a' b' c' e' f' g', forL (gN 3) bO (iL ws) ⟨[W, some (.int m), some d, g, a, b, c, e, f], M⟩ = .nx ⟨[W, some (.int m), some d', g', a', b', c', e', f'], M'⟩ ∧ CntAt d' M' (dI (ws.foldl (stepW m) l))
  | [], d, M, l, a, b, c, e, f, g, hs, hd, hl => ⟨d, M, a, b, c, e, f, g, rfl, hd⟩
  | w :: ws, d, M, l, a, b, c, e, f, g, hs, hd, hl => by
    have hl' : l.length * (10 ^ (ws.length + 1) * 10) < SZ := by simpa [Nat.pow_succ] using hl
    have hpos : 0 < 10 ^ (ws.length + 1) := Nat.pow_pos (by omega)
    have hle : l.length * 10 < SZ := by
      refine Nat.lt_of_le_of_lt ?_ hl'
      exact Nat.mul_le_mul_left _ (by omega)
    have hlen : (stepW m l w).length ≤ l.length * 10 := by
      have := len_I (w := w) (m := m) l []
      simpa [stepW] using this
    obtain ⟨d1, M1, a1, b1, c1, e1, f1, r1, h1⟩ := bO_run (W := W) hm (hs w (by simp)) hd hle a b c e f
    obtain ⟨d', M', a', b', c', e', f', g', r2, h2⟩ := outer_run (W := W) hm ws d1 M1 (stepW m l w) a1 b1 c1 e1 f1 (some (.int w)) (fun x hx => hs x (by simp [hx])) h1 (by
      refine Nat.lt_of_le_of_lt (Nat.mul_le_mul_right _ hlen) ?_
      have : l.length * 10 * 10 ^ (ws.length + 1) = l.length * (10 ^ (ws.length + 1) * 10) := by rw [Nat.mul_assoc, Nat.mul_comm 10]
      rw [this]; exact hl')
    refine ⟨d', M', a', b', c', e', f', g', ?_, h2⟩
    rw [← r2, iL_cons, forL_cons, x_gN, VL.C.seq_nx]
    simp only [List.set_cons_succ, List.set_cons_zero]
    rw [r1, VL.C.loop_nx]
theorem number_ok {ws : List Int} {m : Int} (hw : Sm ws) (hl : ws.length ≤ 4) (hm : 0 < m) : f_number_sealed [.tup (iL ws), .int m] = .ok (.int (((E ws.length).filter fun row => decide (dot ws row % m = 0)).length : Int)) := by
  have hb : [((0 : Int), (1 : Int))].length * 10 ^ (ws.length + 1) < SZ := by
    have : 10 ^ (ws.length + 1) ≤ 10 ^ 5 := Nat.pow_le_pow_right (by omega) (by omega)
    rw [SZv]; simp; omega
  obtain ⟨d', M', a', b', c', e', f', g', r, h⟩ := outer_run (W := some (.tup (iL ws))) hm ws (.dct [.inl 0] [.int 1]) [] [(0, 1)] none none none none none none hw (.inl rfl) hb
  rw [← num_eq hm ws]
  refine pure_rt rfl ?_ (by simp)
  have hmm : m_number_sealed = (sSeq (sAsg (eFrz (fDct1 (eC (.int 0)) (eC (.int 1)))) (gN 2)) (sSeq (sFor (iSeqM (eV 0)) (gN 3) bO) (sRet (eGet2 (eV 2) (eC (.int 0)) (eC (.int 0)))))) := rfl
  rw [hmm]
  have eg := getI_run (ws.foldl (stepW m) [(0, 1)]) 0
  have hz : ∀ r, dctOf ⟨r, M'⟩ d' = some (dI (ws.foldl (stepW m) [(0, 1)])) := fun r => by
    rcases h with h | ⟨n, h, hn⟩
    · rw [h]
      simp only [dctOf]
      rw [List.zip_map']; simp
    · rw [h]; exact dct_loc hn
  simp [r, hz, eg]
end K45
namespace K45
open PySem L2 VL

/-! rows from the front -/
theorem E_front : ∀ n : Nat, E (n + 1) = figs.flatMap fun f => (E n).map (f :: ·)
  | 0 => rfl
  | n + 1 => by
    have h1 : E (n + 1 + 1) = (E (n + 1)).flatMap ext := rfl
    rw [h1]
    conv => lhs; rw [E_front n]
    rw [List.flatMap_assoc]
    congr 1
    funext f
    have : ∀ L : List (List Int), (L.map (f :: ·)).flatMap ext = (L.flatMap ext).map (f :: ·) := fun L => by
      induction L with
      | nil => rfl
      | cons a L ih => rw [List.map_cons, List.flatMap_cons, List.flatMap_cons, List.map_append, ih]; simp [ext, Function.comp_def]
    rw [this]; rfl
def canB (ws : List Int) (m r : Int) : Bool := (E ws.length).any fun row => decide ((r + dot ws row) % m = 0)
def greedy (m : Int) : List Int → Int → List Int
  | [], _ => []
  | w :: ws, r => match figs.find? fun f => canB ws m (r + w * f) with
    | some f => f :: greedy m ws (r + w * f)
    | none => []
theorem dot_cons {w f : Int} {ws row : List Int} : dot (w :: ws) (f :: row) = w * f + dot ws row := by simp [dot]
theorem fs_if {α β : Type} (q : α → Bool) (h : α → β) : ∀ l : List α, l.findSome? (fun f => if q f = true then some (h f) else none) = (l.find? q).map h
  | [] => rfl
  | a :: l => by
    rw [List.findSome?_cons, List.find?_cons]
    cases hq : q a with
    | true => simp
    | false => simpa using fs_if q h l
theorem canB_cons {w m r : Int} {ws : List Int} : canB (w :: ws) m r = figs.any fun f => canB ws m (r + w * f) := by
  unfold canB
  rw [List.length_cons, E_front, List.any_flatMap]
  congr 1
  funext f
  rw [List.any_map]
  congr 1
  funext row
  simp only [Function.comp, dot_cons]
  rw [Int.add_assoc]
theorem find_L (m : Int) : ∀ (ws : List Int) (r : Int), ((E ws.length).find? fun row => decide ((r + dot ws row) % m = 0)) = if canB ws m r = true then some (greedy m ws r) else none
  | [], r => by
    simp only [List.length_nil, E, canB, greedy, List.find?_cons, List.any_cons, List.any_nil, Bool.or_false, List.find?_nil]
    by_cases h : (r + dot [] []) % m = 0 <;> simp [h]
  | w :: ws, r => by
    have e1 : ∀ f, ((E ws.length).map (f :: ·)).find? (fun row => decide ((r + dot (w :: ws) row) % m = 0)) = if canB ws m (r + w * f) = true then some (f :: greedy m ws (r + w * f)) else none := fun f => by
      rw [List.find?_map]
      have : ((fun row => decide ((r + dot (w :: ws) row) % m = 0)) ∘ (f :: ·)) = fun row => decide ((r + w * f + dot ws row) % m = 0) := by
        funext row
        simp only [Function.comp, dot_cons]
        rw [Int.add_assoc]
      rw [this, find_L m ws (r + w * f)]
      split <;> rfl
    rw [List.length_cons, E_front, List.find?_flatMap]
    simp only [e1]
    rw [fs_if (fun f => canB ws m (r + w * f)) (fun f => f :: greedy m ws (r + w * f)), canB_cons, greedy]
    cases hf : figs.find? (fun f => canB ws m (r + w * f)) with
    | none =>
      have : (figs.any fun f => canB ws m (r + w * f)) = false := by
        rw [List.any_eq_false]
        intro x hx
        exact fun z => by simpa using List.find?_eq_none.mp hf x hx z
      simp [this]
    | some f =>
      have : (figs.any fun f => canB ws m (r + w * f)) = true := by
        rw [List.any_eq_true]
        exact ⟨f, List.mem_of_find?_eq_some hf, List.find?_some (p := fun f => canB ws m (r + w * f)) hf⟩
      simp [this]
theorem find_one {β : Type} (b : Int) (g : Int → Option β) (h : ∀ f, f ≠ b → g f = none) : ∀ l : List Int, b ∈ l → l.findSome? g = g b
  | [], hb => by simp at hb
  | a :: l, hb => by
    rw [List.findSome?_cons]
    by_cases e : a = b
    · subst e
      cases hg : g a with
      | some x => rfl
      | none =>
        by_cases hm : a ∈ l
        · simpa [hg] using find_one a g h l hm
        · simp only []
          rw [List.findSome?_eq_none_iff]
          exact fun x hx => h x fun z => hm (z ▸ hx)
    · rw [h a e]
      exact find_one b g h l ((List.mem_cons.mp hb).resolve_left (Ne.symm e))
theorem find_pre (m : Int) : ∀ (bs ws : List Int) (r : Int), bs.length ≤ ws.length → (∀ b ∈ bs, b ∈ figs) →
    ((E ws.length).find? fun row => decide ((r + dot ws row) % m = 0) && decide (row.take bs.length = bs)) = if canB (ws.drop bs.length) m (r + dot ws bs) = true then some (bs ++ greedy m (ws.drop bs.length) (r + dot ws bs)) else none
  | [], ws, r, _, _ => by
    have h0 : dot ws [] = 0 := by simp [dot]
    have := find_L m ws r
    simpa [h0] using this
  | b :: bs, [], r, h, _ => by simp at h
  | b :: bs, w :: ws, r, h, hb => by
    have ih := find_pre m bs ws (r + w * b) (by simpa using h) fun x hx => hb x (by simp [hx])
    rw [show (w :: ws).length = ws.length + 1 from rfl, E_front, List.find?_flatMap]
    rw [find_one b _ (fun f hf => ?_) figs (hb b (by simp))]
    · rw [List.find?_map]
      have e : ((fun row : List Int => decide ((r + dot (w :: ws) row) % m = 0) && decide (row.take (b :: bs).length = b :: bs)) ∘ (b :: ·)) = fun row => decide ((r + w * b + dot ws row) % m = 0) && decide (row.take bs.length = bs) := by
        funext row
        simp only [Function.comp, dot_cons, List.length_cons, List.take_succ_cons, List.cons.injEq, true_and]
        rw [Int.add_assoc]
      rw [e, ih, dot_cons, ← Int.add_assoc]
      simp only [List.length_cons, List.drop_succ_cons]
      split <;> rfl
    · rw [List.find?_eq_none]
      intro row hrow
      obtain ⟨q, _, rfl⟩ := List.mem_map.mp hrow
      simp only [List.length_cons, List.take_succ_cons, List.cons.injEq, Bool.and_eq_true, decide_eq_true_eq, not_and]
      exact fun _ z => absurd z hf

/-! the dict of rests that can be -/
def dB (ks : List Int) : List (Key × D) := ks.map fun k => (.inl k, .bl true)
def insK (ks : List Int) (k : Int) : List Int := if k ∈ ks then ks else ks ++ [k]
theorem mem_insK {ks : List Int} {k x : Int} : x ∈ insK ks k ↔ x ∈ ks ∨ x = k := by
  unfold insK
  split
  · rename_i h
    exact ⟨.inl, fun z => z.elim id fun e => e ▸ h⟩
  · simp
theorem insK_len {ks : List Int} {k : Int} : (insK ks k).length ≤ ks.length + 1 := by
  unfold insK; split <;> simp
theorem insK_run (ks : List Int) (k : Int) : putD (dB ks) (.inl k) (.bl true) = dB (insK ks k) := by
  have ha : ((dB ks).any fun kv => decide (kv.1 = (Sum.inl k : Key))) = decide (k ∈ ks) := by
    induction ks with
    | nil => rfl
    | cons a ks ih =>
      simp only [dB] at ih
      simp only [dB, List.map_cons, List.any_cons, ih, List.mem_cons, Sum.inl.injEq]
      by_cases h : a = k
      · subst h; simp
      · have h' : ¬ k = a := fun z => h z.symm
        simp [h, h']
  unfold putD insK
  rw [ha]
  by_cases h : k ∈ ks
  · have : ∀ kv ∈ dB ks, (if kv.1 = (Sum.inl k : Key) then (kv.1, D.bl true) else kv) = kv := fun kv hkv => by
      obtain ⟨p, hp, rfl⟩ := List.mem_map.mp hkv
      split <;> rfl
    rw [if_pos (by simp [h]), if_pos h, List.map_congr_left this]; simp
  · rw [if_neg (by simp [h]), if_neg h]; simp [dB]
theorem dB_val (ks : List Int) (k : Int) : (valD (dB ks) (.inl k)).isSome = decide (k ∈ ks) := by
  induction ks with
  | nil => rfl
  | cons a ks ih =>
    by_cases h : a = k
    · subst h; simp [dB, valD]
    · have h' : ¬ ((Sum.inl a : Key) = .inl k) := fun z => h (Sum.inl.inj z)
      have h2 : ¬ k = a := fun z => h z.symm
      simp only [dB, valD, List.map_cons, List.find?_cons, h', decide_false, List.mem_cons, h2, false_or] at ih ⊢
      exact ih
theorem keys_D (ks : List Int) : dKeys ((dB ks).map (·.1)) ((dB ks).map (·.2)) = iL ks := by
  simp only [dKeys, dB, List.map_map]
  rfl
def kStep (w m o : Int) (a : List Int) (f : Int) : List Int := insK a ((o + w * f) % m)
def kStepI (w m : Int) (a : List Int) (o : Int) : List Int := figs.foldl (kStep w m o) a
def kStepW (m : Int) (l : List Int) (w : Int) : List Int := l.foldl (kStepI w m) []
theorem mem_kF {w m o x : Int} : ∀ (fl a : List Int), x ∈ fl.foldl (kStep w m o) a ↔ x ∈ a ∨ ∃ f ∈ fl, x = (o + w * f) % m
  | [], a => by simp
  | f :: fl, a => by
    rw [List.foldl_cons, mem_kF fl, kStep, mem_insK]
    simp only [List.mem_cons, exists_eq_or_imp]
    rw [or_assoc]
theorem mem_kI {w m x : Int} : ∀ (l a : List Int), x ∈ l.foldl (kStepI w m) a ↔ x ∈ a ∨ ∃ o ∈ l, ∃ f ∈ figs, x = (o + w * f) % m
  | [], a => by simp
  | o :: l, a => by
    rw [List.foldl_cons, mem_kI l, kStepI, mem_kF]
    simp only [List.mem_cons, exists_eq_or_imp]
    rw [or_assoc]
theorem klen_F {w m o : Int} : ∀ (fl a : List Int), (fl.foldl (kStep w m o) a).length ≤ a.length + fl.length
  | [], a => by simp
  | f :: fl, a => by
    have h1 := klen_F (w := w) (m := m) (o := o) fl (kStep w m o a f)
    have h2 : (kStep w m o a f).length ≤ a.length + 1 := insK_len
    rw [List.foldl_cons, List.length_cons]; omega
theorem klen_I {w m : Int} : ∀ (l a : List Int), (l.foldl (kStepI w m) a).length ≤ a.length + l.length * 10
  | [], a => by simp
  | o :: l, a => by
    have h1 := klen_I (w := w) (m := m) l (kStepI w m a o)
    have h2 : (kStepI w m a o).length ≤ a.length + 10 := klen_F figs a
    rw [List.foldl_cons, List.length_cons]; omega
theorem known_val {m r : Int} : ∀ (ws ps l : List Int), (∀ x, x ∈ l ↔ ∃ row ∈ E ps.length, x = (r + dot ps row) % m) → ∀ x, x ∈ ws.foldl (kStepW m) l ↔ ∃ row ∈ E (ps ++ ws).length, x = (r + dot (ps ++ ws) row) % m
  | [], ps, l, h => by simpa using h
  | w :: ws, ps, l, h => by
    have := known_val (m := m) (r := r) ws (ps ++ [w]) (kStepW m l w) fun x => by
      unfold kStepW
      rw [mem_kI, List.length_append, show ps.length + [w].length = ps.length + 1 from rfl]
      simp only [List.not_mem_nil, false_or, E, List.mem_flatMap]
      constructor
      · rintro ⟨o, ho, f, hf, rfl⟩
        obtain ⟨row, hr, rfl⟩ := (h o).mp ho
        refine ⟨row ++ [f], ⟨row, hr, List.mem_map.mpr ⟨f, hf, rfl⟩⟩, ?_⟩
        rw [dot_snoc (E_mem hr).1, Int.emod_add_emod, Int.add_assoc]
      · rintro ⟨row, ⟨q, hq, hrow⟩, rfl⟩
        obtain ⟨f, hf, rfl⟩ := List.mem_map.mp hrow
        refine ⟨(r + dot ps q) % m, (h _).mpr ⟨q, hq, rfl⟩, f, hf, ?_⟩
        rw [dot_snoc (E_mem hq).1, Int.emod_add_emod, Int.add_assoc]
    simpa using this
theorem known_eq {m r : Int} (ws : List Int) : decide (0 ∈ ws.foldl (kStepW m) [r % m]) = canB ws m r := by
  have := known_val (m := m) (r := r) ws [] [r % m] (fun x => by simp [E, dot]) 0
  simp only [List.nil_append] at this
  rw [Bool.eq_iff_iff, decide_eq_true_eq, this, canB, List.any_eq_true]
  constructor
  · rintro ⟨row, h1, h2⟩; exact ⟨row, h1, by simp [← h2]⟩
  · rintro ⟨row, h1, h2⟩; exact ⟨row, h1, by simpa using (of_decide_eq_true h2).symm⟩
end K45
namespace K45
open PySem L2 VL

def cN : MS := (sAsg (eC (.bl true)) (gSet (eV 5) (eOp fMod (eOp fAdd (eV 6) (eOp fMul (eV 4) (eV 7))) (eV 1))))
theorem cN_run {W A C : Option D} {m w o f : Int} {n : Nat} {M : List Ob} {a : List Int} (hm : 0 < m) (hw : -1000000 < w ∧ w < 1000000) (hM : M[n]? = some (.dct (dB a))) (hl : a.length < SZ) :
    cN ⟨[W, some (.int m), A, C, some (.int w), some (.loc n), some (.int o), some (.int f)], M⟩ = .nx ⟨[W, some (.int m), A, C, some (.int w), some (.loc n), some (.int o), some (.int f)], M.set n (.dct (dB (kStep w m o a f)))⟩ := by
  have hk : mulOk w f = true := mulOk_l (by omega) (by omega)
  have e3 : (dB a).length < SZ := by simpa [dB] using hl
  have e4 := insK_run a ((o + w * f) % m)
  simp [cN, hk, hm, fSet, hM, e3, e4, kStep]
theorem cin_run {W A C : Option D} {m w o : Int} {n : Nat} (hm : 0 < m) (hw : -1000000 < w ∧ w < 1000000) : ∀ (fl : List Int) (M : List Ob) (a : List Int) (x : Option D), M[n]? = some (.dct (dB a)) → a.length + fl.length < SZ →
    ∃ x', forL (gN 7) cN (iL fl) ⟨[W, some (.int m), A, C, some (.int w), some (.loc n), some (.int o), x], M⟩ = .nx ⟨[W, some (.int m), A, C, some (.int w), some (.loc n), some (.int o), x'], M.set n (.dct (dB (fl.foldl (kStep w m o) a)))⟩
  | [], M, a, x, hM, hl => ⟨x, by rw [List.foldl_nil, set_same hM]; rfl⟩
  | f :: fl, M, a, x, hM, hl => by
    have hl : a.length + (fl.length + 1) < SZ := hl
    have hp : (kStep w m o a f).length ≤ a.length + 1 := insK_len
    obtain ⟨x', e⟩ := cin_run (W := W) (A := A) (C := C) (o := o) hm hw fl (M.set n (.dct (dB (kStep w m o a f)))) (kStep w m o a f) (some (.int f)) (get_set hM) (by omega)
    rw [List.set_set] at e
    refine ⟨x', ?_⟩
    rw [List.foldl_cons, ← e, iL_cons, forL_cons, x_gN, VL.C.seq_nx]
    have hb := cN_run (W := W) (A := A) (C := C) (o := o) (f := f) hm hw hM (by omega)
    simp only [List.set_cons_succ, List.set_cons_zero]
    rw [hb, VL.C.loop_nx]
def cM : MS := (sFor (iRg1M (aCons (eC (.int 10)) aNil)) (gN 7) cN)
theorem cmid_run {W A C : Option D} {m w : Int} {n : Nat} (hm : 0 < m) (hw : -1000000 < w ∧ w < 1000000) : ∀ (l : List Int) (M : List Ob) (a : List Int) (x y : Option D), M[n]? = some (.dct (dB a)) → a.length + l.length * 10 < SZ →
    ∃ x' y', forL (gN 6) cM (iL l) ⟨[W, some (.int m), A, C, some (.int w), some (.loc n), x, y], M⟩ = .nx ⟨[W, some (.int m), A, C, some (.int w), some (.loc n), x', y'], M.set n (.dct (dB (l.foldl (kStepI w m) a)))⟩
  | [], M, a, x, y, hM, hl => ⟨x, y, by rw [List.foldl_nil, set_same hM]; rfl⟩
  | o :: l, M, a, x, y, hM, hl => by
    have hl : a.length + (l.length + 1) * 10 < SZ := hl
    have hf : figs.length = 10 := rfl
    obtain ⟨y1, e1⟩ := cin_run (W := W) (A := A) (C := C) (o := o) hm hw figs M a y hM (by omega)
    have hp : (kStepI w m a o).length ≤ a.length + 10 := klen_F figs a
    obtain ⟨x', y', e⟩ := cmid_run (W := W) (A := A) (C := C) hm hw l (M.set n (.dct (dB (kStepI w m a o)))) (kStepI w m a o) (some (.int o)) y1 (get_set hM) (by omega)
    rw [List.set_set] at e
    refine ⟨x', y', ?_⟩
    rw [List.foldl_cons, ← e, iL_cons, forL_cons]
    have e1' : forL (gN 7) cN (iL figs) ⟨[W, some (.int m), A, C, some (.int w), some (.loc n), some (.int o), y], M⟩ = .nx ⟨[W, some (.int m), A, C, some (.int w), some (.loc n), some (.int o), y1], M.set n (.dct (dB (kStepI w m a o)))⟩ := e1
    simp [cM, rng10, e1']
def cO : MS := (sSeq (sAsg (eOwn fDctN) (gN 5)) (sSeq (sForD dKeys 3 (gN 6) cM) (sAsg (eV 5) (gN 3))))
theorem cO_run {W A : Option D} {m w : Int} (hm : 0 < m) (hw : -1000000 < w ∧ w < 1000000) {d : D} {M : List Ob} {l : List Int} (hd : CntAt d M (dB l)) (hl : l.length * 10 < SZ) (a b c : Option D) :
    ∃ d' M' a' b' c', cO ⟨[W, some (.int m), A, some d, some (.int w), a, b, c], M⟩ = .nx ⟨[W, some (.int m), A, some d', some (.int w), a', b', c'], M'⟩ ∧ CntAt d' M' (dB (kStepW m l w)) := by
  rcases hd with rfl | ⟨n, rfl, hn⟩
  · have h0 : (M ++ [Ob.dct []])[M.length]? = some (.dct (dB [])) := by simp [dB]
    obtain ⟨x', y', e1⟩ := cmid_run (W := W) (A := A) (C := some (.dct ((dB l).map (·.1)) ((dB l).map (·.2)))) hm hw l (M ++ [Ob.dct []]) [] b c h0 (by simpa using hl)
    refine ⟨.loc M.length, _, some (.loc M.length), x', y', ?_, .inr ⟨M.length, rfl, get_set h0⟩⟩
    simp only [cO, x_sSeq, x_sAsg, x_eOwn, x_fDctN, VL.R.bind_ok, VL.R.to_ok, x_gN, VL.C.seq_nx, List.set_cons_succ, List.set_cons_zero, x_sForD, x_eTake, List.getElem?_cons_succ, List.getElem?_cons_zero, keys_D, x_eV]
    rw [e1]
    simp [kStepW]
  · have hlt : n < M.length := (List.getElem?_eq_some_iff.mp hn).1
    have h0 : ((M ++ [Ob.dct []]).set n .dead)[M.length]? = some (.dct (dB [])) := by
      rw [List.getElem?_set_ne (by omega)]; simp [dB]
    have h1 : (M ++ [Ob.dct []])[n]? = some (.dct (dB l)) := by rw [List.getElem?_append_left hlt]; exact hn
    obtain ⟨x', y', e1⟩ := cmid_run (W := W) (A := A) (C := some (.dct ((dB l).map (·.1)) ((dB l).map (·.2)))) hm hw l ((M ++ [Ob.dct []]).set n .dead) [] b c h0 (by simpa using hl)
    refine ⟨.loc M.length, _, some (.loc M.length), x', y', ?_, .inr ⟨M.length, rfl, get_set h0⟩⟩
    simp only [cO, x_sSeq, x_sAsg, x_eOwn, x_fDctN, VL.R.bind_ok, VL.R.to_ok, x_gN, VL.C.seq_nx, List.set_cons_succ, List.set_cons_zero, x_sForD, x_eTake, List.getElem?_cons_succ, List.getElem?_cons_zero, h1, keys_D, x_eV]
    rw [e1]
    simp [kStepW]
theorem cout_run {W A : Option D} {m : Int} (hm : 0 < m) : ∀ (ws : List Int) (d : D) (M : List Ob) (l : List Int) (a b c g : Option D), Sm ws → CntAt d M (dB l) → l.length * 10 ^ (ws.length + 1) < SZ →
    ∃ d' M' a' b' c' g', forL (gN 4) cO (iL ws) ⟨[W, some (.int m), A, some d, g, a, b, c], M⟩ = .nx ⟨[W, some (.int m), A, some d', g', a', b', c'], M'⟩ ∧ CntAt d' M' (dB (ws.foldl (kStepW m) l))
  | [], d, M, l, a, b, c, g, hs, hd, hl => ⟨d, M, a, b, c, g, rfl, hd⟩
  | w :: ws, d, M, l, a, b, c, g, hs, hd, hl => by
    have hl' : l.length * (10 ^ (ws.length + 1) * 10) < SZ := by simpa [Nat.pow_succ] using hl
    have hpos : 0 < 10 ^ (ws.length + 1) := Nat.pow_pos (by omega)
    have hle : l.length * 10 < SZ := by
      refine Nat.lt_of_le_of_lt ?_ hl'
      exact Nat.mul_le_mul_left _ (by omega)
    have hlen : (kStepW m l w).length ≤ l.length * 10 := by
      have := klen_I (w := w) (m := m) l []
      simpa [kStepW] using this
    obtain ⟨d1, M1, a1, b1, c1, r1, h1⟩ := cO_run (W := W) (A := A) hm (hs w (by simp)) hd hle a b c
    obtain ⟨d', M', a', b', c', g', r2, h2⟩ := cout_run (W := W) (A := A) hm ws d1 M1 (kStepW m l w) a1 b1 c1 (some (.int w)) (fun x hx => hs x (by simp [hx])) h1 (by
      refine Nat.lt_of_le_of_lt (Nat.mul_le_mul_right _ hlen) ?_
      have : l.length * 10 * 10 ^ (ws.length + 1) = l.length * (10 ^ (ws.length + 1) * 10) := by rw [Nat.mul_assoc, Nat.mul_comm 10]
      rw [this]; exact hl')
    refine ⟨d', M', a', b', c', g', ?_, h2⟩
    rw [← r2, iL_cons, forL_cons, x_gN, VL.C.seq_nx]
    simp only [List.set_cons_succ, List.set_cons_zero]
    rw [r1, VL.C.loop_nx]
theorem can_ok {ws : List Int} {m r : Int} (hw : Sm ws) (hl : ws.length ≤ 4) (hm : 0 < m) : f_can_be_sealed [.tup (iL ws), .int m, .int r] = .ok (.bl (canB ws m r)) := by
  have hb : [r % m].length * 10 ^ (ws.length + 1) < SZ := by
    have : 10 ^ (ws.length + 1) ≤ 10 ^ 5 := Nat.pow_le_pow_right (by omega) (by omega)
    rw [SZv]; simp; omega
  obtain ⟨d', M', a', b', c', g', q, h⟩ := cout_run (W := some (.tup (iL ws))) (A := some (.int r)) hm ws (.dct [.inl (r % m)] [.bl true]) [] [r % m] none none none none hw (.inl rfl) hb
  rw [← known_eq ws]
  refine pure_rt rfl ?_ (by simp)
  have hmm : m_can_be_sealed = (sSeq (sAsg (eFrz (fDct1 (eOp fMod (eV 2) (eV 1)) (eC (.bl true)))) (gN 3)) (sSeq (sFor (iSeqM (eV 0)) (gN 4) cO) (sRet (eOp fIn (eC (.int 0)) (eV 3))))) := rfl
  rw [hmm]
  have hz : ∀ r1, fIn (.int 0) d' ⟨r1, M'⟩ = .ok (.bl (decide (0 ∈ ws.foldl (kStepW m) [r % m])), ⟨r1, M'⟩) := fun r1 => by
    have e := dB_val (ws.foldl (kStepW m) [r % m]) 0
    rcases h with h | ⟨n, h, hn⟩
    · have e1 : dctOf ⟨r1, M'⟩ d' = some (dB (ws.foldl (kStepW m) [r % m])) := by
        rw [h]; simp only [dctOf]; rw [List.zip_map']; simp
      have e2 : seqOf ⟨r1, M'⟩ d' = none := by rw [h]; rfl
      have e3 : qIn (.int 0) d' ⟨r1, M'⟩ = some (decide (0 ∈ ws.foldl (kStepW m) [r % m])) := by
        rw [h] at e1 e2 ⊢; simp only [qIn, e1, e2, x_keyI, e]
      simp [fIn, e3]
    · have e1 : dctOf ⟨r1, M'⟩ d' = some (dB (ws.foldl (kStepW m) [r % m])) := by rw [h]; exact dct_loc hn
      have e2 : seqOf ⟨r1, M'⟩ d' = none := by rw [h]; simp [seqOf, lstOf, hn]
      have e3 : qIn (.int 0) d' ⟨r1, M'⟩ = some (decide (0 ∈ ws.foldl (kStepW m) [r % m])) := by
        rw [h] at e1 e2 ⊢; simp only [qIn, e1, e2, x_keyI, e]
      simp [fIn, e3]
  simp [hm, q, hz]
end K45
namespace K45
open PySem L2 VL

def lN : MS := (sSeq (sAsg (eOp fAdd (eV 3) (eOp fMul (eOp fIx (eV 0) (eV 7)) (eV 5))) (gN 8))
  (sIf (tTruN (eCall f_can_be_sealed (aCons (eCut (eV 0) (oSome (eOp fAdd (eV 7) (eC (.int 1)))) oNone) (aCons (eV 1) (aCons (eV 8) aNil))))) (sSeq (sAsg (eOp fAdd (eV 6) (eTup (aCons (eV 5) aNil))) (gN 6))
  (sSeq (sAsg (eV 8) (gN 3))
  sBk)) sNil))
theorem fCut_drop {s : S} {l : List Int} {k : Nat} : fCut (.tup (iL l)) (some (k : Int)) none s = .ok (.tup (iL (l.drop k)), s) := by
  show R.ok (D.tup (cut (iL l) (some (k : Int)) none), s) = _
  rw [cut_drop, iL_drop]
theorem fCut_take {s : S} {l : List Int} {k : Nat} : fCut (.tup (iL l)) none (some (k : Int)) s = .ok (.tup (iL (l.take k)), s) := by
  show R.ok (D.tup (cut (iL l) none (some (k : Int))), s) = _
  rw [cut_take, iL_take]
theorem fIx_iL {s : S} {l : List Int} {k : Nat} (h : k < l.length) : fIx (.tup (iL l)) (.int (k : Int)) s = .ok (.int l[k], s) := by
  rw [fIxT (by simpa using h), iL_get]
theorem Sm_drop {ws : List Int} (h : Sm ws) (k : Nat) : Sm (ws.drop k) := fun w hw => h w (List.mem_of_mem_drop hw)
theorem lN_run {ws fs : List Int} {m r f : Int} {B a z : Option D} {p : Nat} (hw : Sm ws) (hl : ws.length ≤ 4) (hm : 0 < m) (hp : p < ws.length) (hf : fs.length ≤ 100) :
    lN ⟨[some (.tup (iL ws)), some (.int m), B, some (.int r), a, some (.int f), some (.tup (iL fs)), some (.int (p : Int)), z], []⟩ =
      if canB (ws.drop (p + 1)) m (r + ws[p] * f) = true then .bk ⟨[some (.tup (iL ws)), some (.int m), B, some (.int (r + ws[p] * f)), a, some (.int f), some (.tup (iL (fs ++ [f]))), some (.int (p : Int)), some (.int (r + ws[p] * f))], []⟩
      else .nx ⟨[some (.tup (iL ws)), some (.int m), B, some (.int r), a, some (.int f), some (.tup (iL fs)), some (.int (p : Int)), some (.int (r + ws[p] * f))], []⟩ := by
  obtain ⟨h1, h2⟩ := hw ws[p] (List.getElem_mem hp)
  have hk : mulOk ws[p] f = true := mulOk_l (by omega) (by omega)
  have hc := can_ok (ws := ws.drop (p + 1)) (r := r + ws[p] * f) (Sm_drop hw _) (by rw [List.length_drop]; omega) hm
  have hcut : ∀ s, fCut (.tup (iL ws)) (some ((p : Int) + 1)) none s = .ok (.tup (iL (ws.drop (p + 1))), s) := fun s => fCut_drop (k := p + 1)
  have h3 : 1 ≤ SZ := by rw [SZv]; omega
  have h4 : fs.length + 1 ≤ SZ := by rw [SZv]; omega
  cases hb : canB (ws.drop (p + 1)) m (r + ws[p] * f) with
  | true => simp [lN, fIx_iL hp, hk, hcut, hc, hb, h3, h4]
  | false => simp [lN, fIx_iL hp, hk, hcut, hc, hb]
theorem lin_run {ws fs : List Int} {m r : Int} {B a : Option D} {p : Nat} (hw : Sm ws) (hl : ws.length ≤ 4) (hm : 0 < m) (hp : p < ws.length) (hf : fs.length ≤ 100) : ∀ (fl : List Int) (x z : Option D),
    ∃ x' z', forL (gN 5) lN (iL fl) ⟨[some (.tup (iL ws)), some (.int m), B, some (.int r), a, x, some (.tup (iL fs)), some (.int (p : Int)), z], []⟩ =
      .nx (match fl.find? fun f => canB (ws.drop (p + 1)) m (r + ws[p] * f) with
        | some f => ⟨[some (.tup (iL ws)), some (.int m), B, some (.int (r + ws[p] * f)), a, x', some (.tup (iL (fs ++ [f]))), some (.int (p : Int)), z'], []⟩
        | none => ⟨[some (.tup (iL ws)), some (.int m), B, some (.int r), a, x', some (.tup (iL fs)), some (.int (p : Int)), z'], []⟩)
  | [], x, z => ⟨x, z, rfl⟩
  | f :: fl, x, z => by
    have hb := lN_run (B := B) (a := a) (z := z) (f := f) (r := r) hw hl hm hp hf
    cases hc : canB (ws.drop (p + 1)) m (r + ws[p] * f) with
    | true =>
      rw [hc, if_pos rfl] at hb
      refine ⟨some (.int f), some (.int (r + ws[p] * f)), ?_⟩
      rw [iL_cons, forL_cons, x_gN, VL.C.seq_nx]
      simp only [List.set_cons_succ, List.set_cons_zero]
      rw [hb, VL.C.loop_bk, List.find?_cons]
      simp only [hc]
    | false =>
      rw [hc, if_neg (by simp)] at hb
      obtain ⟨x', z', e⟩ := lin_run (B := B) (a := a) (r := r) hw hl hm hp hf fl (some (.int f)) (some (.int (r + ws[p] * f)))
      refine ⟨x', z', ?_⟩
      rw [iL_cons, forL_cons, x_gN, VL.C.seq_nx]
      simp only [List.set_cons_succ, List.set_cons_zero]
      rw [hb, VL.C.loop_nx, e, List.find?_cons]
      simp only [hc]
def lO : MS := (sFor (iRg1M (aCons (eC (.int 10)) aNil)) (gN 5) lN)
theorem canB_find {w m r : Int} {ws : List Int} (h : canB (w :: ws) m r = true) : ∃ f, figs.find? (fun f => canB ws m (r + w * f)) = some f ∧ canB ws m (r + w * f) = true := by
  rw [canB_cons] at h
  cases hf : figs.find? (fun f => canB ws m (r + w * f)) with
  | none =>
    obtain ⟨f, h1, h2⟩ := List.any_eq_true.mp h
    have := List.find?_eq_none.mp hf f h1
    exact absurd h2 (by simpa using this)
  | some f => exact ⟨f, rfl, List.find?_some (p := fun f => canB ws m (r + w * f)) hf⟩
theorem lout_run {ws : List Int} {m : Int} {B a : Option D} (hw : Sm ws) (hl : ws.length ≤ 4) (hm : 0 < m) : ∀ (k p : Nat) (fs : List Int) (r : Int) (x y z : Option D), p + k = ws.length → fs.length ≤ 50 + p → canB (ws.drop p) m r = true →
    ∃ r' x' y' z', forL (gN 7) lO ((List.range' p k).map fun i => D.int ((i : Nat) : Int)) ⟨[some (.tup (iL ws)), some (.int m), B, some (.int r), a, x, some (.tup (iL fs)), y, z], []⟩ = .nx ⟨[some (.tup (iL ws)), some (.int m), B, r', a, x', some (.tup (iL (fs ++ greedy m (ws.drop p) r))), y', z'], []⟩
  | 0, p, fs, r, x, y, z, h, hf, hc => by
    have : ws.drop p = [] := List.drop_of_length_le (by omega)
    rw [this]
    exact ⟨_, x, y, z, by simp only [greedy, List.append_nil]; rfl⟩
  | k + 1, p, fs, r, x, y, z, h, hf, hc => by
    have hp : p < ws.length := by omega
    have hd : ws.drop p = ws[p] :: ws.drop (p + 1) := List.drop_eq_getElem_cons hp
    rw [hd] at hc
    obtain ⟨f, h1, h2⟩ := canB_find hc
    obtain ⟨x1, z1, e1⟩ := lin_run (fs := fs) (B := B) (a := a) (r := r) hw hl hm hp (by omega) figs x z
    rw [h1] at e1
    obtain ⟨r', x', y', z', e⟩ := lout_run (B := B) (a := a) hw hl hm k (p + 1) (fs ++ [f]) (r + ws[p] * f) x1 (some (.int (p : Int))) z1 (by omega) (by simp; omega) h2
    refine ⟨r', x', y', z', ?_⟩
    rw [hd, greedy, h1]
    simp only [List.append_assoc, List.cons_append, List.nil_append] at e ⊢
    rw [← e, List.range'_succ, List.map_cons, forL_cons, x_gN, VL.C.seq_nx]
    simp only [List.set_cons_succ, List.set_cons_zero]
    simp [lO, rng10, e1]
theorem rng_range' (p k : Nat) : rng (p : Int) k = (List.range' p k).map fun i => D.int ((i : Nat) : Int) := by
  rw [List.range'_eq_map_range]
  simp [rng, Function.comp_def]
theorem least_ok {ws bs : List Int} {m : Int} (hw : Sm ws) (hl : ws.length ≤ 4) (hb : bs.length ≤ ws.length) (hm : 0 < m) : f_least_sealed [.tup (iL ws), .int m, .tup (iL bs)] =
    .ok (if canB (ws.drop bs.length) m (dot ws bs) = true then .tup (iL (bs ++ greedy m (ws.drop bs.length) (dot ws bs))) else .non) := by
  have hs := sum_run (r := [some (.tup (iL ws)), some (.int m), some (.tup (iL bs)), none, none, none, none, none, none]) (fs := bs) hw (by omega) (i := 4) (j := 5) (by decide) (by simp) (by simp)
  have hcan := can_ok (ws := ws.drop bs.length) (r := dot ws bs) (Sm_drop hw _) (by rw [List.length_drop]; omega) hm
  have hsum : (List.zipWith (fun x1 x2 => x1 * x2) ws bs).sum = dot ws bs := rfl
  have hmm : m_least_sealed = (sSeq (sAsg (eCB (c1 gSum) (aCons (eFrz (fLc (iZipM (aCons (eV 0) (aCons (eV 2) aNil))) (gTupM (gsCons (gN 4) (gsCons (gN 5) gsNil))) tYesM (eOp fMul (eV 4) (eV 5)) [4, 5])) aNil)) (gN 3))
  (sSeq (sIf (tNotM (tTruN (eCall f_can_be_sealed (aCons (eCut (eV 0) (oSome (eCB cLen (aCons (eV 2) aNil))) oNone) (aCons (eV 1) (aCons (eV 3) aNil)))))) (sRet (eC .non)) sNil)
  (sSeq (sAsg (eCB (c1 gTuple) (aCons (eV 2) aNil)) (gN 6))
  (sSeq (sFor (iRg2M (aCons (eCB cLen (aCons (eV 2) aNil)) (aCons (eCB cLen (aCons (eV 0) aNil)) aNil))) (gN 7) lO)
  (sRet (eV 6)))))) := rfl
  cases hc : canB (ws.drop bs.length) m (dot ws bs) with
  | false =>
    refine pure_rt rfl ?_ (by simp)
    rw [hmm]
    simp [hs, hsum, fCut_drop, hcan, hc]
  | true =>
    obtain ⟨r', x', y', z', e⟩ := lout_run (B := some (.tup (iL bs))) (a := none) hw hl hm (ws.length - bs.length) bs.length bs (dot ws bs) none none none (by omega) (by omega) hc
    rw [← rng_range'] at e
    have ek : ((ws.length : Int) - (bs.length : Int)).toNat = ws.length - bs.length := by omega
    have h1 : (bs.length : Int) < 4611686018427387904 := by omega
    have h2 : (ws.length : Int) < 4611686018427387904 := by omega
    refine pure_rt rfl ?_ (by simp)
    rw [hmm]
    simp [hs, hsum, fCut_drop, hcan, hc, ek, h1, h2, e]
/-! seals_of -/
theorem seals_ok {ws fs : List Int} {m : Int} (hw : Sm ws) (hl : ws.length ≤ 1000) (hf : fs.length ≤ 1000) (hm : 0 < m) : f_seals_of [.tup (iL ws), .int m, .tup (iL fs)] = .ok (.tup (iL (figs.filter fun f => sealedB ws m (fs ++ [f])))) := by
  have hlc : lcL (gN 3) (tTruN (eCall f_is_sealed (aCons (eV 0) (aCons (eV 1) (aCons (eOp fAdd (eCB (c1 gTuple) (aCons (eV 2) aNil)) (eTup (aCons (eV 3) aNil))) aNil))))) (eV 3) [3] [some (.tup (iL ws)), some (.int m), some (.tup (iL fs)), none] (iL figs) [] ⟨[some (.tup (iL ws)), some (.int m), some (.tup (iL fs)), none], []⟩ =
      .ok (iL (figs.filter fun f => sealedB ws m (fs ++ [f])), ⟨[some (.tup (iL ws)), some (.int m), some (.tup (iL fs)), none], []⟩) := by
    rw [lcL_pure (fun d => match d with | .int f => sealedB ws m (fs ++ [f]) | _ => false) id]
    · simp [iL, List.filter_map, Function.comp_def]
    · rw [SZv]; simp [figs]
    · intro d hd
      obtain ⟨f, _, rfl⟩ := List.mem_map.mp hd
      have h3 : 1 ≤ SZ := by rw [SZv]; omega
      have h4 : fs.length + 1 ≤ SZ := by rw [SZv]; omega
      refine ⟨_, rfl, ⟨[some (.tup (iL ws)), some (.int m), some (.tup (iL fs)), some (.int f)], []⟩, ?_, fun _ => ⟨[some (.tup (iL ws)), some (.int m), some (.tup (iL fs)), some (.int f)], ?_⟩, rfl⟩
      · simp [wipeD, h3, h4, sealed_ok hw (show ws.length ≤ 1000000 by omega) hm]
      · simp
  refine pure_rt rfl ?_ (by simp)
  unfold m_seals_of
  simp [rng10, hlc]
end K45
namespace K45
open PySem L2 VL

abbrev Q (ns ds : List Int) (k n m w t rows row told turn begun good least figure sealed figures due last seals : Option D) : S :=
  ⟨[some (.scr ns), some (.lst (iL ds)), k, n, m, w, t, rows, row, told, turn, begun, good, least, figure, sealed, figures, due, last, seals], []⟩
def dat (ds : List Int) (i : Int) : Int := ds.getD i.toNat 0
theorem dat_ix {s : S} {ds : List Int} {i : Int} (h0 : 0 ≤ i) (h1 : i < ds.length) : fIx (.lst (iL ds)) (.int i) s = .ok (.int (dat ds i), s) := by
  obtain ⟨k, rfl⟩ := Int.eq_ofNat_of_zero_le h0
  have hk : k < ds.length := by omega
  have e : ((k : Int)).toNat = k := by omega
  rw [fIxL (by simpa using hk), iL_get]
  simp [dat, hk]
/-- what is known of the draws -/
structure Dr (ds : List Int) : Prop where
  len : ds.length = 24
  lo : ∀ x ∈ ds, 0 ≤ x ∧ x < 5040
theorem Dr.at {ds : List Int} (h : Dr ds) {s : S} {i : Int} (h0 : 0 ≤ i) (h1 : i < 24) : fIx (.lst (iL ds)) (.int i) s = .ok (.int (dat ds i), s) := dat_ix h0 (by rw [h.len]; omega)
theorem Dr.nn {ds : List Int} (h : Dr ds) (i : Int) : 0 ≤ dat ds i := by
  unfold dat
  by_cases hi : i.toNat < ds.length
  · have := h.lo ds[i.toNat] (List.getElem_mem hi)
    rw [List.getD_eq_getElem?_getD, List.getElem?_eq_getElem hi]; exact this.1
  · rw [List.getD_eq_getElem?_getD, List.getElem?_eq_none (by omega)]; exact Int.le_refl 0
def s1 : MS := (sAsg (eIf (tBl (eOp fGt (eOp fMod (eCB (c1 gInt) (aCons (eOp fIx (eV 1) (eC (.int 2))) aNil)) (eC (.int 10))) (eC (.int 0)))) (eOp fIx (eTup (aCons (eC (.int 3)) (aCons (eC (.int 2)) (aCons (eC (.int 1)) (aCons (eC (.int 3)) aNil))))) (eOp fMod (eCB (c1 gInt) (aCons (eOp fIx (eV 1) (eV 2)) aNil)) (eC (.int 4)))) (eC (.int 4))) (gN 3))
def s2 : MS := (sAsg (eOp fAdd (eC (.int 2)) (eOp fMod (eCB (c1 gInt) (aCons (eOp fIx (eV 1) (eOp fAdd (eC (.int 3)) (eV 2))) aNil)) (eOp fIx (eTup (aCons (eC (.int 9)) (aCons (eC (.int 59)) aNil))) (eOp fMod (eCB (c1 gInt) (aCons (eOp fIx (eV 1) (eC (.int 5))) aNil)) (eC (.int 2)))))) (gN 4))
def s3 : MS := (sAsg (eCB (c1 gTuple) (aCons (eFrz (fLc (iRg1M (aCons (eV 3) aNil)) (gN 6) tYesM (eOp fSub (eOp fMod (eOp fDiv (eCB (c1 gInt) (aCons (eOp fIx (eV 1) (eOp fAdd (eC (.int 6)) (eV 6))) aNil)) (eOp fAdd (eC (.int 1)) (eV 2))) (eC (.int 21))) (eC (.int 5))) [6])) aNil)) (gN 5))
def s4 : MS := (sAsg (eFrz (fLc (iSeqM (eCall f__law_every (aCons (eV 3) aNil))) (gN 8) (tBl (eOp fEq (eCall f__law_rest (aCons (eV 5) (aCons (eV 4) (aCons (eV 8) aNil)))) (eC (.int 0)))) (eV 8) [8])) (gN 7))
def s5 : MS := (sAsg (eCall f_number_sealed (aCons (eV 5) (aCons (eV 4) aNil))) (gN 9))
def s6 : MS := (sIf (tOrM (tNotM (tTruN (eCall f__law_is_integer (aCons (eV 9) aNil)))) (tBl (eOp fNe (eV 9) (eCB cLen (aCons (eV 7) aNil))))) (sRet (eC (.bl false))) sNil)
theorem t_ix4 {s : S} {j : Int} (h0 : 0 ≤ j) (h1 : j < 4) : ∃ n : Nat, 1 ≤ n ∧ n ≤ 4 ∧ fIx (.tup [.int 3, .int 2, .int 1, .int 3]) (.int j) s = .ok (.int n, s) := by
  obtain rfl | rfl | rfl | rfl : j = 0 ∨ j = 1 ∨ j = 2 ∨ j = 3 := by omega
  · exact ⟨3, by omega, by omega, rfl⟩
  · exact ⟨2, by omega, by omega, rfl⟩
  · exact ⟨1, by omega, by omega, rfl⟩
  · exact ⟨3, by omega, by omega, rfl⟩
theorem t_ix2 {s : S} {j : Int} (h0 : 0 ≤ j) (h1 : j < 2) : ∃ n : Int, 1 ≤ n ∧ fIx (.tup [.int 9, .int 59]) (.int j) s = .ok (.int n, s) := by
  obtain rfl | rfl : j = 0 ∨ j = 1 := by omega
  · exact ⟨9, by omega, rfl⟩
  · exact ⟨59, by omega, rfl⟩
section
variable {ns ds : List Int} {k n m w t rows row told turn begun good least figure sealed figures due last seals : Option D}
theorem run1 (h : Dr ds) {kk : Int} (h0 : 0 ≤ kk) (h1 : kk < 2) : ∃ nn : Nat, 1 ≤ nn ∧ nn ≤ 4 ∧ s1 (Q ns ds (some (.int kk)) n m w t rows row told turn begun good least figure sealed figures due last seals) = .nx (Q ns ds (some (.int kk)) (some (.int nn)) m w t rows row told turn begun good least figure sealed figures due last seals) := by
  obtain ⟨nn, a1, a2, a3⟩ := t_ix4 (s := Q ns ds (some (.int kk)) n m w t rows row told turn begun good least figure sealed figures due last seals) (j := dat ds kk % 4) (by omega) (by omega)
  have hz : 4 ≤ SZ := by rw [SZv]; omega
  have e2 : ∀ s, fIx (.lst (iL ds)) (.int 2) s = .ok (.int (dat ds 2), s) := fun s => h.at (by omega) (by omega)
  have ek : ∀ s, fIx (.lst (iL ds)) (.int kk) s = .ok (.int (dat ds kk), s) := fun s => h.at h0 (by omega)
  by_cases hc : 0 < dat ds 2 % 10
  · exact ⟨nn, a1, a2, by simp [s1, Q, e2, ek, hc, hz, a3]⟩
  · exact ⟨4, by omega, by omega, by simp [s1, Q, e2, hc]⟩
theorem run2 (h : Dr ds) {kk : Int} (h0 : 0 ≤ kk) (h1 : kk < 2) : ∃ mm : Int, 2 ≤ mm ∧ s2 (Q ns ds (some (.int kk)) n m w t rows row told turn begun good least figure sealed figures due last seals) = .nx (Q ns ds (some (.int kk)) n (some (.int mm)) w t rows row told turn begun good least figure sealed figures due last seals) := by
  obtain ⟨j, a1, a3⟩ := t_ix2 (s := Q ns ds (some (.int kk)) n m w t rows row told turn begun good least figure sealed figures due last seals) (j := dat ds 5 % 2) (by omega) (by omega)
  have hz : 2 ≤ SZ := by rw [SZv]; omega
  have e2 : ∀ s, fIx (.lst (iL ds)) (.int 5) s = .ok (.int (dat ds 5), s) := fun s => h.at (by omega) (by omega)
  have ek : ∀ s, fIx (.lst (iL ds)) (.int (3 + kk)) s = .ok (.int (dat ds (3 + kk)), s) := fun s => h.at (by omega) (by omega)
  have hj : 0 < j := by omega
  refine ⟨2 + dat ds (3 + kk) % j, ?_, by simp [s2, Q, e2, ek, hz, a3, hj]⟩
  have := Int.emod_nonneg (dat ds (3 + kk)) (show j ≠ 0 by omega)
  omega
theorem rng_len (lo : Int) (n : Nat) : (rng lo n).length = n := by simp [rng]
theorem rng_mem {n : Nat} {d : D} (h : d ∈ rng 0 n) : ∃ i : Nat, i < n ∧ d = .int (i : Int) := by
  simp only [rng, List.mem_map, List.mem_range, Int.zero_add] at h
  obtain ⟨i, h1, rfl⟩ := h
  exact ⟨i, h1, rfl⟩
theorem rng_map {n : Nat} {F : D → D} {f : Int → Int} (h : ∀ i : Int, F (.int i) = .int (f i)) : (rng 0 n).map F = iL ((List.range n).map fun i => f (i : Nat)) := by
  simp [rng, iL, h, Function.comp_def]
theorem run3 (h : Dr ds) {kk : Int} (h0 : 0 ≤ kk) (h1 : kk < 2) {nn : Nat} (hn : nn ≤ 4) : ∃ ws : List Int, ws.length = nn ∧ Sm ws ∧ s3 (Q ns ds (some (.int kk)) (some (.int nn)) m w t rows row told turn begun good least figure sealed figures due last seals) = .nx (Q ns ds (some (.int kk)) (some (.int nn)) m (some (.tup (iL ws))) t rows row told turn begun good least figure sealed figures due last seals) := by
  let F : D → D := fun d => match d with | .int a => .int (dat ds (6 + a) / (1 + kk) % 21 - 5) | _ => .non
  have hlc := lcL_pure (g := gN 6) (t := tYesM) (e := (eOp fSub (eOp fMod (eOp fDiv (eCB (c1 gInt) (aCons (eOp fIx (eV 1) (eOp fAdd (eC (.int 6)) (eV 6))) aNil)) (eOp fAdd (eC (.int 1)) (eV 2))) (eC (.int 21))) (eC (.int 5)))) (vs := [6])
    (r0 := (Q ns ds (some (.int kk)) (some (.int nn)) m w t rows row told turn begun good least figure sealed figures due last seals).r) (m := []) (fun _ => true) F (rng 0 nn) [] (by rw [SZv, rng_len]; simp; omega) (fun d hd => by
      obtain ⟨i, hi, rfl⟩ := rng_mem hd
      have ei : ∀ s, fIx (.lst (iL ds)) (.int (6 + (i : Int))) s = .ok (.int (dat ds (6 + (i : Int))), s) := fun s => h.at (by omega) (by omega)
      have hd : 0 < 1 + kk ∧ 1 + kk < 1073741824 := by omega
      refine ⟨_, rfl, _, rfl, fun _ => ⟨(Q ns ds (some (.int kk)) (some (.int nn)) m w (some (.int i)) rows row told turn begun good least figure sealed figures due last seals).r, ?_⟩, rfl⟩
      simp [Q, wipeD, ei, hd, F])
  have hf : (rng 0 nn).filter (fun _ => true) = rng 0 nn := List.filter_eq_self.mpr fun _ _ => rfl
  rw [hf, rng_map (F := F) (f := fun a => dat ds (6 + a) / (1 + kk) % 21 - 5) (fun i => rfl)] at hlc
  refine ⟨(List.range nn).map fun i : Nat => dat ds (6 + (i : Int)) / (1 + kk) % 21 - 5, by simp, fun x hx => ?_, ?_⟩
  · obtain ⟨i, _, rfl⟩ := List.mem_map.mp hx
    omega
  · have hz : (nn : Int) < 4611686018427387904 := by omega
    simp only [Q] at hlc
    simp [s3, Q, hz, hlc]
theorem rowsD_filter (L : List (List Int)) (p : D → Bool) (q : List Int → Bool) (h : ∀ r, p (.tup (iL r)) = q r) : ((rowsD L).filter p).map id = rowsD (L.filter q) := by
  simp [rowsD, List.filter_map, Function.comp_def, h]
theorem rowsD_mem {L : List (List Int)} {d : D} (h : d ∈ rowsD L) : ∃ r ∈ L, d = .tup (iL r) := by
  obtain ⟨r, h1, rfl⟩ := List.mem_map.mp h
  exact ⟨r, h1, rfl⟩
theorem rowsD_len (L : List (List Int)) : (rowsD L).length = L.length := by simp [rowsD]
abbrev good1 (ws : List Int) (m : Int) (n : Nat) : List (List Int) := (E n).filter fun row => decide (dot ws row % m = 0)
theorem E_small {n : Nat} (h : n ≤ 4) : (E n).length ≤ 10000 := by
  rw [E_len]
  have : 10 ^ n ≤ 10 ^ 4 := Nat.pow_le_pow_right (by omega) h
  omega
theorem run4 {ws : List Int} {mm : Int} {nn : Nat} (hn : nn ≤ 4) (hl : ws.length = nn) (hw : Sm ws) (hm : 2 ≤ mm) : s4 (Q ns ds k (some (.int nn)) (some (.int mm)) (some (.tup (iL ws))) t rows row told turn begun good least figure sealed figures due last seals) = .nx (Q ns ds k (some (.int nn)) (some (.int mm)) (some (.tup (iL ws))) t (some (.lst (rowsD (good1 ws mm nn)))) row told turn begun good least figure sealed figures due last seals) := by
  have hlc := lcL_pure (g := gN 8) (t := (tBl (eOp fEq (eCall f__law_rest (aCons (eV 5) (aCons (eV 4) (aCons (eV 8) aNil)))) (eC (.int 0))))) (e := (eV 8)) (vs := [8])
    (r0 := (Q ns ds k (some (.int nn)) (some (.int mm)) (some (.tup (iL ws))) t rows row told turn begun good least figure sealed figures due last seals).r) (m := []) (fun d => match d with | .tup l => (match intsD l with | some r => decide (dot ws r % mm = 0) | none => false) | _ => false) id (rowsD (E nn)) [] (by rw [SZv, rowsD_len]; have := E_small hn; simp; omega) (fun d hd => by
      obtain ⟨r, hr, rfl⟩ := rowsD_mem hd
      refine ⟨_, rfl, (Q ns ds k (some (.int nn)) (some (.int mm)) (some (.tup (iL ws))) t rows (some (.tup (iL r))) told turn begun good least figure sealed figures due last seals), ?_, fun _ => ⟨(Q ns ds k (some (.int nn)) (some (.int mm)) (some (.tup (iL ws))) t rows (some (.tup (iL r))) told turn begun good least figure sealed figures due last seals).r, ?_⟩, rfl⟩
      · simp [Q, wipeD, law_rest_ok hw (show ws.length ≤ 1000000 by omega) (show 0 < mm by omega)]
      · simp [Q])
  rw [rowsD_filter (E nn) _ (fun r => decide (dot ws r % mm = 0)) (fun r => by simp)] at hlc
  simp only [Q] at hlc
  simp [s4, Q, every_ok nn hn, hlc]
theorem run56 {ws : List Int} {mm : Int} {nn : Nat} (hn : nn ≤ 4) (hl : ws.length = nn) (hw : Sm ws) (hm : 2 ≤ mm) : (s5 (Q ns ds k (some (.int nn)) (some (.int mm)) (some (.tup (iL ws))) t (some (.lst (rowsD (good1 ws mm nn)))) row told turn begun good least figure sealed figures due last seals)).seq s6 =
    .nx (Q ns ds k (some (.int nn)) (some (.int mm)) (some (.tup (iL ws))) t (some (.lst (rowsD (good1 ws mm nn)))) row (some (.int ((good1 ws mm nn).length : Int))) turn begun good least figure sealed figures due last seals) := by
  have hnum := number_ok hw (by omega) (show 0 < mm by omega)
  rw [hl] at hnum
  simp [s5, s6, Q, hnum, isint_ok, rowsD_len]
end
end K45
namespace K45
open PySem L2 VL

theorem fig_mem {x : Int} (h0 : 0 ≤ x) (h1 : x < 10) : x ∈ figs := by
  simp only [figs, List.mem_cons, List.not_mem_nil, or_false]; omega
theorem fig_lim {x : Int} (h : x ∈ figs) : 0 ≤ x ∧ x < 10 := by
  simp only [figs, List.mem_cons, List.not_mem_nil, or_false] at h; omega
def t1 : MS := (sAsg (eCB (c1 gTuple) (aCons (eFrz (fLc (iRg1M (aCons (eOp fMod (eV 10) (eOp fAdd (eV 3) (eC (.int 1)))) aNil)) (gN 6) tYesM (eOp fMod (eOp fDiv (eCB (c1 gInt) (aCons (eOp fIx (eV 1) (eOp fAdd (eOp fAdd (eC (.int 10)) (eV 10)) (eV 6))) aNil)) (eOp fAdd (eC (.int 1)) (eV 10))) (eC (.int 10))) [6])) aNil)) (gN 11))
def t2 : MS := (sAsg (eFrz (fLc (iSeqM (eV 7)) (gN 8) (tBl (eOp fEq (eCut (eV 8) oNone (oSome (eCB cLen (aCons (eV 11) aNil)))) (eV 11))) (eV 8) [8])) (gN 12))
def t3 : MS := (sAsg (eCall f_least_sealed (aCons (eV 5) (aCons (eV 4) (aCons (eV 11) aNil)))) (gN 13))
def t4 : MS := (sIf (tBl (eOp fNe (eOp fIs (eV 13) (eC .non)) (eOp fEq (eCB cLen (aCons (eV 12) aNil)) (eC (.int 0))))) (sRet (eC (.bl false))) sNil)
def t5 : MS := (sIf (tBl (eOp fIsn (eV 13) (eC .non))) (sSeq (sIf (tOrM (tNotM (tTruN (eIsi "tuple" (eV 13)))) (tOrM (tNotM (tTruN (eCB (c1 (gAllL allB)) (aCons (eFrz (fLc (iSeqM (eV 13)) (gN 14) tYesM (eCall f__law_is_integer (aCons (eV 14) aNil)) [14])) aNil)))) (tBl (eOp fNe (eV 13) (eOp fIx (eV 12) (eC (.int 0))))))) (sRet (eC (.bl false))) sNil)
  (sSeq (sAsg (eCall f_is_sealed (aCons (eV 5) (aCons (eV 4) (aCons (eV 13) aNil)))) (gN 15))
  (sIf (tOrM (tNotM (tTruN (eIsi "bool" (eV 15)))) (tNotM (tTruN (eV 15)))) (sRet (eC (.bl false))) sNil))) sNil)
section
variable {ns ds : List Int} {k n m w t rows row told turn begun good least figure sealed figures due last seals : Option D}
theorem runt1 (h : Dr ds) {tt : Int} (h0 : 0 ≤ tt) (h1 : tt < 5) {nn : Nat} (hn : nn ≤ 4) : ∃ bs : List Int, bs.length ≤ nn ∧ (∀ b ∈ bs, b ∈ figs) ∧ t1 (Q ns ds k (some (.int nn)) m w t rows row told (some (.int tt)) begun good least figure sealed figures due last seals) = .nx (Q ns ds k (some (.int nn)) m w t rows row told (some (.int tt)) (some (.tup (iL bs))) good least figure sealed figures due last seals) := by
  obtain ⟨c, hc⟩ : ∃ c : Nat, (tt % ((nn : Int) + 1)) = (c : Int) := ⟨(tt % ((nn : Int) + 1)).toNat, by have := Int.emod_nonneg tt (show (nn : Int) + 1 ≠ 0 by omega); omega⟩
  have hcl : c ≤ nn := by have := Int.emod_lt_of_pos tt (show (0 : Int) < (nn : Int) + 1 by omega); omega
  let F : D → D := fun d => match d with | .int a => .int (dat ds (10 + tt + a) / (1 + tt) % 10) | _ => .non
  have hlc := lcL_pure (g := gN 6) (t := tYesM) (e := (eOp fMod (eOp fDiv (eCB (c1 gInt) (aCons (eOp fIx (eV 1) (eOp fAdd (eOp fAdd (eC (.int 10)) (eV 10)) (eV 6))) aNil)) (eOp fAdd (eC (.int 1)) (eV 10))) (eC (.int 10)))) (vs := [6])
    (r0 := (Q ns ds k (some (.int nn)) m w t rows row told (some (.int tt)) begun good least figure sealed figures due last seals).r) (m := []) (fun _ => true) F (rng 0 c) [] (by rw [SZv, rng_len]; simp; omega) (fun d hd => by
      obtain ⟨i, hi, rfl⟩ := rng_mem hd
      have ei : ∀ s, fIx (.lst (iL ds)) (.int (10 + tt + (i : Int))) s = .ok (.int (dat ds (10 + tt + (i : Int))), s) := fun s => h.at (by omega) (by omega)
      have hd : 0 < 1 + tt ∧ 1 + tt < 1073741824 := by omega
      refine ⟨_, rfl, _, rfl, fun _ => ⟨(Q ns ds k (some (.int nn)) m w (some (.int i)) rows row told (some (.int tt)) begun good least figure sealed figures due last seals).r, ?_⟩, rfl⟩
      simp [Q, wipeD, ei, hd, F])
  have hf : (rng 0 c).filter (fun _ => true) = rng 0 c := List.filter_eq_self.mpr fun _ _ => rfl
  rw [hf, rng_map (F := F) (f := fun a => dat ds (10 + tt + a) / (1 + tt) % 10) (fun i => rfl)] at hlc
  refine ⟨(List.range c).map fun i : Nat => dat ds (10 + tt + (i : Int)) / (1 + tt) % 10, by simp; omega, fun x hx => ?_, ?_⟩
  · obtain ⟨i, _, rfl⟩ := List.mem_map.mp hx
    exact fig_mem (by omega) (by omega)
  · have hz : (c : Int) < 4611686018427387904 := by omega
    have hp : 0 < (nn : Int) + 1 := by omega
    simp only [Q] at hlc
    simp [t1, Q, hz, hp, hc, hlc]
abbrev good2 (ws : List Int) (m : Int) (n : Nat) (bs : List Int) : List (List Int) := (good1 ws m n).filter fun row => decide (row.take bs.length = bs)
theorem runt2 {ws bs : List Int} {mm : Int} {nn : Nat} (hn : nn ≤ 4) : t2 (Q ns ds k n m w t (some (.lst (rowsD (good1 ws mm nn)))) row told turn (some (.tup (iL bs))) good least figure sealed figures due last seals) = .nx (Q ns ds k n m w t (some (.lst (rowsD (good1 ws mm nn)))) row told turn (some (.tup (iL bs))) (some (.lst (rowsD (good2 ws mm nn bs)))) least figure sealed figures due last seals) := by
  have hlc := lcL_pure (g := gN 8) (t := (tBl (eOp fEq (eCut (eV 8) oNone (oSome (eCB cLen (aCons (eV 11) aNil)))) (eV 11)))) (e := (eV 8)) (vs := [8])
    (r0 := (Q ns ds k n m w t (some (.lst (rowsD (good1 ws mm nn)))) row told turn (some (.tup (iL bs))) good least figure sealed figures due last seals).r) (m := []) (fun d => match d with | .tup l => (match intsD l with | some r => decide (r.take bs.length = bs) | none => false) | _ => false) id (rowsD (good1 ws mm nn)) [] (by
      rw [SZv, rowsD_len]
      have h1 := E_small hn
      have h2 : (good1 ws mm nn).length ≤ (E nn).length := List.length_filter_le _ _
      simp only [List.length_nil]; omega) (fun d hd => by
      obtain ⟨r, hr, rfl⟩ := rowsD_mem hd
      refine ⟨_, rfl, (Q ns ds k n m w t (some (.lst (rowsD (good1 ws mm nn)))) (some (.tup (iL r))) told turn (some (.tup (iL bs))) good least figure sealed figures due last seals), ?_, fun _ => ⟨(Q ns ds k n m w t (some (.lst (rowsD (good1 ws mm nn)))) (some (.tup (iL r))) told turn (some (.tup (iL bs))) good least figure sealed figures due last seals).r, ?_⟩, rfl⟩
      · simp [Q, wipeD, fCut_take]
      · simp [Q])
  rw [rowsD_filter (good1 ws mm nn) _ (fun r => decide (r.take bs.length = bs)) (fun r => by simp)] at hlc
  simp only [Q] at hlc
  simp [t2, Q, hlc]
theorem good_head {ws bs : List Int} {mm : Int} {nn : Nat} (hl : ws.length = nn) (hb : bs.length ≤ nn) (hf : ∀ b ∈ bs, b ∈ figs) : (good2 ws mm nn bs).head? = if canB (ws.drop bs.length) mm (dot ws bs) = true then some (bs ++ greedy mm (ws.drop bs.length) (dot ws bs)) else none := by
  have := find_pre mm bs ws 0 (by omega) hf
  simp only [Int.zero_add, hl] at this
  rw [← this, good2, good1, List.filter_filter, List.head?_filter]
  congr 1
  funext row
  rw [Bool.and_comm]
theorem good_sealed {ws bs row : List Int} {mm : Int} {nn : Nat} (hl : ws.length = nn) (h : row ∈ good2 ws mm nn bs) : sealedB ws mm row = true := by
  simp only [good2, good1, List.mem_filter, decide_eq_true_eq] at h
  obtain ⟨⟨h1, h2⟩, _⟩ := h
  obtain ⟨h3, h4⟩ := E_mem h1
  unfold sealedB inFig
  simp only [Bool.and_eq_true, decide_eq_true_eq, List.all_eq_true]
  exact ⟨⟨by omega, fun f hf => fig_lim (h4 f hf)⟩, h2⟩
theorem isints_run {r : List (Option D)} {l : List Int} (hl : l.length ≤ 1000) (i : Nat) (hi : i < r.length) : lcL (gN i) tYesM (eCall f__law_is_integer (aCons (eV i) aNil)) [i] r (iL l) [] ⟨r, []⟩ = .ok ((l.map fun _ => true).map D.bl, ⟨r, []⟩) := by
  rw [lcL_pure (fun _ => true) (fun _ => .bl true)]
  · have hf : (iL l).filter (fun _ => true) = iL l := List.filter_eq_self.mpr fun _ _ => rfl
    rw [hf]; simp [iL, Function.comp_def]
  · rw [SZv]; simp; omega
  · intro d hd
    obtain ⟨a, _, rfl⟩ := List.mem_map.mp hd
    have li : i < (wipeD r [i]).length := by rw [wipeD_length]; exact hi
    refine ⟨_, rfl, _, rfl, fun _ => ⟨(wipeD r [i]).set i (some (.int a)), ?_⟩, rfl⟩
    have e1 : ((wipeD r [i]).set i (some (.int a)))[i]? = some (some (.int a)) := List.getElem?_set_self li
    simp [e1, isint_ok]
theorem allB_true (l : List Int) : allB (l.map fun _ => true) = true := by simp [allB]
theorem runt {ws : List Int} {mm tt : Int} {nn : Nat} (h : Dr ds) (h0 : 0 ≤ tt) (h1 : tt < 5) (hn : nn ≤ 4) (hl : ws.length = nn) (hw : Sm ws) (hm : 2 ≤ mm) :
    ∃ b g l f s, ((((t1 (Q ns ds k (some (.int nn)) (some (.int mm)) (some (.tup (iL ws))) t (some (.lst (rowsD (good1 ws mm nn)))) row told (some (.int tt)) begun good least figure sealed figures due last seals)).seq t2).seq t3).seq t4).seq t5 =
      .nx (Q ns ds k (some (.int nn)) (some (.int mm)) (some (.tup (iL ws))) t (some (.lst (rowsD (good1 ws mm nn)))) row told (some (.int tt)) b g l f s figures due last seals) := by
  obtain ⟨bs, hb, hf, e1⟩ := runt1 (ns := ns) (k := k) (m := some (.int mm)) (w := some (.tup (iL ws))) (t := t) (rows := some (.lst (rowsD (good1 ws mm nn)))) (row := row) (told := told) (begun := begun) (good := good) (least := least) (figure := figure) (sealed := sealed) (figures := figures) (due := due) (last := last) (seals := seals) h h0 h1 hn
  rw [e1, VL.C.seq_nx, runt2 hn, VL.C.seq_nx]
  have hle := least_ok (bs := bs) hw (by omega) (by omega) (show 0 < mm by omega)
  have hg := good_head (mm := mm) hl hb hf
  cases hc : canB (ws.drop bs.length) mm (dot ws bs) with
  | false =>
    rw [hc, if_neg (by simp)] at hle hg
    have hg0 : good2 ws mm nn bs = [] := List.head?_eq_none_iff.mp hg
    refine ⟨some (.tup (iL bs)), some (.lst (rowsD [])), some .non, figure, sealed, ?_⟩
    rw [hg0]
    have hr0 : rowsD [] = [] := rfl
    simp [t3, t4, t5, Q, hle, hr0]
  | true =>
    rw [hc, if_pos rfl] at hle hg
    obtain ⟨tl, hg0⟩ : ∃ tl, good2 ws mm nn bs = (bs ++ greedy mm (ws.drop bs.length) (dot ws bs)) :: tl := by
      cases hgg : good2 ws mm nn bs with
      | nil => rw [hgg] at hg; cases hg
      | cons a tl =>
        rw [hgg] at hg
        have : a = bs ++ greedy mm (ws.drop bs.length) (dot ws bs) := Option.some.inj hg
        exact ⟨tl, by rw [this]⟩
    have hmem : (bs ++ greedy mm (ws.drop bs.length) (dot ws bs)) ∈ good2 ws mm nn bs := by rw [hg0]; simp
    have hs := good_sealed hl hmem
    have hlen : (bs ++ greedy mm (ws.drop bs.length) (dot ws bs)).length ≤ 1000 := by
      simp only [good2, good1, List.mem_filter] at hmem
      rw [(E_mem hmem.1.1).1]; omega
    generalize (bs ++ greedy mm (ws.drop bs.length) (dot ws bs)) = ls at *
    have hlc := isints_run (r := (Q ns ds k (some (.int nn)) (some (.int mm)) (some (.tup (iL ws))) t (some (.lst (rowsD (good1 ws mm nn)))) row told (some (.int tt)) (some (.tup (iL bs))) (some (.lst (rowsD (good2 ws mm nn bs)))) (some (.tup (iL ls))) figure sealed figures due last seals).r) hlen 14 (by simp [Q])
    have e0 : ∀ s, fIx (.lst (rowsD (ls :: tl))) (.int 0) s = .ok (.tup (iL ls), s) := fun s => fIxL (k := 0) (by simp [rowsD])
    refine ⟨some (.tup (iL bs)), some (.lst (rowsD (ls :: tl))), some (.tup (iL ls)), figure, some (.bl true), ?_⟩
    rw [hg0] at hlc ⊢
    simp only [Q] at hlc
    have hlr : ¬ rowsD (ls :: tl) = [] := by simp [rowsD]
    have hbl : blsD (ls.map (D.bl ∘ fun _ => true)) = some (ls.map fun _ => true) := by rw [← List.map_map]; exact blsD_map _
    have hal : allB (ls.map fun _ => true) = true := allB_true ls
    simp [t3, t4, t5, Q, hle, hlr, hlc, hbl, hal, e0, -List.map_const, -List.map_const_fun, sealed_ok hw (show ws.length ≤ 1000000 by omega) (show 0 < mm by omega), hs]
end
end K45
namespace K45
open PySem L2 VL

theorem seq_assoc (x : C) (k l : S → C) : (x.seq k).seq l = x.seq fun s => (k s).seq l := by cases x <;> rfl
theorem seq_two (x : C) (k l : MS) : x.seq (sSeq k l) = (x.seq k).seq l := (seq_assoc x k l).symm
def s8 : MS := (sAsg (eCB (c1 gTuple) (aCons (eFrz (fLc (iRg1M (aCons (eOp fSub (eV 3) (eC (.int 1))) aNil)) (gN 6) tYesM (eOp fMod (eCB (c1 gInt) (aCons (eOp fIx (eV 1) (eOp fAdd (eC (.int 16)) (eV 6))) aNil)) (eC (.int 10))) [6])) aNil)) (gN 16))
def s9 : MS := (sAsg (eFrz (fLc (iRg1M (aCons (eC (.int 10)) aNil)) (gN 18) (tBl (eOp fEq (eCall f__law_rest (aCons (eV 5) (aCons (eV 4) (aCons (eOp fAdd (eV 16) (eTup (aCons (eV 18) aNil))) aNil)))) (eC (.int 0)))) (eV 18) [18])) (gN 17))
def s10 : MS := (sAsg (eCall f_seals_of (aCons (eV 5) (aCons (eV 4) (aCons (eV 16) aNil)))) (gN 19))
def s11 : MS := (sIf (tOrM (tNotM (tTruN (eIsi "tuple" (eV 19)))) (tOrM (tNotM (tTruN (eCB (c1 (gAllL allB)) (aCons (eFrz (fLc (iSeqM (eV 19)) (gN 18) tYesM (eCall f__law_is_integer (aCons (eV 18) aNil)) [18])) aNil)))) (tBl (eOp fNe (eFrz (fCB gList (aCons (eV 19) aNil))) (eV 17))))) (sRet (eC (.bl false))) sNil)
section
variable {ns ds : List Int} {k n m w t rows row told turn begun good least figure sealed figures due last seals : Option D}
theorem run8 (h : Dr ds) {nn : Nat} (h1 : 1 ≤ nn) (hn : nn ≤ 4) : ∃ fs : List Int, fs.length + 1 = nn ∧ (∀ f ∈ fs, 0 ≤ f ∧ f < 10) ∧ s8 (Q ns ds k (some (.int nn)) m w t rows row told turn begun good least figure sealed figures due last seals) = .nx (Q ns ds k (some (.int nn)) m w t rows row told turn begun good least figure sealed (some (.tup (iL fs))) due last seals) := by
  obtain ⟨c, hc⟩ : ∃ c : Nat, ((nn : Int) - 1) = (c : Int) := ⟨nn - 1, by omega⟩
  let F : D → D := fun d => match d with | .int a => .int (dat ds (16 + a) % 10) | _ => .non
  have hlc := lcL_pure (g := gN 6) (t := tYesM) (e := (eOp fMod (eCB (c1 gInt) (aCons (eOp fIx (eV 1) (eOp fAdd (eC (.int 16)) (eV 6))) aNil)) (eC (.int 10)))) (vs := [6])
    (r0 := (Q ns ds k (some (.int nn)) m w t rows row told turn begun good least figure sealed figures due last seals).r) (m := []) (fun _ => true) F (rng 0 c) [] (by rw [SZv, rng_len]; simp; omega) (fun d hd => by
      obtain ⟨i, hi, rfl⟩ := rng_mem hd
      have ei : ∀ s, fIx (.lst (iL ds)) (.int (16 + (i : Int))) s = .ok (.int (dat ds (16 + (i : Int))), s) := fun s => h.at (by omega) (by omega)
      refine ⟨_, rfl, _, rfl, fun _ => ⟨(Q ns ds k (some (.int nn)) m w (some (.int i)) rows row told turn begun good least figure sealed figures due last seals).r, ?_⟩, rfl⟩
      simp [Q, wipeD, ei, F])
  have hf : (rng 0 c).filter (fun _ => true) = rng 0 c := List.filter_eq_self.mpr fun _ _ => rfl
  rw [hf, rng_map (F := F) (f := fun a => dat ds (16 + a) % 10) (fun i => rfl)] at hlc
  refine ⟨(List.range c).map fun i : Nat => dat ds (16 + (i : Int)) % 10, by simp; omega, fun x hx => ?_, ?_⟩
  · obtain ⟨i, _, rfl⟩ := List.mem_map.mp hx
    omega
  · have hz : (c : Int) < 4611686018427387904 := by omega
    simp only [Q] at hlc
    simp [s8, Q, hz, hc, hlc]
theorem run9 {ws fs : List Int} {mm : Int} (hl : ws.length ≤ 4) (hfl : fs.length ≤ 4) (hw : Sm ws) (hm : 2 ≤ mm) : s9 (Q ns ds k n (some (.int mm)) (some (.tup (iL ws))) t rows row told turn begun good least figure sealed (some (.tup (iL fs))) due last seals) = .nx (Q ns ds k n (some (.int mm)) (some (.tup (iL ws))) t rows row told turn begun good least figure sealed (some (.tup (iL fs))) (some (.lst (iL (figs.filter fun f => decide (dot ws (fs ++ [f]) % mm = 0))))) last seals) := by
  have hlc := lcL_pure (g := gN 18) (t := (tBl (eOp fEq (eCall f__law_rest (aCons (eV 5) (aCons (eV 4) (aCons (eOp fAdd (eV 16) (eTup (aCons (eV 18) aNil))) aNil)))) (eC (.int 0))))) (e := (eV 18)) (vs := [18])
    (r0 := (Q ns ds k n (some (.int mm)) (some (.tup (iL ws))) t rows row told turn begun good least figure sealed (some (.tup (iL fs))) due last seals).r) (m := []) (fun d => match d with | .int f => decide (dot ws (fs ++ [f]) % mm = 0) | _ => false) id (iL figs) [] (by rw [SZv]; simp [figs]) (fun d hd => by
      obtain ⟨f, _, rfl⟩ := List.mem_map.mp hd
      have h3 : 1 ≤ SZ := by rw [SZv]; omega
      have h4 : fs.length + 1 ≤ SZ := by rw [SZv]; omega
      refine ⟨_, rfl, (Q ns ds k n (some (.int mm)) (some (.tup (iL ws))) t rows row told turn begun good least figure sealed (some (.tup (iL fs))) due (some (.int f)) seals), ?_, fun _ => ⟨(Q ns ds k n (some (.int mm)) (some (.tup (iL ws))) t rows row told turn begun good least figure sealed (some (.tup (iL fs))) due (some (.int f)) seals).r, ?_⟩, rfl⟩
      · simp [Q, wipeD, h3, h4, law_rest_ok hw (show ws.length ≤ 1000000 by omega) (show 0 < mm by omega)]
      · simp [Q])
  have hf : ((iL figs).filter (fun d => match d with | .int f => decide (dot ws (fs ++ [f]) % mm = 0) | _ => false)).map id = iL (figs.filter fun f => decide (dot ws (fs ++ [f]) % mm = 0)) := by
    simp [iL, List.filter_map, Function.comp_def]
  rw [hf] at hlc
  simp only [Q] at hlc
  simp [s9, Q, rng10, hlc]
theorem run10 {ws fs : List Int} {mm : Int} (hl : ws.length ≤ 4) (hfl : fs.length + 1 = ws.length) (hff : ∀ f ∈ fs, 0 ≤ f ∧ f < 10) (hw : Sm ws) (hm : 2 ≤ mm) :
    ∃ q, (s10 (Q ns ds k n (some (.int mm)) (some (.tup (iL ws))) t rows row told turn begun good least figure sealed (some (.tup (iL fs))) (some (.lst (iL (figs.filter fun f => decide (dot ws (fs ++ [f]) % mm = 0))))) last seals)).seq s11 = .nx (Q ns ds k n (some (.int mm)) (some (.tup (iL ws))) t rows row told turn begun good least figure sealed (some (.tup (iL fs))) (some (.lst (iL (figs.filter fun f => decide (dot ws (fs ++ [f]) % mm = 0))))) last q) := by
  have hse := seals_ok (fs := fs) hw (by omega) (by omega) (show 0 < mm by omega)
  have he : (figs.filter fun f => sealedB ws mm (fs ++ [f])) = figs.filter fun f => decide (dot ws (fs ++ [f]) % mm = 0) := by
    refine List.filter_congr fun f hf => ?_
    have h1 : (fs ++ [f]).length = ws.length := by simp; omega
    have h2 : inFig (fs ++ [f]) = true := by
      simp only [inFig, List.all_eq_true, List.mem_append, List.mem_singleton, Bool.and_eq_true, decide_eq_true_eq]
      rintro x (hx | rfl)
      · exact hff x hx
      · exact fig_lim hf
    simp [sealedB, h1, h2]
  rw [he] at hse
  have hll : (figs.filter fun f => decide (dot ws (fs ++ [f]) % mm = 0)).length ≤ 1000 := by
    have := List.length_filter_le (fun f => decide (dot ws (fs ++ [f]) % mm = 0)) figs
    have h10 : figs.length = 10 := rfl
    omega
  generalize (figs.filter fun f => decide (dot ws (fs ++ [f]) % mm = 0)) = ls at *
  have hlc := isints_run (r := (Q ns ds k n (some (.int mm)) (some (.tup (iL ws))) t rows row told turn begun good least figure sealed (some (.tup (iL fs))) (some (.lst (iL ls))) last (some (.tup (iL ls)))).r) hll 18 (by simp [Q])
  simp only [Q] at hlc
  have hbl : blsD (ls.map (D.bl ∘ fun _ => true)) = some (ls.map fun _ => true) := by rw [← List.map_map]; exact blsD_map _
  have hal : allB (ls.map fun _ => true) = true := allB_true ls
  refine ⟨some (.tup (iL ls)), ?_⟩
  simp [s10, s11, Q, hse, hlc, hbl, hal, -List.map_const, -List.map_const_fun]
end
def LT : MS := sSeq t1 (sSeq t2 (sSeq t3 (sSeq t4 t5)))
def LB : MS := sSeq s1 (sSeq s2 (sSeq s3 (sSeq s4 (sSeq s5 (sSeq s6 (sSeq (sFor (iRg1M (aCons (eC (.int 5)) aNil)) (gN 10) LT) (sSeq s8 (sSeq s9 (sSeq s10 s11)))))))))
def TI (ns ds : List Int) (k : Option D) (nn : Nat) (mm : Int) (ws : List Int) (told figures due last seals : Option D) (_ : Nat) (s : S) : Prop := ∃ t row turn begun good least figure sealed, s = Q ns ds k (some (.int nn)) (some (.int mm)) (some (.tup (iL ws))) t (some (.lst (rowsD (good1 ws mm nn)))) row told turn begun good least figure sealed figures due last seals
def OI (ns ds : List Int) (_ : Nat) (s : S) : Prop := ∃ k n m w t rows row told turn begun good least figure sealed figures due last seals, s = Q ns ds k n m w t rows row told turn begun good least figure sealed figures due last seals
theorem rng5 : rng 0 5 = [.int 0, .int 1, .int 2, .int 3, .int 4] := rfl
theorem rng2 : rng 0 2 = [.int 0, .int 1] := rfl
theorem rng_at {n i : Nat} {d : D} (h : (rng 0 n)[i]? = some d) : i < n ∧ d = .int (i : Int) := by
  have hi : i < n := by
    have := (List.getElem?_eq_some_iff.mp h).1
    simpa [rng] using this
  simp [rng, hi] at h
  exact ⟨hi, h.symm⟩
theorem body_run {ns ds : List Int} (h : Dr ds) {kk : Int} (h0 : 0 ≤ kk) (h1 : kk < 2) (n m w t rows row told turn begun good least figure sealed figures due last seals : Option D) : ∃ s', LB (Q ns ds (some (.int kk)) n m w t rows row told turn begun good least figure sealed figures due last seals) = .nx s' ∧ OI ns ds 0 s' := by
  obtain ⟨nn, n1, n4, e1⟩ := run1 (ns := ns) (n := n) (m := m) (w := w) (t := t) (rows := rows) (row := row) (told := told) (turn := turn) (begun := begun) (good := good) (least := least) (figure := figure) (sealed := sealed) (figures := figures) (due := due) (last := last) (seals := seals) h h0 h1
  obtain ⟨mm, m2, e2⟩ := run2 (ns := ns) (n := some (.int nn)) (m := m) (w := w) (t := t) (rows := rows) (row := row) (told := told) (turn := turn) (begun := begun) (good := good) (least := least) (figure := figure) (sealed := sealed) (figures := figures) (due := due) (last := last) (seals := seals) h h0 h1
  obtain ⟨ws, hl, hw, e3⟩ := run3 (ns := ns) (m := some (.int mm)) (w := w) (t := t) (rows := rows) (row := row) (told := told) (turn := turn) (begun := begun) (good := good) (least := least) (figure := figure) (sealed := sealed) (figures := figures) (due := due) (last := last) (seals := seals) h h0 h1 n4
  have e4 := run4 (ns := ns) (ds := ds) (k := some (.int kk)) (t := t) (rows := rows) (row := row) (told := told) (turn := turn) (begun := begun) (good := good) (least := least) (figure := figure) (sealed := sealed) (figures := figures) (due := due) (last := last) (seals := seals) n4 hl hw m2
  have e5 := run56 (ns := ns) (ds := ds) (k := some (.int kk)) (t := t) (row := row) (told := told) (turn := turn) (begun := begun) (good := good) (least := least) (figure := figure) (sealed := sealed) (figures := figures) (due := due) (last := last) (seals := seals) n4 hl hw m2
  obtain ⟨s', e7, t', row', turn', begun', good', least', figure', sealed', rfl⟩ := forL_inv (g := gN 10) (b := LT) (TI ns ds (some (.int kk)) nn mm ws (some (.int ((good1 ws mm nn).length : Int))) figures due last seals) (rng 0 5) 0 (Q ns ds (some (.int kk)) (some (.int nn)) (some (.int mm)) (some (.tup (iL ws))) t (some (.lst (rowsD (good1 ws mm nn)))) row (some (.int ((good1 ws mm nn).length : Int))) turn begun good least figure sealed figures due last seals)
    ⟨t, row, turn, begun, good, least, figure, sealed, rfl⟩ (by
      rintro i d s hd ⟨t, row, turn, begun, good, least, figure, sealed, rfl⟩
      obtain ⟨hi, rfl⟩ := rng_at hd
      obtain ⟨b, g, l, f, sd, e⟩ := runt (ns := ns) (k := some (.int kk)) (t := t) (row := row) (told := some (.int ((good1 ws mm nn).length : Int))) (begun := begun) (good := good) (least := least) (figure := figure) (sealed := sealed) (figures := figures) (due := due) (last := last) (seals := seals) (tt := (i : Int)) h (by omega) (by omega) n4 hl hw m2
      refine ⟨_, rfl, _, .inl ?_, t, row, some (.int i), b, g, l, f, sd, rfl⟩
      rw [← e]
      simp only [seq_assoc]
      rfl)
  obtain ⟨fs, f1, f2, e8⟩ := run8 (ns := ns) (k := some (.int kk)) (m := some (.int mm)) (w := some (.tup (iL ws))) (t := t') (rows := some (.lst (rowsD (good1 ws mm nn)))) (row := row') (told := some (.int ((good1 ws mm nn).length : Int))) (turn := turn') (begun := begun') (good := good') (least := least') (figure := figure') (sealed := sealed') (figures := figures) (due := due) (last := last) (seals := seals) h n1 n4
  have e9 := run9 (ns := ns) (ds := ds) (k := some (.int kk)) (n := some (.int nn)) (t := t') (rows := some (.lst (rowsD (good1 ws mm nn)))) (row := row') (told := some (.int ((good1 ws mm nn).length : Int))) (turn := turn') (begun := begun') (good := good') (least := least') (figure := figure') (sealed := sealed') (due := due) (last := last) (seals := seals) (ws := ws) (fs := fs) (by omega) (by omega) hw m2
  obtain ⟨q, e10⟩ := run10 (ns := ns) (ds := ds) (k := some (.int kk)) (n := some (.int nn)) (t := t') (rows := some (.lst (rowsD (good1 ws mm nn)))) (row := row') (told := some (.int ((good1 ws mm nn).length : Int))) (turn := turn') (begun := begun') (good := good') (least := least') (figure := figure') (sealed := sealed') (last := last) (seals := seals) (ws := ws) (fs := fs) (by omega) (by omega) f2 hw m2
  refine ⟨_, Eq.trans ?_ e10, ⟨_, _, _, _, _, _, _, _, _, _, _, _, _, _, _, _, _, _, rfl⟩⟩
  rw [LB, x_sSeq, e1, VL.C.seq_nx, x_sSeq, e2, VL.C.seq_nx, x_sSeq, e3, VL.C.seq_nx, x_sSeq, e4, VL.C.seq_nx, x_sSeq, seq_two, e5, VL.C.seq_nx, x_sSeq]
  simp only [x_sFor, x_iRg1M, x_aCons, x_eC, x_aNil, VL.R.bind_ok, x_okR]
  have hdec : decide (-(2 : Int) ^ 62 ≤ 5 ∧ (5 : Int) < 2 ^ 62) = true := by decide
  rw [hdec]
  simp only [if_true, VL.R.to_ok, show (5 : Int).toNat = 5 from rfl]
  rw [e7, VL.C.seq_nx, x_sSeq, e8, VL.C.seq_nx, x_sSeq, e9, VL.C.seq_nx, x_sSeq]
theorem law_true (ns : List Int) (h : ns.length ≤ 63) : f_law [.scr ns] = .ok (.bl true) := by
  obtain ⟨c, hc⟩ := cell_ok ns 0 h (by omega)
  obtain ⟨ds, d1, d2, hd⟩ := draws_ok c 24 (by omega)
  have hD : Dr ds := ⟨d1, d2⟩
  have hc' : f__law_cell [.scr ns, .int 0] = .ok (.int c) := hc
  have hd' : f__law_draws [.int c, .int 24] = .ok (.lst (iL ds)) := hd
  obtain ⟨s', e, k, n, m, w, t, rows, row, told, turn, begun, good, least, figure, sealed, figures, due, last, seals, rfl⟩ := forL_inv (g := gN 2) (b := LB) (OI ns ds) (rng 0 2) 0 (Q ns ds none none none none none none none none none none none none none none none none none none)
    ⟨_, _, _, _, _, _, _, _, _, _, _, _, _, _, _, _, _, _, rfl⟩ (by
      rintro i d s hd ⟨k, n, m, w, t, rows, row, told, turn, begun, good, least, figure, sealed, figures, due, last, seals, rfl⟩
      obtain ⟨hi, rfl⟩ := rng_at hd
      obtain ⟨s', e, hO⟩ := body_run (ns := ns) hD (kk := (i : Int)) (by omega) (by omega) n m w t rows row told turn begun good least figure sealed figures due last seals
      exact ⟨_, rfl, s', .inl e, hO⟩)
  refine pure_rt rfl ?_ (by simp)
  have hm : m_law = (sSeq (sAsg (eCall f__law_draws (aCons (eCall f__law_cell (aCons (eV 0) (aCons (eC (.int 0)) aNil))) (aCons (eC (.int 24)) aNil))) (gN 1)) (sSeq (sFor (iRg1M (aCons (eC (.int 2)) aNil)) (gN 2) LB) (sRet (eC (.bl true))))) := rfl
  rw [hm]
  simp only [Q] at e
  simp [hc', hd', e]
end K45
namespace K45
open PySem PySem.Spec PyProof.Rows L2 VL
section
variable {P : Program} {w : World} {K : PySem.W.Frag} {mg : Str → Option Value} {base : Heap} {B : Bs} {f : Addr} {fd : FuncData}
theorem sc_rest_of : FnScope N_rest_of P_rest_of (defScope st_rest_of) := ⟨rfl, rfl, rfl, by decide +kernel, rfl, by decide +kernel, by decide +kernel⟩
theorem ok_rest_of (F : FnD K "rest_of" st_rest_of f fd) (f_sum : mg "sum" = none) (f_zip : mg "zip" = none) : FnP P w K mg base B 1 f fd P_rest_of f_rest_of := by
  refine def_pure (k := 0) (N := N_rest_of) (m := m_rest_of) F sc_rest_of fun cdv A outer s H E hc hr => ?_
  apply Exists.intro
  exact (vss_one (vs_ret (ve_mod (ve_cb (cr_sum rfl) semC_sum f_sum vb_sum (va_cons (ve_frz (vf_lc (own := [("weight", 3), ("figure", 4)]) rfl sc_rest_of.nd (vi_zip (by rfl) f_zip (va_cons (ve_v 0) (va_cons (ve_v 2) va_nil))) (blk_ok (N := N_rest_of) (sc := defScope st_rest_of) rfl ⟨by decide +kernel, by decide +kernel, by decide +kernel, by decide +kernel⟩) (fun _ _ _ _ _ => (vg_tup rfl (vgs_cons (vg_name 3 sc_rest_of.nd) (vgs_cons (vg_name 4 sc_rest_of.nd) vgs_nil gN_ok) gN_ok) (len_cons gN_ok (len_cons gN_ok len_nil)))) (gin_tup (gin_cons gin_name (gin_cons gin_name gin_nil gmono_name gmono_nil) gmono_name (gmono_cons gmono_name gmono_nil))) (gmono_tup (gmono_cons gmono_name (gmono_cons gmono_name gmono_nil))) (fun _ _ _ _ _ => vts_nil) (fun _ _ _ _ _ => (ve_c (K := K) (ve_mul (ve_v 3) (ve_v 4)))) s)) va_nil)) (ve_v 1))))
theorem sc_is_sealed : FnScope N_is_sealed P_is_sealed (defScope st_is_sealed) := ⟨rfl, rfl, rfl, by decide +kernel, rfl, by decide +kernel, by decide +kernel⟩
theorem ok_is_sealed (F : FnD K "is_sealed" st_is_sealed f fd) (f_all : mg "all" = none) (f_len : mg "len" = none) (c_rest_of : CallOk P w K mg base B "rest_of" 1 P_rest_of f_rest_of) (ht : ∃ c Pt, fd.code = .ref c ∧ GxR.TabB base mg c Pt ∧ B.Tb Pt) : FnP P w K mg base B 2 f fd P_is_sealed f_is_sealed := by
  obtain ⟨cad, Pt, hcr, TB, hPt⟩ := ht
  refine def_pure (k := 1) (N := N_is_sealed) (m := m_is_sealed) F sc_is_sealed fun cdv A outer s H E hc hr => ?_
  have hcd := hc.symm.trans hcr
  apply Exists.intro
  exact (vss_cons (vs_if (vt_w (vw_or (vt_cmp (op_neA (hu 64 hr)) semR_ne (ve_cb call_lenA semC_len f_len vb_len (va_cons (ve_v 2) va_nil)) (ve_cb call_lenA semC_len f_len vb_len (va_cons (ve_v 0) va_nil)) (nomark _)) (vw_or1 (vt_not (vt_tru (ve_all hr (by rfl) f_all vb_all TB hPt hcd (gen_sc rfl rfl (by decide +kernel) rfl rfl (by decide +kernel)) (ve_v 2) (elt_range rfl rfl))))))) (vss_one (vs_ret ve_bl)) vss_nil)
      (vss_one (vs_ret (ve_cmp (op_eqA (hu 64 hr)) semR_eq (ve_own_call c_rest_of hr (by decide) (by rfl) tk_of (va_cons (ve_v 0) (va_cons (ve_v 1) (va_cons (ve_v 2) va_nil)))) ve_int (nomark _)))))
theorem sc_seals_of : FnScope N_seals_of P_seals_of (defScope st_seals_of) := ⟨rfl, rfl, rfl, by decide +kernel, rfl, by decide +kernel, by decide +kernel⟩
theorem ok_seals_of (F : FnD K "seals_of" st_seals_of f fd) (f_range : mg "range" = none) (f_tuple : mg "tuple" = none) (c_is_sealed : CallOk P w K mg base B "is_sealed" 2 P_is_sealed f_is_sealed) : FnP P w K mg base B 3 f fd P_seals_of f_seals_of := by
  refine def_pure (k := 2) (N := N_seals_of) (m := m_seals_of) F sc_seals_of fun cdv A outer s H E hc hr => ?_
  apply Exists.intro
  exact (vss_one (vs_ret (ve_ct call_tuple_of semC_tuple f_tuple vb_tuple (va_cons (ve_frz (vf_lc (own := [("last", 3)]) rfl sc_seals_of.nd (vi_range1 (by rfl) f_range (va_cons ve_int va_nil)) (blk_ok (N := N_seals_of) (sc := defScope st_seals_of) rfl ⟨by decide +kernel, by decide +kernel, by decide +kernel, by decide +kernel⟩) (fun _ _ _ _ _ => (vg_name 3 sc_seals_of.nd)) gin_name gmono_name (fun _ _ _ _ _ => (vts_c (K := K) (vts_one (vt_tru (ve_own_call c_is_sealed hr (by decide) (by rfl) takes0 (va_cons (ve_v 0) (va_cons (ve_v 1) (va_cons (ve_add (ve_ct call_tuple_of semC_tuple f_tuple vb_tuple (va_cons (ve_v 2) va_nil)) (ve_tup (va_cons (ve_v 3) va_nil))) va_nil)))))))) (fun _ _ _ _ _ => (ve_c (K := K) (ve_v 3))) s)) va_nil))))
theorem sc_number_sealed : FnScope N_number_sealed P_number_sealed (defScope st_number_sealed) := ⟨rfl, rfl, rfl, by decide +kernel, rfl, by decide +kernel, by decide +kernel⟩
theorem ok_number_sealed (F : FnD K "number_sealed" st_number_sealed f fd) (f_range : mg "range" = none) : FnP P w K mg base B 1 f fd P_number_sealed f_number_sealed := by
  refine def_pure (k := 0) (N := N_number_sealed) (m := m_number_sealed) F sc_number_sealed fun cdv A outer s H E hc hr => ?_
  apply Exists.intro
  exact (vss_cons (vs_set 2 sc_number_sealed.nd (ve_frz (vf_dct1 ve_int ve_int)))
      (vss_cons (vs_for PassesOwn.leaving rfl (vi_seq (ve_v 0)) (vg_name 3 sc_number_sealed.nd) gN_ok (vss_cons (vs_set 4 sc_number_sealed.nd (ve_own vf_dctN))
      (vss_cons (vs_forItems 2 PassesOwn.leaving rfl (ve_take 2) (vg_tup rfl (vgs_cons (vg_name 5 sc_number_sealed.nd) (vgs_cons (vg_name 6 sc_number_sealed.nd) vgs_nil gN_ok) gN_ok) (len_cons gN_ok (len_cons gN_ok len_nil))) (gTupM_ok (gsCons_ok gN_ok (gsCons_ok gN_ok gsNil_ok))) (vss_one (vs_for PassesOwn.leaving rfl (vi_range1 (by rfl) f_range (va_cons ve_int va_nil)) (vg_name 7 sc_number_sealed.nd) gN_ok (vss_cons (vs_set 8 sc_number_sealed.nd (ve_mod (ve_add (ve_v 5) (ve_mul (ve_v 3) (ve_v 7))) (ve_v 1)))
      (vss_one (vs_asg (ve_add (ve_get2 (hu 1 hr) (ve_v 4) (ve_v 8) ve_int ⟨rfl, rfl, rfl, rfl⟩) (ve_v 6)) (vg_set (hu 1 hr) (ve_v 4) (ve_v 8)) gset_ok))))))
      (vss_one (vs_set 2 sc_number_sealed.nd (ve_v 4))))))
      (vss_one (vs_ret (ve_get2 (hu 1 hr) (ve_v 2) ve_int ve_int ⟨rfl, rfl, rfl, rfl⟩)))))
theorem sc_can_be_sealed : FnScope N_can_be_sealed P_can_be_sealed (defScope st_can_be_sealed) := ⟨rfl, rfl, rfl, by decide +kernel, rfl, by decide +kernel, by decide +kernel⟩
theorem ok_can_be_sealed (F : FnD K "can_be_sealed" st_can_be_sealed f fd) (f_range : mg "range" = none) : FnP P w K mg base B 1 f fd P_can_be_sealed f_can_be_sealed := by
  refine def_pure (k := 0) (N := N_can_be_sealed) (m := m_can_be_sealed) F sc_can_be_sealed fun cdv A outer s H E hc hr => ?_
  apply Exists.intro
  exact (vss_cons (vs_set 3 sc_can_be_sealed.nd (ve_frz (vf_dct1 (ve_mod (ve_v 2) (ve_v 1)) ve_bl)))
      (vss_cons (vs_for PassesOwn.leaving rfl (vi_seq (ve_v 0)) (vg_name 4 sc_can_be_sealed.nd) gN_ok (vss_cons (vs_set 5 sc_can_be_sealed.nd (ve_own vf_dctN))
      (vss_cons (vs_forKeys 3 PassesOwn.leaving rfl (ve_take 3) (vg_name 6 sc_can_be_sealed.nd) gN_ok (vss_one (vs_for PassesOwn.leaving rfl (vi_range1 (by rfl) f_range (va_cons ve_int va_nil)) (vg_name 7 sc_can_be_sealed.nd) gN_ok (vss_one (vs_asg ve_bl (vg_set (hu 1 hr) (ve_v 5) (ve_mod (ve_add (ve_v 6) (ve_mul (ve_v 4) (ve_v 7))) (ve_v 1))) gset_ok)))))
      (vss_one (vs_set 3 sc_can_be_sealed.nd (ve_v 5))))))
      (vss_one (vs_ret (ve_cmp (op_inA (hu 65 hr)) semR_in ve_int (ve_v 3) (by rfl))))))
theorem sc_least_sealed : FnScope N_least_sealed P_least_sealed (defScope st_least_sealed) := ⟨rfl, rfl, rfl, by decide +kernel, rfl, by decide +kernel, by decide +kernel⟩
theorem ok_least_sealed (F : FnD K "least_sealed" st_least_sealed f fd) (f_len : mg "len" = none) (f_range : mg "range" = none) (f_sum : mg "sum" = none) (f_tuple : mg "tuple" = none) (f_zip : mg "zip" = none) (c_can_be_sealed : CallOk P w K mg base B "can_be_sealed" 1 P_can_be_sealed f_can_be_sealed) : FnP P w K mg base B 2 f fd P_least_sealed f_least_sealed := by
  refine def_pure (k := 1) (N := N_least_sealed) (m := m_least_sealed) F sc_least_sealed fun cdv A outer s H E hc hr => ?_
  apply Exists.intro
  exact (vss_cons (vs_set 3 sc_least_sealed.nd (ve_cb (cr_sum rfl) semC_sum f_sum vb_sum (va_cons (ve_frz (vf_lc (own := [("weight", 4), ("figure", 5)]) rfl sc_least_sealed.nd (vi_zip (by rfl) f_zip (va_cons (ve_v 0) (va_cons (ve_v 2) va_nil))) (blk_ok (N := N_least_sealed) (sc := defScope st_least_sealed) rfl ⟨by decide +kernel, by decide +kernel, by decide +kernel, by decide +kernel⟩) (fun _ _ _ _ _ => (vg_tup rfl (vgs_cons (vg_name 4 sc_least_sealed.nd) (vgs_cons (vg_name 5 sc_least_sealed.nd) vgs_nil gN_ok) gN_ok) (len_cons gN_ok (len_cons gN_ok len_nil)))) (gin_tup (gin_cons gin_name (gin_cons gin_name gin_nil gmono_name gmono_nil) gmono_name (gmono_cons gmono_name gmono_nil))) (gmono_tup (gmono_cons gmono_name (gmono_cons gmono_name gmono_nil))) (fun _ _ _ _ _ => vts_nil) (fun _ _ _ _ _ => (ve_c (K := K) (ve_mul (ve_v 4) (ve_v 5)))) s)) va_nil)))
      (vss_cons (vs_if (vt_not (vt_tru (ve_own_call c_can_be_sealed hr (by decide) (by rfl) tk_of (va_cons (ve_cut (ve_v 0) (vo_some (ve_cb call_lenA semC_len f_len vb_len (va_cons (ve_v 2) va_nil))) vo_none) (va_cons (ve_v 1) (va_cons (ve_v 3) va_nil)))))) (vss_one (vs_ret ve_non)) vss_nil)
      (vss_cons (vs_set 6 sc_least_sealed.nd (ve_ct call_tuple_of semC_tuple f_tuple vb_tuple (va_cons (ve_v 2) va_nil)))
      (vss_cons (vs_for PassesOwn.leaving rfl (vi_range2 (by rfl) f_range (va_cons (ve_cb call_lenA semC_len f_len vb_len (va_cons (ve_v 2) va_nil)) (va_cons (ve_cb call_lenA semC_len f_len vb_len (va_cons (ve_v 0) va_nil)) va_nil))) (vg_name 7 sc_least_sealed.nd) gN_ok (vss_one (vs_for PassesOwn.leaving rfl (vi_range1 (by rfl) f_range (va_cons ve_int va_nil)) (vg_name 5 sc_least_sealed.nd) gN_ok (vss_cons (vs_set 8 sc_least_sealed.nd (ve_add (ve_v 3) (ve_mul (ve_ix (hu 1 hr) (ve_v 0) (ve_v 7)) (ve_v 5))))
      (vss_one (vs_if (vt_tru (ve_own_call c_can_be_sealed hr (by decide) (by rfl) tk_of (va_cons (ve_cut (ve_v 0) (vo_some (ve_add (ve_v 7) ve_int)) vo_none) (va_cons (ve_v 1) (va_cons (ve_v 8) va_nil))))) (vss_cons (vs_set 6 sc_least_sealed.nd (ve_add (ve_v 6) (ve_tup (va_cons (ve_v 5) va_nil))))
      (vss_cons (vs_set 3 sc_least_sealed.nd (ve_v 8))
      (vss_one vs_break))) vss_nil))))))
      (vss_one (vs_ret (ve_v 6)))))))
theorem sc__law_cell : FnScope N__law_cell P__law_cell (defScope st__law_cell) := ⟨rfl, rfl, rfl, by decide +kernel, rfl, by decide +kernel, by decide +kernel⟩
theorem ok__law_cell (F : FnD K "_law_cell" st__law_cell f fd) (f_len : mg "len" = none) : FnP P w K mg base B 1 f fd P__law_cell f__law_cell := by
  refine def_pure (k := 0) (N := N__law_cell) (m := m__law_cell) F sc__law_cell fun cdv A outer s H E hc hr => ?_
  apply Exists.intro
  exact (vss_cons (vs_if (vt_cmp op_ltA semR_cmp (ve_v 1) (ve_cb call_lenA semC_len f_len vb_len (va_cons (ve_v 0) va_nil)) (nomark _)) (vss_one (vs_ret (ve_ix (hu 1 hr) (ve_v 0) (ve_v 1)))) vss_nil)
      (vss_one (vs_ret (ve_add (ve_mul ve_int (ve_v 1)) ve_int))))
theorem sc__law_draws : FnScope N__law_draws P__law_draws (defScope st__law_draws) := ⟨rfl, rfl, rfl, by decide +kernel, rfl, by decide +kernel, by decide +kernel⟩
theorem ok__law_draws (F : FnD K "_law_draws" st__law_draws f fd) (f_abs : mg "abs" = none) (f_int : mg "int" = none) (f_range : mg "range" = none) : FnP P w K mg base B 1 f fd P__law_draws f__law_draws := by
  refine def_pure (k := 0) (N := N__law_draws) (m := m__law_draws) F sc__law_draws fun cdv A outer s H E hc hr => ?_
  apply Exists.intro
  exact (vss_cons (vs_set 2 sc__law_draws.nd (ve_cb call_abs semC_abs f_abs vb_abs (va_cons (ve_ct call_int1 semC_int f_int vb_int (va_cons (ve_v 0) va_nil)) va_nil)))
      (vss_cons (vs_set 3 sc__law_draws.nd (ve_cmp op_geA semR_cmp (ve_v 2) (ve_pow ve_int ve_int) (nomark _)))
      (vss_cons (vs_set 4 sc__law_draws.nd (ve_v 2))
      (vss_cons (vs_set 5 sc__law_draws.nd (ve_own (vf_lst va_nil)))
      (vss_cons (vs_for PassesOwn.leaving rfl (vi_range1 (by rfl) f_range (va_cons (ve_v 1) va_nil)) (vg_name 6 sc__law_draws.nd) gN_ok (vss_one (vs_if (vt_w (vw_and (vt_tru (ve_v 3)) (vw_and1 (vt_cmp op_gtA semR_cmp (ve_v 2) ve_int (nomark _))))) (vss_cons (vs_expr (ve_append (ve_v 5) (va_cons (ve_mod (ve_ct call_int1 semC_int f_int vb_int (va_cons (ve_v 2) va_nil)) ve_int) va_nil)))
      (vss_one (vs_set 2 sc__law_draws.nd (ve_div (ve_v 2) ve_int)))) (vss_cons (vs_set 7 sc__law_draws.nd (ve_mod (ve_ct call_int1 semC_int f_int vb_int (va_cons (ve_add (ve_add (ve_mul (ve_v 4) ve_int) (ve_mul (ve_add (ve_v 6) ve_int) ve_int)) ve_int) va_nil)) ve_int))
      (vss_cons (vs_set 7 sc__law_draws.nd (ve_mod (ve_ct call_int1 semC_int f_int vb_int (va_cons (ve_add (ve_mul (ve_v 7) (ve_v 7)) (ve_mul ve_int (ve_add (ve_v 6) ve_int))) va_nil)) ve_int))
      (vss_one (vs_expr (ve_append (ve_v 5) (va_cons (ve_mod (ve_ct call_int1 semC_int f_int vb_int (va_cons (ve_div (ve_v 7) ve_int) va_nil)) ve_int) va_nil)))))))))
      (vss_one (vs_ret (ve_take 5))))))))
theorem sc__law_is_integer : FnScope N__law_is_integer P__law_is_integer (defScope st__law_is_integer) := ⟨rfl, rfl, rfl, by decide +kernel, rfl, by decide +kernel, by decide +kernel⟩
theorem ok__law_is_integer (F : FnD K "_law_is_integer" st__law_is_integer f fd) (f_bool : mg "bool" = none) (f_int : mg "int" = none) (f_isinstance : mg "isinstance" = none) : FnP P w K mg base B 1 f fd P__law_is_integer f__law_is_integer := by
  refine def_pure (k := 0) (N := N__law_is_integer) (m := m__law_is_integer) F sc__law_is_integer fun cdv A outer s H E hc hr => ?_
  apply Exists.intro
  exact (vss_one (vs_ret (ve_and (ve_isi (ve_v 0) f_isinstance f_int vb_int) (ve_one (ve_not (ve_isi (ve_v 0) f_isinstance f_bool vb_bool))))))
theorem sc__law_rest : FnScope N__law_rest P__law_rest (defScope st__law_rest) := ⟨rfl, rfl, rfl, by decide +kernel, rfl, by decide +kernel, by decide +kernel⟩
theorem ok__law_rest (F : FnD K "_law_rest" st__law_rest f fd) (f_sum : mg "sum" = none) (f_zip : mg "zip" = none) : FnP P w K mg base B 1 f fd P__law_rest f__law_rest := by
  refine def_pure (k := 0) (N := N__law_rest) (m := m__law_rest) F sc__law_rest fun cdv A outer s H E hc hr => ?_
  apply Exists.intro
  exact (vss_one (vs_ret (ve_mod (ve_cb (cr_sum rfl) semC_sum f_sum vb_sum (va_cons (ve_frz (vf_lc (own := [("weight", 3), ("figure", 4)]) rfl sc__law_rest.nd (vi_zip (by rfl) f_zip (va_cons (ve_v 0) (va_cons (ve_v 2) va_nil))) (blk_ok (N := N__law_rest) (sc := defScope st__law_rest) rfl ⟨by decide +kernel, by decide +kernel, by decide +kernel, by decide +kernel⟩) (fun _ _ _ _ _ => (vg_tup rfl (vgs_cons (vg_name 3 sc__law_rest.nd) (vgs_cons (vg_name 4 sc__law_rest.nd) vgs_nil gN_ok) gN_ok) (len_cons gN_ok (len_cons gN_ok len_nil)))) (gin_tup (gin_cons gin_name (gin_cons gin_name gin_nil gmono_name gmono_nil) gmono_name (gmono_cons gmono_name gmono_nil))) (gmono_tup (gmono_cons gmono_name (gmono_cons gmono_name gmono_nil))) (fun _ _ _ _ _ => vts_nil) (fun _ _ _ _ _ => (ve_c (K := K) (ve_mul (ve_v 3) (ve_v 4)))) s)) va_nil)) (ve_v 1))))
theorem sc__law_every : FnScope N__law_every P__law_every (defScope st__law_every) := ⟨rfl, rfl, rfl, by decide +kernel, rfl, by decide +kernel, by decide +kernel⟩
theorem ok__law_every (F : FnD K "_law_every" st__law_every f fd) (f_range : mg "range" = none) : FnP P w K mg base B 1 f fd P__law_every f__law_every := by
  refine def_pure (k := 0) (N := N__law_every) (m := m__law_every) F sc__law_every fun cdv A outer s H E hc hr => ?_
  apply Exists.intro
  exact (vss_cons (vs_set 1 sc__law_every.nd (ve_frz (vf_lst (va_cons (ve_tup va_nil) va_nil))))
      (vss_cons (vs_for PassesOwn.leaving rfl (vi_range1 (by rfl) f_range (va_cons (ve_v 0) va_nil)) (vg_name 2 sc__law_every.nd) gN_ok (vss_cons (vs_set 3 sc__law_every.nd (ve_frz (vf_lst va_nil)))
      (vss_cons (vs_for PassesOwn.leaving rfl (vi_seq (ve_v 1)) (vg_name 4 sc__law_every.nd) gN_ok (vss_one (vs_set 3 sc__law_every.nd (ve_add (ve_v 3) (ve_frz (vf_lc (own := [("figure", 5)]) rfl sc__law_every.nd (vi_range1 (by rfl) f_range (va_cons ve_int va_nil)) (blk_ok (N := N__law_every) (sc := defScope st__law_every) rfl ⟨by decide +kernel, by decide +kernel, by decide +kernel, by decide +kernel⟩) (fun _ _ _ _ _ => (vg_name 5 sc__law_every.nd)) gin_name gmono_name (fun _ _ _ _ _ => vts_nil) (fun _ _ _ _ _ => (ve_c (K := K) (ve_add (ve_v 4) (ve_tup (va_cons (ve_v 5) va_nil))))) s))))))
      (vss_one (vs_set 1 sc__law_every.nd (ve_v 3))))))
      (vss_one (vs_ret (ve_v 1)))))
theorem sc_law : FnScope N_law P_law (defScope st_law) := ⟨rfl, rfl, rfl, by decide +kernel, rfl, by decide +kernel, by decide +kernel⟩
theorem ok_law (F : FnD K "law" st_law f fd) (f_all : mg "all" = none) (f_bool : mg "bool" = none) (f_int : mg "int" = none) (f_isinstance : mg "isinstance" = none) (f_len : mg "len" = none) (f_list : mg "list" = none) (f_range : mg "range" = none) (f_tuple : mg "tuple" = none) (c__law_cell : CallOk P w K mg base B "_law_cell" 1 P__law_cell f__law_cell) (c__law_draws : CallOk P w K mg base B "_law_draws" 1 P__law_draws f__law_draws) (c__law_every : CallOk P w K mg base B "_law_every" 1 P__law_every f__law_every) (c__law_is_integer : CallOk P w K mg base B "_law_is_integer" 1 P__law_is_integer f__law_is_integer) (c__law_rest : CallOk P w K mg base B "_law_rest" 1 P__law_rest f__law_rest) (c_is_sealed : CallOk P w K mg base B "is_sealed" 2 P_is_sealed f_is_sealed) (c_least_sealed : CallOk P w K mg base B "least_sealed" 2 P_least_sealed f_least_sealed) (c_number_sealed : CallOk P w K mg base B "number_sealed" 1 P_number_sealed f_number_sealed) (c_seals_of : CallOk P w K mg base B "seals_of" 3 P_seals_of f_seals_of) : FnP P w K mg base B 4 f fd P_law f_law := by
  refine def_pure (k := 3) (N := N_law) (m := m_law) F sc_law fun cdv A outer s H E hc hr => ?_
  apply Exists.intro
  exact (vss_cons (vs_set 1 sc_law.nd (ve_own_call c__law_draws hr (by decide) (by rfl) tk_of (va_cons (ve_own_call c__law_cell hr (by decide) (by rfl) tk_of (va_cons (ve_v 0) (va_cons ve_int va_nil))) (va_cons ve_int va_nil))))
      (vss_cons (vs_for PassesOwn.leaving rfl (vi_range1 (by rfl) f_range (va_cons ve_int va_nil)) (vg_name 2 sc_law.nd) gN_ok (vss_cons (vs_set 3 sc_law.nd (ve_if (vt_cmp op_gtA semR_cmp (ve_mod (ve_ct call_int1 semC_int f_int vb_int (va_cons (ve_ix (hu 1 hr) (ve_v 1) ve_int) va_nil)) ve_int) ve_int (nomark _)) (ve_ix (hu 1 hr) (ve_tup (va_cons ve_int (va_cons ve_int (va_cons ve_int (va_cons ve_int va_nil))))) (ve_mod (ve_ct call_int1 semC_int f_int vb_int (va_cons (ve_ix (hu 1 hr) (ve_v 1) (ve_v 2)) va_nil)) ve_int)) ve_int))
      (vss_cons (vs_set 4 sc_law.nd (ve_add ve_int (ve_mod (ve_ct call_int1 semC_int f_int vb_int (va_cons (ve_ix (hu 1 hr) (ve_v 1) (ve_add ve_int (ve_v 2))) va_nil)) (ve_ix (hu 1 hr) (ve_tup (va_cons ve_int (va_cons ve_int va_nil))) (ve_mod (ve_ct call_int1 semC_int f_int vb_int (va_cons (ve_ix (hu 1 hr) (ve_v 1) ve_int) va_nil)) ve_int)))))
      (vss_cons (vs_set 5 sc_law.nd (ve_ct call_tuple_of semC_tuple f_tuple vb_tuple (va_cons (ve_frz (vf_lc (own := [("at", 6)]) rfl sc_law.nd (vi_range1 (by rfl) f_range (va_cons (ve_v 3) va_nil)) (blk_ok (N := N_law) (sc := defScope st_law) rfl ⟨by decide +kernel, by decide +kernel, by decide +kernel, by decide +kernel⟩) (fun _ _ _ _ _ => (vg_name 6 sc_law.nd)) gin_name gmono_name (fun _ _ _ _ _ => vts_nil) (fun _ _ _ _ _ => (ve_c (K := K) (ve_sub (ve_mod (ve_div (ve_ct call_int1 semC_int f_int vb_int (va_cons (ve_ix (hu 1 hr) (ve_v 1) (ve_add ve_int (ve_v 6))) va_nil)) (ve_add ve_int (ve_v 2))) ve_int) ve_int))) s)) va_nil)))
      (vss_cons (vs_setLc 7 ve_frz (own := [("row", 8)]) rfl sc_law.nd (vi_seq (ve_own_call c__law_every hr (by decide) (by rfl) tk_of (va_cons (ve_v 3) va_nil))) (blk_ok (N := N_law) (sc := defScope st_law) rfl ⟨by decide +kernel, by decide +kernel, by decide +kernel, by decide +kernel⟩) (fun _ _ _ _ _ => (vg_name 8 sc_law.nd)) gin_name gmono_name (fun _ _ _ _ _ => (vts_c (K := K) (vts_one (vt_cmp (op_eqA (hu 64 hr)) semR_eq (ve_own_call c__law_rest hr (by decide) (by rfl) takes0 (va_cons (ve_v 5) (va_cons (ve_v 4) (va_cons (ve_v 8) va_nil)))) ve_int (nomark _))))) (fun _ _ _ _ _ => (ve_c (K := K) (ve_v 8))) s)
      (vss_cons (vs_set 9 sc_law.nd (ve_own_call c_number_sealed hr (by decide) (by rfl) tk_of (va_cons (ve_v 5) (va_cons (ve_v 4) va_nil))))
      (vss_cons (vs_if (vt_w (vw_or (vt_not (vt_tru (ve_own_call c__law_is_integer hr (by decide) (by rfl) tk_of (va_cons (ve_v 9) va_nil)))) (vw_or1 (vt_cmp (op_neA (hu 64 hr)) semR_ne (ve_v 9) (ve_cb call_lenA semC_len f_len vb_len (va_cons (ve_v 7) va_nil)) (nomark _))))) (vss_one (vs_ret ve_bl)) vss_nil)
      (vss_cons (vs_for PassesOwn.leaving rfl (vi_range1 (by rfl) f_range (va_cons ve_int va_nil)) (vg_name 10 sc_law.nd) gN_ok (vss_cons (vs_set 11 sc_law.nd (ve_ct call_tuple_of semC_tuple f_tuple vb_tuple (va_cons (ve_frz (vf_lc (own := [("at", 6)]) rfl sc_law.nd (vi_range1 (by rfl) f_range (va_cons (ve_mod (ve_v 10) (ve_add (ve_v 3) ve_int)) va_nil)) (blk_ok (N := N_law) (sc := defScope st_law) rfl ⟨by decide +kernel, by decide +kernel, by decide +kernel, by decide +kernel⟩) (fun _ _ _ _ _ => (vg_name 6 sc_law.nd)) gin_name gmono_name (fun _ _ _ _ _ => vts_nil) (fun _ _ _ _ _ => (ve_c (K := K) (ve_mod (ve_div (ve_ct call_int1 semC_int f_int vb_int (va_cons (ve_ix (hu 1 hr) (ve_v 1) (ve_add (ve_add ve_int (ve_v 10)) (ve_v 6))) va_nil)) (ve_add ve_int (ve_v 10))) ve_int))) s)) va_nil)))
      (vss_cons (vs_setLc 12 ve_frz (own := [("row", 8)]) rfl sc_law.nd (vi_seq (ve_v 7)) (blk_ok (N := N_law) (sc := defScope st_law) rfl ⟨by decide +kernel, by decide +kernel, by decide +kernel, by decide +kernel⟩) (fun _ _ _ _ _ => (vg_name 8 sc_law.nd)) gin_name gmono_name (fun _ _ _ _ _ => (vts_c (K := K) (vts_one (vt_cmp (op_eqA (hu 64 hr)) semR_eq (ve_cut (ve_v 8) vo_none (vo_some (ve_cb call_lenA semC_len f_len vb_len (va_cons (ve_v 11) va_nil)))) (ve_v 11) (nomark _))))) (fun _ _ _ _ _ => (ve_c (K := K) (ve_v 8))) s)
      (vss_cons (vs_set 13 sc_law.nd (ve_own_call c_least_sealed hr (by decide) (by rfl) tk_of (va_cons (ve_v 5) (va_cons (ve_v 4) (va_cons (ve_v 11) va_nil)))))
      (vss_cons (vs_if (vt_cmp (op_neA (hu 64 hr)) semR_ne (ve_cmp op_isN semR_is (ve_v 13) ve_non (nomark _)) (ve_cmp (op_eqA (hu 64 hr)) semR_eq (ve_cb call_lenA semC_len f_len vb_len (va_cons (ve_v 12) va_nil)) ve_int (nomark _)) (nomark _)) (vss_one (vs_ret ve_bl)) vss_nil)
      (vss_one (vs_if (vt_cmp op_notN semR_isn (ve_v 13) ve_non (nomark _)) (vss_cons (vs_if (vt_w (vw_or (vt_not (vt_tru (ve_isi (ve_v 13) f_isinstance f_tuple vb_tuple))) (vw_or (vt_not (vt_tru (ve_cb (cr_all rfl) semC_all f_all vb_all (va_cons (ve_frz (vf_lc (own := [("figure", 14)]) rfl sc_law.nd (vi_seq (ve_v 13)) (blk_ok (N := N_law) (sc := defScope st_law) rfl ⟨by decide +kernel, by decide +kernel, by decide +kernel, by decide +kernel⟩) (fun _ _ _ _ _ => (vg_name 14 sc_law.nd)) gin_name gmono_name (fun _ _ _ _ _ => vts_nil) (fun _ _ _ _ _ => (ve_c (K := K) (ve_own_call c__law_is_integer hr (by decide) (by rfl) takes0 (va_cons (ve_v 14) va_nil)))) s)) va_nil)))) (vw_or1 (vt_cmp (op_neA (hu 64 hr)) semR_ne (ve_v 13) (ve_ix (hu 1 hr) (ve_v 12) ve_int) (nomark _)))))) (vss_one (vs_ret ve_bl)) vss_nil)
      (vss_cons (vs_set 15 sc_law.nd (ve_own_call c_is_sealed hr (by decide) (by rfl) tk_of (va_cons (ve_v 5) (va_cons (ve_v 4) (va_cons (ve_v 13) va_nil)))))
      (vss_one (vs_if (vt_w (vw_or (vt_not (vt_tru (ve_isi (ve_v 15) f_isinstance f_bool vb_bool))) (vw_or1 (vt_not (vt_tru (ve_v 15)))))) (vss_one (vs_ret ve_bl)) vss_nil)))) vss_nil)))))))
      (vss_cons (vs_set 16 sc_law.nd (ve_ct call_tuple_of semC_tuple f_tuple vb_tuple (va_cons (ve_frz (vf_lc (own := [("at", 6)]) rfl sc_law.nd (vi_range1 (by rfl) f_range (va_cons (ve_sub (ve_v 3) ve_int) va_nil)) (blk_ok (N := N_law) (sc := defScope st_law) rfl ⟨by decide +kernel, by decide +kernel, by decide +kernel, by decide +kernel⟩) (fun _ _ _ _ _ => (vg_name 6 sc_law.nd)) gin_name gmono_name (fun _ _ _ _ _ => vts_nil) (fun _ _ _ _ _ => (ve_c (K := K) (ve_mod (ve_ct call_int1 semC_int f_int vb_int (va_cons (ve_ix (hu 1 hr) (ve_v 1) (ve_add ve_int (ve_v 6))) va_nil)) ve_int))) s)) va_nil)))
      (vss_cons (vs_setLc 17 ve_frz (own := [("last", 18)]) rfl sc_law.nd (vi_range1 (by rfl) f_range (va_cons ve_int va_nil)) (blk_ok (N := N_law) (sc := defScope st_law) rfl ⟨by decide +kernel, by decide +kernel, by decide +kernel, by decide +kernel⟩) (fun _ _ _ _ _ => (vg_name 18 sc_law.nd)) gin_name gmono_name (fun _ _ _ _ _ => (vts_c (K := K) (vts_one (vt_cmp (op_eqA (hu 64 hr)) semR_eq (ve_own_call c__law_rest hr (by decide) (by rfl) takes0 (va_cons (ve_v 5) (va_cons (ve_v 4) (va_cons (ve_add (ve_v 16) (ve_tup (va_cons (ve_v 18) va_nil))) va_nil)))) ve_int (nomark _))))) (fun _ _ _ _ _ => (ve_c (K := K) (ve_v 18))) s)
      (vss_cons (vs_set 19 sc_law.nd (ve_own_call c_seals_of hr (by decide) (by rfl) tk_of (va_cons (ve_v 5) (va_cons (ve_v 4) (va_cons (ve_v 16) va_nil)))))
      (vss_one (vs_if (vt_w (vw_or (vt_not (vt_tru (ve_isi (ve_v 19) f_isinstance f_tuple vb_tuple))) (vw_or (vt_not (vt_tru (ve_cb (cr_all rfl) semC_all f_all vb_all (va_cons (ve_frz (vf_lc (own := [("last", 18)]) rfl sc_law.nd (vi_seq (ve_v 19)) (blk_ok (N := N_law) (sc := defScope st_law) rfl ⟨by decide +kernel, by decide +kernel, by decide +kernel, by decide +kernel⟩) (fun _ _ _ _ _ => (vg_name 18 sc_law.nd)) gin_name gmono_name (fun _ _ _ _ _ => vts_nil) (fun _ _ _ _ _ => (ve_c (K := K) (ve_own_call c__law_is_integer hr (by decide) (by rfl) takes0 (va_cons (ve_v 18) va_nil)))) s)) va_nil)))) (vw_or1 (vt_cmp (op_neA (hu 64 hr)) semR_ne (ve_frz (vf_ct call_list_of semC_list f_list vb_list (va_cons (ve_v 19) va_nil))) (ve_v 17) (nomark _)))))) (vss_one (vs_ret ve_bl)) vss_nil)))))))))))))
      (vss_one (vs_ret ve_bl))))
end
end K45
namespace K45
open PySem PySem.Spec PyProof.Rows L2 VL
def dd_rest_of : He.DefD := ⟨("rest_of", none), "rest_of", "rest_of", defArgs st_rest_of, defBody st_rest_of, defScope st_rest_of, [], []⟩
def dd_is_sealed : He.DefD := ⟨("is_sealed", none), "is_sealed", "is_sealed", defArgs st_is_sealed, defBody st_is_sealed, defScope st_is_sealed, [], []⟩
def dd_seals_of : He.DefD := ⟨("seals_of", none), "seals_of", "seals_of", defArgs st_seals_of, defBody st_seals_of, defScope st_seals_of, [], []⟩
def dd_number_sealed : He.DefD := ⟨("number_sealed", none), "number_sealed", "number_sealed", defArgs st_number_sealed, defBody st_number_sealed, defScope st_number_sealed, [], []⟩
def dd_can_be_sealed : He.DefD := ⟨("can_be_sealed", none), "can_be_sealed", "can_be_sealed", defArgs st_can_be_sealed, defBody st_can_be_sealed, defScope st_can_be_sealed, [], []⟩
def dd_least_sealed : He.DefD := ⟨("least_sealed", none), "least_sealed", "least_sealed", defArgs st_least_sealed, defBody st_least_sealed, defScope st_least_sealed, [], []⟩
def dd__law_cell : He.DefD := ⟨("_law_cell", none), "_law_cell", "_law_cell", defArgs st__law_cell, defBody st__law_cell, defScope st__law_cell, [], []⟩
def dd__law_draws : He.DefD := ⟨("_law_draws", none), "_law_draws", "_law_draws", defArgs st__law_draws, defBody st__law_draws, defScope st__law_draws, [], []⟩
def dd__law_is_integer : He.DefD := ⟨("_law_is_integer", none), "_law_is_integer", "_law_is_integer", defArgs st__law_is_integer, defBody st__law_is_integer, defScope st__law_is_integer, [], []⟩
def dd__law_rest : He.DefD := ⟨("_law_rest", none), "_law_rest", "_law_rest", defArgs st__law_rest, defBody st__law_rest, defScope st__law_rest, [], []⟩
def dd__law_every : He.DefD := ⟨("_law_every", none), "_law_every", "_law_every", defArgs st__law_every, defBody st__law_every, defScope st__law_every, [], []⟩
def dd_law : He.DefD := ⟨("law", none), "law", "law", defArgs st_law, defBody st_law, defScope st_law, [], []⟩
def fn : List He.DefD := [dd_rest_of, dd_is_sealed, dd_seals_of, dd_number_sealed, dd_can_be_sealed, dd_least_sealed, dd__law_cell, dd__law_draws, dd__law_is_integer, dd__law_rest, dd__law_every, dd_law]
def fa : List He.Fa := [.glo "rest_of", .glo "is_sealed", .glo "seals_of", .glo "number_sealed", .glo "can_be_sealed", .glo "least_sealed", .glo "_law_cell", .glo "_law_draws", .glo "_law_is_integer", .glo "_law_rest", .glo "_law_every", .glo "law", .free "abs", .free "all", .free "bool", .free "int", .free "isinstance", .free "len", .free "list", .free "range", .free "sum", .free "tuple", .free "zip"]
def tf : List He.Defn := [("is_sealed", none)]
abbrev R : PySem.W.OpenRow := PySem.W.OpenLaw.row PySem.Challenge.rw_mailways_k45_whole_sealed_figures_counte
abbrev hk : PySem.W.Hook := He.hookX 4 fa fn [] tf (fun _ => true)
def ob (s : PySem.W.SharedT) : He.AlX := He.obsX 4 fa fn [] tf (fun _ => true) (HandSHeadRun.getT s)
theorem ob_eq (s : PySem.W.SharedT) : ob s = hk.obs s.abs := He.obsX_eq (HandSHeadRun.getT_eq s)
abbrev loose : List Str := ["rest_of", "is_sealed", "seals_of", "number_sealed", "can_be_sealed", "least_sealed", "_law_cell", "_law_draws", "_law_is_integer", "_law_rest", "_law_every"]
theorem run (w : World) : HandSHeadRun.RunEq R (PySem.W.view R.prog [13]) hk ob 1240 loose w := by
  intro os
  kernel_rfl
theorem law_at {w : World} {mg : Str → Option Value} {fadr : Addr} {h : Heap} (Y : hk.says w h) (G : h.Ns mainGlobals mg) (hfa : mg "law" = some (.ref fadr)) : ∃ K : PySem.W.Frag, K.In h ∧ LamX.LawAtS PySem.Challenge.rw_mailways_k45_whole_sealed_figures_counte w K (L2.CX (PySem.Challenge.rw_mailways_k45_whole_sealed_figures_counte).prog w) 30 63 "script" mg fadr h := by
  obtain ⟨K, X, c⟩ := Y
  have sd := c.t.d
  obtain ⟨fd_rest_of, F_rest_of⟩ := sd.def_ 0 (d := dd_rest_of) rfl
  have m_rest_of := He.glo_ok X G (sd.fact 0 (f := .glo "rest_of") rfl)
  obtain ⟨fd_is_sealed, F_is_sealed⟩ := sd.def_ 1 (d := dd_is_sealed) rfl
  have m_is_sealed := He.glo_ok X G (sd.fact 1 (f := .glo "is_sealed") rfl)
  obtain ⟨fd_seals_of, F_seals_of⟩ := sd.def_ 2 (d := dd_seals_of) rfl
  have m_seals_of := He.glo_ok X G (sd.fact 2 (f := .glo "seals_of") rfl)
  obtain ⟨fd_number_sealed, F_number_sealed⟩ := sd.def_ 3 (d := dd_number_sealed) rfl
  have m_number_sealed := He.glo_ok X G (sd.fact 3 (f := .glo "number_sealed") rfl)
  obtain ⟨fd_can_be_sealed, F_can_be_sealed⟩ := sd.def_ 4 (d := dd_can_be_sealed) rfl
  have m_can_be_sealed := He.glo_ok X G (sd.fact 4 (f := .glo "can_be_sealed") rfl)
  obtain ⟨fd_least_sealed, F_least_sealed⟩ := sd.def_ 5 (d := dd_least_sealed) rfl
  have m_least_sealed := He.glo_ok X G (sd.fact 5 (f := .glo "least_sealed") rfl)
  obtain ⟨fd__law_cell, F__law_cell⟩ := sd.def_ 6 (d := dd__law_cell) rfl
  have m__law_cell := He.glo_ok X G (sd.fact 6 (f := .glo "_law_cell") rfl)
  obtain ⟨fd__law_draws, F__law_draws⟩ := sd.def_ 7 (d := dd__law_draws) rfl
  have m__law_draws := He.glo_ok X G (sd.fact 7 (f := .glo "_law_draws") rfl)
  obtain ⟨fd__law_is_integer, F__law_is_integer⟩ := sd.def_ 8 (d := dd__law_is_integer) rfl
  have m__law_is_integer := He.glo_ok X G (sd.fact 8 (f := .glo "_law_is_integer") rfl)
  obtain ⟨fd__law_rest, F__law_rest⟩ := sd.def_ 9 (d := dd__law_rest) rfl
  have m__law_rest := He.glo_ok X G (sd.fact 9 (f := .glo "_law_rest") rfl)
  obtain ⟨fd__law_every, F__law_every⟩ := sd.def_ 10 (d := dd__law_every) rfl
  have m__law_every := He.glo_ok X G (sd.fact 10 (f := .glo "_law_every") rfl)
  obtain ⟨fd_law, F_law⟩ := sd.def_ 11 (d := dd_law) rfl
  have m_law := He.glo_ok X G (sd.fact 11 (f := .glo "law") rfl)
  have f_abs := He.free_ok X G (sd.fact 12 (f := .free "abs") rfl)
  have f_all := He.free_ok X G (sd.fact 13 (f := .free "all") rfl)
  have f_bool := He.free_ok X G (sd.fact 14 (f := .free "bool") rfl)
  have f_int := He.free_ok X G (sd.fact 15 (f := .free "int") rfl)
  have f_isinstance := He.free_ok X G (sd.fact 16 (f := .free "isinstance") rfl)
  have f_len := He.free_ok X G (sd.fact 17 (f := .free "len") rfl)
  have f_list := He.free_ok X G (sd.fact 18 (f := .free "list") rfl)
  have f_range := He.free_ok X G (sd.fact 19 (f := .free "range") rfl)
  have f_sum := He.free_ok X G (sd.fact 20 (f := .free "sum") rfl)
  have f_tuple := He.free_ok X G (sd.fact 21 (f := .free "tuple") rfl)
  have f_zip := He.free_ok X G (sd.fact 22 (f := .free "zip") rfl)
  have e0 := hfa.symm.trans m_law
  cases e0
  refine ⟨K, X, fd_law, tf.map (He.cT K), spP K (bsOf K tf) f_law, fun p hp => ?_, fun p hp => ?_, fun p hp => ?_, fun s u => FunD.bindsA (ps := ["script"]) F_law (fun _ _ _ _ _ _ us hl => match us, hl with | [_], _ => rfl) s [u] rfl, fun H a ns hl hb hT hS => law_sp (law_true ns hl) (fun P hP => ?_) hS, fun base KB NB TB => ?_⟩
  · obtain ⟨d, hd, rfl⟩ := List.mem_map.mp hp
    exact c.empty d hd
  · obtain ⟨d, hd, rfl⟩ := List.mem_map.mp hp
    exact c.out d hd
  · obtain ⟨d, hd, rfl⟩ := List.mem_map.mp hp
    exact PySem.W.codeHd_of_K X (c.hd d hd)
  · obtain ⟨d, hd, rfl⟩ := hP
    exact ⟨#[], hT _ (List.mem_map.mpr ⟨d, hd, rfl⟩), trivial⟩
  have c_rest_of := call_ok (P := (PySem.Challenge.rw_mailways_k45_whole_sealed_figures_counte).prog) (w := w) (base := base) (ps := P_rest_of) F_rest_of m_rest_of (ok_rest_of (B := bsOf K tf) F_rest_of f_sum f_zip) (fun _ _ _ _ _ _ us hl => match us, hl with | [_, _, _], _ => rfl)
  have c_is_sealed := call_ok (P := (PySem.Challenge.rw_mailways_k45_whole_sealed_figures_counte).prog) (w := w) (base := base) (ps := P_is_sealed) F_is_sealed m_is_sealed (ok_is_sealed (B := bsOf K tf) F_is_sealed f_all f_len c_rest_of ⟨_, _, code_tab F_is_sealed, tab_of (TB _ (List.mem_map.mpr ⟨("is_sealed", none), by simp [tf], rfl⟩)), ⟨("is_sealed", none), by simp [tf], rfl⟩⟩) (fun _ _ _ _ _ _ us hl => match us, hl with | [_, _, _], _ => rfl)
  have c_seals_of := call_ok (P := (PySem.Challenge.rw_mailways_k45_whole_sealed_figures_counte).prog) (w := w) (base := base) (ps := P_seals_of) F_seals_of m_seals_of (ok_seals_of (B := bsOf K tf) F_seals_of f_range f_tuple c_is_sealed) (fun _ _ _ _ _ _ us hl => match us, hl with | [_, _, _], _ => rfl)
  have c_number_sealed := call_ok (P := (PySem.Challenge.rw_mailways_k45_whole_sealed_figures_counte).prog) (w := w) (base := base) (ps := P_number_sealed) F_number_sealed m_number_sealed (ok_number_sealed (B := bsOf K tf) F_number_sealed f_range) (fun _ _ _ _ _ _ us hl => match us, hl with | [_, _], _ => rfl)
  have c_can_be_sealed := call_ok (P := (PySem.Challenge.rw_mailways_k45_whole_sealed_figures_counte).prog) (w := w) (base := base) (ps := P_can_be_sealed) F_can_be_sealed m_can_be_sealed (ok_can_be_sealed (B := bsOf K tf) F_can_be_sealed f_range) (fun _ _ _ _ _ _ us hl => match us, hl with | [_, _, _], _ => rfl)
  have c_least_sealed := call_ok (P := (PySem.Challenge.rw_mailways_k45_whole_sealed_figures_counte).prog) (w := w) (base := base) (ps := P_least_sealed) F_least_sealed m_least_sealed (ok_least_sealed (B := bsOf K tf) F_least_sealed f_len f_range f_sum f_tuple f_zip c_can_be_sealed) (fun _ _ _ _ _ _ us hl => match us, hl with | [_, _, _], _ => rfl)
  have c__law_cell := call_ok (P := (PySem.Challenge.rw_mailways_k45_whole_sealed_figures_counte).prog) (w := w) (base := base) (ps := P__law_cell) F__law_cell m__law_cell (ok__law_cell (B := bsOf K tf) F__law_cell f_len) (fun _ _ _ _ _ _ us hl => match us, hl with | [_, _], _ => rfl)
  have c__law_draws := call_ok (P := (PySem.Challenge.rw_mailways_k45_whole_sealed_figures_counte).prog) (w := w) (base := base) (ps := P__law_draws) F__law_draws m__law_draws (ok__law_draws (B := bsOf K tf) F__law_draws f_abs f_int f_range) (fun _ _ _ _ _ _ us hl => match us, hl with | [_, _], _ => rfl)
  have c__law_is_integer := call_ok (P := (PySem.Challenge.rw_mailways_k45_whole_sealed_figures_counte).prog) (w := w) (base := base) (ps := P__law_is_integer) F__law_is_integer m__law_is_integer (ok__law_is_integer (B := bsOf K tf) F__law_is_integer f_bool f_int f_isinstance) (fun _ _ _ _ _ _ us hl => match us, hl with | [_], _ => rfl)
  have c__law_rest := call_ok (P := (PySem.Challenge.rw_mailways_k45_whole_sealed_figures_counte).prog) (w := w) (base := base) (ps := P__law_rest) F__law_rest m__law_rest (ok__law_rest (B := bsOf K tf) F__law_rest f_sum f_zip) (fun _ _ _ _ _ _ us hl => match us, hl with | [_, _, _], _ => rfl)
  have c__law_every := call_ok (P := (PySem.Challenge.rw_mailways_k45_whole_sealed_figures_counte).prog) (w := w) (base := base) (ps := P__law_every) F__law_every m__law_every (ok__law_every (B := bsOf K tf) F__law_every f_range) (fun _ _ _ _ _ _ us hl => match us, hl with | [_], _ => rfl)
  exact (ok_law (P := (PySem.Challenge.rw_mailways_k45_whole_sealed_figures_counte).prog) (w := w) (mg := mg) (base := base) F_law f_all f_bool f_int f_isinstance f_len f_list f_range f_tuple c__law_cell c__law_draws c__law_every c__law_is_integer c__law_rest c_is_sealed c_least_sealed c_number_sealed c_seals_of).mono (by decide)
end K45
open PySem PySem.W PySem.Calls PyProof.Rows
theorem PySem.Challenge.cw_mailways_k45_whole_sealed_figures_counte_holds : PySem.Challenge.rw_mailways_k45_whole_sealed_figures_counte.Holds := by
  w_on; o_law
  refine HandSHeadRun.head_any (r := OpenLaw.row PySem.Challenge.rw_mailways_k45_whole_sealed_figures_counte) (q := view (OpenLaw.row PySem.Challenge.rw_mailways_k45_whole_sealed_figures_counte).prog [13]) (H := K45.hk) (ob := K45.ob) (M := 1240) (loose := K45.loose) (d := HandSHeadRun.topDef (OpenLaw.row PySem.Challenge.rw_mailways_k45_whole_sealed_figures_counte).prog 13) (kwd := []) K45.ob_eq
    (by kernel_rfl) (fun s => by kernel_rfl) K45.run (by kernel_rfl) (by kernel_rfl) (by kernel_rfl) (by rfl) (by first | assumption | decide +kernel) (by decide +kernel) ⟨rfl, rfl, rfl, rfl, rfl, by decide +kernel⟩ ?hw ?hc
  case hw => w_witness2
  case hc =>
    refine VL.walk_ofET (l := PySem.Challenge.rw_mailways_k45_whole_sealed_figures_counte) (n := 63) (k := 30) (x := "script") (CX := fun w => L2.CX (PySem.Challenge.rw_mailways_k45_whole_sealed_figures_counte).prog w) rfl (by decide) (by kernel_rfl) VL.callerRoom ?F (fun _ _ _ _ _ z => VL.cx_end z)
    intro w mg fa h Y G hmg0
    have hmg : mg ("law" : PySem.Str) = some (.ref fa) := by
      have e : (HandSHeadRun.topDef (OpenLaw.row PySem.Challenge.rw_mailways_k45_whole_sealed_figures_counte).prog 13).name = ("law" : PySem.Str) := by kernel_rfl
      rw [← e]
      exact hmg0
    exact K45.law_at Y G hmg
