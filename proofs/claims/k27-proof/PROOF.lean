import PyProof.Rows.All
import Wide.All
import OpenK.AllK
import Wide.FinOn
import HandS.ForMost
import HandS.Exc
import HandS.TryOnly
import HandS.ExcOwn
import HandS.ExcSuper
import HandS.Zip
import HandS.Rev
import HandS.IsInst
import HandS.TupAny
import HandS.Wide
import HandS.Deep
import HandS.WordsExc
import HandS.TupMul
import HandS.Style
import HandS.TupLe
import HandS.Dict
import HandS.RaiseMore
import PySem.Challenge.RW_foldedloops_k27_whole_words_of_tables
set_option Elab.async false
set_option linter.all false
set_option maxRecDepth 100000
set_option maxHeartbeats 4000000
/-! Data over the hand layer: plain data D, what a value in the abstract heap stands for, frames of data. -/
namespace Fd
open PySem PySem.Spec PyProof.Rows L2
abbrev St := L2.St

/-- plain data -/
inductive D where
  | non
  | bl (b : Bool)
  | int (i : Int)
  | str (s : Str)
  | tup (ds : List D)
  | lst (ds : List D)
  | lsf (ds : List D)
  | dic (kvs : List (Key × D))
  | ins (C : Addr) (fs : List (Str × D))
  | fn (a : Addr)
  | ty (n : String)

instance : Inhabited D := ⟨.non⟩

/-- what a slot of a frame holds: a value that is never changed any more, or a list (a dict) of the frame's own (lent: of a caller's) -/
inductive Wd where
  | val (d : D)
  | own (lent : Bool) (ds : List D)
  | ownK (lent : Bool) (kvs : List (Key × D))
  | ownT (lent : Bool) (kvs : List (List Key × D))

def Wd.mut : Wd → Bool
  | .val _ => false
  | _ => true
def Wd.lent : Wd → Bool
  | .val _ => false
  | .own l _ => l
  | .ownK l _ => l
  | .ownT l _ => l
/-- a content of the frame's own, as data -/
def Wd.dat : Wd → D
  | .val d => d
  | .own _ ds => .lst ds
  | .ownK _ kvs => .dic kvs
  | .ownT _ kvs => .dic []

mutual
inductive Dn (K : PySem.W.Frag) (G : Hp) : V → D → Prop
  | non : Dn K G .non .non
  | bl (b : Bool) : Dn K G (.bl b) (.bl b)
  | int (i : Int) : Dn K G (.int i) (.int i)
  | str (x : Str) : Dn K G (.str x) (.str x)
  | tup {a : Addr} {xs : List V} {ds : List D} : SqT K G a xs → DnA K G xs ds → Dn K G (.ref a) (.tup ds)
  | lst {a : Addr} {xs : List V} {ds : List D} : G a = some (.lst xs) → DnA K G xs ds → Dn K G (.ref a) (.lst ds)
  | lsf {a : Addr} {xs : List V} {ds : List D} : SqL K G a xs → DnA K G xs ds → Dn K G (.ref a) (.lsf ds)
  | dic {a : Addr} {kvs : List (Key × V)} {ds : List (Key × D)} : Rd G a (.dK kvs) → DnK K G kvs ds → Dn K G (.ref a) (.dic ds)
  | ins {a C dx : Addr} {fs : List (Str × V)} {ds : List (Str × D)} : G a = some (.ins C dx fs) → DnF K G fs ds → Dn K G (.ref a) (.ins C ds)
  | fn (a : Addr) : Dn K G (.ref a) (.fn a)
  | ty (n : String) : Dn K G (.ty n) (.ty n)
inductive DnA (K : PySem.W.Frag) (G : Hp) : List V → List D → Prop
  | nil : DnA K G [] []
  | cons {v : V} {vs : List V} {d : D} {ds : List D} : Dn K G v d → DnA K G vs ds → DnA K G (v :: vs) (d :: ds)
inductive DnK (K : PySem.W.Frag) (G : Hp) : List (Key × V) → List (Key × D) → Prop
  | nil : DnK K G [] []
  | cons {k : Key} {v : V} {vs : List (Key × V)} {d : D} {ds : List (Key × D)} : Dn K G v d → DnK K G vs ds → DnK K G ((k, v) :: vs) ((k, d) :: ds)
inductive DnF (K : PySem.W.Frag) (G : Hp) : List (Str × V) → List (Str × D) → Prop
  | nil : DnF K G [] []
  | cons {k : Str} {v : V} {vs : List (Str × V)} {d : D} {ds : List (Str × D)} : Dn K G v d → DnF K G vs ds → DnF K G ((k, v) :: vs) ((k, d) :: ds)
end

/-- all of G stands in G' -/
def Le (G G' : Hp) : Prop := ∀ a o, G a = some o → G' a = some o
theorem Le.refl (G : Hp) : Le G G := fun _ _ h => h
theorem Le.trans {A B C : Hp} (h : Le A B) (k : Le B C) : Le A C := fun a o e => k a o (h a o e)
theorem Le.rd {G G' : Hp} (h : Le G G') {a : Addr} {u : HO} (r : Rd G a u) : Rd G' a u := by
  rcases r with r | ⟨o, r⟩
  · exact .inl (h _ _ r)
  · exact .inr ⟨o, h _ _ r⟩
theorem Le.seqL {K : PySem.W.Frag} {G G' : Hp} (h : Le G G') {a : Addr} {xs : List V} (q : SqL K G a xs) : SqL K G' a xs := by
  rcases q with q | q
  · exact .inl (h.rd q)
  · exact .inr q
theorem Le.seqT {K : PySem.W.Frag} {G G' : Hp} (h : Le G G') {a : Addr} {xs : List V} (q : SqT K G a xs) : SqT K G' a xs := by
  rcases q with q | q
  · exact .inl (h.rd q)
  · exact .inr q

section
variable {K : PySem.W.Frag} {G G' : Hp}
mutual
theorem Dn.mono (h : Le G G') : ∀ {v : V} {d : D}, Dn K G v d → Dn K G' v d
  | _, _, .non => .non
  | _, _, .bl b => .bl b
  | _, _, .int i => .int i
  | _, _, .str x => .str x
  | _, _, .tup q r => .tup (h.seqT q) (DnA.mono h r)
  | _, _, .lst q r => .lst (h _ _ q) (DnA.mono h r)
  | _, _, .lsf q r => .lsf (h.seqL q) (DnA.mono h r)
  | _, _, .dic q r => .dic (h.rd q) (DnK.mono h r)
  | _, _, .ins q r => .ins (h _ _ q) (DnF.mono h r)
  | _, _, .fn a => .fn a
  | _, _, .ty n => .ty n
theorem DnA.mono (h : Le G G') : ∀ {vs : List V} {ds : List D}, DnA K G vs ds → DnA K G' vs ds
  | _, _, .nil => .nil
  | _, _, .cons a r => .cons (Dn.mono h a) (DnA.mono h r)
theorem DnK.mono (h : Le G G') : ∀ {vs : List (Key × V)} {ds : List (Key × D)}, DnK K G vs ds → DnK K G' vs ds
  | _, _, .nil => .nil
  | _, _, .cons a r => .cons (Dn.mono h a) (DnK.mono h r)
theorem DnF.mono (h : Le G G') : ∀ {vs : List (Str × V)} {ds : List (Str × D)}, DnF K G vs ds → DnF K G' vs ds
  | _, _, .nil => .nil
  | _, _, .cons a r => .cons (Dn.mono h a) (DnF.mono h r)
end
theorem DnA.length : ∀ {vs : List V} {ds : List D}, DnA K G vs ds → vs.length = ds.length
  | _, _, .nil => rfl
  | _, _, .cons _ r => by simp [DnA.length r]
theorem DnA.get : ∀ {vs : List V} {ds : List D} {i : Nat} {d : D}, DnA K G vs ds → ds[i]? = some d → ∃ v, vs[i]? = some v ∧ Dn K G v d
  | _, _, _, _, .nil, e => by simp at e
  | _, _, 0, _, .cons r _, e => by simp at e; subst e; exact ⟨_, rfl, r⟩
  | _, _, i + 1, _, .cons _ t, e => by
    obtain ⟨v, h1, h2⟩ := DnA.get (i := i) t (by simpa using e)
    exact ⟨v, by simpa using h1, h2⟩
theorem DnA.append : ∀ {xs ys : List V} {ds es : List D}, DnA K G xs ds → DnA K G ys es → DnA K G (xs ++ ys) (ds ++ es)
  | _, _, _, _, .nil, s => s
  | _, _, _, _, .cons r t, s => .cons r (DnA.append t s)
theorem DnA.take : ∀ {xs : List V} {ds : List D} (n : Nat), DnA K G xs ds → DnA K G (xs.take n) (ds.take n)
  | _, _, 0, _ => .nil
  | _, _, _ + 1, .nil => .nil
  | _, _, n + 1, .cons r t => .cons r (DnA.take n t)
theorem DnA.drop : ∀ {xs : List V} {ds : List D} (n : Nat), DnA K G xs ds → DnA K G (xs.drop n) (ds.drop n)
  | _, _, 0, r => r
  | _, _, _ + 1, .nil => .nil
  | _, _, n + 1, .cons _ t => DnA.drop n t
theorem DnA.dropLast : ∀ {xs : List V} {ds : List D}, DnA K G xs ds → DnA K G xs.dropLast ds.dropLast
  | _, _, .nil => .nil
  | _, _, .cons _ .nil => .nil
  | _, _, .cons r (.cons r' t) => by
    rw [List.dropLast_cons₂, List.dropLast_cons₂]
    exact .cons r (DnA.dropLast (.cons r' t))
theorem DnA.reverse : ∀ {xs : List V} {ds : List D}, DnA K G xs ds → DnA K G xs.reverse ds.reverse
  | _, _, .nil => .nil
  | _, _, .cons r t => by
    rw [List.reverse_cons, List.reverse_cons]
    exact (DnA.reverse t).append (.cons r .nil)
theorem DnA.set : ∀ {xs : List V} {ds : List D} {v : V} {d : D} (i : Nat), Dn K G v d → DnA K G xs ds → DnA K G (xs.set i v) (ds.set i d)
  | _, _, _, _, _, _, .nil => .nil
  | _, _, _, _, 0, q, .cons _ t => .cons q t
  | _, _, _, _, i + 1, q, .cons r t => .cons r (DnA.set i q t)
theorem DnA.eraseIdx : ∀ {xs : List V} {ds : List D} (i : Nat), DnA K G xs ds → DnA K G (xs.eraseIdx i) (ds.eraseIdx i)
  | _, _, _, .nil => .nil
  | _, _, 0, .cons _ t => t
  | _, _, i + 1, .cons r t => .cons r (DnA.eraseIdx i t)
theorem DnA.replicate {xs : List V} {ds : List D} (h : DnA K G xs ds) : ∀ n, DnA K G (List.replicate n xs).flatten (List.replicate n ds).flatten
  | 0 => .nil
  | n + 1 => by
    rw [List.replicate_succ, List.replicate_succ, List.flatten_cons, List.flatten_cons]
    exact h.append (DnA.replicate h n)
theorem Dn.int_inv {v : V} {i : Int} (h : Dn K G v (.int i)) : v = .int i := by cases h; rfl
theorem Dn.bl_inv {v : V} {i : Bool} (h : Dn K G v (.bl i)) : v = .bl i := by cases h; rfl
theorem Dn.str_inv {v : V} {i : Str} (h : Dn K G v (.str i)) : v = .str i := by cases h; rfl
theorem Dn.non_inv {v : V} (h : Dn K G v .non) : v = .non := by cases h; rfl
theorem DnA.ints : ∀ {vs : List V} {ns : List Int}, DnA K G vs (ns.map D.int) → vs = ns.map V.int
  | _, [], h => by cases h; rfl
  | _, n :: ns, h => by
    cases h with
    | cons a r => rw [a.int_inv, DnA.ints r]; rfl
theorem DnA.bools : ∀ {vs : List V} {ns : List Bool}, DnA K G vs (ns.map D.bl) → vs = ns.map V.bl
  | _, [], h => by cases h; rfl
  | _, n :: ns, h => by
    cases h with
    | cons a r => rw [a.bl_inv, DnA.bools r]; rfl
end

/-- a list's own content: v is at the top a list of H, its items stand in G -/
def WAt (K : PySem.W.Frag) (G H : Hp) (v : V) : Wd → Prop
  | .val d => Dn K G v d
  | .own _ ds => ∃ a xs, v = .ref a ∧ H a = some (.lst xs) ∧ G a = none ∧ DnA K G xs ds
  | .ownK _ ds => ∃ a xs, v = .ref a ∧ H a = some (.dK xs) ∧ G a = none ∧ DnK K G xs ds
  | .ownT _ ds => False

/-- frames of data -/
abbrev Fr := List (Option Wd)
/-- a is the place of a list (a dict) of the frame's own -/
def OwnA (e : Fr) (σ : St) (a : Addr) : Prop := ∃ (i : Nat) (w : Wd), e[i]? = some (some w) ∧ w.mut = true ∧ σ[i]? = some (some (.ref a))

structure Rel (K : PySem.W.Frag) (G : Hp) (e : Fr) (σ : St) (H : Hp) : Prop where
  le : Le G H
  len : e.length = σ.length
  at_ : ∀ (i : Nat) (w : Wd), e[i]? = some (some w) → ∃ v, σ[i]? = some (some v) ∧ WAt K G H v w
  ap : ∀ (i j : Nat) (w w' : Wd) (a : Addr), e[i]? = some (some w) → e[j]? = some (some w') → w.mut = true → w'.mut = true → σ[i]? = some (some (.ref a)) → σ[j]? = some (some (.ref a)) → i = j

/-- from a state to a later one -/
structure Go (K : PySem.W.Frag) (e : Fr) (σ : St) (H G : Hp) (e' : Fr) (σ' : St) (H' G' : Hp) : Prop where
  rel : Rel K G' e' σ' H'
  keep : ∀ a o, H a = some o → ¬ OwnA e σ a → H' a = some o
  grow : Le G G'
  own : ∀ a, OwnA e' σ' a → OwnA e σ a ∨ H a = none
  gnew : ∀ a o, G' a = some o → G a = some o ∨ OwnA e σ a ∨ H a = none
  lent : ∀ (i : Nat) (w : Wd), e[i]? = some (some w) → w.lent = true → σ'[i]? = σ[i]? ∧ ∃ w' : Wd, e'[i]? = some (some w') ∧ w'.lent = true
  slen : σ'.length = σ.length

section
variable {K : PySem.W.Frag} {G H G' H' G2 H2 : Hp} {e e' e2 : Fr} {σ σ' σ2 : St}
theorem WAt.mut_ref {v : V} {w : Wd} (h : WAt K G H v w) (m : w.mut = true) : ∃ a, v = .ref a ∧ G a = none ∧ ∃ o, H a = some o := by
  cases w with
  | val d => cases m
  | own l ds => obtain ⟨a, xs, h1, h2, h3, _⟩ := h; exact ⟨a, h1, h3, _, h2⟩
  | ownK l ds => obtain ⟨a, xs, h1, h2, h3, _⟩ := h; exact ⟨a, h1, h3, _, h2⟩
  | ownT l ds => exact False.elim h
theorem Rel.own_free (r : Rel K G e σ H) {a : Addr} (h : OwnA e σ a) : G a = none := by
  obtain ⟨i, w, h1, h2, h3⟩ := h
  obtain ⟨v, hv, q⟩ := r.at_ i w h1
  rw [h3] at hv; cases hv
  obtain ⟨b, eb, hb, _⟩ := q.mut_ref h2
  cases eb
  exact hb
theorem Go.refl (r : Rel K G e σ H) : Go K e σ H G e σ H G :=
  ⟨r, fun _ _ h _ => h, Le.refl _, fun _ h => .inl h, fun _ _ h => .inl h, fun i w h1 h2 => ⟨rfl, w, h1, h2⟩, rfl⟩
theorem Go.trans (a : Go K e σ H G e' σ' H' G') (b : Go K e' σ' H' G' e2 σ2 H2 G2) : Go K e σ H G e2 σ2 H2 G2 where
  rel := b.rel
  keep := fun x o h n => b.keep x o (a.keep x o h n) fun z => by
    rcases a.own x z with q | q
    · exact n q
    · rw [q] at h; cases h
  grow := a.grow.trans b.grow
  own := fun x h => by
    rcases b.own x h with q | q
    · exact a.own x q
    · cases z : H x with
      | none => exact .inr rfl
      | some o =>
        by_cases hn : OwnA e σ x
        · exact .inl hn
        · rw [a.keep x o z hn] at q; cases q
  gnew := fun x o h => by
    rcases b.gnew x o h with q | q | q
    · exact a.gnew x o q
    · exact .inr (a.own x q)
    · cases z : H x with
      | none => exact .inr (.inr rfl)
      | some u =>
        by_cases hn : OwnA e σ x
        · exact .inr (.inl hn)
        · rw [a.keep x u z hn] at q; cases q
  lent := fun i w h1 h2 => by
    obtain ⟨s1, w', h3, h4⟩ := a.lent i w h1 h2
    obtain ⟨s2, w2, h5, h6⟩ := b.lent i w' h3 h4
    exact ⟨s2.trans s1, w2, h5, h6⟩
  slen := b.slen.trans a.slen
theorem Go.elen (a : Go K e σ H G e' σ' H' G') (r : Rel K G e σ H) : e'.length = e.length := by
  rw [a.rel.len, a.slen, r.len]
end

/-! ### freezing -/
/-- the frame's own content as a value -/
def HO.of : Wd → List V → HO
  | _, xs => .lst xs
section
variable {K : PySem.W.Frag} {G H : Hp} {e : Fr} {σ : St}
/-- an own content that no slot holds becomes a value -/
theorem freeze {v : V} {w : Wd} (r : Rel K G e σ H) (h : WAt K G H v w) (n : w.mut = true → ∀ a, v = .ref a → ¬ OwnA e σ a) :
    ∃ G', Rel K G' e σ H ∧ Le G G' ∧ Dn K G' v w.dat ∧ ∀ a o, G' a = some o → G a = some o ∨ (w.mut = true ∧ v = .ref a) := by
  have main : ∀ (a : Addr) (o : HO), v = .ref a → H a = some o → G a = none → w.mut = true →
      Rel K (upd G a o) e σ H ∧ Le G (upd G a o) ∧ ∀ b u, upd G a o b = some u → G b = some u ∨ (w.mut = true ∧ v = .ref b) := by
    intro a o ev ho hg hm
    have le1 : Le G (upd G a o) := fun b u q => by
      rw [upd_ne (fun z => by rw [z, hg] at q; cases q)]; exact q
    have na : ¬ OwnA e σ a := n hm a ev
    refine ⟨⟨fun b u q => ?_, r.len, fun i w' hw => ?_, r.ap⟩, le1, fun b u q => ?_⟩
    · by_cases hb : b = a
      · subst hb; rw [upd_same] at q; cases q; exact ho
      · rw [upd_ne hb] at q; exact r.le b u q
    · obtain ⟨x, hx, q⟩ := r.at_ i w' hw
      refine ⟨x, hx, ?_⟩
      cases w' with
      | val d => exact Dn.mono le1 q
      | own l ds =>
        obtain ⟨b, xs, e1, e2, e3, e4⟩ := q
        have nb : b ≠ a := fun z => na ⟨i, _, hw, rfl, by rw [hx, e1, z]⟩
        exact ⟨b, xs, e1, e2, by rw [upd_ne nb]; exact e3, e4.mono le1⟩
      | ownK l ds =>
        obtain ⟨b, xs, e1, e2, e3, e4⟩ := q
        have nb : b ≠ a := fun z => na ⟨i, _, hw, rfl, by rw [hx, e1, z]⟩
        exact ⟨b, xs, e1, e2, by rw [upd_ne nb]; exact e3, e4.mono le1⟩
      | ownT l ds => exact q
    · by_cases hb : b = a
      · exact .inr ⟨hm, by rw [ev, hb]⟩
      · rw [upd_ne hb] at q; exact .inl q
  cases w with
  | val d => exact ⟨G, r, Le.refl _, h, fun a o q => .inl q⟩
  | own l ds =>
    obtain ⟨a, xs, e1, e2, e3, e4⟩ := h
    obtain ⟨m1, m2, m3⟩ := main a _ e1 e2 e3 rfl
    exact ⟨_, m1, m2, by rw [e1]; exact .lst upd_same (e4.mono m2), m3⟩
  | ownK l ds =>
    obtain ⟨a, xs, e1, e2, e3, e4⟩ := h
    obtain ⟨m1, m2, m3⟩ := main a _ e1 e2 e3 rfl
    exact ⟨_, m1, m2, by rw [e1]; exact .dic (.inl upd_same) (e4.mono m2), m3⟩
  | ownT l ds => exact False.elim h
end
end Fd

/-! Expressions over frames of data. -/
namespace Fd
open PySem PySem.Spec PyProof.Rows L2

/-- an exception, as data: its class's name, its fields -/
structure Xn where
  cls : Str
  fs : List (Str × D)

inductive Out (α : Type) where
  | ok (a : α) (e : Fr)
  | ex (x : Xn) (e : Fr)
  | bad
def Out.bind {α β : Type} : Out α → (α → Fr → Out β) → Out β
  | .ok a e, k => k a e
  | .ex x e, _ => .ex x e
  | .bad, _ => .bad
@[simp] theorem Out.bind_ok {α β : Type} (a : α) (e : Fr) (k : α → Fr → Out β) : (Out.ok a e).bind k = k a e := rfl
@[simp] theorem Out.bind_ex {α β : Type} (x : Xn) (e : Fr) (k : α → Fr → Out β) : (Out.ex x e).bind k = .ex x e := rfl
@[simp] theorem Out.bind_bad {α β : Type} (k : α → Fr → Out β) : (Out.bad : Out α).bind k = .bad := rfl

def XAt (K : PySem.W.Frag) (mg : Str → Option Value) (G H : Hp) (x : Xn) (c : Value) (d : Option Addr) : Prop :=
  ∃ C, mg x.cls = some (.ref C) ∧ c = .ref C ∧ (x.fs ≠ [] → ∃ dd fs, d = some dd ∧ H dd = some (.xd fs) ∧ DnF K G fs x.fs)
/-- a result: a value, or a new content that no slot holds -/
def RAt (K : PySem.W.Frag) (e : Fr) (σ : St) (H : Hp) (e' : Fr) (G' H' : Hp) (v : V) (w : Wd) : Prop :=
  WAt K G' H' v w ∧ (w.mut = true → ∀ a, v = .ref a → ¬ OwnA e' σ a ∧ (OwnA e σ a ∨ H a = none))

inductive AV where
  | d (x : D)
  | sl (i : Nat)
def AVAt (K : PySem.W.Frag) (G : Hp) (σ : St) (v : V) : AV → Prop
  | .d x => Dn K G v x
  | .sl i => σ[i]? = some (some v)
inductive AVA (K : PySem.W.Frag) (G : Hp) (σ : St) : List V → List AV → Prop
  | nil : AVA K G σ [] []
  | cons {v : V} {vs : List V} {a : AV} {as : List AV} : AVAt K G σ v a → AVA K G σ vs as → AVA K G σ (v :: vs) (a :: as)

section
variable (K : PySem.W.Frag) (mg : Str → Option Value) (W : WX)
def EPost (e : Fr) (σ : St) (H G : Hp) (o : Out Wd) (Q : VK) : Prop :=
  match o with
  | .ok w e' => ∀ v H' G', Go K e σ H G e' σ H' G' → RAt K e σ H e' G' H' v w → Q v H'
  | .ex x e' => ∀ c d H' G', Go K e σ H G e' σ H' G' → XAt K mg G' H' x c d → W c d σ H'
  | .bad => False
def ESem (t : TE) (f : Fr → Out Wd) : Prop := ∀ e σ H G Q, Rel K G e σ H → EPost K mg W e σ H G (f e) Q → t σ H Q
def VPost (e : Fr) (σ : St) (H G : Hp) (o : Out AV) (Q : VK) : Prop :=
  match o with
  | .ok w e' => ∀ v H' G', Go K e σ H G e' σ H' G' → AVAt K G' σ v w → Q v H'
  | .ex x e' => ∀ c d H' G', Go K e σ H G e' σ H' G' → XAt K mg G' H' x c d → W c d σ H'
  | .bad => False
def VSem (t : TE) (f : Fr → Out AV) : Prop := ∀ e σ H G Q, Rel K G e σ H → VPost K mg W e σ H G (f e) Q → t σ H Q
def APost (e : Fr) (σ : St) (H G : Hp) (o : Out (List AV)) (Q : List V → Hp → Prop) : Prop :=
  match o with
  | .ok w e' => ∀ v H' G', Go K e σ H G e' σ H' G' → AVA K G' σ v w → Q v H'
  | .ex x e' => ∀ c d H' G', Go K e σ H G e' σ H' G' → XAt K mg G' H' x c d → W c d σ H'
  | .bad => False
def ASem (t : TA) (f : Fr → Out (List AV)) : Prop := ∀ e σ H G Q, Rel K G e σ H → APost K mg W e σ H G (f e) Q → t σ H Q
def TPost (e : Fr) (σ : St) (H G : Hp) (o : Out Bool) (Q : Bool → Hp → Prop) : Prop :=
  match o with
  | .ok b e' => ∀ H' G', Go K e σ H G e' σ H' G' → Q b H'
  | .ex x e' => ∀ c d H' G', Go K e σ H G e' σ H' G' → XAt K mg G' H' x c d → W c d σ H'
  | .bad => False
def TSem (t : TT) (f : Fr → Out Bool) : Prop := ∀ e σ H G Q, Rel K G e σ H → TPost K mg W e σ H G (f e) Q → t σ H Q
end

/-- an expression does what f says -/
def DE (X : Cx) (W : WX) (ex : Expr) (f : Fr → Out Wd) : Prop := ∃ t, PE X ex t ∧ ESem X.K X.mg W t f
def DV (X : Cx) (W : WX) (ex : Expr) (f : Fr → Out AV) : Prop := ∃ t, PE X ex t ∧ VSem X.K X.mg W t f
def DA (X : Cx) (W : WX) (es : List Expr) (f : Fr → Out (List AV)) : Prop := ∃ t, PA X es t ∧ ASem X.K X.mg W t f
def DT (X : Cx) (W : WX) (ex : Expr) (f : Fr → Out Bool) : Prop := ∃ t, PT X ex t ∧ TSem X.K X.mg W t f
def DW (X : Cx) (W : WX) (ex : Expr) (f : Fr → Out Bool) : Prop := ∃ t, PW X ex t ∧ TSem X.K X.mg W t f

section
variable {K : PySem.W.Frag} {mg : Str → Option Value} {W : WX} {G H G' H' G2 H2 : Hp} {e e' e2 : Fr} {σ σ' σ2 : St}
theorem RAt.trans {v : V} {w : Wd} (a : Go K e σ H G e' σ H' G') (h : RAt K e' σ H' e2 G2 H2 v w) : RAt K e σ H e2 G2 H2 v w :=
  ⟨h.1, fun m b eb => ⟨(h.2 m b eb).1, by
    rcases (h.2 m b eb).2 with q | q
    · exact a.own b q
    · cases z : H b with
      | none => exact .inr rfl
      | some u =>
        by_cases hn : OwnA e σ b
        · exact .inl hn
        · rw [a.keep b u z hn] at q; cases q⟩⟩
theorem AVAt.mono {v : V} {a : AV} (l : Le G G') (h : AVAt K G σ v a) : AVAt K G' σ v a := by
  cases a with
  | d x => exact Dn.mono l h
  | sl i => exact h
theorem AVA.mono (l : Le G G') : ∀ {vs : List V} {as : List AV}, AVA K G σ vs as → AVA K G' σ vs as
  | _, _, .nil => .nil
  | _, _, .cons a r => .cons (a.mono l) (AVA.mono l r)
theorem EPost.trans {o : Out Wd} {Q : VK} (a : Go K e σ H G e' σ H' G') (h : EPost K mg W e σ H G o Q) : EPost K mg W e' σ H' G' o Q := by
  cases o with
  | ok w e2 => exact fun v H2 G2 b r => h v H2 G2 (a.trans b) (r.trans a)
  | ex x e2 => exact fun c d H2 G2 b r => h c d H2 G2 (a.trans b) r
  | bad => exact h
theorem VPost.trans {o : Out AV} {Q : VK} (a : Go K e σ H G e' σ H' G') (h : VPost K mg W e σ H G o Q) : VPost K mg W e' σ H' G' o Q := by
  cases o with
  | ok w e2 => exact fun v H2 G2 b r => h v H2 G2 (a.trans b) r
  | ex x e2 => exact fun c d H2 G2 b r => h c d H2 G2 (a.trans b) r
  | bad => exact h
theorem APost.trans {o : Out (List AV)} {Q : List V → Hp → Prop} (a : Go K e σ H G e' σ H' G') (h : APost K mg W e σ H G o Q) : APost K mg W e' σ H' G' o Q := by
  cases o with
  | ok w e2 => exact fun v H2 G2 b r => h v H2 G2 (a.trans b) r
  | ex x e2 => exact fun c d H2 G2 b r => h c d H2 G2 (a.trans b) r
  | bad => exact h
theorem TPost.trans {o : Out Bool} {Q : Bool → Hp → Prop} (a : Go K e σ H G e' σ H' G') (h : TPost K mg W e σ H G o Q) : TPost K mg W e' σ H' G' o Q := by
  cases o with
  | ok w e2 => exact fun H2 G2 b => h H2 G2 (a.trans b)
  | ex x e2 => exact fun c d H2 G2 b r => h c d H2 G2 (a.trans b) r
  | bad => exact h

/-! ### arguments -/
def aNil : Fr → Out (List AV) := fun e => .ok [] e
def aCons (fa : Fr → Out AV) (fr : Fr → Out (List AV)) : Fr → Out (List AV) := fun e => (fa e).bind fun a e1 => (fr e1).bind fun as e2 => .ok (a :: as) e2
def aV (f : Fr → Out Wd) : Fr → Out AV := fun e => (f e).bind fun w e1 => .ok (.d w.dat) e1
def aP (i : Nat) : Fr → Out AV := fun e => match e[i]? with | some (some _) => .ok (.sl i) e | _ => .bad
theorem vsem_val {t : TE} {f : Fr → Out Wd} (h : ESem K mg W t f) : VSem K mg W t (aV f) := by
  intro e σ H G Q r p
  refine h e σ H G Q r ?_
  unfold aV at p
  cases q : f e with
  | bad => rw [q] at p; exact p
  | ex x e1 => rw [q] at p; exact p
  | ok w e1 =>
    rw [q] at p
    intro v H1 G1 go rat
    obtain ⟨G2, r2, l2, d2, n2⟩ := freeze go.rel rat.1 fun m a ea => (rat.2 m a ea).1
    refine p v H1 G2 ⟨r2, go.keep, go.grow.trans l2, go.own, fun a o ha => ?_, go.lent, go.slen⟩ d2
    rcases n2 a o ha with z | ⟨m, ea⟩
    · exact go.gnew a o z
    · exact .inr (rat.2 m a ea).2
theorem vsem_peek {i : Nat} : VSem K mg W (tVar i) (aP i) := by
  intro e σ H G Q r p
  unfold aP at p
  cases q : e[i]? with
  | none => simp only [q] at p; exact False.elim p
  | some o =>
    cases o with
    | none => simp only [q] at p; exact False.elim p
    | some w =>
      simp only [q] at p
      obtain ⟨v, hv, _⟩ := r.at_ i w q
      exact ⟨v, hv, p v H G (Go.refl r) hv⟩
theorem asem_nil : ASem K mg W tNil aNil := fun e σ H G Q r p => p [] H G (Go.refl r) .nil
theorem asem_cons {t : TE} {tr : TA} {f : Fr → Out AV} {fr : Fr → Out (List AV)} (h : VSem K mg W t f) (hr : ASem K mg W tr fr) : ASem K mg W (tCons t tr) (aCons f fr) := by
  intro e σ H G Q r p
  refine h e σ H G _ r ?_
  unfold aCons at p
  cases q : f e with
  | bad => rw [q] at p; exact p
  | ex x e1 => rw [q] at p; exact p
  | ok a e1 =>
    rw [q] at p
    intro v H1 G1 go av
    refine hr e1 σ H1 G1 _ go.rel ?_
    have p2 := p
    simp only [Out.bind_ok] at p2
    cases q2 : fr e1 with
    | bad => rw [q2] at p2; exact p2
    | ex x e2 => rw [q2] at p2; exact fun c d H2 G2 g2 => p2 c d H2 G2 (go.trans g2)
    | ok as e2 =>
      rw [q2] at p2
      exact fun vs H2 G2 g2 avs => p2 (v :: vs) H2 G2 (go.trans g2) (.cons (av.mono g2.grow) avs)
end

section
variable {X : Cx} {W : WX}
theorem DE.v {ex : Expr} {f : Fr → Out Wd} (h : DE X W ex f) : DV X W ex (aV f) := let ⟨t, p, s⟩ := h; ⟨t, p, vsem_val s⟩
/-- a name's content, looked at where it is used -/
theorem dv_peek {i : Nat} {x : Str} {pos : Pos} (hp : PE X (.Name x pos) (tVar i)) : DV X W (.Name x pos) (aP i) := ⟨tVar i, hp, vsem_peek⟩
theorem da_nil : DA X W [] aNil := ⟨_, pa_nil, asem_nil⟩
theorem da_cons {ex : Expr} {es : List Expr} {f : Fr → Out AV} {fr : Fr → Out (List AV)} (h : DV X W ex f) (hr : DA X W es fr) (hs : starEach (ex :: es) X.env = (false, eval ex X.env) :: starEach es X.env := by rfl) :
    DA X W (ex :: es) (aCons f fr) := let ⟨_, p, s⟩ := h; let ⟨_, pr, sr⟩ := hr; ⟨_, pa_cons p pr hs, asem_cons s sr⟩
end
end Fd

/-! Names, constants, pure operations over frames of data. -/
namespace Fd
open PySem PySem.Spec PyProof.Rows L2

/-- new objects alone -/
structure Nw (G H G' H' : Hp) : Prop where
  le : Le H H'
  grow : Le G G'
  sub : Le G' H'
  new : ∀ a o, G' a = some o → G a = some o ∨ H a = none
section
variable {K : PySem.W.Frag} {mg : Str → Option Value} {W : WX} {G H G' H' G2 H2 : Hp} {e e' e2 : Fr} {σ σ' σ2 : St}
theorem Nw.refl (l : Le G H) : Nw G H G H := ⟨Le.refl _, Le.refl _, l, fun _ _ h => .inl h⟩
theorem WAt.later {v : V} {w : Wd} (n : Nw G H G' H') (h : WAt K G H v w) : WAt K G' H' v w := by
  have fr : ∀ {a : Addr} {o : HO}, H a = some o → G a = none → G' a = none := fun {a o} h1 h2 => by
    cases z : G' a with
    | none => rfl
    | some u =>
      rcases n.new a u z with q | q
      · rw [h2] at q; cases q
      · rw [h1] at q; cases q
  cases w with
  | val d => exact Dn.mono n.grow h
  | own l ds => obtain ⟨a, xs, h1, h2, h3, h4⟩ := h; exact ⟨a, xs, h1, n.le _ _ h2, fr h2 h3, h4.mono n.grow⟩
  | ownK l ds => obtain ⟨a, xs, h1, h2, h3, h4⟩ := h; exact ⟨a, xs, h1, n.le _ _ h2, fr h2 h3, h4.mono n.grow⟩
  | ownT l ds => exact h
theorem Rel.later (r : Rel K G e σ H) (n : Nw G H G' H') : Go K e σ H G e σ H' G' where
  rel := ⟨n.sub, r.len, fun i w h => let ⟨v, hv, q⟩ := r.at_ i w h; ⟨v, hv, q.later n⟩, r.ap⟩
  keep := fun a o h _ => n.le a o h
  grow := n.grow
  own := fun a h => .inl h
  gnew := fun a o h => (n.new a o h).imp id fun q => .inr q
  lent := fun i w h1 h2 => ⟨rfl, w, h1, h2⟩
  slen := rfl

/-- what a value stands for where it is looked at: a value, or an own content -/
def Dw (K : PySem.W.Frag) (G H : Hp) (v : V) (d : D) : Prop :=
  Dn K G v d ∨ (∃ a xs ds, v = .ref a ∧ d = .lst ds ∧ H a = some (.lst xs) ∧ DnA K G xs ds) ∨ (∃ a xs ds, v = .ref a ∧ d = .dic ds ∧ H a = some (.dK xs) ∧ DnK K G xs ds)
inductive DwA (K : PySem.W.Frag) (G H : Hp) : List V → List D → Prop
  | nil : DwA K G H [] []
  | cons {v : V} {vs : List V} {d : D} {ds : List D} : Dw K G H v d → DwA K G H vs ds → DwA K G H (v :: vs) (d :: ds)
/-- a rule by values does what g says -/
def RSem (K : PySem.W.Frag) (r : List V → Hp → VK → Prop) (g : List D → Option Wd) : Prop :=
  ∀ (G H : Hp) (vs : List V) (ds : List D) (w : Wd) (Q : VK), Le G H → DwA K G H vs ds → g ds = some w →
    (∀ v H' G', Nw G H G' H' → WAt K G' H' v w → (w.mut = true → ∀ a, v = .ref a → H a = none) → Q v H') → r vs H Q

def look (e : Fr) : AV → Option D
  | .d x => some x
  | .sl i => match e[i]? with | some (some (.ownT _ _)) => none | some (some w) => some w.dat | _ => none
def lookA (e : Fr) : List AV → Option (List D)
  | [] => some []
  | a :: as => match look e a, lookA e as with | some d, some ds => some (d :: ds) | _, _ => none
theorem look_at (r : Rel K G e σ H) {v : V} {a : AV} {d : D} (h : AVAt K G σ v a) (l : look e a = some d) : Dw K G H v d := by
  cases a with
  | d x => cases l; exact .inl h
  | sl i =>
    unfold look at l
    have hv : σ[i]? = some (some v) := h
    cases q : e[i]? with
    | none => simp only [q] at l; cases l
    | some o =>
      cases o with
      | none => simp only [q] at l; cases l
      | some w =>
        obtain ⟨v', hv', p⟩ := r.at_ i w q
        rw [hv] at hv'; cases hv'
        cases w with
        | val d => simp only [q] at l; cases l; exact .inl p
        | own b ds =>
          simp only [q] at l; cases l
          obtain ⟨a, xs, h1, h2, h3, h4⟩ := p
          exact .inr (.inl ⟨a, xs, ds, h1, rfl, h2, h4⟩)
        | ownK b ds =>
          simp only [q] at l; cases l
          obtain ⟨a, xs, h1, h2, h3, h4⟩ := p
          exact .inr (.inr ⟨a, xs, ds, h1, rfl, h2, h4⟩)
        | ownT b ds => simp only [q] at l; cases l
theorem lookA_at (r : Rel K G e σ H) : ∀ {vs : List V} {as : List AV} {ds : List D}, AVA K G σ vs as → lookA e as = some ds → DwA K G H vs ds
  | _, _, _, .nil, l => by cases l; exact .nil
  | _, _, ds, .cons (a := a) (as := as) h t, l => by
    unfold lookA at l
    cases q1 : look e a with
    | none => simp only [q1] at l; cases l
    | some d =>
      cases q2 : lookA e as with
      | none => simp only [q1, q2] at l; cases l
      | some ds' =>
        simp only [q1, q2] at l
        cases l
        exact .cons (look_at r h q1) (lookA_at r t q2)

/-- a pure operation on the values of arguments -/
def sB (g : List D → Option Wd) (fa : Fr → Out (List AV)) : Fr → Out Wd := fun e => (fa e).bind fun as e1 =>
  match lookA e1 as with
  | none => .bad
  | some ds => match g ds with
    | none => .bad
    | some w => .ok w e1
theorem esem_B {ta : TA} {fa : Fr → Out (List AV)} {r : List V → Hp → VK → Prop} {g : List D → Option Wd} {t : TE} (ha : ASem K mg W ta fa) (hr : RSem K r g) (ht : ∀ σ H Q, ta σ H (fun vs H1 => r vs H1 Q) → t σ H Q) :
    ESem K mg W t (sB g fa) := by
  intro e σ H G Q rl p
  refine ht σ H Q (ha e σ H G _ rl ?_)
  unfold sB at p
  cases q : fa e with
  | bad => rw [q] at p; exact p
  | ex x e1 => rw [q] at p; exact p
  | ok as e1 =>
    rw [q] at p
    simp only [Out.bind_ok] at p
    intro vs H1 G1 go av
    cases q2 : lookA e1 as with
    | none => simp only [q2] at p; exact False.elim p
    | some ds =>
      cases q3 : g ds with
      | none => simp only [q2, q3] at p; exact False.elim p
      | some w =>
        simp only [q2, q3] at p
        refine hr G1 H1 vs ds w Q go.rel.le (lookA_at go.rel av q2) q3 fun v H2 G2 n wa fresh => ?_
        have go2 := go.rel.later n
        refine p v H2 G2 (go.trans go2) ⟨wa, fun m a ea => ?_⟩
        have hn := fresh m a ea
        refine ⟨fun o => ?_, ?_⟩
        · obtain ⟨i, w', h1, h2, h3⟩ := o
          obtain ⟨v', hv', p'⟩ := go.rel.at_ i w' h1
          rw [h3] at hv'; cases hv'
          obtain ⟨b, eb, _, u, hu⟩ := p'.mut_ref h2
          cases eb
          rw [hn] at hu; cases hu
        · cases z : H a with
          | none => exact .inr rfl
          | some u =>
            by_cases ho : OwnA e σ a
            · exact .inl ho
            · rw [go.keep a u z ho] at hn; cases hn

/-! ### names -/
def sC (d : D) : Fr → Out Wd := fun e => .ok (.val d) e
theorem esem_C {v : V} {d : D} (h : ∀ G, Dn K G v d) : ESem K mg W (tC v) (sC d) := fun e σ H G Q r p => p v H G (Go.refl r) ⟨h G, fun m => nomatch m⟩
def sVar (i : Nat) : Fr → Out Wd := fun e => match e[i]? with
  | some (some (.val d)) => .ok (.val d) e
  | some (some (.own false ds)) => .ok (.val (.lst ds)) (e.set i (some (.val (.lst ds))))
  | some (some (.ownK false ds)) => .ok (.val (.dic ds)) (e.set i (some (.val (.dic ds))))
  | _ => .bad
theorem get_set {α : Type} {l : List α} {i j : Nat} {x y : α} (h : (l.set i x)[j]? = some y) : (j = i ∧ y = x) ∨ (j ≠ i ∧ l[j]? = some y) := by
  by_cases hj : j = i
  · subst hj
    by_cases hl : j < l.length
    · rw [List.getElem?_set_self hl] at h; cases h; exact .inl ⟨rfl, rfl⟩
    · rw [List.getElem?_eq_none (by simpa using hl)] at h; cases h
  · rw [List.getElem?_set_ne (Ne.symm hj)] at h
    exact .inr ⟨hj, h⟩
theorem owna_set {i : Nat} {d : D} {a : Addr} (h : OwnA (e.set i (some (.val d))) σ a) : OwnA e σ a := by
  obtain ⟨j, w, h1, h2, h3⟩ := h
  rcases get_set h1 with ⟨_, q⟩ | ⟨_, q⟩
  · cases q; cases h2
  · exact ⟨j, w, q, h2, h3⟩
/-- the own content of slot i becomes a value -/
theorem slot_freeze {i : Nat} {w : Wd} (r : Rel K G e σ H) (hi : e[i]? = some (some w)) (hl : w.lent = false) :
    ∃ G' v, σ[i]? = some (some v) ∧ Go K e σ H G (e.set i (some (.val w.dat))) σ H G' ∧ Dn K G' v w.dat := by
  obtain ⟨v, hv, q⟩ := r.at_ i w hi
  have hlt : i < e.length := (List.getElem?_eq_some_iff.mp hi).1
  -- the frame without the slot
  have r0 : Rel K G (e.set i none) σ H := ⟨r.le, by rw [List.length_set]; exact r.len, fun j w' h => by
      rcases get_set h with ⟨_, z⟩ | ⟨_, z⟩
      · cases z
      · exact r.at_ j w' z, fun j k w1 w2 a h1 h2 => by
      rcases get_set h1 with ⟨_, z⟩ | ⟨_, z⟩
      · cases z
      rcases get_set h2 with ⟨_, z2⟩ | ⟨_, z2⟩
      · cases z2
      exact r.ap j k w1 w2 a z z2⟩
  have no : w.mut = true → ∀ a, v = .ref a → ¬ OwnA (e.set i none) σ a := fun m a ea o => by
    obtain ⟨j, w', h1, h2, h3⟩ := o
    rcases get_set h1 with ⟨_, z⟩ | ⟨hj, z⟩
    · cases z
    · exact hj (r.ap j i w' w a z hi h2 m h3 (by rw [hv, ea]))
  obtain ⟨G', r1, l1, d1, n1⟩ := freeze r0 q no
  refine ⟨G', v, hv, ⟨⟨r1.le, by rw [List.length_set]; exact r.len, fun j w' h => ?_, fun j k w1 w2 a h1 h2 m1 m2 => ?_⟩, fun a o h _ => h, l1, fun a h => .inl (owna_set h), fun a o h => ?_, fun j w' h1 h2 => ?_, rfl⟩, d1⟩
  · rcases get_set h with ⟨ej, z⟩ | ⟨hj, z⟩
    · cases z; subst ej; exact ⟨v, hv, d1⟩
    · exact r1.at_ j w' (by rw [List.getElem?_set_ne (Ne.symm hj)]; exact z)
  · rcases get_set h1 with ⟨_, z⟩ | ⟨_, z⟩
    · cases z; cases m1
    rcases get_set h2 with ⟨_, z2⟩ | ⟨_, z2⟩
    · cases z2; cases m2
    exact r.ap j k w1 w2 a z z2 m1 m2
  · rcases n1 a o h with z | ⟨m, ea⟩
    · exact .inl z
    · exact .inr (.inl ⟨i, w, hi, m, by rw [hv, ea]⟩)
  · have hj : j ≠ i := fun z => by subst z; rw [hi] at h1; cases h1; rw [hl] at h2; cases h2
    exact ⟨rfl, w', by rw [List.getElem?_set_ne (Ne.symm hj)]; exact h1, h2⟩
theorem esem_var {i : Nat} : ESem K mg W (tVar i) (sVar i) := by
  intro e σ H G Q r p
  unfold sVar at p
  have own : ∀ w : Wd, e[i]? = some (some w) → w.lent = false → EPost K mg W e σ H G (.ok (.val w.dat) (e.set i (some (.val w.dat)))) Q → tVar i σ H Q := fun w hw hl p => by
    obtain ⟨G', v, hv, go, d⟩ := slot_freeze r hw hl
    exact ⟨v, hv, p v H G' go ⟨d, fun m => nomatch m⟩⟩
  cases q : e[i]? with
  | none => simp only [q] at p; exact False.elim p
  | some o =>
    cases o with
    | none => simp only [q] at p; exact False.elim p
    | some w =>
      cases w with
      | val d =>
        simp only [q] at p
        obtain ⟨v, hv, z⟩ := r.at_ i _ q
        exact ⟨v, hv, p v H G (Go.refl r) ⟨z, fun m => nomatch m⟩⟩
      | own b ds =>
        cases b with
        | true => simp only [q] at p; exact False.elim p
        | false => simp only [q] at p; exact own _ q rfl p
      | ownK b ds =>
        cases b with
        | true => simp only [q] at p; exact False.elim p
        | false => simp only [q] at p; exact own _ q rfl p
      | ownT b ds => simp only [q] at p; exact False.elim p
end

section
variable {X : Cx} {W : WX}
theorem de_var {i : Nat} {x : Str} {pos : Pos} (hp : PE X (.Name x pos) (tVar i)) : DE X W (.Name x pos) (sVar i) := ⟨_, hp, esem_var⟩
theorem de_int {i : Int} {j pos} : DE X W (.Constant (.int i) j pos) (sC (.int i)) := ⟨_, pe_int, esem_C fun _ => .int i⟩
theorem de_bl {b j pos} : DE X W (.Constant (.bool b) j pos) (sC (.bl b)) := ⟨_, pe_bl, esem_C fun _ => .bl b⟩
theorem de_non {j pos} : DE X W (.Constant .none j pos) (sC .non) := ⟨_, pe_non, esem_C fun _ => .non⟩
theorem de_str {x j pos} : DE X W (.Constant (.str x) j pos) (sC (.str x)) := ⟨_, pe_str, esem_C fun _ => .str x⟩
/-- a constant of the module, an int or the like -/
theorem de_glob {x : Str} {v : V} {d : D} {u : Value} {pos : Pos} (hg : Gl X x) (hm : X.mg x = some u) (r : RelV v u) (h : ∀ G, Dn X.K G v d) (hd : (x == ("__debug__" : Str)) = false := by decide) : DE X W (.Name x pos) (sC d) :=
  ⟨_, pe_glob hg hm r hd, esem_C h⟩
theorem de_bltn {x : Str} {v : V} {d : D} {u : Value} {pos : Pos} (hg : Gl X x) (hm : X.mg x = none) (hv : bootBuiltins x = some u) (r : RelV v u) (h : ∀ G, Dn X.K G v d) (hn : x ≠ "__name__" := by decide) (hd : (x == ("__debug__" : Str)) = false := by decide) :
    DE X W (.Name x pos) (sC d) := ⟨_, pe_bltn hg hm hv r hn hd, esem_C h⟩

/-- a binary operation's, a comparison's rule by values as one of argument lists -/
def r2l (r : R2) : List V → Hp → VK → Prop := fun vs H Q => match vs with | [x, y] => r x y H Q | _ => False
def r1l (r : V → Hp → VK → Prop) : List V → Hp → VK → Prop := fun vs H Q => match vs with | [x] => r x H Q | _ => False
theorem de_bin {a b : Expr} {op : Operator} {pos : Pos} {r : R2} {g : List D → Option Wd} {fa fb : Fr → Out AV} (ho : OpR X (binaryOp op) r) (hr : RSem X.K (r2l r) g) (ha : DV X W a fa) (hb : DV X W b fb) :
    DE X W (.BinOp a op b pos) (sB g (aCons fa (aCons fb aNil))) :=
  let ⟨_, pa, sa⟩ := ha; let ⟨_, pb, sb⟩ := hb
  ⟨_, pe_op ho pa pb, esem_B (asem_cons sa (asem_cons sb asem_nil)) hr fun _ _ _ h => h⟩
theorem de_un {a : Expr} {op : UnaryOp} {pos : Pos} {r : V → Hp → VK → Prop} {g : List D → Option Wd} {fa : Fr → Out AV} (ho : UnR X (unaryOp op) r) (hr : RSem X.K (r1l r) g) (ha : DV X W a fa) :
    DE X W (.UnaryOp op a pos) (sB g (aCons fa aNil)) :=
  let ⟨_, pa, sa⟩ := ha
  ⟨_, pe_un ho pa, esem_B (asem_cons sa asem_nil) hr fun _ _ _ h => h⟩
theorem de_cmp {a b : Expr} {op : CmpOp} {pos : Pos} {r : R2} {g : List D → Option Wd} {fa fb : Fr → Out AV} (ho : OpR X (compareOp op) r) (hr : RSem X.K (r2l r) g) (hm : behindInMarks op b = false) (ha : DV X W a fa) (hb : DV X W b fb) :
    DE X W (.Compare a [op] [b] pos) (sB g (aCons fa (aCons fb aNil))) :=
  let ⟨_, pa, sa⟩ := ha; let ⟨_, pb, sb⟩ := hb
  ⟨_, pe_cmpR ho pa pb hm, esem_B (asem_cons sa (asem_cons sb asem_nil)) hr fun _ _ _ h => h⟩
theorem de_ix {a b : Expr} {pos : Pos} {r : R2} {g : List D → Option Wd} {fa fb : Fr → Out AV} (ho : IxR X r) (hr : RSem X.K (r2l r) g) (hs : PlainIx b) (ha : DV X W a fa) (hb : DV X W b fb) :
    DE X W (.Subscript a b pos) (sB g (aCons fa (aCons fb aNil))) :=
  let ⟨_, pa, sa⟩ := ha; let ⟨_, pb, sb⟩ := hb
  ⟨_, pe_ix ho pa pb hs, esem_B (asem_cons sa (asem_cons sb asem_nil)) hr fun _ _ _ h => h⟩
theorem de_callB {x : Str} {p pos : Pos} {id : String} {ex : Expr} {es : List Expr} {r : List V → Hp → VK → Prop} {g : List D → Option Wd} {fa : Fr → Out (List AV)} (hc : CallR X (.builtin id) r) (hr : RSem X.K r g) (hg : Gl X x) (hm : X.mg x = none)
    (hv : bootBuiltins x = some (.builtin id)) (ha : DA X W (ex :: es) fa) (hn : x ≠ "__name__" := by decide) (hdb : (x == ("__debug__" : Str)) = false := by decide)
    (he : starEach (ex :: es) X.env = (false, eval ex X.env) :: starEach es X.env := by rfl) (hpl : (backTo pos (starEach es X.env)).any (·.1) = false := by rfl) :
    DE X W (.Call (.Name x p) (ex :: es) [] pos) (sB g fa) :=
  let ⟨_, pa, sa⟩ := ha
  ⟨_, pe_callB hc hg hm hv pa hn hdb he hpl, esem_B sa hr fun _ _ _ h => h⟩
theorem de_callTy {x : Str} {p pos : Pos} {T : String} {ex : Expr} {es : List Expr} {r : List V → Hp → VK → Prop} {g : List D → Option Wd} {fa : Fr → Out (List AV)} (hc : CallR X (.type T) r) (hr : RSem X.K r g) (hg : Gl X x) (hm : X.mg x = none)
    (hv : bootBuiltins x = some (.type T)) (ha : DA X W (ex :: es) fa) (hn : x ≠ "__name__" := by decide) (hdb : (x == ("__debug__" : Str)) = false := by decide)
    (he : starEach (ex :: es) X.env = (false, eval ex X.env) :: starEach es X.env := by rfl) (hpl : (backTo pos (starEach es X.env)).any (·.1) = false := by rfl) :
    DE X W (.Call (.Name x p) (ex :: es) [] pos) (sB g fa) :=
  let ⟨_, pa, sa⟩ := ha
  ⟨_, pe_callTy hc hg hm hv pa hn hdb he hpl, esem_B sa hr fun _ _ _ h => h⟩

/-! ### displays -/
theorem DwA.vals {K : PySem.W.Frag} {mg : Str → Option Value} {G : Hp} {σ : St} : ∀ {vs : List V} {xs : List D}, AVA K G σ vs (xs.map AV.d) → DnA K G vs xs
  | _, [], h => by cases h; exact .nil
  | _, _ :: _, h => by cases h with | cons a r => exact .cons a (DwA.vals (mg := mg) r)
end
end Fd

/-! Tests, displays, slices over frames of data. -/
namespace Fd
open PySem PySem.Spec PyProof.Rows L2

def sT (f : Fr → Out Wd) : Fr → Out Bool := fun e => (f e).bind fun w e1 => match w with | .val (.bl b) => .ok b e1 | _ => .bad
def sAnd (f g : Fr → Out Bool) : Fr → Out Bool := fun e => (f e).bind fun b e1 => if b = true then g e1 else .ok false e1
def sOr (f g : Fr → Out Bool) : Fr → Out Bool := fun e => (f e).bind fun b e1 => if b = true then .ok true e1 else g e1
def sNot (f : Fr → Out Bool) : Fr → Out Bool := fun e => (f e).bind fun b e1 => .ok (!b) e1
def sIfE (c : Fr → Out Bool) (f g : Fr → Out Wd) : Fr → Out Wd := fun e => (c e).bind fun b e1 => if b = true then f e1 else g e1
def sAndV (f g : Fr → Out Wd) : Fr → Out Wd := fun e => (f e).bind fun w e1 => match w with | .val (.bl b) => if b = true then g e1 else .ok (.val (.bl false)) e1 | _ => .bad
def sOrV (f g : Fr → Out Wd) : Fr → Out Wd := fun e => (f e).bind fun w e1 => match w with | .val (.bl b) => if b = true then .ok (.val (.bl true)) e1 else g e1 | _ => .bad
def sNotV (f : Fr → Out Wd) : Fr → Out Wd := fun e => (f e).bind fun w e1 => match w with | .val (.bl b) => .ok (.val (.bl (!b))) e1 | _ => .bad
def sChain (g g' : List D → Option Wd) (fa fb fc : Fr → Out AV) : Fr → Out Wd := fun e => (aCons fa (aCons fb aNil) e).bind fun as e2 => match as with
  | [a, b] => match look e2 a, look e2 b with
    | some x, some y => match g [x, y] with
      | some (.val (.bl k)) => if k = true then (fc e2).bind fun c e3 => match look e3 b, look e3 c with
          | some y', some z => match g' [y', z] with
            | some w => .ok w e3
            | none => .bad
          | _, _ => .bad
        else .ok (.val (.bl false)) e2
      | _ => .bad
    | _, _ => .bad
  | _ => .bad

section
variable {K : PySem.W.Frag} {mg : Str → Option Value} {W : WX} {G H G' H' G2 H2 : Hp} {e e' e2 : Fr} {σ σ' σ2 : St}
theorem tsem_val {t : TE} {f : Fr → Out Wd} (h : ESem K mg W t f) : TSem K mg W (tB t) (sT f) := by
  intro e σ H G Q r p
  refine h e σ H G _ r ?_
  unfold sT at p
  cases q : f e with
  | bad => rw [q] at p; exact p
  | ex x e1 => rw [q] at p; exact p
  | ok w e1 =>
    rw [q] at p
    simp only [Out.bind_ok] at p
    intro v H1 G1 go ra
    cases w with
    | val d =>
      cases d with
      | bl b => obtain rfl := Dn.bl_inv ra.1; exact ⟨b, rfl, p H1 G1 go⟩
      | _ => exact False.elim p
    | _ => exact False.elim p
theorem tsem_and {t u : TT} {f g : Fr → Out Bool} (h : TSem K mg W t f) (k : TSem K mg W u g) : TSem K mg W (tAnd t u) (sAnd f g) := by
  intro e σ H G Q r p
  refine h e σ H G _ r ?_
  unfold sAnd at p
  cases q : f e with
  | bad => rw [q] at p; exact p
  | ex x e1 => rw [q] at p; exact p
  | ok b e1 =>
    rw [q] at p
    simp only [Out.bind_ok] at p
    intro H1 G1 go
    cases b with
    | true => rw [if_pos rfl]; rw [if_pos rfl] at p; exact k e1 σ H1 G1 Q go.rel (p.trans go)
    | false => rw [if_neg Bool.false_ne_true]; rw [if_neg Bool.false_ne_true] at p; exact p H1 G1 go
theorem tsem_or {t u : TT} {f g : Fr → Out Bool} (h : TSem K mg W t f) (k : TSem K mg W u g) : TSem K mg W (tOr t u) (sOr f g) := by
  intro e σ H G Q r p
  refine h e σ H G _ r ?_
  unfold sOr at p
  cases q : f e with
  | bad => rw [q] at p; exact p
  | ex x e1 => rw [q] at p; exact p
  | ok b e1 =>
    rw [q] at p
    simp only [Out.bind_ok] at p
    intro H1 G1 go
    cases b with
    | true => rw [if_pos rfl]; rw [if_pos rfl] at p; exact p H1 G1 go
    | false => rw [if_neg Bool.false_ne_true]; rw [if_neg Bool.false_ne_true] at p; exact k e1 σ H1 G1 Q go.rel (p.trans go)
theorem tsem_not {t : TT} {f : Fr → Out Bool} (h : TSem K mg W t f) : TSem K mg W (tNot t) (sNot f) := by
  intro e σ H G Q r p
  refine h e σ H G _ r ?_
  unfold sNot at p
  cases q : f e with
  | bad => rw [q] at p; exact p
  | ex x e1 => rw [q] at p; exact p
  | ok b e1 =>
    rw [q] at p
    exact fun H1 G1 go => p H1 G1 go
theorem esem_if {c : TT} {t u : TE} {fc : Fr → Out Bool} {f g : Fr → Out Wd} (hc : TSem K mg W c fc) (h : ESem K mg W t f) (k : ESem K mg W u g) : ESem K mg W (tIf c t u) (sIfE fc f g) := by
  intro e σ H G Q r p
  refine hc e σ H G _ r ?_
  unfold sIfE at p
  cases q : fc e with
  | bad => rw [q] at p; exact p
  | ex x e1 => rw [q] at p; exact p
  | ok b e1 =>
    rw [q] at p
    simp only [Out.bind_ok] at p
    intro H1 G1 go
    cases b with
    | true => rw [if_pos rfl]; rw [if_pos rfl] at p; exact h e1 σ H1 G1 Q go.rel (p.trans go)
    | false => rw [if_neg Bool.false_ne_true]; rw [if_neg Bool.false_ne_true] at p; exact k e1 σ H1 G1 Q go.rel (p.trans go)
theorem esem_andV {t u : TE} {f g : Fr → Out Wd} (h : ESem K mg W t f) (k : ESem K mg W u g) : ESem K mg W (tAndV t u) (sAndV f g) := by
  intro e σ H G Q r p
  refine h e σ H G _ r ?_
  unfold sAndV at p
  cases q : f e with
  | bad => rw [q] at p; exact p
  | ex x e1 => rw [q] at p; exact p
  | ok w e1 =>
    rw [q] at p
    simp only [Out.bind_ok] at p
    intro v H1 G1 go ra
    cases w with
    | val d =>
      cases d with
      | bl b =>
        obtain rfl := Dn.bl_inv ra.1
        refine ⟨b, rfl, ?_⟩
        cases b with
        | true => rw [if_pos rfl]; simp only [if_pos] at p; exact k e1 σ H1 G1 Q go.rel (p.trans go)
        | false => rw [if_neg Bool.false_ne_true]; simp only [if_neg Bool.false_ne_true] at p; exact p _ H1 G1 go ⟨.bl false, fun m => nomatch m⟩
      | _ => exact False.elim p
    | _ => exact False.elim p
theorem esem_orV {t u : TE} {f g : Fr → Out Wd} (h : ESem K mg W t f) (k : ESem K mg W u g) : ESem K mg W (tOrV t u) (sOrV f g) := by
  intro e σ H G Q r p
  refine h e σ H G _ r ?_
  unfold sOrV at p
  cases q : f e with
  | bad => rw [q] at p; exact p
  | ex x e1 => rw [q] at p; exact p
  | ok w e1 =>
    rw [q] at p
    simp only [Out.bind_ok] at p
    intro v H1 G1 go ra
    cases w with
    | val d =>
      cases d with
      | bl b =>
        obtain rfl := Dn.bl_inv ra.1
        refine ⟨b, rfl, ?_⟩
        cases b with
        | true => rw [if_pos rfl]; simp only [if_pos] at p; exact p _ H1 G1 go ⟨.bl true, fun m => nomatch m⟩
        | false => rw [if_neg Bool.false_ne_true]; simp only [if_neg Bool.false_ne_true] at p; exact k e1 σ H1 G1 Q go.rel (p.trans go)
      | _ => exact False.elim p
    | _ => exact False.elim p
theorem esem_notV {t : TE} {f : Fr → Out Wd} (h : ESem K mg W t f) : ESem K mg W (tNotV t) (sNotV f) := by
  intro e σ H G Q r p
  refine h e σ H G _ r ?_
  unfold sNotV at p
  cases q : f e with
  | bad => rw [q] at p; exact p
  | ex x e1 => rw [q] at p; exact p
  | ok w e1 =>
    rw [q] at p
    simp only [Out.bind_ok] at p
    intro v H1 G1 go ra
    cases w with
    | val d =>
      cases d with
      | bl b => obtain rfl := Dn.bl_inv ra.1; exact ⟨b, rfl, p _ H1 G1 go ⟨.bl _, fun m => nomatch m⟩⟩
      | _ => exact False.elim p
    | _ => exact False.elim p
/-- what a pure step behind a state leaves -/
theorem RAt.fresh {v : V} {w : Wd} (r : Rel K G e σ H) (n : Nw G H G' H') (wa : WAt K G' H' v w) (fr : w.mut = true → ∀ a, v = .ref a → H a = none) : RAt K e σ H e G' H' v w := by
  refine ⟨wa, fun m a ea => ⟨fun o => ?_, .inr (fr m a ea)⟩⟩
  obtain ⟨i, w', h1, h2, h3⟩ := o
  obtain ⟨v', hv', p'⟩ := r.at_ i w' h1
  rw [h3] at hv'
  cases hv'
  obtain ⟨b, eb, _, u, hu⟩ := p'.mut_ref h2
  cases eb
  rw [fr m a ea] at hu
  cases hu
theorem esem_chain {r r' : R2} {ta tb tc : TE} {g g' : List D → Option Wd} {fa fb fc : Fr → Out AV} (ha : VSem K mg W ta fa) (hb : VSem K mg W tb fb) (hc : VSem K mg W tc fc) (hr : RSem K (r2l r) g) (hr' : RSem K (r2l r') g') :
    ESem K mg W (tChain r r' ta tb tc) (sChain g g' fa fb fc) := by
  intro e σ H G Q rl p
  refine (asem_cons ha (asem_cons hb asem_nil)) e σ H G (fun vs H2 => match vs with | [x, y] => r x y H2 (fun z H3 => ∃ k, z = .bl k ∧ (if k = true then tc σ H3 fun w' H4 => r' y w' H4 Q else Q (.bl false) H3)) | _ => False) rl ?_
  unfold sChain at p
  cases q : aCons fa (aCons fb aNil) e with
  | bad => rw [q] at p; exact p
  | ex x e1 => rw [q] at p; exact p
  | ok as e2 =>
    rw [q] at p
    simp only [Out.bind_ok] at p
    intro vs H2 G2 go av
    cases av with
    | nil => exact False.elim p
    | cons h1 t1 =>
      rename_i v1 vs1 a1 as1
      cases t1 with
      | nil => exact False.elim p
      | cons h2 t2 =>
        rename_i v2 vs2 a2 as2
        cases t2 with
        | cons _ _ => exact False.elim p
        | nil =>
          simp only at p
          cases l1 : look e2 a1 with
          | none => simp only [l1] at p; exact False.elim p
          | some x =>
          cases l2 : look e2 a2 with
          | none => simp only [l1, l2] at p; exact False.elim p
          | some y =>
          simp only [l1, l2] at p
          cases gx : g [x, y] with
          | none => simp only [gx] at p; exact False.elim p
          | some w =>
          simp only [gx] at p
          have R := hr G2 H2 [v1, v2] [x, y] w (fun z H3 => ∃ k, z = .bl k ∧ (if k = true then tc σ H3 fun w' H4 => r' v2 w' H4 Q else Q (.bl false) H3)) go.rel.le (.cons (look_at go.rel h1 l1) (.cons (look_at go.rel h2 l2) .nil)) gx
          refine R fun v H3 G3 n wa fr => ?_
          have go3 := go.trans (go.rel.later n)
          cases w with
          | val d =>
            cases d with
            | bl k =>
              obtain rfl := Dn.bl_inv wa
              refine ⟨k, rfl, ?_⟩
              cases k with
              | false => rw [if_neg Bool.false_ne_true]; simp only [if_neg Bool.false_ne_true] at p; exact p _ H3 G3 go3 ⟨.bl false, fun m => nomatch m⟩
              | true =>
                rw [if_pos rfl]; simp only [if_pos] at p
                refine hc e2 σ H3 G3 _ go3.rel ?_
                cases q3 : fc e2 with
                | bad => rw [q3] at p; exact p
                | ex x e3 => rw [q3] at p; exact fun c d H4 G4 g4 => p c d H4 G4 (go3.trans g4)
                | ok c e3 =>
                  rw [q3] at p
                  simp only [Out.bind_ok] at p
                  intro v3 H4 G4 go4 h3
                  cases l3 : look e3 a2 with
                  | none => simp only [l3] at p; exact False.elim p
                  | some y' =>
                  cases l4 : look e3 c with
                  | none => simp only [l3, l4] at p; exact False.elim p
                  | some z =>
                  simp only [l3, l4] at p
                  cases gz : g' [y', z] with
                  | none => simp only [gz] at p; exact False.elim p
                  | some w' =>
                  simp only [gz] at p
                  have h2' : AVAt K G4 σ v2 a2 := (h2.mono n.grow).mono go4.grow
                  refine hr' G4 H4 [v2, v3] [y', z] w' Q go4.rel.le (.cons (look_at go4.rel h2' l3) (.cons (look_at go4.rel h3 l4) .nil)) gz fun u H5 G5 n5 wa5 fr5 => ?_
                  have go5 := (go3.trans go4).trans (go4.rel.later n5)
                  exact p u H5 G5 go5 (RAt.trans (go3.trans go4) (RAt.fresh go4.rel n5 wa5 fr5))
            | _ => exact False.elim p
          | _ => exact False.elim p
end

section
variable {X : Cx} {W : WX}
theorem dt_val {ex : Expr} {f : Fr → Out Wd} (h : DE X W ex f) (he : ∀ whole, isTrue ex X.env whole = (do let v ← whole; standAt ex.pos; holding [v] (truthy v)) := by intro _; rfl) : DT X W ex (sT f) :=
  let ⟨_, p, s⟩ := h; ⟨_, pt_val p he, tsem_val s⟩
theorem dt_cmp {a b : Expr} {op : CmpOp} {pos : Pos} {r : R2} {g : List D → Option Wd} {fa fb : Fr → Out AV} (ho : OpR X (compareOp op) r) (hr : RSem X.K (r2l r) g) (hm : behindInMarks op b = false) (ha : DV X W a fa) (hb : DV X W b fb) :
    DT X W (.Compare a [op] [b] pos) (sT (sB g (aCons fa (aCons fb aNil)))) :=
  let ⟨_, pa, sa⟩ := ha; let ⟨_, pb, sb⟩ := hb
  ⟨_, pt_cmpR ho pa pb hm, tsem_val (esem_B (asem_cons sa (asem_cons sb asem_nil)) hr fun _ _ _ h => h)⟩
theorem dt_chain {a b c : Expr} {op op' : CmpOp} {pos : Pos} {r r' : R2} {g g' : List D → Option Wd} {fa fb fc : Fr → Out AV} (ho : OpR X (compareOp op) r) (ho' : OpR X (compareOp op') r') (hr : RSem X.K (r2l r) g) (hr' : RSem X.K (r2l r') g')
    (ha : DV X W a fa) (hb : DV X W b fb) (hc : DV X W c fc) (hm : lastMarks [op, op'] [b, c] = false := by with_unfolding_all rfl) : DT X W (.Compare a [op, op'] [b, c] pos) (sT (sChain g g' fa fb fc)) :=
  let ⟨_, pa, sa⟩ := ha; let ⟨_, pb, sb⟩ := hb; let ⟨_, pc, sc⟩ := hc
  ⟨_, pt_chain ho ho' pa pb pc hm, tsem_val (esem_chain sa sb sc hr hr')⟩
theorem de_chain {a b c : Expr} {op op' : CmpOp} {pos : Pos} {r r' : R2} {g g' : List D → Option Wd} {fa fb fc : Fr → Out AV} (ho : OpR X (compareOp op) r) (ho' : OpR X (compareOp op') r') (hr : RSem X.K (r2l r) g) (hr' : RSem X.K (r2l r') g')
    (ha : DV X W a fa) (hb : DV X W b fb) (hc : DV X W c fc) (hm : lastMarks [op, op'] [b, c] = false := by with_unfolding_all rfl) : DE X W (.Compare a [op, op'] [b, c] pos) (sChain g g' fa fb fc) :=
  let ⟨_, pa, sa⟩ := ha; let ⟨_, pb, sb⟩ := hb; let ⟨_, pc, sc⟩ := hc
  ⟨_, pe_chain ho ho' pa pb pc hm, esem_chain sa sb sc hr hr'⟩
theorem DW.t {ex : Expr} {f : Fr → Out Bool} (h : DW X W ex f) : DT X W ex f := let ⟨_, p, s⟩ := h; ⟨_, p.pt, s⟩
theorem dw_and1 {a : Expr} {pos : Pos} {f : Fr → Out Bool} (h : DT X W a f) : DW X W (.BoolOp .And [a] pos) f := let ⟨_, p, s⟩ := h; ⟨_, pw_and1 p, s⟩
theorem dw_or1 {a : Expr} {pos : Pos} {f : Fr → Out Bool} (h : DT X W a f) : DW X W (.BoolOp .Or [a] pos) f := let ⟨_, p, s⟩ := h; ⟨_, pw_or1 p, s⟩
theorem dw_and {a b : Expr} {rest : List Expr} {pos : Pos} {f g : Fr → Out Bool} (h : DT X W a f) (k : DW X W (.BoolOp .And (b :: rest) pos) g) : DW X W (.BoolOp .And (a :: b :: rest) pos) (sAnd f g) :=
  let ⟨_, p, s⟩ := h; let ⟨_, q, u⟩ := k; ⟨_, pw_and p q, tsem_and s u⟩
theorem dw_or {a b : Expr} {rest : List Expr} {pos : Pos} {f g : Fr → Out Bool} (h : DT X W a f) (k : DW X W (.BoolOp .Or (b :: rest) pos) g) : DW X W (.BoolOp .Or (a :: b :: rest) pos) (sOr f g) :=
  let ⟨_, p, s⟩ := h; let ⟨_, q, u⟩ := k; ⟨_, pw_or p q, tsem_or s u⟩
theorem dt_not {a : Expr} {pos : Pos} {f : Fr → Out Bool} (h : DT X W a f) : DT X W (.UnaryOp .Not a pos) (sNot f) := let ⟨_, p, s⟩ := h; ⟨_, pt_not p, tsem_not s⟩
theorem de_one {a : Expr} {op : BoolOp} {pos : Pos} {f : Fr → Out Wd} (h : DE X W a f) : DE X W (.BoolOp op [a] pos) f := let ⟨_, p, s⟩ := h; ⟨_, pe_one p, s⟩
theorem de_and {a b : Expr} {rest : List Expr} {pos : Pos} {f g : Fr → Out Wd} (h : DE X W a f) (k : DE X W (.BoolOp .And (b :: rest) pos) g) : DE X W (.BoolOp .And (a :: b :: rest) pos) (sAndV f g) :=
  let ⟨_, p, s⟩ := h; let ⟨_, q, u⟩ := k; ⟨_, pe_and p q, esem_andV s u⟩
theorem de_or {a b : Expr} {rest : List Expr} {pos : Pos} {f g : Fr → Out Wd} (h : DE X W a f) (k : DE X W (.BoolOp .Or (b :: rest) pos) g) : DE X W (.BoolOp .Or (a :: b :: rest) pos) (sOrV f g) :=
  let ⟨_, p, s⟩ := h; let ⟨_, q, u⟩ := k; ⟨_, pe_or p q, esem_orV s u⟩
theorem de_not {a : Expr} {pos : Pos} {f : Fr → Out Wd} (h : DE X W a f) : DE X W (.UnaryOp .Not a pos) (sNotV f) := let ⟨_, p, s⟩ := h; ⟨_, pe_not p, esem_notV s⟩
theorem de_ifE {c a b : Expr} {pos : Pos} {fc : Fr → Out Bool} {f g : Fr → Out Wd} (hc : DT X W c fc) (h : DE X W a f) (k : DE X W b g) : DE X W (.IfExp c a b pos) (sIfE fc f g) :=
  let ⟨_, p, s⟩ := hc; let ⟨_, q, u⟩ := h; let ⟨_, q', u'⟩ := k; ⟨_, pe_ifExp p q q', esem_if s u u'⟩
end
end Fd

/-! Displays, slices, calls of the text's own defs over frames of data. -/
namespace Fd
open PySem PySem.Spec PyProof.Rows L2

def avD : List AV → Option (List D)
  | [] => some []
  | .d x :: as => (avD as).map (x :: ·)
  | .sl _ :: _ => none
theorem avD_at {K : PySem.W.Frag} {G : Hp} {σ : St} : ∀ {vs : List V} {as : List AV} {ds : List D}, AVA K G σ vs as → avD as = some ds → DnA K G vs ds
  | _, _, _, .nil, l => by cases l; exact .nil
  | _, _, ds, .cons (a := a) (as := as) h t, l => by
    cases a with
    | sl i => cases l
    | d x =>
      unfold avD at l
      cases q : avD as with
      | none => rw [q] at l; cases l
      | some ds' =>
        rw [q] at l; cases l
        exact .cons h (avD_at t q)
/-- a tuple, a list of written items -/
def sTup (fa : Fr → Out (List AV)) : Fr → Out Wd := fun e => (fa e).bind fun as e1 => match avD as with | some ds => if ds.length ≤ 1000 then .ok (.val (.tup ds)) e1 else .bad | none => .bad
def sLst (fa : Fr → Out (List AV)) : Fr → Out Wd := fun e => (fa e).bind fun as e1 => match avD as with | some ds => if ds.length ≤ 1000 then .ok (.own false ds) e1 else .bad | none => .bad
section
variable {K : PySem.W.Frag} {mg : Str → Option Value} {W : WX} {G H G' H' G2 H2 : Hp} {e e' e2 : Fr} {σ σ' σ2 : St}
theorem le1000 {n : Nat} (h : n ≤ 1000) : n ≤ sizeLine := Nat.le_trans h (by rw [sizeLine_eq]; decide)
theorem nw_tup {a : Addr} {o : HO} (l : Le G H) (hn : H a = none) : Nw G H (upd G a o) (upd H a o) := by
  have gn : G a = none := by
    cases z : G a with
    | none => rfl
    | some u => rw [l a u z] at hn; cases hn
  refine ⟨fun b u h => ?_, fun b u h => ?_, fun b u h => ?_, fun b u h => ?_⟩
  · rw [upd_ne (fun z => by rw [z, hn] at h; cases h)]; exact h
  · rw [upd_ne (fun z => by rw [z, gn] at h; cases h)]; exact h
  · by_cases hb : b = a
    · subst hb; rw [upd_same] at h ⊢; exact h
    · rw [upd_ne hb] at h ⊢; exact l b u h
  · by_cases hb : b = a
    · subst hb; exact .inr hn
    · rw [upd_ne hb] at h; exact .inl h
theorem nw_own {a : Addr} {o : HO} (l : Le G H) (hn : H a = none) : Nw G H G (upd H a o) := by
  refine ⟨fun b u h => ?_, Le.refl _, fun b u h => ?_, fun b u h => .inl h⟩
  · rw [upd_ne (fun z => by rw [z, hn] at h; cases h)]; exact h
  · rw [upd_ne (fun z => by rw [z] at h; rw [l a u h] at hn; cases hn)]; exact l b u h
theorem esem_tup {ta : TA} {fa : Fr → Out (List AV)} (ha : ASem K mg W ta fa) : ESem K mg W (tTup ta) (sTup fa) := by
  intro e σ H G Q rl p
  refine ha e σ H G _ rl ?_
  unfold sTup at p
  cases q : fa e with
  | bad => rw [q] at p; exact p
  | ex x e1 => rw [q] at p; exact p
  | ok as e1 =>
    rw [q] at p
    simp only [Out.bind_ok] at p
    intro vs H1 G1 go av
    cases q2 : avD as with
    | none => simp only [q2] at p; exact False.elim p
    | some ds =>
      simp only [q2] at p
      by_cases hl : ds.length ≤ 1000
      · rw [if_pos hl] at p
        have dn := avD_at av q2
        refine ⟨by rw [dn.length]; exact le1000 hl, fun a hn => ?_⟩
        have n := nw_tup (o := .tup vs) go.rel.le hn
        exact p _ _ _ (go.trans (go.rel.later n)) ⟨Dn.tup (SqT.of upd_same) (dn.mono n.grow), fun m => nomatch m⟩
      · rw [if_neg hl] at p; exact False.elim p
theorem esem_lst {ta : TA} {fa : Fr → Out (List AV)} (ha : ASem K mg W ta fa) : ESem K mg W (tLst ta) (sLst fa) := by
  intro e σ H G Q rl p
  refine ha e σ H G _ rl ?_
  unfold sLst at p
  cases q : fa e with
  | bad => rw [q] at p; exact p
  | ex x e1 => rw [q] at p; exact p
  | ok as e1 =>
    rw [q] at p
    simp only [Out.bind_ok] at p
    intro vs H1 G1 go av
    cases q2 : avD as with
    | none => simp only [q2] at p; exact False.elim p
    | some ds =>
      simp only [q2] at p
      by_cases hl : ds.length ≤ 1000
      · rw [if_pos hl] at p
        have dn := avD_at av q2
        refine ⟨by rw [dn.length]; exact le1000 hl, fun a hn => ?_⟩
        have n := nw_own (o := .lst vs) go.rel.le hn
        have gn : G1 a = none := by
          cases z : G1 a with
          | none => rfl
          | some u => rw [go.rel.le a u z] at hn; cases hn
        exact p _ _ _ (go.trans (go.rel.later n)) (RAt.trans go (RAt.fresh go.rel n ⟨a, vs, rfl, upd_same, gn, dn⟩ fun _ b eb => by cases eb; exact hn))
      · rw [if_neg hl] at p; exact False.elim p
def sDic0 : Fr → Out Wd := fun e => .ok (.ownK false []) e
theorem esem_dic0 : ESem K mg W tDNewK sDic0 := by
  intro e σ H G Q rl p
  intro a hn
  have n := nw_own (o := .dK []) rl.le hn
  have gn : G a = none := by
    cases z : G a with
    | none => rfl
    | some u => rw [rl.le a u z] at hn; cases hn
  exact p _ _ _ (rl.later n) (RAt.fresh rl n ⟨a, [], rfl, upd_same, gn, .nil⟩ fun _ b eb => by cases eb; exact hn)

/-! ### slices -/
def OSem (K : PySem.W.Frag) (mg : Str → Option Value) (W : WX) (t : L2.TO) (f : Fr → Out (Option Int)) : Prop := ∀ e σ H G (Q : Option Int → Hp → Prop), Rel K G e σ H →
  (match f e with
    | .ok b e' => ∀ H' G', Go K e σ H G e' σ H' G' → Q b H'
    | .ex x e' => ∀ c d H' G', Go K e σ H G e' σ H' G' → XAt K mg G' H' x c d → W c d σ H'
    | .bad => False) → t σ H Q
def sNo : Fr → Out (Option Int) := fun e => .ok none e
def sPt (f : Fr → Out Wd) : Fr → Out (Option Int) := fun e => (f e).bind fun w e1 => match w with | .val (.int i) => .ok (some i) e1 | _ => .bad
theorem osem_no : OSem K mg W tNoPart sNo := fun e σ H G Q r p => p H G (Go.refl r)
theorem osem_pt {t : TE} {f : Fr → Out Wd} (h : ESem K mg W t f) : OSem K mg W (tPart t) (sPt f) := by
  intro e σ H G Q r p
  refine h e σ H G _ r ?_
  unfold sPt at p
  cases q : f e with
  | bad => rw [q] at p; exact p
  | ex x e1 => rw [q] at p; exact p
  | ok w e1 =>
    rw [q] at p
    simp only [Out.bind_ok] at p
    intro v H1 G1 go ra
    cases w with
    | val d =>
      cases d with
      | int b => obtain rfl := Dn.int_inv ra.1; exact ⟨b, rfl, p H1 G1 go⟩
      | _ => exact False.elim p
    | _ => exact False.elim p
abbrev R3 := V → Option Int → Option Int → Hp → VK → Prop
def SlSem (K : PySem.W.Frag) (r : R3) (g : D → Option Int → Option Int → Option Wd) : Prop :=
  ∀ (G H : Hp) (x : V) (d : D) (lo hi : Option Int) (w : Wd) (Q : VK), Le G H → Dw K G H x d → g d lo hi = some w →
    (∀ v H' G', Nw G H G' H' → WAt K G' H' v w → (w.mut = true → ∀ a, v = .ref a → H a = none) → Q v H') → r x lo hi H Q
def sSl (g : D → Option Int → Option Int → Option Wd) (fa : Fr → Out AV) (fl fh : Fr → Out (Option Int)) : Fr → Out Wd := fun e => (fa e).bind fun a e1 => (fl e1).bind fun lo e2 => (fh e2).bind fun hi e3 =>
  match look e3 a with
  | none => .bad
  | some d => match g d lo hi with
    | none => .bad
    | some w => .ok w e3
theorem esem_sl {r : R3} {g : D → Option Int → Option Int → Option Wd} {ta : TE} {tl th : L2.TO} {fa : Fr → Out AV} {fl fh : Fr → Out (Option Int)} (ha : VSem K mg W ta fa) (hl : OSem K mg W tl fl) (hh : OSem K mg W th fh) (hr : SlSem K r g) :
    ESem K mg W (L2.tSl r ta tl th) (sSl g fa fl fh) := by
  intro e σ H G Q rl p
  refine ha e σ H G _ rl ?_
  unfold sSl at p
  cases q : fa e with
  | bad => rw [q] at p; exact p
  | ex x e1 => rw [q] at p; exact p
  | ok a e1 =>
    rw [q] at p
    simp only [Out.bind_ok] at p
    intro v H1 G1 go av
    refine hl e1 σ H1 G1 _ go.rel ?_
    cases q2 : fl e1 with
    | bad => rw [q2] at p; exact p
    | ex x e2 => rw [q2] at p; exact fun c d H2 G2 g2 => p c d H2 G2 (go.trans g2)
    | ok lo e2 =>
      rw [q2] at p
      simp only [Out.bind_ok] at p
      intro H2 G2 go2
      refine hh e2 σ H2 G2 _ go2.rel ?_
      cases q3 : fh e2 with
      | bad => rw [q3] at p; exact p
      | ex x e3 => rw [q3] at p; exact fun c d H3 G3 g3 => p c d H3 G3 ((go.trans go2).trans g3)
      | ok hi e3 =>
        rw [q3] at p
        simp only [Out.bind_ok] at p
        intro H3 G3 go3
        have av3 := (av.mono go2.grow).mono go3.grow
        cases q4 : look e3 a with
        | none => simp only [q4] at p; exact False.elim p
        | some d =>
          cases q5 : g d lo hi with
          | none => simp only [q4, q5] at p; exact False.elim p
          | some w =>
            simp only [q4, q5] at p
            refine hr G3 H3 v d lo hi w Q go3.rel.le (look_at go3.rel av3 q4) q5 fun u H4 G4 n wa fr => ?_
            have g3 := (go.trans go2).trans go3
            exact p u H4 G4 (g3.trans (go3.rel.later n)) (RAt.trans g3 (RAt.fresh go3.rel n wa fr))

/-! ### calls -/
inductive RF where
  | ret (w : Wd) (outs : List Wd)
  | ex (x : Xn) (outs : List Wd)
  | bad
/-- a def's promise by a function on data; outs: the arguments' contents behind the call -/
def spOf (K : PySem.W.Frag) (mg : Str → Option Value) (n : Nat) (g : List Wd → RF) : Sp := fun vs H Q E => vs.length = n ∧ ∃ (G : Hp) (ws : List Wd), Rel K G (ws.map some) (vs.map some) H ∧ (∀ w ∈ ws, w.mut = true → w.lent = true) ∧
  match g ws with
  | .ret w outs => ∀ r H' G', Go K (ws.map some) (vs.map some) H G (outs.map some) (vs.map some) H' G' → RAt K (ws.map some) (vs.map some) H (outs.map some) G' H' r w → Q r H'
  | .ex x outs => ∀ c d H' G', Go K (ws.map some) (vs.map some) H G (outs.map some) (vs.map some) H' G' → XAt K mg G' H' x c d → E c d H'
  | .bad => False
def sCall (g : List Wd → RF) (fa : Fr → Out (List AV)) : Fr → Out Wd := fun e => (fa e).bind fun as e1 => match avD as with
  | none => .bad
  | some ds => match g (ds.map .val) with
    | .ret w _ => .ok w e1
    | .ex x _ => .ex x e1
    | .bad => .bad
theorem not_own_vals {ds : List D} {σ : St} {a : Addr} : ¬ OwnA ((ds.map Wd.val).map some) σ a := fun o => by
  obtain ⟨i, w, h1, h2, _⟩ := o
  rw [List.getElem?_map, List.getElem?_map] at h1
  cases q : ds[i]? with
  | none => rw [q] at h1; cases h1
  | some d => rw [q] at h1; cases h1; cases h2
theorem rel_vals {vs : List V} {ds : List D} (l : Le G H) (h : DnA K G vs ds) : Rel K G ((ds.map Wd.val).map some) (vs.map some) H := by
  refine ⟨l, by simp [h.length], fun i w hw => ?_, fun i j w w' a h1 h2 m => ?_⟩
  · rw [List.getElem?_map, List.getElem?_map] at hw
    cases q : ds[i]? with
    | none => rw [q] at hw; cases hw
    | some d =>
      rw [q] at hw; cases hw
      obtain ⟨v, hv, dv⟩ := h.get q
      exact ⟨v, by rw [List.getElem?_map, hv]; rfl, dv⟩
  · rw [List.getElem?_map, List.getElem?_map] at h1
    cases q : ds[i]? with
    | none => rw [q] at h1; cases h1
    | some d => rw [q] at h1; cases h1; cases m
/-- behind a call without lent contents: the caller's frame stands -/
theorem Go.outer {ws outs : Fr} {τ : St} (rl : Rel K G e σ H) (no : ∀ a, OwnA ws τ a → False) (go : Go K ws τ H G outs τ H' G') : Go K e σ H G e σ H' G' := by
  refine ⟨⟨go.rel.le, rl.len, fun i w h => ?_, rl.ap⟩, fun a o h _ => go.keep a o h fun z => no a z, go.grow, fun a h => .inl h, fun a o h => ?_, fun i w h1 h2 => ⟨rfl, w, h1, h2⟩, rfl⟩
  · obtain ⟨v, hv, q⟩ := rl.at_ i w h
    refine ⟨v, hv, ?_⟩
    have fr : ∀ {a : Addr} {o : HO}, H a = some o → G a = none → G' a = none := fun {a o} h1 h2 => by
      cases z : G' a with
      | none => rfl
      | some u =>
        rcases go.gnew a u z with q | q | q
        · rw [h2] at q; cases q
        · exact (no a q).elim
        · rw [h1] at q; cases q
    cases w with
    | val d => exact Dn.mono go.grow q
    | own l ds => obtain ⟨a, xs, h1, h2, h3, h4⟩ := q; exact ⟨a, xs, h1, go.keep _ _ h2 (fun z => no a z), fr h2 h3, h4.mono go.grow⟩
    | ownK l ds => obtain ⟨a, xs, h1, h2, h3, h4⟩ := q; exact ⟨a, xs, h1, go.keep _ _ h2 (fun z => no a z), fr h2 h3, h4.mono go.grow⟩
    | ownT l ds => exact q
  · rcases go.gnew a o h with q | q | q
    · exact .inl q
    · exact (no a q).elim
    · exact .inr (.inr q)
theorem fresh_not_own (rl : Rel K G e σ H) {a : Addr} (h : H a = none) : ¬ OwnA e σ a := fun o => by
  obtain ⟨i, w', h1, h2, h3⟩ := o
  obtain ⟨v', hv', p'⟩ := rl.at_ i w' h1
  rw [h3] at hv'; cases hv'
  obtain ⟨b, eb, _, u, hu⟩ := p'.mut_ref h2
  cases eb
  rw [h] at hu; cases hu
theorem esem_call {ta : TA} {fa : Fr → Out (List AV)} {n : Nat} {g : List Wd → RF} (ha : ASem K mg W ta fa) (hn : ∀ ws, g ws ≠ .bad → ws.length = n) : ESem K mg W (tCallS (spOf K mg n g) (fun σ c d H => W c d σ H) ta) (sCall g fa) := by
  intro e σ H G Q rl p
  refine ha e σ H G _ rl ?_
  unfold sCall at p
  cases q : fa e with
  | bad => rw [q] at p; exact p
  | ex x e1 => rw [q] at p; exact p
  | ok as e1 =>
    rw [q] at p
    simp only [Out.bind_ok] at p
    intro vs H1 G1 go av
    cases q2 : avD as with
    | none => simp only [q2] at p; exact False.elim p
    | some ds =>
      simp only [q2] at p
      have dn := avD_at av q2
      have hb : g (ds.map .val) ≠ .bad := fun z => by rw [z] at p; exact p
      refine ⟨by rw [dn.length]; simpa using hn _ hb, G1, ds.map .val, rel_vals go.rel.le dn, fun w hw m => ?_, ?_⟩
      · obtain ⟨d, _, rfl⟩ := List.mem_map.mp hw
        cases m
      · cases q3 : g (ds.map .val) with
        | bad => exact hb q3
        | ret w outs =>
          rw [q3] at p
          intro r H2 G2 go2 ra
          have go3 := Go.outer go.rel (fun a => not_own_vals) go2
          refine p r H2 G2 (go.trans go3) (RAt.trans go ⟨ra.1, fun m a ea => ?_⟩)
          have hf : H1 a = none := (ra.2 m a ea).2.resolve_left not_own_vals
          exact ⟨fresh_not_own go.rel hf, .inr hf⟩
        | ex x outs =>
          rw [q3] at p
          intro c d H2 G2 go2 xa
          exact p c d H2 G2 (go.trans (Go.outer go.rel (fun a => not_own_vals) go2)) xa
end

section
variable {X : Cx} {W : WX}
theorem de_tup {es : List Expr} {x1 : Nat} {pos : Pos} {fa : Fr → Out (List AV)} (h : DA X W es fa) : DE X W (.Tuple es x1 pos) (sTup fa) := let ⟨_, p, s⟩ := h; ⟨_, pe_tup p, esem_tup s⟩
theorem de_lst {es : List Expr} {pos : Pos} {fa : Fr → Out (List AV)} (h : DA X W es fa) : DE X W (.List es pos) (sLst fa) := let ⟨_, p, s⟩ := h; ⟨_, pe_lst p, esem_lst s⟩
theorem de_dic0 {pos : Pos} : DE X W (.Dict [] [] pos) sDic0 := ⟨_, pe_dnewK, esem_dic0⟩
def DO (X : Cx) (W : WX) (o : Option Expr) (f : Fr → Out (Option Int)) : Prop := ∃ t, PO X o t ∧ OSem X.K X.mg W t f
theorem do_no : DO X W none sNo := ⟨_, po_none, osem_no⟩
theorem do_pt {ex : Expr} {f : Fr → Out Wd} (h : DE X W ex f) : DO X W (some ex) (sPt f) := let ⟨_, p, s⟩ := h; ⟨_, po_some p, osem_pt s⟩
theorem de_sl {ex : Expr} {lo hi : Option Expr} {p2 pos : Pos} {r : R3} {g : D → Option Int → Option Int → Option Wd} {fa : Fr → Out AV} {fl fh : Fr → Out (Option Int)} (hr : L2.SlR X r) (hs : SlSem X.K r g) (ha : DV X W ex fa) (hl : DO X W lo fl) (hh : DO X W hi fh) :
    DE X W (.Subscript ex (.Slice lo hi none p2) pos) (sSl g fa fl fh) :=
  let ⟨_, p, s⟩ := ha; let ⟨_, q, u⟩ := hl; let ⟨_, q', u'⟩ := hh; ⟨_, L2.pe_slice hr p q q', esem_sl s u u' hs⟩
theorem de_call {k j n : Nat} {f : Addr} {fd : FuncData} {ps : List Str} {g : List Wd → RF} {x : Str} {p pos : Pos} {ex : Expr} {es : List Expr} {fa : Fr → Out (List AV)} (F : FnOk X.prog X.w X.K X.mg X.base (L2.CX X.prog X.w) k f fd ps (spOf X.K X.mg n g)) (hn : ∀ ws, g ws ≠ .bad → ws.length = n)
    (hr : Room j X.A) (hj : k ≤ j) (tk : L2.Takes X W) (hg : Gl X x) (hm : X.mg x = some (.ref f)) (hk : PySem.W.keepIn X.K (.ref f) = true) (hb : L2.Binds X.K fd ps []) (ha : DA X W (ex :: es) fa) (hdb : (x == ("__debug__" : Str)) = false := by decide)
    (he : starEach (ex :: es) X.env = (false, eval ex X.env) :: starEach es X.env := by rfl) (hpl : (backTo pos (starEach es X.env)).any (·.1) = false := by rfl) : DE X W (.Call (.Name x p) (ex :: es) [] pos) (sCall g fa) :=
  let ⟨_, pa, sa⟩ := ha
  ⟨_, L2.pe_callS F (hr.mono hj) hg hm hk hb (fun σ => L2.passAt tk σ) pa hdb he hpl, esem_call sa hn⟩
end
end Fd

/-! Statements over frames of data. -/
namespace Fd
open PySem PySem.Spec PyProof.Rows L2

inductive SO where
  | nx (e : Fr)
  | rt (w : Wd) (e : Fr)
  | bk (e : Fr)
  | ct (e : Fr)
  | ex (x : Xn) (e : Fr)
  | bad
def Out.bs {α : Type} : Out α → (α → Fr → SO) → SO
  | .ok a e, k => k a e
  | .ex x e, _ => .ex x e
  | .bad, _ => .bad
@[simp] theorem Out.bs_ok {α : Type} (a : α) (e : Fr) (k : α → Fr → SO) : (Out.ok a e).bs k = k a e := rfl
@[simp] theorem Out.bs_ex {α : Type} (x : Xn) (e : Fr) (k : α → Fr → SO) : (Out.ex x e : Out α).bs k = .ex x e := rfl
@[simp] theorem Out.bs_bad {α : Type} (k : α → Fr → SO) : (Out.bad : Out α).bs k = .bad := rfl
def SO.then : SO → (Fr → SO) → SO
  | .nx e, k => k e
  | o, _ => o
@[simp] theorem SO.then_nx (e : Fr) (k : Fr → SO) : (SO.nx e).then k = k e := rfl
@[simp] theorem SO.then_rt (w : Wd) (e : Fr) (k : Fr → SO) : (SO.rt w e).then k = .rt w e := rfl
@[simp] theorem SO.then_bk (e : Fr) (k : Fr → SO) : (SO.bk e).then k = .bk e := rfl
@[simp] theorem SO.then_ct (e : Fr) (k : Fr → SO) : (SO.ct e).then k = .ct e := rfl
@[simp] theorem SO.then_ex (x : Xn) (e : Fr) (k : Fr → SO) : (SO.ex x e).then k = .ex x e := rfl
@[simp] theorem SO.then_bad (k : Fr → SO) : SO.bad.then k = .bad := rfl

def SRAt (K : PySem.W.Frag) (e : Fr) (σ : St) (H : Hp) (e' : Fr) (σ' : St) (G' H' : Hp) (v : V) (w : Wd) : Prop :=
  WAt K G' H' v w ∧ (w.mut = true → ∀ a, v = .ref a → ¬ OwnA e' σ' a ∧ (OwnA e σ a ∨ H a = none))
section
variable (K : PySem.W.Frag) (mg : Str → Option Value) (W : WX)
def SPost (e : Fr) (σ : St) (H G : Hp) (o : SO) (D : Ends) : Prop :=
  match o with
  | .nx e' => ∀ σ' H' G', Go K e σ H G e' σ' H' G' → D.nx σ' H'
  | .rt w e' => ∀ v σ' H' G', Go K e σ H G e' σ' H' G' → SRAt K e σ H e' σ' G' H' v w → D.rt v H'
  | .bk e' => ∀ σ' H' G', Go K e σ H G e' σ' H' G' → D.bk σ' H'
  | .ct e' => ∀ σ' H' G', Go K e σ H G e' σ' H' G' → D.ct σ' H'
  | .ex x e' => ∀ c d σ' H' G', Go K e σ H G e' σ' H' G' → XAt K mg G' H' x c d → W c d σ' H'
  | .bad => False
def SSem (t : TS) (f : Fr → SO) : Prop := ∀ e σ H G D, Rel K G e σ H → SPost K mg W e σ H G (f e) D → t D σ H
end
def DS (X : Cx) (W : WX) (st : Stmt) (f : Fr → SO) : Prop := ∃ t, PS X st t ∧ SSem X.K X.mg W t f
def DSs (X : Cx) (W : WX) (st : List Stmt) (f : Fr → SO) : Prop := ∃ t, PSs X st t ∧ SSem X.K X.mg W t f

def sNx : Fr → SO := fun e => .nx e
def sSeq (f g : Fr → SO) : Fr → SO := fun e => (f e).then g
def sIf (c : Fr → Out Bool) (f g : Fr → SO) : Fr → SO := fun e => (c e).bs fun b e1 => if b = true then f e1 else g e1
def sRet (f : Fr → Out Wd) : Fr → SO := fun e => (f e).bs fun w e1 => .rt w e1
def sRetN : Fr → SO := fun e => .rt (.val .non) e
def sDo (f : Fr → Out Wd) : Fr → SO := fun e => (f e).bs fun _ e1 => .nx e1
def sBk : Fr → SO := fun e => .bk e
def sCt : Fr → SO := fun e => .ct e
def sNever : Fr → SO := fun _ => .bad
/-- a slot that may be stored into: it holds nothing lent -/
def free (e : Fr) (i : Nat) : Bool := match e[i]? with | some (some w) => !w.lent | some none => true | none => false
def sSet (i : Nat) (f : Fr → Out Wd) : Fr → SO := fun e => (f e).bs fun w e1 => if free e1 i = true ∧ w.lent = false then .nx (e1.set i (some w)) else .bad

section
variable {K : PySem.W.Frag} {mg : Str → Option Value} {W : WX} {G H G' H' G2 H2 : Hp} {e e' e2 : Fr} {σ σ' σ2 : St}
theorem SRAt.trans {v : V} {w : Wd} (a : Go K e σ H G e' σ' H' G') (h : SRAt K e' σ' H' e2 σ2 G2 H2 v w) : SRAt K e σ H e2 σ2 G2 H2 v w :=
  ⟨h.1, fun m b eb => ⟨(h.2 m b eb).1, by
    rcases (h.2 m b eb).2 with q | q
    · exact a.own b q
    · cases z : H b with
      | none => exact .inr rfl
      | some u =>
        by_cases hn : OwnA e σ b
        · exact .inl hn
        · rw [a.keep b u z hn] at q; cases q⟩⟩
theorem SPost.trans {o : SO} {D : Ends} (a : Go K e σ H G e' σ' H' G') (h : SPost K mg W e σ H G o D) : SPost K mg W e' σ' H' G' o D := by
  cases o with
  | nx e2 => exact fun σ2 H2 G2 b => h σ2 H2 G2 (a.trans b)
  | rt w e2 => exact fun v σ2 H2 G2 b r => h v σ2 H2 G2 (a.trans b) (r.trans a)
  | bk e2 => exact fun σ2 H2 G2 b => h σ2 H2 G2 (a.trans b)
  | ct e2 => exact fun σ2 H2 G2 b => h σ2 H2 G2 (a.trans b)
  | ex x e2 => exact fun c d σ2 H2 G2 b r => h c d σ2 H2 G2 (a.trans b) r
  | bad => exact h
/-- from a state that is a later one: an exception's wish, seen from the earlier -/
theorem ssem_nx : SSem K mg W tNext sNx := fun e σ H G D r p => p σ H G (Go.refl r)
theorem ssem_seq {t u : TS} {f g : Fr → SO} (h : SSem K mg W t f) (k : SSem K mg W u g) : SSem K mg W (tSeq t u) (sSeq f g) := by
  intro e σ H G D r p
  refine h e σ H G _ r ?_
  unfold sSeq at p
  cases q : f e with
  | nx e1 => rw [q] at p; exact fun σ1 H1 G1 go => k e1 σ1 H1 G1 D go.rel (SPost.trans go p)
  | rt w e1 => rw [q] at p; exact p
  | bk e1 => rw [q] at p; exact p
  | ct e1 => rw [q] at p; exact p
  | ex x e1 => rw [q] at p; exact p
  | bad => rw [q] at p; exact p
theorem ssem_if {c : TT} {t u : TS} {fc : Fr → Out Bool} {f g : Fr → SO} (hc : TSem K mg W c fc) (h : SSem K mg W t f) (k : SSem K mg W u g) : SSem K mg W (tIfS c t u) (sIf fc f g) := by
  intro e σ H G D r p
  refine hc e σ H G _ r ?_
  unfold sIf at p
  cases q : fc e with
  | bad => rw [q] at p; exact p
  | ex x e1 => rw [q] at p; exact fun c d H' G' => p c d σ H' G'
  | ok b e1 =>
    rw [q] at p
    simp only [Out.bs_ok] at p
    intro H1 G1 go
    cases b with
    | true => rw [if_pos rfl]; rw [if_pos rfl] at p; exact h e1 σ H1 G1 D go.rel (p.trans go)
    | false => rw [if_neg Bool.false_ne_true]; rw [if_neg Bool.false_ne_true] at p; exact k e1 σ H1 G1 D go.rel (p.trans go)
theorem ssem_ret {te : TE} {f : Fr → Out Wd} (h : ESem K mg W te f) : SSem K mg W (tRet te) (sRet f) := by
  intro e σ H G D r p
  refine h e σ H G _ r ?_
  unfold sRet at p
  cases q : f e with
  | bad => rw [q] at p; exact p
  | ex x e1 => rw [q] at p; exact fun c d H' G' => p c d σ H' G'
  | ok w e1 => rw [q] at p; exact fun v H1 G1 go ra => p v σ H1 G1 go ra
theorem ssem_retN : SSem K mg W tRetN sRetN := fun e σ H G D r p => p .non σ H G (Go.refl r) ⟨.non, fun m => nomatch m⟩
theorem ssem_do {te : TE} {f : Fr → Out Wd} (h : ESem K mg W te f) : SSem K mg W (tDrop te) (sDo f) := by
  intro e σ H G D r p
  refine h e σ H G _ r ?_
  unfold sDo at p
  cases q : f e with
  | bad => rw [q] at p; exact p
  | ex x e1 => rw [q] at p; exact fun c d H' G' => p c d σ H' G'
  | ok w e1 => rw [q] at p; exact fun v H1 G1 go ra => p σ H1 G1 go
theorem ssem_bk : SSem K mg W tBreak sBk := fun e σ H G D r p => p σ H G (Go.refl r)
theorem ssem_ct : SSem K mg W tCont sCt := fun e σ H G D r p => p σ H G (Go.refl r)
theorem ssem_never {t : TS} : SSem K mg W t sNever := fun e σ H G D r p => p.elim
/-- a result is stored into slot i -/
theorem Go.store {i : Nat} {v : V} {w : Wd} (go : Go K e σ H G e' σ H' G') (ra : RAt K e σ H e' G' H' v w) (hf : free e' i = true) (hl : w.lent = false) : Go K e σ H G (e'.set i (some w)) (σ.set i (some v)) H' G' := by
  have hi : i < e'.length := by
    unfold free at hf
    cases q : e'[i]? with
    | none => rw [q] at hf; cases hf
    | some o => exact (List.getElem?_eq_some_iff.mp q).1
  have hi' : i < σ.length := by rw [← go.rel.len]; exact hi
  have sset : ∀ (j : Nat) (o : Option V), (σ.set i (some v))[j]? = some o → (j = i ∧ o = some v) ∨ (j ≠ i ∧ σ[j]? = some o) := fun j o h => get_set h
  have own_old : ∀ a, OwnA (e'.set i (some w)) (σ.set i (some v)) a → OwnA e' σ a ∨ (w.mut = true ∧ v = .ref a) := fun a o => by
    obtain ⟨j, w', h1, h2, h3⟩ := o
    rcases get_set h1 with ⟨ej, z⟩ | ⟨hj, z⟩
    · cases z; subst ej
      rcases sset _ _ h3 with ⟨_, q⟩ | ⟨q, _⟩
      · cases q; exact .inr ⟨h2, rfl⟩
      · exact absurd rfl q
    · rcases sset _ _ h3 with ⟨q, _⟩ | ⟨_, q⟩
      · exact absurd q hj
      · exact .inl ⟨j, w', z, h2, q⟩
  refine ⟨⟨go.rel.le, by rw [List.length_set, List.length_set]; exact go.rel.len, fun j w' h => ?_, fun j k w1 w2 a h1 h2 m1 m2 s1 s2 => ?_⟩, go.keep, go.grow, fun a o => ?_, go.gnew, fun j w' h1 h2 => ?_, by rw [List.length_set]⟩
  · rcases get_set h with ⟨ej, z⟩ | ⟨hj, z⟩
    · cases z; subst ej; exact ⟨v, List.getElem?_set_self hi', ra.1⟩
    · obtain ⟨u, hu, q⟩ := go.rel.at_ j w' z
      exact ⟨u, by rw [List.getElem?_set_ne (Ne.symm hj)]; exact hu, q⟩
  · rcases get_set h1 with ⟨ej, z⟩ | ⟨hj, z⟩
    · rcases get_set h2 with ⟨ek, z2⟩ | ⟨hk, z2⟩
      · rw [ej, ek]
      · cases z; subst ej
        rcases sset _ _ s1 with ⟨_, q⟩ | ⟨q, _⟩
        · cases q
          rcases sset _ _ s2 with ⟨q2, _⟩ | ⟨_, q2⟩
          · exact absurd q2 hk
          · exact ((ra.2 m1 a rfl).1 ⟨k, w2, z2, m2, q2⟩).elim
        · exact absurd rfl q
    · rcases get_set h2 with ⟨ek, z2⟩ | ⟨hk, z2⟩
      · cases z2; subst ek
        rcases sset _ _ s2 with ⟨_, q⟩ | ⟨q, _⟩
        · cases q
          rcases sset _ _ s1 with ⟨q2, _⟩ | ⟨_, q2⟩
          · exact absurd q2 hj
          · exact ((ra.2 m2 a rfl).1 ⟨j, w1, z, m1, q2⟩).elim
        · exact absurd rfl q
      · rcases sset _ _ s1 with ⟨q, _⟩ | ⟨_, q⟩
        · exact absurd q hj
        rcases sset _ _ s2 with ⟨q2, _⟩ | ⟨_, q2⟩
        · exact absurd q2 hk
        exact go.rel.ap j k w1 w2 a z z2 m1 m2 q q2
  · rcases own_old a o with q | ⟨m, ea⟩
    · exact go.own a q
    · exact (ra.2 m a ea).2
  · obtain ⟨s1, w2, h3, h4⟩ := go.lent j w' h1 h2
    have hj : j ≠ i := fun z => by
      subst z
      unfold free at hf
      rw [h3] at hf
      simp [h4] at hf
    exact ⟨by rw [List.getElem?_set_ne (Ne.symm hj)], w2, by rw [List.getElem?_set_ne (Ne.symm hj)]; exact h3, h4⟩
theorem ssem_set {i : Nat} {te : TE} {f : Fr → Out Wd} (h : ESem K mg W te f) : SSem K mg W (tAsg te (gName i)) (sSet i f) := by
  intro e σ H G D r p
  refine h e σ H G _ r ?_
  unfold sSet at p
  cases q : f e with
  | bad => rw [q] at p; exact p
  | ex x e1 => rw [q] at p; exact fun c d H' G' => p c d σ H' G'
  | ok w e1 =>
    rw [q] at p
    simp only [Out.bs_ok] at p
    intro v H1 G1 go ra
    by_cases hc : free e1 i = true ∧ w.lent = false
    · rw [if_pos hc] at p
      exact p _ _ _ (go.store ra hc.1 hc.2)
    · rw [if_neg hc] at p; exact False.elim p

/-! ### targets of tuples -/
inductive Tg where
  | nm (i : Nat)
  | tp (l : List Tg)
mutual
def Tg.put : Tg → D → Fr → Option Fr
  | .nm i, d, e => if free e i = true then some (e.set i (some (.val d))) else none
  | .tp l, .tup ds, e => Tg.puts l ds e
  | .tp _, _, _ => none
def Tg.puts : List Tg → List D → Fr → Option Fr
  | [], [], e => some e
  | t :: ts, d :: ds, e => (t.put d e).bind fun e1 => Tg.puts ts ds e1
  | _, _, _ => none
end
mutual
def Tg.sl : Tg → List Nat
  | .nm i => [i]
  | .tp l => Tg.sls l
def Tg.sls : List Tg → List Nat
  | [] => []
  | t :: ts => t.sl ++ Tg.sls ts
end
/-- the slots beside l stand -/
def Bes (l : List Nat) (σ σ' : St) : Prop := ∀ j, j ∉ l → σ'[j]? = σ[j]?
def GSem (K : PySem.W.Frag) (t : TG) (g : Tg) : Prop := ∀ e σ H G v d e' Q, Rel K G e σ H → Dn K G v d → g.put d e = some e' → (∀ σ', Go K e σ H G e' σ' H G → Bes g.sl σ σ' → Q σ' H) → t v σ H Q
def GsSem (K : PySem.W.Frag) (t : TGs) (l : List Tg) : Prop := ∀ e σ H G vs ds e' Q, Rel K G e σ H → DnA K G vs ds → Tg.puts l ds e = some e' → (∀ σ', Go K e σ H G e' σ' H G → Bes (Tg.sls l) σ σ' → Q σ' H) → t vs σ H Q
theorem puts_len : ∀ {l : List Tg} {ds : List D} {e e' : Fr}, Tg.puts l ds e = some e' → ds.length = l.length
  | [], [], _, _, _ => rfl
  | [], _ :: _, _, _, h => by unfold Tg.puts at h; cases h
  | _ :: _, [], _, _, h => by unfold Tg.puts at h; cases h
  | t :: ts, d :: ds, e, e', h => by
    unfold Tg.puts at h
    cases q : t.put d e with
    | none => rw [q] at h; cases h
    | some e1 =>
      rw [q] at h
      have h : Tg.puts ts ds e1 = some e' := h
      simp [puts_len h]
theorem gsem_nm {i : Nat} : GSem K (gName i) (Tg.nm i) := by
  intro e σ H G v d e' Q r dn h k
  unfold Tg.put at h
  by_cases hf : free e i = true
  · rw [if_pos hf] at h; cases h
    exact k _ ((Go.refl r).store (w := .val d) ⟨dn, fun m => nomatch m⟩ hf rfl) fun j hj => List.getElem?_set_ne (fun z => hj (by rw [z]; unfold Tg.sl; exact List.mem_singleton.mpr rfl))
  · rw [if_neg hf] at h; cases h
theorem gssem_nil : GsSem K gNil [] := by
  intro e σ H G vs ds e' Q r dn h k
  cases dn with
  | nil => unfold Tg.puts at h; cases h; exact ⟨rfl, k σ (Go.refl r) fun _ _ => rfl⟩
  | cons _ _ => unfold Tg.puts at h; cases h
theorem gssem_cons {t : TG} {u : TGs} {a : Tg} {l : List Tg} (h1 : GSem K t a) (h2 : GsSem K u l) : GsSem K (gCons t u) (a :: l) := by
  intro e σ H G vs ds e' Q r dn h k
  cases dn with
  | nil => unfold Tg.puts at h; cases h
  | cons d1 dr =>
    rename_i v vs d ds
    unfold Tg.puts at h
    cases q : a.put d e with
    | none => rw [q] at h; cases h
    | some e1 =>
      rw [q] at h
      have h : Tg.puts l ds e1 = some e' := h
      exact ⟨v, vs, rfl, h1 e σ H G v d e1 _ r d1 q fun σ1 go b1 => h2 e1 σ1 H G vs ds e' Q go.rel dr h fun σ2 go2 b2 => k σ2 (go.trans go2) fun j hj => (b2 j fun z => hj (by unfold Tg.sls; exact List.mem_append_right _ z)).trans (b1 j fun z => hj (by unfold Tg.sls; exact List.mem_append_left _ z))⟩
theorem gsem_tp {u : TGs} {l : List Tg} {n : Nat} (hn : l.length = n) (h : GsSem K u l) : GSem K (gTup K n u) (Tg.tp l) := by
  intro e σ H G v d e' Q r dn hp k
  cases dn with
  | tup q ra =>
    unfold Tg.put at hp
    exact ⟨_, _, rfl, r.le.seqT q, by rw [ra.length, puts_len hp, hn], h e σ H G _ _ e' Q r ra hp fun σ2 go b => k σ2 go (by unfold Tg.sl; exact b)⟩
  | _ => unfold Tg.put at hp; cases hp
def sSetT (t : Tg) (f : Fr → Out Wd) : Fr → SO := fun e => (f e).bs fun w e1 => match w with | .val d => (match t.put d e1 with | some e2 => .nx e2 | none => .bad) | _ => .bad
theorem ssem_setT {t : TG} {tg : Tg} {te : TE} {f : Fr → Out Wd} (h : ESem K mg W te f) (k : GSem K t tg) : SSem K mg W (tAsg te t) (sSetT tg f) := by
  intro e σ H G D r p
  refine h e σ H G _ r ?_
  unfold sSetT at p
  cases q : f e with
  | bad => rw [q] at p; exact p
  | ex x e1 => rw [q] at p; exact fun c d H' G' => p c d σ H' G'
  | ok w e1 =>
    rw [q] at p
    simp only [Out.bs_ok] at p
    intro v H1 G1 go ra
    cases w with
    | val d =>
      simp only at p
      cases q2 : tg.put d e1 with
      | none => rw [q2] at p; exact False.elim p
      | some e2 =>
        rw [q2] at p
        exact k e1 σ H1 G1 v d e2 _ go.rel ra.1 q2 fun σ2 go2 _ => p σ2 H1 G1 (go.trans go2)
    | _ => exact False.elim p
end
end Fd

/-! Loops and comprehensions over frames of data. -/
namespace Fd
open PySem PySem.Spec PyProof.Rows L2

/-- what an iterator yields: these items, whatever has been made beside -/
def ItSem (K : PySem.W.Frag) (J : It) (items : List D) (G1 : Hp) : Prop := ∀ (i : Nat) (H G : Hp), Le G1 G → Le G H →
  (∀ d, items[i]? = some d → J.go i H ∧ ∀ x H', J.yld i H x H' → ∃ G', Nw G H G' H' ∧ Dn K G' x d) ∧ (items.length ≤ i → J.stop i H)
def IPost (K : PySem.W.Frag) (mg : Str → Option Value) (W : WX) (e : Fr) (σ : St) (H G : Hp) (o : Out (List D)) (R : It → Hp → Prop) : Prop :=
  match o with
  | .ok items e' => ∀ J H' G', Go K e σ H G e' σ H' G' → ItSem K J items G' → R J H'
  | .ex x e' => ∀ c d H' G', Go K e σ H G e' σ H' G' → XAt K mg G' H' x c d → W c d σ H'
  | .bad => False
def ISem (K : PySem.W.Frag) (mg : Str → Option Value) (W : WX) (wi : TI) (f : Fr → Out (List D)) : Prop := ∀ e σ H G R, Rel K G e σ H → IPost K mg W e σ H G (f e) R → wi σ H R
def DI (X : Cx) (W : WX) (tg iter : Expr) (f : Fr → Out (List D)) : Prop := ∃ wi, PI X tg iter wi ∧ ISem X.K X.mg W wi f
def DG (X : Cx) (tg : Expr) (g : Tg) : Prop := ∃ t, PG X tg t ∧ GSem X.K t g
def DGs (X : Cx) (ts : List Expr) (l : List Tg) : Prop := ∃ t, PGs X ts t ∧ GsSem X.K t l

def loopF (tg : Tg) (body : Fr → SO) : List D → Fr → SO
  | [], e => .nx e
  | d :: ds, e => match tg.put d e with
    | none => .bad
    | some e1 => match body e1 with
      | .nx e2 => loopF tg body ds e2
      | .ct e2 => loopF tg body ds e2
      | .bk e2 => .nx e2
      | .rt w e2 => .rt w e2
      | .ex x e2 => .ex x e2
      | .bad => .bad
def sFor (tg : Tg) (fi : Fr → Out (List D)) (body : Fr → SO) : Fr → SO := fun e => (fi e).bs fun items e1 => loopF tg body items e1
def whileF (c : Fr → Out Bool) (body : Fr → SO) : Nat → Fr → SO
  | 0, _ => .bad
  | n + 1, e => (c e).bs fun b e1 => if b = true then (match body e1 with
      | .nx e2 => whileF c body n e2
      | .ct e2 => whileF c body n e2
      | .bk e2 => .nx e2
      | .rt w e2 => .rt w e2
      | .ex x e2 => .ex x e2
      | .bad => .bad) else .nx e1

section
variable {K : PySem.W.Frag} {mg : Str → Option Value} {W : WX} {G H G' H' G2 H2 : Hp} {e e' e2 : Fr} {σ σ' σ2 : St}
theorem SPost.back {o : SO} {D : Ends} (h : SPost K mg W e σ H G o D) (a : Go K e σ H G e' σ' H' G') : SPost K mg W e' σ' H' G' o D := SPost.trans a h
theorem ssem_for {wi : TI} {fi : Fr → Out (List D)} {t : TG} {tg : Tg} {tb : TS} {body : Fr → SO} (hi : ISem K mg W wi fi) (hg : GSem K t tg) (hb : SSem K mg W tb body) : SSem K mg W (tFor wi t tb) (sFor tg fi body) := by
  intro e σ H G D r p
  refine hi e σ H G _ r ?_
  unfold sFor at p
  cases q : fi e with
  | bad => rw [q] at p; exact p
  | ex x e1 => rw [q] at p; exact fun c d H' G' => p c d σ H' G'
  | ok items e1 =>
    rw [q] at p
    simp only [Out.bs_ok] at p
    intro J H1 G1 go it
    refine ⟨fun i m σ' H' => m = items.length - i ∧ i ≤ items.length ∧ ∃ e' G', Go K e σ H G e' σ' H' G' ∧ Le G1 G' ∧ SPost K mg W e σ H G (loopF tg body (items.drop i) e') D,
      ⟨_, rfl, Nat.zero_le _, e1, G1, go, Le.refl _, p⟩, ?_⟩
    rintro i m σ' H' ⟨rfl, hi, e', G', g1, l1, p1⟩
    by_cases hlt : i < items.length
    · have hd : items[i]? = some items[i] := List.getElem?_eq_getElem hlt
      have dr : items.drop i = items[i] :: items.drop (i + 1) := List.drop_eq_getElem_cons hlt
      obtain ⟨hgo, hy⟩ := (it i H' G' l1 g1.rel.le).1 _ hd
      refine .inr ⟨hgo, fun σ3 H3 => ∃ e3 G3, Go K e σ H G e3 σ3 H3 G3 ∧ Le G1 G3 ∧ SPost K mg W e σ H G (loopF tg body (items.drop (i + 1)) e3) D,
        fun σ3 H3 ⟨e3, G3, g3, l3, p3⟩ => ⟨items.length - (i + 1), by omega, rfl, hlt, e3, G3, g3, l3, p3⟩, fun x H2 yx => ?_⟩
      obtain ⟨G2, nw, dx⟩ := hy x H2 yx
      have g2 := g1.trans (g1.rel.later nw)
      rw [dr] at p1
      unfold loopF at p1
      cases qp : tg.put items[i] e' with
      | none => simp only [qp] at p1; exact False.elim p1
      | some e3 =>
        simp only [qp] at p1
        refine hg e' σ' H2 G2 x _ e3 _ g2.rel dx qp fun σ3 go3 _ => ?_
        have g3 := g2.trans go3
        have l3 : Le G1 G2 := l1.trans nw.grow
        refine hb e3 σ3 H2 G2 _ g3.rel ?_
        cases qb : body e3 with
        | nx e4 => simp only [qb] at p1; exact fun σ4 H4 G4 g4 => ⟨e4, G4, g3.trans g4, l3.trans g4.grow, p1⟩
        | ct e4 => simp only [qb] at p1; exact fun σ4 H4 G4 g4 => ⟨e4, G4, g3.trans g4, l3.trans g4.grow, p1⟩
        | bk e4 => simp only [qb] at p1; exact fun σ4 H4 G4 g4 => p1 σ4 H4 G4 (g3.trans g4)
        | rt w e4 => simp only [qb] at p1; exact SPost.trans g3 p1
        | ex x e4 => simp only [qb] at p1; exact SPost.trans g3 p1
        | bad => simp only [qb] at p1; exact p1
    · have dr : items.drop i = [] := List.drop_eq_nil_of_le (by omega)
      rw [dr] at p1
      exact .inl ⟨(it i H' G' l1 g1.rel.le).2 (by omega), p1 σ' H' G' g1⟩
theorem ssem_while {c : TT} {fc : Fr → Out Bool} {tb : TS} {body : Fr → SO} {fuel : Nat} (hc : TSem K mg W c fc) (hb : SSem K mg W tb body) : SSem K mg W (tWhile c tb) (whileF fc body fuel) := by
  intro e σ H G D r p
  refine ⟨fun m σ' H' => ∃ e' G', Go K e σ H G e' σ' H' G' ∧ SPost K mg W e σ H G (whileF fc body m e') D, ⟨fuel, e, G, Go.refl r, p⟩, ?_⟩
  rintro m σ' H' ⟨e', G', g1, p1⟩
  cases m with
  | zero => exact False.elim p1
  | succ m =>
    unfold whileF at p1
    refine hc e' σ' H' G' _ g1.rel ?_
    cases q : fc e' with
    | bad => rw [q] at p1; exact p1
    | ex x e1 => rw [q] at p1; exact fun c d H2 G2 g2 => p1 c d σ' H2 G2 (g1.trans g2)
    | ok b e1 =>
      rw [q] at p1
      simp only [Out.bs_ok] at p1
      intro H2 G2 go2
      have g2 := g1.trans go2
      cases b with
      | false => rw [if_neg Bool.false_ne_true]; rw [if_neg Bool.false_ne_true] at p1; exact p1 σ' H2 G2 g2
      | true =>
        rw [if_pos rfl]; rw [if_pos rfl] at p1
        refine ⟨fun σ3 H3 => ∃ e3 G3, Go K e σ H G e3 σ3 H3 G3 ∧ SPost K mg W e σ H G (whileF fc body m e3) D, fun σ3 H3 ⟨e3, G3, g3, p3⟩ => ⟨m, Nat.lt_succ_self _, e3, G3, g3, p3⟩, ?_⟩
        refine hb e1 σ' H2 G2 _ g2.rel ?_
        cases qb : body e1 with
        | nx e4 => simp only [qb] at p1; exact fun σ4 H4 G4 g4 => ⟨e4, G4, g2.trans g4, p1⟩
        | ct e4 => simp only [qb] at p1; exact fun σ4 H4 G4 g4 => ⟨e4, G4, g2.trans g4, p1⟩
        | bk e4 => simp only [qb] at p1; exact fun σ4 H4 G4 g4 => p1 σ4 H4 G4 (g2.trans g4)
        | rt w e4 => simp only [qb] at p1; exact SPost.trans g2 p1
        | ex x e4 => simp only [qb] at p1; exact SPost.trans g2 p1
        | bad => simp only [qb] at p1; exact p1

/-! ### comprehensions -/
def wipeE (e : Fr) : List Nat → Fr
  | [] => e
  | v :: vs => (wipeE e vs).set v none
/-- behind a turn: the comprehension's own slots are as they were -/
def restE (e e3 : Fr) (vs : List Nat) : Fr := (List.range e.length).map fun i => if i ∈ vs then (e[i]?).getD none else (e3[i]?).getD none
/-- the own slots hold nothing that may be changed -/
def cleanE (e : Fr) (vs : List Nat) : Bool := vs.all fun i => match e[i]? with | some (some w) => !w.mut | some none => true | none => false
def lcF (tg : Tg) (ft : Fr → Out Bool) (fe : Fr → Out Wd) (vs : List Nat) : List D → List D → Fr → Out Wd
  | [], acc, e => .ok (.own false acc) e
  | d :: ds, acc, e => match tg.put d (wipeE e vs) with
    | none => .bad
    | some e1 => match ft e1 with
      | .ok true e2 => match fe e2 with
        | .ok w e3 => if acc.length < 1000000 then lcF tg ft fe vs ds (acc ++ [w.dat]) (restE e e3 vs) else .bad
        | _ => .bad
      | .ok false e2 => lcF tg ft fe vs ds acc (restE e e2 vs)
      | _ => .bad
def sLc (tg : Tg) (fi : Fr → Out (List D)) (ft : Fr → Out Bool) (fe : Fr → Out Wd) (vs : List Nat) : Fr → Out Wd := fun e => (fi e).bind fun items e1 =>
  if cleanE e1 vs = true ∧ (∀ j ∈ tg.sl, j ∈ vs) then lcF tg ft fe vs items [] e1 else .bad
theorem wipeE_get {vs : List Nat} {i : Nat} : i ∉ vs → (wipeE e vs)[i]? = e[i]? := by
  induction vs with
  | nil => intro _; rfl
  | cons v vs ih =>
    intro h
    unfold wipeE
    rw [List.getElem?_set_ne (fun z => h (by rw [z]; exact List.mem_cons_self)), ih fun z => h (List.mem_cons_of_mem _ z)]
theorem wipeE_len {vs : List Nat} : (wipeE e vs).length = e.length := by
  induction vs with
  | nil => rfl
  | cons v vs ih => unfold wipeE; rw [List.length_set, ih]
theorem wipeE_some {vs : List Nat} {i : Nat} {w : Wd} : (wipeE e vs)[i]? = some (some w) → e[i]? = some (some w) ∧ i ∉ vs := by
  induction vs with
  | nil => exact fun h => ⟨h, by simp⟩
  | cons v vs ih =>
    intro h
    unfold wipeE at h
    rcases get_set h with ⟨_, z⟩ | ⟨hi, z⟩
    · cases z
    · obtain ⟨h1, h2⟩ := ih z
      exact ⟨h1, fun m => (List.mem_cons.mp m).elim hi h2⟩
theorem wipe_in {vs : List Nat} {i : Nat} (hi : i < σ.length) : i ∈ vs → (wipe σ vs)[i]? = some none := by
  induction vs with
  | nil => intro h; cases h
  | cons v vs ih =>
    intro h
    unfold wipe
    by_cases hv : i = v
    · subst hv
      rw [List.getElem?_set_self (by rw [wipe_length]; exact hi)]
    · rw [List.getElem?_set_ne (Ne.symm hv)]
      exact ih ((List.mem_cons.mp h).resolve_left hv)
theorem wipe_eq {vs : List Nat} (hl : σ2.length = σ.length) (hb : ∀ j, j ∉ vs → σ2[j]? = σ[j]?) : wipe σ2 vs = wipe σ vs := by
  refine List.ext_getElem? fun i => ?_
  by_cases hm : i ∈ vs
  · by_cases hi : i < σ.length
    · rw [wipe_in hi hm, wipe_in (by rw [hl]; exact hi) hm]
    · rw [List.getElem?_eq_none (by rw [wipe_length, hl]; omega), List.getElem?_eq_none (by rw [wipe_length]; omega)]
  · rw [wipe_out hm, wipe_out hm]
    exact hb i hm
theorem wipe_out2 {vs : List Nat} (h : wipe σ2 vs = wipe σ vs) {i : Nat} (hi : i ∉ vs) : σ2[i]? = σ[i]? := by
  rw [← wipe_out (σ := σ2) hi, h, wipe_out hi]
theorem restE_len {e3 : Fr} {vs : List Nat} : (restE e e3 vs).length = e.length := by unfold restE; simp
theorem restE_get {e3 : Fr} {vs : List Nat} {i : Nat} {w : Wd} (hl : e3.length = e.length) (h : (restE e e3 vs)[i]? = some (some w)) : (i ∈ vs ∧ e[i]? = some (some w)) ∨ (i ∉ vs ∧ e3[i]? = some (some w)) := by
  have hi : i < e.length := by
    have := (List.getElem?_eq_some_iff.mp h).1
    rw [restE_len] at this; exact this
  unfold restE at h
  rw [List.getElem?_map, List.getElem?_range hi] at h
  have h : (if i ∈ vs then (e[i]?).getD none else (e3[i]?).getD none) = some w := Option.some.inj h
  by_cases hm : i ∈ vs
  · rw [if_pos hm] at h
    refine .inl ⟨hm, ?_⟩
    rw [List.getElem?_eq_getElem hi] at h ⊢
    exact congrArg some h
  · rw [if_neg hm] at h
    refine .inr ⟨hm, ?_⟩
    rw [List.getElem?_eq_getElem (by rw [hl]; exact hi)] at h ⊢
    exact congrArg some h
theorem cleanE_of {vs : List Nat} (h : cleanE e vs = true) {i : Nat} (hi : i ∈ vs) {w : Wd} (hw : e[i]? = some (some w)) : w.mut = false := by
  unfold cleanE at h
  have := List.all_eq_true.mp h i hi
  rw [hw] at this
  simpa using this
/-- into a turn -/
theorem Rel.wiped {vs : List Nat} (r : Rel K G e σ H) : Rel K G (wipeE e vs) (wipe σ vs) H ∧ (∀ a, OwnA (wipeE e vs) (wipe σ vs) a → OwnA e σ a) := by
  have so : ∀ {i : Nat} {w : Wd}, (wipeE e vs)[i]? = some (some w) → e[i]? = some (some w) ∧ (wipe σ vs)[i]? = σ[i]? := fun h => by
    obtain ⟨h1, h2⟩ := wipeE_some h
    exact ⟨h1, wipe_out h2⟩
  refine ⟨⟨r.le, by rw [wipeE_len, wipe_length]; exact r.len, fun i w h => ?_, fun i j w w' a h1 h2 m1 m2 s1 s2 => ?_⟩, fun a o => ?_⟩
  · obtain ⟨h1, h2⟩ := so h
    obtain ⟨v, hv, q⟩ := r.at_ i w h1
    exact ⟨v, by rw [h2]; exact hv, q⟩
  · obtain ⟨a1, a2⟩ := so h1
    obtain ⟨b1, b2⟩ := so h2
    rw [a2] at s1; rw [b2] at s2
    exact r.ap i j w w' a a1 b1 m1 m2 s1 s2
  · obtain ⟨i, w, h1, h2, h3⟩ := o
    obtain ⟨a1, a2⟩ := so h1
    exact ⟨i, w, a1, h2, by rw [← a2]; exact h3⟩
/-- out of a turn -/
theorem Go.unwiped {vs : List Nat} {e3 : Fr} {σ3 : St} (r : Rel K G e σ H) (hc : cleanE e vs = true) (go : Go K (wipeE e vs) (wipe σ vs) H G e3 σ3 H' G') (hw : wipe σ3 vs = wipe σ vs) :
    Go K e σ H G (restE e e3 vs) σ H' G' ∧ cleanE (restE e e3 vs) vs = true := by
  have l3 : e3.length = e.length := by rw [go.rel.len, go.slen, wipe_length, r.len]
  have out : ∀ {i : Nat}, i ∉ vs → σ3[i]? = σ[i]? := fun h => wipe_out2 hw h
  have own1 : ∀ a, OwnA (wipeE e vs) (wipe σ vs) a → OwnA e σ a := (r.wiped (vs := vs)).2
  have own3 : ∀ a, OwnA (restE e e3 vs) σ a → OwnA e3 σ3 a := fun a o => by
    obtain ⟨i, w, h1, h2, h3⟩ := o
    rcases restE_get l3 h1 with ⟨hm, z⟩ | ⟨hm, z⟩
    · rw [cleanE_of hc hm z] at h2; cases h2
    · exact ⟨i, w, z, h2, by rw [out hm]; exact h3⟩
  refine ⟨⟨⟨go.rel.le, by rw [restE_len]; exact r.len, fun i w h => ?_, fun i j w w' a h1 h2 m1 m2 s1 s2 => ?_⟩, fun a o h n => go.keep a o h fun z => n (own1 a z), go.grow, fun a o => ?_, fun a o h => ?_, fun i w h1 h2 => ?_, rfl⟩, ?_⟩
  · rcases restE_get l3 h with ⟨hm, z⟩ | ⟨hm, z⟩
    · obtain ⟨v, hv, q⟩ := r.at_ i w z
      have nm := cleanE_of hc hm z
      cases w with
      | val d => exact ⟨v, hv, Dn.mono go.grow q⟩
      | _ => cases nm
    · obtain ⟨v, hv, q⟩ := go.rel.at_ i w z
      exact ⟨v, by rw [← out hm]; exact hv, q⟩
  · rcases restE_get l3 h1 with ⟨hm, z⟩ | ⟨hm, z⟩
    · rw [cleanE_of hc hm z] at m1; cases m1
    rcases restE_get l3 h2 with ⟨hk, z2⟩ | ⟨hk, z2⟩
    · rw [cleanE_of hc hk z2] at m2; cases m2
    exact go.rel.ap i j w w' a z z2 m1 m2 (by rw [out hm]; exact s1) (by rw [out hk]; exact s2)
  · exact (go.own a (own3 a o)).imp (own1 a) id
  · exact (go.gnew a o h).imp id fun q => q.imp (own1 a) id
  · by_cases hm : i ∈ vs
    · have nm := cleanE_of hc hm h1
      cases w <;> first | (cases nm; done) | (cases h2; done)
    · have hi : i < e.length := (List.getElem?_eq_some_iff.mp h1).1
      obtain ⟨_, w', h3, h4⟩ := go.lent i w (by rw [wipeE_get hm]; exact h1) h2
      refine ⟨rfl, w', ?_, h4⟩
      unfold restE
      rw [List.getElem?_map, List.getElem?_range hi]
      show some (if i ∈ vs then (e[i]?).getD none else (e3[i]?).getD none) = _
      rw [if_neg hm, h3]; rfl
  · unfold cleanE
    refine List.all_eq_true.mpr fun i hi => ?_
    have hlt : i < e.length := by
      have h0 := List.all_eq_true.mp (show (vs.all _) = true from hc) i hi
      cases q : e[i]? with
      | none => rw [q] at h0; cases h0
      | some o => exact (List.getElem?_eq_some_iff.mp q).1
    have eq : (restE e e3 vs)[i]? = e[i]? := by
      unfold restE
      rw [List.getElem?_map, List.getElem?_range hlt]
      show some (if i ∈ vs then (e[i]?).getD none else (e3[i]?).getD none) = _
      rw [if_pos hi, List.getElem?_eq_getElem hlt]; rfl
    rw [eq]
    exact List.all_eq_true.mp (show (vs.all _) = true from hc) i hi
/-- the comprehension's list, which no slot and no value knows, gets another content -/
theorem Go.poke {a : Addr} {o : HO} (go : Go K e σ H G e' σ' H' G') (h1 : H a = none) (h2 : G' a = none) (h3 : ¬ OwnA e' σ' a) : Go K e σ H G e' σ' (upd H' a o) G' := by
  refine ⟨⟨fun b u q => ?_, go.rel.len, fun i w h => ?_, go.rel.ap⟩, fun b u q n => ?_, go.grow, go.own, go.gnew, go.lent, go.slen⟩
  · rw [upd_ne (fun z => by rw [z, h2] at q; cases q)]; exact go.rel.le b u q
  · obtain ⟨v, hv, q⟩ := go.rel.at_ i w h
    refine ⟨v, hv, ?_⟩
    cases w with
    | val d => exact q
    | own l ds =>
      obtain ⟨b, xs, e1, e2, e3, e4⟩ := q
      exact ⟨b, xs, e1, by rw [upd_ne (fun z => h3 ⟨i, _, h, rfl, by rw [hv, e1, z]⟩)]; exact e2, e3, e4⟩
    | ownK l ds =>
      obtain ⟨b, xs, e1, e2, e3, e4⟩ := q
      exact ⟨b, xs, e1, by rw [upd_ne (fun z => h3 ⟨i, _, h, rfl, by rw [hv, e1, z]⟩)]; exact e2, e3, e4⟩
    | ownT l ds => exact q
  · rw [upd_ne (fun z => by rw [z, h1] at q; cases q)]; exact go.keep b u q n
theorem esem_lc {wi : TI} {fi : Fr → Out (List D)} {t : TG} {tg : Tg} {tt : TT} {ft : Fr → Out Bool} {te : TE} {fe : Fr → Out Wd} {vs : List Nat} (hi : ISem K mg W wi fi) (hg : GSem K t tg) (ht : TSem K mg (fun _ _ _ _ => False) tt ft) (he : ESem K mg (fun _ _ _ _ => False) te fe) :
    ESem K mg W (tLc wi t tt te vs) (sLc tg fi ft fe vs) := by
  intro e σ H G Q r p
  refine hi e σ H G _ r ?_
  unfold sLc at p
  cases q : fi e with
  | bad => rw [q] at p; exact p
  | ex x e1 => rw [q] at p; exact p
  | ok items e1 =>
    rw [q] at p
    simp only [Out.bind_ok] at p
    intro J H1 G1 go it a ha
    by_cases hcl : cleanE e1 vs = true ∧ (∀ j ∈ tg.sl, j ∈ vs)
    · rw [if_pos hcl] at p
      obtain ⟨hc, hsl⟩ := hcl
      have ga : G1 a = none := by
        cases z : G1 a with
        | none => rfl
        | some u => rw [go.rel.le a u z] at ha; cases ha
      have na : ¬ OwnA e1 σ a := fresh_not_own go.rel ha
      refine ⟨fun i m H' => m = items.length - i ∧ i ≤ items.length ∧ ∃ e' G' acc accD, Go K e1 σ H1 G1 e' σ H' G' ∧ cleanE e' vs = true ∧ H' a = some (.lst acc) ∧ G' a = none ∧ ¬ OwnA e' σ a ∧ DnA K G' acc accD ∧
          EPost K mg W e σ H G (lcF tg ft fe vs (items.drop i) accD e') Q, ⟨_, rfl, Nat.zero_le _, e1, G1, [], [], (Go.refl go.rel).poke ha ga na, hc, upd_same, ga, na, .nil, p⟩, ?_⟩
      rintro i m H' ⟨rfl, hi, e', G', acc, accD, g1, hc1, ha1, ga1, na1, da1, p1⟩
      by_cases hlt : i < items.length
      · have hd : items[i]? = some items[i] := List.getElem?_eq_getElem hlt
        have dr : items.drop i = items[i] :: items.drop (i + 1) := List.drop_eq_getElem_cons hlt
        obtain ⟨hgo, hy⟩ := (it i H' G' g1.grow g1.rel.le).1 _ hd
        refine .inr ⟨hgo, fun H3 => ∃ e3 G3 acc3 accD3, Go K e1 σ H1 G1 e3 σ H3 G3 ∧ cleanE e3 vs = true ∧ H3 a = some (.lst acc3) ∧ G3 a = none ∧ ¬ OwnA e3 σ a ∧ DnA K G3 acc3 accD3 ∧
            EPost K mg W e σ H G (lcF tg ft fe vs (items.drop (i + 1)) accD3 e3) Q, fun H3 ⟨e3, G3, acc3, accD3, h⟩ => ⟨items.length - (i + 1), by omega, rfl, hlt, e3, G3, acc3, accD3, h⟩, fun x H2 yx => ?_⟩
        obtain ⟨G2, nw, dx⟩ := hy x H2 yx
        have gl := g1.rel.later nw
        obtain ⟨rw2, own2⟩ := gl.rel.wiped (vs := vs)
        rw [dr] at p1
        unfold lcF at p1
        cases qp : tg.put items[i] (wipeE e' vs) with
        | none => simp only [qp] at p1; exact False.elim p1
        | some e3 =>
          simp only [qp] at p1
          refine hg _ _ H2 G2 x _ e3 _ rw2 dx qp fun σ3 go3 b3 => ?_
          have wq : wipe σ3 vs = wipe σ vs := by
            refine wipe_eq (by rw [go3.slen, wipe_length]) fun j hj => ?_
            rw [b3 j (fun z => hj (hsl j z)), wipe_out hj]
          refine ⟨wq, ?_⟩
          refine ht e3 σ3 H2 G2 _ go3.rel ?_
          -- the list stands through the turn
          have keepA : ∀ {e4 : Fr} {σ4 : St} {H4 G4 : Hp}, Go K (wipeE e' vs) (wipe σ vs) H2 G2 e4 σ4 H4 G4 → H4 a = some (.lst acc) ∧ G4 a = none := fun {e4 σ4 H4 G4} g4 => by
            have a2 : H2 a = some (.lst acc) := nw.le _ _ ha1
            have n2 : ¬ OwnA (wipeE e' vs) (wipe σ vs) a := fun z => na1 (own2 a z)
            have gn2 : G2 a = none := by
              cases z : G2 a with
              | none => rfl
              | some u =>
                rcases nw.new a u z with q | q
                · rw [ga1] at q; cases q
                · rw [ha1] at q; cases q
            refine ⟨g4.keep a _ a2 n2, ?_⟩
            cases z : G4 a with
            | none => rfl
            | some u =>
              rcases g4.gnew a u z with q | q | q
              · rw [gn2] at q; cases q
              · exact absurd q n2
              · rw [a2] at q; cases q
          cases qt : ft e3 with
          | bad => simp only [qt] at p1; exact False.elim p1
          | ex x e4 => simp only [qt] at p1; exact False.elim p1
          | ok b e4 =>
            intro H4 G4 go4
            cases b with
            | false =>
              rw [if_neg Bool.false_ne_true]
              simp only [qt] at p1
              have g34 := go3.trans go4
              obtain ⟨gu, hcu⟩ := Go.unwiped gl.rel hc1 g34 wq
              obtain ⟨a4, gn4⟩ := keepA g34
              have gt := (g1.trans gl).trans gu
              refine ⟨_, G4, acc, accD, gt, hcu, a4, gn4, fun z => ?_, (da1.mono nw.grow).mono gu.grow, p1⟩
              rcases gt.own a z with q | q
              · exact na q
              · rw [ha] at q; exact absurd q (by
                  intro _
                  rcases gu.own a z with q2 | q2
                  · exact na1 q2
                  · rw [nw.le _ _ ha1] at q2; cases q2)
            | true =>
              rw [if_pos rfl]
              simp only [qt] at p1
              refine he e4 σ3 H4 G4 _ go4.rel ?_
              cases qe : fe e4 with
              | bad => simp only [qe] at p1; exact False.elim p1
              | ex x e5 => simp only [qe] at p1; exact False.elim p1
              | ok w e5 =>
                simp only [qe] at p1
                intro v H5 G5 go5 ra
                obtain ⟨G6, r6, l6, d6, n6⟩ := freeze go5.rel ra.1 fun m b eb => (ra.2 m b eb).1
                have go6 : Go K e4 σ3 H4 G4 e5 σ3 H5 G6 := ⟨r6, go5.keep, go5.grow.trans l6, go5.own, fun b o hb => by
                  rcases n6 b o hb with z | ⟨m, eb⟩
                  · exact go5.gnew b o z
                  · exact .inr (ra.2 m b eb).2, go5.lent, go5.slen⟩
                have g36 := (go3.trans go4).trans go6
                obtain ⟨gu, hcu⟩ := Go.unwiped gl.rel hc1 g36 wq
                obtain ⟨a6, gn6⟩ := keepA g36
                have gt := (g1.trans gl).trans gu
                have na6 : ¬ OwnA (restE e' e5 vs) σ a := fun z => by
                  rcases gu.own a z with q2 | q2
                  · exact na1 q2
                  · rw [nw.le _ _ ha1] at q2; cases q2
                by_cases hl : accD.length < 1000000
                · rw [if_pos hl] at p1
                  refine ⟨acc, a6, by rw [da1.length]; exact Nat.lt_of_lt_of_le hl (by rw [sizeLine_eq]; decide), _, G6, acc ++ [v], accD ++ [w.dat], gt.poke ha gn6 na6, hcu, upd_same, gn6, na6, ?_, p1⟩
                  exact ((da1.mono nw.grow).mono gu.grow).append (.cons d6 .nil)
                · rw [if_neg hl] at p1; exact False.elim p1
      · have dr : items.drop i = [] := List.drop_eq_nil_of_le (by omega)
        rw [dr] at p1
        refine .inl ⟨(it i H' G' g1.grow g1.rel.le).2 (by omega), ?_⟩
        refine p1 _ H' G' (go.trans g1) (RAt.trans go ⟨⟨a, acc, rfl, ha1, ga1, da1⟩, fun _ b eb => ?_⟩)
        cases eb
        exact ⟨na1, .inr ha⟩
    · rw [if_neg hcl] at p; exact False.elim p
end
end Fd

/-! The rules by syntax; defs by their bodies. -/
namespace Fd
open PySem PySem.Spec PyProof.Rows L2

section
variable {X : Cx} {W : WX}
theorem dss_nil : DSs X W [] sNx := ⟨_, pss_nil, ssem_nx⟩
theorem dss_cons {st : Stmt} {rest : List Stmt} {f g : Fr → SO} (h : DS X W st f) (k : DSs X W rest g) : DSs X W (st :: rest) (sSeq f g) := let ⟨_, p, s⟩ := h; let ⟨_, q, u⟩ := k; ⟨_, pss_cons p q, ssem_seq s u⟩
theorem dss_one {st : Stmt} {f : Fr → SO} (h : DS X W st f) : DSs X W [st] f := let ⟨_, p, s⟩ := h; ⟨_, pss_one p, s⟩
theorem ds_if {c : Expr} {a b : List Stmt} {pos : Pos} {fc : Fr → Out Bool} {f g : Fr → SO} (hc : DT X W c fc) (h : DSs X W a f) (k : DSs X W b g) : DS X W (.If c a b pos) (sIf fc f g) :=
  let ⟨_, p, s⟩ := hc; let ⟨_, q, u⟩ := h; let ⟨_, q', u'⟩ := k; ⟨_, ps_if p q q', ssem_if s u u'⟩
theorem ds_ret {ex : Expr} {pos : Pos} {f : Fr → Out Wd} (h : DE X W ex f) : DS X W (.Return (some ex) pos) (sRet f) := let ⟨_, p, s⟩ := h; ⟨_, ps_ret p, ssem_ret s⟩
theorem ds_retN {pos : Pos} : DS X W (.Return none pos) sRetN := ⟨_, ps_retN, ssem_retN⟩
theorem ds_do {ex : Expr} {pos : Pos} {f : Fr → Out Wd} (h : DE X W ex f) (hs : swapsWith ex none pos.line X.env = pure false := by rfl) : DS X W (.Expr ex pos) (sDo f) := let ⟨_, p, s⟩ := h; ⟨_, ps_expr p hs, ssem_do s⟩
theorem ds_bk {pos : Pos} : DS X W (.Break pos) sBk := ⟨_, ps_break, ssem_bk⟩
theorem ds_ct {pos : Pos} : DS X W (.Continue pos) sCt := ⟨_, ps_continue, ssem_ct⟩
theorem ds_never {st : Stmt} : DS X W st sNever := ⟨_, ps_never, ssem_never⟩
theorem dss_never {st : List Stmt} : DSs X W st sNever := ⟨_, pss_never, ssem_never⟩
theorem ds_set {i : Nat} {x : Str} {ex : Expr} {f : Fr → Out Wd} {pos' pos : Pos} (hN : X.N.Nodup) (hi : X.N[i]? = some x) (hx : Loc X.env.scope x) (h : DE X W ex f) (hs : swapsWith ex (some (.Name x pos')) pos.line X.env = pure false := by rfl)
    (hf : X.fn x = true ∨ X.env.scope.names.lookup x = some .local := by first | exact .inl rfl | exact .inr rfl | assumption) : DS X W (.Assign [.Name x pos'] ex pos) (sSet i f) := let ⟨_, p, s⟩ := h; ⟨_, ps_set hN hi hx p hs hf, ssem_set s⟩
theorem dg_nm {i : Nat} {x : Str} {pos : Pos} (hN : X.N.Nodup) (hi : X.N[i]? = some x) (hx : Loc X.env.scope x) (hf : X.fn x = true ∨ X.env.scope.names.lookup x = some .local := by first | exact .inl rfl | exact .inr rfl | assumption) : DG X (.Name x pos) (.nm i) :=
  ⟨_, pg_name hN hi hx hf, gsem_nm⟩
theorem dgs_nil : DGs X [] [] := ⟨_, pgs_nil, gssem_nil⟩
theorem dgs_cons {ex : Expr} {es : List Expr} {a : Tg} {l : List Tg} (h : DG X ex a) (k : DGs X es l) (hs : (assignEach (ex :: es) X.env).map (·.2) = assign ex X.env :: (assignEach es X.env).map (·.2) := by rfl) : DGs X (ex :: es) (a :: l) :=
  let ⟨_, p, s⟩ := h; let ⟨_, q, u⟩ := k; ⟨_, pgs_cons p q hs, gssem_cons s u⟩
theorem dg_tp {es : List Expr} {k : Nat} {pos : Pos} {l : List Tg} {n : Nat} (hc : X.calm = true) (h : DGs X es l) (hl : l.length = n := by rfl) (hn : (assignEach es X.env).length = n := by rfl) (hst : (assignEach es X.env).findIdx? (·.1) = none := by rfl) : DG X (.Tuple es k pos) (.tp l) :=
  let ⟨_, p, s⟩ := h; ⟨_, pg_tup hc p hn hst, gsem_tp hl s⟩
theorem ds_setT {tg ex : Expr} {f : Fr → Out Wd} {g : Tg} {pos : Pos} (h : DE X W ex f) (k : DG X tg g) (hs : swapsWithSole [tg] ex pos.line X.env = pure false := by rfl) (hw : swappedStores [tg] ex X.env = pure none := by rfl)
    (h1 : (assignEach [tg] X.env).map (·.2) = [assign tg X.env] := by rfl) : DS X W (.Assign [tg] ex pos) (sSetT g f) := let ⟨_, p, s⟩ := h; let ⟨_, q, u⟩ := k; ⟨_, ps_asg p q hs hw h1, ssem_setT s u⟩
theorem ds_for {tg iter : Expr} {body : List Stmt} {pos : Pos} {g : Tg} {fi : Fr → Out (List D)} {fb : Fr → SO} (hp : PassesOwn (model X.prog X.w) X.A X.env X.xe) (hc : X.calm = true) (hi : DI X W tg iter fi) (hg : DG X tg g) (hb : DSs X W body fb)
    (hs : ∀ x, foldedSetIterable iter X.env x = pure x := by intro _; rfl) : DS X W (.For tg iter body [] pos) (sFor g fi fb) :=
  let ⟨_, p, s⟩ := hi; let ⟨_, q, u⟩ := hg; let ⟨_, q', u'⟩ := hb; ⟨_, ps_for hp hc p q q' hs, ssem_for s u u'⟩
theorem ds_while {c : Expr} {body : List Stmt} {pos : Pos} {fc : Fr → Out Bool} {fb : Fr → SO} (fuel : Nat) (hp : PassesOwn (model X.prog X.w) X.A X.env X.xe) (hc : DT X W c fc) (hb : DSs X W body fb) : DS X W (.While c body [] pos) (whileF fc fb fuel) :=
  let ⟨_, p, s⟩ := hc; let ⟨_, q, u⟩ := hb; ⟨_, ps_while hp p q, ssem_while s u⟩
/-- a name's own content moves out of its slot -/
def sMove (i : Nat) : Fr → Out Wd := fun e => match e[i]? with
  | some (some (.val d)) => .ok (.val d) e
  | some (some (.own false ds)) => .ok (.own false ds) (e.set i none)
  | some (some (.ownK false ds)) => .ok (.ownK false ds) (e.set i none)
  | _ => .bad
end
section
variable {K : PySem.W.Frag} {mg : Str → Option Value} {W : WX} {G H G' H' G2 H2 : Hp} {e e' e2 : Fr} {σ σ' σ2 : St}
theorem slot_move {i : Nat} {w : Wd} (r : Rel K G e σ H) (hi : e[i]? = some (some w)) (hl : w.lent = false) :
    ∃ v, σ[i]? = some (some v) ∧ Go K e σ H G (e.set i none) σ H G ∧ RAt K e σ H (e.set i none) G H v w := by
  obtain ⟨v, hv, q⟩ := r.at_ i w hi
  refine ⟨v, hv, ⟨⟨r.le, by rw [List.length_set]; exact r.len, fun j w' h => ?_, fun j k w1 w2 a h1 h2 => ?_⟩, fun _ _ h _ => h, Le.refl _, fun a o => .inl ?_, fun _ _ h => .inl h, fun j w' h1 h2 => ?_, rfl⟩, q, fun m a ea => ⟨fun o => ?_, .inl ⟨i, w, hi, m, by rw [hv, ea]⟩⟩⟩
  · rcases get_set h with ⟨_, z⟩ | ⟨_, z⟩
    · cases z
    · exact r.at_ j w' z
  · rcases get_set h1 with ⟨_, z⟩ | ⟨_, z⟩
    · cases z
    rcases get_set h2 with ⟨_, z2⟩ | ⟨_, z2⟩
    · cases z2
    exact r.ap j k w1 w2 a z z2
  · obtain ⟨j, w', h1, h2, h3⟩ := o
    rcases get_set h1 with ⟨_, z⟩ | ⟨_, z⟩
    · cases z
    · exact ⟨j, w', z, h2, h3⟩
  · have hj : j ≠ i := fun z => by subst z; rw [hi] at h1; cases h1; rw [hl] at h2; cases h2
    exact ⟨rfl, w', by rw [List.getElem?_set_ne (Ne.symm hj)]; exact h1, h2⟩
  · obtain ⟨j, w', h1, h2, h3⟩ := o
    rcases get_set h1 with ⟨_, z⟩ | ⟨hj, z⟩
    · cases z
    · exact hj (r.ap j i w' w a z hi h2 m h3 (by rw [hv, ea]))
theorem esem_move {i : Nat} : ESem K mg W (tVar i) (sMove i) := by
  intro e σ H G Q r p
  unfold sMove at p
  have own : ∀ w : Wd, e[i]? = some (some w) → w.lent = false → EPost K mg W e σ H G (.ok w (e.set i none)) Q → tVar i σ H Q := fun w hw hl p => by
    obtain ⟨v, hv, go, ra⟩ := slot_move r hw hl
    exact ⟨v, hv, p v H G go ra⟩
  cases q : e[i]? with
  | none => simp only [q] at p; exact False.elim p
  | some o =>
    cases o with
    | none => simp only [q] at p; exact False.elim p
    | some w =>
      cases w with
      | val d =>
        simp only [q] at p
        obtain ⟨v, hv, z⟩ := r.at_ i _ q
        exact ⟨v, hv, p v H G (Go.refl r) ⟨z, fun m => nomatch m⟩⟩
      | own b ds =>
        cases b with
        | true => simp only [q] at p; exact False.elim p
        | false => simp only [q] at p; exact own _ q rfl p
      | ownK b ds =>
        cases b with
        | true => simp only [q] at p; exact False.elim p
        | false => simp only [q] at p; exact own _ q rfl p
      | ownT b ds => simp only [q] at p; exact False.elim p
end
section
variable {X : Cx} {W : WX}
theorem de_move {i : Nat} {x : Str} {pos : Pos} (hp : PE X (.Name x pos) (tVar i)) : DE X W (.Name x pos) (sMove i) := ⟨_, hp, esem_move⟩

/-! ### one reading for all contexts of a block -/
theorem de_unif {ι : Type} {Xf : ι → Cx} {K : PySem.W.Frag} {mg : Str → Option Value} {ex : Expr} {f : Fr → Out Wd} (hK : ∀ i, (Xf i).K = K) (hm : ∀ i, (Xf i).mg = mg) [Nonempty ι] (h : ∀ i, DE (Xf i) W ex f) : ∃ t : TE, (∀ i, PE (Xf i) ex t) ∧ ESem K mg W t f := by
  refine ⟨fun σ H Q => ∀ i, (Classical.choose (h i)) σ H Q, fun i => ⟨fun pins s σ H Q I q => (Classical.choose_spec (h i)).1.run pins s σ H Q I (q i)⟩, fun e σ H G Q r p i => ?_⟩
  have q := (Classical.choose_spec (h i)).2
  revert q
  generalize Classical.choose (h i) = t
  intro q
  rw [hK i, hm i] at q
  exact q e σ H G Q r p
theorem dt_unif {ι : Type} {Xf : ι → Cx} {K : PySem.W.Frag} {mg : Str → Option Value} {ex : Expr} {f : Fr → Out Bool} (hK : ∀ i, (Xf i).K = K) (hm : ∀ i, (Xf i).mg = mg) (h : ∀ i, DT (Xf i) W ex f) : ∃ t : TT, (∀ i, PT (Xf i) ex t) ∧ TSem K mg W t f := by
  refine ⟨fun σ H Q => ∀ i, (Classical.choose (h i)) σ H Q, fun i => ⟨fun pins s σ H Q I q => (Classical.choose_spec (h i)).1.run pins s σ H Q I (q i)⟩, fun e σ H G Q r p i => ?_⟩
  have q := (Classical.choose_spec (h i)).2
  revert q
  generalize Classical.choose (h i) = t
  intro q
  rw [hK i, hm i] at q
  exact q e σ H G Q r p
theorem dg_unif {ι : Type} {Xf : ι → Cx} {K : PySem.W.Frag} {ex : Expr} {g : Tg} (hK : ∀ i, (Xf i).K = K) (h : ∀ i, DG (Xf i) ex g) : ∃ t : TG, (∀ i, PG (Xf i) ex t) ∧ GSem K t g := by
  refine ⟨fun v σ H Q => ∀ i, (Classical.choose (h i)) v σ H Q, fun i => ⟨fun pins s σ H v u Q I r q => (Classical.choose_spec (h i)).1.run pins s σ H v u Q I r (q i)⟩, fun e σ H G v d e' Q r dn hp k i => ?_⟩
  have q := (Classical.choose_spec (h i)).2
  revert q
  generalize Classical.choose (h i) = t
  intro q
  rw [hK i] at q
  exact q e σ H G v d e' Q r dn hp k
abbrev BlkIx := Shared × Hp × Addr × List (Str × Addr) × List Addr
abbrev W0 : WX := fun _ _ _ _ => False
def blkAt (X : Cx) (scope : Scope) (i : BlkIx) : Cx := X.blk i.1 i.2.1 scope (compEnvC scope i.2.2.2.1 i.2.2.1 X.env) i.2.2.2.2
def sYes : Fr → Out Bool := fun e => .ok true e
theorem tsem_yes {K : PySem.W.Frag} {mg : Str → Option Value} : TSem K mg W tYes sYes := fun e σ H G Q r p => p H G (Go.refl r)
theorem de_lc0 {elt tg iter : Expr} {scope : Scope} {own : List (Str × Nat)} {pos : Pos} {g : Tg} {fi : Fr → Out (List D)} {fe : Fr → Out Wd} (hc : X.calm = true) (hN : X.N.Nodup) (hi : DI X W tg iter fi) (ok : BlkOk X.N X.env.scope scope own)
    (hg : ∀ i, DG (blkAt X scope i) tg g) (he : ∀ i, DE (blkAt X scope i) W0 elt fe) (hs : ∀ x, foldedSetIterable iter X.env x = pure x := by intro _; rfl) : DE X W (.ListComp elt [⟨tg, iter, [], 0⟩] scope pos) (sLc g fi sYes fe (own.map (·.2))) := by
  haveI : Nonempty BlkIx := ⟨(X.s_0, X.H_0, 0, [], [])⟩
  obtain ⟨wi, p, s⟩ := hi
  obtain ⟨t1, p1, s1⟩ := dg_unif (Xf := blkAt X scope) (fun _ => rfl) hg
  obtain ⟨t2, p2, s2⟩ := de_unif (Xf := blkAt X scope) (fun _ => rfl) (fun _ => rfl) he
  exact ⟨_, pe_lc (tt := tYes) hc hN p ok (fun a b c d f => p1 (a, b, c, d, f)) (fun _ _ _ _ _ => pts_nil) (fun a b c d f => p2 (a, b, c, d, f)) hs, esem_lc s s1 tsem_yes s2⟩
theorem de_lc1 {elt tg iter c : Expr} {scope : Scope} {own : List (Str × Nat)} {pos : Pos} {g : Tg} {fi : Fr → Out (List D)} {ft : Fr → Out Bool} {fe : Fr → Out Wd} (hc : X.calm = true) (hN : X.N.Nodup) (hi : DI X W tg iter fi) (ok : BlkOk X.N X.env.scope scope own)
    (hg : ∀ i, DG (blkAt X scope i) tg g) (ht : ∀ i, DT (blkAt X scope i) W0 c ft) (he : ∀ i, DE (blkAt X scope i) W0 elt fe) (hs : ∀ x, foldedSetIterable iter X.env x = pure x := by intro _; rfl) : DE X W (.ListComp elt [⟨tg, iter, [c], 0⟩] scope pos) (sLc g fi ft fe (own.map (·.2))) := by
  haveI : Nonempty BlkIx := ⟨(X.s_0, X.H_0, 0, [], [])⟩
  obtain ⟨wi, p, s⟩ := hi
  obtain ⟨t1, p1, s1⟩ := dg_unif (Xf := blkAt X scope) (fun _ => rfl) hg
  obtain ⟨t2, p2, s2⟩ := de_unif (Xf := blkAt X scope) (fun _ => rfl) (fun _ => rfl) he
  obtain ⟨t3, p3, s3⟩ := dt_unif (Xf := blkAt X scope) (fun _ => rfl) (fun _ => rfl) ht
  exact ⟨_, pe_lc (tt := t3) hc hN p ok (fun a b c d f => p1 (a, b, c, d, f)) (fun a b c d f => pts_one (p3 (a, b, c, d, f))) (fun a b c d f => p2 (a, b, c, d, f)) hs, esem_lc s s1 s3 s2⟩
/-- name = [..] -/
theorem ds_setLc0 {i : Nat} {y : Str} {py : Pos} {elt tg iter : Expr} {scope : Scope} {own : List (Str × Nat)} {pos spos : Pos} {g : Tg} {fi : Fr → Out (List D)} {fe : Fr → Out Wd} (hc : X.calm = true) (hN : X.N.Nodup) (hy : X.N[i]? = some y) (hyl : X.env.scope.names.lookup y = some .local)
    (hsw : swapsWith (.ListComp elt [⟨tg, iter, [], 0⟩] scope pos) (some (.Name y py)) spos.line X.env = pure true) (hi : DI X W tg iter fi) (ok : BlkOk X.N X.env.scope scope own)
    (hg : ∀ i, DG (blkAt X scope i) tg g) (he : ∀ i, DE (blkAt X scope i) W0 elt fe) (hs : ∀ x, foldedSetIterable iter X.env x = pure x := by intro _; rfl) : DS X W (.Assign [.Name y py] (.ListComp elt [⟨tg, iter, [], 0⟩] scope pos) spos) (sSet i (sLc g fi sYes fe (own.map (·.2)))) := by
  haveI : Nonempty BlkIx := ⟨(X.s_0, X.H_0, 0, [], [])⟩
  obtain ⟨wi, p, s⟩ := hi
  obtain ⟨t1, p1, s1⟩ := dg_unif (Xf := blkAt X scope) (fun _ => rfl) hg
  obtain ⟨t2, p2, s2⟩ := de_unif (Xf := blkAt X scope) (fun _ => rfl) (fun _ => rfl) he
  exact ⟨_, ps_setLc (tt := tYes) hc hN hy hyl hsw p ok (fun a b c d f => p1 (a, b, c, d, f)) (fun _ _ _ _ _ => pts_nil) (fun a b c d f => p2 (a, b, c, d, f)) hs, ssem_set (esem_lc s s1 tsem_yes s2)⟩
theorem ds_setLc1 {i : Nat} {y : Str} {py : Pos} {elt tg iter c : Expr} {scope : Scope} {own : List (Str × Nat)} {pos spos : Pos} {g : Tg} {fi : Fr → Out (List D)} {ft : Fr → Out Bool} {fe : Fr → Out Wd} (hc : X.calm = true) (hN : X.N.Nodup) (hy : X.N[i]? = some y) (hyl : X.env.scope.names.lookup y = some .local)
    (hsw : swapsWith (.ListComp elt [⟨tg, iter, [c], 0⟩] scope pos) (some (.Name y py)) spos.line X.env = pure true) (hi : DI X W tg iter fi) (ok : BlkOk X.N X.env.scope scope own)
    (hg : ∀ i, DG (blkAt X scope i) tg g) (ht : ∀ i, DT (blkAt X scope i) W0 c ft) (he : ∀ i, DE (blkAt X scope i) W0 elt fe) (hs : ∀ x, foldedSetIterable iter X.env x = pure x := by intro _; rfl) : DS X W (.Assign [.Name y py] (.ListComp elt [⟨tg, iter, [c], 0⟩] scope pos) spos) (sSet i (sLc g fi ft fe (own.map (·.2)))) := by
  haveI : Nonempty BlkIx := ⟨(X.s_0, X.H_0, 0, [], [])⟩
  obtain ⟨wi, p, s⟩ := hi
  obtain ⟨t1, p1, s1⟩ := dg_unif (Xf := blkAt X scope) (fun _ => rfl) hg
  obtain ⟨t2, p2, s2⟩ := de_unif (Xf := blkAt X scope) (fun _ => rfl) (fun _ => rfl) he
  obtain ⟨t3, p3, s3⟩ := dt_unif (Xf := blkAt X scope) (fun _ => rfl) (fun _ => rfl) ht
  exact ⟨_, ps_setLc (tt := t3) hc hN hy hyl hsw p ok (fun a b c d f => p1 (a, b, c, d, f)) (fun a b c d f => pts_one (p3 (a, b, c, d, f))) (fun a b c d f => p2 (a, b, c, d, f)) hs, ssem_set (esem_lc s s1 s3 s2)⟩
end

/-! ### a def by its body -/
def startE (n : Nat) (ws : List Wd) : Fr := ws.map some ++ List.replicate (n - ws.length) none
def outsOf : List Wd → Fr → Option (List Wd)
  | [], _ => some []
  | w :: ws, o :: e => if w.mut = true then (match o with | some w' => (outsOf ws e).map (w' :: ·) | none => none) else (outsOf ws e).map (w :: ·)
  | _ :: _, [] => none
def closeR (ws : List Wd) : SO → RF
  | .rt w e => match outsOf ws e with | some outs => .ret w outs | none => .bad
  | .nx e => match outsOf ws e with | some outs => .ret (.val .non) outs | none => .bad
  | .ex x e => match outsOf ws e with | some outs => .ex x outs | none => .bad
  | _ => .bad
theorem outs_get : ∀ {ws : List Wd} {e : Fr} {outs : List Wd}, outsOf ws e = some outs → outs.length = ws.length ∧ ∀ (i : Nat) (w : Wd), ws[i]? = some w → (w.mut = true → ∃ w', e[i]? = some (some w') ∧ outs[i]? = some w') ∧ (w.mut = false → outs[i]? = some w)
  | [], _, _, h => by cases h; exact ⟨rfl, fun i w h => by simp at h⟩
  | w :: ws, [], _, h => by cases h
  | w :: ws, o :: e, outs, h => by
    unfold outsOf at h
    by_cases hm : w.mut = true
    · rw [if_pos hm] at h
      cases o with
      | none => cases h
      | some w' =>
        simp only at h
        cases q : outsOf ws e with
        | none => rw [q] at h; cases h
        | some os =>
          rw [q] at h; cases h
          obtain ⟨l, ih⟩ := outs_get q
          refine ⟨by simp [l], fun i u hu => ?_⟩
          cases i with
          | zero => cases hu; exact ⟨fun _ => ⟨w', rfl, rfl⟩, fun z => by rw [hm] at z; cases z⟩
          | succ i => exact ih i u (by simpa using hu)
    · rw [if_neg hm] at h
      cases q : outsOf ws e with
      | none => rw [q] at h; cases h
      | some os =>
        rw [q] at h; cases h
        obtain ⟨l, ih⟩ := outs_get q
        refine ⟨by simp [l], fun i u hu => ?_⟩
        cases i with
        | zero => cases hu; exact ⟨fun z => absurd z hm, fun _ => rfl⟩
        | succ i => exact ih i u (by simpa using hu)
section
variable {K : PySem.W.Frag} {mg : Str → Option Value} {W : WX} {G H G' H' G2 H2 : Hp} {e e' e2 : Fr} {σ σ' σ2 : St}
theorem startE_get {n : Nat} {ws : List Wd} {i : Nat} {w : Wd} (h : (startE n ws)[i]? = some (some w)) : ws[i]? = some w := by
  unfold startE at h
  by_cases hi : i < ws.length
  · rw [List.getElem?_append_left (by simpa using hi), List.getElem?_map] at h
    cases q : ws[i]? with
    | none => rw [q] at h; cases h
    | some u => rw [q] at h; cases h; rfl
  · rw [List.getElem?_append_right (by simpa using hi), List.getElem?_replicate] at h
    split at h <;> cases h
theorem startE_at {n : Nat} {ws : List Wd} {i : Nat} {w : Wd} (h : ws[i]? = some w) : (startE n ws)[i]? = some (some w) := by
  have hi : i < ws.length := (List.getElem?_eq_some_iff.mp h).1
  unfold startE
  rw [List.getElem?_append_left (by simpa using hi), List.getElem?_map, h]; rfl
theorem start_get {N : List Str} {vs : List V} {i : Nat} (hi : i < vs.length) : (L2.start N vs)[i]? = (vs.map some)[i]? := by
  unfold L2.start
  rw [List.getElem?_append_left (by simpa using hi)]
theorem map_get {ws : List Wd} {i : Nat} {w : Wd} : (ws.map some)[i]? = some (some w) ↔ ws[i]? = some w := by
  rw [List.getElem?_map]
  cases ws[i]? with
  | none => simp
  | some u => simp
/-- the frame at a def's entry -/
theorem rel_start {N : List Str} {ws : List Wd} {vs : List V} (hl : ws.length ≤ N.length) (r : Rel K G (ws.map some) (vs.map some) H) : Rel K G (startE N.length ws) (L2.start N vs) H ∧ (∀ a, OwnA (startE N.length ws) (L2.start N vs) a → OwnA (ws.map some) (vs.map some) a) := by
  have hv : vs.length = ws.length := by have := r.len; simpa using this.symm
  have vlt : ∀ {i : Nat} {w : Wd}, ws[i]? = some w → i < vs.length := fun h => by rw [hv]; exact (List.getElem?_eq_some_iff.mp h).1
  refine ⟨⟨r.le, ?_, fun i w h => ?_, fun i j w w' a h1 h2 m1 m2 s1 s2 => ?_⟩, fun a o => ?_⟩
  · unfold startE L2.start; simp [hv]
  · have h := startE_get h
    obtain ⟨v, e1, q⟩ := r.at_ i w (map_get.mpr h)
    exact ⟨v, by rw [start_get (vlt h)]; exact e1, q⟩
  · have h1 := startE_get h1
    have h2 := startE_get h2
    rw [start_get (vlt h1)] at s1; rw [start_get (vlt h2)] at s2
    exact r.ap i j w w' a (map_get.mpr h1) (map_get.mpr h2) m1 m2 s1 s2
  · obtain ⟨i, w, h1, h2, h3⟩ := o
    have h1 := startE_get h1
    rw [start_get (vlt h1)] at h3
    exact ⟨i, w, map_get.mpr h1, h2, h3⟩
/-- out of a def's body -/
theorem Go.close {N : List Str} {ws outs : List Wd} {vs : List V} (hl : ws.length ≤ N.length) (r : Rel K G (ws.map some) (vs.map some) H) (hlent : ∀ w ∈ ws, w.mut = true → w.lent = true) (go : Go K (startE N.length ws) (L2.start N vs) H G e' σ' H' G') (ho : outsOf ws e' = some outs) :
    Go K (ws.map some) (vs.map some) H G (outs.map some) (vs.map some) H' G' ∧ ∀ a, OwnA (outs.map some) (vs.map some) a → OwnA e' σ' a := by
  have hv : vs.length = ws.length := by have := r.len; simpa using this.symm
  obtain ⟨ol, og⟩ := outs_get ho
  obtain ⟨rs, os⟩ := rel_start (N := N) hl r
  have lentAt : ∀ {i : Nat} {w : Wd}, ws[i]? = some w → w.mut = true → σ'[i]? = (vs.map some)[i]? ∧ ∃ w', e'[i]? = some (some w') ∧ w'.lent = true ∧ outs[i]? = some w' := fun {i w} h m => by
    obtain ⟨s1, w', h3, h4⟩ := go.lent i w (startE_at h) (hlent w (List.mem_of_getElem? h) m)
    obtain ⟨w2, h5, h6⟩ := (og i w h).1 m
    rw [h3] at h5; cases h5
    exact ⟨by rw [s1, start_get (by rw [hv]; exact (List.getElem?_eq_some_iff.mp h).1)], w', h3, h4, h6⟩
  have atW : ∀ {i : Nat} {w : Wd}, outs[i]? = some w → ∃ u, ws[i]? = some u := fun {i w} h => by
    have hi : i < ws.length := by rw [← ol]; exact (List.getElem?_eq_some_iff.mp h).1
    exact ⟨_, List.getElem?_eq_getElem hi⟩
  have outW : ∀ {i : Nat} {w : Wd}, outs[i]? = some w → w.mut = true → ∃ u, ws[i]? = some u ∧ u.mut = true ∧ e'[i]? = some (some w) ∧ σ'[i]? = (vs.map some)[i]? := fun {i w} h m => by
    obtain ⟨u, hu⟩ := atW h
    by_cases hm : u.mut = true
    · obtain ⟨s1, w', h3, h4, h5⟩ := lentAt hu hm
      rw [h] at h5; cases h5
      exact ⟨u, hu, hm, h3, s1⟩
    · have hm : u.mut = false := by simpa using hm
      have := (og i u hu).2 hm
      rw [h] at this; cases this
      rw [hm] at m; cases m
  refine ⟨⟨⟨go.rel.le, by simp [ol, hv], fun i w h => ?_, fun i j w w' a h1 h2 m1 m2 s1 s2 => ?_⟩, fun a o h n => go.keep a o h fun z => n (os a z), go.grow, fun a o => ?_, fun a o h => (go.gnew a o h).imp id fun q => q.imp (os a) id, fun i w h1 h2 => ?_, rfl⟩, fun a o => ?_⟩
  · have h := map_get.mp h
    obtain ⟨u, hu⟩ := atW h
    by_cases hm : u.mut = true
    · obtain ⟨s1, w', h3, h4, h5⟩ := lentAt hu hm
      rw [h] at h5; cases h5
      obtain ⟨v, e1, q⟩ := go.rel.at_ i _ h3
      exact ⟨v, by rw [← s1]; exact e1, q⟩
    · have hm : u.mut = false := by simpa using hm
      have e1 := (og i u hu).2 hm
      rw [h] at e1; cases e1
      obtain ⟨v, e2, q⟩ := r.at_ i w (map_get.mpr hu)
      cases w with
      | val d => exact ⟨v, e2, Dn.mono go.grow q⟩
      | _ => cases hm
  · have h1 := map_get.mp h1
    have h2 := map_get.mp h2
    obtain ⟨u1, hu1, mu1, _⟩ := outW h1 m1
    obtain ⟨u2, hu2, mu2, _⟩ := outW h2 m2
    exact r.ap i j u1 u2 a (map_get.mpr hu1) (map_get.mpr hu2) mu1 mu2 s1 s2
  · obtain ⟨i, w, h1, h2, h3⟩ := o
    obtain ⟨u, hu, mu, _⟩ := outW (map_get.mp h1) h2
    exact .inl ⟨i, u, map_get.mpr hu, mu, h3⟩
  · have h1 := map_get.mp h1
    have m : w.mut = true := by cases w <;> first | rfl | (cases h2; done)
    obtain ⟨s1, w', h3, h4, h5⟩ := lentAt h1 m
    exact ⟨rfl, w', map_get.mpr h5, h4⟩
  · obtain ⟨i, w, h1, h2, h3⟩ := o
    obtain ⟨u, hu, mu, he, hs⟩ := outW (map_get.mp h1) h2
    exact ⟨i, w, he, h2, by rw [hs]; exact h3⟩
/-- the promise from the body's function -/
theorem sp_body {N : List Str} {n : Nat} {t : TS} {f : Fr → SO} {g : List Wd → RF} {vs : List V} {Q : VK} {E : XK} (hN : n ≤ N.length) (hs : SSem K mg (fun c d _ H => E c d H) t f) (hg : ∀ ws, g ws ≠ .bad → closeR ws (f (startE N.length ws)) = g ws)
    (h : spOf K mg n g vs H Q E) : t { nx := fun _ H' => Q .non H', rt := Q } (L2.start N vs) H := by
  obtain ⟨hl, G, ws, r, hlent, p⟩ := h
  have hv : ws.length = n := by have := r.len; rw [← hl]; simpa using this
  have hlN : ws.length ≤ N.length := by rw [hv]; exact hN
  have nb : g ws ≠ .bad := fun z => by rw [z] at p; exact p
  have e := hg ws nb
  obtain ⟨rs, os⟩ := rel_start (N := N) hlN r
  refine hs _ _ H G _ rs ?_
  have fin : ∀ {w : Wd} {e1 : Fr} {v : V} {σ1 : St} {H1 G1 : Hp}, closeR ws (.rt w e1) = g ws → Go K (startE N.length ws) (L2.start N vs) H G e1 σ1 H1 G1 → SRAt K (startE N.length ws) (L2.start N vs) H e1 σ1 G1 H1 v w → Q v H1 := fun {w e1 v σ1 H1 G1} e go ra => by
    unfold closeR at e
    cases q2 : outsOf ws e1 with
    | none => simp only [q2] at e; exact absurd e.symm nb
    | some outs =>
      simp only [q2] at e
      rw [← e] at p
      obtain ⟨gc, oc⟩ := go.close hlN r hlent q2
      exact p v H1 G1 gc ⟨ra.1, fun m a ea => ⟨fun z => (ra.2 m a ea).1 (oc a z), (ra.2 m a ea).2.imp (os a) id⟩⟩
  cases q : f (startE N.length ws) with
  | rt w e1 => rw [q] at e; exact fun v σ1 H1 G1 go ra => fin e go ra
  | nx e1 => rw [q] at e; exact fun σ1 H1 G1 go => fin (w := .val .non) e go ⟨.non, fun m => nomatch m⟩
  | ex x e1 =>
    rw [q] at e
    intro c d σ1 H1 G1 go xa
    unfold closeR at e
    cases q2 : outsOf ws e1 with
    | none => simp only [q2] at e; exact absurd e.symm nb
    | some outs =>
      simp only [q2] at e
      rw [← e] at p
      exact p c d H1 G1 (go.close hlN r hlent q2).1 xa
  | bk e1 => rw [q] at e; exact absurd e.symm nb
  | ct e1 => rw [q] at e; exact absurd e.symm nb
  | bad => rw [q] at e; exact absurd e.symm nb
end

/-- a def that may be called by its name: what it does is g -/
structure Cl (P : Program) (w : World) (K : PySem.W.Frag) (mg : Str → Option Value) (base : Heap) (k : Nat) (x : Str) (n : Nat) (g : List Wd → RF) : Prop where
  ex : ∃ (f : Addr) (fd : FuncData) (ps : List Str), FnOk P w K mg base (L2.CX P w) k f fd ps (spOf K mg n g) ∧ mg x = some (.ref f) ∧ PySem.W.keepIn K (.ref f) = true ∧ L2.Binds K fd ps []
  hn : ∀ ws, g ws ≠ .bad → ws.length = n
/-- the context of a def's body -/
abbrev bodyCx (P : Program) (w : World) (K : PySem.W.Frag) (mg : Str → Option Value) (base : Heap) (N : List Str) (x : Str) (sc : Scope) (f : Addr) (cdv : Value) (A : Around) (outer : List Env) (s : Shared) (H : Hp) (E : XK) : Cx :=
  cxOf (L2.CX P w) P w K mg base N x sc f cdv A outer s H E
abbrev WB (E : XK) : WX := fun c d _ H => E c d H
section
variable {P : Program} {w : World} {K : PySem.W.Frag} {mg : Str → Option Value} {base : Heap}
theorem takesB {N : List Str} {x : Str} {sc : Scope} {f : Addr} {cdv : Value} {A : Around} {outer : List Env} {s : Shared} {H : Hp} {E : XK} : L2.Takes (bodyCx P w K mg base N x sc f cdv A outer s H E) (WB E) := L2.takes_of rfl rfl rfl rfl
theorem passesB {N : List Str} {x : Str} {sc : Scope} {f : Addr} {cdv : Value} {A : Around} {outer : List Env} {s : Shared} {H : Hp} {E : XK} : PassesOwn (model P w) (bodyCx P w K mg base N x sc f cdv A outer s H E).A (bodyCx P w K mg base N x sc f cdv A outer s H E).env (bodyCx P w K mg base N x sc f cdv A outer s H E).xe :=
  L2.passes_of (X := bodyCx P w K mg base N x sc f cdv A outer s H E) rfl
theorem cl_of {x : Str} {st : Stmt} {f : Addr} {fd : FuncData} {N ps : List Str} {k : Nat} {g : List Wd → RF} {body : Fr → SO} (F : L2.Fun K x x st f fd) (hm : mg x = some (.ref f)) (b : L2.Binds K fd ps []) (S : FnScope N ps (defScope st))
    (hD : ∀ (cdv : Value) (A : Around) (outer : List Env) (s : Shared) (H : Hp) (E : XK), Room k (bodyCx P w K mg base N x (defScope st) f cdv A outer s H E).A → DSs (bodyCx P w K mg base N x (defScope st) f cdv A outer s H E) (WB E) (defBody st) body)
    (hn : ∀ ws, g ws ≠ .bad → ws.length = ps.length) (hg : ∀ ws, g ws ≠ .bad → closeR ws (body (startE N.length ws)) = g ws) : Cl P w K mg base (k + 1) x ps.length g := by
  refine ⟨⟨f, fd, ps, F.okX S (fun vs H Q E h => h.1) (fun cdv A outer s H vs Q E hr h => ?_), hm, F.kp, b⟩, hn⟩
  obtain ⟨t, p, q⟩ := hD cdv A outer s H E hr
  have hl : ps.length ≤ N.length := by have := congrArg List.length S.pre; rw [List.length_take] at this; omega
  exact ⟨t, p, sp_body hl q hg h⟩
theorem Cl.mono {j k : Nat} {x : Str} {n : Nat} {g : List Wd → RF} (c : Cl P w K mg base j x n g) (h : j ≤ k) : Cl P w K mg base k x n g :=
  let ⟨⟨f, fd, ps, F, a, b, c'⟩, hn⟩ := c; ⟨⟨f, fd, ps, F.mono h, a, b, c'⟩, hn⟩
end
section
variable {X : Cx} {W : WX}
theorem de_cl {k j n : Nat} {g : List Wd → RF} {x : Str} {p pos : Pos} {ex : Expr} {es : List Expr} {fa : Fr → Out (List AV)} (c : Cl X.prog X.w X.K X.mg X.base k x n g) (hr : Room j X.A) (tk : L2.Takes X W) (ha : DA X W (ex :: es) fa) (hj : k ≤ j := by decide) (hg : Gl X x := by rfl)
    (hdb : (x == ("__debug__" : Str)) = false := by decide) (he : starEach (ex :: es) X.env = (false, eval ex X.env) :: starEach es X.env := by rfl) (hpl : (backTo pos (starEach es X.env)).any (·.1) = false := by rfl) : DE X W (.Call (.Name x p) (ex :: es) [] pos) (sCall g fa) :=
  let ⟨⟨f, fd, ps, F, a, b, c'⟩, hn⟩ := c
  de_call F hn hr hj tk hg a b c' ha hdb he hpl
end
end Fd

/-! What the operators and built-in functions do to data. -/
namespace Fd
open PySem PySem.Spec PyProof.Rows L2

section
variable {K : PySem.W.Frag} {G H : Hp}
theorem Dw.int_inv {v : V} {i : Int} (h : Dw K G H v (.int i)) : v = .int i := by
  rcases h with h | ⟨_, _, _, _, h, _⟩ | ⟨_, _, _, _, h, _⟩
  · exact h.int_inv
  · cases h
  · cases h
theorem Dw.bl_inv {v : V} {i : Bool} (h : Dw K G H v (.bl i)) : v = .bl i := by
  rcases h with h | ⟨_, _, _, _, h, _⟩ | ⟨_, _, _, _, h, _⟩
  · exact h.bl_inv
  · cases h
  · cases h
theorem Dw.str_inv {v : V} {i : Str} (h : Dw K G H v (.str i)) : v = .str i := by
  rcases h with h | ⟨_, _, _, _, h, _⟩ | ⟨_, _, _, _, h, _⟩
  · exact h.str_inv
  · cases h
  · cases h
theorem Dw.non_inv {v : V} (h : Dw K G H v .non) : v = .non := by
  rcases h with h | ⟨_, _, _, _, h, _⟩ | ⟨_, _, _, _, h, _⟩
  · exact h.non_inv
  · cases h
  · cases h
theorem Dw.tup_inv {v : V} {ds : List D} (l : Le G H) (h : Dw K G H v (.tup ds)) : ∃ a xs, v = .ref a ∧ SqT K H a xs ∧ DnA K G xs ds := by
  rcases h with h | ⟨_, _, _, _, h, _⟩ | ⟨_, _, _, _, h, _⟩
  · cases h with
    | tup q r => exact ⟨_, _, rfl, l.seqT q, r⟩
  · cases h
  · cases h
theorem Dw.lst_inv {v : V} {ds : List D} (l : Le G H) (h : Dw K G H v (.lst ds)) : ∃ a xs, v = .ref a ∧ H a = some (.lst xs) ∧ DnA K G xs ds := by
  rcases h with h | ⟨a, xs, es, h1, h2, h3, h4⟩ | ⟨_, _, _, _, h, _⟩
  · cases h with
    | lst q r => exact ⟨_, _, rfl, l _ _ q, r⟩
  · cases h2; exact ⟨a, xs, h1, h3, h4⟩
  · cases h
theorem Dw.lsf_inv {v : V} {ds : List D} (l : Le G H) (h : Dw K G H v (.lsf ds)) : ∃ a xs, v = .ref a ∧ SqL K H a xs ∧ DnA K G xs ds := by
  rcases h with h | ⟨a, xs, es, h1, h2, h3, h4⟩ | ⟨_, _, _, _, h, _⟩
  · cases h with
    | lsf q r => exact ⟨_, _, rfl, l.seqL q, r⟩
  · cases h2
  · cases h
theorem DwA.one {vs : List V} {d : D} (h : DwA K G H vs [d]) : ∃ v, vs = [v] ∧ Dw K G H v d := by
  cases h with | cons a t => cases t; exact ⟨_, rfl, a⟩
theorem DwA.two {vs : List V} {d e : D} (h : DwA K G H vs [d, e]) : ∃ v u, vs = [v, u] ∧ Dw K G H v d ∧ Dw K G H u e := by
  cases h with | cons a t => cases t with | cons b t => cases t; exact ⟨_, _, rfl, a, b⟩
/-- a result that is no object of its own -/
theorem val_end {v : V} {d : D} {Q : VK} (l : Le G H) (hd : Dn K G v d) (k : ∀ v H' G', Nw G H G' H' → WAt K G' H' v (.val d) → ((Wd.val d).mut = true → ∀ a, v = .ref a → H a = none) → Q v H') : Q v H :=
  k v H G (Nw.refl l) hd fun m => nomatch m
/-- a new tuple -/
theorem tup_end {a : Addr} {xs : List V} {ds : List D} {Q : VK} (l : Le G H) (hn : H a = none) (hd : DnA K G xs ds) (k : ∀ v H' G', Nw G H G' H' → WAt K G' H' v (.val (.tup ds)) → ((Wd.val (.tup ds)).mut = true → ∀ a, v = .ref a → H a = none) → Q v H') : Q (.ref a) (upd H a (.tup xs)) :=
  k _ _ _ (nw_tup l hn) (Dn.tup (SqT.of upd_same) (hd.mono (nw_tup (o := .tup xs) l hn).grow)) fun m => nomatch m
/-- a new list -/
theorem lst_end {a : Addr} {xs : List V} {ds : List D} {Q : VK} (l : Le G H) (hn : H a = none) (hd : DnA K G xs ds) (k : ∀ v H' G', Nw G H G' H' → WAt K G' H' v (.own false ds) → ((Wd.own false ds).mut = true → ∀ a, v = .ref a → H a = none) → Q v H') : Q (.ref a) (upd H a (.lst xs)) := by
  have gn : G a = none := by
    cases z : G a with
    | none => rfl
    | some u => rw [l a u z] at hn; cases hn
  exact k _ _ _ (nw_own l hn) ⟨a, xs, rfl, upd_same, gn, hd⟩ fun _ b eb => by cases eb; exact hn
end

/-! ### + - * // % ** -/
def gAdd : List D → Option Wd
  | [.int a, .int b] => some (.val (.int (a + b)))
  | [.tup a, .tup b] => if a.length + b.length ≤ 16777216 then some (.val (.tup (a ++ b))) else none
  | [.lst a, .lst b] => if a.length + b.length ≤ 16777216 then some (.own false (a ++ b)) else none
  | [.str a, .str b] => if a.length + b.length ≤ 16777216 then some (.val (.str (a ++ b))) else none
  | _ => none
def rAdd4 (K : PySem.W.Frag) : R2 := fun x y H Q => rI0 (fun i j => .int (i + j)) x y H Q ∨ (rCatA K x y H Q ∨ (rCat x y H Q ∨ ∃ i j, x = .str i ∧ y = .str j ∧ i.length + j.length ≤ sizeLine ∧ Q (.str (i ++ j)) H))
def gSub : List D → Option Wd
  | [.int a, .int b] => some (.val (.int (a - b)))
  | _ => none
def mulOk (a b : Int) : Bool := (decide (-(2 ^ 64) < a) && decide (a < 2 ^ 64)) || (decide (-(2 ^ 64) < b) && decide (b < 2 ^ 64))
def gMul : List D → Option Wd
  | [.int a, .int b] => if mulOk a b = true then some (.val (.int (a * b))) else none
  | _ => none
def gDiv : List D → Option Wd
  | [.int a, .int b] => if 0 < b ∧ b < 1073741824 then some (.val (.int (a / b))) else none
  | _ => none
def gMod : List D → Option Wd
  | [.int a, .int b] => if 0 < b then some (.val (.int (a % b))) else none
  | _ => none
def gPow : List D → Option Wd
  | [.int a, .int b] => if 0 ≤ b ∧ b ≤ 1000000 ∧ a.natAbs < 2 ^ 64 then some (.val (.int (a ^ b.toNat))) else none
  | _ => none
def gNeg : List D → Option Wd
  | [.int a] => some (.val (.int (-a)))
  | _ => none
def gCmp (p : Int → Int → Bool) : List D → Option Wd
  | [.int a, .int b] => some (.val (.bl (p a b)))
  | _ => none
section
variable {X : Cx} {K : PySem.W.Frag}
theorem o_add : OpR X (binaryOp .Add) (rAdd4 X.K) := op_add.or (op_catA.or (op_cat.or op_add_str))
theorem q_add : RSem K (r2l (rAdd4 K)) gAdd := by
  intro G H vs ds w Q l d e k
  match ds, d, e with
  | [.int a, .int b], d, e =>
    obtain ⟨v, u, rfl, h1, h2⟩ := d.two
    cases e
    exact .inl ⟨a, b, h1.int_inv, h2.int_inv, val_end l (.int _) k⟩
  | [.tup a, .tup b], d, e =>
    obtain ⟨v, u, rfl, h1, h2⟩ := d.two
    obtain ⟨p, xs, rfl, s1, r1⟩ := h1.tup_inv l
    obtain ⟨q, ys, rfl, s2, r2⟩ := h2.tup_inv l
    simp only [gAdd] at e
    by_cases hl : a.length + b.length ≤ 16777216
    · rw [if_pos hl] at e; cases e
      refine .inr (.inl ⟨p, q, xs, ys, rfl, rfl, s1, s2, by rw [r1.length, r2.length, sizeLine_eq]; exact hl, fun hx => ?_, fun hx hy => ?_, fun hx hy z hz => ?_⟩)
      · subst hx; cases r1
        refine k _ H G (Nw.refl l) ?_ fun m => nomatch m
        rcases h2 with h2 | ⟨_, _, _, _, z, _⟩ | ⟨_, _, _, _, z, _⟩
        · exact h2
        · cases z
        · cases z
      · subst hy; cases r2
        rw [List.append_nil] at k
        refine k _ H G (Nw.refl l) ?_ fun m => nomatch m
        rcases h1 with h1 | ⟨_, _, _, _, z, _⟩ | ⟨_, _, _, _, z, _⟩
        · exact h1
        · cases z
        · cases z
      · exact tup_end l hz (r1.append r2) k
    · rw [if_neg hl] at e; cases e
  | [.lst a, .lst b], d, e =>
    obtain ⟨v, u, rfl, h1, h2⟩ := d.two
    obtain ⟨p, xs, rfl, s1, r1⟩ := h1.lst_inv l
    obtain ⟨q, ys, rfl, s2, r2⟩ := h2.lst_inv l
    simp only [gAdd] at e
    by_cases hl : a.length + b.length ≤ 16777216
    · rw [if_pos hl] at e; cases e
      exact .inr (.inr (.inl ⟨p, q, xs, ys, rfl, rfl, s1, s2, by rw [r1.length, r2.length, sizeLine_eq]; exact hl, fun z hz => lst_end l hz (r1.append r2) k⟩))
    · rw [if_neg hl] at e; cases e
  | [.str a, .str b], d, e =>
    obtain ⟨v, u, rfl, h1, h2⟩ := d.two
    simp only [gAdd] at e
    by_cases hl : a.length + b.length ≤ 16777216
    · rw [if_pos hl] at e; cases e
      exact .inr (.inr (.inr ⟨a, b, h1.str_inv, h2.str_inv, by rw [sizeLine_eq]; exact hl, val_end l (.str _) k⟩))
    · rw [if_neg hl] at e; cases e
theorem q_sub : RSem K (r2l (rI0 fun i j => .int (i - j))) gSub := by
  intro G H vs ds w Q l d e k
  match ds, d, e with
  | [.int a, .int b], d, e =>
    obtain ⟨v, u, rfl, h1, h2⟩ := d.two
    cases e
    exact ⟨a, b, h1.int_inv, h2.int_inv, val_end l (.int _) k⟩
theorem q_mul : RSem K (r2l (rI CMul fun i j => .int (i * j))) gMul := by
  intro G H vs ds w Q l d e k
  match ds, d, e with
  | [.int a, .int b], d, e =>
    obtain ⟨v, u, rfl, h1, h2⟩ := d.two
    simp only [gMul] at e
    by_cases hl : mulOk a b = true
    · rw [if_pos hl] at e; cases e
      refine ⟨a, b, h1.int_inv, h2.int_inv, ?_, val_end l (.int _) k⟩
      unfold mulOk at hl
      unfold CMul
      simpa [Bool.or_eq_true, Bool.and_eq_true] using hl
    · rw [if_neg hl] at e; cases e
theorem q_div : RSem K (r2l (rI CDiv fun i j => .int (i / j))) gDiv := by
  intro G H vs ds w Q l d e k
  match ds, d, e with
  | [.int a, .int b], d, e =>
    obtain ⟨v, u, rfl, h1, h2⟩ := d.two
    simp only [gDiv] at e
    by_cases hl : 0 < b ∧ b < 1073741824
    · rw [if_pos hl] at e; cases e
      exact ⟨a, b, h1.int_inv, h2.int_inv, hl, val_end l (.int _) k⟩
    · rw [if_neg hl] at e; cases e
theorem q_mod : RSem K (r2l (rI (fun _ j => 0 < j) fun i j => .int (i % j))) gMod := by
  intro G H vs ds w Q l d e k
  match ds, d, e with
  | [.int a, .int b], d, e =>
    obtain ⟨v, u, rfl, h1, h2⟩ := d.two
    simp only [gMod] at e
    by_cases hl : 0 < b
    · rw [if_pos hl] at e; cases e
      exact ⟨a, b, h1.int_inv, h2.int_inv, hl, val_end l (.int _) k⟩
    · rw [if_neg hl] at e; cases e
theorem q_pow : RSem K (r2l (rI CPow fun i j => .int (i ^ j.toNat))) gPow := by
  intro G H vs ds w Q l d e k
  match ds, d, e with
  | [.int a, .int b], d, e =>
    obtain ⟨v, u, rfl, h1, h2⟩ := d.two
    simp only [gPow] at e
    by_cases hl : 0 ≤ b ∧ b ≤ 1000000 ∧ a.natAbs < 2 ^ 64
    · rw [if_pos hl] at e; cases e
      exact ⟨a, b, h1.int_inv, h2.int_inv, hl, val_end l (.int _) k⟩
    · rw [if_neg hl] at e; cases e
theorem q_neg : RSem K (r1l (rU fun i => .int (-i))) gNeg := by
  intro G H vs ds w Q l d e k
  match ds, d, e with
  | [.int a], d, e =>
    obtain ⟨v, rfl, h1⟩ := d.one
    cases e
    exact ⟨a, h1.int_inv, val_end l (.int _) k⟩
theorem q_cmp {p : Int → Int → Bool} : RSem K (r2l (rI0 fun i j => .bl (p i j))) (gCmp p) := by
  intro G H vs ds w Q l d e k
  match ds, d, e with
  | [.int a, .int b], d, e =>
    obtain ⟨v, u, rfl, h1, h2⟩ := d.two
    cases e
    exact ⟨a, b, h1.int_inv, h2.int_inv, val_end l (.bl _) k⟩
end

/-! ### == and != of data -/
mutual
def toPy : D → PyData
  | .non => .none
  | .bl b => .bool b
  | .int i => .int i
  | .str s => .str s
  | .tup ds => .tuple (toPys ds)
  | .lst ds => .list (toPys ds)
  | .lsf _ => .dict []
  | .dic _ => .dict []
  | .ins _ _ => .dict []
  | .fn _ => .dict []
  | .ty _ => .dict []
def toPys : List D → List PyData
  | [] => []
  | d :: ds => toPy d :: toPys ds
end
def eqOk (d : D) : Bool := SeqAt.shaped (toPy d)
def gEq : List D → Option Wd
  | [a, b] => if eqOk a = true ∧ eqOk b = true then some (.val (.bl (PyData.eqv (toPy a) (toPy b)))) else none
  | _ => none
def gNe : List D → Option Wd
  | [a, b] => if eqOk a = true ∧ eqOk b = true then some (.val (.bl (!PyData.eqv (toPy a) (toPy b)))) else none
  | _ => none
section
variable {K : PySem.W.Frag} {G H : Hp}
mutual
theorem Dn.toDp : ∀ (d : D) (v : V), Dn K G v d → (toPy d).canLay0 = true → Dp K G v (toPy d)
  | .non, _, h, _ => by cases h; exact .non
  | .bl _, _, h, _ => by cases h; exact .bl _
  | .int _, _, h, _ => by cases h; exact .int _
  | .str _, _, h, _ => by cases h; exact .str _
  | .tup ds, _, h, c => by
    cases h with
    | tup q r => exact .tup q (DnA.toDp ds _ r (by simpa [toPy, PyData.canLay0] using c))
  | .lst ds, _, h, c => by
    cases h with
    | lst q r => exact .lst (SqL.of q) (DnA.toDp ds _ r (by simpa [toPy, PyData.canLay0] using c))
  | .lsf _, _, h, c => by simp [toPy, PyData.canLay0] at c
  | .dic _, _, h, c => by simp [toPy, PyData.canLay0] at c
  | .ins _ _, _, h, c => by simp [toPy, PyData.canLay0] at c
  | .fn _, _, h, c => by simp [toPy, PyData.canLay0] at c
  | .ty _, _, h, c => by simp [toPy, PyData.canLay0] at c
theorem DnA.toDp : ∀ (ds : List D) (vs : List V), DnA K G vs ds → PyData.canLayAll0 (toPys ds) = true → DpAll K G vs (toPys ds)
  | [], _, h, _ => by cases h; exact .nil
  | d :: ds, _, h, c => by
    cases h with
    | cons a r =>
      have c' : (toPy d).canLay0 = true ∧ PyData.canLayAll0 (toPys ds) = true := by simpa [toPys, PyData.canLayAll0] using c
      exact .cons (Dn.toDp d _ a c'.1) (DnA.toDp ds _ r c'.2)
end
theorem Dp_mono {G H : Hp} (l : Le G H) : ∀ (d : PyData) (v : V), Dp K G v d → Dp K H v d := by
  intro d v h
  refine Dp.rec (motive_1 := fun v d _ => Dp K H v d) (motive_2 := fun vs ds _ => DpAll K H vs ds) .non (fun b => .bl b) (fun i => .int i) (fun s => .str s) (fun q _ ih => .lst (l.seqL q) ih) (fun q _ ih => .tup (l.seqT q) ih) .nil (fun _ _ a b => .cons a b) h
theorem Dw.toDp {v : V} {d : D} (l : Le G H) (h : Dw K G H v d) (c : eqOk d = true) : Dp K H v (toPy d) := by
  have c0 : (toPy d).canLay0 = true := SeqAt.canLay_of_shaped c
  rcases h with h | ⟨a, xs, es, h1, h2, h3, h4⟩ | ⟨a, xs, es, h1, h2, _⟩
  · exact Dp_mono l _ _ (Dn.toDp d v h c0)
  · subst h2
    have q : DpAll K H xs (toPys es) := by
      have := DnA.toDp es xs h4 (by simpa [toPy, PyData.canLay0] using c0)
      exact DpAll.rec (motive_1 := fun v d _ => Dp K H v d) (motive_2 := fun vs ds _ => DpAll K H vs ds) .non (fun b => .bl b) (fun i => .int i) (fun s => .str s) (fun q _ ih => .lst (l.seqL q) ih) (fun q _ ih => .tup (l.seqT q) ih) .nil (fun _ _ a b => .cons a b) this
    rw [h1]
    exact .lst (SqL.of h3) q
  · subst h2; simp [toPy, PyData.canLay0] at c0
theorem q_eq : RSem K (r2l (rEqD K)) gEq := by
  intro G H vs ds w Q l d e k
  match ds, d, e with
  | [a, b], d, e =>
    obtain ⟨v, u, rfl, h1, h2⟩ := d.two
    simp only [gEq] at e
    by_cases hl : eqOk a = true ∧ eqOk b = true
    · rw [if_pos hl] at e; cases e
      exact ⟨_, _, h1.toDp l hl.1, h2.toDp l hl.2, hl.1, hl.2, val_end l (.bl _) k⟩
    · rw [if_neg hl] at e; cases e
theorem q_ne : RSem K (r2l (rNeD K)) gNe := by
  intro G H vs ds w Q l d e k
  match ds, d, e with
  | [a, b], d, e =>
    obtain ⟨v, u, rfl, h1, h2⟩ := d.two
    simp only [gNe] at e
    by_cases hl : eqOk a = true ∧ eqOk b = true
    · rw [if_pos hl] at e; cases e
      exact ⟨_, _, h1.toDp l hl.1, h2.toDp l hl.2, hl.1, hl.2, val_end l (.bl _) k⟩
    · rw [if_neg hl] at e; cases e
end
/-! ### is, is not -/
def gIsN : List D → Option Wd
  | [.non, .non] => some (.val (.bl true))
  | [.int _, .non] | [.bl _, .non] | [.str _, .non] | [.tup _, .non] | [.lst _, .non] | [.dic _, .non] => some (.val (.bl false))
  | [.bl a, .bl b] => some (.val (.bl (decide (a = b))))
  | _ => none
def gIsNot : List D → Option Wd
  | [.non, .non] => some (.val (.bl false))
  | [.int _, .non] | [.bl _, .non] | [.str _, .non] | [.tup _, .non] | [.lst _, .non] | [.dic _, .non] => some (.val (.bl true))
  | [.bl a, .bl b] => some (.val (.bl (!decide (a = b))))
  | _ => none
def rIs2 : R2 := fun x y H Q => (y = .non ∧ Q (.bl (decide (x = .non))) H) ∨ ∃ a b, x = .bl a ∧ y = .bl b ∧ Q (.bl (decide (a = b))) H
def rIsNot2 : R2 := fun x y H Q => (y = .non ∧ Q (.bl (!decide (x = .non))) H) ∨ ∃ a b, x = .bl a ∧ y = .bl b ∧ Q (.bl (!decide (a = b))) H
section
variable {X : Cx} {K : PySem.W.Frag}
theorem o_is : OpR X (compareOp .Is) rIs2 := op_isN.or op_is_bl
theorem o_isnot : OpR X (compareOp .IsNot) rIsNot2 := op_notN.or op_isnot_bl
end
section
variable {K : PySem.W.Frag} {G H : Hp}
theorem Dw.ref_of {v : V} {d : D} (l : Le G H) (h : Dw K G H v d) (hd : match d with | .tup _ | .lst _ | .dic _ => True | _ => False) : ∃ a, v = .ref a := by
  rcases h with h | ⟨a, _, _, h, _⟩ | ⟨a, _, _, h, _⟩
  · cases h <;> first | exact ⟨_, rfl⟩ | exact hd.elim
  · exact ⟨a, h⟩
  · exact ⟨a, h⟩
theorem q_is : RSem K (r2l rIs2) gIsN := by
  intro G H vs ds w Q l d e k
  match ds, d, e with
  | [.non, .non], d, e => obtain ⟨v, u, rfl, h1, h2⟩ := d.two; cases e; rw [h1.non_inv]; exact .inl ⟨h2.non_inv, val_end l (.bl _) k⟩
  | [.int i, .non], d, e => obtain ⟨v, u, rfl, h1, h2⟩ := d.two; cases e; rw [h1.int_inv]; exact .inl ⟨h2.non_inv, val_end l (.bl _) k⟩
  | [.bl i, .non], d, e => obtain ⟨v, u, rfl, h1, h2⟩ := d.two; cases e; rw [h1.bl_inv]; exact .inl ⟨h2.non_inv, val_end l (.bl _) k⟩
  | [.str i, .non], d, e => obtain ⟨v, u, rfl, h1, h2⟩ := d.two; cases e; rw [h1.str_inv]; exact .inl ⟨h2.non_inv, val_end l (.bl _) k⟩
  | [.tup i, .non], d, e => obtain ⟨v, u, rfl, h1, h2⟩ := d.two; cases e; obtain ⟨a, rfl⟩ := h1.ref_of l trivial; exact .inl ⟨h2.non_inv, val_end l (.bl _) k⟩
  | [.lst i, .non], d, e => obtain ⟨v, u, rfl, h1, h2⟩ := d.two; cases e; obtain ⟨a, rfl⟩ := h1.ref_of l trivial; exact .inl ⟨h2.non_inv, val_end l (.bl _) k⟩
  | [.dic i, .non], d, e => obtain ⟨v, u, rfl, h1, h2⟩ := d.two; cases e; obtain ⟨a, rfl⟩ := h1.ref_of l trivial; exact .inl ⟨h2.non_inv, val_end l (.bl _) k⟩
  | [.bl a, .bl b], d, e => obtain ⟨v, u, rfl, h1, h2⟩ := d.two; cases e; exact .inr ⟨a, b, h1.bl_inv, h2.bl_inv, val_end l (.bl _) k⟩
theorem q_isnot : RSem K (r2l rIsNot2) gIsNot := by
  intro G H vs ds w Q l d e k
  match ds, d, e with
  | [.non, .non], d, e => obtain ⟨v, u, rfl, h1, h2⟩ := d.two; cases e; rw [h1.non_inv]; exact .inl ⟨h2.non_inv, val_end l (.bl _) k⟩
  | [.int i, .non], d, e => obtain ⟨v, u, rfl, h1, h2⟩ := d.two; cases e; rw [h1.int_inv]; exact .inl ⟨h2.non_inv, val_end l (.bl _) k⟩
  | [.bl i, .non], d, e => obtain ⟨v, u, rfl, h1, h2⟩ := d.two; cases e; rw [h1.bl_inv]; exact .inl ⟨h2.non_inv, val_end l (.bl _) k⟩
  | [.str i, .non], d, e => obtain ⟨v, u, rfl, h1, h2⟩ := d.two; cases e; rw [h1.str_inv]; exact .inl ⟨h2.non_inv, val_end l (.bl _) k⟩
  | [.tup i, .non], d, e => obtain ⟨v, u, rfl, h1, h2⟩ := d.two; cases e; obtain ⟨a, rfl⟩ := h1.ref_of l trivial; exact .inl ⟨h2.non_inv, val_end l (.bl _) k⟩
  | [.lst i, .non], d, e => obtain ⟨v, u, rfl, h1, h2⟩ := d.two; cases e; obtain ⟨a, rfl⟩ := h1.ref_of l trivial; exact .inl ⟨h2.non_inv, val_end l (.bl _) k⟩
  | [.dic i, .non], d, e => obtain ⟨v, u, rfl, h1, h2⟩ := d.two; cases e; obtain ⟨a, rfl⟩ := h1.ref_of l trivial; exact .inl ⟨h2.non_inv, val_end l (.bl _) k⟩
  | [.bl a, .bl b], d, e => obtain ⟨v, u, rfl, h1, h2⟩ := d.two; cases e; exact .inr ⟨a, b, h1.bl_inv, h2.bl_inv, val_end l (.bl _) k⟩
end
end Fd

/-! Built-in functions, subscripts, what loops walk, lists that are changed. -/
namespace Fd
open PySem PySem.Spec PyProof.Rows L2

def gLen : List D → Option Wd
  | [.tup ds] => some (.val (.int ds.length))
  | [.lst ds] => some (.val (.int ds.length))
  | [.lsf ds] => some (.val (.int ds.length))
  | [.str s] => if s.length ≤ 16777216 then some (.val (.int s.length)) else none
  | _ => none
def gAbs : List D → Option Wd
  | [.int i] => some (.val (.int (if i < 0 then -i else i)))
  | _ => none
def gMax : List D → Option Wd
  | [.int i, .int j] => some (.val (.int (if j > i then j else i)))
  | _ => none
def gMin : List D → Option Wd
  | [.int i, .int j] => some (.val (.int (if j < i then j else i)))
  | _ => none
def gInt : List D → Option Wd
  | [.int i] => some (.val (.int i))
  | _ => none
def asBools : List D → Option (List Bool)
  | [] => some []
  | .bl b :: ds => (asBools ds).map (b :: ·)
  | _ => none
def asInts : List D → Option (List Int)
  | [] => some []
  | .int b :: ds => (asInts ds).map (b :: ·)
  | _ => none
theorem asBools_eq : ∀ {ds : List D} {bs : List Bool}, asBools ds = some bs → ds = bs.map D.bl
  | [], _, h => by cases h; rfl
  | d :: ds, bs, h => by
    cases d with
    | bl b =>
      unfold asBools at h
      cases q : asBools ds with
      | none => rw [q] at h; cases h
      | some cs => rw [q] at h; cases h; rw [asBools_eq q]; rfl
    | _ => cases h
theorem asInts_eq : ∀ {ds : List D} {bs : List Int}, asInts ds = some bs → ds = bs.map D.int
  | [], _, h => by cases h; rfl
  | d :: ds, bs, h => by
    cases d with
    | int b =>
      unfold asInts at h
      cases q : asInts ds with
      | none => rw [q] at h; cases h
      | some cs => rw [q] at h; cases h; rw [asInts_eq q]; rfl
    | _ => cases h
@[simp] theorem asBools_map (bs : List Bool) : asBools (bs.map D.bl) = some bs := by induction bs with | nil => rfl | cons b bs ih => simp [asBools, ih]
@[simp] theorem asInts_map (bs : List Int) : asInts (bs.map D.int) = some bs := by induction bs with | nil => rfl | cons b bs ih => simp [asInts, ih]
def gAny : List D → Option Wd
  | [.lst ds] => (asBools ds).map fun bs => .val (.bl (bs.any id))
  | _ => none
def gAll : List D → Option Wd
  | [.lst ds] => (asBools ds).map fun bs => .val (.bl (bs.all id))
  | _ => none
def gSum : List D → Option Wd
  | [.lst ds] => (asInts ds).map fun bs => .val (.int bs.sum)
  | _ => none
def gTuple : List D → Option Wd
  | [.lst ds] => some (.val (.tup ds))
  | [.lsf ds] => some (.val (.tup ds))
  | [.tup ds] => some (.val (.tup ds))
  | _ => none
def gList : List D → Option Wd
  | [.lst ds] => some (.own false ds)
  | [.lsf ds] => some (.own false ds)
  | [.tup ds] => some (.own false ds)
  | _ => none
def gIx : List D → Option Wd
  | [.tup ds, .int i] => (atI ds i).map .val
  | [.lst ds, .int i] => (atI ds i).map .val
  | [.lsf ds, .int i] => (atI ds i).map .val
  | _ => none
def gSl (d : D) (lo hi : Option Int) : Option Wd :=
  match d with
  | .tup ds => some (.val (.tup (cutV2 ds lo hi)))
  | .lst ds => some (.own false (cutV2 ds lo hi))
  | .lsf ds => some (.own false (cutV2 ds lo hi))
  | _ => none
where cutV2 (xs : List D) (lo hi : Option Int) : List D := (xs.drop (HT.sIx xs.length 0 lo)).take (HT.sIx xs.length xs.length hi - HT.sIx xs.length 0 lo)
def tyName : D → Option String
  | .non => some "NoneType"
  | .bl _ => some "bool"
  | .int _ => some "int"
  | .str _ => some "str"
  | .tup _ => some "tuple"
  | .lst _ => some "list"
  | .lsf _ => some "list"
  | .dic _ => some "dict"
  | _ => none
def gIsi : List D → Option Wd
  | [d, .ty T] => (tyName d).bind fun t => (kitB t T).map fun b => .val (.bl b)
  | _ => none

section
variable {X : Cx} {K : PySem.W.Frag}
theorem q_len : RSem K (fun xs H Q => ∃ x n, xs = [x] ∧ LenV K x H n ∧ Q (.int n) H) gLen := by
  intro G H vs ds w Q l d e k
  match ds, d, e with
  | [.tup es], d, e =>
    obtain ⟨v, rfl, h1⟩ := d.one
    obtain ⟨a, xs, rfl, s1, r1⟩ := h1.tup_inv l
    cases e
    exact ⟨_, xs.length, rfl, .inr ⟨xs, s1, rfl⟩, by rw [r1.length]; exact val_end l (.int _) k⟩
  | [.lst es], d, e =>
    obtain ⟨v, rfl, h1⟩ := d.one
    obtain ⟨a, xs, rfl, s1, r1⟩ := h1.lst_inv l
    cases e
    exact ⟨_, xs.length, rfl, .inl ⟨xs, SqL.of s1, rfl⟩, by rw [r1.length]; exact val_end l (.int _) k⟩
  | [.lsf es], d, e =>
    obtain ⟨v, rfl, h1⟩ := d.one
    obtain ⟨a, xs, rfl, s1, r1⟩ := h1.lsf_inv l
    cases e
    exact ⟨_, xs.length, rfl, .inl ⟨xs, s1, rfl⟩, by rw [r1.length]; exact val_end l (.int _) k⟩
  | [.str s], d, e =>
    obtain ⟨v, rfl, h1⟩ := d.one
    simp only [gLen] at e
    by_cases hl : s.length ≤ 16777216
    · rw [if_pos hl] at e; cases e
      exact ⟨v, s.length, rfl, by rw [h1.str_inv]; exact ⟨by rw [sizeLine_eq]; exact hl, rfl⟩, val_end l (.int _) k⟩
    · rw [if_neg hl] at e; cases e
theorem q_abs : RSem K (fun xs H Q => ∃ i, xs = [.int i] ∧ Q (.int (if i < 0 then -i else i)) H) gAbs := by
  intro G H vs ds w Q l d e k
  match ds, d, e with
  | [.int i], d, e => obtain ⟨v, rfl, h1⟩ := d.one; cases e; exact ⟨i, by rw [h1.int_inv], val_end l (.int _) k⟩
theorem q_max : RSem K (fun xs H Q => ∃ i j, xs = [.int i, .int j] ∧ Q (.int (if j > i then j else i)) H) gMax := by
  intro G H vs ds w Q l d e k
  match ds, d, e with
  | [.int i, .int j], d, e => obtain ⟨v, u, rfl, h1, h2⟩ := d.two; cases e; exact ⟨i, j, by rw [h1.int_inv, h2.int_inv], val_end l (.int _) k⟩
theorem q_min : RSem K (fun xs H Q => ∃ i j, xs = [.int i, .int j] ∧ Q (.int (if j < i then j else i)) H) gMin := by
  intro G H vs ds w Q l d e k
  match ds, d, e with
  | [.int i, .int j], d, e => obtain ⟨v, u, rfl, h1, h2⟩ := d.two; cases e; exact ⟨i, j, by rw [h1.int_inv, h2.int_inv], val_end l (.int _) k⟩
theorem q_int : RSem K (fun xs H Q => (∃ i, xs = [.int i] ∧ Q (.int i) H) ∨ ∃ k, xs = [.bl k] ∧ Q (.int (if k then 1 else 0)) H) gInt := by
  intro G H vs ds w Q l d e k
  match ds, d, e with
  | [.int i], d, e => obtain ⟨v, rfl, h1⟩ := d.one; cases e; exact .inl ⟨i, by rw [h1.int_inv], val_end l (.int _) k⟩
theorem q_any : RSem K (rAny K) gAny := by
  intro G H vs ds w Q l d e k
  match ds, d, e with
  | [.lst es], d, e =>
    obtain ⟨v, rfl, h1⟩ := d.one
    obtain ⟨a, xs, rfl, s1, r1⟩ := h1.lst_inv l
    simp only [gAny] at e
    cases q : asBools es with
    | none => rw [q] at e; cases e
    | some bs =>
      rw [q] at e; cases e
      rw [asBools_eq q] at r1
      exact ⟨a, bs, rfl, by rw [← r1.bools]; exact SqL.of s1, val_end l (.bl _) k⟩
theorem q_all : RSem K (rAll K) gAll := by
  intro G H vs ds w Q l d e k
  match ds, d, e with
  | [.lst es], d, e =>
    obtain ⟨v, rfl, h1⟩ := d.one
    obtain ⟨a, xs, rfl, s1, r1⟩ := h1.lst_inv l
    simp only [gAll] at e
    cases q : asBools es with
    | none => rw [q] at e; cases e
    | some bs =>
      rw [q] at e; cases e
      rw [asBools_eq q] at r1
      exact ⟨a, bs, rfl, by rw [← r1.bools]; exact SqL.of s1, val_end l (.bl _) k⟩
theorem q_sum : RSem K (rSum K) gSum := by
  intro G H vs ds w Q l d e k
  match ds, d, e with
  | [.lst es], d, e =>
    obtain ⟨v, rfl, h1⟩ := d.one
    obtain ⟨a, xs, rfl, s1, r1⟩ := h1.lst_inv l
    simp only [gSum] at e
    cases q : asInts es with
    | none => rw [q] at e; cases e
    | some bs =>
      rw [q] at e; cases e
      rw [asInts_eq q] at r1
      exact ⟨a, bs, rfl, by rw [← r1.ints]; exact SqL.of s1, val_end l (.int _) k⟩
theorem q_tuple : RSem K (fun xs H Q => ∃ p ys, xs = [.ref p] ∧ ((SqL K H p ys ∧ ∀ l, H l = none → Q (.ref l) (upd H l (.tup ys))) ∨ (SqT K H p ys ∧ Q (.ref p) H))) gTuple := by
  intro G H vs ds w Q l d e k
  match ds, d, e with
  | [.lst es], d, e =>
    obtain ⟨v, rfl, h1⟩ := d.one
    obtain ⟨a, xs, rfl, s1, r1⟩ := h1.lst_inv l
    cases e
    exact ⟨a, xs, rfl, .inl ⟨SqL.of s1, fun b hb => tup_end l hb r1 k⟩⟩
  | [.lsf es], d, e =>
    obtain ⟨v, rfl, h1⟩ := d.one
    obtain ⟨a, xs, rfl, s1, r1⟩ := h1.lsf_inv l
    cases e
    exact ⟨a, xs, rfl, .inl ⟨s1, fun b hb => tup_end l hb r1 k⟩⟩
  | [.tup es], d, e =>
    obtain ⟨v, rfl, h1⟩ := d.one
    cases e
    rcases h1 with h1 | ⟨_, _, _, _, z, _⟩ | ⟨_, _, _, _, z, _⟩
    · cases h1 with
      | tup q r => exact ⟨_, _, rfl, .inr ⟨l.seqT q, val_end l (.tup q r) k⟩⟩
    · cases z
    · cases z
theorem q_list : RSem K (fun xs H Q => ∃ p ys, xs = [.ref p] ∧ (SqL K H p ys ∨ SqT K H p ys) ∧ ∀ l, H l = none → Q (.ref l) (upd H l (.lst ys))) gList := by
  intro G H vs ds w Q l d e k
  match ds, d, e with
  | [.lst es], d, e =>
    obtain ⟨v, rfl, h1⟩ := d.one
    obtain ⟨a, xs, rfl, s1, r1⟩ := h1.lst_inv l
    cases e
    exact ⟨a, xs, rfl, .inl (SqL.of s1), fun b hb => lst_end l hb r1 k⟩
  | [.lsf es], d, e =>
    obtain ⟨v, rfl, h1⟩ := d.one
    obtain ⟨a, xs, rfl, s1, r1⟩ := h1.lsf_inv l
    cases e
    exact ⟨a, xs, rfl, .inl s1, fun b hb => lst_end l hb r1 k⟩
  | [.tup es], d, e =>
    obtain ⟨v, rfl, h1⟩ := d.one
    obtain ⟨a, xs, rfl, s1, r1⟩ := h1.tup_inv l
    cases e
    exact ⟨a, xs, rfl, .inr s1, fun b hb => lst_end l hb r1 k⟩
theorem atI_dn {G : Hp} {xs : List V} {ds : List D} {i : Int} {d : D} (r : DnA K G xs ds) (h : atI ds i = some d) : ∃ v, atI xs i = some v ∧ Dn K G v d := by
  unfold atI at h ⊢
  rw [r.length]
  cases q : ixN ds.length i with
  | none => rw [q] at h; cases h
  | some j =>
    rw [q] at h
    exact r.get h
theorem q_ix : RSem K (r2l (rIx K)) gIx := by
  intro G H vs ds w Q l d e k
  match ds, d, e with
  | [.tup es, .int i], d, e =>
    obtain ⟨v, u, rfl, h1, h2⟩ := d.two
    obtain ⟨a, xs, rfl, s1, r1⟩ := h1.tup_inv l
    simp only [gIx] at e
    cases q : atI es i with
    | none => rw [q] at e; cases e
    | some d =>
      rw [q] at e; cases e
      obtain ⟨v, hv, dv⟩ := atI_dn r1 q
      exact .inr (.inl ⟨a, xs, i, v, rfl, h2.int_inv, s1, hv, val_end l dv k⟩)
  | [.lst es, .int i], d, e =>
    obtain ⟨v, u, rfl, h1, h2⟩ := d.two
    obtain ⟨a, xs, rfl, s1, r1⟩ := h1.lst_inv l
    simp only [gIx] at e
    cases q : atI es i with
    | none => rw [q] at e; cases e
    | some d =>
      rw [q] at e; cases e
      obtain ⟨v, hv, dv⟩ := atI_dn r1 q
      exact .inl ⟨a, xs, i, v, rfl, h2.int_inv, SqL.of s1, hv, val_end l dv k⟩
  | [.lsf es, .int i], d, e =>
    obtain ⟨v, u, rfl, h1, h2⟩ := d.two
    obtain ⟨a, xs, rfl, s1, r1⟩ := h1.lsf_inv l
    simp only [gIx] at e
    cases q : atI es i with
    | none => rw [q] at e; cases e
    | some d =>
      rw [q] at e; cases e
      obtain ⟨v, hv, dv⟩ := atI_dn r1 q
      exact .inl ⟨a, xs, i, v, rfl, h2.int_inv, s1, hv, val_end l dv k⟩
def rSl2 (K : PySem.W.Frag) : R3 := fun x lo hi H Q => rSlA K x lo hi H Q ∨ rSlL K x lo hi H Q
theorem o_sl : L2.SlR X (rSl2 X.K) := sl_tupA.or sl_list
theorem q_sl : SlSem K (rSl2 K) gSl := by
  intro G H x d lo hi w Q l dw e k
  cases d with
  | tup es =>
    obtain ⟨a, xs, rfl, s1, r1⟩ := dw.tup_inv l
    cases e
    have rc : DnA K G (cutV xs lo hi) (gSl.cutV2 es lo hi) := by
      unfold cutV gSl.cutV2
      rw [r1.length]
      exact (r1.drop _).take _
    refine .inl ⟨a, xs, rfl, s1, fun ⟨h1, h2⟩ => ?_, fun _ b hb => tup_end l hb rc k⟩
    have ec : gSl.cutV2 es lo hi = es := by
      rw [r1.length] at h1 h2
      unfold gSl.cutV2
      rw [h1, h2]; simp
    rw [ec] at k
    refine k _ H G (Nw.refl l) ?_ fun m => nomatch m
    rcases dw with h2 | ⟨_, _, _, _, z, _⟩ | ⟨_, _, _, _, z, _⟩
    · exact h2
    · cases z
    · cases z
  | lst es =>
    obtain ⟨a, xs, rfl, s1, r1⟩ := dw.lst_inv l
    cases e
    refine .inr ⟨a, xs, rfl, SqL.of s1, fun b hb => lst_end l hb ?_ k⟩
    unfold cutV gSl.cutV2
    rw [r1.length]
    exact (r1.drop _).take _
  | lsf es =>
    obtain ⟨a, xs, rfl, s1, r1⟩ := dw.lsf_inv l
    cases e
    refine .inr ⟨a, xs, rfl, s1, fun b hb => lst_end l hb ?_ k⟩
    unfold cutV gSl.cutV2
    rw [r1.length]
    exact (r1.drop _).take _
  | _ => cases e
theorem rd_ty {H : Hp} {a : Addr} {xs : List V} (h : SqL K H a xs) : TyX K H (.ref a) (.type "list") := by
  rcases h with (h | ⟨o, h⟩) | ⟨o, its, n, h1, h2, _⟩
  · exact .base (.lst h)
  · exact .base (.frz h)
  · exact .kList h1 h2
theorem rt_ty {H : Hp} {a : Addr} {xs : List V} (h : SqT K H a xs) : TyX K H (.ref a) (.type "tuple") := by
  rcases h with (h | ⟨o, h⟩) | ⟨o, its, n, h1, h2, _⟩
  · exact .base (.tup h)
  · exact .fTuple h
  · exact .kTuple h1 h2
theorem ty_of {G H : Hp} {v : V} {d : D} {t : String} (l : Le G H) (h : Dw K G H v d) (ht : tyName d = some t) : TyX K H v (.type t) := by
  cases d with
  | non => cases ht; rw [h.non_inv]; exact .base .non
  | bl b => cases ht; rw [h.bl_inv]; exact .base (.bl b)
  | int b => cases ht; rw [h.int_inv]; exact .base (.int b)
  | str b => cases ht; rw [h.str_inv]; exact .base (.str b)
  | tup ds => cases ht; obtain ⟨a, xs, rfl, s1, r1⟩ := h.tup_inv l; exact rt_ty s1
  | lst ds => cases ht; obtain ⟨a, xs, rfl, s1, r1⟩ := h.lst_inv l; exact .base (.lst s1)
  | lsf ds => cases ht; obtain ⟨a, xs, rfl, s1, r1⟩ := h.lsf_inv l; exact rd_ty s1
  | dic ds =>
    cases ht
    rcases h with h | ⟨_, _, _, _, z, _⟩ | ⟨a, xs, es, h1, h2, h3, h4⟩
    · cases h with
      | dic q r =>
        rcases l.rd q with q | ⟨o, q⟩
        · exact .base (.dK q)
        · exact .fDict q
    · cases z
    · rw [h1]; exact .base (.dK h3)
  | ins _ _ => cases ht
  | fn _ => cases ht
  | ty _ => cases ht
theorem q_isi : RSem K (rIsi K) gIsi := by
  intro G H vs ds w Q l d e k
  match ds, d, e with
  | [a, .ty T], d, e =>
    obtain ⟨v, u, rfl, h1, h2⟩ := d.two
    simp only [gIsi] at e
    cases q : tyName a with
    | none => rw [q] at e; cases e
    | some t =>
      rw [q] at e
      simp only [Option.bind_some] at e
      cases q2 : kitB t T with
      | none => rw [q2] at e; cases e
      | some b =>
        rw [q2] at e; cases e
        have hu : u = .ty T := by
          rcases h2 with h2 | ⟨_, _, _, _, z, _⟩ | ⟨_, _, _, _, z, _⟩
          · cases h2; rfl
          · cases z
          · cases z
        subst hu
        exact ⟨v, _, _, _, b, rfl, .ty T, ty_of l h1 q, kit_ty q2, val_end l (.bl _) k⟩
end

/-! ### what loops walk -/
def iSeq (K : PySem.W.Frag) (tl : TE) : TI := fun σ H R => tl σ H fun x H1 => ∃ a, x = .ref a ∧ (((∃ xs, SqL K H1 a xs) ∧ R (Itl K a) H1) ∨ ((∃ xs, SqT K H1 a xs) ∧ R (Itt K a) H1))
theorem pi_seq {X : Cx} {tg l : Expr} {tl : TE} (hl : PE X l tl) : PI X tg l (iSeq X.K tl) := by
  refine ⟨fun pins s σ H R I h => ?_⟩
  refine thn (hl.run pins s σ H _ I h) fun v s1 ⟨x, H1, I1, r1, q1⟩ => ?_
  obtain ⟨a, e, q1⟩ := q1
  subst e
  cases r1
  have fp : ∀ b ∈ [s1.heap.objs.size], FpOk X pins H1 b := fun b hb => by
    have e : b = s1.heap.objs.size := by simpa using hb
    subst e
    exact I1.fpOk (Nat.le_refl _) (I1.hok.fresh (Nat.le_refl _))
  rcases q1 with ⟨⟨xs, hq⟩, q⟩ | ⟨⟨xs, hq⟩, q⟩
  · obtain ⟨its, rv, p, hz⟩ := I1.list hq
    refine wpAny_pyIter_list p.isList ?_
    exact ⟨s1.heap.objs.size, [s1.heap.objs.size], _, _, H1, rfl, I1.kept (t' := s1.toks) fun b o e => Heap.get?_push_of_some _ e, turn_list a _, ⟨_, Heap.get?_push_size _ rfl, rfl, rfl⟩, fp, q⟩
  · obtain ⟨its, rv, p, hz⟩ := I1.tuple hq
    refine wpAny_pyIter_tuple (show s1.heap.IsTuple a its.toArray from p) ?_
    exact ⟨s1.heap.objs.size, [s1.heap.objs.size], _, _, H1, rfl, I1.kept (t' := s1.toks) fun b o e => Heap.get?_push_of_some _ e, turn_tuple a _, ⟨_, Heap.get?_push_size _ rfl, rfl, rfl⟩, fp, q⟩
def seqOf : D → Option (List D)
  | .tup ds => some ds
  | .lst ds => some ds
  | .lsf ds => some ds
  | _ => none
def sSeqI (f : Fr → Out AV) : Fr → Out (List D) := fun e => (f e).bind fun a e1 => match a with
  | .d x => (match seqOf x with | some ds => .ok ds e1 | none => .bad)
  | .sl _ => .bad
section
variable {K : PySem.W.Frag} {mg : Str → Option Value} {W : WX} {G H G' H' G2 H2 : Hp} {e e' e2 : Fr} {σ σ' σ2 : St}
theorem it_list {a : Addr} {xs : List V} {ds : List D} (h : SqL K G a xs) (r : DnA K G xs ds) : ItSem K (Itl K a) ds G := by
  intro i H1 G1 l1 l2
  have hs : SqL K H1 a xs := (l1.trans l2).seqL h
  refine ⟨fun d hd => ?_, fun hl => ⟨xs, hs, by rw [r.length]; exact hl⟩⟩
  obtain ⟨v, hv, dv⟩ := r.get hd
  refine ⟨⟨xs, v, hs, hv⟩, fun x H' y => ?_⟩
  obtain ⟨rfl, y⟩ := y
  have := y xs hs
  rw [hv] at this; cases this
  exact ⟨G1, Nw.refl l2, dv.mono l1⟩
theorem it_tup {a : Addr} {xs : List V} {ds : List D} (h : SqT K G a xs) (r : DnA K G xs ds) : ItSem K (Itt K a) ds G := by
  intro i H1 G1 l1 l2
  have hs : SqT K H1 a xs := (l1.trans l2).seqT h
  refine ⟨fun d hd => ?_, fun hl => ⟨xs, hs, by rw [r.length]; exact hl⟩⟩
  obtain ⟨v, hv, dv⟩ := r.get hd
  refine ⟨⟨xs, v, hs, hv⟩, fun x H' y => ?_⟩
  obtain ⟨rfl, y⟩ := y
  have := y xs hs
  rw [hv] at this; cases this
  exact ⟨G1, Nw.refl l2, dv.mono l1⟩
theorem isem_seq {t : TE} {f : Fr → Out AV} (h : VSem K mg W t f) : ISem K mg W (iSeq K t) (sSeqI f) := by
  intro e σ H G R r p
  refine h e σ H G _ r ?_
  unfold sSeqI at p
  cases q : f e with
  | bad => rw [q] at p; exact p
  | ex x e1 => rw [q] at p; exact p
  | ok a e1 =>
    rw [q] at p
    simp only [Out.bind_ok] at p
    intro v H1 G1 go av
    cases a with
    | sl i => exact False.elim p
    | d x =>
      simp only at p
      have dv : Dn K G1 v x := av
      cases x with
      | tup ds =>
        cases dv with
        | tup q r1 => exact ⟨_, rfl, .inr ⟨⟨_, go.rel.le.seqT q⟩, p _ H1 G1 go (it_tup q r1)⟩⟩
      | lst ds =>
        cases dv with
        | lst q r1 => exact ⟨_, rfl, .inl ⟨⟨_, SqL.of (go.rel.le _ _ q)⟩, p _ H1 G1 go (it_list (SqL.of q) r1)⟩⟩
      | lsf ds =>
        cases dv with
        | lsf q r1 => exact ⟨_, rfl, .inl ⟨⟨_, go.rel.le.seqL q⟩, p _ H1 G1 go (it_list q r1)⟩⟩
      | _ => exact False.elim p
def rangeD (lo : Int) (n : Nat) : List D := (List.range n).map fun k => .int (lo + (k : Nat))
theorem it_range {lo : Int} {n : Nat} : ItSem K (Itr lo n) (rangeD lo n) G := by
  intro i H1 G1 l1 l2
  refine ⟨fun d hd => ?_, fun hl => by
    unfold rangeD at hl
    show n ≤ i
    simpa using hl⟩
  unfold rangeD at hd
  rw [List.getElem?_map] at hd
  by_cases hi : i < n
  · rw [List.getElem?_range hi] at hd
    cases hd
    refine ⟨hi, fun x H' y => ?_⟩
    obtain ⟨rfl, rfl⟩ := y
    exact ⟨G1, Nw.refl l2, .int _⟩
  · rw [List.getElem?_eq_none (by simpa using hi)] at hd; cases hd
def sRange1 (f : Fr → Out (List AV)) : Fr → Out (List D) := fun e => (f e).bind fun as e1 => match avD as with
  | some [.int j] => if -(2 ^ 62) ≤ j ∧ j < 2 ^ 62 then .ok (rangeD 0 j.toNat) e1 else .bad
  | _ => .bad
def sRange2 (f : Fr → Out (List AV)) : Fr → Out (List D) := fun e => (f e).bind fun as e1 => match avD as with
  | some [.int i, .int j] => if -(2 ^ 62) ≤ i ∧ i < 2 ^ 62 ∧ -(2 ^ 62) ≤ j ∧ j < 2 ^ 62 then .ok (rangeD i (j - i).toNat) e1 else .bad
  | _ => .bad
theorem isem_range1 {t : TA} {f : Fr → Out (List AV)} (h : ASem K mg W t f) : ISem K mg W (iRng1 t) (sRange1 f) := by
  intro e σ H G R r p
  refine h e σ H G _ r ?_
  unfold sRange1 at p
  cases q : f e with
  | bad => rw [q] at p; exact p
  | ex x e1 => rw [q] at p; exact p
  | ok as e1 =>
    rw [q] at p
    simp only [Out.bind_ok] at p
    intro vs H1 G1 go av
    cases q2 : avD as with
    | none => simp only [q2] at p; exact False.elim p
    | some ds =>
      have dn := avD_at av q2
      match ds, q2, dn with
      | [.int j], q2, dn =>
        simp only [q2] at p
        by_cases hl : -(2 ^ 62) ≤ j ∧ j < 2 ^ 62
        · rw [if_pos hl] at p
          cases dn with
          | cons a t =>
            cases t
            rw [a.int_inv]
            exact ⟨j, rfl, hl.1, hl.2, p _ H1 G1 go it_range⟩
        · rw [if_neg hl] at p; exact False.elim p
      | [], q2, dn => simp only [q2] at p; exact False.elim p
      | .int _ :: _ :: _, q2, dn => simp only [q2] at p; exact False.elim p
      | .non :: _, q2, dn | .bl _ :: _, q2, dn | .str _ :: _, q2, dn | .tup _ :: _, q2, dn | .lst _ :: _, q2, dn | .lsf _ :: _, q2, dn | .dic _ :: _, q2, dn | .ins _ _ :: _, q2, dn | .fn _ :: _, q2, dn | .ty _ :: _, q2, dn => simp only [q2] at p; exact False.elim p
theorem isem_range2 {t : TA} {f : Fr → Out (List AV)} (h : ASem K mg W t f) : ISem K mg W (iRng2 t) (sRange2 f) := by
  intro e σ H G R r p
  refine h e σ H G _ r ?_
  unfold sRange2 at p
  cases q : f e with
  | bad => rw [q] at p; exact p
  | ex x e1 => rw [q] at p; exact p
  | ok as e1 =>
    rw [q] at p
    simp only [Out.bind_ok] at p
    intro vs H1 G1 go av
    cases q2 : avD as with
    | none => simp only [q2] at p; exact False.elim p
    | some ds =>
      have dn := avD_at av q2
      rw [q2] at p
      split at p
      · rename_i i j hij
        cases hij
        split at p
        · rename_i hl
          cases dn with
          | cons a t =>
            cases t with
            | cons b t =>
              cases t
              rw [a.int_inv, b.int_inv]
              exact ⟨i, j, rfl, hl, p _ H1 G1 go it_range⟩
        · exact False.elim p
      · exact False.elim p
def zipD : List D → List D → List D
  | x :: xs, y :: ys => .tup [x, y] :: zipD xs ys
  | _, _ => []
theorem zipD_get : ∀ {xs ys : List D} {i : Nat} {d : D}, (zipD xs ys)[i]? = some d → ∃ x y, xs[i]? = some x ∧ ys[i]? = some y ∧ d = .tup [x, y]
  | [], _, i, _, h => by simp [zipD] at h
  | _ :: _, [], i, _, h => by simp [zipD] at h
  | x :: xs, y :: ys, 0, _, h => by simp [zipD] at h; exact ⟨x, y, rfl, rfl, h.symm⟩
  | x :: xs, y :: ys, i + 1, d, h => by
    have h : (zipD xs ys)[i]? = some d := by simpa [zipD] using h
    obtain ⟨a, b, h1, h2, h3⟩ := zipD_get h
    exact ⟨a, b, by simpa using h1, by simpa using h2, h3⟩
theorem zipD_len : ∀ {xs ys : List D}, (zipD xs ys).length = min xs.length ys.length
  | [], _ => by simp [zipD]
  | _ :: _, [] => by simp [zipD]
  | x :: xs, y :: ys => by simp [zipD, zipD_len (xs := xs) (ys := ys)]
theorem pair_end {a : Addr} {x y : V} {d1 d2 : D} (l : Le G H) (hn : H a = none) (h1 : Dn K G x d1) (h2 : Dn K G y d2) : ∃ G', Nw G H G' (upd H a (.tup [x, y])) ∧ Dn K G' (.ref a) (.tup [d1, d2]) :=
  ⟨_, nw_tup l hn, .tup (SqT.of upd_same) ((DnA.cons h1 (.cons h2 .nil)).mono (nw_tup (o := .tup [x, y]) l hn).grow)⟩
theorem it_zipL {a b : Addr} {xs ys : List V} {ds es : List D} (h1 : SqL K G a xs) (h2 : SqL K G b ys) (r1 : DnA K G xs ds) (r2 : DnA K G ys es) : ItSem K (Itz K a b) (zipD ds es) G := by
  intro i H1 G1 l1 l2
  have s1 := (l1.trans l2).seqL h1
  have s2 := (l1.trans l2).seqL h2
  refine ⟨fun d hd => ?_, fun hl => ⟨xs, ys, s1, s2, by rw [zipD_len] at hl; rw [r1.length, r2.length]; omega⟩⟩
  obtain ⟨x, y, hx, hy, rfl⟩ := zipD_get hd
  obtain ⟨v, hv, dv⟩ := r1.get hx
  obtain ⟨u, hu, du⟩ := r2.get hy
  refine ⟨⟨xs, ys, v, u, s1, s2, hv, hu⟩, fun z H' yd => ?_⟩
  obtain ⟨T, x', y', rfl, hT, rfl, k1, k2⟩ := yd
  have e1 := k1 xs s1
  have e2 := k2 ys s2
  rw [hv] at e1; rw [hu] at e2
  cases e1; cases e2
  exact pair_end l2 hT (dv.mono l1) (du.mono l1)
theorem it_zipT {a b : Addr} {xs ys : List V} {ds es : List D} (h1 : SqT K G a xs) (h2 : SqT K G b ys) (r1 : DnA K G xs ds) (r2 : DnA K G ys es) : ItSem K (RZ.ItzT K a b) (zipD ds es) G := by
  intro i H1 G1 l1 l2
  have s1 := (l1.trans l2).seqT h1
  have s2 := (l1.trans l2).seqT h2
  refine ⟨fun d hd => ?_, fun hl => ⟨xs, ys, s1, s2, by rw [zipD_len] at hl; rw [r1.length, r2.length]; omega⟩⟩
  obtain ⟨x, y, hx, hy, rfl⟩ := zipD_get hd
  obtain ⟨v, hv, dv⟩ := r1.get hx
  obtain ⟨u, hu, du⟩ := r2.get hy
  refine ⟨⟨xs, ys, v, u, s1, s2, hv, hu⟩, fun z H' yd => ?_⟩
  obtain ⟨T, x', y', rfl, hT, rfl, k1, k2⟩ := yd
  have e1 := k1 xs s1
  have e2 := k2 ys s2
  rw [hv] at e1; rw [hu] at e2
  cases e1; cases e2
  exact pair_end l2 hT (dv.mono l1) (du.mono l1)
def sZip (f : Fr → Out (List AV)) : Fr → Out (List D) := fun e => (f e).bind fun as e1 => match avD as with
  | some [.tup xs, .tup ys] => .ok (zipD xs ys) e1
  | some [.lst xs, .lst ys] => .ok (zipD xs ys) e1
  | _ => .bad
theorem isem_zip {t : TA} {f : Fr → Out (List AV)} (h : ASem K mg W t f) : ISem K mg W (RZ.iZipA K t) (sZip f) := by
  intro e σ H G R r p
  refine h e σ H G _ r ?_
  unfold sZip at p
  cases q : f e with
  | bad => rw [q] at p; exact p
  | ex x e1 => rw [q] at p; exact p
  | ok as e1 =>
    rw [q] at p
    simp only [Out.bind_ok] at p
    intro vs H1 G1 go av
    cases q2 : avD as with
    | none => simp only [q2] at p; exact False.elim p
    | some ds =>
      have dn := avD_at av q2
      rw [q2] at p
      split at p
      · rename_i xs ys hij
        cases hij
        cases dn with
        | cons a t =>
          cases t with
          | cons b t =>
            cases t
            cases a with
            | tup qa ra =>
              cases b with
              | tup qb rb => exact ⟨_, _, _, _, rfl, .inr ⟨go.rel.le.seqT qa, go.rel.le.seqT qb, p _ H1 G1 go (it_zipT qa qb ra rb)⟩⟩
      · rename_i xs ys hij
        cases hij
        cases dn with
        | cons a t =>
          cases t with
          | cons b t =>
            cases t
            cases a with
            | lst qa ra =>
              cases b with
              | lst qb rb => exact ⟨_, _, _, _, rfl, .inl ⟨SqL.of (go.rel.le _ _ qa), SqL.of (go.rel.le _ _ qb), p _ H1 G1 go (it_zipL (SqL.of qa) (SqL.of qb) ra rb)⟩⟩
      · exact False.elim p
def sRev (f : Fr → Out AV) : Fr → Out (List D) := fun e => (f e).bind fun a e1 => match a with
  | .d x => (match seqOf x with | some ds => .ok ds.reverse e1 | none => .bad)
  | .sl _ => .bad
theorem rev_get {xs : List D} {i : Nat} {d : D} (h : xs.reverse[i]? = some d) : i < xs.length ∧ xs[xs.length - 1 - i]? = some d := by
  have hi : i < xs.length := by
    have := (List.getElem?_eq_some_iff.mp h).1
    simpa using this
  rw [List.getElem?_reverse hi] at h
  exact ⟨hi, h⟩
theorem isem_rev {t : TE} {f : Fr → Out AV} (h : VSem K mg W t f) : ISem K mg W (RT.iRevA K t) (sRev f) := by
  intro e σ H G R r p
  refine h e σ H G _ r ?_
  unfold sRev at p
  cases q : f e with
  | bad => rw [q] at p; exact p
  | ex x e1 => rw [q] at p; exact p
  | ok a e1 =>
    rw [q] at p
    simp only [Out.bind_ok] at p
    intro v H1 G1 go av
    have rl : ∀ {a : Addr} {xs : List V} {ds : List D}, SqL K G1 a xs → DnA K G1 xs ds → ItSem K (Itv K a xs.length) ds.reverse G1 := fun {a xs ds} h r i H2 G2 l1 l2 => by
      have hs := (l1.trans l2).seqL h
      refine ⟨fun d hd => ?_, fun hl => by rw [List.length_reverse] at hl; rw [r.length]; exact hl⟩
      obtain ⟨hi, hd⟩ := rev_get hd
      obtain ⟨v, hv, dv⟩ := r.get hd
      rw [← r.length] at hv hi
      refine ⟨⟨hi, xs, v, hs, hv⟩, fun z H' yd => ?_⟩
      obtain ⟨rfl, yd⟩ := yd
      have := yd xs hs
      rw [hv] at this; cases this
      exact ⟨G2, Nw.refl l2, dv.mono l1⟩
    have rt : ∀ {a : Addr} {xs : List V} {ds : List D}, SqT K G1 a xs → DnA K G1 xs ds → ItSem K (RT.ItvT K a xs.length) ds.reverse G1 := fun {a xs ds} h r i H2 G2 l1 l2 => by
      have hs := (l1.trans l2).seqT h
      refine ⟨fun d hd => ?_, fun hl => by rw [List.length_reverse] at hl; rw [r.length]; exact hl⟩
      obtain ⟨hi, hd⟩ := rev_get hd
      obtain ⟨v, hv, dv⟩ := r.get hd
      rw [← r.length] at hv hi
      refine ⟨⟨hi, xs, v, hs, hv⟩, fun z H' yd => ?_⟩
      obtain ⟨rfl, yd⟩ := yd
      have := yd xs hs
      rw [hv] at this; cases this
      exact ⟨G2, Nw.refl l2, dv.mono l1⟩
    cases a with
    | sl i => exact False.elim p
    | d x =>
      simp only at p
      have dv : Dn K G1 v x := av
      cases x with
      | tup ds =>
        cases dv with
        | tup q r1 => exact ⟨_, _, rfl, .inr ⟨go.rel.le.seqT q, p _ H1 G1 go (rt q r1)⟩⟩
      | lst ds =>
        cases dv with
        | lst q r1 => exact ⟨_, _, rfl, .inl ⟨SqL.of (go.rel.le _ _ q), p _ H1 G1 go (rl (SqL.of q) r1)⟩⟩
      | lsf ds =>
        cases dv with
        | lsf q r1 => exact ⟨_, _, rfl, .inl ⟨go.rel.le.seqL q, p _ H1 G1 go (rl q r1)⟩⟩
      | _ => exact False.elim p
end
section
variable {X : Cx} {W : WX}
theorem di_seq {tg ex : Expr} {f : Fr → Out AV} (h : DV X W ex f) : DI X W tg ex (sSeqI f) := let ⟨_, p, s⟩ := h; ⟨_, pi_seq p, isem_seq s⟩
theorem di_range1 {tg a : Expr} {f : Fr → Out (List AV)} {p pos : Pos} (hm : X.mg "range" = none) (h : DA X W [a] f) (hg : Gl X "range" := by rfl) (hs : starEach [a] X.env = [(false, eval a X.env)] := by rfl) : DI X W tg (.Call (.Name "range" p) [a] [] pos) (sRange1 f) :=
  let ⟨_, p, s⟩ := h; ⟨_, pi_range1 hg hm p hs, isem_range1 s⟩
theorem di_range2 {tg a b : Expr} {f : Fr → Out (List AV)} {p pos : Pos} (hm : X.mg "range" = none) (h : DA X W [a, b] f) (hg : Gl X "range" := by rfl) (hs : starEach [a, b] X.env = [(false, eval a X.env), (false, eval b X.env)] := by rfl) (hs2 : starEach [b] X.env = [(false, eval b X.env)] := by rfl) :
    DI X W tg (.Call (.Name "range" p) [a, b] [] pos) (sRange2 f) := let ⟨_, p, s⟩ := h; ⟨_, pi_range2 hg hm p hs hs2, isem_range2 s⟩
theorem di_zip {e e2 : Expr} {f : Fr → Out (List AV)} {p pos tpos : Pos} {elts : List Expr} {kk : Nat} (hm : X.mg "zip" = none) (h : DA X W [e, e2] f) (hg : Gl X "zip" := by rfl) (hs : starEach [e, e2] X.env = (false, eval e X.env) :: starEach [e2] X.env := by rfl)
    (hpl : (backTo pos (starEach [e2] X.env)).any (·.1) = false := by rfl) : DI X W (.Tuple elts kk tpos) (.Call (.Name "zip" p) [e, e2] [] pos) (sZip f) := let ⟨_, p, s⟩ := h; ⟨_, RZ.pi_zipA hg hm p hs hpl, isem_zip s⟩
theorem di_rev {tg e : Expr} {f : Fr → Out AV} {p pos : Pos} (hm : X.mg "reversed" = none) (h : DV X W e f) (hg : Gl X "reversed" := by rfl) (hs : starEach [e] X.env = (false, eval e X.env) :: starEach [] X.env := by rfl) : DI X W tg (.Call (.Name "reversed" p) [e] [] pos) (sRev f) :=
  let ⟨_, p, s⟩ := h; ⟨_, RT.pi_revA hg hm p hs, isem_rev s⟩
end
end Fd

/-! Own rules over the machine: t[::-1], t * n. -/
namespace Fd
open PySem PySem.Spec PyProof.Rows L2 HT

theorem places_back (n : Nat) : Builtin.Slice.slicePlaces ((n : Int) - 1) (-1) (-1) = n := by
  unfold Builtin.Slice.slicePlaces
  rw [if_neg (by decide)]
  by_cases h : ((n : Int) - 1) > -1
  · rw [if_pos h]
    have : (-(-1 : Int)) = 1 := by decide
    rw [this, Int.ediv_one]
    omega
  · rw [if_neg h]; omega
theorem fm_map {α β : Type} {g : α → Option β} {h : α → β} : ∀ {l : List α}, (∀ m ∈ l, g m = some (h m)) → l.filterMap g = l.map h
  | [], _ => rfl
  | a :: l, k => by rw [List.filterMap_cons, k a List.mem_cons_self, List.map_cons, fm_map fun m hm => k m (List.mem_cons_of_mem _ hm)]
theorem pick_back (xs : Array Value) : ((List.range xs.size).filterMap fun (m : Nat) => xs[(((xs.size : Int) - 1) + (m : Int) * (-1)).toNat]?).toArray = xs.toList.reverse.toArray := by
  congr 1
  have key : (List.range xs.size).filterMap (fun (m : Nat) => xs[(((xs.size : Int) - 1) + (m : Int) * (-1)).toNat]?) = (List.range xs.size).map (fun m => xs.toList.reverse.getD m Value.none) := by
    refine fm_map fun m hm => ?_
    have hm : m < xs.size := by simpa using hm
    have e : (((xs.size : Int) - 1) + (m : Int) * (-1)).toNat = xs.size - 1 - m := by omega
    rw [e, List.getD_eq_getElem?_getD, List.getElem?_reverse (by simpa using hm)]
    simp only [Array.length_toList]
    have h2 : xs.size - 1 - m < xs.size := by omega
    rw [Array.getElem?_eq_getElem h2, Array.getElem?_toList, Array.getElem?_eq_getElem h2]
    rfl
  rw [key]
  refine List.ext_getElem? fun i => ?_
  by_cases hi : i < xs.size
  · rw [List.getElem?_map, List.getElem?_range hi]
    have hl : i < xs.toList.reverse.length := by simpa using hi
    show some (xs.toList.reverse.getD i Value.none) = _
    rw [List.getD_eq_getElem?_getD, List.getElem?_eq_getElem hl]; rfl
  · rw [List.getElem?_eq_none (by simpa using hi), List.getElem?_eq_none (by simpa using hi)]
section
variable {prog : Program} {w : World} {A : Around} {E : Value → Shared → Prop} {s : Shared}
theorem getItem_tuple_back {t sl : Addr} {items : Array Value} {vl vu vs : Value} {Q : Value → Shared → Prop} (ht : IsTup s.heap t items) (hs : s.heap.IsSliceOf sl vl vu vs) (pl : IsPart vl none) (pu : IsPart vu none) (ps : IsPart vs (some (-1)))
    (hz : items.size ≤ sizeLine) (h : Q (.ref s.heap.objs.size) { s with heap := s.heap.push { cls := .type "tuple", data := .seq items.toList.reverse.toArray } }) : wpAny (model prog w) A (getItem (.ref t) (.ref sl)) Q E s := by
  obtain ⟨os, hos, hcs, hds⟩ := id hs
  have hTs : s.TypeIs (.ref sl) "slice" := ⟨os, hos, hcs⟩
  unfold getItem
  try with_reducible refine wpAny_holding ?_
  first | refine wpAny_bind (wpAny_pure ?_) | skip
  refine wpAny_bind (wpAny_sequenceKey ht.typeIs (by decide) ?_)
  refine wpAny_bind (wpAny_callSpecial?_slot (name := Str.ofString "__getitem__") ht.typeIs PyProof.Rows.slot_tuple_getitem
    (wpAny_call_entry PyProof.Rows.slot_tuple_getitem ht.typeIs entry_tuple_getitem ?_ (args_tuple_getitem _ _)))
  show wpAny _ _ (Builtin.Tuple.tupleItemsOf (.ref t) >>= _) _ _ s
  refine wpAny_bind (tupleItemsOf_ ht ?_)
  refine wpAny_bind (wpAny_typeOf hTs ?_)
  rw [if_pos (by decide)]
  have sa : ∀ {A : Around} {R : Int × Int × Nat → Shared → Prop}, R ((items.size : Int) - 1, -1, items.size) s → wpAny (model prog w) A (Builtin.Slice.sliceApplied (.ref sl) (pure ((items.size : Nat) : Int))) R E s := fun {A R} hR => by
    unfold Builtin.Slice.sliceApplied Builtin.Slice.sliceFields
    refine wpAny_bind (wpAny_bind (wpAny_field hos hds (x := vl) rfl (wpAny_bind (wpAny_field hos hds (x := vu) rfl (wpAny_bind (wpAny_field hos hds (x := vs) rfl (wpAny_pure ?_)))))))
    refine wpAny_bind (slicePart_ ps ?_)
    show wpAny _ _ (if ((-1 : Int) == 0) = true then _ else _) _ _ s
    rw [if_neg (by decide)]
    refine wpAny_bind (slicePart_ pl (wpAny_bind (slicePart_ pu (wpAny_bind (wpAny_pure ?_)))))
    show wpAny _ _ (pure ((items.size : Int) - 1, (-1 : Int), Builtin.Slice.slicePlaces ((items.size : Int) - 1) (-1) (-1))) _ _ s
    rw [places_back]
    exact wpAny_pure hR
  refine wpAny_bind (sa ?_)
  show wpAny _ _ (if ((((items.size : Int) - 1) == 0 && (-1 : Int) == 1 && items.size == items.size)) = true then _ else _) _ _ s
  rw [if_neg (by simp)]
  have fin : ∀ {A : Around} {R : Value → Shared → Prop}, R (.ref s.heap.objs.size) { s with heap := s.heap.push { cls := .type "tuple", data := .seq items.toList.reverse.toArray } } →
      wpAny (model prog w) A (Builtin.Tuple.tupleExact ((List.range items.size).filterMap fun (k : Nat) => items[(((items.size : Int) - 1) + (k : Int) * (-1)).toNat]?).toArray) R E s := fun {A R} hR => by
    rw [pick_back]
    exact wpAny_newObj_type hR (show items.toList.reverse.toArray.size ≤ sizeLine by simpa using hz)
  first
    | exact wpAny_bind (fin (wpAny_pure ⟨_, rfl, wpAny_pure h⟩))
    | exact wpAny_bind (wpAny_pure (wpAny_bind (fin (wpAny_pure ⟨_, rfl, wpAny_pure h⟩))))
    | exact wpAny_bind (wpAny_bind (fin (wpAny_pure ⟨_, rfl, wpAny_pure h⟩)))
end
def tRevA (K : PySem.W.Frag) (te : TE) : TE := fun σ H Q => te σ H fun x H1 => ∃ a xs, x = .ref a ∧ ((SqL K H1 a xs ∧ ∀ p, H1 p = none → Q (.ref p) (upd H1 p (.lst xs.reverse))) ∨ (SqT K H1 a xs ∧ ∀ p, H1 p = none → Q (.ref p) (upd H1 p (.tup xs.reverse))))
theorem pe_revA {X : Cx} {e : Expr} {te : TE} {k : Nat} {p1 p2 p3 pos : Pos} (he : PE X e te) : PE X (.Subscript e (.Slice none none (some (.UnaryOp .USub (.Constant (.int 1) k p1) p2)) p3) pos) (tRevA X.K te) := by
  refine ⟨fun pins s σ H Q I h => ?_⟩
  refine Subscript_ (thn (he.run pins s σ H _ I h) fun v s1 ⟨x, H1, I1, r1, q1⟩ => ?_)
  obtain ⟨a, xs, ex, q⟩ := q1
  subst ex
  cases r1
  have hst : PO X (some (.UnaryOp .USub (.Constant (.int 1) k p1) p2)) (tPart (tUn (rU fun i => .int (-i)) (tC (.int 1)))) := po_some (pe_un un_neg pe_int)
  refine wpAny_Slice (thn (po_none.run pins s1 σ H1 (fun o H2 => o = none ∧ H2 = H1) I1 ⟨rfl, rfl⟩) fun vl s2 ⟨l, H2, I2, pl, el, e2⟩ => ?_)
  subst el e2
  refine thn (po_none.run pins s2 σ H2 (fun o H3 => o = none ∧ H3 = H2) I2 ⟨rfl, rfl⟩) fun vu s3 ⟨u, H3, I3, pu, eu, e3⟩ => ?_
  subst eu e3
  refine thn (hst.run pins s3 σ H3 (fun o H4 => o = some (-1) ∧ H4 = H3) I3 ⟨1, rfl, -1, rfl, rfl, rfl⟩) fun vs s4 ⟨o, H4, I4, ps, eo, e4⟩ => ?_
  subst eo e4
  have I5 : Inv X pins σ H4 { s4 with heap := s4.heap.push { cls := .type "slice", data := .fields #[vl, vu, vs] } } := I4.kept (t' := s4.toks) fun b ob q => Heap.get?_push_of_some _ q
  rcases q with ⟨hx, q⟩ | ⟨hx, q⟩
  · obtain ⟨its, r, ht, hz⟩ := I5.list hx
    have hlen := r.length
    show wpAny (model X.prog X.w) X.A (subscriptTail e (.Slice none none (some (.UnaryOp .USub (.Constant (.int 1) k p1) p2)) p3) (.ref a) (.ref s4.heap.objs.size)) (EP X pins σ Q) X.xe { s4 with heap := s4.heap.push { cls := .type "slice", data := .fields #[vl, vu, vs] } }
    refine tail_any (ops := [.ref a, .ref s4.heap.objs.size]) ht.isList.typeIs (PySem.slot_list_getitem.lookup) ?_ (by with_unfolding_all rfl)
    refine wpAny_getItem_list_slice ht.isList (Heap.IsSliceOf.new _ vl vu vs) pl pu ps (by decide) ?_ (by rw [List.size_toArray]; omega)
    rw [PySem.W.krv_pick]
    refine ⟨.ref _, _, I5.laid (t' := s4.toks) (o := .lst xs.reverse) (fun b ob q => Heap.get?_push_of_some _ q) (Nat.le_refl _) ?_, rfl, q _ (I5.hok.fresh (Nat.le_refl _))⟩
    exact ⟨by rw [List.length_reverse]; exact hz, _, 0, r.reverse, Heap.get?_push_size _ rfl⟩
  · obtain ⟨its, r, ht, hz⟩ := I5.tuple hx
    have hlen := r.length
    show wpAny (model X.prog X.w) X.A (subscriptTail e (.Slice none none (some (.UnaryOp .USub (.Constant (.int 1) k p1) p2)) p3) (.ref a) (.ref s4.heap.objs.size)) (EP X pins σ Q) X.xe { s4 with heap := s4.heap.push { cls := .type "slice", data := .fields #[vl, vu, vs] } }
    refine tail_any (ops := [.ref a, .ref s4.heap.objs.size]) ht.typeIs (PyProof.Rows.slot_tuple_getitem.lookup) ?_ (by with_unfolding_all rfl)
    refine getItem_tuple_back ht (Heap.IsSliceOf.new _ vl vu vs) pl pu ps (by rw [List.size_toArray]; omega) ?_
    refine ⟨.ref _, _, I5.laid (t' := s4.toks) (o := .tup xs.reverse) (fun b ob q => Heap.get?_push_of_some _ q) (Nat.le_refl _) ?_, rfl, q _ (I5.hok.fresh (Nat.le_refl _))⟩
    exact ⟨by rw [List.length_reverse]; exact hz, _, r.reverse, IsTup.new _ _⟩
def gRev : List D → Option Wd
  | [.tup ds] => some (.val (.tup ds.reverse))
  | [.lst ds] => some (.own false ds.reverse)
  | [.lsf ds] => some (.own false ds.reverse)
  | _ => none
theorem de_rev {X : Cx} {W : WX} {e : Expr} {f : Fr → Out AV} {k : Nat} {p1 p2 p3 pos : Pos} (h : DV X W e f) : DE X W (.Subscript e (.Slice none none (some (.UnaryOp .USub (.Constant (.int 1) k p1) p2)) p3) pos) (sB gRev (aCons f aNil)) := by
  obtain ⟨t, p, s⟩ := h
  refine ⟨_, pe_revA p, esem_B (r := fun vs H Q => ∃ a xs, vs = [.ref a] ∧ ((SqL X.K H a xs ∧ ∀ p, H p = none → Q (.ref p) (upd H p (.lst xs.reverse))) ∨ (SqT X.K H a xs ∧ ∀ p, H p = none → Q (.ref p) (upd H p (.tup xs.reverse))))) (asem_cons s asem_nil) ?_ fun σ H Q h => ?_⟩
  · intro G H vs ds w Q l d e k
    match ds, d, e with
    | [.tup es], d, e =>
      obtain ⟨v, rfl, h1⟩ := d.one
      obtain ⟨a, xs, rfl, s1, r1⟩ := h1.tup_inv l
      cases e
      exact ⟨a, xs, rfl, .inr ⟨s1, fun b hb => tup_end l hb r1.reverse k⟩⟩
    | [.lst es], d, e =>
      obtain ⟨v, rfl, h1⟩ := d.one
      obtain ⟨a, xs, rfl, s1, r1⟩ := h1.lst_inv l
      cases e
      exact ⟨a, xs, rfl, .inl ⟨SqL.of s1, fun b hb => lst_end l hb r1.reverse k⟩⟩
    | [.lsf es], d, e =>
      obtain ⟨v, rfl, h1⟩ := d.one
      obtain ⟨a, xs, rfl, s1, r1⟩ := h1.lsf_inv l
      cases e
      exact ⟨a, xs, rfl, .inl ⟨s1, fun b hb => lst_end l hb r1.reverse k⟩⟩
  · have mono : (fun (x : V) (H1 : Hp) => tNil σ H1 fun xs H2 => ∃ a ys, (x :: xs) = [V.ref a] ∧ ((SqL X.K H2 a ys ∧ ∀ p, H2 p = none → Q (.ref p) (upd H2 p (.lst ys.reverse))) ∨ (SqT X.K H2 a ys ∧ ∀ p, H2 p = none → Q (.ref p) (upd H2 p (.tup ys.reverse))))) = fun x H1 => ∃ a xs, x = .ref a ∧ ((SqL X.K H1 a xs ∧ ∀ p, H1 p = none → Q (.ref p) (upd H1 p (.lst xs.reverse))) ∨ (SqT X.K H1 a xs ∧ ∀ p, H1 p = none → Q (.ref p) (upd H1 p (.tup xs.reverse)))) := by
      funext x H1
      unfold tNil
      simp only [List.cons.injEq, and_true]
    show t σ H _
    rw [← mono]
    exact h

/-! ### t * n -/
theorem tuple_mul_same (l : Addr) (items : Array Value) (n : Nat) (dd : Option Addr) (sl : Array (Option Value)) (x : Int) (u : Tok) (c0 : (decide (x < -(2 ^ 63)) || decide (x ≥ 2 ^ 63)) = false) (c1 : (items.isEmpty || x == 1) = true) :
    Meets (Builtin.«tuple.__mul__» ⟨[.ref l, .int x u], []⟩) (fun _ R s => s.heap.get? l = some { cls := .type "tuple", dict := dd, data := .seq items n, slots := sl } ∧ R (.ok (.ret (Value.ref l))) s) :=
  .of_wp fun prog w A R s h => by
    obtain ⟨hp, g, d, tk, os⟩ := s
    obtain ⟨hl, h⟩ := h
    have f1 := AutoSeq1.idx_int
    wp_walk using wpAny_loadPart' hl
    repeat (first
      | (refine wpAny_ite_false (decide_eq_false (by rw [c0]; exact Bool.false_ne_true)) ?_; wp_walk using wpAny_loadPart' hl)
      | (refine wpAny_ite_true (decide_eq_true (by rw [c1])) ?_; wp_walk using wpAny_loadPart' hl))
    exact ⟨_, rfl, h⟩
theorem tuple_mul_none (l : Addr) (items : Array Value) (n : Nat) (dd : Option Addr) (sl : Array (Option Value)) (x : Int) (u : Tok) (c0 : (decide (x < -(2 ^ 63)) || decide (x ≥ 2 ^ 63)) = false) (c1 : (items.isEmpty || x == 1) = false) (c2 : (decide (x ≤ 0) || items.isEmpty) = true) :
    Meets (Builtin.«tuple.__mul__» ⟨[.ref l, .int x u], []⟩) (fun _ R s => s.heap.get? l = some { cls := .type "tuple", dict := dd, data := .seq items n, slots := sl } ∧
      R (.ok (.ret (Value.ref s.heap.objs.size))) { s with heap := s.heap.push { cls := Value.type "tuple", data := Data.seq #[] }, toks := s.toks }) :=
  .of_wp fun prog w A R s h => by
    obtain ⟨hp, g, d, tk, os⟩ := s
    obtain ⟨hl, h⟩ := h
    have f1 := AutoSeq1.idx_int
    wp_walk using wpAny_loadPart' hl
    repeat (first
      | (refine wpAny_ite_false (decide_eq_false (by rw [c0]; exact Bool.false_ne_true)) ?_; wp_walk using wpAny_loadPart' hl)
      | (refine wpAny_ite_false (decide_eq_false (by rw [c1]; exact Bool.false_ne_true)) ?_; wp_walk using wpAny_loadPart' hl)
      | (refine wpAny_ite_true (decide_eq_true (by rw [c2])) ?_; wp_walk using wpAny_loadPart' hl))
    exact ⟨_, rfl, h⟩
end Fd

/-! t * n, l * n; lists that are changed; lent lists. -/
namespace Fd
open PySem PySem.Spec PyProof.Rows L2

def rRepA (K : PySem.W.Frag) : R2 := fun x y H Q => ∃ l k xs, x = .ref l ∧ y = .int k ∧ SqT K H l xs ∧ -(2 ^ 63) ≤ k ∧ k < 2 ^ 63 ∧ (xs = [] ∨ k = 1) ∧ Q (.ref l) H
def rRepZ (K : PySem.W.Frag) : R2 := fun x y H Q => ∃ l k xs, x = .ref l ∧ y = .int k ∧ SqT K H l xs ∧ -(2 ^ 63) ≤ k ∧ k ≤ 0 ∧ xs ≠ [] ∧ ∀ p, H p = none → Q (.ref p) (upd H p (.tup []))
section
variable {X : Cx}
theorem op_repA : OpR X (binaryOp .Mult) (rRepA X.K) := by
  intro pins s σ H x y v u Q I rx ry h
  obtain ⟨l, k, xs, rfl, rfl, hT, h1, h2, hne, q⟩ := h
  cases rx
  obtain ⟨t, rfl⟩ := ry
  obtain ⟨its, r, ⟨⟨cls, dd, data, sl⟩, ho, hc, n, hd⟩, hs⟩ := I.tuple hT
  simp only at hc hd
  subst hc hd
  have c1 : (its.toArray.isEmpty || k == 1) = true := by
    rcases hne with e | e
    · subst e; cases r; rfl
    · subst e; simp
  have c0 : (decide (k < -(2 ^ 63)) || decide (k ≥ 2 ^ 63)) = false := by
    rw [decide_eq_false (by omega), decide_eq_false (by omega)] <;> rfl
  refine wpAny_binaryOp_repeat_ref (T := "tuple") (U := "int") (by decide) ⟨_, ho, rfl⟩ (fun s' => typeIs_int s' k t) noFill_tuple_mul F.fills_int_mul F.slot_int_rmul repeat_tuple F.slot_int_index.lookup
    (call_meets F.slot_int_rmul (typeIs_int s k t) F.entry_int_rmul (F.args_int_rmul_2 _ _) (int_rmul_tuple k t l its.toArray n dd sl)
      ⟨ho, rfl, ⟨_, ho, rfl⟩, call_meets F.slot_tuple_mul ⟨_, ho, rfl⟩ F.entry_tuple_mul (F.args_tuple_mul_2 _ _) (tuple_mul_same l its.toArray n dd sl k t c0 c1) ⟨ho, ?_⟩⟩)
  exact ⟨.ref l, H, I, rfl, q⟩
theorem op_repZ : OpR X (binaryOp .Mult) (rRepZ X.K) := by
  intro pins s σ H x y v u Q I rx ry h
  obtain ⟨l, k, xs, rfl, rfl, hT, h1, h2, hne, q⟩ := h
  cases rx
  obtain ⟨t, rfl⟩ := ry
  obtain ⟨its, r, ⟨⟨cls, dd, data, sl⟩, ho, hc, n, hd⟩, hs⟩ := I.tuple hT
  simp only at hc hd
  subst hc hd
  have hi : its.toArray.isEmpty = false := by
    cases r with
    | nil => exact absurd rfl hne
    | cons _ _ => rfl
  have c1 : (its.toArray.isEmpty || k == 1) = false := by
    rw [hi, Bool.false_or]
    exact beq_eq_false_iff_ne.mpr (by omega)
  have c2 : (decide (k ≤ 0) || its.toArray.isEmpty) = true := by
    rw [decide_eq_true h2]; rfl
  have c0 : (decide (k < -(2 ^ 63)) || decide (k ≥ 2 ^ 63)) = false := by
    rw [decide_eq_false (by omega), decide_eq_false (by omega)] <;> rfl
  refine wpAny_binaryOp_repeat_ref (T := "tuple") (U := "int") (by decide) ⟨_, ho, rfl⟩ (fun s' => typeIs_int s' k t) noFill_tuple_mul F.fills_int_mul F.slot_int_rmul repeat_tuple F.slot_int_index.lookup
    (call_meets F.slot_int_rmul (typeIs_int s k t) F.entry_int_rmul (F.args_int_rmul_2 _ _) (int_rmul_tuple k t l its.toArray n dd sl)
      ⟨ho, rfl, ⟨_, ho, rfl⟩, call_meets F.slot_tuple_mul ⟨_, ho, rfl⟩ F.entry_tuple_mul (F.args_tuple_mul_2 _ _) (tuple_mul_none l its.toArray n dd sl k t c0 c1 c2) ⟨ho, ?_⟩⟩)
  refine ⟨.ref s.heap.objs.size, _, I.laid (t' := s.toks) (o := .tup []) (fun b ob q => Heap.get?_push_of_some _ q) (Nat.le_refl _) ?_, rfl, q _ (I.hok.fresh (Nat.le_refl _))⟩
  exact ⟨Nat.zero_le _, [], .nil, IsTup.new _ _⟩
end
def gMul4 : List D → Option Wd
  | [.int a, .int b] => if mulOk a b = true then some (.val (.int (a * b))) else none
  | [.tup a, .int b] => if a.length ≤ 1000 ∧ -1000 ≤ b ∧ b ≤ 1000 then some (.val (.tup (List.replicate b.toNat a).flatten)) else none
  | [.lst a, .int b] => if a.length ≤ 1000 ∧ -1000 ≤ b ∧ b ≤ 1000 then some (.own false (List.replicate b.toNat a).flatten) else none
  | _ => none
def rMul5 (K : PySem.W.Frag) : R2 := fun x y H Q => rI CMul (fun i j => .int (i * j)) x y H Q ∨ (rRepA K x y H Q ∨ (rRepZ K x y H Q ∨ (rRepT K x y H Q ∨ rRep x y H Q)))
section
variable {X : Cx} {K : PySem.W.Frag}
theorem o_mul : OpR X (binaryOp .Mult) (rMul5 X.K) := op_mul.or (op_repA.or (op_repZ.or (op_repT.or op_rep)))
theorem dn_of_dw {G H : Hp} {v : V} {ds : List D} (h : Dw K G H v (.tup ds)) : Dn K G v (.tup ds) := by
  rcases h with h | ⟨_, _, _, _, z, _⟩ | ⟨_, _, _, _, z, _⟩
  · exact h
  · cases z
  · cases z
theorem q_mul5 : RSem K (r2l (rMul5 K)) gMul4 := by
  intro G H vs ds w Q l d e k
  match ds, d, e with
  | [.int a, .int b], d, e =>
    obtain ⟨v, u, rfl, h1, h2⟩ := d.two
    simp only [gMul4] at e
    by_cases hl : mulOk a b = true
    · rw [if_pos hl] at e; cases e
      refine .inl ⟨a, b, h1.int_inv, h2.int_inv, ?_, val_end l (.int _) k⟩
      unfold mulOk at hl
      unfold CMul
      simpa [Bool.or_eq_true, Bool.and_eq_true] using hl
    · rw [if_neg hl] at e; cases e
  | [.tup a, .int b], d, e =>
    obtain ⟨v, u, rfl, h1, h2⟩ := d.two
    obtain ⟨p, xs, rfl, s1, r1⟩ := h1.tup_inv l
    simp only [gMul4] at e
    by_cases hl : a.length ≤ 1000 ∧ -1000 ≤ b ∧ b ≤ 1000
    · rw [if_pos hl] at e; cases e
      obtain ⟨l1, l2, l3⟩ := hl
      have hx : xs.length = a.length := r1.length
      by_cases he : a = [] ∨ b = 1
      · refine .inr (.inl ⟨p, b, xs, rfl, h2.int_inv, s1, by omega, by omega, ?_, ?_⟩)
        · rcases he with z | z
          · subst z; left; exact List.eq_nil_of_length_eq_zero hx
          · exact .inr z
        · have ee : (List.replicate b.toNat a).flatten = a := by
            rcases he with z | z
            · subst z
              generalize b.toNat = m
              induction m with
              | zero => rfl
              | succ m ih => rw [List.replicate_succ, List.flatten_cons, ih]; rfl
            · subst z; simp
          rw [ee] at k
          exact k _ H G (Nw.refl l) (dn_of_dw h1) fun m => nomatch m
      · have hne : a ≠ [] := fun z => he (.inl z)
        have hxe : xs ≠ [] := fun z => by subst z; cases r1; exact hne rfl
        by_cases hb : b ≤ 0
        · refine .inr (.inr (.inl ⟨p, b, xs, rfl, h2.int_inv, s1, by omega, hb, hxe, fun z hz => ?_⟩))
          have ee : (List.replicate b.toNat a).flatten = [] := by
            have : b.toNat = 0 := by omega
            rw [this]; rfl
          rw [ee] at k
          exact tup_end l hz .nil k
        · have hb2 : 2 ≤ b := by
            have : b ≠ 1 := fun z => he (.inr z)
            omega
          exact .inr (.inr (.inr (.inl ⟨p, b, xs, rfl, h2.int_inv, s1, hxe, hb2, l3, by omega, fun z hz => tup_end l hz (r1.replicate _) k⟩)))
    · rw [if_neg hl] at e; cases e
  | [.lst a, .int b], d, e =>
    obtain ⟨v, u, rfl, h1, h2⟩ := d.two
    obtain ⟨p, xs, rfl, s1, r1⟩ := h1.lst_inv l
    simp only [gMul4] at e
    by_cases hl : a.length ≤ 1000 ∧ -1000 ≤ b ∧ b ≤ 1000
    · rw [if_pos hl] at e; cases e
      obtain ⟨l1, l2, l3⟩ := hl
      have hx : xs.length = a.length := r1.length
      refine .inr (.inr (.inr (.inr ⟨p, b, xs, rfl, h2.int_inv, s1, by omega, by omega, ?_, fun z hz => lst_end l hz (r1.replicate _) k⟩)))
      have h3 : xs.length * b.toNat ≤ 1000 * 1000 := Nat.mul_le_mul (by omega) (by omega)
      rw [sizeLine_eq]; omega
    · rw [if_neg hl] at e; cases e
end

/-! ### a frame's own list is changed -/
section
variable {K : PySem.W.Frag} {mg : Str → Option Value} {W : WX} {G H G' H' G2 H2 : Hp} {e e' e2 : Fr} {σ σ' σ2 : St}
theorem Rel.write {i : Nat} {b : Bool} {ds ds' : List D} {a : Addr} {xs' : List V} (r : Rel K G e σ H) (hi : e[i]? = some (some (.own b ds))) (hs : σ[i]? = some (some (.ref a))) (hx : ∃ xs, H a = some (.lst xs)) (hg : G a = none) (hd : DnA K G xs' ds') :
    Go K e σ H G (e.set i (some (.own b ds'))) σ (upd H a (.lst xs')) G := by
  have hlt : i < e.length := (List.getElem?_eq_some_iff.mp hi).1
  have own_same : ∀ c, OwnA (e.set i (some (.own b ds'))) σ c → OwnA e σ c := fun c o => by
    obtain ⟨j, w, h1, h2, h3⟩ := o
    rcases get_set h1 with ⟨ej, z⟩ | ⟨_, z⟩
    · subst ej; exact ⟨j, _, hi, rfl, h3⟩
    · exact ⟨j, w, z, h2, h3⟩
  refine ⟨⟨fun c u q => ?_, by rw [List.length_set]; exact r.len, fun j w h => ?_, fun j k w1 w2 c h1 h2 m1 m2 s1 s2 => ?_⟩, fun c u q n => ?_, Le.refl _, fun c o => .inl (own_same c o), fun c u q => .inl q, fun j w h1 h2 => ?_, rfl⟩
  · rw [upd_ne (fun z => by rw [z, hg] at q; cases q)]; exact r.le c u q
  · rcases get_set h with ⟨ej, z⟩ | ⟨hj, z⟩
    · cases z; subst ej; exact ⟨_, hs, a, xs', rfl, upd_same, hg, hd⟩
    · obtain ⟨v, hv, q⟩ := r.at_ j w z
      refine ⟨v, hv, ?_⟩
      have nb : ∀ c, v = .ref c → w.mut = true → c ≠ a := fun c ec m z2 => hj (r.ap j i w _ a z hi m rfl (by rw [hv, ec, z2]) hs)
      cases w with
      | val d => exact q
      | own l es => obtain ⟨c, ys, h1, h2, h3, h4⟩ := q; exact ⟨c, ys, h1, by rw [upd_ne (nb c h1 rfl)]; exact h2, h3, h4⟩
      | ownK l es => obtain ⟨c, ys, h1, h2, h3, h4⟩ := q; exact ⟨c, ys, h1, by rw [upd_ne (nb c h1 rfl)]; exact h2, h3, h4⟩
      | ownT l es => exact q
  · have fix : ∀ {j : Nat} {w : Wd}, (e.set i (some (.own b ds')))[j]? = some (some w) → w.mut = true → ∃ w', e[j]? = some (some w') ∧ w'.mut = true := fun {j w} h m => by
      rcases get_set h with ⟨ej, z⟩ | ⟨_, z⟩
      · subst ej; exact ⟨_, hi, rfl⟩
      · exact ⟨w, z, m⟩
    obtain ⟨u1, a1, b1⟩ := fix h1 m1
    obtain ⟨u2, a2, b2⟩ := fix h2 m2
    exact r.ap j k u1 u2 c a1 a2 b1 b2 s1 s2
  · rw [upd_ne (fun z => n ⟨i, _, hi, rfl, by rw [hs, z]⟩)]; exact q
  · by_cases hj : j = i
    · subst hj; rw [hi] at h1; cases h1
      exact ⟨rfl, _, List.getElem?_set_self hlt, h2⟩
    · exact ⟨rfl, w, by rw [List.getElem?_set_ne (Ne.symm hj)]; exact h1, h2⟩
/-- a method that changes its list -/
def MSem (K : PySem.W.Frag) (r : V → List V → Hp → VK → Prop) (m : List D → List D → Option (List D × D)) : Prop :=
  ∀ (G H : Hp) (a : Addr) (xs : List V) (ds : List D) (vs : List V) (es ds' : List D) (d : D) (Q : VK), Le G H → H a = some (.lst xs) → DnA K G xs ds → DnA K G vs es → m ds es = some (ds', d) →
    (∀ xs' v, DnA K G xs' ds' → Dn K G v d → Q v (upd H a (.lst xs'))) → r (.ref a) vs H Q
def isOwn (e : Fr) (i : Nat) : Bool := match e[i]? with | some (some (.own _ _)) => true | _ => false
def sMeth (i : Nat) (m : List D → List D → Option (List D × D)) (fa : Fr → Out (List AV)) : Fr → Out Wd := fun e => if isOwn e i = true then (fa e).bind fun as e1 => match e1[i]?, avD as with
    | some (some (.own l ds)), some es => match m ds es with
      | some (ds', d) => .ok (.val d) (e1.set i (some (.own l ds')))
      | none => .bad
    | _, _ => .bad
  else .bad
theorem esem_meth {i : Nat} {r : V → List V → Hp → VK → Prop} {m : List D → List D → Option (List D × D)} {t : TA} {fa : Fr → Out (List AV)} (ha : ASem K mg W t fa) (hr : MSem K r m) : ESem K mg W (tBM K "list" r (tVar i) t) (sMeth i m fa) := by
  intro e σ H G Q rl p
  unfold sMeth at p
  by_cases ho : isOwn e i = true
  · rw [if_pos ho] at p
    unfold isOwn at ho
    have ⟨l0, ds0, h0⟩ : ∃ l ds, e[i]? = some (some (.own l ds)) := by
      split at ho
      · rename_i l ds hh; exact ⟨l, ds, hh⟩
      · cases ho
    obtain ⟨v, hv, a, xs, rfl, hx, hg, hd⟩ := rl.at_ i _ h0
    refine ⟨_, hv, .inl ⟨rfl, xs, SqL.of hx⟩, ha e σ H G _ rl ?_⟩
    cases q : fa e with
    | bad => rw [q] at p; exact p
    | ex x e1 => rw [q] at p; exact p
    | ok as e1 =>
      rw [q] at p
      simp only [Out.bind_ok] at p
      intro vs H1 G1 go av
      cases q1 : e1[i]? with
      | none => simp only [q1] at p; exact False.elim p
      | some o =>
        cases o with
        | none => simp only [q1] at p; exact False.elim p
        | some w =>
          cases w with
          | own l ds =>
            cases q2 : avD as with
            | none => simp only [q1, q2] at p; exact False.elim p
            | some es =>
              cases q3 : m ds es with
              | none => simp only [q1, q2, q3] at p; exact False.elim p
              | some pr =>
                obtain ⟨ds', d⟩ := pr
                simp only [q1, q2, q3] at p
                obtain ⟨v1, hv1, a1, xs1, rfl, hx1, hg1, hd1⟩ := go.rel.at_ i _ q1
                rw [hv] at hv1; cases hv1
                refine hr G1 H1 a xs1 ds vs es ds' d Q go.rel.le hx1 hd1 (avD_at av q2) q3 fun xs' u dx du => ?_
                exact p u _ G1 (go.trans (go.rel.write q1 hv ⟨_, hx1⟩ hg1 dx)) ⟨du, fun m => nomatch m⟩
          | _ => simp only [q1] at p; exact False.elim p
  · rw [if_neg ho] at p; exact False.elim p
theorem esem_meth0 {i : Nat} {r : V → List V → Hp → VK → Prop} {m : List D → List D → Option (List D × D)} (hr : MSem K r m) : ESem K mg W (tBM0 K "list" r (tVar i)) (sMeth i m aNil) :=
  esem_meth (r := r) (m := m) (t := tNil) asem_nil hr
def mAppend : List D → List D → Option (List D × D)
  | ds, [d] => if ds.length < 1000000 then some (ds ++ [d], .non) else none
  | _, _ => none
def mExtend : List D → List D → Option (List D × D)
  | ds, [.lst es] => if ds.length + es.length < 1000000 then some (ds ++ es, .non) else none
  | _, _ => none
def mPop : List D → List D → Option (List D × D)
  | ds, [] => (ds[ds.length - 1]?).map fun d => (ds.dropLast, d)
  | _, _ => none
theorem lt_million {n : Nat} (h : n < 1000000) : n < sizeLine := Nat.lt_of_lt_of_le h (by rw [sizeLine_eq]; decide)
theorem m_append : MSem K rAppend mAppend := by
  intro G H a xs ds vs es ds' d Q l hx hd he hm k
  match es, he, hm with
  | [d1], he, hm =>
    cases he with
    | cons h1 t =>
      cases t
      simp only [mAppend] at hm
      by_cases hl : ds.length < 1000000
      · rw [if_pos hl] at hm; cases hm
        exact ⟨a, xs, _, rfl, rfl, hx, by rw [hd.length]; exact lt_million hl, k _ _ (hd.append (.cons h1 .nil)) .non⟩
      · rw [if_neg hl] at hm; cases hm
theorem m_extend : MSem K rExtend mExtend := by
  intro G H a xs ds vs es ds' d Q l hx hd he hm k
  match es, he, hm with
  | [.lst e1], he, hm =>
    cases he with
    | cons h1 t =>
      cases t
      simp only [mExtend] at hm
      by_cases hl : ds.length + e1.length < 1000000
      · rw [if_pos hl] at hm; cases hm
        cases h1 with
        | lst q r1 => exact ⟨a, _, xs, _, rfl, rfl, hx, l _ _ q, by rw [hd.length, r1.length]; exact Nat.le_of_lt (lt_million hl), k _ _ (hd.append r1) .non⟩
      · rw [if_neg hl] at hm; cases hm
theorem m_pop : MSem K rPop mPop := by
  intro G H a xs ds vs es ds' d Q l hx hd he hm k
  match es, he, hm with
  | [], he, hm =>
    cases he
    simp only [mPop] at hm
    cases q : ds[ds.length - 1]? with
    | none => rw [q] at hm; cases hm
    | some d1 =>
      rw [q] at hm; cases hm
      obtain ⟨v, hv, dv⟩ := hd.get q
      exact ⟨a, xs, v, rfl, rfl, hx, by rw [hd.length]; exact hv, k _ _ hd.dropLast dv⟩
/-! ### l[i] = x -/
def sPut (i : Nat) (fi : Fr → Out Wd) (f : Fr → Out Wd) : Fr → SO := fun e => (aV f e).bs fun x e1 => if isOwn e1 i = true then (fi e1).bs fun k e2 => match e2[i]?, x, k with
    | some (some (.own l ds)), .d d, .val (.int j) => match ixN ds.length j with
      | some n => .nx (e2.set i (some (.own l (ds.set n d))))
      | none => .bad
    | _, _, _ => .bad
  else .bad
theorem ssem_put {i : Nat} {te ti : TE} {f fi : Fr → Out Wd} (h : ESem K mg W te f) (hi : ESem K mg W ti fi) : SSem K mg W (tAsg te (L2.gSub (tVar i) ti rSetL)) (sPut i fi f) := by
  intro e σ H G D r p
  refine vsem_val h e σ H G _ r ?_
  unfold sPut at p
  cases q : aV f e with
  | bad => rw [q] at p; exact p
  | ex x e1 => rw [q] at p; exact fun c d H' G' => p c d σ H' G'
  | ok x e1 =>
    rw [q] at p
    simp only [Out.bs_ok] at p
    intro v H1 G1 go av
    by_cases ho : isOwn e1 i = true
    · rw [if_pos ho] at p
      unfold isOwn at ho
      have ⟨l0, ds0, h0⟩ : ∃ l ds, e1[i]? = some (some (.own l ds)) := by
        split at ho
        · rename_i l ds hh; exact ⟨l, ds, hh⟩
        · cases ho
      obtain ⟨o, hv, a, xs, rfl, hx, hg, hd⟩ := go.rel.at_ i _ h0
      refine ⟨_, hv, hi e1 σ H1 G1 _ go.rel ?_⟩
      cases q2 : fi e1 with
      | bad => rw [q2] at p; exact p
      | ex x e2 => rw [q2] at p; exact fun c d H2 G2 g2 => p c d σ H2 G2 (go.trans g2)
      | ok k e2 =>
        rw [q2] at p
        simp only [Out.bs_ok] at p
        intro kv H2 G2 go2 ra
        cases q3 : e2[i]? with
        | none => simp only [q3] at p; exact False.elim p
        | some w =>
          cases w with
          | none => simp only [q3] at p; exact False.elim p
          | some w =>
            cases w with
            | own l ds =>
              cases x with
              | sl _ => simp only [q3] at p; exact False.elim p
              | d d =>
                cases k with
                | val kd =>
                  cases kd with
                  | int j =>
                    simp only [q3] at p
                    cases q4 : ixN ds.length j with
                    | none => simp only [q4] at p; exact False.elim p
                    | some n =>
                      simp only [q4] at p
                      obtain ⟨v1, hv1, a1, xs1, rfl, hx1, hg1, hd1⟩ := go2.rel.at_ i _ q3
                      rw [hv] at hv1; cases hv1
                      obtain rfl := Dn.int_inv ra.1
                      have dv : Dn K G2 v d := Dn.mono go2.grow av
                      refine ⟨a, xs1, j, n, rfl, rfl, hx1, by rw [hd1.length]; exact q4, ?_⟩
                      exact p σ _ G2 ((go.trans go2).trans (go2.rel.write q3 hv ⟨_, hx1⟩ hg1 (hd1.set n dv)))
                  | _ => simp only [q3] at p; exact False.elim p
                | _ => simp only [q3] at p; exact False.elim p
            | _ => simp only [q3] at p; exact False.elim p
    · rw [if_neg ho] at p; exact False.elim p
/-! ### x op= e -/
def sAug (i : Nat) (g : List D → Option Wd) (f : Fr → Out Wd) : Fr → SO := fun e => match e[i]? with
  | some (some (.val x)) => (f e).bs fun w e1 => match w with
    | .val y => match g [x, y] with
      | some (.val z) => if free e1 i = true then .nx (e1.set i (some (.val z))) else .bad
      | _ => .bad
    | _ => .bad
  | _ => .bad
theorem ssem_aug {i : Nat} {te : TE} {f : Fr → Out Wd} {r : R2} {g : List D → Option Wd} (h : ESem K mg W te f) (hr : RSem K (r2l r) g) : SSem K mg W (tAug i te r) (sAug i g f) := by
  intro e σ H G D rl p
  unfold sAug at p
  cases q0 : e[i]? with
  | none => simp only [q0] at p; exact False.elim p
  | some o =>
    cases o with
    | none => simp only [q0] at p; exact False.elim p
    | some w0 =>
      cases w0 with
      | val x =>
        simp only [q0] at p
        obtain ⟨v0, hv0, d0⟩ := rl.at_ i _ q0
        refine ⟨v0, hv0, h e σ H G _ rl ?_⟩
        cases q : f e with
        | bad => rw [q] at p; exact p
        | ex x e1 => rw [q] at p; exact fun c d H' G' => p c d σ H' G'
        | ok w e1 =>
          rw [q] at p
          simp only [Out.bs_ok] at p
          intro v H1 G1 go ra
          cases w with
          | val y =>
            simp only at p
            cases q3 : g [x, y] with
            | none => simp only [q3] at p; exact False.elim p
            | some w =>
              simp only [q3] at p
              have dx : Dn K G1 v0 x := Dn.mono go.grow d0
              refine hr G1 H1 [v0, v] [x, y] w _ go.rel.le (.cons (.inl dx) (.cons (.inl ra.1) .nil)) q3 fun u H2 G2 n wa fr => ?_
              cases w with
              | val z =>
                simp only at p
                by_cases hf : free e1 i = true
                · rw [if_pos hf] at p
                  have g2 := go.trans (go.rel.later n)
                  exact p _ H2 G2 (g2.store (w := .val z) ⟨wa, fun m => nomatch m⟩ hf rfl)
                · rw [if_neg hf] at p; exact False.elim p
              | _ => exact False.elim p
          | _ => exact False.elim p
      | _ => simp only [q0] at p; exact False.elim p
end
section
variable {X : Cx} {W : WX}
theorem de_meth {i : Nat} {name : Str} {id : String} {r : V → List V → Hp → VK → Prop} {m : List D → List D → Option (List D × D)} {o ex : Expr} {es : List Expr} {apos cpos : Pos} {fa : Fr → Out (List AV)} (ho : PE X o (tVar i)) (slot : Slot "list" name id) (hty : typeOf (.builtin id) = pure (.type "method_descriptor"))
    (hm : MtR X id r) (hr : MSem X.K r m) (ha : DA X W (ex :: es) fa) (hbase : attributeBase o name X.env (eval o X.env) = eval o X.env := by rfl)
    (hfew : ((backTo cpos (starEach (ex :: es) X.env)).all (fun x => !x.1) && (backToKw cpos (keywordEach [] X.env)).all (fun x => x.1.isSome) && decide ((ex :: es).length + ([] : List Keyword).length + (if ([] : List Keyword).isEmpty then 0 else 1) < 30)) = true := by rfl)
    (hline : (apos.endLine == cpos.line) = true := by rfl) (hs : starEach (ex :: es) X.env = (false, eval ex X.env) :: starEach es X.env := by rfl) (hplain : (backTo cpos (starEach es X.env)).any (·.1) = false := by rfl) :
    DE X W (.Call (.Attribute o name apos) (ex :: es) [] cpos) (sMeth i m fa) :=
  let ⟨_, p, s⟩ := ha
  ⟨_, pe_bm PySem.F.plainAttrs_list slot hty hm ho p hbase hfew hline hs hplain, esem_meth s hr⟩
theorem de_meth0 {i : Nat} {name : Str} {id : String} {r : V → List V → Hp → VK → Prop} {m : List D → List D → Option (List D × D)} {o : Expr} {apos cpos : Pos} (ho : PE X o (tVar i)) (slot : Slot "list" name id) (hty : typeOf (.builtin id) = pure (.type "method_descriptor"))
    (hm : MtR X id r) (hr : MSem X.K r m) (hbase : attributeBase o name X.env (eval o X.env) = eval o X.env := by rfl) (hline : (apos.endLine == cpos.line) = true := by rfl) :
    DE X W (.Call (.Attribute o name apos) [] [] cpos) (sMeth i m aNil) :=
  ⟨_, pe_bm0 PySem.F.plainAttrs_list slot hty hm ho hbase hline, esem_meth0 hr⟩
theorem ds_put {i : Nat} {o ix ex : Expr} {f fi : Fr → Out Wd} {pos' pos : Pos} (ho : PE X o (tVar i)) (hi : DE X W ix fi) (h : DE X W ex f) (hs : swapsWithSole [.Subscript o ix pos'] ex pos.line X.env = pure false := by rfl) (hw : swappedStores [.Subscript o ix pos'] ex X.env = pure none := by rfl)
    (h1 : (assignEach [.Subscript o ix pos'] X.env).map (·.2) = [assign (.Subscript o ix pos') X.env] := by rfl)
    (ha : ∀ v, assign (.Subscript o ix pos') X.env v = (do
      let ov ← holding [v] (eval o X.env)
      let iv ← holding [v, ov] (eval ix X.env)
      standAt pos'
      holding [v, ov, iv] (setItem ov iv v)
      release [v, ov, iv] []) := by intro _; rfl) : DS X W (.Assign [.Subscript o ix pos'] ex pos) (sPut i fi f) :=
  let ⟨_, p, s⟩ := h; let ⟨_, q, u⟩ := hi
  ⟨_, ps_asg p (pg_sub ho q set_list ha) hs hw h1, ssem_put s u⟩
theorem ds_aug {i : Nat} {x : Str} {ex : Expr} {f : Fr → Out Wd} {op : Operator} {r : R2} {g : List D → Option Wd} {pos' pos : Pos} (hN : X.N.Nodup) (hi : X.N[i]? = some x) (hx : Loc X.env.scope x) (h : DE X W ex f) (ho : PIp X op r) (hr : RSem X.K (r2l r) g)
    (hf : X.fn x = true ∨ X.env.scope.names.lookup x = some .local := by first | exact .inl rfl | exact .inr rfl | assumption) : DS X W (.AugAssign (.Name x pos') op ex pos) (sAug i g f) :=
  let ⟨_, p, s⟩ := h
  ⟨_, ps_aug hN hi hx p ho hf, ssem_aug s hr⟩
theorem q_iadd {K : PySem.W.Frag} : RSem K (r2l (ipI fun i j => i + j)) (fun ds => match ds with | [.int a, .int b] => some (.val (.int (a + b))) | _ => none) := by
  intro G H vs ds w Q l d e k
  match ds, d, e with
  | [.int a, .int b], d, e =>
    obtain ⟨v, u, rfl, h1, h2⟩ := d.two
    cases e
    exact ⟨a, b, h1.int_inv, h2.int_inv, val_end l (.int _) k⟩
end
end Fd

/-! Calls that lend a list. -/
namespace Fd
open PySem PySem.Spec PyProof.Rows L2

def sCallL (g : List Wd → RF) (fa : Fr → Out (List AV)) : Fr → Out Wd := fun e => (fa e).bind fun as e1 => match as with
  | .sl i :: rest => match avD rest, e1[i]? with
    | some ds, some (some (.own l xs)) => match g (.own true xs :: ds.map .val) with
      | .ret w (.own true xs' :: _) => .ok w (e1.set i (some (.own l xs')))
      | .ex x (.own true xs' :: _) => .ex x (e1.set i (some (.own l xs')))
      | _ => .bad
    | _, _ => .bad
  | _ => .bad
section
variable {K : PySem.W.Frag} {mg : Str → Option Value} {W : WX} {G H G' H' G2 H2 : Hp} {e e' e2 : Fr} {σ σ' σ2 : St}
theorem own_lend {xs : List D} {ds : List D} {v : V} {vr : List V} {b : Addr} (o : OwnA ((Wd.own true xs :: ds.map Wd.val).map some) ((v :: vr).map some) b) : v = .ref b := by
  obtain ⟨i, w, h1, h2, h3⟩ := o
  cases i with
  | zero => simpa using h3
  | succ i =>
    have h1 : ((ds.map Wd.val).map some)[i]? = some (some w) := by simpa using h1
    rw [List.getElem?_map, List.getElem?_map] at h1
    cases q : ds[i]? with
    | none => rw [q] at h1; cases h1
    | some d => rw [q] at h1; cases h1; cases h2
theorem rel_lend {xs : List D} {ds : List D} {a : Addr} {xs0 : List V} {vr : List V} (l : Le G H) (hx : H a = some (.lst xs0)) (hg : G a = none) (hd : DnA K G xs0 xs) (h : DnA K G vr ds) : Rel K G ((Wd.own true xs :: ds.map Wd.val).map some) ((V.ref a :: vr).map some) H := by
  refine ⟨l, by simp [h.length], fun i w hw => ?_, fun i j w w' b h1 h2 m m' _ _ => ?_⟩
  · cases i with
    | zero =>
      cases hw
      exact ⟨.ref a, rfl, a, xs0, rfl, hx, hg, hd⟩
    | succ i =>
      obtain ⟨v, hv, q⟩ := (rel_vals l h).at_ i w (by simpa using hw)
      exact ⟨v, by simpa using hv, q⟩
  · have zero : ∀ {i : Nat} {w : Wd}, ((Wd.own true xs :: ds.map Wd.val).map some)[i]? = some (some w) → w.mut = true → i = 0 := fun {i w} h m => by
      cases i with
      | zero => rfl
      | succ i =>
        have h : ((ds.map Wd.val).map some)[i]? = some (some w) := by simpa using h
        rw [List.getElem?_map, List.getElem?_map] at h
        cases q : ds[i]? with
        | none => rw [q] at h; cases h
        | some d => rw [q] at h; cases h; cases m
    rw [zero h1 m, zero h2 m']
theorem Go.lend {i : Nat} {l : Bool} {xs xs' : List D} {ds : List D} {a : Addr} {vr : List V} {rest : List Wd} (rl : Rel K G e σ H) (hi : e[i]? = some (some (.own l xs))) (hs : σ[i]? = some (some (.ref a)))
    (go : Go K ((Wd.own true xs :: ds.map Wd.val).map some) ((V.ref a :: vr).map some) H G ((Wd.own true xs' :: rest).map some) ((V.ref a :: vr).map some) H' G') : Go K e σ H G (e.set i (some (.own l xs'))) σ H' G' := by
  have hlt : i < e.length := (List.getElem?_eq_some_iff.mp hi).1
  have oa : ∀ b, OwnA ((Wd.own true xs :: ds.map Wd.val).map some) ((V.ref a :: vr).map some) b → b = a := fun b o => by
    have := own_lend o
    cases this; rfl
  have oe : OwnA e σ a := ⟨i, _, hi, rfl, hs⟩
  have own_same : ∀ c, OwnA (e.set i (some (.own l xs'))) σ c → OwnA e σ c := fun c o => by
    obtain ⟨j, w, h1, h2, h3⟩ := o
    rcases get_set h1 with ⟨ej, z⟩ | ⟨_, z⟩
    · subst ej; exact ⟨j, _, hi, rfl, h3⟩
    · exact ⟨j, w, z, h2, h3⟩
  refine ⟨⟨go.rel.le, by rw [List.length_set]; exact rl.len, fun j w h => ?_, fun j k w1 w2 c h1 h2 m1 m2 s1 s2 => ?_⟩, fun c u q n => go.keep c u q fun z => n (by rw [oa c z]; exact oe), go.grow, fun c o => .inl (own_same c o), fun c u q => ?_, fun j w h1 h2 => ?_, rfl⟩
  · rcases get_set h with ⟨ej, z⟩ | ⟨hj, z⟩
    · cases z; subst ej
      obtain ⟨v, hv, q⟩ := go.rel.at_ 0 (.own true xs') rfl
      have hv : v = .ref a := by simpa using hv.symm
      subst hv
      obtain ⟨b, ys, eb, h1, h2, h3⟩ := q
      exact ⟨_, hs, b, ys, eb, h1, h2, h3⟩
    · obtain ⟨v, hv, q⟩ := rl.at_ j w z
      refine ⟨v, hv, ?_⟩
      have nb : ∀ c, v = .ref c → w.mut = true → c ≠ a := fun c ec m z2 => hj (rl.ap j i w _ a z hi m rfl (by rw [hv, ec, z2]) hs)
      have fr : ∀ {c : Addr} {o : HO}, H c = some o → G c = none → c ≠ a → G' c = none := fun {c o} h1 h2 hc => by
        cases z : G' c with
        | none => rfl
        | some u =>
          rcases go.gnew c u z with q | q | q
          · rw [h2] at q; cases q
          · exact absurd (oa c q) hc
          · rw [h1] at q; cases q
      cases w with
      | val d => exact Dn.mono go.grow q
      | own l es => obtain ⟨c, ys, h1, h2, h3, h4⟩ := q; exact ⟨c, ys, h1, go.keep _ _ h2 (fun z => nb c h1 rfl (oa c z)), fr h2 h3 (nb c h1 rfl), h4.mono go.grow⟩
      | ownK l es => obtain ⟨c, ys, h1, h2, h3, h4⟩ := q; exact ⟨c, ys, h1, go.keep _ _ h2 (fun z => nb c h1 rfl (oa c z)), fr h2 h3 (nb c h1 rfl), h4.mono go.grow⟩
      | ownT l es => exact q
  · have fix : ∀ {j : Nat} {w : Wd}, (e.set i (some (.own l xs')))[j]? = some (some w) → w.mut = true → ∃ w', e[j]? = some (some w') ∧ w'.mut = true := fun {j w} h m => by
      rcases get_set h with ⟨ej, z⟩ | ⟨_, z⟩
      · subst ej; exact ⟨_, hi, rfl⟩
      · exact ⟨w, z, m⟩
    obtain ⟨u1, a1, b1⟩ := fix h1 m1
    obtain ⟨u2, a2, b2⟩ := fix h2 m2
    exact rl.ap j k u1 u2 c a1 a2 b1 b2 s1 s2
  · rcases go.gnew c u q with z | z | z
    · exact .inl z
    · exact .inr (.inl (by rw [oa c z]; exact oe))
    · exact .inr (.inr z)
  · by_cases hj : j = i
    · subst hj; rw [hi] at h1; cases h1
      exact ⟨rfl, _, List.getElem?_set_self hlt, h2⟩
    · exact ⟨rfl, w, by rw [List.getElem?_set_ne (Ne.symm hj)]; exact h1, h2⟩
theorem esem_callL {ta : TA} {fa : Fr → Out (List AV)} {n : Nat} {g : List Wd → RF} (ha : ASem K mg W ta fa) (hn : ∀ ws, g ws ≠ .bad → ws.length = n) : ESem K mg W (tCallS (spOf K mg n g) (fun σ c d H => W c d σ H) ta) (sCallL g fa) := by
  intro e σ H G Q rl p
  refine ha e σ H G _ rl ?_
  unfold sCallL at p
  cases q : fa e with
  | bad => rw [q] at p; exact p
  | ex x e1 => rw [q] at p; exact p
  | ok as e1 =>
    rw [q] at p
    simp only [Out.bind_ok] at p
    intro vs H1 G1 go av
    cases av with
    | nil => exact False.elim p
    | cons h1 t1 =>
      rename_i v vr a1 as1
      cases a1 with
      | d _ => exact False.elim p
      | sl i =>
        simp only at p
        cases q2 : avD as1 with
        | none => simp only [q2] at p; exact False.elim p
        | some ds =>
          have dn := avD_at t1 q2
          cases q3 : e1[i]? with
          | none => simp only [q2, q3] at p; exact False.elim p
          | some o =>
            cases o with
            | none => simp only [q2, q3] at p; exact False.elim p
            | some w =>
              cases w with
              | own l xs =>
                simp only [q2, q3] at p
                obtain ⟨v1, hv1, a, xs0, rfl, hx, hg, hd⟩ := go.rel.at_ i _ q3
                have hs : σ[i]? = some (some v) := h1
                rw [hs] at hv1; cases hv1
                have hb : g (.own true xs :: ds.map .val) ≠ .bad := fun z => by rw [z] at p; exact p
                refine ⟨by have := hn _ hb; simpa [dn.length] using this, G1, _, rel_lend go.rel.le hx hg hd dn, fun w hw m => ?_, ?_⟩
                · rcases List.mem_cons.mp hw with z | z
                  · subst z; rfl
                  · obtain ⟨d, _, rfl⟩ := List.mem_map.mp z
                    cases m
                · cases q4 : g (.own true xs :: ds.map .val) with
                  | bad => exact hb q4
                  | ret w outs =>
                    rw [q4] at p
                    intro r H2 G2 go2 ra
                    match outs, p, go2, ra with
                    | .own true xs' :: rest, p, go2, ra =>
                      have go3 := Go.lend go.rel q3 hs go2
                      refine p r H2 G2 (go.trans go3) (RAt.trans go ⟨ra.1, fun m b eb => ?_⟩)
                      have hf : H1 b = none := (ra.2 m b eb).2.resolve_left fun z => by
                        have := own_lend z
                        exact (ra.2 m b eb).1 ⟨0, .own true xs', rfl, rfl, by rw [this]; rfl⟩
                      refine ⟨fun z => fresh_not_own go.rel hf ?_, .inr hf⟩
                      obtain ⟨j, w', k1, k2, k3⟩ := z
                      rcases get_set k1 with ⟨ej, z⟩ | ⟨_, z⟩
                      · subst ej; exact ⟨j, _, q3, rfl, k3⟩
                      · exact ⟨j, w', z, k2, k3⟩
                  | ex x outs =>
                    rw [q4] at p
                    intro c d H2 G2 go2 xa
                    match outs, p, go2 with
                    | .own true xs' :: rest, p, go2 => exact p c d H2 G2 (go.trans (Go.lend go.rel q3 hs go2)) xa
              | _ => simp only [q2, q3] at p; exact False.elim p
end
section
variable {X : Cx} {W : WX}
theorem de_clL {k j n : Nat} {g : List Wd → RF} {x : Str} {p pos : Pos} {ex : Expr} {es : List Expr} {fa : Fr → Out (List AV)} (c : Cl X.prog X.w X.K X.mg X.base k x n g) (hr : Room j X.A) (tk : L2.Takes X W) (ha : DA X W (ex :: es) fa) (hj : k ≤ j := by decide) (hg : Gl X x := by rfl)
    (hdb : (x == ("__debug__" : Str)) = false := by decide) (he : starEach (ex :: es) X.env = (false, eval ex X.env) :: starEach es X.env := by rfl) (hpl : (backTo pos (starEach es X.env)).any (·.1) = false := by rfl) : DE X W (.Call (.Name x p) (ex :: es) [] pos) (sCallL g fa) :=
  let ⟨⟨f, fd, ps, F, a, b, c'⟩, hn⟩ := c
  let ⟨_, pa, sa⟩ := ha
  ⟨_, L2.pe_callS F (hr.mono hj) hg a b c' (fun σ => L2.passAt tk σ) pa hdb he hpl, esem_callL sa hn⟩
end
end Fd

/-! Several names at once. -/
namespace Fd
open PySem PySem.Spec PyProof.Rows L2
def sPar2 (i j : Nat) (f g : Fr → Out Wd) : Fr → SO := fun e => (f e).bs fun w e1 => (g e1).bs fun u e2 =>
  if free e2 i = true ∧ free (e2.set i (some w)) j = true ∧ w.lent = false ∧ u.lent = false then .nx ((e2.set i (some w)).set j (some u)) else .bad
def sPar3 (i j k : Nat) (fa : Fr → Out (List AV)) : Fr → SO := fun e => (fa e).bs fun as e1 => match avD as with
  | some [a, b, c] => if free e1 i = true ∧ free (e1.set i (some (.val a))) j = true ∧ free ((e1.set i (some (.val a))).set j (some (.val b))) k = true
      then .nx (((e1.set i (some (.val a))).set j (some (.val b))).set k (some (.val c))) else .bad
  | _ => .bad
section
variable {K : PySem.W.Frag} {mg : Str → Option Value} {W : WX} {G H G' H' G2 H2 : Hp} {e e' e2 : Fr} {σ σ' σ2 σ0 : St}
/-- a new content stands through a later step -/
theorem RAt.past {v : V} {w : Wd} (r : Rel K G e σ H) (a : Go K e σ H G e' σ H' G') (h : RAt K e σ H e' G' H' v w) (b : Go K e' σ H' G' e2 σ H2 G2) : RAt K e σ H e2 G2 H2 v w := by
  cases w with
  | val d => exact ⟨Dn.mono b.grow h.1, fun m => nomatch m⟩
  | ownT l ds => exact False.elim h.1
  | own l ds =>
    obtain ⟨x, xs, rfl, h1, h2, h3⟩ := h.1
    obtain ⟨n1, n2⟩ := h.2 rfl x rfl
    refine ⟨⟨x, xs, rfl, b.keep x _ h1 n1, ?_, DnA.mono b.grow h3⟩, fun _ y ey => ?_⟩
    · cases q : G2 x with
      | none => rfl
      | some o =>
        rcases b.gnew x o q with z | z | z
        · rw [h2] at z; cases z
        · exact absurd z n1
        · rw [h1] at z; cases z
    · cases ey
      refine ⟨fun o => ?_, n2⟩
      rcases b.own x o with z | z
      · exact n1 z
      · rw [h1] at z; cases z
  | ownK l ds =>
    obtain ⟨x, xs, rfl, h1, h2, h3⟩ := h.1
    obtain ⟨n1, n2⟩ := h.2 rfl x rfl
    refine ⟨⟨x, xs, rfl, b.keep x _ h1 n1, ?_, DnK.mono b.grow h3⟩, fun _ y ey => ?_⟩
    · cases q : G2 x with
      | none => rfl
      | some o =>
        rcases b.gnew x o q with z | z | z
        · rw [h2] at z; cases z
        · exact absurd z n1
        · rw [h1] at z; cases z
    · cases ey
      refine ⟨fun o => ?_, n2⟩
      rcases b.own x o with z | z
      · exact n1 z
      · rw [h1] at z; cases z
theorem RAt.mut_at {v : V} {w : Wd} (h : RAt K e σ H e' G' H' v w) (m : w.mut = true) : ∃ a o, v = .ref a ∧ H' a = some o ∧ ¬ OwnA e' σ a := by
  obtain ⟨a, ea, _, o, ho⟩ := h.1.mut_ref m
  exact ⟨a, o, ea, ho, (h.2 m a ea).1⟩
theorem Go.storeS {i : Nat} {v : V} {w : Wd} (go : Go K e σ0 H G e' σ H' G') (ra : SRAt K e σ0 H e' σ G' H' v w) (hf : free e' i = true) (hl : w.lent = false) : Go K e σ0 H G (e'.set i (some w)) (σ.set i (some v)) H' G' := by
  have hi : i < e'.length := by
    unfold free at hf
    cases q : e'[i]? with
    | none => rw [q] at hf; cases hf
    | some o => exact (List.getElem?_eq_some_iff.mp q).1
  have hi' : i < σ.length := by rw [← go.rel.len]; exact hi
  have sset : ∀ (j : Nat) (o : Option V), (σ.set i (some v))[j]? = some o → (j = i ∧ o = some v) ∨ (j ≠ i ∧ σ[j]? = some o) := fun j o h => get_set h
  have own_old : ∀ a, OwnA (e'.set i (some w)) (σ.set i (some v)) a → OwnA e' σ a ∨ (w.mut = true ∧ v = .ref a) := fun a o => by
    obtain ⟨j, w', h1, h2, h3⟩ := o
    rcases get_set h1 with ⟨ej, z⟩ | ⟨hj, z⟩
    · cases z; subst ej
      rcases sset _ _ h3 with ⟨_, q⟩ | ⟨q, _⟩
      · cases q; exact .inr ⟨h2, rfl⟩
      · exact absurd rfl q
    · rcases sset _ _ h3 with ⟨q, _⟩ | ⟨_, q⟩
      · exact absurd q hj
      · exact .inl ⟨j, w', z, h2, q⟩
  refine ⟨⟨go.rel.le, by rw [List.length_set, List.length_set]; exact go.rel.len, fun j w' h => ?_, fun j k w1 w2 a h1 h2 m1 m2 s1 s2 => ?_⟩, go.keep, go.grow, fun a o => ?_, go.gnew, fun j w' h1 h2 => ?_, by rw [List.length_set]; exact go.slen⟩
  · rcases get_set h with ⟨ej, z⟩ | ⟨hj, z⟩
    · cases z; subst ej; exact ⟨v, List.getElem?_set_self hi', ra.1⟩
    · obtain ⟨u, hu, q⟩ := go.rel.at_ j w' z
      exact ⟨u, by rw [List.getElem?_set_ne (Ne.symm hj)]; exact hu, q⟩
  · rcases get_set h1 with ⟨ej, z⟩ | ⟨hj, z⟩
    · rcases get_set h2 with ⟨ek, z2⟩ | ⟨hk, z2⟩
      · rw [ej, ek]
      · cases z; subst ej
        rcases sset _ _ s1 with ⟨_, q⟩ | ⟨q, _⟩
        · cases q
          rcases sset _ _ s2 with ⟨q2, _⟩ | ⟨_, q2⟩
          · exact absurd q2 hk
          · exact ((ra.2 m1 a rfl).1 ⟨k, w2, z2, m2, q2⟩).elim
        · exact absurd rfl q
    · rcases get_set h2 with ⟨ek, z2⟩ | ⟨hk, z2⟩
      · cases z2; subst ek
        rcases sset _ _ s2 with ⟨_, q⟩ | ⟨q, _⟩
        · cases q
          rcases sset _ _ s1 with ⟨q2, _⟩ | ⟨_, q2⟩
          · exact absurd q2 hj
          · exact ((ra.2 m2 a rfl).1 ⟨j, w1, z, m1, q2⟩).elim
        · exact absurd rfl q
      · rcases sset _ _ s1 with ⟨q, _⟩ | ⟨_, q⟩
        · exact absurd q hj
        rcases sset _ _ s2 with ⟨q2, _⟩ | ⟨_, q2⟩
        · exact absurd q2 hk
        exact go.rel.ap j k w1 w2 a z z2 m1 m2 q q2
  · rcases own_old a o with q | ⟨m, ea⟩
    · exact go.own a q
    · exact (ra.2 m a ea).2
  · obtain ⟨s1, w2, h3, h4⟩ := go.lent j w' h1 h2
    have hj : j ≠ i := fun z => by
      subst z
      unfold free at hf
      rw [h3] at hf
      simp [h4] at hf
    exact ⟨by rw [List.getElem?_set_ne (Ne.symm hj)]; exact s1, w2, by rw [List.getElem?_set_ne (Ne.symm hj)]; exact h3, h4⟩
theorem ssem_par2 {i j : Nat} {ta tb : TE} {f g : Fr → Out Wd} (h : ESem K mg W ta f) (k : ESem K mg W tb g) : SSem K mg W (tPar i j (tCons ta (tCons tb tNil))) (sPar2 i j f g) := by
  intro e σ H G D r p
  refine h e σ H G _ r ?_
  unfold sPar2 at p
  cases q : f e with
  | bad => rw [q] at p; exact p
  | ex x e1 => rw [q] at p; exact fun c d H' G' => p c d σ H' G'
  | ok w e1 =>
    rw [q] at p
    intro v H1 G1 go ra
    refine k e1 σ H1 G1 _ go.rel ?_
    simp only [Out.bs_ok] at p
    cases q2 : g e1 with
    | bad => rw [q2] at p; exact p
    | ex x e3 => rw [q2] at p; exact fun c d H' G' go2 xa => p c d σ H' G' (go.trans go2) xa
    | ok u e3 =>
      rw [q2] at p
      simp only [Out.bs_ok] at p
      split at p
      · rename_i hc
        obtain ⟨f1, f2, l1, l2⟩ := hc
        intro v2 H3 G3 go2 ra2
        have ra1 := RAt.past r go ra go2
        have g1 := (go.trans go2).store ra1 f1 l1
        refine ⟨v, v2, rfl, p _ H3 G3 ?_⟩
        have hi : i < e3.length := by
          unfold free at f1
          cases q : e3[i]? with
          | none => rw [q] at f1; cases f1
          | some o => exact (List.getElem?_eq_some_iff.mp q).1
        refine g1.storeS (v := v2) ⟨?_, fun m y ey => ?_⟩ f2 l2
        · exact ra2.1
        · obtain ⟨n1, n2⟩ := ra2.2 m y ey
          have no : ¬ OwnA (e3.set i (some w)) (σ.set i (some v)) y := fun o => by
            obtain ⟨s, w', h1, h2, h3⟩ := o
            rcases get_set h1 with ⟨ej, z⟩ | ⟨hj, z⟩
            · cases z; subst ej
              rcases get_set h3 with ⟨_, z⟩ | ⟨z, _⟩
              · cases z
                obtain ⟨b, o, eb, hb, nb⟩ := ra.mut_at h2
                cases eb
                rcases n2 with z | z
                · exact nb z
                · rw [hb] at z; cases z
              · exact absurd rfl z
            · rcases get_set h3 with ⟨z, _⟩ | ⟨_, z2⟩
              · exact absurd z hj
              · exact n1 ⟨s, w', z, h2, z2⟩
          exact ⟨no, ((RAt.trans go ra2).2 m y ey).2⟩
      · exact p.elim
theorem ssem_par3 {i j k : Nat} {ta : TA} {fa : Fr → Out (List AV)} (h : ASem K mg W ta fa) : SSem K mg W (tPar3 i j k ta) (sPar3 i j k fa) := by
  intro e σ H G D r p
  refine h e σ H G _ r ?_
  unfold sPar3 at p
  cases q : fa e with
  | bad => rw [q] at p; exact p
  | ex x e1 => rw [q] at p; exact fun c d H' G' => p c d σ H' G'
  | ok as e1 =>
    rw [q] at p
    simp only [Out.bs_ok] at p
    intro vs H1 G1 go ha
    cases q2 : avD as with
    | none => rw [q2] at p; exact p.elim
    | some ds =>
      rw [q2] at p
      have hd := avD_at ha q2
      match ds, hd, p with
      | [a, b, c], .cons h1 (.cons h2 (.cons h3 .nil)), p =>
        simp only at p
        split at p
        · rename_i hc
          obtain ⟨f1, f2, f3⟩ := hc
          refine ⟨_, _, _, rfl, p _ H1 G1 ?_⟩
          have g1 := go.store (v := _) (w := .val a) ⟨h1, fun m => nomatch m⟩ f1 rfl
          have g2 := g1.storeS (v := _) (w := .val b) ⟨h2, fun m => nomatch m⟩ f2 rfl
          exact g2.storeS (v := _) (w := .val c) ⟨h3, fun m => nomatch m⟩ f3 rfl
        · exact p.elim
      | [], _, p => exact p.elim
      | [_], _, p => exact p.elim
      | [_, _], _, p => exact p.elim
      | _ :: _ :: _ :: _ :: _, _, p => exact p.elim
end
section
variable {X : Cx} {W : WX}
theorem ds_par2 {i j : Nat} {x y : Str} {a b : Expr} {f g : Fr → Out Wd} {px py pt pos : Pos} {kt k2 pt2} (hc : X.calm = true) (hN : X.N.Nodup) (hi : X.N[i]? = some x) (hj : X.N[j]? = some y) (hx : X.env.scope.names.lookup x = some .local) (hy : X.env.scope.names.lookup y = some .local)
    (ha : DE X W a f) (hb : DE X W b g) (hij : i ≠ j := by decide) (hw : swappedStores [.Tuple [.Name x px, .Name y py] kt pt] (.Tuple [a, b] k2 pt2) X.env = pure (some [x, y]) := by rfl) (hs : swapsWithSole [.Tuple [.Name x px, .Name y py] kt pt] (.Tuple [a, b] k2 pt2) pos.line X.env = pure false := by rfl)
    (he : starEach [a, b] X.env = (false, eval a X.env) :: starEach [b] X.env := by rfl) (he2 : starEach [b] X.env = (false, eval b X.env) :: starEach [] X.env := by rfl) : DS X W (.Assign [.Tuple [.Name x px, .Name y py] kt pt] (.Tuple [a, b] k2 pt2) pos) (sPar2 i j f g) :=
  let ⟨_, p, s⟩ := ha; let ⟨_, q, u⟩ := hb; ⟨_, ps_par hc hN hi hj hij hx hy (pa_cons p (pa_cons q pa_nil he2) he) hw hs, ssem_par2 s u⟩
theorem ds_par3 {i j k : Nat} {x y z : Str} {es : List Expr} {a b c : Expr} {fa : Fr → Out (List AV)} {px py pz pt pos : Pos} {kt k2 pt2} (hc : X.calm = true) (hN : X.N.Nodup) (hi : X.N[i]? = some x) (hj : X.N[j]? = some y) (hk : X.N[k]? = some z)
    (hx : X.env.scope.names.lookup x = some .local) (hy : X.env.scope.names.lookup y = some .local) (hz : X.env.scope.names.lookup z = some .local) (ha : DA X W [a, b, c] fa) (hij : i ≠ j := by decide) (hik : i ≠ k := by decide) (hjk : j ≠ k := by decide)
    (hw : swappedStores [.Tuple [.Name x px, .Name y py, .Name z pz] kt pt] (.Tuple [a, b, c] k2 pt2) X.env = pure (some [x, y, z]) := by rfl) (hs : swapsWithSole [.Tuple [.Name x px, .Name y py, .Name z pz] kt pt] (.Tuple [a, b, c] k2 pt2) pos.line X.env = pure false := by rfl) :
    DS X W (.Assign [.Tuple [.Name x px, .Name y py, .Name z pz] kt pt] (.Tuple [a, b, c] k2 pt2) pos) (sPar3 i j k fa) :=
  let ⟨_, p, s⟩ := ha; ⟨_, ps_par3 hc hN hi hj hk hij hik hjk hx hy hz p hw hs, ssem_par3 s⟩
/-- a local list of a comprehension's line: the fact that ds_setLc asks for, and the block's calls -/
theorem takes_w0 {X : Cx} : L2.Takes X W0 := fun _ _ ⟨_, _, _, _, _, _, _, _, _, _, _, _, _, _, _, _, w⟩ => w.elim
end
end Fd

/-! A def's function from its body's. -/
namespace Fd
open PySem PySem.Spec PyProof.Rows L2
def gOf (n N : Nat) (b : Fr → SO) (ws : List Wd) : RF := if ws.length = n then closeR ws (b (startE N ws)) else .bad
theorem gOf_n {n N : Nat} {b : Fr → SO} : ∀ ws, gOf n N b ws ≠ .bad → ws.length = n := fun ws h => by
  unfold gOf at h
  split at h
  · assumption
  · exact absurd rfl h
theorem gOf_g {n N : Nat} {b : Fr → SO} {ws : List Wd} (h : gOf n N b ws ≠ .bad) : closeR ws (b (startE N ws)) = gOf n N b ws := by
  have e := gOf_n ws h
  unfold gOf
  rw [if_pos e]
/-- how often a while loop may turn -/
def fuelN : Nat := 1000000000
def gIAdd : List D → Option Wd := fun ds => match ds with | [.int a, .int b] => some (.val (.int (a + b))) | _ => none
theorem q_iadd2 {K : PySem.W.Frag} : RSem K (r2l (ipI fun i j => i + j)) gIAdd := q_iadd
section
variable {X : Cx} {W : WX}
theorem de_globI {x : Str} {i : Int} {pos : Pos} (hm : ∃ t, X.mg x = some (.int i t)) (hg : Gl X x := by rfl) (hd : (x == ("__debug__" : Str)) = false := by decide) : DE X W (.Name x pos) (sC (.int i)) :=
  let ⟨t, h⟩ := hm; de_glob (v := .int i) hg h ⟨t, rfl⟩ (fun _ => .int _) hd
theorem de_ty {x : Str} {T : String} {pos : Pos} (hm : X.mg x = none) (hv : bootBuiltins x = some (.type T)) (hg : Gl X x := by rfl) (hn : x ≠ "__name__" := by decide) (hd : (x == ("__debug__" : Str)) = false := by decide) : DE X W (.Name x pos) (sC (.ty T)) :=
  de_bltn (v := .ty T) hg hm hv rfl (fun _ => .ty _) hn hd
end
end Fd

/-! The law's own def, and the end of a walk. -/
namespace Fd
open PySem PySem.Spec PyProof.Rows L2
section
variable {P : Program} {w : World} {K : PySem.W.Frag} {mg : Str → Option Value} {base : Heap}
/-- a def's promise, for the def that is called from outside -/
theorem fn_of {x : Str} {st : Stmt} {f : Addr} {fd : FuncData} {N ps : List Str} {k : Nat} {g : List Wd → RF} {body : Fr → SO} (F : L2.Fun K x x st f fd) (S : FnScope N ps (defScope st))
    (hD : ∀ (cdv : Value) (A : Around) (outer : List Env) (s : Shared) (H : Hp) (E : XK), Room k (bodyCx P w K mg base N x (defScope st) f cdv A outer s H E).A → DSs (bodyCx P w K mg base N x (defScope st) f cdv A outer s H E) (WB E) (defBody st) body)
    (hg : ∀ ws, g ws ≠ .bad → closeR ws (body (startE N.length ws)) = g ws) : FnOk P w K mg base (L2.CX P w) (k + 1) f fd ps (spOf K mg ps.length g) := by
  refine F.okX S (fun vs H Q E h => h.1) (fun cdv A outer s H vs Q E hr h => ?_)
  obtain ⟨t, p, q⟩ := hD cdv A outer s H E hr
  have hl : ps.length ≤ N.length := by have := congrArg List.length S.pre; rw [List.length_take] at this; omega
  exact ⟨t, p, sp_body hl q hg h⟩
theorem cl_fn {x : Str} {st : Stmt} {f : Addr} {fd : FuncData} {ps : List Str} {k : Nat} {g : List Wd → RF} (F : L2.Fun K x x st f fd) (hm : mg x = some (.ref f)) (b : L2.Binds K fd ps []) (o : FnOk P w K mg base (L2.CX P w) k f fd ps (spOf K mg ps.length g))
    (hn : ∀ ws, g ws ≠ .bad → ws.length = ps.length) : Cl P w K mg base k x ps.length g := ⟨⟨f, fd, ps, o, hm, F.kp, b⟩, hn⟩
end
/-- a list of at most 63 ints is handed in, True comes out -/
def spLaw (K : PySem.W.Frag) : Sp := fun vs H Q _ => ∃ (a : Addr) (ns : List Int), vs = [.ref a] ∧ SqL K H a (ns.map V.int) ∧ ns.length ≤ 63 ∧ ∀ H', Q (.bl true) H'
theorem dna_ints {K : PySem.W.Frag} {G : Hp} : ∀ {ns : List Int}, DnA K G (ns.map V.int) (ns.map D.int)
  | [] => .nil
  | _ :: _ => .cons (.int _) dna_ints
def Good (g : List Wd → RF) : Prop := ∀ ns : List Int, ns.length ≤ 63 → ∃ outs, g [.val (.lsf (ns.map .int))] = .ret (.val (.bl true)) outs
theorem sp_law {K : PySem.W.Frag} {mg : Str → Option Value} {g : List Wd → RF} (hg : Good g) {vs : List V} {H : Hp} {Q : VK} {E : XK} (h : spLaw K vs H Q E) : spOf K mg 1 g vs H Q E := by
  obtain ⟨a, ns, rfl, hS, hl, q⟩ := h
  obtain ⟨outs, e⟩ := hg ns hl
  refine ⟨rfl, H, [.val (.lsf (ns.map .int))], ?_, fun w hw m => ?_, ?_⟩
  · exact rel_vals (ds := [.lsf (ns.map .int)]) (Le.refl H) (.cons (.lsf hS dna_ints) .nil)
  · rw [List.mem_singleton] at hw; subst hw; cases m
  · rw [e]
    intro r H' G' go ra
    cases ra.1
    exact q H'
theorem walkF {l : PySem.W.OpenLaw} {k : Nat} {q : Program} {loose : List Str} {XP : (Str → Option Value) → Heap → Prop} {YP : World → Heap → Prop} {d : DefRec} {K : Params → PySem.W.Frag} (hn : l.most = some 63) (hdf : d.params.defaults = [])
    (hr : Room k callerA) (hY : ∀ (w : World) (h : Heap), YP w h → (K w.params).In h)
    (F : ∀ (w : World) (mg : Str → Option Value) (fa : Addr) (h : Heap), (K w.params).In h → h.Ns mainGlobals mg → mg d.name = some (.ref fa) →
      ∃ fd : FuncData, (∀ (s : Shared) (u : Value), BindsTo s fd ⟨[u], []⟩ [("script", u)]) ∧ ∀ base : Heap, (K w.params).In base → base.Ns mainGlobals mg → FnOk l.prog w (K w.params) mg base (L2.CX l.prog w) k fa fd ["script"] (spLaw (K w.params))) :
    PySem.W.WalkO q loose XP YP l.row.toRowW d [] (fun f vs => PySem.call f vs) :=
  L2.walk_of (n := 63) (k := k) (x := "script") (CX := fun w => L2.CX l.prog w) (sp := fun w => spLaw (K w.params)) hn (by decide) hdf hr hY F (fun _ _ a ns hl _ hS => ⟨a, ns, rfl, hS, hl, fun _ => rfl⟩) fun _ _ _ _ _ z => by
    obtain ⟨_, _, _, _, _, _, _, _, _, _, _, _, z⟩ := z
    exact z
/-- a def of the top, where it stands -/
structure At (K : PySem.W.Frag) (x : Str) (st : Stmt) (f : Addr) (fd : FuncData) : Prop where
  a : PySem.W.nsIn K mainGlobals x = some (some (.ref f))
  F : L2.Fun K x x st f fd
theorem at_mk {K : PySem.W.Frag} {x : Str} {st : Stmt} {f : Addr} {oc : Value} {od an : Option Addr} {osl : Array (Option Value)} {kV doc pm cdv ct : Value} (a : PySem.W.nsIn K mainGlobals x = some (some (.ref f)))
    (l : K.lookup f = some ⟨oc, od, .func (PySem.W.fnOf x x (defArgs st) (defBody st) (defScope st) .none kV doc pm an cdv ct), osl⟩) (c : PySem.W.codeIn K cdv x = true) (k : PySem.W.keepIn K (.ref f) = true) :
    ∃ f fd, At K x st f fd := ⟨_, _, ⟨a, fun_mk l c k⟩⟩
end Fd

/-! Reading a def's function: rules for simp, lists of items, loops. -/
namespace Fd
open PySem PySem.Spec PyProof.Rows L2
/-- the kinds of data that isinstance knows -/
def known : D → Bool
  | .non | .bl _ | .int _ | .str _ | .tup _ | .lst _ | .lsf _ | .dic _ => true
  | _ => false
def dInt : D → Bool
  | .int _ => true
  | _ => false
def dBl : D → Bool
  | .bl _ => true
  | _ => false
def dTup : D → Bool
  | .tup _ => true
  | _ => false
theorem isi_int {d : D} (h : known d = true) : gIsi [d, .ty "int"] = some (.val (.bl (dInt d || dBl d))) := by
  cases d <;> first | rfl | cases h
theorem isi_bool {d : D} (h : known d = true) : gIsi [d, .ty "bool"] = some (.val (.bl (dBl d))) := by
  cases d <;> first | rfl | cases h
theorem isi_tuple {d : D} (h : known d = true) : gIsi [d, .ty "tuple"] = some (.val (.bl (dTup d))) := by
  cases d <;> first | rfl | cases h
theorem outs_nil {e : Fr} : outsOf [] e = some [] := rfl
theorem outs_val {d : D} {ws : List Wd} {o : Option Wd} {e : Fr} : outsOf (.val d :: ws) (o :: e) = (outsOf ws e).map (.val d :: ·) := rfl
theorem outs_own {l : Bool} {ds : List D} {ws : List Wd} {w : Wd} {e : Fr} : outsOf (.own l ds :: ws) (some w :: e) = (outsOf ws e).map (w :: ·) := rfl
theorem tf (b : Bool) : b = true ∨ b = false := by cases b <;> simp
/-! equality -/
theorem ok_int (a : Int) : eqOk (.int a) = true := by rfl
theorem ok_bl (a : Bool) : eqOk (.bl a) = true := by rfl
theorem eq_int (a b : Int) : gEq [.int a, .int b] = some (.val (.bl (decide (a = b)))) := by
  show (if eqOk (.int a) = true ∧ eqOk (.int b) = true then some (Wd.val (.bl (PyData.eqv (toPy (.int a)) (toPy (.int b))))) else none) = _
  rw [if_pos ⟨ok_int a, ok_int b⟩]
  rfl
theorem ne_int (a b : Int) : gNe [.int a, .int b] = some (.val (.bl (!decide (a = b)))) := by
  show (if eqOk (.int a) = true ∧ eqOk (.int b) = true then some (Wd.val (.bl (!PyData.eqv (toPy (.int a)) (toPy (.int b))))) else none) = _
  rw [if_pos ⟨ok_int a, ok_int b⟩]
  rfl
theorem eq_bl (a b : Bool) : gEq [.bl a, .bl b] = some (.val (.bl (decide (a = b)))) := by
  cases a <;> cases b <;> rfl
theorem ne_bl (a b : Bool) : gNe [.bl a, .bl b] = some (.val (.bl (!decide (a = b)))) := by
  cases a <;> cases b <;> rfl
theorem ints_lay : ∀ w : List Int, PyData.canLayAll0 (toPys (w.map D.int)) = true
  | [] => rfl
  | a :: w => by
    show (PyData.canLay0 (.int a) && PyData.canLayAll0 (toPys (w.map D.int))) = true
    rw [ints_lay w]; rfl
theorem ints_depth : ∀ w : List Int, PyData.depthAll (toPys (w.map D.int)) = 0
  | [] => rfl
  | a :: w => by
    show max 0 (PyData.depthAll (toPys (w.map D.int))) = 0
    rw [ints_depth w]; rfl
theorem ok_ints (w : List Int) : eqOk (.tup (w.map D.int)) = true := by
  show (PyData.canLayAll0 (toPys (w.map D.int)) && decide (PyData.depthAll (toPys (w.map D.int)) + 1 ≤ 64)) = true
  rw [ints_lay, ints_depth]; rfl
theorem eqv_ints : ∀ w v : List Int, PyData.eqvAll (toPys (w.map D.int)) (toPys (v.map D.int)) = decide (w = v)
  | [], [] => rfl
  | [], b :: v => rfl
  | a :: w, [] => rfl
  | a :: w, b :: v => by
    show ((a == b) && PyData.eqvAll (toPys (w.map D.int)) (toPys (v.map D.int))) = decide (a :: w = b :: v)
    rw [eqv_ints w v]
    by_cases h : a = b
    · subst h; simp
    · have : (a == b) = false := by simpa using h
      rw [this]; simp [h]
theorem eq_ints (w v : List Int) : gEq [.tup (w.map D.int), .tup (v.map D.int)] = some (.val (.bl (decide (w = v)))) := by
  show (if _ then _ else _) = _
  rw [if_pos ⟨ok_ints w, ok_ints v⟩]
  show some (Wd.val (.bl (PyData.eqvAll _ _))) = _
  rw [eqv_ints]
theorem ne_ints (w v : List Int) : gNe [.tup (w.map D.int), .tup (v.map D.int)] = some (.val (.bl (!decide (w = v)))) := by
  show (if _ then _ else _) = _
  rw [if_pos ⟨ok_ints w, ok_ints v⟩]
  show some (Wd.val (.bl (!PyData.eqvAll _ _))) = _
  rw [eqv_ints]
theorem bools_map {α : Type} (f : α → Bool) : ∀ l : List α, asBools (l.map fun x => D.bl (f x)) = some (l.map f)
  | [] => rfl
  | a :: l => by
    show (asBools (l.map fun x => D.bl (f x))).map (f a :: ·) = _
    rw [bools_map f l]; rfl
theorem all_map {α : Type} (f : α → Bool) (l : List α) : gAll [.lst (l.map fun x => D.bl (f x))] = some (.val (.bl (l.all f))) := by
  show (asBools (l.map fun x => D.bl (f x))).map _ = _
  rw [bools_map]
  simp [List.all_map, Function.comp_def]
theorem any_map {α : Type} (f : α → Bool) (l : List α) : gAny [.lst (l.map fun x => D.bl (f x))] = some (.val (.bl (l.any f))) := by
  show (asBools (l.map fun x => D.bl (f x))).map _ = _
  rw [bools_map]
  simp [List.any_map, Function.comp_def]

/-! ### loops -/
/-- every turn takes the frame on; nothing leaves -/
theorem loop_inv {α : Type} {enc : α → D} {tg : Tg} {body : Fr → SO} : ∀ (xs : List α) (Iv : Nat → Fr → Prop) (n : Nat), (∀ i x e, xs[i]? = some x → Iv (n + i) e → ∃ e1 e2, tg.put (enc x) e = some e1 ∧ (body e1 = .nx e2 ∨ body e1 = .ct e2) ∧ Iv (n + i + 1) e2) →
    ∀ e, Iv n e → ∃ e', loopF tg body (xs.map enc) e = .nx e' ∧ Iv (n + xs.length) e'
  | [], Iv, n, _, e, h => ⟨e, rfl, h⟩
  | x :: xs, Iv, n, hs, e, h => by
    obtain ⟨e1, e2, h1, h2, h3⟩ := hs 0 x e rfl h
    obtain ⟨e', h4, h5⟩ := loop_inv xs Iv (n + 1) (fun i y e z q => by
      have := hs (i + 1) y e (by simpa using z) (by rw [show n + (i + 1) = n + 1 + i by omega]; exact q)
      rwa [show n + (i + 1) = n + 1 + i by omega] at this) e2 h3
    refine ⟨e', ?_, by rw [List.length_cons, show n + (xs.length + 1) = n + 1 + xs.length by omega]; exact h5⟩
    show (match tg.put (enc x) e with | none => SO.bad | some e1 => _) = _
    rw [h1]
    rcases h2 with h2 | h2 <;> simp only [h2] <;> exact h4
theorem while_iter {c : Fr → Out Bool} {body : Fr → SO} {Post : Fr → Prop} : ∀ (k fuel : Nat) (Iv : Nat → Fr → Prop), k < fuel → (∀ i e, i < k → Iv i e → ∃ e1 e2, c e = .ok true e1 ∧ body e1 = .nx e2 ∧ Iv (i + 1) e2) →
    (∀ e, Iv k e → ∃ e1, c e = .ok false e1 ∧ Post e1) → ∀ e, Iv 0 e → ∃ e', whileF c body fuel e = .nx e' ∧ Post e'
  | _, 0, _, hk, _, _, _, _ => absurd hk (Nat.not_lt_zero _)
  | 0, fuel + 1, Iv, hk, hs, ht, e, h => by
    obtain ⟨e1, h1, h2⟩ := ht e h
    exact ⟨e1, by unfold whileF; rw [h1]; rfl, h2⟩
  | k + 1, fuel + 1, Iv, hk, hs, ht, e, h => by
    obtain ⟨e1, e2, h1, h2, h3⟩ := hs 0 e (Nat.succ_pos _) h
    obtain ⟨e', h4, h5⟩ := while_iter k fuel (fun i => Iv (i + 1)) (Nat.lt_of_succ_lt_succ hk) (fun i e hi q => hs (i + 1) e (Nat.succ_lt_succ hi) q) ht e2 h3
    exact ⟨e', by unfold whileF; rw [h1]; simp only [Out.bs_ok, if_true, h2]; exact h4, h5⟩

/-! ### comprehensions -/
theorem rest_set {e : Fr} {i : Nat} {o o' : Option Wd} (h : e[i]? = some o) : restE e (e.set i o') [i] = e := by
  apply List.ext_getElem?
  intro j
  unfold restE
  rw [List.getElem?_map]
  by_cases hj : j < e.length
  · rw [List.getElem?_range hj]
    simp only [Option.map_some]
    by_cases hi : j = i
    · subst hi
      rw [if_pos (List.mem_singleton.mpr rfl), h]; rfl
    · rw [if_neg (fun z => hi (List.mem_singleton.mp z)), List.getElem?_set_ne (Ne.symm hi), List.getElem?_eq_getElem hj]; rfl
  · rw [List.getElem?_eq_none (by simpa using hj), List.getElem?_eq_none (by simpa using hj)]; rfl
theorem set_get {e : Fr} {i : Nat} {o : Option Wd} (h : e[i]? = some o) (o' : Option Wd) : (e.set i o')[i]? = some o' := List.getElem?_set_self (List.getElem?_eq_some_iff.mp h).1
/-- [F(x) for x in ..], where F leaves the frame as it is -/
theorem lc_pure {α : Type} {enc : α → D} {i : Nat} {o : Option Wd} {fe : Fr → Out Wd} {e : Fr} (F : α → D) (hi : e[i]? = some o) : ∀ (xs : List α) (acc : List D), acc.length + xs.length ≤ 1000000 →
    (∀ x ∈ xs, fe (e.set i (some (.val (enc x)))) = .ok (.val (F x)) (e.set i (some (.val (enc x))))) → lcF (.nm i) sYes fe [i] (xs.map enc) acc e = .ok (.own false (acc ++ xs.map F)) e
  | [], acc, _, _ => by simp [lcF]
  | x :: xs, acc, hl, h => by
    have hp : Tg.put (.nm i) (enc x) (wipeE e [i]) = some (e.set i (some (.val (enc x)))) := by
      show (if free (e.set i none) i = true then some ((e.set i none).set i (some (.val (enc x)))) else none) = _
      have : free (e.set i none) i = true := by unfold free; rw [set_get hi]
      rw [if_pos this, List.set_set]
    rw [List.map_cons]
    unfold lcF
    rw [hp]
    simp only [sYes]
    rw [h x List.mem_cons_self]
    rw [List.length_cons] at hl
    simp only
    rw [if_pos (by omega), rest_set hi]
    rw [lc_pure F hi xs _ (by simp; omega) fun y hy => h y (List.mem_cons_of_mem _ hy)]
    simp [Wd.dat]
/-- the slot holds nothing of the frame's own -/
def plainO : Option Wd → Bool
  | some w => !w.mut
  | none => true
theorem lc_run {α : Type} {enc : α → D} {i : Nat} {o : Option Wd} {fi : Fr → Out (List D)} {fe : Fr → Out Wd} {e e1 : Fr} {xs : List α} (F : α → D) (hf : fi e = .ok (xs.map enc) e1) (hi : e1[i]? = some o) (ho : plainO o = true) (hl : xs.length ≤ 1000000)
    (h : ∀ x ∈ xs, fe (e1.set i (some (.val (enc x)))) = .ok (.val (F x)) (e1.set i (some (.val (enc x))))) : sLc (.nm i) fi sYes fe [i] e = .ok (.own false (xs.map F)) e1 := by
  unfold sLc
  rw [hf]
  simp only [Out.bind_ok]
  have hc : cleanE e1 [i] = true := by
    unfold cleanE
    rw [List.all_cons, List.all_nil, hi]
    cases o with
    | none => rfl
    | some w => unfold plainO at ho; simp at ho; simp [ho]
  rw [if_pos ⟨hc, by simp [Tg.sl]⟩]
  rw [lc_pure F hi xs [] (by simpa using hl) h]
  simp
end Fd

/-! Places and parts of lists; comprehensions with any target. -/
namespace Fd
open PySem
theorem atI_pos {α : Type} {xs : List α} {i : Int} (h0 : 0 ≤ i) (h1 : i.toNat < xs.length) : L2.atI xs i = some (xs[i.toNat]) := by
  unfold L2.atI L2.ixN
  rw [if_pos h0, if_pos (by omega)]
  simp [h1]
theorem atI_neg {α : Type} {xs : List α} {i : Int} {j : Nat} (h0 : i < 0) (hj : i + (xs.length : Int) = j) (h1 : j < xs.length) : L2.atI xs i = some (xs[j]) := by
  unfold L2.atI L2.ixN
  rw [if_neg (by omega), if_pos (by omega)]
  have : (i + (xs.length : Int)).toNat = j := by omega
  simp [this, h1]
theorem ix_tup {ds : List D} {i : Int} {d : D} (h0 : 0 ≤ i) (h : ds[i.toNat]? = some d) : gIx [.tup ds, .int i] = some (.val d) := by
  obtain ⟨h1, h2⟩ := List.getElem?_eq_some_iff.mp h
  show (L2.atI ds i).map Wd.val = _
  rw [atI_pos h0 h1, h2]; rfl
theorem ix_lst {ds : List D} {i : Int} {d : D} (h0 : 0 ≤ i) (h : ds[i.toNat]? = some d) : gIx [.lst ds, .int i] = some (.val d) := by
  obtain ⟨h1, h2⟩ := List.getElem?_eq_some_iff.mp h
  show (L2.atI ds i).map Wd.val = _
  rw [atI_pos h0 h1, h2]; rfl
theorem ix_last {ds : List D} {d : D} : gIx [.lst (ds ++ [d]), .int (-1)] = some (.val d) := by
  show (L2.atI (ds ++ [d]) (-1)).map Wd.val = _
  rw [atI_neg (j := ds.length) (by decide) (by simp; omega) (by simp)]
  simp
theorem sl_cut (xs : List D) (lo hi : Option Int) : gSl.cutV2 xs lo hi = (xs.drop (HT.sIx xs.length 0 lo)).take (HT.sIx xs.length xs.length hi - HT.sIx xs.length 0 lo) := rfl
theorem cut_to {xs : List D} {i : Int} (h : 0 ≤ i) : gSl.cutV2 xs none (some i) = xs.take i.toNat := by
  rw [sl_cut]
  show (xs.drop 0).take ((if i < 0 then _ else min i.toNat xs.length) - 0) = _
  rw [if_neg (by omega), List.drop_zero, Nat.sub_zero]
  rw [List.take_eq_take_iff]
  omega
theorem cut_from {xs : List D} {i : Int} (h : 0 ≤ i) : gSl.cutV2 xs (some i) none = xs.drop i.toNat := by
  rw [sl_cut]
  show (xs.drop (if i < 0 then _ else min i.toNat xs.length)).take (xs.length - (if i < 0 then _ else min i.toNat xs.length)) = _
  rw [if_neg (by omega)]
  rw [List.take_of_length_le (by rw [List.length_drop]; omega)]
  by_cases q : i.toNat ≤ xs.length
  · rw [Nat.min_eq_left q]
  · rw [Nat.min_eq_right (by omega), List.drop_length, List.drop_of_length_le (by omega)]
theorem sl_to {ds : List D} {i : Int} (h : 0 ≤ i) : gSl (.tup ds) none (some i) = some (.val (.tup (ds.take i.toNat))) := by
  show some (Wd.val (.tup (gSl.cutV2 ds none (some i)))) = _
  rw [cut_to h]
theorem sl_from {ds : List D} {i : Int} (h : 0 ≤ i) : gSl (.tup ds) (some i) none = some (.val (.tup (ds.drop i.toNat))) := by
  show some (Wd.val (.tup (gSl.cutV2 ds (some i) none))) = _
  rw [cut_from h]
theorem sl_toF {ds : List D} {i : Int} (h : 0 ≤ i) : gSl (.lsf ds) none (some i) = some (.own false (ds.take i.toNat)) := by
  show some (Wd.own false (gSl.cutV2 ds none (some i))) = _
  rw [cut_to h]
/-- a comprehension, its target and frame as they are; every item's turn leaves a frame that the wiping makes e again -/
theorem lc_gen {α : Type} {enc : α → D} {tg : Tg} {vs : List Nat} {ft : Fr → Out Bool} {fe : Fr → Out Wd} {e : Fr} (F : α → D) : ∀ (xs : List α) (acc : List D), acc.length + xs.length ≤ 1000000 →
    (∀ x ∈ xs, ∃ e1 e2 w, tg.put (enc x) (wipeE e vs) = some e1 ∧ ft e1 = .ok true e1 ∧ fe e1 = .ok w e2 ∧ w.dat = F x ∧ restE e e2 vs = e) → lcF tg ft fe vs (xs.map enc) acc e = .ok (.own false (acc ++ xs.map F)) e
  | [], acc, _, _ => by simp [lcF]
  | x :: xs, acc, hl, h => by
    obtain ⟨e1, e2, w, h1, h2, h3, h4, h5⟩ := h x List.mem_cons_self
    rw [List.map_cons]
    unfold lcF
    rw [h1]
    simp only [h2, h3]
    rw [List.length_cons] at hl
    rw [if_pos (by omega), h5, h4]
    rw [lc_gen F xs _ (by simp; omega) fun y hy => h y (List.mem_cons_of_mem _ hy)]
    simp
/-- a comprehension whose turns take the frame on -/
theorem lc_inv {α : Type} {enc : α → D} {i : Nat} {fe : Fr → Out Wd} : ∀ (xs : List α) (Iv : Nat → List D → Fr → Prop) (n : Nat) (acc : List D) (e : Fr), acc.length + xs.length ≤ 1000000 →
    (∀ k x acc e, xs[k]? = some x → Iv (n + k) acc e → ∃ e1 e3 w, Tg.put (.nm i) (enc x) (wipeE e [i]) = some e1 ∧ fe e1 = .ok w e3 ∧ Iv (n + k + 1) (acc ++ [w.dat]) (restE e e3 [i])) → Iv n acc e →
    ∃ acc' e', lcF (.nm i) sYes fe [i] (xs.map enc) acc e = .ok (.own false acc') e' ∧ Iv (n + xs.length) acc' e'
  | [], Iv, n, acc, e, _, _, h => ⟨acc, e, rfl, h⟩
  | x :: xs, Iv, n, acc, e, hl, hs, h => by
    obtain ⟨e1, e3, w, h1, h2, h3⟩ := hs 0 x acc e rfl h
    rw [List.length_cons] at hl
    obtain ⟨acc', e', h4, h5⟩ := lc_inv xs Iv (n + 1) (acc ++ [w.dat]) (restE e e3 [i]) (by simp; omega) (fun k y a e z q => by
      have := hs (k + 1) y a e (by simpa using z) (by rw [show n + (k + 1) = n + 1 + k by omega]; exact q)
      rwa [show n + (k + 1) = n + 1 + k by omega] at this) h3
    refine ⟨acc', e', ?_, by rw [List.length_cons, show n + (xs.length + 1) = n + 1 + xs.length by omega]; exact h5⟩
    rw [List.map_cons]
    unfold lcF
    rw [h1]
    simp only [sYes, h2]
    rw [if_pos (by omega)]
    exact h4
theorem zip_ints : ∀ w v : List Int, zipD (w.map D.int) (v.map D.int) = (w.zip v).map fun p => .tup [.int p.1, .int p.2]
  | [], _ => rfl
  | _ :: _, [] => rfl
  | a :: w, b :: v => by
    show D.tup [.int a, .int b] :: zipD (w.map D.int) (v.map D.int) = _
    rw [zip_ints w v]; rfl
def unI : D → Int
  | .int i => i
  | _ => 0
theorem ints_of : ∀ {ds : List D}, (∀ d ∈ ds, dInt d = true) → (ds.map unI).map D.int = ds
  | [], _ => rfl
  | d :: ds, h => by
    have h1 := h d List.mem_cons_self
    have := ints_of (ds := ds) fun x hx => h x (List.mem_cons_of_mem _ hx)
    cases d with
    | int i => show D.int i :: (ds.map unI).map D.int = _; rw [this]
    | _ => cases h1
theorem plain_cases {o : Option Wd} (h : plainO o = true) : o = none ∨ ∃ d, o = some (.val d) := by
  cases o with
  | none => exact .inl rfl
  | some u => cases u with
    | val d => exact .inr ⟨d, rfl⟩
    | _ => cases h
theorem put_nm {i : Nat} {o : Option Wd} {d : D} {e : Fr} (hi : e[i]? = some o) (ho : plainO o = true) : Tg.put (.nm i) d e = some (e.set i (some (.val d))) := by
  show (if free e i = true then some (e.set i (some (.val d))) else none) = _
  rw [if_pos]
  unfold free
  rw [hi]
  rcases plain_cases ho with rfl | ⟨d, rfl⟩ <;> rfl
theorem put_tp2 {i j : Nat} {o o' : Option Wd} {a b : D} {e : Fr} (hi : e[i]? = some o) (ho : plainO o = true) (hj : (e.set i (some (.val a)))[j]? = some o') (ho' : plainO o' = true) : Tg.put (.tp [.nm i, .nm j]) (.tup [a, b]) e = some ((e.set i (some (.val a))).set j (some (.val b))) := by
  show (Tg.put (.nm i) a e).bind (fun e1 => (Tg.put (.nm j) b e1).bind fun e2 => some e2) = _
  rw [put_nm hi ho]
  show (Tg.put (.nm j) b _).bind (fun e2 => some e2) = _
  rw [put_nm hj ho']
  rfl
def ab (i : Int) : Int := if i < 0 then -i else i
theorem add_tup {a b : List D} (h : a.length + b.length ≤ 16000000) : gAdd [.tup a, .tup b] = some (.val (.tup (a ++ b))) := by
  show (if a.length + b.length ≤ 16777216 then some (Wd.val (.tup (a ++ b))) else none) = _
  rw [if_pos (by omega)]
theorem add_lst {a b : List D} (h : a.length + b.length ≤ 16000000) : gAdd [.lst a, .lst b] = some (.own false (a ++ b)) := by
  show (if a.length + b.length ≤ 16777216 then some (Wd.own false (a ++ b)) else none) = _
  rw [if_pos (by omega)]
theorem mul_tup {a : List D} {b : Int} (h : a.length ≤ 1000) (h1 : -1000 ≤ b) (h2 : b ≤ 1000) : gMul4 [.tup a, .int b] = some (.val (.tup (List.replicate b.toNat a).flatten)) := by
  show (if a.length ≤ 1000 ∧ -1000 ≤ b ∧ b ≤ 1000 then some (Wd.val (.tup (List.replicate b.toNat a).flatten)) else none) = _
  rw [if_pos ⟨h, h1, h2⟩]
theorem add_int (a b : Int) : gAdd [.int a, .int b] = some (.val (.int (a + b))) := rfl
theorem abs_int (i : Int) : gAbs [.int i] = some (.val (.int (ab i))) := rfl
theorem range_map (n : Nat) : rangeD 0 n = (List.range n).map fun k => .int (k : Int) := by
  unfold rangeD
  apply List.map_congr_left
  intro k _
  rw [Int.zero_add]
end Fd

/-! Comprehensions with two for-clauses. -/
namespace Fd
open PySem PySem.Spec PyProof.Rows L2
def lcI (tg : Tg) (ft : Fr → Out Bool) (fe : Fr → Out Wd) (vs : List Nat) : List D → List D → Fr → Option (List D × Fr)
  | [], acc, e => some (acc, e)
  | d :: ds, acc, e => match tg.put d (wipeE e vs) with
    | none => none
    | some e1 => match ft e1 with
      | .ok true e2 => match fe e2 with
        | .ok w e3 => if acc.length < 1000000 then lcI tg ft fe vs ds (acc ++ [w.dat]) (restE e e3 vs) else none
        | _ => none
      | .ok false e2 => lcI tg ft fe vs ds acc (restE e e2 vs)
      | _ => none
def lcF2 (tg : Tg) (ft : Fr → Out Bool) (tg1 : Tg) (fi1 : Fr → Out (List D)) (ft1 : Fr → Out Bool) (fe : Fr → Out Wd) (vs vs1 : List Nat) : List D → List D → Fr → Out Wd
  | [], acc, e => .ok (.own false acc) e
  | d :: ds, acc, e => match tg.put d (wipeE e vs) with
    | none => .bad
    | some e1 => match ft e1 with
      | .ok true e2 => match fi1 e2 with
        | .ok items e3 => if cleanE e3 vs1 = true then (match lcI tg1 ft1 fe vs1 items acc e3 with
            | some r => lcF2 tg ft tg1 fi1 ft1 fe vs vs1 ds r.1 (restE e r.2 vs)
            | none => .bad) else .bad
        | _ => .bad
      | .ok false e2 => lcF2 tg ft tg1 fi1 ft1 fe vs vs1 ds acc (restE e e2 vs)
      | _ => .bad
def sLc2 (tg : Tg) (fi : Fr → Out (List D)) (ft : Fr → Out Bool) (tg1 : Tg) (fi1 : Fr → Out (List D)) (ft1 : Fr → Out Bool) (fe : Fr → Out Wd) (vs vs1 : List Nat) : Fr → Out Wd := fun e => (fi e).bind fun items e1 =>
  if cleanE e1 vs = true ∧ (∀ j ∈ tg.sl, j ∈ vs) ∧ (∀ j ∈ tg1.sl, j ∈ vs1) ∧ (∀ j ∈ vs1, j ∈ vs) then lcF2 tg ft tg1 fi1 ft1 fe vs vs1 items [] e1 else .bad
section
variable {K : PySem.W.Frag} {mg : Str → Option Value} {W : WX} {G H G' H' G2 H2 G0 H0 : Hp} {e e' e2 e0 : Fr} {σ σ' σ2 σ0 : St}
theorem Go.wipe {vs : List Nat} (r : Rel K G e σ H) (hc : cleanE e vs = true) : Go K e σ H G (wipeE e vs) (L2.wipe σ vs) H G := by
  obtain ⟨rw', ow⟩ := r.wiped (vs := vs)
  refine ⟨rw', fun _ _ h _ => h, Le.refl _, fun a o => .inl (ow a o), fun _ _ h => .inl h, fun i w h1 h2 => ?_, wipe_length _ _⟩
  have hm : i ∉ vs := fun z => by
    have nm := cleanE_of hc z h1
    cases w <;> first | (cases nm; done) | (cases h2; done)
  exact ⟨wipe_out hm, w, by rw [wipeE_get hm]; exact h1, h2⟩
theorem Go.unwiped2 {vs : List Nat} {e3 : Fr} {σ3 : St} (g1 : Go K e0 σ0 H0 G0 e σ H G) (hc : cleanE e vs = true) (go : Go K e0 σ0 H0 G0 e3 σ3 H' G') (le : Le G G') (hw : L2.wipe σ3 vs = L2.wipe σ vs) :
    Go K e0 σ0 H0 G0 (restE e e3 vs) σ H' G' ∧ cleanE (restE e e3 vs) vs = true := by
  have r := g1.rel
  have l3 : e3.length = e.length := by rw [go.rel.len, go.slen, r.len, g1.slen]
  have out : ∀ {i : Nat}, i ∉ vs → σ3[i]? = σ[i]? := fun h => wipe_out2 hw h
  have own3 : ∀ a, OwnA (restE e e3 vs) σ a → OwnA e3 σ3 a := fun a o => by
    obtain ⟨i, w, h1, h2, h3⟩ := o
    rcases restE_get l3 h1 with ⟨hm, z⟩ | ⟨hm, z⟩
    · rw [cleanE_of hc hm z] at h2; cases h2
    · exact ⟨i, w, z, h2, by rw [out hm]; exact h3⟩
  refine ⟨⟨⟨go.rel.le, by rw [restE_len]; exact r.len, fun i w h => ?_, fun i j w w' a h1 h2 m1 m2 s1 s2 => ?_⟩, go.keep, go.grow, fun a o => go.own a (own3 a o), go.gnew, fun i w h1 h2 => ?_, g1.slen⟩, ?_⟩
  · rcases restE_get l3 h with ⟨hm, z⟩ | ⟨hm, z⟩
    · obtain ⟨v, hv, q⟩ := r.at_ i w z
      have nm := cleanE_of hc hm z
      cases w with
      | val d => exact ⟨v, hv, Dn.mono le q⟩
      | _ => cases nm
    · obtain ⟨v, hv, q⟩ := go.rel.at_ i w z
      exact ⟨v, by rw [← out hm]; exact hv, q⟩
  · rcases restE_get l3 h1 with ⟨hm, z⟩ | ⟨hm, z⟩
    · rw [cleanE_of hc hm z] at m1; cases m1
    rcases restE_get l3 h2 with ⟨hk, z2⟩ | ⟨hk, z2⟩
    · rw [cleanE_of hc hk z2] at m2; cases m2
    exact go.rel.ap i j w w' a z z2 m1 m2 (by rw [out hm]; exact s1) (by rw [out hk]; exact s2)
  · obtain ⟨s1, w1, h3, h4⟩ := g1.lent i w h1 h2
    obtain ⟨_, w', h5, h6⟩ := go.lent i w h1 h2
    have hm : i ∉ vs := fun z => by
      have nm := cleanE_of hc z h3
      cases w1 <;> first | (cases nm; done) | (cases h4; done)
    have hi : i < e.length := (List.getElem?_eq_some_iff.mp h3).1
    refine ⟨s1, w', ?_, h6⟩
    unfold restE
    rw [List.getElem?_map, List.getElem?_range hi]
    show some (if i ∈ vs then (e[i]?).getD none else (e3[i]?).getD none) = _
    rw [if_neg hm, h5]; rfl
  · unfold cleanE
    refine List.all_eq_true.mpr fun i hi => ?_
    have hlt : i < e.length := by
      have h0 := List.all_eq_true.mp (show (vs.all _) = true from hc) i hi
      cases q : e[i]? with
      | none => rw [q] at h0; cases h0
      | some o => exact (List.getElem?_eq_some_iff.mp q).1
    have eq : (restE e e3 vs)[i]? = e[i]? := by
      unfold restE
      rw [List.getElem?_map, List.getElem?_range hlt]
      show some (if i ∈ vs then (e[i]?).getD none else (e3[i]?).getD none) = _
      rw [if_pos hi, List.getElem?_eq_getElem hlt]; rfl
    rw [eq]
    exact List.all_eq_true.mp (show (vs.all _) = true from hc) i hi
/-- a new address beside the frame's own and the frozen -/
structure Apart (G H : Hp) (e : Fr) (σ : St) (a : Addr) (acc : List V) : Prop where
  at_ : H a = some (.lst acc)
  free : G a = none
  own : ¬ OwnA e σ a
theorem Apart.go {a : Addr} {acc : List V} (h : Apart G H e σ a acc) (g : Go K e σ H G e' σ' H' G') : Apart G' H' e' σ' a acc := by
  refine ⟨g.keep a _ h.at_ h.own, ?_, fun o => ?_⟩
  · cases z : G' a with
    | none => rfl
    | some u =>
      rcases g.gnew a u z with q | q | q
      · rw [h.free] at q; cases q
      · exact absurd q h.own
      · rw [h.at_] at q; cases q
  · rcases g.own a o with q | q
    · exact h.own q
    · rw [h.at_] at q; cases q
theorem Apart.nw {a : Addr} {acc : List V} (h : Apart G H e σ a acc) (n : Nw G H G' H') : Apart G' H' e σ a acc := by
  refine ⟨n.le _ _ h.at_, ?_, h.own⟩
  cases z : G' a with
  | none => rfl
  | some u =>
    rcases n.new a u z with q | q
    · rw [h.free] at q; cases q
    · rw [h.at_] at q; cases q
theorem Apart.rest {vs : List Nat} {e3 : Fr} {σ3 : St} {a : Addr} {acc : List V} (h : Apart G H e3 σ3 a acc) (hc : cleanE e vs = true) (l3 : e3.length = e.length) (hw : L2.wipe σ3 vs = L2.wipe σ vs) : Apart G H (restE e e3 vs) σ a acc := by
  refine ⟨h.at_, h.free, fun o => h.own ?_⟩
  obtain ⟨i, w, h1, h2, h3⟩ := o
  rcases restE_get l3 h1 with ⟨hm, z⟩ | ⟨hm, z⟩
  · rw [cleanE_of hc hm z] at h2; cases h2
  · exact ⟨i, w, z, h2, by rw [wipe_out2 hw hm]; exact h3⟩
theorem lc_inner {t : TG} {tg : Tg} {tt : TT} {ft : Fr → Out Bool} {te : TE} {fe : Fr → Out Wd} {vs : List Nat} {J : It} {items : List D} {a : Addr} {Nx : Hp → Prop} {accF : List D} {eF : Fr} {e1 : Fr} {acc0 : List V} {accD0 : List D}
    (hg : GSem K t tg) (ht : TSem K mg (fun _ _ _ _ => False) tt ft) (he : ESem K mg (fun _ _ _ _ => False) te fe) (hsl : ∀ j ∈ tg.sl, j ∈ vs) (h0 : H0 a = none)
    (go : Go K e0 σ0 H0 G0 e1 σ H G) (it : ItSem K J items G) (hc : cleanE e1 vs = true) (ap : Apart G H e1 σ a acc0) (da : DnA K G acc0 accD0) (hF : lcI tg ft fe vs items accD0 e1 = some (accF, eF))
    (fin : ∀ H' G' acc', Go K e0 σ0 H0 G0 eF σ H' G' → Le G G' → Apart G' H' eF σ a acc' → DnA K G' acc' accF → Nx H') :
    ∃ W1 : Nat → Nat → Hp → Prop, (∃ m, W1 0 m H) ∧ ∀ j k H, W1 j k H → (J.stop j H ∧ Nx H) ∨ (J.go j H ∧ ∃ Nx1 : Hp → Prop, (∀ H', Nx1 H' → ∃ k', k' < k ∧ W1 (j + 1) k' H') ∧ ∀ x H', J.yld j H x H' → t x (L2.wipe σ vs) H' fun σ3 H5 => L2.wipe σ3 vs = L2.wipe σ vs ∧
      tt σ3 H5 fun b H6 => if b = true then te σ3 H6 fun y H7 => ∃ acc, H7 a = some (.lst acc) ∧ acc.length < sizeLine ∧ Nx1 (upd H7 a (.lst (acc ++ [y]))) else Nx1 H6) := by
  refine ⟨fun i m H' => m = items.length - i ∧ i ≤ items.length ∧ ∃ e' G' acc accD, Go K e0 σ0 H0 G0 e' σ H' G' ∧ Le G G' ∧ cleanE e' vs = true ∧ Apart G' H' e' σ a acc ∧ DnA K G' acc accD ∧ lcI tg ft fe vs (items.drop i) accD e' = some (accF, eF),
    ⟨_, rfl, Nat.zero_le _, e1, G, acc0, accD0, go, Le.refl _, hc, ap, da, hF⟩, ?_⟩
  rintro i m H' ⟨rfl, hi, e', G', acc, accD, g1, lg, hc1, ap1, da1, p1⟩
  by_cases hlt : i < items.length
  · have hd : items[i]? = some items[i] := List.getElem?_eq_getElem hlt
    have dr : items.drop i = items[i] :: items.drop (i + 1) := List.drop_eq_getElem_cons hlt
    obtain ⟨hgo, hy⟩ := (it i H' G' lg g1.rel.le).1 _ hd
    refine .inr ⟨hgo, fun H3 => ∃ e3 G3 acc3 accD3, Go K e0 σ0 H0 G0 e3 σ H3 G3 ∧ Le G G3 ∧ cleanE e3 vs = true ∧ Apart G3 H3 e3 σ a acc3 ∧ DnA K G3 acc3 accD3 ∧ lcI tg ft fe vs (items.drop (i + 1)) accD3 e3 = some (accF, eF),
      fun H3 ⟨e3, G3, acc3, accD3, h⟩ => ⟨items.length - (i + 1), by omega, rfl, hlt, e3, G3, acc3, accD3, h⟩, fun x H2 yx => ?_⟩
    obtain ⟨G2, nw, dx⟩ := hy x H2 yx
    have gl := g1.rel.later nw
    have gw := Go.wipe gl.rel hc1
    rw [dr] at p1
    unfold lcI at p1
    cases qp : tg.put items[i] (wipeE e' vs) with
    | none => simp only [qp] at p1; cases p1
    | some e3 =>
      simp only [qp] at p1
      refine hg _ _ H2 G2 x _ e3 _ gw.rel dx qp fun σ3 go3 b3 => ?_
      have wq : L2.wipe σ3 vs = L2.wipe σ vs := by
        refine wipe_eq (by rw [go3.slen, wipe_length]) fun j hj => ?_
        rw [b3 j (fun z => hj (hsl j z)), wipe_out hj]
      refine ⟨wq, ?_⟩
      refine ht e3 σ3 H2 G2 _ go3.rel ?_
      have glo := g1.trans gl
      have base := (glo.trans gw).trans go3
      have ap2 := ((ap1.nw nw).go gw).go go3
      cases qt : ft e3 with
      | bad => simp only [qt] at p1; cases p1
      | ex x e4 => simp only [qt] at p1; cases p1
      | ok b e4 =>
        intro H4 G4 go4
        have g34 := base.trans go4
        have lg4 : Le G2 G4 := (gw.grow.trans go3.grow).trans go4.grow
        cases b with
        | false =>
          rw [if_neg Bool.false_ne_true]
          simp only [qt] at p1
          obtain ⟨gu, hcu⟩ := Go.unwiped2 glo hc1 g34 lg4 wq
          have ap4 := (ap2.go go4).rest hc1 (by rw [go4.rel.len, go4.slen, go3.slen, wipe_length, g1.rel.len]) wq
          exact ⟨_, G4, acc, accD, gu, (lg.trans nw.grow).trans lg4, hcu, ap4, (da1.mono nw.grow).mono lg4, p1⟩
        | true =>
          rw [if_pos rfl]
          simp only [qt] at p1
          refine he e4 σ3 H4 G4 _ go4.rel ?_
          cases qe : fe e4 with
          | bad => simp only [qe] at p1; cases p1
          | ex x e5 => simp only [qe] at p1; cases p1
          | ok w e5 =>
            simp only [qe] at p1
            intro v H5 G5 go5 ra
            obtain ⟨G6, r6, l6, d6, n6⟩ := freeze go5.rel ra.1 fun m b eb => (ra.2 m b eb).1
            have go6 : Go K e4 σ3 H4 G4 e5 σ3 H5 G6 := ⟨r6, go5.keep, go5.grow.trans l6, go5.own, fun b o hb => by
              rcases n6 b o hb with z | ⟨m, eb⟩
              · exact go5.gnew b o z
              · exact .inr (ra.2 m b eb).2, go5.lent, go5.slen⟩
            have lg6 : Le G2 G6 := lg4.trans go6.grow
            obtain ⟨gu, hcu⟩ := Go.unwiped2 glo hc1 (g34.trans go6) lg6 wq
            have ap6 := ((ap2.go go4).go go6).rest hc1 (by rw [go6.rel.len, go6.slen, go4.slen, go3.slen, wipe_length, g1.rel.len]) wq
            by_cases hl : accD.length < 1000000
            · rw [if_pos hl] at p1
              refine ⟨acc, ap6.at_, by rw [da1.length]; exact Nat.lt_of_lt_of_le hl (by rw [sizeLine_eq]; decide), _, G6, acc ++ [v], accD ++ [w.dat], gu.poke h0 ap6.free ap6.own, (lg.trans nw.grow).trans lg6, hcu, ⟨upd_same, ap6.free, ap6.own⟩, ?_, p1⟩
              exact ((da1.mono nw.grow).mono lg6).append (.cons d6 .nil)
            · rw [if_neg hl] at p1; cases p1
  · have dr : items.drop i = [] := List.drop_eq_nil_of_le (by omega)
    rw [dr] at p1
    cases p1
    exact .inl ⟨(it i H' G' lg g1.rel.le).2 (by omega), fin H' G' acc g1 lg ap1 da1⟩
theorem esem_lc2 {wi wi1 : TI} {fi fi1 : Fr → Out (List D)} {t t1 : TG} {tg tg1 : Tg} {tt tt1 : TT} {ft ft1 : Fr → Out Bool} {te : TE} {fe : Fr → Out Wd} {vs vs1 : List Nat} (hi : ISem K mg W wi fi) (hg : GSem K t tg) (ht : TSem K mg (fun _ _ _ _ => False) tt ft)
    (hi1 : ISem K mg (fun _ _ _ _ => False) wi1 fi1) (hg1 : GSem K t1 tg1) (ht1 : TSem K mg (fun _ _ _ _ => False) tt1 ft1) (he : ESem K mg (fun _ _ _ _ => False) te fe) :
    ESem K mg W (tLc2 wi t tt wi1 t1 tt1 te vs vs1) (sLc2 tg fi ft tg1 fi1 ft1 fe vs vs1) := by
  intro e σ H G Q r p
  refine hi e σ H G _ r ?_
  unfold sLc2 at p
  cases q : fi e with
  | bad => rw [q] at p; exact p
  | ex x e1 => rw [q] at p; exact p
  | ok items e1 =>
    rw [q] at p
    simp only [Out.bind_ok] at p
    intro J H1 G1 go it a ha
    by_cases hcl : cleanE e1 vs = true ∧ (∀ j ∈ tg.sl, j ∈ vs) ∧ (∀ j ∈ tg1.sl, j ∈ vs1) ∧ (∀ j ∈ vs1, j ∈ vs)
    · rw [if_pos hcl] at p
      obtain ⟨hc, hsl, hsl1, hsub⟩ := hcl
      have ga : G1 a = none := by
        cases z : G1 a with
        | none => rfl
        | some u => rw [go.rel.le a u z] at ha; cases ha
      have na : ¬ OwnA e1 σ a := fresh_not_own go.rel ha
      refine ⟨fun i m H' => m = items.length - i ∧ i ≤ items.length ∧ ∃ e' G' acc accD, Go K e1 σ H1 G1 e' σ H' G' ∧ cleanE e' vs = true ∧ Apart G' H' e' σ a acc ∧ DnA K G' acc accD ∧
          EPost K mg W e σ H G (lcF2 tg ft tg1 fi1 ft1 fe vs vs1 (items.drop i) accD e') Q, ⟨_, rfl, Nat.zero_le _, e1, G1, [], [], (Go.refl go.rel).poke ha ga na, hc, ⟨upd_same, ga, na⟩, .nil, p⟩, ?_⟩
      rintro i m H' ⟨rfl, hi, e', G', acc, accD, g1, hc1, ap1, da1, p1⟩
      by_cases hlt : i < items.length
      · have hd : items[i]? = some items[i] := List.getElem?_eq_getElem hlt
        have dr : items.drop i = items[i] :: items.drop (i + 1) := List.drop_eq_getElem_cons hlt
        obtain ⟨hgo, hy⟩ := (it i H' G' g1.grow g1.rel.le).1 _ hd
        refine .inr ⟨hgo, fun H3 => ∃ e3 G3 acc3 accD3, Go K e1 σ H1 G1 e3 σ H3 G3 ∧ cleanE e3 vs = true ∧ Apart G3 H3 e3 σ a acc3 ∧ DnA K G3 acc3 accD3 ∧
            EPost K mg W e σ H G (lcF2 tg ft tg1 fi1 ft1 fe vs vs1 (items.drop (i + 1)) accD3 e3) Q, fun H3 ⟨e3, G3, acc3, accD3, h⟩ => ⟨items.length - (i + 1), by omega, rfl, hlt, e3, G3, acc3, accD3, h⟩, fun x H2 yx => ?_⟩
        obtain ⟨G2, nw, dx⟩ := hy x H2 yx
        have gl := g1.rel.later nw
        have gw := Go.wipe gl.rel hc1
        rw [dr] at p1
        unfold lcF2 at p1
        cases qp : tg.put items[i] (wipeE e' vs) with
        | none => simp only [qp] at p1; exact False.elim p1
        | some e3 =>
          simp only [qp] at p1
          refine hg _ _ H2 G2 x _ e3 _ gw.rel dx qp fun σ3 go3 b3 => ?_
          have wq : L2.wipe σ3 vs = L2.wipe σ vs := by
            refine wipe_eq (by rw [go3.slen, wipe_length]) fun j hj => ?_
            rw [b3 j (fun z => hj (hsl j z)), wipe_out hj]
          refine ⟨wq, ?_⟩
          refine ht e3 σ3 H2 G2 _ go3.rel ?_
          have glo := g1.trans gl
          have base := (glo.trans gw).trans go3
          have ap2 := ((ap1.nw nw).go gw).go go3
          cases qt : ft e3 with
          | bad => simp only [qt] at p1; exact False.elim p1
          | ex x e4 => simp only [qt] at p1; exact False.elim p1
          | ok b e4 =>
            intro H4 G4 go4
            have g34 := base.trans go4
            have lg4 : Le G2 G4 := (gw.grow.trans go3.grow).trans go4.grow
            have le4 : e4.length = e'.length := by rw [go4.rel.len, go4.slen, go3.slen, wipe_length, g1.rel.len]
            cases b with
            | false =>
              rw [if_neg Bool.false_ne_true]
              simp only [qt] at p1
              obtain ⟨gu, hcu⟩ := Go.unwiped2 glo hc1 g34 lg4 wq
              exact ⟨_, G4, acc, accD, gu, hcu, (ap2.go go4).rest hc1 le4 wq, (da1.mono nw.grow).mono lg4, p1⟩
            | true =>
              rw [if_pos rfl]
              simp only [qt] at p1
              refine hi1 e4 σ3 H4 G4 _ go4.rel ?_
              cases q1 : fi1 e4 with
              | bad => simp only [q1] at p1; exact False.elim p1
              | ex x e5 => simp only [q1] at p1; exact False.elim p1
              | ok items1 e5 =>
                simp only [q1] at p1
                intro J1 H5 G5 go5 it1
                by_cases hc5 : cleanE e5 vs1 = true
                · rw [if_pos hc5] at p1
                  cases qI : lcI tg1 ft1 fe vs1 items1 accD e5 with
                  | none => simp only [qI] at p1; exact False.elim p1
                  | some rr =>
                    obtain ⟨accF, eF⟩ := rr
                    simp only [qI] at p1
                    have lg5 : Le G2 G5 := lg4.trans go5.grow
                    refine lc_inner (acc0 := acc) hg1 ht1 he hsl1 ha (g34.trans go5) it1 hc5 ((ap2.go go4).go go5) ((da1.mono nw.grow).mono lg5) qI fun H6 G6 acc6 g6 l6 ap6 d6 => ?_
                    obtain ⟨gu, hcu⟩ := Go.unwiped2 glo hc1 g6 (lg5.trans l6) wq
                    have le6 : eF.length = e'.length := by rw [g6.rel.len, go3.slen, wipe_length, g1.rel.len]
                    exact ⟨_, G6, acc6, accF, gu, hcu, ap6.rest hc1 le6 wq, d6, p1⟩
                · rw [if_neg hc5] at p1; exact False.elim p1
      · have dr : items.drop i = [] := List.drop_eq_nil_of_le (by omega)
        rw [dr] at p1
        refine .inl ⟨(it i H' G' g1.grow g1.rel.le).2 (by omega), ?_⟩
        refine p1 _ H' G' (go.trans g1) (RAt.trans go ⟨⟨a, acc, rfl, ap1.at_, ap1.free, da1⟩, fun _ b eb => ?_⟩)
        cases eb
        exact ⟨ap1.own, .inr ha⟩
    · rw [if_neg hcl] at p; exact False.elim p
end
section
variable {X : Cx} {W : WX}
theorem di_unif {ι : Type} {Xf : ι → Cx} {K : PySem.W.Frag} {mg : Str → Option Value} {tg ex : Expr} {f : Fr → Out (List D)} (hK : ∀ i, (Xf i).K = K) (hm : ∀ i, (Xf i).mg = mg) (h : ∀ i, DI (Xf i) W tg ex f) : ∃ t : TI, (∀ i, PI (Xf i) tg ex t) ∧ ISem K mg W t f := by
  refine ⟨fun σ H Q => ∀ i, (Classical.choose (h i)) σ H Q, fun i => ⟨fun pins s σ H Q I q => (Classical.choose_spec (h i)).1.run pins s σ H Q I (q i)⟩, fun e σ H G Q r p i => ?_⟩
  have q := (Classical.choose_spec (h i)).2
  revert q
  generalize Classical.choose (h i) = t
  intro q
  rw [hK i, hm i] at q
  exact q e σ H G Q r p
theorem de_lc2 {elt tg iter tg1 iter1 : Expr} {scope : Scope} {own : List (Str × Nat)} {vs1 : List Nat} {pos : Pos} {g g1 : Tg} {fi fi1 : Fr → Out (List D)} {fe : Fr → Out Wd} (hc : X.calm = true) (hN : X.N.Nodup) (hi : DI X W tg iter fi) (ok : BlkOk X.N X.env.scope scope own) (hv : ∀ i ∈ vs1, i ∈ own.map (·.2))
    (hg : ∀ i, DG (blkAt X scope i) tg g) (hi1 : ∀ i, DI (blkAt X scope i) W0 tg1 iter1 fi1) (hg1 : ∀ i, DG (blkAt X scope i) tg1 g1) (he : ∀ i, DE (blkAt X scope i) W0 elt fe) (hs : ∀ x, foldedSetIterable iter X.env x = pure x := by intro _; rfl)
    (hs1 : ∀ env x, foldedSetIterable iter1 env x = pure x := by intro _ _; rfl) : DE X W (.ListComp elt [⟨tg, iter, [], 0⟩, ⟨tg1, iter1, [], 0⟩] scope pos) (sLc2 g fi sYes g1 fi1 sYes fe (own.map (·.2)) vs1) := by
  haveI : Nonempty BlkIx := ⟨(X.s_0, X.H_0, 0, [], [])⟩
  obtain ⟨wi, p, s⟩ := hi
  obtain ⟨t1, p1, s1⟩ := dg_unif (Xf := blkAt X scope) (fun _ => rfl) hg
  obtain ⟨t2, p2, s2⟩ := de_unif (Xf := blkAt X scope) (fun _ => rfl) (fun _ => rfl) he
  obtain ⟨t3, p3, s3⟩ := dg_unif (Xf := blkAt X scope) (fun _ => rfl) hg1
  obtain ⟨t4, p4, s4⟩ := di_unif (Xf := blkAt X scope) (fun _ => rfl) (fun _ => rfl) hi1
  exact ⟨_, pe_lc2 (tt := tYes) (tt1 := tYes) hc hN p ok hv (fun a b c d f => p1 (a, b, c, d, f)) (fun _ _ _ _ _ => pts_nil) (fun a b c d f => p4 (a, b, c, d, f)) (fun a b c d f => p3 (a, b, c, d, f)) (fun _ _ _ _ _ => pts_nil) (fun a b c d f => p2 (a, b, c, d, f)) hs hs1, esem_lc2 s s1 tsem_yes s4 s3 tsem_yes s2⟩
end
end Fd

/-! Dicts by ints and texts: display, place, in; repr of small values. -/
namespace Fd
open PySem PySem.Spec PyProof.Rows L2
def valD (kvs : List (Key × D)) (k : Key) : Option D := (kvs.find? fun kv => decide (kv.1 = k)).map (·.2)
def putD (kvs : List (Key × D)) (k : Key) (v : D) : List (Key × D) :=
  if (kvs.any fun kv => decide (kv.1 = k)) = true then kvs.map (fun kv => if kv.1 = k then (kv.1, v) else kv) else kvs ++ [(k, v)]
def mergeD (kvs more : List (Key × D)) : List (Key × D) := more.foldl (fun acc kv => putD acc kv.1 kv.2) kvs
def keyD : D → Option Key
  | .int i => some (.inl i)
  | .str s => some (.inr s)
  | _ => none
section
variable {K : PySem.W.Frag} {mg : Str → Option Value} {W : WX} {G H G' H' G2 H2 : Hp} {e e' e2 : Fr} {σ σ' σ2 : St}
theorem dnk_len {xs : List (Key × V)} {ds : List (Key × D)} : DnK K G xs ds → xs.length = ds.length
  | .nil => rfl
  | .cons _ r => by simp [dnk_len r]
theorem dnk_val {k : Key} : ∀ {xs : List (Key × V)} {ds : List (Key × D)}, DnK K G xs ds → (match valD ds k with | some d => ∃ v, valV xs k = some v ∧ Dn K G v d | none => valV xs k = none)
  | _, _, .nil => rfl
  | (k1, v) :: xs, (_, d) :: ds, .cons h r => by
    have ih := dnk_val (k := k) r
    by_cases q : k1 = k
    · have e1 : valD ((k1, d) :: ds) k = some d := by simp [valD, q]
      have e2 : valV ((k1, v) :: xs) k = some v := valV_pos (p := (k1, v)) q
      rw [e1]; exact ⟨v, e2, h⟩
    · have e1 : valD ((k1, d) :: ds) k = valD ds k := by simp [valD, q]
      have e2 : valV ((k1, v) :: xs) k = valV xs k := valV_neg (p := (k1, v)) q
      rw [e1, e2]; exact ih
theorem dnk_any {k : Key} : ∀ {xs : List (Key × V)} {ds : List (Key × D)}, DnK K G xs ds → (xs.any fun kv => decide (kv.1 = k)) = (ds.any fun kv => decide (kv.1 = k))
  | _, _, .nil => rfl
  | _, _, .cons _ r => by simp only [List.any_cons]; rw [dnk_any r]
theorem dnk_app : ∀ {xs ys : List (Key × V)} {ds es : List (Key × D)}, DnK K G xs ds → DnK K G ys es → DnK K G (xs ++ ys) (ds ++ es)
  | _, _, _, _, .nil, q => q
  | _, _, _, _, .cons h r, q => .cons h (dnk_app r q)
theorem dnk_map {k : Key} {v : V} {d : D} (h : Dn K G v d) : ∀ {xs : List (Key × V)} {ds : List (Key × D)}, DnK K G xs ds → DnK K G (xs.map fun kv => if kv.1 = k then (kv.1, v) else kv) (ds.map fun kv => if kv.1 = k then (kv.1, d) else kv)
  | _, _, .nil => .nil
  | (k1, _) :: _, _ :: _, .cons h1 r => by
    simp only [List.map_cons]
    by_cases q : k1 = k
    · rw [if_pos q, if_pos q]; exact .cons h (dnk_map h r)
    · rw [if_neg q, if_neg q]; exact .cons h1 (dnk_map h r)
theorem dnk_put {k : Key} {v : V} {d : D} {xs : List (Key × V)} {ds : List (Key × D)} (r : DnK K G xs ds) (h : Dn K G v d) : DnK K G (putK xs k v) (putD ds k d) := by
  unfold putK putD
  rw [dnk_any r]
  split
  · exact dnk_map h r
  · exact dnk_app r (.cons h .nil)
theorem dnk_merge : ∀ {ys : List (Key × V)} {es : List (Key × D)} {xs : List (Key × V)} {ds : List (Key × D)}, DnK K G ys es → DnK K G xs ds → DnK K G (mergeK xs ys) (mergeD ds es)
  | _, _, _, _, .nil, q => q
  | (k, v) :: ys, _, xs, ds, .cons h r, q => by
    show DnK K G (mergeK (putK xs k v) ys) (mergeD (putD ds k _) _)
    exact dnk_merge r (dnk_put q h)
theorem Dw.dic_inv {v : V} {ds : List (Key × D)} (l : Le G H) (h : Dw K G H v (.dic ds)) : ∃ a xs, v = .ref a ∧ Rd H a (.dK xs) ∧ DnK K G xs ds := by
  rcases h with h | ⟨_, _, _, _, z, _⟩ | ⟨a, xs, es, e1, e2, h1, h2⟩
  · cases h with
    | dic r q => exact ⟨_, _, rfl, l.rd r, q⟩
  · cases z
  · cases e2; exact ⟨a, xs, e1, .inl h1, h2⟩
theorem key_at {v : V} {d : D} {k : Key} (h : Dw K G H v d) (q : keyD d = some k) : v = kV k := by
  cases d <;> first | cases q | skip
  · exact h.int_inv
  · exact h.str_inv
/-- d[k] -/
def gDix : List D → Option Wd
  | [.dic kvs, k] => (keyD k).bind fun k => (valD kvs k).map .val
  | _ => none
def rDix : List V → Hp → VK → Prop := fun vs H Q => match vs with | [x, y] => ∃ a v, x = .ref a ∧ DGet H a y (some v) ∧ Q v H | _ => False
theorem q_dix : RSem K rDix gDix := by
  intro G H vs ds w Q l d e k
  match ds, d, e with
  | [.dic kvs, y], d, e =>
    obtain ⟨v, u, rfl, h1, h2⟩ := d.two
    obtain ⟨a, xs, rfl, r, n⟩ := h1.dic_inv l
    simp only [gDix] at e
    cases q : keyD y with
    | none => rw [q] at e; cases e
    | some ky =>
      rw [q] at e
      have hv := dnk_val (k := ky) n
      cases q2 : valD kvs ky with
      | none => simp only [Option.bind_some, q2] at e; cases e
      | some dd =>
        simp only [Option.bind_some, q2, Option.map_some] at e
        cases e
        rw [q2] at hv
        obtain ⟨x, hx, hd⟩ := hv
        rw [key_at h2 q]
        exact ⟨a, x, rfl, .inl ⟨xs, ky, r, rfl, hx.symm⟩, val_end l hd k⟩
def gDin (b : Bool) : List D → Option Wd
  | [k, .dic kvs] => (keyD k).map fun k => .val (.bl ((valD kvs k).isSome == b))
  | _ => none
def rDin : List V → Hp → VK → Prop := fun vs H Q => match vs with | [y, x] => ∃ a o, x = .ref a ∧ DGet H a y o ∧ Q (.bl o.isSome) H | _ => False
def rDni : List V → Hp → VK → Prop := fun vs H Q => match vs with | [y, x] => ∃ a o, x = .ref a ∧ DGet H a y o ∧ Q (.bl (!o.isSome)) H | _ => False
theorem din_at {y : D} {kvs : List (Key × D)} {w : Wd} {b : Bool} {v u : V} (l : Le G H) (h1 : Dw K G H v y) (h2 : Dw K G H u (.dic kvs)) (e : gDin b [y, .dic kvs] = some w) : ∃ a o, u = .ref a ∧ DGet H a v o ∧ w = .val (.bl (o.isSome == b)) := by
  obtain ⟨a, xs, rfl, r, n⟩ := h2.dic_inv l
  simp only [gDin] at e
  cases q : keyD y with
  | none => rw [q] at e; cases e
  | some ky =>
    rw [q] at e
    cases e
    have hv := dnk_val (k := ky) n
    rw [key_at h1 q]
    refine ⟨a, valV xs ky, rfl, .inl ⟨xs, ky, r, rfl, rfl⟩, ?_⟩
    cases q2 : valD kvs ky with
    | none => rw [q2] at hv; rw [hv]; show Wd.val (.bl ((valD kvs ky).isSome == b)) = _; rw [q2]; rfl
    | some dd => rw [q2] at hv; obtain ⟨x, hx, _⟩ := hv; rw [hx]; show Wd.val (.bl ((valD kvs ky).isSome == b)) = _; rw [q2]; rfl
theorem q_din : RSem K rDin (gDin true) := by
  intro G H vs ds w Q l d e k
  match ds, d, e with
  | [y, .dic kvs], d, e =>
    obtain ⟨v, u, rfl, h1, h2⟩ := d.two
    obtain ⟨a, o, rfl, g, rfl⟩ := din_at l h1 h2 e
    exact ⟨a, o, rfl, g, val_end (d := .bl (o.isSome == true)) l (by cases o <;> exact .bl _) k⟩
theorem q_dni : RSem K rDni (gDin false) := by
  intro G H vs ds w Q l d e k
  match ds, d, e with
  | [y, .dic kvs], d, e =>
    obtain ⟨v, u, rfl, h1, h2⟩ := d.two
    obtain ⟨a, o, rfl, g, rfl⟩ := din_at l h1 h2 e
    exact ⟨a, o, rfl, g, val_end (d := .bl (o.isSome == false)) l (by cases o <;> exact .bl _) k⟩
/-! display -/
inductive DnP (K : PySem.W.Frag) (G : Hp) : List (V × V) → List (D × D) → Prop
  | nil : DnP K G [] []
  | cons {x y : V} {ps : List (V × V)} {c d : D} {ds : List (D × D)} : Dn K G x c → Dn K G y d → DnP K G ps ds → DnP K G ((x, y) :: ps) ((c, d) :: ds)
def PPost (e : Fr) (σ : St) (H G : Hp) (K : PySem.W.Frag) (mg : Str → Option Value) (W : WX) (o : Out (List (D × D))) (Q : List (V × V) → Hp → Prop) : Prop :=
  match o with
  | .ok ds e' => ∀ ps H' G', Go K e σ H G e' σ H' G' → DnP K G' ps ds → Q ps H'
  | .ex x e' => ∀ c d H' G', Go K e σ H G e' σ H' G' → XAt K mg G' H' x c d → W c d σ H'
  | .bad => False
def PSem (K : PySem.W.Frag) (mg : Str → Option Value) (W : WX) (t : List (TE × TE)) (f : Fr → Out (List (D × D))) : Prop := ∀ e σ H G Q, Rel K G e σ H → PPost e σ H G K mg W (f e) Q → tPairs t σ H Q
def pNil : Fr → Out (List (D × D)) := fun e => .ok [] e
def pCons (fk fv : Fr → Out Wd) (fr : Fr → Out (List (D × D))) : Fr → Out (List (D × D)) := fun e => (fk e).bind fun k e1 => match k with
  | .val c => (aV fv e1).bind fun v e2 => match v with
    | .d d => (fr e2).bind fun ds e3 => .ok ((c, d) :: ds) e3
    | .sl _ => .bad
  | _ => .bad
theorem DnP.mono (l : Le G G') : ∀ {ps : List (V × V)} {ds : List (D × D)}, DnP K G ps ds → DnP K G' ps ds
  | _, _, .nil => .nil
  | _, _, .cons a b r => .cons (Dn.mono l a) (Dn.mono l b) (DnP.mono l r)
theorem psem_nil : PSem K mg W [] pNil := fun e σ H G Q r p => p [] H G (Go.refl r) .nil
theorem psem_cons {tk tv : TE} {tr : List (TE × TE)} {fk fv : Fr → Out Wd} {fr : Fr → Out (List (D × D))} (hk : ESem K mg W tk fk) (hv : ESem K mg W tv fv) (hr : PSem K mg W tr fr) : PSem K mg W ((tk, tv) :: tr) (pCons fk fv fr) := by
  intro e σ H G Q r p
  refine hk e σ H G _ r ?_
  unfold pCons at p
  cases q : fk e with
  | bad => rw [q] at p; exact p
  | ex x e1 => rw [q] at p; exact p
  | ok w e1 =>
    rw [q] at p
    simp only [Out.bind_ok] at p
    intro x H1 G1 g1 ra
    cases w with
    | val c =>
      simp only at p
      refine vsem_val hv e1 σ H1 G1 _ g1.rel ?_
      cases q2 : aV fv e1 with
      | bad => rw [q2] at p; exact p
      | ex x2 e2 => rw [q2] at p; exact fun c d H' G' g2 xa => p c d H' G' (g1.trans g2) xa
      | ok v e2 =>
        rw [q2] at p
        simp only [Out.bind_ok] at p
        intro y H2 G2 g2 av
        cases v with
        | sl i => exact False.elim p
        | d dd =>
          simp only at p
          refine hr e2 σ H2 G2 _ g2.rel ?_
          cases q3 : fr e2 with
          | bad => rw [q3] at p; exact p
          | ex x3 e3 => rw [q3] at p; exact fun c d H' G' g3 xa => p c d H' G' ((g1.trans g2).trans g3) xa
          | ok ds e3 =>
            rw [q3] at p
            simp only [Out.bind_ok] at p
            intro ps H3 G3 g3 dp
            exact p _ H3 G3 ((g1.trans g2).trans g3) (.cons (Dn.mono (g2.grow.trans g3.grow) ra.1) (Dn.mono g3.grow av) dp)
    | own l ds => exact False.elim p
    | ownK l ds => exact False.elim p
    | ownT l ds => exact False.elim p
def keysD : List (D × D) → Option (List (Key × D))
  | [] => some []
  | (c, d) :: r => match keyD c, keysD r with | some k, some ks => some ((k, d) :: ks) | _, _ => none
theorem keys_at : ∀ {ps : List (V × V)} {ds : List (D × D)} {ks : List (Key × D)}, DnP K G ps ds → keysD ds = some ks → ∃ kvs : List (Key × V), ps = kvs.map (fun kv => (kV kv.1, kv.2)) ∧ DnK K G kvs ks
  | _, _, _, .nil, e => by cases e; exact ⟨[], rfl, .nil⟩
  | _, _, ks, .cons (c := c) (d := d) (ds := ds) a b r, e => by
    unfold keysD at e
    cases q : keyD c with
    | none => simp only [q] at e; cases e
    | some k =>
      cases q2 : keysD ds with
      | none => simp only [q, q2] at e; cases e
      | some ks2 =>
        simp only [q, q2] at e
        cases e
        obtain ⟨kvs, rfl, h⟩ := keys_at r q2
        have := key_at (H := G) (G := G) (.inl a) q
        subst this
        exact ⟨(k, _) :: kvs, rfl, .cons b h⟩
def sDisp (fp : Fr → Out (List (D × D))) : Fr → Out Wd := fun e => (fp e).bind fun ps e1 => match keysD ps with
  | some ks => if ks.length ≤ 15 then .ok (.ownK false (mergeD [] ks)) e1 else .bad
  | none => .bad
theorem esem_disp {t : List (TE × TE)} {fp : Fr → Out (List (D × D))} (h : PSem K mg W t fp) : ESem K mg W (tDisp t) (sDisp fp) := by
  intro e σ H G Q rl p a hn
  have n := nw_own (o := .dK []) rl.le hn
  have gl := rl.later n
  have ga : G a = none := by
    cases z : G a with
    | none => rfl
    | some u => rw [rl.le a u z] at hn; cases hn
  have na : ¬ OwnA e σ a := fresh_not_own rl hn
  refine h e σ _ G _ gl.rel ?_
  unfold sDisp at p
  cases q : fp e with
  | bad => rw [q] at p; exact p
  | ex x e1 => rw [q] at p; exact fun c d H' G' g xa => p c d H' G' (gl.trans g) xa
  | ok ps e1 =>
    rw [q] at p
    simp only [Out.bind_ok] at p
    intro vs H2 G2 g2 dp
    cases qk : keysD ps with
    | none => simp only [qk] at p; exact False.elim p
    | some ks =>
      simp only [qk] at p
      by_cases hl : ks.length ≤ 15
      · rw [if_pos hl] at p
        obtain ⟨kvs, rfl, dk⟩ := keys_at dp qk
        have a2 : H2 a = some (.dK []) := g2.keep a _ upd_same na
        have g2a : G2 a = none := by
          cases z : G2 a with
          | none => rfl
          | some u =>
            rcases g2.gnew a u z with q | q | q
            · rw [ga] at q; cases q
            · exact absurd q na
            · rw [upd_same] at q; cases q
        have na2 : ¬ OwnA e1 σ a := fun o => by
          rcases g2.own a o with q | q
          · exact na q
          · rw [upd_same] at q; cases q
        refine ⟨a2, kvs, rfl, by rw [dnk_len dk]; exact hl, ?_⟩
        refine p _ _ G2 ((gl.trans g2).poke hn g2a na2) ⟨⟨a, _, rfl, upd_same, g2a, dnk_merge dk .nil⟩, fun _ b eb => ?_⟩
        cases eb
        exact ⟨na2, .inr hn⟩
      · rw [if_neg hl] at p; exact False.elim p
/-! repr -/
def gRepr : List D → Option Wd
  | [.bl b] => some (.val (.str (if b then "True" else "False")))
  | [.non] => some (.val (.str "None"))
  | _ => none
def rRepr : List V → Hp → VK → Prop := fun xs H Q => (∃ b, xs = [.bl b] ∧ Q (.str (if b then "True" else "False")) H) ∨ (xs = [.non] ∧ Q (.str "None") H)
theorem q_repr : RSem K rRepr gRepr := by
  intro G H vs ds w Q l d e k
  match ds, d, e with
  | [.bl b], d, e =>
    obtain ⟨v, rfl, h⟩ := d.one
    cases e
    exact .inl ⟨b, by rw [h.bl_inv], val_end l (.str _) k⟩
  | [.non], d, e =>
    obtain ⟨v, rfl, h⟩ := d.one
    cases e
    exact .inr ⟨by rw [h.non_inv], val_end l (.str _) k⟩
end
section
variable {X : Cx} {W : WX}
theorem call_repr_small : CallR X (.builtin "repr") rRepr := by
  intro pins s σ H xs us Q I r h
  rcases h with ⟨b, rfl, q⟩ | ⟨rfl, q⟩
  · obtain ⟨u, rfl, ru⟩ := vals1 r
    cases ru
    exact PySem.P.repr_of_bool ⟨.str _, H, I.tok _, ⟨_, rfl⟩, q⟩
  · obtain ⟨u, rfl, ru⟩ := vals1 r
    cases ru
    exact PySem.P.repr_of_none ⟨.str _, H, I.tok _, ⟨_, rfl⟩, q⟩
theorem de_dix {a b : Expr} {pos : Pos} {fa fb : Fr → Out AV} (hu : X.A.units + 64 < cLine) (ha : DV X W a fa) (hb : DV X W b fb) (hs : NoSl b := by intro _ _; rfl) : DE X W (.Subscript a b pos) (sB gDix (aCons fa (aCons fb aNil))) :=
  let ⟨_, pa, sa⟩ := ha; let ⟨_, pb, sb⟩ := hb
  ⟨_, pe_dget (by omega) pa pb hs, esem_B (asem_cons sa (asem_cons sb asem_nil)) q_dix fun _ _ _ h => h⟩
def DP (X : Cx) (W : WX) (pos : Pos) (ks : List (Option Expr)) (vs : List Expr) (f : Fr → Out (List (D × D))) : Prop := ∃ t, PPs X pos ks vs t ∧ PSem X.K X.mg W t f
theorem dp_nil {pos : Pos} : DP X W pos [] [] pNil := ⟨_, pps_nil, psem_nil⟩
theorem dp_cons {pos : Pos} {k v : Expr} {ks : List (Option Expr)} {vs : List Expr} {fk fv : Fr → Out Wd} {fr : Fr → Out (List (D × D))} (hk : DE X W k fk) (hv : DE X W v fv) (hr : DP X W pos ks vs fr) : DP X W pos (some k :: ks) (v :: vs) (pCons fk fv fr) :=
  let ⟨_, p, s⟩ := hk; let ⟨_, q, u⟩ := hv; let ⟨_, q', u'⟩ := hr; ⟨_, pps_cons p q q', psem_cons s u u'⟩
theorem de_disp {pos : Pos} {keys : List (Option Expr)} {values : List Expr} {fp : Fr → Out (List (D × D))} (h : DP X W pos keys values fp) (hall : keys.all (·.isSome) = true := by rfl) (hl : keys.length = values.length := by rfl) (h0 : keys ≠ [] := by intro z; cases z) (h15 : keys.length ≤ 15 := by decide) :
    DE X W (.Dict keys values pos) (sDisp fp) := let ⟨_, p, s⟩ := h; ⟨_, pe_disp p hall hl h0 h15, esem_disp s⟩
end
end Fd

/-! Constants of the module that are tuples. -/
namespace Fd
open PySem PySem.Spec PyProof.Rows L2
/-- a value that the top has written, as data over every heap -/
structure KD (K : PySem.W.Frag) (u : Value) (d : D) : Prop where
  ex : ∃ v, RelV v u ∧ ∀ G, Dn K G v d
inductive KDs (K : PySem.W.Frag) : List Value → List D → Prop
  | nil : KDs K [] []
  | cons {u : Value} {us : List Value} {d : D} {ds : List D} : KD K u d → KDs K us ds → KDs K (u :: us) (d :: ds)
theorem kd_int {K : PySem.W.Frag} {i : Int} {t : Tok} : KD K (.int i t) (.int i) := ⟨.int i, ⟨t, rfl⟩, fun _ => .int i⟩
theorem kd_bl {K : PySem.W.Frag} {b : Bool} : KD K (.bool b) (.bl b) := ⟨.bl b, rfl, fun _ => .bl b⟩
theorem kd_non {K : PySem.W.Frag} : KD K .none .non := ⟨.non, rfl, fun _ => .non⟩
theorem kds_at {K : PySem.W.Frag} : ∀ {us : List Value} {ds : List D}, KDs K us ds → ∃ vs, Vals vs us ∧ ∀ G, DnA K G vs ds
  | _, _, .nil => ⟨[], .nil, fun _ => .nil⟩
  | _, _, .cons ⟨⟨v, r, h⟩⟩ k => let ⟨vs, rs, hs⟩ := kds_at k; ⟨v :: vs, .cons r rs, fun G => .cons (h G) (hs G)⟩
theorem kds_len {K : PySem.W.Frag} : ∀ {us : List Value} {ds : List D}, KDs K us ds → us.length = ds.length
  | _, _, .nil => rfl
  | _, _, .cons _ k => by simp [kds_len k]
theorem kd_tup {K : PySem.W.Frag} {a : Addr} {od : Option Addr} {its : Array Value} {n : Nat} {sl : Array (Option Value)} {ds : List D} (l : K.lookup a = some ⟨.type "tuple", od, .seq its n, sl⟩) (h : KDs K its.toList ds) (hz : ds.length ≤ 1000 := by decide) : KD K (.ref a) (.tup ds) := by
  obtain ⟨vs, rs, hs⟩ := kds_at h
  have hl : its.toList.length = ds.length := kds_len h
  exact ⟨.ref a, rfl, fun G => .tup (.inr ⟨_, its, n, l, rfl, rfl, le1000 (by rw [← Array.length_toList, hl]; exact hz), rs⟩) (hs G)⟩
section
variable {X : Cx} {W : WX}
theorem de_globC {x : Str} {d : D} {pos : Pos} (hm : ∃ u, X.mg x = some u ∧ KD X.K u d) (hg : Gl X x := by rfl) (hd : (x == ("__debug__" : Str)) = false := by decide) : DE X W (.Name x pos) (sC d) :=
  let ⟨_, h, ⟨⟨_, r, k⟩⟩⟩ := hm; de_glob hg h r k hd
end
end Fd

/-! Reading comprehensions with two for-clauses. -/
namespace Fd
open PySem
theorem lcI_pure {α : Type} {enc : α → D} {i : Nat} {o : Option Wd} {fe : Fr → Out Wd} {e : Fr} (F : α → D) (hi : e[i]? = some o) : ∀ (xs : List α) (acc : List D), acc.length + xs.length ≤ 1000000 →
    (∀ x ∈ xs, fe (e.set i (some (.val (enc x)))) = .ok (.val (F x)) (e.set i (some (.val (enc x))))) → lcI (.nm i) sYes fe [i] (xs.map enc) acc e = some (acc ++ xs.map F, e)
  | [], acc, _, _ => by simp [lcI]
  | x :: xs, acc, hl, h => by
    have hp : Tg.put (.nm i) (enc x) (wipeE e [i]) = some (e.set i (some (.val (enc x)))) := by
      show (if free (e.set i none) i = true then some ((e.set i none).set i (some (.val (enc x)))) else none) = _
      have : free (e.set i none) i = true := by unfold free; rw [set_get hi]
      rw [if_pos this, List.set_set]
    rw [List.map_cons]
    unfold lcI
    rw [hp]
    simp only [sYes]
    rw [h x List.mem_cons_self]
    rw [List.length_cons] at hl
    simp only
    rw [if_pos (by omega), rest_set hi]
    rw [lcI_pure F hi xs _ (by simp; omega) fun y hy => h y (List.mem_cons_of_mem _ hy)]
    simp [Wd.dat]
/-- [F(x) for row in rows for x in row] -/
theorem lc2_pure {α : Type} {row : α → D} {its : α → List D} {i j : Nat} {fi1 : Fr → Out (List D)} {fe : Fr → Out Wd} {e : Fr} (F : D → D) (hi : e[i]? = some none) (hj : e[j]? = some none) (hij : i ≠ j) : ∀ (xs : List α) (acc : List D), acc.length + (xs.flatMap its).length ≤ 1000000 →
    (∀ x ∈ xs, fi1 (e.set i (some (.val (row x)))) = .ok (its x) (e.set i (some (.val (row x)))) ∧ ∀ y ∈ its x, fe ((e.set i (some (.val (row x)))).set j (some (.val y))) = .ok (.val (F y)) ((e.set i (some (.val (row x)))).set j (some (.val y)))) →
    lcF2 (.nm i) sYes (.nm j) fi1 sYes fe [i, j] [j] (xs.map row) acc e = .ok (.own false (acc ++ (xs.flatMap its).map F)) e
  | [], acc, _, _ => by simp [lcF2]
  | x :: xs, acc, hl, h => by
    obtain ⟨h1, h2⟩ := h x List.mem_cons_self
    have wi : wipeE e [i, j] = e := by
      show (e.set j none).set i none = e
      apply List.ext_getElem?
      intro k
      by_cases hk : k = i
      · subst hk
        rw [set_get (o := none) (by rw [List.getElem?_set_ne (Ne.symm hij)]; exact hi), hi]
      · rw [List.getElem?_set_ne (Ne.symm hk)]
        by_cases hk2 : k = j
        · subst hk2; rw [set_get hj, hj]
        · rw [List.getElem?_set_ne (Ne.symm hk2)]
    have hp : Tg.put (.nm i) (row x) (wipeE e [i, j]) = some (e.set i (some (.val (row x)))) := by
      rw [wi]; exact put_nm hi rfl
    have hj' : (e.set i (some (.val (row x))))[j]? = some none := by rw [List.getElem?_set_ne hij]; exact hj
    have hcl : cleanE (e.set i (some (.val (row x)))) [j] = true := by
      unfold cleanE
      rw [List.all_cons, List.all_nil, hj']; rfl
    have hre : restE e (e.set i (some (.val (row x)))) [i, j] = e := by
      apply List.ext_getElem?
      intro k
      unfold restE
      rw [List.getElem?_map]
      by_cases hk : k < e.length
      · rw [List.getElem?_range hk]
        simp only [Option.map_some]
        by_cases hm : k ∈ [i, j]
        · rw [if_pos hm, List.getElem?_eq_getElem hk]; rfl
        · rw [if_neg hm, List.getElem?_set_ne (fun z => hm (by simp [z])), List.getElem?_eq_getElem hk]; rfl
      · rw [List.getElem?_eq_none (by simpa using hk), List.getElem?_eq_none (by simpa using hk)]; rfl
    rw [List.flatMap_cons, List.length_append] at hl
    rw [List.map_cons]
    unfold lcF2
    rw [hp]
    simp only [sYes, h1]
    rw [if_pos hcl]
    have q := lcI_pure (enc := id) (i := j) (fe := fe) (e := e.set i (some (.val (row x)))) F hj' (its x) acc (by omega) h2
    rw [List.map_id] at q
    rw [q]
    simp only
    rw [hre]
    have r := lc2_pure (row := row) (its := its) (fi1 := fi1) (fe := fe) F hi hj hij xs (acc ++ (its x).map F) (by rw [List.length_append, List.length_map]; omega) fun y hy => h y (List.mem_cons_of_mem _ hy)
    rw [r]
    simp
end Fd

namespace Fd
open PySem PyProof.Rows L2
/-! slots that hold plain data or nothing may be set -/
def frO : Option Wd → Bool
  | some w => !w.lent
  | none => true
theorem frO_some (w : Wd) : frO (some w) = !w.lent := rfl
theorem frO_none : frO none = true := rfl
theorem free_z (o : Option Wd) (e : Fr) : free (o :: e) 0 = frO o := by cases o <;> rfl
theorem free_s (o : Option Wd) (e : Fr) (n : Nat) : free (o :: e) (n + 1) = free e n := by
  unfold free
  rw [List.getElem?_cons_succ]
theorem fr_plain {o : Option Wd} (h : plainO o = true) : frO o = true := by
  rcases plain_cases h with rfl | ⟨d, rfl⟩ <;> rfl
theorem plain_val (d : D) : plainO (some (.val d)) = true := rfl
theorem eqv_str (s : Str) : PyData.eqv (.str s) (.str s) = true := by simp [PyData.eqv]
theorem ne_str {s : Str} (h : eqOk (.str s) = true) : gNe [.str s, .str s] = some (.val (.bl false)) := by
  show (if eqOk (.str s) = true ∧ eqOk (.str s) = true then some (Wd.val (.bl (!PyData.eqv (.str s) (.str s)))) else none) = _
  rw [if_pos ⟨h, h⟩, eqv_str]
  rfl
theorem for_r1 {tg : Tg} {f : Fr → Out (List AV)} {body : Fr → SO} {e e1 : Fr} {as : List AV} {n : Int} {r : SO} (h : f e = .ok as e1) (ha : avD as = some [.int n]) (hb : -(2 ^ 62) ≤ n ∧ n < 2 ^ 62)
    (hl : loopF tg body ((List.range n.toNat).map fun k : Nat => D.int (k : Int)) e1 = r) : sFor tg (sRange1 f) body e = r := by
  unfold sFor sRange1
  rw [h, Out.bind_ok, ha]
  simp only []
  rw [if_pos hb, range_map]
  exact hl
theorem for_it {tg : Tg} {fi : Fr → Out (List D)} {body : Fr → SO} {e e1 : Fr} {ds : List D} {r : SO} (h : fi e = .ok ds e1) (hl : loopF tg body ds e1 = r) : sFor tg fi body e = r := by
  unfold sFor
  rw [h]
  exact hl
theorem seq_nx {a b : Fr → SO} {e e1 : Fr} (h : a e = .nx e1) : sSeq a b e = b e1 := by
  unfold sSeq
  rw [h]
  rfl
end Fd

namespace K27
open PySem PySem.Spec PyProof.Rows L2 Fd
/-- the program's text by places -/
def topS (i : Nat) : Stmt := PySem.Challenge.pw_foldedloops_k27_whole_words_of_tables.main.body.getD i (.Pass ⟨0, 0, 0, 0⟩)
theorem bt_abs : bootBuiltins "abs" = some (.builtin "abs") := by decide +kernel
theorem bt_all : bootBuiltins "all" = some (.builtin "all") := by decide +kernel
theorem bt_any : bootBuiltins "any" = some (.builtin "any") := by decide +kernel
theorem bt_bool : bootBuiltins "bool" = some (.type "bool") := by decide +kernel
theorem bt_int : bootBuiltins "int" = some (.type "int") := by decide +kernel
theorem bt_isinstance : bootBuiltins "isinstance" = some (.builtin "isinstance") := by decide +kernel
theorem bt_len : bootBuiltins "len" = some (.builtin "len") := by decide +kernel
theorem bt_list : bootBuiltins "list" = some (.type "list") := by decide +kernel
theorem bt_repr : bootBuiltins "repr" = some (.builtin "repr") := by decide +kernel
theorem bt_sum : bootBuiltins "sum" = some (.builtin "sum") := by decide +kernel
theorem bt_tuple : bootBuiltins "tuple" = some (.type "tuple") := by decide +kernel
structure Tx (K : PySem.W.Frag) (mg : Str → Option Value) : Prop where
  z_abs : mg "abs" = none
  z_all : mg "all" = none
  z_any : mg "any" = none
  z_bool : mg "bool" = none
  z_int : mg "int" = none
  z_isinstance : mg "isinstance" = none
  z_len : mg "len" = none
  z_list : mg "list" = none
  z_range : mg "range" = none
  z_repr : mg "repr" = none
  z_sum : mg "sum" = none
  z_tuple : mg "tuple" = none
  z_zip : mg "zip" = none
  v_FIRST : ∃ u, mg "FIRST" = some u ∧ KD K u (.tup [(.tup [(.int (1)), (.int (2))]), (.tup [(.int (0)), (.int (1))])])
  v_MOST_RANK : ∃ t, mg "MOST_RANK" = some (.int 4 t)
  v_MOST_WORD : ∃ t, mg "MOST_WORD" = some (.int 60 t)
  v_SECOND : ∃ u, mg "SECOND" = some u ∧ KD K u (.tup [(.tup [(.int (1)), (.int (0))]), (.tup [(.int (2)), (.int (1))])])
  v_UNIT : ∃ u, mg "UNIT" = some u ∧ KD K u (.tup [(.tup [(.int (1)), (.int (0))]), (.tup [(.int (0)), (.int (1))])])
section
variable {P : Program} {w : World} {K : PySem.W.Frag} {mg : Str → Option Value} {base : Heap}
abbrev s_is_integer : Stmt := topS 1
def b_is_integer : Fr → SO :=
  (sRet (sAndV (sB gIsi (aCons (aP 0) (aCons (aV (sC (.ty "int"))) aNil))) (sNotV (sB gIsi (aCons (aP 0) (aCons (aV (sC (.ty "bool"))) aNil))))))
def g_is_integer : List Wd → RF := gOf 1 1 b_is_integer
theorem v_is_integer (x0 : Wd) : g_is_integer [x0] = closeR [x0] (b_is_integer [some x0]) := rfl
theorem sc_is_integer : FnScope ["thing"] ["thing"] (defScope s_is_integer) := ⟨rfl, rfl, rfl, by decide +kernel, rfl, by decide +kernel, by decide +kernel⟩
theorem c_is_integer (T : Tx K mg)  {f : Addr} {fd : FuncData} (F : L2.Fun K "is_integer" "is_integer" s_is_integer f fd) (hm : mg "is_integer" = some (.ref f)) : Cl P w K mg base 1 "is_integer" 1 g_is_integer :=
  cl_of (body := b_is_integer) F hm (F.binds fun _ _ _ _ _ _ us hl => match us, hl with | [_], _ => rfl) sc_is_integer (fun cdv A outer s H E hr =>
    have hu := hr.units
    (dss_one (ds_ret (de_and (de_callB call_isi q_isi (by rfl) T.z_isinstance bt_isinstance (da_cons (dv_peek (pv 0)) (da_cons (DE.v (de_ty T.z_int bt_int)) da_nil))) (de_one (de_not (de_callB call_isi q_isi (by rfl) T.z_isinstance bt_isinstance (da_cons (dv_peek (pv 0)) (da_cons (DE.v (de_ty T.z_bool bt_bool)) da_nil))))))))) gOf_n fun ws h => gOf_g h
abbrev s_is_tuple : Stmt := topS 3
def b_is_tuple : Fr → SO :=
  (sRet (sAndV (sB gIsi (aCons (aP 0) (aCons (aV (sC (.ty "tuple"))) aNil))) (sChain (gCmp fun i j => decide (i ≤ j)) (gCmp fun i j => decide (i ≤ j)) (aP 1) (aV (sB gLen (aCons (aP 0) aNil))) (aP 2))))
def g_is_tuple : List Wd → RF := gOf 3 3 b_is_tuple
theorem v_is_tuple (x0 x1 x2 : Wd) : g_is_tuple [x0, x1, x2] = closeR [x0, x1, x2] (b_is_tuple [some x0, some x1, some x2]) := rfl
theorem sc_is_tuple : FnScope ["thing", "least", "most"] ["thing", "least", "most"] (defScope s_is_tuple) := ⟨rfl, rfl, rfl, by decide +kernel, rfl, by decide +kernel, by decide +kernel⟩
theorem c_is_tuple (T : Tx K mg)  {f : Addr} {fd : FuncData} (F : L2.Fun K "is_tuple" "is_tuple" s_is_tuple f fd) (hm : mg "is_tuple" = some (.ref f)) : Cl P w K mg base 1 "is_tuple" 3 g_is_tuple :=
  cl_of (body := b_is_tuple) F hm (F.binds fun _ _ _ _ _ _ us hl => match us, hl with | [_, _, _], _ => rfl) sc_is_tuple (fun cdv A outer s H E hr =>
    have hu := hr.units
    (dss_one (ds_ret (de_and (de_callB call_isi q_isi (by rfl) T.z_isinstance bt_isinstance (da_cons (dv_peek (pv 0)) (da_cons (DE.v (de_ty T.z_tuple bt_tuple)) da_nil))) (de_one (de_chain op_le op_le q_cmp q_cmp (dv_peek (pv 1)) (DE.v (de_callB call_len q_len (by rfl) T.z_len bt_len (da_cons (dv_peek (pv 0)) da_nil))) (dv_peek (pv 2)))))))) gOf_n fun ws h => gOf_g h
abbrev s_joined : Stmt := topS 19
def b_joined : Fr → SO :=
  (sSeq (sSet 2 (sC (.int 0)))
    (sSeq (whileF (sAnd (sT (sB (gCmp fun i j => decide (i < j)) (aCons (aP 2) (aCons (aV (sB gLen (aCons (aP 0) aNil))) aNil)))) (sAnd (sT (sB (gCmp fun i j => decide (i < j)) (aCons (aP 2) (aCons (aV (sB gLen (aCons (aP 1) aNil))) aNil)))) (sT (sB gEq (aCons (aV (sB gIx (aCons (aP 0) (aCons (aV (sB gSub (aCons (aV (sB gSub (aCons (aV (sB gLen (aCons (aP 0) aNil))) (aCons (aV (sC (.int 1))) aNil)))) (aCons (aP 2) aNil)))) aNil)))) (aCons (aV (sB gNeg (aCons (aV (sB gIx (aCons (aP 1) (aCons (aP 2) aNil)))) aNil))) aNil)))))) (sAug 2 gIAdd (sC (.int 1))) fuelN)
    (sRet (sB gAdd (aCons (aV (sSl gSl (aP 0) sNo (sPt (sB gSub (aCons (aV (sB gLen (aCons (aP 0) aNil))) (aCons (aP 2) aNil)))))) (aCons (aV (sSl gSl (aP 1) (sPt (sVar 2)) sNo)) aNil))))))
def g_joined : List Wd → RF := gOf 2 3 b_joined
theorem v_joined (x0 x1 : Wd) : g_joined [x0, x1] = closeR [x0, x1] (b_joined [some x0, some x1, none]) := rfl
theorem sc_joined : FnScope ["one", "other", "at"] ["one", "other"] (defScope s_joined) := ⟨rfl, rfl, rfl, by decide +kernel, rfl, by decide +kernel, by decide +kernel⟩
theorem c_joined (T : Tx K mg)  {f : Addr} {fd : FuncData} (F : L2.Fun K "joined" "joined" s_joined f fd) (hm : mg "joined" = some (.ref f)) : Cl P w K mg base 1 "joined" 2 g_joined :=
  cl_of (body := b_joined) F hm (F.binds fun _ _ _ _ _ _ us hl => match us, hl with | [_, _], _ => rfl) sc_joined (fun cdv A outer s H E hr =>
    have hu := hr.units
    (dss_cons (ds_set (i := 2) sc_joined.nd rfl (by first | exact .inl rfl | exact .inr rfl) de_int)
      (dss_cons (ds_while fuelN passesB (DW.t (dw_and (dt_cmp op_lt q_cmp rfl (dv_peek (pv 2)) (DE.v (de_callB call_len q_len (by rfl) T.z_len bt_len (da_cons (dv_peek (pv 0)) da_nil)))) (dw_and (dt_cmp op_lt q_cmp rfl (dv_peek (pv 2)) (DE.v (de_callB call_len q_len (by rfl) T.z_len bt_len (da_cons (dv_peek (pv 1)) da_nil)))) (dw_and1 (dt_cmp (op_eqD hu) q_eq rfl (DE.v (de_ix ix_seq q_ix (fun _ _ => rfl) (dv_peek (pv 0)) (DE.v (de_bin op_sub q_sub (DE.v (de_bin op_sub q_sub (DE.v (de_callB call_len q_len (by rfl) T.z_len bt_len (da_cons (dv_peek (pv 0)) da_nil))) (DE.v de_int))) (dv_peek (pv 2)))))) (DE.v (de_un un_neg q_neg (DE.v (de_ix ix_seq q_ix (fun _ _ => rfl) (dv_peek (pv 1)) (dv_peek (pv 2))))))))))) (dss_one (ds_aug (i := 2) sc_joined.nd rfl (by first | exact .inl rfl | exact .inr rfl) de_int ip_add q_iadd2)))
      (dss_one (ds_ret (de_bin o_add q_add (DE.v (de_sl o_sl q_sl (dv_peek (pv 0)) do_no (do_pt (de_bin op_sub q_sub (DE.v (de_callB call_len q_len (by rfl) T.z_len bt_len (da_cons (dv_peek (pv 0)) da_nil))) (dv_peek (pv 2)))))) (DE.v (de_sl o_sl q_sl (dv_peek (pv 1)) (do_pt (de_var (pv 2))) do_no)))))))) gOf_n fun ws h => gOf_g h
abbrev s_table_times : Stmt := topS 24
def b_table_times : Fr → SO :=
  (sSeq (sSetT (.tp ((.tp ((.nm 2) :: ((.nm 3) :: []))) :: ((.tp ((.nm 4) :: ((.nm 5) :: []))) :: []))) (sVar 0))
    (sSeq (sSetT (.tp ((.tp ((.nm 6) :: ((.nm 7) :: []))) :: ((.tp ((.nm 8) :: ((.nm 9) :: []))) :: []))) (sVar 1))
    (sRet (sTup (aCons (aV (sTup (aCons (aV (sB gAdd (aCons (aV (sB gMul4 (aCons (aP 2) (aCons (aP 6) aNil)))) (aCons (aV (sB gMul4 (aCons (aP 3) (aCons (aP 8) aNil)))) aNil)))) (aCons (aV (sB gAdd (aCons (aV (sB gMul4 (aCons (aP 2) (aCons (aP 7) aNil)))) (aCons (aV (sB gMul4 (aCons (aP 3) (aCons (aP 9) aNil)))) aNil)))) aNil)))) (aCons (aV (sTup (aCons (aV (sB gAdd (aCons (aV (sB gMul4 (aCons (aP 4) (aCons (aP 6) aNil)))) (aCons (aV (sB gMul4 (aCons (aP 5) (aCons (aP 8) aNil)))) aNil)))) (aCons (aV (sB gAdd (aCons (aV (sB gMul4 (aCons (aP 4) (aCons (aP 7) aNil)))) (aCons (aV (sB gMul4 (aCons (aP 5) (aCons (aP 9) aNil)))) aNil)))) aNil)))) aNil))))))
def g_table_times : List Wd → RF := gOf 2 10 b_table_times
theorem v_table_times (x0 x1 : Wd) : g_table_times [x0, x1] = closeR [x0, x1] (b_table_times [some x0, some x1, none, none, none, none, none, none, none, none]) := rfl
theorem sc_table_times : FnScope ["one", "other", "a", "b", "c", "d", "e", "f", "g", "h"] ["one", "other"] (defScope s_table_times) := ⟨rfl, rfl, rfl, by decide +kernel, rfl, by decide +kernel, by decide +kernel⟩
theorem c_table_times (T : Tx K mg)  {f : Addr} {fd : FuncData} (F : L2.Fun K "table_times" "table_times" s_table_times f fd) (hm : mg "table_times" = some (.ref f)) : Cl P w K mg base 1 "table_times" 2 g_table_times :=
  cl_of (body := b_table_times) F hm (F.binds fun _ _ _ _ _ _ us hl => match us, hl with | [_, _], _ => rfl) sc_table_times (fun cdv A outer s H E hr =>
    have hu := hr.units
    (dss_cons (ds_setT (de_var (pv 0)) (dg_tp rfl (dgs_cons (dg_tp rfl (dgs_cons (dg_nm (i := 2) sc_table_times.nd rfl (by first | exact .inl rfl | exact .inr rfl)) (dgs_cons (dg_nm (i := 3) sc_table_times.nd rfl (by first | exact .inl rfl | exact .inr rfl)) dgs_nil))) (dgs_cons (dg_tp rfl (dgs_cons (dg_nm (i := 4) sc_table_times.nd rfl (by first | exact .inl rfl | exact .inr rfl)) (dgs_cons (dg_nm (i := 5) sc_table_times.nd rfl (by first | exact .inl rfl | exact .inr rfl)) dgs_nil))) dgs_nil))))
      (dss_cons (ds_setT (de_var (pv 1)) (dg_tp rfl (dgs_cons (dg_tp rfl (dgs_cons (dg_nm (i := 6) sc_table_times.nd rfl (by first | exact .inl rfl | exact .inr rfl)) (dgs_cons (dg_nm (i := 7) sc_table_times.nd rfl (by first | exact .inl rfl | exact .inr rfl)) dgs_nil))) (dgs_cons (dg_tp rfl (dgs_cons (dg_nm (i := 8) sc_table_times.nd rfl (by first | exact .inl rfl | exact .inr rfl)) (dgs_cons (dg_nm (i := 9) sc_table_times.nd rfl (by first | exact .inl rfl | exact .inr rfl)) dgs_nil))) dgs_nil))))
      (dss_one (ds_ret (de_tup (da_cons (DE.v (de_tup (da_cons (DE.v (de_bin o_add q_add (DE.v (de_bin o_mul q_mul5 (dv_peek (pv 2)) (dv_peek (pv 6)))) (DE.v (de_bin o_mul q_mul5 (dv_peek (pv 3)) (dv_peek (pv 8)))))) (da_cons (DE.v (de_bin o_add q_add (DE.v (de_bin o_mul q_mul5 (dv_peek (pv 2)) (dv_peek (pv 7)))) (DE.v (de_bin o_mul q_mul5 (dv_peek (pv 3)) (dv_peek (pv 9)))))) da_nil)))) (da_cons (DE.v (de_tup (da_cons (DE.v (de_bin o_add q_add (DE.v (de_bin o_mul q_mul5 (dv_peek (pv 4)) (dv_peek (pv 6)))) (DE.v (de_bin o_mul q_mul5 (dv_peek (pv 5)) (dv_peek (pv 8)))))) (da_cons (DE.v (de_bin o_add q_add (DE.v (de_bin o_mul q_mul5 (dv_peek (pv 4)) (dv_peek (pv 7)))) (DE.v (de_bin o_mul q_mul5 (dv_peek (pv 5)) (dv_peek (pv 9)))))) da_nil)))) da_nil)))))))) gOf_n fun ws h => gOf_g h
abbrev s_table_back : Stmt := topS 25
def b_table_back : Fr → SO :=
  (sSeq (sSetT (.tp ((.tp ((.nm 1) :: ((.nm 2) :: []))) :: ((.tp ((.nm 3) :: ((.nm 4) :: []))) :: []))) (sVar 0))
    (sRet (sTup (aCons (aV (sTup (aCons (aV (sVar 4)) (aCons (aV (sB gNeg (aCons (aP 2) aNil))) aNil)))) (aCons (aV (sTup (aCons (aV (sB gNeg (aCons (aP 3) aNil))) (aCons (aV (sVar 1)) aNil)))) aNil)))))
def g_table_back : List Wd → RF := gOf 1 5 b_table_back
theorem v_table_back (x0 : Wd) : g_table_back [x0] = closeR [x0] (b_table_back [some x0, none, none, none, none]) := rfl
theorem sc_table_back : FnScope ["table", "a", "b", "c", "d"] ["table"] (defScope s_table_back) := ⟨rfl, rfl, rfl, by decide +kernel, rfl, by decide +kernel, by decide +kernel⟩
theorem c_table_back (T : Tx K mg)  {f : Addr} {fd : FuncData} (F : L2.Fun K "table_back" "table_back" s_table_back f fd) (hm : mg "table_back" = some (.ref f)) : Cl P w K mg base 1 "table_back" 1 g_table_back :=
  cl_of (body := b_table_back) F hm (F.binds fun _ _ _ _ _ _ us hl => match us, hl with | [_], _ => rfl) sc_table_back (fun cdv A outer s H E hr =>
    have hu := hr.units
    (dss_cons (ds_setT (de_var (pv 0)) (dg_tp rfl (dgs_cons (dg_tp rfl (dgs_cons (dg_nm (i := 1) sc_table_back.nd rfl (by first | exact .inl rfl | exact .inr rfl)) (dgs_cons (dg_nm (i := 2) sc_table_back.nd rfl (by first | exact .inl rfl | exact .inr rfl)) dgs_nil))) (dgs_cons (dg_tp rfl (dgs_cons (dg_nm (i := 3) sc_table_back.nd rfl (by first | exact .inl rfl | exact .inr rfl)) (dgs_cons (dg_nm (i := 4) sc_table_back.nd rfl (by first | exact .inl rfl | exact .inr rfl)) dgs_nil))) dgs_nil))))
      (dss_one (ds_ret (de_tup (da_cons (DE.v (de_tup (da_cons (DE.v (de_var (pv 4))) (da_cons (DE.v (de_un un_neg q_neg (dv_peek (pv 2)))) da_nil)))) (da_cons (DE.v (de_tup (da_cons (DE.v (de_un un_neg q_neg (dv_peek (pv 3)))) (da_cons (DE.v (de_var (pv 1))) da_nil)))) da_nil))))))) gOf_n fun ws h => gOf_g h
abbrev s_size_of : Stmt := topS 31
def b_size_of : Fr → SO :=
  (sRet (sB gSum (aCons (aV (sLc2 (.nm 1) (sSeqI (aV (sVar 0))) sYes (.nm 2) (sSeqI (aV (sVar 1))) sYes (sB gAbs (aCons (aP 2) aNil)) [1, 2] [2])) aNil)))
def g_size_of : List Wd → RF := gOf 1 3 b_size_of
theorem v_size_of (x0 : Wd) : g_size_of [x0] = closeR [x0] (b_size_of [some x0, none, none]) := rfl
theorem sc_size_of : FnScope ["table", "row", "one"] ["table"] (defScope s_size_of) := ⟨rfl, rfl, rfl, by decide +kernel, rfl, by decide +kernel, by decide +kernel⟩
theorem c_size_of (T : Tx K mg)  {f : Addr} {fd : FuncData} (F : L2.Fun K "size_of" "size_of" s_size_of f fd) (hm : mg "size_of" = some (.ref f)) : Cl P w K mg base 1 "size_of" 1 g_size_of :=
  cl_of (body := b_size_of) F hm (F.binds fun _ _ _ _ _ _ us hl => match us, hl with | [_], _ => rfl) sc_size_of (fun cdv A outer s H E hr =>
    have hu := hr.units
    (dss_one (ds_ret (de_callB (cr_sum rfl) q_sum (by rfl) T.z_sum bt_sum (da_cons (DE.v (de_lc2 (own := [("row", 1), ("one", 2)]) (vs1 := [2]) rfl sc_size_of.nd (di_seq (DE.v (de_var (pv 0)))) (blkOk_by (by show blkC ["table", "row", "one"] (defScope s_size_of) _ _ = true; decide +kernel)) (by decide) (fun _ => (dg_nm (i := 1) sc_size_of.nd rfl (by first | exact .inl rfl | exact .inr rfl))) (fun _ => (di_seq (DE.v (de_var (pv 1))))) (fun _ => (dg_nm (i := 2) sc_size_of.nd rfl (by first | exact .inl rfl | exact .inr rfl))) (fun _ => (de_callB call_abs q_abs (by rfl) T.z_abs bt_abs (da_cons (dv_peek (pv 2)) da_nil))))) da_nil))))) gOf_n fun ws h => gOf_g h
abbrev s_is_of_letters : Stmt := topS 32
def b_is_of_letters : Fr → SO :=
  (sSeq (sSetT (.tp ((.tp ((.nm 1) :: ((.nm 2) :: []))) :: ((.tp ((.nm 3) :: ((.nm 4) :: []))) :: []))) (sVar 0))
    (sRet (sAndV (sB gEq (aCons (aV (sB gMod (aCons (aP 1) (aCons (aV (sC (.int 4))) aNil)))) (aCons (aV (sC (.int 1))) aNil))) (sAndV (sB gEq (aCons (aV (sB gMod (aCons (aP 4) (aCons (aV (sC (.int 4))) aNil)))) (aCons (aV (sC (.int 1))) aNil))) (sAndV (sB gEq (aCons (aV (sB gMod (aCons (aP 2) (aCons (aV (sC (.int 2))) aNil)))) (aCons (aV (sC (.int 0))) aNil))) (sB gEq (aCons (aV (sB gMod (aCons (aP 3) (aCons (aV (sC (.int 2))) aNil)))) (aCons (aV (sC (.int 0))) aNil))))))))
def g_is_of_letters : List Wd → RF := gOf 1 5 b_is_of_letters
theorem v_is_of_letters (x0 : Wd) : g_is_of_letters [x0] = closeR [x0] (b_is_of_letters [some x0, none, none, none, none]) := rfl
theorem sc_is_of_letters : FnScope ["table", "a", "b", "c", "d"] ["table"] (defScope s_is_of_letters) := ⟨rfl, rfl, rfl, by decide +kernel, rfl, by decide +kernel, by decide +kernel⟩
theorem c_is_of_letters (T : Tx K mg)  {f : Addr} {fd : FuncData} (F : L2.Fun K "is_of_letters" "is_of_letters" s_is_of_letters f fd) (hm : mg "is_of_letters" = some (.ref f)) : Cl P w K mg base 1 "is_of_letters" 1 g_is_of_letters :=
  cl_of (body := b_is_of_letters) F hm (F.binds fun _ _ _ _ _ _ us hl => match us, hl with | [_], _ => rfl) sc_is_of_letters (fun cdv A outer s H E hr =>
    have hu := hr.units
    (dss_cons (ds_setT (de_var (pv 0)) (dg_tp rfl (dgs_cons (dg_tp rfl (dgs_cons (dg_nm (i := 1) sc_is_of_letters.nd rfl (by first | exact .inl rfl | exact .inr rfl)) (dgs_cons (dg_nm (i := 2) sc_is_of_letters.nd rfl (by first | exact .inl rfl | exact .inr rfl)) dgs_nil))) (dgs_cons (dg_tp rfl (dgs_cons (dg_nm (i := 3) sc_is_of_letters.nd rfl (by first | exact .inl rfl | exact .inr rfl)) (dgs_cons (dg_nm (i := 4) sc_is_of_letters.nd rfl (by first | exact .inl rfl | exact .inr rfl)) dgs_nil))) dgs_nil))))
      (dss_one (ds_ret (de_and (de_cmp (op_eqD hu) q_eq rfl (DE.v (de_bin op_mod q_mod (dv_peek (pv 1)) (DE.v de_int))) (DE.v de_int)) (de_and (de_cmp (op_eqD hu) q_eq rfl (DE.v (de_bin op_mod q_mod (dv_peek (pv 4)) (DE.v de_int))) (DE.v de_int)) (de_and (de_cmp (op_eqD hu) q_eq rfl (DE.v (de_bin op_mod q_mod (dv_peek (pv 2)) (DE.v de_int))) (DE.v de_int)) (de_one (de_cmp (op_eqD hu) q_eq rfl (DE.v (de_bin op_mod q_mod (dv_peek (pv 3)) (DE.v de_int))) (DE.v de_int)))))))))) gOf_n fun ws h => gOf_g h
abbrev s__law_hand : Stmt := topS 37
def b__law_hand : Fr → SO :=
  (sSeq (sSet 1 (sLc (.nm 2) (sSeqI (aV (sSl gSl (aP 0) sNo (sPt (sC (.int 63)))))) sYes (sB gAbs (aCons (aV (sB gInt (aCons (aP 2) aNil))) aNil)) [2]))
    (sRet (sLst (aCons (aV (sVar 1)) (aCons (aV (sC (.int 0))) (aCons (aV (sC (.int 0))) (aCons (aV (sB gAdd (aCons (aV (sC (.int 83))) (aCons (aV (sB gMul4 (aCons (aV (sC (.int 5))) (aCons (aV (sB gLen (aCons (aP 1) aNil))) aNil)))) aNil)))) (aCons (aV (sC (.int 0))) aNil))))))))
def g__law_hand : List Wd → RF := gOf 1 3 b__law_hand
theorem v__law_hand (x0 : Wd) : g__law_hand [x0] = closeR [x0] (b__law_hand [some x0, none, none]) := rfl
theorem sc__law_hand : FnScope ["script", "cells", "cell"] ["script"] (defScope s__law_hand) := ⟨rfl, rfl, rfl, by decide +kernel, rfl, by decide +kernel, by decide +kernel⟩
theorem c__law_hand (T : Tx K mg)  {f : Addr} {fd : FuncData} (F : L2.Fun K "_law_hand" "_law_hand" s__law_hand f fd) (hm : mg "_law_hand" = some (.ref f)) : Cl P w K mg base 1 "_law_hand" 1 g__law_hand :=
  cl_of (body := b__law_hand) F hm (F.binds fun _ _ _ _ _ _ us hl => match us, hl with | [_], _ => rfl) sc__law_hand (fun cdv A outer s H E hr =>
    have hu := hr.units
    (dss_cons (ds_setLc0 (i := 1) (own := [("cell", 2)]) rfl sc__law_hand.nd rfl rfl (sw_true rfl rfl rfl (by decide +kernel)) (di_seq (DE.v (de_sl o_sl q_sl (dv_peek (pv 0)) do_no (do_pt de_int)))) (blkOk_by (by show blkC ["script", "cells", "cell"] (defScope s__law_hand) _ _ = true; decide +kernel)) (fun _ => (dg_nm (i := 2) sc__law_hand.nd rfl (by first | exact .inl rfl | exact .inr rfl))) (fun _ => (de_callB call_abs q_abs (by rfl) T.z_abs bt_abs (da_cons (DE.v (de_callTy call_int1 q_int (by rfl) T.z_int bt_int (da_cons (dv_peek (pv 2)) da_nil))) da_nil))))
      (dss_one (ds_ret (de_lst (da_cons (DE.v (de_var (pv 1))) (da_cons (DE.v de_int) (da_cons (DE.v de_int) (da_cons (DE.v (de_bin o_add q_add (DE.v de_int) (DE.v (de_bin o_mul q_mul5 (DE.v de_int) (DE.v (de_callB call_len q_len (by rfl) T.z_len bt_len (da_cons (dv_peek (pv 1)) da_nil))))))) (da_cons (DE.v de_int) da_nil)))))))))) gOf_n fun ws h => gOf_g h
abbrev s__law_draw : Stmt := topS 38
def b__law_draw : Fr → SO :=
  (sSeq (sIf (sAnd (sT (sB gEq (aCons (aV (sB gIx (aCons (aP 0) (aCons (aV (sC (.int 2))) aNil)))) (aCons (aV (sC (.int 0))) aNil)))) (sT (sB (gCmp fun i j => decide (i < j)) (aCons (aV (sB gIx (aCons (aP 0) (aCons (aV (sC (.int 1))) aNil)))) (aCons (aV (sB gLen (aCons (aV (sB gIx (aCons (aP 0) (aCons (aV (sC (.int 0))) aNil)))) aNil))) aNil))))) (sSeq (sSet 2 (sB gIx (aCons (aV (sB gIx (aCons (aP 0) (aCons (aV (sC (.int 0))) aNil)))) (aCons (aV (sB gIx (aCons (aP 0) (aCons (aV (sC (.int 1))) aNil)))) aNil))))
    (sSeq (sPut 0 (sC (.int 1)) (sB gAdd (aCons (aV (sB gIx (aCons (aP 0) (aCons (aV (sC (.int 1))) aNil)))) (aCons (aV (sC (.int 1))) aNil))))
    (sSeq (sPut 0 (sC (.int 3)) (sB gMod (aCons (aV (sB gInt (aCons (aV (sB gAdd (aCons (aV (sB gAdd (aCons (aV (sB gMul4 (aCons (aV (sB gIx (aCons (aP 0) (aCons (aV (sC (.int 3))) aNil)))) (aCons (aV (sC (.int 48271))) aNil)))) (aCons (aV (sB gMul4 (aCons (aP 2) (aCons (aV (sC (.int 5))) aNil)))) aNil)))) (aCons (aV (sC (.int 29))) aNil)))) aNil))) (aCons (aV (sC (.int 2147483587))) aNil))))
    (sPut 0 (sC (.int 2)) (sIfE (sT (sB (gCmp fun i j => decide (i ≥ j)) (aCons (aP 2) (aCons (aV (sB gPow (aCons (aV (sC (.int 10))) (aCons (aV (sC (.int 18))) aNil)))) aNil)))) (sVar 2) (sC (.int 0))))))) sNx)
    (sSeq (sIf (sT (sB (gCmp fun i j => decide (i > j)) (aCons (aV (sB gIx (aCons (aP 0) (aCons (aV (sC (.int 2))) aNil)))) (aCons (aV (sC (.int 0))) aNil)))) (sSeq (sSet 3 (sB gMod (aCons (aV (sB gInt (aCons (aV (sB gIx (aCons (aP 0) (aCons (aV (sC (.int 2))) aNil)))) aNil))) (aCons (aP 1) aNil))))
    (sSeq (sPut 0 (sC (.int 2)) (sB gDiv (aCons (aV (sB gIx (aCons (aP 0) (aCons (aV (sC (.int 2))) aNil)))) (aCons (aP 1) aNil))))
    (sRet (sMove 3)))) sNx)
    (sSeq (sPut 0 (sC (.int 4)) (sB gAdd (aCons (aV (sB gIx (aCons (aP 0) (aCons (aV (sC (.int 4))) aNil)))) (aCons (aV (sC (.int 1))) aNil))))
    (sSeq (sSet 4 (sB gMod (aCons (aV (sB gInt (aCons (aV (sB gMul4 (aCons (aV (sB gInt (aCons (aV (sB gAdd (aCons (aV (sB gIx (aCons (aP 0) (aCons (aV (sC (.int 3))) aNil)))) (aCons (aV (sB gMul4 (aCons (aV (sC (.int 7877))) (aCons (aV (sB gIx (aCons (aP 0) (aCons (aV (sC (.int 4))) aNil)))) aNil)))) aNil)))) aNil))) (aCons (aV (sC (.int 69621))) aNil)))) aNil))) (aCons (aV (sC (.int 2147483647))) aNil))))
    (sSeq (sSet 4 (sB gMod (aCons (aV (sB gInt (aCons (aV (sB gMul4 (aCons (aP 4) (aCons (aV (sB gAdd (aCons (aV (sB gDiv (aCons (aP 4) (aCons (aV (sC (.int 1103))) aNil)))) (aCons (aV (sC (.int 40692))) aNil)))) aNil)))) aNil))) (aCons (aV (sC (.int 2147483399))) aNil))))
    (sSeq (sSet 4 (sB gMod (aCons (aV (sB gInt (aCons (aV (sB gMul4 (aCons (aP 4) (aCons (aV (sB gAdd (aCons (aV (sB gDiv (aCons (aP 4) (aCons (aV (sC (.int 2311))) aNil)))) (aCons (aV (sC (.int 48271))) aNil)))) aNil)))) aNil))) (aCons (aV (sC (.int 2147483629))) aNil))))
    (sRet (sB gMod (aCons (aV (sB gInt (aCons (aV (sB gDiv (aCons (aP 4) (aCons (aV (sC (.int 16))) aNil)))) aNil))) (aCons (aP 1) aNil))))))))))
def g__law_draw : List Wd → RF := gOf 2 5 b__law_draw
theorem v__law_draw (x0 x1 : Wd) : g__law_draw [x0, x1] = closeR [x0, x1] (b__law_draw [some x0, some x1, none, none, none]) := rfl
theorem sc__law_draw : FnScope ["hand", "many", "cell", "digit", "number"] ["hand", "many"] (defScope s__law_draw) := ⟨rfl, rfl, rfl, by decide +kernel, rfl, by decide +kernel, by decide +kernel⟩
theorem c__law_draw (T : Tx K mg)  {f : Addr} {fd : FuncData} (F : L2.Fun K "_law_draw" "_law_draw" s__law_draw f fd) (hm : mg "_law_draw" = some (.ref f)) : Cl P w K mg base 1 "_law_draw" 2 g__law_draw :=
  cl_of (body := b__law_draw) F hm (F.binds fun _ _ _ _ _ _ us hl => match us, hl with | [_, _], _ => rfl) sc__law_draw (fun cdv A outer s H E hr =>
    have hu := hr.units
    (dss_cons (ds_if (DW.t (dw_and (dt_cmp (op_eqD hu) q_eq rfl (DE.v (de_ix ix_seq q_ix (fun _ _ => rfl) (dv_peek (pv 0)) (DE.v de_int))) (DE.v de_int)) (dw_and1 (dt_cmp op_lt q_cmp rfl (DE.v (de_ix ix_seq q_ix (fun _ _ => rfl) (dv_peek (pv 0)) (DE.v de_int))) (DE.v (de_callB call_len q_len (by rfl) T.z_len bt_len (da_cons (DE.v (de_ix ix_seq q_ix (fun _ _ => rfl) (dv_peek (pv 0)) (DE.v de_int))) da_nil))))))) (dss_cons (ds_set (i := 2) sc__law_draw.nd rfl (by first | exact .inl rfl | exact .inr rfl) (de_ix ix_seq q_ix (fun _ _ => rfl) (DE.v (de_ix ix_seq q_ix (fun _ _ => rfl) (dv_peek (pv 0)) (DE.v de_int))) (DE.v (de_ix ix_seq q_ix (fun _ _ => rfl) (dv_peek (pv 0)) (DE.v de_int)))))
      (dss_cons (ds_put (pv 0) de_int (de_bin o_add q_add (DE.v (de_ix ix_seq q_ix (fun _ _ => rfl) (dv_peek (pv 0)) (DE.v de_int))) (DE.v de_int)))
      (dss_cons (ds_put (pv 0) de_int (de_bin op_mod q_mod (DE.v (de_callTy call_int1 q_int (by rfl) T.z_int bt_int (da_cons (DE.v (de_bin o_add q_add (DE.v (de_bin o_add q_add (DE.v (de_bin o_mul q_mul5 (DE.v (de_ix ix_seq q_ix (fun _ _ => rfl) (dv_peek (pv 0)) (DE.v de_int))) (DE.v de_int))) (DE.v (de_bin o_mul q_mul5 (dv_peek (pv 2)) (DE.v de_int))))) (DE.v de_int))) da_nil))) (DE.v de_int)))
      (dss_one (ds_put (pv 0) de_int (de_ifE (dt_cmp op_ge q_cmp rfl (dv_peek (pv 2)) (DE.v (de_bin op_pow q_pow (DE.v de_int) (DE.v de_int)))) (de_var (pv 2)) de_int)))))) dss_nil)
      (dss_cons (ds_if (dt_cmp op_gt q_cmp rfl (DE.v (de_ix ix_seq q_ix (fun _ _ => rfl) (dv_peek (pv 0)) (DE.v de_int))) (DE.v de_int)) (dss_cons (ds_set (i := 3) sc__law_draw.nd rfl (by first | exact .inl rfl | exact .inr rfl) (de_bin op_mod q_mod (DE.v (de_callTy call_int1 q_int (by rfl) T.z_int bt_int (da_cons (DE.v (de_ix ix_seq q_ix (fun _ _ => rfl) (dv_peek (pv 0)) (DE.v de_int))) da_nil))) (dv_peek (pv 1))))
      (dss_cons (ds_put (pv 0) de_int (de_bin op_fdiv q_div (DE.v (de_ix ix_seq q_ix (fun _ _ => rfl) (dv_peek (pv 0)) (DE.v de_int))) (dv_peek (pv 1))))
      (dss_one (ds_ret (de_move (pv 3)))))) dss_nil)
      (dss_cons (ds_put (pv 0) de_int (de_bin o_add q_add (DE.v (de_ix ix_seq q_ix (fun _ _ => rfl) (dv_peek (pv 0)) (DE.v de_int))) (DE.v de_int)))
      (dss_cons (ds_set (i := 4) sc__law_draw.nd rfl (by first | exact .inl rfl | exact .inr rfl) (de_bin op_mod q_mod (DE.v (de_callTy call_int1 q_int (by rfl) T.z_int bt_int (da_cons (DE.v (de_bin o_mul q_mul5 (DE.v (de_callTy call_int1 q_int (by rfl) T.z_int bt_int (da_cons (DE.v (de_bin o_add q_add (DE.v (de_ix ix_seq q_ix (fun _ _ => rfl) (dv_peek (pv 0)) (DE.v de_int))) (DE.v (de_bin o_mul q_mul5 (DE.v de_int) (DE.v (de_ix ix_seq q_ix (fun _ _ => rfl) (dv_peek (pv 0)) (DE.v de_int))))))) da_nil))) (DE.v de_int))) da_nil))) (DE.v de_int)))
      (dss_cons (ds_set (i := 4) sc__law_draw.nd rfl (by first | exact .inl rfl | exact .inr rfl) (de_bin op_mod q_mod (DE.v (de_callTy call_int1 q_int (by rfl) T.z_int bt_int (da_cons (DE.v (de_bin o_mul q_mul5 (dv_peek (pv 4)) (DE.v (de_bin o_add q_add (DE.v (de_bin op_fdiv q_div (dv_peek (pv 4)) (DE.v de_int))) (DE.v de_int))))) da_nil))) (DE.v de_int)))
      (dss_cons (ds_set (i := 4) sc__law_draw.nd rfl (by first | exact .inl rfl | exact .inr rfl) (de_bin op_mod q_mod (DE.v (de_callTy call_int1 q_int (by rfl) T.z_int bt_int (da_cons (DE.v (de_bin o_mul q_mul5 (dv_peek (pv 4)) (DE.v (de_bin o_add q_add (DE.v (de_bin op_fdiv q_div (dv_peek (pv 4)) (DE.v de_int))) (DE.v de_int))))) da_nil))) (DE.v de_int)))
      (dss_one (ds_ret (de_bin op_mod q_mod (DE.v (de_callTy call_int1 q_int (by rfl) T.z_int bt_int (da_cons (DE.v (de_bin op_fdiv q_div (dv_peek (pv 4)) (DE.v de_int))) da_nil))) (dv_peek (pv 1)))))))))))) gOf_n fun ws h => gOf_g h
abbrev s__law_times : Stmt := topS 42
def b__law_times : Fr → SO :=
  (sSeq (sSetT (.tp ((.tp ((.nm 2) :: ((.nm 3) :: []))) :: ((.tp ((.nm 4) :: ((.nm 5) :: []))) :: []))) (sVar 0))
    (sSeq (sSetT (.tp ((.tp ((.nm 6) :: ((.nm 7) :: []))) :: ((.tp ((.nm 8) :: ((.nm 9) :: []))) :: []))) (sVar 1))
    (sRet (sTup (aCons (aV (sTup (aCons (aV (sB gAdd (aCons (aV (sB gMul4 (aCons (aP 2) (aCons (aP 6) aNil)))) (aCons (aV (sB gMul4 (aCons (aP 3) (aCons (aP 8) aNil)))) aNil)))) (aCons (aV (sB gAdd (aCons (aV (sB gMul4 (aCons (aP 2) (aCons (aP 7) aNil)))) (aCons (aV (sB gMul4 (aCons (aP 3) (aCons (aP 9) aNil)))) aNil)))) aNil)))) (aCons (aV (sTup (aCons (aV (sB gAdd (aCons (aV (sB gMul4 (aCons (aP 4) (aCons (aP 6) aNil)))) (aCons (aV (sB gMul4 (aCons (aP 5) (aCons (aP 8) aNil)))) aNil)))) (aCons (aV (sB gAdd (aCons (aV (sB gMul4 (aCons (aP 4) (aCons (aP 7) aNil)))) (aCons (aV (sB gMul4 (aCons (aP 5) (aCons (aP 9) aNil)))) aNil)))) aNil)))) aNil))))))
def g__law_times : List Wd → RF := gOf 2 10 b__law_times
theorem v__law_times (x0 x1 : Wd) : g__law_times [x0, x1] = closeR [x0, x1] (b__law_times [some x0, some x1, none, none, none, none, none, none, none, none]) := rfl
theorem sc__law_times : FnScope ["one", "other", "a", "b", "c", "d", "e", "f", "g", "h"] ["one", "other"] (defScope s__law_times) := ⟨rfl, rfl, rfl, by decide +kernel, rfl, by decide +kernel, by decide +kernel⟩
theorem c__law_times (T : Tx K mg)  {f : Addr} {fd : FuncData} (F : L2.Fun K "_law_times" "_law_times" s__law_times f fd) (hm : mg "_law_times" = some (.ref f)) : Cl P w K mg base 1 "_law_times" 2 g__law_times :=
  cl_of (body := b__law_times) F hm (F.binds fun _ _ _ _ _ _ us hl => match us, hl with | [_, _], _ => rfl) sc__law_times (fun cdv A outer s H E hr =>
    have hu := hr.units
    (dss_cons (ds_setT (de_var (pv 0)) (dg_tp rfl (dgs_cons (dg_tp rfl (dgs_cons (dg_nm (i := 2) sc__law_times.nd rfl (by first | exact .inl rfl | exact .inr rfl)) (dgs_cons (dg_nm (i := 3) sc__law_times.nd rfl (by first | exact .inl rfl | exact .inr rfl)) dgs_nil))) (dgs_cons (dg_tp rfl (dgs_cons (dg_nm (i := 4) sc__law_times.nd rfl (by first | exact .inl rfl | exact .inr rfl)) (dgs_cons (dg_nm (i := 5) sc__law_times.nd rfl (by first | exact .inl rfl | exact .inr rfl)) dgs_nil))) dgs_nil))))
      (dss_cons (ds_setT (de_var (pv 1)) (dg_tp rfl (dgs_cons (dg_tp rfl (dgs_cons (dg_nm (i := 6) sc__law_times.nd rfl (by first | exact .inl rfl | exact .inr rfl)) (dgs_cons (dg_nm (i := 7) sc__law_times.nd rfl (by first | exact .inl rfl | exact .inr rfl)) dgs_nil))) (dgs_cons (dg_tp rfl (dgs_cons (dg_nm (i := 8) sc__law_times.nd rfl (by first | exact .inl rfl | exact .inr rfl)) (dgs_cons (dg_nm (i := 9) sc__law_times.nd rfl (by first | exact .inl rfl | exact .inr rfl)) dgs_nil))) dgs_nil))))
      (dss_one (ds_ret (de_tup (da_cons (DE.v (de_tup (da_cons (DE.v (de_bin o_add q_add (DE.v (de_bin o_mul q_mul5 (dv_peek (pv 2)) (dv_peek (pv 6)))) (DE.v (de_bin o_mul q_mul5 (dv_peek (pv 3)) (dv_peek (pv 8)))))) (da_cons (DE.v (de_bin o_add q_add (DE.v (de_bin o_mul q_mul5 (dv_peek (pv 2)) (dv_peek (pv 7)))) (DE.v (de_bin o_mul q_mul5 (dv_peek (pv 3)) (dv_peek (pv 9)))))) da_nil)))) (da_cons (DE.v (de_tup (da_cons (DE.v (de_bin o_add q_add (DE.v (de_bin o_mul q_mul5 (dv_peek (pv 4)) (dv_peek (pv 6)))) (DE.v (de_bin o_mul q_mul5 (dv_peek (pv 5)) (dv_peek (pv 8)))))) (da_cons (DE.v (de_bin o_add q_add (DE.v (de_bin o_mul q_mul5 (dv_peek (pv 4)) (dv_peek (pv 7)))) (DE.v (de_bin o_mul q_mul5 (dv_peek (pv 5)) (dv_peek (pv 9)))))) da_nil)))) da_nil)))))))) gOf_n fun ws h => gOf_g h
abbrev s__law_is_plain : Stmt := topS 44
def b__law_is_plain : Fr → SO :=
  (sSeq (sIf (sOr (sNot (sT (sB gIsi (aCons (aP 0) (aCons (aV (sC (.ty "tuple"))) aNil))))) (sT (sB gNe (aCons (aV (sB gLen (aCons (aP 0) aNil))) (aCons (aV (sC (.int 2))) aNil))))) (sRet (sC (.bl false))) sNx)
    (sSeq (sFor (.nm 1) (sSeqI (aV (sVar 0))) (sSeq (sIf (sOr (sNot (sT (sB gIsi (aCons (aP 1) (aCons (aV (sC (.ty "tuple"))) aNil))))) (sT (sB gNe (aCons (aV (sB gLen (aCons (aP 1) aNil))) (aCons (aV (sC (.int 2))) aNil))))) (sRet (sC (.bl false))) sNx)
    (sIf (sNot (sT (sB gAll (aCons (aV (sLc (.nm 2) (sSeqI (aV (sVar 1))) sYes (sAndV (sB gIsi (aCons (aP 2) (aCons (aV (sC (.ty "int"))) aNil))) (sAndV (sNotV (sB gIsi (aCons (aP 2) (aCons (aV (sC (.ty "bool"))) aNil)))) (sB (gCmp fun i j => decide (i ≤ j)) (aCons (aV (sB gAbs (aCons (aP 2) aNil))) (aCons (aV (sB gPow (aCons (aV (sC (.int 10))) (aCons (aV (sC (.int 18))) aNil)))) aNil))))) [2])) aNil)))) (sRet (sC (.bl false))) sNx)))
    (sRet (sC (.bl true)))))
def g__law_is_plain : List Wd → RF := gOf 1 3 b__law_is_plain
theorem v__law_is_plain (x0 : Wd) : g__law_is_plain [x0] = closeR [x0] (b__law_is_plain [some x0, none, none]) := rfl
theorem sc__law_is_plain : FnScope ["thing", "row", "one"] ["thing"] (defScope s__law_is_plain) := ⟨rfl, rfl, rfl, by decide +kernel, rfl, by decide +kernel, by decide +kernel⟩
theorem c__law_is_plain (T : Tx K mg)  {f : Addr} {fd : FuncData} (F : L2.Fun K "_law_is_plain" "_law_is_plain" s__law_is_plain f fd) (hm : mg "_law_is_plain" = some (.ref f)) : Cl P w K mg base 1 "_law_is_plain" 1 g__law_is_plain :=
  cl_of (body := b__law_is_plain) F hm (F.binds fun _ _ _ _ _ _ us hl => match us, hl with | [_], _ => rfl) sc__law_is_plain (fun cdv A outer s H E hr =>
    have hu := hr.units
    (dss_cons (ds_if (DW.t (dw_or (dt_not (dt_val (de_callB call_isi q_isi (by rfl) T.z_isinstance bt_isinstance (da_cons (dv_peek (pv 0)) (da_cons (DE.v (de_ty T.z_tuple bt_tuple)) da_nil))))) (dw_or1 (dt_cmp (op_neD hu) q_ne rfl (DE.v (de_callB call_len q_len (by rfl) T.z_len bt_len (da_cons (dv_peek (pv 0)) da_nil))) (DE.v de_int))))) (dss_one (ds_ret de_bl)) dss_nil)
      (dss_cons (ds_for passesB rfl (di_seq (DE.v (de_var (pv 0)))) (dg_nm (i := 1) sc__law_is_plain.nd rfl (by first | exact .inl rfl | exact .inr rfl)) (dss_cons (ds_if (DW.t (dw_or (dt_not (dt_val (de_callB call_isi q_isi (by rfl) T.z_isinstance bt_isinstance (da_cons (dv_peek (pv 1)) (da_cons (DE.v (de_ty T.z_tuple bt_tuple)) da_nil))))) (dw_or1 (dt_cmp (op_neD hu) q_ne rfl (DE.v (de_callB call_len q_len (by rfl) T.z_len bt_len (da_cons (dv_peek (pv 1)) da_nil))) (DE.v de_int))))) (dss_one (ds_ret de_bl)) dss_nil)
      (dss_one (ds_if (dt_not (dt_val (de_callB (cr_all rfl) q_all (by rfl) T.z_all bt_all (da_cons (DE.v (de_lc0 (own := [("one", 2)]) rfl sc__law_is_plain.nd (di_seq (DE.v (de_var (pv 1)))) (blkOk_by (by show blkC ["thing", "row", "one"] (defScope s__law_is_plain) _ _ = true; decide +kernel)) (fun _ => (dg_nm (i := 2) sc__law_is_plain.nd rfl (by first | exact .inl rfl | exact .inr rfl))) (fun _ => (de_and (de_callB call_isi q_isi (by rfl) T.z_isinstance bt_isinstance (da_cons (dv_peek (pv 2)) (da_cons (DE.v (de_ty T.z_int bt_int)) da_nil))) (de_and (de_not (de_callB call_isi q_isi (by rfl) T.z_isinstance bt_isinstance (da_cons (dv_peek (pv 2)) (da_cons (DE.v (de_ty T.z_bool bt_bool)) da_nil)))) (de_one (de_cmp op_le q_cmp rfl (DE.v (de_callB call_abs q_abs (by rfl) T.z_abs bt_abs (da_cons (dv_peek (pv 2)) da_nil))) (DE.v (de_bin op_pow q_pow (DE.v de_int) (DE.v de_int)))))))))) da_nil)))) (dss_one (ds_ret de_bl)) dss_nil))))
      (dss_one (ds_ret de_bl))))) gOf_n fun ws h => gOf_g h
abbrev s_is_within : Stmt := topS 2
def b_is_within : Fr → SO :=
  (sRet (sAndV (sCall g_is_integer (aCons (aV (sVar 0)) aNil)) (sChain (gCmp fun i j => decide (i ≤ j)) (gCmp fun i j => decide (i ≤ j)) (aP 1) (aP 0) (aP 2))))
def g_is_within : List Wd → RF := gOf 3 3 b_is_within
theorem v_is_within (x0 x1 x2 : Wd) : g_is_within [x0, x1, x2] = closeR [x0, x1, x2] (b_is_within [some x0, some x1, some x2]) := rfl
theorem sc_is_within : FnScope ["thing", "least", "most"] ["thing", "least", "most"] (defScope s_is_within) := ⟨rfl, rfl, rfl, by decide +kernel, rfl, by decide +kernel, by decide +kernel⟩
theorem c_is_within (T : Tx K mg) (c_is_integer : Cl P w K mg base 1 "is_integer" 1 g_is_integer) {f : Addr} {fd : FuncData} (F : L2.Fun K "is_within" "is_within" s_is_within f fd) (hm : mg "is_within" = some (.ref f)) : Cl P w K mg base 2 "is_within" 3 g_is_within :=
  cl_of (body := b_is_within) F hm (F.binds fun _ _ _ _ _ _ us hl => match us, hl with | [_, _, _], _ => rfl) sc_is_within (fun cdv A outer s H E hr =>
    have hu := hr.units
    (dss_one (ds_ret (de_and (de_cl c_is_integer hr takesB (da_cons (DE.v (de_var (pv 0))) da_nil)) (de_one (de_chain op_le op_le q_cmp q_cmp (dv_peek (pv 1)) (dv_peek (pv 0)) (dv_peek (pv 2)))))))) gOf_n fun ws h => gOf_g h
abbrev s_is_square_table : Stmt := topS 23
def b_is_square_table : Fr → SO :=
  (sSeq (sIf (sOr (sNot (sT (sCall g_is_tuple (aCons (aV (sVar 0)) (aCons (aV (sC (.int 2))) (aCons (aV (sC (.int 2))) aNil)))))) (sNot (sT (sB gAll (aCons (aV (sLc (.nm 1) (sSeqI (aV (sVar 0))) sYes (sCall g_is_tuple (aCons (aV (sVar 1)) (aCons (aV (sC (.int 2))) (aCons (aV (sC (.int 2))) aNil)))) [1])) aNil))))) (sRet (sC (.bl false))) sNx)
    (sSeq (sIf (sNot (sT (sB gAll (aCons (aV (sLc2 (.nm 1) (sSeqI (aV (sVar 0))) sYes (.nm 2) (sSeqI (aV (sVar 1))) sYes (sAndV (sCall g_is_integer (aCons (aV (sVar 2)) aNil)) (sB (gCmp fun i j => decide (i ≤ j)) (aCons (aV (sB gAbs (aCons (aP 2) aNil))) (aCons (aV (sB gPow (aCons (aV (sC (.int 10))) (aCons (aV (sC (.int 18))) aNil)))) aNil)))) [1, 2] [2])) aNil)))) (sRet (sC (.bl false))) sNx)
    (sRet (sB gEq (aCons (aV (sB gSub (aCons (aV (sB gMul4 (aCons (aV (sB gIx (aCons (aV (sB gIx (aCons (aP 0) (aCons (aV (sC (.int 0))) aNil)))) (aCons (aV (sC (.int 0))) aNil)))) (aCons (aV (sB gIx (aCons (aV (sB gIx (aCons (aP 0) (aCons (aV (sC (.int 1))) aNil)))) (aCons (aV (sC (.int 1))) aNil)))) aNil)))) (aCons (aV (sB gMul4 (aCons (aV (sB gIx (aCons (aV (sB gIx (aCons (aP 0) (aCons (aV (sC (.int 0))) aNil)))) (aCons (aV (sC (.int 1))) aNil)))) (aCons (aV (sB gIx (aCons (aV (sB gIx (aCons (aP 0) (aCons (aV (sC (.int 1))) aNil)))) (aCons (aV (sC (.int 0))) aNil)))) aNil)))) aNil)))) (aCons (aV (sC (.int 1))) aNil))))))
def g_is_square_table : List Wd → RF := gOf 1 3 b_is_square_table
theorem v_is_square_table (x0 : Wd) : g_is_square_table [x0] = closeR [x0] (b_is_square_table [some x0, none, none]) := rfl
theorem sc_is_square_table : FnScope ["thing", "row", "one"] ["thing"] (defScope s_is_square_table) := ⟨rfl, rfl, rfl, by decide +kernel, rfl, by decide +kernel, by decide +kernel⟩
theorem c_is_square_table (T : Tx K mg) (c_is_tuple : Cl P w K mg base 1 "is_tuple" 3 g_is_tuple) (c_is_integer : Cl P w K mg base 1 "is_integer" 1 g_is_integer) {f : Addr} {fd : FuncData} (F : L2.Fun K "is_square_table" "is_square_table" s_is_square_table f fd) (hm : mg "is_square_table" = some (.ref f)) : Cl P w K mg base 2 "is_square_table" 1 g_is_square_table :=
  cl_of (body := b_is_square_table) F hm (F.binds fun _ _ _ _ _ _ us hl => match us, hl with | [_], _ => rfl) sc_is_square_table (fun cdv A outer s H E hr =>
    have hu := hr.units
    (dss_cons (ds_if (DW.t (dw_or (dt_not (dt_val (de_cl c_is_tuple hr takesB (da_cons (DE.v (de_var (pv 0))) (da_cons (DE.v de_int) (da_cons (DE.v de_int) da_nil)))))) (dw_or1 (dt_not (dt_val (de_callB (cr_all rfl) q_all (by rfl) T.z_all bt_all (da_cons (DE.v (de_lc0 (own := [("row", 1)]) rfl sc_is_square_table.nd (di_seq (DE.v (de_var (pv 0)))) (blkOk_by (by show blkC ["thing", "row", "one"] (defScope s_is_square_table) _ _ = true; decide +kernel)) (fun _ => (dg_nm (i := 1) sc_is_square_table.nd rfl (by first | exact .inl rfl | exact .inr rfl))) (fun _ => (de_cl c_is_tuple hr takes_w0 (da_cons (DE.v (de_var (pv 1))) (da_cons (DE.v de_int) (da_cons (DE.v de_int) da_nil))))))) da_nil))))))) (dss_one (ds_ret de_bl)) dss_nil)
      (dss_cons (ds_if (dt_not (dt_val (de_callB (cr_all rfl) q_all (by rfl) T.z_all bt_all (da_cons (DE.v (de_lc2 (own := [("row", 1), ("one", 2)]) (vs1 := [2]) rfl sc_is_square_table.nd (di_seq (DE.v (de_var (pv 0)))) (blkOk_by (by show blkC ["thing", "row", "one"] (defScope s_is_square_table) _ _ = true; decide +kernel)) (by decide) (fun _ => (dg_nm (i := 1) sc_is_square_table.nd rfl (by first | exact .inl rfl | exact .inr rfl))) (fun _ => (di_seq (DE.v (de_var (pv 1))))) (fun _ => (dg_nm (i := 2) sc_is_square_table.nd rfl (by first | exact .inl rfl | exact .inr rfl))) (fun _ => (de_and (de_cl c_is_integer hr takes_w0 (da_cons (DE.v (de_var (pv 2))) da_nil)) (de_one (de_cmp op_le q_cmp rfl (DE.v (de_callB call_abs q_abs (by rfl) T.z_abs bt_abs (da_cons (dv_peek (pv 2)) da_nil))) (DE.v (de_bin op_pow q_pow (DE.v de_int) (DE.v de_int))))))))) da_nil)))) (dss_one (ds_ret de_bl)) dss_nil)
      (dss_one (ds_ret (de_cmp (op_eqD hu) q_eq rfl (DE.v (de_bin op_sub q_sub (DE.v (de_bin o_mul q_mul5 (DE.v (de_ix ix_seq q_ix (fun _ _ => rfl) (DE.v (de_ix ix_seq q_ix (fun _ _ => rfl) (dv_peek (pv 0)) (DE.v de_int))) (DE.v de_int))) (DE.v (de_ix ix_seq q_ix (fun _ _ => rfl) (DE.v (de_ix ix_seq q_ix (fun _ _ => rfl) (dv_peek (pv 0)) (DE.v de_int))) (DE.v de_int))))) (DE.v (de_bin o_mul q_mul5 (DE.v (de_ix ix_seq q_ix (fun _ _ => rfl) (DE.v (de_ix ix_seq q_ix (fun _ _ => rfl) (dv_peek (pv 0)) (DE.v de_int))) (DE.v de_int))) (DE.v (de_ix ix_seq q_ix (fun _ _ => rfl) (DE.v (de_ix ix_seq q_ix (fun _ _ => rfl) (dv_peek (pv 0)) (DE.v de_int))) (DE.v de_int))))))) (DE.v de_int))))))) gOf_n fun ws h => gOf_g h
abbrev s_table_by : Stmt := topS 29
def b_table_by : Fr → SO :=
  (sSeq (sSet 2 (sC (.tup [(.tup [(.int (1)), (.int (0))]), (.tup [(.int (0)), (.int (1))])])))
    (sSeq (sFor (.nm 3) (sSeqI (aV (sVar 0))) (sSet 2 (sCall g_table_times (aCons (aV (sVar 2)) (aCons (aV (sIfE (sT (sB (gCmp fun i j => decide (i > j)) (aCons (aP 3) (aCons (aV (sC (.int 0))) aNil)))) (sB gIx (aCons (aP 1) (aCons (aV (sB gSub (aCons (aP 3) (aCons (aV (sC (.int 1))) aNil)))) aNil))) (sCall g_table_back (aCons (aV (sB gIx (aCons (aP 1) (aCons (aV (sB gSub (aCons (aV (sB gNeg (aCons (aP 3) aNil))) (aCons (aV (sC (.int 1))) aNil)))) aNil)))) aNil)))) aNil)))))
    (sRet (sMove 2))))
def g_table_by : List Wd → RF := gOf 2 4 b_table_by
theorem v_table_by (x0 x1 : Wd) : g_table_by [x0, x1] = closeR [x0, x1] (b_table_by [some x0, some x1, none, none]) := rfl
theorem sc_table_by : FnScope ["word", "tables", "found", "one"] ["word", "tables"] (defScope s_table_by) := ⟨rfl, rfl, rfl, by decide +kernel, rfl, by decide +kernel, by decide +kernel⟩
theorem c_table_by (T : Tx K mg) (c_table_times : Cl P w K mg base 1 "table_times" 2 g_table_times) (c_table_back : Cl P w K mg base 1 "table_back" 1 g_table_back) {f : Addr} {fd : FuncData} (F : L2.Fun K "table_by" "table_by" s_table_by f fd) (hm : mg "table_by" = some (.ref f)) : Cl P w K mg base 2 "table_by" 2 g_table_by :=
  cl_of (body := b_table_by) F hm (F.binds fun _ _ _ _ _ _ us hl => match us, hl with | [_, _], _ => rfl) sc_table_by (fun cdv A outer s H E hr =>
    have hu := hr.units
    (dss_cons (ds_set (i := 2) sc_table_by.nd rfl (by first | exact .inl rfl | exact .inr rfl) (de_globC T.v_UNIT))
      (dss_cons (ds_for passesB rfl (di_seq (DE.v (de_var (pv 0)))) (dg_nm (i := 3) sc_table_by.nd rfl (by first | exact .inl rfl | exact .inr rfl)) (dss_one (ds_set (i := 2) sc_table_by.nd rfl (by first | exact .inl rfl | exact .inr rfl) (de_cl c_table_times hr takesB (da_cons (DE.v (de_var (pv 2))) (da_cons (DE.v (de_ifE (dt_cmp op_gt q_cmp rfl (dv_peek (pv 3)) (DE.v de_int)) (de_ix ix_seq q_ix (fun _ _ => rfl) (dv_peek (pv 1)) (DE.v (de_bin op_sub q_sub (dv_peek (pv 3)) (DE.v de_int)))) (de_cl c_table_back hr takesB (da_cons (DE.v (de_ix ix_seq q_ix (fun _ _ => rfl) (dv_peek (pv 1)) (DE.v (de_bin op_sub q_sub (DE.v (de_un un_neg q_neg (dv_peek (pv 3)))) (DE.v de_int))))) da_nil)))) da_nil))))))
      (dss_one (ds_ret (de_move (pv 2))))))) gOf_n fun ws h => gOf_g h
abbrev s_word_for : Stmt := topS 33
def b_word_for : Fr → SO :=
  (sSeq (sPar2 1 2 (sLst aNil) (sVar 0))
    (sSeq (whileF (sT (sB gNe (aCons (aP 2) (aCons (aV (sC (.tup [(.tup [(.int (1)), (.int (0))]), (.tup [(.int (0)), (.int (1))])]))) aNil)))) (sSeq (sIf (sT (sB gEq (aCons (aV (sB gLen (aCons (aP 1) aNil))) (aCons (aV (sC (.int 400))) aNil)))) sNever sNx)
    (sSeq (sSet 3 (sC .non))
    (sSeq (sFor (.nm 4) (sSeqI (aV (sTup (aCons (aV (sC (.int 1))) (aCons (aV (sB gNeg (aCons (aV (sC (.int 1))) aNil))) (aCons (aV (sC (.int 2))) (aCons (aV (sB gNeg (aCons (aV (sC (.int 2))) aNil))) aNil))))))) (sSeq (sSet 5 (sIfE (sT (sB gEq (aCons (aV (sB gAbs (aCons (aP 4) aNil))) (aCons (aV (sC (.int 1))) aNil)))) (sC (.tup [(.tup [(.int (1)), (.int (2))]), (.tup [(.int (0)), (.int (1))])])) (sC (.tup [(.tup [(.int (1)), (.int (0))]), (.tup [(.int (2)), (.int (1))])]))))
    (sSeq (sSet 6 (sCall g_table_times (aCons (aV (sIfE (sT (sB (gCmp fun i j => decide (i > j)) (aCons (aP 4) (aCons (aV (sC (.int 0))) aNil)))) (sCall g_table_back (aCons (aV (sVar 5)) aNil)) (sVar 5))) (aCons (aV (sVar 2)) aNil))))
    (sIf (sAnd (sT (sB (gCmp fun i j => decide (i < j)) (aCons (aV (sCall g_size_of (aCons (aV (sVar 6)) aNil))) (aCons (aV (sCall g_size_of (aCons (aV (sVar 2)) aNil))) aNil)))) (sOr (sT (sB gIsN (aCons (aP 3) (aCons (aV (sC .non)) aNil)))) (sT (sB (gCmp fun i j => decide (i < j)) (aCons (aV (sCall g_size_of (aCons (aV (sVar 6)) aNil))) (aCons (aV (sCall g_size_of (aCons (aV (sB gIx (aCons (aP 3) (aCons (aV (sC (.int 1))) aNil)))) aNil))) aNil)))))) (sSet 3 (sTup (aCons (aV (sVar 4)) (aCons (aV (sVar 6)) aNil)))) sNx))))
    (sSeq (sDo (sMeth 1 mAppend (aCons (aV (sB gIx (aCons (aP 3) (aCons (aV (sC (.int 0))) aNil)))) aNil)))
    (sSet 2 (sB gIx (aCons (aP 3) (aCons (aV (sC (.int 1))) aNil)))))))) fuelN)
    (sRet (sB gTuple (aCons (aP 1) aNil)))))
def g_word_for : List Wd → RF := gOf 1 7 b_word_for
theorem v_word_for (x0 : Wd) : g_word_for [x0] = closeR [x0] (b_word_for [some x0, none, none, none, none, none, none]) := rfl
theorem sc_word_for : FnScope ["table", "found", "here", "told", "one", "step", "later"] ["table"] (defScope s_word_for) := ⟨rfl, rfl, rfl, by decide +kernel, rfl, by decide +kernel, by decide +kernel⟩
theorem c_word_for (T : Tx K mg) (c_table_times : Cl P w K mg base 1 "table_times" 2 g_table_times) (c_table_back : Cl P w K mg base 1 "table_back" 1 g_table_back) (c_size_of : Cl P w K mg base 1 "size_of" 1 g_size_of) {f : Addr} {fd : FuncData} (F : L2.Fun K "word_for" "word_for" s_word_for f fd) (hm : mg "word_for" = some (.ref f)) : Cl P w K mg base 2 "word_for" 1 g_word_for :=
  cl_of (body := b_word_for) F hm (F.binds fun _ _ _ _ _ _ us hl => match us, hl with | [_], _ => rfl) sc_word_for (fun cdv A outer s H E hr =>
    have hu := hr.units
    (dss_cons (ds_par2 (i := 1) (j := 2) rfl sc_word_for.nd rfl rfl rfl rfl (de_lst da_nil) (de_var (pv 0)))
      (dss_cons (ds_while fuelN passesB (dt_cmp (op_neD hu) q_ne rfl (dv_peek (pv 2)) (DE.v (de_globC T.v_UNIT))) (dss_cons (ds_if (dt_cmp (op_eqD hu) q_eq rfl (DE.v (de_callB call_len q_len (by rfl) T.z_len bt_len (da_cons (dv_peek (pv 1)) da_nil))) (DE.v de_int)) (dss_one ds_never) dss_nil)
      (dss_cons (ds_set (i := 3) sc_word_for.nd rfl (by first | exact .inl rfl | exact .inr rfl) de_non)
      (dss_cons (ds_for passesB rfl (di_seq (DE.v (de_tup (da_cons (DE.v de_int) (da_cons (DE.v (de_un un_neg q_neg (DE.v de_int))) (da_cons (DE.v de_int) (da_cons (DE.v (de_un un_neg q_neg (DE.v de_int))) da_nil))))))) (dg_nm (i := 4) sc_word_for.nd rfl (by first | exact .inl rfl | exact .inr rfl)) (dss_cons (ds_set (i := 5) sc_word_for.nd rfl (by first | exact .inl rfl | exact .inr rfl) (de_ifE (dt_cmp (op_eqD hu) q_eq rfl (DE.v (de_callB call_abs q_abs (by rfl) T.z_abs bt_abs (da_cons (dv_peek (pv 4)) da_nil))) (DE.v de_int)) (de_globC T.v_FIRST) (de_globC T.v_SECOND)))
      (dss_cons (ds_set (i := 6) sc_word_for.nd rfl (by first | exact .inl rfl | exact .inr rfl) (de_cl c_table_times hr takesB (da_cons (DE.v (de_ifE (dt_cmp op_gt q_cmp rfl (dv_peek (pv 4)) (DE.v de_int)) (de_cl c_table_back hr takesB (da_cons (DE.v (de_var (pv 5))) da_nil)) (de_var (pv 5)))) (da_cons (DE.v (de_var (pv 2))) da_nil))))
      (dss_one (ds_if (DW.t (dw_and (dt_cmp op_lt q_cmp rfl (DE.v (de_cl c_size_of hr takesB (da_cons (DE.v (de_var (pv 6))) da_nil))) (DE.v (de_cl c_size_of hr takesB (da_cons (DE.v (de_var (pv 2))) da_nil)))) (dw_and1 (DW.t (dw_or (dt_cmp o_is q_is rfl (dv_peek (pv 3)) (DE.v de_non)) (dw_or1 (dt_cmp op_lt q_cmp rfl (DE.v (de_cl c_size_of hr takesB (da_cons (DE.v (de_var (pv 6))) da_nil))) (DE.v (de_cl c_size_of hr takesB (da_cons (DE.v (de_ix ix_seq q_ix (fun _ _ => rfl) (dv_peek (pv 3)) (DE.v de_int))) da_nil)))))))))) (dss_one (ds_set (i := 3) sc_word_for.nd rfl (by first | exact .inl rfl | exact .inr rfl) (de_tup (da_cons (DE.v (de_var (pv 4))) (da_cons (DE.v (de_var (pv 6))) da_nil))))) dss_nil)))))
      (dss_cons (ds_do (de_meth (pv 1) PySem.F.slot_list_append PySem.F.type_list_append mt_append m_append (da_cons (DE.v (de_ix ix_seq q_ix (fun _ _ => rfl) (dv_peek (pv 3)) (DE.v de_int))) da_nil)))
      (dss_one (ds_set (i := 2) sc_word_for.nd rfl (by first | exact .inl rfl | exact .inr rfl) (de_ix ix_seq q_ix (fun _ _ => rfl) (dv_peek (pv 3)) (DE.v de_int)))))))))
      (dss_one (ds_ret (de_callTy call_tuple_of q_tuple (by rfl) T.z_tuple bt_tuple (da_cons (dv_peek (pv 1)) da_nil))))))) gOf_n fun ws h => gOf_g h
abbrev s__law_some : Stmt := topS 39
def b__law_some : Fr → SO :=
  (sRet (sB gIx (aCons (aP 1) (aCons (aV (sCallL g__law_draw (aCons (aP 0) (aCons (aV (sB gLen (aCons (aP 1) aNil))) aNil)))) aNil))))
def g__law_some : List Wd → RF := gOf 2 2 b__law_some
theorem v__law_some (x0 x1 : Wd) : g__law_some [x0, x1] = closeR [x0, x1] (b__law_some [some x0, some x1]) := rfl
theorem sc__law_some : FnScope ["hand", "things"] ["hand", "things"] (defScope s__law_some) := ⟨rfl, rfl, rfl, by decide +kernel, rfl, by decide +kernel, by decide +kernel⟩
theorem c__law_some (T : Tx K mg) (c__law_draw : Cl P w K mg base 1 "_law_draw" 2 g__law_draw) {f : Addr} {fd : FuncData} (F : L2.Fun K "_law_some" "_law_some" s__law_some f fd) (hm : mg "_law_some" = some (.ref f)) : Cl P w K mg base 2 "_law_some" 2 g__law_some :=
  cl_of (body := b__law_some) F hm (F.binds fun _ _ _ _ _ _ us hl => match us, hl with | [_, _], _ => rfl) sc__law_some (fun cdv A outer s H E hr =>
    have hu := hr.units
    (dss_one (ds_ret (de_ix ix_seq q_ix (fun _ _ => rfl) (dv_peek (pv 1)) (DE.v (de_clL c__law_draw hr takesB (da_cons (dv_peek (pv 0)) (da_cons (DE.v (de_callB call_len q_len (by rfl) T.z_len bt_len (da_cons (dv_peek (pv 1)) da_nil))) da_nil)))))))) gOf_n fun ws h => gOf_g h
abbrev s__law_word : Stmt := topS 40
def b__law_word : Fr → SO :=
  (sSeq (sSet 3 (sTup aNil))
    (sSeq (sFor (.nm 4) (sRange1 (aCons (aV (sCallL g__law_draw (aCons (aP 0) (aCons (aV (sB gAdd (aCons (aP 2) (aCons (aV (sC (.int 1))) aNil)))) aNil)))) aNil)) (sSeq (sSet 5 (sB gMul4 (aCons (aV (sB gAdd (aCons (aV (sC (.int 1))) (aCons (aV (sCallL g__law_draw (aCons (aP 0) (aCons (aV (sVar 1)) aNil)))) aNil)))) (aCons (aV (sB gSub (aCons (aV (sC (.int 1))) (aCons (aV (sB gMul4 (aCons (aV (sC (.int 2))) (aCons (aV (sCallL g__law_draw (aCons (aP 0) (aCons (aV (sC (.int 2))) aNil)))) aNil)))) aNil)))) aNil))))
    (sSet 3 (sIfE (sAnd (sT (sB (gCmp fun i j => decide (i > j)) (aCons (aV (sB gLen (aCons (aP 3) aNil))) (aCons (aV (sC (.int 0))) aNil)))) (sT (sB gEq (aCons (aV (sB gIx (aCons (aP 3) (aCons (aV (sB gNeg (aCons (aV (sC (.int 1))) aNil))) aNil)))) (aCons (aV (sB gSub (aCons (aV (sC (.int 0))) (aCons (aP 5) aNil)))) aNil))))) (sSl gSl (aP 3) sNo (sPt (sB gNeg (aCons (aV (sC (.int 1))) aNil)))) (sB gAdd (aCons (aP 3) (aCons (aV (sTup (aCons (aV (sVar 5)) aNil))) aNil)))))))
    (sRet (sMove 3))))
def g__law_word : List Wd → RF := gOf 3 6 b__law_word
theorem v__law_word (x0 x1 x2 : Wd) : g__law_word [x0, x1, x2] = closeR [x0, x1, x2] (b__law_word [some x0, some x1, some x2, none, none, none]) := rfl
theorem sc__law_word : FnScope ["hand", "rank", "most", "found", "turn", "letter"] ["hand", "rank", "most"] (defScope s__law_word) := ⟨rfl, rfl, rfl, by decide +kernel, rfl, by decide +kernel, by decide +kernel⟩
theorem c__law_word (T : Tx K mg) (c__law_draw : Cl P w K mg base 1 "_law_draw" 2 g__law_draw) {f : Addr} {fd : FuncData} (F : L2.Fun K "_law_word" "_law_word" s__law_word f fd) (hm : mg "_law_word" = some (.ref f)) : Cl P w K mg base 2 "_law_word" 3 g__law_word :=
  cl_of (body := b__law_word) F hm (F.binds fun _ _ _ _ _ _ us hl => match us, hl with | [_, _, _], _ => rfl) sc__law_word (fun cdv A outer s H E hr =>
    have hu := hr.units
    (dss_cons (ds_set (i := 3) sc__law_word.nd rfl (by first | exact .inl rfl | exact .inr rfl) (de_tup da_nil))
      (dss_cons (ds_for passesB rfl (di_range1 T.z_range (da_cons (DE.v (de_clL c__law_draw hr takesB (da_cons (dv_peek (pv 0)) (da_cons (DE.v (de_bin o_add q_add (dv_peek (pv 2)) (DE.v de_int))) da_nil)))) da_nil)) (dg_nm (i := 4) sc__law_word.nd rfl (by first | exact .inl rfl | exact .inr rfl)) (dss_cons (ds_set (i := 5) sc__law_word.nd rfl (by first | exact .inl rfl | exact .inr rfl) (de_bin o_mul q_mul5 (DE.v (de_bin o_add q_add (DE.v de_int) (DE.v (de_clL c__law_draw hr takesB (da_cons (dv_peek (pv 0)) (da_cons (DE.v (de_var (pv 1))) da_nil)))))) (DE.v (de_bin op_sub q_sub (DE.v de_int) (DE.v (de_bin o_mul q_mul5 (DE.v de_int) (DE.v (de_clL c__law_draw hr takesB (da_cons (dv_peek (pv 0)) (da_cons (DE.v de_int) da_nil))))))))))
      (dss_one (ds_set (i := 3) sc__law_word.nd rfl (by first | exact .inl rfl | exact .inr rfl) (de_ifE (DW.t (dw_and (dt_cmp op_gt q_cmp rfl (DE.v (de_callB call_len q_len (by rfl) T.z_len bt_len (da_cons (dv_peek (pv 3)) da_nil))) (DE.v de_int)) (dw_and1 (dt_cmp (op_eqD hu) q_eq rfl (DE.v (de_ix ix_seq q_ix (fun _ _ => rfl) (dv_peek (pv 3)) (DE.v (de_un un_neg q_neg (DE.v de_int))))) (DE.v (de_bin op_sub q_sub (DE.v de_int) (dv_peek (pv 5)))))))) (de_sl o_sl q_sl (dv_peek (pv 3)) do_no (do_pt (de_un un_neg q_neg (DE.v de_int)))) (de_bin o_add q_add (dv_peek (pv 3)) (DE.v (de_tup (da_cons (DE.v (de_var (pv 5))) da_nil)))))))))
      (dss_one (ds_ret (de_move (pv 3))))))) gOf_n fun ws h => gOf_g h
abbrev s__law_table : Stmt := topS 43
def b__law_table : Fr → SO :=
  (sSeq (sSet 1 (sDisp (pCons (sC (.int 1)) (sTup (aCons (aV (sTup (aCons (aV (sC (.int 1))) (aCons (aV (sC (.int 2))) aNil)))) (aCons (aV (sTup (aCons (aV (sC (.int 0))) (aCons (aV (sC (.int 1))) aNil)))) aNil))) (pCons (sB gNeg (aCons (aV (sC (.int 1))) aNil)) (sTup (aCons (aV (sTup (aCons (aV (sC (.int 1))) (aCons (aV (sB gNeg (aCons (aV (sC (.int 2))) aNil))) aNil)))) (aCons (aV (sTup (aCons (aV (sC (.int 0))) (aCons (aV (sC (.int 1))) aNil)))) aNil))) (pCons (sC (.int 2)) (sTup (aCons (aV (sTup (aCons (aV (sC (.int 1))) (aCons (aV (sC (.int 0))) aNil)))) (aCons (aV (sTup (aCons (aV (sC (.int 2))) (aCons (aV (sC (.int 1))) aNil)))) aNil))) (pCons (sB gNeg (aCons (aV (sC (.int 2))) aNil)) (sTup (aCons (aV (sTup (aCons (aV (sC (.int 1))) (aCons (aV (sC (.int 0))) aNil)))) (aCons (aV (sTup (aCons (aV (sB gNeg (aCons (aV (sC (.int 2))) aNil))) (aCons (aV (sC (.int 1))) aNil)))) aNil))) pNil))))))
    (sSeq (sSet 2 (sTup (aCons (aV (sTup (aCons (aV (sC (.int 1))) (aCons (aV (sC (.int 0))) aNil)))) (aCons (aV (sTup (aCons (aV (sC (.int 0))) (aCons (aV (sC (.int 1))) aNil)))) aNil))))
    (sSeq (sFor (.nm 3) (sSeqI (aV (sVar 0))) (sSet 2 (sCall g__law_times (aCons (aV (sVar 2)) (aCons (aV (sB gDix (aCons (aP 1) (aCons (aP 3) aNil)))) aNil)))))
    (sRet (sMove 2)))))
def g__law_table : List Wd → RF := gOf 1 4 b__law_table
theorem v__law_table (x0 : Wd) : g__law_table [x0] = closeR [x0] (b__law_table [some x0, none, none, none]) := rfl
theorem sc__law_table : FnScope ["word", "some", "found", "letter"] ["word"] (defScope s__law_table) := ⟨rfl, rfl, rfl, by decide +kernel, rfl, by decide +kernel, by decide +kernel⟩
theorem c__law_table (T : Tx K mg) (c__law_times : Cl P w K mg base 1 "_law_times" 2 g__law_times) {f : Addr} {fd : FuncData} (F : L2.Fun K "_law_table" "_law_table" s__law_table f fd) (hm : mg "_law_table" = some (.ref f)) : Cl P w K mg base 2 "_law_table" 1 g__law_table :=
  cl_of (body := b__law_table) F hm (F.binds fun _ _ _ _ _ _ us hl => match us, hl with | [_], _ => rfl) sc__law_table (fun cdv A outer s H E hr =>
    have hu := hr.units
    (dss_cons (ds_set (i := 1) sc__law_table.nd rfl (by first | exact .inl rfl | exact .inr rfl) (de_disp (dp_cons de_int (de_tup (da_cons (DE.v (de_tup (da_cons (DE.v de_int) (da_cons (DE.v de_int) da_nil)))) (da_cons (DE.v (de_tup (da_cons (DE.v de_int) (da_cons (DE.v de_int) da_nil)))) da_nil))) (dp_cons (de_un un_neg q_neg (DE.v de_int)) (de_tup (da_cons (DE.v (de_tup (da_cons (DE.v de_int) (da_cons (DE.v (de_un un_neg q_neg (DE.v de_int))) da_nil)))) (da_cons (DE.v (de_tup (da_cons (DE.v de_int) (da_cons (DE.v de_int) da_nil)))) da_nil))) (dp_cons de_int (de_tup (da_cons (DE.v (de_tup (da_cons (DE.v de_int) (da_cons (DE.v de_int) da_nil)))) (da_cons (DE.v (de_tup (da_cons (DE.v de_int) (da_cons (DE.v de_int) da_nil)))) da_nil))) (dp_cons (de_un un_neg q_neg (DE.v de_int)) (de_tup (da_cons (DE.v (de_tup (da_cons (DE.v de_int) (da_cons (DE.v de_int) da_nil)))) (da_cons (DE.v (de_tup (da_cons (DE.v (de_un un_neg q_neg (DE.v de_int))) (da_cons (DE.v de_int) da_nil)))) da_nil))) dp_nil))))))
      (dss_cons (ds_set (i := 2) sc__law_table.nd rfl (by first | exact .inl rfl | exact .inr rfl) (de_tup (da_cons (DE.v (de_tup (da_cons (DE.v de_int) (da_cons (DE.v de_int) da_nil)))) (da_cons (DE.v (de_tup (da_cons (DE.v de_int) (da_cons (DE.v de_int) da_nil)))) da_nil))))
      (dss_cons (ds_for passesB rfl (di_seq (DE.v (de_var (pv 0)))) (dg_nm (i := 3) sc__law_table.nd rfl (by first | exact .inl rfl | exact .inr rfl)) (dss_one (ds_set (i := 2) sc__law_table.nd rfl (by first | exact .inl rfl | exact .inr rfl) (de_cl c__law_times hr takesB (da_cons (DE.v (de_var (pv 2))) (da_cons (DE.v (de_dix hu (dv_peek (pv 1)) (dv_peek (pv 3)))) da_nil))))))
      (dss_one (ds_ret (de_move (pv 2)))))))) gOf_n fun ws h => gOf_g h
abbrev s__law_is_of_word : Stmt := topS 45
def b__law_is_of_word : Fr → SO :=
  (sSeq (sIf (sNot (sT (sCall g__law_is_plain (aCons (aV (sVar 0)) aNil)))) (sRet (sC (.bl false))) sNx)
    (sSeq (sSetT (.tp ((.tp ((.nm 1) :: ((.nm 2) :: []))) :: ((.tp ((.nm 3) :: ((.nm 4) :: []))) :: []))) (sVar 0))
    (sSeq (sIf (sNot (sT (sB gEq (aCons (aV (sB gSub (aCons (aV (sB gMul4 (aCons (aP 1) (aCons (aP 4) aNil)))) (aCons (aV (sB gMul4 (aCons (aP 2) (aCons (aP 3) aNil)))) aNil)))) (aCons (aV (sC (.int 1))) aNil))))) (sRet (sC (.bl false))) sNx)
    (sSeq (sIf (sNot (sT (sB gEq (aCons (aV (sB gMod (aCons (aV (sB gInt (aCons (aP 2) aNil))) (aCons (aV (sC (.int 2))) aNil)))) (aCons (aV (sC (.int 0))) aNil))))) (sRet (sC (.bl false))) sNx)
    (sSeq (sIf (sNot (sT (sB gEq (aCons (aV (sB gMod (aCons (aV (sB gInt (aCons (aP 3) aNil))) (aCons (aV (sC (.int 2))) aNil)))) (aCons (aV (sC (.int 0))) aNil))))) (sRet (sC (.bl false))) sNx)
    (sSeq (sIf (sNot (sT (sB gEq (aCons (aV (sB gMod (aCons (aV (sB gInt (aCons (aP 1) aNil))) (aCons (aV (sC (.int 4))) aNil)))) (aCons (aV (sC (.int 1))) aNil))))) (sRet (sC (.bl false))) sNx)
    (sRet (sB gEq (aCons (aV (sB gMod (aCons (aV (sB gInt (aCons (aP 4) aNil))) (aCons (aV (sC (.int 4))) aNil)))) (aCons (aV (sC (.int 1))) aNil))))))))))
def g__law_is_of_word : List Wd → RF := gOf 1 5 b__law_is_of_word
theorem v__law_is_of_word (x0 : Wd) : g__law_is_of_word [x0] = closeR [x0] (b__law_is_of_word [some x0, none, none, none, none]) := rfl
theorem sc__law_is_of_word : FnScope ["thing", "a", "b", "c", "d"] ["thing"] (defScope s__law_is_of_word) := ⟨rfl, rfl, rfl, by decide +kernel, rfl, by decide +kernel, by decide +kernel⟩
theorem c__law_is_of_word (T : Tx K mg) (c__law_is_plain : Cl P w K mg base 1 "_law_is_plain" 1 g__law_is_plain) {f : Addr} {fd : FuncData} (F : L2.Fun K "_law_is_of_word" "_law_is_of_word" s__law_is_of_word f fd) (hm : mg "_law_is_of_word" = some (.ref f)) : Cl P w K mg base 2 "_law_is_of_word" 1 g__law_is_of_word :=
  cl_of (body := b__law_is_of_word) F hm (F.binds fun _ _ _ _ _ _ us hl => match us, hl with | [_], _ => rfl) sc__law_is_of_word (fun cdv A outer s H E hr =>
    have hu := hr.units
    (dss_cons (ds_if (dt_not (dt_val (de_cl c__law_is_plain hr takesB (da_cons (DE.v (de_var (pv 0))) da_nil)))) (dss_one (ds_ret de_bl)) dss_nil)
      (dss_cons (ds_setT (de_var (pv 0)) (dg_tp rfl (dgs_cons (dg_tp rfl (dgs_cons (dg_nm (i := 1) sc__law_is_of_word.nd rfl (by first | exact .inl rfl | exact .inr rfl)) (dgs_cons (dg_nm (i := 2) sc__law_is_of_word.nd rfl (by first | exact .inl rfl | exact .inr rfl)) dgs_nil))) (dgs_cons (dg_tp rfl (dgs_cons (dg_nm (i := 3) sc__law_is_of_word.nd rfl (by first | exact .inl rfl | exact .inr rfl)) (dgs_cons (dg_nm (i := 4) sc__law_is_of_word.nd rfl (by first | exact .inl rfl | exact .inr rfl)) dgs_nil))) dgs_nil))))
      (dss_cons (ds_if (dt_not (dt_cmp (op_eqD hu) q_eq rfl (DE.v (de_bin op_sub q_sub (DE.v (de_bin o_mul q_mul5 (dv_peek (pv 1)) (dv_peek (pv 4)))) (DE.v (de_bin o_mul q_mul5 (dv_peek (pv 2)) (dv_peek (pv 3)))))) (DE.v de_int))) (dss_one (ds_ret de_bl)) dss_nil)
      (dss_cons (ds_if (dt_not (dt_cmp (op_eqD hu) q_eq rfl (DE.v (de_bin op_mod q_mod (DE.v (de_callTy call_int1 q_int (by rfl) T.z_int bt_int (da_cons (dv_peek (pv 2)) da_nil))) (DE.v de_int))) (DE.v de_int))) (dss_one (ds_ret de_bl)) dss_nil)
      (dss_cons (ds_if (dt_not (dt_cmp (op_eqD hu) q_eq rfl (DE.v (de_bin op_mod q_mod (DE.v (de_callTy call_int1 q_int (by rfl) T.z_int bt_int (da_cons (dv_peek (pv 3)) da_nil))) (DE.v de_int))) (DE.v de_int))) (dss_one (ds_ret de_bl)) dss_nil)
      (dss_cons (ds_if (dt_not (dt_cmp (op_eqD hu) q_eq rfl (DE.v (de_bin op_mod q_mod (DE.v (de_callTy call_int1 q_int (by rfl) T.z_int bt_int (da_cons (dv_peek (pv 1)) da_nil))) (DE.v de_int))) (DE.v de_int))) (dss_one (ds_ret de_bl)) dss_nil)
      (dss_one (ds_ret (de_cmp (op_eqD hu) q_eq rfl (DE.v (de_bin op_mod q_mod (DE.v (de_callTy call_int1 q_int (by rfl) T.z_int bt_int (da_cons (dv_peek (pv 4)) da_nil))) (DE.v de_int))) (DE.v de_int))))))))))) gOf_n fun ws h => gOf_g h
abbrev s__law_drawn : Stmt := topS 46
def b__law_drawn : Fr → SO :=
  (sSeq (sSet 1 (sTup (aCons (aV (sTup (aCons (aV (sC (.int 1))) (aCons (aV (sC (.int 0))) aNil)))) (aCons (aV (sTup (aCons (aV (sC (.int 0))) (aCons (aV (sC (.int 1))) aNil)))) aNil))))
    (sSeq (sFor (.nm 2) (sRange1 (aCons (aV (sB gAdd (aCons (aV (sC (.int 1))) (aCons (aV (sCallL g__law_draw (aCons (aP 0) (aCons (aV (sC (.int 4))) aNil)))) aNil)))) aNil)) (sSeq (sSet 3 (sB gSub (aCons (aV (sCallL g__law_draw (aCons (aP 0) (aCons (aV (sC (.int 7))) aNil)))) (aCons (aV (sC (.int 3))) aNil))))
    (sSet 1 (sCall g__law_times (aCons (aV (sVar 1)) (aCons (aV (sIfE (sT (sB gEq (aCons (aV (sCallL g__law_draw (aCons (aP 0) (aCons (aV (sC (.int 2))) aNil)))) (aCons (aV (sC (.int 0))) aNil)))) (sTup (aCons (aV (sTup (aCons (aV (sC (.int 1))) (aCons (aV (sVar 3)) aNil)))) (aCons (aV (sTup (aCons (aV (sC (.int 0))) (aCons (aV (sC (.int 1))) aNil)))) aNil))) (sTup (aCons (aV (sTup (aCons (aV (sC (.int 1))) (aCons (aV (sC (.int 0))) aNil)))) (aCons (aV (sTup (aCons (aV (sVar 3)) (aCons (aV (sC (.int 1))) aNil)))) aNil))))) aNil))))))
    (sRet (sMove 1))))
def g__law_drawn : List Wd → RF := gOf 1 4 b__law_drawn
theorem v__law_drawn (x0 : Wd) : g__law_drawn [x0] = closeR [x0] (b__law_drawn [some x0, none, none, none]) := rfl
theorem sc__law_drawn : FnScope ["hand", "found", "turn", "many"] ["hand"] (defScope s__law_drawn) := ⟨rfl, rfl, rfl, by decide +kernel, rfl, by decide +kernel, by decide +kernel⟩
theorem c__law_drawn (T : Tx K mg) (c__law_draw : Cl P w K mg base 1 "_law_draw" 2 g__law_draw) (c__law_times : Cl P w K mg base 1 "_law_times" 2 g__law_times) {f : Addr} {fd : FuncData} (F : L2.Fun K "_law_drawn" "_law_drawn" s__law_drawn f fd) (hm : mg "_law_drawn" = some (.ref f)) : Cl P w K mg base 2 "_law_drawn" 1 g__law_drawn :=
  cl_of (body := b__law_drawn) F hm (F.binds fun _ _ _ _ _ _ us hl => match us, hl with | [_], _ => rfl) sc__law_drawn (fun cdv A outer s H E hr =>
    have hu := hr.units
    (dss_cons (ds_set (i := 1) sc__law_drawn.nd rfl (by first | exact .inl rfl | exact .inr rfl) (de_tup (da_cons (DE.v (de_tup (da_cons (DE.v de_int) (da_cons (DE.v de_int) da_nil)))) (da_cons (DE.v (de_tup (da_cons (DE.v de_int) (da_cons (DE.v de_int) da_nil)))) da_nil))))
      (dss_cons (ds_for passesB rfl (di_range1 T.z_range (da_cons (DE.v (de_bin o_add q_add (DE.v de_int) (DE.v (de_clL c__law_draw hr takesB (da_cons (dv_peek (pv 0)) (da_cons (DE.v de_int) da_nil)))))) da_nil)) (dg_nm (i := 2) sc__law_drawn.nd rfl (by first | exact .inl rfl | exact .inr rfl)) (dss_cons (ds_set (i := 3) sc__law_drawn.nd rfl (by first | exact .inl rfl | exact .inr rfl) (de_bin op_sub q_sub (DE.v (de_clL c__law_draw hr takesB (da_cons (dv_peek (pv 0)) (da_cons (DE.v de_int) da_nil)))) (DE.v de_int)))
      (dss_one (ds_set (i := 1) sc__law_drawn.nd rfl (by first | exact .inl rfl | exact .inr rfl) (de_cl c__law_times hr takesB (da_cons (DE.v (de_var (pv 1))) (da_cons (DE.v (de_ifE (dt_cmp (op_eqD hu) q_eq rfl (DE.v (de_clL c__law_draw hr takesB (da_cons (dv_peek (pv 0)) (da_cons (DE.v de_int) da_nil)))) (DE.v de_int)) (de_tup (da_cons (DE.v (de_tup (da_cons (DE.v de_int) (da_cons (DE.v (de_var (pv 3))) da_nil)))) (da_cons (DE.v (de_tup (da_cons (DE.v de_int) (da_cons (DE.v de_int) da_nil)))) da_nil))) (de_tup (da_cons (DE.v (de_tup (da_cons (DE.v de_int) (da_cons (DE.v de_int) da_nil)))) (da_cons (DE.v (de_tup (da_cons (DE.v (de_var (pv 3))) (da_cons (DE.v de_int) da_nil)))) da_nil))))) da_nil)))))))
      (dss_one (ds_ret (de_move (pv 1))))))) gOf_n fun ws h => gOf_g h
abbrev s_is_rank : Stmt := topS 13
def b_is_rank : Fr → SO :=
  (sRet (sCall g_is_within (aCons (aV (sVar 0)) (aCons (aV (sC (.int 1))) (aCons (aV (sC (.int 4))) aNil)))))
def g_is_rank : List Wd → RF := gOf 1 1 b_is_rank
theorem v_is_rank (x0 : Wd) : g_is_rank [x0] = closeR [x0] (b_is_rank [some x0]) := rfl
theorem sc_is_rank : FnScope ["thing"] ["thing"] (defScope s_is_rank) := ⟨rfl, rfl, rfl, by decide +kernel, rfl, by decide +kernel, by decide +kernel⟩
theorem c_is_rank (T : Tx K mg) (c_is_within : Cl P w K mg base 2 "is_within" 3 g_is_within) {f : Addr} {fd : FuncData} (F : L2.Fun K "is_rank" "is_rank" s_is_rank f fd) (hm : mg "is_rank" = some (.ref f)) : Cl P w K mg base 3 "is_rank" 1 g_is_rank :=
  cl_of (body := b_is_rank) F hm (F.binds fun _ _ _ _ _ _ us hl => match us, hl with | [_], _ => rfl) sc_is_rank (fun cdv A outer s H E hr =>
    have hu := hr.units
    (dss_one (ds_ret (de_cl c_is_within hr takesB (da_cons (DE.v (de_var (pv 0))) (da_cons (DE.v de_int) (da_cons (DE.v (de_globI T.v_MOST_RANK)) da_nil))))))) gOf_n fun ws h => gOf_g h
abbrev s_is_letter : Stmt := topS 15
def b_is_letter : Fr → SO :=
  (sRet (sAndV (sCall g_is_within (aCons (aV (sVar 1)) (aCons (aV (sB gNeg (aCons (aP 0) aNil))) (aCons (aV (sVar 0)) aNil)))) (sB gNe (aCons (aP 1) (aCons (aV (sC (.int 0))) aNil)))))
def g_is_letter : List Wd → RF := gOf 2 2 b_is_letter
theorem v_is_letter (x0 x1 : Wd) : g_is_letter [x0, x1] = closeR [x0, x1] (b_is_letter [some x0, some x1]) := rfl
theorem sc_is_letter : FnScope ["rank", "thing"] ["rank", "thing"] (defScope s_is_letter) := ⟨rfl, rfl, rfl, by decide +kernel, rfl, by decide +kernel, by decide +kernel⟩
theorem c_is_letter (T : Tx K mg) (c_is_within : Cl P w K mg base 2 "is_within" 3 g_is_within) {f : Addr} {fd : FuncData} (F : L2.Fun K "is_letter" "is_letter" s_is_letter f fd) (hm : mg "is_letter" = some (.ref f)) : Cl P w K mg base 3 "is_letter" 2 g_is_letter :=
  cl_of (body := b_is_letter) F hm (F.binds fun _ _ _ _ _ _ us hl => match us, hl with | [_, _], _ => rfl) sc_is_letter (fun cdv A outer s H E hr =>
    have hu := hr.units
    (dss_one (ds_ret (de_and (de_cl c_is_within hr takesB (da_cons (DE.v (de_var (pv 1))) (da_cons (DE.v (de_un un_neg q_neg (dv_peek (pv 0)))) (da_cons (DE.v (de_var (pv 0))) da_nil)))) (de_one (de_cmp (op_neD hu) q_ne rfl (dv_peek (pv 1)) (DE.v de_int))))))) gOf_n fun ws h => gOf_g h
abbrev s_word_of_table : Stmt := topS 34
def b_word_of_table : Fr → SO :=
  (sSeq (sIf (sNot (sT (sCall g_is_square_table (aCons (aV (sVar 0)) aNil)))) sNever sNx)
    (sRet (sIfE (sT (sCall g_is_of_letters (aCons (aV (sVar 0)) aNil))) (sCall g_word_for (aCons (aV (sVar 0)) aNil)) (sC .non))))
def g_word_of_table : List Wd → RF := gOf 1 1 b_word_of_table
theorem v_word_of_table (x0 : Wd) : g_word_of_table [x0] = closeR [x0] (b_word_of_table [some x0]) := rfl
theorem sc_word_of_table : FnScope ["table"] ["table"] (defScope s_word_of_table) := ⟨rfl, rfl, rfl, by decide +kernel, rfl, by decide +kernel, by decide +kernel⟩
theorem c_word_of_table (T : Tx K mg) (c_is_square_table : Cl P w K mg base 2 "is_square_table" 1 g_is_square_table) (c_is_of_letters : Cl P w K mg base 1 "is_of_letters" 1 g_is_of_letters) (c_word_for : Cl P w K mg base 2 "word_for" 1 g_word_for) {f : Addr} {fd : FuncData} (F : L2.Fun K "word_of_table" "word_of_table" s_word_of_table f fd) (hm : mg "word_of_table" = some (.ref f)) : Cl P w K mg base 3 "word_of_table" 1 g_word_of_table :=
  cl_of (body := b_word_of_table) F hm (F.binds fun _ _ _ _ _ _ us hl => match us, hl with | [_], _ => rfl) sc_word_of_table (fun cdv A outer s H E hr =>
    have hu := hr.units
    (dss_cons (ds_if (dt_not (dt_val (de_cl c_is_square_table hr takesB (da_cons (DE.v (de_var (pv 0))) da_nil)))) (dss_one ds_never) dss_nil)
      (dss_one (ds_ret (de_ifE (dt_val (de_cl c_is_of_letters hr takesB (da_cons (DE.v (de_var (pv 0))) da_nil))) (de_cl c_word_for hr takesB (da_cons (DE.v (de_var (pv 0))) da_nil)) de_non))))) gOf_n fun ws h => gOf_g h
abbrev s_is_of_word : Stmt := topS 35
def b_is_of_word : Fr → SO :=
  (sRet (sAndV (sCall g_is_square_table (aCons (aV (sVar 0)) aNil)) (sCall g_is_of_letters (aCons (aV (sVar 0)) aNil))))
def g_is_of_word : List Wd → RF := gOf 1 1 b_is_of_word
theorem v_is_of_word (x0 : Wd) : g_is_of_word [x0] = closeR [x0] (b_is_of_word [some x0]) := rfl
theorem sc_is_of_word : FnScope ["thing"] ["thing"] (defScope s_is_of_word) := ⟨rfl, rfl, rfl, by decide +kernel, rfl, by decide +kernel, by decide +kernel⟩
theorem c_is_of_word (T : Tx K mg) (c_is_square_table : Cl P w K mg base 2 "is_square_table" 1 g_is_square_table) (c_is_of_letters : Cl P w K mg base 1 "is_of_letters" 1 g_is_of_letters) {f : Addr} {fd : FuncData} (F : L2.Fun K "is_of_word" "is_of_word" s_is_of_word f fd) (hm : mg "is_of_word" = some (.ref f)) : Cl P w K mg base 3 "is_of_word" 1 g_is_of_word :=
  cl_of (body := b_is_of_word) F hm (F.binds fun _ _ _ _ _ _ us hl => match us, hl with | [_], _ => rfl) sc_is_of_word (fun cdv A outer s H E hr =>
    have hu := hr.units
    (dss_one (ds_ret (de_and (de_cl c_is_square_table hr takesB (da_cons (DE.v (de_var (pv 0))) da_nil)) (de_one (de_cl c_is_of_letters hr takesB (da_cons (DE.v (de_var (pv 0))) da_nil))))))) gOf_n fun ws h => gOf_g h
abbrev s__law_deep : Stmt := topS 41
def b__law_deep : Fr → SO :=
  (sSeq (sSet 1 (sCallL g__law_some (aCons (aP 0) (aCons (aV (sLst (aCons (aV (sC .non)) (aCons (aV (sC (.int 0))) (aCons (aV (sC (.str "a"))) aNil))))) aNil))))
    (sSeq (sFor (.nm 2) (sRange1 (aCons (aV (sB gAdd (aCons (aV (sC (.int 18))) (aCons (aV (sCallL g__law_draw (aCons (aP 0) (aCons (aV (sC (.int 18))) aNil)))) aNil)))) aNil)) (sSet 1 (sCallL g__law_some (aCons (aP 0) (aCons (aV (sLst (aCons (aV (sTup (aCons (aV (sVar 1)) aNil))) (aCons (aV (sLst (aCons (aV (sVar 1)) aNil))) (aCons (aV (sDisp (pCons (sC (.int 0)) (sVar 1) pNil))) aNil))))) aNil)))))
    (sRet (sMove 1))))
def g__law_deep : List Wd → RF := gOf 1 3 b__law_deep
theorem v__law_deep (x0 : Wd) : g__law_deep [x0] = closeR [x0] (b__law_deep [some x0, none, none]) := rfl
theorem sc__law_deep : FnScope ["hand", "thing", "turn"] ["hand"] (defScope s__law_deep) := ⟨rfl, rfl, rfl, by decide +kernel, rfl, by decide +kernel, by decide +kernel⟩
theorem c__law_deep (T : Tx K mg) (c__law_some : Cl P w K mg base 2 "_law_some" 2 g__law_some) (c__law_draw : Cl P w K mg base 1 "_law_draw" 2 g__law_draw) {f : Addr} {fd : FuncData} (F : L2.Fun K "_law_deep" "_law_deep" s__law_deep f fd) (hm : mg "_law_deep" = some (.ref f)) : Cl P w K mg base 3 "_law_deep" 1 g__law_deep :=
  cl_of (body := b__law_deep) F hm (F.binds fun _ _ _ _ _ _ us hl => match us, hl with | [_], _ => rfl) sc__law_deep (fun cdv A outer s H E hr =>
    have hu := hr.units
    (dss_cons (ds_set (i := 1) sc__law_deep.nd rfl (by first | exact .inl rfl | exact .inr rfl) (de_clL c__law_some hr takesB (da_cons (dv_peek (pv 0)) (da_cons (DE.v (de_lst (da_cons (DE.v de_non) (da_cons (DE.v de_int) (da_cons (DE.v de_str) da_nil))))) da_nil))))
      (dss_cons (ds_for passesB rfl (di_range1 T.z_range (da_cons (DE.v (de_bin o_add q_add (DE.v de_int) (DE.v (de_clL c__law_draw hr takesB (da_cons (dv_peek (pv 0)) (da_cons (DE.v de_int) da_nil)))))) da_nil)) (dg_nm (i := 2) sc__law_deep.nd rfl (by first | exact .inl rfl | exact .inr rfl)) (dss_one (ds_set (i := 1) sc__law_deep.nd rfl (by first | exact .inl rfl | exact .inr rfl) (de_clL c__law_some hr takesB (da_cons (dv_peek (pv 0)) (da_cons (DE.v (de_lst (da_cons (DE.v (de_tup (da_cons (DE.v (de_var (pv 1))) da_nil))) (da_cons (DE.v (de_lst (da_cons (DE.v (de_var (pv 1))) da_nil))) (da_cons (DE.v (de_disp (dp_cons de_int (de_var (pv 1)) dp_nil))) da_nil))))) da_nil))))))
      (dss_one (ds_ret (de_move (pv 1))))))) gOf_n fun ws h => gOf_g h
abbrev s_check_rank : Stmt := topS 14
def b_check_rank : Fr → SO :=
  (sIf (sNot (sT (sCall g_is_rank (aCons (aV (sVar 0)) aNil)))) sNever sNx)
def g_check_rank : List Wd → RF := gOf 1 1 b_check_rank
theorem v_check_rank (x0 : Wd) : g_check_rank [x0] = closeR [x0] (b_check_rank [some x0]) := rfl
theorem sc_check_rank : FnScope ["thing"] ["thing"] (defScope s_check_rank) := ⟨rfl, rfl, rfl, by decide +kernel, rfl, by decide +kernel, by decide +kernel⟩
theorem c_check_rank (T : Tx K mg) (c_is_rank : Cl P w K mg base 3 "is_rank" 1 g_is_rank) {f : Addr} {fd : FuncData} (F : L2.Fun K "check_rank" "check_rank" s_check_rank f fd) (hm : mg "check_rank" = some (.ref f)) : Cl P w K mg base 4 "check_rank" 1 g_check_rank :=
  cl_of (body := b_check_rank) F hm (F.binds fun _ _ _ _ _ _ us hl => match us, hl with | [_], _ => rfl) sc_check_rank (fun cdv A outer s H E hr =>
    have hu := hr.units
    (dss_one (ds_if (dt_not (dt_val (de_cl c_is_rank hr takesB (da_cons (DE.v (de_var (pv 0))) da_nil)))) (dss_one ds_never) dss_nil))) gOf_n fun ws h => gOf_g h
abbrev s_is_row : Stmt := topS 16
def b_is_row : Fr → SO :=
  (sRet (sAndV (sCall g_is_tuple (aCons (aV (sVar 1)) (aCons (aV (sC (.int 0))) (aCons (aV (sVar 2)) aNil)))) (sB gAll (aCons (aV (sLc (.nm 3) (sSeqI (aV (sVar 1))) sYes (sCall g_is_letter (aCons (aV (sVar 0)) (aCons (aV (sVar 3)) aNil))) [3])) aNil))))
def g_is_row : List Wd → RF := gOf 3 4 b_is_row
theorem v_is_row (x0 x1 x2 : Wd) : g_is_row [x0, x1, x2] = closeR [x0, x1, x2] (b_is_row [some x0, some x1, some x2, none]) := rfl
theorem sc_is_row : FnScope ["rank", "thing", "most", "one"] ["rank", "thing", "most"] (defScope s_is_row) := ⟨rfl, rfl, rfl, by decide +kernel, rfl, by decide +kernel, by decide +kernel⟩
theorem c_is_row (T : Tx K mg) (c_is_tuple : Cl P w K mg base 1 "is_tuple" 3 g_is_tuple) (c_is_letter : Cl P w K mg base 3 "is_letter" 2 g_is_letter) {f : Addr} {fd : FuncData} (F : L2.Fun K "is_row" "is_row" s_is_row f fd) (hm : mg "is_row" = some (.ref f)) : Cl P w K mg base 4 "is_row" 3 g_is_row :=
  cl_of (body := b_is_row) F hm (F.binds fun _ _ _ _ _ _ us hl => match us, hl with | [_, _, _], _ => rfl) sc_is_row (fun cdv A outer s H E hr =>
    have hu := hr.units
    (dss_one (ds_ret (de_and (de_cl c_is_tuple hr takesB (da_cons (DE.v (de_var (pv 1))) (da_cons (DE.v de_int) (da_cons (DE.v (de_var (pv 2))) da_nil)))) (de_one (de_callB (cr_all rfl) q_all (by rfl) T.z_all bt_all (da_cons (DE.v (de_lc0 (own := [("one", 3)]) rfl sc_is_row.nd (di_seq (DE.v (de_var (pv 1)))) (blkOk_by (by show blkC ["rank", "thing", "most", "one"] (defScope s_is_row) _ _ = true; decide +kernel)) (fun _ => (dg_nm (i := 3) sc_is_row.nd rfl (by first | exact .inl rfl | exact .inr rfl))) (fun _ => (de_cl c_is_letter hr takes_w0 (da_cons (DE.v (de_var (pv 0))) (da_cons (DE.v (de_var (pv 3))) da_nil)))))) da_nil))))))) gOf_n fun ws h => gOf_g h
abbrev s_is_word_of : Stmt := topS 17
def b_is_word_of : Fr → SO :=
  (sRet (sAndV (sCall g_is_row (aCons (aV (sVar 0)) (aCons (aV (sVar 1)) (aCons (aV (sVar 2)) aNil)))) (sNotV (sB gAny (aCons (aV (sLc (.tp ((.nm 3) :: ((.nm 4) :: []))) (sZip (aCons (aV (sVar 1)) (aCons (aV (sSl gSl (aP 1) (sPt (sC (.int 1))) sNo)) aNil))) sYes (sB gEq (aCons (aP 3) (aCons (aV (sB gNeg (aCons (aP 4) aNil))) aNil))) [3, 4])) aNil)))))
def g_is_word_of : List Wd → RF := gOf 3 5 b_is_word_of
theorem v_is_word_of (x0 x1 x2 : Wd) : g_is_word_of [x0, x1, x2] = closeR [x0, x1, x2] (b_is_word_of [some x0, some x1, some x2, none, none]) := rfl
theorem sc_is_word_of : FnScope ["rank", "thing", "most", "one", "other"] ["rank", "thing", "most"] (defScope s_is_word_of) := ⟨rfl, rfl, rfl, by decide +kernel, rfl, by decide +kernel, by decide +kernel⟩
theorem c_is_word_of (T : Tx K mg) (c_is_row : Cl P w K mg base 4 "is_row" 3 g_is_row) {f : Addr} {fd : FuncData} (F : L2.Fun K "is_word_of" "is_word_of" s_is_word_of f fd) (hm : mg "is_word_of" = some (.ref f)) : Cl P w K mg base 5 "is_word_of" 3 g_is_word_of :=
  cl_of (body := b_is_word_of) F hm (F.binds fun _ _ _ _ _ _ us hl => match us, hl with | [_, _, _], _ => rfl) sc_is_word_of (fun cdv A outer s H E hr =>
    have hu := hr.units
    (dss_one (ds_ret (de_and (de_cl c_is_row hr takesB (da_cons (DE.v (de_var (pv 0))) (da_cons (DE.v (de_var (pv 1))) (da_cons (DE.v (de_var (pv 2))) da_nil)))) (de_one (de_not (de_callB (cr_any rfl) q_any (by rfl) T.z_any bt_any (da_cons (DE.v (de_lc0 (own := [("one", 3), ("other", 4)]) rfl sc_is_word_of.nd (di_zip T.z_zip (da_cons (DE.v (de_var (pv 1))) (da_cons (DE.v (de_sl o_sl q_sl (dv_peek (pv 1)) (do_pt de_int) do_no)) da_nil))) (blkOk_by (by show blkC ["rank", "thing", "most", "one", "other"] (defScope s_is_word_of) _ _ = true; decide +kernel)) (fun _ => (dg_tp rfl (dgs_cons (dg_nm (i := 3) sc_is_word_of.nd rfl (by first | exact .inl rfl | exact .inr rfl)) (dgs_cons (dg_nm (i := 4) sc_is_word_of.nd rfl (by first | exact .inl rfl | exact .inr rfl)) dgs_nil)))) (fun _ => (de_cmp (op_eqD hu) q_eq rfl (dv_peek (pv 3)) (DE.v (de_un un_neg q_neg (dv_peek (pv 4)))))))) da_nil)))))))) gOf_n fun ws h => gOf_g h
abbrev s_check_words : Stmt := topS 18
def b_check_words : Fr → SO :=
  (sSeq (sDo (sCall g_check_rank (aCons (aV (sVar 0)) aNil)))
    (sIf (sNot (sT (sB gAll (aCons (aV (sLc (.nm 2) (sSeqI (aV (sVar 1))) sYes (sCall g_is_word_of (aCons (aV (sVar 0)) (aCons (aV (sVar 2)) (aCons (aV (sC (.int 60))) aNil)))) [2])) aNil)))) sNever sNx))
def g_check_words : List Wd → RF := gOf 2 3 b_check_words
theorem v_check_words (x0 x1 : Wd) : g_check_words [x0, x1] = closeR [x0, x1] (b_check_words [some x0, some x1, none]) := rfl
theorem sc_check_words : FnScope ["rank", "words", "word"] ["rank", "words"] (defScope s_check_words) := ⟨rfl, rfl, rfl, by decide +kernel, rfl, by decide +kernel, by decide +kernel⟩
theorem c_check_words (T : Tx K mg) (c_check_rank : Cl P w K mg base 4 "check_rank" 1 g_check_rank) (c_is_word_of : Cl P w K mg base 5 "is_word_of" 3 g_is_word_of) {f : Addr} {fd : FuncData} (F : L2.Fun K "check_words" "check_words" s_check_words f fd) (hm : mg "check_words" = some (.ref f)) : Cl P w K mg base 6 "check_words" 2 g_check_words :=
  cl_of (body := b_check_words) F hm (F.binds fun _ _ _ _ _ _ us hl => match us, hl with | [_, _], _ => rfl) sc_check_words (fun cdv A outer s H E hr =>
    have hu := hr.units
    (dss_cons (ds_do (de_cl c_check_rank hr takesB (da_cons (DE.v (de_var (pv 0))) da_nil)))
      (dss_one (ds_if (dt_not (dt_val (de_callB (cr_all rfl) q_all (by rfl) T.z_all bt_all (da_cons (DE.v (de_lc0 (own := [("word", 2)]) rfl sc_check_words.nd (di_seq (DE.v (de_var (pv 1)))) (blkOk_by (by show blkC ["rank", "words", "word"] (defScope s_check_words) _ _ = true; decide +kernel)) (fun _ => (dg_nm (i := 2) sc_check_words.nd rfl (by first | exact .inl rfl | exact .inr rfl))) (fun _ => (de_cl c_is_word_of hr takes_w0 (da_cons (DE.v (de_var (pv 0))) (da_cons (DE.v (de_var (pv 2))) (da_cons (DE.v (de_globI T.v_MOST_WORD)) da_nil))))))) da_nil)))) (dss_one ds_never) dss_nil)))) gOf_n fun ws h => gOf_g h
abbrev s_check_pair_word : Stmt := topS 22
def b_check_pair_word : Fr → SO :=
  (sIf (sNot (sT (sCall g_is_word_of (aCons (aV (sC (.int 2))) (aCons (aV (sVar 0)) (aCons (aV (sC (.int 60))) aNil)))))) sNever sNx)
def g_check_pair_word : List Wd → RF := gOf 1 1 b_check_pair_word
theorem v_check_pair_word (x0 : Wd) : g_check_pair_word [x0] = closeR [x0] (b_check_pair_word [some x0]) := rfl
theorem sc_check_pair_word : FnScope ["word"] ["word"] (defScope s_check_pair_word) := ⟨rfl, rfl, rfl, by decide +kernel, rfl, by decide +kernel, by decide +kernel⟩
theorem c_check_pair_word (T : Tx K mg) (c_is_word_of : Cl P w K mg base 5 "is_word_of" 3 g_is_word_of) {f : Addr} {fd : FuncData} (F : L2.Fun K "check_pair_word" "check_pair_word" s_check_pair_word f fd) (hm : mg "check_pair_word" = some (.ref f)) : Cl P w K mg base 6 "check_pair_word" 1 g_check_pair_word :=
  cl_of (body := b_check_pair_word) F hm (F.binds fun _ _ _ _ _ _ us hl => match us, hl with | [_], _ => rfl) sc_check_pair_word (fun cdv A outer s H E hr =>
    have hu := hr.units
    (dss_one (ds_if (dt_not (dt_val (de_cl c_is_word_of hr takesB (da_cons (DE.v de_int) (da_cons (DE.v (de_var (pv 0))) (da_cons (DE.v (de_globI T.v_MOST_WORD)) da_nil)))))) (dss_one ds_never) dss_nil))) gOf_n fun ws h => gOf_g h
abbrev s_product : Stmt := topS 20
def b_product : Fr → SO :=
  (sSeq (sDo (sCall g_check_words (aCons (aV (sVar 0)) (aCons (aV (sTup (aCons (aV (sVar 1)) (aCons (aV (sVar 2)) aNil)))) aNil))))
    (sRet (sCall g_joined (aCons (aV (sVar 1)) (aCons (aV (sVar 2)) aNil)))))
def g_product : List Wd → RF := gOf 3 3 b_product
theorem v_product (x0 x1 x2 : Wd) : g_product [x0, x1, x2] = closeR [x0, x1, x2] (b_product [some x0, some x1, some x2]) := rfl
theorem sc_product : FnScope ["rank", "one", "other"] ["rank", "one", "other"] (defScope s_product) := ⟨rfl, rfl, rfl, by decide +kernel, rfl, by decide +kernel, by decide +kernel⟩
theorem c_product (T : Tx K mg) (c_check_words : Cl P w K mg base 6 "check_words" 2 g_check_words) (c_joined : Cl P w K mg base 1 "joined" 2 g_joined) {f : Addr} {fd : FuncData} (F : L2.Fun K "product" "product" s_product f fd) (hm : mg "product" = some (.ref f)) : Cl P w K mg base 7 "product" 3 g_product :=
  cl_of (body := b_product) F hm (F.binds fun _ _ _ _ _ _ us hl => match us, hl with | [_, _, _], _ => rfl) sc_product (fun cdv A outer s H E hr =>
    have hu := hr.units
    (dss_cons (ds_do (de_cl c_check_words hr takesB (da_cons (DE.v (de_var (pv 0))) (da_cons (DE.v (de_tup (da_cons (DE.v (de_var (pv 1))) (da_cons (DE.v (de_var (pv 2))) da_nil)))) da_nil))))
      (dss_one (ds_ret (de_cl c_joined hr takesB (da_cons (DE.v (de_var (pv 1))) (da_cons (DE.v (de_var (pv 2))) da_nil))))))) gOf_n fun ws h => gOf_g h
abbrev s_table_of : Stmt := topS 30
def b_table_of : Fr → SO :=
  (sSeq (sDo (sCall g_check_pair_word (aCons (aV (sVar 0)) aNil)))
    (sRet (sCall g_table_by (aCons (aV (sVar 0)) (aCons (aV (sTup (aCons (aV (sC (.tup [(.tup [(.int (1)), (.int (2))]), (.tup [(.int (0)), (.int (1))])]))) (aCons (aV (sC (.tup [(.tup [(.int (1)), (.int (0))]), (.tup [(.int (2)), (.int (1))])]))) aNil)))) aNil)))))
def g_table_of : List Wd → RF := gOf 1 1 b_table_of
theorem v_table_of (x0 : Wd) : g_table_of [x0] = closeR [x0] (b_table_of [some x0]) := rfl
theorem sc_table_of : FnScope ["word"] ["word"] (defScope s_table_of) := ⟨rfl, rfl, rfl, by decide +kernel, rfl, by decide +kernel, by decide +kernel⟩
theorem c_table_of (T : Tx K mg) (c_check_pair_word : Cl P w K mg base 6 "check_pair_word" 1 g_check_pair_word) (c_table_by : Cl P w K mg base 2 "table_by" 2 g_table_by) {f : Addr} {fd : FuncData} (F : L2.Fun K "table_of" "table_of" s_table_of f fd) (hm : mg "table_of" = some (.ref f)) : Cl P w K mg base 7 "table_of" 1 g_table_of :=
  cl_of (body := b_table_of) F hm (F.binds fun _ _ _ _ _ _ us hl => match us, hl with | [_], _ => rfl) sc_table_of (fun cdv A outer s H E hr =>
    have hu := hr.units
    (dss_cons (ds_do (de_cl c_check_pair_word hr takesB (da_cons (DE.v (de_var (pv 0))) da_nil)))
      (dss_one (ds_ret (de_cl c_table_by hr takesB (da_cons (DE.v (de_var (pv 0))) (da_cons (DE.v (de_tup (da_cons (DE.v (de_globC T.v_FIRST)) (da_cons (DE.v (de_globC T.v_SECOND)) da_nil)))) da_nil))))))) gOf_n fun ws h => gOf_g h
abbrev s_law : Stmt := topS 47
def b_law : Fr → SO :=
  (sSeq (sSet 1 (sCall g__law_hand (aCons (aV (sVar 0)) aNil)))
    (sSeq (sIf (sT (sB gNe (aCons (aV (sCall g_table_of (aCons (aV (sTup (aCons (aV (sC (.int 1))) (aCons (aV (sC (.int 2))) aNil)))) aNil))) (aCons (aV (sTup (aCons (aV (sTup (aCons (aV (sC (.int 5))) (aCons (aV (sC (.int 2))) aNil)))) (aCons (aV (sTup (aCons (aV (sC (.int 2))) (aCons (aV (sC (.int 1))) aNil)))) aNil)))) aNil)))) (sRet (sC (.bl false))) sNx)
    (sSeq (sIf (sT (sB gIsNot (aCons (aV (sCall g_word_of_table (aCons (aV (sTup (aCons (aV (sTup (aCons (aV (sB gNeg (aCons (aV (sC (.int 1))) aNil))) (aCons (aV (sC (.int 0))) aNil)))) (aCons (aV (sTup (aCons (aV (sC (.int 0))) (aCons (aV (sB gNeg (aCons (aV (sC (.int 1))) aNil))) aNil)))) aNil)))) aNil))) (aCons (aV (sC .non)) aNil)))) (sRet (sC (.bl false))) sNx)
    (sSeq (sIf (sT (sB gNe (aCons (aV (sCall g_word_of_table (aCons (aV (sTup (aCons (aV (sTup (aCons (aV (sC (.int 1))) (aCons (aV (sC (.int 4))) aNil)))) (aCons (aV (sTup (aCons (aV (sC (.int 0))) (aCons (aV (sC (.int 1))) aNil)))) aNil)))) aNil))) (aCons (aV (sTup (aCons (aV (sC (.int 1))) (aCons (aV (sC (.int 1))) aNil)))) aNil)))) (sRet (sC (.bl false))) sNx)
    (sSeq (sFor (.nm 2) (sRange1 (aCons (aV (sC (.int 4))) aNil)) (sSeq (sPar2 3 4 (sCallL g__law_word (aCons (aP 1) (aCons (aV (sC (.int 2))) (aCons (aV (sC (.int 10))) aNil)))) (sCallL g__law_word (aCons (aP 1) (aCons (aV (sC (.int 2))) (aCons (aV (sC (.int 6))) aNil)))))
    (sSeq (sSet 5 (sCall g__law_table (aCons (aV (sVar 3)) aNil)))
    (sSeq (sIf (sT (sB gNe (aCons (aV (sCall g_table_of (aCons (aV (sVar 3)) aNil))) (aCons (aP 5) aNil)))) (sRet (sC (.bl false))) sNx)
    (sSeq (sIf (sNot (sT (sCall g__law_is_of_word (aCons (aV (sVar 5)) aNil)))) (sRet (sC (.bl false))) sNx)
    (sSeq (sIf (sT (sB gNe (aCons (aV (sCall g_word_of_table (aCons (aV (sVar 5)) aNil))) (aCons (aP 3) aNil)))) (sRet (sC (.bl false))) sNx)
    (sSeq (sIf (sT (sB gIsNot (aCons (aV (sCall g_is_of_word (aCons (aV (sVar 5)) aNil))) (aCons (aV (sC (.bl true))) aNil)))) (sRet (sC (.bl false))) sNx)
    (sSeq (sIf (sT (sB gNe (aCons (aV (sCall g_table_of (aCons (aV (sCall g_product (aCons (aV (sC (.int 2))) (aCons (aV (sVar 3)) (aCons (aV (sVar 4)) aNil))))) aNil))) (aCons (aV (sCall g__law_times (aCons (aV (sVar 5)) (aCons (aV (sCall g__law_table (aCons (aV (sVar 4)) aNil))) aNil)))) aNil)))) (sRet (sC (.bl false))) sNx)
    (sSeq (sIf (sT (sB gNe (aCons (aV (sB gEq (aCons (aP 5) (aCons (aV (sCall g__law_table (aCons (aV (sVar 4)) aNil))) aNil)))) (aCons (aV (sB gEq (aCons (aP 3) (aCons (aP 4) aNil)))) aNil)))) (sRet (sC (.bl false))) sNx)
    (sFor (.nm 6) (sRange1 (aCons (aV (sC (.int 3))) aNil)) (sSeq (sSet 7 (sCallL g__law_drawn (aCons (aP 1) aNil)))
    (sSeq (sSet 8 (sCall g_word_of_table (aCons (aV (sVar 7)) aNil)))
    (sSeq (sIf (sT (sB gNe (aCons (aV (sB gIsNot (aCons (aP 8) (aCons (aV (sC .non)) aNil)))) (aCons (aV (sCall g__law_is_of_word (aCons (aV (sVar 7)) aNil))) aNil)))) (sRet (sC (.bl false))) sNx)
    (sSeq (sIf (sAnd (sT (sB gIsNot (aCons (aP 8) (aCons (aV (sC .non)) aNil)))) (sT (sB gNe (aCons (aV (sCall g__law_table (aCons (aV (sVar 8)) aNil))) (aCons (aP 7) aNil))))) (sRet (sC (.bl false))) sNx)
    (sSeq (sSetT (.tp ((.tp ((.nm 9) :: ((.nm 10) :: []))) :: ((.tp ((.nm 11) :: ((.nm 12) :: []))) :: []))) (sVar 5))
    (sSeq (sSet 13 (sLst (aCons (aV (sVar 7)) (aCons (aV (sTup (aCons (aV (sTup (aCons (aV (sVar 9)) (aCons (aV (sB gAdd (aCons (aP 10) (aCons (aV (sC (.int 2))) aNil)))) aNil)))) (aCons (aV (sTup (aCons (aV (sVar 11)) (aCons (aV (sVar 12)) aNil)))) aNil)))) (aCons (aV (sTup (aCons (aV (sTup (aCons (aV (sVar 9)) (aCons (aV (sVar 10)) aNil)))) (aCons (aV (sTup (aCons (aV (sVar 11)) (aCons (aV (sB gAdd (aCons (aP 12) (aCons (aV (sC (.int 4))) aNil)))) aNil)))) aNil)))) (aCons (aV (sTup (aCons (aV (sTup (aCons (aV (sVar 12)) (aCons (aV (sVar 10)) aNil)))) (aCons (aV (sTup (aCons (aV (sVar 11)) (aCons (aV (sVar 9)) aNil)))) aNil)))) (aCons (aV (sB gRev (aCons (aP 5) aNil))) (aCons (aV (sB gList (aCons (aP 5) aNil))) (aCons (aV (sTup (aCons (aV (sB gList (aCons (aV (sB gIx (aCons (aP 5) (aCons (aV (sC (.int 0))) aNil)))) aNil))) (aCons (aV (sB gIx (aCons (aP 5) (aCons (aV (sC (.int 1))) aNil)))) aNil)))) (aCons (aV (sSl gSl (aP 5) sNo (sPt (sC (.int 1))))) (aCons (aV (sB gAdd (aCons (aP 5) (aCons (aV (sTup (aCons (aV (sTup (aCons (aV (sC (.int 0))) (aCons (aV (sC (.int 0))) aNil)))) aNil))) aNil)))) aNil)))))))))))
    (sSeq (sSet 13 (sB gAdd (aCons (aP 13) (aCons (aV (sLst (aCons (aV (sTup (aCons (aV (sTup (aCons (aV (sB gSub (aCons (aV (sC (.int 0))) (aCons (aP 9) aNil)))) (aCons (aV (sB gSub (aCons (aV (sC (.int 0))) (aCons (aP 10) aNil)))) aNil)))) (aCons (aV (sTup (aCons (aV (sB gSub (aCons (aV (sC (.int 0))) (aCons (aP 11) aNil)))) (aCons (aV (sB gSub (aCons (aV (sC (.int 0))) (aCons (aP 12) aNil)))) aNil)))) aNil)))) (aCons (aV (sTup (aCons (aV (sTup (aCons (aV (sC (.bl true))) (aCons (aV (sC (.int 0))) aNil)))) (aCons (aV (sTup (aCons (aV (sC (.int 0))) (aCons (aV (sC (.int 1))) aNil)))) aNil)))) (aCons (aV (sTup (aCons (aV (sTup (aCons (aV (sC (.int 1))) (aCons (aV (sC (.int 0))) aNil)))) (aCons (aV (sTup (aCons (aV (sC (.int 0))) (aCons (aV (sC .non)) aNil)))) aNil)))) (aCons (aV (sC .non)) (aCons (aV (sTup aNil)) (aCons (aV sDic0) (aCons (aV (sC (.int 0))) (aCons (aV (sC (.str "table"))) (aCons (aV (sCallL g__law_deep (aCons (aP 1) aNil))) aNil))))))))))) aNil))))
    (sSeq (sSet 14 (sCallL g__law_some (aCons (aP 1) (aCons (aV (sVar 13)) aNil))))
    (sIf (sT (sB gNe (aCons (aV (sB gRepr (aCons (aV (sCall g_is_of_word (aCons (aV (sVar 14)) aNil))) aNil))) (aCons (aV (sB gRepr (aCons (aV (sCall g__law_is_of_word (aCons (aV (sVar 14)) aNil))) aNil))) aNil)))) (sRet (sC (.bl false))) sNx)))))))))))))))))))
    (sRet (sC (.bl true))))))))
def g_law : List Wd → RF := gOf 1 15 b_law
theorem v_law (x0 : Wd) : g_law [x0] = closeR [x0] (b_law [some x0, none, none, none, none, none, none, none, none, none, none, none, none, none, none]) := rfl
theorem sc_law : FnScope ["script", "hand", "turn", "word", "other", "table", "again", "drawn", "told", "a", "b", "c", "d", "bent", "thing"] ["script"] (defScope s_law) := ⟨rfl, rfl, rfl, by decide +kernel, rfl, by decide +kernel, by decide +kernel⟩
theorem k_law (T : Tx K mg) (c__law_hand : Cl P w K mg base 1 "_law_hand" 1 g__law_hand) (c_table_of : Cl P w K mg base 7 "table_of" 1 g_table_of) (c_word_of_table : Cl P w K mg base 3 "word_of_table" 1 g_word_of_table) (c__law_word : Cl P w K mg base 2 "_law_word" 3 g__law_word) (c__law_table : Cl P w K mg base 2 "_law_table" 1 g__law_table) (c__law_is_of_word : Cl P w K mg base 2 "_law_is_of_word" 1 g__law_is_of_word) (c_is_of_word : Cl P w K mg base 3 "is_of_word" 1 g_is_of_word) (c_product : Cl P w K mg base 7 "product" 3 g_product) (c__law_times : Cl P w K mg base 1 "_law_times" 2 g__law_times) (c__law_drawn : Cl P w K mg base 2 "_law_drawn" 1 g__law_drawn) (c__law_deep : Cl P w K mg base 3 "_law_deep" 1 g__law_deep) (c__law_some : Cl P w K mg base 2 "_law_some" 2 g__law_some) {f : Addr} {fd : FuncData} (F : L2.Fun K "law" "law" s_law f fd) : FnOk P w K mg base (L2.CX P w) 8 f fd ["script"] (spOf K mg 1 g_law) :=
  fn_of (body := b_law) F sc_law (fun cdv A outer s H E hr =>
    have hu := hr.units
    (dss_cons (ds_set (i := 1) sc_law.nd rfl (by first | exact .inl rfl | exact .inr rfl) (de_cl c__law_hand hr takesB (da_cons (DE.v (de_var (pv 0))) da_nil)))
      (dss_cons (ds_if (dt_cmp (op_neD hu) q_ne rfl (DE.v (de_cl c_table_of hr takesB (da_cons (DE.v (de_tup (da_cons (DE.v de_int) (da_cons (DE.v de_int) da_nil)))) da_nil))) (DE.v (de_tup (da_cons (DE.v (de_tup (da_cons (DE.v de_int) (da_cons (DE.v de_int) da_nil)))) (da_cons (DE.v (de_tup (da_cons (DE.v de_int) (da_cons (DE.v de_int) da_nil)))) da_nil))))) (dss_one (ds_ret de_bl)) dss_nil)
      (dss_cons (ds_if (dt_cmp o_isnot q_isnot rfl (DE.v (de_cl c_word_of_table hr takesB (da_cons (DE.v (de_tup (da_cons (DE.v (de_tup (da_cons (DE.v (de_un un_neg q_neg (DE.v de_int))) (da_cons (DE.v de_int) da_nil)))) (da_cons (DE.v (de_tup (da_cons (DE.v de_int) (da_cons (DE.v (de_un un_neg q_neg (DE.v de_int))) da_nil)))) da_nil)))) da_nil))) (DE.v de_non)) (dss_one (ds_ret de_bl)) dss_nil)
      (dss_cons (ds_if (dt_cmp (op_neD hu) q_ne rfl (DE.v (de_cl c_word_of_table hr takesB (da_cons (DE.v (de_tup (da_cons (DE.v (de_tup (da_cons (DE.v de_int) (da_cons (DE.v de_int) da_nil)))) (da_cons (DE.v (de_tup (da_cons (DE.v de_int) (da_cons (DE.v de_int) da_nil)))) da_nil)))) da_nil))) (DE.v (de_tup (da_cons (DE.v de_int) (da_cons (DE.v de_int) da_nil))))) (dss_one (ds_ret de_bl)) dss_nil)
      (dss_cons (ds_for passesB rfl (di_range1 T.z_range (da_cons (DE.v de_int) da_nil)) (dg_nm (i := 2) sc_law.nd rfl (by first | exact .inl rfl | exact .inr rfl)) (dss_cons (ds_par2 (i := 3) (j := 4) rfl sc_law.nd rfl rfl rfl rfl (de_clL c__law_word hr takesB (da_cons (dv_peek (pv 1)) (da_cons (DE.v de_int) (da_cons (DE.v de_int) da_nil)))) (de_clL c__law_word hr takesB (da_cons (dv_peek (pv 1)) (da_cons (DE.v de_int) (da_cons (DE.v de_int) da_nil)))))
      (dss_cons (ds_set (i := 5) sc_law.nd rfl (by first | exact .inl rfl | exact .inr rfl) (de_cl c__law_table hr takesB (da_cons (DE.v (de_var (pv 3))) da_nil)))
      (dss_cons (ds_if (dt_cmp (op_neD hu) q_ne rfl (DE.v (de_cl c_table_of hr takesB (da_cons (DE.v (de_var (pv 3))) da_nil))) (dv_peek (pv 5))) (dss_one (ds_ret de_bl)) dss_nil)
      (dss_cons (ds_if (dt_not (dt_val (de_cl c__law_is_of_word hr takesB (da_cons (DE.v (de_var (pv 5))) da_nil)))) (dss_one (ds_ret de_bl)) dss_nil)
      (dss_cons (ds_if (dt_cmp (op_neD hu) q_ne rfl (DE.v (de_cl c_word_of_table hr takesB (da_cons (DE.v (de_var (pv 5))) da_nil))) (dv_peek (pv 3))) (dss_one (ds_ret de_bl)) dss_nil)
      (dss_cons (ds_if (dt_cmp o_isnot q_isnot rfl (DE.v (de_cl c_is_of_word hr takesB (da_cons (DE.v (de_var (pv 5))) da_nil))) (DE.v de_bl)) (dss_one (ds_ret de_bl)) dss_nil)
      (dss_cons (ds_if (dt_cmp (op_neD hu) q_ne rfl (DE.v (de_cl c_table_of hr takesB (da_cons (DE.v (de_cl c_product hr takesB (da_cons (DE.v de_int) (da_cons (DE.v (de_var (pv 3))) (da_cons (DE.v (de_var (pv 4))) da_nil))))) da_nil))) (DE.v (de_cl c__law_times hr takesB (da_cons (DE.v (de_var (pv 5))) (da_cons (DE.v (de_cl c__law_table hr takesB (da_cons (DE.v (de_var (pv 4))) da_nil))) da_nil))))) (dss_one (ds_ret de_bl)) dss_nil)
      (dss_cons (ds_if (dt_cmp (op_neD hu) q_ne rfl (DE.v (de_cmp (op_eqD hu) q_eq rfl (dv_peek (pv 5)) (DE.v (de_cl c__law_table hr takesB (da_cons (DE.v (de_var (pv 4))) da_nil))))) (DE.v (de_cmp (op_eqD hu) q_eq rfl (dv_peek (pv 3)) (dv_peek (pv 4))))) (dss_one (ds_ret de_bl)) dss_nil)
      (dss_one (ds_for passesB rfl (di_range1 T.z_range (da_cons (DE.v de_int) da_nil)) (dg_nm (i := 6) sc_law.nd rfl (by first | exact .inl rfl | exact .inr rfl)) (dss_cons (ds_set (i := 7) sc_law.nd rfl (by first | exact .inl rfl | exact .inr rfl) (de_clL c__law_drawn hr takesB (da_cons (dv_peek (pv 1)) da_nil)))
      (dss_cons (ds_set (i := 8) sc_law.nd rfl (by first | exact .inl rfl | exact .inr rfl) (de_cl c_word_of_table hr takesB (da_cons (DE.v (de_var (pv 7))) da_nil)))
      (dss_cons (ds_if (dt_cmp (op_neD hu) q_ne rfl (DE.v (de_cmp o_isnot q_isnot rfl (dv_peek (pv 8)) (DE.v de_non))) (DE.v (de_cl c__law_is_of_word hr takesB (da_cons (DE.v (de_var (pv 7))) da_nil)))) (dss_one (ds_ret de_bl)) dss_nil)
      (dss_cons (ds_if (DW.t (dw_and (dt_cmp o_isnot q_isnot rfl (dv_peek (pv 8)) (DE.v de_non)) (dw_and1 (dt_cmp (op_neD hu) q_ne rfl (DE.v (de_cl c__law_table hr takesB (da_cons (DE.v (de_var (pv 8))) da_nil))) (dv_peek (pv 7)))))) (dss_one (ds_ret de_bl)) dss_nil)
      (dss_cons (ds_setT (de_var (pv 5)) (dg_tp rfl (dgs_cons (dg_tp rfl (dgs_cons (dg_nm (i := 9) sc_law.nd rfl (by first | exact .inl rfl | exact .inr rfl)) (dgs_cons (dg_nm (i := 10) sc_law.nd rfl (by first | exact .inl rfl | exact .inr rfl)) dgs_nil))) (dgs_cons (dg_tp rfl (dgs_cons (dg_nm (i := 11) sc_law.nd rfl (by first | exact .inl rfl | exact .inr rfl)) (dgs_cons (dg_nm (i := 12) sc_law.nd rfl (by first | exact .inl rfl | exact .inr rfl)) dgs_nil))) dgs_nil))))
      (dss_cons (ds_set (i := 13) sc_law.nd rfl (by first | exact .inl rfl | exact .inr rfl) (de_lst (da_cons (DE.v (de_var (pv 7))) (da_cons (DE.v (de_tup (da_cons (DE.v (de_tup (da_cons (DE.v (de_var (pv 9))) (da_cons (DE.v (de_bin o_add q_add (dv_peek (pv 10)) (DE.v de_int))) da_nil)))) (da_cons (DE.v (de_tup (da_cons (DE.v (de_var (pv 11))) (da_cons (DE.v (de_var (pv 12))) da_nil)))) da_nil)))) (da_cons (DE.v (de_tup (da_cons (DE.v (de_tup (da_cons (DE.v (de_var (pv 9))) (da_cons (DE.v (de_var (pv 10))) da_nil)))) (da_cons (DE.v (de_tup (da_cons (DE.v (de_var (pv 11))) (da_cons (DE.v (de_bin o_add q_add (dv_peek (pv 12)) (DE.v de_int))) da_nil)))) da_nil)))) (da_cons (DE.v (de_tup (da_cons (DE.v (de_tup (da_cons (DE.v (de_var (pv 12))) (da_cons (DE.v (de_var (pv 10))) da_nil)))) (da_cons (DE.v (de_tup (da_cons (DE.v (de_var (pv 11))) (da_cons (DE.v (de_var (pv 9))) da_nil)))) da_nil)))) (da_cons (DE.v (de_rev (dv_peek (pv 5)))) (da_cons (DE.v (de_callTy call_list_of q_list (by rfl) T.z_list bt_list (da_cons (dv_peek (pv 5)) da_nil))) (da_cons (DE.v (de_tup (da_cons (DE.v (de_callTy call_list_of q_list (by rfl) T.z_list bt_list (da_cons (DE.v (de_ix ix_seq q_ix (fun _ _ => rfl) (dv_peek (pv 5)) (DE.v de_int))) da_nil))) (da_cons (DE.v (de_ix ix_seq q_ix (fun _ _ => rfl) (dv_peek (pv 5)) (DE.v de_int))) da_nil)))) (da_cons (DE.v (de_sl o_sl q_sl (dv_peek (pv 5)) do_no (do_pt de_int))) (da_cons (DE.v (de_bin o_add q_add (dv_peek (pv 5)) (DE.v (de_tup (da_cons (DE.v (de_tup (da_cons (DE.v de_int) (da_cons (DE.v de_int) da_nil)))) da_nil))))) da_nil)))))))))))
      (dss_cons (ds_set (i := 13) sc_law.nd rfl (by first | exact .inl rfl | exact .inr rfl) (de_bin o_add q_add (dv_peek (pv 13)) (DE.v (de_lst (da_cons (DE.v (de_tup (da_cons (DE.v (de_tup (da_cons (DE.v (de_bin op_sub q_sub (DE.v de_int) (dv_peek (pv 9)))) (da_cons (DE.v (de_bin op_sub q_sub (DE.v de_int) (dv_peek (pv 10)))) da_nil)))) (da_cons (DE.v (de_tup (da_cons (DE.v (de_bin op_sub q_sub (DE.v de_int) (dv_peek (pv 11)))) (da_cons (DE.v (de_bin op_sub q_sub (DE.v de_int) (dv_peek (pv 12)))) da_nil)))) da_nil)))) (da_cons (DE.v (de_tup (da_cons (DE.v (de_tup (da_cons (DE.v de_bl) (da_cons (DE.v de_int) da_nil)))) (da_cons (DE.v (de_tup (da_cons (DE.v de_int) (da_cons (DE.v de_int) da_nil)))) da_nil)))) (da_cons (DE.v (de_tup (da_cons (DE.v (de_tup (da_cons (DE.v de_int) (da_cons (DE.v de_int) da_nil)))) (da_cons (DE.v (de_tup (da_cons (DE.v de_int) (da_cons (DE.v de_non) da_nil)))) da_nil)))) (da_cons (DE.v de_non) (da_cons (DE.v (de_tup da_nil)) (da_cons (DE.v de_dic0) (da_cons (DE.v de_int) (da_cons (DE.v de_str) (da_cons (DE.v (de_clL c__law_deep hr takesB (da_cons (dv_peek (pv 1)) da_nil))) da_nil)))))))))))))
      (dss_cons (ds_set (i := 14) sc_law.nd rfl (by first | exact .inl rfl | exact .inr rfl) (de_clL c__law_some hr takesB (da_cons (dv_peek (pv 1)) (da_cons (DE.v (de_var (pv 13))) da_nil))))
      (dss_one (ds_if (dt_cmp (op_neD hu) q_ne rfl (DE.v (de_callB call_repr_small q_repr (by rfl) T.z_repr bt_repr (da_cons (DE.v (de_cl c_is_of_word hr takesB (da_cons (DE.v (de_var (pv 14))) da_nil))) da_nil))) (DE.v (de_callB call_repr_small q_repr (by rfl) T.z_repr bt_repr (da_cons (DE.v (de_cl c__law_is_of_word hr takesB (da_cons (DE.v (de_var (pv 14))) da_nil))) da_nil)))) (dss_one (ds_ret de_bl)) dss_nil)))))))))))))))))))))
      (dss_one (ds_ret de_bl)))))))) fun ws h => gOf_g h
end
theorem all_mk {l : PySem.W.OpenLaw} {w : World} {K : PySem.W.Frag} {h : Heap} {mg : Str → Option Value} {fa fl : Addr} (X : K.In h) (G : h.Ns mainGlobals mg) (hfa : mg "law" = some (.ref fa)) (hg : Good g_law)
    {od an : Option Addr} {sl : Array (Option Value)} {oc kV dc pm cd ct : Value} {t_FIRST_2 t_FIRST_3 t_FIRST_5 t_FIRST_6 t_MOST_RANK t_MOST_WORD t_SECOND_2 t_SECOND_3 t_SECOND_5 t_SECOND_6 t_UNIT_2 t_UNIT_3 t_UNIT_5 t_UNIT_6 : Tok} {a_FIRST_1 : Addr} {oa_FIRST_1 : Option Addr} {na_FIRST_1 : Nat} {la_FIRST_1 : Array (Option Value)} {a_FIRST_4 : Addr} {oa_FIRST_4 : Option Addr} {na_FIRST_4 : Nat} {la_FIRST_4 : Array (Option Value)} {a_FIRST_0 : Addr} {oa_FIRST_0 : Option Addr} {na_FIRST_0 : Nat} {la_FIRST_0 : Array (Option Value)} {a_SECOND_1 : Addr} {oa_SECOND_1 : Option Addr} {na_SECOND_1 : Nat} {la_SECOND_1 : Array (Option Value)} {a_SECOND_4 : Addr} {oa_SECOND_4 : Option Addr} {na_SECOND_4 : Nat} {la_SECOND_4 : Array (Option Value)} {a_SECOND_0 : Addr} {oa_SECOND_0 : Option Addr} {na_SECOND_0 : Nat} {la_SECOND_0 : Array (Option Value)} {a_UNIT_1 : Addr} {oa_UNIT_1 : Option Addr} {na_UNIT_1 : Nat} {la_UNIT_1 : Array (Option Value)} {a_UNIT_4 : Addr} {oa_UNIT_4 : Option Addr} {na_UNIT_4 : Nat} {la_UNIT_4 : Array (Option Value)} {a_UNIT_0 : Addr} {oa_UNIT_0 : Option Addr} {na_UNIT_0 : Nat} {la_UNIT_0 : Array (Option Value)}
    (D_is_integer : ∃ f fd, At K "is_integer" s_is_integer f fd)
    (D_is_tuple : ∃ f fd, At K "is_tuple" s_is_tuple f fd)
    (D_joined : ∃ f fd, At K "joined" s_joined f fd)
    (D_table_times : ∃ f fd, At K "table_times" s_table_times f fd)
    (D_table_back : ∃ f fd, At K "table_back" s_table_back f fd)
    (D_size_of : ∃ f fd, At K "size_of" s_size_of f fd)
    (D_is_of_letters : ∃ f fd, At K "is_of_letters" s_is_of_letters f fd)
    (D__law_hand : ∃ f fd, At K "_law_hand" s__law_hand f fd)
    (D__law_draw : ∃ f fd, At K "_law_draw" s__law_draw f fd)
    (D__law_times : ∃ f fd, At K "_law_times" s__law_times f fd)
    (D__law_is_plain : ∃ f fd, At K "_law_is_plain" s__law_is_plain f fd)
    (D_is_within : ∃ f fd, At K "is_within" s_is_within f fd)
    (D_is_square_table : ∃ f fd, At K "is_square_table" s_is_square_table f fd)
    (D_table_by : ∃ f fd, At K "table_by" s_table_by f fd)
    (D_word_for : ∃ f fd, At K "word_for" s_word_for f fd)
    (D__law_some : ∃ f fd, At K "_law_some" s__law_some f fd)
    (D__law_word : ∃ f fd, At K "_law_word" s__law_word f fd)
    (D__law_table : ∃ f fd, At K "_law_table" s__law_table f fd)
    (D__law_is_of_word : ∃ f fd, At K "_law_is_of_word" s__law_is_of_word f fd)
    (D__law_drawn : ∃ f fd, At K "_law_drawn" s__law_drawn f fd)
    (D_is_rank : ∃ f fd, At K "is_rank" s_is_rank f fd)
    (D_is_letter : ∃ f fd, At K "is_letter" s_is_letter f fd)
    (D_word_of_table : ∃ f fd, At K "word_of_table" s_word_of_table f fd)
    (D_is_of_word : ∃ f fd, At K "is_of_word" s_is_of_word f fd)
    (D__law_deep : ∃ f fd, At K "_law_deep" s__law_deep f fd)
    (D_check_rank : ∃ f fd, At K "check_rank" s_check_rank f fd)
    (D_is_row : ∃ f fd, At K "is_row" s_is_row f fd)
    (D_is_word_of : ∃ f fd, At K "is_word_of" s_is_word_of f fd)
    (D_check_words : ∃ f fd, At K "check_words" s_check_words f fd)
    (D_check_pair_word : ∃ f fd, At K "check_pair_word" s_check_pair_word f fd)
    (D_product : ∃ f fd, At K "product" s_product f fd)
    (D_table_of : ∃ f fd, At K "table_of" s_table_of f fd)
    (a : PySem.W.nsIn K mainGlobals "law" = some (some (.ref fl))) (lk : K.lookup fl = some ⟨oc, od, .func (PySem.W.fnOf "law" "law" (defArgs s_law) (defBody s_law) (defScope s_law) .none kV dc pm an cd ct), sl⟩) (c : PySem.W.codeIn K cd "law" = true) (k : PySem.W.keepIn K (.ref fl) = true)
    (z_abs : PySem.W.nsIn K mainGlobals "abs" = some none)
    (z_all : PySem.W.nsIn K mainGlobals "all" = some none)
    (z_any : PySem.W.nsIn K mainGlobals "any" = some none)
    (z_bool : PySem.W.nsIn K mainGlobals "bool" = some none)
    (z_int : PySem.W.nsIn K mainGlobals "int" = some none)
    (z_isinstance : PySem.W.nsIn K mainGlobals "isinstance" = some none)
    (z_len : PySem.W.nsIn K mainGlobals "len" = some none)
    (z_list : PySem.W.nsIn K mainGlobals "list" = some none)
    (z_range : PySem.W.nsIn K mainGlobals "range" = some none)
    (z_repr : PySem.W.nsIn K mainGlobals "repr" = some none)
    (z_sum : PySem.W.nsIn K mainGlobals "sum" = some none)
    (z_tuple : PySem.W.nsIn K mainGlobals "tuple" = some none)
    (z_zip : PySem.W.nsIn K mainGlobals "zip" = some none)
    (v_FIRST : PySem.W.nsIn K mainGlobals "FIRST" = some (some (.ref a_FIRST_0)))
    (k_a_FIRST_0 : K.lookup a_FIRST_0 = some ⟨.type "tuple", oa_FIRST_0, .seq #[(.ref a_FIRST_1), (.ref a_FIRST_4)] na_FIRST_0, la_FIRST_0⟩)
    (k_a_FIRST_4 : K.lookup a_FIRST_4 = some ⟨.type "tuple", oa_FIRST_4, .seq #[(.int (0) t_FIRST_5), (.int (1) t_FIRST_6)] na_FIRST_4, la_FIRST_4⟩)
    (k_a_FIRST_1 : K.lookup a_FIRST_1 = some ⟨.type "tuple", oa_FIRST_1, .seq #[(.int (1) t_FIRST_2), (.int (2) t_FIRST_3)] na_FIRST_1, la_FIRST_1⟩)
    (v_MOST_RANK : PySem.W.nsIn K mainGlobals "MOST_RANK" = some (some (.int 4 t_MOST_RANK)))
    (v_MOST_WORD : PySem.W.nsIn K mainGlobals "MOST_WORD" = some (some (.int 60 t_MOST_WORD)))
    (v_SECOND : PySem.W.nsIn K mainGlobals "SECOND" = some (some (.ref a_SECOND_0)))
    (k_a_SECOND_0 : K.lookup a_SECOND_0 = some ⟨.type "tuple", oa_SECOND_0, .seq #[(.ref a_SECOND_1), (.ref a_SECOND_4)] na_SECOND_0, la_SECOND_0⟩)
    (k_a_SECOND_4 : K.lookup a_SECOND_4 = some ⟨.type "tuple", oa_SECOND_4, .seq #[(.int (2) t_SECOND_5), (.int (1) t_SECOND_6)] na_SECOND_4, la_SECOND_4⟩)
    (k_a_SECOND_1 : K.lookup a_SECOND_1 = some ⟨.type "tuple", oa_SECOND_1, .seq #[(.int (1) t_SECOND_2), (.int (0) t_SECOND_3)] na_SECOND_1, la_SECOND_1⟩)
    (v_UNIT : PySem.W.nsIn K mainGlobals "UNIT" = some (some (.ref a_UNIT_0)))
    (k_a_UNIT_0 : K.lookup a_UNIT_0 = some ⟨.type "tuple", oa_UNIT_0, .seq #[(.ref a_UNIT_1), (.ref a_UNIT_4)] na_UNIT_0, la_UNIT_0⟩)
    (k_a_UNIT_4 : K.lookup a_UNIT_4 = some ⟨.type "tuple", oa_UNIT_4, .seq #[(.int (0) t_UNIT_5), (.int (1) t_UNIT_6)] na_UNIT_4, la_UNIT_4⟩)
    (k_a_UNIT_1 : K.lookup a_UNIT_1 = some ⟨.type "tuple", oa_UNIT_1, .seq #[(.int (1) t_UNIT_2), (.int (0) t_UNIT_3)] na_UNIT_1, la_UNIT_1⟩) :
    ∃ fd : FuncData, (∀ (s : Shared) (v : Value), BindsTo s fd ⟨[v], []⟩ [("script", v)]) ∧ ∀ base : Heap, K.In base → base.Ns mainGlobals mg → FnOk l.prog w K mg base (L2.CX l.prog w) 8 fa fd ["script"] (spLaw K) := by
  have e := hfa.symm.trans (PySem.W.mg_of X G a)
  cases e
  have T : Tx K mg := ⟨PySem.W.mg_none_of X G z_abs, PySem.W.mg_none_of X G z_all, PySem.W.mg_none_of X G z_any, PySem.W.mg_none_of X G z_bool, PySem.W.mg_none_of X G z_int, PySem.W.mg_none_of X G z_isinstance, PySem.W.mg_none_of X G z_len, PySem.W.mg_none_of X G z_list, PySem.W.mg_none_of X G z_range, PySem.W.mg_none_of X G z_repr, PySem.W.mg_none_of X G z_sum, PySem.W.mg_none_of X G z_tuple, PySem.W.mg_none_of X G z_zip, ⟨_, PySem.W.mg_of X G v_FIRST, (kd_tup k_a_FIRST_0 (.cons (kd_tup k_a_FIRST_1 (.cons kd_int (.cons kd_int .nil))) (.cons (kd_tup k_a_FIRST_4 (.cons kd_int (.cons kd_int .nil))) .nil)))⟩, ⟨_, PySem.W.mg_of X G v_MOST_RANK⟩, ⟨_, PySem.W.mg_of X G v_MOST_WORD⟩, ⟨_, PySem.W.mg_of X G v_SECOND, (kd_tup k_a_SECOND_0 (.cons (kd_tup k_a_SECOND_1 (.cons kd_int (.cons kd_int .nil))) (.cons (kd_tup k_a_SECOND_4 (.cons kd_int (.cons kd_int .nil))) .nil)))⟩, ⟨_, PySem.W.mg_of X G v_UNIT, (kd_tup k_a_UNIT_0 (.cons (kd_tup k_a_UNIT_1 (.cons kd_int (.cons kd_int .nil))) (.cons (kd_tup k_a_UNIT_4 (.cons kd_int (.cons kd_int .nil))) .nil)))⟩⟩
  obtain ⟨_, _, D_is_integer⟩ := D_is_integer
  obtain ⟨_, _, D_is_tuple⟩ := D_is_tuple
  obtain ⟨_, _, D_joined⟩ := D_joined
  obtain ⟨_, _, D_table_times⟩ := D_table_times
  obtain ⟨_, _, D_table_back⟩ := D_table_back
  obtain ⟨_, _, D_size_of⟩ := D_size_of
  obtain ⟨_, _, D_is_of_letters⟩ := D_is_of_letters
  obtain ⟨_, _, D__law_hand⟩ := D__law_hand
  obtain ⟨_, _, D__law_draw⟩ := D__law_draw
  obtain ⟨_, _, D__law_times⟩ := D__law_times
  obtain ⟨_, _, D__law_is_plain⟩ := D__law_is_plain
  obtain ⟨_, _, D_is_within⟩ := D_is_within
  obtain ⟨_, _, D_is_square_table⟩ := D_is_square_table
  obtain ⟨_, _, D_table_by⟩ := D_table_by
  obtain ⟨_, _, D_word_for⟩ := D_word_for
  obtain ⟨_, _, D__law_some⟩ := D__law_some
  obtain ⟨_, _, D__law_word⟩ := D__law_word
  obtain ⟨_, _, D__law_table⟩ := D__law_table
  obtain ⟨_, _, D__law_is_of_word⟩ := D__law_is_of_word
  obtain ⟨_, _, D__law_drawn⟩ := D__law_drawn
  obtain ⟨_, _, D_is_rank⟩ := D_is_rank
  obtain ⟨_, _, D_is_letter⟩ := D_is_letter
  obtain ⟨_, _, D_word_of_table⟩ := D_word_of_table
  obtain ⟨_, _, D_is_of_word⟩ := D_is_of_word
  obtain ⟨_, _, D__law_deep⟩ := D__law_deep
  obtain ⟨_, _, D_check_rank⟩ := D_check_rank
  obtain ⟨_, _, D_is_row⟩ := D_is_row
  obtain ⟨_, _, D_is_word_of⟩ := D_is_word_of
  obtain ⟨_, _, D_check_words⟩ := D_check_words
  obtain ⟨_, _, D_check_pair_word⟩ := D_check_pair_word
  obtain ⟨_, _, D_product⟩ := D_product
  obtain ⟨_, _, D_table_of⟩ := D_table_of
  refine ⟨PySem.W.fnOf "law" "law" (defArgs s_law) (defBody s_law) (defScope s_law) .none kV dc pm an cd ct, fun s v => .of_eq rfl, fun base _ _ => ?_⟩
  have C_is_integer := c_is_integer (P := l.prog) (w := w) (base := base) T  D_is_integer.F (PySem.W.mg_of X G D_is_integer.a)
  have C_is_tuple := c_is_tuple (P := l.prog) (w := w) (base := base) T  D_is_tuple.F (PySem.W.mg_of X G D_is_tuple.a)
  have C_joined := c_joined (P := l.prog) (w := w) (base := base) T  D_joined.F (PySem.W.mg_of X G D_joined.a)
  have C_table_times := c_table_times (P := l.prog) (w := w) (base := base) T  D_table_times.F (PySem.W.mg_of X G D_table_times.a)
  have C_table_back := c_table_back (P := l.prog) (w := w) (base := base) T  D_table_back.F (PySem.W.mg_of X G D_table_back.a)
  have C_size_of := c_size_of (P := l.prog) (w := w) (base := base) T  D_size_of.F (PySem.W.mg_of X G D_size_of.a)
  have C_is_of_letters := c_is_of_letters (P := l.prog) (w := w) (base := base) T  D_is_of_letters.F (PySem.W.mg_of X G D_is_of_letters.a)
  have C__law_hand := c__law_hand (P := l.prog) (w := w) (base := base) T  D__law_hand.F (PySem.W.mg_of X G D__law_hand.a)
  have C__law_draw := c__law_draw (P := l.prog) (w := w) (base := base) T  D__law_draw.F (PySem.W.mg_of X G D__law_draw.a)
  have C__law_times := c__law_times (P := l.prog) (w := w) (base := base) T  D__law_times.F (PySem.W.mg_of X G D__law_times.a)
  have C__law_is_plain := c__law_is_plain (P := l.prog) (w := w) (base := base) T  D__law_is_plain.F (PySem.W.mg_of X G D__law_is_plain.a)
  have C_is_within := c_is_within (P := l.prog) (w := w) (base := base) T C_is_integer D_is_within.F (PySem.W.mg_of X G D_is_within.a)
  have C_is_square_table := c_is_square_table (P := l.prog) (w := w) (base := base) T C_is_tuple C_is_integer D_is_square_table.F (PySem.W.mg_of X G D_is_square_table.a)
  have C_table_by := c_table_by (P := l.prog) (w := w) (base := base) T C_table_times C_table_back D_table_by.F (PySem.W.mg_of X G D_table_by.a)
  have C_word_for := c_word_for (P := l.prog) (w := w) (base := base) T C_table_times C_table_back C_size_of D_word_for.F (PySem.W.mg_of X G D_word_for.a)
  have C__law_some := c__law_some (P := l.prog) (w := w) (base := base) T C__law_draw D__law_some.F (PySem.W.mg_of X G D__law_some.a)
  have C__law_word := c__law_word (P := l.prog) (w := w) (base := base) T C__law_draw D__law_word.F (PySem.W.mg_of X G D__law_word.a)
  have C__law_table := c__law_table (P := l.prog) (w := w) (base := base) T C__law_times D__law_table.F (PySem.W.mg_of X G D__law_table.a)
  have C__law_is_of_word := c__law_is_of_word (P := l.prog) (w := w) (base := base) T C__law_is_plain D__law_is_of_word.F (PySem.W.mg_of X G D__law_is_of_word.a)
  have C__law_drawn := c__law_drawn (P := l.prog) (w := w) (base := base) T C__law_draw C__law_times D__law_drawn.F (PySem.W.mg_of X G D__law_drawn.a)
  have C_is_rank := c_is_rank (P := l.prog) (w := w) (base := base) T C_is_within D_is_rank.F (PySem.W.mg_of X G D_is_rank.a)
  have C_is_letter := c_is_letter (P := l.prog) (w := w) (base := base) T C_is_within D_is_letter.F (PySem.W.mg_of X G D_is_letter.a)
  have C_word_of_table := c_word_of_table (P := l.prog) (w := w) (base := base) T C_is_square_table C_is_of_letters C_word_for D_word_of_table.F (PySem.W.mg_of X G D_word_of_table.a)
  have C_is_of_word := c_is_of_word (P := l.prog) (w := w) (base := base) T C_is_square_table C_is_of_letters D_is_of_word.F (PySem.W.mg_of X G D_is_of_word.a)
  have C__law_deep := c__law_deep (P := l.prog) (w := w) (base := base) T C__law_some C__law_draw D__law_deep.F (PySem.W.mg_of X G D__law_deep.a)
  have C_check_rank := c_check_rank (P := l.prog) (w := w) (base := base) T C_is_rank D_check_rank.F (PySem.W.mg_of X G D_check_rank.a)
  have C_is_row := c_is_row (P := l.prog) (w := w) (base := base) T C_is_tuple C_is_letter D_is_row.F (PySem.W.mg_of X G D_is_row.a)
  have C_is_word_of := c_is_word_of (P := l.prog) (w := w) (base := base) T C_is_row D_is_word_of.F (PySem.W.mg_of X G D_is_word_of.a)
  have C_check_words := c_check_words (P := l.prog) (w := w) (base := base) T C_check_rank C_is_word_of D_check_words.F (PySem.W.mg_of X G D_check_words.a)
  have C_check_pair_word := c_check_pair_word (P := l.prog) (w := w) (base := base) T C_is_word_of D_check_pair_word.F (PySem.W.mg_of X G D_check_pair_word.a)
  have C_product := c_product (P := l.prog) (w := w) (base := base) T C_check_words C_joined D_product.F (PySem.W.mg_of X G D_product.a)
  have C_table_of := c_table_of (P := l.prog) (w := w) (base := base) T C_check_pair_word C_table_by D_table_of.F (PySem.W.mg_of X G D_table_of.a)
  exact (k_law T C__law_hand C_table_of C_word_of_table C__law_word C__law_table C__law_is_of_word C_is_of_word C_product C__law_times C__law_drawn C__law_deep C__law_some (fun_mk lk c k)).imp fun _ _ _ _ h => sp_law hg h
end K27

/-! Words cancelled: the stack (its top first), its laws. -/
namespace Wo
def push (s : List Int) (x : Int) : List Int := match s with
  | y :: t => if y = -x then t else x :: y :: t
  | [] => [x]
def run (s w : List Int) : List Int := w.foldl push s
/-- no letter stands beside its other -/
def Rd : List Int → Prop
  | x :: y :: t => x ≠ -y ∧ Rd (y :: t)
  | _ => True
def red (w : List Int) : List Int := (run [] w).reverse
def back (w : List Int) : List Int := (w.map fun x => -x).reverse
theorem run_nil (s : List Int) : run s [] = s := rfl
theorem run_cons (s : List Int) (x : Int) (w : List Int) : run s (x :: w) = run (push s x) w := rfl
theorem run_app (s x y : List Int) : run s (x ++ y) = run (run s x) y := by unfold run; rw [List.foldl_append]
theorem run_snoc (s w : List Int) (x : Int) : run s (w ++ [x]) = push (run s w) x := by rw [run_app]; rfl
theorem Rd.tail {x : Int} {t : List Int} (h : Rd (x :: t)) : Rd t := by
  cases t with
  | nil => trivial
  | cons y t => exact h.2
theorem rd_push {s : List Int} (h : Rd s) (x : Int) : Rd (push s x) := by
  cases s with
  | nil => trivial
  | cons y t =>
    unfold push
    simp only
    split
    · exact h.tail
    · rename_i n
      exact ⟨fun e => n (by omega), h⟩
theorem rd_run {s : List Int} (w : List Int) : Rd s → Rd (run s w) := by
  induction w generalizing s with
  | nil => exact id
  | cons x w ih => exact fun h => ih (rd_push h x)
theorem push_back {s : List Int} (h : Rd s) (x : Int) : push (push s x) (-x) = s := by
  cases s with
  | nil => simp [push]
  | cons y t =>
    by_cases e : y = -x
    · have h1 : push (y :: t) x = t := by simp [push, e]
      rw [h1]
      cases t with
      | nil => simp [push, e]
      | cons z t =>
        have := h.1
        have n : ¬ z = -(-x) := fun q => this (by omega)
        simp [push, e]
        intro q
        exact absurd (by omega) n
    · have h1 : push (y :: t) x = x :: y :: t := by simp [push, e]
      rw [h1]
      simp [push]
theorem back_cons (x : Int) (w : List Int) : back (x :: w) = back w ++ [-x] := by simp [back]
theorem back_snoc (x : Int) (w : List Int) : back (w ++ [x]) = -x :: back w := by simp [back]
theorem back_app (x y : List Int) : back (x ++ y) = back y ++ back x := by simp [back]
theorem back_back (w : List Int) : back (back w) = w := by
  unfold back
  rw [List.map_reverse, List.reverse_reverse, List.map_map]
  conv => rhs; rw [← List.map_id w]
  apply List.map_congr_left
  intro a _
  show -(-a) = a
  omega
theorem run_back {s : List Int} (h : Rd s) (w : List Int) : run (run s w) (back w) = s := by
  induction w generalizing s with
  | nil => rfl
  | cons x w ih => rw [run_cons, back_cons, run_snoc, ih (rd_push h x), push_back h x]
/-- the same on every stack -/
def Eqv (u v : List Int) : Prop := ∀ s, Rd s → run s u = run s v
theorem Eqv.symm {u v : List Int} (h : Eqv u v) : Eqv v u := fun s q => (h s q).symm
theorem Eqv.trans {u v w : List Int} (h : Eqv u v) (k : Eqv v w) : Eqv u w := fun s q => (h s q).trans (k s q)
theorem Eqv.refl (u : List Int) : Eqv u u := fun _ _ => rfl
theorem Eqv.app {u v u' v' : List Int} (h : Eqv u v) (k : Eqv u' v') : Eqv (u ++ u') (v ++ v') := fun s q => by
  rw [run_app, run_app, h s q, k _ (rd_run v q)]
theorem Eqv.back {u v : List Int} (h : Eqv u v) : Eqv (back u) (back v) := fun s q => by
  have h1 : run (run s (Wo.back u)) u = s := by
    have := run_back q (Wo.back u)
    rwa [back_back] at this
  rw [h _ (rd_run _ q)] at h1
  have h2 := run_back (rd_run (Wo.back u) q) v
  rw [h1] at h2
  exact h2.symm
theorem snoc_ind {p : List Int → Prop} (h0 : p []) (h1 : ∀ w x, p w → p (w ++ [x])) (w : List Int) : p w := by
  have : ∀ n (w : List Int), w.length = n → p w := by
    intro n
    induction n with
    | zero => intro w hw; rw [List.length_eq_zero_iff.mp hw]; exact h0
    | succ n ih =>
      intro w hw
      have hne : w ≠ [] := fun z => by rw [z] at hw; cases hw
      rw [← List.dropLast_concat_getLast hne]
      exact h1 _ _ (ih _ (by rw [List.length_dropLast, hw]; rfl))
  exact this _ w rfl
theorem red_eqv (w : List Int) : Eqv (red w) w := by
  refine snoc_ind (p := fun w => Eqv (red w) w) (fun s _ => rfl) (fun w x ih => ?_) w
  intro s q
  have ih := ih s q
  unfold red at ih ⊢
  rw [run_snoc, run_snoc, ← ih]
  cases e : run [] w with
  | nil => rfl
  | cons y t =>
    by_cases h : y = -x
    · have h1 : push (y :: t) x = t := by simp [push, h]
      rw [h1, List.reverse_cons, run_snoc]
      have := push_back (rd_run t.reverse q) (-x)
      rw [h]
      rw [show (- -x : Int) = x by omega] at this
      exact this.symm
    · have h1 : push (y :: t) x = x :: y :: t := by simp [push, h]
      rw [h1, List.reverse_cons, run_snoc]
theorem Eqv.red {u v : List Int} (h : Eqv u v) : red u = red v := by unfold Wo.red; rw [h [] trivial]
theorem eqv_of_red {u v : List Int} (h : red u = red v) : Eqv u v := (red_eqv u).symm.trans (by rw [h]; exact red_eqv v)
theorem red_nil {u : List Int} (h : red u = []) : Eqv u [] := eqv_of_red (by rw [h]; rfl)
/-- reduced as it stands -/
theorem Rd.rev_aux : ∀ (w s : List Int), Rd s → (match w, s with | x :: _, y :: _ => x ≠ -y | _, _ => True) → Rd w → Rd (w.reverse ++ s)
  | [], s, h, _, _ => h
  | x :: w, s, h, k, r => by
    rw [List.reverse_cons, List.append_assoc]
    refine Rd.rev_aux w (x :: s) ?_ ?_ r.tail
    · cases s with
      | nil => trivial
      | cons y s => exact ⟨k, h⟩
    · cases w with
      | nil => trivial
      | cons z w => exact fun e => r.1 (by omega)
theorem Rd.rev {w : List Int} (h : Rd w) : Rd w.reverse := by
  have := Rd.rev_aux w [] trivial (by cases w <;> trivial) h
  simpa using this
theorem run_rd : ∀ (w s : List Int), Rd w → (match w, s with | x :: _, y :: _ => y ≠ -x | _, _ => True) → run s w = w.reverse ++ s
  | [], s, _, _ => rfl
  | x :: w, s, h, k => by
    have h1 : push s x = x :: s := by
      cases s with
      | nil => rfl
      | cons y t => simp only [push]; rw [if_neg k]
    rw [run_cons, h1, run_rd w (x :: s) h.tail, List.reverse_cons, List.append_assoc]
    · rfl
    · cases w with
      | nil => trivial
      | cons z w => exact h.1
theorem red_rd {w : List Int} (h : Rd w) : red w = w := by
  unfold red
  rw [run_rd w [] h (by cases w <;> trivial)]
  simp
theorem rd_red (w : List Int) : Rd (red w) := (rd_run w (show Rd [] from trivial)).rev
theorem back_rd {w : List Int} (h : Rd w) : Rd (back w) := by
  have : ∀ w : List Int, Rd w → Rd (w.map fun x => -x) := by
    intro w
    induction w with
    | nil => exact fun _ => trivial
    | cons x w ih =>
      cases w with
      | nil => exact fun _ => trivial
      | cons y w => exact fun h => ⟨fun e => h.1 (by have e : -x = - -y := e; omega), ih h.2⟩
  exact (this w h).rev
theorem red_back (w : List Int) : red (back w) = back (red w) := by
  rw [← red_rd (back_rd (rd_red w))]
  exact (Eqv.back (red_eqv w).symm).red
theorem red_self_back (w : List Int) : red (w ++ back w) = [] := by
  unfold red
  rw [run_app, run_back (show Rd [] from trivial)]
  rfl
theorem red_turn {x y : List Int} (h : red (x ++ y) = []) : red (y ++ x) = [] := by
  have e := red_nil h
  have : Eqv (y ++ x) [] := fun s q => by
    have h1 := e _ (rd_run y q)
    rw [run_app] at h1
    have h2 := run_back (rd_run x (rd_run y q)) y
    rw [h1, run_nil, run_back q] at h2
    rw [run_app]
    exact h2.symm
  rw [this.red]; rfl
theorem red_len_le : ∀ (w s : List Int), (run s w).length ≤ s.length + w.length
  | [], s => Nat.le_refl _
  | x :: w, s => by
    have h := red_len_le w (push s x)
    have h2 : (push s x).length ≤ s.length + 1 := by
      cases s with
      | nil => simp [push]
      | cons y t => simp only [push]; split <;> simp <;> omega
    rw [run_cons, List.length_cons]
    omega
theorem red_len (w : List Int) : (red w).length ≤ w.length := by
  unfold red
  rw [List.length_reverse]
  have := red_len_le w []
  simpa using this
/-- a word is as long as its cancelled form only if it is reduced -/
theorem run_full : ∀ (w s : List Int), Rd s → (run s w).length = s.length + w.length → Rd (w.reverse ++ s)
  | [], s, h, _ => h
  | x :: w, s, h, e => by
    have h1 := red_len_le w (push s x)
    rw [run_cons, List.length_cons] at e
    have h2 : push s x = x :: s := by
      cases s with
      | nil => rfl
      | cons y t =>
        simp only [push]
        split
        · rename_i q
          exfalso
          have : push (y :: t) x = t := by simp [push, q]
          rw [this] at e h1
          simp at e
          omega
        · rfl
    rw [h2] at e
    have := run_full w (x :: s) (by rw [← h2]; exact rd_push h x) (by rw [List.length_cons]; omega)
    rw [List.reverse_cons, List.append_assoc]
    exact this
theorem len_red_iff (w : List Int) : (red w).length = w.length ↔ Rd w := by
  constructor
  · intro h
    unfold red at h
    rw [List.length_reverse] at h
    have := (run_full w [] trivial (by simpa using h)).rev
    simpa using this
  · intro h; rw [red_rd h]
/-- every letter of the cancelled form is one of the word's -/
theorem run_mem : ∀ (w s : List Int) (a : Int), a ∈ run s w → a ∈ s ∨ a ∈ w
  | [], s, a, h => .inl h
  | x :: w, s, a, h => by
    rcases run_mem w (push s x) a h with q | q
    · cases s with
      | nil => simp [push] at q; exact .inr (by simp [q])
      | cons y t =>
        simp only [push] at q
        split at q
        · exact .inl (List.mem_cons_of_mem _ q)
        · rcases List.mem_cons.mp q with z | z
          · exact .inr (by simp [z])
          · exact .inl z
    · exact .inr (List.mem_cons_of_mem _ q)
theorem red_mem {w : List Int} {a : Int} (h : a ∈ red w) : a ∈ w := by
  unfold red at h
  rw [List.mem_reverse] at h
  rcases run_mem w [] a h with q | q
  · cases q
  · exact q
/-! joined -/
def cut : List Int → List Int → Nat
  | y :: t, x :: b => if y = -x then cut t b + 1 else 0
  | _, _ => 0
theorem cut_le : ∀ s b : List Int, cut s b ≤ s.length ∧ cut s b ≤ b.length
  | [], _ => ⟨Nat.le_refl _, Nat.zero_le _⟩
  | _ :: _, [] => ⟨Nat.zero_le _, Nat.le_refl _⟩
  | y :: t, x :: b => by
    have := cut_le t b
    unfold cut
    split <;> simp <;> omega
theorem cut_at : ∀ (s b : List Int) (i : Nat), i < cut s b → ∃ y x, s[i]? = some y ∧ b[i]? = some x ∧ y = -x
  | [], _, i, h => by simp [cut] at h
  | _ :: _, [], i, h => by simp [cut] at h
  | y :: t, x :: b, i, h => by
    unfold cut at h
    split at h
    · rename_i q
      cases i with
      | zero => exact ⟨y, x, rfl, rfl, q⟩
      | succ i => exact cut_at t b i (by omega)
    · omega
theorem cut_end : ∀ (s b : List Int) (y x : Int), s[cut s b]? = some y → b[cut s b]? = some x → y ≠ -x
  | [], _, y, x, h, _ => by simp at h
  | _ :: _, [], y, x, _, h => by simp at h
  | y0 :: t, x0 :: b, y, x, h1, h2 => by
    unfold cut at h1 h2
    split at h1
    · rename_i q
      rw [if_pos q] at h2
      exact cut_end t b y x (by simpa using h1) (by simpa using h2)
    · rename_i q
      rw [if_neg q] at h2
      cases h1; cases h2
      exact q
theorem run_cut : ∀ (s b : List Int), Rd b → run s b = (b.drop (cut s b)).reverse ++ s.drop (cut s b)
  | [], b, h => by rw [run_rd b [] h (by cases b <;> trivial)]; simp [cut]
  | y :: t, [], _ => by simp [cut, run]
  | y :: t, x :: b, h => by
    unfold cut
    split
    · rename_i q
      have : push (y :: t) x = t := by simp [push, q]
      rw [run_cons, this, run_cut t b h.tail]
      simp
    · rename_i q
      rw [run_rd (x :: b) (y :: t) h q]
      simp
def joinL (a b : List Int) : List Int := a.take (a.length - cut a.reverse b) ++ b.drop (cut a.reverse b)
theorem joinL_red {a b : List Int} (ha : Rd a) (hb : Rd b) : joinL a b = red (a ++ b) := by
  unfold red
  rw [run_app, run_rd a [] ha (by cases a <;> trivial), List.append_nil, run_cut _ _ hb]
  unfold joinL
  rw [List.reverse_append, List.reverse_reverse]
  congr 1
  have := (cut_le a.reverse b).1
  rw [List.length_reverse] at this
  rw [List.reverse_drop, List.reverse_reverse]
  simp
end Wo

/-! Tables of two rows: the greedy way back to the unit. -/
namespace Ta
structure T where
  a : Int
  b : Int
  c : Int
  d : Int
deriving DecidableEq
def one : T := ⟨1, 0, 0, 1⟩
def mul (x y : T) : T := ⟨x.a * y.a + x.b * y.c, x.a * y.b + x.b * y.d, x.c * y.a + x.d * y.c, x.c * y.b + x.d * y.d⟩
def bk (x : T) : T := ⟨x.d, -x.b, -x.c, x.a⟩
theorem mul_assoc (x y z : T) : mul (mul x y) z = mul x (mul y z) := by
  unfold mul
  simp only [T.mk.injEq, Int.add_mul, Int.mul_add, Int.mul_assoc]
  refine ⟨?_, ?_, ?_, ?_⟩ <;> omega
theorem mul_one (x : T) : mul x one = x := by
  unfold mul one
  simp
theorem one_mul (x : T) : mul one x = x := by
  unfold mul one
  simp
/-- a letter's table -/
def ge (x : Int) : T := if x = 1 then ⟨1, 2, 0, 1⟩ else if x = -1 then ⟨1, -2, 0, 1⟩ else if x = 2 then ⟨1, 0, 2, 1⟩ else ⟨1, 0, -2, 1⟩
def tab (w : List Int) : T := w.foldl (fun m x => mul m (ge x)) one
theorem tab_from (w : List Int) : ∀ m : T, w.foldl (fun m x => mul m (ge x)) m = mul m (tab w) := by
  induction w with
  | nil => intro m; exact (mul_one m).symm
  | cons x w ih =>
    intro m
    show w.foldl _ (mul m (ge x)) = mul m (w.foldl _ (mul one (ge x)))
    rw [ih, ih (mul one (ge x)), one_mul, mul_assoc]
theorem tab_cons (x : Int) (w : List Int) : tab (x :: w) = mul (ge x) (tab w) := by
  show w.foldl _ (mul one (ge x)) = _
  rw [one_mul, tab_from]
theorem tab_app (u v : List Int) : tab (u ++ v) = mul (tab u) (tab v) := by
  unfold tab
  rw [List.foldl_append, tab_from]; rfl
def ab (i : Int) : Int := if i < 0 then -i else i
theorem ab_nn (i : Int) : 0 ≤ ab i := by unfold ab; split <;> omega
theorem ab_z {i : Int} (h : ab i = 0) : i = 0 := by unfold ab at h; split at h <;> omega
/-- the four letters' ways on a table, from the left -/
def act (x : Int) (m : T) : T := if x = 1 then ⟨m.a + 2 * m.c, m.b + 2 * m.d, m.c, m.d⟩ else if x = -1 then ⟨m.a - 2 * m.c, m.b - 2 * m.d, m.c, m.d⟩ else if x = 2 then ⟨m.a, m.b, m.c + 2 * m.a, m.d + 2 * m.b⟩ else ⟨m.a, m.b, m.c - 2 * m.a, m.d - 2 * m.b⟩
theorem act_eq (x : Int) (m : T) : mul (ge x) m = act x m := by
  unfold mul ge act
  split
  · simp
  · split
    · simp; constructor <;> omega
    · split
      · simp; constructor <;> omega
      · simp; constructor <;> omega
def isL (x : Int) : Prop := x = 1 ∨ x = -1 ∨ x = 2 ∨ x = -2
theorem act_back {x : Int} (h : isL x) (m : T) : act (-x) (act x m) = m := by
  rcases h with rfl | rfl | rfl | rfl <;> simp [act]
def up (m : T) : Int := ab m.a + ab m.b
def dn (m : T) : Int := ab m.c + ab m.d
def sz (m : T) : Int := up m + dn m
theorem tri (x y : Int) : ab y - ab x ≤ ab (x + y) ∧ ab y - ab x ≤ ab (x - y) := by unfold ab; constructor <;> (repeat' split) <;> omega
theorem ab_two (x : Int) : ab (2 * x) = 2 * ab x := by unfold ab; split <;> split <;> omega
/-- what a reduced word's table looks like -/
def Rd : List Int → Prop
  | x :: y :: t => x ≠ -y ∧ Rd (y :: t)
  | _ => True
theorem Rd.tail {x : Int} {t : List Int} (h : Rd (x :: t)) : Rd t := by
  cases t with
  | nil => trivial
  | cons y t => exact h.2
def Big (x : Int) (m m' : T) : Prop := ((x = 1 ∨ x = -1) ∧ dn m < up m ∧ up m' < up m ∧ dn m' = dn m) ∨ ((x = 2 ∨ x = -2) ∧ up m < dn m ∧ dn m' < dn m ∧ up m' = up m)
theorem up_act (m : T) : (2 * dn m - up m ≤ up (act 1 m) ∧ 2 * dn m - up m ≤ up (act (-1) m)) ∧ (dn (act 1 m) = dn m ∧ dn (act (-1) m) = dn m) := by
  have h1 := tri m.a (2 * m.c)
  have h2 := tri m.b (2 * m.d)
  rw [ab_two] at h1 h2
  refine ⟨?_, rfl, rfl⟩
  simp only [up, dn, act]
  constructor
  · show _ ≤ ab (m.a + 2 * m.c) + ab (m.b + 2 * m.d); omega
  · show _ ≤ ab (m.a - 2 * m.c) + ab (m.b - 2 * m.d); omega
theorem dn_act (m : T) : (2 * up m - dn m ≤ dn (act 2 m) ∧ 2 * up m - dn m ≤ dn (act (-2) m)) ∧ (up (act 2 m) = up m ∧ up (act (-2) m) = up m) := by
  have h1 := tri m.c (2 * m.a)
  have h2 := tri m.d (2 * m.b)
  rw [ab_two] at h1 h2
  refine ⟨?_, rfl, rfl⟩
  simp only [up, dn, act]
  constructor
  · show _ ≤ ab (m.c + 2 * m.a) + ab (m.d + 2 * m.b); omega
  · show _ ≤ ab (m.c - 2 * m.a) + ab (m.d - 2 * m.b); omega
theorem conv (r s : Int) : 2 * ab (r + s) ≤ ab (r + s + s) + ab r ∧ 2 * ab (r - s) ≤ ab (r - s - s) + ab r := by
  unfold ab; constructor <;> (repeat' split) <;> omega
/-- the same letter twice: the size grows at least as much the second time -/
theorem twice (m : T) : (2 * up (act 1 m) ≤ up (act 1 (act 1 m)) + up m ∧ 2 * up (act (-1) m) ≤ up (act (-1) (act (-1) m)) + up m) ∧ (2 * dn (act 2 m) ≤ dn (act 2 (act 2 m)) + dn m ∧ 2 * dn (act (-2) m) ≤ dn (act (-2) (act (-2) m)) + dn m) := by
  have a1 := conv m.a (2 * m.c)
  have a2 := conv m.b (2 * m.d)
  have a3 := conv m.c (2 * m.a)
  have a4 := conv m.d (2 * m.b)
  refine ⟨⟨?_, ?_⟩, ?_, ?_⟩
  · show 2 * (ab (m.a + 2 * m.c) + ab (m.b + 2 * m.d)) ≤ ab (m.a + 2 * m.c + 2 * m.c) + ab (m.b + 2 * m.d + 2 * m.d) + (ab m.a + ab m.b); omega
  · show 2 * (ab (m.a - 2 * m.c) + ab (m.b - 2 * m.d)) ≤ ab (m.a - 2 * m.c - 2 * m.c) + ab (m.b - 2 * m.d - 2 * m.d) + (ab m.a + ab m.b); omega
  · show 2 * (ab (m.c + 2 * m.a) + ab (m.d + 2 * m.b)) ≤ ab (m.c + 2 * m.a + 2 * m.a) + ab (m.d + 2 * m.b + 2 * m.b) + (ab m.c + ab m.d); omega
  · show 2 * (ab (m.c - 2 * m.a) + ab (m.d - 2 * m.b)) ≤ ab (m.c - 2 * m.a - 2 * m.a) + ab (m.d - 2 * m.b - 2 * m.b) + (ab m.c + ab m.d); omega
theorem big : ∀ (x : Int) (w : List Int), (∀ y ∈ x :: w, isL y) → Rd (x :: w) → Big x (tab (x :: w)) (tab w)
  | x, [], hl, _ => by
    have hx := hl x List.mem_cons_self
    rw [tab_cons, act_eq]
    rcases hx with rfl | rfl | rfl | rfl <;> (unfold Big; decide)
  | x, y :: w, hl, hr => by
    have ih := big y w (fun z hz => hl z (List.mem_cons_of_mem _ hz)) hr.tail
    have hx := hl x List.mem_cons_self
    have hy := hl y (List.mem_cons_of_mem _ List.mem_cons_self)
    have hne := hr.1
    rw [tab_cons x, act_eq]
    have ey : tab (y :: w) = act y (tab w) := by rw [tab_cons, act_eq]
    have u := up_act (tab (y :: w))
    have v := dn_act (tab (y :: w))
    have tw := twice (tab w)
    unfold Big at ih ⊢
    rcases hx with rfl | rfl | rfl | rfl
    · rcases hy with rfl | rfl | rfl | rfl
      · rw [← ey] at tw; omega
      · omega
      · omega
      · omega
    · rcases hy with rfl | rfl | rfl | rfl
      · omega
      · rw [← ey] at tw; omega
      · omega
      · omega
    · rcases hy with rfl | rfl | rfl | rfl
      · omega
      · omega
      · rw [← ey] at tw; omega
      · omega
    · rcases hy with rfl | rfl | rfl | rfl
      · omega
      · omega
      · omega
      · rw [← ey] at tw; omega
/-- of a reduced word's table, taking the first letter off makes it less, any other letter does not -/
theorem first_less {x : Int} {w : List Int} (hl : ∀ y ∈ x :: w, isL y) (hr : Rd (x :: w)) : act (-x) (tab (x :: w)) = tab w ∧ sz (tab w) < sz (tab (x :: w)) ∧ ∀ y, isL y → y ≠ x → sz (tab (x :: w)) ≤ sz (act (-y) (tab (x :: w))) := by
  have b := big x w hl hr
  have hx := hl x List.mem_cons_self
  have ex : tab (x :: w) = act x (tab w) := by rw [tab_cons, act_eq]
  have e1 : act (-x) (tab (x :: w)) = tab w := by rw [ex, act_back hx]
  refine ⟨e1, ?_, fun y hy hne => ?_⟩
  · unfold Big at b; unfold sz; omega
  · have u := up_act (tab (x :: w))
    have v := dn_act (tab (x :: w))
    have tw := twice (tab w)
    unfold Big at b
    unfold sz
    rcases hx with rfl | rfl | rfl | rfl <;> rcases hy with rfl | rfl | rfl | rfl <;> first | (exact absurd rfl hne) | skip
    all_goals simp only [Int.neg_neg] at *
    all_goals try rw [← ex] at tw
    all_goals omega
/-! every table of the right kind leads back -/
structure Sa (m : T) : Prop where
  de : m.a * m.d - m.b * m.c = 1
  pa : m.a % 4 = 1
  pd : m.d % 4 = 1
  pb : m.b % 2 = 0
  pc : m.c % 2 = 0
theorem isL_neg {x : Int} (h : isL x) : isL (-x) := by unfold isL at *; omega
theorem sa_act {x : Int} (hx : isL x) {m : T} (h : Sa m) : Sa (act x m) := by
  obtain ⟨h1, h2, h3, h4, h5⟩ := h
  rcases hx with rfl | rfl | rfl | rfl
  · exact ⟨by show (m.a + 2 * m.c) * m.d - (m.b + 2 * m.d) * m.c = 1; grind, by show (m.a + 2 * m.c) % 4 = 1; omega, h3, by show (m.b + 2 * m.d) % 2 = 0; omega, h5⟩
  · exact ⟨by show (m.a - 2 * m.c) * m.d - (m.b - 2 * m.d) * m.c = 1; grind, by show (m.a - 2 * m.c) % 4 = 1; omega, h3, by show (m.b - 2 * m.d) % 2 = 0; omega, h5⟩
  · exact ⟨by show m.a * (m.d + 2 * m.b) - m.b * (m.c + 2 * m.a) = 1; grind, h2, by show (m.d + 2 * m.b) % 4 = 1; omega, h4, by show (m.c + 2 * m.a) % 2 = 0; omega⟩
  · exact ⟨by show m.a * (m.d - 2 * m.b) - m.b * (m.c - 2 * m.a) = 1; grind, h2, by show (m.d - 2 * m.b) % 4 = 1; omega, h4, by show (m.c - 2 * m.a) % 2 = 0; omega⟩
theorem sgn (x : Int) : (0 ≤ x ∧ ab x = x) ∨ (x < 0 ∧ ab x = -x) := by unfold ab; split <;> omega
/-- the two rows are nearly on one line: either the first or the second is longer in both places -/
theorem rows {A B C D : Int} (hA : 1 ≤ A) (hB : 1 ≤ B) (hC : 1 ≤ C) (hD : 1 ≤ D) (h : A * D - B * C = 1 ∨ B * C - A * D = 1) (n1 : A ≠ C) (n2 : B ≠ D) : (C < A ∧ D < B) ∨ (A < C ∧ B < D) := by
  by_cases p : C < A
  · by_cases q : D < B
    · exact .inl ⟨p, q⟩
    · exfalso
      have := Int.mul_le_mul (show C + 1 ≤ A by omega) (show B + 1 ≤ D by omega) (by omega) (by omega)
      rw [Int.add_mul, Int.mul_add, Int.mul_comm C B] at this
      omega
  · by_cases q : D < B
    · exfalso
      have := Int.mul_le_mul (show D + 1 ≤ B by omega) (show A + 1 ≤ C by omega) (by omega) (by omega)
      rw [Int.add_mul, Int.mul_add, Int.mul_comm D A] at this
      omega
    · exact .inr ⟨by omega, by omega⟩
theorem unit2 {a d : Int} (e : a * d = 1) : (a = 1 ∧ d = 1) ∨ (a = -1 ∧ d = -1) := by
  have h := congrArg Int.natAbs e
  rw [Int.natAbs_mul] at h
  have h1 : a.natAbs = 1 := Nat.eq_one_of_mul_eq_one_right h
  have h2 : d.natAbs = 1 := Nat.eq_one_of_mul_eq_one_left h
  rcases Int.natAbs_eq a with p | p <;> rcases Int.natAbs_eq d with q | q <;> rw [h1] at p <;> rw [h2] at q <;> subst p <;> subst q <;> simp at e ⊢
theorem sa_less {m : T} (h : Sa m) (hne : m ≠ one) : ∃ x, isL x ∧ sz (act (-x) m) < sz m := by
  obtain ⟨h1, h2, h3, h4, h5⟩ := h
  obtain ⟨a, b, c, d⟩ := m
  simp only at h1 h2 h3 h4 h5
  by_cases hb : b = 0
  · subst hb
    have had : a = 1 ∧ d = 1 := by
      have e : a * d = 1 := by simpa using h1
      have q := unit2 e
      omega
    obtain ⟨rfl, rfl⟩ := had
    have hc : c ≠ 0 := fun z => hne (by rw [z]; rfl)
    rcases Int.lt_or_gt_of_ne hc with p | p
    · refine ⟨-2, by simp [isL], ?_⟩
      show ab 1 + ab 0 + (ab (c + 2 * 1) + ab (1 + 2 * 0)) < ab 1 + ab 0 + (ab c + ab 1)
      unfold ab; (repeat' split) <;> omega
    · refine ⟨2, by simp [isL], ?_⟩
      show ab 1 + ab 0 + (ab (c - 2 * 1) + ab (1 - 2 * 0)) < ab 1 + ab 0 + (ab c + ab 1)
      unfold ab; (repeat' split) <;> omega
  · by_cases hc : c = 0
    · subst hc
      have had : a = 1 ∧ d = 1 := by
        have e : a * d = 1 := by simpa using h1
        have q := unit2 e
        omega
      obtain ⟨rfl, rfl⟩ := had
      rcases Int.lt_or_gt_of_ne hb with p | p
      · refine ⟨-1, by simp [isL], ?_⟩
        show ab (1 + 2 * 0) + ab (b + 2 * 1) + (ab 0 + ab 1) < ab 1 + ab b + (ab 0 + ab 1)
        unfold ab; (repeat' split) <;> omega
      · refine ⟨1, by simp [isL], ?_⟩
        show ab (1 - 2 * 0) + ab (b - 2 * 1) + (ab 0 + ab 1) < ab 1 + ab b + (ab 0 + ab 1)
        unfold ab; (repeat' split) <;> omega
    · -- no zero at all: the signs
      have key : ∀ A B C D : Int, 1 ≤ A → 1 ≤ B → 1 ≤ C → 1 ≤ D → A % 2 = 1 → D % 2 = 1 → B % 2 = 0 → C % 2 = 0 → (A * D - B * C = 1 ∨ B * C - A * D = 1) → (C < A ∧ D < B) ∨ (A < C ∧ B < D) := fun A B C D a1 a2 a3 a4 p1 p2 p3 p4 e => rows a1 a2 a3 a4 e (by omega) (by omega)
      have noz : ∀ A B C D : Int, 1 ≤ A → 1 ≤ B → 1 ≤ C → 1 ≤ D → ¬ (A * D + B * C = 1) ∧ ¬ (A * D + B * C = -1) := fun A B C D a1 a2 a3 a4 => by
        have q1 := Int.mul_pos (show 0 < A by omega) (show 0 < D by omega)
        have q2 := Int.mul_pos (show 0 < B by omega) (show 0 < C by omega)
        constructor <;> omega
      rcases sgn a with ⟨sa, ea⟩ | ⟨sa, ea⟩ <;> rcases sgn b with ⟨sb, eb⟩ | ⟨sb, eb⟩ <;> rcases sgn c with ⟨sc, ec⟩ | ⟨sc, ec⟩ <;> rcases sgn d with ⟨sd, ed⟩ | ⟨sd, ed⟩
      all_goals
        have n1 := noz (ab a) (ab b) (ab c) (ab d) (by omega) (by omega) (by omega) (by omega)
        have k1 := key (ab a) (ab b) (ab c) (ab d) (by omega) (by omega) (by omega) (by omega) (by omega) (by omega) (by omega) (by omega)
        rw [ea, eb, ec, ed] at n1 k1
        try simp only [Int.neg_mul, Int.mul_neg, Int.neg_neg] at n1 k1
      all_goals first | (exfalso; omega) | skip
      all_goals
        have k2 := k1 (by omega)
        rcases k2 with k2 | k2
      all_goals first
        | (refine ⟨1, by simp [isL], ?_⟩; show ab (a - 2 * c) + ab (b - 2 * d) + (ab c + ab d) < ab a + ab b + (ab c + ab d); unfold ab; (repeat' split) <;> omega)
        | (refine ⟨-1, by simp [isL], ?_⟩; show ab (a + 2 * c) + ab (b + 2 * d) + (ab c + ab d) < ab a + ab b + (ab c + ab d); unfold ab; (repeat' split) <;> omega)
        | (refine ⟨2, by simp [isL], ?_⟩; show ab a + ab b + (ab (c - 2 * a) + ab (d - 2 * b)) < ab a + ab b + (ab c + ab d); unfold ab; (repeat' split) <;> omega)
        | (refine ⟨-2, by simp [isL], ?_⟩; show ab a + ab b + (ab (c + 2 * a) + ab (d + 2 * b)) < ab a + ab b + (ab c + ab d); unfold ab; (repeat' split) <;> omega)
end Ta

namespace Ta
/-- one letter tried -/
def tr (m : T) (t : Option (Int × T)) (y : Int) : Option (Int × T) := if decide (sz (act (-y) m) < sz m) && (match t with | none => true | some p => decide (sz (act (-y) m) < sz p.2)) then some (y, act (-y) m) else t
def nxt (m : T) : Option (Int × T) := [1, -1, 2, -2].foldl (tr m) none
def Told (m : T) (t : Option (Int × T)) : Prop := t = none ∨ ∃ x, isL x ∧ t = some (x, act (-x) m) ∧ sz (act (-x) m) < sz m
theorem tr_told {m : T} {t : Option (Int × T)} {y : Int} (hy : isL y) (h : Told m t) : Told m (tr m t y) ∧ (sz (act (-y) m) < sz m → tr m t y ≠ none) ∧ (t ≠ none → tr m t y ≠ none) := by
  cases t with
  | none =>
    by_cases q : sz (act (-y) m) < sz m
    · have e : tr m none y = some (y, act (-y) m) := by unfold tr; simp [q]
      rw [e]
      exact ⟨.inr ⟨y, hy, rfl, q⟩, fun _ => by simp, fun _ => by simp⟩
    · have e : tr m none y = none := by unfold tr; simp [q]
      rw [e]
      exact ⟨.inl rfl, fun z => absurd z q, id⟩
  | some p =>
    by_cases q : sz (act (-y) m) < sz m ∧ sz (act (-y) m) < sz p.2
    · have e : tr m (some p) y = some (y, act (-y) m) := by unfold tr; simp [q.1, q.2]
      rw [e]
      exact ⟨.inr ⟨y, hy, rfl, q.1⟩, fun _ => by simp, fun _ => by simp⟩
    · have e : tr m (some p) y = some p := by
        unfold tr
        rw [if_neg]
        simp only [Bool.and_eq_true, decide_eq_true_iff]
        exact q
      rw [e]
      exact ⟨h, fun _ => by simp, id⟩
theorem nxt_some {m : T} (h : ∃ x, isL x ∧ sz (act (-x) m) < sz m) : ∃ x, isL x ∧ nxt m = some (x, act (-x) m) ∧ sz (act (-x) m) < sz m := by
  have l1 : isL 1 := by simp [isL]
  have l2 : isL (-1) := by simp [isL]
  have l3 : isL 2 := by simp [isL]
  have l4 : isL (-2) := by simp [isL]
  obtain ⟨t1, a1, b1⟩ := tr_told l1 (m := m) (.inl rfl)
  obtain ⟨t2, a2, b2⟩ := tr_told l2 t1
  obtain ⟨t3, a3, b3⟩ := tr_told l3 t2
  obtain ⟨t4, a4, b4⟩ := tr_told l4 t3
  have hn : nxt m ≠ none := by
    obtain ⟨x, hx, hl⟩ := h
    rcases hx with rfl | rfl | rfl | rfl
    · exact b4 (b3 (b2 (a1 hl)))
    · exact b4 (b3 (a2 hl))
    · exact b4 (a3 hl)
    · exact a4 hl
  rcases t4 with q | q
  · exact absurd q hn
  · exact q
theorem nxt_first {x : Int} {w : List Int} (hl : ∀ y ∈ x :: w, isL y) (hr : Rd (x :: w)) : nxt (tab (x :: w)) = some (x, tab w) := by
  obtain ⟨e, h1, h2⟩ := first_less hl hr
  have hx := hl x List.mem_cons_self
  obtain ⟨y, hy, e2, h3⟩ := nxt_some ⟨x, hx, by rw [e]; exact h1⟩
  by_cases q : y = x
  · subst q; rw [e2, e]
  · have := h2 y hy q; omega
/-- the way back -/
inductive Path : T → List Int → Prop
  | nil : Path one []
  | cons {m m' : T} {x : Int} {w : List Int} : m ≠ one → nxt m = some (x, m') → Path m' w → Path m (x :: w)
theorem sz_pos_one : sz one = 2 := by decide
theorem path_word : ∀ {w : List Int}, (∀ y ∈ w, isL y) → Rd w → Path (tab w) w
  | [], _, _ => .nil
  | x :: w, hl, hr => by
    refine .cons (fun z => ?_) (nxt_first hl hr) (path_word (fun y hy => hl y (List.mem_cons_of_mem _ hy)) hr.tail)
    have b := big x w hl hr
    rw [z] at b
    unfold Big at b
    have u1 : up one = 1 := by decide
    have d1 : dn one = 1 := by decide
    omega
theorem even_sz {m : T} (h : Sa m) : sz m % 2 = 0 := by
  obtain ⟨_, h2, h3, h4, h5⟩ := h
  have e : ∀ x : Int, ab x % 2 = x % 2 := fun x => by unfold ab; split <;> omega
  have q1 := e m.a
  have q2 := e m.b
  have q3 := e m.c
  have q4 := e m.d
  unfold sz up dn
  omega
theorem sz_two {m : T} (h : Sa m) : 2 ≤ sz m := by
  obtain ⟨_, h2, h3, h4, h5⟩ := h
  have q1 : 1 ≤ ab m.a := by unfold ab; split <;> omega
  have q2 : 1 ≤ ab m.d := by unfold ab; split <;> omega
  have q3 := ab_nn m.b
  have q4 := ab_nn m.c
  unfold sz up dn
  omega
theorem path_of (n : Nat) : ∀ {m : T}, Sa m → sz m ≤ 2 * n + 2 → ∃ w, Path m w ∧ w.length ≤ n ∧ (∀ y ∈ w, isL y) ∧ tab w = m := by
  induction n with
  | zero =>
    intro m h hz
    by_cases q : m = one
    · subst q; exact ⟨[], .nil, Nat.le_refl _, fun _ h => (by cases h), rfl⟩
    · exfalso
      obtain ⟨x, hx, hl⟩ := sa_less h q
      have := sz_two (sa_act (isL_neg hx) h)
      omega
  | succ n ih =>
    intro m h hz
    by_cases q : m = one
    · subst q; exact ⟨[], .nil, Nat.zero_le _, fun _ h => (by cases h), rfl⟩
    · obtain ⟨x, hx, e, hl⟩ := nxt_some (sa_less h q)
      have h' := sa_act (isL_neg hx) h
      have e1 := even_sz h
      have e2 := even_sz h'
      obtain ⟨w, p, hn, hw, ht⟩ := ih h' (by omega)
      refine ⟨x :: w, .cons q e p, by simp; omega, fun y hy => (List.mem_cons.mp hy).elim (fun z => z ▸ hx) (hw y), ?_⟩
      rw [tab_cons, act_eq, ht]
      have := act_back (isL_neg hx) m
      rw [Int.neg_neg] at this
      exact this
/-- words with the same table are the same -/
theorem path_uniq : ∀ {m : T} {u v : List Int}, Path m u → Path m v → u = v
  | _, _, _, .nil, .nil => rfl
  | _, _, _, .nil, .cons h _ _ => absurd rfl h
  | _, _, _, .cons h _ _, .nil => absurd rfl h
  | _, _, _, .cons _ e p, .cons _ e' p' => by
    rw [e] at e'
    cases e'
    rw [path_uniq p p']
theorem tab_inj {u v : List Int} (hu : ∀ y ∈ u, isL y) (ru : Rd u) (hv : ∀ y ∈ v, isL y) (rv : Rd v) (h : tab u = tab v) : u = v :=
  path_uniq (path_word hu ru) (by rw [h]; exact path_word hv rv)
theorem sa_one : Sa one := ⟨rfl, rfl, rfl, rfl, rfl⟩
theorem sa_tab : ∀ {w : List Int}, (∀ y ∈ w, isL y) → Sa (tab w)
  | [], _ => sa_one
  | x :: w, h => by
    rw [tab_cons, act_eq]
    exact sa_act (h x List.mem_cons_self) (sa_tab fun y hy => h y (List.mem_cons_of_mem _ hy))
/-- a letter makes the size at most three times as great -/
theorem sz_act {x : Int} (hx : isL x) (m : T) : sz (act x m) ≤ 3 * sz m := by
  have t : ∀ r s : Int, ab (r + 2 * s) ≤ ab r + 2 * ab s ∧ ab (r - 2 * s) ≤ ab r + 2 * ab s := fun r s => by unfold ab; constructor <;> (repeat' split) <;> omega
  have n1 := ab_nn m.a
  have n2 := ab_nn m.b
  have n3 := ab_nn m.c
  have n4 := ab_nn m.d
  rcases hx with rfl | rfl | rfl | rfl
  · have t1 := t m.a m.c
    have t2 := t m.b m.d
    show ab (m.a + 2 * m.c) + ab (m.b + 2 * m.d) + (ab m.c + ab m.d) ≤ 3 * (ab m.a + ab m.b + (ab m.c + ab m.d)); omega
  · have t1 := t m.a m.c
    have t2 := t m.b m.d
    show ab (m.a - 2 * m.c) + ab (m.b - 2 * m.d) + (ab m.c + ab m.d) ≤ 3 * (ab m.a + ab m.b + (ab m.c + ab m.d)); omega
  · have t1 := t m.c m.a
    have t2 := t m.d m.b
    show ab m.a + ab m.b + (ab (m.c + 2 * m.a) + ab (m.d + 2 * m.b)) ≤ 3 * (ab m.a + ab m.b + (ab m.c + ab m.d)); omega
  · have t1 := t m.c m.a
    have t2 := t m.d m.b
    show ab m.a + ab m.b + (ab (m.c - 2 * m.a) + ab (m.d - 2 * m.b)) ≤ 3 * (ab m.a + ab m.b + (ab m.c + ab m.d)); omega
theorem sz_tab : ∀ {w : List Int}, (∀ y ∈ w, isL y) → sz (tab w) ≤ 2 * 3 ^ w.length
  | [], _ => by decide
  | x :: w, h => by
    have ih := sz_tab (w := w) fun y hy => h y (List.mem_cons_of_mem _ hy)
    have := sz_act (h x List.mem_cons_self) (tab w)
    rw [tab_cons, act_eq, List.length_cons, Int.pow_succ]
    omega
end Ta

namespace K27
open PySem Fd
theorem t_is_integer {d : D} (h : known d = true) : g_is_integer [.val d] = .ret (.val (.bl (dInt d))) [.val d] := by
  rw [v_is_integer]
  simp only [b_is_integer, sSeq, sNx, sIf, sRet, sRetN, sSet, sDo, sB, aCons, aV, aP, aNil, sC, sVar, sMove, sT, sAnd, sOr, sNot, sAndV, sOrV, sNotV, sIfE, sChain, sTup, sLst, sDic0, sSl, sPt, sNo, sCall, sCallL, sPut, sAug, sMeth, isOwn, free, Out.bind, Out.bs, SO.then, List.getElem?_cons_zero, List.getElem?_cons_succ, List.set_cons_zero, List.set_cons_succ, lookA, look, Wd.dat, Wd.lent, Wd.mut, avD, Option.map, List.map, closeR, outs_nil, outs_val, outs_own, if_true, if_false, Bool.false_eq_true, reduceIte, Bool.not_true, Bool.not_false, Bool.not_not, and_self, and_true, true_and, List.length_nil, List.length_cons, Nat.reduceLeDiff, Nat.reduceAdd, Nat.zero_add, Nat.zero_le, isi_int h, isi_bool h]
  cases d <;> first | rfl | cases h
def within (lo hi : Int) : D → Bool
  | .int i => decide (lo ≤ i) && decide (i ≤ hi)
  | _ => false
theorem t_is_within {d : D} (h : known d = true) (lo hi : Int) : g_is_within [.val d, .val (.int lo), .val (.int hi)] = .ret (.val (.bl (within lo hi d))) [.val d, .val (.int lo), .val (.int hi)] := by
  rw [v_is_within]
  simp only [b_is_within, sSeq, sNx, sIf, sRet, sRetN, sSet, sDo, sB, aCons, aV, aP, aNil, sC, sVar, sMove, sT, sAnd, sOr, sNot, sAndV, sOrV, sNotV, sIfE, sChain, sTup, sLst, sDic0, sSl, sPt, sNo, sCall, sCallL, sPut, sAug, sMeth, isOwn, free, Out.bind, Out.bs, SO.then, List.getElem?_cons_zero, List.getElem?_cons_succ, List.set_cons_zero, List.set_cons_succ, lookA, look, Wd.dat, Wd.lent, Wd.mut, avD, Option.map, List.map, closeR, outs_nil, outs_val, outs_own, if_true, if_false, Bool.false_eq_true, reduceIte, Bool.not_true, Bool.not_false, Bool.not_not, and_self, and_true, true_and, List.length_nil, List.length_cons, Nat.reduceLeDiff, Nat.reduceAdd, Nat.zero_add, Nat.zero_le, t_is_integer h]
  cases d with
  | int i => rcases tf (decide (lo ≤ i)) with hc | hc <;> simp only [dInt, sSeq, sNx, sIf, sRet, sRetN, sSet, sDo, sB, aCons, aV, aP, aNil, sC, sVar, sMove, sT, sAnd, sOr, sNot, sAndV, sOrV, sNotV, sIfE, sChain, sTup, sLst, sDic0, sSl, sPt, sNo, sCall, sCallL, sPut, sAug, sMeth, isOwn, free, Out.bind, Out.bs, SO.then, List.getElem?_cons_zero, List.getElem?_cons_succ, List.set_cons_zero, List.set_cons_succ, lookA, look, Wd.dat, Wd.lent, Wd.mut, avD, Option.map, List.map, closeR, outs_nil, outs_val, outs_own, if_true, if_false, Bool.false_eq_true, reduceIte, Bool.not_true, Bool.not_false, Bool.not_not, and_self, and_true, true_and, List.length_nil, List.length_cons, Nat.reduceLeDiff, Nat.reduceAdd, Nat.zero_add, Nat.zero_le, add_int, Fd.gSub, gNeg, gCmp, gLen, abs_int, gInt, gTuple, gList, gRev, gIAdd, within, hc, Bool.true_and, Bool.false_and]
  | _ => first | rfl | cases h
def tupIn (lo hi : Int) : D → Bool
  | .tup ds => decide (lo ≤ (ds.length : Int)) && decide ((ds.length : Int) ≤ hi)
  | _ => false
theorem t_is_tuple {d : D} (h : known d = true) (lo hi : Int) : g_is_tuple [.val d, .val (.int lo), .val (.int hi)] = .ret (.val (.bl (tupIn lo hi d))) [.val d, .val (.int lo), .val (.int hi)] := by
  rw [v_is_tuple]
  simp only [b_is_tuple, sSeq, sNx, sIf, sRet, sRetN, sSet, sDo, sB, aCons, aV, aP, aNil, sC, sVar, sMove, sT, sAnd, sOr, sNot, sAndV, sOrV, sNotV, sIfE, sChain, sTup, sLst, sDic0, sSl, sPt, sNo, sCall, sCallL, sPut, sAug, sMeth, isOwn, free, Out.bind, Out.bs, SO.then, List.getElem?_cons_zero, List.getElem?_cons_succ, List.set_cons_zero, List.set_cons_succ, lookA, look, Wd.dat, Wd.lent, Wd.mut, avD, Option.map, List.map, closeR, outs_nil, outs_val, outs_own, if_true, if_false, Bool.false_eq_true, reduceIte, Bool.not_true, Bool.not_false, Bool.not_not, and_self, and_true, true_and, List.length_nil, List.length_cons, Nat.reduceLeDiff, Nat.reduceAdd, Nat.zero_add, Nat.zero_le, isi_tuple h]
  cases d with
  | tup ds => rcases tf (decide (lo ≤ (ds.length : Int))) with hc | hc <;> simp only [dTup, sSeq, sNx, sIf, sRet, sRetN, sSet, sDo, sB, aCons, aV, aP, aNil, sC, sVar, sMove, sT, sAnd, sOr, sNot, sAndV, sOrV, sNotV, sIfE, sChain, sTup, sLst, sDic0, sSl, sPt, sNo, sCall, sCallL, sPut, sAug, sMeth, isOwn, free, Out.bind, Out.bs, SO.then, List.getElem?_cons_zero, List.getElem?_cons_succ, List.set_cons_zero, List.set_cons_succ, lookA, look, Wd.dat, Wd.lent, Wd.mut, avD, Option.map, List.map, closeR, outs_nil, outs_val, outs_own, if_true, if_false, Bool.false_eq_true, reduceIte, Bool.not_true, Bool.not_false, Bool.not_not, and_self, and_true, true_and, List.length_nil, List.length_cons, Nat.reduceLeDiff, Nat.reduceAdd, Nat.zero_add, Nat.zero_le, add_int, Fd.gSub, gNeg, gCmp, gLen, abs_int, gInt, gTuple, gList, gRev, gIAdd, tupIn, hc, Bool.true_and, Bool.false_and]
  | _ => first | rfl | cases h
theorem t_is_rank (r : Int) : g_is_rank [.val (.int r)] = .ret (.val (.bl (within 1 4 (.int r)))) [.val (.int r)] := by
  rw [v_is_rank]
  simp only [b_is_rank, sSeq, sNx, sIf, sRet, sRetN, sSet, sDo, sB, aCons, aV, aP, aNil, sC, sVar, sMove, sT, sAnd, sOr, sNot, sAndV, sOrV, sNotV, sIfE, sChain, sTup, sLst, sDic0, sSl, sPt, sNo, sCall, sCallL, sPut, sAug, sMeth, isOwn, free, Out.bind, Out.bs, SO.then, List.getElem?_cons_zero, List.getElem?_cons_succ, List.set_cons_zero, List.set_cons_succ, lookA, look, Wd.dat, Wd.lent, Wd.mut, avD, Option.map, List.map, closeR, outs_nil, outs_val, outs_own, if_true, if_false, Bool.false_eq_true, reduceIte, Bool.not_true, Bool.not_false, Bool.not_not, and_self, and_true, true_and, List.length_nil, List.length_cons, Nat.reduceLeDiff, Nat.reduceAdd, Nat.zero_add, Nat.zero_le, t_is_within (d := .int r) rfl]
theorem t_check_rank {r : Int} (h : 1 ≤ r ∧ r ≤ 4) : g_check_rank [.val (.int r)] = .ret (.val .non) [.val (.int r)] := by
  rw [v_check_rank]
  simp only [b_check_rank, sSeq, sNx, sIf, sRet, sRetN, sSet, sDo, sB, aCons, aV, aP, aNil, sC, sVar, sMove, sT, sAnd, sOr, sNot, sAndV, sOrV, sNotV, sIfE, sChain, sTup, sLst, sDic0, sSl, sPt, sNo, sCall, sCallL, sPut, sAug, sMeth, isOwn, free, Out.bind, Out.bs, SO.then, List.getElem?_cons_zero, List.getElem?_cons_succ, List.set_cons_zero, List.set_cons_succ, lookA, look, Wd.dat, Wd.lent, Wd.mut, avD, Option.map, List.map, closeR, outs_nil, outs_val, outs_own, if_true, if_false, Bool.false_eq_true, reduceIte, Bool.not_true, Bool.not_false, Bool.not_not, and_self, and_true, true_and, List.length_nil, List.length_cons, Nat.reduceLeDiff, Nat.reduceAdd, Nat.zero_add, Nat.zero_le, t_is_rank, within, h.1, h.2, decide_true, Bool.and_self]
def letter (r : Int) : D → Bool
  | .int i => decide (-r ≤ i) && decide (i ≤ r) && !decide (i = 0)
  | _ => false
theorem t_is_letter {d : D} (h : known d = true) (r : Int) : g_is_letter [.val (.int r), .val d] = .ret (.val (.bl (letter r d))) [.val (.int r), .val d] := by
  rw [v_is_letter]
  simp only [b_is_letter, sSeq, sNx, sIf, sRet, sRetN, sSet, sDo, sB, aCons, aV, aP, aNil, sC, sVar, sMove, sT, sAnd, sOr, sNot, sAndV, sOrV, sNotV, sIfE, sChain, sTup, sLst, sDic0, sSl, sPt, sNo, sCall, sCallL, sPut, sAug, sMeth, isOwn, free, Out.bind, Out.bs, SO.then, List.getElem?_cons_zero, List.getElem?_cons_succ, List.set_cons_zero, List.set_cons_succ, lookA, look, Wd.dat, Wd.lent, Wd.mut, avD, Option.map, List.map, closeR, outs_nil, outs_val, outs_own, if_true, if_false, Bool.false_eq_true, reduceIte, Bool.not_true, Bool.not_false, Bool.not_not, and_self, and_true, true_and, List.length_nil, List.length_cons, Nat.reduceLeDiff, Nat.reduceAdd, Nat.zero_add, Nat.zero_le, add_int, Fd.gSub, gNeg, gCmp, gLen, abs_int, gInt, gTuple, gList, gRev, gIAdd, t_is_within h]
  cases d with
  | int i => rcases tf (decide (-r ≤ i) && decide (i ≤ r)) with hc | hc <;> simp only [within, letter, hc, sSeq, sNx, sIf, sRet, sRetN, sSet, sDo, sB, aCons, aV, aP, aNil, sC, sVar, sMove, sT, sAnd, sOr, sNot, sAndV, sOrV, sNotV, sIfE, sChain, sTup, sLst, sDic0, sSl, sPt, sNo, sCall, sCallL, sPut, sAug, sMeth, isOwn, free, Out.bind, Out.bs, SO.then, List.getElem?_cons_zero, List.getElem?_cons_succ, List.set_cons_zero, List.set_cons_succ, lookA, look, Wd.dat, Wd.lent, Wd.mut, avD, Option.map, List.map, closeR, outs_nil, outs_val, outs_own, if_true, if_false, Bool.false_eq_true, reduceIte, Bool.not_true, Bool.not_false, Bool.not_not, and_self, and_true, true_and, List.length_nil, List.length_cons, Nat.reduceLeDiff, Nat.reduceAdd, Nat.zero_add, Nat.zero_le, ne_int, Bool.true_and, Bool.false_and]
  | _ => first | rfl | cases h
def knowns (ds : List D) : Prop := ∀ d ∈ ds, known d = true
def row (r most : Int) : D → Bool
  | .tup ds => tupIn 0 most (.tup ds) && ds.all (letter r)
  | _ => false
/-- data whose items, if it is a tuple, are known -/
def deep (d : D) : Prop := known d = true ∧ ∀ ds, d = .tup ds → knowns ds ∧ ds.length ≤ 1000000
theorem t_is_row {d : D} (h : deep d) (r most : Int) : g_is_row [.val (.int r), .val d, .val (.int most)] = .ret (.val (.bl (row r most d))) [.val (.int r), .val d, .val (.int most)] := by
  obtain ⟨h, hk⟩ := h
  rw [v_is_row]
  simp only [b_is_row, sSeq, sNx, sIf, sRet, sRetN, sSet, sDo, sB, aCons, aV, aP, aNil, sC, sVar, sMove, sT, sAnd, sOr, sNot, sAndV, sOrV, sNotV, sIfE, sChain, sTup, sLst, sDic0, sSl, sPt, sNo, sCall, sCallL, sPut, sAug, sMeth, isOwn, free, Out.bind, Out.bs, SO.then, List.getElem?_cons_zero, List.getElem?_cons_succ, List.set_cons_zero, List.set_cons_succ, lookA, look, Wd.dat, Wd.lent, Wd.mut, avD, Option.map, List.map, closeR, outs_nil, outs_val, outs_own, if_true, if_false, Bool.false_eq_true, reduceIte, Bool.not_true, Bool.not_false, Bool.not_not, and_self, and_true, true_and, List.length_nil, List.length_cons, Nat.reduceLeDiff, Nat.reduceAdd, Nat.zero_add, Nat.zero_le, t_is_tuple h]
  cases d with
  | tup ds =>
    obtain ⟨h1, h2⟩ := hk ds rfl
    rcases tf (tupIn 0 most (.tup ds)) with e | e
    · have q := lc_run (α := D) (enc := id) (i := 3) (o := none) (fi := sSeqI (aV (sVar 1))) (fe := sCall g_is_letter (aCons (aV (sVar 0)) (aCons (aV (sVar 3)) aNil))) (e := [some (.val (.int r)), some (.val (.tup ds)), some (.val (.int most)), none]) (e1 := [some (.val (.int r)), some (.val (.tup ds)), some (.val (.int most)), none]) (xs := ds) (fun x => .bl (letter r x))
        (by simp only [sSeq, sNx, sIf, sRet, sRetN, sSet, sDo, sB, aCons, aV, aP, aNil, sC, sVar, sMove, sT, sAnd, sOr, sNot, sAndV, sOrV, sNotV, sIfE, sChain, sTup, sLst, sDic0, sSl, sPt, sNo, sCall, sCallL, sPut, sAug, sMeth, isOwn, free, Out.bind, Out.bs, SO.then, List.getElem?_cons_zero, List.getElem?_cons_succ, List.set_cons_zero, List.set_cons_succ, lookA, look, Wd.dat, Wd.lent, Wd.mut, avD, Option.map, List.map, closeR, outs_nil, outs_val, outs_own, if_true, if_false, Bool.false_eq_true, reduceIte, Bool.not_true, Bool.not_false, Bool.not_not, and_self, and_true, true_and, List.length_nil, List.length_cons, Nat.reduceLeDiff, Nat.reduceAdd, Nat.zero_add, Nat.zero_le, sSeqI, seqOf, List.map_id]) rfl rfl h2 (fun x hx => by simp only [sSeq, sNx, sIf, sRet, sRetN, sSet, sDo, sB, aCons, aV, aP, aNil, sC, sVar, sMove, sT, sAnd, sOr, sNot, sAndV, sOrV, sNotV, sIfE, sChain, sTup, sLst, sDic0, sSl, sPt, sNo, sCall, sCallL, sPut, sAug, sMeth, isOwn, free, Out.bind, Out.bs, SO.then, List.getElem?_cons_zero, List.getElem?_cons_succ, List.set_cons_zero, List.set_cons_succ, lookA, look, Wd.dat, Wd.lent, Wd.mut, avD, Option.map, List.map, closeR, outs_nil, outs_val, outs_own, if_true, if_false, Bool.false_eq_true, reduceIte, Bool.not_true, Bool.not_false, Bool.not_not, and_self, and_true, true_and, List.length_nil, List.length_cons, Nat.reduceLeDiff, Nat.reduceAdd, Nat.zero_add, Nat.zero_le, id, t_is_letter (h1 x hx)])
      simp only [row, e, sSeq, sNx, sIf, sRet, sRetN, sSet, sDo, sB, aCons, aV, aP, aNil, sC, sVar, sMove, sT, sAnd, sOr, sNot, sAndV, sOrV, sNotV, sIfE, sChain, sTup, sLst, sDic0, sSl, sPt, sNo, sCall, sCallL, sPut, sAug, sMeth, isOwn, free, Out.bind, Out.bs, SO.then, List.getElem?_cons_zero, List.getElem?_cons_succ, List.set_cons_zero, List.set_cons_succ, lookA, look, Wd.dat, Wd.lent, Wd.mut, avD, Option.map, List.map, closeR, outs_nil, outs_val, outs_own, if_true, if_false, Bool.false_eq_true, reduceIte, Bool.not_true, Bool.not_false, Bool.not_not, and_self, and_true, true_and, List.length_nil, List.length_cons, Nat.reduceLeDiff, Nat.reduceAdd, Nat.zero_add, Nat.zero_le, q, all_map, Bool.true_and]
    · simp only [row, e, sSeq, sNx, sIf, sRet, sRetN, sSet, sDo, sB, aCons, aV, aP, aNil, sC, sVar, sMove, sT, sAnd, sOr, sNot, sAndV, sOrV, sNotV, sIfE, sChain, sTup, sLst, sDic0, sSl, sPt, sNo, sCall, sCallL, sPut, sAug, sMeth, isOwn, free, Out.bind, Out.bs, SO.then, List.getElem?_cons_zero, List.getElem?_cons_succ, List.set_cons_zero, List.set_cons_succ, lookA, look, Wd.dat, Wd.lent, Wd.mut, avD, Option.map, List.map, closeR, outs_nil, outs_val, outs_own, if_true, if_false, Bool.false_eq_true, reduceIte, Bool.not_true, Bool.not_false, Bool.not_not, and_self, and_true, true_and, List.length_nil, List.length_cons, Nat.reduceLeDiff, Nat.reduceAdd, Nat.zero_add, Nat.zero_le, Bool.false_and]
  | _ => first | rfl | cases h
end K27

namespace K27
open PySem Fd Wo
abbrev tI (w : List Int) : D := .tup (w.map .int)
abbrev vI (w : List Int) : Wd := .val (tI w)
def adj (w : List Int) : Bool := (w.zip (w.drop 1)).any fun p => decide (p.1 = -p.2)
def wordOk (r most : Int) : D → Bool
  | .tup ds => row r most (.tup ds) && !adj (ds.map unI)
  | _ => false
theorem letter_int {r : Int} {d : D} (h : letter r d = true) : dInt d = true := by
  cases d <;> first | rfl | cases h
theorem t_is_word_of {d : D} (h : deep d) (r most : Int) : g_is_word_of [.val (.int r), .val d, .val (.int most)] = .ret (.val (.bl (wordOk r most d))) [.val (.int r), .val d, .val (.int most)] := by
  rw [v_is_word_of]
  simp only [b_is_word_of, sSeq, sNx, sIf, sRet, sRetN, sSet, sDo, sB, aCons, aV, aP, aNil, sC, sVar, sMove, sT, sAnd, sOr, sNot, sAndV, sOrV, sNotV, sIfE, sChain, sTup, sLst, sDic0, sSl, sPt, sNo, sCall, sCallL, sPut, sAug, sMeth, isOwn, free, Out.bind, Out.bs, SO.then, List.getElem?_cons_zero, List.getElem?_cons_succ, List.set_cons_zero, List.set_cons_succ, lookA, look, Wd.dat, Wd.lent, Wd.mut, avD, Option.map, List.map, closeR, outs_nil, outs_val, outs_own, if_true, if_false, Bool.false_eq_true, reduceIte, Bool.not_true, Bool.not_false, Bool.not_not, and_self, and_true, true_and, List.length_nil, List.length_cons, Nat.reduceLeDiff, Nat.reduceAdd, Nat.zero_add, Nat.zero_le, t_is_row h]
  cases d with
  | tup ds =>
    rcases tf (row r most (.tup ds)) with e | e
    · have hi : (ds.map unI).map D.int = ds := ints_of fun x hx => letter_int (r := r) (by
        unfold row at e
        rw [Bool.and_eq_true, List.all_eq_true] at e
        exact e.2 x hx)
      have hl : ds.length ≤ 1000000 := (h.2 ds rfl).2
      generalize hw : ds.map unI = w at hi
      have hlw : w.length ≤ 1000000 := by rw [← hw, List.length_map]; exact hl
      have q : sLc (.tp ((.nm 3) :: ((.nm 4) :: []))) (sZip (aCons (aV (sVar 1)) (aCons (aV (sSl gSl (aP 1) (sPt (sC (.int 1))) sNo)) aNil))) sYes (sB gEq (aCons (aP 3) (aCons (aV (sB gNeg (aCons (aP 4) aNil))) aNil))) [3, 4]
          [some (.val (.int r)), some (.val (.tup ds)), some (.val (.int most)), none, none] = .ok (.own false ((w.zip (w.drop 1)).map fun p => .bl (decide (p.1 = -p.2)))) [some (.val (.int r)), some (.val (.tup ds)), some (.val (.int most)), none, none] := by
        unfold sLc
        simp only [sSeq, sNx, sIf, sRet, sRetN, sSet, sDo, sB, aCons, aV, aP, aNil, sC, sVar, sMove, sT, sAnd, sOr, sNot, sAndV, sOrV, sNotV, sIfE, sChain, sTup, sLst, sDic0, sSl, sPt, sNo, sCall, sCallL, sPut, sAug, sMeth, isOwn, free, Out.bind, Out.bs, SO.then, List.getElem?_cons_zero, List.getElem?_cons_succ, List.set_cons_zero, List.set_cons_succ, lookA, look, Wd.dat, Wd.lent, Wd.mut, avD, Option.map, List.map, closeR, outs_nil, outs_val, outs_own, if_true, if_false, Bool.false_eq_true, reduceIte, Bool.not_true, Bool.not_false, Bool.not_not, and_self, and_true, true_and, List.length_nil, List.length_cons, Nat.reduceLeDiff, Nat.reduceAdd, Nat.zero_add, Nat.zero_le, sZip, gSl]
        rw [if_pos ⟨rfl, by simp [Tg.sl, Tg.sls]⟩, cut_from (by decide)]
        rw [← hi, ← List.map_drop, show (1 : Int).toNat = 1 from rfl, zip_ints]
        rw [lc_gen (fun p : Int × Int => .bl (decide (p.1 = -p.2))) _ [] (by simp; omega)]
        · simp
        · rintro ⟨a, b⟩ _
          exact ⟨[some (.val (.int r)), some (.val (.tup (w.map D.int))), some (.val (.int most)), some (.val (.int a)), some (.val (.int b))], [some (.val (.int r)), some (.val (.tup (w.map D.int))), some (.val (.int most)), some (.val (.int a)), some (.val (.int b))], .val (.bl (decide (a = -b))), rfl, rfl, by simp only [sSeq, sNx, sIf, sRet, sRetN, sSet, sDo, sB, aCons, aV, aP, aNil, sC, sVar, sMove, sT, sAnd, sOr, sNot, sAndV, sOrV, sNotV, sIfE, sChain, sTup, sLst, sDic0, sSl, sPt, sNo, sCall, sCallL, sPut, sAug, sMeth, isOwn, free, Out.bind, Out.bs, SO.then, List.getElem?_cons_zero, List.getElem?_cons_succ, List.set_cons_zero, List.set_cons_succ, lookA, look, Wd.dat, Wd.lent, Wd.mut, avD, Option.map, List.map, closeR, outs_nil, outs_val, outs_own, if_true, if_false, Bool.false_eq_true, reduceIte, Bool.not_true, Bool.not_false, Bool.not_not, and_self, and_true, true_and, List.length_nil, List.length_cons, Nat.reduceLeDiff, Nat.reduceAdd, Nat.zero_add, Nat.zero_le, add_int, Fd.gSub, gNeg, gCmp, gLen, abs_int, gInt, gTuple, gList, gRev, gIAdd, eq_int], rfl, rfl⟩
      simp only [wordOk, e, sSeq, sNx, sIf, sRet, sRetN, sSet, sDo, sB, aCons, aV, aP, aNil, sC, sVar, sMove, sT, sAnd, sOr, sNot, sAndV, sOrV, sNotV, sIfE, sChain, sTup, sLst, sDic0, sSl, sPt, sNo, sCall, sCallL, sPut, sAug, sMeth, isOwn, free, Out.bind, Out.bs, SO.then, List.getElem?_cons_zero, List.getElem?_cons_succ, List.set_cons_zero, List.set_cons_succ, lookA, look, Wd.dat, Wd.lent, Wd.mut, avD, Option.map, List.map, closeR, outs_nil, outs_val, outs_own, if_true, if_false, Bool.false_eq_true, reduceIte, Bool.not_true, Bool.not_false, Bool.not_not, and_self, and_true, true_and, List.length_nil, List.length_cons, Nat.reduceLeDiff, Nat.reduceAdd, Nat.zero_add, Nat.zero_le, q, any_map, Bool.true_and, hw, adj]
    · simp only [wordOk, e, sSeq, sNx, sIf, sRet, sRetN, sSet, sDo, sB, aCons, aV, aP, aNil, sC, sVar, sMove, sT, sAnd, sOr, sNot, sAndV, sOrV, sNotV, sIfE, sChain, sTup, sLst, sDic0, sSl, sPt, sNo, sCall, sCallL, sPut, sAug, sMeth, isOwn, free, Out.bind, Out.bs, SO.then, List.getElem?_cons_zero, List.getElem?_cons_succ, List.set_cons_zero, List.set_cons_succ, lookA, look, Wd.dat, Wd.lent, Wd.mut, avD, Option.map, List.map, closeR, outs_nil, outs_val, outs_own, if_true, if_false, Bool.false_eq_true, reduceIte, Bool.not_true, Bool.not_false, Bool.not_not, and_self, and_true, true_and, List.length_nil, List.length_cons, Nat.reduceLeDiff, Nat.reduceAdd, Nat.zero_add, Nat.zero_le, Bool.false_and]
  | _ => first | rfl | cases h.1
theorem t_check_words {r : Int} (h : 1 ≤ r ∧ r ≤ 4) {ds : List D} (hl : ds.length ≤ 1000000) (hd : ∀ d ∈ ds, deep d) (hw : ∀ d ∈ ds, wordOk r 60 d = true) : g_check_words [.val (.int r), .val (.tup ds)] = .ret (.val .non) [.val (.int r), .val (.tup ds)] := by
  rw [v_check_words]
  have q := lc_run (α := D) (enc := id) (i := 2) (o := none) (fi := sSeqI (aV (sVar 1))) (fe := sCall g_is_word_of (aCons (aV (sVar 0)) (aCons (aV (sVar 2)) (aCons (aV (sC (.int 60))) aNil)))) (e := [some (.val (.int r)), some (.val (.tup ds)), none]) (e1 := [some (.val (.int r)), some (.val (.tup ds)), none]) (xs := ds) (fun x => .bl (wordOk r 60 x))
    (by simp only [sSeq, sNx, sIf, sRet, sRetN, sSet, sDo, sB, aCons, aV, aP, aNil, sC, sVar, sMove, sT, sAnd, sOr, sNot, sAndV, sOrV, sNotV, sIfE, sChain, sTup, sLst, sDic0, sSl, sPt, sNo, sCall, sCallL, sPut, sAug, sMeth, isOwn, free, Out.bind, Out.bs, SO.then, List.getElem?_cons_zero, List.getElem?_cons_succ, List.set_cons_zero, List.set_cons_succ, lookA, look, Wd.dat, Wd.lent, Wd.mut, avD, Option.map, List.map, closeR, outs_nil, outs_val, outs_own, if_true, if_false, Bool.false_eq_true, reduceIte, Bool.not_true, Bool.not_false, Bool.not_not, and_self, and_true, true_and, List.length_nil, List.length_cons, Nat.reduceLeDiff, Nat.reduceAdd, Nat.zero_add, Nat.zero_le, sSeqI, seqOf, List.map_id]) rfl rfl hl (fun x hx => by simp only [sSeq, sNx, sIf, sRet, sRetN, sSet, sDo, sB, aCons, aV, aP, aNil, sC, sVar, sMove, sT, sAnd, sOr, sNot, sAndV, sOrV, sNotV, sIfE, sChain, sTup, sLst, sDic0, sSl, sPt, sNo, sCall, sCallL, sPut, sAug, sMeth, isOwn, free, Out.bind, Out.bs, SO.then, List.getElem?_cons_zero, List.getElem?_cons_succ, List.set_cons_zero, List.set_cons_succ, lookA, look, Wd.dat, Wd.lent, Wd.mut, avD, Option.map, List.map, closeR, outs_nil, outs_val, outs_own, if_true, if_false, Bool.false_eq_true, reduceIte, Bool.not_true, Bool.not_false, Bool.not_not, and_self, and_true, true_and, List.length_nil, List.length_cons, Nat.reduceLeDiff, Nat.reduceAdd, Nat.zero_add, Nat.zero_le, id, t_is_word_of (hd x hx)])
  have ha : ds.all (wordOk r 60) = true := List.all_eq_true.mpr hw
  simp only [b_check_words, sSeq, sNx, sIf, sRet, sRetN, sSet, sDo, sB, aCons, aV, aP, aNil, sC, sVar, sMove, sT, sAnd, sOr, sNot, sAndV, sOrV, sNotV, sIfE, sChain, sTup, sLst, sDic0, sSl, sPt, sNo, sCall, sCallL, sPut, sAug, sMeth, isOwn, free, Out.bind, Out.bs, SO.then, List.getElem?_cons_zero, List.getElem?_cons_succ, List.set_cons_zero, List.set_cons_succ, lookA, look, Wd.dat, Wd.lent, Wd.mut, avD, Option.map, List.map, closeR, outs_nil, outs_val, outs_own, if_true, if_false, Bool.false_eq_true, reduceIte, Bool.not_true, Bool.not_false, Bool.not_not, and_self, and_true, true_and, List.length_nil, List.length_cons, Nat.reduceLeDiff, Nat.reduceAdd, Nat.zero_add, Nat.zero_le, t_check_rank h, q, all_map, ha]
theorem neg_eq (a b : Int) : decide (a = -b) = true ↔ a = -b := by simp
theorem t_joined (a b : List Int) (ha : a.length ≤ 1000000) (hb : b.length ≤ 1000000) : g_joined [vI a, vI b] = .ret (vI (joinL a b)) [vI a, vI b] := by
  rw [v_joined]
  have hc := cut_le a.reverse b
  rw [List.length_reverse] at hc
  generalize hk : cut a.reverse b = k at hc
  have wh : whileF (sAnd (sT (sB (gCmp fun i j => decide (i < j)) (aCons (aP 2) (aCons (aV (sB gLen (aCons (aP 0) aNil))) aNil)))) (sAnd (sT (sB (gCmp fun i j => decide (i < j)) (aCons (aP 2) (aCons (aV (sB gLen (aCons (aP 1) aNil))) aNil)))) (sT (sB gEq (aCons (aV (sB gIx (aCons (aP 0) (aCons (aV (sB Fd.gSub (aCons (aV (sB Fd.gSub (aCons (aV (sB gLen (aCons (aP 0) aNil))) (aCons (aV (sC (.int 1))) aNil)))) (aCons (aP 2) aNil)))) aNil)))) (aCons (aV (sB gNeg (aCons (aV (sB gIx (aCons (aP 1) (aCons (aP 2) aNil)))) aNil))) aNil)))))) (sAug 2 gIAdd (sC (.int 1))) fuelN
      [some (vI a), some (vI b), some (.val (.int 0))] = .nx [some (vI a), some (vI b), some (.val (.int k))] := by
    have gx : ∀ (i : Nat) (x : Int), b[i]? = some x → gIx [tI b, .int (i : Int)] = some (.val (.int x)) := fun i x z => ix_tup (by omega) (by rw [Int.toNat_natCast, List.getElem?_map, z]; rfl)
    have gy : ∀ (i : Nat) (y : Int), i < a.length → a.reverse[i]? = some y → gIx [tI a, .int ((a.length : Int) - 1 - (i : Int))] = some (.val (.int y)) := fun i y hi z => by
      rw [List.getElem?_reverse hi] at z
      exact ix_tup (by omega) (by rw [show ((a.length : Int) - 1 - (i : Int)).toNat = a.length - 1 - i by omega, List.getElem?_map, z]; rfl)
    simp only [tI] at gx gy
    refine (fun ⟨e', h1, h2⟩ => h2 ▸ h1) (while_iter (Post := fun e => e = [some (vI a), some (vI b), some (.val (.int k))]) k fuelN (fun i e => e = [some (vI a), some (vI b), some (.val (.int (i : Int)))]) (by unfold fuelN; omega) ?_ ?_ [some (vI a), some (vI b), some (.val (.int 0))] rfl)
    · rintro i e hi rfl
      obtain ⟨y, x, z1, z2, z3⟩ := cut_at a.reverse b i (by omega)
      refine ⟨[some (vI a), some (vI b), some (.val (.int (i : Int)))], _, ?_, rfl, rfl⟩
      have l1 : decide ((i : Int) < (a.length : Int)) = true := by simp; omega
      have l2 : decide ((i : Int) < (b.length : Int)) = true := by simp; omega
      simp only [sSeq, sNx, sIf, sRet, sRetN, sSet, sDo, sB, aCons, aV, aP, aNil, sC, sVar, sMove, sT, sAnd, sOr, sNot, sAndV, sOrV, sNotV, sIfE, sChain, sTup, sLst, sDic0, sSl, sPt, sNo, sCall, sCallL, sPut, sAug, sMeth, isOwn, free, Out.bind, Out.bs, SO.then, List.getElem?_cons_zero, List.getElem?_cons_succ, List.set_cons_zero, List.set_cons_succ, lookA, look, Wd.dat, Wd.lent, Wd.mut, avD, Option.map, List.map, closeR, outs_nil, outs_val, outs_own, if_true, if_false, Bool.false_eq_true, reduceIte, Bool.not_true, Bool.not_false, Bool.not_not, and_self, and_true, true_and, List.length_nil, List.length_cons, Nat.reduceLeDiff, Nat.reduceAdd, Nat.zero_add, Nat.zero_le, add_int, Fd.gSub, gNeg, gCmp, gLen, abs_int, gInt, gTuple, gList, gRev, gIAdd, List.length_map, l1, l2, gy i y (by omega) z1, gx i x z2, eq_int, z3, decide_true]
    · rintro e rfl
      refine ⟨[some (vI a), some (vI b), some (.val (.int (k : Int)))], ?_, rfl⟩
      rcases tf (decide ((k : Int) < (a.length : Int))) with l1 | l1
      · rcases tf (decide ((k : Int) < (b.length : Int))) with l2 | l2
        · have h1 : k < a.reverse.length := by simp at l1; simpa using l1
          have h2 : k < b.length := by simp at l2; exact l2
          have ne := cut_end a.reverse b a.reverse[k] b[k] (by rw [hk]; exact List.getElem?_eq_getElem h1) (by rw [hk]; exact List.getElem?_eq_getElem h2)
          simp only [sSeq, sNx, sIf, sRet, sRetN, sSet, sDo, sB, aCons, aV, aP, aNil, sC, sVar, sMove, sT, sAnd, sOr, sNot, sAndV, sOrV, sNotV, sIfE, sChain, sTup, sLst, sDic0, sSl, sPt, sNo, sCall, sCallL, sPut, sAug, sMeth, isOwn, free, Out.bind, Out.bs, SO.then, List.getElem?_cons_zero, List.getElem?_cons_succ, List.set_cons_zero, List.set_cons_succ, lookA, look, Wd.dat, Wd.lent, Wd.mut, avD, Option.map, List.map, closeR, outs_nil, outs_val, outs_own, if_true, if_false, Bool.false_eq_true, reduceIte, Bool.not_true, Bool.not_false, Bool.not_not, and_self, and_true, true_and, List.length_nil, List.length_cons, Nat.reduceLeDiff, Nat.reduceAdd, Nat.zero_add, Nat.zero_le, add_int, Fd.gSub, gNeg, gCmp, gLen, abs_int, gInt, gTuple, gList, gRev, gIAdd, List.length_map, l1, l2, gy k _ (by simpa using h1) (List.getElem?_eq_getElem h1), gx k _ (List.getElem?_eq_getElem h2), eq_int, ne, decide_false]
        · simp only [sSeq, sNx, sIf, sRet, sRetN, sSet, sDo, sB, aCons, aV, aP, aNil, sC, sVar, sMove, sT, sAnd, sOr, sNot, sAndV, sOrV, sNotV, sIfE, sChain, sTup, sLst, sDic0, sSl, sPt, sNo, sCall, sCallL, sPut, sAug, sMeth, isOwn, free, Out.bind, Out.bs, SO.then, List.getElem?_cons_zero, List.getElem?_cons_succ, List.set_cons_zero, List.set_cons_succ, lookA, look, Wd.dat, Wd.lent, Wd.mut, avD, Option.map, List.map, closeR, outs_nil, outs_val, outs_own, if_true, if_false, Bool.false_eq_true, reduceIte, Bool.not_true, Bool.not_false, Bool.not_not, and_self, and_true, true_and, List.length_nil, List.length_cons, Nat.reduceLeDiff, Nat.reduceAdd, Nat.zero_add, Nat.zero_le, add_int, Fd.gSub, gNeg, gCmp, gLen, abs_int, gInt, gTuple, gList, gRev, gIAdd, List.length_map, l1, l2]
      · simp only [sSeq, sNx, sIf, sRet, sRetN, sSet, sDo, sB, aCons, aV, aP, aNil, sC, sVar, sMove, sT, sAnd, sOr, sNot, sAndV, sOrV, sNotV, sIfE, sChain, sTup, sLst, sDic0, sSl, sPt, sNo, sCall, sCallL, sPut, sAug, sMeth, isOwn, free, Out.bind, Out.bs, SO.then, List.getElem?_cons_zero, List.getElem?_cons_succ, List.set_cons_zero, List.set_cons_succ, lookA, look, Wd.dat, Wd.lent, Wd.mut, avD, Option.map, List.map, closeR, outs_nil, outs_val, outs_own, if_true, if_false, Bool.false_eq_true, reduceIte, Bool.not_true, Bool.not_false, Bool.not_not, and_self, and_true, true_and, List.length_nil, List.length_cons, Nat.reduceLeDiff, Nat.reduceAdd, Nat.zero_add, Nat.zero_le, add_int, Fd.gSub, gNeg, gCmp, gLen, abs_int, gInt, gTuple, gList, gRev, gIAdd, List.length_map, l1]
  have hs : joinL a b = a.take (a.length - k) ++ b.drop k := by unfold joinL; rw [hk]
  simp only [b_joined, sSeq, sNx, sIf, sRet, sRetN, sSet, sDo, sB, aCons, aV, aP, aNil, sC, sVar, sMove, sT, sAnd, sOr, sNot, sAndV, sOrV, sNotV, sIfE, sChain, sTup, sLst, sDic0, sSl, sPt, sNo, sCall, sCallL, sPut, sAug, sMeth, isOwn, free, Out.bind, Out.bs, SO.then, List.getElem?_cons_zero, List.getElem?_cons_succ, List.set_cons_zero, List.set_cons_succ, lookA, look, Wd.dat, Wd.lent, Wd.mut, avD, Option.map, List.map, closeR, outs_nil, outs_val, outs_own, if_true, if_false, Bool.false_eq_true, reduceIte, Bool.not_true, Bool.not_false, Bool.not_not, and_self, and_true, true_and, List.length_nil, List.length_cons, Nat.reduceLeDiff, Nat.reduceAdd, Nat.zero_add, Nat.zero_le, wh]
  simp only [sSeq, sNx, sIf, sRet, sRetN, sSet, sDo, sB, aCons, aV, aP, aNil, sC, sVar, sMove, sT, sAnd, sOr, sNot, sAndV, sOrV, sNotV, sIfE, sChain, sTup, sLst, sDic0, sSl, sPt, sNo, sCall, sCallL, sPut, sAug, sMeth, isOwn, free, Out.bind, Out.bs, SO.then, List.getElem?_cons_zero, List.getElem?_cons_succ, List.set_cons_zero, List.set_cons_succ, lookA, look, Wd.dat, Wd.lent, Wd.mut, avD, Option.map, List.map, closeR, outs_nil, outs_val, outs_own, if_true, if_false, Bool.false_eq_true, reduceIte, Bool.not_true, Bool.not_false, Bool.not_not, and_self, and_true, true_and, List.length_nil, List.length_cons, Nat.reduceLeDiff, Nat.reduceAdd, Nat.zero_add, Nat.zero_le, add_int, Fd.gSub, gNeg, gCmp, gLen, abs_int, gInt, gTuple, gList, gRev, gIAdd, gAdd, List.length_map, sl_from (show (0 : Int) ≤ (k : Int) by omega), sl_to (show (0 : Int) ≤ (a.length : Int) - (k : Int) by omega)]
  rw [hs]
  have l1 : (((a.length : Int) - (k : Int)).toNat) = a.length - k := by omega
  rw [l1, Int.toNat_natCast, if_pos (by simp; omega)]
  simp only [sSeq, sNx, sIf, sRet, sRetN, sSet, sDo, sB, aCons, aV, aP, aNil, sC, sVar, sMove, sT, sAnd, sOr, sNot, sAndV, sOrV, sNotV, sIfE, sChain, sTup, sLst, sDic0, sSl, sPt, sNo, sCall, sCallL, sPut, sAug, sMeth, isOwn, free, Out.bind, Out.bs, SO.then, List.getElem?_cons_zero, List.getElem?_cons_succ, List.set_cons_zero, List.set_cons_succ, lookA, look, Wd.dat, Wd.lent, Wd.mut, avD, Option.map, List.map, closeR, outs_nil, outs_val, outs_own, if_true, if_false, Bool.false_eq_true, reduceIte, Bool.not_true, Bool.not_false, Bool.not_not, and_self, and_true, true_and, List.length_nil, List.length_cons, Nat.reduceLeDiff, Nat.reduceAdd, Nat.zero_add, Nat.zero_le, ← List.map_take, ← List.map_drop, ← List.map_append]
end K27

namespace K27
open PySem Fd Ta
theorem put_tt {i j k l : Nat} {oi oj ok ol : Option Wd} {a b c d : D} {e : Fr} (hi : e[i]? = some oi) (pi : plainO oi = true) (hj : e[j]? = some oj) (pj : plainO oj = true) (hk : e[k]? = some ok) (pk : plainO ok = true) (hl : e[l]? = some ol) (pl : plainO ol = true)
    (n1 : i ≠ j := by decide) (n2 : i ≠ k := by decide) (n3 : i ≠ l := by decide) (n4 : j ≠ k := by decide) (n5 : j ≠ l := by decide) (n6 : k ≠ l := by decide) :
    Tg.put (.tp [.tp [.nm i, .nm j], .tp [.nm k, .nm l]]) (.tup [.tup [a, b], .tup [c, d]]) e = some ((((e.set i (some (.val a))).set j (some (.val b))).set k (some (.val c))).set l (some (.val d))) := by
  show (Tg.put (.tp [.nm i, .nm j]) (.tup [a, b]) e).bind (fun e1 => (Tg.put (.tp [.nm k, .nm l]) (.tup [c, d]) e1).bind fun e2 => some e2) = _
  rw [put_tp2 hi pi (by rw [List.getElem?_set_ne n1]; exact hj) pj]
  show (Tg.put (.tp [.nm k, .nm l]) (.tup [c, d]) _).bind (fun e2 => some e2) = _
  rw [put_tp2 (by rw [List.getElem?_set_ne n4, List.getElem?_set_ne n2]; exact hk) pk (by rw [List.getElem?_set_ne n6, List.getElem?_set_ne n5, List.getElem?_set_ne n3]; exact hl) pl]
  rfl
abbrev tT (m : T) : D := .tup [.tup [.int m.a, .int m.b], .tup [.int m.c, .int m.d]]
abbrev vT (m : T) : Wd := .val (tT m)
theorem mulL {a b : Int} (h : -(2 ^ 64) < a ∧ a < 2 ^ 64) : gMul4 [.int a, .int b] = some (.val (.int (a * b))) := by
  show (if mulOk a b = true then _ else _) = _
  rw [if_pos (by simp [mulOk]; omega)]
/-- all places of a table are small -/
def Sm (m : T) : Prop := sz m ≤ 10 ^ 19
theorem Sm.pl {m : T} (h : Sm m) : (-(2 ^ 64) < m.a ∧ m.a < 2 ^ 64) ∧ (-(2 ^ 64) < m.b ∧ m.b < 2 ^ 64) ∧ (-(2 ^ 64) < m.c ∧ m.c < 2 ^ 64) ∧ (-(2 ^ 64) < m.d ∧ m.d < 2 ^ 64) := by
  unfold Sm sz up dn at h
  have h1 := ab_nn m.a
  have h2 := ab_nn m.b
  have h3 := ab_nn m.c
  have h4 := ab_nn m.d
  have s1 := sgn m.a
  have s2 := sgn m.b
  have s3 := sgn m.c
  have s4 := sgn m.d
  refine ⟨?_, ?_, ?_, ?_⟩ <;> omega
theorem t_table_times {m n : T} (h : Sm m) : g_table_times [vT m, vT n] = .ret (vT (mul m n)) [vT m, vT n] := by
  obtain ⟨h1, h2, h3, h4⟩ := h.pl
  rw [v_table_times]
  have p1 := put_tt (i := 2) (j := 3) (k := 4) (l := 5) (a := .int m.a) (b := .int m.b) (c := .int m.c) (d := .int m.d) (e := [some (vT m), some (vT n), none, none, none, none, none, none, none, none]) (by rfl) rfl (by rfl) rfl (by rfl) rfl (by rfl) rfl
  have p2 := put_tt (i := 6) (j := 7) (k := 8) (l := 9) (a := .int n.a) (b := .int n.b) (c := .int n.c) (d := .int n.d) (e := [some (vT m), some (vT n), some (.val (.int m.a)), some (.val (.int m.b)), some (.val (.int m.c)), some (.val (.int m.d)), none, none, none, none]) (by rfl) rfl (by rfl) rfl (by rfl) rfl (by rfl) rfl
  simp only [List.set_cons_zero, List.set_cons_succ] at p1 p2
  simp only [b_table_times, sSeq, sNx, sIf, sRet, sRetN, sSet, sDo, sB, aCons, aV, aP, aNil, sC, sVar, sMove, sT, sAnd, sOr, sNot, sAndV, sOrV, sNotV, sIfE, sChain, sTup, sLst, sDic0, sSl, sPt, sNo, sCall, sCallL, sPut, sAug, sMeth, isOwn, free, Out.bind, Out.bs, SO.then, List.getElem?_cons_zero, List.getElem?_cons_succ, List.set_cons_zero, List.set_cons_succ, lookA, look, Wd.dat, Wd.lent, Wd.mut, avD, Option.map, List.map, closeR, outs_nil, outs_val, outs_own, if_true, if_false, Bool.false_eq_true, reduceIte, Bool.not_true, Bool.not_false, Bool.not_not, and_self, and_true, true_and, List.length_nil, List.length_cons, Nat.reduceLeDiff, Nat.reduceAdd, Nat.zero_add, Nat.zero_le, add_int, Fd.gSub, gNeg, gCmp, gLen, abs_int, gInt, gTuple, gList, gRev, gIAdd, sSetT, p1, p2, mulL h1, mulL h2, mulL h3, mulL h4, mul]
theorem t_table_back (m : T) : g_table_back [vT m] = .ret (vT (bk m)) [vT m] := by
  rw [v_table_back]
  have p1 := put_tt (i := 1) (j := 2) (k := 3) (l := 4) (a := .int m.a) (b := .int m.b) (c := .int m.c) (d := .int m.d) (e := [some (vT m), none, none, none, none]) (by rfl) rfl (by rfl) rfl (by rfl) rfl (by rfl) rfl
  simp only [List.set_cons_zero, List.set_cons_succ] at p1
  simp only [b_table_back, sSeq, sNx, sIf, sRet, sRetN, sSet, sDo, sB, aCons, aV, aP, aNil, sC, sVar, sMove, sT, sAnd, sOr, sNot, sAndV, sOrV, sNotV, sIfE, sChain, sTup, sLst, sDic0, sSl, sPt, sNo, sCall, sCallL, sPut, sAug, sMeth, isOwn, free, Out.bind, Out.bs, SO.then, List.getElem?_cons_zero, List.getElem?_cons_succ, List.set_cons_zero, List.set_cons_succ, lookA, look, Wd.dat, Wd.lent, Wd.mut, avD, Option.map, List.map, closeR, outs_nil, outs_val, outs_own, if_true, if_false, Bool.false_eq_true, reduceIte, Bool.not_true, Bool.not_false, Bool.not_not, and_self, and_true, true_and, List.length_nil, List.length_cons, Nat.reduceLeDiff, Nat.reduceAdd, Nat.zero_add, Nat.zero_le, add_int, Fd.gSub, gNeg, gCmp, gLen, abs_int, gInt, gTuple, gList, gRev, gIAdd, sSetT, p1, bk]
theorem t_is_of_letters (m : T) : g_is_of_letters [vT m] = .ret (.val (.bl (decide (m.a % 4 = 1) && (decide (m.d % 4 = 1) && (decide (m.b % 2 = 0) && decide (m.c % 2 = 0)))))) [vT m] := by
  rw [v_is_of_letters]
  have p1 := put_tt (i := 1) (j := 2) (k := 3) (l := 4) (a := .int m.a) (b := .int m.b) (c := .int m.c) (d := .int m.d) (e := [some (vT m), none, none, none, none]) (by rfl) rfl (by rfl) rfl (by rfl) rfl (by rfl) rfl
  simp only [List.set_cons_zero, List.set_cons_succ] at p1
  have q4 : ∀ x : Int, gMod [.int x, .int 4] = some (.val (.int (x % 4))) := fun _ => rfl
  have q2 : ∀ x : Int, gMod [.int x, .int 2] = some (.val (.int (x % 2))) := fun _ => rfl
  rcases tf (decide (m.a % 4 = 1)) with c1 | c1 <;> rcases tf (decide (m.d % 4 = 1)) with c2 | c2 <;> rcases tf (decide (m.b % 2 = 0)) with c3 | c3 <;>
    simp only [b_is_of_letters, sSeq, sNx, sIf, sRet, sRetN, sSet, sDo, sB, aCons, aV, aP, aNil, sC, sVar, sMove, sT, sAnd, sOr, sNot, sAndV, sOrV, sNotV, sIfE, sChain, sTup, sLst, sDic0, sSl, sPt, sNo, sCall, sCallL, sPut, sAug, sMeth, isOwn, free, Out.bind, Out.bs, SO.then, List.getElem?_cons_zero, List.getElem?_cons_succ, List.set_cons_zero, List.set_cons_succ, lookA, look, Wd.dat, Wd.lent, Wd.mut, avD, Option.map, List.map, closeR, outs_nil, outs_val, outs_own, if_true, if_false, Bool.false_eq_true, reduceIte, Bool.not_true, Bool.not_false, Bool.not_not, and_self, and_true, true_and, List.length_nil, List.length_cons, Nat.reduceLeDiff, Nat.reduceAdd, Nat.zero_add, Nat.zero_le, add_int, Fd.gSub, gNeg, gCmp, gLen, abs_int, gInt, gTuple, gList, gRev, gIAdd, sSetT, p1, q4, q2, eq_int, c1, c2, c3, Bool.true_and, Bool.false_and]
theorem t_size_of (m : T) : g_size_of [vT m] = .ret (.val (.int (sz m))) [vT m] := by
  rw [v_size_of]
  have q : sLc2 (.nm 1) (sSeqI (aV (sVar 0))) sYes (.nm 2) (sSeqI (aV (sVar 1))) sYes (sB gAbs (aCons (aP 2) aNil)) [1, 2] [2] [some (vT m), none, none] = .ok (.own false [.int (Ta.ab m.a), .int (Ta.ab m.b), .int (Ta.ab m.c), .int (Ta.ab m.d)]) [some (vT m), none, none] := rfl
  have hs : gSum [.lst [.int (Ta.ab m.a), .int (Ta.ab m.b), .int (Ta.ab m.c), .int (Ta.ab m.d)]] = some (.val (.int (sz m))) := by
    have e : sz m = Ta.ab m.a + (Ta.ab m.b + (Ta.ab m.c + (Ta.ab m.d + 0))) := by unfold sz up dn; omega
    rw [e]; rfl
  simp only [b_size_of, sSeq, sNx, sIf, sRet, sRetN, sSet, sDo, sB, aCons, aV, aP, aNil, sC, sVar, sMove, sT, sAnd, sOr, sNot, sAndV, sOrV, sNotV, sIfE, sChain, sTup, sLst, sDic0, sSl, sPt, sNo, sCall, sCallL, sPut, sAug, sMeth, isOwn, free, Out.bind, Out.bs, SO.then, List.getElem?_cons_zero, List.getElem?_cons_succ, List.set_cons_zero, List.set_cons_succ, lookA, look, Wd.dat, Wd.lent, Wd.mut, avD, Option.map, List.map, closeR, outs_nil, outs_val, outs_own, if_true, if_false, Bool.false_eq_true, reduceIte, Bool.not_true, Bool.not_false, Bool.not_not, and_self, and_true, true_and, List.length_nil, List.length_cons, Nat.reduceLeDiff, Nat.reduceAdd, Nat.zero_add, Nat.zero_le, q, hs]
/-- the constants -/
theorem ge_val : ∀ x : Int, isL x → ge x = (if x > 0 then (if Fd.ab x = 1 then ⟨1, 2, 0, 1⟩ else ⟨1, 0, 2, 1⟩) else bk (if Fd.ab x = 1 then ⟨1, 2, 0, 1⟩ else ⟨1, 0, 2, 1⟩)) := fun x h => by
  rcases h with rfl | rfl | rfl | rfl <;> decide
theorem sm_pow {w : List Int} (h : ∀ y ∈ w, isL y) (hl : w.length ≤ 30) : Sm (tab w) := by
  have h1 := sz_tab h
  have h2 : (3 : Int) ^ w.length ≤ 3 ^ 30 := by
    have : (3 : Nat) ^ w.length ≤ 3 ^ 30 := Nat.pow_le_pow_right (by decide) hl
    exact_mod_cast this
  unfold Sm
  have h3 : (3 : Int) ^ 30 = 205891132094649 := by decide +kernel
  omega
abbrev cF : D := .tup [.tup [.int 1, .int 2], .tup [.int 0, .int 1]]
abbrev cS : D := .tup [.tup [.int 1, .int 0], .tup [.int 2, .int 1]]
theorem t_table_by {w : List Int} (h : ∀ y ∈ w, isL y) (hl : w.length ≤ 30) : g_table_by [.val (.tup (w.map .int)), .val (.tup [cF, cS])] = .ret (vT (tab w)) [.val (.tup (w.map .int)), .val (.tup [cF, cS])] := by
  rw [v_table_by]
  have lp := loop_inv (enc := D.int) (tg := .nm 3) (body := (sSet 2 (sCall g_table_times (aCons (aV (sVar 2)) (aCons (aV (sIfE (sT (sB (gCmp fun i j => decide (i > j)) (aCons (aP 3) (aCons (aV (sC (.int 0))) aNil)))) (sB gIx (aCons (aP 1) (aCons (aV (sB gSub (aCons (aP 3) (aCons (aV (sC (.int 1))) aNil)))) aNil))) (sCall g_table_back (aCons (aV (sB gIx (aCons (aP 1) (aCons (aV (sB gSub (aCons (aV (sB gNeg (aCons (aP 3) aNil))) (aCons (aV (sC (.int 1))) aNil)))) aNil)))) aNil)))) aNil)))))
    w (fun i e => ∃ o, plainO o = true ∧ e = [some (.val (.tup (w.map .int))), some (.val (.tup [cF, cS])), some (vT (tab (w.take i))), o]) 0 ?_ [some (.val (.tup (w.map .int))), some (.val (.tup [cF, cS])), some (vT one), none] ⟨none, rfl, rfl⟩
  · obtain ⟨e', h1, o, ho, rfl⟩ := lp
    rw [Nat.zero_add, List.take_length] at h1
    simp only [vT, tT, one] at h1
    simp only [b_table_by, sSeq, sNx, sIf, sRet, sRetN, sSet, sDo, sB, aCons, aV, aP, aNil, sC, sVar, sMove, sT, sAnd, sOr, sNot, sAndV, sOrV, sNotV, sIfE, sChain, sTup, sLst, sDic0, sSl, sPt, sNo, sCall, sCallL, sPut, sAug, sMeth, isOwn, free, Out.bind, Out.bs, SO.then, List.getElem?_cons_zero, List.getElem?_cons_succ, List.set_cons_zero, List.set_cons_succ, lookA, look, Wd.dat, Wd.lent, Wd.mut, avD, Option.map, List.map, closeR, outs_nil, outs_val, outs_own, if_true, if_false, Bool.false_eq_true, reduceIte, Bool.not_true, Bool.not_false, Bool.not_not, and_self, and_true, true_and, List.length_nil, List.length_cons, Nat.reduceLeDiff, Nat.reduceAdd, Nat.zero_add, Nat.zero_le, sFor, sSeqI, seqOf, h1]
  · rintro i x e hx ⟨o, ho, rfl⟩
    rw [Nat.zero_add] at *
    have hxl := h x (List.mem_of_getElem? hx)
    have hs : tab (w.take (i + 1)) = mul (tab (w.take i)) (ge x) := by
      rw [List.take_succ, hx, tab_app]
      show mul _ (mul one (ge x)) = _
      rw [Ta.one_mul]
    have hm : Sm (tab (w.take i)) := sm_pow (fun y hy => h y (List.mem_of_mem_take hy)) (by rw [List.length_take]; omega)
    rw [hs]
    generalize tab (w.take i) = m at hm
    refine ⟨_, [some (.val (.tup (w.map .int))), some (.val (.tup [cF, cS])), some (vT (mul m (ge x))), some (.val (.int x))], put_nm (by rfl) ho, .inl ?_, some (.val (.int x)), rfl, rfl⟩
    have b1 := t_table_back ⟨1, 2, 0, 1⟩
    have b2 := t_table_back ⟨1, 0, 2, 1⟩
    have tt := fun n => t_table_times (n := n) hm
    rcases hxl with rfl | rfl | rfl | rfl
    · have e := tt (ge 1)
      simp only [show ge 1 = ⟨1, 2, 0, 1⟩ from rfl] at e ⊢
      have gx : gIx [.tup [cF, cS], .int (1 - 1)] = some (.val cF) := rfl
      simp only [sSeq, sNx, sIf, sRet, sRetN, sSet, sDo, sB, aCons, aV, aP, aNil, sC, sVar, sMove, sT, sAnd, sOr, sNot, sAndV, sOrV, sNotV, sIfE, sChain, sTup, sLst, sDic0, sSl, sPt, sNo, sCall, sCallL, sPut, sAug, sMeth, isOwn, free, Out.bind, Out.bs, SO.then, List.getElem?_cons_zero, List.getElem?_cons_succ, List.set_cons_zero, List.set_cons_succ, lookA, look, Wd.dat, Wd.lent, Wd.mut, avD, Option.map, List.map, closeR, outs_nil, outs_val, outs_own, if_true, if_false, Bool.false_eq_true, reduceIte, Bool.not_true, Bool.not_false, Bool.not_not, and_self, and_true, true_and, List.length_nil, List.length_cons, Nat.reduceLeDiff, Nat.reduceAdd, Nat.zero_add, Nat.zero_le, add_int, Fd.gSub, gNeg, gCmp, gLen, abs_int, gInt, gTuple, gList, gRev, gIAdd, show decide ((1 : Int) > 0) = true from rfl, gx, e]
    · have e := tt (ge (-1))
      simp only [show ge (-1) = bk ⟨1, 2, 0, 1⟩ from rfl] at e ⊢
      have gx : gIx [.tup [cF, cS], .int (- -1 - 1)] = some (.val cF) := rfl
      simp only [sSeq, sNx, sIf, sRet, sRetN, sSet, sDo, sB, aCons, aV, aP, aNil, sC, sVar, sMove, sT, sAnd, sOr, sNot, sAndV, sOrV, sNotV, sIfE, sChain, sTup, sLst, sDic0, sSl, sPt, sNo, sCall, sCallL, sPut, sAug, sMeth, isOwn, free, Out.bind, Out.bs, SO.then, List.getElem?_cons_zero, List.getElem?_cons_succ, List.set_cons_zero, List.set_cons_succ, lookA, look, Wd.dat, Wd.lent, Wd.mut, avD, Option.map, List.map, closeR, outs_nil, outs_val, outs_own, if_true, if_false, Bool.false_eq_true, reduceIte, Bool.not_true, Bool.not_false, Bool.not_not, and_self, and_true, true_and, List.length_nil, List.length_cons, Nat.reduceLeDiff, Nat.reduceAdd, Nat.zero_add, Nat.zero_le, add_int, Fd.gSub, gNeg, gCmp, gLen, abs_int, gInt, gTuple, gList, gRev, gIAdd, show decide ((-1 : Int) > 0) = false from rfl, gx, b1, e]
    · have e := tt (ge 2)
      simp only [show ge 2 = ⟨1, 0, 2, 1⟩ from rfl] at e ⊢
      have gx : gIx [.tup [cF, cS], .int (2 - 1)] = some (.val cS) := rfl
      simp only [sSeq, sNx, sIf, sRet, sRetN, sSet, sDo, sB, aCons, aV, aP, aNil, sC, sVar, sMove, sT, sAnd, sOr, sNot, sAndV, sOrV, sNotV, sIfE, sChain, sTup, sLst, sDic0, sSl, sPt, sNo, sCall, sCallL, sPut, sAug, sMeth, isOwn, free, Out.bind, Out.bs, SO.then, List.getElem?_cons_zero, List.getElem?_cons_succ, List.set_cons_zero, List.set_cons_succ, lookA, look, Wd.dat, Wd.lent, Wd.mut, avD, Option.map, List.map, closeR, outs_nil, outs_val, outs_own, if_true, if_false, Bool.false_eq_true, reduceIte, Bool.not_true, Bool.not_false, Bool.not_not, and_self, and_true, true_and, List.length_nil, List.length_cons, Nat.reduceLeDiff, Nat.reduceAdd, Nat.zero_add, Nat.zero_le, add_int, Fd.gSub, gNeg, gCmp, gLen, abs_int, gInt, gTuple, gList, gRev, gIAdd, show decide ((2 : Int) > 0) = true from rfl, gx, e]
    · have e := tt (ge (-2))
      simp only [show ge (-2) = bk ⟨1, 0, 2, 1⟩ from rfl] at e ⊢
      have gx : gIx [.tup [cF, cS], .int (- -2 - 1)] = some (.val cS) := rfl
      simp only [sSeq, sNx, sIf, sRet, sRetN, sSet, sDo, sB, aCons, aV, aP, aNil, sC, sVar, sMove, sT, sAnd, sOr, sNot, sAndV, sOrV, sNotV, sIfE, sChain, sTup, sLst, sDic0, sSl, sPt, sNo, sCall, sCallL, sPut, sAug, sMeth, isOwn, free, Out.bind, Out.bs, SO.then, List.getElem?_cons_zero, List.getElem?_cons_succ, List.set_cons_zero, List.set_cons_succ, lookA, look, Wd.dat, Wd.lent, Wd.mut, avD, Option.map, List.map, closeR, outs_nil, outs_val, outs_own, if_true, if_false, Bool.false_eq_true, reduceIte, Bool.not_true, Bool.not_false, Bool.not_not, and_self, and_true, true_and, List.length_nil, List.length_cons, Nat.reduceLeDiff, Nat.reduceAdd, Nat.zero_add, Nat.zero_le, add_int, Fd.gSub, gNeg, gCmp, gLen, abs_int, gInt, gTuple, gList, gRev, gIAdd, show decide ((-2 : Int) > 0) = false from rfl, gx, b2, e]
end K27

namespace K27
open PySem Fd Ta
def encO : Option (Int × T) → D
  | none => .non
  | some p => .tup [.int p.1, tT p.2]
abbrev stp (y : Int) : T := if Fd.ab y = 1 then ⟨1, 2, 0, 1⟩ else ⟨1, 0, 2, 1⟩
theorem later_eq {y : Int} (h : isL y) (m : T) : mul (if y > 0 then bk (stp y) else stp y) m = act (-y) m := by
  rw [← act_eq]
  congr 1
  rcases h with rfl | rfl | rfl | rfl <;> decide
theorem stp_sm (y : Int) : Sm (stp y) ∧ Sm (bk (stp y)) := by
  unfold stp
  split <;> (constructor <;> (unfold Sm; decide +kernel))
theorem try_core {tb : D} {f : List D} {m l st : T} {t : Option (Int × T)} {y : Int} {o5 o6 : Option Wd} (h5 : plainO o5 = true) (h6 : plainO o6 = true) (hc : (decide (Fd.ab y = 1) = true ∧ st = ⟨1, 2, 0, 1⟩) ∨ (decide (Fd.ab y = 1) = false ∧ st = ⟨1, 0, 2, 1⟩))
    (le : (decide (y > 0) = true ∧ mul (bk st) m = l) ∨ (decide (y > 0) = false ∧ mul st m = l)) (s1 : Sm st) (s2 : Sm (bk st)) :
    ((sSeq (sSet 5 (sIfE (sT (sB gEq (aCons (aV (sB gAbs (aCons (aP 4) aNil))) (aCons (aV (sC (.int 1))) aNil)))) (sC (.tup [(.tup [(.int (1)), (.int (2))]), (.tup [(.int (0)), (.int (1))])])) (sC (.tup [(.tup [(.int (1)), (.int (0))]), (.tup [(.int (2)), (.int (1))])])))) (sSeq (sSet 6 (sCall g_table_times (aCons (aV (sIfE (sT (sB (gCmp fun i j => decide (i > j)) (aCons (aP 4) (aCons (aV (sC (.int 0))) aNil)))) (sCall g_table_back (aCons (aV (sVar 5)) aNil)) (sVar 5))) (aCons (aV (sVar 2)) aNil)))) (sIf (sAnd (sT (sB (gCmp fun i j => decide (i < j)) (aCons (aV (sCall g_size_of (aCons (aV (sVar 6)) aNil))) (aCons (aV (sCall g_size_of (aCons (aV (sVar 2)) aNil))) aNil)))) (sOr (sT (sB gIsN (aCons (aP 3) (aCons (aV (sC .non)) aNil)))) (sT (sB (gCmp fun i j => decide (i < j)) (aCons (aV (sCall g_size_of (aCons (aV (sVar 6)) aNil))) (aCons (aV (sCall g_size_of (aCons (aV (sB gIx (aCons (aP 3) (aCons (aV (sC (.int 1))) aNil)))) aNil))) aNil)))))) (sSet 3 (sTup (aCons (aV (sVar 4)) (aCons (aV (sVar 6)) aNil)))) sNx)))) [some (.val tb), some (.own false f), some (vT m), some (.val (encO t)), some (.val (.int y)), o5, o6] = .nx [some (.val tb), some (.own false f), some (vT m), some (.val (encO (if decide (sz l < sz m) && (match t with | none => true | some p => decide (sz l < sz p.2)) then some (y, l) else t))), some (.val (.int y)), some (vT st), some (vT l)] := by
  have bkt := t_table_back st
  have z1 := t_size_of l
  have z2 := t_size_of m
  have q1 := t_table_times (n := m) s1
  have q2 := t_table_times (n := m) s2
  have isn : ∀ xs, gIsN [.tup xs, .non] = some (.val (.bl false)) := fun _ => rfl
  have isy : gIsN [.non, .non] = some (.val (.bl true)) := rfl
  have fin : ∀ e : Fr, e = [some (.val tb), some (.own false f), some (vT m), some (.val (encO t)), some (.val (.int y)), some (vT st), some (vT l)] → (sIf (sAnd (sT (sB (gCmp fun i j => decide (i < j)) (aCons (aV (sCall g_size_of (aCons (aV (sVar 6)) aNil))) (aCons (aV (sCall g_size_of (aCons (aV (sVar 2)) aNil))) aNil)))) (sOr (sT (sB gIsN (aCons (aP 3) (aCons (aV (sC .non)) aNil)))) (sT (sB (gCmp fun i j => decide (i < j)) (aCons (aV (sCall g_size_of (aCons (aV (sVar 6)) aNil))) (aCons (aV (sCall g_size_of (aCons (aV (sB gIx (aCons (aP 3) (aCons (aV (sC (.int 1))) aNil)))) aNil))) aNil)))))) (sSet 3 (sTup (aCons (aV (sVar 4)) (aCons (aV (sVar 6)) aNil)))) sNx) e = .nx [some (.val tb), some (.own false f), some (vT m), some (.val (encO (if decide (sz l < sz m) && (match t with | none => true | some p => decide (sz l < sz p.2)) then some (y, l) else t))), some (.val (.int y)), some (vT st), some (vT l)] := by
    rintro e rfl
    rcases tf (decide (sz l < sz m)) with d1 | d1
    · cases t with
      | none => simp only [sSeq, sNx, sIf, sRet, sRetN, sSet, sDo, sB, aCons, aV, aP, aNil, sC, sVar, sMove, sT, sAnd, sOr, sNot, sAndV, sOrV, sNotV, sIfE, sChain, sTup, sLst, sDic0, sSl, sPt, sNo, sCall, sCallL, sPut, sAug, sMeth, isOwn, free, Out.bind, Out.bs, SO.then, List.getElem?_cons_zero, List.getElem?_cons_succ, List.set_cons_zero, List.set_cons_succ, lookA, look, Wd.dat, Wd.lent, Wd.mut, avD, Option.map, List.map, closeR, outs_nil, outs_val, outs_own, if_true, if_false, Bool.false_eq_true, reduceIte, Bool.not_true, Bool.not_false, Bool.not_not, and_self, and_true, true_and, List.length_nil, List.length_cons, Nat.reduceLeDiff, Nat.reduceAdd, Nat.zero_add, Nat.zero_le, add_int, Fd.gSub, gNeg, gCmp, gLen, abs_int, gInt, gTuple, gList, gRev, gIAdd, encO, z1, z2, d1, isy, Bool.and_self]
      | some p =>
        have gx : gIx [.tup [.int p.1, tT p.2], .int 1] = some (.val (tT p.2)) := rfl
        have z3 := t_size_of p.2
        rcases tf (decide (sz l < sz p.2)) with d2 | d2
        · simp only [sSeq, sNx, sIf, sRet, sRetN, sSet, sDo, sB, aCons, aV, aP, aNil, sC, sVar, sMove, sT, sAnd, sOr, sNot, sAndV, sOrV, sNotV, sIfE, sChain, sTup, sLst, sDic0, sSl, sPt, sNo, sCall, sCallL, sPut, sAug, sMeth, isOwn, free, Out.bind, Out.bs, SO.then, List.getElem?_cons_zero, List.getElem?_cons_succ, List.set_cons_zero, List.set_cons_succ, lookA, look, Wd.dat, Wd.lent, Wd.mut, avD, Option.map, List.map, closeR, outs_nil, outs_val, outs_own, if_true, if_false, Bool.false_eq_true, reduceIte, Bool.not_true, Bool.not_false, Bool.not_not, and_self, and_true, true_and, List.length_nil, List.length_cons, Nat.reduceLeDiff, Nat.reduceAdd, Nat.zero_add, Nat.zero_le, add_int, Fd.gSub, gNeg, gCmp, gLen, abs_int, gInt, gTuple, gList, gRev, gIAdd, encO, z1, z2, z3, d1, d2, isn, gx, Bool.and_self]
        · simp only [sSeq, sNx, sIf, sRet, sRetN, sSet, sDo, sB, aCons, aV, aP, aNil, sC, sVar, sMove, sT, sAnd, sOr, sNot, sAndV, sOrV, sNotV, sIfE, sChain, sTup, sLst, sDic0, sSl, sPt, sNo, sCall, sCallL, sPut, sAug, sMeth, isOwn, free, Out.bind, Out.bs, SO.then, List.getElem?_cons_zero, List.getElem?_cons_succ, List.set_cons_zero, List.set_cons_succ, lookA, look, Wd.dat, Wd.lent, Wd.mut, avD, Option.map, List.map, closeR, outs_nil, outs_val, outs_own, if_true, if_false, Bool.false_eq_true, reduceIte, Bool.not_true, Bool.not_false, Bool.not_not, and_self, and_true, true_and, List.length_nil, List.length_cons, Nat.reduceLeDiff, Nat.reduceAdd, Nat.zero_add, Nat.zero_le, add_int, Fd.gSub, gNeg, gCmp, gLen, abs_int, gInt, gTuple, gList, gRev, gIAdd, encO, z1, z2, z3, d1, d2, isn, gx, Bool.and_false]
    · simp only [sSeq, sNx, sIf, sRet, sRetN, sSet, sDo, sB, aCons, aV, aP, aNil, sC, sVar, sMove, sT, sAnd, sOr, sNot, sAndV, sOrV, sNotV, sIfE, sChain, sTup, sLst, sDic0, sSl, sPt, sNo, sCall, sCallL, sPut, sAug, sMeth, isOwn, free, Out.bind, Out.bs, SO.then, List.getElem?_cons_zero, List.getElem?_cons_succ, List.set_cons_zero, List.set_cons_succ, lookA, look, Wd.dat, Wd.lent, Wd.mut, avD, Option.map, List.map, closeR, outs_nil, outs_val, outs_own, if_true, if_false, Bool.false_eq_true, reduceIte, Bool.not_true, Bool.not_false, Bool.not_not, and_self, and_true, true_and, List.length_nil, List.length_cons, Nat.reduceLeDiff, Nat.reduceAdd, Nat.zero_add, Nat.zero_le, add_int, Fd.gSub, gNeg, gCmp, gLen, abs_int, gInt, gTuple, gList, gRev, gIAdd, z1, z2, d1, Bool.false_and]
  have stA : (sSet 5 (sIfE (sT (sB gEq (aCons (aV (sB gAbs (aCons (aP 4) aNil))) (aCons (aV (sC (.int 1))) aNil)))) (sC (.tup [(.tup [(.int (1)), (.int (2))]), (.tup [(.int (0)), (.int (1))])])) (sC (.tup [(.tup [(.int (1)), (.int (0))]), (.tup [(.int (2)), (.int (1))])])))) [some (.val tb), some (.own false f), some (vT m), some (.val (encO t)), some (.val (.int y)), o5, o6] = .nx [some (.val tb), some (.own false f), some (vT m), some (.val (encO t)), some (.val (.int y)), some (vT st), o6] := by
    rcases hc with ⟨c, rfl⟩ | ⟨c, rfl⟩ <;> rcases plain_cases h5 with rfl | ⟨d5, rfl⟩ <;> simp only [sSeq, sNx, sIf, sRet, sRetN, sSet, sDo, sB, aCons, aV, aP, aNil, sC, sVar, sMove, sT, sAnd, sOr, sNot, sAndV, sOrV, sNotV, sIfE, sChain, sTup, sLst, sDic0, sSl, sPt, sNo, sCall, sCallL, sPut, sAug, sMeth, isOwn, free, Out.bind, Out.bs, SO.then, List.getElem?_cons_zero, List.getElem?_cons_succ, List.set_cons_zero, List.set_cons_succ, lookA, look, Wd.dat, Wd.lent, Wd.mut, avD, Option.map, List.map, closeR, outs_nil, outs_val, outs_own, if_true, if_false, Bool.false_eq_true, reduceIte, Bool.not_true, Bool.not_false, Bool.not_not, and_self, and_true, true_and, List.length_nil, List.length_cons, Nat.reduceLeDiff, Nat.reduceAdd, Nat.zero_add, Nat.zero_le, add_int, Fd.gSub, gNeg, gCmp, gLen, abs_int, gInt, gTuple, gList, gRev, gIAdd, eq_int, c]
  have stB : (sSet 6 (sCall g_table_times (aCons (aV (sIfE (sT (sB (gCmp fun i j => decide (i > j)) (aCons (aP 4) (aCons (aV (sC (.int 0))) aNil)))) (sCall g_table_back (aCons (aV (sVar 5)) aNil)) (sVar 5))) (aCons (aV (sVar 2)) aNil)))) [some (.val tb), some (.own false f), some (vT m), some (.val (encO t)), some (.val (.int y)), some (vT st), o6] = .nx [some (.val tb), some (.own false f), some (vT m), some (.val (encO t)), some (.val (.int y)), some (vT st), some (vT l)] := by
    rcases le with ⟨c, rfl⟩ | ⟨c, rfl⟩ <;> rcases plain_cases h6 with rfl | ⟨d6, rfl⟩ <;> simp only [sSeq, sNx, sIf, sRet, sRetN, sSet, sDo, sB, aCons, aV, aP, aNil, sC, sVar, sMove, sT, sAnd, sOr, sNot, sAndV, sOrV, sNotV, sIfE, sChain, sTup, sLst, sDic0, sSl, sPt, sNo, sCall, sCallL, sPut, sAug, sMeth, isOwn, free, Out.bind, Out.bs, SO.then, List.getElem?_cons_zero, List.getElem?_cons_succ, List.set_cons_zero, List.set_cons_succ, lookA, look, Wd.dat, Wd.lent, Wd.mut, avD, Option.map, List.map, closeR, outs_nil, outs_val, outs_own, if_true, if_false, Bool.false_eq_true, reduceIte, Bool.not_true, Bool.not_false, Bool.not_not, and_self, and_true, true_and, List.length_nil, List.length_cons, Nat.reduceLeDiff, Nat.reduceAdd, Nat.zero_add, Nat.zero_le, add_int, Fd.gSub, gNeg, gCmp, gLen, abs_int, gInt, gTuple, gList, gRev, gIAdd, c, bkt, q1, q2]
  rw [sSeq, stA, SO.then_nx, sSeq, stB, SO.then_nx]
  exact fin _ rfl
theorem try_letter {tb : D} {f : List D} {m : T} {t : Option (Int × T)} {y : Int} (hy : isL y) {o5 o6 : Option Wd} (h5 : plainO o5 = true) (h6 : plainO o6 = true) :
    ((sSeq (sSet 5 (sIfE (sT (sB gEq (aCons (aV (sB gAbs (aCons (aP 4) aNil))) (aCons (aV (sC (.int 1))) aNil)))) (sC (.tup [(.tup [(.int (1)), (.int (2))]), (.tup [(.int (0)), (.int (1))])])) (sC (.tup [(.tup [(.int (1)), (.int (0))]), (.tup [(.int (2)), (.int (1))])])))) (sSeq (sSet 6 (sCall g_table_times (aCons (aV (sIfE (sT (sB (gCmp fun i j => decide (i > j)) (aCons (aP 4) (aCons (aV (sC (.int 0))) aNil)))) (sCall g_table_back (aCons (aV (sVar 5)) aNil)) (sVar 5))) (aCons (aV (sVar 2)) aNil)))) (sIf (sAnd (sT (sB (gCmp fun i j => decide (i < j)) (aCons (aV (sCall g_size_of (aCons (aV (sVar 6)) aNil))) (aCons (aV (sCall g_size_of (aCons (aV (sVar 2)) aNil))) aNil)))) (sOr (sT (sB gIsN (aCons (aP 3) (aCons (aV (sC .non)) aNil)))) (sT (sB (gCmp fun i j => decide (i < j)) (aCons (aV (sCall g_size_of (aCons (aV (sVar 6)) aNil))) (aCons (aV (sCall g_size_of (aCons (aV (sB gIx (aCons (aP 3) (aCons (aV (sC (.int 1))) aNil)))) aNil))) aNil)))))) (sSet 3 (sTup (aCons (aV (sVar 4)) (aCons (aV (sVar 6)) aNil)))) sNx)))) [some (.val tb), some (.own false f), some (vT m), some (.val (encO t)), some (.val (.int y)), o5, o6] = .nx [some (.val tb), some (.own false f), some (vT m), some (.val (encO (tr m t y))), some (.val (.int y)), some (vT (stp y)), some (vT (act (-y) m))] := by
  obtain ⟨s1, s2⟩ := stp_sm y
  have le := later_eq hy m
  refine try_core h5 h6 ?_ ?_ s1 s2
  · rcases hy with rfl | rfl | rfl | rfl
    · exact .inl ⟨rfl, rfl⟩
    · exact .inl ⟨rfl, rfl⟩
    · exact .inr ⟨rfl, rfl⟩
    · exact .inr ⟨rfl, rfl⟩
  · by_cases p : y > 0
    · rw [if_pos p] at le; exact .inl ⟨decide_eq_true p, le⟩
    · rw [if_neg p] at le; exact .inr ⟨decide_eq_false p, le⟩
end K27

namespace K27
open PySem Fd Ta
theorem four_letters {tb : D} {f : List D} {m : T} {o4 o5 o6 : Option Wd} (h4 : plainO o4 = true) (h5 : plainO o5 = true) (h6 : plainO o6 = true) : ∃ o4' o5' o6' : Option Wd, plainO o4' = true ∧ plainO o5' = true ∧ plainO o6' = true ∧
    loopF (.nm 4) ((sSeq (sSet 5 (sIfE (sT (sB gEq (aCons (aV (sB gAbs (aCons (aP 4) aNil))) (aCons (aV (sC (.int 1))) aNil)))) (sC (.tup [(.tup [(.int (1)), (.int (2))]), (.tup [(.int (0)), (.int (1))])])) (sC (.tup [(.tup [(.int (1)), (.int (0))]), (.tup [(.int (2)), (.int (1))])])))) (sSeq (sSet 6 (sCall g_table_times (aCons (aV (sIfE (sT (sB (gCmp fun i j => decide (i > j)) (aCons (aP 4) (aCons (aV (sC (.int 0))) aNil)))) (sCall g_table_back (aCons (aV (sVar 5)) aNil)) (sVar 5))) (aCons (aV (sVar 2)) aNil)))) (sIf (sAnd (sT (sB (gCmp fun i j => decide (i < j)) (aCons (aV (sCall g_size_of (aCons (aV (sVar 6)) aNil))) (aCons (aV (sCall g_size_of (aCons (aV (sVar 2)) aNil))) aNil)))) (sOr (sT (sB gIsN (aCons (aP 3) (aCons (aV (sC .non)) aNil)))) (sT (sB (gCmp fun i j => decide (i < j)) (aCons (aV (sCall g_size_of (aCons (aV (sVar 6)) aNil))) (aCons (aV (sCall g_size_of (aCons (aV (sB gIx (aCons (aP 3) (aCons (aV (sC (.int 1))) aNil)))) aNil))) aNil)))))) (sSet 3 (sTup (aCons (aV (sVar 4)) (aCons (aV (sVar 6)) aNil)))) sNx)))) ([1, -1, 2, -2].map D.int) [some (.val tb), some (.own false f), some (vT m), some (.val .non), o4, o5, o6] = .nx [some (.val tb), some (.own false f), some (vT m), some (.val (encO (nxt m))), o4', o5', o6'] := by
  have lp := loop_inv (enc := D.int) (tg := .nm 4) (body := (sSeq (sSet 5 (sIfE (sT (sB gEq (aCons (aV (sB gAbs (aCons (aP 4) aNil))) (aCons (aV (sC (.int 1))) aNil)))) (sC (.tup [(.tup [(.int (1)), (.int (2))]), (.tup [(.int (0)), (.int (1))])])) (sC (.tup [(.tup [(.int (1)), (.int (0))]), (.tup [(.int (2)), (.int (1))])])))) (sSeq (sSet 6 (sCall g_table_times (aCons (aV (sIfE (sT (sB (gCmp fun i j => decide (i > j)) (aCons (aP 4) (aCons (aV (sC (.int 0))) aNil)))) (sCall g_table_back (aCons (aV (sVar 5)) aNil)) (sVar 5))) (aCons (aV (sVar 2)) aNil)))) (sIf (sAnd (sT (sB (gCmp fun i j => decide (i < j)) (aCons (aV (sCall g_size_of (aCons (aV (sVar 6)) aNil))) (aCons (aV (sCall g_size_of (aCons (aV (sVar 2)) aNil))) aNil)))) (sOr (sT (sB gIsN (aCons (aP 3) (aCons (aV (sC .non)) aNil)))) (sT (sB (gCmp fun i j => decide (i < j)) (aCons (aV (sCall g_size_of (aCons (aV (sVar 6)) aNil))) (aCons (aV (sCall g_size_of (aCons (aV (sB gIx (aCons (aP 3) (aCons (aV (sC (.int 1))) aNil)))) aNil))) aNil)))))) (sSet 3 (sTup (aCons (aV (sVar 4)) (aCons (aV (sVar 6)) aNil)))) sNx))))
    [1, -1, 2, -2] (fun i e => ∃ o4 o5 o6 : Option Wd, plainO o4 = true ∧ plainO o5 = true ∧ plainO o6 = true ∧ e = [some (.val tb), some (.own false f), some (vT m), some (.val (encO ((([1, -1, 2, -2] : List Int).take i).foldl (tr m) none))), o4, o5, o6]) 0 ?_
    [some (.val tb), some (.own false f), some (vT m), some (.val .non), o4, o5, o6] ⟨o4, o5, o6, h4, h5, h6, rfl⟩
  · obtain ⟨e', h1, p4, p5, p6, q4, q5, q6, rfl⟩ := lp
    exact ⟨p4, p5, p6, q4, q5, q6, h1⟩
  · rintro i y e hx ⟨p4, p5, p6, q4, q5, q6, rfl⟩
    rw [Nat.zero_add] at *
    have hy : isL y := by
      have := List.mem_of_getElem? hx
      simp at this
      exact this
    have hs : (([1, -1, 2, -2] : List Int).take (i + 1)).foldl (tr m) none = tr m ((([1, -1, 2, -2] : List Int).take i).foldl (tr m) none) y := by
      rw [List.take_succ, hx, List.foldl_append]; rfl
    refine ⟨_, _, put_nm (by rfl) q4, .inl (try_letter hy q5 q6), _, _, _, ?_, ?_, ?_, by rw [hs]⟩
    · rfl
    · rfl
    · rfl
theorem ok_T (m : T) : eqOk (tT m) = true := rfl
theorem ne_T (m n : T) : gNe [tT m, tT n] = some (.val (.bl (!decide (m = n)))) := by
  show (if eqOk (tT m) = true ∧ eqOk (tT n) = true then some (Wd.val (.bl (!PyData.eqv (toPy (tT m)) (toPy (tT n))))) else none) = _
  rw [if_pos ⟨ok_T m, ok_T n⟩]
  have e : PyData.eqv (toPy (tT m)) (toPy (tT n)) = (((m.a == n.a) && ((m.b == n.b) && true)) && ((((m.c == n.c) && ((m.d == n.d) && true))) && true)) := rfl
  rw [e]
  congr 3
  rw [Bool.not_eq_eq_eq_not, Bool.not_not, Bool.eq_iff_iff]
  obtain ⟨a, b, c, d⟩ := m
  obtain ⟨a', b', c', d'⟩ := n
  simp
  omega
theorem eq_T (m n : T) : gEq [tT m, tT n] = some (.val (.bl (decide (m = n)))) := by
  show (if eqOk (tT m) = true ∧ eqOk (tT n) = true then some (Wd.val (.bl (PyData.eqv (toPy (tT m)) (toPy (tT n))))) else none) = _
  rw [if_pos ⟨ok_T m, ok_T n⟩]
  have e : PyData.eqv (toPy (tT m)) (toPy (tT n)) = (((m.a == n.a) && ((m.b == n.b) && true)) && ((((m.c == n.c) && ((m.d == n.d) && true))) && true)) := rfl
  rw [e]
  congr 3
  rw [Bool.eq_iff_iff]
  obtain ⟨a, b, c, d⟩ := m
  obtain ⟨a', b', c', d'⟩ := n
  simp
  omega
end K27

namespace K27
open PySem Fd Ta
theorem path_at {m : T} {w : List Int} (h : Path m w) : (w = [] ∧ m = one) ∨ ∃ x m' w', w = x :: w' ∧ m ≠ one ∧ nxt m = some (x, m') ∧ Path m' w' := by
  cases h with
  | nil => exact .inl ⟨rfl, rfl⟩
  | cons a b c => exact .inr ⟨_, _, _, rfl, a, b, c⟩
theorem t_word_for {m0 : T} {w : List Int} (hp : Path m0 w) (hl : w.length < 400) : g_word_for [vT m0] = .ret (.val (.tup (w.map .int))) [vT m0] := by
  rw [v_word_for]
  have wh := while_iter (c := (sT (sB gNe (aCons (aP 2) (aCons (aV (sC (.tup [(.tup [(.int (1)), (.int (0))]), (.tup [(.int (0)), (.int (1))])]))) aNil))))) (body := (sSeq (sIf (sT (sB gEq (aCons (aV (sB gLen (aCons (aP 1) aNil))) (aCons (aV (sC (.int 400))) aNil)))) sNever sNx) (sSeq (sSet 3 (sC .non)) (sSeq (sFor (.nm 4) (sSeqI (aV (sTup (aCons (aV (sC (.int 1))) (aCons (aV (sB gNeg (aCons (aV (sC (.int 1))) aNil))) (aCons (aV (sC (.int 2))) (aCons (aV (sB gNeg (aCons (aV (sC (.int 2))) aNil))) aNil))))))) (sSeq (sSet 5 (sIfE (sT (sB gEq (aCons (aV (sB gAbs (aCons (aP 4) aNil))) (aCons (aV (sC (.int 1))) aNil)))) (sC (.tup [(.tup [(.int (1)), (.int (2))]), (.tup [(.int (0)), (.int (1))])])) (sC (.tup [(.tup [(.int (1)), (.int (0))]), (.tup [(.int (2)), (.int (1))])])))) (sSeq (sSet 6 (sCall g_table_times (aCons (aV (sIfE (sT (sB (gCmp fun i j => decide (i > j)) (aCons (aP 4) (aCons (aV (sC (.int 0))) aNil)))) (sCall g_table_back (aCons (aV (sVar 5)) aNil)) (sVar 5))) (aCons (aV (sVar 2)) aNil)))) (sIf (sAnd (sT (sB (gCmp fun i j => decide (i < j)) (aCons (aV (sCall g_size_of (aCons (aV (sVar 6)) aNil))) (aCons (aV (sCall g_size_of (aCons (aV (sVar 2)) aNil))) aNil)))) (sOr (sT (sB gIsN (aCons (aP 3) (aCons (aV (sC .non)) aNil)))) (sT (sB (gCmp fun i j => decide (i < j)) (aCons (aV (sCall g_size_of (aCons (aV (sVar 6)) aNil))) (aCons (aV (sCall g_size_of (aCons (aV (sB gIx (aCons (aP 3) (aCons (aV (sC (.int 1))) aNil)))) aNil))) aNil)))))) (sSet 3 (sTup (aCons (aV (sVar 4)) (aCons (aV (sVar 6)) aNil)))) sNx)))) (sSeq (sDo (sMeth 1 mAppend (aCons (aV (sB gIx (aCons (aP 3) (aCons (aV (sC (.int 0))) aNil)))) aNil))) (sSet 2 (sB gIx (aCons (aP 3) (aCons (aV (sC (.int 1))) aNil))))))))) (Post := fun e => ∃ o3 o4 o5 o6 : Option Wd, e = [some (vT m0), some (.own false (w.map .int)), some (vT one), o3, o4, o5, o6]) w.length fuelN
    (fun i e => ∃ (m : T) (o3 o4 o5 o6 : Option Wd), Path m (w.drop i) ∧ plainO o3 = true ∧ plainO o4 = true ∧ plainO o5 = true ∧ plainO o6 = true ∧ e = [some (vT m0), some (.own false ((w.take i).map .int)), some (vT m), o3, o4, o5, o6]) (by unfold fuelN; omega) ?_ ?_
    [some (vT m0), some (.own false []), some (vT m0), none, none, none, none] ⟨m0, none, none, none, none, hp, rfl, rfl, rfl, rfl, rfl⟩
  · obtain ⟨e', h1, o3, o4, o5, o6, rfl⟩ := wh
    simp only [b_word_for, sSeq, sNx, sIf, sRet, sRetN, sSet, sDo, sB, aCons, aV, aP, aNil, sC, sVar, sMove, sT, sAnd, sOr, sNot, sAndV, sOrV, sNotV, sIfE, sChain, sTup, sLst, sDic0, sSl, sPt, sNo, sCall, sCallL, sPut, sAug, sMeth, isOwn, free, Out.bind, Out.bs, SO.then, List.getElem?_cons_zero, List.getElem?_cons_succ, List.set_cons_zero, List.set_cons_succ, lookA, look, Wd.dat, Wd.lent, Wd.mut, avD, Option.map, List.map, closeR, outs_nil, outs_val, outs_own, if_true, if_false, Bool.false_eq_true, reduceIte, Bool.not_true, Bool.not_false, Bool.not_not, and_self, and_true, true_and, List.length_nil, List.length_cons, Nat.reduceLeDiff, Nat.reduceAdd, Nat.zero_add, Nat.zero_le, sPar2, h1, gTuple]
  · rintro i e hi ⟨m, o3, o4, o5, o6, p, h3, h4, h5, h6, rfl⟩
    rcases path_at p with ⟨q, _⟩ | ⟨x, m', w', q, hne, hn, p'⟩
    · have := congrArg List.length q
      rw [List.length_drop] at this
      simp at this
      omega
    have hx : w[i]? = some x := by
      have := List.getElem?_drop (xs := w) (i := i) (j := 0)
      rw [q] at this
      simpa using this.symm
    have hw' : w.drop (i + 1) = w' := by rw [← List.drop_drop, q]; rfl
    have ht : w.take (i + 1) = w.take i ++ [x] := by rw [List.take_succ, hx]; rfl
    have hc : decide (m = one) = false := by simp [hne]
    have ne1 := ne_T m one
    rw [hc] at ne1
    simp only [tT, one] at ne1
    have hlen : ((w.take i).map D.int).length = i := by rw [List.length_map, List.length_take]; omega
    have l400 : decide (((i : Nat) : Int) = 400) = false := by simp; omega
    obtain ⟨p4, p5, p6, q4, q5, q6, lf⟩ := four_letters (tb := tT m0) (f := (w.take i).map D.int) (m := m) h4 h5 h6
    rw [hn] at lf
    simp only [List.map] at lf
    have ap : mAppend ((w.take i).map D.int) [.int x] = some ((w.take (i + 1)).map .int, .non) := by
      show (if ((w.take i).map D.int).length < 1000000 then some ((w.take i).map D.int ++ [D.int x], D.non) else none) = _
      rw [if_pos (by rw [hlen]; omega), ht, List.map_append]; rfl
    have g0 : gIx [encO (some (x, m')), .int 0] = some (.val (.int x)) := rfl
    have g1 : gIx [encO (some (x, m')), .int 1] = some (vT m') := rfl
    refine ⟨[some (vT m0), some (.own false ((w.take i).map .int)), some (vT m), o3, o4, o5, o6], [some (vT m0), some (.own false ((w.take (i + 1)).map .int)), some (vT m'), some (.val (encO (some (x, m')))), p4, p5, p6], ?_, ?_, ⟨m', some (.val (encO (some (x, m')))), p4, p5, p6, by rw [hw']; exact p', rfl, q4, q5, q6, rfl⟩⟩
    · simp only [sSeq, sNx, sIf, sRet, sRetN, sSet, sDo, sB, aCons, aV, aP, aNil, sC, sVar, sMove, sT, sAnd, sOr, sNot, sAndV, sOrV, sNotV, sIfE, sChain, sTup, sLst, sDic0, sSl, sPt, sNo, sCall, sCallL, sPut, sAug, sMeth, isOwn, free, Out.bind, Out.bs, SO.then, List.getElem?_cons_zero, List.getElem?_cons_succ, List.set_cons_zero, List.set_cons_succ, lookA, look, Wd.dat, Wd.lent, Wd.mut, avD, Option.map, List.map, closeR, outs_nil, outs_val, outs_own, if_true, if_false, Bool.false_eq_true, reduceIte, Bool.not_true, Bool.not_false, Bool.not_not, and_self, and_true, true_and, List.length_nil, List.length_cons, Nat.reduceLeDiff, Nat.reduceAdd, Nat.zero_add, Nat.zero_le, ne1]
    · rcases plain_cases h3 with rfl | ⟨d3, rfl⟩ <;> simp only [sSeq, sNx, sIf, sRet, sRetN, sSet, sDo, sB, aCons, aV, aP, aNil, sC, sVar, sMove, sT, sAnd, sOr, sNot, sAndV, sOrV, sNotV, sIfE, sChain, sTup, sLst, sDic0, sSl, sPt, sNo, sCall, sCallL, sPut, sAug, sMeth, isOwn, free, Out.bind, Out.bs, SO.then, List.getElem?_cons_zero, List.getElem?_cons_succ, List.set_cons_zero, List.set_cons_succ, lookA, look, Wd.dat, Wd.lent, Wd.mut, avD, Option.map, List.map, closeR, outs_nil, outs_val, outs_own, if_true, if_false, Bool.false_eq_true, reduceIte, Bool.not_true, Bool.not_false, Bool.not_not, and_self, and_true, true_and, List.length_nil, List.length_cons, Nat.reduceLeDiff, Nat.reduceAdd, Nat.zero_add, Nat.zero_le, gLen, gNeg, hlen, eq_int, l400, sFor, sSeqI, seqOf, lf, g0, g1, ap]
  · rintro e ⟨m, o3, o4, o5, o6, p, h3, h4, h5, h6, rfl⟩
    rw [List.drop_length] at p
    rcases path_at p with ⟨_, rfl⟩ | ⟨x, m', w', q, _⟩
    · have ne1 := ne_T one one
      simp only [tT, one, decide_true] at ne1
      refine ⟨[some (vT m0), some (.own false (w.map .int)), some (vT one), o3, o4, o5, o6], ?_, ⟨_, _, _, _, rfl⟩⟩
      rw [List.take_length]
      simp only [sSeq, sNx, sIf, sRet, sRetN, sSet, sDo, sB, aCons, aV, aP, aNil, sC, sVar, sMove, sT, sAnd, sOr, sNot, sAndV, sOrV, sNotV, sIfE, sChain, sTup, sLst, sDic0, sSl, sPt, sNo, sCall, sCallL, sPut, sAug, sMeth, isOwn, free, Out.bind, Out.bs, SO.then, List.getElem?_cons_zero, List.getElem?_cons_succ, List.set_cons_zero, List.set_cons_succ, lookA, look, Wd.dat, Wd.lent, Wd.mut, avD, Option.map, List.map, closeR, outs_nil, outs_val, outs_own, if_true, if_false, Bool.false_eq_true, reduceIte, Bool.not_true, Bool.not_false, Bool.not_not, and_self, and_true, true_and, List.length_nil, List.length_cons, Nat.reduceLeDiff, Nat.reduceAdd, Nat.zero_add, Nat.zero_le, one, ne1]
    · cases q
end K27

namespace K27
open PySem Fd Ta
/-- known as far as the questions look: two rows, two places -/
def ok3 (d : D) : Prop := known d = true ∧ ∀ x y, d = .tup [x, y] → (known x = true ∧ known y = true) ∧ (∀ p q, x = .tup [p, q] → known p = true ∧ known q = true) ∧ (∀ p q, y = .tup [p, q] → known p = true ∧ known q = true)
def big18 (d : D) : Bool := match d with
  | .int i => decide (Fd.ab i ≤ 1000000000000000000)
  | _ => false
/-- a table of small ints with the unit's measure -/
def sq : D → Bool
  | .tup [.tup [p, q], .tup [r, s]] => big18 p && (big18 q && (big18 r && big18 s)) && decide (unI p * unI s - unI q * unI r = 1)
  | _ => false
theorem ten18 : gPow [.int 10, .int 18] = some (.val (.int 1000000000000000000)) := by
  show (if (0 : Int) ≤ 18 ∧ (18 : Int) ≤ 1000000 ∧ (10 : Int).natAbs < 2 ^ 64 then some (Wd.val (.int (10 ^ (18 : Int).toNat))) else none) = _
  rw [if_pos (by decide)]
  rfl
theorem tup2 {ds : List D} (h : tupIn 2 2 (.tup ds) = true) : ∃ x y, ds = [x, y] := by
  simp [tupIn] at h
  match ds, h with
  | [x, y], _ => exact ⟨x, y, rfl⟩
  | [], h => simp at h
  | [_], h => simp at h
  | _ :: _ :: _ :: _, h => simp at h; omega
theorem tupIn2 {d : D} (h : tupIn 2 2 d = true) : ∃ x y, d = .tup [x, y] := by
  cases d with
  | tup ds => obtain ⟨x, y, rfl⟩ := tup2 h; exact ⟨x, y, rfl⟩
  | _ => cases h
theorem item_ok {tb row x : D} (h : known x = true) : (sAndV (sCall g_is_integer (aCons (aV (sVar 2)) aNil)) (sB (gCmp fun i j => decide (i ≤ j)) (aCons (aV (sB gAbs (aCons (aP 2) aNil))) (aCons (aV (sB gPow (aCons (aV (sC (.int 10))) (aCons (aV (sC (.int 18))) aNil)))) aNil)))) [some (.val tb), some (.val row), some (.val x)] = .ok (.val (.bl (big18 x))) [some (.val tb), some (.val row), some (.val x)] := by
  simp only [sSeq, sNx, sIf, sRet, sRetN, sSet, sDo, sB, aCons, aV, aP, aNil, sC, sVar, sMove, sT, sAnd, sOr, sNot, sAndV, sOrV, sNotV, sIfE, sChain, sTup, sLst, sDic0, sSl, sPt, sNo, sCall, sCallL, sPut, sAug, sMeth, isOwn, free, Out.bind, Out.bs, SO.then, List.getElem?_cons_zero, List.getElem?_cons_succ, List.set_cons_zero, List.set_cons_succ, lookA, look, Wd.dat, Wd.lent, Wd.mut, avD, Option.map, List.map, closeR, outs_nil, outs_val, outs_own, if_true, if_false, Bool.false_eq_true, reduceIte, Bool.not_true, Bool.not_false, Bool.not_not, and_self, and_true, true_and, List.length_nil, List.length_cons, Nat.reduceLeDiff, Nat.reduceAdd, Nat.zero_add, Nat.zero_le, add_int, Fd.gSub, gNeg, gCmp, gLen, abs_int, gInt, gTuple, gList, gRev, gIAdd, t_is_integer h]
  cases x with
  | int i => simp only [sSeq, sNx, sIf, sRet, sRetN, sSet, sDo, sB, aCons, aV, aP, aNil, sC, sVar, sMove, sT, sAnd, sOr, sNot, sAndV, sOrV, sNotV, sIfE, sChain, sTup, sLst, sDic0, sSl, sPt, sNo, sCall, sCallL, sPut, sAug, sMeth, isOwn, free, Out.bind, Out.bs, SO.then, List.getElem?_cons_zero, List.getElem?_cons_succ, List.set_cons_zero, List.set_cons_succ, lookA, look, Wd.dat, Wd.lent, Wd.mut, avD, Option.map, List.map, closeR, outs_nil, outs_val, outs_own, if_true, if_false, Bool.false_eq_true, reduceIte, Bool.not_true, Bool.not_false, Bool.not_not, and_self, and_true, true_and, List.length_nil, List.length_cons, Nat.reduceLeDiff, Nat.reduceAdd, Nat.zero_add, Nat.zero_le, add_int, Fd.gSub, gNeg, gCmp, gLen, abs_int, gInt, gTuple, gList, gRev, gIAdd, dInt, ten18, big18]
  | _ => rfl
theorem t_is_square_table {d : D} (h : ok3 d) : g_is_square_table [.val d] = .ret (.val (.bl (sq d))) [.val d] := by
  rw [v_is_square_table]
  obtain ⟨hk, h3⟩ := h
  rcases tf (tupIn 2 2 d) with e | e
  · obtain ⟨x, y, rfl⟩ := tupIn2 e
    obtain ⟨⟨kx, ky⟩, k1, k2⟩ := h3 x y rfl
    have q := lc_run (α := D) (enc := id) (i := 1) (o := none) (fi := (sSeqI (aV (sVar 0)))) (fe := (sCall g_is_tuple (aCons (aV (sVar 1)) (aCons (aV (sC (.int 2))) (aCons (aV (sC (.int 2))) aNil))))) (e := [some (.val (.tup [x, y])), none, none]) (e1 := [some (.val (.tup [x, y])), none, none]) (xs := [x, y]) (fun x => .bl (tupIn 2 2 x))
      (by simp only [sSeq, sNx, sIf, sRet, sRetN, sSet, sDo, sB, aCons, aV, aP, aNil, sC, sVar, sMove, sT, sAnd, sOr, sNot, sAndV, sOrV, sNotV, sIfE, sChain, sTup, sLst, sDic0, sSl, sPt, sNo, sCall, sCallL, sPut, sAug, sMeth, isOwn, free, Out.bind, Out.bs, SO.then, List.getElem?_cons_zero, List.getElem?_cons_succ, List.set_cons_zero, List.set_cons_succ, lookA, look, Wd.dat, Wd.lent, Wd.mut, avD, Option.map, List.map, closeR, outs_nil, outs_val, outs_own, if_true, if_false, Bool.false_eq_true, reduceIte, Bool.not_true, Bool.not_false, Bool.not_not, and_self, and_true, true_and, List.length_nil, List.length_cons, Nat.reduceLeDiff, Nat.reduceAdd, Nat.zero_add, Nat.zero_le, sSeqI, seqOf, List.map_id]; rfl) rfl rfl (by simp) (fun z hz => by
        have kz : known z = true := by simp at hz; rcases hz with rfl | rfl <;> assumption
        simp only [sSeq, sNx, sIf, sRet, sRetN, sSet, sDo, sB, aCons, aV, aP, aNil, sC, sVar, sMove, sT, sAnd, sOr, sNot, sAndV, sOrV, sNotV, sIfE, sChain, sTup, sLst, sDic0, sSl, sPt, sNo, sCall, sCallL, sPut, sAug, sMeth, isOwn, free, Out.bind, Out.bs, SO.then, List.getElem?_cons_zero, List.getElem?_cons_succ, List.set_cons_zero, List.set_cons_succ, lookA, look, Wd.dat, Wd.lent, Wd.mut, avD, Option.map, List.map, closeR, outs_nil, outs_val, outs_own, if_true, if_false, Bool.false_eq_true, reduceIte, Bool.not_true, Bool.not_false, Bool.not_not, and_self, and_true, true_and, List.length_nil, List.length_cons, Nat.reduceLeDiff, Nat.reduceAdd, Nat.zero_add, Nat.zero_le, id, t_is_tuple kz])
    rcases tf (([x, y] : List D).all (tupIn 2 2)) with a | a
    · have a' := a
      simp only [List.all_cons, List.all_nil, Bool.and_true, Bool.and_eq_true] at a'
      obtain ⟨p, p', rfl⟩ := tupIn2 a'.1
      obtain ⟨r, r', rfl⟩ := tupIn2 a'.2
      obtain ⟨kp, kp'⟩ := k1 p p' rfl
      obtain ⟨kr, kr'⟩ := k2 r r' rfl
      have l1 := lc2_pure (row := id) (its := fun d => (seqOf d).getD []) (i := 1) (j := 2) (fi1 := sSeqI (aV (sVar 1))) (fe := sAndV (sCall g_is_integer (aCons (aV (sVar 2)) aNil)) (sB (gCmp fun i j => decide (i ≤ j)) (aCons (aV (sB gAbs (aCons (aP 2) aNil))) (aCons (aV (sB gPow (aCons (aV (sC (.int 10))) (aCons (aV (sC (.int 18))) aNil)))) aNil)))) (e := [some (.val (.tup [.tup [p, p'], .tup [r, r']])), none, none]) (fun x => .bl (big18 x)) (by rfl) (by rfl) (by decide) [.tup [p, p'], .tup [r, r']] [] (by simp [seqOf]) (fun x hx => by
        have hx : x = .tup [p, p'] ∨ x = .tup [r, r'] := by simpa using hx
        refine ⟨by rcases hx with rfl | rfl <;> rfl, fun z hz => ?_⟩
        have kz : known z = true := by
          rcases hx with rfl | rfl
          · simp [seqOf] at hz; rcases hz with rfl | rfl <;> assumption
          · simp [seqOf] at hz; rcases hz with rfl | rfl <;> assumption
        exact item_ok kz)
      have q2 : sLc2 (.nm 1) (sSeqI (aV (sVar 0))) sYes (.nm 2) (sSeqI (aV (sVar 1))) sYes (sAndV (sCall g_is_integer (aCons (aV (sVar 2)) aNil)) (sB (gCmp fun i j => decide (i ≤ j)) (aCons (aV (sB gAbs (aCons (aP 2) aNil))) (aCons (aV (sB gPow (aCons (aV (sC (.int 10))) (aCons (aV (sC (.int 18))) aNil)))) aNil)))) [1, 2] [2] [some (.val (.tup [.tup [p, p'], .tup [r, r']])), none, none] = .ok (.own false [.bl (big18 p), .bl (big18 p'), .bl (big18 r), .bl (big18 r')]) [some (.val (.tup [.tup [p, p'], .tup [r, r']])), none, none] := by
        unfold sLc2
        simp only [sSeq, sNx, sIf, sRet, sRetN, sSet, sDo, sB, aCons, aV, aP, aNil, sC, sVar, sMove, sT, sAnd, sOr, sNot, sAndV, sOrV, sNotV, sIfE, sChain, sTup, sLst, sDic0, sSl, sPt, sNo, sCall, sCallL, sPut, sAug, sMeth, isOwn, free, Out.bind, Out.bs, SO.then, List.getElem?_cons_zero, List.getElem?_cons_succ, List.set_cons_zero, List.set_cons_succ, lookA, look, Wd.dat, Wd.lent, Wd.mut, avD, Option.map, List.map, closeR, outs_nil, outs_val, outs_own, if_true, if_false, Bool.false_eq_true, reduceIte, Bool.not_true, Bool.not_false, Bool.not_not, and_self, and_true, true_and, List.length_nil, List.length_cons, Nat.reduceLeDiff, Nat.reduceAdd, Nat.zero_add, Nat.zero_le, sSeqI, seqOf]
        rw [if_pos ⟨rfl, by simp [Tg.sl], by simp [Tg.sl], by simp⟩]
        rw [List.map_id] at l1
        exact l1
      have hA : gAll [.lst [.bl (tupIn 2 2 (.tup [p, p'])), .bl (tupIn 2 2 (.tup [r, r']))]] = some (.val (.bl true)) := by
        rw [← a]; exact all_map (tupIn 2 2) [.tup [p, p'], .tup [r, r']]
      have hB : gAll [.lst [.bl (big18 p), .bl (big18 p'), .bl (big18 r), .bl (big18 r')]] = some (.val (.bl (big18 p && (big18 p' && (big18 r && big18 r'))))) := by
        have := all_map big18 [p, p', r, r']
        simp only [List.map, List.all_cons, List.all_nil, Bool.and_true] at this
        exact this
      rcases tf (big18 p && (big18 p' && (big18 r && big18 r'))) with b | b
      · have b' := b
        simp only [Bool.and_eq_true] at b'
        obtain ⟨b1, b2, b3, b4⟩ := b'
        have i1 : ∀ z, big18 z = true → ∃ i : Int, z = .int i ∧ Fd.ab i ≤ 1000000000000000000 := fun z hz => by
          cases z with
          | int i => exact ⟨i, rfl, of_decide_eq_true hz⟩
          | _ => cases hz
        obtain ⟨p, rfl, c1⟩ := i1 p b1
        obtain ⟨p', rfl, c2⟩ := i1 p' b2
        obtain ⟨r, rfl, c3⟩ := i1 r b3
        obtain ⟨r', rfl, c4⟩ := i1 r' b4
        have sm : ∀ i : Int, Fd.ab i ≤ 1000000000000000000 → -(2 ^ 64) < i ∧ i < 2 ^ 64 := fun i hi => by unfold Fd.ab at hi; split at hi <;> omega
        have m1 := mulL (a := p) (b := r') (sm p c1)
        have m2 := mulL (a := p') (b := r) (sm p' c2)
        have x0 : gIx [.tup [.tup [.int p, .int p'], .tup [.int r, .int r']], .int 0] = some (.val (.tup [.int p, .int p'])) := rfl
        have x1 : gIx [.tup [.tup [.int p, .int p'], .tup [.int r, .int r']], .int 1] = some (.val (.tup [.int r, .int r'])) := rfl
        have y0 : ∀ u v : D, gIx [.tup [u, v], .int 0] = some (.val u) := fun _ _ => rfl
        have y1 : ∀ u v : D, gIx [.tup [u, v], .int 1] = some (.val v) := fun _ _ => rfl
        have hz : sq (.tup [.tup [.int p, .int p'], .tup [.int r, .int r']]) = decide (p * r' - p' * r = 1) := by
          show ((big18 (.int p) && (big18 (.int p') && (big18 (.int r) && big18 (.int r')))) && decide (p * r' - p' * r = 1)) = _
          rw [b, Bool.true_and]
        rw [hz]
        simp only [b_is_square_table, sSeq, sNx, sIf, sRet, sRetN, sSet, sDo, sB, aCons, aV, aP, aNil, sC, sVar, sMove, sT, sAnd, sOr, sNot, sAndV, sOrV, sNotV, sIfE, sChain, sTup, sLst, sDic0, sSl, sPt, sNo, sCall, sCallL, sPut, sAug, sMeth, isOwn, free, Out.bind, Out.bs, SO.then, List.getElem?_cons_zero, List.getElem?_cons_succ, List.set_cons_zero, List.set_cons_succ, lookA, look, Wd.dat, Wd.lent, Wd.mut, avD, Option.map, List.map, closeR, outs_nil, outs_val, outs_own, if_true, if_false, Bool.false_eq_true, reduceIte, Bool.not_true, Bool.not_false, Bool.not_not, and_self, and_true, true_and, List.length_nil, List.length_cons, Nat.reduceLeDiff, Nat.reduceAdd, Nat.zero_add, Nat.zero_le, Fd.gSub, t_is_tuple hk, e, q, hA, q2, hB, b, y0, y1, m1, m2, eq_int]
      · have hz : sq (.tup [.tup [p, p'], .tup [r, r']]) = false := by
          show ((big18 p && (big18 p' && (big18 r && big18 r'))) && decide (unI p * unI r' - unI p' * unI r = 1)) = _
          rw [b, Bool.false_and]
        rw [hz]
        simp only [b_is_square_table, sSeq, sNx, sIf, sRet, sRetN, sSet, sDo, sB, aCons, aV, aP, aNil, sC, sVar, sMove, sT, sAnd, sOr, sNot, sAndV, sOrV, sNotV, sIfE, sChain, sTup, sLst, sDic0, sSl, sPt, sNo, sCall, sCallL, sPut, sAug, sMeth, isOwn, free, Out.bind, Out.bs, SO.then, List.getElem?_cons_zero, List.getElem?_cons_succ, List.set_cons_zero, List.set_cons_succ, lookA, look, Wd.dat, Wd.lent, Wd.mut, avD, Option.map, List.map, closeR, outs_nil, outs_val, outs_own, if_true, if_false, Bool.false_eq_true, reduceIte, Bool.not_true, Bool.not_false, Bool.not_not, and_self, and_true, true_and, List.length_nil, List.length_cons, Nat.reduceLeDiff, Nat.reduceAdd, Nat.zero_add, Nat.zero_le, t_is_tuple hk, e, q, hA, q2, hB, b]
    · have z : sq (.tup [x, y]) = false := by
        cases e2 : sq (.tup [x, y]) with
        | false => rfl
        | true =>
          exfalso
          unfold sq at e2
          split at e2
          · rename_i heq
            cases heq
            cases a
          · cases e2
      have hA : gAll [.lst [.bl (tupIn 2 2 x), .bl (tupIn 2 2 y)]] = some (.val (.bl false)) := by
        rw [← a]; exact all_map (tupIn 2 2) [x, y]
      simp only [b_is_square_table, sSeq, sNx, sIf, sRet, sRetN, sSet, sDo, sB, aCons, aV, aP, aNil, sC, sVar, sMove, sT, sAnd, sOr, sNot, sAndV, sOrV, sNotV, sIfE, sChain, sTup, sLst, sDic0, sSl, sPt, sNo, sCall, sCallL, sPut, sAug, sMeth, isOwn, free, Out.bind, Out.bs, SO.then, List.getElem?_cons_zero, List.getElem?_cons_succ, List.set_cons_zero, List.set_cons_succ, lookA, look, Wd.dat, Wd.lent, Wd.mut, avD, Option.map, List.map, closeR, outs_nil, outs_val, outs_own, if_true, if_false, Bool.false_eq_true, reduceIte, Bool.not_true, Bool.not_false, Bool.not_not, and_self, and_true, true_and, List.length_nil, List.length_cons, Nat.reduceLeDiff, Nat.reduceAdd, Nat.zero_add, Nat.zero_le, t_is_tuple hk, e, q, hA, z]
  · have z : sq d = false := by
      cases e2 : sq d with
      | false => rfl
      | true =>
        exfalso
        unfold sq at e2
        split at e2
        · cases e
        · cases e2
    simp only [b_is_square_table, sSeq, sNx, sIf, sRet, sRetN, sSet, sDo, sB, aCons, aV, aP, aNil, sC, sVar, sMove, sT, sAnd, sOr, sNot, sAndV, sOrV, sNotV, sIfE, sChain, sTup, sLst, sDic0, sSl, sPt, sNo, sCall, sCallL, sPut, sAug, sMeth, isOwn, free, Out.bind, Out.bs, SO.then, List.getElem?_cons_zero, List.getElem?_cons_succ, List.set_cons_zero, List.set_cons_succ, lookA, look, Wd.dat, Wd.lent, Wd.mut, avD, Option.map, List.map, closeR, outs_nil, outs_val, outs_own, if_true, if_false, Bool.false_eq_true, reduceIte, Bool.not_true, Bool.not_false, Bool.not_not, and_self, and_true, true_and, List.length_nil, List.length_cons, Nat.reduceLeDiff, Nat.reduceAdd, Nat.zero_add, Nat.zero_le, t_is_tuple hk, e, z]
end K27

namespace K27
open PySem Fd Ta
theorem letters_isL {w : List Int} {m : Int} (h : wordOk 2 m (tI w) = true) : ∀ y ∈ w, isL y := fun y hy => by
  unfold wordOk row at h
  simp only [tI] at h
  rw [Bool.and_eq_true, Bool.and_eq_true, List.all_eq_true] at h
  have := h.1.2 (.int y) (List.mem_map.mpr ⟨y, hy, rfl⟩)
  simp [letter] at this
  unfold isL
  omega
theorem deep_ints {w : List Int} (hl : w.length ≤ 1000000) : deep (tI w) := ⟨rfl, fun ds e => by cases e; exact ⟨fun d hd => by obtain ⟨i, _, rfl⟩ := List.mem_map.mp hd; rfl, by rw [List.length_map]; omega⟩⟩
theorem t_check_pair_word {w : List Int} (h : wordOk 2 60 (tI w) = true) (hl : w.length ≤ 1000000) : g_check_pair_word [.val (tI w)] = .ret (.val .non) [.val (tI w)] := by
  rw [v_check_pair_word]
  simp only [b_check_pair_word, sSeq, sNx, sIf, sRet, sRetN, sSet, sDo, sB, aCons, aV, aP, aNil, sC, sVar, sMove, sT, sAnd, sOr, sNot, sAndV, sOrV, sNotV, sIfE, sChain, sTup, sLst, sDic0, sSl, sPt, sNo, sCall, sCallL, sPut, sAug, sMeth, isOwn, free, Out.bind, Out.bs, SO.then, List.getElem?_cons_zero, List.getElem?_cons_succ, List.set_cons_zero, List.set_cons_succ, lookA, look, Wd.dat, Wd.lent, Wd.mut, avD, Option.map, List.map, closeR, outs_nil, outs_val, outs_own, if_true, if_false, Bool.false_eq_true, reduceIte, Bool.not_true, Bool.not_false, Bool.not_not, and_self, and_true, true_and, List.length_nil, List.length_cons, Nat.reduceLeDiff, Nat.reduceAdd, Nat.zero_add, Nat.zero_le, t_is_word_of (deep_ints hl), h]
theorem t_table_of {w : List Int} (h : wordOk 2 60 (tI w) = true) (hl : w.length ≤ 30) : g_table_of [.val (tI w)] = .ret (vT (tab w)) [.val (tI w)] := by
  rw [v_table_of]
  have q := t_table_by (letters_isL h) hl
  simp only [b_table_of, sSeq, sNx, sIf, sRet, sRetN, sSet, sDo, sB, aCons, aV, aP, aNil, sC, sVar, sMove, sT, sAnd, sOr, sNot, sAndV, sOrV, sNotV, sIfE, sChain, sTup, sLst, sDic0, sSl, sPt, sNo, sCall, sCallL, sPut, sAug, sMeth, isOwn, free, Out.bind, Out.bs, SO.then, List.getElem?_cons_zero, List.getElem?_cons_succ, List.set_cons_zero, List.set_cons_succ, lookA, look, Wd.dat, Wd.lent, Wd.mut, avD, Option.map, List.map, closeR, outs_nil, outs_val, outs_own, if_true, if_false, Bool.false_eq_true, reduceIte, Bool.not_true, Bool.not_false, Bool.not_not, and_self, and_true, true_and, List.length_nil, List.length_cons, Nat.reduceLeDiff, Nat.reduceAdd, Nat.zero_add, Nat.zero_le, t_check_pair_word h (by omega), q]
def saB (m : T) : Bool := decide (m.a % 4 = 1) && (decide (m.d % 4 = 1) && (decide (m.b % 2 = 0) && decide (m.c % 2 = 0)))
/-- a small table with the unit's measure -/
def SqT (m : T) : Prop := sz m ≤ 1000000000000000000 ∧ m.a * m.d - m.b * m.c = 1
theorem sq_T {m : T} (h : SqT m) : sq (tT m) = true := by
  obtain ⟨h1, h2⟩ := h
  have n1 := ab_nn m.a
  have n2 := ab_nn m.b
  have n3 := ab_nn m.c
  have n4 := ab_nn m.d
  unfold sz up dn at h1
  have g : ∀ i : Int, Ta.ab i ≤ 1000000000000000000 → big18 (.int i) = true := fun i hi => decide_eq_true hi
  show ((big18 (.int m.a) && (big18 (.int m.b) && (big18 (.int m.c) && big18 (.int m.d)))) && decide (m.a * m.d - m.b * m.c = 1)) = true
  rw [g _ (by omega), g _ (by omega), g _ (by omega), g _ (by omega), h2]; rfl
theorem ok3_T (m : T) : ok3 (tT m) := ⟨rfl, fun x y e => by cases e; exact ⟨⟨rfl, rfl⟩, fun p q e => by cases e; exact ⟨rfl, rfl⟩, fun p q e => by cases e; exact ⟨rfl, rfl⟩⟩⟩
theorem t_word_yes {m : T} {w : List Int} (h : SqT m) (hs : saB m = true) (hp : Path m w) (hl : w.length < 400) : g_word_of_table [vT m] = .ret (.val (tI w)) [vT m] := by
  rw [v_word_of_table]
  have q := t_is_of_letters m
  unfold saB at hs
  rw [hs] at q
  simp only [b_word_of_table, sSeq, sNx, sIf, sRet, sRetN, sSet, sDo, sB, aCons, aV, aP, aNil, sC, sVar, sMove, sT, sAnd, sOr, sNot, sAndV, sOrV, sNotV, sIfE, sChain, sTup, sLst, sDic0, sSl, sPt, sNo, sCall, sCallL, sPut, sAug, sMeth, isOwn, free, Out.bind, Out.bs, SO.then, List.getElem?_cons_zero, List.getElem?_cons_succ, List.set_cons_zero, List.set_cons_succ, lookA, look, Wd.dat, Wd.lent, Wd.mut, avD, Option.map, List.map, closeR, outs_nil, outs_val, outs_own, if_true, if_false, Bool.false_eq_true, reduceIte, Bool.not_true, Bool.not_false, Bool.not_not, and_self, and_true, true_and, List.length_nil, List.length_cons, Nat.reduceLeDiff, Nat.reduceAdd, Nat.zero_add, Nat.zero_le, t_is_square_table (ok3_T m), sq_T h, q, t_word_for hp hl]
theorem t_word_no {m : T} (h : SqT m) (hs : saB m = false) : g_word_of_table [vT m] = .ret (.val .non) [vT m] := by
  rw [v_word_of_table]
  have q := t_is_of_letters m
  unfold saB at hs
  rw [hs] at q
  simp only [b_word_of_table, sSeq, sNx, sIf, sRet, sRetN, sSet, sDo, sB, aCons, aV, aP, aNil, sC, sVar, sMove, sT, sAnd, sOr, sNot, sAndV, sOrV, sNotV, sIfE, sChain, sTup, sLst, sDic0, sSl, sPt, sNo, sCall, sCallL, sPut, sAug, sMeth, isOwn, free, Out.bind, Out.bs, SO.then, List.getElem?_cons_zero, List.getElem?_cons_succ, List.set_cons_zero, List.set_cons_succ, lookA, look, Wd.dat, Wd.lent, Wd.mut, avD, Option.map, List.map, closeR, outs_nil, outs_val, outs_own, if_true, if_false, Bool.false_eq_true, reduceIte, Bool.not_true, Bool.not_false, Bool.not_not, and_self, and_true, true_and, List.length_nil, List.length_cons, Nat.reduceLeDiff, Nat.reduceAdd, Nat.zero_add, Nat.zero_le, t_is_square_table (ok3_T m), sq_T h, q]
/-- is_of_word's answer -/
def ofw (d : D) : Bool := sq d && (match d with
  | .tup [.tup [p, q], .tup [r, s]] => saB ⟨unI p, unI q, unI r, unI s⟩
  | _ => false)
theorem sq_at {d : D} (h : sq d = true) : ∃ m : T, d = tT m ∧ Fd.ab m.a ≤ 1000000000000000000 ∧ Fd.ab m.b ≤ 1000000000000000000 ∧ Fd.ab m.c ≤ 1000000000000000000 ∧ Fd.ab m.d ≤ 1000000000000000000 ∧ m.a * m.d - m.b * m.c = 1 := by
  unfold sq at h
  split at h
  · rename_i p p' r r'
    simp only [Bool.and_eq_true] at h
    obtain ⟨⟨b1, b2, b3, b4⟩, h⟩ := h
    have i1 : ∀ z, big18 z = true → ∃ i : Int, z = .int i ∧ Fd.ab i ≤ 1000000000000000000 := fun z hz => by
      cases z with
      | int i => exact ⟨i, rfl, of_decide_eq_true hz⟩
      | _ => cases hz
    obtain ⟨p, rfl, c1⟩ := i1 p b1
    obtain ⟨p', rfl, c2⟩ := i1 p' b2
    obtain ⟨r, rfl, c3⟩ := i1 r b3
    obtain ⟨r', rfl, c4⟩ := i1 r' b4
    exact ⟨⟨p, p', r, r'⟩, rfl, c1, c2, c3, c4, of_decide_eq_true h⟩
  · cases h
theorem t_is_of_word {d : D} (h : ok3 d) : g_is_of_word [.val d] = .ret (.val (.bl (ofw d))) [.val d] := by
  rw [v_is_of_word]
  rcases tf (sq d) with e | e
  · obtain ⟨m, rfl, _⟩ := sq_at e
    have q := t_is_of_letters m
    have ho : ofw (tT m) = saB m := by show (sq (tT m) && saB m) = _; rw [e, Bool.true_and]
    rw [ho]
    unfold saB
    simp only [b_is_of_word, sSeq, sNx, sIf, sRet, sRetN, sSet, sDo, sB, aCons, aV, aP, aNil, sC, sVar, sMove, sT, sAnd, sOr, sNot, sAndV, sOrV, sNotV, sIfE, sChain, sTup, sLst, sDic0, sSl, sPt, sNo, sCall, sCallL, sPut, sAug, sMeth, isOwn, free, Out.bind, Out.bs, SO.then, List.getElem?_cons_zero, List.getElem?_cons_succ, List.set_cons_zero, List.set_cons_succ, lookA, look, Wd.dat, Wd.lent, Wd.mut, avD, Option.map, List.map, closeR, outs_nil, outs_val, outs_own, if_true, if_false, Bool.false_eq_true, reduceIte, Bool.not_true, Bool.not_false, Bool.not_not, and_self, and_true, true_and, List.length_nil, List.length_cons, Nat.reduceLeDiff, Nat.reduceAdd, Nat.zero_add, Nat.zero_le, t_is_square_table h, e, q]
  · have ho : ofw d = false := by unfold ofw; rw [e, Bool.false_and]
    simp only [b_is_of_word, sSeq, sNx, sIf, sRet, sRetN, sSet, sDo, sB, aCons, aV, aP, aNil, sC, sVar, sMove, sT, sAnd, sOr, sNot, sAndV, sOrV, sNotV, sIfE, sChain, sTup, sLst, sDic0, sSl, sPt, sNo, sCall, sCallL, sPut, sAug, sMeth, isOwn, free, Out.bind, Out.bs, SO.then, List.getElem?_cons_zero, List.getElem?_cons_succ, List.set_cons_zero, List.set_cons_succ, lookA, look, Wd.dat, Wd.lent, Wd.mut, avD, Option.map, List.map, closeR, outs_nil, outs_val, outs_own, if_true, if_false, Bool.false_eq_true, reduceIte, Bool.not_true, Bool.not_false, Bool.not_not, and_self, and_true, true_and, List.length_nil, List.length_cons, Nat.reduceLeDiff, Nat.reduceAdd, Nat.zero_add, Nat.zero_le, t_is_square_table h, e, ho]
theorem t__law_times {m n : T} (h : Sm m) : g__law_times [vT m, vT n] = .ret (vT (mul m n)) [vT m, vT n] := by
  obtain ⟨h1, h2, h3, h4⟩ := h.pl
  rw [v__law_times]
  have p1 := put_tt (i := 2) (j := 3) (k := 4) (l := 5) (a := .int m.a) (b := .int m.b) (c := .int m.c) (d := .int m.d) (e := [some (vT m), some (vT n), none, none, none, none, none, none, none, none]) (by rfl) rfl (by rfl) rfl (by rfl) rfl (by rfl) rfl
  have p2 := put_tt (i := 6) (j := 7) (k := 8) (l := 9) (a := .int n.a) (b := .int n.b) (c := .int n.c) (d := .int n.d) (e := [some (vT m), some (vT n), some (.val (.int m.a)), some (.val (.int m.b)), some (.val (.int m.c)), some (.val (.int m.d)), none, none, none, none]) (by rfl) rfl (by rfl) rfl (by rfl) rfl (by rfl) rfl
  simp only [List.set_cons_zero, List.set_cons_succ] at p1 p2
  simp only [b__law_times, sSeq, sNx, sIf, sRet, sRetN, sSet, sDo, sB, aCons, aV, aP, aNil, sC, sVar, sMove, sT, sAnd, sOr, sNot, sAndV, sOrV, sNotV, sIfE, sChain, sTup, sLst, sDic0, sSl, sPt, sNo, sCall, sCallL, sPut, sAug, sMeth, isOwn, free, Out.bind, Out.bs, SO.then, List.getElem?_cons_zero, List.getElem?_cons_succ, List.set_cons_zero, List.set_cons_succ, lookA, look, Wd.dat, Wd.lent, Wd.mut, avD, Option.map, List.map, closeR, outs_nil, outs_val, outs_own, if_true, if_false, Bool.false_eq_true, reduceIte, Bool.not_true, Bool.not_false, Bool.not_not, and_self, and_true, true_and, List.length_nil, List.length_cons, Nat.reduceLeDiff, Nat.reduceAdd, Nat.zero_add, Nat.zero_le, add_int, Fd.gSub, gNeg, gCmp, gLen, abs_int, gInt, gTuple, gList, gRev, gIAdd, sSetT, p1, p2, mulL h1, mulL h2, mulL h3, mulL h4, mul]
end K27

namespace K27
open PySem Fd Ta
def row2 : D → Bool
  | .tup [p, q] => big18 p && big18 q
  | _ => false
/-- tuple of two tuples of two small ints -/
def plain2 : D → Bool
  | .tup [x, y] => row2 x && row2 y
  | _ => false
theorem row2_at {x : D} (h : row2 x = true) : ∃ p q : Int, x = .tup [.int p, .int q] ∧ Fd.ab p ≤ 1000000000000000000 ∧ Fd.ab q ≤ 1000000000000000000 := by
  unfold row2 at h
  split at h
  · rename_i p q
    rw [Bool.and_eq_true] at h
    have i1 : ∀ z, big18 z = true → ∃ i : Int, z = .int i ∧ Fd.ab i ≤ 1000000000000000000 := fun z hz => by
      cases z with
      | int i => exact ⟨i, rfl, of_decide_eq_true hz⟩
      | _ => cases hz
    obtain ⟨p, rfl, c1⟩ := i1 p h.1
    obtain ⟨q, rfl, c2⟩ := i1 q h.2
    exact ⟨p, q, rfl, c1, c2⟩
  · cases h
def okr (x : D) : Prop := known x = true ∧ ∀ p q, x = .tup [p, q] → known p = true ∧ known q = true
theorem item_law {tb x z : D} (h : known z = true) : ((sAndV (sB gIsi (aCons (aP 2) (aCons (aV (sC (.ty "int"))) aNil))) (sAndV (sNotV (sB gIsi (aCons (aP 2) (aCons (aV (sC (.ty "bool"))) aNil)))) (sB (gCmp fun i j => decide (i ≤ j)) (aCons (aV (sB gAbs (aCons (aP 2) aNil))) (aCons (aV (sB gPow (aCons (aV (sC (.int 10))) (aCons (aV (sC (.int 18))) aNil)))) aNil)))))) [some (.val tb), some (.val x), some (.val z)] = .ok (.val (.bl (big18 z))) [some (.val tb), some (.val x), some (.val z)] := by
  simp only [sSeq, sNx, sIf, sRet, sRetN, sSet, sDo, sB, aCons, aV, aP, aNil, sC, sVar, sMove, sT, sAnd, sOr, sNot, sAndV, sOrV, sNotV, sIfE, sChain, sTup, sLst, sDic0, sSl, sPt, sNo, sCall, sCallL, sPut, sAug, sMeth, isOwn, free, Out.bind, Out.bs, SO.then, List.getElem?_cons_zero, List.getElem?_cons_succ, List.set_cons_zero, List.set_cons_succ, lookA, look, Wd.dat, Wd.lent, Wd.mut, avD, Option.map, List.map, closeR, outs_nil, outs_val, outs_own, if_true, if_false, Bool.false_eq_true, reduceIte, Bool.not_true, Bool.not_false, Bool.not_not, and_self, and_true, true_and, List.length_nil, List.length_cons, Nat.reduceLeDiff, Nat.reduceAdd, Nat.zero_add, Nat.zero_le, add_int, Fd.gSub, gNeg, gCmp, gLen, abs_int, gInt, gTuple, gList, gRev, gIAdd, isi_int h, isi_bool h]
  cases z with
  | int i => simp only [sSeq, sNx, sIf, sRet, sRetN, sSet, sDo, sB, aCons, aV, aP, aNil, sC, sVar, sMove, sT, sAnd, sOr, sNot, sAndV, sOrV, sNotV, sIfE, sChain, sTup, sLst, sDic0, sSl, sPt, sNo, sCall, sCallL, sPut, sAug, sMeth, isOwn, free, Out.bind, Out.bs, SO.then, List.getElem?_cons_zero, List.getElem?_cons_succ, List.set_cons_zero, List.set_cons_succ, lookA, look, Wd.dat, Wd.lent, Wd.mut, avD, Option.map, List.map, closeR, outs_nil, outs_val, outs_own, if_true, if_false, Bool.false_eq_true, reduceIte, Bool.not_true, Bool.not_false, Bool.not_not, and_self, and_true, true_and, List.length_nil, List.length_cons, Nat.reduceLeDiff, Nat.reduceAdd, Nat.zero_add, Nat.zero_le, add_int, Fd.gSub, gNeg, gCmp, gLen, abs_int, gInt, gTuple, gList, gRev, gIAdd, dInt, dBl, Bool.or_false, ten18, big18]
  | _ => rfl
theorem row_yes {tb x : D} (hx : okr x) (h : row2 x = true) : ((sSeq (sIf (sOr (sNot (sT (sB gIsi (aCons (aP 1) (aCons (aV (sC (.ty "tuple"))) aNil))))) (sT (sB gNe (aCons (aV (sB gLen (aCons (aP 1) aNil))) (aCons (aV (sC (.int 2))) aNil))))) (sRet (sC (.bl false))) sNx) (sIf (sNot (sT (sB gAll (aCons (aV (sLc (.nm 2) (sSeqI (aV (sVar 1))) sYes (sAndV (sB gIsi (aCons (aP 2) (aCons (aV (sC (.ty "int"))) aNil))) (sAndV (sNotV (sB gIsi (aCons (aP 2) (aCons (aV (sC (.ty "bool"))) aNil)))) (sB (gCmp fun i j => decide (i ≤ j)) (aCons (aV (sB gAbs (aCons (aP 2) aNil))) (aCons (aV (sB gPow (aCons (aV (sC (.int 10))) (aCons (aV (sC (.int 18))) aNil)))) aNil))))) [2])) aNil)))) (sRet (sC (.bl false))) sNx))) [some (.val tb), some (.val x), none] = .nx [some (.val tb), some (.val x), none] := by
  obtain ⟨p, q, rfl, c1, c2⟩ := row2_at h
  have l := lc_run (α := D) (enc := id) (i := 2) (o := none) (fi := (sSeqI (aV (sVar 1)))) (fe := (sAndV (sB gIsi (aCons (aP 2) (aCons (aV (sC (.ty "int"))) aNil))) (sAndV (sNotV (sB gIsi (aCons (aP 2) (aCons (aV (sC (.ty "bool"))) aNil)))) (sB (gCmp fun i j => decide (i ≤ j)) (aCons (aV (sB gAbs (aCons (aP 2) aNil))) (aCons (aV (sB gPow (aCons (aV (sC (.int 10))) (aCons (aV (sC (.int 18))) aNil)))) aNil)))))) (e := [some (.val tb), some (.val (.tup [.int p, .int q])), none]) (e1 := [some (.val tb), some (.val (.tup [.int p, .int q])), none]) (xs := [.int p, .int q]) (fun x => .bl (big18 x))
    (by simp only [sSeq, sNx, sIf, sRet, sRetN, sSet, sDo, sB, aCons, aV, aP, aNil, sC, sVar, sMove, sT, sAnd, sOr, sNot, sAndV, sOrV, sNotV, sIfE, sChain, sTup, sLst, sDic0, sSl, sPt, sNo, sCall, sCallL, sPut, sAug, sMeth, isOwn, free, Out.bind, Out.bs, SO.then, List.getElem?_cons_zero, List.getElem?_cons_succ, List.set_cons_zero, List.set_cons_succ, lookA, look, Wd.dat, Wd.lent, Wd.mut, avD, Option.map, List.map, closeR, outs_nil, outs_val, outs_own, if_true, if_false, Bool.false_eq_true, reduceIte, Bool.not_true, Bool.not_false, Bool.not_not, and_self, and_true, true_and, List.length_nil, List.length_cons, Nat.reduceLeDiff, Nat.reduceAdd, Nat.zero_add, Nat.zero_le, sSeqI, seqOf, List.map_id]; rfl) rfl rfl (by simp) (fun z hz => item_law (by simp at hz; rcases hz with rfl | rfl <;> rfl))
  have hA : gAll [.lst [.bl (big18 (.int p)), .bl (big18 (.int q))]] = some (.val (.bl true)) := by
    have := all_map big18 [.int p, .int q]
    simp only [List.map, List.all_cons, List.all_nil, Bool.and_true] at this
    rw [this]
    unfold row2 at h
    simp only at h
    rw [h]
  have is := isi_tuple (d := .tup [.int p, .int q]) rfl
  have n2 : gNe [.int ((2 : Nat) : Int), .int 2] = some (.val (.bl false)) := rfl
  simp only [sSeq, sNx, sIf, sRet, sRetN, sSet, sDo, sB, aCons, aV, aP, aNil, sC, sVar, sMove, sT, sAnd, sOr, sNot, sAndV, sOrV, sNotV, sIfE, sChain, sTup, sLst, sDic0, sSl, sPt, sNo, sCall, sCallL, sPut, sAug, sMeth, isOwn, free, Out.bind, Out.bs, SO.then, List.getElem?_cons_zero, List.getElem?_cons_succ, List.set_cons_zero, List.set_cons_succ, lookA, look, Wd.dat, Wd.lent, Wd.mut, avD, Option.map, List.map, closeR, outs_nil, outs_val, outs_own, if_true, if_false, Bool.false_eq_true, reduceIte, Bool.not_true, Bool.not_false, Bool.not_not, and_self, and_true, true_and, List.length_nil, List.length_cons, Nat.reduceLeDiff, Nat.reduceAdd, Nat.zero_add, Nat.zero_le, is, dTup, gLen, n2, l, hA]
theorem row_no {tb x : D} (hx : okr x) (h : row2 x = false) : ((sSeq (sIf (sOr (sNot (sT (sB gIsi (aCons (aP 1) (aCons (aV (sC (.ty "tuple"))) aNil))))) (sT (sB gNe (aCons (aV (sB gLen (aCons (aP 1) aNil))) (aCons (aV (sC (.int 2))) aNil))))) (sRet (sC (.bl false))) sNx) (sIf (sNot (sT (sB gAll (aCons (aV (sLc (.nm 2) (sSeqI (aV (sVar 1))) sYes (sAndV (sB gIsi (aCons (aP 2) (aCons (aV (sC (.ty "int"))) aNil))) (sAndV (sNotV (sB gIsi (aCons (aP 2) (aCons (aV (sC (.ty "bool"))) aNil)))) (sB (gCmp fun i j => decide (i ≤ j)) (aCons (aV (sB gAbs (aCons (aP 2) aNil))) (aCons (aV (sB gPow (aCons (aV (sC (.int 10))) (aCons (aV (sC (.int 18))) aNil)))) aNil))))) [2])) aNil)))) (sRet (sC (.bl false))) sNx))) [some (.val tb), some (.val x), none] = .rt (.val (.bl false)) [some (.val tb), some (.val x), none] := by
  have is := isi_tuple hx.1
  rcases tf (dTup x) with t | t
  · cases x with
    | tup ds =>
      rcases tf (decide ((ds.length : Int) = 2)) with c | c
      · have hl : ds.length = 2 := by have := of_decide_eq_true c; omega
        match ds, hl with
        | [p, q], _ =>
          obtain ⟨k1, k2⟩ := hx.2 p q rfl
          have l := lc_run (α := D) (enc := id) (i := 2) (o := none) (fi := (sSeqI (aV (sVar 1)))) (fe := (sAndV (sB gIsi (aCons (aP 2) (aCons (aV (sC (.ty "int"))) aNil))) (sAndV (sNotV (sB gIsi (aCons (aP 2) (aCons (aV (sC (.ty "bool"))) aNil)))) (sB (gCmp fun i j => decide (i ≤ j)) (aCons (aV (sB gAbs (aCons (aP 2) aNil))) (aCons (aV (sB gPow (aCons (aV (sC (.int 10))) (aCons (aV (sC (.int 18))) aNil)))) aNil)))))) (e := [some (.val tb), some (.val (.tup [p, q])), none]) (e1 := [some (.val tb), some (.val (.tup [p, q])), none]) (xs := [p, q]) (fun x => .bl (big18 x))
            (by simp only [sSeq, sNx, sIf, sRet, sRetN, sSet, sDo, sB, aCons, aV, aP, aNil, sC, sVar, sMove, sT, sAnd, sOr, sNot, sAndV, sOrV, sNotV, sIfE, sChain, sTup, sLst, sDic0, sSl, sPt, sNo, sCall, sCallL, sPut, sAug, sMeth, isOwn, free, Out.bind, Out.bs, SO.then, List.getElem?_cons_zero, List.getElem?_cons_succ, List.set_cons_zero, List.set_cons_succ, lookA, look, Wd.dat, Wd.lent, Wd.mut, avD, Option.map, List.map, closeR, outs_nil, outs_val, outs_own, if_true, if_false, Bool.false_eq_true, reduceIte, Bool.not_true, Bool.not_false, Bool.not_not, and_self, and_true, true_and, List.length_nil, List.length_cons, Nat.reduceLeDiff, Nat.reduceAdd, Nat.zero_add, Nat.zero_le, sSeqI, seqOf, List.map_id]; rfl) rfl rfl (by simp) (fun z hz => item_law (by simp at hz; rcases hz with rfl | rfl <;> assumption))
          have hA : gAll [.lst [.bl (big18 p), .bl (big18 q)]] = some (.val (.bl false)) := by
            have := all_map big18 [p, q]
            simp only [List.map, List.all_cons, List.all_nil, Bool.and_true] at this
            rw [this]
            unfold row2 at h
            simp only at h
            rw [h]
          have n2 : gNe [.int ((2 : Nat) : Int), .int 2] = some (.val (.bl false)) := rfl
          simp only [sSeq, sNx, sIf, sRet, sRetN, sSet, sDo, sB, aCons, aV, aP, aNil, sC, sVar, sMove, sT, sAnd, sOr, sNot, sAndV, sOrV, sNotV, sIfE, sChain, sTup, sLst, sDic0, sSl, sPt, sNo, sCall, sCallL, sPut, sAug, sMeth, isOwn, free, Out.bind, Out.bs, SO.then, List.getElem?_cons_zero, List.getElem?_cons_succ, List.set_cons_zero, List.set_cons_succ, lookA, look, Wd.dat, Wd.lent, Wd.mut, avD, Option.map, List.map, closeR, outs_nil, outs_val, outs_own, if_true, if_false, Bool.false_eq_true, reduceIte, Bool.not_true, Bool.not_false, Bool.not_not, and_self, and_true, true_and, List.length_nil, List.length_cons, Nat.reduceLeDiff, Nat.reduceAdd, Nat.zero_add, Nat.zero_le, is, dTup, gLen, n2, l, hA]
      · simp only [sSeq, sNx, sIf, sRet, sRetN, sSet, sDo, sB, aCons, aV, aP, aNil, sC, sVar, sMove, sT, sAnd, sOr, sNot, sAndV, sOrV, sNotV, sIfE, sChain, sTup, sLst, sDic0, sSl, sPt, sNo, sCall, sCallL, sPut, sAug, sMeth, isOwn, free, Out.bind, Out.bs, SO.then, List.getElem?_cons_zero, List.getElem?_cons_succ, List.set_cons_zero, List.set_cons_succ, lookA, look, Wd.dat, Wd.lent, Wd.mut, avD, Option.map, List.map, closeR, outs_nil, outs_val, outs_own, if_true, if_false, Bool.false_eq_true, reduceIte, Bool.not_true, Bool.not_false, Bool.not_not, and_self, and_true, true_and, List.length_nil, List.length_cons, Nat.reduceLeDiff, Nat.reduceAdd, Nat.zero_add, Nat.zero_le, is, dTup, gLen, ne_int, c]
    | _ => cases t
  · simp only [sSeq, sNx, sIf, sRet, sRetN, sSet, sDo, sB, aCons, aV, aP, aNil, sC, sVar, sMove, sT, sAnd, sOr, sNot, sAndV, sOrV, sNotV, sIfE, sChain, sTup, sLst, sDic0, sSl, sPt, sNo, sCall, sCallL, sPut, sAug, sMeth, isOwn, free, Out.bind, Out.bs, SO.then, List.getElem?_cons_zero, List.getElem?_cons_succ, List.set_cons_zero, List.set_cons_succ, lookA, look, Wd.dat, Wd.lent, Wd.mut, avD, Option.map, List.map, closeR, outs_nil, outs_val, outs_own, if_true, if_false, Bool.false_eq_true, reduceIte, Bool.not_true, Bool.not_false, Bool.not_not, and_self, and_true, true_and, List.length_nil, List.length_cons, Nat.reduceLeDiff, Nat.reduceAdd, Nat.zero_add, Nat.zero_le, is, t]
end K27

namespace K27
open PySem Fd Ta
theorem loop_nx {tg : Tg} {body : Fr → SO} {d : D} {ds : List D} {e e1 e2 : Fr} (h1 : tg.put d e = some e1) (h2 : body e1 = .nx e2) : loopF tg body (d :: ds) e = loopF tg body ds e2 := by
  show (match tg.put d e with | none => SO.bad | some e1 => _) = _
  rw [h1]; simp only [h2]
theorem loop_rt {tg : Tg} {body : Fr → SO} {d : D} {ds : List D} {e e1 e2 : Fr} {w : Wd} (h1 : tg.put d e = some e1) (h2 : body e1 = .rt w e2) : loopF tg body (d :: ds) e = .rt w e2 := by
  show (match tg.put d e with | none => SO.bad | some e1 => _) = _
  rw [h1]; simp only [h2]
theorem t__law_is_plain {d : D} (h : ok3 d) : g__law_is_plain [.val d] = .ret (.val (.bl (plain2 d))) [.val d] := by
  rw [v__law_is_plain]
  obtain ⟨hk, h3⟩ := h
  have is := isi_tuple hk
  rcases tf (dTup d) with t | t
  · cases d with
    | tup ds =>
      rcases tf (decide ((ds.length : Int) = 2)) with c | c
      · have hl : ds.length = 2 := by have := of_decide_eq_true c; omega
        match ds, hl with
        | [x, y], _ =>
          obtain ⟨⟨kx, ky⟩, k1, k2⟩ := h3 x y rfl
          have n2 : gNe [.int ((2 : Nat) : Int), .int 2] = some (.val (.bl false)) := rfl
          have px : ∀ o : Option Wd, plainO o = true → Tg.put (.nm 1) x [some (.val (.tup [x, y])), o, none] = some [some (.val (.tup [x, y])), some (.val x), none] := fun o ho => put_nm (by rfl) ho
          have py : ∀ o : Option Wd, plainO o = true → Tg.put (.nm 1) y [some (.val (.tup [x, y])), o, none] = some [some (.val (.tup [x, y])), some (.val y), none] := fun o ho => put_nm (by rfl) ho
          have hp : plain2 (.tup [x, y]) = (row2 x && row2 y) := rfl
          rw [hp]
          rcases tf (row2 x) with rx | rx
          · rcases tf (row2 y) with ry | ry
            · have l := loop_nx (ds := [y]) (px none rfl) (row_yes ⟨kx, k1⟩ rx)
              rw [loop_nx (ds := []) (py (some (.val x)) rfl) (row_yes ⟨ky, k2⟩ ry)] at l
              have l' : loopF (.nm 1) ((sSeq (sIf (sOr (sNot (sT (sB gIsi (aCons (aP 1) (aCons (aV (sC (.ty "tuple"))) aNil))))) (sT (sB gNe (aCons (aV (sB gLen (aCons (aP 1) aNil))) (aCons (aV (sC (.int 2))) aNil))))) (sRet (sC (.bl false))) sNx) (sIf (sNot (sT (sB gAll (aCons (aV (sLc (.nm 2) (sSeqI (aV (sVar 1))) sYes (sAndV (sB gIsi (aCons (aP 2) (aCons (aV (sC (.ty "int"))) aNil))) (sAndV (sNotV (sB gIsi (aCons (aP 2) (aCons (aV (sC (.ty "bool"))) aNil)))) (sB (gCmp fun i j => decide (i ≤ j)) (aCons (aV (sB gAbs (aCons (aP 2) aNil))) (aCons (aV (sB gPow (aCons (aV (sC (.int 10))) (aCons (aV (sC (.int 18))) aNil)))) aNil))))) [2])) aNil)))) (sRet (sC (.bl false))) sNx))) [x, y] [some (.val (.tup [x, y])), none, none] = .nx [some (.val (.tup [x, y])), some (.val y), none] := l
              simp only [b__law_is_plain, sSeq, sNx, sIf, sRet, sRetN, sSet, sDo, sB, aCons, aV, aP, aNil, sC, sVar, sMove, sT, sAnd, sOr, sNot, sAndV, sOrV, sNotV, sIfE, sChain, sTup, sLst, sDic0, sSl, sPt, sNo, sCall, sCallL, sPut, sAug, sMeth, isOwn, free, Out.bind, Out.bs, SO.then, List.getElem?_cons_zero, List.getElem?_cons_succ, List.set_cons_zero, List.set_cons_succ, lookA, look, Wd.dat, Wd.lent, Wd.mut, avD, Option.map, List.map, closeR, outs_nil, outs_val, outs_own, if_true, if_false, Bool.false_eq_true, reduceIte, Bool.not_true, Bool.not_false, Bool.not_not, and_self, and_true, true_and, List.length_nil, List.length_cons, Nat.reduceLeDiff, Nat.reduceAdd, Nat.zero_add, Nat.zero_le, is, dTup, gLen, n2, sFor, sSeqI, seqOf, l', rx, ry, Bool.true_and]
            · have l := loop_nx (ds := [y]) (px none rfl) (row_yes ⟨kx, k1⟩ rx)
              rw [loop_rt (ds := []) (py (some (.val x)) rfl) (row_no ⟨ky, k2⟩ ry)] at l
              simp only [b__law_is_plain, sSeq, sNx, sIf, sRet, sRetN, sSet, sDo, sB, aCons, aV, aP, aNil, sC, sVar, sMove, sT, sAnd, sOr, sNot, sAndV, sOrV, sNotV, sIfE, sChain, sTup, sLst, sDic0, sSl, sPt, sNo, sCall, sCallL, sPut, sAug, sMeth, isOwn, free, Out.bind, Out.bs, SO.then, List.getElem?_cons_zero, List.getElem?_cons_succ, List.set_cons_zero, List.set_cons_succ, lookA, look, Wd.dat, Wd.lent, Wd.mut, avD, Option.map, List.map, closeR, outs_nil, outs_val, outs_own, if_true, if_false, Bool.false_eq_true, reduceIte, Bool.not_true, Bool.not_false, Bool.not_not, and_self, and_true, true_and, List.length_nil, List.length_cons, Nat.reduceLeDiff, Nat.reduceAdd, Nat.zero_add, Nat.zero_le, is, dTup, gLen, n2, sFor, sSeqI, seqOf, l, rx, ry, Bool.and_false]
          · have l := loop_rt (ds := [y]) (px none rfl) (row_no ⟨kx, k1⟩ rx)
            simp only [b__law_is_plain, sSeq, sNx, sIf, sRet, sRetN, sSet, sDo, sB, aCons, aV, aP, aNil, sC, sVar, sMove, sT, sAnd, sOr, sNot, sAndV, sOrV, sNotV, sIfE, sChain, sTup, sLst, sDic0, sSl, sPt, sNo, sCall, sCallL, sPut, sAug, sMeth, isOwn, free, Out.bind, Out.bs, SO.then, List.getElem?_cons_zero, List.getElem?_cons_succ, List.set_cons_zero, List.set_cons_succ, lookA, look, Wd.dat, Wd.lent, Wd.mut, avD, Option.map, List.map, closeR, outs_nil, outs_val, outs_own, if_true, if_false, Bool.false_eq_true, reduceIte, Bool.not_true, Bool.not_false, Bool.not_not, and_self, and_true, true_and, List.length_nil, List.length_cons, Nat.reduceLeDiff, Nat.reduceAdd, Nat.zero_add, Nat.zero_le, is, dTup, gLen, n2, sFor, sSeqI, seqOf, l, rx, Bool.false_and]
      · have z : plain2 (.tup ds) = false := by
          unfold plain2
          split
          · rename_i heq; cases heq; simp at c
          · rfl
        simp only [b__law_is_plain, sSeq, sNx, sIf, sRet, sRetN, sSet, sDo, sB, aCons, aV, aP, aNil, sC, sVar, sMove, sT, sAnd, sOr, sNot, sAndV, sOrV, sNotV, sIfE, sChain, sTup, sLst, sDic0, sSl, sPt, sNo, sCall, sCallL, sPut, sAug, sMeth, isOwn, free, Out.bind, Out.bs, SO.then, List.getElem?_cons_zero, List.getElem?_cons_succ, List.set_cons_zero, List.set_cons_succ, lookA, look, Wd.dat, Wd.lent, Wd.mut, avD, Option.map, List.map, closeR, outs_nil, outs_val, outs_own, if_true, if_false, Bool.false_eq_true, reduceIte, Bool.not_true, Bool.not_false, Bool.not_not, and_self, and_true, true_and, List.length_nil, List.length_cons, Nat.reduceLeDiff, Nat.reduceAdd, Nat.zero_add, Nat.zero_le, is, dTup, gLen, ne_int, c, z]
    | _ => cases t
  · have z : plain2 d = false := by
      unfold plain2
      split
      · cases t
      · rfl
    simp only [b__law_is_plain, sSeq, sNx, sIf, sRet, sRetN, sSet, sDo, sB, aCons, aV, aP, aNil, sC, sVar, sMove, sT, sAnd, sOr, sNot, sAndV, sOrV, sNotV, sIfE, sChain, sTup, sLst, sDic0, sSl, sPt, sNo, sCall, sCallL, sPut, sAug, sMeth, isOwn, free, Out.bind, Out.bs, SO.then, List.getElem?_cons_zero, List.getElem?_cons_succ, List.set_cons_zero, List.set_cons_succ, lookA, look, Wd.dat, Wd.lent, Wd.mut, avD, Option.map, List.map, closeR, outs_nil, outs_val, outs_own, if_true, if_false, Bool.false_eq_true, reduceIte, Bool.not_true, Bool.not_false, Bool.not_not, and_self, and_true, true_and, List.length_nil, List.length_cons, Nat.reduceLeDiff, Nat.reduceAdd, Nat.zero_add, Nat.zero_le, is, t, z]
theorem plain2_at {d : D} (h : plain2 d = true) : ∃ m : T, d = tT m ∧ Fd.ab m.a ≤ 1000000000000000000 ∧ Fd.ab m.b ≤ 1000000000000000000 ∧ Fd.ab m.c ≤ 1000000000000000000 ∧ Fd.ab m.d ≤ 1000000000000000000 := by
  unfold plain2 at h
  split at h
  · rw [Bool.and_eq_true] at h
    obtain ⟨p, q, rfl, c1, c2⟩ := row2_at h.1
    obtain ⟨r, s, rfl, c3, c4⟩ := row2_at h.2
    exact ⟨⟨p, q, r, s⟩, rfl, c1, c2, c3, c4⟩
  · cases h
theorem t__law_is_of_word {d : D} (h : ok3 d) : g__law_is_of_word [.val d] = .ret (.val (.bl (ofw d))) [.val d] := by
  rw [v__law_is_of_word]
  rcases tf (plain2 d) with e | e
  · obtain ⟨m, rfl, c1, c2, c3, c4⟩ := plain2_at e
    have sm : ∀ i : Int, Fd.ab i ≤ 1000000000000000000 → -(2 ^ 64) < i ∧ i < 2 ^ 64 := fun i hi => by unfold Fd.ab at hi; split at hi <;> omega
    have m1 := mulL (a := m.a) (b := m.d) (sm _ c1)
    have m2 := mulL (a := m.b) (b := m.c) (sm _ c2)
    have p1 := put_tt (i := 1) (j := 2) (k := 3) (l := 4) (a := .int m.a) (b := .int m.b) (c := .int m.c) (d := .int m.d) (e := [some (vT m), none, none, none, none]) (by rfl) rfl (by rfl) rfl (by rfl) rfl (by rfl) rfl
    simp only [List.set_cons_zero, List.set_cons_succ] at p1
    have q4 : ∀ x : Int, gMod [.int x, .int 4] = some (.val (.int (x % 4))) := fun _ => rfl
    have q2 : ∀ x : Int, gMod [.int x, .int 2] = some (.val (.int (x % 2))) := fun _ => rfl
    have g : ∀ i : Int, Fd.ab i ≤ 1000000000000000000 → big18 (.int i) = true := fun i hi => decide_eq_true hi
    have ho : ofw (tT m) = (decide (m.a * m.d - m.b * m.c = 1) && saB m) := by
      show (((big18 (.int m.a) && (big18 (.int m.b) && (big18 (.int m.c) && big18 (.int m.d)))) && decide (m.a * m.d - m.b * m.c = 1)) && saB m) = _
      rw [g _ c1, g _ c2, g _ c3, g _ c4]; rfl
    rw [ho]
    unfold saB
    rcases tf (decide (m.a * m.d - m.b * m.c = 1)) with d0 | d0 <;> rcases tf (decide (m.b % 2 = 0)) with d1 | d1 <;> rcases tf (decide (m.c % 2 = 0)) with d2 | d2 <;> rcases tf (decide (m.a % 4 = 1)) with d3 | d3 <;>
      simp only [b__law_is_of_word, sSeq, sNx, sIf, sRet, sRetN, sSet, sDo, sB, aCons, aV, aP, aNil, sC, sVar, sMove, sT, sAnd, sOr, sNot, sAndV, sOrV, sNotV, sIfE, sChain, sTup, sLst, sDic0, sSl, sPt, sNo, sCall, sCallL, sPut, sAug, sMeth, isOwn, free, Out.bind, Out.bs, SO.then, List.getElem?_cons_zero, List.getElem?_cons_succ, List.set_cons_zero, List.set_cons_succ, lookA, look, Wd.dat, Wd.lent, Wd.mut, avD, Option.map, List.map, closeR, outs_nil, outs_val, outs_own, if_true, if_false, Bool.false_eq_true, reduceIte, Bool.not_true, Bool.not_false, Bool.not_not, and_self, and_true, true_and, List.length_nil, List.length_cons, Nat.reduceLeDiff, Nat.reduceAdd, Nat.zero_add, Nat.zero_le, add_int, Fd.gSub, gNeg, gCmp, gLen, abs_int, gInt, gTuple, gList, gRev, gIAdd, t__law_is_plain h, e, sSetT, p1, m1, m2, q4, q2, eq_int, d0, d1, d2, d3, Bool.true_and, Bool.false_and, Bool.and_false, Bool.and_true]
  · have ho : ofw d = false := by
      cases e2 : ofw d with
      | false => rfl
      | true =>
        exfalso
        unfold ofw at e2
        rw [Bool.and_eq_true] at e2
        obtain ⟨m, rfl, c1, c2, c3, c4, _⟩ := sq_at e2.1
        have g : ∀ i : Int, Fd.ab i ≤ 1000000000000000000 → big18 (.int i) = true := fun i hi => decide_eq_true hi
        have : plain2 (tT m) = true := by
          show ((big18 (.int m.a) && big18 (.int m.b)) && (big18 (.int m.c) && big18 (.int m.d))) = true
          rw [g _ c1, g _ c2, g _ c3, g _ c4]; rfl
        rw [this] at e
        cases e
    simp only [b__law_is_of_word, sSeq, sNx, sIf, sRet, sRetN, sSet, sDo, sB, aCons, aV, aP, aNil, sC, sVar, sMove, sT, sAnd, sOr, sNot, sAndV, sOrV, sNotV, sIfE, sChain, sTup, sLst, sDic0, sSl, sPt, sNo, sCall, sCallL, sPut, sAug, sMeth, isOwn, free, Out.bind, Out.bs, SO.then, List.getElem?_cons_zero, List.getElem?_cons_succ, List.set_cons_zero, List.set_cons_succ, lookA, look, Wd.dat, Wd.lent, Wd.mut, avD, Option.map, List.map, closeR, outs_nil, outs_val, outs_own, if_true, if_false, Bool.false_eq_true, reduceIte, Bool.not_true, Bool.not_false, Bool.not_not, and_self, and_true, true_and, List.length_nil, List.length_cons, Nat.reduceLeDiff, Nat.reduceAdd, Nat.zero_add, Nat.zero_le, t__law_is_plain h, e, ho]
end K27

namespace K27
open PySem Fd
/-! the hand, and its draws -/
def handD (cs : List Int) (a b s n : Int) : List D := [.lst (cs.map .int), .int a, .int b, .int s, .int n]
structure HandOk (h : List D) : Prop where
  ex : ∃ cs a b s n, h = handD cs a b s n ∧ 0 ≤ a ∧ 0 ≤ b ∧ ∀ c ∈ cs, 0 ≤ c
section
variable {p q r s t : D}
theorem hx0 : gIx [.lst [p, q, r, s, t], .int 0] = some (.val p) := rfl
theorem hx1 : gIx [.lst [p, q, r, s, t], .int 1] = some (.val q) := rfl
theorem hx2 : gIx [.lst [p, q, r, s, t], .int 2] = some (.val r) := rfl
theorem hx3 : gIx [.lst [p, q, r, s, t], .int 3] = some (.val s) := rfl
theorem hx4 : gIx [.lst [p, q, r, s, t], .int 4] = some (.val t) := rfl
end
theorem hn1 : L2.ixN 5 1 = some 1 := rfl
theorem hn2 : L2.ixN 5 2 = some 2 := rfl
theorem hn3 : L2.ixN 5 3 = some 3 := rfl
theorem hn4 : L2.ixN 5 4 = some 4 := rfl
theorem ten18' : gPow [.int 10, .int 18] = some (.val (.int 1000000000000000000)) := by
  show (if (0 : Int) ≤ 18 ∧ (18 : Int) ≤ 1000000 ∧ (10 : Int).natAbs < 2 ^ 64 then some (Wd.val (.int (10 ^ (18 : Int).toNat))) else none) = _
  rw [if_pos (by decide)]
  rfl
theorem mul_l {a b : Int} (h : -(2 ^ 64) < a ∧ a < 2 ^ 64) : gMul4 [.int a, .int b] = some (.val (.int (a * b))) := by
  show (if mulOk a b = true then _ else _) = _
  rw [if_pos (by simp [mulOk]; omega)]
theorem mul_r {a b : Int} (h : -(2 ^ 64) < b ∧ b < 2 ^ 64) : gMul4 [.int a, .int b] = some (.val (.int (a * b))) := by
  show (if mulOk a b = true then _ else _) = _
  rw [if_pos (by simp [mulOk]; omega)]
theorem mod_p {a b : Int} (h : 0 < b) : gMod [.int a, .int b] = some (.val (.int (a % b))) := by
  show (if 0 < b then _ else _) = _
  rw [if_pos h]
theorem div_p {a b : Int} (h : 0 < b) (h2 : b < 1073741824) : gDiv [.int a, .int b] = some (.val (.int (a / b))) := by
  show (if 0 < b ∧ b < 1073741824 then _ else _) = _
  rw [if_pos ⟨h, h2⟩]
theorem draw_tail {h : List D} (hh : HandOk h) {m : Int} (h1 : 1 ≤ m) (h2 : m < 1000) {o : Option Wd} : ∃ (k : Int) (h' : List D) (e : Fr), 0 ≤ k ∧ k < m ∧ HandOk h' ∧
    ((sSeq (sIf (sT (sB (gCmp fun i j => decide (i > j)) (aCons (aV (sB gIx (aCons (aP 0) (aCons (aV (sC (.int 2))) aNil)))) (aCons (aV (sC (.int 0))) aNil)))) (sSeq (sSet 3 (sB gMod (aCons (aV (sB gInt (aCons (aV (sB gIx (aCons (aP 0) (aCons (aV (sC (.int 2))) aNil)))) aNil))) (aCons (aP 1) aNil)))) (sSeq (sPut 0 (sC (.int 2)) (sB gDiv (aCons (aV (sB gIx (aCons (aP 0) (aCons (aV (sC (.int 2))) aNil)))) (aCons (aP 1) aNil)))) (sRet (sMove 3)))) sNx) (sSeq (sPut 0 (sC (.int 4)) (sB gAdd (aCons (aV (sB gIx (aCons (aP 0) (aCons (aV (sC (.int 4))) aNil)))) (aCons (aV (sC (.int 1))) aNil)))) (sSeq (sSet 4 (sB gMod (aCons (aV (sB gInt (aCons (aV (sB gMul4 (aCons (aV (sB gInt (aCons (aV (sB gAdd (aCons (aV (sB gIx (aCons (aP 0) (aCons (aV (sC (.int 3))) aNil)))) (aCons (aV (sB gMul4 (aCons (aV (sC (.int 7877))) (aCons (aV (sB gIx (aCons (aP 0) (aCons (aV (sC (.int 4))) aNil)))) aNil)))) aNil)))) aNil))) (aCons (aV (sC (.int 69621))) aNil)))) aNil))) (aCons (aV (sC (.int 2147483647))) aNil)))) (sSeq (sSet 4 (sB gMod (aCons (aV (sB gInt (aCons (aV (sB gMul4 (aCons (aP 4) (aCons (aV (sB gAdd (aCons (aV (sB gDiv (aCons (aP 4) (aCons (aV (sC (.int 1103))) aNil)))) (aCons (aV (sC (.int 40692))) aNil)))) aNil)))) aNil))) (aCons (aV (sC (.int 2147483399))) aNil)))) (sSeq (sSet 4 (sB gMod (aCons (aV (sB gInt (aCons (aV (sB gMul4 (aCons (aP 4) (aCons (aV (sB gAdd (aCons (aV (sB gDiv (aCons (aP 4) (aCons (aV (sC (.int 2311))) aNil)))) (aCons (aV (sC (.int 48271))) aNil)))) aNil)))) aNil))) (aCons (aV (sC (.int 2147483629))) aNil)))) (sRet (sB gMod (aCons (aV (sB gInt (aCons (aV (sB gDiv (aCons (aP 4) (aCons (aV (sC (.int 16))) aNil)))) aNil))) (aCons (aP 1) aNil)))))))))) [some (.own true h), some (.val (.int m)), o, none, none] = .rt (.val (.int k)) (some (.own true h') :: some (.val (.int m)) :: e) := by
  obtain ⟨cs, a, b, s, n, rfl, ha, hb, hc⟩ := hh
  unfold handD
  rcases tf (decide (b > 0)) with c | c
  · refine ⟨b % m, handD cs a (b / m) s n, [o, some (.val (.int (b % m))), none], Int.emod_nonneg _ (by omega), Int.emod_lt_of_pos _ (by omega), ⟨cs, a, b / m, s, n, rfl, ha, Int.ediv_nonneg hb (by omega), hc⟩, ?_⟩
    simp only [sSeq, sNx, sIf, sRet, sRetN, sSet, sDo, sB, aCons, aV, aP, aNil, sC, sVar, sMove, sT, sAnd, sOr, sNot, sAndV, sOrV, sNotV, sIfE, sChain, sTup, sLst, sDic0, sSl, sPt, sNo, sCall, sCallL, sPut, sAug, sMeth, isOwn, free, Out.bind, Out.bs, SO.then, List.getElem?_cons_zero, List.getElem?_cons_succ, List.set_cons_zero, List.set_cons_succ, lookA, look, Wd.dat, Wd.lent, Wd.mut, avD, Option.map, List.map, closeR, outs_nil, outs_val, outs_own, if_true, if_false, Bool.false_eq_true, reduceIte, Bool.not_true, Bool.not_false, Bool.not_not, and_self, and_true, true_and, List.length_nil, List.length_cons, Nat.reduceLeDiff, Nat.reduceAdd, Nat.zero_add, Nat.zero_le, gCmp, gInt, hx2, c, mod_p (show 0 < m by omega), div_p (show 0 < m by omega) (show m < 1073741824 by omega), hn2, handD]
  · have hm2 : ∀ x : Int, gMod [.int x, .int 2147483647] = some (.val (.int (x % 2147483647))) := fun x => mod_p (by decide)
    have hm3 : ∀ x : Int, gMod [.int x, .int 2147483399] = some (.val (.int (x % 2147483399))) := fun x => mod_p (by decide)
    have hm4 : ∀ x : Int, gMod [.int x, .int 2147483629] = some (.val (.int (x % 2147483629))) := fun x => mod_p (by decide)
    have hd1 : ∀ x : Int, gDiv [.int x, .int 1103] = some (.val (.int (x / 1103))) := fun x => div_p (by decide) (by decide)
    have hd2 : ∀ x : Int, gDiv [.int x, .int 2311] = some (.val (.int (x / 2311))) := fun x => div_p (by decide) (by decide)
    have hd3 : ∀ x : Int, gDiv [.int x, .int 16] = some (.val (.int (x / 16))) := fun x => div_p (by decide) (by decide)
    have hp1 : ∀ x : Int, gMul4 [.int 7877, .int x] = some (.val (.int (7877 * x))) := fun x => mul_l (by decide)
    have hp2 : ∀ x : Int, gMul4 [.int x, .int 69621] = some (.val (.int (x * 69621))) := fun x => mul_r (by decide)
    have hp3 : ∀ x y : Int, gMul4 [.int (x % 2147483647), .int y] = some (.val (.int (x % 2147483647 * y))) := fun x y => mul_l (by have := Int.emod_nonneg x (show (2147483647 : Int) ≠ 0 by decide); have := Int.emod_lt_of_pos x (show (0 : Int) < 2147483647 by decide); omega)
    have hp4 : ∀ x y : Int, gMul4 [.int (x % 2147483399), .int y] = some (.val (.int (x % 2147483399 * y))) := fun x y => mul_l (by have := Int.emod_nonneg x (show (2147483399 : Int) ≠ 0 by decide); have := Int.emod_lt_of_pos x (show (0 : Int) < 2147483399 by decide); omega)
    have ex : ∃ (X : Int) (e : Fr), ((sSeq (sIf (sT (sB (gCmp fun i j => decide (i > j)) (aCons (aV (sB gIx (aCons (aP 0) (aCons (aV (sC (.int 2))) aNil)))) (aCons (aV (sC (.int 0))) aNil)))) (sSeq (sSet 3 (sB gMod (aCons (aV (sB gInt (aCons (aV (sB gIx (aCons (aP 0) (aCons (aV (sC (.int 2))) aNil)))) aNil))) (aCons (aP 1) aNil)))) (sSeq (sPut 0 (sC (.int 2)) (sB gDiv (aCons (aV (sB gIx (aCons (aP 0) (aCons (aV (sC (.int 2))) aNil)))) (aCons (aP 1) aNil)))) (sRet (sMove 3)))) sNx) (sSeq (sPut 0 (sC (.int 4)) (sB gAdd (aCons (aV (sB gIx (aCons (aP 0) (aCons (aV (sC (.int 4))) aNil)))) (aCons (aV (sC (.int 1))) aNil)))) (sSeq (sSet 4 (sB gMod (aCons (aV (sB gInt (aCons (aV (sB gMul4 (aCons (aV (sB gInt (aCons (aV (sB gAdd (aCons (aV (sB gIx (aCons (aP 0) (aCons (aV (sC (.int 3))) aNil)))) (aCons (aV (sB gMul4 (aCons (aV (sC (.int 7877))) (aCons (aV (sB gIx (aCons (aP 0) (aCons (aV (sC (.int 4))) aNil)))) aNil)))) aNil)))) aNil))) (aCons (aV (sC (.int 69621))) aNil)))) aNil))) (aCons (aV (sC (.int 2147483647))) aNil)))) (sSeq (sSet 4 (sB gMod (aCons (aV (sB gInt (aCons (aV (sB gMul4 (aCons (aP 4) (aCons (aV (sB gAdd (aCons (aV (sB gDiv (aCons (aP 4) (aCons (aV (sC (.int 1103))) aNil)))) (aCons (aV (sC (.int 40692))) aNil)))) aNil)))) aNil))) (aCons (aV (sC (.int 2147483399))) aNil)))) (sSeq (sSet 4 (sB gMod (aCons (aV (sB gInt (aCons (aV (sB gMul4 (aCons (aP 4) (aCons (aV (sB gAdd (aCons (aV (sB gDiv (aCons (aP 4) (aCons (aV (sC (.int 2311))) aNil)))) (aCons (aV (sC (.int 48271))) aNil)))) aNil)))) aNil))) (aCons (aV (sC (.int 2147483629))) aNil)))) (sRet (sB gMod (aCons (aV (sB gInt (aCons (aV (sB gDiv (aCons (aP 4) (aCons (aV (sC (.int 16))) aNil)))) aNil))) (aCons (aP 1) aNil)))))))))) [some (.own true [.lst (cs.map .int), .int a, .int b, .int s, .int n]), some (.val (.int m)), o, none, none] = .rt (.val (.int (X % m))) (some (.own true (handD cs a b s (n + 1))) :: some (.val (.int m)) :: e) := by
      simp only [sSeq, sNx, sIf, sRet, sRetN, sSet, sDo, sB, aCons, aV, aP, aNil, sC, sVar, sMove, sT, sAnd, sOr, sNot, sAndV, sOrV, sNotV, sIfE, sChain, sTup, sLst, sDic0, sSl, sPt, sNo, sCall, sCallL, sPut, sAug, sMeth, isOwn, free, Out.bind, Out.bs, SO.then, List.getElem?_cons_zero, List.getElem?_cons_succ, List.set_cons_zero, List.set_cons_succ, lookA, look, Wd.dat, Wd.lent, Wd.mut, avD, Option.map, List.map, closeR, outs_nil, outs_val, outs_own, if_true, if_false, Bool.false_eq_true, reduceIte, Bool.not_true, Bool.not_false, Bool.not_not, and_self, and_true, true_and, List.length_nil, List.length_cons, Nat.reduceLeDiff, Nat.reduceAdd, Nat.zero_add, Nat.zero_le, gCmp, gInt, gAdd, hx2, hx3, hx4, c, hm2, hm3, hm4, hd1, hd2, hd3, hp1, hp2, hp3, hp4, mod_p (show 0 < m by omega), hn4, handD]
      exact ⟨_, _, rfl⟩
    obtain ⟨X, e, ex⟩ := ex
    exact ⟨X % m, handD cs a b s (n + 1), e, Int.emod_nonneg _ (by omega), Int.emod_lt_of_pos _ (by omega), ⟨cs, a, b, s, n + 1, rfl, ha, hb, hc⟩, ex⟩
theorem cell_at {cs : List Int} {a : Int} (h0 : 0 ≤ a) (h1 : a < (cs.length : Int)) : ∃ c, c ∈ cs ∧ gIx [.lst (cs.map .int), .int a] = some (.val (.int c)) := by
  have hl : a.toNat < cs.length := by omega
  exact ⟨cs[a.toNat], List.getElem_mem _, ix_lst h0 (by rw [List.getElem?_map, List.getElem?_eq_getElem hl]; rfl)⟩
theorem t_draw {h : List D} (hh : HandOk h) {m : Int} (h1 : 1 ≤ m) (h2 : m < 1000) : ∃ (k : Int) (h' : List D), 0 ≤ k ∧ k < m ∧ HandOk h' ∧
    g__law_draw [.own true h, .val (.int m)] = .ret (.val (.int k)) [.own true h', .val (.int m)] := by
  have fin : ∀ (h' : List D) (o : Option Wd), HandOk h' → (∀ e, b__law_draw e = ((sSeq (sIf (sT (sB (gCmp fun i j => decide (i > j)) (aCons (aV (sB gIx (aCons (aP 0) (aCons (aV (sC (.int 2))) aNil)))) (aCons (aV (sC (.int 0))) aNil)))) (sSeq (sSet 3 (sB gMod (aCons (aV (sB gInt (aCons (aV (sB gIx (aCons (aP 0) (aCons (aV (sC (.int 2))) aNil)))) aNil))) (aCons (aP 1) aNil)))) (sSeq (sPut 0 (sC (.int 2)) (sB gDiv (aCons (aV (sB gIx (aCons (aP 0) (aCons (aV (sC (.int 2))) aNil)))) (aCons (aP 1) aNil)))) (sRet (sMove 3)))) sNx) (sSeq (sPut 0 (sC (.int 4)) (sB gAdd (aCons (aV (sB gIx (aCons (aP 0) (aCons (aV (sC (.int 4))) aNil)))) (aCons (aV (sC (.int 1))) aNil)))) (sSeq (sSet 4 (sB gMod (aCons (aV (sB gInt (aCons (aV (sB gMul4 (aCons (aV (sB gInt (aCons (aV (sB gAdd (aCons (aV (sB gIx (aCons (aP 0) (aCons (aV (sC (.int 3))) aNil)))) (aCons (aV (sB gMul4 (aCons (aV (sC (.int 7877))) (aCons (aV (sB gIx (aCons (aP 0) (aCons (aV (sC (.int 4))) aNil)))) aNil)))) aNil)))) aNil))) (aCons (aV (sC (.int 69621))) aNil)))) aNil))) (aCons (aV (sC (.int 2147483647))) aNil)))) (sSeq (sSet 4 (sB gMod (aCons (aV (sB gInt (aCons (aV (sB gMul4 (aCons (aP 4) (aCons (aV (sB gAdd (aCons (aV (sB gDiv (aCons (aP 4) (aCons (aV (sC (.int 1103))) aNil)))) (aCons (aV (sC (.int 40692))) aNil)))) aNil)))) aNil))) (aCons (aV (sC (.int 2147483399))) aNil)))) (sSeq (sSet 4 (sB gMod (aCons (aV (sB gInt (aCons (aV (sB gMul4 (aCons (aP 4) (aCons (aV (sB gAdd (aCons (aV (sB gDiv (aCons (aP 4) (aCons (aV (sC (.int 2311))) aNil)))) (aCons (aV (sC (.int 48271))) aNil)))) aNil)))) aNil))) (aCons (aV (sC (.int 2147483629))) aNil)))) (sRet (sB gMod (aCons (aV (sB gInt (aCons (aV (sB gDiv (aCons (aP 4) (aCons (aV (sC (.int 16))) aNil)))) aNil))) (aCons (aP 1) aNil)))))))))) [some (.own true h'), some (.val (.int m)), o, none, none] → e = [some (.own true h), some (.val (.int m)), none, none, none] → ∃ (k : Int) (h' : List D), 0 ≤ k ∧ k < m ∧ HandOk h' ∧
    g__law_draw [.own true h, .val (.int m)] = .ret (.val (.int k)) [.own true h', .val (.int m)]) := by
    rintro h' o ho _ e rfl
    obtain ⟨k, h2, e2, a, b, c, d⟩ := draw_tail ho h1 h2 (o := o)
    refine ⟨k, h2, a, b, c, ?_⟩
    rw [v__law_draw, e, d]
    rfl
  obtain ⟨cs, a, b, s, n, rfl, ha, hb, hc⟩ := id hh
  have hp1 : ∀ x : Int, gMul4 [.int x, .int 48271] = some (.val (.int (x * 48271))) := fun x => mul_r (by decide)
  have hp2 : ∀ x : Int, gMul4 [.int x, .int 5] = some (.val (.int (x * 5))) := fun x => mul_r (by decide)
  have hm2 : ∀ x : Int, gMod [.int x, .int 2147483587] = some (.val (.int (x % 2147483587))) := fun x => mod_p (by decide)
  have hl : gLen [.lst (cs.map D.int)] = some (.val (.int cs.length)) := by
    show some (Wd.val (.int ((cs.map D.int).length : Int))) = _
    rw [List.length_map]
  rcases tf (decide (b = 0)) with c0 | c0
  · rcases tf (decide (a < (cs.length : Int))) with c1 | c1
    · obtain ⟨x, hx, gx⟩ := cell_at ha (of_decide_eq_true c1)
      rcases tf (decide (x ≥ 1000000000000000000)) with c2 | c2
      · refine fin (handD cs (a + 1) x ((s * 48271 + x * 5 + 29) % 2147483587) n) (some (.val (.int x))) ⟨cs, _, _, _, _, rfl, by omega, hc x hx, hc⟩ _ ?_ rfl
        simp only [b__law_draw, sSeq, sNx, sIf, sRet, sRetN, sSet, sDo, sB, aCons, aV, aP, aNil, sC, sVar, sMove, sT, sAnd, sOr, sNot, sAndV, sOrV, sNotV, sIfE, sChain, sTup, sLst, sDic0, sSl, sPt, sNo, sCall, sCallL, sPut, sAug, sMeth, isOwn, free, Out.bind, Out.bs, SO.then, List.getElem?_cons_zero, List.getElem?_cons_succ, List.set_cons_zero, List.set_cons_succ, lookA, look, Wd.dat, Wd.lent, Wd.mut, avD, Option.map, List.map, closeR, outs_nil, outs_val, outs_own, if_true, if_false, Bool.false_eq_true, reduceIte, Bool.not_true, Bool.not_false, Bool.not_not, and_self, and_true, true_and, List.length_nil, List.length_cons, Nat.reduceLeDiff, Nat.reduceAdd, Nat.zero_add, Nat.zero_le, handD, gAdd, gCmp, gInt, hx0, hx1, hx2, hx3, hl, eq_int, c0, c1, c2, gx, hn1, hn2, hn3, hp1, hp2, hm2, ten18']
      · refine fin (handD cs (a + 1) 0 ((s * 48271 + x * 5 + 29) % 2147483587) n) (some (.val (.int x))) ⟨cs, _, _, _, _, rfl, by omega, by decide, hc⟩ _ ?_ rfl
        simp only [b__law_draw, sSeq, sNx, sIf, sRet, sRetN, sSet, sDo, sB, aCons, aV, aP, aNil, sC, sVar, sMove, sT, sAnd, sOr, sNot, sAndV, sOrV, sNotV, sIfE, sChain, sTup, sLst, sDic0, sSl, sPt, sNo, sCall, sCallL, sPut, sAug, sMeth, isOwn, free, Out.bind, Out.bs, SO.then, List.getElem?_cons_zero, List.getElem?_cons_succ, List.set_cons_zero, List.set_cons_succ, lookA, look, Wd.dat, Wd.lent, Wd.mut, avD, Option.map, List.map, closeR, outs_nil, outs_val, outs_own, if_true, if_false, Bool.false_eq_true, reduceIte, Bool.not_true, Bool.not_false, Bool.not_not, and_self, and_true, true_and, List.length_nil, List.length_cons, Nat.reduceLeDiff, Nat.reduceAdd, Nat.zero_add, Nat.zero_le, handD, gAdd, gCmp, gInt, hx0, hx1, hx2, hx3, hl, eq_int, c0, c1, c2, gx, hn1, hn2, hn3, hp1, hp2, hm2, ten18']
    · refine fin (handD cs a b s n) none hh _ ?_ rfl
      simp only [b__law_draw, sSeq, sNx, sIf, sRet, sRetN, sSet, sDo, sB, aCons, aV, aP, aNil, sC, sVar, sMove, sT, sAnd, sOr, sNot, sAndV, sOrV, sNotV, sIfE, sChain, sTup, sLst, sDic0, sSl, sPt, sNo, sCall, sCallL, sPut, sAug, sMeth, isOwn, free, Out.bind, Out.bs, SO.then, List.getElem?_cons_zero, List.getElem?_cons_succ, List.set_cons_zero, List.set_cons_succ, lookA, look, Wd.dat, Wd.lent, Wd.mut, avD, Option.map, List.map, closeR, outs_nil, outs_val, outs_own, if_true, if_false, Bool.false_eq_true, reduceIte, Bool.not_true, Bool.not_false, Bool.not_not, and_self, and_true, true_and, List.length_nil, List.length_cons, Nat.reduceLeDiff, Nat.reduceAdd, Nat.zero_add, Nat.zero_le, handD, gCmp, hx0, hx1, hx2, hl, eq_int, c0, c1]
  · refine fin (handD cs a b s n) none hh _ ?_ rfl
    simp only [b__law_draw, sSeq, sNx, sIf, sRet, sRetN, sSet, sDo, sB, aCons, aV, aP, aNil, sC, sVar, sMove, sT, sAnd, sOr, sNot, sAndV, sOrV, sNotV, sIfE, sChain, sTup, sLst, sDic0, sSl, sPt, sNo, sCall, sCallL, sPut, sAug, sMeth, isOwn, free, Out.bind, Out.bs, SO.then, List.getElem?_cons_zero, List.getElem?_cons_succ, List.set_cons_zero, List.set_cons_succ, lookA, look, Wd.dat, Wd.lent, Wd.mut, avD, Option.map, List.map, closeR, outs_nil, outs_val, outs_own, if_true, if_false, Bool.false_eq_true, reduceIte, Bool.not_true, Bool.not_false, Bool.not_not, and_self, and_true, true_and, List.length_nil, List.length_cons, Nat.reduceLeDiff, Nat.reduceAdd, Nat.zero_add, Nat.zero_le, handD, gCmp, hx0, hx1, hx2, hl, eq_int, c0]
theorem t_some {h : List D} (hh : HandOk h) {ds : List D} (h1 : 1 ≤ ds.length) (h2 : ds.length < 1000) : ∃ (d : D) (h' : List D), d ∈ ds ∧ HandOk h' ∧
    g__law_some [.own true h, .val (.lst ds)] = .ret (.val d) [.own true h', .val (.lst ds)] := by
  obtain ⟨k, h', k0, k1, ho, e⟩ := t_draw hh (m := (ds.length : Int)) (by omega) (by omega)
  have hk : k.toNat < ds.length := by omega
  refine ⟨ds[k.toNat], h', List.getElem_mem _, ho, ?_⟩
  have gx : gIx [.lst ds, .int k] = some (.val ds[k.toNat]) := ix_lst k0 (List.getElem?_eq_getElem hk)
  rw [v__law_some]
  simp only [b__law_some, sSeq, sNx, sIf, sRet, sRetN, sSet, sDo, sB, aCons, aV, aP, aNil, sC, sVar, sMove, sT, sAnd, sOr, sNot, sAndV, sOrV, sNotV, sIfE, sChain, sTup, sLst, sDic0, sSl, sPt, sNo, sCall, sCallL, sPut, sAug, sMeth, isOwn, free, Out.bind, Out.bs, SO.then, List.getElem?_cons_zero, List.getElem?_cons_succ, List.set_cons_zero, List.set_cons_succ, lookA, look, Wd.dat, Wd.lent, Wd.mut, avD, Option.map, List.map, closeR, outs_nil, outs_val, outs_own, if_true, if_false, Bool.false_eq_true, reduceIte, Bool.not_true, Bool.not_false, Bool.not_not, and_self, and_true, true_and, List.length_nil, List.length_cons, Nat.reduceLeDiff, Nat.reduceAdd, Nat.zero_add, Nat.zero_le, add_int, Fd.gSub, gNeg, gCmp, gLen, abs_int, gInt, gTuple, gList, gRev, gIAdd, e, gx]
end K27

namespace K27
open PySem Fd
theorem rd_rd : ∀ {w : List Int}, Wo.Rd w → Ta.Rd w
  | [], _ => trivial
  | [_], _ => trivial
  | _ :: y :: t, h => ⟨h.1, rd_rd (w := y :: t) h.2⟩
theorem ix_lastT {ds : List D} {d : D} : gIx [.tup (ds ++ [d]), .int (-1)] = some (.val d) := by
  show (L2.atI (ds ++ [d]) (-1)).map Wd.val = _
  rw [atI_neg (j := ds.length) (by decide) (by simp; omega) (by simp)]
  simp
theorem sl_init {ds : List D} {d : D} : gSl (.tup (ds ++ [d])) none (some (-1)) = some (.val (.tup ds)) := by
  show some (Wd.val (.tup (gSl.cutV2 (ds ++ [d]) none (some (-1))))) = _
  rw [sl_cut]
  have e1 : ∀ n : Nat, HT.sIx n n (some (-1)) = (-1 + (n : Int)).toNat := fun n => by
    show (if (-1 : Int) < 0 then ((-1 : Int) + (n : Int)).toNat else min (-1 : Int).toNat n) = _
    rw [if_pos (by decide)]
  have e2 : ∀ n : Nat, HT.sIx n 0 none = 0 := fun n => rfl
  rw [e1, e2]
  have : (-1 + ((ds ++ [d]).length : Int)).toNat = ds.length := by simp; omega
  rw [this]
  simp
/-- letters of a rank -/
def lets (r : Int) (w : List Int) : Prop := ∀ x ∈ w, x ≠ 0 ∧ -r ≤ x ∧ x ≤ r
theorem push_mem {s : List Int} {x y : Int} (h : y ∈ Wo.push s x) : y ∈ s ∨ y = x := by
  cases s with
  | nil => simp [Wo.push] at h; exact .inr h
  | cons z t =>
    simp only [Wo.push] at h
    split at h
    · exact .inl (List.mem_cons_of_mem _ h)
    · rcases List.mem_cons.mp h with q | q
      · exact .inr q
      · exact .inl q
theorem push_len (s : List Int) (x : Int) : (Wo.push s x).length ≤ s.length + 1 := by
  cases s with
  | nil => simp [Wo.push]
  | cons z t => simp only [Wo.push]; split <;> simp <;> omega
theorem word_turn {hd hd2 hd3 : List D} {r m : Int} {s : List Int} {x : D} {k l : Int} {o5 : Option Wd} (hl : s.length ≤ 1000) (p5 : plainO o5 = true) (e1 : g__law_draw [.own true hd, .val (.int r)] = .ret (.val (.int k)) [.own true hd2, .val (.int r)])
    (e2 : g__law_draw [.own true hd2, .val (.int 2)] = .ret (.val (.int l)) [.own true hd3, .val (.int 2)]) (k0 : 0 ≤ k ∧ k < 1000) (l0 : l = 0 ∨ l = 1) :
    ((sSeq (sSet 5 (sB gMul4 (aCons (aV (sB gAdd (aCons (aV (sC (.int 1))) (aCons (aV (sCallL g__law_draw (aCons (aP 0) (aCons (aV (sVar 1)) aNil)))) aNil)))) (aCons (aV (sB gSub (aCons (aV (sC (.int 1))) (aCons (aV (sB gMul4 (aCons (aV (sC (.int 2))) (aCons (aV (sCallL g__law_draw (aCons (aP 0) (aCons (aV (sC (.int 2))) aNil)))) aNil)))) aNil)))) aNil)))) (sSet 3 (sIfE (sAnd (sT (sB (gCmp fun i j => decide (i > j)) (aCons (aV (sB gLen (aCons (aP 3) aNil))) (aCons (aV (sC (.int 0))) aNil)))) (sT (sB gEq (aCons (aV (sB gIx (aCons (aP 3) (aCons (aV (sB gNeg (aCons (aV (sC (.int 1))) aNil))) aNil)))) (aCons (aV (sB gSub (aCons (aV (sC (.int 0))) (aCons (aP 5) aNil)))) aNil))))) (sSl gSl (aP 3) sNo (sPt (sB gNeg (aCons (aV (sC (.int 1))) aNil)))) (sB gAdd (aCons (aP 3) (aCons (aV (sTup (aCons (aV (sVar 5)) aNil))) aNil))))))) [some (.own true hd), some (.val (.int r)), some (.val (.int m)), some (.val (.tup (s.reverse.map .int))), some (.val x), o5] = .nx [some (.own true hd3), some (.val (.int r)), some (.val (.int m)), some (.val (.tup ((Wo.push s ((1 + k) * (1 - 2 * l))).reverse.map .int))), some (.val x), some (.val (.int ((1 + k) * (1 - 2 * l))))] := by
  have m1 : gMul4 [.int 2, .int l] = some (.val (.int (2 * l))) := mul_l (by decide)
  have m2 : gMul4 [.int (1 + k), .int (1 - 2 * l)] = some (.val (.int ((1 + k) * (1 - 2 * l)))) := mul_l (by omega)
  generalize hz : (1 + k) * (1 - 2 * l) = z at m2
  have z0 : (0 : Int) - z = -z := by omega
  cases s with
  | nil =>
    have a1 := add_tup (a := []) (b := [D.int z]) (by simp)
    rcases plain_cases p5 with rfl | ⟨d5, rfl⟩ <;> simp only [sSeq, sNx, sIf, sRet, sRetN, sSet, sDo, sB, aCons, aV, aP, aNil, sC, sVar, sMove, sT, sAnd, sOr, sNot, sAndV, sOrV, sNotV, sIfE, sChain, sTup, sLst, sDic0, sSl, sPt, sNo, sCall, sCallL, sPut, sAug, sMeth, isOwn, free, Out.bind, Out.bs, SO.then, List.getElem?_cons_zero, List.getElem?_cons_succ, List.set_cons_zero, List.set_cons_succ, lookA, look, Wd.dat, Wd.lent, Wd.mut, avD, Option.map, List.map, closeR, outs_nil, outs_val, outs_own, if_true, if_false, Bool.false_eq_true, reduceIte, Bool.not_true, Bool.not_false, Bool.not_not, and_self, and_true, true_and, List.length_nil, List.length_cons, Nat.reduceLeDiff, Nat.reduceAdd, Nat.zero_add, Nat.zero_le, add_int, Fd.gSub, gNeg, gCmp, gLen, abs_int, gInt, gTuple, gList, gRev, gIAdd, e1, e2, m1, m2, List.reverse_nil, Wo.push, a1, List.nil_append, List.reverse_cons] <;> rfl
  | cons y t =>
    have hm : (y :: t).reverse.map D.int = t.reverse.map D.int ++ [.int y] := by simp
    have lx : gIx [.tup ((y :: t).reverse.map D.int), .int (-1)] = some (.val (.int y)) := by rw [hm]; exact ix_lastT
    have sx : gSl (.tup ((y :: t).reverse.map D.int)) none (some (-1)) = some (.val (.tup (t.reverse.map D.int))) := by rw [hm]; exact sl_init
    have l1 : decide ((((y :: t).reverse.map D.int).length : Int) > 0) = true := by simp
    have ax := add_tup (a := (y :: t).reverse.map D.int) (b := [D.int z]) (by simp at hl ⊢; omega)
    by_cases hy : y = -z
    · have hd : decide (y = 0 - z) = true := by simp; omega
      have hq : Wo.push (y :: t) z = t := by simp [Wo.push, hy]
      rw [hq]
      rcases plain_cases p5 with rfl | ⟨d5, rfl⟩ <;> simp only [sSeq, sNx, sIf, sRet, sRetN, sSet, sDo, sB, aCons, aV, aP, aNil, sC, sVar, sMove, sT, sAnd, sOr, sNot, sAndV, sOrV, sNotV, sIfE, sChain, sTup, sLst, sDic0, sSl, sPt, sNo, sCall, sCallL, sPut, sAug, sMeth, isOwn, free, Out.bind, Out.bs, SO.then, List.getElem?_cons_zero, List.getElem?_cons_succ, List.set_cons_zero, List.set_cons_succ, lookA, look, Wd.dat, Wd.lent, Wd.mut, avD, Option.map, List.map, closeR, outs_nil, outs_val, outs_own, if_true, if_false, Bool.false_eq_true, reduceIte, Bool.not_true, Bool.not_false, Bool.not_not, and_self, and_true, true_and, List.length_nil, List.length_cons, Nat.reduceLeDiff, Nat.reduceAdd, Nat.zero_add, Nat.zero_le, add_int, Fd.gSub, gNeg, gCmp, gLen, abs_int, gInt, gTuple, gList, gRev, gIAdd, e1, e2, m1, m2, lx, sx, l1, eq_int, hd]
    · have hd : decide (y = 0 - z) = false := by simp; omega
      have hq : (Wo.push (y :: t) z).reverse.map D.int = (y :: t).reverse.map D.int ++ [.int z] := by simp [Wo.push, hy]
      rw [hq]
      rcases plain_cases p5 with rfl | ⟨d5, rfl⟩ <;> simp only [sSeq, sNx, sIf, sRet, sRetN, sSet, sDo, sB, aCons, aV, aP, aNil, sC, sVar, sMove, sT, sAnd, sOr, sNot, sAndV, sOrV, sNotV, sIfE, sChain, sTup, sLst, sDic0, sSl, sPt, sNo, sCall, sCallL, sPut, sAug, sMeth, isOwn, free, Out.bind, Out.bs, SO.then, List.getElem?_cons_zero, List.getElem?_cons_succ, List.set_cons_zero, List.set_cons_succ, lookA, look, Wd.dat, Wd.lent, Wd.mut, avD, Option.map, List.map, closeR, outs_nil, outs_val, outs_own, if_true, if_false, Bool.false_eq_true, reduceIte, Bool.not_true, Bool.not_false, Bool.not_not, and_self, and_true, true_and, List.length_nil, List.length_cons, Nat.reduceLeDiff, Nat.reduceAdd, Nat.zero_add, Nat.zero_le, add_int, Fd.gSub, gNeg, gCmp, gLen, abs_int, gInt, gTuple, gList, gRev, gIAdd, e1, e2, m1, m2, lx, sx, l1, eq_int, hd, ax]
end K27

namespace K27
open PySem Fd
structure WOk (m : Int) (w : List Int) : Prop where
  le : ∀ y ∈ w, Ta.isL y
  rd : Wo.Rd w
  ln : (w.length : Int) ≤ m
theorem t__law_word {h : List D} (hh : HandOk h) {m : Int} (hm : 0 ≤ m ∧ m < 900) : ∃ (w : List Int) (h' : List D), WOk m w ∧ HandOk h' ∧
    g__law_word [.own true h, .val (.int 2), .val (.int m)] = .ret (.val (tI w)) [.own true h', .val (.int 2), .val (.int m)] := by
  obtain ⟨n, h1, n0, n1, ho1, e1⟩ := t_draw hh (m := m + 1) (by omega) (by omega)
  have lp := loop_inv (enc := fun k : Nat => D.int (k : Int)) (tg := .nm 4) (body := (sSeq (sSet 5 (sB gMul4 (aCons (aV (sB gAdd (aCons (aV (sC (.int 1))) (aCons (aV (sCallL g__law_draw (aCons (aP 0) (aCons (aV (sVar 1)) aNil)))) aNil)))) (aCons (aV (sB gSub (aCons (aV (sC (.int 1))) (aCons (aV (sB gMul4 (aCons (aV (sC (.int 2))) (aCons (aV (sCallL g__law_draw (aCons (aP 0) (aCons (aV (sC (.int 2))) aNil)))) aNil)))) aNil)))) aNil)))) (sSet 3 (sIfE (sAnd (sT (sB (gCmp fun i j => decide (i > j)) (aCons (aV (sB gLen (aCons (aP 3) aNil))) (aCons (aV (sC (.int 0))) aNil)))) (sT (sB gEq (aCons (aV (sB gIx (aCons (aP 3) (aCons (aV (sB gNeg (aCons (aV (sC (.int 1))) aNil))) aNil)))) (aCons (aV (sB gSub (aCons (aV (sC (.int 0))) (aCons (aP 5) aNil)))) aNil))))) (sSl gSl (aP 3) sNo (sPt (sB gNeg (aCons (aV (sC (.int 1))) aNil)))) (sB gAdd (aCons (aP 3) (aCons (aV (sTup (aCons (aV (sVar 5)) aNil))) aNil)))))))
    (List.range n.toNat) (fun i e => ∃ (s : List Int) (h' : List D) (o4 o5 : Option Wd), (∀ y ∈ s, Ta.isL y) ∧ Wo.Rd s ∧ s.length ≤ i ∧ HandOk h' ∧ plainO o4 = true ∧ plainO o5 = true ∧ e = [some (.own true h'), some (.val (.int 2)), some (.val (.int m)), some (.val (.tup (s.reverse.map .int))), o4, o5]) 0 ?_
    [some (.own true h1), some (.val (.int 2)), some (.val (.int m)), some (.val (.tup [])), none, none] ⟨[], h1, none, none, fun y hy => (by cases hy), trivial, Nat.le_refl _, ho1, rfl, rfl, rfl⟩
  · obtain ⟨e', f1, s, h', o4, o5, hl, hr, hn, ho, _, _, rfl⟩ := lp
    rw [Nat.zero_add, List.length_range] at hn
    refine ⟨s.reverse, h', ⟨fun y hy => hl y (List.mem_reverse.mp hy), hr.rev, by rw [List.length_reverse]; omega⟩, ho, ?_⟩
    rw [v__law_word]
    have hb : (-(2 ^ 62) ≤ n ∧ n < 2 ^ 62) = True := by simp; omega
    simp only [b__law_word, sSeq, sNx, sIf, sRet, sRetN, sSet, sDo, sB, aCons, aV, aP, aNil, sC, sVar, sMove, sT, sAnd, sOr, sNot, sAndV, sOrV, sNotV, sIfE, sChain, sTup, sLst, sDic0, sSl, sPt, sNo, sCall, sCallL, sPut, sAug, sMeth, isOwn, free, Out.bind, Out.bs, SO.then, List.getElem?_cons_zero, List.getElem?_cons_succ, List.set_cons_zero, List.set_cons_succ, lookA, look, Wd.dat, Wd.lent, Wd.mut, avD, Option.map, List.map, closeR, outs_nil, outs_val, outs_own, if_true, if_false, Bool.false_eq_true, reduceIte, Bool.not_true, Bool.not_false, Bool.not_not, and_self, and_true, true_and, List.length_nil, List.length_cons, Nat.reduceLeDiff, Nat.reduceAdd, Nat.zero_add, Nat.zero_le, add_int, Fd.gSub, gNeg, gCmp, gLen, abs_int, gInt, gTuple, gList, gRev, gIAdd, sFor, e1, sRange1, hb, range_map, f1]
  · rintro i x e hx ⟨s, h', o4, o5, hl, hr, hn, ho, p4, p5, rfl⟩
    rw [Nat.zero_add] at *
    have hi : i < n.toNat := by have := (List.getElem?_eq_some_iff.mp hx).1; simpa using this
    obtain ⟨k, h2, k0, k1, ho2, e2⟩ := t_draw ho (m := 2) (by decide) (by decide)
    obtain ⟨l, h3, l0, l1, ho3, e3⟩ := t_draw ho2 (m := 2) (by decide) (by decide)
    have hl01 : l = 0 ∨ l = 1 := by omega
    have hz : Ta.isL ((1 + k) * (1 - 2 * l)) := by
      have : k = 0 ∨ k = 1 := by omega
      unfold Ta.isL
      rcases this with rfl | rfl <;> rcases hl01 with rfl | rfl <;> decide
    refine ⟨_, _, put_nm (by rfl) p4, .inl (word_turn (by omega) p5 e2 e3 (by omega) hl01), Wo.push s ((1 + k) * (1 - 2 * l)), h3, _, _, fun y hy => (push_mem hy).elim (hl y) (fun q => q ▸ hz), Wo.rd_push hr _, by have := push_len s ((1 + k) * (1 - 2 * l)); omega, ho3, ?_, ?_, rfl⟩
    · rfl
    · rfl
theorem WOk.word {m : Int} {w : List Int} (h : WOk m w) {k : Int} (hk : m ≤ k) : wordOk 2 k (tI w) = true := by
  have ha : (w.map D.int).all (letter 2) = true := by
    rw [List.all_eq_true]
    intro d hd
    obtain ⟨x, hx, rfl⟩ := List.mem_map.mp hd
    have := h.le x hx
    unfold Ta.isL at this
    simp [letter]
    omega
  have hb : tupIn 0 k (.tup (w.map .int)) = true := by have := h.ln; simp [tupIn]; omega
  have adj_rd : ∀ w : List Int, Wo.Rd w → adj w = false := by
    intro w
    induction w with
    | nil => exact fun _ => rfl
    | cons x w ih =>
      cases w with
      | nil => exact fun _ => rfl
      | cons y t =>
        intro q
        have e : adj (x :: y :: t) = (decide (x = -y) || adj (y :: t)) := rfl
        rw [e, ih q.2]
        simp [q.1]
  have um : (w.map D.int).map unI = w := by
    rw [List.map_map]
    conv => rhs; rw [← List.map_id w]
    rfl
  unfold wordOk row
  simp only [tI, ha, hb, um, adj_rd w h.rd]
  rfl
/-- the law's own tables by letters -/
abbrev tbls : D := .dic (mergeD [] [(.inl 1, tT ⟨1, 2, 0, 1⟩), (.inl (-1), tT ⟨1, -2, 0, 1⟩), (.inl 2, tT ⟨1, 0, 2, 1⟩), (.inl (-2), tT ⟨1, 0, -2, 1⟩)])
theorem dix {x : Int} (h : Ta.isL x) : gDix [tbls, .int x] = some (vT (Ta.ge x)) := by
  rcases h with rfl | rfl | rfl | rfl <;> rfl
theorem t__law_table {w : List Int} (h : ∀ y ∈ w, Ta.isL y) (hl : w.length ≤ 30) : g__law_table [.val (tI w)] = .ret (vT (Ta.tab w)) [.val (tI w)] := by
  rw [v__law_table]
  have lp := loop_inv (enc := D.int) (tg := .nm 3) (body := (sSet 2 (sCall g__law_times (aCons (aV (sVar 2)) (aCons (aV (sB gDix (aCons (aP 1) (aCons (aP 3) aNil)))) aNil)))))
    w (fun i e => ∃ o, plainO o = true ∧ e = [some (.val (tI w)), some (.ownK false (mergeD [] [(.inl 1, tT ⟨1, 2, 0, 1⟩), (.inl (-1), tT ⟨1, -2, 0, 1⟩), (.inl 2, tT ⟨1, 0, 2, 1⟩), (.inl (-2), tT ⟨1, 0, -2, 1⟩)])), some (vT (Ta.tab (w.take i))), o]) 0 ?_
    [some (.val (tI w)), some (.ownK false (mergeD [] [(.inl 1, tT ⟨1, 2, 0, 1⟩), (.inl (-1), tT ⟨1, -2, 0, 1⟩), (.inl 2, tT ⟨1, 0, 2, 1⟩), (.inl (-2), tT ⟨1, 0, -2, 1⟩)])), some (vT Ta.one), none] ⟨none, rfl, rfl⟩
  · obtain ⟨e', h1, o, ho, rfl⟩ := lp
    rw [Nat.zero_add, List.take_length] at h1
    simp only [vT, tT, Ta.one] at h1
    have ng : ∀ i : Int, gNeg [.int i] = some (.val (.int (-i))) := fun _ => rfl
    simp only [b__law_table, sSeq, sNx, sIf, sRet, sRetN, sSet, sDo, sB, aCons, aV, aP, aNil, sC, sVar, sMove, sT, sAnd, sOr, sNot, sAndV, sOrV, sNotV, sIfE, sChain, sTup, sLst, sDic0, sSl, sPt, sNo, sCall, sCallL, sPut, sAug, sMeth, isOwn, free, Out.bind, Out.bs, SO.then, List.getElem?_cons_zero, List.getElem?_cons_succ, List.set_cons_zero, List.set_cons_succ, lookA, look, Wd.dat, Wd.lent, Wd.mut, avD, Option.map, List.map, closeR, outs_nil, outs_val, outs_own, if_true, if_false, Bool.false_eq_true, reduceIte, Bool.not_true, Bool.not_false, Bool.not_not, and_self, and_true, true_and, List.length_nil, List.length_cons, Nat.reduceLeDiff, Nat.reduceAdd, Nat.zero_add, Nat.zero_le, sDisp, pCons, pNil, ng, keysD, keyD, sFor, sSeqI, seqOf, h1]
  · rintro i x e hx ⟨o, ho, rfl⟩
    rw [Nat.zero_add] at *
    have hxl := h x (List.mem_of_getElem? hx)
    have hs : Ta.tab (w.take (i + 1)) = Ta.mul (Ta.tab (w.take i)) (Ta.ge x) := by
      rw [List.take_succ, hx, Ta.tab_app]
      show Ta.mul _ (Ta.mul Ta.one (Ta.ge x)) = _
      rw [Ta.one_mul]
    have hm : Sm (Ta.tab (w.take i)) := sm_pow (fun y hy => h y (List.mem_of_mem_take hy)) (by rw [List.length_take]; omega)
    have tt := t__law_times (n := Ta.ge x) hm
    have dx := dix hxl
    rw [hs]
    refine ⟨_, [some (.val (tI w)), some (.ownK false (mergeD [] [(.inl 1, tT ⟨1, 2, 0, 1⟩), (.inl (-1), tT ⟨1, -2, 0, 1⟩), (.inl 2, tT ⟨1, 0, 2, 1⟩), (.inl (-2), tT ⟨1, 0, -2, 1⟩)])), some (vT (Ta.mul (Ta.tab (w.take i)) (Ta.ge x))), some (.val (.int x))], put_nm (by rfl) ho, .inl ?_, some (.val (.int x)), rfl, rfl⟩
    simp only [sSeq, sNx, sIf, sRet, sRetN, sSet, sDo, sB, aCons, aV, aP, aNil, sC, sVar, sMove, sT, sAnd, sOr, sNot, sAndV, sOrV, sNotV, sIfE, sChain, sTup, sLst, sDic0, sSl, sPt, sNo, sCall, sCallL, sPut, sAug, sMeth, isOwn, free, Out.bind, Out.bs, SO.then, List.getElem?_cons_zero, List.getElem?_cons_succ, List.set_cons_zero, List.set_cons_succ, lookA, look, Wd.dat, Wd.lent, Wd.mut, avD, Option.map, List.map, closeR, outs_nil, outs_val, outs_own, if_true, if_false, Bool.false_eq_true, reduceIte, Bool.not_true, Bool.not_false, Bool.not_not, and_self, and_true, true_and, List.length_nil, List.length_cons, Nat.reduceLeDiff, Nat.reduceAdd, Nat.zero_add, Nat.zero_le, dx, tt]
end K27

namespace K27
open PySem Fd
theorem ge_back {x : Int} (h : Ta.isL x) : Ta.mul (Ta.ge (-x)) (Ta.ge x) = Ta.one := by
  rcases h with rfl | rfl | rfl | rfl <;> decide
theorem tab_one (x : Int) : Ta.tab [x] = Ta.ge x := by
  show Ta.mul Ta.one (Ta.ge x) = _
  rw [Ta.one_mul]
theorem tab_push (s : List Int) {x : Int} (h : Ta.isL x) : Ta.tab (Wo.push s x).reverse = Ta.mul (Ta.tab s.reverse) (Ta.ge x) := by
  cases s with
  | nil =>
    show Ta.tab [x] = _
    rw [tab_one]
    show _ = Ta.mul Ta.one _
    rw [Ta.one_mul]
  | cons y t =>
    by_cases q : y = -x
    · have : Wo.push (y :: t) x = t := by simp [Wo.push, q]
      rw [this, List.reverse_cons, Ta.tab_app, tab_one, q, Ta.mul_assoc, ge_back h, Ta.mul_one]
    · have : Wo.push (y :: t) x = x :: y :: t := by simp [Wo.push, q]
      rw [this, List.reverse_cons, Ta.tab_app, tab_one]
theorem tab_run : ∀ (w s : List Int), (∀ y ∈ w, Ta.isL y) → Ta.tab (Wo.run s w).reverse = Ta.mul (Ta.tab s.reverse) (Ta.tab w)
  | [], s, _ => (Ta.mul_one _).symm
  | x :: w, s, h => by
    rw [Wo.run_cons, tab_run w _ fun y hy => h y (List.mem_cons_of_mem _ hy), tab_push s (h x List.mem_cons_self), Ta.tab_cons, Ta.mul_assoc]
theorem tab_red {w : List Int} (h : ∀ y ∈ w, Ta.isL y) : Ta.tab (Wo.red w) = Ta.tab w := by
  unfold Wo.red
  rw [tab_run w [] h]
  exact Ta.one_mul _
theorem tab_join {a b : List Int} {m n : Int} (ha : WOk m a) (hb : WOk n b) : Ta.tab (Wo.joinL a b) = Ta.mul (Ta.tab a) (Ta.tab b) ∧ WOk (m + n) (Wo.joinL a b) := by
  have hl : ∀ y ∈ a ++ b, Ta.isL y := fun y hy => (List.mem_append.mp hy).elim (ha.le y) (hb.le y)
  rw [Wo.joinL_red ha.rd hb.rd]
  refine ⟨by rw [tab_red hl, Ta.tab_app], fun y hy => hl y (Wo.red_mem hy), Wo.rd_red _, ?_⟩
  have h1 := Wo.red_len (a ++ b)
  have h2 := ha.ln
  have h3 := hb.ln
  rw [List.length_append] at h1
  omega
theorem t_product {a b : List Int} {m n : Int} (ha : WOk m a) (hb : WOk n b) (hm : m ≤ 60) (hn : n ≤ 60) : g_product [.val (.int 2), .val (tI a), .val (tI b)] = .ret (.val (tI (Wo.joinL a b))) [.val (.int 2), .val (tI a), .val (tI b)] := by
  rw [v_product]
  have la := ha.ln
  have lb := hb.ln
  have q := t_check_words (r := 2) (by decide) (ds := [tI a, tI b]) (by simp) (fun d hd => by
    simp only [List.mem_cons, List.not_mem_nil, or_false] at hd
    rcases hd with rfl | rfl
    · exact deep_ints (by omega)
    · exact deep_ints (by omega)) (fun d hd => by
    simp only [List.mem_cons, List.not_mem_nil, or_false] at hd
    rcases hd with rfl | rfl
    · exact ha.word hm
    · exact hb.word hn)
  have j := t_joined a b (by omega) (by omega)
  simp only [b_product, sSeq, sNx, sIf, sRet, sRetN, sSet, sDo, sB, aCons, aV, aP, aNil, sC, sVar, sMove, sT, sAnd, sOr, sNot, sAndV, sOrV, sNotV, sIfE, sChain, sTup, sLst, sDic0, sSl, sPt, sNo, sCall, sCallL, sPut, sAug, sMeth, isOwn, free, Out.bind, Out.bs, SO.then, List.getElem?_cons_zero, List.getElem?_cons_succ, List.set_cons_zero, List.set_cons_succ, lookA, look, Wd.dat, Wd.lent, Wd.mut, avD, Option.map, List.map, closeR, outs_nil, outs_val, outs_own, if_true, if_false, Bool.false_eq_true, reduceIte, Bool.not_true, Bool.not_false, Bool.not_not, and_self, and_true, true_and, List.length_nil, List.length_cons, Nat.reduceLeDiff, Nat.reduceAdd, Nat.zero_add, Nat.zero_le, q, j]
/-! the drawn tables -/
theorem sz_mulR {m : Ta.T} {k : Int} (hk : -3 ≤ k ∧ k ≤ 3) : Ta.sz (Ta.mul m ⟨1, k, 0, 1⟩) ≤ 4 * Ta.sz m ∧ Ta.sz (Ta.mul m ⟨1, 0, k, 1⟩) ≤ 4 * Ta.sz m := by
  have t : ∀ r s : Int, Ta.ab (r * k + s) ≤ 3 * Ta.ab r + Ta.ab s ∧ Ta.ab (r + s * k) ≤ Ta.ab r + 3 * Ta.ab s := fun r s => by
    have h7 : k = -3 ∨ k = -2 ∨ k = -1 ∨ k = 0 ∨ k = 1 ∨ k = 2 ∨ k = 3 := by omega
    rcases h7 with rfl | rfl | rfl | rfl | rfl | rfl | rfl <;> (unfold Ta.ab; constructor <;> (repeat' split) <;> omega)
  obtain ⟨a, b, c, d⟩ := m
  have n1 := Ta.ab_nn a
  have n2 := Ta.ab_nn b
  have n3 := Ta.ab_nn c
  have n4 := Ta.ab_nn d
  have t1 := (t a b).1
  have t2 := (t c d).1
  have t3 := (t a b).2
  have t4 := (t c d).2
  constructor
  · have e : Ta.mul ⟨a, b, c, d⟩ ⟨1, k, 0, 1⟩ = ⟨a, a * k + b, c, c * k + d⟩ := by simp [Ta.mul]
    rw [e]
    show Ta.ab a + Ta.ab (a * k + b) + (Ta.ab c + Ta.ab (c * k + d)) ≤ 4 * (Ta.ab a + Ta.ab b + (Ta.ab c + Ta.ab d))
    omega
  · have e : Ta.mul ⟨a, b, c, d⟩ ⟨1, 0, k, 1⟩ = ⟨a + b * k, b, c + d * k, d⟩ := by simp [Ta.mul]
    rw [e]
    show Ta.ab (a + b * k) + Ta.ab b + (Ta.ab (c + d * k) + Ta.ab d) ≤ 4 * (Ta.ab a + Ta.ab b + (Ta.ab c + Ta.ab d))
    omega
theorem det_mul (m n : Ta.T) (hm : m.a * m.d - m.b * m.c = 1) (hn : n.a * n.d - n.b * n.c = 1) : (Ta.mul m n).a * (Ta.mul m n).d - (Ta.mul m n).b * (Ta.mul m n).c = 1 := by
  show (m.a * n.a + m.b * n.c) * (m.c * n.b + m.d * n.d) - (m.a * n.b + m.b * n.d) * (m.c * n.a + m.d * n.c) = 1
  grind
end K27

namespace K27
open PySem Fd
theorem pow4 {i : Nat} (h : i ≤ 4) : (4 : Int) ^ i ≤ 256 := by
  have : i = 0 ∨ i = 1 ∨ i = 2 ∨ i = 3 ∨ i = 4 := by omega
  rcases this with rfl | rfl | rfl | rfl | rfl <;> decide
theorem t__law_drawn {h : List D} (hh : HandOk h) : ∃ (m : Ta.T) (h' : List D), Ta.sz m ≤ 512 ∧ m.a * m.d - m.b * m.c = 1 ∧ HandOk h' ∧ g__law_drawn [.own true h] = .ret (vT m) [.own true h'] := by
  obtain ⟨n, h1, n0, n1, ho1, e1⟩ := t_draw hh (m := 4) (by decide) (by decide)
  have lp := loop_inv (enc := fun k : Nat => D.int (k : Int)) (tg := .nm 2) (body := (sSeq (sSet 3 (sB gSub (aCons (aV (sCallL g__law_draw (aCons (aP 0) (aCons (aV (sC (.int 7))) aNil)))) (aCons (aV (sC (.int 3))) aNil)))) (sSet 1 (sCall g__law_times (aCons (aV (sVar 1)) (aCons (aV (sIfE (sT (sB gEq (aCons (aV (sCallL g__law_draw (aCons (aP 0) (aCons (aV (sC (.int 2))) aNil)))) (aCons (aV (sC (.int 0))) aNil)))) (sTup (aCons (aV (sTup (aCons (aV (sC (.int 1))) (aCons (aV (sVar 3)) aNil)))) (aCons (aV (sTup (aCons (aV (sC (.int 0))) (aCons (aV (sC (.int 1))) aNil)))) aNil))) (sTup (aCons (aV (sTup (aCons (aV (sC (.int 1))) (aCons (aV (sC (.int 0))) aNil)))) (aCons (aV (sTup (aCons (aV (sVar 3)) (aCons (aV (sC (.int 1))) aNil)))) aNil))))) aNil))))))
    (List.range (1 + n).toNat) (fun i e => ∃ (m : Ta.T) (h' : List D) (o2 o3 : Option Wd), Ta.sz m ≤ 2 * 4 ^ i ∧ m.a * m.d - m.b * m.c = 1 ∧ HandOk h' ∧ plainO o2 = true ∧ plainO o3 = true ∧ e = [some (.own true h'), some (vT m), o2, o3]) 0 ?_
    [some (.own true h1), some (vT Ta.one), none, none] ⟨Ta.one, h1, none, none, by decide, by decide, ho1, rfl, rfl, rfl⟩
  · obtain ⟨e', f1, m, h', o2, o3, hz, hd, ho, _, _, rfl⟩ := lp
    rw [Nat.zero_add, List.length_range] at hz
    have := pow4 (i := (1 + n).toNat) (by omega)
    refine ⟨m, h', by omega, hd, ho, ?_⟩
    rw [v__law_drawn]
    have hb : (-(2 ^ 62) ≤ 1 + n ∧ 1 + n < 2 ^ 62) = True := by simp; omega
    simp only [vT, tT, Ta.one] at f1
    simp only [b__law_drawn, sSeq, sNx, sIf, sRet, sRetN, sSet, sDo, sB, aCons, aV, aP, aNil, sC, sVar, sMove, sT, sAnd, sOr, sNot, sAndV, sOrV, sNotV, sIfE, sChain, sTup, sLst, sDic0, sSl, sPt, sNo, sCall, sCallL, sPut, sAug, sMeth, isOwn, free, Out.bind, Out.bs, SO.then, List.getElem?_cons_zero, List.getElem?_cons_succ, List.set_cons_zero, List.set_cons_succ, lookA, look, Wd.dat, Wd.lent, Wd.mut, avD, Option.map, List.map, closeR, outs_nil, outs_val, outs_own, if_true, if_false, Bool.false_eq_true, reduceIte, Bool.not_true, Bool.not_false, Bool.not_not, and_self, and_true, true_and, List.length_nil, List.length_cons, Nat.reduceLeDiff, Nat.reduceAdd, Nat.zero_add, Nat.zero_le, add_int, Fd.gSub, gNeg, gCmp, gLen, abs_int, gInt, gTuple, gList, gRev, gIAdd, sFor, e1, sRange1, hb, range_map, f1]
  · rintro i x e hx ⟨m, h', o2, o3, hz, hd, ho, p2, p3, rfl⟩
    rw [Nat.zero_add] at *
    have hi : i < (1 + n).toNat := by have := (List.getElem?_eq_some_iff.mp hx).1; simpa using this
    obtain ⟨k, h2, k0, k1, ho2, e2⟩ := t_draw ho (m := 7) (by decide) (by decide)
    obtain ⟨l, h3, l0, l1, ho3, e3⟩ := t_draw ho2 (m := 2) (by decide) (by decide)
    have hp := pow4 (i := i) (by omega)
    have sm : Sm m := by unfold Sm; omega
    obtain ⟨g1, g2⟩ := sz_mulR (m := m) (k := k - 3) (by omega)
    have ps : (4 : Int) ^ (i + 1) = 4 ^ i * 4 := Int.pow_succ ..
    have t1 := t__law_times (n := ⟨1, k - 3, 0, 1⟩) sm
    have t2 := t__law_times (n := ⟨1, 0, k - 3, 1⟩) sm
    have d1 := det_mul m ⟨1, k - 3, 0, 1⟩ hd (by simp)
    have d2 := det_mul m ⟨1, 0, k - 3, 1⟩ hd (by simp)
    rcases tf (decide (l = 0)) with c | c
    · refine ⟨_, [some (.own true h3), some (vT (Ta.mul m ⟨1, k - 3, 0, 1⟩)), some (.val (.int x)), some (.val (.int (k - 3)))], put_nm (by rfl) p2, .inl ?_, _, h3, some (.val (.int x)), some (.val (.int (k - 3))), by omega, d1, ho3, rfl, rfl, rfl⟩
      rcases plain_cases p3 with rfl | ⟨d3, rfl⟩ <;> simp only [sSeq, sNx, sIf, sRet, sRetN, sSet, sDo, sB, aCons, aV, aP, aNil, sC, sVar, sMove, sT, sAnd, sOr, sNot, sAndV, sOrV, sNotV, sIfE, sChain, sTup, sLst, sDic0, sSl, sPt, sNo, sCall, sCallL, sPut, sAug, sMeth, isOwn, free, Out.bind, Out.bs, SO.then, List.getElem?_cons_zero, List.getElem?_cons_succ, List.set_cons_zero, List.set_cons_succ, lookA, look, Wd.dat, Wd.lent, Wd.mut, avD, Option.map, List.map, closeR, outs_nil, outs_val, outs_own, if_true, if_false, Bool.false_eq_true, reduceIte, Bool.not_true, Bool.not_false, Bool.not_not, and_self, and_true, true_and, List.length_nil, List.length_cons, Nat.reduceLeDiff, Nat.reduceAdd, Nat.zero_add, Nat.zero_le, add_int, Fd.gSub, gNeg, gCmp, gLen, abs_int, gInt, gTuple, gList, gRev, gIAdd, e2, e3, eq_int, c, t1]
    · refine ⟨_, [some (.own true h3), some (vT (Ta.mul m ⟨1, 0, k - 3, 1⟩)), some (.val (.int x)), some (.val (.int (k - 3)))], put_nm (by rfl) p2, .inl ?_, _, h3, some (.val (.int x)), some (.val (.int (k - 3))), by omega, d2, ho3, rfl, rfl, rfl⟩
      rcases plain_cases p3 with rfl | ⟨d3, rfl⟩ <;> simp only [sSeq, sNx, sIf, sRet, sRetN, sSet, sDo, sB, aCons, aV, aP, aNil, sC, sVar, sMove, sT, sAnd, sOr, sNot, sAndV, sOrV, sNotV, sIfE, sChain, sTup, sLst, sDic0, sSl, sPt, sNo, sCall, sCallL, sPut, sAug, sMeth, isOwn, free, Out.bind, Out.bs, SO.then, List.getElem?_cons_zero, List.getElem?_cons_succ, List.set_cons_zero, List.set_cons_succ, lookA, look, Wd.dat, Wd.lent, Wd.mut, avD, Option.map, List.map, closeR, outs_nil, outs_val, outs_own, if_true, if_false, Bool.false_eq_true, reduceIte, Bool.not_true, Bool.not_false, Bool.not_not, and_self, and_true, true_and, List.length_nil, List.length_cons, Nat.reduceLeDiff, Nat.reduceAdd, Nat.zero_add, Nat.zero_le, add_int, Fd.gSub, gNeg, gCmp, gLen, abs_int, gInt, gTuple, gList, gRev, gIAdd, e2, e3, eq_int, c, t2]
theorem ok3_flat {d : D} (h : known d = true) (hd : dTup d = false) : ok3 d := ⟨h, fun x y e => by rw [e] at hd; cases hd⟩
theorem t__law_deep {h : List D} (hh : HandOk h) : ∃ (d : D) (h' : List D), ok3 d ∧ HandOk h' ∧ g__law_deep [.own true h] = .ret (.val d) [.own true h'] := by
  obtain ⟨d0, h0, m0, ho0, e0⟩ := t_some hh (ds := [.non, .int 0, .str "a"]) (by simp) (by simp)
  have k0 : ok3 d0 := by
    simp only [List.mem_cons, List.not_mem_nil, or_false] at m0
    rcases m0 with rfl | rfl | rfl <;> exact ok3_flat rfl rfl
  obtain ⟨n, h1, n0, n1, ho1, e1⟩ := t_draw ho0 (m := 18) (by decide) (by decide)
  have lp := loop_inv (enc := fun k : Nat => D.int (k : Int)) (tg := .nm 2) (body := (sSet 1 (sCallL g__law_some (aCons (aP 0) (aCons (aV (sLst (aCons (aV (sTup (aCons (aV (sVar 1)) aNil))) (aCons (aV (sLst (aCons (aV (sVar 1)) aNil))) (aCons (aV (sDisp (pCons (sC (.int 0)) (sVar 1) pNil))) aNil))))) aNil)))))
    (List.range (18 + n).toNat) (fun i e => ∃ (d : D) (h' : List D) (o2 : Option Wd), ok3 d ∧ HandOk h' ∧ plainO o2 = true ∧ e = [some (.own true h'), some (.val d), o2]) 0 ?_
    [some (.own true h1), some (.val d0), none] ⟨d0, h1, none, k0, ho1, rfl, rfl⟩
  · obtain ⟨e', f1, d, h', o2, hd, ho, _, rfl⟩ := lp
    refine ⟨d, h', hd, ho, ?_⟩
    rw [v__law_deep]
    have hb : (-(2 ^ 62) ≤ 18 + n ∧ 18 + n < 2 ^ 62) = True := by simp; omega
    simp only [b__law_deep, sSeq, sNx, sIf, sRet, sRetN, sSet, sDo, sB, aCons, aV, aP, aNil, sC, sVar, sMove, sT, sAnd, sOr, sNot, sAndV, sOrV, sNotV, sIfE, sChain, sTup, sLst, sDic0, sSl, sPt, sNo, sCall, sCallL, sPut, sAug, sMeth, isOwn, free, Out.bind, Out.bs, SO.then, List.getElem?_cons_zero, List.getElem?_cons_succ, List.set_cons_zero, List.set_cons_succ, lookA, look, Wd.dat, Wd.lent, Wd.mut, avD, Option.map, List.map, closeR, outs_nil, outs_val, outs_own, if_true, if_false, Bool.false_eq_true, reduceIte, Bool.not_true, Bool.not_false, Bool.not_not, and_self, and_true, true_and, List.length_nil, List.length_cons, Nat.reduceLeDiff, Nat.reduceAdd, Nat.zero_add, Nat.zero_le, add_int, Fd.gSub, gNeg, gCmp, gLen, abs_int, gInt, gTuple, gList, gRev, gIAdd, sFor, e0, e1, sRange1, hb, range_map, f1]
  · rintro i x e hx ⟨d, h', o2, hd, ho, p2, rfl⟩
    obtain ⟨d2, h2, m2, ho2, e2⟩ := t_some ho (ds := [.tup [d], .lst [d], .dic (mergeD [] [(.inl 0, d)])]) (by simp) (by simp)
    have k2 : ok3 d2 := by
      simp only [List.mem_cons, List.not_mem_nil, or_false] at m2
      rcases m2 with rfl | rfl | rfl
      · exact ⟨rfl, fun x y e => by cases e⟩
      · exact ok3_flat rfl rfl
      · exact ok3_flat rfl rfl
    refine ⟨_, [some (.own true h2), some (.val d2), some (.val (.int x))], put_nm (by rfl) p2, .inl ?_, d2, h2, some (.val (.int x)), k2, ho2, rfl, rfl⟩
    simp only [sSeq, sNx, sIf, sRet, sRetN, sSet, sDo, sB, aCons, aV, aP, aNil, sC, sVar, sMove, sT, sAnd, sOr, sNot, sAndV, sOrV, sNotV, sIfE, sChain, sTup, sLst, sDic0, sSl, sPt, sNo, sCall, sCallL, sPut, sAug, sMeth, isOwn, free, Out.bind, Out.bs, SO.then, List.getElem?_cons_zero, List.getElem?_cons_succ, List.set_cons_zero, List.set_cons_succ, lookA, look, Wd.dat, Wd.lent, Wd.mut, avD, Option.map, List.map, closeR, outs_nil, outs_val, outs_own, if_true, if_false, Bool.false_eq_true, reduceIte, Bool.not_true, Bool.not_false, Bool.not_not, and_self, and_true, true_and, List.length_nil, List.length_cons, Nat.reduceLeDiff, Nat.reduceAdd, Nat.zero_add, Nat.zero_le, add_int, Fd.gSub, gNeg, gCmp, gLen, abs_int, gInt, gTuple, gList, gRev, gIAdd, sDisp, pCons, pNil, keysD, keyD, e2]
end K27

namespace K27
open PySem Fd
theorem t__law_hand (ns : List Int) : ∃ h : List D, HandOk h ∧ g__law_hand [.val (.lsf (ns.map .int))] = .ret (.own false h) [.val (.lsf (ns.map .int))] := by
  refine ⟨handD ((ns.take 63).map Fd.ab) 0 0 (83 + 5 * (((ns.take 63).map Fd.ab).length : Int)) 0, ⟨_, _, _, _, _, rfl, by decide, by decide, fun c hc => ?_⟩, ?_⟩
  · obtain ⟨x, _, rfl⟩ := List.mem_map.mp hc
    unfold Fd.ab
    split <;> omega
  · rw [v__law_hand]
    have s1 := sl_toF (ds := ns.map D.int) (i := 63) (by decide)
    rw [← List.map_take] at s1
    have hl : (ns.take 63).length ≤ 1000000 := by rw [List.length_take]; omega
    have q := lc_run (α := Int) (enc := .int) (i := 2) (o := none) (fi := (sSeqI (aV (sSl gSl (aP 0) sNo (sPt (sC (.int 63))))))) (fe := (sB gAbs (aCons (aV (sB gInt (aCons (aP 2) aNil))) aNil))) (e := [some (.val (.lsf (ns.map .int))), none, none]) (e1 := [some (.val (.lsf (ns.map .int))), none, none]) (xs := ns.take 63) (fun x => .int (Fd.ab x))
      (by simp only [sSeq, sNx, sIf, sRet, sRetN, sSet, sDo, sB, aCons, aV, aP, aNil, sC, sVar, sMove, sT, sAnd, sOr, sNot, sAndV, sOrV, sNotV, sIfE, sChain, sTup, sLst, sDic0, sSl, sPt, sNo, sCall, sCallL, sPut, sAug, sMeth, isOwn, free, Out.bind, Out.bs, SO.then, List.getElem?_cons_zero, List.getElem?_cons_succ, List.set_cons_zero, List.set_cons_succ, lookA, look, Wd.dat, Wd.lent, Wd.mut, avD, Option.map, List.map, closeR, outs_nil, outs_val, outs_own, if_true, if_false, Bool.false_eq_true, reduceIte, Bool.not_true, Bool.not_false, Bool.not_not, and_self, and_true, true_and, List.length_nil, List.length_cons, Nat.reduceLeDiff, Nat.reduceAdd, Nat.zero_add, Nat.zero_le, add_int, Fd.gSub, gNeg, gCmp, gLen, abs_int, gInt, gTuple, gList, gRev, gIAdd, sSeqI, seqOf, s1]; rfl) rfl rfl hl (fun x hx => by simp only [sSeq, sNx, sIf, sRet, sRetN, sSet, sDo, sB, aCons, aV, aP, aNil, sC, sVar, sMove, sT, sAnd, sOr, sNot, sAndV, sOrV, sNotV, sIfE, sChain, sTup, sLst, sDic0, sSl, sPt, sNo, sCall, sCallL, sPut, sAug, sMeth, isOwn, free, Out.bind, Out.bs, SO.then, List.getElem?_cons_zero, List.getElem?_cons_succ, List.set_cons_zero, List.set_cons_succ, lookA, look, Wd.dat, Wd.lent, Wd.mut, avD, Option.map, List.map, closeR, outs_nil, outs_val, outs_own, if_true, if_false, Bool.false_eq_true, reduceIte, Bool.not_true, Bool.not_false, Bool.not_not, and_self, and_true, true_and, List.length_nil, List.length_cons, Nat.reduceLeDiff, Nat.reduceAdd, Nat.zero_add, Nat.zero_le, add_int, Fd.gSub, gNeg, gCmp, gLen, abs_int, gInt, gTuple, gList, gRev, gIAdd])
    have m5 : ∀ x : Int, gMul4 [.int 5, .int x] = some (.val (.int (5 * x))) := fun x => mul_l (by decide)
    have hm : (ns.take 63).map (fun x => D.int (Fd.ab x)) = ((ns.take 63).map Fd.ab).map D.int := by rw [List.map_map]; rfl
    rw [hm] at q
    simp only [b__law_hand, sSeq, sNx, sIf, sRet, sRetN, sSet, sDo, sB, aCons, aV, aP, aNil, sC, sVar, sMove, sT, sAnd, sOr, sNot, sAndV, sOrV, sNotV, sIfE, sChain, sTup, sLst, sDic0, sSl, sPt, sNo, sCall, sCallL, sPut, sAug, sMeth, isOwn, free, Out.bind, Out.bs, SO.then, List.getElem?_cons_zero, List.getElem?_cons_succ, List.set_cons_zero, List.set_cons_succ, lookA, look, Wd.dat, Wd.lent, Wd.mut, avD, Option.map, List.map, closeR, outs_nil, outs_val, outs_own, if_true, if_false, Bool.false_eq_true, reduceIte, Bool.not_true, Bool.not_false, Bool.not_not, and_self, and_true, true_and, List.length_nil, List.length_cons, Nat.reduceLeDiff, Nat.reduceAdd, Nat.zero_add, Nat.zero_le, add_int, Fd.gSub, gNeg, gCmp, gLen, abs_int, gInt, gTuple, gList, gRev, gIAdd, q, m5, handD, List.length_map]
theorem t__law_timesR {m n : Ta.T} (h : Sm n) : g__law_times [vT m, vT n] = .ret (vT (Ta.mul m n)) [vT m, vT n] := by
  obtain ⟨h1, h2, h3, h4⟩ := h.pl
  rw [v__law_times]
  have p1 := put_tt (i := 2) (j := 3) (k := 4) (l := 5) (a := .int m.a) (b := .int m.b) (c := .int m.c) (d := .int m.d) (e := [some (vT m), some (vT n), none, none, none, none, none, none, none, none]) (by rfl) rfl (by rfl) rfl (by rfl) rfl (by rfl) rfl
  have p2 := put_tt (i := 6) (j := 7) (k := 8) (l := 9) (a := .int n.a) (b := .int n.b) (c := .int n.c) (d := .int n.d) (e := [some (vT m), some (vT n), some (.val (.int m.a)), some (.val (.int m.b)), some (.val (.int m.c)), some (.val (.int m.d)), none, none, none, none]) (by rfl) rfl (by rfl) rfl (by rfl) rfl (by rfl) rfl
  simp only [List.set_cons_zero, List.set_cons_succ] at p1 p2
  simp only [b__law_times, sSeq, sNx, sIf, sRet, sRetN, sSet, sDo, sB, aCons, aV, aP, aNil, sC, sVar, sMove, sT, sAnd, sOr, sNot, sAndV, sOrV, sNotV, sIfE, sChain, sTup, sLst, sDic0, sSl, sPt, sNo, sCall, sCallL, sPut, sAug, sMeth, isOwn, free, Out.bind, Out.bs, SO.then, List.getElem?_cons_zero, List.getElem?_cons_succ, List.set_cons_zero, List.set_cons_succ, lookA, look, Wd.dat, Wd.lent, Wd.mut, avD, Option.map, List.map, closeR, outs_nil, outs_val, outs_own, if_true, if_false, Bool.false_eq_true, reduceIte, Bool.not_true, Bool.not_false, Bool.not_not, and_self, and_true, true_and, List.length_nil, List.length_cons, Nat.reduceLeDiff, Nat.reduceAdd, Nat.zero_add, Nat.zero_le, add_int, Fd.gSub, gNeg, gCmp, gLen, abs_int, gInt, gTuple, gList, gRev, gIAdd, sSetT, p1, p2, mul_r h1, mul_r h2, mul_r h3, mul_r h4, Ta.mul]
theorem ge_sm {x : Int} (h : Ta.isL x) : Sm (Ta.ge x) := by
  rcases h with rfl | rfl | rfl | rfl <;> (unfold Sm; decide)
theorem t__law_tableL {w : List Int} (h : ∀ y ∈ w, Ta.isL y) : g__law_table [.val (tI w)] = .ret (vT (Ta.tab w)) [.val (tI w)] := by
  rw [v__law_table]
  have lp := loop_inv (enc := D.int) (tg := .nm 3) (body := (sSet 2 (sCall g__law_times (aCons (aV (sVar 2)) (aCons (aV (sB gDix (aCons (aP 1) (aCons (aP 3) aNil)))) aNil)))))
    w (fun i e => ∃ o, plainO o = true ∧ e = [some (.val (tI w)), some (.ownK false (mergeD [] [(.inl 1, tT ⟨1, 2, 0, 1⟩), (.inl (-1), tT ⟨1, -2, 0, 1⟩), (.inl 2, tT ⟨1, 0, 2, 1⟩), (.inl (-2), tT ⟨1, 0, -2, 1⟩)])), some (vT (Ta.tab (w.take i))), o]) 0 ?_
    [some (.val (tI w)), some (.ownK false (mergeD [] [(.inl 1, tT ⟨1, 2, 0, 1⟩), (.inl (-1), tT ⟨1, -2, 0, 1⟩), (.inl 2, tT ⟨1, 0, 2, 1⟩), (.inl (-2), tT ⟨1, 0, -2, 1⟩)])), some (vT Ta.one), none] ⟨none, rfl, rfl⟩
  · obtain ⟨e', h1, o, ho, rfl⟩ := lp
    rw [Nat.zero_add, List.take_length] at h1
    simp only [vT, tT, Ta.one] at h1
    have ng : ∀ i : Int, gNeg [.int i] = some (.val (.int (-i))) := fun _ => rfl
    simp only [b__law_table, sSeq, sNx, sIf, sRet, sRetN, sSet, sDo, sB, aCons, aV, aP, aNil, sC, sVar, sMove, sT, sAnd, sOr, sNot, sAndV, sOrV, sNotV, sIfE, sChain, sTup, sLst, sDic0, sSl, sPt, sNo, sCall, sCallL, sPut, sAug, sMeth, isOwn, free, Out.bind, Out.bs, SO.then, List.getElem?_cons_zero, List.getElem?_cons_succ, List.set_cons_zero, List.set_cons_succ, lookA, look, Wd.dat, Wd.lent, Wd.mut, avD, Option.map, List.map, closeR, outs_nil, outs_val, outs_own, if_true, if_false, Bool.false_eq_true, reduceIte, Bool.not_true, Bool.not_false, Bool.not_not, and_self, and_true, true_and, List.length_nil, List.length_cons, Nat.reduceLeDiff, Nat.reduceAdd, Nat.zero_add, Nat.zero_le, sDisp, pCons, pNil, ng, keysD, keyD, sFor, sSeqI, seqOf, h1]
  · rintro i x e hx ⟨o, ho, rfl⟩
    rw [Nat.zero_add] at *
    have hxl := h x (List.mem_of_getElem? hx)
    have hs : Ta.tab (w.take (i + 1)) = Ta.mul (Ta.tab (w.take i)) (Ta.ge x) := by
      rw [List.take_succ, hx, Ta.tab_app]
      show Ta.mul _ (Ta.mul Ta.one (Ta.ge x)) = _
      rw [Ta.one_mul]
    have tt := t__law_timesR (m := Ta.tab (w.take i)) (ge_sm hxl)
    have dx := dix hxl
    rw [hs]
    refine ⟨_, [some (.val (tI w)), some (.ownK false (mergeD [] [(.inl 1, tT ⟨1, 2, 0, 1⟩), (.inl (-1), tT ⟨1, -2, 0, 1⟩), (.inl 2, tT ⟨1, 0, 2, 1⟩), (.inl (-2), tT ⟨1, 0, -2, 1⟩)])), some (vT (Ta.mul (Ta.tab (w.take i)) (Ta.ge x))), some (.val (.int x))], put_nm (by rfl) ho, .inl ?_, some (.val (.int x)), rfl, rfl⟩
    simp only [sSeq, sNx, sIf, sRet, sRetN, sSet, sDo, sB, aCons, aV, aP, aNil, sC, sVar, sMove, sT, sAnd, sOr, sNot, sAndV, sOrV, sNotV, sIfE, sChain, sTup, sLst, sDic0, sSl, sPt, sNo, sCall, sCallL, sPut, sAug, sMeth, isOwn, free, Out.bind, Out.bs, SO.then, List.getElem?_cons_zero, List.getElem?_cons_succ, List.set_cons_zero, List.set_cons_succ, lookA, look, Wd.dat, Wd.lent, Wd.mut, avD, Option.map, List.map, closeR, outs_nil, outs_val, outs_own, if_true, if_false, Bool.false_eq_true, reduceIte, Bool.not_true, Bool.not_false, Bool.not_not, and_self, and_true, true_and, List.length_nil, List.length_cons, Nat.reduceLeDiff, Nat.reduceAdd, Nat.zero_add, Nat.zero_le, dx, tt]
/-! what the law asks, one by one -/
theorem ne_TT (m : Ta.T) : gNe [tT m, tT m] = some (.val (.bl false)) := by rw [ne_T]; simp
theorem ne_II (w : List Int) : gNe [tI w, tI w] = some (.val (.bl false)) := by rw [ne_ints]; simp
theorem ne_bb (a : Bool) : gNe [.bl a, .bl a] = some (.val (.bl false)) := by rw [ne_bl]; simp
theorem ne_rr (a : Bool) : gNe [.str (if a then "True" else "False"), .str (if a then "True" else "False")] = some (.val (.bl false)) := by cases a <;> exact ne_str (by decide +kernel)
theorem saB_of {m : Ta.T} (h : Ta.Sa m) : saB m = true := by
  unfold saB
  rw [h.pa, h.pd, h.pb, h.pc]
  rfl
theorem sa_of {m : Ta.T} (hd : m.a * m.d - m.b * m.c = 1) (h : saB m = true) : Ta.Sa m := by
  unfold saB at h
  simp only [Bool.and_eq_true, decide_eq_true_iff] at h
  exact ⟨hd, h.1, h.2.1, h.2.2.1, h.2.2.2⟩
theorem ofw_T {m : Ta.T} (h : SqT m) : ofw (tT m) = saB m := by
  show (sq (tT m) && saB m) = _
  rw [sq_T h, Bool.true_and]
theorem sz_word {w : List Int} (h : ∀ y ∈ w, Ta.isL y) (hl : w.length ≤ 16) : Ta.sz (Ta.tab w) ≤ 100000000 := by
  have h1 := Ta.sz_tab h
  have h2 : (3 : Int) ^ w.length ≤ 3 ^ 16 := by
    have : (3 : Nat) ^ w.length ≤ 3 ^ 16 := Nat.pow_le_pow_right (by decide) hl
    exact_mod_cast this
  have h3 : (3 : Int) ^ 16 = 43046721 := by decide +kernel
  omega
theorem told_of {m : Ta.T} (hz : Ta.sz m ≤ 512) (hd : m.a * m.d - m.b * m.c = 1) : (saB m = true ∧ ∃ w : List Int, (∀ y ∈ w, Ta.isL y) ∧ Ta.tab w = m ∧ g_word_of_table [vT m] = .ret (.val (tI w)) [vT m]) ∨ (saB m = false ∧ g_word_of_table [vT m] = .ret (.val .non) [vT m]) := by
  have hq : SqT m := ⟨by omega, hd⟩
  rcases tf (saB m) with c | c
  · obtain ⟨w, p, hl, hi, ht⟩ := Ta.path_of 255 (sa_of hd c) (by omega)
    exact .inl ⟨c, w, hi, ht, t_word_yes hq c p (by omega)⟩
  · exact .inr ⟨c, t_word_no hq c⟩
theorem c1 : g_table_of [.val (.tup [.int 1, .int 2])] = .ret (.val (.tup [.tup [.int 5, .int 2], .tup [.int 2, .int 1]])) [.val (.tup [.int 1, .int 2])] := by
  have q := t_table_of (w := [1, 2]) (by decide) (by decide)
  rw [show Ta.tab [1, 2] = ⟨5, 2, 2, 1⟩ by decide] at q
  exact q
theorem c2 : g_word_of_table [.val (.tup [.tup [.int (-1), .int 0], .tup [.int 0, .int (-1)]])] = .ret (.val .non) [.val (.tup [.tup [.int (-1), .int 0], .tup [.int 0, .int (-1)]])] :=
  t_word_no (m := ⟨-1, 0, 0, -1⟩) ⟨by decide, by decide⟩ (by decide)
theorem c3 : g_word_of_table [.val (.tup [.tup [.int 1, .int 4], .tup [.int 0, .int 1]])] = .ret (.val (.tup [.int 1, .int 1])) [.val (.tup [.tup [.int 1, .int 4], .tup [.int 0, .int 1]])] := by
  have p := Ta.path_word (w := [1, 1]) (fun y hy => by simp at hy; rw [hy]; unfold Ta.isL; simp) ⟨by decide, trivial⟩
  rw [show Ta.tab [1, 1] = ⟨1, 4, 0, 1⟩ by decide] at p
  exact t_word_yes (m := ⟨1, 4, 0, 1⟩) ⟨by decide, by decide⟩ (by decide) p (by decide)
end K27

namespace K27
open PySem Fd
abbrev bent1 (t m : Ta.T) : List D := [tT m, tT ⟨t.a, t.b + 2, t.c, t.d⟩, tT ⟨t.a, t.b, t.c, t.d + 4⟩, tT ⟨t.d, t.b, t.c, t.a⟩, tT ⟨t.c, t.d, t.a, t.b⟩, .lst [.tup [.int t.a, .int t.b], .tup [.int t.c, .int t.d]], .tup [.lst [.int t.a, .int t.b], .tup [.int t.c, .int t.d]], .tup [.tup [.int t.a, .int t.b]], .tup [.tup [.int t.a, .int t.b], .tup [.int t.c, .int t.d], .tup [.int 0, .int 0]]]
abbrev bent2 (t : Ta.T) (d : D) : List D := [tT ⟨0 - t.a, 0 - t.b, 0 - t.c, 0 - t.d⟩, .tup [.tup [.bl true, .int 0], .tup [.int 0, .int 1]], .tup [.tup [.int 1, .int 0], .tup [.int 0, .non]], .non, .tup [], .dic [], .int 0, .str "table", d]
theorem ok3_two {p q r s : D} (h1 : known p = true) (h2 : known q = true) (h3 : known r = true) (h4 : known s = true) : ok3 (.tup [.tup [p, q], .tup [r, s]]) :=
  ⟨rfl, fun x y e => by cases e; exact ⟨⟨rfl, rfl⟩, fun p q e => by cases e; exact ⟨h1, h2⟩, fun p q e => by cases e; exact ⟨h3, h4⟩⟩⟩
theorem bent_ok {t m : Ta.T} {d : D} (hd : ok3 d) : ∀ x ∈ bent1 t m ++ bent2 t d, ok3 x := by
  intro x hx
  simp only [bent1, bent2, List.cons_append, List.nil_append, List.mem_cons, List.not_mem_nil, or_false] at hx
  rcases hx with rfl | rfl | rfl | rfl | rfl | rfl | rfl | rfl | rfl | rfl | rfl | rfl | rfl | rfl | rfl | rfl | rfl | rfl
  · exact ok3_T _
  · exact ok3_T _
  · exact ok3_T _
  · exact ok3_T _
  · exact ok3_T _
  · exact ok3_flat rfl rfl
  · exact ⟨rfl, fun x y e => by cases e; exact ⟨⟨rfl, rfl⟩, (fun p q e => by cases e), (fun p q e => by cases e; exact ⟨rfl, rfl⟩)⟩⟩
  · exact ⟨rfl, fun x y e => by cases e⟩
  · exact ⟨rfl, fun x y e => by cases e⟩
  · exact ok3_T _
  · exact ok3_two rfl rfl rfl rfl
  · exact ok3_two rfl rfl rfl rfl
  · exact ok3_flat rfl rfl
  · exact ⟨rfl, fun x y e => by cases e⟩
  · exact ok3_flat rfl rfl
  · exact ok3_flat rfl rfl
  · exact ok3_flat rfl rfl
  · exact hd
theorem inner2 {o0 o2 o3 o4 o6 o8 o9 o10 o11 o12 o13 o14 : Option Wd} {h : List D} {t m : Ta.T} (hh : HandOk h) (p9 : plainO o9 = true) (p10 : plainO o10 = true) (p11 : plainO o11 = true) (p12 : plainO o12 = true) (p13 : plainO o13 = true) (p14 : plainO o14 = true) :
    ∃ (h' : List D) (d9 d10 d11 d12 d13 d14 : D), HandOk h' ∧ ((sSeq (sSetT (.tp ((.tp ((.nm 9) :: ((.nm 10) :: []))) :: ((.tp ((.nm 11) :: ((.nm 12) :: []))) :: []))) (sVar 5)) (sSeq (sSet 13 (sLst (aCons (aV (sVar 7)) (aCons (aV (sTup (aCons (aV (sTup (aCons (aV (sVar 9)) (aCons (aV (sB gAdd (aCons (aP 10) (aCons (aV (sC (.int 2))) aNil)))) aNil)))) (aCons (aV (sTup (aCons (aV (sVar 11)) (aCons (aV (sVar 12)) aNil)))) aNil)))) (aCons (aV (sTup (aCons (aV (sTup (aCons (aV (sVar 9)) (aCons (aV (sVar 10)) aNil)))) (aCons (aV (sTup (aCons (aV (sVar 11)) (aCons (aV (sB gAdd (aCons (aP 12) (aCons (aV (sC (.int 4))) aNil)))) aNil)))) aNil)))) (aCons (aV (sTup (aCons (aV (sTup (aCons (aV (sVar 12)) (aCons (aV (sVar 10)) aNil)))) (aCons (aV (sTup (aCons (aV (sVar 11)) (aCons (aV (sVar 9)) aNil)))) aNil)))) (aCons (aV (sB gRev (aCons (aP 5) aNil))) (aCons (aV (sB gList (aCons (aP 5) aNil))) (aCons (aV (sTup (aCons (aV (sB gList (aCons (aV (sB gIx (aCons (aP 5) (aCons (aV (sC (.int 0))) aNil)))) aNil))) (aCons (aV (sB gIx (aCons (aP 5) (aCons (aV (sC (.int 1))) aNil)))) aNil)))) (aCons (aV (sSl gSl (aP 5) sNo (sPt (sC (.int 1))))) (aCons (aV (sB gAdd (aCons (aP 5) (aCons (aV (sTup (aCons (aV (sTup (aCons (aV (sC (.int 0))) (aCons (aV (sC (.int 0))) aNil)))) aNil))) aNil)))) aNil))))))))))) (sSeq (sSet 13 (sB gAdd (aCons (aP 13) (aCons (aV (sLst (aCons (aV (sTup (aCons (aV (sTup (aCons (aV (sB gSub (aCons (aV (sC (.int 0))) (aCons (aP 9) aNil)))) (aCons (aV (sB gSub (aCons (aV (sC (.int 0))) (aCons (aP 10) aNil)))) aNil)))) (aCons (aV (sTup (aCons (aV (sB gSub (aCons (aV (sC (.int 0))) (aCons (aP 11) aNil)))) (aCons (aV (sB gSub (aCons (aV (sC (.int 0))) (aCons (aP 12) aNil)))) aNil)))) aNil)))) (aCons (aV (sTup (aCons (aV (sTup (aCons (aV (sC (.bl true))) (aCons (aV (sC (.int 0))) aNil)))) (aCons (aV (sTup (aCons (aV (sC (.int 0))) (aCons (aV (sC (.int 1))) aNil)))) aNil)))) (aCons (aV (sTup (aCons (aV (sTup (aCons (aV (sC (.int 1))) (aCons (aV (sC (.int 0))) aNil)))) (aCons (aV (sTup (aCons (aV (sC (.int 0))) (aCons (aV (sC .non)) aNil)))) aNil)))) (aCons (aV (sC .non)) (aCons (aV (sTup aNil)) (aCons (aV sDic0) (aCons (aV (sC (.int 0))) (aCons (aV (sC (.str "table"))) (aCons (aV (sCallL g__law_deep (aCons (aP 1) aNil))) aNil))))))))))) aNil)))) (sSeq (sSet 14 (sCallL g__law_some (aCons (aP 1) (aCons (aV (sVar 13)) aNil)))) (sIf (sT (sB gNe (aCons (aV (sB gRepr (aCons (aV (sCall g_is_of_word (aCons (aV (sVar 14)) aNil))) aNil))) (aCons (aV (sB gRepr (aCons (aV (sCall g__law_is_of_word (aCons (aV (sVar 14)) aNil))) aNil))) aNil)))) (sRet (sC (.bl false))) sNx)))))) [o0, some (.own false h), o2, o3, o4, some (vT t), o6, some (vT m), o8, o9, o10, o11, o12, o13, o14] = .nx [o0, some (.own false h'), o2, o3, o4, some (vT t), o6, some (vT m), o8, some (.val d9), some (.val d10), some (.val d11), some (.val d12), some (.val d13), some (.val d14)] := by
  obtain ⟨dd, h2, hk, ho2, e2⟩ := t__law_deep hh
  obtain ⟨d, h3, hm, ho3, e3⟩ := t_some ho2 (ds := bent1 t m ++ bent2 t dd) (by simp) (by simp)
  have k3 : ok3 d := bent_ok hk d hm
  have q1 := t_is_of_word k3
  have q2 := t__law_is_of_word k3
  have f13 := fr_plain p13
  have f14 := fr_plain p14
  have pt := put_tt (i := 9) (j := 10) (k := 11) (l := 12) (a := .int t.a) (b := .int t.b) (c := .int t.c) (d := .int t.d) (e := [o0, some (.own false h), o2, o3, o4, some (vT t), o6, some (vT m), o8, o9, o10, o11, o12, o13, o14]) (by rfl) p9 (by rfl) p10 (by rfl) p11 (by rfl) p12
  have s1 : ((sSetT (.tp ((.tp ((.nm 9) :: ((.nm 10) :: []))) :: ((.tp ((.nm 11) :: ((.nm 12) :: []))) :: []))) (sVar 5))) [o0, some (.own false h), o2, o3, o4, some (vT t), o6, some (vT m), o8, o9, o10, o11, o12, o13, o14] = .nx [o0, some (.own false h), o2, o3, o4, some (vT t), o6, some (vT m), o8, some (.val (.int t.a)), some (.val (.int t.b)), some (.val (.int t.c)), some (.val (.int t.d)), o13, o14] := by
    simp only [sSeq, sNx, sIf, sRet, sRetN, sSet, sDo, sB, aCons, aV, aP, aNil, sC, sVar, sMove, sT, sAnd, sOr, sNot, sAndV, sOrV, sNotV, sIfE, sChain, sTup, sLst, sDic0, sSl, sPt, sNo, sCall, sCallL, sPut, sAug, sMeth, isOwn, free_z, free_s, frO_some, frO_none, Out.bind, Out.bs, SO.then, List.getElem?_cons_zero, List.getElem?_cons_succ, List.set_cons_zero, List.set_cons_succ, lookA, look, Wd.dat, Wd.lent, Wd.mut, avD, Option.map, List.map, closeR, outs_nil, outs_val, outs_own, if_true, if_false, Bool.false_eq_true, reduceIte, Bool.not_true, Bool.not_false, Bool.not_not, and_self, and_true, true_and, List.length_nil, List.length_cons, Nat.reduceLeDiff, Nat.reduceAdd, Nat.zero_add, Nat.zero_le, add_int, Fd.gSub, gNeg, gCmp, gLen, abs_int, gInt, gTuple, gList, gRev, gIAdd, sSetT]
    rw [pt]
    rfl
  have x0 : ∀ u v : D, gIx [.tup [u, v], .int 0] = some (.val u) := fun _ _ => rfl
  have x1 : ∀ u v : D, gIx [.tup [u, v], .int 1] = some (.val v) := fun _ _ => rfl
  have sl1 : ∀ u v : D, gSl (.tup [u, v]) none (some 1) = some (.val (.tup [u])) := fun _ _ => rfl
  have at1 : ∀ u v w : D, gAdd [.tup [u, v], .tup [w]] = some (.val (.tup [u, v, w])) := fun _ _ _ => rfl
  have s2 : ((sSet 13 (sLst (aCons (aV (sVar 7)) (aCons (aV (sTup (aCons (aV (sTup (aCons (aV (sVar 9)) (aCons (aV (sB gAdd (aCons (aP 10) (aCons (aV (sC (.int 2))) aNil)))) aNil)))) (aCons (aV (sTup (aCons (aV (sVar 11)) (aCons (aV (sVar 12)) aNil)))) aNil)))) (aCons (aV (sTup (aCons (aV (sTup (aCons (aV (sVar 9)) (aCons (aV (sVar 10)) aNil)))) (aCons (aV (sTup (aCons (aV (sVar 11)) (aCons (aV (sB gAdd (aCons (aP 12) (aCons (aV (sC (.int 4))) aNil)))) aNil)))) aNil)))) (aCons (aV (sTup (aCons (aV (sTup (aCons (aV (sVar 12)) (aCons (aV (sVar 10)) aNil)))) (aCons (aV (sTup (aCons (aV (sVar 11)) (aCons (aV (sVar 9)) aNil)))) aNil)))) (aCons (aV (sB gRev (aCons (aP 5) aNil))) (aCons (aV (sB gList (aCons (aP 5) aNil))) (aCons (aV (sTup (aCons (aV (sB gList (aCons (aV (sB gIx (aCons (aP 5) (aCons (aV (sC (.int 0))) aNil)))) aNil))) (aCons (aV (sB gIx (aCons (aP 5) (aCons (aV (sC (.int 1))) aNil)))) aNil)))) (aCons (aV (sSl gSl (aP 5) sNo (sPt (sC (.int 1))))) (aCons (aV (sB gAdd (aCons (aP 5) (aCons (aV (sTup (aCons (aV (sTup (aCons (aV (sC (.int 0))) (aCons (aV (sC (.int 0))) aNil)))) aNil))) aNil)))) aNil)))))))))))) [o0, some (.own false h), o2, o3, o4, some (vT t), o6, some (vT m), o8, some (.val (.int t.a)), some (.val (.int t.b)), some (.val (.int t.c)), some (.val (.int t.d)), o13, o14] = .nx [o0, some (.own false h), o2, o3, o4, some (vT t), o6, some (vT m), o8, some (.val (.int t.a)), some (.val (.int t.b)), some (.val (.int t.c)), some (.val (.int t.d)), some (.own false (bent1 t m)), o14] := by
    simp only [sSeq, sNx, sIf, sRet, sRetN, sSet, sDo, sB, aCons, aV, aP, aNil, sC, sVar, sMove, sT, sAnd, sOr, sNot, sAndV, sOrV, sNotV, sIfE, sChain, sTup, sLst, sDic0, sSl, sPt, sNo, sCall, sCallL, sPut, sAug, sMeth, isOwn, free_z, free_s, frO_some, frO_none, Out.bind, Out.bs, SO.then, List.getElem?_cons_zero, List.getElem?_cons_succ, List.set_cons_zero, List.set_cons_succ, lookA, look, Wd.dat, Wd.lent, Wd.mut, avD, Option.map, List.map, closeR, outs_nil, outs_val, outs_own, if_true, if_false, Bool.false_eq_true, reduceIte, Bool.not_true, Bool.not_false, Bool.not_not, and_self, and_true, true_and, List.length_nil, List.length_cons, Nat.reduceLeDiff, Nat.reduceAdd, Nat.zero_add, Nat.zero_le, add_int, Fd.gSub, gNeg, gCmp, gLen, abs_int, gInt, gTuple, gList, gRev, gIAdd, x0, x1, sl1, at1, f13, List.reverse_cons, List.reverse_nil, List.nil_append, List.cons_append]
  have al : gAdd [.lst (bent1 t m), .lst (bent2 t dd)] = some (.own false (bent1 t m ++ bent2 t dd)) := add_lst (by simp)
  have s3 : ((sSet 13 (sB gAdd (aCons (aP 13) (aCons (aV (sLst (aCons (aV (sTup (aCons (aV (sTup (aCons (aV (sB gSub (aCons (aV (sC (.int 0))) (aCons (aP 9) aNil)))) (aCons (aV (sB gSub (aCons (aV (sC (.int 0))) (aCons (aP 10) aNil)))) aNil)))) (aCons (aV (sTup (aCons (aV (sB gSub (aCons (aV (sC (.int 0))) (aCons (aP 11) aNil)))) (aCons (aV (sB gSub (aCons (aV (sC (.int 0))) (aCons (aP 12) aNil)))) aNil)))) aNil)))) (aCons (aV (sTup (aCons (aV (sTup (aCons (aV (sC (.bl true))) (aCons (aV (sC (.int 0))) aNil)))) (aCons (aV (sTup (aCons (aV (sC (.int 0))) (aCons (aV (sC (.int 1))) aNil)))) aNil)))) (aCons (aV (sTup (aCons (aV (sTup (aCons (aV (sC (.int 1))) (aCons (aV (sC (.int 0))) aNil)))) (aCons (aV (sTup (aCons (aV (sC (.int 0))) (aCons (aV (sC .non)) aNil)))) aNil)))) (aCons (aV (sC .non)) (aCons (aV (sTup aNil)) (aCons (aV sDic0) (aCons (aV (sC (.int 0))) (aCons (aV (sC (.str "table"))) (aCons (aV (sCallL g__law_deep (aCons (aP 1) aNil))) aNil))))))))))) aNil))))) [o0, some (.own false h), o2, o3, o4, some (vT t), o6, some (vT m), o8, some (.val (.int t.a)), some (.val (.int t.b)), some (.val (.int t.c)), some (.val (.int t.d)), some (.own false (bent1 t m)), o14] = .nx [o0, some (.own false h2), o2, o3, o4, some (vT t), o6, some (vT m), o8, some (.val (.int t.a)), some (.val (.int t.b)), some (.val (.int t.c)), some (.val (.int t.d)), some (.own false (bent1 t m ++ bent2 t dd)), o14] := by
    simp only [sSeq, sNx, sIf, sRet, sRetN, sSet, sDo, sB, aCons, aV, aP, aNil, sC, sVar, sMove, sT, sAnd, sOr, sNot, sAndV, sOrV, sNotV, sIfE, sChain, sTup, sLst, sDic0, sSl, sPt, sNo, sCall, sCallL, sPut, sAug, sMeth, isOwn, free_z, free_s, frO_some, frO_none, Out.bind, Out.bs, SO.then, List.getElem?_cons_zero, List.getElem?_cons_succ, List.set_cons_zero, List.set_cons_succ, lookA, look, Wd.dat, Wd.lent, Wd.mut, avD, Option.map, List.map, closeR, outs_nil, outs_val, outs_own, if_true, if_false, Bool.false_eq_true, reduceIte, Bool.not_true, Bool.not_false, Bool.not_not, and_self, and_true, true_and, List.length_nil, List.length_cons, Nat.reduceLeDiff, Nat.reduceAdd, Nat.zero_add, Nat.zero_le, add_int, Fd.gSub, gNeg, gCmp, gLen, abs_int, gInt, gTuple, gList, gRev, gIAdd, e2, al]
  have s4 : ((sSet 14 (sCallL g__law_some (aCons (aP 1) (aCons (aV (sVar 13)) aNil))))) [o0, some (.own false h2), o2, o3, o4, some (vT t), o6, some (vT m), o8, some (.val (.int t.a)), some (.val (.int t.b)), some (.val (.int t.c)), some (.val (.int t.d)), some (.own false (bent1 t m ++ bent2 t dd)), o14] = .nx [o0, some (.own false h3), o2, o3, o4, some (vT t), o6, some (vT m), o8, some (.val (.int t.a)), some (.val (.int t.b)), some (.val (.int t.c)), some (.val (.int t.d)), some (.val (.lst (bent1 t m ++ bent2 t dd))), some (.val d)] := by
    simp only [sSeq, sNx, sIf, sRet, sRetN, sSet, sDo, sB, aCons, aV, aP, aNil, sC, sVar, sMove, sT, sAnd, sOr, sNot, sAndV, sOrV, sNotV, sIfE, sChain, sTup, sLst, sDic0, sSl, sPt, sNo, sCall, sCallL, sPut, sAug, sMeth, isOwn, free_z, free_s, frO_some, frO_none, Out.bind, Out.bs, SO.then, List.getElem?_cons_zero, List.getElem?_cons_succ, List.set_cons_zero, List.set_cons_succ, lookA, look, Wd.dat, Wd.lent, Wd.mut, avD, Option.map, List.map, closeR, outs_nil, outs_val, outs_own, if_true, if_false, Bool.false_eq_true, reduceIte, Bool.not_true, Bool.not_false, Bool.not_not, and_self, and_true, true_and, List.length_nil, List.length_cons, Nat.reduceLeDiff, Nat.reduceAdd, Nat.zero_add, Nat.zero_le, add_int, Fd.gSub, gNeg, gCmp, gLen, abs_int, gInt, gTuple, gList, gRev, gIAdd, e3, f14]
  refine ⟨h3, .int t.a, .int t.b, .int t.c, .int t.d, .lst (bent1 t m ++ bent2 t dd), d, ho3, ?_⟩
  rw [seq_nx s1, seq_nx s2, seq_nx s3, seq_nx s4]
  have nr := ne_rr (ofw d)
  simp only [sSeq, sNx, sIf, sRet, sRetN, sSet, sDo, sB, aCons, aV, aP, aNil, sC, sVar, sMove, sT, sAnd, sOr, sNot, sAndV, sOrV, sNotV, sIfE, sChain, sTup, sLst, sDic0, sSl, sPt, sNo, sCall, sCallL, sPut, sAug, sMeth, isOwn, free_z, free_s, frO_some, frO_none, Out.bind, Out.bs, SO.then, List.getElem?_cons_zero, List.getElem?_cons_succ, List.set_cons_zero, List.set_cons_succ, lookA, look, Wd.dat, Wd.lent, Wd.mut, avD, Option.map, List.map, closeR, outs_nil, outs_val, outs_own, if_true, if_false, Bool.false_eq_true, reduceIte, Bool.not_true, Bool.not_false, Bool.not_not, and_self, and_true, true_and, List.length_nil, List.length_cons, Nat.reduceLeDiff, Nat.reduceAdd, Nat.zero_add, Nat.zero_le, add_int, Fd.gSub, gNeg, gCmp, gLen, abs_int, gInt, gTuple, gList, gRev, gIAdd, q1, q2, gRepr, nr]
theorem inner {o0 o2 o3 o4 o6 o7 o8 o9 o10 o11 o12 o13 o14 : Option Wd} {h : List D} {t : Ta.T} (hh : HandOk h) (p7 : plainO o7 = true) (p8 : plainO o8 = true) (p9 : plainO o9 = true) (p10 : plainO o10 = true) (p11 : plainO o11 = true) (p12 : plainO o12 = true) (p13 : plainO o13 = true) (p14 : plainO o14 = true) :
    ∃ (h' : List D) (d7 d8 d9 d10 d11 d12 d13 d14 : D), HandOk h' ∧ ((sSeq (sSet 7 (sCallL g__law_drawn (aCons (aP 1) aNil))) (sSeq (sSet 8 (sCall g_word_of_table (aCons (aV (sVar 7)) aNil))) (sSeq (sIf (sT (sB gNe (aCons (aV (sB gIsNot (aCons (aP 8) (aCons (aV (sC .non)) aNil)))) (aCons (aV (sCall g__law_is_of_word (aCons (aV (sVar 7)) aNil))) aNil)))) (sRet (sC (.bl false))) sNx) (sSeq (sIf (sAnd (sT (sB gIsNot (aCons (aP 8) (aCons (aV (sC .non)) aNil)))) (sT (sB gNe (aCons (aV (sCall g__law_table (aCons (aV (sVar 8)) aNil))) (aCons (aP 7) aNil))))) (sRet (sC (.bl false))) sNx) (sSeq (sSetT (.tp ((.tp ((.nm 9) :: ((.nm 10) :: []))) :: ((.tp ((.nm 11) :: ((.nm 12) :: []))) :: []))) (sVar 5)) (sSeq (sSet 13 (sLst (aCons (aV (sVar 7)) (aCons (aV (sTup (aCons (aV (sTup (aCons (aV (sVar 9)) (aCons (aV (sB gAdd (aCons (aP 10) (aCons (aV (sC (.int 2))) aNil)))) aNil)))) (aCons (aV (sTup (aCons (aV (sVar 11)) (aCons (aV (sVar 12)) aNil)))) aNil)))) (aCons (aV (sTup (aCons (aV (sTup (aCons (aV (sVar 9)) (aCons (aV (sVar 10)) aNil)))) (aCons (aV (sTup (aCons (aV (sVar 11)) (aCons (aV (sB gAdd (aCons (aP 12) (aCons (aV (sC (.int 4))) aNil)))) aNil)))) aNil)))) (aCons (aV (sTup (aCons (aV (sTup (aCons (aV (sVar 12)) (aCons (aV (sVar 10)) aNil)))) (aCons (aV (sTup (aCons (aV (sVar 11)) (aCons (aV (sVar 9)) aNil)))) aNil)))) (aCons (aV (sB gRev (aCons (aP 5) aNil))) (aCons (aV (sB gList (aCons (aP 5) aNil))) (aCons (aV (sTup (aCons (aV (sB gList (aCons (aV (sB gIx (aCons (aP 5) (aCons (aV (sC (.int 0))) aNil)))) aNil))) (aCons (aV (sB gIx (aCons (aP 5) (aCons (aV (sC (.int 1))) aNil)))) aNil)))) (aCons (aV (sSl gSl (aP 5) sNo (sPt (sC (.int 1))))) (aCons (aV (sB gAdd (aCons (aP 5) (aCons (aV (sTup (aCons (aV (sTup (aCons (aV (sC (.int 0))) (aCons (aV (sC (.int 0))) aNil)))) aNil))) aNil)))) aNil))))))))))) (sSeq (sSet 13 (sB gAdd (aCons (aP 13) (aCons (aV (sLst (aCons (aV (sTup (aCons (aV (sTup (aCons (aV (sB gSub (aCons (aV (sC (.int 0))) (aCons (aP 9) aNil)))) (aCons (aV (sB gSub (aCons (aV (sC (.int 0))) (aCons (aP 10) aNil)))) aNil)))) (aCons (aV (sTup (aCons (aV (sB gSub (aCons (aV (sC (.int 0))) (aCons (aP 11) aNil)))) (aCons (aV (sB gSub (aCons (aV (sC (.int 0))) (aCons (aP 12) aNil)))) aNil)))) aNil)))) (aCons (aV (sTup (aCons (aV (sTup (aCons (aV (sC (.bl true))) (aCons (aV (sC (.int 0))) aNil)))) (aCons (aV (sTup (aCons (aV (sC (.int 0))) (aCons (aV (sC (.int 1))) aNil)))) aNil)))) (aCons (aV (sTup (aCons (aV (sTup (aCons (aV (sC (.int 1))) (aCons (aV (sC (.int 0))) aNil)))) (aCons (aV (sTup (aCons (aV (sC (.int 0))) (aCons (aV (sC .non)) aNil)))) aNil)))) (aCons (aV (sC .non)) (aCons (aV (sTup aNil)) (aCons (aV sDic0) (aCons (aV (sC (.int 0))) (aCons (aV (sC (.str "table"))) (aCons (aV (sCallL g__law_deep (aCons (aP 1) aNil))) aNil))))))))))) aNil)))) (sSeq (sSet 14 (sCallL g__law_some (aCons (aP 1) (aCons (aV (sVar 13)) aNil)))) (sIf (sT (sB gNe (aCons (aV (sB gRepr (aCons (aV (sCall g_is_of_word (aCons (aV (sVar 14)) aNil))) aNil))) (aCons (aV (sB gRepr (aCons (aV (sCall g__law_is_of_word (aCons (aV (sVar 14)) aNil))) aNil))) aNil)))) (sRet (sC (.bl false))) sNx)))))))))) [o0, some (.own false h), o2, o3, o4, some (vT t), o6, o7, o8, o9, o10, o11, o12, o13, o14] = .nx [o0, some (.own false h'), o2, o3, o4, some (vT t), o6, some (.val d7), some (.val d8), some (.val d9), some (.val d10), some (.val d11), some (.val d12), some (.val d13), some (.val d14)] := by
  obtain ⟨m, h1, mz, md, ho1, e1⟩ := t__law_drawn hh
  have f7 := fr_plain p7
  have f8 := fr_plain p8
  have lw := t__law_is_of_word (ok3_T m)
  have hq : SqT m := ⟨by omega, md⟩
  rw [ofw_T hq] at lw
  have s1 : ((sSet 7 (sCallL g__law_drawn (aCons (aP 1) aNil)))) [o0, some (.own false h), o2, o3, o4, some (vT t), o6, o7, o8, o9, o10, o11, o12, o13, o14] = .nx [o0, some (.own false h1), o2, o3, o4, some (vT t), o6, some (vT m), o8, o9, o10, o11, o12, o13, o14] := by
    simp only [sSeq, sNx, sIf, sRet, sRetN, sSet, sDo, sB, aCons, aV, aP, aNil, sC, sVar, sMove, sT, sAnd, sOr, sNot, sAndV, sOrV, sNotV, sIfE, sChain, sTup, sLst, sDic0, sSl, sPt, sNo, sCall, sCallL, sPut, sAug, sMeth, isOwn, free_z, free_s, frO_some, frO_none, Out.bind, Out.bs, SO.then, List.getElem?_cons_zero, List.getElem?_cons_succ, List.set_cons_zero, List.set_cons_succ, lookA, look, Wd.dat, Wd.lent, Wd.mut, avD, Option.map, List.map, closeR, outs_nil, outs_val, outs_own, if_true, if_false, Bool.false_eq_true, reduceIte, Bool.not_true, Bool.not_false, Bool.not_not, and_self, and_true, true_and, List.length_nil, List.length_cons, Nat.reduceLeDiff, Nat.reduceAdd, Nat.zero_add, Nat.zero_le, add_int, Fd.gSub, gNeg, gCmp, gLen, abs_int, gInt, gTuple, gList, gRev, gIAdd, e1, f7]
  rcases told_of mz md with ⟨c, w, hw, rfl, e2⟩ | ⟨c, e2⟩
  · have s2 : ((sSet 8 (sCall g_word_of_table (aCons (aV (sVar 7)) aNil)))) [o0, some (.own false h1), o2, o3, o4, some (vT t), o6, some (vT (Ta.tab w)), o8, o9, o10, o11, o12, o13, o14] = .nx [o0, some (.own false h1), o2, o3, o4, some (vT t), o6, some (vT (Ta.tab w)), some (vI w), o9, o10, o11, o12, o13, o14] := by
      simp only [sSeq, sNx, sIf, sRet, sRetN, sSet, sDo, sB, aCons, aV, aP, aNil, sC, sVar, sMove, sT, sAnd, sOr, sNot, sAndV, sOrV, sNotV, sIfE, sChain, sTup, sLst, sDic0, sSl, sPt, sNo, sCall, sCallL, sPut, sAug, sMeth, isOwn, free_z, free_s, frO_some, frO_none, Out.bind, Out.bs, SO.then, List.getElem?_cons_zero, List.getElem?_cons_succ, List.set_cons_zero, List.set_cons_succ, lookA, look, Wd.dat, Wd.lent, Wd.mut, avD, Option.map, List.map, closeR, outs_nil, outs_val, outs_own, if_true, if_false, Bool.false_eq_true, reduceIte, Bool.not_true, Bool.not_false, Bool.not_not, and_self, and_true, true_and, List.length_nil, List.length_cons, Nat.reduceLeDiff, Nat.reduceAdd, Nat.zero_add, Nat.zero_le, add_int, Fd.gSub, gNeg, gCmp, gLen, abs_int, gInt, gTuple, gList, gRev, gIAdd, e2, f8]
    obtain ⟨h', d9, d10, d11, d12, d13, d14, ho, e3⟩ := inner2 (o0 := o0) (o2 := o2) (o3 := o3) (o4 := o4) (o6 := o6) (o8 := some (vI w)) (t := t) (m := Ta.tab w) ho1 p9 p10 p11 p12 p13 p14
    refine ⟨h', tT (Ta.tab w), tI w, d9, d10, d11, d12, d13, d14, ho, ?_⟩
    have tb := t__law_tableL hw
    have nt := ne_TT (Ta.tab w)
    have nb := ne_bb true
    have s3 : ((sIf (sT (sB gNe (aCons (aV (sB gIsNot (aCons (aP 8) (aCons (aV (sC .non)) aNil)))) (aCons (aV (sCall g__law_is_of_word (aCons (aV (sVar 7)) aNil))) aNil)))) (sRet (sC (.bl false))) sNx)) [o0, some (.own false h1), o2, o3, o4, some (vT t), o6, some (vT (Ta.tab w)), some (vI w), o9, o10, o11, o12, o13, o14] = .nx [o0, some (.own false h1), o2, o3, o4, some (vT t), o6, some (vT (Ta.tab w)), some (vI w), o9, o10, o11, o12, o13, o14] := by
      simp only [sSeq, sNx, sIf, sRet, sRetN, sSet, sDo, sB, aCons, aV, aP, aNil, sC, sVar, sMove, sT, sAnd, sOr, sNot, sAndV, sOrV, sNotV, sIfE, sChain, sTup, sLst, sDic0, sSl, sPt, sNo, sCall, sCallL, sPut, sAug, sMeth, isOwn, free_z, free_s, frO_some, frO_none, Out.bind, Out.bs, SO.then, List.getElem?_cons_zero, List.getElem?_cons_succ, List.set_cons_zero, List.set_cons_succ, lookA, look, Wd.dat, Wd.lent, Wd.mut, avD, Option.map, List.map, closeR, outs_nil, outs_val, outs_own, if_true, if_false, Bool.false_eq_true, reduceIte, Bool.not_true, Bool.not_false, Bool.not_not, and_self, and_true, true_and, List.length_nil, List.length_cons, Nat.reduceLeDiff, Nat.reduceAdd, Nat.zero_add, Nat.zero_le, add_int, Fd.gSub, gNeg, gCmp, gLen, abs_int, gInt, gTuple, gList, gRev, gIAdd, gIsNot, lw, c, nb]
    have s4 : ((sIf (sAnd (sT (sB gIsNot (aCons (aP 8) (aCons (aV (sC .non)) aNil)))) (sT (sB gNe (aCons (aV (sCall g__law_table (aCons (aV (sVar 8)) aNil))) (aCons (aP 7) aNil))))) (sRet (sC (.bl false))) sNx)) [o0, some (.own false h1), o2, o3, o4, some (vT t), o6, some (vT (Ta.tab w)), some (vI w), o9, o10, o11, o12, o13, o14] = .nx [o0, some (.own false h1), o2, o3, o4, some (vT t), o6, some (vT (Ta.tab w)), some (vI w), o9, o10, o11, o12, o13, o14] := by
      simp only [sSeq, sNx, sIf, sRet, sRetN, sSet, sDo, sB, aCons, aV, aP, aNil, sC, sVar, sMove, sT, sAnd, sOr, sNot, sAndV, sOrV, sNotV, sIfE, sChain, sTup, sLst, sDic0, sSl, sPt, sNo, sCall, sCallL, sPut, sAug, sMeth, isOwn, free_z, free_s, frO_some, frO_none, Out.bind, Out.bs, SO.then, List.getElem?_cons_zero, List.getElem?_cons_succ, List.set_cons_zero, List.set_cons_succ, lookA, look, Wd.dat, Wd.lent, Wd.mut, avD, Option.map, List.map, closeR, outs_nil, outs_val, outs_own, if_true, if_false, Bool.false_eq_true, reduceIte, Bool.not_true, Bool.not_false, Bool.not_not, and_self, and_true, true_and, List.length_nil, List.length_cons, Nat.reduceLeDiff, Nat.reduceAdd, Nat.zero_add, Nat.zero_le, add_int, Fd.gSub, gNeg, gCmp, gLen, abs_int, gInt, gTuple, gList, gRev, gIAdd, gIsNot, tb, nt]
    rw [seq_nx s1, seq_nx s2, seq_nx s3, seq_nx s4]
    exact e3
  · have s2 : ((sSet 8 (sCall g_word_of_table (aCons (aV (sVar 7)) aNil)))) [o0, some (.own false h1), o2, o3, o4, some (vT t), o6, some (vT m), o8, o9, o10, o11, o12, o13, o14] = .nx [o0, some (.own false h1), o2, o3, o4, some (vT t), o6, some (vT m), some (.val .non), o9, o10, o11, o12, o13, o14] := by
      simp only [sSeq, sNx, sIf, sRet, sRetN, sSet, sDo, sB, aCons, aV, aP, aNil, sC, sVar, sMove, sT, sAnd, sOr, sNot, sAndV, sOrV, sNotV, sIfE, sChain, sTup, sLst, sDic0, sSl, sPt, sNo, sCall, sCallL, sPut, sAug, sMeth, isOwn, free_z, free_s, frO_some, frO_none, Out.bind, Out.bs, SO.then, List.getElem?_cons_zero, List.getElem?_cons_succ, List.set_cons_zero, List.set_cons_succ, lookA, look, Wd.dat, Wd.lent, Wd.mut, avD, Option.map, List.map, closeR, outs_nil, outs_val, outs_own, if_true, if_false, Bool.false_eq_true, reduceIte, Bool.not_true, Bool.not_false, Bool.not_not, and_self, and_true, true_and, List.length_nil, List.length_cons, Nat.reduceLeDiff, Nat.reduceAdd, Nat.zero_add, Nat.zero_le, add_int, Fd.gSub, gNeg, gCmp, gLen, abs_int, gInt, gTuple, gList, gRev, gIAdd, e2, f8]
    obtain ⟨h', d9, d10, d11, d12, d13, d14, ho, e3⟩ := inner2 (o0 := o0) (o2 := o2) (o3 := o3) (o4 := o4) (o6 := o6) (o8 := some (.val .non)) (t := t) (m := m) ho1 p9 p10 p11 p12 p13 p14
    refine ⟨h', tT m, .non, d9, d10, d11, d12, d13, d14, ho, ?_⟩
    have nb := ne_bb false
    have s3 : ((sIf (sT (sB gNe (aCons (aV (sB gIsNot (aCons (aP 8) (aCons (aV (sC .non)) aNil)))) (aCons (aV (sCall g__law_is_of_word (aCons (aV (sVar 7)) aNil))) aNil)))) (sRet (sC (.bl false))) sNx)) [o0, some (.own false h1), o2, o3, o4, some (vT t), o6, some (vT m), some (.val .non), o9, o10, o11, o12, o13, o14] = .nx [o0, some (.own false h1), o2, o3, o4, some (vT t), o6, some (vT m), some (.val .non), o9, o10, o11, o12, o13, o14] := by
      simp only [sSeq, sNx, sIf, sRet, sRetN, sSet, sDo, sB, aCons, aV, aP, aNil, sC, sVar, sMove, sT, sAnd, sOr, sNot, sAndV, sOrV, sNotV, sIfE, sChain, sTup, sLst, sDic0, sSl, sPt, sNo, sCall, sCallL, sPut, sAug, sMeth, isOwn, free_z, free_s, frO_some, frO_none, Out.bind, Out.bs, SO.then, List.getElem?_cons_zero, List.getElem?_cons_succ, List.set_cons_zero, List.set_cons_succ, lookA, look, Wd.dat, Wd.lent, Wd.mut, avD, Option.map, List.map, closeR, outs_nil, outs_val, outs_own, if_true, if_false, Bool.false_eq_true, reduceIte, Bool.not_true, Bool.not_false, Bool.not_not, and_self, and_true, true_and, List.length_nil, List.length_cons, Nat.reduceLeDiff, Nat.reduceAdd, Nat.zero_add, Nat.zero_le, add_int, Fd.gSub, gNeg, gCmp, gLen, abs_int, gInt, gTuple, gList, gRev, gIAdd, gIsNot, lw, c, nb]
    have s4 : ((sIf (sAnd (sT (sB gIsNot (aCons (aP 8) (aCons (aV (sC .non)) aNil)))) (sT (sB gNe (aCons (aV (sCall g__law_table (aCons (aV (sVar 8)) aNil))) (aCons (aP 7) aNil))))) (sRet (sC (.bl false))) sNx)) [o0, some (.own false h1), o2, o3, o4, some (vT t), o6, some (vT m), some (.val .non), o9, o10, o11, o12, o13, o14] = .nx [o0, some (.own false h1), o2, o3, o4, some (vT t), o6, some (vT m), some (.val .non), o9, o10, o11, o12, o13, o14] := by
      simp only [sSeq, sNx, sIf, sRet, sRetN, sSet, sDo, sB, aCons, aV, aP, aNil, sC, sVar, sMove, sT, sAnd, sOr, sNot, sAndV, sOrV, sNotV, sIfE, sChain, sTup, sLst, sDic0, sSl, sPt, sNo, sCall, sCallL, sPut, sAug, sMeth, isOwn, free_z, free_s, frO_some, frO_none, Out.bind, Out.bs, SO.then, List.getElem?_cons_zero, List.getElem?_cons_succ, List.set_cons_zero, List.set_cons_succ, lookA, look, Wd.dat, Wd.lent, Wd.mut, avD, Option.map, List.map, closeR, outs_nil, outs_val, outs_own, if_true, if_false, Bool.false_eq_true, reduceIte, Bool.not_true, Bool.not_false, Bool.not_not, and_self, and_true, true_and, List.length_nil, List.length_cons, Nat.reduceLeDiff, Nat.reduceAdd, Nat.zero_add, Nat.zero_le, add_int, Fd.gSub, gNeg, gCmp, gLen, abs_int, gInt, gTuple, gList, gRev, gIAdd, gIsNot]
    rw [seq_nx s1, seq_nx s2, seq_nx s3, seq_nx s4]
    exact e3
end K27

namespace K27
open PySem Fd
theorem cons_of {α : Type} {n : Nat} {l : List α} (h : l.length = n + 1) : ∃ x t, l = x :: t ∧ t.length = n := by
  cases l with
  | nil => cases h
  | cons x t => exact ⟨x, t, rfl, by simpa using h⟩
/-- the first part of a turn -/
theorem turn1 {n0 : Wd} {h : List D} {o2 o3 o4 o5 : Option Wd} {r : Fr} (hh : HandOk h) (p3 : plainO o3 = true) (p4 : plainO o4 = true) (p5 : plainO o5 = true) (hr : ∃ a b c d e f g i j, r = [a, b, c, d, e, f, g, i, j]) :
    ∃ (h' : List D) (w v : List Int), HandOk h' ∧ ((sSeq (sPar2 3 4 (sCallL g__law_word (aCons (aP 1) (aCons (aV (sC (.int 2))) (aCons (aV (sC (.int 10))) aNil)))) (sCallL g__law_word (aCons (aP 1) (aCons (aV (sC (.int 2))) (aCons (aV (sC (.int 6))) aNil))))) (sSeq (sSet 5 (sCall g__law_table (aCons (aV (sVar 3)) aNil))) (sSeq (sIf (sT (sB gNe (aCons (aV (sCall g_table_of (aCons (aV (sVar 3)) aNil))) (aCons (aP 5) aNil)))) (sRet (sC (.bl false))) sNx) (sSeq (sIf (sNot (sT (sCall g__law_is_of_word (aCons (aV (sVar 5)) aNil)))) (sRet (sC (.bl false))) sNx) (sSeq (sIf (sT (sB gNe (aCons (aV (sCall g_word_of_table (aCons (aV (sVar 5)) aNil))) (aCons (aP 3) aNil)))) (sRet (sC (.bl false))) sNx) (sSeq (sIf (sT (sB gIsNot (aCons (aV (sCall g_is_of_word (aCons (aV (sVar 5)) aNil))) (aCons (aV (sC (.bl true))) aNil)))) (sRet (sC (.bl false))) sNx) (sSeq (sIf (sT (sB gNe (aCons (aV (sCall g_table_of (aCons (aV (sCall g_product (aCons (aV (sC (.int 2))) (aCons (aV (sVar 3)) (aCons (aV (sVar 4)) aNil))))) aNil))) (aCons (aV (sCall g__law_times (aCons (aV (sVar 5)) (aCons (aV (sCall g__law_table (aCons (aV (sVar 4)) aNil))) aNil)))) aNil)))) (sRet (sC (.bl false))) sNx) (sSeq (sIf (sT (sB gNe (aCons (aV (sB gEq (aCons (aP 5) (aCons (aV (sCall g__law_table (aCons (aV (sVar 4)) aNil))) aNil)))) (aCons (aV (sB gEq (aCons (aP 3) (aCons (aP 4) aNil)))) aNil)))) (sRet (sC (.bl false))) sNx) (sFor (.nm 6) (sRange1 (aCons (aV (sC (.int 3))) aNil)) (sSeq (sSet 7 (sCallL g__law_drawn (aCons (aP 1) aNil))) (sSeq (sSet 8 (sCall g_word_of_table (aCons (aV (sVar 7)) aNil))) (sSeq (sIf (sT (sB gNe (aCons (aV (sB gIsNot (aCons (aP 8) (aCons (aV (sC .non)) aNil)))) (aCons (aV (sCall g__law_is_of_word (aCons (aV (sVar 7)) aNil))) aNil)))) (sRet (sC (.bl false))) sNx) (sSeq (sIf (sAnd (sT (sB gIsNot (aCons (aP 8) (aCons (aV (sC .non)) aNil)))) (sT (sB gNe (aCons (aV (sCall g__law_table (aCons (aV (sVar 8)) aNil))) (aCons (aP 7) aNil))))) (sRet (sC (.bl false))) sNx) (sSeq (sSetT (.tp ((.tp ((.nm 9) :: ((.nm 10) :: []))) :: ((.tp ((.nm 11) :: ((.nm 12) :: []))) :: []))) (sVar 5)) (sSeq (sSet 13 (sLst (aCons (aV (sVar 7)) (aCons (aV (sTup (aCons (aV (sTup (aCons (aV (sVar 9)) (aCons (aV (sB gAdd (aCons (aP 10) (aCons (aV (sC (.int 2))) aNil)))) aNil)))) (aCons (aV (sTup (aCons (aV (sVar 11)) (aCons (aV (sVar 12)) aNil)))) aNil)))) (aCons (aV (sTup (aCons (aV (sTup (aCons (aV (sVar 9)) (aCons (aV (sVar 10)) aNil)))) (aCons (aV (sTup (aCons (aV (sVar 11)) (aCons (aV (sB gAdd (aCons (aP 12) (aCons (aV (sC (.int 4))) aNil)))) aNil)))) aNil)))) (aCons (aV (sTup (aCons (aV (sTup (aCons (aV (sVar 12)) (aCons (aV (sVar 10)) aNil)))) (aCons (aV (sTup (aCons (aV (sVar 11)) (aCons (aV (sVar 9)) aNil)))) aNil)))) (aCons (aV (sB gRev (aCons (aP 5) aNil))) (aCons (aV (sB gList (aCons (aP 5) aNil))) (aCons (aV (sTup (aCons (aV (sB gList (aCons (aV (sB gIx (aCons (aP 5) (aCons (aV (sC (.int 0))) aNil)))) aNil))) (aCons (aV (sB gIx (aCons (aP 5) (aCons (aV (sC (.int 1))) aNil)))) aNil)))) (aCons (aV (sSl gSl (aP 5) sNo (sPt (sC (.int 1))))) (aCons (aV (sB gAdd (aCons (aP 5) (aCons (aV (sTup (aCons (aV (sTup (aCons (aV (sC (.int 0))) (aCons (aV (sC (.int 0))) aNil)))) aNil))) aNil)))) aNil))))))))))) (sSeq (sSet 13 (sB gAdd (aCons (aP 13) (aCons (aV (sLst (aCons (aV (sTup (aCons (aV (sTup (aCons (aV (sB gSub (aCons (aV (sC (.int 0))) (aCons (aP 9) aNil)))) (aCons (aV (sB gSub (aCons (aV (sC (.int 0))) (aCons (aP 10) aNil)))) aNil)))) (aCons (aV (sTup (aCons (aV (sB gSub (aCons (aV (sC (.int 0))) (aCons (aP 11) aNil)))) (aCons (aV (sB gSub (aCons (aV (sC (.int 0))) (aCons (aP 12) aNil)))) aNil)))) aNil)))) (aCons (aV (sTup (aCons (aV (sTup (aCons (aV (sC (.bl true))) (aCons (aV (sC (.int 0))) aNil)))) (aCons (aV (sTup (aCons (aV (sC (.int 0))) (aCons (aV (sC (.int 1))) aNil)))) aNil)))) (aCons (aV (sTup (aCons (aV (sTup (aCons (aV (sC (.int 1))) (aCons (aV (sC (.int 0))) aNil)))) (aCons (aV (sTup (aCons (aV (sC (.int 0))) (aCons (aV (sC .non)) aNil)))) aNil)))) (aCons (aV (sC .non)) (aCons (aV (sTup aNil)) (aCons (aV sDic0) (aCons (aV (sC (.int 0))) (aCons (aV (sC (.str "table"))) (aCons (aV (sCallL g__law_deep (aCons (aP 1) aNil))) aNil))))))))))) aNil)))) (sSeq (sSet 14 (sCallL g__law_some (aCons (aP 1) (aCons (aV (sVar 13)) aNil)))) (sIf (sT (sB gNe (aCons (aV (sB gRepr (aCons (aV (sCall g_is_of_word (aCons (aV (sVar 14)) aNil))) aNil))) (aCons (aV (sB gRepr (aCons (aV (sCall g__law_is_of_word (aCons (aV (sVar 14)) aNil))) aNil))) aNil)))) (sRet (sC (.bl false))) sNx))))))))))))))))))) (some n0 :: some (.own false h) :: o2 :: o3 :: o4 :: o5 :: r) = ((sFor (.nm 6) (sRange1 (aCons (aV (sC (.int 3))) aNil)) (sSeq (sSet 7 (sCallL g__law_drawn (aCons (aP 1) aNil))) (sSeq (sSet 8 (sCall g_word_of_table (aCons (aV (sVar 7)) aNil))) (sSeq (sIf (sT (sB gNe (aCons (aV (sB gIsNot (aCons (aP 8) (aCons (aV (sC .non)) aNil)))) (aCons (aV (sCall g__law_is_of_word (aCons (aV (sVar 7)) aNil))) aNil)))) (sRet (sC (.bl false))) sNx) (sSeq (sIf (sAnd (sT (sB gIsNot (aCons (aP 8) (aCons (aV (sC .non)) aNil)))) (sT (sB gNe (aCons (aV (sCall g__law_table (aCons (aV (sVar 8)) aNil))) (aCons (aP 7) aNil))))) (sRet (sC (.bl false))) sNx) (sSeq (sSetT (.tp ((.tp ((.nm 9) :: ((.nm 10) :: []))) :: ((.tp ((.nm 11) :: ((.nm 12) :: []))) :: []))) (sVar 5)) (sSeq (sSet 13 (sLst (aCons (aV (sVar 7)) (aCons (aV (sTup (aCons (aV (sTup (aCons (aV (sVar 9)) (aCons (aV (sB gAdd (aCons (aP 10) (aCons (aV (sC (.int 2))) aNil)))) aNil)))) (aCons (aV (sTup (aCons (aV (sVar 11)) (aCons (aV (sVar 12)) aNil)))) aNil)))) (aCons (aV (sTup (aCons (aV (sTup (aCons (aV (sVar 9)) (aCons (aV (sVar 10)) aNil)))) (aCons (aV (sTup (aCons (aV (sVar 11)) (aCons (aV (sB gAdd (aCons (aP 12) (aCons (aV (sC (.int 4))) aNil)))) aNil)))) aNil)))) (aCons (aV (sTup (aCons (aV (sTup (aCons (aV (sVar 12)) (aCons (aV (sVar 10)) aNil)))) (aCons (aV (sTup (aCons (aV (sVar 11)) (aCons (aV (sVar 9)) aNil)))) aNil)))) (aCons (aV (sB gRev (aCons (aP 5) aNil))) (aCons (aV (sB gList (aCons (aP 5) aNil))) (aCons (aV (sTup (aCons (aV (sB gList (aCons (aV (sB gIx (aCons (aP 5) (aCons (aV (sC (.int 0))) aNil)))) aNil))) (aCons (aV (sB gIx (aCons (aP 5) (aCons (aV (sC (.int 1))) aNil)))) aNil)))) (aCons (aV (sSl gSl (aP 5) sNo (sPt (sC (.int 1))))) (aCons (aV (sB gAdd (aCons (aP 5) (aCons (aV (sTup (aCons (aV (sTup (aCons (aV (sC (.int 0))) (aCons (aV (sC (.int 0))) aNil)))) aNil))) aNil)))) aNil))))))))))) (sSeq (sSet 13 (sB gAdd (aCons (aP 13) (aCons (aV (sLst (aCons (aV (sTup (aCons (aV (sTup (aCons (aV (sB gSub (aCons (aV (sC (.int 0))) (aCons (aP 9) aNil)))) (aCons (aV (sB gSub (aCons (aV (sC (.int 0))) (aCons (aP 10) aNil)))) aNil)))) (aCons (aV (sTup (aCons (aV (sB gSub (aCons (aV (sC (.int 0))) (aCons (aP 11) aNil)))) (aCons (aV (sB gSub (aCons (aV (sC (.int 0))) (aCons (aP 12) aNil)))) aNil)))) aNil)))) (aCons (aV (sTup (aCons (aV (sTup (aCons (aV (sC (.bl true))) (aCons (aV (sC (.int 0))) aNil)))) (aCons (aV (sTup (aCons (aV (sC (.int 0))) (aCons (aV (sC (.int 1))) aNil)))) aNil)))) (aCons (aV (sTup (aCons (aV (sTup (aCons (aV (sC (.int 1))) (aCons (aV (sC (.int 0))) aNil)))) (aCons (aV (sTup (aCons (aV (sC (.int 0))) (aCons (aV (sC .non)) aNil)))) aNil)))) (aCons (aV (sC .non)) (aCons (aV (sTup aNil)) (aCons (aV sDic0) (aCons (aV (sC (.int 0))) (aCons (aV (sC (.str "table"))) (aCons (aV (sCallL g__law_deep (aCons (aP 1) aNil))) aNil))))))))))) aNil)))) (sSeq (sSet 14 (sCallL g__law_some (aCons (aP 1) (aCons (aV (sVar 13)) aNil)))) (sIf (sT (sB gNe (aCons (aV (sB gRepr (aCons (aV (sCall g_is_of_word (aCons (aV (sVar 14)) aNil))) aNil))) (aCons (aV (sB gRepr (aCons (aV (sCall g__law_is_of_word (aCons (aV (sVar 14)) aNil))) aNil))) aNil)))) (sRet (sC (.bl false))) sNx))))))))))) (some n0 :: some (.own false h') :: o2 :: some (vI w) :: some (vI v) :: some (vT (Ta.tab w)) :: r) := by
  obtain ⟨a, b, c, d, e, f, g, i, j, rfl⟩ := hr
  obtain ⟨w, h1, ww, ho1, e1⟩ := t__law_word hh (m := 10) (by decide)
  obtain ⟨v, h2, wv, ho2, e2⟩ := t__law_word ho1 (m := 6) (by decide)
  have lw := ww.ln
  have lv := wv.ln
  have f3 := fr_plain p3
  have f4 := fr_plain p4
  have f5 := fr_plain p5
  obtain ⟨tj, wj⟩ := tab_join ww wv
  have lj := wj.ln
  have sa := Ta.sa_tab ww.le
  have zw := sz_word ww.le (by omega)
  have sq1 : SqT (Ta.tab w) := ⟨by omega, sa.de⟩
  have sm : Sm (Ta.tab w) := by unfold Sm; omega
  have q1 := t__law_table ww.le (by omega)
  have q2 := t__law_table wv.le (by omega)
  have q3 := t_table_of (ww.word (by decide)) (by omega)
  have q4 := t__law_is_of_word (ok3_T (Ta.tab w))
  have q5 := t_is_of_word (ok3_T (Ta.tab w))
  rw [ofw_T sq1, saB_of sa] at q4 q5
  have q6 := t_word_yes sq1 (saB_of sa) (Ta.path_word ww.le (rd_rd ww.rd)) (by omega)
  have q7 := t_product ww wv (by decide) (by decide)
  have q8 := t_table_of (wj.word (by decide)) (by omega)
  rw [tj] at q8
  have q9 := t__law_times (n := Ta.tab v) sm
  have n1 := ne_TT (Ta.tab w)
  have n2 := ne_II w
  have n3 := ne_TT (Ta.mul (Ta.tab w) (Ta.tab v))
  have e3 := eq_T (Ta.tab w) (Ta.tab v)
  have e4 : gEq [tI w, tI v] = _ := eq_ints w v
  have hd : decide (Ta.tab w = Ta.tab v) = decide (w = v) := by
    apply decide_eq_decide.mpr
    exact ⟨fun q => Ta.tab_inj ww.le (rd_rd ww.rd) wv.le (rd_rd wv.rd) q, fun q => by rw [q]⟩
  rw [hd] at e3
  have n4 := ne_bb (decide (w = v))
  refine ⟨h2, w, v, ho2, ?_⟩
  have s0 : ((sPar2 3 4 (sCallL g__law_word (aCons (aP 1) (aCons (aV (sC (.int 2))) (aCons (aV (sC (.int 10))) aNil)))) (sCallL g__law_word (aCons (aP 1) (aCons (aV (sC (.int 2))) (aCons (aV (sC (.int 6))) aNil)))))) [some n0, some (.own false h), o2, o3, o4, o5, a, b, c, d, e, f, g, i, j] = .nx [some n0, some (.own false h2), o2, some (vI w), some (vI v), o5, a, b, c, d, e, f, g, i, j] := by
    simp only [sSeq, sNx, sIf, sRet, sRetN, sSet, sDo, sB, aCons, aV, aP, aNil, sC, sVar, sMove, sT, sAnd, sOr, sNot, sAndV, sOrV, sNotV, sIfE, sChain, sTup, sLst, sDic0, sSl, sPt, sNo, sCall, sCallL, sPut, sAug, sMeth, isOwn, free_z, free_s, frO_some, frO_none, Out.bind, Out.bs, SO.then, List.getElem?_cons_zero, List.getElem?_cons_succ, List.set_cons_zero, List.set_cons_succ, lookA, look, Wd.dat, Wd.lent, Wd.mut, avD, Option.map, List.map, closeR, outs_nil, outs_val, outs_own, if_true, if_false, Bool.false_eq_true, reduceIte, Bool.not_true, Bool.not_false, Bool.not_not, and_self, and_true, true_and, List.length_nil, List.length_cons, Nat.reduceLeDiff, Nat.reduceAdd, Nat.zero_add, Nat.zero_le, add_int, Fd.gSub, gNeg, gCmp, gLen, abs_int, gInt, gTuple, gList, gRev, gIAdd, sPar2, e1, e2, f3, f4]
  have s1 : ((sSet 5 (sCall g__law_table (aCons (aV (sVar 3)) aNil)))) [some n0, some (.own false h2), o2, some (vI w), some (vI v), o5, a, b, c, d, e, f, g, i, j] = .nx [some n0, some (.own false h2), o2, some (vI w), some (vI v), some (vT (Ta.tab w)), a, b, c, d, e, f, g, i, j] := by
    simp only [sSeq, sNx, sIf, sRet, sRetN, sSet, sDo, sB, aCons, aV, aP, aNil, sC, sVar, sMove, sT, sAnd, sOr, sNot, sAndV, sOrV, sNotV, sIfE, sChain, sTup, sLst, sDic0, sSl, sPt, sNo, sCall, sCallL, sPut, sAug, sMeth, isOwn, free_z, free_s, frO_some, frO_none, Out.bind, Out.bs, SO.then, List.getElem?_cons_zero, List.getElem?_cons_succ, List.set_cons_zero, List.set_cons_succ, lookA, look, Wd.dat, Wd.lent, Wd.mut, avD, Option.map, List.map, closeR, outs_nil, outs_val, outs_own, if_true, if_false, Bool.false_eq_true, reduceIte, Bool.not_true, Bool.not_false, Bool.not_not, and_self, and_true, true_and, List.length_nil, List.length_cons, Nat.reduceLeDiff, Nat.reduceAdd, Nat.zero_add, Nat.zero_le, add_int, Fd.gSub, gNeg, gCmp, gLen, abs_int, gInt, gTuple, gList, gRev, gIAdd, q1, f5]
  have s2 : ((sIf (sT (sB gNe (aCons (aV (sCall g_table_of (aCons (aV (sVar 3)) aNil))) (aCons (aP 5) aNil)))) (sRet (sC (.bl false))) sNx)) [some n0, some (.own false h2), o2, some (vI w), some (vI v), some (vT (Ta.tab w)), a, b, c, d, e, f, g, i, j] = .nx [some n0, some (.own false h2), o2, some (vI w), some (vI v), some (vT (Ta.tab w)), a, b, c, d, e, f, g, i, j] := by
    simp only [sSeq, sNx, sIf, sRet, sRetN, sSet, sDo, sB, aCons, aV, aP, aNil, sC, sVar, sMove, sT, sAnd, sOr, sNot, sAndV, sOrV, sNotV, sIfE, sChain, sTup, sLst, sDic0, sSl, sPt, sNo, sCall, sCallL, sPut, sAug, sMeth, isOwn, free_z, free_s, frO_some, frO_none, Out.bind, Out.bs, SO.then, List.getElem?_cons_zero, List.getElem?_cons_succ, List.set_cons_zero, List.set_cons_succ, lookA, look, Wd.dat, Wd.lent, Wd.mut, avD, Option.map, List.map, closeR, outs_nil, outs_val, outs_own, if_true, if_false, Bool.false_eq_true, reduceIte, Bool.not_true, Bool.not_false, Bool.not_not, and_self, and_true, true_and, List.length_nil, List.length_cons, Nat.reduceLeDiff, Nat.reduceAdd, Nat.zero_add, Nat.zero_le, add_int, Fd.gSub, gNeg, gCmp, gLen, abs_int, gInt, gTuple, gList, gRev, gIAdd, q3, n1]
  have s3 : ((sIf (sNot (sT (sCall g__law_is_of_word (aCons (aV (sVar 5)) aNil)))) (sRet (sC (.bl false))) sNx)) [some n0, some (.own false h2), o2, some (vI w), some (vI v), some (vT (Ta.tab w)), a, b, c, d, e, f, g, i, j] = .nx [some n0, some (.own false h2), o2, some (vI w), some (vI v), some (vT (Ta.tab w)), a, b, c, d, e, f, g, i, j] := by
    simp only [sSeq, sNx, sIf, sRet, sRetN, sSet, sDo, sB, aCons, aV, aP, aNil, sC, sVar, sMove, sT, sAnd, sOr, sNot, sAndV, sOrV, sNotV, sIfE, sChain, sTup, sLst, sDic0, sSl, sPt, sNo, sCall, sCallL, sPut, sAug, sMeth, isOwn, free_z, free_s, frO_some, frO_none, Out.bind, Out.bs, SO.then, List.getElem?_cons_zero, List.getElem?_cons_succ, List.set_cons_zero, List.set_cons_succ, lookA, look, Wd.dat, Wd.lent, Wd.mut, avD, Option.map, List.map, closeR, outs_nil, outs_val, outs_own, if_true, if_false, Bool.false_eq_true, reduceIte, Bool.not_true, Bool.not_false, Bool.not_not, and_self, and_true, true_and, List.length_nil, List.length_cons, Nat.reduceLeDiff, Nat.reduceAdd, Nat.zero_add, Nat.zero_le, add_int, Fd.gSub, gNeg, gCmp, gLen, abs_int, gInt, gTuple, gList, gRev, gIAdd, q4]
  have s4 : ((sIf (sT (sB gNe (aCons (aV (sCall g_word_of_table (aCons (aV (sVar 5)) aNil))) (aCons (aP 3) aNil)))) (sRet (sC (.bl false))) sNx)) [some n0, some (.own false h2), o2, some (vI w), some (vI v), some (vT (Ta.tab w)), a, b, c, d, e, f, g, i, j] = .nx [some n0, some (.own false h2), o2, some (vI w), some (vI v), some (vT (Ta.tab w)), a, b, c, d, e, f, g, i, j] := by
    simp only [sSeq, sNx, sIf, sRet, sRetN, sSet, sDo, sB, aCons, aV, aP, aNil, sC, sVar, sMove, sT, sAnd, sOr, sNot, sAndV, sOrV, sNotV, sIfE, sChain, sTup, sLst, sDic0, sSl, sPt, sNo, sCall, sCallL, sPut, sAug, sMeth, isOwn, free_z, free_s, frO_some, frO_none, Out.bind, Out.bs, SO.then, List.getElem?_cons_zero, List.getElem?_cons_succ, List.set_cons_zero, List.set_cons_succ, lookA, look, Wd.dat, Wd.lent, Wd.mut, avD, Option.map, List.map, closeR, outs_nil, outs_val, outs_own, if_true, if_false, Bool.false_eq_true, reduceIte, Bool.not_true, Bool.not_false, Bool.not_not, and_self, and_true, true_and, List.length_nil, List.length_cons, Nat.reduceLeDiff, Nat.reduceAdd, Nat.zero_add, Nat.zero_le, add_int, Fd.gSub, gNeg, gCmp, gLen, abs_int, gInt, gTuple, gList, gRev, gIAdd, q6, n2]
  have s5 : ((sIf (sT (sB gIsNot (aCons (aV (sCall g_is_of_word (aCons (aV (sVar 5)) aNil))) (aCons (aV (sC (.bl true))) aNil)))) (sRet (sC (.bl false))) sNx)) [some n0, some (.own false h2), o2, some (vI w), some (vI v), some (vT (Ta.tab w)), a, b, c, d, e, f, g, i, j] = .nx [some n0, some (.own false h2), o2, some (vI w), some (vI v), some (vT (Ta.tab w)), a, b, c, d, e, f, g, i, j] := by
    simp only [sSeq, sNx, sIf, sRet, sRetN, sSet, sDo, sB, aCons, aV, aP, aNil, sC, sVar, sMove, sT, sAnd, sOr, sNot, sAndV, sOrV, sNotV, sIfE, sChain, sTup, sLst, sDic0, sSl, sPt, sNo, sCall, sCallL, sPut, sAug, sMeth, isOwn, free_z, free_s, frO_some, frO_none, Out.bind, Out.bs, SO.then, List.getElem?_cons_zero, List.getElem?_cons_succ, List.set_cons_zero, List.set_cons_succ, lookA, look, Wd.dat, Wd.lent, Wd.mut, avD, Option.map, List.map, closeR, outs_nil, outs_val, outs_own, if_true, if_false, Bool.false_eq_true, reduceIte, Bool.not_true, Bool.not_false, Bool.not_not, and_self, and_true, true_and, List.length_nil, List.length_cons, Nat.reduceLeDiff, Nat.reduceAdd, Nat.zero_add, Nat.zero_le, add_int, Fd.gSub, gNeg, gCmp, gLen, abs_int, gInt, gTuple, gList, gRev, gIAdd, q5, gIsNot, decide_true]
  have s6 : ((sIf (sT (sB gNe (aCons (aV (sCall g_table_of (aCons (aV (sCall g_product (aCons (aV (sC (.int 2))) (aCons (aV (sVar 3)) (aCons (aV (sVar 4)) aNil))))) aNil))) (aCons (aV (sCall g__law_times (aCons (aV (sVar 5)) (aCons (aV (sCall g__law_table (aCons (aV (sVar 4)) aNil))) aNil)))) aNil)))) (sRet (sC (.bl false))) sNx)) [some n0, some (.own false h2), o2, some (vI w), some (vI v), some (vT (Ta.tab w)), a, b, c, d, e, f, g, i, j] = .nx [some n0, some (.own false h2), o2, some (vI w), some (vI v), some (vT (Ta.tab w)), a, b, c, d, e, f, g, i, j] := by
    simp only [sSeq, sNx, sIf, sRet, sRetN, sSet, sDo, sB, aCons, aV, aP, aNil, sC, sVar, sMove, sT, sAnd, sOr, sNot, sAndV, sOrV, sNotV, sIfE, sChain, sTup, sLst, sDic0, sSl, sPt, sNo, sCall, sCallL, sPut, sAug, sMeth, isOwn, free_z, free_s, frO_some, frO_none, Out.bind, Out.bs, SO.then, List.getElem?_cons_zero, List.getElem?_cons_succ, List.set_cons_zero, List.set_cons_succ, lookA, look, Wd.dat, Wd.lent, Wd.mut, avD, Option.map, List.map, closeR, outs_nil, outs_val, outs_own, if_true, if_false, Bool.false_eq_true, reduceIte, Bool.not_true, Bool.not_false, Bool.not_not, and_self, and_true, true_and, List.length_nil, List.length_cons, Nat.reduceLeDiff, Nat.reduceAdd, Nat.zero_add, Nat.zero_le, add_int, Fd.gSub, gNeg, gCmp, gLen, abs_int, gInt, gTuple, gList, gRev, gIAdd, q7, q8, q2, q9, n3]
  have s7 : ((sIf (sT (sB gNe (aCons (aV (sB gEq (aCons (aP 5) (aCons (aV (sCall g__law_table (aCons (aV (sVar 4)) aNil))) aNil)))) (aCons (aV (sB gEq (aCons (aP 3) (aCons (aP 4) aNil)))) aNil)))) (sRet (sC (.bl false))) sNx)) [some n0, some (.own false h2), o2, some (vI w), some (vI v), some (vT (Ta.tab w)), a, b, c, d, e, f, g, i, j] = .nx [some n0, some (.own false h2), o2, some (vI w), some (vI v), some (vT (Ta.tab w)), a, b, c, d, e, f, g, i, j] := by
    simp only [sSeq, sNx, sIf, sRet, sRetN, sSet, sDo, sB, aCons, aV, aP, aNil, sC, sVar, sMove, sT, sAnd, sOr, sNot, sAndV, sOrV, sNotV, sIfE, sChain, sTup, sLst, sDic0, sSl, sPt, sNo, sCall, sCallL, sPut, sAug, sMeth, isOwn, free_z, free_s, frO_some, frO_none, Out.bind, Out.bs, SO.then, List.getElem?_cons_zero, List.getElem?_cons_succ, List.set_cons_zero, List.set_cons_succ, lookA, look, Wd.dat, Wd.lent, Wd.mut, avD, Option.map, List.map, closeR, outs_nil, outs_val, outs_own, if_true, if_false, Bool.false_eq_true, reduceIte, Bool.not_true, Bool.not_false, Bool.not_not, and_self, and_true, true_and, List.length_nil, List.length_cons, Nat.reduceLeDiff, Nat.reduceAdd, Nat.zero_add, Nat.zero_le, add_int, Fd.gSub, gNeg, gCmp, gLen, abs_int, gInt, gTuple, gList, gRev, gIAdd, q2, e3, e4, n4]
  rw [seq_nx s0, seq_nx s1, seq_nx s2, seq_nx s3, seq_nx s4, seq_nx s5, seq_nx s6, seq_nx s7]
/-- slots that are plain -/
def Pl (l : Fr) : Prop := ∀ o ∈ l, plainO o = true
theorem good : Good g_law := by
  intro ns _
  obtain ⟨h, hh, q0⟩ := t__law_hand ns
  have k1 := c1
  have k2 := c2
  have k3 := c3
  have n1 := ne_TT ⟨5, 2, 2, 1⟩
  have n2 := ne_II [1, 1]
  simp only [tT, tI, List.map] at n1 n2
  have lp := loop_inv (enc := fun k : Nat => D.int (k : Int)) (tg := .nm 2) (body := (sSeq (sPar2 3 4 (sCallL g__law_word (aCons (aP 1) (aCons (aV (sC (.int 2))) (aCons (aV (sC (.int 10))) aNil)))) (sCallL g__law_word (aCons (aP 1) (aCons (aV (sC (.int 2))) (aCons (aV (sC (.int 6))) aNil))))) (sSeq (sSet 5 (sCall g__law_table (aCons (aV (sVar 3)) aNil))) (sSeq (sIf (sT (sB gNe (aCons (aV (sCall g_table_of (aCons (aV (sVar 3)) aNil))) (aCons (aP 5) aNil)))) (sRet (sC (.bl false))) sNx) (sSeq (sIf (sNot (sT (sCall g__law_is_of_word (aCons (aV (sVar 5)) aNil)))) (sRet (sC (.bl false))) sNx) (sSeq (sIf (sT (sB gNe (aCons (aV (sCall g_word_of_table (aCons (aV (sVar 5)) aNil))) (aCons (aP 3) aNil)))) (sRet (sC (.bl false))) sNx) (sSeq (sIf (sT (sB gIsNot (aCons (aV (sCall g_is_of_word (aCons (aV (sVar 5)) aNil))) (aCons (aV (sC (.bl true))) aNil)))) (sRet (sC (.bl false))) sNx) (sSeq (sIf (sT (sB gNe (aCons (aV (sCall g_table_of (aCons (aV (sCall g_product (aCons (aV (sC (.int 2))) (aCons (aV (sVar 3)) (aCons (aV (sVar 4)) aNil))))) aNil))) (aCons (aV (sCall g__law_times (aCons (aV (sVar 5)) (aCons (aV (sCall g__law_table (aCons (aV (sVar 4)) aNil))) aNil)))) aNil)))) (sRet (sC (.bl false))) sNx) (sSeq (sIf (sT (sB gNe (aCons (aV (sB gEq (aCons (aP 5) (aCons (aV (sCall g__law_table (aCons (aV (sVar 4)) aNil))) aNil)))) (aCons (aV (sB gEq (aCons (aP 3) (aCons (aP 4) aNil)))) aNil)))) (sRet (sC (.bl false))) sNx) (sFor (.nm 6) (sRange1 (aCons (aV (sC (.int 3))) aNil)) (sSeq (sSet 7 (sCallL g__law_drawn (aCons (aP 1) aNil))) (sSeq (sSet 8 (sCall g_word_of_table (aCons (aV (sVar 7)) aNil))) (sSeq (sIf (sT (sB gNe (aCons (aV (sB gIsNot (aCons (aP 8) (aCons (aV (sC .non)) aNil)))) (aCons (aV (sCall g__law_is_of_word (aCons (aV (sVar 7)) aNil))) aNil)))) (sRet (sC (.bl false))) sNx) (sSeq (sIf (sAnd (sT (sB gIsNot (aCons (aP 8) (aCons (aV (sC .non)) aNil)))) (sT (sB gNe (aCons (aV (sCall g__law_table (aCons (aV (sVar 8)) aNil))) (aCons (aP 7) aNil))))) (sRet (sC (.bl false))) sNx) (sSeq (sSetT (.tp ((.tp ((.nm 9) :: ((.nm 10) :: []))) :: ((.tp ((.nm 11) :: ((.nm 12) :: []))) :: []))) (sVar 5)) (sSeq (sSet 13 (sLst (aCons (aV (sVar 7)) (aCons (aV (sTup (aCons (aV (sTup (aCons (aV (sVar 9)) (aCons (aV (sB gAdd (aCons (aP 10) (aCons (aV (sC (.int 2))) aNil)))) aNil)))) (aCons (aV (sTup (aCons (aV (sVar 11)) (aCons (aV (sVar 12)) aNil)))) aNil)))) (aCons (aV (sTup (aCons (aV (sTup (aCons (aV (sVar 9)) (aCons (aV (sVar 10)) aNil)))) (aCons (aV (sTup (aCons (aV (sVar 11)) (aCons (aV (sB gAdd (aCons (aP 12) (aCons (aV (sC (.int 4))) aNil)))) aNil)))) aNil)))) (aCons (aV (sTup (aCons (aV (sTup (aCons (aV (sVar 12)) (aCons (aV (sVar 10)) aNil)))) (aCons (aV (sTup (aCons (aV (sVar 11)) (aCons (aV (sVar 9)) aNil)))) aNil)))) (aCons (aV (sB gRev (aCons (aP 5) aNil))) (aCons (aV (sB gList (aCons (aP 5) aNil))) (aCons (aV (sTup (aCons (aV (sB gList (aCons (aV (sB gIx (aCons (aP 5) (aCons (aV (sC (.int 0))) aNil)))) aNil))) (aCons (aV (sB gIx (aCons (aP 5) (aCons (aV (sC (.int 1))) aNil)))) aNil)))) (aCons (aV (sSl gSl (aP 5) sNo (sPt (sC (.int 1))))) (aCons (aV (sB gAdd (aCons (aP 5) (aCons (aV (sTup (aCons (aV (sTup (aCons (aV (sC (.int 0))) (aCons (aV (sC (.int 0))) aNil)))) aNil))) aNil)))) aNil))))))))))) (sSeq (sSet 13 (sB gAdd (aCons (aP 13) (aCons (aV (sLst (aCons (aV (sTup (aCons (aV (sTup (aCons (aV (sB gSub (aCons (aV (sC (.int 0))) (aCons (aP 9) aNil)))) (aCons (aV (sB gSub (aCons (aV (sC (.int 0))) (aCons (aP 10) aNil)))) aNil)))) (aCons (aV (sTup (aCons (aV (sB gSub (aCons (aV (sC (.int 0))) (aCons (aP 11) aNil)))) (aCons (aV (sB gSub (aCons (aV (sC (.int 0))) (aCons (aP 12) aNil)))) aNil)))) aNil)))) (aCons (aV (sTup (aCons (aV (sTup (aCons (aV (sC (.bl true))) (aCons (aV (sC (.int 0))) aNil)))) (aCons (aV (sTup (aCons (aV (sC (.int 0))) (aCons (aV (sC (.int 1))) aNil)))) aNil)))) (aCons (aV (sTup (aCons (aV (sTup (aCons (aV (sC (.int 1))) (aCons (aV (sC (.int 0))) aNil)))) (aCons (aV (sTup (aCons (aV (sC (.int 0))) (aCons (aV (sC .non)) aNil)))) aNil)))) (aCons (aV (sC .non)) (aCons (aV (sTup aNil)) (aCons (aV sDic0) (aCons (aV (sC (.int 0))) (aCons (aV (sC (.str "table"))) (aCons (aV (sCallL g__law_deep (aCons (aP 1) aNil))) aNil))))))))))) aNil)))) (sSeq (sSet 14 (sCallL g__law_some (aCons (aP 1) (aCons (aV (sVar 13)) aNil)))) (sIf (sT (sB gNe (aCons (aV (sB gRepr (aCons (aV (sCall g_is_of_word (aCons (aV (sVar 14)) aNil))) aNil))) (aCons (aV (sB gRepr (aCons (aV (sCall g__law_is_of_word (aCons (aV (sVar 14)) aNil))) aNil))) aNil)))) (sRet (sC (.bl false))) sNx)))))))))))))))))))
    (List.range 4) (fun i e => ∃ (h' : List D) (o2 o3 o4 o5 : Option Wd) (a b c d e' f g k j : Option Wd), HandOk h' ∧ Pl [o2, o3, o4, o5, a, b, c, d, e', f, g, k, j] ∧ e = [some (.val (.lsf (ns.map .int))), some (.own false h'), o2, o3, o4, o5, a, b, c, d, e', f, g, k, j]) 0 ?_
    [some (.val (.lsf (ns.map .int))), some (.own false h), none, none, none, none, none, none, none, none, none, none, none, none, none] ⟨h, none, none, none, none, none, none, none, none, none, none, none, none, none, hh, fun o ho => by simp at ho; rw [ho]; rfl, rfl⟩
  · obtain ⟨e', f1, h', o2, o3, o4, o5, a, b, c, d, e2, f, g, k, j, _, _, rfl⟩ := lp
    refine ⟨[.val (.lsf (ns.map .int))], ?_⟩
    rw [v_law]
    have hb : (-(2 ^ 62) ≤ (4 : Int) ∧ (4 : Int) < 2 ^ 62) = True := by simp
    have r4 : rangeD 0 (4 : Int).toNat = (List.range 4).map (fun k : Nat => D.int (k : Int)) := range_map 4
    have s0 : ((sSet 1 (sCall g__law_hand (aCons (aV (sVar 0)) aNil)))) [some (.val (.lsf (ns.map .int))), none, none, none, none, none, none, none, none, none, none, none, none, none, none] = .nx [some (.val (.lsf (ns.map .int))), some (.own false h), none, none, none, none, none, none, none, none, none, none, none, none, none] := by
      simp only [sSeq, sNx, sIf, sRet, sRetN, sSet, sDo, sB, aCons, aV, aP, aNil, sC, sVar, sMove, sT, sAnd, sOr, sNot, sAndV, sOrV, sNotV, sIfE, sChain, sTup, sLst, sDic0, sSl, sPt, sNo, sCall, sCallL, sPut, sAug, sMeth, isOwn, free_z, free_s, frO_some, frO_none, Out.bind, Out.bs, SO.then, List.getElem?_cons_zero, List.getElem?_cons_succ, List.set_cons_zero, List.set_cons_succ, lookA, look, Wd.dat, Wd.lent, Wd.mut, avD, Option.map, List.map, closeR, outs_nil, outs_val, outs_own, if_true, if_false, Bool.false_eq_true, reduceIte, Bool.not_true, Bool.not_false, Bool.not_not, and_self, and_true, true_and, List.length_nil, List.length_cons, Nat.reduceLeDiff, Nat.reduceAdd, Nat.zero_add, Nat.zero_le, add_int, Fd.gSub, gNeg, gCmp, gLen, abs_int, gInt, gTuple, gList, gRev, gIAdd, q0]
    have s1 : ((sIf (sT (sB gNe (aCons (aV (sCall g_table_of (aCons (aV (sTup (aCons (aV (sC (.int 1))) (aCons (aV (sC (.int 2))) aNil)))) aNil))) (aCons (aV (sTup (aCons (aV (sTup (aCons (aV (sC (.int 5))) (aCons (aV (sC (.int 2))) aNil)))) (aCons (aV (sTup (aCons (aV (sC (.int 2))) (aCons (aV (sC (.int 1))) aNil)))) aNil)))) aNil)))) (sRet (sC (.bl false))) sNx)) [some (.val (.lsf (ns.map .int))), some (.own false h), none, none, none, none, none, none, none, none, none, none, none, none, none] = .nx [some (.val (.lsf (ns.map .int))), some (.own false h), none, none, none, none, none, none, none, none, none, none, none, none, none] := by
      simp only [sSeq, sNx, sIf, sRet, sRetN, sSet, sDo, sB, aCons, aV, aP, aNil, sC, sVar, sMove, sT, sAnd, sOr, sNot, sAndV, sOrV, sNotV, sIfE, sChain, sTup, sLst, sDic0, sSl, sPt, sNo, sCall, sCallL, sPut, sAug, sMeth, isOwn, free_z, free_s, frO_some, frO_none, Out.bind, Out.bs, SO.then, List.getElem?_cons_zero, List.getElem?_cons_succ, List.set_cons_zero, List.set_cons_succ, lookA, look, Wd.dat, Wd.lent, Wd.mut, avD, Option.map, List.map, closeR, outs_nil, outs_val, outs_own, if_true, if_false, Bool.false_eq_true, reduceIte, Bool.not_true, Bool.not_false, Bool.not_not, and_self, and_true, true_and, List.length_nil, List.length_cons, Nat.reduceLeDiff, Nat.reduceAdd, Nat.zero_add, Nat.zero_le, add_int, Fd.gSub, gNeg, gCmp, gLen, abs_int, gInt, gTuple, gList, gRev, gIAdd, k1, n1]
    have s2 : ((sIf (sT (sB gIsNot (aCons (aV (sCall g_word_of_table (aCons (aV (sTup (aCons (aV (sTup (aCons (aV (sB gNeg (aCons (aV (sC (.int 1))) aNil))) (aCons (aV (sC (.int 0))) aNil)))) (aCons (aV (sTup (aCons (aV (sC (.int 0))) (aCons (aV (sB gNeg (aCons (aV (sC (.int 1))) aNil))) aNil)))) aNil)))) aNil))) (aCons (aV (sC .non)) aNil)))) (sRet (sC (.bl false))) sNx)) [some (.val (.lsf (ns.map .int))), some (.own false h), none, none, none, none, none, none, none, none, none, none, none, none, none] = .nx [some (.val (.lsf (ns.map .int))), some (.own false h), none, none, none, none, none, none, none, none, none, none, none, none, none] := by
      simp only [sSeq, sNx, sIf, sRet, sRetN, sSet, sDo, sB, aCons, aV, aP, aNil, sC, sVar, sMove, sT, sAnd, sOr, sNot, sAndV, sOrV, sNotV, sIfE, sChain, sTup, sLst, sDic0, sSl, sPt, sNo, sCall, sCallL, sPut, sAug, sMeth, isOwn, free_z, free_s, frO_some, frO_none, Out.bind, Out.bs, SO.then, List.getElem?_cons_zero, List.getElem?_cons_succ, List.set_cons_zero, List.set_cons_succ, lookA, look, Wd.dat, Wd.lent, Wd.mut, avD, Option.map, List.map, closeR, outs_nil, outs_val, outs_own, if_true, if_false, Bool.false_eq_true, reduceIte, Bool.not_true, Bool.not_false, Bool.not_not, and_self, and_true, true_and, List.length_nil, List.length_cons, Nat.reduceLeDiff, Nat.reduceAdd, Nat.zero_add, Nat.zero_le, add_int, Fd.gSub, gNeg, gCmp, gLen, abs_int, gInt, gTuple, gList, gRev, gIAdd, k2, gIsNot]
    have s3 : ((sIf (sT (sB gNe (aCons (aV (sCall g_word_of_table (aCons (aV (sTup (aCons (aV (sTup (aCons (aV (sC (.int 1))) (aCons (aV (sC (.int 4))) aNil)))) (aCons (aV (sTup (aCons (aV (sC (.int 0))) (aCons (aV (sC (.int 1))) aNil)))) aNil)))) aNil))) (aCons (aV (sTup (aCons (aV (sC (.int 1))) (aCons (aV (sC (.int 1))) aNil)))) aNil)))) (sRet (sC (.bl false))) sNx)) [some (.val (.lsf (ns.map .int))), some (.own false h), none, none, none, none, none, none, none, none, none, none, none, none, none] = .nx [some (.val (.lsf (ns.map .int))), some (.own false h), none, none, none, none, none, none, none, none, none, none, none, none, none] := by
      simp only [sSeq, sNx, sIf, sRet, sRetN, sSet, sDo, sB, aCons, aV, aP, aNil, sC, sVar, sMove, sT, sAnd, sOr, sNot, sAndV, sOrV, sNotV, sIfE, sChain, sTup, sLst, sDic0, sSl, sPt, sNo, sCall, sCallL, sPut, sAug, sMeth, isOwn, free_z, free_s, frO_some, frO_none, Out.bind, Out.bs, SO.then, List.getElem?_cons_zero, List.getElem?_cons_succ, List.set_cons_zero, List.set_cons_succ, lookA, look, Wd.dat, Wd.lent, Wd.mut, avD, Option.map, List.map, closeR, outs_nil, outs_val, outs_own, if_true, if_false, Bool.false_eq_true, reduceIte, Bool.not_true, Bool.not_false, Bool.not_not, and_self, and_true, true_and, List.length_nil, List.length_cons, Nat.reduceLeDiff, Nat.reduceAdd, Nat.zero_add, Nat.zero_le, add_int, Fd.gSub, gNeg, gCmp, gLen, abs_int, gInt, gTuple, gList, gRev, gIAdd, k3, n2]
    have s4 : ((sFor (.nm 2) (sRange1 (aCons (aV (sC (.int 4))) aNil)) (sSeq (sPar2 3 4 (sCallL g__law_word (aCons (aP 1) (aCons (aV (sC (.int 2))) (aCons (aV (sC (.int 10))) aNil)))) (sCallL g__law_word (aCons (aP 1) (aCons (aV (sC (.int 2))) (aCons (aV (sC (.int 6))) aNil))))) (sSeq (sSet 5 (sCall g__law_table (aCons (aV (sVar 3)) aNil))) (sSeq (sIf (sT (sB gNe (aCons (aV (sCall g_table_of (aCons (aV (sVar 3)) aNil))) (aCons (aP 5) aNil)))) (sRet (sC (.bl false))) sNx) (sSeq (sIf (sNot (sT (sCall g__law_is_of_word (aCons (aV (sVar 5)) aNil)))) (sRet (sC (.bl false))) sNx) (sSeq (sIf (sT (sB gNe (aCons (aV (sCall g_word_of_table (aCons (aV (sVar 5)) aNil))) (aCons (aP 3) aNil)))) (sRet (sC (.bl false))) sNx) (sSeq (sIf (sT (sB gIsNot (aCons (aV (sCall g_is_of_word (aCons (aV (sVar 5)) aNil))) (aCons (aV (sC (.bl true))) aNil)))) (sRet (sC (.bl false))) sNx) (sSeq (sIf (sT (sB gNe (aCons (aV (sCall g_table_of (aCons (aV (sCall g_product (aCons (aV (sC (.int 2))) (aCons (aV (sVar 3)) (aCons (aV (sVar 4)) aNil))))) aNil))) (aCons (aV (sCall g__law_times (aCons (aV (sVar 5)) (aCons (aV (sCall g__law_table (aCons (aV (sVar 4)) aNil))) aNil)))) aNil)))) (sRet (sC (.bl false))) sNx) (sSeq (sIf (sT (sB gNe (aCons (aV (sB gEq (aCons (aP 5) (aCons (aV (sCall g__law_table (aCons (aV (sVar 4)) aNil))) aNil)))) (aCons (aV (sB gEq (aCons (aP 3) (aCons (aP 4) aNil)))) aNil)))) (sRet (sC (.bl false))) sNx) (sFor (.nm 6) (sRange1 (aCons (aV (sC (.int 3))) aNil)) (sSeq (sSet 7 (sCallL g__law_drawn (aCons (aP 1) aNil))) (sSeq (sSet 8 (sCall g_word_of_table (aCons (aV (sVar 7)) aNil))) (sSeq (sIf (sT (sB gNe (aCons (aV (sB gIsNot (aCons (aP 8) (aCons (aV (sC .non)) aNil)))) (aCons (aV (sCall g__law_is_of_word (aCons (aV (sVar 7)) aNil))) aNil)))) (sRet (sC (.bl false))) sNx) (sSeq (sIf (sAnd (sT (sB gIsNot (aCons (aP 8) (aCons (aV (sC .non)) aNil)))) (sT (sB gNe (aCons (aV (sCall g__law_table (aCons (aV (sVar 8)) aNil))) (aCons (aP 7) aNil))))) (sRet (sC (.bl false))) sNx) (sSeq (sSetT (.tp ((.tp ((.nm 9) :: ((.nm 10) :: []))) :: ((.tp ((.nm 11) :: ((.nm 12) :: []))) :: []))) (sVar 5)) (sSeq (sSet 13 (sLst (aCons (aV (sVar 7)) (aCons (aV (sTup (aCons (aV (sTup (aCons (aV (sVar 9)) (aCons (aV (sB gAdd (aCons (aP 10) (aCons (aV (sC (.int 2))) aNil)))) aNil)))) (aCons (aV (sTup (aCons (aV (sVar 11)) (aCons (aV (sVar 12)) aNil)))) aNil)))) (aCons (aV (sTup (aCons (aV (sTup (aCons (aV (sVar 9)) (aCons (aV (sVar 10)) aNil)))) (aCons (aV (sTup (aCons (aV (sVar 11)) (aCons (aV (sB gAdd (aCons (aP 12) (aCons (aV (sC (.int 4))) aNil)))) aNil)))) aNil)))) (aCons (aV (sTup (aCons (aV (sTup (aCons (aV (sVar 12)) (aCons (aV (sVar 10)) aNil)))) (aCons (aV (sTup (aCons (aV (sVar 11)) (aCons (aV (sVar 9)) aNil)))) aNil)))) (aCons (aV (sB gRev (aCons (aP 5) aNil))) (aCons (aV (sB gList (aCons (aP 5) aNil))) (aCons (aV (sTup (aCons (aV (sB gList (aCons (aV (sB gIx (aCons (aP 5) (aCons (aV (sC (.int 0))) aNil)))) aNil))) (aCons (aV (sB gIx (aCons (aP 5) (aCons (aV (sC (.int 1))) aNil)))) aNil)))) (aCons (aV (sSl gSl (aP 5) sNo (sPt (sC (.int 1))))) (aCons (aV (sB gAdd (aCons (aP 5) (aCons (aV (sTup (aCons (aV (sTup (aCons (aV (sC (.int 0))) (aCons (aV (sC (.int 0))) aNil)))) aNil))) aNil)))) aNil))))))))))) (sSeq (sSet 13 (sB gAdd (aCons (aP 13) (aCons (aV (sLst (aCons (aV (sTup (aCons (aV (sTup (aCons (aV (sB gSub (aCons (aV (sC (.int 0))) (aCons (aP 9) aNil)))) (aCons (aV (sB gSub (aCons (aV (sC (.int 0))) (aCons (aP 10) aNil)))) aNil)))) (aCons (aV (sTup (aCons (aV (sB gSub (aCons (aV (sC (.int 0))) (aCons (aP 11) aNil)))) (aCons (aV (sB gSub (aCons (aV (sC (.int 0))) (aCons (aP 12) aNil)))) aNil)))) aNil)))) (aCons (aV (sTup (aCons (aV (sTup (aCons (aV (sC (.bl true))) (aCons (aV (sC (.int 0))) aNil)))) (aCons (aV (sTup (aCons (aV (sC (.int 0))) (aCons (aV (sC (.int 1))) aNil)))) aNil)))) (aCons (aV (sTup (aCons (aV (sTup (aCons (aV (sC (.int 1))) (aCons (aV (sC (.int 0))) aNil)))) (aCons (aV (sTup (aCons (aV (sC (.int 0))) (aCons (aV (sC .non)) aNil)))) aNil)))) (aCons (aV (sC .non)) (aCons (aV (sTup aNil)) (aCons (aV sDic0) (aCons (aV (sC (.int 0))) (aCons (aV (sC (.str "table"))) (aCons (aV (sCallL g__law_deep (aCons (aP 1) aNil))) aNil))))))))))) aNil)))) (sSeq (sSet 14 (sCallL g__law_some (aCons (aP 1) (aCons (aV (sVar 13)) aNil)))) (sIf (sT (sB gNe (aCons (aV (sB gRepr (aCons (aV (sCall g_is_of_word (aCons (aV (sVar 14)) aNil))) aNil))) (aCons (aV (sB gRepr (aCons (aV (sCall g__law_is_of_word (aCons (aV (sVar 14)) aNil))) aNil))) aNil)))) (sRet (sC (.bl false))) sNx)))))))))))))))))))) [some (.val (.lsf (ns.map .int))), some (.own false h), none, none, none, none, none, none, none, none, none, none, none, none, none] = .nx [some (.val (.lsf (ns.map .int))), some (.own false h'), o2, o3, o4, o5, a, b, c, d, e2, f, g, k, j] := by
      exact for_r1 (n := 4) (by simp only [sSeq, sNx, sIf, sRet, sRetN, sSet, sDo, sB, aCons, aV, aP, aNil, sC, sVar, sMove, sT, sAnd, sOr, sNot, sAndV, sOrV, sNotV, sIfE, sChain, sTup, sLst, sDic0, sSl, sPt, sNo, sCall, sCallL, sPut, sAug, sMeth, isOwn, free_z, free_s, frO_some, frO_none, Out.bind, Out.bs, SO.then, List.getElem?_cons_zero, List.getElem?_cons_succ, List.set_cons_zero, List.set_cons_succ, lookA, look, Wd.dat, Wd.lent, Wd.mut, avD, Option.map, List.map, closeR, outs_nil, outs_val, outs_own, if_true, if_false, Bool.false_eq_true, reduceIte, Bool.not_true, Bool.not_false, Bool.not_not, and_self, and_true, true_and, List.length_nil, List.length_cons, Nat.reduceLeDiff, Nat.reduceAdd, Nat.zero_add, Nat.zero_le]; rfl) rfl (by decide) f1
    unfold b_law
    rw [seq_nx s0, seq_nx s1, seq_nx s2, seq_nx s3, seq_nx s4]
    simp only [sSeq, sNx, sIf, sRet, sRetN, sSet, sDo, sB, aCons, aV, aP, aNil, sC, sVar, sMove, sT, sAnd, sOr, sNot, sAndV, sOrV, sNotV, sIfE, sChain, sTup, sLst, sDic0, sSl, sPt, sNo, sCall, sCallL, sPut, sAug, sMeth, isOwn, free_z, free_s, frO_some, frO_none, Out.bind, Out.bs, SO.then, List.getElem?_cons_zero, List.getElem?_cons_succ, List.set_cons_zero, List.set_cons_succ, lookA, look, Wd.dat, Wd.lent, Wd.mut, avD, Option.map, List.map, closeR, outs_nil, outs_val, outs_own, if_true, if_false, Bool.false_eq_true, reduceIte, Bool.not_true, Bool.not_false, Bool.not_not, and_self, and_true, true_and, List.length_nil, List.length_cons, Nat.reduceLeDiff, Nat.reduceAdd, Nat.zero_add, Nat.zero_le, add_int, Fd.gSub, gNeg, gCmp, gLen, abs_int, gInt, gTuple, gList, gRev, gIAdd]
  · rintro i x e hx ⟨h', o2, o3, o4, o5, a, b, c, d, e', f, g, k, j, ho, hp, rfl⟩
    have pm : ∀ o, o ∈ [o2, o3, o4, o5, a, b, c, d, e', f, g, k, j] → plainO o = true := hp
    obtain ⟨h2, w, v, ho2, t1⟩ := turn1 (n0 := .val (.lsf (ns.map .int))) (o2 := some (.val (.int (x : Int)))) (o3 := o3) (o4 := o4) (o5 := o5) (r := [a, b, c, d, e', f, g, k, j]) ho (pm _ (by simp)) (pm _ (by simp)) (pm _ (by simp)) ⟨_, _, _, _, _, _, _, _, _, rfl⟩
    have lp := loop_inv (enc := fun k : Nat => D.int (k : Int)) (tg := .nm 6) (body := (sSeq (sSet 7 (sCallL g__law_drawn (aCons (aP 1) aNil))) (sSeq (sSet 8 (sCall g_word_of_table (aCons (aV (sVar 7)) aNil))) (sSeq (sIf (sT (sB gNe (aCons (aV (sB gIsNot (aCons (aP 8) (aCons (aV (sC .non)) aNil)))) (aCons (aV (sCall g__law_is_of_word (aCons (aV (sVar 7)) aNil))) aNil)))) (sRet (sC (.bl false))) sNx) (sSeq (sIf (sAnd (sT (sB gIsNot (aCons (aP 8) (aCons (aV (sC .non)) aNil)))) (sT (sB gNe (aCons (aV (sCall g__law_table (aCons (aV (sVar 8)) aNil))) (aCons (aP 7) aNil))))) (sRet (sC (.bl false))) sNx) (sSeq (sSetT (.tp ((.tp ((.nm 9) :: ((.nm 10) :: []))) :: ((.tp ((.nm 11) :: ((.nm 12) :: []))) :: []))) (sVar 5)) (sSeq (sSet 13 (sLst (aCons (aV (sVar 7)) (aCons (aV (sTup (aCons (aV (sTup (aCons (aV (sVar 9)) (aCons (aV (sB gAdd (aCons (aP 10) (aCons (aV (sC (.int 2))) aNil)))) aNil)))) (aCons (aV (sTup (aCons (aV (sVar 11)) (aCons (aV (sVar 12)) aNil)))) aNil)))) (aCons (aV (sTup (aCons (aV (sTup (aCons (aV (sVar 9)) (aCons (aV (sVar 10)) aNil)))) (aCons (aV (sTup (aCons (aV (sVar 11)) (aCons (aV (sB gAdd (aCons (aP 12) (aCons (aV (sC (.int 4))) aNil)))) aNil)))) aNil)))) (aCons (aV (sTup (aCons (aV (sTup (aCons (aV (sVar 12)) (aCons (aV (sVar 10)) aNil)))) (aCons (aV (sTup (aCons (aV (sVar 11)) (aCons (aV (sVar 9)) aNil)))) aNil)))) (aCons (aV (sB gRev (aCons (aP 5) aNil))) (aCons (aV (sB gList (aCons (aP 5) aNil))) (aCons (aV (sTup (aCons (aV (sB gList (aCons (aV (sB gIx (aCons (aP 5) (aCons (aV (sC (.int 0))) aNil)))) aNil))) (aCons (aV (sB gIx (aCons (aP 5) (aCons (aV (sC (.int 1))) aNil)))) aNil)))) (aCons (aV (sSl gSl (aP 5) sNo (sPt (sC (.int 1))))) (aCons (aV (sB gAdd (aCons (aP 5) (aCons (aV (sTup (aCons (aV (sTup (aCons (aV (sC (.int 0))) (aCons (aV (sC (.int 0))) aNil)))) aNil))) aNil)))) aNil))))))))))) (sSeq (sSet 13 (sB gAdd (aCons (aP 13) (aCons (aV (sLst (aCons (aV (sTup (aCons (aV (sTup (aCons (aV (sB gSub (aCons (aV (sC (.int 0))) (aCons (aP 9) aNil)))) (aCons (aV (sB gSub (aCons (aV (sC (.int 0))) (aCons (aP 10) aNil)))) aNil)))) (aCons (aV (sTup (aCons (aV (sB gSub (aCons (aV (sC (.int 0))) (aCons (aP 11) aNil)))) (aCons (aV (sB gSub (aCons (aV (sC (.int 0))) (aCons (aP 12) aNil)))) aNil)))) aNil)))) (aCons (aV (sTup (aCons (aV (sTup (aCons (aV (sC (.bl true))) (aCons (aV (sC (.int 0))) aNil)))) (aCons (aV (sTup (aCons (aV (sC (.int 0))) (aCons (aV (sC (.int 1))) aNil)))) aNil)))) (aCons (aV (sTup (aCons (aV (sTup (aCons (aV (sC (.int 1))) (aCons (aV (sC (.int 0))) aNil)))) (aCons (aV (sTup (aCons (aV (sC (.int 0))) (aCons (aV (sC .non)) aNil)))) aNil)))) (aCons (aV (sC .non)) (aCons (aV (sTup aNil)) (aCons (aV sDic0) (aCons (aV (sC (.int 0))) (aCons (aV (sC (.str "table"))) (aCons (aV (sCallL g__law_deep (aCons (aP 1) aNil))) aNil))))))))))) aNil)))) (sSeq (sSet 14 (sCallL g__law_some (aCons (aP 1) (aCons (aV (sVar 13)) aNil)))) (sIf (sT (sB gNe (aCons (aV (sB gRepr (aCons (aV (sCall g_is_of_word (aCons (aV (sVar 14)) aNil))) aNil))) (aCons (aV (sB gRepr (aCons (aV (sCall g__law_is_of_word (aCons (aV (sVar 14)) aNil))) aNil))) aNil)))) (sRet (sC (.bl false))) sNx))))))))))
      (List.range 3) (fun i e => ∃ (h' : List D) (a b c d e' f g k j : Option Wd), HandOk h' ∧ Pl [a, b, c, d, e', f, g, k, j] ∧ e = [some (.val (.lsf (ns.map .int))), some (.own false h'), some (.val (.int (x : Int))), some (vI w), some (vI v), some (vT (Ta.tab w)), a, b, c, d, e', f, g, k, j]) 0 ?_
      [some (.val (.lsf (ns.map .int))), some (.own false h2), some (.val (.int (x : Int))), some (vI w), some (vI v), some (vT (Ta.tab w)), a, b, c, d, e', f, g, k, j] ⟨h2, a, b, c, d, e', f, g, k, j, ho2, fun o q => pm o (by simp only [List.mem_cons] at q ⊢; exact .inr (.inr (.inr (.inr q)))), rfl⟩
    · obtain ⟨e2, f1, h3, a, b, c, d, e', f, g, k, j, ho3, hp3, rfl⟩ := lp
      refine ⟨_, _, put_nm (by rfl) (pm o2 (by simp)), .inl ?_, h3, some (.val (.int (x : Int))), some (vI w), some (vI v), some (vT (Ta.tab w)), a, b, c, d, e', f, g, k, j, ho3, ?_, rfl⟩
      · have hb : (-(2 ^ 62) ≤ (3 : Int) ∧ (3 : Int) < 2 ^ 62) = True := by simp
        have r3 : rangeD 0 (3 : Int).toNat = (List.range 3).map (fun k : Nat => D.int (k : Int)) := range_map 3
        simp only [List.set_cons_zero, List.set_cons_succ]
        refine t1.trans ?_
        exact for_r1 (n := 3) (by simp only [sSeq, sNx, sIf, sRet, sRetN, sSet, sDo, sB, aCons, aV, aP, aNil, sC, sVar, sMove, sT, sAnd, sOr, sNot, sAndV, sOrV, sNotV, sIfE, sChain, sTup, sLst, sDic0, sSl, sPt, sNo, sCall, sCallL, sPut, sAug, sMeth, isOwn, free_z, free_s, frO_some, frO_none, Out.bind, Out.bs, SO.then, List.getElem?_cons_zero, List.getElem?_cons_succ, List.set_cons_zero, List.set_cons_succ, lookA, look, Wd.dat, Wd.lent, Wd.mut, avD, Option.map, List.map, closeR, outs_nil, outs_val, outs_own, if_true, if_false, Bool.false_eq_true, reduceIte, Bool.not_true, Bool.not_false, Bool.not_not, and_self, and_true, true_and, List.length_nil, List.length_cons, Nat.reduceLeDiff, Nat.reduceAdd, Nat.zero_add, Nat.zero_le]; rfl) rfl (by decide) f1
      · intro o q
        simp only [List.mem_cons] at q
        rcases q with rfl | rfl | rfl | rfl | q
        · rfl
        · rfl
        · rfl
        · rfl
        · exact hp3 o (by simp only [List.mem_cons]; exact q)
    · rintro i y e hy ⟨h', a, b, c, d, e', f, g, k, j, ho, hp, rfl⟩
      have pm : ∀ o, o ∈ [a, b, c, d, e', f, g, k, j] → plainO o = true := hp
      obtain ⟨h3, d7, d8, d9, d10, d11, d12, d13, d14, ho3, e3⟩ := inner (o0 := some (.val (.lsf (ns.map .int)))) (o2 := some (.val (.int (x : Int)))) (o3 := some (vI w)) (o4 := some (vI v)) (o6 := some (.val (.int (y : Int)))) (t := Ta.tab w) ho (pm b (by simp)) (pm c (by simp)) (pm d (by simp)) (pm e' (by simp)) (pm f (by simp)) (pm g (by simp)) (pm k (by simp)) (pm j (by simp))
      refine ⟨_, _, put_nm (by rfl) (pm a (by simp)), .inl ?_, h3, some (.val (.int (y : Int))), some (.val d7), some (.val d8), some (.val d9), some (.val d10), some (.val d11), some (.val d12), some (.val d13), some (.val d14), ho3, fun o q => ?_, rfl⟩
      · exact e3
      · simp only [List.mem_cons, List.not_mem_nil, or_false] at q
        rcases q with rfl | rfl | rfl | rfl | rfl | rfl | rfl | rfl | rfl <;> rfl
end K27

open PySem PySem.W PyProof.Rows
set_option maxRecDepth 100000 in
set_option maxHeartbeats 0 in
theorem PySem.Challenge.cw_foldedloops_k27_whole_words_of_tables_holds : PySem.Challenge.rw_foldedloops_k27_whole_words_of_tables.Holds := by
  w_on; o_law; k_head; (case hw => w_witness2)
  k_fill
  refine Fd.walkF (l := PySem.Challenge.rw_foldedloops_k27_whole_words_of_tables) (k := 8) rfl rfl ⟨rfl, by decide, by decide⟩ (fun w h Y => PySem.W.kIn_of Y) ?F
  case F =>
    intro w mg fa h KX G hmg
    refine' K27.all_mk KX G hmg K27.good (Fd.at_mk ?a0 ?l0 ?c0 ?k0) (Fd.at_mk ?a1 ?l1 ?c1 ?k1) (Fd.at_mk ?a2 ?l2 ?c2 ?k2) (Fd.at_mk ?a3 ?l3 ?c3 ?k3) (Fd.at_mk ?a4 ?l4 ?c4 ?k4) (Fd.at_mk ?a5 ?l5 ?c5 ?k5) (Fd.at_mk ?a6 ?l6 ?c6 ?k6) (Fd.at_mk ?a7 ?l7 ?c7 ?k7) (Fd.at_mk ?a8 ?l8 ?c8 ?k8) (Fd.at_mk ?a9 ?l9 ?c9 ?k9) (Fd.at_mk ?a10 ?l10 ?c10 ?k10) (Fd.at_mk ?a11 ?l11 ?c11 ?k11) (Fd.at_mk ?a12 ?l12 ?c12 ?k12) (Fd.at_mk ?a13 ?l13 ?c13 ?k13) (Fd.at_mk ?a14 ?l14 ?c14 ?k14) (Fd.at_mk ?a15 ?l15 ?c15 ?k15) (Fd.at_mk ?a16 ?l16 ?c16 ?k16) (Fd.at_mk ?a17 ?l17 ?c17 ?k17) (Fd.at_mk ?a18 ?l18 ?c18 ?k18) (Fd.at_mk ?a19 ?l19 ?c19 ?k19) (Fd.at_mk ?a20 ?l20 ?c20 ?k20) (Fd.at_mk ?a21 ?l21 ?c21 ?k21) (Fd.at_mk ?a22 ?l22 ?c22 ?k22) (Fd.at_mk ?a23 ?l23 ?c23 ?k23) (Fd.at_mk ?a24 ?l24 ?c24 ?k24) (Fd.at_mk ?a25 ?l25 ?c25 ?k25) (Fd.at_mk ?a26 ?l26 ?c26 ?k26) (Fd.at_mk ?a27 ?l27 ?c27 ?k27) (Fd.at_mk ?a28 ?l28 ?c28 ?k28) (Fd.at_mk ?a29 ?l29 ?c29 ?k29) (Fd.at_mk ?a30 ?l30 ?c30 ?k30) (Fd.at_mk ?a31 ?l31 ?c31 ?k31) ?aL ?lL ?cL ?kL ?z0 ?z1 ?z2 ?z3 ?z4 ?z5 ?z6 ?z7 ?z8 ?z9 ?z10 ?z11 ?z12 ?v0 ?v1 ?v2 ?v3 ?v4 ?v5 ?v6 ?v7 ?v8 ?v9 ?v10 ?v11 ?v12 ?v13
    (case a0 => k_is); (case l0 => k_is); (case c0 => k_is); (case k0 => k_is)
    (case a1 => k_is); (case l1 => k_is); (case c1 => k_is); (case k1 => k_is)
    (case a2 => k_is); (case l2 => k_is); (case c2 => k_is); (case k2 => k_is)
    (case a3 => k_is); (case l3 => k_is); (case c3 => k_is); (case k3 => k_is)
    (case a4 => k_is); (case l4 => k_is); (case c4 => k_is); (case k4 => k_is)
    (case a5 => k_is); (case l5 => k_is); (case c5 => k_is); (case k5 => k_is)
    (case a6 => k_is); (case l6 => k_is); (case c6 => k_is); (case k6 => k_is)
    (case a7 => k_is); (case l7 => k_is); (case c7 => k_is); (case k7 => k_is)
    (case a8 => k_is); (case l8 => k_is); (case c8 => k_is); (case k8 => k_is)
    (case a9 => k_is); (case l9 => k_is); (case c9 => k_is); (case k9 => k_is)
    (case a10 => k_is); (case l10 => k_is); (case c10 => k_is); (case k10 => k_is)
    (case a11 => k_is); (case l11 => k_is); (case c11 => k_is); (case k11 => k_is)
    (case a12 => k_is); (case l12 => k_is); (case c12 => k_is); (case k12 => k_is)
    (case a13 => k_is); (case l13 => k_is); (case c13 => k_is); (case k13 => k_is)
    (case a14 => k_is); (case l14 => k_is); (case c14 => k_is); (case k14 => k_is)
    (case a15 => k_is); (case l15 => k_is); (case c15 => k_is); (case k15 => k_is)
    (case a16 => k_is); (case l16 => k_is); (case c16 => k_is); (case k16 => k_is)
    (case a17 => k_is); (case l17 => k_is); (case c17 => k_is); (case k17 => k_is)
    (case a18 => k_is); (case l18 => k_is); (case c18 => k_is); (case k18 => k_is)
    (case a19 => k_is); (case l19 => k_is); (case c19 => k_is); (case k19 => k_is)
    (case a20 => k_is); (case l20 => k_is); (case c20 => k_is); (case k20 => k_is)
    (case a21 => k_is); (case l21 => k_is); (case c21 => k_is); (case k21 => k_is)
    (case a22 => k_is); (case l22 => k_is); (case c22 => k_is); (case k22 => k_is)
    (case a23 => k_is); (case l23 => k_is); (case c23 => k_is); (case k23 => k_is)
    (case a24 => k_is); (case l24 => k_is); (case c24 => k_is); (case k24 => k_is)
    (case a25 => k_is); (case l25 => k_is); (case c25 => k_is); (case k25 => k_is)
    (case a26 => k_is); (case l26 => k_is); (case c26 => k_is); (case k26 => k_is)
    (case a27 => k_is); (case l27 => k_is); (case c27 => k_is); (case k27 => k_is)
    (case a28 => k_is); (case l28 => k_is); (case c28 => k_is); (case k28 => k_is)
    (case a29 => k_is); (case l29 => k_is); (case c29 => k_is); (case k29 => k_is)
    (case a30 => k_is); (case l30 => k_is); (case c30 => k_is); (case k30 => k_is)
    (case a31 => k_is); (case l31 => k_is); (case c31 => k_is); (case k31 => k_is)
    (case aL => k_is); (case lL => k_is); (case cL => k_is); (case kL => k_is)
    (case z0 => k_is); (case z1 => k_is); (case z2 => k_is); (case z3 => k_is); (case z4 => k_is); (case z5 => k_is); (case z6 => k_is); (case z7 => k_is); (case z8 => k_is); (case z9 => k_is); (case z10 => k_is); (case z11 => k_is); (case z12 => k_is); (case v0 => k_is); (case v1 => k_is); (case v2 => k_is); (case v3 => k_is); (case v4 => k_is); (case v5 => k_is); (case v6 => k_is); (case v7 => k_is); (case v8 => k_is); (case v9 => k_is); (case v10 => k_is); (case v11 => k_is); (case v12 => k_is); (case v13 => k_is)

