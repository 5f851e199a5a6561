import PyProof.Rows.All
import Wide.All
import OpenK.AllK
import Wide.FinOn
import HandS.ForMost
import HandS.Exc
import HandS.ExcOwn
import HandS.Lambda
import HandS.Style
import HandS.WordsExc
import HandS.Comp
import HandS.TupAny
import HandS.TupMul
import HandS.Text
import HandS.NoneIn
import HandS.List
import HandS.StrMore
import HandS.Zip
import HandS.Conv
import KE.GoesEnum
import KE.SortData
import HandS.Dict
import HandS.Small
import HandS.Deep
import HandS.SetFor
import HandS.ExcIs
import HandS.HotCalls
import HandS.More
import HandS.IsInst
import HandS.Ends
import HandS.EndTab
import KE.KNestM
import PySem.Challenge.RW_chessroom_k77_whole_line_ups_and_teams_r
set_option Elab.async false
set_option linter.all false
set_option maxRecDepth 100000
/-! DV: values by content over the hand layer. Data D, its standing in the abstract heap (Rep), the state of a body (SR). -/
namespace DV
open PySem L2

inductive D where
  | non | bl (b : Bool) | int (i : Int) | str (x : List Nat)
  | tup (l : List D) | scr (l : List D) | lst (o : Bool) (l : List D) | dct (o t : Bool) (ks : List D) (vs : List D) | fn (n : Nat)
  deriving Inhabited

mutual
/-- nothing of it is owned any more -/
def frz : D → D
  | .lst _ l => .lst false (frzA l)
  | .dct _ t ks vs => .dct false t ks (frzA vs)
  | .non => .non | .bl b => .bl b | .int i => .int i | .str x => .str x | .tup l => .tup l | .scr l => .scr l | .fn n => .fn n
def frzA : List D → List D
  | [] => []
  | d :: l => frz d :: frzA l
end
theorem frzA_map : ∀ l : List D, frzA l = l.map frz
  | [] => rfl
  | d :: l => by rw [frzA, frzA_map l]; rfl

/-- a key of a dict as data -/
def kD : Key → D
  | .inl i => .int i
  | .inr x => .str x.cps.toList

section
variable (K : PySem.W.Frag) (T : Nat → Option Addr)
/-- a tuple, a list, a dict that is read and not owned by anybody -/
def FzT (H : Hp) (B : List Addr) (a : Addr) (vs : List V) : Prop :=
  (Rd H a (.tup vs) ∧ a ∉ B) ∨ ∃ (o : Obj) (its : Array Value) (n : Nat), K.lookup a = some o ∧ o.cls = .type "tuple" ∧ o.data = .seq its n ∧ its.size ≤ sizeLine ∧ Vals vs its.toList
def FzS (H : Hp) (B : List Addr) (a : Addr) (vs : List V) : Prop :=
  (Rd H a (.lst vs) ∧ a ∉ B) ∨ ∃ (o : Obj) (its : Array Value) (n : Nat), K.lookup a = some o ∧ o.cls = .type "list" ∧ o.dict = none ∧ o.data = .seq its n ∧ its.size ≤ sizeLine ∧ Vals vs its.toList
def FzL (H : Hp) (B : List Addr) (a : Addr) (vs : List V) : Prop := H a = some (.lst vs) ∧ a ∉ B
def dObj (o : HO) : Bool → List (D × V) → Prop
  | false, kvs => ∃ l : List (Key × V), o = .dK l ∧ kvs = l.map fun p => (kD p.1, p.2)
  | true, kvs => ∃ l : List (List Key × V), o = .dT l ∧ kvs = l.map fun p => (.tup (p.1.map kD), p.2)
def DkH (H : Hp) (a : Addr) (t : Bool) (kvs : List (D × V)) : Prop := ∃ o, H a = some o ∧ dObj o t kvs
def FzD (H : Hp) (B : List Addr) (a : Addr) (t : Bool) (kvs : List (D × V)) : Prop := DkH H a t kvs ∧ a ∉ B

mutual
/-- d stands at v; B: the addresses that somebody owns, O: those that this one owns -/
def Rep (H : Hp) (B : List Addr) : D → V → List Addr → Prop
  | .non, v, O => v = .non ∧ O = []
  | .bl b, v, O => v = .bl b ∧ O = []
  | .int i, v, O => v = .int i ∧ O = []
  | .str x, v, O => v = .str ⟨x.toArray⟩ ∧ (∀ c ∈ x, c < 128) ∧ x.length ≤ sizeLine ∧ O = []
  | .fn n, v, O => (∃ a, T n = some a ∧ v = .ref a) ∧ O = []
  | .tup l, v, O => ∃ a vs, v = .ref a ∧ FzT K H B a vs ∧ RepA H B l vs [] ∧ O = []
  | .scr l, v, O => ∃ a vs, v = .ref a ∧ FzS K H B a vs ∧ RepA H B l vs [] ∧ O = []
  | .lst false l, v, O => ∃ a vs, v = .ref a ∧ FzL H B a vs ∧ RepA H B l vs [] ∧ O = []
  | .lst true l, v, O => ∃ a vs O', v = .ref a ∧ H a = some (.lst vs) ∧ RepA H B l vs O' ∧ O = a :: O'
  | .dct false t ks l, v, O => ∃ a kvs, v = .ref a ∧ FzD H B a t kvs ∧ kvs.map (·.1) = ks ∧ RepA H B l (kvs.map (·.2)) [] ∧ O = []
  | .dct true t ks l, v, O => ∃ a kvs O', v = .ref a ∧ DkH H a t kvs ∧ kvs.map (·.1) = ks ∧ RepA H B l (kvs.map (·.2)) O' ∧ O = a :: O'
def RepA (H : Hp) (B : List Addr) : List D → List V → List Addr → Prop
  | [], vs, O => vs = [] ∧ O = []
  | d :: ds, vs, O => ∃ v vs' O1 O2, vs = v :: vs' ∧ Rep H B d v O1 ∧ RepA H B ds vs' O2 ∧ O = O1 ++ O2
end
end

section
variable {K : PySem.W.Frag} {T : Nat → Option Addr} {H H' : Hp} {B B' : List Addr}

/-- no table of code objects: these alone may change while nobody owns them -/
def NoTab (o : HO) : Prop := ∀ ps, o ≠ .tbl ps
theorem noTab_lst {vs : List V} : NoTab (.lst vs) := fun _ z => nomatch z
theorem noTab_tup {vs : List V} : NoTab (.tup vs) := fun _ z => nomatch z
theorem noTab_frz {u : Obj} {o : HO} : NoTab (.frz u o) := fun _ z => nomatch z
theorem dObj_nt {o : HO} {t : Bool} {kvs : List (D × V)} (h : dObj o t kvs) : NoTab o := by
  cases t <;> obtain ⟨l, rfl, _⟩ := h <;> exact fun _ z => nomatch z
/-- nothing but a table stands there -/
def Nw (H : Hp) (a : Addr) : Prop := ∀ o, H a = some o → ¬ NoTab o
theorem Nw.of {H : Hp} {a : Addr} (h : H a = none) : Nw H a := fun o e => by rw [h] at e; cases e
/-- what may be owned: a list, a dict -/
def OwnO : HO → Prop
  | .lst _ => True
  | .dK _ => True
  | .dT _ => True
  | _ => False
theorem mut_nt {o : HO} (h : OwnO o) : NoTab o := fun ps z => by
  subst z
  exact h
/-- what a step may do to what stands: what nobody owns stays, what is owned here stays; what is newly owned was not there -/
structure Kp (H : Hp) (B : List Addr) (O : List Addr) (H' : Hp) (B' : List Addr) : Prop where
  heap : ∀ a o, H a = some o → NoTab o → (a ∉ B ∨ a ∈ O) → H' a = some o
  own : ∀ a, a ∈ B' → a ∈ B ∨ Nw H a

theorem Rd.some {a : Addr} {u : HO} (h : Rd H a u) : ∃ o, H a = some o := by
  rcases h with h | ⟨o, h⟩
  · exact ⟨_, h⟩
  · exact ⟨_, h⟩
theorem Rd.kp {O : List Addr} {a : Addr} {u : HO} (nt : NoTab u) (h : Rd H a u) (hb : a ∉ B) (k : Kp H B O H' B') : Rd H' a u ∧ a ∉ B' := by
  have nb : a ∉ B' := fun z => by
    rcases k.own a z with q | q
    · exact hb q
    · rcases h with h | ⟨o, h⟩
      · exact q _ h nt
      · exact q _ h noTab_frz
  refine ⟨?_, nb⟩
  rcases h with h | ⟨o, h⟩
  · exact .inl (k.heap a _ h nt (.inl hb))
  · exact .inr ⟨o, k.heap a _ h noTab_frz (.inl hb)⟩
theorem FzT.kp {O : List Addr} {a : Addr} {vs : List V} (h : FzT K H B a vs) (k : Kp H B O H' B') : FzT K H' B' a vs := by
  rcases h with ⟨h, hb⟩ | h
  · exact .inl (Rd.kp noTab_tup h hb k)
  · exact .inr h
theorem FzS.kp {O : List Addr} {a : Addr} {vs : List V} (h : FzS K H B a vs) (k : Kp H B O H' B') : FzS K H' B' a vs := by
  rcases h with ⟨h, hb⟩ | h
  · exact .inl (Rd.kp noTab_lst h hb k)
  · exact .inr h
theorem Fz1.kp {O : List Addr} {a : Addr} {o : HO} (nt : NoTab o) (h : H a = some o) (hb : a ∉ B) (k : Kp H B O H' B') : H' a = some o ∧ a ∉ B' := ⟨k.heap a _ h nt (.inl hb), fun z => by
  rcases k.own a z with q | q
  · exact hb q
  · exact q _ h nt⟩
theorem FzL.kp {O : List Addr} {a : Addr} {vs : List V} (h : FzL H B a vs) (k : Kp H B O H' B') : FzL H' B' a vs := Fz1.kp noTab_lst h.1 h.2 k
theorem FzD.kp {O : List Addr} {a : Addr} {t : Bool} {kvs : List (D × V)} (h : FzD H B a t kvs) (k : Kp H B O H' B') : FzD H' B' a t kvs := by
  obtain ⟨⟨o, e, fo⟩, hb⟩ := h
  obtain ⟨e', hb'⟩ := Fz1.kp (dObj_nt fo) e hb k
  exact ⟨⟨o, e', fo⟩, hb'⟩
theorem Kp.sub {O O' : List Addr} (k : Kp H B O H' B') (h : ∀ a ∈ O', a ∈ O) : Kp H B O' H' B' := ⟨fun a o e n q => k.heap a o e n (q.imp id (h a)), k.own⟩

mutual
theorem Rep.kp : ∀ {d : D} {v : V} {O : List Addr}, Rep K T H B d v O → Kp H B O H' B' → Rep K T H' B' d v O
  | .non, _, _, h, _ => h
  | .bl _, _, _, h, _ => h
  | .int _, _, _, h, _ => h
  | .str _, _, _, h, _ => h
  | .fn _, _, _, h, _ => h
  | .tup l, _, _, h, k => by
    obtain ⟨a, vs, e, f, r, z⟩ := h
    exact ⟨a, vs, e, f.kp k, RepA.kp r (k.sub (by simp)), z⟩
  | .scr l, _, _, h, k => by
    obtain ⟨a, vs, e, f, r, z⟩ := h
    exact ⟨a, vs, e, f.kp k, RepA.kp r (k.sub (by simp)), z⟩
  | .lst false l, _, _, h, k => by
    obtain ⟨a, vs, e, f, r, z⟩ := h
    exact ⟨a, vs, e, f.kp k, RepA.kp r (k.sub (by simp)), z⟩
  | .lst true l, _, _, h, k => by
    obtain ⟨a, vs, O', e, f, r, rfl⟩ := h
    exact ⟨a, vs, O', e, k.heap a _ f noTab_lst (.inr (by simp)), RepA.kp r (k.sub (by simp; intro a h; exact .inr h)), rfl⟩
  | .dct false t ks l, _, _, h, k => by
    obtain ⟨a, kvs, e, f, ek, r, z⟩ := h
    exact ⟨a, kvs, e, f.kp k, ek, RepA.kp r (k.sub (by simp)), z⟩
  | .dct true t ks l, _, _, h, k => by
    obtain ⟨a, kvs, O', e, ⟨o, f, fo⟩, ek, r, rfl⟩ := h
    exact ⟨a, kvs, O', e, ⟨o, k.heap a _ f (dObj_nt fo) (.inr (by simp)), fo⟩, ek, RepA.kp r (k.sub (by simp; intro a h; exact .inr h)), rfl⟩
theorem RepA.kp : ∀ {ds : List D} {vs : List V} {O : List Addr}, RepA K T H B ds vs O → Kp H B O H' B' → RepA K T H' B' ds vs O
  | [], _, _, h, _ => h
  | d :: ds, _, _, h, k => by
    obtain ⟨v, vs', O1, O2, e, h1, h2, rfl⟩ := h
    exact ⟨v, vs', O1, O2, e, h1.kp (k.sub (by simp; intro a h; exact .inl h)), h2.kp (k.sub (by simp; intro a h; exact .inr h)), rfl⟩
end

/-- what is owned stands -/
def Stands (H : Hp) (O : List Addr) : Prop := ∀ a ∈ O, ∃ o, H a = some o ∧ OwnO o
mutual
theorem Rep.stands : ∀ {d : D} {v : V} {O : List Addr}, Rep K T H B d v O → Stands H O
  | .non, _, _, h => by obtain ⟨_, rfl⟩ := h; intro a z; simp at z
  | .bl _, _, _, h => by obtain ⟨_, rfl⟩ := h; intro a z; simp at z
  | .int _, _, _, h => by obtain ⟨_, rfl⟩ := h; intro a z; simp at z
  | .str _, _, _, h => by obtain ⟨_, _, _, rfl⟩ := h; intro a z; simp at z
  | .fn _, _, _, h => by obtain ⟨_, rfl⟩ := h; intro a z; simp at z
  | .tup l, _, _, h => by obtain ⟨_, _, _, _, _, rfl⟩ := h; intro a z; simp at z
  | .scr l, _, _, h => by obtain ⟨_, _, _, _, _, rfl⟩ := h; intro a z; simp at z
  | .lst false l, _, _, h => by obtain ⟨_, _, _, _, _, rfl⟩ := h; intro a z; simp at z
  | .lst true l, _, _, h => by
    obtain ⟨a, vs, O', e, f, r, rfl⟩ := h
    intro b z
    rcases List.mem_cons.mp z with rfl | z
    · exact ⟨_, f, trivial⟩
    · exact RepA.stands r b z
  | .dct false t ks l, _, _, h => by obtain ⟨_, _, _, _, _, _, rfl⟩ := h; intro a z; simp at z
  | .dct true t ks l, _, _, h => by
    obtain ⟨a, kvs, O', e, ⟨o, f, fo⟩, _, r, rfl⟩ := h
    intro b z
    rcases List.mem_cons.mp z with rfl | z
    · refine ⟨_, f, ?_⟩
      cases t <;> obtain ⟨l, rfl, _⟩ := fo <;> trivial
    · exact RepA.stands r b z
theorem RepA.stands : ∀ {ds : List D} {vs : List V} {O : List Addr}, RepA K T H B ds vs O → Stands H O
  | [], _, _, h => by obtain ⟨_, rfl⟩ := h; intro a z; simp at z
  | d :: ds, _, _, h => by
    obtain ⟨v, vs', O1, O2, e, h1, h2, rfl⟩ := h
    intro a z
    rcases List.mem_append.mp z with z | z
    · exact h1.stands a z
    · exact h2.stands a z
end

/-- the owned becomes the unowned: B less what was owned here -/
theorem FzL.of_own {a : Addr} {vs : List V} (h : H a = some (.lst vs)) (hb : a ∉ B) : FzL H B a vs := ⟨h, hb⟩
mutual
theorem Rep.frz : ∀ {d : D} {v : V} {O : List Addr}, Rep K T H B d v O → (∀ a ∈ B', a ∈ B) → (∀ a ∈ O, a ∉ B') → Rep K T H B' (frz d) v []
  | .non, _, _, h, _, _ => ⟨h.1, rfl⟩
  | .bl _, _, _, h, _, _ => ⟨h.1, rfl⟩
  | .int _, _, _, h, _, _ => ⟨h.1, rfl⟩
  | .str _, _, _, h, _, _ => ⟨h.1, h.2.1, h.2.2.1, rfl⟩
  | .fn _, _, _, h, _, _ => ⟨h.1, rfl⟩
  | .tup l, _, _, h, s, _ => by
    obtain ⟨a, vs, e, f, r, _⟩ := h
    have k : Kp H B [] H B' := ⟨fun _ _ e _ _ => e, fun a z => .inl (s a z)⟩
    exact ⟨a, vs, e, f.kp k, r.kp k, rfl⟩
  | .scr l, _, _, h, s, _ => by
    obtain ⟨a, vs, e, f, r, _⟩ := h
    have k : Kp H B [] H B' := ⟨fun _ _ e _ _ => e, fun a z => .inl (s a z)⟩
    exact ⟨a, vs, e, f.kp k, r.kp k, rfl⟩
  | .lst false l, _, _, h, s, _ => by
    obtain ⟨a, vs, e, f, r, _⟩ := h
    have k : Kp H B [] H B' := ⟨fun _ _ e _ _ => e, fun a z => .inl (s a z)⟩
    exact ⟨a, vs, e, f.kp k, RepA.frz r s (by simp), rfl⟩
  | .lst true l, _, _, h, s, n => by
    obtain ⟨a, vs, O', e, f, r, rfl⟩ := h
    exact ⟨a, vs, e, FzL.of_own f (n a (by simp)), RepA.frz r s (fun a z => n a (by simp [z])), rfl⟩
  | .dct false t ks l, _, _, h, s, _ => by
    obtain ⟨a, kvs, e, f, ek, r, _⟩ := h
    have k : Kp H B [] H B' := ⟨fun _ _ e _ _ => e, fun a z => .inl (s a z)⟩
    exact ⟨a, kvs, e, f.kp k, ek, RepA.frz r s (by simp), rfl⟩
  | .dct true t ks l, _, _, h, s, n => by
    obtain ⟨a, kvs, O', e, f, ek, r, rfl⟩ := h
    exact ⟨a, kvs, e, ⟨f, n a (by simp)⟩, ek, RepA.frz r s (fun a z => n a (by simp [z])), rfl⟩
theorem RepA.frz : ∀ {ds : List D} {vs : List V} {O : List Addr}, RepA K T H B ds vs O → (∀ a ∈ B', a ∈ B) → (∀ a ∈ O, a ∉ B') → RepA K T H B' (frzA ds) vs []
  | [], _, _, h, _, _ => ⟨h.1, rfl⟩
  | d :: ds, _, _, h, s, n => by
    obtain ⟨v, vs', O1, O2, e, h1, h2, rfl⟩ := h
    exact ⟨v, vs', [], [], e, h1.frz s (fun a z => n a (by simp [z])), h2.frz s (fun a z => n a (by simp [z])), rfl⟩
end
mutual
theorem Rep.frz_id : ∀ {d : D} {v : V}, Rep K T H B d v [] → DV.frz d = d
  | .non, _, _ => rfl
  | .bl _, _, _ => rfl
  | .int _, _, _ => rfl
  | .str _, _, _ => rfl
  | .fn _, _, _ => rfl
  | .tup l, _, _ => rfl
  | .scr l, _, _ => rfl
  | .lst false l, _, h => by
    obtain ⟨a, vs, e, f, r, _⟩ := h
    rw [DV.frz, RepA.frz_id r]
  | .lst true l, _, h => by
    obtain ⟨a, vs, O', e, f, r, z⟩ := h
    cases z
  | .dct false t ks l, _, h => by
    obtain ⟨a, kvs, e, f, ek, r, _⟩ := h
    rw [DV.frz, RepA.frz_id r]
  | .dct true t ks l, _, h => by
    obtain ⟨a, kvs, O', e, f, ek, r, z⟩ := h
    cases z
theorem RepA.frz_id : ∀ {ds : List D} {vs : List V}, RepA K T H B ds vs [] → frzA ds = ds
  | [], _, _ => rfl
  | d :: ds, _, h => by
    obtain ⟨v, vs', O1, O2, e, h1, h2, z⟩ := h
    obtain ⟨rfl, rfl⟩ := List.append_eq_nil_iff.mp z.symm
    rw [frzA, h1.frz_id, h2.frz_id]
end
theorem RepA.length : ∀ {ds : List D} {vs : List V} {O : List Addr}, RepA K T H B ds vs O → vs.length = ds.length
  | [], _, _, h => by rw [h.1]; rfl
  | d :: ds, _, _, h => by
    obtain ⟨v, vs', O1, O2, rfl, h1, h2, _⟩ := h
    simp [h2.length]
theorem RepA.app : ∀ {ds es : List D} {vs us : List V} {O1 O2 : List Addr}, RepA K T H B ds vs O1 → RepA K T H B es us O2 → RepA K T H B (ds ++ es) (vs ++ us) (O1 ++ O2)
  | [], _, _, _, _, _, h, q => by
    obtain ⟨rfl, rfl⟩ := h
    exact q
  | d :: ds, _, _, _, _, _, h, q => by
    obtain ⟨v, vs', P1, P2, rfl, h1, h2, rfl⟩ := h
    exact ⟨v, _, P1, _, rfl, h1, h2.app q, by rw [List.append_assoc]⟩
/-- unowned items, one by one -/
theorem RepA.get : ∀ {ds : List D} {vs : List V} {O : List Addr} {i : Nat} {v : V}, RepA K T H B ds vs O → vs[i]? = some v → ∃ d O1, ds[i]? = some d ∧ Rep K T H B d v O1 ∧ ∀ a ∈ O1, a ∈ O
  | [], _, _, _, _, h, e => by rw [h.1] at e; simp at e
  | d :: ds, _, _, 0, _, h, e => by
    obtain ⟨v, vs', O1, O2, rfl, h1, h2, rfl⟩ := h
    simp at e
    subst e
    exact ⟨d, O1, rfl, h1, fun a z => by simp [z]⟩
  | d :: ds, _, _, i + 1, _, h, e => by
    obtain ⟨v, vs', O1, O2, rfl, h1, h2, rfl⟩ := h
    obtain ⟨d', P, e1, r, s⟩ := h2.get (i := i) (by simpa using e)
    exact ⟨d', P, by simpa using e1, r, fun a z => by simp [s a z]⟩
theorem RepA.getD : ∀ {ds : List D} {vs : List V} {O : List Addr} {i : Nat} {d : D}, RepA K T H B ds vs O → ds[i]? = some d → ∃ v O1, vs[i]? = some v ∧ Rep K T H B d v O1 ∧ ∀ a ∈ O1, a ∈ O := fun {ds vs O i d} h e => by
  have hl := h.length
  have hi : i < ds.length := (List.getElem?_eq_some_iff.mp e).1
  have e2 : vs[i]? = some vs[i] := List.getElem?_eq_getElem (by omega)
  obtain ⟨d', P, e1, r, s⟩ := h.get e2
  rw [e] at e1
  cases e1
  exact ⟨_, P, e2, r, s⟩
theorem RepA.of_nil : ∀ {ds : List D} {vs : List V}, ds.length = vs.length → (∀ (iq : Nat) d v, ds[iq]? = some d → vs[iq]? = some v → Rep K T H B d v []) → RepA K T H B ds vs []
  | [], [], _, _ => ⟨rfl, rfl⟩
  | [], _ :: _, z, _ => by simp at z
  | _ :: _, [], z, _ => by simp at z
  | d :: ds, v :: vs, h, q => ⟨v, vs, [], [], rfl, q 0 d v rfl rfl, RepA.of_nil (by simpa using h) (fun iq dq' vq' e1q e2q => q (iq + 1) dq' vq' (by simpa using e1q) (by simpa using e2q)), rfl⟩
theorem RepA.nil_get {ds : List D} {vs : List V} {i : Nat} {d : D} {v : V} (h : RepA K T H B ds vs []) (e1 : ds[i]? = some d) (e2 : vs[i]? = some v) : Rep K T H B d v [] := by
  obtain ⟨d', O1, e, r, s⟩ := h.get e2
  rw [e1] at e
  cases e
  have : O1 = [] := by
    cases O1 with
    | nil => rfl
    | cons a l => exact absurd (s a (by simp)) (by simp)
  rw [this] at r
  exact r
/-- parts of unowned items -/
theorem RepA.part {ds es : List D} {vs us : List V} (h : RepA K T H B ds vs []) (hl : es.length = us.length) (f : Nat → Nat) (h1 : ∀ (i : Nat) d, es[i]? = some d → ds[f i]? = some d) (h2 : ∀ (i : Nat) v, us[i]? = some v → vs[f i]? = some v) : RepA K T H B es us [] :=
  .of_nil hl fun i d v e1 e2 => h.nil_get (h1 i d e1) (h2 i v e2)
theorem Rep.heap_nil {d : D} {v : V} (h : Rep K T H B d v []) (k : ∀ a o, H a = some o → a ∉ B → H' a = some o) (kb : ∀ a ∈ B', a ∈ B ∨ Nw H a) : Rep K T H' B' d v [] :=
  h.kp ⟨fun a o e _ q => k a o e (q.elim id (fun z => by simp at z)), kb⟩
end
end DV
namespace DV
open PySem L2

inductive It where
  | val (d : D) | brw (i : Nat)
inductive SI where
  | one (v : V) (it : It) | many (vs : List V) (ds : List D) | hole (a : Addr)
abbrev Env := List (Option D)
structure Cn where
  K : PySem.W.Frag
  T : Nat → Option Addr
  Z : List Addr
  H0 : Hp
  I : List Addr
  pin : List (Nat × V)
  TB : List (Addr × Str)

mutual
/-- nothing in it is owned -/
def isFz : D → Bool
  | .lst o l => !o && isFzA l
  | .dct o _ _ vs => !o && isFzA vs
  | .non => true | .bl _ => true | .int _ => true | .str _ => true | .tup _ => true | .scr _ => true | .fn _ => true
def isFzA : List D → Bool
  | [] => true
  | d :: l => isFz d && isFzA l
end

section
variable (K : PySem.W.Frag) (T : Nat → Option Addr) (H : Hp) (B : List Addr)
def RepS : Env → St → List Addr → Prop
  | [], σ, O => σ = [] ∧ O = []
  | none :: ρ, σ, O => ∃ s σ', σ = s :: σ' ∧ RepS ρ σ' O
  | some d :: ρ, σ, O => ∃ v σ' O1 O2, σ = some v :: σ' ∧ Rep K T H B d v O1 ∧ RepS ρ σ' O2 ∧ O = O1 ++ O2
def RepK : List SI → List Addr → Prop
  | [], O => O = []
  | .one v (.val d) :: l, O => ∃ O1 O2, Rep K T H B d v O1 ∧ RepK l O2 ∧ O = O1 ++ O2
  | .one _ (.brw _) :: l, O => RepK l O
  | .many vs ds :: l, O => ∃ O1 O2, RepA K T H B ds vs O1 ∧ RepK l O2 ∧ O = O1 ++ O2
  | .hole a :: l, O => ∃ O2, RepK l O2 ∧ O = a :: O2 ∧ ∃ o, H a = some o ∧ OwnO o
end

/-- tables stay where something else, that may change, is put anew: but code objects are told of by .ext things, which are never owned here -/
theorem _root_.LamX.Tabs.upd {T : List (Addr × Str)} {H : Hp} {a : Addr} {o u : HO} (t : LamX.Tabs T H) (e : H a = some o) (m : OwnO o) : LamX.Tabs T (upd H a u) := fun p hp => by
  obtain ⟨ps, h1, h2, h3⟩ := t p hp
  have n1 : p.1 ≠ a := fun z => by
    rw [z, e] at h1
    cases h1
    exact m
  refine ⟨ps, by rw [upd_ne n1]; exact h1, h2, fun pos cv hc => ?_⟩
  (obtain ⟨c, e1, e2⟩ := h3 pos cv hc)
  have n2 : c ≠ a := fun z => by
    rw [z, e] at e2
    unfold LamX.CodeO at e2
    cases e2
    exact m
  exact ⟨c, e1, by rw [upd_ne n2]; exact e2⟩
/-- what stays of the heap at the entry; the tables of code objects -/
structure Keep (C : Cn) (H : Hp) : Prop where
  old : ∀ a o, C.H0 a = some o → NoTab o → a ∉ C.I → H a = some o
  tabs : LamX.Tabs C.TB H
structure SR (C : Cn) (ρ : Env) (σ : St) (H : Hp) (stk : List SI) : Prop where
  ex : ∃ Oρ Os B, RepS C.K C.T H B ρ σ Oρ ∧ RepK C.K C.T H B stk Os ∧ (∀ a, a ∈ B ↔ a ∈ C.Z ∨ a ∈ Oρ ∨ a ∈ Os) ∧ (Oρ ++ Os).Nodup ∧ (∀ a ∈ C.Z, a ∉ Oρ ++ Os) ∧ (∀ a ∈ Oρ ++ Os, Nw C.H0 a ∨ a ∈ C.I)
  kept : Keep C H
  z : ∀ a ∈ C.Z, (∃ o, C.H0 a = some o ∧ NoTab o) ∧ a ∉ C.I
  pin : ∀ p ∈ C.pin, σ[p.1]? = some (some p.2)

section
variable {K : PySem.W.Frag} {T : Nat → Option Addr} {H H' : Hp} {B B' : List Addr}
mutual
theorem isFz_nil : ∀ {d : D} {v : V} {O : List Addr}, isFz d = true → Rep K T H B d v O → O = []
  | .non, _, _, _, h => h.2
  | .bl _, _, _, _, h => h.2
  | .int _, _, _, _, h => h.2
  | .str _, _, _, _, h => h.2.2.2
  | .fn _, _, _, _, h => h.2
  | .tup l, _, _, _, h => by obtain ⟨_, _, _, _, _, z⟩ := h; exact z
  | .scr l, _, _, _, h => by obtain ⟨_, _, _, _, _, z⟩ := h; exact z
  | .lst false l, _, _, _, h => by obtain ⟨_, _, _, _, _, z⟩ := h; exact z
  | .lst true l, _, _, f, h => by simp [isFz] at f
  | .dct false t ks l, _, _, _, h => by obtain ⟨_, _, _, _, _, _, z⟩ := h; exact z
  | .dct true t ks l, _, _, f, h => by simp [isFz] at f
theorem isFzA_nil : ∀ {ds : List D} {vs : List V} {O : List Addr}, isFzA ds = true → RepA K T H B ds vs O → O = []
  | [], _, _, _, h => h.2
  | d :: ds, _, _, f, h => by
    obtain ⟨v, vs', O1, O2, e, h1, h2, rfl⟩ := h
    simp [isFzA] at f
    rw [isFz_nil f.1 h1, isFzA_nil f.2 h2]
    rfl
end
mutual
theorem isFz_frz : ∀ d : D, isFz (frz d) = true
  | .non => rfl | .bl _ => rfl | .int _ => rfl | .str _ => rfl | .fn _ => rfl | .tup _ => rfl | .scr _ => rfl
  | .lst _ l => by simp [frz, isFz, isFzA_frz l]
  | .dct _ _ _ l => by simp [frz, isFz, isFzA_frz l]
theorem isFzA_frz : ∀ l : List D, isFzA (frzA l) = true
  | [] => rfl
  | d :: l => by simp [frzA, isFzA, isFz_frz d, isFzA_frz l]
end
theorem RepS.kp : ∀ {ρ : Env} {σ : St} {O : List Addr}, RepS K T H B ρ σ O → Kp H B O H' B' → RepS K T H' B' ρ σ O
  | [], _, _, h, _ => h
  | none :: ρ, _, _, h, k => by
    obtain ⟨s, σ', e, r⟩ := h
    exact ⟨s, σ', e, r.kp k⟩
  | some d :: ρ, _, _, h, k => by
    obtain ⟨v, σ', O1, O2, e, h1, h2, rfl⟩ := h
    exact ⟨v, σ', O1, O2, e, h1.kp (k.sub (by simp; intro a h; exact .inl h)), h2.kp (k.sub (by simp; intro a h; exact .inr h)), rfl⟩
theorem RepK.kp : ∀ {stk : List SI} {O : List Addr}, RepK K T H B stk O → Kp H B O H' B' → RepK K T H' B' stk O
  | [], _, h, _ => h
  | .one v (.val d) :: l, _, h, k => by
    obtain ⟨O1, O2, h1, h2, rfl⟩ := h
    exact ⟨O1, O2, h1.kp (k.sub (by simp; intro a h; exact .inl h)), h2.kp (k.sub (by simp; intro a h; exact .inr h)), rfl⟩
  | .one v (.brw i) :: l, _, h, k => RepK.kp (stk := l) h k
  | .many vs ds :: l, _, h, k => by
    obtain ⟨O1, O2, h1, h2, rfl⟩ := h
    exact ⟨O1, O2, h1.kp (k.sub (by simp; intro a h; exact .inl h)), h2.kp (k.sub (by simp; intro a h; exact .inr h)), rfl⟩
  | .hole a :: l, _, h, k => by
    obtain ⟨O2, h2, rfl, o, e, m⟩ := h
    exact ⟨O2, h2.kp (k.sub (by simp; intro a h; exact .inr h)), rfl, o, k.heap a o e (mut_nt m) (.inr (by simp)), m⟩
theorem RepS.stands : ∀ {ρ : Env} {σ : St} {O : List Addr}, RepS K T H B ρ σ O → Stands H O
  | [], _, _, h => by rw [h.2]; intro a z; simp at z
  | none :: ρ, _, _, h => by
    obtain ⟨s, σ', e, r⟩ := h
    exact r.stands
  | some d :: ρ, _, _, h => by
    obtain ⟨v, σ', O1, O2, e, h1, h2, rfl⟩ := h
    intro a z
    rcases List.mem_append.mp z with z | z
    · exact h1.stands a z
    · exact h2.stands a z
theorem RepK.stands : ∀ {stk : List SI} {O : List Addr}, RepK K T H B stk O → Stands H O
  | [], _, h => by rw [show _ = [] from h]; intro a z; simp at z
  | .one v (.val d) :: l, _, h => by
    obtain ⟨O1, O2, h1, h2, rfl⟩ := h
    intro a z
    rcases List.mem_append.mp z with z | z
    · exact h1.stands a z
    · exact h2.stands a z
  | .one v (.brw i) :: l, _, h => RepK.stands (stk := l) h
  | .many vs ds :: l, _, h => by
    obtain ⟨O1, O2, h1, h2, rfl⟩ := h
    intro a z
    rcases List.mem_append.mp z with z | z
    · exact h1.stands a z
    · exact h2.stands a z
  | .hole a :: l, _, h => by
    obtain ⟨O2, h2, rfl, o, e, m⟩ := h
    intro b z
    rcases List.mem_cons.mp z with rfl | z
    · exact ⟨o, e, m⟩
    · exact h2.stands b z
theorem RepS.len : ∀ {ρ : Env} {σ : St} {O : List Addr}, RepS K T H B ρ σ O → σ.length = ρ.length
  | [], _, _, h => by rw [h.1]; rfl
  | none :: ρ, _, _, h => by
    obtain ⟨s, σ', rfl, r⟩ := h
    simp [r.len]
  | some d :: ρ, _, _, h => by
    obtain ⟨v, σ', O1, O2, rfl, h1, h2, rfl⟩ := h
    simp [h2.len]
/-- a slot taken out: what it held, what is left -/
theorem RepS.take : ∀ {ρ : Env} {σ : St} {O : List Addr} {i : Nat} {d : D}, RepS K T H B ρ σ O → ρ[i]? = some (some d) →
    ∃ vq O1q O2q, σ[i]? = some (some vq) ∧ Rep K T H B d vq O1q ∧ RepS K T H B (ρ.set i none) σ O2q ∧ List.Perm O (O1q ++ O2q)
  | [], _, _, _, _, h, eq => by simp at eq
  | none :: ρ, _, _, 0, _, h, eq => by simp at eq
  | none :: ρ, _, _, i + 1, d, h, eq => by
    obtain ⟨sq, σq', rfl, rq⟩ := h
    obtain ⟨vq, O1q, O2q, e1q, h1q, h2q, pq⟩ := rq.take (i := i) (d := d) (by simpa using eq)
    exact ⟨vq, O1q, O2q, by simpa using e1q, h1q, ⟨sq, σq', rfl, h2q⟩, pq⟩
  | some d' :: ρ, _, _, 0, d, h, eq => by
    obtain ⟨vq, σq', O1q, O2q, rfl, h1q, h2q, rfl⟩ := h
    have eq : d' = d := by simpa using eq
    subst eq
    exact ⟨vq, O1q, O2q, rfl, h1q, ⟨some vq, σq', rfl, h2q⟩, .refl _⟩
  | some d' :: ρ, _, _, i + 1, d, h, eq => by
    obtain ⟨vq, σq', O1q, O2q, rfl, h1q, h2q, rfl⟩ := h
    obtain ⟨v2q, P1q, P2q, e1q, q1q, q2q, pq⟩ := h2q.take (i := i) (d := d) (by simpa using eq)
    refine ⟨v2q, P1q, O1q ++ P2q, by simpa using e1q, q1q, ⟨vq, σq', O1q, P2q, rfl, h1q, q2q, rfl⟩, ?_⟩
    refine (List.Perm.append_left O1q pq).trans ?_
    (rw [← List.append_assoc, ← List.append_assoc])
    exact List.Perm.append_right P2q List.perm_append_comm
/-- a slot without a word gets one -/
theorem RepS.put : ∀ {ρ : Env} {σ : St} {O : List Addr} {i : Nat} {d : D} {v : V} {O1 : List Addr}, RepS K T H B ρ σ O → ρ[i]? = some none → Rep K T H B d v O1 →
    ∃ O2q, RepS K T H B (ρ.set i (some d)) (σ.set i (some v)) O2q ∧ List.Perm O2q (O1 ++ O)
  | [], _, _, _, _, _, _, h, e, _ => by simp at e
  | none :: ρ, _, _, 0, d, v, O1, h, e, q => by
    obtain ⟨sq, σq', rfl, rq⟩ := h
    exact ⟨_, ⟨v, σq', O1, _, rfl, q, rq, rfl⟩, .refl _⟩
  | none :: ρ, _, _, i + 1, d, v, O1, h, e, q => by
    obtain ⟨sq, σq', rfl, rq⟩ := h
    obtain ⟨O2q, r2q, pq⟩ := rq.put (i := i) (by simpa using e) q
    exact ⟨O2q, ⟨sq, _, rfl, r2q⟩, pq⟩
  | some d' :: ρ, _, _, 0, d, v, O1, h, e, q => by simp at e
  | some d' :: ρ, _, _, i + 1, d, v, O1, h, e, q => by
    obtain ⟨v2q, σq', P1q, P2q, rfl, h1q, h2q, rfl⟩ := h
    obtain ⟨O2q, r2q, pq⟩ := h2q.put (i := i) (by simpa using e) q
    refine ⟨P1q ++ O2q, ⟨v2q, _, P1q, O2q, rfl, h1q, r2q, rfl⟩, ?_⟩
    refine (List.Perm.append_left P1q pq).trans ?_
    (rw [← List.append_assoc, ← List.append_assoc])
    exact List.Perm.append_right P2q List.perm_append_comm
/-- a slot's word forgotten -/
theorem RepS.gone : ∀ {ρ : Env} {σ : St} {O : List Addr} (i : Nat), RepS K T H B ρ σ O → ∃ O2, RepS K T H B (ρ.set i none) σ O2 ∧ (∀ a ∈ O2, a ∈ O) ∧ (O.Nodup → O2.Nodup) := fun {ρ σ O} i h => by
  cases e : ρ[i]? with
  | none =>
    rw [List.set_eq_of_length_le (by simpa using e)]
    exact ⟨O, h, fun _ z => z, id⟩
  | some o =>
    cases o with
    | none =>
      have : ρ.set i none = ρ := by
        obtain ⟨hi, e⟩ := List.getElem?_eq_some_iff.mp e
        rw [← e]
        simp
      rw [this]
      exact ⟨O, h, fun _ z => z, id⟩
    | some d =>
      obtain ⟨v, O1, O2, _, _, r, p⟩ := h.take e
      exact ⟨O2, r, fun a z => p.mem_iff.mpr (by simp [z]), fun n => (List.nodup_append.mp (p.nodup_iff.mp n)).2.1⟩
theorem RepS.cellset : ∀ {ρ : Env} {σ : St} {O : List Addr} {i : Nat} {s : Option V}, RepS K T H B ρ σ O → ρ[i]? = some none → RepS K T H B ρ (σ.set i s) O
  | [], _, _, _, _, h, e => by simp at e
  | none :: ρ, _, _, 0, s, h, e => by
    obtain ⟨s', σ', rfl, r⟩ := h
    exact ⟨s, σ', rfl, r⟩
  | none :: ρ, _, _, i + 1, s, h, e => by
    obtain ⟨s', σ', rfl, r⟩ := h
    exact ⟨s', _, rfl, r.cellset (i := i) (by simpa using e)⟩
  | some d' :: ρ, _, _, 0, s, h, e => by simp at e
  | some d' :: ρ, _, _, i + 1, s, h, e => by
    obtain ⟨v2, σ', P1, P2, rfl, h1, h2, rfl⟩ := h
    exact ⟨v2, _, P1, P2, rfl, h1, h2.cellset (i := i) (by simpa using e), rfl⟩
theorem set_self_eq {α : Type} {l : List α} {i : Nat} {x : α} (e : l[i]? = some x) : l.set i x = l := by
  obtain ⟨hi, e⟩ := List.getElem?_eq_some_iff.mp e
  rw [← e]
  simp
end

section
variable {C : Cn} {ρ ρ' : Env} {σ : St} {H H' : Hp} {stk : List SI} {v : V} {d : D} {i : Nat}
/-- the state again, from its parts: new heap, new parts, the same Z -/
theorem SR.again {Oρ Os B : List Addr} (h1 : RepS C.K C.T H B ρ σ Oρ) (h2 : RepK C.K C.T H B stk Os) (hB : ∀ a, a ∈ B ↔ a ∈ C.Z ∨ a ∈ Oρ ∨ a ∈ Os) (nd : (Oρ ++ Os).Nodup) (nz : ∀ a ∈ C.Z, a ∉ Oρ ++ Os) (ow : ∀ a ∈ Oρ ++ Os, Nw C.H0 a ∨ a ∈ C.I)
    (kept : Keep C H) (z : ∀ a ∈ C.Z, (∃ o, C.H0 a = some o ∧ NoTab o) ∧ a ∉ C.I) (pn : ∀ p ∈ C.pin, σ[p.1]? = some (some p.2)) : SR C ρ σ H stk := ⟨⟨Oρ, Os, B, h1, h2, hB, nd, nz, ow⟩, kept, z, pn⟩
/-- other lists for the same owners -/
theorem SR.remk {Oρ Os Oρ' Os' B : List Addr} (h : SR C ρ σ H stk) {ρ2 : Env} {σ2 : St} {stk2 : List SI} (h1 : RepS C.K C.T H B ρ2 σ2 Oρ') (h2 : RepK C.K C.T H B stk2 Os') (hB : ∀ a, a ∈ B ↔ a ∈ C.Z ∨ a ∈ Oρ ∨ a ∈ Os)
    (nd : (Oρ ++ Os).Nodup) (nz : ∀ a ∈ C.Z, a ∉ Oρ ++ Os) (ow : ∀ a ∈ Oρ ++ Os, Nw C.H0 a ∨ a ∈ C.I) (sub : ∀ a ∈ Oρ' ++ Os', a ∈ Oρ ++ Os) (nd' : (Oρ' ++ Os').Nodup) (pn : ∀ p ∈ C.pin, σ2[p.1]? = some (some p.2)) : SR C ρ2 σ2 H stk2 := by
  have hB2 : ∀ a, a ∈ C.Z ++ Oρ' ++ Os' ↔ a ∈ C.Z ∨ a ∈ Oρ' ∨ a ∈ Os' := fun a => by simp [or_assoc]
  have k : ∀ O, Kp H B O H (C.Z ++ Oρ' ++ Os') := fun O => ⟨fun _ _ e _ _ => e, fun a q => .inl ((hB a).mpr (by
    rcases (hB2 a).mp q with q | q
    · exact .inl q
    · have := sub a (by simpa using q)
      simp at this
      exact .inr this))⟩
  exact .again (h1.kp (k _)) (h2.kp (k _)) hB2 nd' (fun a q r => nz a q (sub a r)) (fun a q => ow a (sub a q)) h.kept h.z pn
theorem nodup_sub {α : Type} {l l' : List α} (p : List.Sublist l' l) (n : l.Nodup) : l'.Nodup := p.nodup n

/-- the top goes -/
theorem SR.drop {x : SI} (h : SR C ρ σ H (x :: stk)) : SR C ρ σ H stk := by
  obtain ⟨Oρ, Os, B, h1, h2, hB, nd, nz, ow⟩ := h.ex
  have fin : ∀ O1 O2, Os = O1 ++ O2 → RepK C.K C.T H B stk O2 → SR C ρ σ H stk := fun O1 O2 e r => by
    subst e
    refine h.remk h1 r hB nd nz ow (by simp; intro a q; rcases q with q | q <;> simp [q]) ?_ h.pin
    refine nodup_sub ?_ nd
    exact List.Sublist.append_left (List.sublist_append_right _ _) _
  match x, h2 with
  | .one v (.val d), h2 => obtain ⟨O1, O2, _, r, e⟩ := h2; exact fin O1 O2 e r
  | .one v (.brw i), h2 => exact fin [] Os rfl h2
  | .many vs ds, h2 => obtain ⟨O1, O2, _, r, e⟩ := h2; exact fin O1 O2 e r
  | .hole a, h2 => obtain ⟨O2, r, e, _⟩ := h2; exact fin [a] O2 e r
/-- an unowned thing on top -/
theorem SR.push (h : SR C ρ σ H stk) (r : ∀ B Oρ Os, RepS C.K C.T H B ρ σ Oρ → RepK C.K C.T H B stk Os → Rep C.K C.T H B d v []) : SR C ρ σ H (.one v (.val d) :: stk) := by
  obtain ⟨Oρ, Os, B, h1, h2, hB, nd, nz, ow⟩ := h.ex
  exact .again h1 ⟨[], Os, r B Oρ Os h1 h2, h2, rfl⟩ hB nd nz ow h.kept h.z h.pin
theorem SR.imm (h : SR C ρ σ H stk) (r : ∀ B, Rep C.K C.T H B d v []) : SR C ρ σ H (.one v (.val d) :: stk) := h.push fun B _ _ _ _ => r B
/-- under the top: an unowned part of the top in its place -/
theorem SR.part {x : SI} (h : SR C ρ σ H (x :: stk)) (r : ∀ B Oρ Os, RepS C.K C.T H B ρ σ Oρ → RepK C.K C.T H B (x :: stk) Os → Rep C.K C.T H B d v []) : SR C ρ σ H (.one v (.val d) :: stk) := by
  have q := h.push r
  obtain ⟨Oρ, Os, B, h1, h2, hB, nd, nz, ow⟩ := q.ex
  obtain ⟨O1, O2, r1, r2, rfl⟩ := h2
  have z : ∃ P1 P2, O2 = P1 ++ P2 ∧ RepK C.K C.T H B stk P2 := by
    match x, r2 with
    | .one v (.val d), h2 => obtain ⟨O1, O2, _, r, e⟩ := h2; exact ⟨O1, O2, e, r⟩
    | .one v (.brw i), h2 => exact ⟨[], _, rfl, h2⟩
    | .many vs ds, h2 => obtain ⟨O1, O2, _, r, e⟩ := h2; exact ⟨O1, O2, e, r⟩
    | .hole a, h2 => obtain ⟨O2, r, e, _⟩ := h2; exact ⟨[a], O2, e, r⟩
  obtain ⟨P1, P2, rfl, r3⟩ := z
  refine q.remk (Os' := O1 ++ P2) h1 ⟨O1, P2, r1, r3, rfl⟩ hB nd nz ow ?_ ?_ q.pin
  · intro a z
    simp at z ⊢
    rcases z with z | z | z <;> simp [z]
  · refine nodup_sub ?_ nd
    exact List.Sublist.append_left (List.Sublist.append_left (List.sublist_append_right _ _) _) _
/-- what the state owns stands in the heap; a new place is nobody's -/
theorem SR.notnew {Oρ Os B : List Addr} (h : SR C ρ σ H stk) (h1 : RepS C.K C.T H B ρ σ Oρ) (h2 : RepK C.K C.T H B stk Os) (hB : ∀ a, a ∈ B ↔ a ∈ C.Z ∨ a ∈ Oρ ∨ a ∈ Os) {p : Addr} (hp : H p = none) : p ∉ B := fun q => by
  have st : ∃ o, H p = some o := by
    rcases (hB p).mp q with q | q | q
    · obtain ⟨⟨o, e, nt⟩, n⟩ := h.z p q
      exact ⟨o, h.kept.old p o e nt n⟩
    · obtain ⟨o, e, _⟩ := h1.stands p q
      exact ⟨o, e⟩
    · obtain ⟨o, e, _⟩ := h2.stands p q
      exact ⟨o, e⟩
  obtain ⟨o, e⟩ := st
  rw [hp] at e
  cases e
/-- the heap grows -/
theorem SR.grow (h : SR C ρ σ H stk) (k : ∀ a o, H a = some o → H' a = some o) : SR C ρ σ H' stk := by
  obtain ⟨Oρ, Os, B, h1, h2, hB, nd, nz, ow⟩ := h.ex
  have kp : ∀ O, Kp H B O H' B := fun O => ⟨fun a o e _ _ => k a o e, fun a q => .inl q⟩
  exact .again (h1.kp (kp _)) (h2.kp (kp _)) hB nd nz ow ⟨fun a o e t n => k a o (h.kept.old a o e t n), h.kept.tabs.ext k⟩ h.z h.pin
theorem upd_grow {p : Addr} {o : HO} (hp : H p = none) : ∀ a u, H a = some u → upd H p o a = some u := fun a u e => by rw [upd_ne (ne_of_none e hp)]; exact e
/-- a new thing, not owned: a tuple of what stands on top -/
theorem SR.tuple {vs : List V} {ds : List D} {p : Addr} (h : SR C ρ σ H (.many vs ds :: stk)) (hp : H p = none) (f : isFzA ds = true) : SR C ρ σ (upd H p (.tup vs)) (.one (.ref p) (.val (.tup ds)) :: stk) := by
  obtain ⟨Oρ, Os, B, h1, h2, hB, nd, nz, ow⟩ := h.ex
  have nb := h.notnew h1 h2 hB hp
  obtain ⟨O1, O2, r1, r2, rfl⟩ := h2
  obtain rfl := isFzA_nil f r1
  have kp : ∀ O, Kp H B O (upd H p (.tup vs)) B := fun O => ⟨fun a o e _ _ => upd_grow hp a o e, fun a q => .inl q⟩
  exact .again (h1.kp (kp _)) ⟨[], O2, ⟨p, vs, rfl, .inl ⟨.inl upd_same, nb⟩, r1.kp (kp _), rfl⟩, r2.kp (kp _), rfl⟩ hB nd nz ow ⟨fun a o e t n => upd_grow hp a o (h.kept.old a o e t n), h.kept.tabs.ext (upd_grow hp)⟩ h.z h.pin
/-- a new list, owned -/
theorem SR.list {vs : List V} {ds : List D} {p : Addr} (h : SR C ρ σ H (.many vs ds :: stk)) (hp : H p = none) : SR C ρ σ (upd H p (.lst vs)) (.one (.ref p) (.val (.lst true ds)) :: stk) := by
  obtain ⟨Oρ, Os, B, h1, h2, hB, nd, nz, ow⟩ := h.ex
  have nb := h.notnew h1 h2 hB hp
  obtain ⟨O1, O2, r1, r2, rfl⟩ := h2
  have kp : ∀ O, Kp H B O (upd H p (.lst vs)) (p :: B) := fun O => ⟨fun a o e _ _ => upd_grow hp a o e, fun a q => by
    rcases List.mem_cons.mp q with rfl | q
    · exact .inr (.of hp)
    · exact .inl q⟩
  have np : p ∉ Oρ ++ (O1 ++ O2) := fun q => nb ((hB p).mpr (by simp at q ⊢; exact .inr q))
  have h0 : Nw C.H0 p ∨ p ∈ C.I := by
    by_cases q : p ∈ C.I
    · exact .inr q
    · refine .inl fun o e t => ?_
      have := h.kept.old p o e t q
      rw [hp] at this
      cases this
  have pm : List.Perm (Oρ ++ (p :: O1 ++ O2)) (p :: (Oρ ++ (O1 ++ O2))) := by
    simp
  refine .again (Os := p :: O1 ++ O2) (B := p :: B) (h1.kp (kp _)) ⟨p :: O1, O2, ⟨p, vs, O1, rfl, upd_same, r1.kp (kp _), rfl⟩, r2.kp (kp _), rfl⟩ (fun a => ?_) (pm.nodup_iff.mpr (List.nodup_cons.mpr ⟨np, nd⟩)) (fun a q r => ?_) (fun a q => ?_) ⟨fun a o e t n => upd_grow hp a o (h.kept.old a o e t n), h.kept.tabs.ext (upd_grow hp)⟩ h.z h.pin
  · rw [List.mem_cons, hB a]
    simp only [List.mem_append, List.mem_cons]
    constructor
    · rintro (q | q | q | q | q) <;> simp [q]
    · rintro (q | q | (q | q) | q) <;> simp [q]
  · rcases List.mem_cons.mp (pm.mem_iff.mp r) with rfl | r
    · exact nb ((hB a).mpr (.inl q))
    · exact nz a q r
  · rcases List.mem_cons.mp (pm.mem_iff.mp q) with rfl | q
    · exact h0
    · exact ow a q
/-- the top frozen -/
theorem SR.freeze (h : SR C ρ σ H (.one v (.val d) :: stk)) : SR C ρ σ H (.one v (.val (frz d)) :: stk) := by
  obtain ⟨Oρ, Os, B, h1, h2, hB, nd, nz, ow⟩ := h.ex
  obtain ⟨O1, O2, r1, r2, rfl⟩ := h2
  have hB2 : ∀ a, a ∈ C.Z ++ Oρ ++ O2 ↔ a ∈ C.Z ∨ a ∈ Oρ ∨ a ∈ O2 := fun a => by simp [or_assoc]
  have sub : ∀ a ∈ C.Z ++ Oρ ++ O2, a ∈ B := fun a q => (hB a).mpr (by
    rcases (hB2 a).mp q with q | q | q <;> simp [q])
  have k : ∀ O, Kp H B O H (C.Z ++ Oρ ++ O2) := fun O => ⟨fun _ _ e _ _ => e, fun a q => .inl (sub a q)⟩
  have n2 : ∀ a ∈ O1, a ∉ C.Z ++ Oρ ++ O2 := fun a q r => by
    rcases (hB2 a).mp r with r | r | r
    · exact nz a r (by simp [q])
    · exact (List.nodup_append.mp nd).2.2 a r a (by simp [q]) rfl
    · exact (List.nodup_append.mp (List.nodup_append.mp nd).2.1).2.2 a q a r rfl
  refine .again (Os := O2) (h1.kp (k _)) ⟨[], O2, r1.frz sub n2, r2.kp (k _), rfl⟩ hB2 ?_ (fun a q r => nz a q ?_) (fun a q => ow a ?_) h.kept h.z h.pin
  · exact nodup_sub (List.Sublist.append_left (List.sublist_append_right _ _) _) nd
  · simp at r ⊢; rcases r with r | r <;> simp [r]
  · simp at q ⊢; rcases q with q | q <;> simp [q]
/-- a slot's thing taken onto the stack -/
theorem SR.take (h : SR C ρ σ H stk) (e : ρ[i]? = some (some d)) : ∃ v, σ[i]? = some (some v) ∧ SR C (ρ.set i none) σ H (.one v (.val d) :: stk) := by
  obtain ⟨Oρ, Os, B, h1, h2, hB, nd, nz, ow⟩ := h.ex
  obtain ⟨v, O1, O2, e1, r1, r2, p⟩ := h1.take e
  refine ⟨v, e1, ?_⟩
  have pm : List.Perm (Oρ ++ Os) (O2 ++ (O1 ++ Os)) := by
    refine (List.Perm.append_right Os p).trans ?_
    rw [← List.append_assoc]
    exact List.Perm.append_right Os List.perm_append_comm
  exact h.remk r2 ⟨O1, Os, r1, h2, rfl⟩ hB nd nz ow (fun a q => pm.mem_iff.mpr q) (pm.nodup_iff.mp nd) h.pin
/-- the top into a slot without a word -/
theorem SR.put (h : SR C ρ σ H (.one v (.val d) :: stk)) (e : ρ[i]? = some none) (np : ∀ p ∈ C.pin, p.1 ≠ i) : SR C (ρ.set i (some d)) (σ.set i (some v)) H stk := by
  have pn : ∀ p ∈ C.pin, (σ.set i (some v))[p.1]? = some (some p.2) := fun p hp => by rw [List.getElem?_set_ne (Ne.symm (np p hp))]; exact h.pin p hp
  obtain ⟨Oρ, Os, B, h1, h2, hB, nd, nz, ow⟩ := h.ex
  obtain ⟨O1, O2, r1, r2, rfl⟩ := h2
  obtain ⟨O3, r3, p⟩ := h1.put e r1
  have pm : List.Perm (O3 ++ O2) (Oρ ++ (O1 ++ O2)) := by
    refine (List.Perm.append_right O2 p).trans ?_
    rw [← List.append_assoc]
    exact List.Perm.append_right O2 List.perm_append_comm
  exact h.remk r3 r2 hB nd nz ow (fun a q => pm.mem_iff.mp q) (pm.nodup_iff.mpr nd) pn
/-- the top back into the slot where it stands -/
theorem SR.back (h : SR C ρ σ H (.one v (.val d) :: stk)) (e : ρ[i]? = some none) (ev : σ[i]? = some (some v)) : SR C (ρ.set i (some d)) σ H stk := by
  obtain ⟨Oρ, Os, B, h1, h2, hB, nd, nz, ow⟩ := h.ex
  obtain ⟨O1, O2, r1, r2, rfl⟩ := h2
  obtain ⟨O3, r3, p⟩ := h1.put e r1
  rw [set_self_eq ev] at r3
  have pm : List.Perm (O3 ++ O2) (Oρ ++ (O1 ++ O2)) := by
    refine (List.Perm.append_right O2 p).trans ?_
    rw [← List.append_assoc]
    exact List.Perm.append_right O2 List.perm_append_comm
  exact h.remk r3 r2 hB nd nz ow (fun a q => pm.mem_iff.mp q) (pm.nodup_iff.mpr nd) h.pin
/-- a slot's word forgotten -/
theorem SR.gone (h : SR C ρ σ H stk) (i : Nat) : SR C (ρ.set i none) σ H stk := by
  obtain ⟨Oρ, Os, B, h1, h2, hB, nd, nz, ow⟩ := h.ex
  obtain ⟨O2, r, s, n⟩ := h1.gone i
  refine h.remk r h2 hB nd nz ow ?_ ?_ h.pin
  · intro a q
    simp at q ⊢
    rcases q with q | q
    · exact .inl (s a q)
    · exact .inr q
  · have := List.nodup_append.mp nd
    exact List.nodup_append.mpr ⟨n this.1, this.2.1, fun a q b r => this.2.2 a (s a q) b r⟩
/-- a slot that stands without a word may hold anything -/
theorem SR.cell (h : SR C ρ σ H stk) (e : ρ[i]? = some none) (s : Option V) (np : ∀ p ∈ C.pin, p.1 ≠ i) : SR C ρ (σ.set i s) H stk := by
  have pn : ∀ p ∈ C.pin, (σ.set i s)[p.1]? = some (some p.2) := fun p hp => by rw [List.getElem?_set_ne (Ne.symm (np p hp))]; exact h.pin p hp
  obtain ⟨Oρ, Os, B, h1, h2, hB, nd, nz, ow⟩ := h.ex
  exact .again (h1.cellset e) h2 hB nd nz ow h.kept h.z pn
/-- reading: what stands at an item, all of it unowned, no matter who owns what -/
def slotD (ρ : Env) (i : Nat) : Option D := match ρ[i]? with
  | some (some d) => some d
  | _ => none
theorem slotD_some {ρ : Env} {i : Nat} {d : D} (e : slotD ρ i = some d) : ρ[i]? = some (some d) := by
  unfold slotD at e
  split at e
  · rename_i d' e'
    cases e
    exact e'
  · cases e
def dref (ρ : Env) : It → Option D
  | .val d => some d
  | .brw i => slotD ρ i
def BrwOk (σ : St) : It → V → Prop
  | .val _, _ => True
  | .brw i, v => σ[i]? = some (some v)
theorem SR.see {it : It} (h : SR C ρ σ H (.one v it :: stk)) (hb : BrwOk σ it v) (e : dref ρ it = some d) : Rep C.K C.T H [] (frz d) v [] := by
  obtain ⟨Oρ, Os, B, h1, h2, hB, nd, nz, ow⟩ := h.ex
  cases it with
  | val d' =>
    cases e
    obtain ⟨O1, O2, r1, r2, rfl⟩ := h2
    exact r1.frz (by simp) (by simp)
  | brw i =>
    have e' : ρ[i]? = some (some d) := slotD_some e
    obtain ⟨v', O1, O2, e1, r1, _, _⟩ := h1.take e'
    have := show σ[i]? = some (some v) from hb
    rw [e1] at this
    cases this
    exact r1.frz (by simp) (by simp)
/-- what is read stands unowned but for the owners' own -/
theorem SR.look {it : It} (h : SR C ρ σ H (.one v it :: stk)) (hb : BrwOk σ it v) (e : dref ρ it = some d) {B : List Addr} {Oρ Os : List Addr} (h1 : RepS C.K C.T H B ρ σ Oρ) (h2 : RepK C.K C.T H B (.one v it :: stk) Os) : ∃ O1, Rep C.K C.T H B d v O1 := by
  cases it with
  | val d' =>
    cases e
    obtain ⟨O1, O2, r1, r2, rfl⟩ := h2
    exact ⟨O1, r1⟩
  | brw i =>
    have e' : ρ[i]? = some (some d) := slotD_some e
    obtain ⟨v', O1, O2, e1, r1, _, _⟩ := h1.take e'
    have := show σ[i]? = some (some v) from hb
    rw [e1] at this
    cases this
    exact ⟨O1, r1⟩
/-- settled: frozen, ready to be kept anywhere -/
def settle (ρ : Env) : It → Option (D × Env)
  | .val d => some (frz d, ρ)
  | .brw i => (slotD ρ i).map fun d => (frz d, ρ.set i (some (frz d)))
/-- grabbed: as settled, but a new thing stays owned -/
def grab (ρ : Env) : It → Option (D × Env)
  | .val d => some (d, ρ)
  | .brw i => (slotD ρ i).map fun d => (frz d, ρ.set i (some (frz d)))
theorem SR.freezeSlot (h : SR C ρ σ H (.one v (.brw i) :: stk)) (hb : σ[i]? = some (some v)) (e : ρ[i]? = some (some d)) : SR C (ρ.set i (some (frz d))) σ H (.one v (.val (frz d)) :: stk) := by
  obtain ⟨v', e1, q⟩ := h.drop.take e
  have hv : v' = v := by
    rw [e1] at hb
    cases hb
    rfl
  subst hv
  have q := q.freeze
  obtain ⟨Oρ, Os, B, h1, h2, hB, nd, nz, ow⟩ := q.ex
  obtain ⟨O1, O2, r1, r2, rfl⟩ := h2
  obtain rfl := isFz_nil (isFz_frz d) r1
  have hi : i < ρ.length := (List.getElem?_eq_some_iff.mp e).1
  have en : (ρ.set i none)[i]? = some none := by rw [List.getElem?_set_self hi]
  obtain ⟨O3, r3, p⟩ := h1.put en r1
  rw [set_self_eq e1, List.set_set] at r3
  have pm : List.Perm (O3 ++ O2) (Oρ ++ ([] ++ O2)) := by
    refine (List.Perm.append_right O2 p).trans ?_
    simp
  exact q.remk r3 ⟨[], O2, r1, r2, rfl⟩ hB nd nz ow (fun a q => pm.mem_iff.mp q) (pm.nodup_iff.mpr nd) q.pin
theorem SR.settle {it : It} (h : SR C ρ σ H (.one v it :: stk)) (hb : BrwOk σ it v) (e : DV.settle ρ it = some (d, ρ')) : SR C ρ' σ H (.one v (.val d) :: stk) ∧ isFz d = true := by
  cases it with
  | val d' =>
    cases e
    exact ⟨h.freeze, isFz_frz _⟩
  | brw i =>
    obtain ⟨d', e', z⟩ := Option.map_eq_some_iff.mp e
    cases z
    exact ⟨h.freezeSlot hb (slotD_some e'), isFz_frz _⟩
theorem SR.grab {it : It} (h : SR C ρ σ H (.one v it :: stk)) (hb : BrwOk σ it v) (e : DV.grab ρ it = some (d, ρ')) : SR C ρ' σ H (.one v (.val d) :: stk) := by
  cases it with
  | val d' =>
    cases e
    exact h
  | brw i =>
    obtain ⟨d', e', z⟩ := Option.map_eq_some_iff.mp e
    cases z
    exact h.freezeSlot hb (slotD_some e')
/-- items together -/
theorem SR.nilMany (h : SR C ρ σ H stk) : SR C ρ σ H (.many [] [] :: stk) := by
  obtain ⟨Oρ, Os, B, h1, h2, hB, nd, nz, ow⟩ := h.ex
  exact .again h1 ⟨[], Os, ⟨rfl, rfl⟩, h2, rfl⟩ hB nd nz ow h.kept h.z h.pin
theorem SR.consMany {vs : List V} {ds : List D} (h : SR C ρ σ H (.many vs ds :: .one v (.val d) :: stk)) : SR C ρ σ H (.many (v :: vs) (d :: ds) :: stk) := by
  obtain ⟨Oρq, Os, Bq, h1q, h2q, hBq, ndq, nzq, owq⟩ := h.ex
  obtain ⟨O1q, O2q, r1q, ⟨O3q, O4q, r3q, r4q, rfl⟩, rfl⟩ := h2q
  have pmq : List.Perm (Oρq ++ (O1q ++ (O3q ++ O4q))) (Oρq ++ (O3q ++ O1q ++ O4q)) := by
    (refine List.Perm.append_left _ ?_)
    rw [← List.append_assoc]
    (exact List.Perm.append_right _ List.perm_append_comm)
  exact h.remk h1q ⟨O3q ++ O1q, O4q, ⟨v, vs, O3q, O1q, rfl, r3q, r1q, rfl⟩, r4q, rfl⟩ hBq ndq nzq owq (fun aq qq => pmq.mem_iff.mpr qq) (pmq.nodup_iff.mp ndq) h.pin
theorem SR.oneMany (h : SR C ρ σ H (.one v (.val d) :: stk)) : SR C ρ σ H (.many [v] [d] :: stk) := by
  obtain ⟨Oρ, Os, B, h1, h2, hB, nd, nz, ow⟩ := h.ex
  obtain ⟨O1, O2, r1, r2, rfl⟩ := h2
  exact .again h1 ⟨O1, O2, ⟨v, [], O1, [], rfl, r1, ⟨rfl, rfl⟩, by simp⟩, r2, rfl⟩ hB nd nz ow h.kept h.z h.pin
end
end DV
namespace DV
open PySem L2

/-! ### results -/
structure Exn where
  c : Nat
  fs : List D
inductive R (α : Type) where
  | ok (a : α) | er (x : Exn) (ρ : Env) | no
def R.bind {α β : Type} (r : R α) (f : α → R β) : R β := match r with
  | .ok a => f a
  | .er x ρ => .er x ρ
  | .no => .no
def oR {α : Type} : Option α → R α
  | some a => .ok a
  | none => .no
inductive FR where
  | ok (d : D) (outs : List D) | er (x : Exn) (outs : List D) | no
abbrev Fns := Nat → List D → FR
abbrev EF := Env → R (It × Env)
abbrev TF := Env → R (Bool × Env)
abbrev AF := Env → R (List D × Env)

/-- what a program's errors hold; where its tables of code objects stand -/
structure XF where
  f : Nat → List Str
  tb : List (Addr × Str)
  cv : Nat → Value
/-- an exception: its class, its own dict with its fields -/
def XCls (T : Nat → Option Addr) (xf : XF) (H : Hp) (x : Exn) (cls : Value) (dd : Option Addr) (vs : List V) : Prop :=
  (∃ a, T x.c = some a ∧ cls = .ref a) ∧ ((vs = [] ∧ dd = none ∧ xf.f x.c = []) ∨ ∃ d, dd = some d ∧ H d = some (.xd ((xf.f x.c).zip vs)) ∧ vs.length = (xf.f x.c).length ∧ xf.f x.c ≠ [])

/-- the body's surroundings that do not change -/
structure Bg where
  C : Cn
  W : WX
  xf : XF
/-- what a body knows of its program: the slots that stay, where defs and classes stand, the fields of exceptions -/
structure Sg where
  pn : List Nat
  T : Nat → Option Addr
  xf : XF
  lam : Cn → Prop
structure Fit (S : Sg) (X : Cx) (G : Bg) : Prop where
  k : G.C.K = X.K
  tk : Takes X G.W
  t : G.C.T = S.T
  x : G.xf = S.xf
  tb : G.C.TB = G.xf.tb
  pin : ∀ p ∈ G.C.pin, p.1 ∈ S.pn
  lam : S.lam G.C
def PR {α : Type} (G : Bg) (σ : St) (stk : List SI) (r : R α) (Ok : α → Prop) : Prop := match r with
  | .ok a => Ok a
  | .er x ρ' => ∀ cls dd vs H', XCls G.C.T G.xf H' x cls dd vs → SR G.C ρ' σ H' (.many vs x.fs :: stk) → G.W cls dd σ H'
  | .no => False
section
variable {α β : Type} {G : Bg} {σ : St} {stk : List SI} {r : R α} {Ok Ok' : α → Prop}
theorem PR.bind {f : α → R β} {Ok : β → Prop} (h : PR G σ stk (r.bind f) Ok) : PR G σ stk r fun a => PR G σ stk (f a) Ok := by
  cases r with
  | ok a => exact h
  | er x ρ => exact h
  | no => exact h
theorem PR.mono (h : PR G σ stk r Ok) (k : ∀ a, Ok a → Ok' a) : PR G σ stk r Ok' := by
  cases r with
  | ok a => exact k a h
  | er x ρ => exact h
  | no => exact h
theorem SR.drop2 {C : Cn} {ρ : Env} {H : Hp} {a b : SI} (h : SR C ρ σ H (a :: b :: stk)) : SR C ρ σ H (a :: stk) := by
  obtain ⟨Oρ, Os, B, h1, h2, hB, nd, nz, ow⟩ := h.ex
  have fin : ∀ O1 O2 Oa, Os = Oa ++ (O1 ++ O2) → (∀ O, RepK C.K C.T H B stk O → ∃ O', RepK C.K C.T H B (a :: stk) O' ∧ O' = Oa ++ O) → RepK C.K C.T H B stk O2 → SR C ρ σ H (a :: stk) := fun O1 O2 Oa e ra r => by
    subst e
    obtain ⟨O', r', rfl⟩ := ra _ r
    refine h.remk h1 r' hB nd nz ow (fun x q => ?_) ?_ h.pin
    · simp at q ⊢
      rcases q with q | q | q <;> simp [q]
    · refine nodup_sub ?_ nd
      exact List.Sublist.append_left (List.Sublist.append_left (List.sublist_append_right _ _) _) _
  have two : ∀ {O : List Addr}, RepK C.K C.T H B (b :: stk) O → ∃ O1 O2, O = O1 ++ O2 ∧ RepK C.K C.T H B stk O2 := fun {O} h2 => by
    match b, h2 with
    | .one v (.val d), h2 => obtain ⟨O1, O2, _, r, e⟩ := h2; exact ⟨O1, O2, e, r⟩
    | .one v (.brw i), h2 => exact ⟨[], O, rfl, h2⟩
    | .many vs ds, h2 => obtain ⟨O1, O2, _, r, e⟩ := h2; exact ⟨O1, O2, e, r⟩
    | .hole a, h2 => obtain ⟨O2, r, e, _⟩ := h2; exact ⟨[a], O2, e, r⟩
  match a, h2 with
  | .one v (.val d), h2 =>
    obtain ⟨Oa, O', q, r, rfl⟩ := h2
    obtain ⟨O1, O2, rfl, r2⟩ := two r
    exact fin O1 O2 Oa rfl (fun O z => ⟨_, ⟨Oa, O, q, z, rfl⟩, rfl⟩) r2
  | .one v (.brw i), h2 =>
    obtain ⟨O1, O2, rfl, r2⟩ := two (O := Os) h2
    exact fin O1 O2 [] rfl (fun O z => ⟨O, z, rfl⟩) r2
  | .many vs ds, h2 =>
    obtain ⟨Oa, O', q, r, rfl⟩ := h2
    obtain ⟨O1, O2, rfl, r2⟩ := two r
    exact fin O1 O2 Oa rfl (fun O z => ⟨_, ⟨Oa, O, q, z, rfl⟩, rfl⟩) r2
  | .hole a, h2 =>
    obtain ⟨O', r, rfl, q⟩ := h2
    obtain ⟨O1, O2, rfl, r2⟩ := two r
    exact fin O1 O2 [a] rfl (fun O z => ⟨_, ⟨O, z, rfl, q⟩, rfl⟩) r2
/-- under one more thing on the stack -/
theorem PR.up {x : SI} (h : PR G σ stk r Ok) (k : ∀ a, Ok a → Ok' a) : PR G σ (x :: stk) r Ok' := by
  cases r with
  | ok a => exact k a h
  | er e ρ => exact fun cls dd vs H' hx hs => h cls dd vs H' hx hs.drop2
  | no => exact h
theorem PR.oR {o : Option α} (h : PR G σ stk (oR o) Ok) : ∃ a, o = some a ∧ Ok a := by
  cases o with
  | none => exact h.elim
  | some a => exact ⟨a, rfl, h⟩
end

/-! ### the readings that hold of themselves -/
def tW (X : Cx) (e : Expr) : TE := fun σ H Q => ∀ pins s, Inv X pins σ H s → wpAny (model X.prog X.w) X.A (eval e X.env) (EP X pins σ Q) X.xe s
def tWT (X : Cx) (e : Expr) : TT := fun σ H Q => ∀ pins s, Inv X pins σ H s → wpAny (model X.prog X.w) X.A (isTrue e X.env (eval e X.env)) (TP X pins σ Q) X.xe s
def tWA (X : Cx) (es : List Expr) : TA := fun σ H Q => ∀ pos pins s, Inv X pins σ H s → wpAny (model X.prog X.w) X.A (spliced (backTo pos (starEach es X.env))) (AP X pins σ Q) X.xe s
def tWS (X : Cx) (st : Stmt) : TS := fun D σ H => ∀ pins s, Inv X pins σ H s → wpAny (model X.prog X.w) X.A (exec st X.env) (SP X pins D) X.xe s
def tWSs (X : Cx) (st : List Stmt) : TS := fun D σ H => ∀ pins s, Inv X pins σ H s → wpAny (model X.prog X.w) X.A (execs st X.env) (SP X pins D) X.xe s
section
variable {X : Cx} {e : Expr} {es : List Expr} {st : Stmt} {sts : List Stmt}
theorem pe_W : PE X e (tW X e) := ⟨fun pins s σ H Q I h => h pins s I⟩
theorem pt_W : PT X e (tWT X e) := ⟨fun pins s σ H Q I h => h pins s I⟩
theorem pa_W : PA X es (tWA X es) := ⟨fun pos pins s σ H Q I h => h pos pins s I⟩
theorem ps_W : PS X st (tWS X st) := ⟨fun pins s σ H D I h => h pins s I⟩
theorem pss_W : PSs X sts (tWSs X sts) := ⟨fun pins s σ H D I h => h pins s I⟩
theorem of_PE {t : TE} {σ : St} {H : Hp} {Q : VK} (h : PE X e t) (q : t σ H Q) : tW X e σ H Q := fun pins s I => h.run pins s σ H Q I q
theorem of_PT {t : TT} {σ : St} {H : Hp} {Q : Bool → Hp → Prop} (h : PT X e t) (q : t σ H Q) : tWT X e σ H Q := fun pins s I => h.run pins s σ H Q I q
theorem of_PA {t : TA} {σ : St} {H : Hp} {Q : List V → Hp → Prop} (h : PA X es t) (q : t σ H Q) : tWA X es σ H Q := fun pos pins s I => h.run pos pins s σ H Q I q
theorem of_PS {t : TS} {σ : St} {H : Hp} {D : Ends} (h : PS X st t) (q : t D σ H) : tWS X st D σ H := fun pins s I => h.run pins s σ H D I q
theorem of_PSs {t : TS} {σ : St} {H : Hp} {D : Ends} (h : PSs X sts t) (q : t D σ H) : tWSs X sts D σ H := fun pins s I => h.run pins s σ H D I q
end

/-- what an expression's meaning says -/
def OkE (G : Bg) (σ : St) (stk : List SI) (Q : VK) : It × Env → Prop := fun p => ∀ v H', SR G.C p.2 σ H' (.one v p.1 :: stk) → BrwOk σ p.1 v → Q v H'
def OkT (G : Bg) (σ : St) (stk : List SI) (Q : Bool → Hp → Prop) : Bool × Env → Prop := fun p => ∀ H', SR G.C p.2 σ H' stk → Q p.1 H'
def OkA (G : Bg) (σ : St) (stk : List SI) (Q : List V → Hp → Prop) : List D × Env → Prop := fun p => ∀ vs H', SR G.C p.2 σ H' (.many vs p.1 :: stk) → vs.length = p.1.length → isFzA p.1 = true → Q vs H'
def EvOk (S : Sg) (X : Cx) (e : Expr) (F : EF) : Prop := ∀ G, Fit S X G → ∀ ρ σ H stk Q, SR G.C ρ σ H stk → PR G σ stk (F ρ) (OkE G σ stk Q) → tW X e σ H Q
def TvOk (S : Sg) (X : Cx) (e : Expr) (F : TF) : Prop := ∀ G, Fit S X G → ∀ ρ σ H stk Q, SR G.C ρ σ H stk → PR G σ stk (F ρ) (OkT G σ stk Q) → tWT X e σ H Q
def AvOk (S : Sg) (X : Cx) (es : List Expr) (F : AF) : Prop := ∀ G, Fit S X G → ∀ ρ σ H stk Q, SR G.C ρ σ H stk → PR G σ stk (F ρ) (OkA G σ stk Q) → tWA X es σ H Q

/-! ### constants and names -/
def evC (d : D) : EF := fun ρ => .ok (.val d, ρ)
def evV (i : Nat) : EF := fun ρ => (oR (slotD ρ i)).bind fun d => if isFz d then .ok (.val d, ρ) else .ok (.brw i, ρ)
section
variable {X : Cx}
theorem ev_imm {e : Expr} {d : D} {v : V} (h : PE X e (tC v)) (r : ∀ K T H B, Rep K T H B d v []) : EvOk S X e (evC d) := fun G f ρ σ H stk Q hs hp =>
  of_PE h (hp v H (hs.imm fun B => r _ _ _ _) trivial)
theorem ev_var {e : Expr} {i : Nat} (h : PE X e (tVar i)) : EvOk S X e (evV i) := fun G f ρ σ H stk Q hs hp => by
  obtain ⟨d, e1, hp⟩ := hp.bind.oR
  have e2 := slotD_some e1
  obtain ⟨Oρ, Os, B, h1, h2, _⟩ := hs.ex
  obtain ⟨v, O1, O2, ev, r1, _, _⟩ := h1.take e2
  refine of_PE h ⟨v, ev, ?_⟩
  by_cases fz : isFz d = true
  · rw [if_pos fz] at hp
    refine hp v H (hs.push fun B Oρ Os h1 h2 => ?_) trivial
    obtain ⟨v', O1, O2, ev', r1, _, _⟩ := h1.take e2
    rw [ev] at ev'
    cases ev'
    rw [isFz_nil fz r1] at r1
    exact r1
  · rw [if_neg fz] at hp
    refine hp v H ?_ ev
    obtain ⟨Oρ, Os, B, h1, h2, hB, nd, nz, ow⟩ := hs.ex
    exact .again h1 (show RepK _ _ H B (.one v (.brw i) :: stk) Os from h2) hB nd nz ow hs.kept hs.z hs.pin
end

/-! ### two operands -/
def ev2 (a b : EF) (g : D → D → Option D) : EF := fun ρ => (a ρ).bind fun p => (b p.2).bind fun q => (oR (dref q.2 p.1)).bind fun x => (oR (dref q.2 q.1)).bind fun y => (oR (g x y)).bind fun d => .ok (.val d, q.2)
def tv2 (a b : EF) (g : D → D → Option Bool) : TF := fun ρ => (a ρ).bind fun p => (b p.2).bind fun q => (oR (dref q.2 p.1)).bind fun x => (oR (dref q.2 q.1)).bind fun y => (oR (g x y)).bind fun d => .ok (d, q.2)
/-- what a two-place operation does with what stands on top -/
def OpOk (S : Sg) (X : Cx) (f : Value → Value → Sem Value) (g : D → D → Option D) : Prop := ∀ G, Fit S X G → ∀ ρ σ H stk x y ix iy dx dy d Q, SR G.C ρ σ H (.one y iy :: .one x ix :: stk) → BrwOk σ ix x → BrwOk σ iy y → dref ρ ix = some dx → dref ρ iy = some dy → g dx dy = some d →
  (∀ v H', SR G.C ρ σ H' (.one v (.val d) :: stk) → Q v H') → ∀ pins s σ' v u, Inv X pins σ' H s → RelV x v → RelV y u → wpAny (model X.prog X.w) X.A (f v u) (EP X pins σ' Q) X.xe s
def rW (X : Cx) (f : Value → Value → Sem Value) : R2 := fun x y H Q => ∀ pins s σ v u, Inv X pins σ H s → RelV x v → RelV y u → wpAny (model X.prog X.w) X.A (f v u) (EP X pins σ Q) X.xe s
theorem opR_W {X : Cx} {f : Value → Value → Sem Value} : OpR X f (rW X f) := fun pins s σ H x y v u Q I rx ry h => h pins s σ v u I rx ry
section
variable {X : Cx} {a b c : Expr} {fa fb fc : EF} {pos : Pos}
theorem two_ok {f : Value → Value → Sem Value} {g : D → D → Option D} (ho : OpOk S X f g) (ha : EvOk S X a fa) (hb : EvOk S X b fb) {G : Bg} (ft : Fit S X G) {ρ : Env} {σ : St} {H : Hp} {stk : List SI} {Q : VK} (hs : SR G.C ρ σ H stk)
    (hp : PR G σ stk (ev2 fa fb g ρ) (OkE G σ stk Q)) : tOp (rW X f) (tW X a) (tW X b) σ H Q := by
  refine ha G ft ρ σ H stk _ hs (hp.bind.mono fun p hp v1 H1 hs1 hb1 => ?_)
  refine hb G ft p.2 σ H1 _ _ hs1 (hp.bind.up fun q hp v2 H2 hs2 hb2 => ?_)
  obtain ⟨x, ex, hp⟩ := hp.bind.oR
  obtain ⟨y, ey, hp⟩ := hp.bind.oR
  obtain ⟨d, ed, hp⟩ := hp.bind.oR
  exact ho G ft q.2 σ H2 stk v1 v2 p.1 q.1 x y d Q hs2 hb1 hb2 ex ey ed fun v H' h => hp v H' h trivial
theorem ev_op {op : Operator} {g : D → D → Option D} (ho : OpOk S X (binaryOp op) g) (ha : EvOk S X a fa) (hb : EvOk S X b fb) : EvOk S X (.BinOp a op b pos) (ev2 fa fb g) := fun G ft ρ σ H stk Q hs hp =>
  of_PE (pe_op opR_W pe_W pe_W) (two_ok ho ha hb ft hs hp)
theorem ev_cmp {op : CmpOp} {g : D → D → Option D} (ho : OpOk S X (compareOp op) g) (ha : EvOk S X a fa) (hb : EvOk S X b fb) (hm : behindInMarks op b = false) : EvOk S X (.Compare a [op] [b] pos) (ev2 fa fb g) := fun G ft ρ σ H stk Q hs hp =>
  of_PE (pe_cmpR opR_W pe_W pe_W hm) (two_ok ho ha hb ft hs hp)
end

/-! ### from the hand layer's rules: an operation that leaves the heap as it is and hands on an unowned thing -/
theorem OpOk.imm {S : Sg} {X : Cx} {f : Value → Value → Sem Value} {g : D → D → Option D} {r : R2} (ho : OpR X f r)
    (h : ∀ T H x y dx dy d Q, Rep X.K T H [] (frz dx) x [] → Rep X.K T H [] (frz dy) y [] → g dx dy = some d → (∀ v, (∀ B, Rep X.K T H B d v []) → Q v H) → r x y H Q) : OpOk S X f g := fun G ft ρ σ H stk x y ix iy dx dy d Q hs hbx hby ex ey ed k pins s σ' v u I rx ry => by
  refine ho pins s σ' H x y v u Q I rx ry ?_
  have h1 := hs.see hby ey
  have h2 := hs.drop.see hbx ex
  rw [ft.k] at h1 h2
  refine h G.C.T H x y dx dy d Q h2 h1 ed fun v hv => k v H (hs.drop.drop.imm fun B => ?_)
  rw [ft.k]
  exact hv B
def b2D (b : Bool) : D := .bl b
section
variable {X : Cx}
def gI (p : Int → Int → Bool) (f : Int → Int → D) : D → D → Option D
  | .int i, .int j => if p i j then some (f i j) else none
  | _, _ => none
theorem gI_some {p : Int → Int → Bool} {f : Int → Int → D} {x y d : D} (h : gI p f x y = some d) : ∃ i j, x = .int i ∧ y = .int j ∧ p i j = true ∧ d = f i j := by
  unfold gI at h
  split at h
  · rename_i i j
    by_cases q : p i j = true
    · rw [if_pos q] at h
      cases h
      exact ⟨i, j, rfl, rfl, q, rfl⟩
    · rw [if_neg q] at h
      cases h
  · cases h
theorem OpOk.ints {f : Value → Value → Sem Value} {p : Int → Int → Bool} {g : Int → Int → Int} {Cd : Int → Int → Prop} (ho : OpR X f (rI Cd fun i j => .int (g i j))) (hc : ∀ i j, p i j = true → Cd i j) : OpOk S X f (gI p fun i j => .int (g i j)) :=
  .imm ho fun T H x y dx dy d Q hx hy e k => by
    obtain ⟨i, j, rfl, rfl, q, rfl⟩ := gI_some e
    exact ⟨i, j, hx.1, hy.1, hc i j q, k _ fun B => ⟨rfl, rfl⟩⟩
theorem OpOk.ints0 {f : Value → Value → Sem Value} {g : Int → Int → Int} (ho : OpR X f (rI0 fun i j => .int (g i j))) : OpOk S X f (gI (fun _ _ => true) fun i j => .int (g i j)) :=
  .imm ho fun T H x y dx dy d Q hx hy e k => by
    obtain ⟨i, j, rfl, rfl, q, rfl⟩ := gI_some e
    exact ⟨i, j, hx.1, hy.1, k _ fun B => ⟨rfl, rfl⟩⟩
theorem OpOk.intsB {f : Value → Value → Sem Value} {g : Int → Int → Bool} (ho : OpR X f (rI0 fun i j => .bl (g i j))) : OpOk S X f (gI (fun _ _ => true) fun i j => .bl (g i j)) :=
  .imm ho fun T H x y dx dy d Q hx hy e k => by
    obtain ⟨i, j, rfl, rfl, q, rfl⟩ := gI_some e
    exact ⟨i, j, hx.1, hy.1, k _ fun B => ⟨rfl, rfl⟩⟩
end
end DV
namespace DV
open PySem L2

/-! ### tests -/
def truD : D → Option Bool
  | .non => some false
  | .bl b => some b
  | .int i => some (i != 0)
  | .str x => some (!x.isEmpty)
  | .tup l => some (!l.isEmpty)
  | .scr l => some (!l.isEmpty)
  | .lst _ l => some (!l.isEmpty)
  | .dct _ _ _ _ => none
  | .fn _ => none
def tvT (a : EF) : TF := fun ρ => (a ρ).bind fun p => (oR (dref p.2 p.1)).bind fun d => (oR (truD d)).bind fun b => .ok (b, p.2)
def isB : It → Option Bool
  | .val (.bl b) => some b
  | _ => none
def tvB (a : EF) : TF := fun ρ => (a ρ).bind fun p => (oR (isB p.1)).bind fun b => .ok (b, p.2)
def tvAnd (a b : TF) : TF := fun ρ => (a ρ).bind fun p => if p.1 then b p.2 else .ok (false, p.2)
def tvOr (a b : TF) : TF := fun ρ => (a ρ).bind fun p => if p.1 then .ok (true, p.2) else b p.2
def tvNot (a : TF) : TF := fun ρ => (a ρ).bind fun p => .ok (!p.1, p.2)
def evAnd (a b : EF) : EF := fun ρ => (a ρ).bind fun p => (oR (isB p.1)).bind fun c => if c then b p.2 else .ok (.val (.bl false), p.2)
def evOr (a b : EF) : EF := fun ρ => (a ρ).bind fun p => (oR (isB p.1)).bind fun c => if c then .ok (.val (.bl true), p.2) else b p.2
def evNot (a : EF) : EF := fun ρ => (a ρ).bind fun p => (oR (isB p.1)).bind fun c => .ok (.val (.bl (!c)), p.2)
def evIf (t : TF) (a b : EF) : EF := fun ρ => (t ρ).bind fun p => if p.1 then a p.2 else b p.2

section
variable {X : Cx} {a b c : Expr} {rest : List Expr} {fa fb fc : EF} {ta tb : TF} {pos : Pos}
theorem rep_lenT {K : PySem.W.Frag} {T : Nat → Option Addr} {H : Hp} {B : List Addr} {l : List D} {v : V} {O : List Addr} (h : Rep K T H B (.tup l) v O) : ∃ a vs, v = .ref a ∧ SqT K H a vs ∧ vs.length = l.length := by
  obtain ⟨a, vs, e, f, r, _⟩ := h
  refine ⟨a, vs, e, ?_, r.length⟩
  rcases f with ⟨f, _⟩ | f
  · exact .inl f
  · exact .inr f
theorem FzS.sql {K : PySem.W.Frag} {H : Hp} {B : List Addr} {a : Addr} {vs : List V} (h : FzS K H B a vs) : SqL K H a vs := by
  rcases h with ⟨f, _⟩ | f
  · exact .inl f
  · exact .inr f
theorem FzL.sql {K : PySem.W.Frag} {H : Hp} {B : List Addr} {a : Addr} {vs : List V} (h : FzL H B a vs) : SqL K H a vs := .inl (.inl h.1)
theorem FzT.sqt {K : PySem.W.Frag} {H : Hp} {B : List Addr} {a : Addr} {vs : List V} (h : FzT K H B a vs) : SqT K H a vs := by
  rcases h with ⟨f, _⟩ | f
  · exact .inl f
  · exact .inr f
theorem frzA_length (l : List D) : (frzA l).length = l.length := by rw [frzA_map]; simp
theorem emp_len {α β : Type} {l : List α} {m : List β} (h : l.length = m.length) : l.isEmpty = m.isEmpty := by
  cases l <;> cases m <;> first | rfl | simp at h
theorem rep_tru {K : PySem.W.Frag} {T : Nat → Option Addr} {H : Hp} {d : D} {v : V} {b : Bool} (h : Rep K T H [] (frz d) v []) (e : truD d = some b) : TruV K v H b := by
  cases d with
  | non => obtain ⟨rfl, _⟩ := h; cases e; exact rfl
  | bl k => obtain ⟨rfl, _⟩ := h; cases e; exact rfl
  | int i => obtain ⟨rfl, _⟩ := h; cases e; exact rfl
  | str x =>
    obtain ⟨rfl, _, hl, _⟩ := h
    cases e
    refine ⟨hl, ?_⟩
    show (!x.isEmpty) = (((Str.length ⟨x.toArray⟩ : Nat) : Int) != 0)
    have : Str.length ⟨x.toArray⟩ = x.length := by simp [Str.length]
    rw [this]
    cases x with
    | nil => rfl
    | cons c r =>
      have : ((((c :: r).length : Nat) : Int) != 0) = true := by
        simp
        omega
      rw [this]
      rfl
  | tup l =>
    cases e
    obtain ⟨a, vs, rfl, s, hl⟩ := rep_lenT h
    exact .inr (.inl ⟨vs, s, by rw [emp_len hl]⟩)
  | scr l =>
    cases e
    obtain ⟨a, vs, rfl, f, r, _⟩ := h
    refine .inl ⟨vs, f.sql, ?_⟩
    rw [emp_len r.length]
  | lst o l =>
    cases e
    obtain ⟨a, vs, rfl, f, r, _⟩ := h
    refine .inl ⟨vs, f.sql, ?_⟩
    rw [emp_len r.length]
    rw [emp_len (frzA_length l)]
  | dct o t ks l => cases e
  | fn n => cases e
theorem tv_truth (ha : EvOk S X a fa) (he : ∀ whole, isTrue a X.env whole = (do let v ← whole; standAt a.pos; holding [v] (truthy v))) : TvOk S X a (tvT fa) := fun G ft ρ σ H stk Q hs hp =>
  of_PT (pt_truth pe_W he) (ha G ft ρ σ H stk _ hs (hp.bind.mono fun p hp v H' hs' hb => by
    obtain ⟨d, ed, hp⟩ := hp.bind.oR
    obtain ⟨b, eb, hp⟩ := hp.bind.oR
    refine ⟨b, ?_, hp H' hs'.drop⟩
    have h1 := hs'.see hb ed
    rw [ft.k] at h1
    exact rep_tru h1 eb))
theorem isB_val {G : Bg} {σ : St} {stk : List SI} {ρ : Env} {H : Hp} {it : It} {v : V} {b : Bool} (hs : SR G.C ρ σ H (.one v it :: stk)) (e : isB it = some b) : v = .bl b := by
  unfold isB at e
  split at e
  · cases e
    obtain ⟨Oρ, Os, B, h1, ⟨O1, O2, r, _⟩, _⟩ := hs.ex
    exact r.1
  · cases e
theorem tv_cmp {op : CmpOp} {g : D → D → Option D} (ho : OpOk S X (compareOp op) g) (ha : EvOk S X a fa) (hb : EvOk S X b fb) (hm : behindInMarks op b = false) : TvOk S X (.Compare a [op] [b] pos) (tvB (ev2 fa fb g)) := fun G ft ρ σ H stk Q hs hp =>
  of_PT (pt_cmpR opR_W pe_W pe_W hm) (two_ok (Q := fun x H' => ∃ k, x = .bl k ∧ Q k H') ho ha hb ft hs (hp.bind.mono fun p hp v H' hs' hb => by
    obtain ⟨k, ek, hp⟩ := hp.bind.oR
    exact ⟨k, isB_val hs' ek, hp H' hs'.drop⟩))
theorem tv_not (ha : TvOk S X a ta) : TvOk S X (.UnaryOp .Not a pos) (tvNot ta) := fun G ft ρ σ H stk Q hs hp =>
  of_PT (pt_not pt_W) (ha G ft ρ σ H stk _ hs (hp.bind.mono fun p hp => hp))
theorem tv_and1 (ha : TvOk S X a ta) : TvOk S X (.BoolOp .And [a] pos) ta := fun G ft ρ σ H stk Q hs hp => of_PT (pw_and1 pt_W).pt (ha G ft ρ σ H stk _ hs hp)
theorem tv_or1 (ha : TvOk S X a ta) : TvOk S X (.BoolOp .Or [a] pos) ta := fun G ft ρ σ H stk Q hs hp => of_PT (pw_or1 pt_W).pt (ha G ft ρ σ H stk _ hs hp)
/-- a chain of and, of or, whatever its whole is -/
def WvOk (S : Sg) (X : Cx) (e : Expr) (F : TF) : Prop := ∃ t, PW X e t ∧ ∀ G, Fit S X G → ∀ ρ σ H stk Q, SR G.C ρ σ H stk → PR G σ stk (F ρ) (OkT G σ stk Q) → t σ H Q
theorem wv_and1 (ha : TvOk S X a ta) : WvOk S X (.BoolOp .And [a] pos) ta := ⟨_, pw_and1 pt_W, ha⟩
theorem wv_or1 (ha : TvOk S X a ta) : WvOk S X (.BoolOp .Or [a] pos) ta := ⟨_, pw_or1 pt_W, ha⟩
theorem wv_and (ha : TvOk S X a ta) (hb : WvOk S X (.BoolOp .And (b :: rest) pos) tb) : WvOk S X (.BoolOp .And (a :: b :: rest) pos) (tvAnd ta tb) := by
  obtain ⟨t, ht, hb⟩ := hb
  refine ⟨_, pw_and pt_W ht, fun G ft ρ σ H stk Q hs hp => ha G ft ρ σ H stk _ hs (hp.bind.mono fun p hp H' hs' => ?_)⟩
  cases e : p.1 with
  | true =>
    rw [if_pos rfl]
    exact hb G ft _ σ H' stk Q hs' (by simpa [e] using hp)
  | false =>
    rw [if_neg (by simp)]
    have hp : PR G σ stk (R.ok (false, p.2)) (OkT G σ stk Q) := by simpa [e] using hp
    exact hp H' hs'
theorem wv_or (ha : TvOk S X a ta) (hb : WvOk S X (.BoolOp .Or (b :: rest) pos) tb) : WvOk S X (.BoolOp .Or (a :: b :: rest) pos) (tvOr ta tb) := by
  obtain ⟨t, ht, hb⟩ := hb
  refine ⟨_, pw_or pt_W ht, fun G ft ρ σ H stk Q hs hp => ha G ft ρ σ H stk _ hs (hp.bind.mono fun p hp H' hs' => ?_)⟩
  cases e : p.1 with
  | false =>
    rw [if_neg (by simp)]
    exact hb G ft _ σ H' stk Q hs' (by simpa [e] using hp)
  | true =>
    rw [if_pos rfl]
    have hp : PR G σ stk (R.ok (true, p.2)) (OkT G σ stk Q) := by simpa [e] using hp
    exact hp H' hs'
theorem WvOk.tv {e : Expr} {F : TF} (h : WvOk S X e F) : TvOk S X e F := fun G ft ρ σ H stk Q hs hp => by
  obtain ⟨t, ht, h⟩ := h
  exact of_PT ht.pt (h G ft ρ σ H stk Q hs hp)
theorem ev_one {op : BoolOp} (ha : EvOk S X a fa) : EvOk S X (.BoolOp op [a] pos) fa := fun G ft ρ σ H stk Q hs hp => of_PE (pe_one pe_W) (ha G ft ρ σ H stk Q hs hp)
theorem ev_and (ha : EvOk S X a fa) (hb : EvOk S X (.BoolOp .And (b :: rest) pos) fb) : EvOk S X (.BoolOp .And (a :: b :: rest) pos) (evAnd fa fb) := fun G ft ρ σ H stk Q hs hp =>
  of_PE (pe_and pe_W pe_W) (ha G ft ρ σ H stk _ hs (hp.bind.mono fun p hp v H' hs' _ => by
    obtain ⟨c, ec, hp⟩ := hp.bind.oR
    refine ⟨c, isB_val hs' ec, ?_⟩
    cases c with
    | true => rw [if_pos rfl] at hp ⊢; exact hb G ft _ σ H' stk Q hs'.drop hp
    | false =>
      rw [if_neg (by simp)] at hp ⊢
      exact hp _ H' (hs'.drop.imm fun B => ⟨rfl, rfl⟩) trivial))
theorem ev_or (ha : EvOk S X a fa) (hb : EvOk S X (.BoolOp .Or (b :: rest) pos) fb) : EvOk S X (.BoolOp .Or (a :: b :: rest) pos) (evOr fa fb) := fun G ft ρ σ H stk Q hs hp =>
  of_PE (pe_or pe_W pe_W) (ha G ft ρ σ H stk _ hs (hp.bind.mono fun p hp v H' hs' _ => by
    obtain ⟨c, ec, hp⟩ := hp.bind.oR
    refine ⟨c, isB_val hs' ec, ?_⟩
    cases c with
    | false => rw [if_neg (by simp)] at hp ⊢; exact hb G ft _ σ H' stk Q hs'.drop hp
    | true =>
      rw [if_pos rfl] at hp ⊢
      exact hp _ H' (hs'.drop.imm fun B => ⟨rfl, rfl⟩) trivial))
theorem ev_not (ha : EvOk S X a fa) : EvOk S X (.UnaryOp .Not a pos) (evNot fa) := fun G ft ρ σ H stk Q hs hp =>
  of_PE (pe_not pe_W) (ha G ft ρ σ H stk _ hs (hp.bind.mono fun p hp v H' hs' _ => by
    obtain ⟨c, ec, hp⟩ := hp.bind.oR
    exact ⟨c, isB_val hs' ec, hp _ H' (hs'.drop.imm fun B => ⟨rfl, rfl⟩) trivial⟩))
theorem ev_if (ht : TvOk S X c ta) (ha : EvOk S X a fa) (hb : EvOk S X b fb) : EvOk S X (.IfExp c a b pos) (evIf ta fa fb) := fun G ft ρ σ H stk Q hs hp =>
  of_PE (pe_ifExp pt_W pe_W pe_W) (ht G ft ρ σ H stk _ hs (hp.bind.mono fun p hp H' hs' => by
    cases e : p.1 with
    | true =>
      rw [if_pos rfl]
      exact ha G ft _ σ H' stk Q hs' (by simpa [e] using hp)
    | false =>
      rw [if_neg (by simp)]
      exact hb G ft _ σ H' stk Q hs' (by simpa [e] using hp)))
theorem tv_if (ht : TvOk S X c ta) {ta' tb' : TF} (ha : TvOk S X a ta') (hb : TvOk S X b tb') : TvOk S X (.IfExp c a b pos) (fun ρ => (ta ρ).bind fun p => if p.1 then ta' p.2 else tb' p.2) := fun G ft ρ σ H stk Q hs hp => by
  intro pins s I
  refine PyProof.Rows.isTrue_IfExp (thn (ht G ft ρ σ H stk (fun k H' => if k then tWT X a σ H' Q else tWT X b σ H' Q) hs (hp.bind.mono fun p hp H' hs' => by
    cases e : p.1 with
    | true =>
      rw [if_pos rfl]
      exact ha G ft _ σ H' stk Q hs' (by simpa [e] using hp)
    | false =>
      rw [if_neg (by simp)]
      exact hb G ft _ σ H' stk Q hs' (by simpa [e] using hp)) pins s I) fun k s1 ⟨H1, I1, q1⟩ => ?_)
  cases k with
  | true =>
    rw [if_pos rfl] at q1 ⊢
    exact q1 pins s1 I1
  | false =>
    rw [if_neg (by simp)] at q1 ⊢
    exact q1 pins s1 I1
end
end DV
namespace DV
open PySem L2

section
variable {C : Cn} {ρ : Env} {σ : St} {H : Hp} {stk : List SI}
theorem RepK.one {K : PySem.W.Frag} {T : Nat → Option Addr} {B : List Addr} : ∀ {x : SI} {O : List Addr}, RepK K T H B (x :: stk) O → ∃ O1 O2, O = O1 ++ O2 ∧ RepK K T H B stk O2 ∧ ∀ {s : List SI} {P : List Addr}, RepK K T H B s P → RepK K T H B (x :: s) (O1 ++ P)
  | .one v (.val d), _, h => by
    obtain ⟨O1, O2, q, r, rfl⟩ := h
    exact ⟨O1, O2, rfl, r, fun {s P} z => ⟨O1, P, q, z, rfl⟩⟩
  | .one v (.brw i), O, h => ⟨[], O, rfl, h, fun {s P} z => z⟩
  | .many vs ds, _, h => by
    obtain ⟨O1, O2, q, r, rfl⟩ := h
    exact ⟨O1, O2, rfl, r, fun {s P} z => ⟨O1, P, q, z, rfl⟩⟩
  | .hole a, _, h => by
    obtain ⟨O2, r, rfl, q⟩ := h
    exact ⟨[a], O2, rfl, r, fun {s P} z => ⟨P, z, rfl, q⟩⟩
theorem SR.swap {aq b : SI} (h : SR C ρ σ H (aq :: b :: stk)) : SR C ρ σ H (b :: aq :: stk) := by
  obtain ⟨Oρq, Os, Bq, h1q, h2q, hBq, ndq, nzq, owq⟩ := h.ex
  obtain ⟨O1q, O2q, rfl, rq, kq⟩ := RepK.one h2q
  obtain ⟨P1q, P2q, rfl, rq', kq'⟩ := RepK.one rq
  have pmq : List.Perm (Oρq ++ (O1q ++ (P1q ++ P2q))) (Oρq ++ (P1q ++ (O1q ++ P2q))) := by
    (refine List.Perm.append_left _ ?_)
    (rw [← List.append_assoc, ← List.append_assoc])
    (exact List.Perm.append_right _ List.perm_append_comm)
  exact h.remk h1q (kq' (kq rq')) hBq ndq nzq owq (fun aq qq => pmq.mem_iff.mpr qq) (pmq.nodup_iff.mp ndq) h.pin
theorem SR.unmany {v : V} {d : D} (h : SR C ρ σ H (.many [v] [d] :: stk)) : SR C ρ σ H (.one v (.val d) :: stk) := by
  obtain ⟨Oρ, Os, B, h1, h2, hB, nd, nz, ow⟩ := h.ex
  obtain ⟨O1, O2, r1, r2, rfl⟩ := h2
  obtain ⟨v', vs', P1, P2, e, q1, q2, rfl⟩ := r1
  cases e
  obtain ⟨_, rfl⟩ := q2
  exact .again h1 ⟨P1 ++ [], O2, by simpa using q1, r2, rfl⟩ hB nd nz ow h.kept h.z h.pin
theorem SR.consMany' {v : V} {d : D} {vs : List V} {ds : List D} (h : SR C ρ σ H (.one v (.val d) :: .many vs ds :: stk)) : SR C ρ σ H (.many (v :: vs) (d :: ds) :: stk) := h.swap.consMany
end

/-! ### argument lists -/
def setB (fz : Bool) (ρ : Env) (it : It) : Option (D × Env) := if fz then settle ρ it else grab ρ it
def avNil : AF := fun ρ => .ok ([], ρ)
def avCons (fz : Bool) (a : EF) (r : AF) : AF := fun ρ => (a ρ).bind fun p => (oR (setB fz p.2 p.1)).bind fun q => (r q.2).bind fun t => .ok (q.1 :: t.1, t.2)
def OkAb (fz : Bool) (G : Bg) (σ : St) (stk : List SI) (Q : List V → Hp → Prop) : List D × Env → Prop := fun p => ∀ vs H', SR G.C p.2 σ H' (.many vs p.1 :: stk) → vs.length = p.1.length → (fz = true → isFzA p.1 = true) → Q vs H'
def AbOk (S : Sg) (fz : Bool) (X : Cx) (es : List Expr) (F : AF) : Prop := ∀ G, Fit S X G → ∀ ρ σ H stk Q, SR G.C ρ σ H stk → PR G σ stk (F ρ) (OkAb fz G σ stk Q) → tWA X es σ H Q
def notStar : Expr → Bool
  | .Starred _ _ => false
  | _ => true
theorem star_cons {e : Expr} {es : List Expr} {env : PySem.Env} (h : notStar e = true) : starEach (e :: es) env = (false, eval e env) :: starEach es env := by
  cases e <;> first | rfl | simp [notStar] at h
theorem star_none : ∀ {es : List Expr} {env : PySem.Env} {pos : Pos}, es.all notStar = true → (backTo pos (starEach es env)).any (·.1) = false
  | [], _, _, _ => rfl
  | e :: es, env, pos, h => by
    (simp only [List.all_cons, Bool.and_eq_true] at h)
    rw [star_cons h.1]
    have := star_none (es := es) (env := env) (pos := pos) h.2
    unfold backTo at this ⊢
    simp only [List.map_cons, List.any_cons, Bool.false_or]
    exact this
section
variable {X : Cx} {e : Expr} {es : List Expr} {fa : EF} {fr : AF} {fz : Bool} {pos : Pos}
theorem ab_nil : AbOk S fz X [] avNil := fun G ft ρ σ H stk Q hs hp => of_PA pa_nil (hp [] H hs.nilMany rfl fun _ => rfl)
theorem SR.setB {C : Cn} {ρ ρ' : Env} {σ : St} {H : Hp} {stk : List SI} {v : V} {d : D} {it : It} (h : SR C ρ σ H (.one v it :: stk)) (hb : BrwOk σ it v) (e : DV.setB fz ρ it = some (d, ρ')) : SR C ρ' σ H (.one v (.val d) :: stk) ∧ (fz = true → isFz d = true) := by
  unfold DV.setB at e
  cases fz with
  | true => exact ⟨(h.settle hb e).1, fun _ => (h.settle hb e).2⟩
  | false => exact ⟨h.grab hb e, fun z => nomatch z⟩
theorem ab_cons (ha : EvOk S X e fa) (hr : AbOk S fz X es fr) (hs : notStar e = true) : AbOk S fz X (e :: es) (avCons fz fa fr) := fun G ft ρ σ H stk Q hs' hp =>
  of_PA (pa_cons pe_W pa_W (star_cons hs)) (ha G ft ρ σ H stk _ hs' (hp.bind.mono fun p hp v H1 hs1 hb => by
    obtain ⟨q, eq, hp⟩ := hp.bind.oR
    obtain ⟨hs2, fzd⟩ := hs1.setB hb eq
    refine hr G ft _ σ H1 _ _ hs2 (hp.bind.up fun t hp vs H2 hs3 hl hf => ?_)
    exact hp (v :: vs) H2 hs3.consMany (by simp [hl]) fun z => by simp [isFzA, fzd z, hf z]))

/-! ### displays -/
def evTup (r : AF) : EF := fun ρ => (r ρ).bind fun p => if p.1.length ≤ sizeLine then .ok (.val (.tup p.1), p.2) else .no
def evLst (r : AF) : EF := fun ρ => (r ρ).bind fun p => if p.1.length ≤ sizeLine then .ok (.val (.lst true p.1), p.2) else .no
theorem ev_tup {x1} (hr : AbOk S true X es fr) : EvOk S X (.Tuple es x1 pos) (evTup fr) := fun G ft ρ σ H stk Q hs hp =>
  of_PE (pe_tup pa_W) (hr G ft ρ σ H stk _ hs (hp.bind.mono fun p hp vs H1 hs1 hl hf => by
    by_cases z : p.1.length ≤ sizeLine
    · rw [if_pos z] at hp
      exact ⟨by omega, fun a ha => hp _ _ (hs1.tuple ha (hf rfl)) trivial⟩
    · rw [if_neg z] at hp
      exact hp.elim))
theorem ev_lst (hr : AbOk S false X es fr) : EvOk S X (.List es pos) (evLst fr) := fun G ft ρ σ H stk Q hs hp =>
  of_PE (pe_lst pa_W) (hr G ft ρ σ H stk _ hs (hp.bind.mono fun p hp vs H1 hs1 hl hf => by
    by_cases z : p.1.length ≤ sizeLine
    · rw [if_pos z] at hp
      exact ⟨by omega, fun a ha => hp _ _ (hs1.list ha) trivial⟩
    · rw [if_neg z] at hp
      exact hp.elim))
end

/-! ### calls of defs -/
def spF (K : PySem.W.Frag) (T : Nat → Option Addr) (xf : XF) (io : Bool) (F : List D → FR) : Sp := fun vs H Q E => ∃ (C : Cn) (ρ : Env) (σ : St) (stk : List SI) (ds : List D),
  C.K = K ∧ C.T = T ∧ C.TB = xf.tb ∧ SR C ρ σ H (.many vs ds :: stk) ∧ vs.length = ds.length ∧ (if io then isFzA ds.tail else isFzA ds) = true ∧
  match F ds with
  | .ok d outs => (outs.length = if io then 1 else 0) ∧ ∀ v H', SR C ρ σ H' (.one v (.val d) :: .many (vs.take outs.length) outs :: stk) → Q v H'
  | .er x outs => (outs.length = if io then 1 else 0) ∧ ∀ cls dd ws H', XCls T xf H' x cls dd ws → SR C ρ σ H' (.many ws x.fs :: .many (vs.take outs.length) outs :: stk) → E cls dd H'
  | .no => False

def FR.r0 (ρ : Env) : FR → R (It × Env)
  | .ok d [] => .ok (.val d, ρ)
  | .er x [] => .er x ρ
  | _ => .no
def FR.r1 (ρ : Env) (i : Nat) : FR → R (It × Env)
  | .ok d [h] => .ok (.val d, ρ.set i (some h))
  | .er x [h] => .er x (ρ.set i (some h))
  | _ => .no
def evCall (F : List D → FR) (r : AF) : EF := fun ρ => (r ρ).bind fun p => (F p.1).r0 p.2
def evCallH (F : List D → FR) (i : Nat) (r : AF) : EF := fun ρ => (oR (slotD ρ i)).bind fun _ => (r ρ).bind fun p => (oR (slotD p.2 i)).bind fun h => (F (h :: p.1)).r1 p.2 i

/-- a def that stands and keeps its promise -/
structure DefOk (X : Cx) (k : Nat) (x : Str) (T : Nat → Option Addr) (xf : XF) (io : Bool) (F : List D → FR) : Prop where
  ex : ∃ (f : Addr) (fd : FuncData) (ps : List Str), X.mg x = some (.ref f) ∧ PySem.W.keepIn X.K (.ref f) = true ∧ Binds X.K fd ps [] ∧ FnOk X.prog X.w X.K X.mg X.base (L2.CX X.prog X.w) k f fd ps (spF X.K T xf io F)
section
variable {X : Cx} {k : Nat} {f : Addr} {fd : FuncData} {ps : List Str} {sp : Sp} {E : St → XK} {x : Str} {p pos : Pos} {e : Expr} {es : List Expr} {t : TA} {fr : AF} {fa : EF} {F : List D → FR}
theorem pe_callS0 {CX : CXT} (F : FnOk X.prog X.w X.K X.mg X.base CX k f fd ps sp) (hr : Room k X.A) (hg : Gl X x) (hm : X.mg x = some (.ref f)) (hk : PySem.W.keepIn X.K (.ref f) = true) (hb : Binds X.K fd ps []) (hx : ∀ σq, PassesAt CX X σq (E σq))
    (hdb : (x == ("__debug__" : Str)) = false := by decide) : PE X (.Call (.Name x p) [] [] pos) (tCallS sp E tNil) := by
  refine ⟨fun pinsq sq σq Hq Qq Iq hq => ?_⟩
  refine wpAny_Call_Name_kw (ld_glob Iq hg hm ?_ hdb)
  exact PySem.W.callWith_K0 Iq.kIn hk (run_fnS F hr hb (hx σq) Iq .nil hq)
theorem r0_ok {G : Bg} {σ : St} {stk : List SI} {Q : VK} {ρ : Env} {vs : List V} {ds : List D} {H : Hp} (ft : Fit S X G) (hs : SR G.C ρ σ H (.many vs ds :: stk)) (hl : vs.length = ds.length) (hf : isFzA ds = true) (hp : PR G σ stk ((F ds).r0 ρ) (OkE G σ stk Q)) :
    spF X.K G.C.T G.xf false F vs H Q (WE G.W σ) := by
  refine ⟨G.C, ρ, σ, stk, ds, ft.k, rfl, ft.tb, hs, hl, hf, ?_⟩
  have pop : ∀ {s : List SI} {H' : Hp} {y : SI}, SR G.C ρ σ H' (y :: .many [] [] :: s) → SR G.C ρ σ H' (y :: s) := fun h => h.drop2
  cases e : F ds with
  | ok d outs =>
    rw [e] at hp
    cases outs with
    | nil => exact ⟨rfl, fun v H' h => hp v H' (pop h) trivial⟩
    | cons _ _ => exact hp.elim
  | er x outs =>
    rw [e] at hp
    cases outs with
    | nil => exact ⟨rfl, fun cls dd ws H' hx h => hp cls dd ws H' hx (pop h)⟩
    | cons _ _ => exact hp.elim
  | no =>
    rw [e] at hp
    exact hp.elim
theorem ev_call0 (hd : DefOk X k x S.T S.xf false F) (hr : Room k X.A) (hg : Gl X x) (hdb : (x == ("__debug__" : Str)) = false) : EvOk S X (.Call (.Name x p) [] [] pos) (evCall F avNil) := fun G ft ρ σ H stk Q hs hp => by
  obtain ⟨f, fd, ps, hm, hk, hb, hF⟩ := hd.ex
  rw [← ft.t, ← ft.x] at hF
  exact of_PE (pe_callS0 (E := WE G.W) hF hr hg hm hk hb (fun σ => passAt ft.tk σ) hdb) (r0_ok ft hs.nilMany rfl rfl hp)
theorem ev_call (hd : DefOk X k x S.T S.xf false F) (hr : Room k X.A) (hg : Gl X x) (hdb : (x == ("__debug__" : Str)) = false) (ha : AbOk S true X (e :: es) fr) (hst : (e :: es).all notStar = true) : EvOk S X (.Call (.Name x p) (e :: es) [] pos) (evCall F fr) := fun G ft ρ σ H stk Q hs hp => by
  obtain ⟨f, fd, ps, hm, hk, hb, hF⟩ := hd.ex
  rw [← ft.t, ← ft.x] at hF
  simp only [List.all_cons, Bool.and_eq_true] at hst
  refine of_PE (pe_callS (E := WE G.W) hF hr hg hm hk hb (fun σ => passAt ft.tk σ) pa_W hdb (star_cons hst.1) (star_none hst.2)) ?_
  exact ha G ft ρ σ H stk _ hs (hp.bind.mono fun q hp vs H' hs' hl hf => r0_ok ft hs' hl (hf rfl) hp)
/-- the first argument is a slot that the callee may change -/
theorem ev_callH {i : Nat} (hd : DefOk X k x S.T S.xf true F) (hr : Room k X.A) (hg : Gl X x) (hdb : (x == ("__debug__" : Str)) = false) (hi : PE X e (tVar i)) (ha : AbOk S true X es fr) (hst : (e :: es).all notStar = true) : EvOk S X (.Call (.Name x p) (e :: es) [] pos) (evCallH F i fr) := fun G ft ρ σ H stk Q hs hp => by
  obtain ⟨d00, e00, hp⟩ := hp.bind.oR
  obtain ⟨v0, hv0, _⟩ := hs.take (slotD_some e00)
  obtain ⟨f, fd, ps, hm, hk, hb, hF⟩ := hd.ex
  rw [← ft.t, ← ft.x] at hF
  simp only [List.all_cons, Bool.and_eq_true] at hst
  refine of_PE (pe_callS (E := WE G.W) hF hr hg hm hk hb (fun σ => passAt ft.tk σ) (pa_cons hi pa_W (star_cons hst.1)) hdb (star_cons hst.1) (star_none hst.2)) ?_
  refine ⟨v0, hv0, ha G ft ρ σ H stk _ hs (hp.bind.mono fun q hp vs H' hs' hl hf => ?_)⟩
  obtain ⟨d0, ed, hp⟩ := hp.bind.oR
  obtain ⟨v0', ev', hs2⟩ := hs'.take (slotD_some ed)
  rw [hv0] at ev'
  cases ev'
  have hi2 : (q.2.set i none)[i]? = some none := by
    have := (List.getElem?_eq_some_iff.mp (slotD_some ed)).1
    rw [List.getElem?_set_self this]
  refine ⟨G.C, q.2.set i none, σ, stk, d0 :: q.1, ft.k, rfl, ft.tb, hs2.consMany', by simp [hl], by simpa using hf rfl, ?_⟩
  have pop : ∀ {s : List SI} {H' : Hp} {y : SI} {h : D}, SR G.C (q.2.set i none) σ H' (y :: .many [v0] [h] :: s) → SR G.C (q.2.set i (some h)) σ H' (y :: s) := fun {s H' y h} z => by
    have := z.swap.unmany.back hi2 hv0
    rw [List.set_set] at this
    exact this
  cases e : F (d0 :: q.1) with
  | ok d outs =>
    rw [e] at hp
    match outs, hp with
    | [h], hp => exact ⟨rfl, fun v H' z => hp v H' (pop z) trivial⟩
  | er x outs =>
    rw [e] at hp
    match outs, hp with
    | [h], hp => exact ⟨rfl, fun cls dd ws H' hx z => hp cls dd ws H' hx (pop z)⟩
  | no =>
    rw [e] at hp
    exact hp.elim
end
end DV
namespace DV
open PySem L2

/-! ### what is walked -/
structure Src (C : Cn) (J : L2.It) (ds : List D) (e : List SI) : Prop where
  run : ∀ ρ σ H s (i : Nat), SR C ρ σ H (e ++ s) → (∀ d, ds[i]? = some d → J.go i H ∧ ∀ x H', J.yld i H x H' → SR C ρ σ H' (.one x (.val d) :: (e ++ s))) ∧ (ds.length ≤ i → J.stop i H)
abbrev IF := Env → R (List D × Env)
def tWI (X : Cx) (tg iter : Expr) : TI := fun σ H R => ∀ pins s, Inv X pins σ H s → wpAny (model X.prog X.w) X.A (eval iter X.env) (fun v s1 => wpAny (model X.prog X.w) X.A (pyIter v) (PIE X pins σ tg R) X.xe s1) X.xe s
theorem pi_W {X : Cx} {tg iter : Expr} : PI X tg iter (tWI X tg iter) := ⟨fun pins s σ H R I h => h pins s I⟩
theorem of_PI {X : Cx} {tg iter : Expr} {t : TI} {σ : St} {H : Hp} {R : L2.It → Hp → Prop} (h : PI X tg iter t) (q : t σ H R) : tWI X tg iter σ H R := fun pins s I => h.run pins s σ H R I q
def OkI (G : Bg) (σ : St) (stk : List SI) (R : L2.It → Hp → Prop) : List D × Env → Prop := fun p => ∀ J e H', Src G.C J p.1 e → SR G.C p.2 σ H' (e ++ stk) → R J H'
def IvOk (S : Sg) (X : Cx) (tg iter : Expr) (F : IF) : Prop := ∀ G, Fit S X G → ∀ ρ σ H stk R, SR G.C ρ σ H stk → PR G σ stk (F ρ) (OkI G σ stk R) → tWI X tg iter σ H R
/-- the items of a thing that is walked -/
def itemsD : D → Option (List D)
  | .tup l => some l
  | .scr l => some l
  | .lst false l => some l
  | .str x => some (x.map fun c => .str [c])
  | _ => none
def ivSeq (a : EF) : IF := fun ρ => (a ρ).bind fun p => (oR (settle p.2 p.1)).bind fun q => (oR (itemsD q.1)).bind fun l => .ok (l, q.2)
section
variable {X : Cx} {tg a b : Expr} {fa fb : EF} {pos : Pos}
theorem SR.top {C : Cn} {ρ : Env} {σ : St} {H : Hp} {stk : List SI} {v : V} {d : D} (h : SR C ρ σ H (.one v (.val d) :: stk)) : ∃ B O, Rep C.K C.T H B d v O := by
  obtain ⟨Oρ, Os, B, h1, ⟨O1, O2, r, _⟩, _⟩ := h.ex
  exact ⟨B, O1, r⟩
/-- an item of an unowned sequence on the stack, pushed -/
theorem SR.item {C : Cn} {ρ : Env} {σ : St} {H : Hp} {stk : List SI} {a : Addr} {d : D} {l : List D} {x : V} {vs : List V} {i : Nat} (h : SR C ρ σ H (.one (.ref a) (.val d) :: stk)) (hd : d = .tup l ∨ d = .lst false l ∨ d = .scr l)
    (hq : ∀ B O, Rep C.K C.T H B d (.ref a) O → ∃ vs, RepA C.K C.T H B l vs [] ∧ vs[i]? = some x) {e : D} (he : l[i]? = some e) : SR C ρ σ H (.one x (.val e) :: .one (.ref a) (.val d) :: stk) :=
  h.push fun B Oρ Os h1 h2 => by
    obtain ⟨O1, O2, r, _, _⟩ := h2
    obtain ⟨vs, r2, e2⟩ := hq B O1 r
    exact r2.nil_get he e2
theorem src_tup {C : Cn} {a : Addr} {l : List D} : Src C (Itt C.K a) l [.one (.ref a) (.val (.tup l))] := ⟨fun ρ σ H s i h => by
  have h' : SR C ρ σ H (.one (.ref a) (.val (.tup l)) :: s) := h
  have ge : ∀ B O, Rep C.K C.T H B (.tup l) (.ref a) O → ∃ vs, SqT C.K H a vs ∧ RepA C.K C.T H B l vs [] := fun B O r => by
    obtain ⟨a', vs, e1, f, r, _⟩ := r
    cases e1
    exact ⟨vs, f.sqt, r⟩
  obtain ⟨B, O, r⟩ := h'.top
  obtain ⟨vs, q, r⟩ := ge B O r
  refine ⟨fun d ed => ?_, fun hi => ⟨vs, q, by rw [r.length]; exact hi⟩⟩
  obtain ⟨v, O1, ev, _⟩ := r.getD ed
  refine ⟨⟨vs, v, q, ev⟩, fun x H' y => ?_⟩
  obtain ⟨rfl, y⟩ := y
  refine h'.item (vs := vs) (.inl rfl) (fun B O r => ?_) ed
  obtain ⟨vs', q', r'⟩ := ge B O r
  exact ⟨vs', r', y vs' q'⟩⟩
theorem src_lst {C : Cn} {a : Addr} {l : List D} : Src C (Itl C.K a) l [.one (.ref a) (.val (.lst false l))] := ⟨fun ρ σ H s i h => by
  have h' : SR C ρ σ H (.one (.ref a) (.val (.lst false l)) :: s) := h
  have ge : ∀ B O, Rep C.K C.T H B (.lst false l) (.ref a) O → ∃ vs, SqL C.K H a vs ∧ RepA C.K C.T H B l vs [] := fun B O r => by
    obtain ⟨a', vs, e1, f, r, _⟩ := r
    cases e1
    exact ⟨vs, f.sql, r⟩
  obtain ⟨B, O, r⟩ := h'.top
  obtain ⟨vs, q, r⟩ := ge B O r
  refine ⟨fun d ed => ?_, fun hi => ⟨vs, q, by rw [r.length]; exact hi⟩⟩
  obtain ⟨v, O1, ev, _⟩ := r.getD ed
  refine ⟨⟨vs, v, q, ev⟩, fun x H' y => ?_⟩
  obtain ⟨rfl, y⟩ := y
  refine h'.item (vs := vs) (.inr (.inl rfl)) (fun B O r => ?_) ed
  obtain ⟨vs', q', r'⟩ := ge B O r
  exact ⟨vs', r', y vs' q'⟩⟩
theorem src_scr {C : Cn} {a : Addr} {l : List D} : Src C (Itl C.K a) l [.one (.ref a) (.val (.scr l))] := ⟨fun ρ σ H s i h => by
  have h' : SR C ρ σ H (.one (.ref a) (.val (.scr l)) :: s) := h
  have ge : ∀ B O, Rep C.K C.T H B (.scr l) (.ref a) O → ∃ vs, SqL C.K H a vs ∧ RepA C.K C.T H B l vs [] := fun B O r => by
    obtain ⟨a', vs, e1, f, r, _⟩ := r
    cases e1
    exact ⟨vs, f.sql, r⟩
  obtain ⟨B, O, r⟩ := h'.top
  obtain ⟨vs, q, r⟩ := ge B O r
  refine ⟨fun d ed => ?_, fun hi => ⟨vs, q, by rw [r.length]; exact hi⟩⟩
  obtain ⟨v, O1, ev, _⟩ := r.getD ed
  refine ⟨⟨vs, v, q, ev⟩, fun x H' y => ?_⟩
  obtain ⟨rfl, y⟩ := y
  refine h'.item (vs := vs) (.inr (.inr rfl)) (fun B O r => ?_) ed
  obtain ⟨vs', q', r'⟩ := ge B O r
  exact ⟨vs', r', y vs' q'⟩⟩
theorem src_str {C : Cn} {v : V} {x : List Nat} : Src C (Its ⟨x.toArray⟩) (x.map fun c => .str [c]) [.one v (.val (.str x))] := ⟨fun ρ σ H s i h => by
  have h' : SR C ρ σ H (.one v (.val (.str x)) :: s) := h
  obtain ⟨B, O, r⟩ := h'.top
  refine ⟨fun d ed => ?_, fun hi => by simpa [Its] using hi⟩
  rw [List.getElem?_map] at ed
  obtain ⟨c, ec, rfl⟩ := Option.map_eq_some_iff.mp ed
  have hi : i < x.length := (List.getElem?_eq_some_iff.mp ec).1
  refine ⟨by simpa [Its] using hi, fun y H' z => ?_⟩
  obtain ⟨rfl, c', e1, rfl⟩ := z
  have e1 : x[i]? = some c' := by simpa using e1
  rw [ec] at e1
  cases e1
  refine h'.imm fun B => ⟨rfl, fun k hk => ?_, by rw [sizeLine_eq]; simp, rfl⟩
  have : k = c := by simpa using hk
  rw [this]
  exact r.2.1 c (List.mem_of_getElem? ec)⟩
def iAny (X : Cx) (te : TE) : TI := fun σ H R => te σ H fun x H1 => (∃ a, x = .ref a ∧ (∃ xs, SqL X.K H1 a xs) ∧ R (Itl X.K a) H1) ∨ (∃ a, x = .ref a ∧ (∃ xs, SqT X.K H1 a xs) ∧ R (Itt X.K a) H1) ∨ ∃ y, x = .str y ∧ R (Its y) H1
theorem pi_any {te : TE} (he : PE X aq te) : PI X tg aq (iAny X te) := by
  refine ⟨fun pinsq sq σq Hq Rq Iq hq => ?_⟩
  refine thn (he.run pinsq sq σq Hq _ Iq hq) fun vq s1q ⟨xq, H1q, I1q, r1q, q1q⟩ => ?_
  rcases q1q with ⟨aq, rfl, ⟨xsq, hqq⟩, qq⟩ | ⟨aq, rfl, ⟨xsq, hqq⟩, qq⟩ | ⟨yq, rfl, qq⟩
  · cases r1q
    obtain ⟨itsq, rvq, pq, hzq⟩ := I1q.list hqq
    refine wpAny_pyIter_list pq.isList ?_
    refine ⟨s1q.heap.objs.size, [s1q.heap.objs.size], _, _, H1q, rfl, I1q.kept (t' := s1q.toks) fun bq oq eq => Heap.get?_push_of_some _ eq, turn_list aq _, ⟨_, Heap.get?_push_size _ rfl, rfl, rfl⟩, fun bq hbq => ?_, qq⟩
    have eq : bq = s1q.heap.objs.size := by simpa using hbq
    subst eq
    exact I1q.fpOk (Nat.le_refl _) (I1q.hok.fresh (Nat.le_refl _))
  · cases r1q
    obtain ⟨itsq, rvq, pq, hzq⟩ := I1q.tuple hqq
    refine wpAny_pyIter_tuple (show s1q.heap.IsTuple aq itsq.toArray from pq) ?_
    refine ⟨s1q.heap.objs.size, [s1q.heap.objs.size], _, _, H1q, rfl, I1q.kept (t' := s1q.toks) fun bq oq eq => Heap.get?_push_of_some _ eq, turn_tuple aq _, ⟨_, Heap.get?_push_size _ rfl, rfl, rfl⟩, fun bq hbq => ?_, qq⟩
    have eq : bq = s1q.heap.objs.size := by simpa using hbq
    subst eq
    exact I1q.fpOk (Nat.le_refl _) (I1q.hok.fresh (Nat.le_refl _))
  · obtain ⟨tq, rfl⟩ := r1q
    cases ha : yq.cps.all (· < 128)
    · exact wpAny_pyIter_wide ha (pi_one (tk := s1q.toks) I1q _ (turn_str _ yq tq "str_iterator" (.inr rfl)) ⟨_, Heap.get?_push_size _ rfl, rfl, rfl⟩ qq)
    · exact wpAny_pyIter_ascii ha (pi_one (tk := s1q.toks) I1q _ (turn_str _ yq tq "str_ascii_iterator" (.inl rfl)) ⟨_, Heap.get?_push_size _ rfl, rfl, rfl⟩ qq)
/-- what stands on top, walked -/
theorem walk_top {G : Bg} (ft : Fit S X G) {ρ : Env} {σ : St} {H : Hp} {stk : List SI} {v : V} {d : D} {l : List D} {R : L2.It → Hp → Prop} (hs : SR G.C ρ σ H (.one v (.val d) :: stk)) (e : itemsD d = some l)
    (k : ∀ J e, Src G.C J l e → SR G.C ρ σ H (e ++ stk) → R J H) : (∃ a, v = .ref a ∧ (∃ xs, SqL X.K H a xs) ∧ R (Itl X.K a) H) ∨ (∃ a, v = .ref a ∧ (∃ xs, SqT X.K H a xs) ∧ R (Itt X.K a) H) ∨ ∃ y, v = .str y ∧ R (Its y) H := by
  obtain ⟨B, O, r⟩ := hs.top
  unfold itemsD at e
  split at e
  · cases e
    obtain ⟨a, vs, rfl, f, _⟩ := r
    have q := k _ _ (src_tup (C := G.C) (a := a)) hs
    rw [ft.k] at q f
    exact .inr (.inl ⟨a, rfl, ⟨vs, f.sqt⟩, q⟩)
  · cases e
    obtain ⟨a, vs, rfl, f, _⟩ := r
    have q := k _ _ (src_scr (C := G.C) (a := a)) hs
    rw [ft.k] at q f
    exact .inl ⟨a, rfl, ⟨vs, f.sql⟩, q⟩
  · cases e
    obtain ⟨a, vs, rfl, f, _⟩ := r
    have q := k _ _ (src_lst (C := G.C) (a := a)) hs
    rw [ft.k] at q
    exact .inl ⟨a, rfl, ⟨vs, f.sql⟩, q⟩
  · cases e
    obtain ⟨rfl, _⟩ := r
    exact .inr (.inr ⟨_, rfl, k _ _ src_str hs⟩)
  · cases e
theorem iv_seq (ha : EvOk S X a fa) : IvOk S X tg a (ivSeq fa) := fun G ft ρ σ H stk R hs hp =>
  of_PI (pi_any pe_W) (ha G ft ρ σ H stk _ hs (hp.bind.mono fun p hp v H1 hs1 hb => by
    obtain ⟨q, eq, hp⟩ := hp.bind.oR
    obtain ⟨l, el, hp⟩ := hp.bind.oR
    exact walk_top ft (hs1.settle hb eq).1 el fun J e s h => hp J e H1 s h))
/-- range -/
def rangeD (lo : Int) (n : Nat) : List D := (List.range n).map fun (i : Nat) => D.int (lo + (i : Int))
theorem src_rng {C : Cn} {lo : Int} {n : Nat} : Src C (Itr lo n) (rangeD lo n) [] := ⟨fun ρ σ H s i h => by
  refine ⟨fun d ed => ?_, fun hi => by simpa [Itr, rangeD] using hi⟩
  have ⟨hi, ed'⟩ := List.getElem?_eq_some_iff.mp ed
  have hi' : i < n := by simpa [rangeD] using hi
  simp [rangeD] at ed'
  subst ed'
  refine ⟨hi', fun y H' z => ?_⟩
  obtain ⟨rfl, rfl⟩ := z
  exact h.imm fun B => ⟨rfl, rfl⟩⟩
def smallI (i : Int) : Bool := decide (-(2 ^ 62) ≤ i) && decide (i < 2 ^ 62)
theorem smallI_ok {i : Int} (h : smallI i = true) : -(2 ^ 62) ≤ i ∧ i < 2 ^ 62 := by
  unfold smallI at h
  (simp only [Bool.and_eq_true, decide_eq_true_eq] at h)
  exact h
def intD : D → Option Int
  | .int i => some i
  | _ => none
def ivRng1 (a : EF) : IF := fun ρ => (a ρ).bind fun p => (oR (dref p.2 p.1)).bind fun d => (oR (intD d)).bind fun j => if smallI j then .ok (rangeD 0 j.toNat, p.2) else .no
def ivRng2 (a b : EF) : IF := fun ρ => (a ρ).bind fun p => (b p.2).bind fun q => (oR (dref q.2 p.1)).bind fun x => (oR (dref q.2 q.1)).bind fun y => (oR (intD x)).bind fun i => (oR (intD y)).bind fun j => if smallI i && smallI j then .ok (rangeD i (j - i).toNat, q.2) else .no
theorem intD_some {d : D} {i : Int} (h : intD d = some i) : d = .int i := by
  unfold intD at h
  split at h
  · cases h; rfl
  · cases h
theorem SR.isInt {C : Cn} {ρ : Env} {σ : St} {H : Hp} {stk : List SI} {v : V} {it : It} {i : Int} (hs : SR C ρ σ H (.one v it :: stk)) (hb : BrwOk σ it v) (e : dref ρ it = some (.int i)) : v = .int i := (hs.see hb e).1
theorem iv_rng1 {p pos : Pos} (hg : Gl X "range") (hm : X.mg "range" = none) (ha : EvOk S X a fa) (hst : notStar a = true) : IvOk S X tg (.Call (.Name "range" p) [a] [] pos) (ivRng1 fa) := fun G ft ρ σ H stk R hs hp =>
  of_PI (pi_range1 hg hm (pa_cons pe_W pa_nil (star_cons hst)) (star_cons hst)) (ha G ft ρ σ H stk _ hs (hp.bind.mono fun p hp v H1 hs1 hb => by
    obtain ⟨d, ed, hp⟩ := hp.bind.oR
    obtain ⟨j, ej, hp⟩ := hp.bind.oR
    cases hs1.isInt (i := j) hb (by rw [ed, intD_some ej])
    by_cases z : smallI j = true
    · rw [if_pos z] at hp
      obtain ⟨z1, z2⟩ := smallI_ok z
      exact ⟨j, rfl, z1, z2, hp _ [] H1 src_rng hs1.drop⟩
    · rw [if_neg z] at hp
      exact hp.elim))
theorem iv_rng2 {p pos : Pos} (hg : Gl X "range") (hm : X.mg "range" = none) (ha : EvOk S X a fa) (hb : EvOk S X b fb) (hst : notStar a = true) (hst2 : notStar b = true) : IvOk S X tg (.Call (.Name "range" p) [a, b] [] pos) (ivRng2 fa fb) := fun G ft ρ σ H stk R hs hp =>
  of_PI (pi_range2 hg hm (pa_cons pe_W (pa_cons pe_W pa_nil (star_cons hst2)) (star_cons hst)) (by rw [star_cons hst, star_cons hst2]; rfl) (star_cons hst2)) (ha G ft ρ σ H stk _ hs (hp.bind.mono fun p hp v H1 hs1 hb1 => hb G ft _ σ H1 _ _ hs1 (hp.bind.up fun q hp u H2 hs2 hb2 => by
    obtain ⟨x, ex, hp⟩ := hp.bind.oR
    obtain ⟨y, ey, hp⟩ := hp.bind.oR
    obtain ⟨i, ei, hp⟩ := hp.bind.oR
    obtain ⟨j, ej, hp⟩ := hp.bind.oR
    cases hs2.isInt (i := j) hb2 (by rw [ey, intD_some ej])
    cases hs2.drop.isInt (i := i) hb1 (by rw [ex, intD_some ei])
    by_cases z : (smallI i && smallI j) = true
    · rw [if_pos z] at hp
      simp only [Bool.and_eq_true] at z
      obtain ⟨z1, z2⟩ := smallI_ok z.1
      obtain ⟨z3, z4⟩ := smallI_ok z.2
      exact ⟨i, j, rfl, ⟨z1, z2, z3, z4⟩, hp _ [] H2 src_rng hs2.drop.drop⟩
    · rw [if_neg z] at hp
      exact hp.elim)))
end

/-! ### targets -/
abbrev GF := D → Env → Option Env
def tWG (X : Cx) (tg : Expr) : TG := fun v σ H Q => ∀ pins s u, Inv X pins σ H s → RelV v u → wpAny (model X.prog X.w) X.A (assign tg X.env u) (fun _ s' => ∃ σ' H', Inv X pins σ' H' s' ∧ Q σ' H') X.xe s
theorem pg_W {X : Cx} {tg : Expr} : PG X tg (tWG X tg) := ⟨fun pins s σ H v u Q I r h => h pins s u I r⟩
theorem of_PG {X : Cx} {tg : Expr} {t : TG} {v : V} {σ : St} {H : Hp} {Q : St → Hp → Prop} (h : PG X tg t) (q : t v σ H Q) : tWG X tg v σ H Q := fun pins s u I r => h.run pins s σ H v u Q I r q
/-- only the slots of ks change -/
def Same (ks : List Nat) (σ σ' : St) : Prop := σ'.length = σ.length ∧ ∀ (i : Nat), i ∉ ks → σ'[i]? = σ[i]?
def GvOk (X : Cx) (tg : Expr) (ks : List Nat) (F : GF) : Prop := ∀ C, C.K = X.K → (∀ p ∈ C.pin, p.1 ∉ ks) → ∀ ρ σ H stk v d ρ' Q, SR C ρ σ H (.one v (.val d) :: stk) → F d ρ = some ρ' → (∀ σ' H', SR C ρ' σ' H' stk → Same ks σ σ' → Q σ' H') → tWG X tg v σ H Q
def gvN (i : Nat) : GF := fun d ρ => if i < ρ.length then some (ρ.set i (some d)) else none
def gvsNil : List D → Env → Option Env := fun l ρ => if l.isEmpty then some ρ else none
def gvsCons (a : GF) (r : List D → Env → Option Env) : List D → Env → Option Env
  | d :: l, ρ => (a d ρ).bind (r l)
  | [], _ => none
def gvT (n : Nat) (r : List D → Env → Option Env) : GF
  | .tup l, ρ => if l.length = n then r l ρ else none
  | _, _ => none
def GvsOk (X : Cx) (ts : List Expr) (ks : List Nat) (F : List D → Env → Option Env) : Prop := ∃ t, PGs X ts t ∧ ∀ C, C.K = X.K → (∀ p ∈ C.pin, p.1 ∉ ks) → ∀ ρ σ H stk vs l ρ' Q, SR C ρ σ H (.many vs l :: stk) → F l ρ = some ρ' → (∀ σ' H', SR C ρ' σ' H' stk → Same ks σ σ' → Q σ' H') → t vs σ H Q
theorem SR.uncons {C : Cn} {ρ : Env} {σ : St} {H : Hp} {stk : List SI} {vs : List V} {d : D} {l : List D} (h : SR C ρ σ H (.many vs (d :: l) :: stk)) : ∃ v r, vs = v :: r ∧ SR C ρ σ H (.one v (.val d) :: .many r l :: stk) := by
  obtain ⟨Oρ, Os, B, h1, h2, hB, nd, nz, ow⟩ := h.ex
  obtain ⟨O1, O2, r1, r2, rfl⟩ := h2
  obtain ⟨v, vs', P1, P2, e, q1, q2, rfl⟩ := r1
  exact ⟨v, vs', e, h.remk h1 ⟨P1, P2 ++ O2, q1, ⟨P2, O2, q2, r2, rfl⟩, rfl⟩ hB nd nz ow (fun a q => by simpa using q) (by simpa using nd) h.pin⟩
theorem SR.len {C : Cn} {ρ : Env} {σ : St} {H : Hp} {stk : List SI} (h : SR C ρ σ H stk) : σ.length = ρ.length := by
  obtain ⟨Oρ, Os, B, h1, _⟩ := h.ex
  exact h1.len
section
variable {X : Cx} {pos : Pos} {e : Expr} {es : List Expr}
theorem gv_name {i : Nat} {x : Str} (hN : X.N.Nodup) (hi : X.N[i]? = some x) (hx : Loc X.env.scope x) (hf : X.fn x = true ∨ X.env.scope.names.lookup x = some .local) : GvOk X (.Name x pos) [i] (gvN i) := fun C hk hp ρ σ H stk v d ρ' Q hs e k => by
  unfold gvN at e
  by_cases z : i < ρ.length
  · rw [if_pos z] at e
    cases e
    have h1 := (hs.gone i)
    have h2 := h1.put (i := i) (by rw [List.getElem?_set_self z]) (fun p hp' q => hp p hp' (by simp [q]))
    rw [List.set_set] at h2
    exact of_PG (pg_name hN hi hx hf) (k _ H h2 ⟨by simp, fun j hj => List.getElem?_set_ne (fun q => hj (by simp [q]))⟩)
  · rw [if_neg z] at e
    cases e
theorem gvs_nil : GvsOk X [] [] gvsNil := ⟨_, pgs_nil, fun C hk hp ρ σ H stk vs l ρ' Q hs e k => by
  unfold gvsNil at e
  cases l with
  | nil =>
    cases e
    obtain ⟨Oρ, Os, B, h1, ⟨O1, O2, r, _⟩, _⟩ := hs.ex
    exact ⟨r.1, k σ H hs.drop ⟨rfl, fun _ _ => rfl⟩⟩
  | cons _ _ => cases e⟩
theorem gvs_cons {ks ks' : List Nat} {F : GF} {F' : List D → Env → Option Env} (h1 : GvOk X e ks F) (h2 : GvsOk X es ks' F') (hs : (assignEach (e :: es) X.env).map (·.2) = assign e X.env :: (assignEach es X.env).map (·.2)) : GvsOk X (e :: es) (ks ++ ks') (gvsCons F F') := by
  obtain ⟨t, ht, h2⟩ := h2
  refine ⟨_, pgs_cons pg_W ht hs, fun C hk hp ρ σ H stk vs l ρ' Q hs e k => ?_⟩
  cases l with
  | nil => cases e
  | cons d l =>
    obtain ⟨ρ1, e1, e2⟩ := Option.bind_eq_some_iff.mp (show (F d ρ).bind (F' l) = some ρ' from e)
    obtain ⟨v, r, rfl, hs2⟩ := hs.uncons
    refine ⟨v, r, rfl, h1 C hk (fun p z q => hp p z (by simp [q])) ρ σ H _ v d ρ1 _ hs2 e1 fun σ1 H1 h3 sm1 => ?_⟩
    exact h2 C hk (fun p z q => hp p z (by simp [q])) ρ1 σ1 H1 stk r l ρ' Q h3 e2 fun σ2 H2 h4 sm2 => k σ2 H2 h4 ⟨sm2.1.trans sm1.1, fun i hi => (sm2.2 i (fun q => hi (by simp [q]))).trans (sm1.2 i (fun q => hi (by simp [q])))⟩
theorem SR.untup {C : Cn} {ρ : Env} {σ : St} {H : Hp} {stk : List SI} {v : V} {l : List D} (h : SR C ρ σ H (.one v (.val (.tup l)) :: stk)) : ∃ a vs, v = .ref a ∧ SqT C.K H a vs ∧ vs.length = l.length ∧ SR C ρ σ H (.many vs l :: stk) := by
  obtain ⟨Oρ, Os, B, h1, h2, hB, nd, nz, ow⟩ := h.ex
  obtain ⟨O1, O2, r1, r2, rfl⟩ := h2
  obtain ⟨a, vs, e, f, r, rfl⟩ := r1
  exact ⟨a, vs, e, f.sqt, r.length, .again h1 ⟨[], O2, r, r2, rfl⟩ hB nd nz ow h.kept h.z h.pin⟩
theorem gv_tup {k n : Nat} {ks : List Nat} {F : List D → Env → Option Env} (hc : X.calm = true) (h : GvsOk X es ks F) (hn : (assignEach es X.env).length = n) (hst : (assignEach es X.env).findIdx? (·.1) = none) : GvOk X (.Tuple es k pos) ks (gvT n F) := fun C hk hp ρ σ H stk v d ρ' Q hs e q => by
  obtain ⟨t, ht, h⟩ := h
  unfold gvT at e
  split at e
  · rename_i l
    by_cases z : l.length = n
    · rw [if_pos z] at e
      obtain ⟨a, vs, rfl, s, hl, h2⟩ := hs.untup
      rw [hk] at s
      exact of_PG (pg_tup hc ht hn hst) ⟨a, vs, rfl, s, by omega, h C hk hp ρ σ H stk vs l ρ' Q h2 e q⟩
    · rw [if_neg z] at e
      cases e
  · cases e
end
end DV
namespace DV
open PySem L2

inductive SRes where
  | nx (ρ : Env) | rt (d : D) (ρ : Env) | bk (ρ : Env) | ct (ρ : Env) | er (x : Exn) (ρ : Env) | no
abbrev SF := Env → SRes
def PRS (G : Bg) (stk : List SI) (r : SRes) (Dn : Ends) : Prop := match r with
  | .nx ρ' => ∀ σ' H', SR G.C ρ' σ' H' stk → Dn.nx σ' H'
  | .rt d ρ' => ∀ v σ' H', SR G.C ρ' σ' H' (.one v (.val d) :: stk) → Dn.rt v H'
  | .bk ρ' => ∀ σ' H', SR G.C ρ' σ' H' stk → Dn.bk σ' H'
  | .ct ρ' => ∀ σ' H', SR G.C ρ' σ' H' stk → Dn.ct σ' H'
  | .er x ρ' => ∀ cls dd vs σ' H', XCls G.C.T G.xf H' x cls dd vs → SR G.C ρ' σ' H' (.many vs x.fs :: stk) → G.W cls dd σ' H'
  | .no => False
def SvOk (S : Sg) (X : Cx) (st : Stmt) (F : SF) : Prop := ∀ G, Fit S X G → ∀ ρ σ H stk Dn, SR G.C ρ σ H stk → PRS G stk (F ρ) Dn → tWS X st Dn σ H
def SvsOk (S : Sg) (X : Cx) (sts : List Stmt) (F : SF) : Prop := ∀ G, Fit S X G → ∀ ρ σ H stk Dn, SR G.C ρ σ H stk → PRS G stk (F ρ) Dn → tWSs X sts Dn σ H

def R.st {α : Type} (r : R α) (f : α → SRes) : SRes := match r with
  | .ok a => f a
  | .er x ρ => .er x ρ
  | .no => .no
def oS {α : Type} (o : Option α) (f : α → SRes) : SRes := match o with
  | some a => f a
  | none => .no
theorem PRS.st {α : Type} {G : Bg} {σ : St} {stk : List SI} {r : R α} {f : α → SRes} {Dn : Ends} (h : PRS G stk (r.st f) Dn) : PR G σ stk r fun a => PRS G stk (f a) Dn := by
  cases r with
  | ok a => exact h
  | er x ρ => exact fun cls dd vs H' hx hs => h cls dd vs σ H' hx hs
  | no => exact h
theorem PRS.oS {α : Type} {G : Bg} {stk : List SI} {o : Option α} {f : α → SRes} {Dn : Ends} (h : PRS G stk (oS o f) Dn) : ∃ a, o = some a ∧ PRS G stk (f a) Dn := by
  cases o with
  | none => exact h.elim
  | some a => exact ⟨a, rfl, h⟩
/-- under one more thing -/
theorem PRS.up {G : Bg} {stk : List SI} {x : SI} {r : SRes} {D1 D2 : Ends} (h : PRS G stk r D1) (h1 : ∀ ρ' , r = .nx ρ' → ∀ σ' H', SR G.C ρ' σ' H' (x :: stk) → D2.nx σ' H') (h2 : ∀ v H', D1.rt v H' → D2.rt v H') (h3 : ∀ ρ' , r = .bk ρ' → ∀ σ' H', SR G.C ρ' σ' H' (x :: stk) → D2.bk σ' H')
    (h4 : ∀ ρ' , r = .ct ρ' → ∀ σ' H', SR G.C ρ' σ' H' (x :: stk) → D2.ct σ' H') : PRS G (x :: stk) r D2 := by
  cases r with
  | nx ρ => exact h1 ρ rfl
  | rt d ρ => exact fun v σ' H' s => h2 v H' (h v σ' H' s.drop2)
  | bk ρ => exact h3 ρ rfl
  | ct ρ => exact h4 ρ rfl
  | er e ρ => exact fun cls dd vs σ' H' hx hs => h cls dd vs σ' H' hx hs.drop2
  | no => exact h

def svNx : SF := fun ρ => .nx ρ
def svBk : SF := fun ρ => .bk ρ
def svCt : SF := fun ρ => .ct ρ
def svSeq (a b : SF) : SF := fun ρ => match a ρ with
  | .nx ρ' => b ρ'
  | r => r
def svEx (a : EF) : SF := fun ρ => (a ρ).st fun p => .nx p.2
/-- handed back: a slot's own thing goes along -/
def giveD (ρ : Env) : It → Option (D × Env)
  | .val d => some (d, ρ)
  | .brw i => (slotD ρ i).map fun d => (d, ρ.set i none)
def svRt (a : EF) : SF := fun ρ => (a ρ).st fun p => oS (giveD p.2 p.1) fun q => .rt q.1 q.2
def svRtN : SF := fun ρ => .rt .non ρ
def svIf (t : TF) (a b : SF) : SF := fun ρ => (t ρ).st fun p => if p.1 then a p.2 else b p.2
def svAsg (g : DV.GF) (a : EF) : SF := fun ρ => (a ρ).st fun p => oS (grab p.2 p.1) fun q => oS (g q.1 q.2) fun ρ' => .nx ρ'
/-- several names at once -/
def svPar (g : List D → Env → Option Env) (r : AF) : SF := fun ρ => (r ρ).st fun p => oS (g p.1 p.2) fun ρ' => .nx ρ'
def wLoop (t : TF) (b : SF) : Nat → Env → SRes
  | 0, _ => .no
  | n + 1, ρ => (t ρ).st fun p => if p.1 then (match b p.2 with
    | .nx ρ' => wLoop t b n ρ'
    | .ct ρ' => wLoop t b n ρ'
    | .bk ρ' => .nx ρ'
    | .rt d ρ' => .rt d ρ'
    | .er x ρ' => .er x ρ'
    | .no => .no) else .nx p.2
def svWhile (n : Nat) (t : TF) (b : SF) : SF := fun ρ => wLoop t b n ρ
def fLoop (g : DV.GF) (b : SF) : List D → Env → SRes
  | [], ρ => .nx ρ
  | d :: l, ρ => oS (g d ρ) fun ρ1 => match b ρ1 with
    | .nx ρ' => fLoop g b l ρ'
    | .ct ρ' => fLoop g b l ρ'
    | .bk ρ' => .nx ρ'
    | .rt d ρ' => .rt d ρ'
    | .er x ρ' => .er x ρ'
    | .no => .no
def svFor (i : IF) (g : DV.GF) (b : SF) : SF := fun ρ => (i ρ).st fun p => fLoop g b p.1 p.2

section
variable {S : Sg} {X : Cx} {e c tg iter : Expr} {es : List Expr} {st : Stmt} {sts body a b : List Stmt} {fa : EF} {ft : TF} {fs : SF} {fb fc : SF} {pos : Pos}
theorem svs_nil : SvsOk S X [] svNx := fun G f ρ σ H stk Dn hs hp => of_PSs pss_nil (hp σ H hs)
theorem svs_cons (h1 : SvOk S X st fb) (h2 : SvsOk S X sts fc) : SvsOk S X (st :: sts) (svSeq fb fc) := fun G f ρ σ H stk Dn hs hp => by
  refine of_PSs (pss_cons ps_W pss_W) (h1 G f ρ σ H stk _ hs ?_)
  unfold svSeq at hp
  cases e : fb ρ with
  | nx ρ' => rw [e] at hp; exact fun σ' H' s => h2 G f ρ' σ' H' stk Dn s hp
  | rt d ρ' => rw [e] at hp; exact hp
  | bk ρ' => rw [e] at hp; exact hp
  | ct ρ' => rw [e] at hp; exact hp
  | er x ρ' => rw [e] at hp; exact hp
  | no => rw [e] at hp; exact hp
theorem svs_one (h1 : SvOk S X st fb) : SvsOk S X [st] fb := fun G f ρ σ H stk Dn hs hp => of_PSs (pss_one ps_W) (h1 G f ρ σ H stk _ hs hp)
theorem sv_pass : SvOk S X (.Pass pos) svNx := fun G f ρ σ H stk Dn hs hp => of_PS ps_pass (hp σ H hs)
theorem sv_brk : SvOk S X (.Break pos) svBk := fun G f ρ σ H stk Dn hs hp => of_PS ps_break (hp σ H hs)
theorem sv_cnt : SvOk S X (.Continue pos) svCt := fun G f ρ σ H stk Dn hs hp => of_PS ps_continue (hp σ H hs)
theorem sv_ex (ha : EvOk S X e fa) (hs : swapsWith e none pos.line X.env = pure false) : SvOk S X (.Expr e pos) (svEx fa) := fun G f ρ σ H stk Dn hs' hp =>
  of_PS (ps_expr pe_W hs) (ha G f ρ σ H stk _ hs' ((hp.st (σ := σ)).mono fun p hp v H' s _ => hp σ H' s.drop))
theorem SR.give {C : Cn} {ρ ρ' : Env} {σ : St} {H : Hp} {stk : List SI} {v : V} {d : D} {it : It} (h : SR C ρ σ H (.one v it :: stk)) (hb : BrwOk σ it v) (e : giveD ρ it = some (d, ρ')) : SR C ρ' σ H (.one v (.val d) :: stk) := by
  cases it with
  | val d' => cases e; exact h
  | brw i =>
    obtain ⟨d', e', z⟩ := Option.map_eq_some_iff.mp e
    cases z
    obtain ⟨v', e1, q⟩ := h.drop.take (slotD_some e')
    rw [show σ[i]? = some (some v) from hb] at e1
    cases e1
    exact q
theorem sv_rt (ha : EvOk S X e fa) : SvOk S X (.Return (some e) pos) (svRt fa) := fun G f ρ σ H stk Dn hs hp =>
  of_PS (ps_ret pe_W) (ha G f ρ σ H stk _ hs ((hp.st (σ := σ)).mono fun p hp v H' s hb => by
    obtain ⟨q, eq, hp⟩ := hp.oS
    exact hp v σ H' (s.give hb eq)))
theorem sv_rtN : SvOk S X (.Return none pos) svRtN := fun G f ρ σ H stk Dn hs hp => of_PS ps_retN (hp .non σ H (hs.imm fun B => ⟨rfl, rfl⟩))
theorem sv_if (ht : TvOk S X c ft) (ha : SvsOk S X a fb) (hb : SvsOk S X b fc) : SvOk S X (.If c a b pos) (svIf ft fb fc) := fun G f ρ σ H stk Dn hs hp =>
  of_PS (ps_if pt_W pss_W pss_W) (ht G f ρ σ H stk _ hs ((hp.st (σ := σ)).mono fun p hp H' s => by
    cases e : p.1 with
    | true =>
      rw [if_pos rfl]
      exact ha G f _ σ H' stk Dn s (by simpa [e] using hp)
    | false =>
      rw [if_neg (by simp)]
      exact hb G f _ σ H' stk Dn s (by simpa [e] using hp)))
theorem sv_asg {ks : List Nat} {g : DV.GF} (hg : GvOk X tg ks g) (ha : EvOk S X e fa) (hk : ∀ i ∈ S.pn, i ∉ ks) (hs : swapsWithSole [tg] e pos.line X.env = pure false) (hw : swappedStores [tg] e X.env = pure none)
    (h1 : (assignEach [tg] X.env).map (·.2) = [assign tg X.env]) : SvOk S X (.Assign [tg] e pos) (svAsg g fa) := fun G f ρ σ H stk Dn hs' hp =>
  of_PS (ps_asg pe_W pg_W hs hw h1) (ha G f ρ σ H stk _ hs' ((hp.st (σ := σ)).mono fun p hp v H' s hb => by
    obtain ⟨q, eq, hp⟩ := hp.oS
    obtain ⟨ρ', e', hp⟩ := hp.oS
    exact hg G.C f.k (fun p hp' q => hk _ (f.pin p hp') q) q.2 σ H' stk v q.1 ρ' _ (s.grab hb eq) e' fun σ' H'' s' _ => hp σ' H'' s'))
theorem sv_name {i : Nat} {x : Str} {pos' : Pos} (hN : X.N.Nodup) (hi : X.N[i]? = some x) (hx : Loc X.env.scope x) (hf : X.fn x = true ∨ X.env.scope.names.lookup x = some .local) (ha : EvOk S X e fa) (hk : i ∉ S.pn)
    (hs : swapsWith e (some (.Name x pos')) pos.line X.env = pure false) : SvOk S X (.Assign [.Name x pos'] e pos) (svAsg (gvN i) fa) := fun G f ρ σ H stk Dn hs' hp =>
  of_PS (ps_set hN hi hx pe_W hs hf) (ha G f ρ σ H stk _ hs' ((hp.st (σ := σ)).mono fun p hp v H' s hb => by
    obtain ⟨q, eq, hp⟩ := hp.oS
    obtain ⟨ρ', e', hp⟩ := hp.oS
    have s1 := s.grab hb eq
    unfold gvN at e'
    by_cases z : i < q.2.length
    · rw [if_pos z] at e'
      cases e'
      have h2 := (s1.gone i).put (i := i) (by rw [List.getElem?_set_self z]) (fun p hp' w => hk (by rw [← w]; exact f.pin p hp'))
      rw [List.set_set] at h2
      exact hp _ H' h2
    · rw [if_neg z] at e'
      cases e'))
theorem sv_while {n : Nat} (hp : PassesOwn (model X.prog X.w) X.A X.env X.xe) (ht : TvOk S X c ft) (hb : SvsOk S X body fb) : SvOk S X (.While c body [] pos) (svWhile n ft fb) := fun G f ρ σ H stk Dn hs hq =>
  of_PS (ps_while hp pt_W pss_W) ⟨fun m σ H => ∃ ρ, SR G.C ρ σ H stk ∧ PRS G stk (wLoop ft fb m ρ) Dn, ⟨n, ρ, hs, hq⟩, fun m σ1 H1 ⟨ρ1, s1, q1⟩ => by
    cases m with
    | zero => exact q1.elim
    | succ m =>
      refine ht G f ρ1 σ1 H1 stk _ s1 ((PRS.st (σ := σ1) (show PRS G stk ((ft ρ1).st _) Dn from q1)).mono fun p hp H' s => ?_)
      cases e : p.1 with
      | false =>
        rw [if_neg (by simp)]
        have hp : PRS G stk (.nx p.2) Dn := by simpa [e] using hp
        exact hp σ1 H' s
      | true =>
        rw [if_pos rfl]
        simp only [e, if_true] at hp
        refine ⟨fun σ' H' => ∃ ρ', SR G.C ρ' σ' H' stk ∧ PRS G stk (wLoop ft fb m ρ') Dn, fun σ' H' z => ⟨m, Nat.lt_succ_self m, z⟩, ?_⟩
        refine hb G f p.2 σ1 H' stk _ s ?_
        cases e2 : fb p.2 with
        | nx ρ' => rw [e2] at hp; exact fun σ' H' s => ⟨ρ', s, hp⟩
        | ct ρ' => rw [e2] at hp; exact fun σ' H' s => ⟨ρ', s, hp⟩
        | bk ρ' => rw [e2] at hp; exact hp
        | rt d ρ' => rw [e2] at hp; exact hp
        | er x ρ' => rw [e2] at hp; exact hp
        | no => rw [e2] at hp; exact hp⟩
theorem PRS.ups {G : Bg} {stk : List SI} {r : SRes} {D1 D2 : Ends} : ∀ {s : List SI}, PRS G stk r D1 → (∀ ρ' , r = .nx ρ' → ∀ σ' H', SR G.C ρ' σ' H' (s ++ stk) → D2.nx σ' H') → (∀ v H', D1.rt v H' → D2.rt v H') → (∀ ρ' , r = .bk ρ' → ∀ σ' H', SR G.C ρ' σ' H' (s ++ stk) → D2.bk σ' H') →
    (∀ ρ' , r = .ct ρ' → ∀ σ' H', SR G.C ρ' σ' H' (s ++ stk) → D2.ct σ' H') → PRS G (s ++ stk) r D2
  | [], h, h1, h2, h3, h4 => by
    cases r with
    | nx ρ => exact h1 ρ rfl
    | rt d ρ => exact fun v σ' H' s => h2 v H' (h v σ' H' s)
    | bk ρ => exact h3 ρ rfl
    | ct ρ => exact h4 ρ rfl
    | er e ρ => exact h
    | no => exact h
  | x :: s, h, h1, h2, h3, h4 => by
    have q : PRS G (s ++ stk) r { nx := fun _ _ => True, rt := D2.rt, bk := fun _ _ => True, ct := fun _ _ => True } := PRS.ups (s := s) h (fun _ _ _ _ _ => trivial) h2 (fun _ _ _ _ _ => trivial) (fun _ _ _ _ _ => trivial)
    exact q.up h1 (fun _ _ z => z) h3 h4
theorem SR.drops {C : Cn} {ρ : Env} {σ : St} {H : Hp} {stk : List SI} : ∀ {s : List SI}, SR C ρ σ H (s ++ stk) → SR C ρ σ H stk
  | [], h => h
  | x :: s, h => SR.drops (s := s) (SR.drop (x := x) h)
theorem sv_for {fi : IF} {g : DV.GF} {ks : List Nat} (hp : PassesOwn (model X.prog X.w) X.A X.env X.xe) (hc : X.calm = true) (hi : IvOk S X tg iter fi) (hg : GvOk X tg ks g) (hk : ∀ i ∈ S.pn, i ∉ ks) (hb : SvsOk S X body fb)
    (hfs : ∀ x, foldedSetIterable iter X.env x = pure x) : SvOk S X (.For tg iter body [] pos) (svFor fi g fb) := fun G f ρ σ H stk Dn hs hq =>
  of_PS (ps_for hp hc pi_W pg_W pss_W hfs) (hi G f ρ σ H stk _ hs ((hq.st (σ := σ)).mono fun p hq J e H' src s => by
    refine ⟨fun i m σ H => m = p.1.length - i ∧ i ≤ p.1.length ∧ ∃ ρ, SR G.C ρ σ H (e ++ stk) ∧ PRS G stk (fLoop g fb (p.1.drop i) ρ) Dn, ⟨_, rfl, Nat.zero_le _, p.2, s, by simpa using hq⟩, fun i m σ1 H1 ⟨em, hi, ρ1, s1, q1⟩ => ?_⟩
    obtain ⟨go, stop⟩ := src.run ρ1 σ1 H1 stk i s1
    by_cases hlt : i < p.1.length
    · have ed : p.1[i]? = some p.1[i] := List.getElem?_eq_getElem hlt
      obtain ⟨go, y⟩ := go _ ed
      rw [List.drop_eq_getElem_cons hlt] at q1
      obtain ⟨ρ2, e2, q2⟩ := q1.oS
      refine .inr ⟨go, fun σ' H' => ∃ ρ', SR G.C ρ' σ' H' (e ++ stk) ∧ PRS G stk (fLoop g fb (p.1.drop (i + 1)) ρ') Dn, fun σ' H' z => ⟨_, ?_, rfl, hlt, z⟩, fun x H2 hy => ?_⟩
      · rw [em]; omega
      · refine hg G.C f.k (fun p hp' q => hk _ (f.pin p hp') q) ρ1 σ1 H2 _ x _ ρ2 _ (y x H2 hy) e2 fun σ2 H3 s2 _ => ?_
        refine hb G f ρ2 σ2 H3 _ _ s2 (PRS.ups (D1 := { nx := fun _ _ => True, rt := Dn.rt, bk := fun _ _ => True, ct := fun _ _ => True }) ?_ (fun ρ' e3 σ' H' s' => ?_) (fun _ _ z => z) (fun ρ' e3 σ' H' s' => ?_) (fun ρ' e3 σ' H' s' => ?_))
        · cases e3 : fb ρ2 with
          | nx ρ' => exact fun _ _ _ => trivial
          | ct ρ' => exact fun _ _ _ => trivial
          | bk ρ' => exact fun _ _ _ => trivial
          | rt d ρ' => rw [e3] at q2; exact q2
          | er x ρ' => rw [e3] at q2; exact q2
          | no => rw [e3] at q2; exact q2
        · rw [e3] at q2; exact ⟨ρ', s', q2⟩
        · rw [e3] at q2; exact q2 σ' H' s'.drops
        · rw [e3] at q2; exact ⟨ρ', s', q2⟩
    · have ei : i = p.1.length := by omega
      subst ei
      rw [List.drop_length] at q1
      exact .inl ⟨stop (Nat.le_refl _), q1 σ1 H1 s1.drops⟩))
end
end DV
namespace DV
open PySem L2

section
variable {S : Sg} {X : Cx} {e : Expr} {es : List Expr} {pos : Pos} {fr : AF}
theorem SR.store {C : Cn} {ρ : Env} {σ : St} {H : Hp} {stk : List SI} {v : V} {d : D} {i : Nat} (h : SR C ρ σ H (.one v (.val d) :: stk)) (hi : i < ρ.length) (np : ∀ p ∈ C.pin, p.1 ≠ i) : SR C (ρ.set i (some d)) (σ.set i (some v)) H stk := by
  have h2 := (h.gone i).put (i := i) (by rw [List.getElem?_set_self hi]) np
  rw [List.set_set] at h2
  exact h2
theorem gvN_some {i : Nat} {d : D} {ρ ρ' : Env} (h : gvN i d ρ = some ρ') : i < ρ.length ∧ ρ' = ρ.set i (some d) := by
  unfold gvN at h
  by_cases z : i < ρ.length
  · rw [if_pos z] at h
    cases h
    exact ⟨z, rfl⟩
  · rw [if_neg z] at h
    cases h
theorem gvsCons_some {a : DV.GF} {r : List D → Env → Option Env} {l : List D} {ρ ρ' : Env} (h : gvsCons a r l ρ = some ρ') : ∃ d l' ρ1, l = d :: l' ∧ a d ρ = some ρ1 ∧ r l' ρ1 = some ρ' := by
  cases l with
  | nil => cases h
  | cons d l =>
    obtain ⟨ρ1, e1, e2⟩ := Option.bind_eq_some_iff.mp (show (a d ρ).bind (r l) = some ρ' from h)
    exact ⟨d, l, ρ1, rfl, e1, e2⟩
theorem gvsNil_some {l : List D} {ρ ρ' : Env} (h : gvsNil l ρ = some ρ') : l = [] ∧ ρ' = ρ := by
  unfold gvsNil at h
  cases l with
  | nil => cases h; exact ⟨rfl, rfl⟩
  | cons _ _ => cases h
theorem SR.endMany {C : Cn} {ρ : Env} {σ : St} {H : Hp} {stk : List SI} {vs : List V} (h : SR C ρ σ H (.many vs [] :: stk)) : vs = [] ∧ SR C ρ σ H stk := by
  obtain ⟨Oρ, Os, B, h1, ⟨O1, O2, r, _⟩, _⟩ := h.ex
  exact ⟨r.1, h.drop⟩
/-- a, b = x, y with plain local names -/
theorem sv_par2 {i j : Nat} {x y : Str} {ea eb : Expr} {px py pt : Pos} {kt k2 pt2} (hc : X.calm = true) (hN : X.N.Nodup) (hi : X.N[i]? = some x) (hj : X.N[j]? = some y) (hij : i ≠ j)
    (hx : X.env.scope.names.lookup x = some .local) (hy : X.env.scope.names.lookup y = some .local) (hr : AbOk S false X [ea, eb] fr) (hk : i ∉ S.pn) (hk2 : j ∉ S.pn)
    (hw : swappedStores [.Tuple [.Name x px, .Name y py] kt pt] (.Tuple [ea, eb] k2 pt2) X.env = pure (some [x, y])) : SvOk S X (.Assign [.Tuple [.Name x px, .Name y py] kt pt] (.Tuple [ea, eb] k2 pt2) pos) (svPar (gvsCons (gvN i) (gvsCons (gvN j) gvsNil)) fr) := fun G f ρ σ H stk Dn hs hp =>
  of_PS (ps_par hc hN hi hj hij hx hy pa_W hw) (hr G f ρ σ H stk _ hs ((hp.st (σ := σ)).mono fun p hp vs H' s hl _ => by
    obtain ⟨ρ', e', hp⟩ := hp.oS
    obtain ⟨d, l, ρ1, e1, e2, e3⟩ := gvsCons_some e'
    obtain ⟨d2, l2, ρ2, rfl, e4, e5⟩ := gvsCons_some e3
    obtain ⟨rfl, rfl⟩ := gvsNil_some e5
    obtain ⟨l1, rfl⟩ := gvN_some e2
    obtain ⟨l2, rfl⟩ := gvN_some e4
    rw [e1] at s
    obtain ⟨v, r, ev, s1⟩ := s.uncons
    have s2 := s1.store l1 (fun p hp' w => hk (by rw [← w]; exact f.pin p hp'))
    obtain ⟨w, r2, ew, s3⟩ := s2.uncons
    have s4 := s3.store l2 (fun p hp' w => hk2 (by rw [← w]; exact f.pin p hp'))
    obtain ⟨er, s5⟩ := s4.endMany
    subst er ew ev
    exact ⟨v, w, rfl, hp _ H' s5⟩))
theorem sv_par3 {i j l : Nat} {x y z : Str} {ea eb ec : Expr} {px py pz pt : Pos} {kt k2 pt2} (hc : X.calm = true) (hN : X.N.Nodup) (hi : X.N[i]? = some x) (hj : X.N[j]? = some y) (hl : X.N[l]? = some z) (hij : i ≠ j) (hil : i ≠ l) (hjl : j ≠ l)
    (hx : X.env.scope.names.lookup x = some .local) (hy : X.env.scope.names.lookup y = some .local) (hz : X.env.scope.names.lookup z = some .local) (hr : AbOk S false X [ea, eb, ec] fr) (hk : i ∉ S.pn) (hk2 : j ∉ S.pn) (hk3 : l ∉ S.pn)
    (hw : swappedStores [.Tuple [.Name x px, .Name y py, .Name z pz] kt pt] (.Tuple [ea, eb, ec] k2 pt2) X.env = pure (some [x, y, z])) : SvOk S X (.Assign [.Tuple [.Name x px, .Name y py, .Name z pz] kt pt] (.Tuple [ea, eb, ec] k2 pt2) pos) (svPar (gvsCons (gvN i) (gvsCons (gvN j) (gvsCons (gvN l) gvsNil))) fr) := fun G f ρ σ H stk Dn hs hp =>
  of_PS (ps_par3 hc hN hi hj hl hij hil hjl hx hy hz pa_W hw) (hr G f ρ σ H stk _ hs ((hp.st (σ := σ)).mono fun p hp vs H' s hl _ => by
    obtain ⟨ρ', e', hp⟩ := hp.oS
    obtain ⟨d, l, ρ1, e1, e2, e3⟩ := gvsCons_some e'
    obtain ⟨d2, l2, ρ2, rfl, e4, e5⟩ := gvsCons_some e3
    obtain ⟨d3, l3, ρ3, rfl, e6, e7⟩ := gvsCons_some e5
    obtain ⟨rfl, rfl⟩ := gvsNil_some e7
    obtain ⟨l1, rfl⟩ := gvN_some e2
    obtain ⟨l2, rfl⟩ := gvN_some e4
    obtain ⟨l3, rfl⟩ := gvN_some e6
    rw [e1] at s
    obtain ⟨v, r, ev, s1⟩ := s.uncons
    have s2 := s1.store l1 (fun p hp' w => hk (by rw [← w]; exact f.pin p hp'))
    obtain ⟨w, r2, ew, s3⟩ := s2.uncons
    have s4 := s3.store l2 (fun p hp' w => hk2 (by rw [← w]; exact f.pin p hp'))
    obtain ⟨u, r3, eu, s5⟩ := s4.uncons
    have s6 := s5.store l3 (fun p hp' w => hk3 (by rw [← w]; exact f.pin p hp'))
    obtain ⟨er, s7⟩ := s6.endMany
    subst er eu ew ev
    exact ⟨v, w, u, rfl, hp _ H' s7⟩))
/-- .. with any names: by a tuple that nobody keeps -/
theorem sv_parT {ts : List Expr} {k k2 : Nat} {p1 p2 : Pos} {ks : List Nat} {F : List D → Env → Option Env} {n : Nat} (hc : X.calm = true) (hg : GvsOk X ts ks F) (hn : (assignEach ts X.env).length = n) (hst : (assignEach ts X.env).findIdx? (·.1) = none) (hk : ∀ i ∈ S.pn, i ∉ ks)
    (hr : AbOk S false X es fr) (hl : es.length ≤ 1000) (hnl : ∀ ρ a, fr ρ = .ok a → a.1.length = n) (hs : swapsWithSole [.Tuple ts k p1] (.Tuple es k2 p2) pos.line X.env = pure false) (hw : swappedStores [.Tuple ts k p1] (.Tuple es k2 p2) X.env = pure none)
    (h1 : (assignEach [.Tuple ts k p1] X.env).map (·.2) = [assign (.Tuple ts k p1) X.env]) (hz : n ≤ sizeLine) : SvOk S X (.Assign [.Tuple ts k p1] (.Tuple es k2 p2) pos) (svPar F fr) := fun G f ρ σ H stk Dn hs' hp => by
  obtain ⟨t, ht, hg⟩ := hg
  refine of_PS (ps_asg (pe_tup pa_W) (pg_tup hc ht hn hst) hs hw h1) ?_
  have hp' := hp.st (σ := σ)
  refine hr G f ρ σ H stk _ hs' ?_
  cases e : fr ρ with
  | ok p =>
    rw [e] at hp'
    have hp' : PRS G stk (oS (F p.1 p.2) fun ρ' => .nx ρ') Dn := hp'
    obtain ⟨ρ', e', hp'⟩ := hp'.oS
    refine fun vs H' s hl' _ => ⟨?_, fun a ha => ?_⟩
    · rw [hl', hnl ρ p e]; exact hz
    · refine ⟨a, vs, rfl, .inl (.inl upd_same), by rw [hl', hnl ρ p e], ?_⟩
      exact hg G.C f.k (fun p hp' q => hk _ (f.pin p hp') q) p.2 σ _ stk vs p.1 ρ' _ (s.grow (upd_grow ha)) e' fun σ' H'' s' _ => hp' σ' H'' s'
  | er x ρ' => rw [e] at hp'; exact hp'
  | no => rw [e] at hp'; exact hp'
end

/-! ### a def: in and out -/
theorem RepA.slots {K : PySem.W.Frag} {T : Nat → Option Addr} {H : Hp} {B : List Addr} (n : Nat) : ∀ {ds : List D} {vs : List V} {O : List Addr}, RepA K T H B ds vs O → RepS K T H B (ds.map some ++ List.replicate n none) (vs.map some ++ List.replicate n none) O
  | [], _, _, h => by
    obtain ⟨rfl, rfl⟩ := h
    show RepS K T H B (List.replicate n none) (List.replicate n none) []
    induction n with
    | zero => exact ⟨rfl, rfl⟩
    | succ n ih => exact ⟨none, _, rfl, ih⟩
  | d :: ds, _, _, h => by
    obtain ⟨v, vs', O1, O2, rfl, h1, h2, rfl⟩ := h
    exact ⟨v, _, O1, O2, rfl, h1, h2.slots n, rfl⟩
theorem RepK.app {K : PySem.W.Frag} {T : Nat → Option Addr} {H : Hp} {B : List Addr} {t : List SI} {P : List Addr} (q : RepK K T H B t P) : ∀ {s : List SI} {O : List Addr}, RepK K T H B s O → RepK K T H B (s ++ t) (O ++ P)
  | [], O, h => by rw [show O = [] from h]; exact q
  | x :: s, _, h => by
    obtain ⟨O1, O2, rfl, r, k⟩ := RepK.one h
    have := k (RepK.app q r)
    rw [List.append_assoc]
    exact this
/-- what a state is made of, with its owners told -/
def SRx (C : Cn) (ρ : Env) (σ : St) (H : Hp) (stk : List SI) (Oρ Os B : List Addr) : Prop := RepS C.K C.T H B ρ σ Oρ ∧ RepK C.K C.T H B stk Os ∧ (∀ a, a ∈ B ↔ a ∈ C.Z ∨ a ∈ Oρ ∨ a ∈ Os) ∧ (Oρ ++ Os).Nodup ∧ (∀ a ∈ C.Z, a ∉ Oρ ++ Os) ∧ (∀ a ∈ Oρ ++ Os, Nw C.H0 a ∨ a ∈ C.I)
theorem SR.enterG {C : Cn} {ρ : Env} {σ : St} {H : Hp} {stk : List SI} {vs : List V} {ds : List D} (h : SR C ρ σ H (.many vs ds :: stk)) {ρ2 : Env} {σ2 : St} (hr2 : ∀ O1 O2 Os B, SRx C ρ σ H (.many vs ds :: stk) O1 (O2 ++ Os) B → RepA C.K C.T H B ds vs O2 → RepS C.K C.T H B ρ2 σ2 O2) (pin : List (Nat × V)) (hpin : ∀ p ∈ pin, σ2[p.1]? = some (some p.2)) :
    ∃ I Z, SR ⟨C.K, C.T, Z, H, I, pin, C.TB⟩ ρ2 σ2 H [] ∧ (∀ ρq' σq' Hq' sq, SR ⟨C.K, C.T, Z, H, I, pin, C.TB⟩ ρq' σq' Hq' sq → SR C ρ σ Hq' (sq ++ stk)) ∧ ∃ O1 O2 B, SRx C ρ σ H (.many vs ds :: stk) O1 (I ++ O2) B ∧ RepA C.K C.T H B ds vs I ∧ ∀ a, a ∈ B ↔ a ∈ Z ∨ a ∈ I := by
  obtain ⟨Oρq, Os, Bq, h1q, ⟨O1q, O2q, r1q, r2q, rfl⟩, hBq, ndq, nzq, owq⟩ := h.ex
  have nd2q := List.nodup_append.mp ndq
  have nd3q := List.nodup_append.mp nd2q.2.1
  have hZIq : ∀ aq, aq ∈ Bq ↔ aq ∈ C.Z ++ Oρq ++ O2q ∨ aq ∈ O1q := fun aq => by
    rw [hBq aq]
    simp only [List.mem_append]
    constructor
    · rintro (qq | qq | qq | qq) <;> simp [qq]
    · rintro (((qq | qq) | qq) | qq) <;> simp [qq]
  refine ⟨O1q, C.Z ++ Oρq ++ O2q, ?_, fun ρq' σq' Hq' sq hsq => ?_, Oρq, O2q, Bq, ⟨h1q, ⟨O1q, O2q, r1q, r2q, rfl⟩, hBq, ndq, nzq, owq⟩, r1q, hZIq⟩
  · refine .again (Oρ := O1q) (Os := []) (B := Bq) (hr2 Oρq O1q O2q Bq ⟨h1q, ⟨O1q, O2q, r1q, r2q, rfl⟩, hBq, ndq, nzq, owq⟩ r1q) rfl (fun aq => ?_) (by simpa using nd3q.1) (fun aq qq zq => ?_) (fun aq qq => .inr (by simpa using qq)) ⟨fun aq oq eq _ _ => eq, h.kept.tabs⟩ (fun aq qq => ?_) hpin
    · rw [hBq aq]
      simp only [List.mem_append, List.not_mem_nil]
      constructor
      · rintro (qq | qq | qq | qq) <;> simp [qq]
      · rintro (((qq | qq) | qq) | qq | qq)
        · simp [qq]
        · simp [qq]
        · simp [qq]
        · simp [qq]
        · exact qq.elim
    · have zq : aq ∈ O1q := by simpa using zq
      simp only [List.mem_append] at qq
      rcases qq with (qq | qq) | qq
      · exact nzq aq qq (by simp [zq])
      · exact nd2q.2.2 aq qq aq (by simp [zq]) rfl
      · exact nd3q.2.2 aq zq aq qq rfl
    · have stq : ∃ oq, H aq = some oq ∧ NoTab oq := by
        simp only [List.mem_append] at qq
        rcases qq with (qq | qq) | qq
        · obtain ⟨⟨oq, eq, ntq⟩, mq⟩ := h.z aq qq
          exact ⟨oq, h.kept.old aq oq eq ntq mq, ntq⟩
        · obtain ⟨oq, eq, ntq⟩ := h1q.stands aq qq
          exact ⟨oq, eq, mut_nt ntq⟩
        · obtain ⟨oq, eq, ntq⟩ := r2q.stands aq qq
          exact ⟨oq, eq, mut_nt ntq⟩
      refine ⟨stq, fun zq => ?_⟩
      simp only [List.mem_append] at qq
      rcases qq with (qq | qq) | qq
      · exact nzq aq qq (by simp [show aq ∈ O1q from zq])
      · exact nd2q.2.2 aq qq aq (by simp [show aq ∈ O1q from zq]) rfl
      · exact nd3q.2.2 aq zq aq qq rfl
  · obtain ⟨Oρq', Os', Bq', g1q, g2q, gBq, gndq, gnzq, gowq⟩ := hsq.ex
    have kptq : ∀ aq oq, H aq = some oq → NoTab oq → aq ∉ O1q → Hq' aq = some oq := fun aq oq eq ntq mq => hsq.kept.old aq oq eq ntq mq
    have mB1q : ∀ aq ∈ O1q, aq ∈ Bq := fun aq qq => (hBq aq).mpr (by simp [qq])
    -- what is owned from now on
    let B2 := C.Z ++ Oρq ++ (Os' ++ O2q)
    have m2q : ∀ aq, aq ∈ B2 ↔ aq ∈ C.Z ∨ aq ∈ Oρq ∨ aq ∈ Os' ++ O2q := fun aq => by
      show aq ∈ C.Z ++ Oρq ++ (Os' ++ O2q) ↔ _
      simp [or_assoc]
    have own1q : ∀ aq, aq ∈ B2 → aq ∈ Bq ∨ Nw H aq := fun aq qq => by
      rcases (m2q aq).mp qq with qq | qq | qq
      · exact .inl ((hBq aq).mpr (.inl qq))
      · exact .inl ((hBq aq).mpr (.inr (.inl qq)))
      · rcases List.mem_append.mp qq with qq | qq
        · rcases gowq aq (by simp [qq]) with zq | zq
          · exact .inr zq
          · exact .inl (mB1q aq zq)
        · exact .inl ((hBq aq).mpr (by simp [qq]))
    have kp1q : Kp H Bq Oρq Hq' B2 := ⟨fun aq oq eq ntq qq => kptq aq oq eq ntq fun zq => by
      rcases qq with qq | qq
      · exact qq (mB1q aq zq)
      · exact nd2q.2.2 aq qq aq (by simp [zq]) rfl, own1q⟩
    have kp2q : Kp H Bq O2q Hq' B2 := ⟨fun aq oq eq ntq qq => kptq aq oq eq ntq fun zq => by
      rcases qq with qq | qq
      · exact qq (mB1q aq zq)
      · exact nd3q.2.2 aq zq aq qq rfl, own1q⟩
    have kp3q : Kp Hq' Bq' Os' Hq' B2 := ⟨fun aq oq eq _ _ => eq, fun aq qq => .inl ((gBq aq).mpr (by
      rcases (m2q aq).mp qq with qq | qq | qq
      · exact .inl (by simp [qq])
      · exact .inl (by simp [qq])
      · rcases List.mem_append.mp qq with qq | qq
        · exact .inr (.inr qq)
        · exact .inl (by simp [qq])))⟩
    have disq : ∀ aq ∈ Os', aq ∉ C.Z ∧ aq ∉ Oρq ∧ aq ∉ O2q := fun aq qq => by
      refine ⟨fun zq => gnzq aq (by simp [zq]) (by simp [qq]), fun zq => gnzq aq (by simp [zq]) (by simp [qq]), fun zq => gnzq aq (by simp [zq]) (by simp [qq])⟩
    have gnd2q := (List.nodup_append.mp gndq).2.1
    refine .again (Oρ := Oρq) (Os := Os' ++ O2q) (B := B2) (h1q.kp kp1q) (RepK.app (r2q.kp kp2q) (g2q.kp kp3q)) m2q ?_ (fun aq qq zq => ?_) (fun aq qq => ?_) ⟨fun aq oq eq ntq mq => ?_, hsq.kept.tabs⟩ h.z h.pin
    · refine List.nodup_append.mpr ⟨nd2q.1, List.nodup_append.mpr ⟨gnd2q, nd3q.2.1, fun aq qq bq rq eq => (disq aq qq).2.2 (eq ▸ rq)⟩, fun aq qq bq rq eq => ?_⟩
      subst eq
      rcases List.mem_append.mp rq with rq | rq
      · exact (disq aq rq).2.1 qq
      · exact nd2q.2.2 aq qq aq (by simp [rq]) rfl
    · rcases List.mem_append.mp zq with zq | zq
      · exact nzq aq qq (by simp [zq])
      · rcases List.mem_append.mp zq with zq | zq
        · exact (disq aq zq).1 qq
        · exact nzq aq qq (by simp [zq])
    · rcases List.mem_append.mp qq with qq | qq
      · exact owq aq (by simp [qq])
      · rcases List.mem_append.mp qq with qq | qq
        · rcases gowq aq (by simp [qq]) with zq | zq
          · by_cases mq : aq ∈ C.I
            · exact .inr mq
            · exact .inl fun oq eq ntq => (show Nw H aq from zq) oq (h.kept.old aq oq eq ntq mq) ntq
          · exact owq aq (by simp [show aq ∈ O1q from zq])
        · exact owq aq (by simp [qq])
    · refine kptq aq oq (h.kept.old aq oq eq ntq mq) ntq fun zq => ?_
      rcases owq aq (by simp [zq]) with qq | qq
      · exact qq oq eq ntq
      · exact mq qq

theorem SR.enter {C : Cn} {ρ : Env} {σ : St} {H : Hp} {stk : List SI} {vs : List V} {ds : List D} (h : SR C ρ σ H (.many vs ds :: stk)) (n : Nat) (pin : List (Nat × V)) (hpin : ∀ p ∈ pin, (vs.map some ++ List.replicate n none)[p.1]? = some (some p.2)) :
    ∃ I Z, SR ⟨C.K, C.T, Z, H, I, pin, C.TB⟩ (ds.map some ++ List.replicate n none) (vs.map some ++ List.replicate n none) H [] ∧ ∀ ρq' σq' Hq' sq, SR ⟨C.K, C.T, Z, H, I, pin, C.TB⟩ ρq' σq' Hq' sq → SR C ρ σ Hq' (sq ++ stk) := by
  obtain ⟨I, Z, h1, h2, _⟩ := h.enterG (ρ2 := ds.map some ++ List.replicate n none) (σ2 := vs.map some ++ List.replicate n none) (fun _ _ _ _ _ r => r.slots n) pin hpin
  exact ⟨I, Z, h1, h2⟩

/-- a def's meaning from its body's -/
def finD (io : Bool) (d : D) (ρ : Env) : FR := if io then (match slotD ρ 0 with
  | some h => .ok d [h]
  | none => .no) else .ok d []
def fnF (np nN : Nat) (io : Bool) (fb : SF) : List D → FR := fun ds => if ds.length = np then (match fb (ds.map some ++ List.replicate (nN - np) none) with
  | .nx ρ => finD io .non ρ
  | .rt d ρ => finD io d ρ
  | .er x ρ => if io then (match slotD ρ 0 with
    | some h => .er x [h]
    | none => .no) else .er x []
  | _ => .no) else .no
section
variable {w : World} {K : PySem.W.Frag} {mg : Str → Option Value} {base : Heap} {P : Program}
/-- what a body's proof is handed -/
structure BodyCx (P : Program) (w : World) (K : PySem.W.Frag) (mg : Str → Option Value) (base : Heap) (N : List Str) (sc : Scope) (q : Str) (cd : Value) (k : Nat) (X : Cx) : Prop where
  prog : X.prog = P
  w : X.w = w
  K : X.K = K
  mg : X.mg = mg
  base : X.base = base
  N : X.N = N
  sc : X.env.scope = sc
  st : X.stack = X.env :: X.outer ∧ X.env.frame = some X.env.locals
  qual : X.env.qual = q
  code : X.env.code = cd
  calm : X.calm = true
  room : Room k X.A
  fn : ∀ x, X.fn x = true
  own : PassesOwn (model X.prog X.w) X.A X.env X.xe
theorem def_ok {x qual : Str} {st : Stmt} {f : Addr} {fd : FuncData} {N ps : List Str} {k : Nat} {T : Nat → Option Addr} {xf : XF} {io : Bool} {fb : SF} (F : Fun K x qual st f fd) (Sc : FnScope N ps (defScope st)) (hio : io = true → 0 < ps.length)
    (hb : ∀ X, BodyCx P w K mg base N (defScope st) (qual ++ ".<locals>.") fd.code k X → SvsOk ⟨if io then [0] else [], T, xf, fun _ => True⟩ X (defBody st) fb) : FnOk P w K mg base (L2.CX P w) (k + 1) f fd ps (spF K T xf io (fnF ps.length N.length io fb)) := by
  obtain ⟨oc9, od9, kV9, doc9, pm9, an9, cdv, ct9, osl9, rfl, lk9, hcd9⟩ := F.ex
  refine fn_of lk9 hcd9 Sc (fun vs H Q E h => ?_) (fun A outer s H vs Q E hr h => ?_)
  · obtain ⟨C, ρ, σ, stk, ds, _, _, _, _, hl, _, h⟩ := h
    rw [hl]
    unfold fnF at h
    by_cases z : ds.length = ps.length
    · exact z
    · rw [if_neg z] at h
      exact h.elim
  · obtain ⟨C, ρ, σ, stk, ds, eK, eT, eTB, hs, hl, hf, h⟩ := h
    have z : ds.length = ps.length := by
      by_cases z : ds.length = ps.length
      · exact z
      · unfold fnF at h
        rw [if_neg z] at h
        exact h.elim
    let X := cxOf (L2.CX P w) P w K mg base N qual (defScope st) f cdv A outer s H E
    have bc : BodyCx P w K mg base N (defScope st) (qual ++ ".<locals>.") cdv k X := ⟨rfl, rfl, rfl, rfl, rfl, rfl, rfl, ⟨rfl, rfl⟩, rfl, rfl, rfl, hr, fun _ => rfl, passes_of rfl⟩
    have hstart : L2.start N vs = vs.map some ++ List.replicate (N.length - ps.length) none := by
      unfold L2.start
      rw [hl, z]
    let pin : List (Nat × V) := if io then (match vs with
      | v :: _ => [(0, v)]
      | [] => []) else []
    have hpin : ∀ p ∈ pin, (vs.map some ++ List.replicate (N.length - ps.length) none)[p.1]? = some (some p.2) := fun p hp => by
      cases io with
      | false => simp [pin] at hp
      | true =>
        cases vs with
        | nil => simp [pin] at hp
        | cons v r =>
          have : p = (0, v) := by simpa [pin] using hp
          rw [this]
          rfl
    obtain ⟨I, Z, hin, hout⟩ := hs.enter (N.length - ps.length) pin hpin
    have hFit : Fit ⟨if io then [0] else [], T, xf, fun _ => True⟩ X ⟨⟨C.K, C.T, Z, H, I, pin, C.TB⟩, fun cls d _ H' => E cls d H', xf⟩ := ⟨eK, takes_of rfl rfl rfl rfl, eT, rfl, eTB, fun p hp => by
      cases io with
      | false => simp [pin] at hp
      | true =>
        cases vs with
        | nil => simp [pin] at hp
        | cons v r =>
          have : p = (0, v) := by simpa [pin] using hp
          rw [this]
          simp, trivial⟩
    refine ⟨_, pss_W, ?_⟩
    rw [hstart]
    refine hb X bc _ hFit _ _ H [] _ hin ?_
    unfold fnF at h
    rw [if_pos z] at h
    -- the end, with the caller's slot where there is one
    have fin : ∀ (v : V) (d : D) (ρ' : Env) (σ' : St) (H' : Hp), SR ⟨C.K, C.T, Z, H, I, pin, C.TB⟩ ρ' σ' H' [.one v (.val d)] → (match finD io d ρ' with
        | .ok d outs => (outs.length = if io then 1 else 0) ∧ ∀ v H', SR C ρ σ H' (.one v (.val d) :: .many (vs.take outs.length) outs :: stk) → Q v H'
        | .er x outs => (outs.length = if io then 1 else 0) ∧ ∀ cls dd ws H', XCls T xf H' x cls dd ws → SR C ρ σ H' (.many ws x.fs :: .many (vs.take outs.length) outs :: stk) → E cls dd H'
        | .no => False) → Q v H' := fun v d ρ' σ' H' s' h => by
      unfold finD at h
      cases io with
      | false =>
        simp only [if_false, Bool.false_eq_true] at h
        have := hout ρ' σ' H' _ s'
        exact h.2 v H' (SR.swap (SR.nilMany this))
      | true =>
        simp only [if_true] at h
        cases e : slotD ρ' 0 with
        | none => rw [e] at h; exact h.elim
        | some hd =>
          rw [e] at h
          obtain ⟨v0, ev, s2⟩ := s'.take (slotD_some e)
          cases vs with
          | nil =>
            have := hio rfl
            simp at hl
            omega
          | cons u r =>
            have p0 := s'.pin (0, u) (by simp [pin])
            rw [ev] at p0
            cases p0
            have := hout _ _ _ _ s2.oneMany.swap
            exact h.2 v H' this
    cases e : fb (ds.map some ++ List.replicate (N.length - ps.length) none) with
    | nx ρ' =>
      rw [e] at h
      exact fun σ' H' s' => fin .non .non ρ' σ' H' (s'.imm fun B => ⟨rfl, rfl⟩) h
    | rt d ρ' =>
      rw [e] at h
      exact fun v σ' H' s' => fin v d ρ' σ' H' s' h
    | bk ρ' => rw [e] at h; exact h.elim
    | ct ρ' => rw [e] at h; exact h.elim
    | no => rw [e] at h; exact h.elim
    | er x ρ' =>
      rw [e] at h
      intro cls dd ws σ' H' hx s'
      rw [show (⟨⟨C.K, C.T, Z, H, I, pin, C.TB⟩, fun cls d _ H' => E cls d H', xf⟩ : Bg).C.T = T from eT] at hx
      cases io with
      | false =>
        simp only [if_false, Bool.false_eq_true] at h
        have := hout ρ' σ' H' _ s'
        exact h.2 cls dd ws H' hx (SR.swap (SR.nilMany this))
      | true =>
        simp only [if_true] at h
        cases e : slotD ρ' 0 with
        | none => rw [e] at h; exact h.elim
        | some hd =>
          rw [e] at h
          obtain ⟨v0, ev, s2⟩ := s'.take (slotD_some e)
          cases vs with
          | nil =>
            have := hio rfl
            simp at hl
            omega
          | cons u r =>
            have p0 := s'.pin (0, u) (by simp [pin])
            rw [ev] at p0
            cases p0
            have := hout _ _ _ _ s2.oneMany.swap
            exact h.2 cls dd ws H' hx this
end
end DV
namespace DV
open PySem L2

section
variable {C : Cn} {ρ : Env} {σ : St} {H : Hp} {stk : List SI}
theorem RepK.perm {K : PySem.W.Frag} {T : Nat → Option Addr} {B : List Addr} {s t : List SI} (p : List.Perm s t) : ∀ {Oq : List Addr}, RepK K T H B s Oq → ∃ Oq', RepK K T H B t Oq' ∧ List.Perm Oq Oq' := by
  induction p with
  | nil => exact fun hq => ⟨_, hq, .refl _⟩
  | cons x _ ih =>
    intro Oq hq
    obtain ⟨O1q, O2q, rfl, rq, kq⟩ := RepK.one hq
    obtain ⟨Oq', rq', pq'⟩ := ih rq
    exact ⟨_, kq rq', List.Perm.append_left _ pq'⟩
  | swap x y l =>
    intro Oq hq
    obtain ⟨O1q, O2q, rfl, rq, kq⟩ := RepK.one hq
    obtain ⟨P1q, P2q, rfl, rq', kq'⟩ := RepK.one rq
    refine ⟨_, kq' (kq rq'), ?_⟩
    (rw [← List.append_assoc, ← List.append_assoc])
    (exact List.Perm.append_right _ List.perm_append_comm)
  | trans _ _ ih1 ih2 =>
    intro Oq hq
    obtain ⟨O1q, r1q, p1q⟩ := ih1 hq
    obtain ⟨O2q, r2q, p2q⟩ := ih2 r1q
    exact ⟨O2q, r2q, p1q.trans p2q⟩
theorem SR.perm {stk' : List SI} (h : SR C ρ σ H stk) (p : List.Perm stk stk') : SR C ρ σ H stk' := by
  obtain ⟨Oρ, Os, B, h1, h2, hB, nd, nz, ow⟩ := h.ex
  obtain ⟨O', r, q⟩ := h2.perm p
  have pm : List.Perm (Oρ ++ Os) (Oρ ++ O') := List.Perm.append_left _ q
  exact h.remk h1 r hB nd nz ow (fun a z => pm.mem_iff.mpr z) (pm.nodup_iff.mp nd) h.pin
theorem SR.toMid {x : SI} {s t : List SI} (h : SR C ρ σ H (x :: (s ++ t))) : SR C ρ σ H (s ++ (x :: t)) := h.perm (List.perm_middle.symm)
theorem SR.ofMid {x : SI} {s t : List SI} (h : SR C ρ σ H (s ++ (x :: t))) : SR C ρ σ H (x :: (s ++ t)) := h.perm List.perm_middle
theorem SR.open {a : Addr} {l : List D} (h : SR C ρ σ H (.one (.ref a) (.val (.lst true l)) :: stk)) : ∃ vs, H a = some (.lst vs) ∧ vs.length = l.length ∧ SR C ρ σ H (.many vs l :: .hole a :: stk) := by
  obtain ⟨Oρ, Os, B, h1, ⟨O1, O2, r1, r2, rfl⟩, hB, nd, nz, ow⟩ := h.ex
  obtain ⟨a', vs, O', e, f, r, rfl⟩ := r1
  cases e
  have pm : List.Perm (Oρ ++ (a :: O' ++ O2)) (Oρ ++ (O' ++ a :: O2)) := List.Perm.append_left _ List.perm_middle.symm
  exact ⟨vs, f, r.length, h.remk h1 ⟨O', a :: O2, r, ⟨O2, r2, rfl, _, f, trivial⟩, rfl⟩ hB nd nz ow (fun a z => pm.mem_iff.mpr z) (pm.nodup_iff.mp nd) h.pin⟩
theorem SR.close {a : Addr} {vs : List V} {l : List D} (h : SR C ρ σ H (.many vs l :: .hole a :: stk)) : SR C ρ σ (upd H a (.lst vs)) (.one (.ref a) (.val (.lst true l)) :: stk) := by
  obtain ⟨Oρ, Os, B, h1, ⟨O1, O3, r1, ⟨O2, r2, rfl, o, e, m⟩, rfl⟩, hB, nd, nz, ow⟩ := h.ex
  have aB : a ∈ B := (hB a).mpr (by simp)
  have nd2 := List.nodup_append.mp nd
  have nd3 := List.nodup_append.mp nd2.2.1
  have nd4 := List.nodup_cons.mp nd3.2.1
  have kp : ∀ O, a ∉ O → Kp H B O (upd H a (.lst vs)) B := fun O hO => ⟨fun b u e _ q => by
    have : b ≠ a := fun z => by
      subst z
      rcases q with q | q
      · exact q aB
      · exact hO q
    rw [upd_ne this]
    exact e, fun a q => .inl q⟩
  have nρ : a ∉ Oρ := fun z => nd2.2.2 a z a (by simp) rfl
  have n1 : a ∉ O1 := fun z => nd3.2.2 a z a (by simp) rfl
  have pm : List.Perm (Oρ ++ (O1 ++ a :: O2)) (Oρ ++ (a :: O1 ++ O2)) := List.Perm.append_left _ List.perm_middle
  refine .again (Oρ := Oρ) (Os := a :: O1 ++ O2) (B := B) (h1.kp (kp _ nρ)) ⟨a :: O1, O2, ⟨a, vs, O1, rfl, upd_same, r1.kp (kp _ n1), rfl⟩, r2.kp (kp _ nd4.1), rfl⟩ (fun b => ?_) (pm.nodup_iff.mp nd) (fun b q z => nz b q (pm.mem_iff.mpr z)) (fun b q => ow b (pm.mem_iff.mpr q)) ⟨fun b u e2 nt n => ?_, h.kept.tabs.upd e m⟩ h.z h.pin
  · rw [hB b]
    have := (List.Perm.mem_iff (a := b) (List.perm_middle (a := a) (l₁ := O1) (l₂ := O2)))
    simp only [List.cons_append] at this ⊢
    rw [this]
  · have : b ≠ a := fun z => by
      rcases ow a (by simp) with q | q
      · rw [z] at e2; exact q u e2 nt
      · exact n (z ▸ q)
    rw [upd_ne this]
    exact h.kept.old b u e2 nt n
theorem SR.join {vs us : List V} {l m : List D} (h : SR C ρ σ H (.many vs l :: .many us m :: stk)) : SR C ρ σ H (.many (vs ++ us) (l ++ m) :: stk) := by
  obtain ⟨Oρ, Os, B, h1, ⟨O1, O3, r1, ⟨O2, O4, r2, r3, rfl⟩, rfl⟩, hB, nd, nz, ow⟩ := h.ex
  exact .again h1 ⟨O1 ++ O2, O4, r1.app r2, r3, by simp⟩ (by simpa using hB) nd nz ow h.kept h.z h.pin
/-- a thing appended to an owned list -/
theorem SR.push1 {a : Addr} {l : List D} {v : V} {d : D} (h : SR C ρ σ H (.one v (.val d) :: .one (.ref a) (.val (.lst true l)) :: stk)) : ∃ vs, H a = some (.lst vs) ∧ vs.length = l.length ∧ SR C ρ σ (upd H a (.lst (vs ++ [v]))) (.one (.ref a) (.val (.lst true (l ++ [d]))) :: stk) := by
  obtain ⟨vs, e, hl, s⟩ := h.swap.open
  have s2 : SR C ρ σ H (.many vs l :: .one v (.val d) :: .hole a :: stk) := s.perm (List.Perm.cons _ (List.Perm.swap _ _ _))
  have s3 := s2.swap.oneMany.swap.join
  exact ⟨vs, e, hl, s3.close⟩
end

/-! ### list comprehensions -/
def wipeD (ρ : Env) : List Nat → Env
  | [] => ρ
  | i :: vs => (wipeD ρ vs).set i none
theorem wipeD_len (ρ : Env) : ∀ vs, (wipeD ρ vs).length = ρ.length
  | [] => rfl
  | i :: vs => by rw [wipeD, List.length_set, wipeD_len ρ vs]
theorem wipeD_get {ρ : Env} {i : Nat} (hi : i < ρ.length) : ∀ {vs : List Nat}, i ∈ vs → (wipeD ρ vs)[i]? = some none
  | v :: vs, h => by
    rw [wipeD]
    by_cases e : v = i
    · subst e
      rw [List.getElem?_set_self (by rw [wipeD_len]; exact hi)]
    · rw [List.getElem?_set_ne e]
      exact wipeD_get hi ((List.mem_cons.mp h).resolve_left (Ne.symm e))
theorem SR.wipe {C : Cn} {ρ : Env} {σ : St} {H : Hp} {stk : List SI} (h : SR C ρ σ H stk) : ∀ vs, SR C (wipeD ρ vs) σ H stk
  | [] => h
  | i :: vs => (h.wipe vs).gone i
/-- slots without a word may hold anything -/
theorem SR.wipeσ {C : Cn} {ρ : Env} {σ : St} {H : Hp} {stk : List SI} (h : SR C ρ σ H stk) : ∀ vs, (∀ i ∈ vs, i < ρ.length → ρ[i]? = some none) → (∀ p ∈ C.pin, p.1 ∉ vs) → SR C ρ (L2.wipe σ vs) H stk
  | [], _, _ => h
  | i :: vs, hn, hp => by
    have h1 := h.wipeσ vs (fun j hj => hn j (by simp [hj])) (fun p z q => hp p z (by simp [q]))
    rw [L2.wipe]
    by_cases hi : i < ρ.length
    · exact h1.cell (hn i (by simp) hi) none fun p z q => hp p z (by simp [q])
    · rw [List.set_eq_of_length_le (by rw [h1.len]; omega)]
      exact h1
theorem SR.setσ {C : Cn} {ρ : Env} {σ : St} {H : Hp} {stk : List SI} {vs : List Nat} {σ' : St} (h : SR C ρ σ H stk) (hn : ∀ i ∈ vs, i < ρ.length → ρ[i]? = some none) (hp : ∀ p ∈ C.pin, p.1 ∉ vs) (hl : σ'.length = σ.length) (hw : L2.wipe σ' vs = L2.wipe σ vs) : SR C ρ σ' H stk := by
  obtain ⟨Oρ, Os, B, h1, h2, hB, nd, nz, ow⟩ := h.ex
  have eq : ∀ (i : Nat), i ∉ vs → σ'[i]? = σ[i]? := fun i hi => by
    have := congrArg (fun l => l[i]?) hw
    simp only [wipe_out hi] at this
    exact this
  have st : ∀ {ρ : Env} {σ σ' : St} {O : List Addr}, RepS C.K C.T H B ρ σ O → σ'.length = σ.length → (∀ (i : Nat), (∃ d, ρ[i]? = some (some d)) → σ'[i]? = σ[i]?) → RepS C.K C.T H B ρ σ' O := by
    intro ρ
    induction ρ with
    | nil =>
      intro σ σ' O h hl _
      obtain ⟨rfl, rfl⟩ := h
      exact ⟨List.length_eq_zero_iff.mp (by simpa using hl), rfl⟩
    | cons o ρ ih =>
      intro σ σ' O h hl he
      cases o with
      | none =>
        obtain ⟨s, σ1, rfl, r⟩ := h
        cases σ' with
        | nil => simp at hl
        | cons s' σ2 => exact ⟨s', σ2, rfl, ih r (by simpa using hl) fun i z => by simpa using he (i + 1) (by simpa using z)⟩
      | some d =>
        obtain ⟨v, σ1, O1, O2, rfl, r1, r2, rfl⟩ := h
        cases σ' with
        | nil => simp at hl
        | cons s' σ2 =>
          have e0 := he 0 ⟨d, rfl⟩
          simp at e0
          subst e0
          exact ⟨v, σ2, O1, O2, rfl, r1, ih r2 (by simpa using hl) fun i z => by simpa using he (i + 1) (by simpa using z), rfl⟩
  refine .again (st h1 hl fun i ⟨d, e⟩ => eq i fun z => ?_) h2 hB nd nz ow h.kept h.z fun p z => by rw [eq p.1 (hp p z)]; exact h.pin p z
  have := hn i z (List.getElem?_eq_some_iff.mp e).1
  rw [e] at this
  cases this

def R.ne {α : Type} : R α → R α
  | .ok a => .ok a
  | _ => .no
def lcLoop (vs : List Nat) (g : DV.GF) (t : TF) (e : EF) : List D → Env → R (List D × Env)
  | [], ρ => .ok ([], ρ)
  | d :: l, ρ => (oR (g d ρ)).bind fun ρ1 => (t ρ1).ne.bind fun b => if b.1 then ((e b.2).ne.bind fun p => (oR (grab p.2 p.1)).bind fun q => (lcLoop vs g t e l (wipeD q.2 vs)).bind fun r => .ok (q.1 :: r.1, r.2)) else lcLoop vs g t e l (wipeD b.2 vs)
def evLc (vs : List Nat) (i : IF) (g : DV.GF) (t : TF) (e : EF) : EF := fun ρ => (i ρ).bind fun p => if p.1.length ≤ sizeLine then (lcLoop vs g t e p.1 (wipeD p.2 vs)).bind fun q => .ok (.val (.lst true q.1), q.2) else .no
def tvYes : TF := fun ρ => .ok (true, ρ)
theorem PR.ne {α : Type} {G G' : Bg} {σ : St} {stk : List SI} {r : R α} {Ok : α → Prop} (h : PR G σ stk r.ne Ok) : ∀ {σ' stk'}, PR G' σ' stk' r Ok := by
  cases r with
  | ok a => exact h
  | er x ρ => exact (show False from h).elim
  | no => exact (show False from h).elim
def tWP (X : Cx) (ifs : List Expr) : TT := fun σ H Q => ∀ pins s, Inv X pins σ H s → wpAny (model X.prog X.w) X.A (forIn ifs true fun c r => if r = true then do let ok ← isTrue c X.env (eval c X.env); pure (ForInStep.yield ok) else pure (ForInStep.yield r)) (TP X pins σ Q) X.xe s
def PtsOk (S : Sg) (X : Cx) (ifs : List Expr) (F : TF) : Prop := ∀ G, Fit S X G → ∀ ρ σ H stk Q, SR G.C ρ σ H stk → PR G σ stk (F ρ) (OkT G σ stk Q) → tWP X ifs σ H Q
theorem ptsv_nil {S : Sg} {X : Cx} : PtsOk S X [] tvYes := fun G ft ρ σ H stk Q hs hp pins s I => pts_nil.run pins s σ H Q I (hp H hs)
theorem ptsv_one {S : Sg} {X : Cx} {c : Expr} {t : TF} (h : TvOk S X c t) : PtsOk S X [c] t := fun G ft ρ σ H stk Q hs hp pins s I => (pts_one pt_W).run pins s σ H Q I (h G ft ρ σ H stk Q hs hp)
theorem lcLoop_len {vs : List Nat} {g : DV.GF} {t : TF} {e : EF} : ∀ {l : List D} {ρ : Env} {qq : List D × Env}, lcLoop vs g t e l ρ = .ok qq → qq.1.length ≤ l.length
  | [], _, _, hq => by cases hq; simp
  | d :: l, ρ, qq, hq => by
    have hq : ((oR (g d ρ)).bind fun ρ1q => (t ρ1q).ne.bind fun bq => if bq.1 then ((e bq.2).ne.bind fun pq => (oR (grab pq.2 pq.1)).bind fun qq => (lcLoop vs g t e l (wipeD qq.2 vs)).bind fun rq => .ok (qq.1 :: rq.1, rq.2)) else lcLoop vs g t e l (wipeD bq.2 vs)) = R.ok qq := hq
    cases h1 : g d ρ with
    | none => rw [h1] at hq; cases hq
    | some ρ1q =>
      rw [h1] at hq
      have hq : ((t ρ1q).ne.bind fun bq => if bq.1 then ((e bq.2).ne.bind fun pq => (oR (grab pq.2 pq.1)).bind fun qq => (lcLoop vs g t e l (wipeD qq.2 vs)).bind fun rq => .ok (qq.1 :: rq.1, rq.2)) else lcLoop vs g t e l (wipeD bq.2 vs)) = R.ok qq := hq
      cases h2 : (t ρ1q).ne with
      | er x _ => rw [h2] at hq; cases hq
      | no => rw [h2] at hq; cases hq
      | ok bq =>
        rw [h2] at hq
        have hq : (if bq.1 then ((e bq.2).ne.bind fun pq => (oR (grab pq.2 pq.1)).bind fun qq => (lcLoop vs g t e l (wipeD qq.2 vs)).bind fun rq => .ok (qq.1 :: rq.1, rq.2)) else lcLoop vs g t e l (wipeD bq.2 vs)) = R.ok qq := hq
        by_cases hb : bq.1 = true
        · rw [if_pos hb] at hq
          cases h3 : (e bq.2).ne with
          | er x _ => rw [h3] at hq; cases hq
          | no => rw [h3] at hq; cases hq
          | ok pq =>
            rw [h3] at hq
            have hq : ((oR (grab pq.2 pq.1)).bind fun qq => (lcLoop vs g t e l (wipeD qq.2 vs)).bind fun rq => R.ok (qq.1 :: rq.1, rq.2)) = R.ok qq := hq
            cases h4 : grab pq.2 pq.1 with
            | none => rw [h4] at hq; cases hq
            | some q1 =>
              rw [h4] at hq
              have hq : ((lcLoop vs g t e l (wipeD q1.2 vs)).bind fun rq => R.ok (q1.1 :: rq.1, rq.2)) = R.ok qq := hq
              cases h5 : lcLoop vs g t e l (wipeD q1.2 vs) with
              | er x _ => rw [h5] at hq; cases hq
              | no => rw [h5] at hq; cases hq
              | ok rq =>
                rw [h5] at hq
                cases hq
                have := lcLoop_len h5
                simp
                omega
        · rw [if_neg hb] at hq
          have := lcLoop_len hq
          simp
          omega
theorem wipe_get {σ : St} {i : Nat} (hi : i < σ.length) : ∀ {vs : List Nat}, i ∈ vs → (L2.wipe σ vs)[i]? = some none
  | v :: vs, h => by
    rw [L2.wipe]
    by_cases e : v = i
    · subst e
      rw [List.getElem?_set_self (by rw [wipe_length]; exact hi)]
    · rw [List.getElem?_set_ne e]
      exact wipe_get hi ((List.mem_cons.mp h).resolve_left (Ne.symm e))
theorem wipe_eq {σ σ' : St} {vs : List Nat} (hl : σ'.length = σ.length) (h : ∀ (i : Nat), i ∉ vs → σ'[i]? = σ[i]?) : L2.wipe σ' vs = L2.wipe σ vs := by
  refine List.ext_getElem? fun i => ?_
  by_cases hi : i ∈ vs
  · by_cases hlt : i < σ.length
    · rw [wipe_get hlt hi, wipe_get (by omega) hi]
    · rw [List.getElem?_eq_none (by rw [wipe_length]; omega), List.getElem?_eq_none (by rw [wipe_length]; omega)]
  · rw [wipe_out hi, wipe_out hi, h i hi]
theorem wipe_wipe {σ : St} {vs : List Nat} : L2.wipe (L2.wipe σ vs) vs = L2.wipe σ vs := wipe_eq (wipe_length σ vs) fun i hi => wipe_out hi
section
variable {S : Sg} {X : Cx} {elt tg iter : Expr} {ifs : List Expr} {scope : Scope} {own : List (Str × Nat)} {pos : Pos} {fi : IF} {g : DV.GF} {t : TF} {fe : EF} {ks : List Nat}
/-- the reading of a comprehension -/
theorem lc_read {tg' : V → St → Hp → (St → Hp → Prop) → Prop} {tt : TT} {te : TE} {vs : List Nat} {G : Bg} (ft : Fit S X G)
    (hg : ∀ ρq σ Hq stk vq dq ρ' Q, SR G.C ρq σ Hq (.one vq (.val dq) :: stk) → g dq ρq = some ρ' → (∀ σ' Hq', SR G.C ρ' σ' Hq' stk → Same ks σ σ' → Q σ' Hq') → tg' vq σ Hq Q)
    (ht : ∀ ρq σ Hq stk Q, SR G.C ρq σ Hq stk → PR ⟨G.C, fun _ _ _ _ => False, G.xf⟩ σ stk (t ρq) (OkT ⟨G.C, fun _ _ _ _ => False, G.xf⟩ σ stk Q) → tt σ Hq Q)
    (he : ∀ ρq σ Hq stk Q, SR G.C ρq σ Hq stk → PR ⟨G.C, fun _ _ _ _ => False, G.xf⟩ σ stk (fe ρq) (OkE ⟨G.C, fun _ _ _ _ => False, G.xf⟩ σ stk Q) → te σ Hq Q)
    (hk : ∀ iq ∈ ks, iq ∈ vs) (hp : ∀ iq ∈ S.pn, iq ∉ vs) {ρ1q : Env} {σ : St} {H1 : Hp} {stk e : List SI} {l : List D} {J : L2.It} (src : Src G.C J l e) (hl : l.length ≤ sizeLine) (hs : SR G.C ρ1q σ H1 (e ++ stk)) {Q : Addr → Hp → Prop}
    (hq : PR G σ stk ((lcLoop vs g t fe l (wipeD ρ1q vs)).bind fun qq => R.ok (It.val (.lst true qq.1), qq.2)) fun pq => ∀ (D : Addr) Hq', SR G.C pq.2 σ Hq' (.one (.ref D) pq.1 :: stk) → Q D Hq') :
    ∀ D, H1 D = none → ∃ W : Nat → Nat → Hp → Prop, (∃ mq, W 0 mq (upd H1 D (.lst []))) ∧ ∀ iq mq Hq, W iq mq Hq →
      (J.stop iq Hq ∧ Q D Hq) ∨ (J.go iq Hq ∧ ∃ Nx : Hp → Prop, (∀ Hq', Nx Hq' → ∃ m', m' < mq ∧ W (iq + 1) m' Hq') ∧ ∀ xq Hq', J.yld iq Hq xq Hq' → tg' xq (L2.wipe σ vs) Hq' fun σ2q H2q => L2.wipe σ2q vs = L2.wipe σ vs ∧ tt σ2q H2q fun bq H3q =>
        if bq = true then te σ2q H3q fun yq H4q => ∃ acc, H4q D = some (.lst acc) ∧ acc.length < sizeLine ∧ Nx (upd H4q D (.lst (acc ++ [yq]))) else Nx H3q) := by
  intro Dd hDq
  have hpinq : ∀ pq ∈ G.C.pin, pq.1 ∉ vs := fun pq zq qq => hp _ (ft.pin pq zq) qq
  have wnq : ∀ ρq : Env, ∀ iq ∈ vs, iq < (wipeD ρq vs).length → (wipeD ρq vs)[iq]? = some none := fun ρq iq zq wq => wipeD_get (by rw [wipeD_len] at wq; exact wq) zq
  have s0q : SR G.C (wipeD ρ1q vs) σ (upd H1 Dd (.lst [])) (e ++ (.one (.ref Dd) (.val (.lst true [])) :: stk)) := ((hs.nilMany).list hDq).toMid.wipe vs
  let Inv' : Nat → Hp → Prop := fun iq Hq => ∃ ρq acc, acc.length ≤ iq ∧ (∀ iq ∈ vs, iq < ρq.length → ρq[iq]? = some none) ∧ SR G.C ρq σ Hq (e ++ (.one (.ref Dd) (.val (.lst true acc)) :: stk)) ∧
    PR G σ stk ((lcLoop vs g t fe (l.drop iq) ρq).bind fun qq => R.ok (It.val (.lst true (acc ++ qq.1)), qq.2)) (fun pq => ∀ (D : Addr) Hq', SR G.C pq.2 σ Hq' (.one (.ref D) pq.1 :: stk) → Q D Hq')
  refine ⟨fun iq mq Hq => mq = l.length - iq ∧ iq ≤ l.length ∧ Inv' iq Hq, ⟨_, rfl, Nat.zero_le _, wipeD ρ1q vs, [], Nat.zero_le _, wnq ρ1q, s0q, by simpa using hq⟩, ?_⟩
  rintro iq mq Hq ⟨em, hiq, ρq, acc, hacc, nn, s, qq⟩
  obtain ⟨goq, stopq⟩ := src.run ρq σ Hq _ iq s
  by_cases hlt : iq < l.length
  · have edq : l[iq]? = some l[iq] := List.getElem?_eq_getElem hlt
    obtain ⟨goq, yq⟩ := goq _ edq
    rw [List.drop_eq_getElem_cons hlt] at qq
    refine .inr ⟨goq, Inv' (iq + 1), fun Hq' zq => ⟨_, ?_, rfl, hlt, zq⟩, fun xq H2q hyq => ?_⟩
    · rw [em]; omega
    · have qq : PR G σ stk (((oR (g l[iq] ρq)).bind fun ρ1q => (t ρ1q).ne.bind fun bq => if bq.1 then ((fe bq.2).ne.bind fun pq => (oR (grab pq.2 pq.1)).bind fun qq => (lcLoop vs g t fe (l.drop (iq + 1)) (wipeD qq.2 vs)).bind fun rq => .ok (qq.1 :: rq.1, rq.2)) else lcLoop vs g t fe (l.drop (iq + 1)) (wipeD bq.2 vs)).bind fun qq => R.ok (It.val (.lst true (acc ++ qq.1)), qq.2)) _ := qq
      obtain ⟨ρ2q, e2q, qq⟩ := qq.bind.bind.oR
      have s2q := yq xq H2q hyq
      have s3q : SR G.C ρq (L2.wipe σ vs) H2q _ := s2q.wipeσ vs nn hpinq
      refine hg _ _ _ _ xq _ ρ2q _ s3q e2q fun σ3q H3q s4q smq => ?_
      have hwq : L2.wipe σ3q vs = L2.wipe σ vs := by
        rw [wipe_eq smq.1 fun iq hiq => smq.2 iq fun zq => hiq (hk iq zq)]
        exact wipe_wipe
      have hl3q : σ3q.length = σ.length := by rw [smq.1, wipe_length]
      -- back to the slots as they stood
      have homeq : ∀ {ρ' : Env} {Hq' : Hp} {st : List SI}, SR G.C ρ' σ3q Hq' st → SR G.C (wipeD ρ' vs) σ Hq' st := fun {ρ' Hq' st} zq => (zq.wipe vs).setσ (vs := vs) (wnq ρ') hpinq hl3q.symm hwq.symm
      refine ⟨hwq, ht _ _ _ _ _ s4q (qq.bind.ne.mono fun bq qq H4q s5q => ?_)⟩
      by_cases hb : bq.1 = true
      · show (if bq.1 = true then _ else _)
        rw [if_pos hb]
        have qq : PR G σ stk (if bq.1 = true then _ else _) _ := qq
        rw [if_pos hb] at qq
        refine he _ _ _ _ _ s5q (qq.bind.ne.mono fun pq qq vq H5q s6q hbrq => ?_)
        obtain ⟨dq, edq, qq⟩ := qq.bind.oR
        have s7q := (s6q.grab hbrq edq)
        have s8q : SR G.C dq.2 σ3q H5q (.one vq (.val dq.1) :: .one (.ref Dd) (.val (.lst true acc)) :: (e ++ stk)) := s7q.perm (List.Perm.cons _ List.perm_middle)
        obtain ⟨vlq, eDq, hlvq, s9q⟩ := s8q.push1
        refine ⟨vlq, eDq, by omega, wipeD dq.2 vs, acc ++ [dq.1], by simp; omega, wnq _, (homeq s9q).toMid, ?_⟩
        have qq := qq.bind
        cases e9 : lcLoop vs g t fe (l.drop (iq + 1)) (wipeD dq.2 vs) with
        | ok rq =>
          rw [e9] at qq
          have qq : ∀ (D : Addr) Hq', SR G.C rq.2 σ Hq' (.one (.ref D) (It.val (.lst true (acc ++ (dq.1 :: rq.1)))) :: stk) → Q D Hq' := qq
          show ∀ (D : Addr) Hq', SR G.C rq.2 σ Hq' (.one (.ref D) (It.val (.lst true (acc ++ [dq.1] ++ rq.1))) :: stk) → Q D Hq'
          rw [List.append_assoc]
          exact qq
        | er xx ρx => rw [e9] at qq; exact qq
        | no => rw [e9] at qq; exact qq
      · show (if bq.1 = true then _ else _)
        rw [if_neg hb]
        have qq : PR G σ stk (if bq.1 = true then _ else _) _ := qq
        rw [if_neg hb] at qq
        exact ⟨wipeD bq.2 vs, acc, by omega, wnq _, homeq s5q, by
          cases e9 : lcLoop vs g t fe (l.drop (iq + 1)) (wipeD bq.2 vs) with
          | ok rq => rw [e9] at qq; exact qq
          | er xx ρx => rw [e9] at qq; exact qq
          | no => rw [e9] at qq; exact qq⟩
  · have eiq : iq = l.length := by omega
    subst eiq
    rw [List.drop_length] at qq
    have qq : PR G σ stk (R.ok (It.val (.lst true (acc ++ [])), ρq)) _ := qq
    simp only [List.append_nil] at qq
    exact .inl ⟨stopq (Nat.le_refl _), qq Dd Hq s.drops⟩
theorem blk_fit {G : Bg} (ft : Fit S X G) (s : Shared) (H : Hp) (scope : Scope) (ce : PySem.Env) (fp : List Addr) : Fit S (X.blk s H scope ce fp) ⟨G.C, fun _ _ _ _ => False, G.xf⟩ := ⟨ft.k, takes0, ft.t, ft.x, ft.tb, ft.pin, ft.lam⟩
def tgB (X : Cx) (scope : Scope) (tg : Expr) : TG := fun v σ H Q => ∀ (s : Shared) (H' : Hp) (C : Addr) (cl : List (Str × Addr)) (fp : List Addr), tWG (X.blk s H' scope (compEnvC scope cl C X.env) fp) tg v σ H Q
def ttB (X : Cx) (scope : Scope) (ifs : List Expr) : TT := fun σ H Q => ∀ (s : Shared) (H' : Hp) (C : Addr) (cl : List (Str × Addr)) (fp : List Addr), tWP (X.blk s H' scope (compEnvC scope cl C X.env) fp) ifs σ H Q
def teB (X : Cx) (scope : Scope) (elt : Expr) : TE := fun σ H Q => ∀ (s : Shared) (H' : Hp) (C : Addr) (cl : List (Str × Addr)) (fp : List Addr), tW (X.blk s H' scope (compEnvC scope cl C X.env) fp) elt σ H Q
theorem lc_all {G : Bg} (ft : Fit S X G) (hk : ∀ i ∈ ks, i ∈ own.map (·.2)) (hp : ∀ i ∈ S.pn, i ∉ own.map (·.2)) (hi : IvOk S X tg iter fi)
    (hg : ∀ (s : Shared) (H : Hp) (C : Addr) (cl : List (Str × Addr)) (fp : List Addr), GvOk (X.blk s H scope (compEnvC scope cl C X.env) fp) tg ks g)
    (ht : ∀ (s : Shared) (H : Hp) (C : Addr) (cl : List (Str × Addr)) (fp : List Addr), PtsOk S (X.blk s H scope (compEnvC scope cl C X.env) fp) ifs t)
    (he : ∀ (s : Shared) (H : Hp) (C : Addr) (cl : List (Str × Addr)) (fp : List Addr), EvOk S (X.blk s H scope (compEnvC scope cl C X.env) fp) elt fe) :
    ∀ ρ σ H stk Q, SR G.C ρ σ H stk → PR G σ stk (evLc (own.map (·.2)) fi g t fe ρ) (OkE G σ stk Q) → tLc (tWI X tg iter) (tgB X scope tg) (ttB X scope ifs) (teB X scope elt) (own.map (·.2)) σ H Q := by
  intro ρ σ H stk Q hs hq
  refine hi G ft ρ σ H stk _ hs (hq.bind.mono fun p hq J e H1 src s => ?_)
  by_cases z : p.1.length ≤ sizeLine
  · rw [if_pos z] at hq
    refine lc_read (g := g) (t := t) (fe := fe) (tg' := tgB X scope tg) (tt := ttB X scope ifs) (te := teB X scope elt) (Q := fun D H => Q (.ref D) H) ft (fun ρ σ H stk v d ρ' Q hs e k s' H' C cl fp => ?_) (fun ρ σ H stk Q hs hp s' H' C cl fp => ?_) (fun ρ σ H stk Q hs hp s' H' C cl fp => ?_) hk hp src z s ?_
    · exact hg s' H' C cl fp G.C ft.k (fun p z q => hp _ (ft.pin p z) (hk _ q)) ρ σ H stk v d ρ' Q hs e k
    · exact ht s' H' C cl fp _ (blk_fit ft s' H' scope _ fp) ρ σ H stk Q hs hp
    · exact he s' H' C cl fp _ (blk_fit ft s' H' scope _ fp) ρ σ H stk Q hs hp
    · cases e9 : lcLoop (own.map (·.2)) g t fe p.1 (wipeD p.2 (own.map (·.2))) with
      | ok r => rw [e9] at hq; exact fun D H' hs => hq _ H' hs trivial
      | er x ρ => rw [e9] at hq; exact hq
      | no => rw [e9] at hq; exact hq
  · rw [if_neg z] at hq
    exact hq.elim
theorem tgB_pg (s : Shared) (H : Hp) (C : Addr) (cl : List (Str × Addr)) (fp : List Addr) : PG (X.blk s H scope (compEnvC scope cl C X.env) fp) tg (tgB X scope tg) := ⟨fun pins s' σ H' v u Q I r h => h s H C cl fp pins s' u I r⟩
theorem ttB_pt (s : Shared) (H : Hp) (C : Addr) (cl : List (Str × Addr)) (fp : List Addr) : PTs (X.blk s H scope (compEnvC scope cl C X.env) fp) ifs (ttB X scope ifs) := ⟨fun pins s' σ H' Q I h => h s H C cl fp pins s' I⟩
theorem teB_pe (s : Shared) (H : Hp) (C : Addr) (cl : List (Str × Addr)) (fp : List Addr) : PE (X.blk s H scope (compEnvC scope cl C X.env) fp) elt (teB X scope elt) := ⟨fun pins s' σ H' Q I h => h s H C cl fp pins s' I⟩
theorem ev_lc (hc : X.calm = true) (hN : X.N.Nodup) (ok : BlkOk X.N X.env.scope scope own) (hk : ∀ i ∈ ks, i ∈ own.map (·.2)) (hp : ∀ i ∈ S.pn, i ∉ own.map (·.2)) (hi : IvOk S X tg iter fi)
    (hg : ∀ (s : Shared) (H : Hp) (C : Addr) (cl : List (Str × Addr)) (fp : List Addr), GvOk (X.blk s H scope (compEnvC scope cl C X.env) fp) tg ks g)
    (ht : ∀ (s : Shared) (H : Hp) (C : Addr) (cl : List (Str × Addr)) (fp : List Addr), PtsOk S (X.blk s H scope (compEnvC scope cl C X.env) fp) ifs t)
    (he : ∀ (s : Shared) (H : Hp) (C : Addr) (cl : List (Str × Addr)) (fp : List Addr), EvOk S (X.blk s H scope (compEnvC scope cl C X.env) fp) elt fe)
    (hs : ∀ x, foldedSetIterable iter X.env x = pure x) : EvOk S X (.ListComp elt [⟨tg, iter, ifs, 0⟩] scope pos) (evLc (own.map (·.2)) fi g t fe) := fun G ft ρ σ H stk Q hs' hq => by
  exact of_PE (pe_lc hc hN pi_W ok tgB_pg ttB_pt teB_pe hs) (lc_all ft hk hp hi hg ht he ρ σ H stk Q hs' hq)
/-- a name on the left, a list display on the right -/
theorem sv_setLc {i : Nat} {y : Str} {py spos : Pos} (hc : X.calm = true) (hN : X.N.Nodup) (hy : X.N[i]? = some y) (hyl : X.env.scope.names.lookup y = some .local) (hyp : i ∉ S.pn)
    (hsw : swapsWith (.ListComp elt [⟨tg, iter, ifs, 0⟩] scope pos) (some (.Name y py)) spos.line X.env = pure true) (ok : BlkOk X.N X.env.scope scope own) (hk : ∀ i ∈ ks, i ∈ own.map (·.2)) (hp : ∀ i ∈ S.pn, i ∉ own.map (·.2)) (hi : IvOk S X tg iter fi)
    (hg : ∀ (s : Shared) (H : Hp) (C : Addr) (cl : List (Str × Addr)) (fp : List Addr), GvOk (X.blk s H scope (compEnvC scope cl C X.env) fp) tg ks g)
    (ht : ∀ (s : Shared) (H : Hp) (C : Addr) (cl : List (Str × Addr)) (fp : List Addr), PtsOk S (X.blk s H scope (compEnvC scope cl C X.env) fp) ifs t)
    (he : ∀ (s : Shared) (H : Hp) (C : Addr) (cl : List (Str × Addr)) (fp : List Addr), EvOk S (X.blk s H scope (compEnvC scope cl C X.env) fp) elt fe)
    (hs : ∀ x, foldedSetIterable iter X.env x = pure x) : SvOk S X (.Assign [.Name y py] (.ListComp elt [⟨tg, iter, ifs, 0⟩] scope pos) spos) (svAsg (gvN i) (evLc (own.map (·.2)) fi g t fe)) := fun G ft ρ σ H stk Dn hs' hq => by
  refine of_PS (ps_setLc hc hN hy hyl hsw pi_W ok tgB_pg ttB_pt teB_pe hs) (lc_all ft hk hp hi hg ht he ρ σ H stk _ hs' ((hq.st (σ := σ)).mono fun p hp v H' s hb => ?_))
  obtain ⟨q, eq, hp⟩ := hp.oS
  obtain ⟨ρ', e', hp⟩ := hp.oS
  obtain ⟨l1, rfl⟩ := gvN_some e'
  exact hp _ H' ((s.grab hb eq).store l1 fun p hp' w => hyp (by rw [← w]; exact ft.pin p hp'))
end
end DV
namespace DV
open PySem L2

/-! ### equality of data -/
mutual
def toP : D → Option PyData
  | .non => some .none
  | .bl b => some (.bool b)
  | .int i => some (.int i)
  | .str x => some (.str ⟨x.toArray⟩)
  | .tup l => (toPA l).map .tuple
  | .scr l => (toPA l).map .list
  | .lst _ l => (toPA l).map .list
  | .dct _ _ _ _ => none
  | .fn _ => none
def toPA : List D → Option (List PyData)
  | [] => some []
  | d :: l => (toP d).bind fun p => (toPA l).map (p :: ·)
end
section
variable {K : PySem.W.Frag} {T : Nat → Option Addr} {H : Hp} {B : List Addr}
mutual
theorem Rep.dp : ∀ {d : D} {v : V} {O : List Addr} {p : PyData}, Rep K T H B d v O → toP d = some p → Dp K H v p ∧ p.canLay0 = true
  | .non, _, _, _, h, e => by cases e; obtain ⟨rfl, _⟩ := h; exact ⟨.non, rfl⟩
  | .bl b, _, _, _, h, e => by cases e; obtain ⟨rfl, _⟩ := h; exact ⟨.bl b, rfl⟩
  | .int i, _, _, _, h, e => by cases e; obtain ⟨rfl, _⟩ := h; exact ⟨.int i, rfl⟩
  | .str x, _, _, _, h, e => by
    cases e
    obtain ⟨rfl, ha, _⟩ := h
    refine ⟨.str _, ?_⟩
    show PyData.strOk ⟨x.toArray⟩ = true
    simp only [PyData.strOk, List.all_toArray, List.all_eq_true, decide_eq_true_eq]
    intro c hc
    have := ha c hc
    omega
  | .tup l, _, _, _, h, e => by
    obtain ⟨ps, e1, rfl⟩ := Option.map_eq_some_iff.mp e
    obtain ⟨a, vs, rfl, f, r, _⟩ := h
    have := r.dp e1
    exact ⟨.tup f.sqt this.1, this.2⟩
  | .scr l, _, _, _, h, e => by
    obtain ⟨ps, e1, rfl⟩ := Option.map_eq_some_iff.mp e
    obtain ⟨a, vs, rfl, f, r, _⟩ := h
    have := r.dp e1
    exact ⟨.lst f.sql this.1, this.2⟩
  | .lst false l, _, _, _, h, e => by
    obtain ⟨ps, e1, rfl⟩ := Option.map_eq_some_iff.mp e
    obtain ⟨a, vs, rfl, f, r, _⟩ := h
    have := r.dp e1
    exact ⟨.lst f.sql this.1, this.2⟩
  | .lst true l, _, _, _, h, e => by
    obtain ⟨ps, e1, rfl⟩ := Option.map_eq_some_iff.mp e
    obtain ⟨a, vs, O', rfl, f, r, _⟩ := h
    have := r.dp e1
    exact ⟨.lst (SqL.of f) this.1, this.2⟩
  | .dct _ _ _ _, _, _, _, _, e => by cases e
  | .fn _, _, _, _, _, e => by cases e
theorem RepA.dp : ∀ {ds : List D} {vs : List V} {O : List Addr} {ps : List PyData}, RepA K T H B ds vs O → toPA ds = some ps → DpAll K H vs ps ∧ PyData.canLayAll0 ps = true
  | [], _, _, _, h, e => by cases e; obtain ⟨rfl, _⟩ := h; exact ⟨.nil, rfl⟩
  | d :: ds, _, _, _, h, e => by
    obtain ⟨p, e1, e2⟩ := Option.bind_eq_some_iff.mp e
    obtain ⟨ps, e3, rfl⟩ := Option.map_eq_some_iff.mp e2
    obtain ⟨v, vs', O1, O2, rfl, h1, h2, rfl⟩ := h
    have a := h1.dp e1
    have b := h2.dp e3
    exact ⟨.cons a.1 b.1, by simp [PyData.canLayAll0, a.2, b.2]⟩
end
end
mutual
theorem toP_frz : ∀ d : D, toP (frz d) = toP d
  | .non => rfl | .bl _ => rfl | .int _ => rfl | .str _ => rfl | .tup _ => rfl | .scr _ => rfl | .dct _ _ _ _ => rfl | .fn _ => rfl
  | .lst _ l => by simp [frz, toP, toPA_frz l]
theorem toPA_frz : ∀ l : List D, toPA (frzA l) = toPA l
  | [] => rfl
  | d :: l => by simp [frzA, toPA, toP_frz d, toPA_frz l]
end
def eqD (a b : D) : Option Bool := (toP a).bind fun p => (toP b).bind fun q => if min p.depth q.depth ≤ 150 then some (PyData.eqv p q) else none
section
variable {S : Sg} {X : Cx}
theorem op_eqN (neg : Bool) (hu : X.A.units + 200 < cLine) : OpR X (compareOp (if neg then .NotEq else .Eq)) (fun xq yq Hq Qq => ∃ p qq, Dp X.K Hq xq p ∧ Dp X.K Hq yq qq ∧ p.canLay0 = true ∧ qq.canLay0 = true ∧ min p.depth qq.depth ≤ 150 ∧ Qq (.bl (if neg then !PyData.eqv p qq else PyData.eqv p qq)) Hq) := by
  intro pinsq sq σq Hq xq yq vq uq Qq Iq rxq ryq hq
  obtain ⟨dq, eq, hdq, heq, sdq, seq, hmq, qq⟩ := hq
  obtain ⟨asq, r1q⟩ := Dp.reads Iq dq xq vq hdq rxq
  obtain ⟨bsq, r2q⟩ := Dp.reads Iq eq yq uq heq ryq
  cases neg with
  | false => exact PySem.SeqAt.compareEq_reads r1q r2q sdq seq (by omega) ⟨.bl _, Hq, Iq, rfl, qq⟩
  | true => exact PySem.SeqAt.compareNe_reads r1q r2q sdq seq (by omega) ⟨.bl _, Hq, Iq, rfl, qq⟩
theorem ok_eq (neg : Bool) (hu : X.A.units + 200 < cLine) : OpOk S X (compareOp (if neg then .NotEq else .Eq)) (fun x y => (eqD x y).map fun b => .bl (if neg then !b else b)) :=
  .imm (op_eqN neg hu) fun T H x y dx dy d Q hx hy e k => by
    obtain ⟨b, e1, rfl⟩ := Option.map_eq_some_iff.mp e
    obtain ⟨p, ep, e2⟩ := Option.bind_eq_some_iff.mp (show (toP dx).bind _ = some b from e1)
    obtain ⟨q, eq, e3⟩ := Option.bind_eq_some_iff.mp e2
    by_cases z : min p.depth q.depth ≤ 150
    · rw [if_pos z] at e3
      cases e3
      have a := hx.dp (by rw [toP_frz]; exact ep)
      have b := hy.dp (by rw [toP_frz]; exact eq)
      exact ⟨p, q, a.1, b.1, a.2, b.2, z, k _ fun B => ⟨rfl, rfl⟩⟩
    · rw [if_neg z] at e3
      cases e3

/-! ### items of a sequence on the stack -/
def seqD : D → Option (List D)
  | .tup l => some l
  | .scr l => some l
  | .lst _ l => if isFzA l then some l else none
  | _ => none
def listD : D → Option (List D)
  | .lst _ l => if isFzA l then some l else none
  | _ => none
theorem listD_some {d : D} {l : List D} (h : listD d = some l) : ∃ o, d = .lst o l ∧ isFzA l = true := by
  unfold listD at h
  split at h
  · rename_i o l'
    by_cases z : isFzA l' = true
    · rw [if_pos z] at h
      cases h
      exact ⟨o, rfl, z⟩
    · rw [if_neg z] at h
      cases h
  · cases h
def tupD : D → Option (List D)
  | .tup l => some l
  | _ => none
theorem tupD_some {d : D} {l : List D} (h : tupD d = some l) : d = .tup l := by
  unfold tupD at h
  split at h
  · cases h; rfl
  · cases h
def strD : D → Option (List Nat)
  | .str x => some x
  | _ => none
theorem strD_some {d : D} {l : List Nat} (h : strD d = some l) : d = .str l := by
  unfold strD at h
  split at h
  · cases h; rfl
  · cases h
theorem Rep.seq {K : PySem.W.Frag} {T : Nat → Option Addr} {H : Hp} {B : List Addr} {d : D} {v : V} {O : List Addr} {l : List D} (h : Rep K T H B d v O) (e : seqD d = some l) :
    ∃ a vs, v = .ref a ∧ (SqL K H a vs ∨ SqT K H a vs) ∧ ((∃ o, d = .lst o l) → H a = some (.lst vs)) ∧ (d = .tup l → SqT K H a vs) ∧ RepA K T H B l vs [] := by
  unfold seqD at e
  split at e
  · cases e
    obtain ⟨a, vs, e1, f, r, _⟩ := h
    exact ⟨a, vs, e1, .inr f.sqt, (fun z => by obtain ⟨_, z⟩ := z; cases z), fun _ => f.sqt, r⟩
  · cases e
    obtain ⟨a, vs, e1, f, r, _⟩ := h
    exact ⟨a, vs, e1, .inl f.sql, (fun z => by obtain ⟨_, z⟩ := z; cases z), (fun z => by cases z), r⟩
  · rename_i o l'
    by_cases z : isFzA l' = true
    · rw [if_pos z] at e
      cases e
      cases o with
      | false =>
        obtain ⟨a, vs, e1, f, r, _⟩ := h
        exact ⟨a, vs, e1, .inl f.sql, fun _ => f.1, (fun z => by cases z), r⟩
      | true =>
        obtain ⟨a, vs, O', e1, f, r, _⟩ := h
        rw [isFzA_nil z r] at r
        exact ⟨a, vs, e1, .inl (SqL.of f), fun _ => f, (fun z => by cases z), r⟩
    · rw [if_neg z] at e
      cases e
  · cases e
theorem seq_of_list {d : D} {l : List D} (h : listD d = some l) : seqD d = some l := by
  obtain ⟨o, rfl, z⟩ := listD_some h
  show (if isFzA l then some l else none) = some l
  rw [if_pos z]
theorem seq_of_tup {d : D} {l : List D} (h : tupD d = some l) : seqD d = some l := by
  obtain rfl := tupD_some h
  rfl
/-- the top's items in its place -/
theorem SR.items {C : Cn} {ρ : Env} {σ : St} {H : Hp} {stk : List SI} {v : V} {it : It} {d : D} {l : List D} (h : SR C ρ σ H (.one v it :: stk)) (hb : BrwOk σ it v) (e : dref ρ it = some d) (el : seqD d = some l) :
    ∃ a vs, v = .ref a ∧ (SqL C.K H a vs ∨ SqT C.K H a vs) ∧ ((∃ o, d = .lst o l) → H a = some (.lst vs)) ∧ (d = .tup l → SqT C.K H a vs) ∧ vs.length = l.length ∧ SR C ρ σ H (.many vs l :: stk) := by
  obtain ⟨Oρ, Os, B, h1, h2, hB, nd, nz, ow⟩ := h.ex
  obtain ⟨O1, r⟩ := h.look hb e h1 h2
  obtain ⟨a, vs, rfl, q, ql, qt, ra⟩ := r.seq el
  obtain ⟨P1, P2, rfl, r2, _⟩ := RepK.one h2
  refine ⟨a, vs, rfl, q, ql, qt, ra.length, ?_⟩
  refine h.remk h1 ⟨[], P2, ra, r2, rfl⟩ hB nd nz ow (fun x z => ?_) ?_ h.pin
  · simp at z ⊢
    rcases z with z | z <;> simp [z]
  · refine nodup_sub ?_ nd
    exact List.Sublist.append_left (List.sublist_append_right _ _) _
/-- some of the items, one by one unowned -/
theorem SR.pick {C : Cn} {ρ : Env} {σ : St} {H : Hp} {stk : List SI} {vs us : List V} {l m : List D} (h : SR C ρ σ H (.many vs l :: stk)) (f : isFzA l = true) (hl : m.length = us.length) (g : Nat → Nat) (h1 : ∀ (i : Nat) d, m[i]? = some d → l[g i]? = some d) (h2 : ∀ (i : Nat) v, us[i]? = some v → vs[g i]? = some v) :
    SR C ρ σ H (.many us m :: stk) := by
  obtain ⟨Oρ, Os, B, g1, ⟨O1, O2, r1, r2, rfl⟩, hB, nd, nz, ow⟩ := h.ex
  obtain rfl := isFzA_nil f r1
  exact .again g1 ⟨[], O2, r1.part hl g h1 h2, r2, rfl⟩ hB nd nz ow h.kept h.z h.pin
theorem isFzA_of {l : List D} {d : D} : isFzA l = true → ∀ {i : Nat}, l[i]? = some d → isFz d = true := fun h {i} e => by
  induction l generalizing i with -- along the list
  | nil => simp at e
  | cons x l ih =>
    simp [isFzA] at h
    cases i with
    | zero => simp at e; subst e; exact h.1
    | succ i => exact ih h.2 (by simpa using e)
mutual
theorem Rep.fz : ∀ {K : PySem.W.Frag} {T : Nat → Option Addr} {H : Hp} {B : List Addr} {d : D} {v : V}, Rep K T H B d v [] → isFz d = true
  | _, _, _, _, .non, _, _ => rfl
  | _, _, _, _, .bl _, _, _ => rfl
  | _, _, _, _, .int _, _, _ => rfl
  | _, _, _, _, .str _, _, _ => rfl
  | _, _, _, _, .fn _, _, _ => rfl
  | _, _, _, _, .tup _, _, _ => rfl
  | _, _, _, _, .scr _, _, _ => rfl
  | _, _, _, _, .lst false l, _, h => by
    obtain ⟨a, vs, e, f, r, _⟩ := h
    simp [isFz, RepA.fz r]
  | _, _, _, _, .lst true l, _, h => by
    obtain ⟨a, vs, O', e, f, r, z⟩ := h
    cases z
  | _, _, _, _, .dct false t ks l, _, h => by
    obtain ⟨a, vs, e, f, ek, r, _⟩ := h
    simp [isFz, RepA.fz r]
  | _, _, _, _, .dct true t ks l, _, h => by
    obtain ⟨a, vs, O', e, f, ek, r, z⟩ := h
    cases z
theorem RepA.fz : ∀ {K : PySem.W.Frag} {T : Nat → Option Addr} {H : Hp} {B : List Addr} {ds : List D} {vs : List V}, RepA K T H B ds vs [] → isFzA ds = true
  | _, _, _, _, [], _, _ => rfl
  | _, _, _, _, d :: ds, _, h => by
    obtain ⟨v, vs', O1, O2, e, h1, h2, z⟩ := h
    obtain ⟨rfl, rfl⟩ := List.append_eq_nil_iff.mp z.symm
    simp [isFzA, h1.fz, h2.fz]
end
/-- the items of what is read are unowned -/
theorem SR.itemsFz {C : Cn} {ρ : Env} {σ : St} {H : Hp} {stk : List SI} {v : V} {it : It} {d : D} {l : List D} (h : SR C ρ σ H (.one v it :: stk)) (hb : BrwOk σ it v) (e : dref ρ it = some d) (el : seqD d = some l) : isFzA l = true := by
  obtain ⟨Oρ, Os, B, h1, h2, hB, nd, nz, ow⟩ := h.ex
  obtain ⟨O1, r⟩ := h.look hb e h1 h2
  obtain ⟨a, vs, rfl, q, ql, qt, ra⟩ := r.seq el
  exact ra.fz
theorem SR.atMany {C : Cn} {ρ : Env} {σ : St} {H : Hp} {stk : List SI} {vs : List V} {l : List D} {i : Nat} {d : D} {x : V} (h : SR C ρ σ H (.many vs l :: stk)) (f : isFzA l = true) (e : l[i]? = some d) (ev : vs[i]? = some x) : SR C ρ σ H (.one x (.val d) :: stk) :=
  (h.pick (us := [x]) (m := [d]) f rfl (fun _ => i) (fun j d' z => by
    cases j with
    | zero => simp at z; rw [← z]; exact e
    | succ j => simp at z) (fun j v z => by
    cases j with
    | zero => simp at z; rw [← z]; exact ev
    | succ j => simp at z)).unmany
end
end DV
namespace DV
open PySem L2

section
variable {S : Sg} {X : Cx}
theorem OpOk.or {f : Value → Value → Sem Value} {g1 g2 : D → D → Option D} (h1 : OpOk S X f g1) (h2 : OpOk S X f g2) : OpOk S X f (fun x y => (g1 x y).or (g2 x y)) := fun G ft ρ σ H stk x y ix iy dx dy d Q hs hbx hby ex ey ed k => by
  have ed : (g1 dx dy).or (g2 dx dy) = some d := ed
  cases e : g1 dx dy with
  | some d' =>
    rw [e] at ed
    cases ed
    exact h1 G ft ρ σ H stk x y ix iy dx dy _ Q hs hbx hby ex ey e k
  | none =>
    rw [e] at ed
    exact h2 G ft ρ σ H stk x y ix iy dx dy d Q hs hbx hby ex ey (by simpa using ed) k
/-- an operation of the hand layer, its answer anything -/
theorem OpOk.by {f : Value → Value → Sem Value} {g : D → D → Option D} {r : R2} (ho : OpR X f r)
    (h : ∀ (C : Cn), C.K = X.K → ∀ ρ σ H stk x y ix iy dx dy d Q, SR C ρ σ H (.one y iy :: .one x ix :: stk) → BrwOk σ ix x → BrwOk σ iy y → dref ρ ix = some dx → dref ρ iy = some dy → g dx dy = some d → (∀ v H', SR C ρ σ H' (.one v (.val d) :: stk) → Q v H') → r x y H Q) : OpOk S X f g :=
  fun G ft ρ σ H stk x y ix iy dx dy d Q hs hbx hby ex ey ed k pins s σ' v u I rx ry => ho pins s σ' H x y v u Q I rx ry (h G.C ft.k ρ σ H stk x y ix iy dx dy d Q hs hbx hby ex ey ed k)

/-! ### one operand -/
def ev1 (a : EF) (g : D → Option D) : EF := fun ρ => (a ρ).bind fun p => (oR (dref p.2 p.1)).bind fun x => (oR (g x)).bind fun d => .ok (.val d, p.2)
def cW (X : Cx) (f : Value) : List V → Hp → VK → Prop := fun xs H Q => ∀ pins s σ us, Inv X pins σ H s → Vals xs us → wpAny (model X.prog X.w) X.A (call f us) (EP X pins σ Q) X.xe s
theorem callR_W {f : Value} : CallR X f (cW X f) := fun pins s σ H xs us Q I r h => h pins s σ us I r
def C1Ok (S : Sg) (X : Cx) (f : Value) (g : D → Option D) : Prop := ∀ G, Fit S X G → ∀ ρ σ H stk x ix dx d Q, SR G.C ρ σ H (.one x ix :: stk) → BrwOk σ ix x → dref ρ ix = some dx → g dx = some d → (∀ v H', SR G.C ρ σ H' (.one v (.val d) :: stk) → Q v H') → cW X f [x] H Q
theorem C1Ok.or {f : Value} {g1 g2 : D → Option D} (h1 : C1Ok S X f g1) (h2 : C1Ok S X f g2) : C1Ok S X f (fun x => (g1 x).or (g2 x)) := fun G ft ρ σ H stk x ix dx d Q hs hbx ex ed k => by
  have ed : (g1 dx).or (g2 dx) = some d := ed
  cases e : g1 dx with
  | some d' =>
    rw [e] at ed
    cases ed
    exact h1 G ft ρ σ H stk x ix dx _ Q hs hbx ex e k
  | none =>
    rw [e] at ed
    exact h2 G ft ρ σ H stk x ix dx d Q hs hbx ex (by simpa using ed) k
theorem C1Ok.by {f : Value} {g : D → Option D} {r : List V → Hp → VK → Prop} (ho : CallR X f r)
    (h : ∀ (C : Cn), C.K = X.K → ∀ ρ σ H stk x ix dx d Q, SR C ρ σ H (.one x ix :: stk) → BrwOk σ ix x → dref ρ ix = some dx → g dx = some d → (∀ v H', SR C ρ σ H' (.one v (.val d) :: stk) → Q v H') → r [x] H Q) : C1Ok S X f g :=
  fun G ft ρ σ H stk x ix dx d Q hs hbx ex ed k pins s σ' us I r => ho pins s σ' H [x] us Q I r (h G.C ft.k ρ σ H stk x ix dx d Q hs hbx ex ed k)
/-- .. that leaves the heap as it is -/
theorem C1Ok.imm {f : Value} {g : D → Option D} {r : List V → Hp → VK → Prop} (ho : CallR X f r)
    (h : ∀ T H x dx d Q, Rep X.K T H [] (frz dx) x [] → g dx = some d → (∀ v, (∀ B, Rep X.K T H B d v []) → Q v H) → r [x] H Q) : C1Ok S X f g :=
  .by ho fun C hk ρ σ H stk x ix dx d Q hs hb e ed k => by
    have h1 := hs.see hb e
    rw [hk] at h1
    refine h C.T H x dx d Q h1 ed fun v hv => k v H (hs.drop.imm fun B => ?_)
    rw [hk]
    exact hv B
variable {a e : Expr} {fa : EF} {p pos : Pos} {x : Str}
theorem ev_callB1 {id : String} {g : D → Option D} (hc : C1Ok S X (.builtin id) g) (hg : Gl X x) (hm : X.mg x = none) (hv : bootBuiltins x = some (.builtin id)) (hn : x ≠ "__name__") (hdb : (x == ("__debug__" : Str)) = false) (ha : EvOk S X a fa) (hst : notStar a = true) : EvOk S X (.Call (.Name x p) [a] [] pos) (ev1 fa g) := fun G ft ρ σ H stk Q hs hp =>
  of_PE (pe_callB callR_W hg hm hv (pa_cons pe_W pa_nil (star_cons hst)) hn hdb (star_cons hst) rfl) (ha G ft ρ σ H stk _ hs (hp.bind.mono fun q hp v H' s hb => by
    obtain ⟨dx, e1, hp⟩ := hp.bind.oR
    obtain ⟨d, e2, hp⟩ := hp.bind.oR
    exact hc G ft q.2 σ H' stk v q.1 dx d Q s hb e1 e2 fun v H' h => hp v H' h trivial))
theorem ev_callT1 {id : String} {g : D → Option D} (hc : C1Ok S X (.type id) g) (hg : Gl X x) (hm : X.mg x = none) (hv : bootBuiltins x = some (.type id)) (hn : x ≠ "__name__") (hdb : (x == ("__debug__" : Str)) = false) (ha : EvOk S X a fa) (hst : notStar a = true) : EvOk S X (.Call (.Name x p) [a] [] pos) (ev1 fa g) := fun G ft ρ σ H stk Q hs hp =>
  of_PE (pe_callTy callR_W hg hm hv (pa_cons pe_W pa_nil (star_cons hst)) hn hdb (star_cons hst) rfl) (ha G ft ρ σ H stk _ hs (hp.bind.mono fun q hp v H' s hb => by
    obtain ⟨dx, e1, hp⟩ := hp.bind.oR
    obtain ⟨d, e2, hp⟩ := hp.bind.oR
    exact hc G ft q.2 σ H' stk v q.1 dx d Q s hb e1 e2 fun v H' h => hp v H' h trivial))
theorem ev_neg (ha : EvOk S X a fa) : EvOk S X (.UnaryOp .USub a pos) (ev1 fa fun d => (intD d).map fun i => .int (-i)) := fun G ft ρ σ H stk Q hs hp =>
  of_PE (pe_un un_neg pe_W) (ha G ft ρ σ H stk _ hs (hp.bind.mono fun q hp v H' s hb => by
    obtain ⟨dx, e1, hp⟩ := hp.bind.oR
    obtain ⟨d, e2, hp⟩ := hp.bind.oR
    obtain ⟨i, ei, rfl⟩ := Option.map_eq_some_iff.mp e2
    cases s.isInt (i := i) hb (by rw [e1, intD_some ei])
    exact ⟨i, rfl, hp _ H' (s.drop.imm fun B => ⟨rfl, rfl⟩) trivial⟩))

/-! ### the built-ins -/
def gLen : D → Option D
  | .str x => some (.int x.length)
  | .tup l => some (.int l.length)
  | .scr l => some (.int l.length)
  | .lst _ l => some (.int l.length)
  | _ => none
theorem ok_len : C1Ok S X (.builtin "len") gLen := .imm call_len fun T H x dx d Q hx e k => by
  cases dx with
  | str y =>
    cases e
    obtain ⟨rfl, _, hl, _⟩ := hx
    refine ⟨_, y.length, rfl, ?_, k _ fun B => ⟨rfl, rfl⟩⟩
    have : Str.length ⟨y.toArray⟩ = y.length := by simp [Str.length]
    exact ⟨by rw [this]; exact hl, by rw [this]⟩
  | tup l =>
    cases e
    obtain ⟨a, vs, rfl, f, r, _⟩ := hx
    exact ⟨_, _, rfl, .inr ⟨vs, f.sqt, by rw [r.length]⟩, k _ fun B => ⟨rfl, rfl⟩⟩
  | scr l =>
    cases e
    obtain ⟨a, vs, rfl, f, r, _⟩ := hx
    exact ⟨_, _, rfl, .inl ⟨vs, f.sql, by rw [r.length]⟩, k _ fun B => ⟨rfl, rfl⟩⟩
  | lst o l =>
    cases e
    obtain ⟨a, vs, rfl, f, r, _⟩ := hx
    exact ⟨_, _, rfl, .inl ⟨vs, f.sql, by rw [r.length, frzA_length]⟩, k _ fun B => ⟨rfl, rfl⟩⟩
  | non => cases e
  | bl _ => cases e
  | int _ => cases e
  | dct _ _ _ _ => cases e
  | fn _ => cases e
def gAbs : D → Option D
  | .int k => some (.int (if k < 0 then -k else k))
  | _ => none
theorem ok_abs : C1Ok S X (.builtin "abs") gAbs := .imm call_abs fun T H x dx d Q hx e k => by
  cases dx <;> cases e
  obtain ⟨rfl, _⟩ := hx
  exact ⟨_, rfl, k _ fun B => ⟨rfl, rfl⟩⟩
def gInt : D → Option D
  | .int i => some (.int i)
  | .bl b => some (.int (if b then 1 else 0))
  | _ => none
theorem ok_int : C1Ok S X (.type "int") gInt := .imm call_int1 fun T H x dx d Q hx e k => by
  cases dx <;> cases e
  · obtain ⟨rfl, _⟩ := hx
    exact .inr ⟨_, rfl, k _ fun B => ⟨rfl, rfl⟩⟩
  · obtain ⟨rfl, _⟩ := hx
    exact .inl ⟨_, rfl, k _ fun B => ⟨rfl, rfl⟩⟩
theorem ok_list : C1Ok S X (.type "list") (fun d => (seqD d).map (.lst true)) := .by call_list_of fun C hk ρ σ H stk x ix dx d Q hs hb e ed k => by
  obtain ⟨l, el, rfl⟩ := Option.map_eq_some_iff.mp ed
  obtain ⟨a, vs, rfl, q, _, _, hl, s⟩ := hs.items hb e el
  rw [hk] at q
  exact ⟨a, vs, rfl, q, fun p hp => k _ _ (s.list hp)⟩
theorem SR.tupItself {C : Cn} {ρ : Env} {σ : St} {H : Hp} {stk : List SI} {v : V} {it : It} {l : List D} (hs : SR C ρ σ H (.one v it :: stk)) (hb : BrwOk σ it v) (e : dref ρ it = some (.tup l)) : SR C ρ σ H (.one v (.val (.tup l)) :: stk) := by
  refine hs.part fun B Oρ Os h1 h2 => ?_
  obtain ⟨O1, r⟩ := hs.look hb e h1 h2
  have := isFz_nil (d := .tup l) rfl r
  rw [this] at r
  exact r
def gTuple : D → Option D
  | .tup l => some (.tup l)
  | .lst _ l => if isFzA l then some (.tup l) else none
  | _ => none
theorem ok_tuple : C1Ok S X (.type "tuple") gTuple := .by call_tuple_of fun C hk ρ σ H stk x ix dx d Q hs hb e ed k => by
  cases dx with
  | tup l =>
    cases ed
    obtain ⟨a, vs, rfl, _, _, qt, _, s⟩ := hs.items (l := l) hb e rfl
    have qt := qt rfl
    rw [hk] at qt
    exact ⟨a, vs, rfl, .inr ⟨qt, k _ _ (hs.tupItself hb e)⟩⟩
  | lst o l =>
    have ed : (if isFzA l then some (D.tup l) else none) = some d := ed
    by_cases z : isFzA l = true
    · rw [if_pos z] at ed
      cases ed
      obtain ⟨a, vs, rfl, _, ql, _, _, s⟩ := hs.items (l := l) hb e (by show (if isFzA l then some l else none) = some l; rw [if_pos z])
      exact ⟨a, vs, rfl, .inl ⟨SqL.of (ql ⟨o, rfl⟩), fun p hp => k _ _ (s.tuple hp z)⟩⟩
    · rw [if_neg z] at ed
      cases ed
  | scr l => cases ed
  | non => cases ed
  | bl _ => cases ed
  | int _ => cases ed
  | str _ => cases ed
  | dct _ _ _ _ => cases ed
  | fn _ => cases ed
/-! sums and the like over lists and tuples -/
def intsD : List D → Option (List Int)
  | [] => some []
  | .int i :: l => (intsD l).map (i :: ·)
  | _ => none
def blsD : List D → Option (List Bool)
  | [] => some []
  | .bl i :: l => (blsD l).map (i :: ·)
  | _ => none
theorem RepA.ints {K : PySem.W.Frag} {T : Nat → Option Addr} {H : Hp} {B : List Addr} : ∀ {l : List D} {vs : List V} {O : List Addr} {ns : List Int}, RepA K T H B l vs O → intsD l = some ns → vs = ns.map V.int
  | [], _, _, _, h, e => by cases e; exact h.1
  | d :: l, _, _, _, h, e => by
    cases d <;> try cases e
    rename_i i
    obtain ⟨ns, e1, rfl⟩ := Option.map_eq_some_iff.mp (show (intsD l).map (i :: ·) = some _ from e)
    obtain ⟨v, vs', O1, O2, rfl, h1, h2, _⟩ := h
    rw [h2.ints e1, h1.1]
    rfl
theorem RepA.bls {K : PySem.W.Frag} {T : Nat → Option Addr} {H : Hp} {B : List Addr} : ∀ {l : List D} {vs : List V} {O : List Addr} {ns : List Bool}, RepA K T H B l vs O → blsD l = some ns → vs = ns.map V.bl
  | [], _, _, _, h, e => by cases e; exact h.1
  | d :: l, _, _, _, h, e => by
    cases d <;> try cases e
    rename_i i
    obtain ⟨ns, e1, rfl⟩ := Option.map_eq_some_iff.mp (show (blsD l).map (i :: ·) = some _ from e)
    obtain ⟨v, vs', O1, O2, rfl, h1, h2, _⟩ := h
    rw [h2.bls e1, h1.1]
    rfl
theorem SR.ints {C : Cn} {ρ : Env} {σ : St} {H : Hp} {stk : List SI} {vs : List V} {l : List D} {ns : List Int} (h : SR C ρ σ H (.many vs l :: stk)) (e : intsD l = some ns) : vs = ns.map V.int := by
  obtain ⟨Oρ, Os, B, g1, ⟨O1, O2, r1, r2, rfl⟩, _⟩ := h.ex
  exact r1.ints e
theorem SR.bls {C : Cn} {ρ : Env} {σ : St} {H : Hp} {stk : List SI} {vs : List V} {l : List D} {ns : List Bool} (h : SR C ρ σ H (.many vs l :: stk)) (e : blsD l = some ns) : vs = ns.map V.bl := by
  obtain ⟨Oρ, Os, B, g1, ⟨O1, O2, r1, r2, rfl⟩, _⟩ := h.ex
  exact r1.bls e
end

/-! tuples walked by built-ins -/
section
variable {prog : Program} {w : World} {A : Around} {E : Value → Shared → Prop} {s : Shared} {l : Addr}
theorem old_keptT {h' : Heap} {n : String} (hk : ∀ bq oq, bq ∉ [s.heap.objs.size] → (s.heap.push { cls := .type n, data := .fields #[.ref l, .int 0 0] }).get? bq = some oq → h'.get? bq = some oq) : ∀ bq oq, s.heap.get? bq = some oq → h'.get? bq = some oq := fun bq oq eq => by
  refine hk bq oq (fun hmq => ?_) (Heap.get?_push_of_some _ eq)
  rcases List.mem_cons.mp hmq with e1q | hmq
  · exact absurd (e1q ▸ Heap.lt_size eq) (Nat.lt_irrefl _)
  · cases hmq
theorem iter_tup {items : Array Value} {Q : Value → Shared → Prop} (hl : s.heap.IsTuple l items)
    (h : ∀ s₂ : Shared, s₂ = { s with heap := s.heap.push { cls := .type "tuple_iterator", data := .fields #[.ref l, .int 0 0] } } → (s₂.heap.IsTupleIter s.heap.objs.size l 0 ∧ s₂.heap.IsTuple l items) → (∀ bq ∈ [s.heap.objs.size, l], bq < s₂.heap.objs.size) → l ≠ s.heap.objs.size → Q (.ref s.heap.objs.size) s₂) : wpAny (model prog w) A (pyIter (.ref l)) Q E s := by
  have hltq : l < s.heap.objs.size := by obtain ⟨_, eq, _⟩ := hl; exact Heap.lt_size eq
  refine wpAny_pyIter_tuple hl (h _ rfl ⟨⟨_, Heap.get?_push_size _ rfl, rfl, rfl⟩, hl.push _⟩ (fun bq hbq => ?_) (Nat.ne_of_lt hltq))
  show bq < (s.heap.push _).objs.size
  rw [Heap.size_push]
  simp at hbq
  rcases hbq with hbq | hbq
  · rw [hbq]; exact Nat.lt_succ_self _
  · rw [hbq]; exact Nat.lt_succ_of_lt hltq
theorem sum_tup {xs : Array (Int × Tok)} {Q : Value → Shared → Prop} (hh : A.handled = none) (hl : s.heap.IsTuple l (intItems xs))
    (h : ∀ h' tk t', (∀ b o, s.heap.get? b = some o → h'.get? b = some o) → Q (.int (preSum (numAt xs) xs.size) t') { s with heap := h', toks := tk }) : wpAny (model prog w) A (call (.builtin "sum") [.ref l]) Q E s := by
  refine call_sum_walkG (iter_tup hl fun s₂ e st hfp hlI => ?_)
  subst e
  refine ⟨_, _, _, _, _, _, numAt xs, rfl, Walks.tuple (A := A.in1) hh _ l hlI (intItems xs), st, hfp, (fun _ _ => intItems_at), fun h' tk t' hk => ?_⟩
  have := h h' tk t' (old_keptT hk)
  simpa [intItems] using this
theorem max_tup {xs : Array (Int × Tok)} {Q : Value → Shared → Prop} (hh : A.handled = none) (hl : s.heap.IsTuple l (intItems xs)) (hne : 0 < xs.size)
    (h : ∀ vq hq' tkq, (intItems xs)[argBest (fun iq jq => decide (numAt xs iq > numAt xs jq)) (xs.size - 1)]? = some vq → (∀ b o, s.heap.get? b = some o → hq'.get? b = some o) → Q vq { s with heap := hq', toks := tkq }) : wpAny (model prog w) A (call (.builtin "max") [.ref l]) Q E s := by
  refine call_max_walk (iter_tup hl fun s₂q eq stq hfpq hlIq => ?_)
  subst eq
  refine ⟨_, _, _, _, _, _, _, rfl, Walks.tuple (A := A.in1) hh _ l hlIq (intItems xs), stq, hfpq, by simpa [intItems] using hne, CmpOf.ints_gt (numAt xs) (fun _ _ => intItems_at), fun vq hq' tkq hPq hkq => ?_⟩
  exact h vq hq' tkq (by simpa [intItems] using hPq) (old_keptT hkq)
theorem min_tup {xs : Array (Int × Tok)} {Q : Value → Shared → Prop} (hh : A.handled = none) (hl : s.heap.IsTuple l (intItems xs)) (hne : 0 < xs.size)
    (h : ∀ vq hq' tkq, (intItems xs)[argBest (fun iq jq => decide (numAt xs iq < numAt xs jq)) (xs.size - 1)]? = some vq → (∀ b o, s.heap.get? b = some o → hq'.get? b = some o) → Q vq { s with heap := hq', toks := tkq }) : wpAny (model prog w) A (call (.builtin "min") [.ref l]) Q E s := by
  refine call_min_walk (iter_tup hl fun s₂q eq stq hfpq hlIq => ?_)
  subst eq
  refine ⟨_, _, _, _, _, _, _, rfl, Walks.tuple (A := A.in1) hh _ l hlIq (intItems xs), stq, hfpq, by simpa [intItems] using hne, CmpOf.ints_lt (numAt xs) (fun _ _ => intItems_at), fun vq hq' tkq hPq hkq => ?_⟩
  exact h vq hq' tkq (by simpa [intItems] using hPq) (old_keptT hkq)
variable {its : List Value} {ns : List Int}
theorem sumT_raw (hh : A.handled = none) (hl : s.heap.IsTuple l its.toArray) (hi : PyProof.Rows.IntsAre its ns)
    (h : ∀ hq' tkq tq', (∀ b o, s.heap.get? b = some o → hq'.get? b = some o) → Q (.int ns.sum tq') { s with heap := hq', toks := tkq }) : wpAny (model prog w) A (call (.builtin "sum") [.ref l]) Q E s := by
  obtain ⟨xsq, eq⟩ := hi.allInts.items
  have hnq : numsOf (intItems xsq).toList = ns := by rw [← eq]; exact hi.numsOf
  rw [nums_intItems] at hnq
  rw [eq] at hl
  refine sum_tup hh hl fun hq' tkq tq' hkq => ?_
  have := h hq' tkq tq' hkq
  rw [preSum_eq, List.take_of_length_le (by simp), hnq]; exact this
theorem maxT_raw (hh : A.handled = none) (hl : s.heap.IsTuple l its.toArray) (hi : PyProof.Rows.IntsAre its ns) (hne : 0 < ns.length)
    (h : ∀ hq' tkq M t', (∀ b o, s.heap.get? b = some o → hq'.get? b = some o) → M ∈ ns → (∀ aq, aq ∈ ns → aq ≤ M) → Q (.int M t') { s with heap := hq', toks := tkq }) : wpAny (model prog w) A (call (.builtin "max") [.ref l]) Q E s := by
  obtain ⟨xsq, eq⟩ := hi.allInts.items
  have hnq : numsOf (intItems xsq).toList = ns := by rw [← eq]; exact hi.numsOf
  rw [nums_intItems] at hnq
  subst hnq
  rw [eq] at hl
  have hszq : 0 < xsq.size := by simpa using hne
  refine max_tup hh hl hszq fun vq hq' tkq hvq hkq => ?_
  obtain ⟨tq, rfl⟩ := intItems_at hvq
  obtain ⟨h1q, h2q⟩ := argBest_gt (numAt xsq) (xsq.size - 1)
  refine h hq' tkq _ tq hkq ?_ fun aq haq => ?_
  · (rw [numAt_eq]; exact PySem.getD_mem (by rw [List.length_map, Array.length_toList]; omega))
  · obtain ⟨jq, hjq, rfl⟩ := mem_getD haq
    rw [List.length_map, Array.length_toList] at hjq
    rw [← numAt_eq]; exact h2q jq (by omega)
theorem minT_raw (hh : A.handled = none) (hl : s.heap.IsTuple l its.toArray) (hi : PyProof.Rows.IntsAre its ns) (hne : 0 < ns.length)
    (h : ∀ hq' tkq M t', (∀ b o, s.heap.get? b = some o → hq'.get? b = some o) → M ∈ ns → (∀ aq, aq ∈ ns → M ≤ aq) → Q (.int M t') { s with heap := hq', toks := tkq }) : wpAny (model prog w) A (call (.builtin "min") [.ref l]) Q E s := by
  obtain ⟨xsq, eq⟩ := hi.allInts.items
  have hnq : numsOf (intItems xsq).toList = ns := by rw [← eq]; exact hi.numsOf
  rw [nums_intItems] at hnq
  subst hnq
  rw [eq] at hl
  have hszq : 0 < xsq.size := by simpa using hne
  refine min_tup hh hl hszq fun vq hq' tkq hvq hkq => ?_
  obtain ⟨tq, rfl⟩ := intItems_at hvq
  obtain ⟨h1q, h2q⟩ := argBest_lt (numAt xsq) (xsq.size - 1)
  refine h hq' tkq _ tq hkq ?_ fun aq haq => ?_
  · (rw [numAt_eq]; exact PySem.getD_mem (by rw [List.length_map, Array.length_toList]; omega))
  · obtain ⟨jq, hjq, rfl⟩ := mem_getD haq
    rw [List.length_map, Array.length_toList] at hjq
    rw [← numAt_eq]; exact h2q jq (by omega)
end
section
variable {S : Sg} {X : Cx}
theorem cr_sumA (hc : X.calm = true) : CallR X (.builtin "sum") (fun vsq Hq Qq => ∃ (aq : Addr) (nsq : List Int), vsq = [V.ref aq] ∧ (SqL X.K Hq aq (nsq.map V.int) ∨ SqT X.K Hq aq (nsq.map V.int)) ∧ Qq (.int nsq.sum) Hq) := by
  intro pinsq sq σq Hq vsq usq Qq Iq rq hq
  obtain ⟨aq, nsq, rfl, hsq, qq⟩ := hq
  rcases hsq with hsq | hsq
  · exact cr_sum hc pinsq sq σq Hq _ usq Qq Iq rq ⟨aq, nsq, rfl, hsq, qq⟩
  · obtain ⟨itsq, rvq, hlq, _⟩ := Iq.tuple hsq
    rw [Vals.ref1 rq]
    exact sumT_raw (Iq.ok.hd hc) hlq rvq.ints fun hq' tkq tq' hkq => ⟨.int _, Hq, Iq.kept hkq, ⟨_, rfl⟩, qq⟩
theorem cr_maxA (hc : X.calm = true) : CallR X (.builtin "max") (fun vsq Hq Qq => ∃ (aq : Addr) (nsq : List Int), vsq = [V.ref aq] ∧ (SqL X.K Hq aq (nsq.map V.int) ∨ SqT X.K Hq aq (nsq.map V.int)) ∧ 0 < nsq.length ∧ ∀ mq, mq ∈ nsq → (∀ y, y ∈ nsq → y ≤ mq) → Qq (.int mq) Hq) := by
  intro pinsq sq σq Hq vsq usq Qq Iq rq hq
  obtain ⟨aq, nsq, rfl, hsq, hnq, qq⟩ := hq
  rcases hsq with hsq | hsq
  · exact cr_max hc pinsq sq σq Hq _ usq Qq Iq rq ⟨aq, nsq, rfl, hsq, hnq, qq⟩
  · obtain ⟨itsq, rvq, hlq, _⟩ := Iq.tuple hsq
    rw [Vals.ref1 rq]
    exact maxT_raw (Iq.ok.hd hc) hlq rvq.ints hnq fun hq' tkq mq tq' hkq h1q h2q => ⟨.int _, Hq, Iq.kept hkq, ⟨_, rfl⟩, qq mq h1q h2q⟩
theorem cr_minA (hc : X.calm = true) : CallR X (.builtin "min") (fun vsq Hq Qq => ∃ (aq : Addr) (nsq : List Int), vsq = [V.ref aq] ∧ (SqL X.K Hq aq (nsq.map V.int) ∨ SqT X.K Hq aq (nsq.map V.int)) ∧ 0 < nsq.length ∧ ∀ mq, mq ∈ nsq → (∀ y, y ∈ nsq → mq ≤ y) → Qq (.int mq) Hq) := by
  intro pinsq sq σq Hq vsq usq Qq Iq rq hq
  obtain ⟨aq, nsq, rfl, hsq, hnq, qq⟩ := hq
  rcases hsq with hsq | hsq
  · exact cr_min hc pinsq sq σq Hq _ usq Qq Iq rq ⟨aq, nsq, rfl, hsq, hnq, qq⟩
  · obtain ⟨itsq, rvq, hlq, _⟩ := Iq.tuple hsq
    rw [Vals.ref1 rq]
    exact minT_raw (Iq.ok.hd hc) hlq rvq.ints hnq fun hq' tkq mq tq' hkq h1q h2q => ⟨.int _, Hq, Iq.kept hkq, ⟨_, rfl⟩, qq mq h1q h2q⟩
def gSum (d : D) : Option D := (seqD d).bind fun l => (intsD l).map fun ns => .int ns.sum
def maxI : List Int → Int
  | [] => 0
  | a :: l => l.foldl max a
def minI : List Int → Int
  | [] => 0
  | a :: l => l.foldl min a
theorem foldl_max {l : List Int} : ∀ {a : Int}, (l.foldl max a ∈ a :: l) ∧ ∀ y ∈ a :: l, y ≤ l.foldl max a := by
  induction l with
  | nil => intro a; simp
  | cons b l ih =>
    intro a
    obtain ⟨h1, h2⟩ := ih (a := max a b)
    refine ⟨?_, fun y hy => ?_⟩
    · rcases List.mem_cons.mp h1 with h | h
      · show l.foldl max (max a b) ∈ a :: b :: l
        rw [h]
        rcases Int.le_total a b with q | q
        · rw [Int.max_eq_right q]; simp
        · rw [Int.max_eq_left q]; simp
      · show l.foldl max (max a b) ∈ a :: b :: l
        simp [h]
    · have hm := h2 (max a b) (by simp)
      show y ≤ l.foldl max (max a b)
      simp at hy
      rcases hy with rfl | rfl | hy
      · omega
      · omega
      · exact h2 y (by simp [hy])
theorem foldl_min {l : List Int} : ∀ {a : Int}, (l.foldl min a ∈ a :: l) ∧ ∀ y ∈ a :: l, l.foldl min a ≤ y := by
  induction l with
  | nil => intro a; simp
  | cons b l ih =>
    intro a
    obtain ⟨h1, h2⟩ := ih (a := min a b)
    refine ⟨?_, fun y hy => ?_⟩
    · rcases List.mem_cons.mp h1 with h | h
      · show l.foldl min (min a b) ∈ a :: b :: l
        rw [h]
        rcases Int.le_total a b with q | q
        · rw [Int.min_eq_left q]; simp
        · rw [Int.min_eq_right q]; simp
      · show l.foldl min (min a b) ∈ a :: b :: l
        simp [h]
    · have hm := h2 (min a b) (by simp)
      show l.foldl min (min a b) ≤ y
      simp at hy
      rcases hy with rfl | rfl | hy
      · omega
      · omega
      · exact h2 y (by simp [hy])
theorem max_is {ns : List Int} {m : Int} (hn : 0 < ns.length) (h1 : m ∈ ns) (h2 : ∀ y, y ∈ ns → y ≤ m) : m = maxI ns := by
  cases ns with
  | nil => simp at hn
  | cons a l =>
    obtain ⟨g1, g2⟩ := foldl_max (l := l) (a := a)
    exact Int.le_antisymm (g2 m h1) (h2 _ g1)
theorem min_is {ns : List Int} {m : Int} (hn : 0 < ns.length) (h1 : m ∈ ns) (h2 : ∀ y, y ∈ ns → m ≤ y) : m = minI ns := by
  cases ns with
  | nil => simp at hn
  | cons a l =>
    obtain ⟨g1, g2⟩ := foldl_min (l := l) (a := a)
    exact Int.le_antisymm (h2 _ g1) (g2 m h1)
def gMax (d : D) : Option D := (seqD d).bind fun l => (intsD l).bind fun ns => if ns.isEmpty then none else some (.int (maxI ns))
def gMin (d : D) : Option D := (seqD d).bind fun l => (intsD l).bind fun ns => if ns.isEmpty then none else some (.int (minI ns))
theorem ok_sum (hc : X.calm = true) : C1Ok S X (.builtin "sum") gSum := .by (cr_sumA hc) fun C hk ρ σ H stk x ix dx d Q hs hb e ed k => by
  obtain ⟨l, el, e1⟩ := Option.bind_eq_some_iff.mp ed
  obtain ⟨ns, en, rfl⟩ := Option.map_eq_some_iff.mp e1
  obtain ⟨a, vs, rfl, q, _, _, hl, s⟩ := hs.items hb e el
  have ev := s.ints en
  subst ev
  rw [hk] at q
  exact ⟨a, ns, rfl, q, k _ _ (s.drop.imm fun B => ⟨rfl, rfl⟩)⟩
theorem ok_max (hc : X.calm = true) : C1Ok S X (.builtin "max") gMax := .by (cr_maxA hc) fun C hk ρ σ H stk x ix dx d Q hs hb e ed k => by
  obtain ⟨l, el, e1⟩ := Option.bind_eq_some_iff.mp ed
  obtain ⟨ns, en, e2⟩ := Option.bind_eq_some_iff.mp e1
  obtain ⟨a, vs, rfl, q, _, _, hl, s⟩ := hs.items hb e el
  have ev := s.ints en
  subst ev
  rw [hk] at q
  cases ns with
  | nil => simp at e2
  | cons n ns =>
    cases e2
    refine ⟨a, _, rfl, q, by simp, fun m h1 h2 => ?_⟩
    rw [max_is (by simp) h1 h2]
    exact k _ _ (s.drop.imm fun B => ⟨rfl, rfl⟩)
theorem ok_min (hc : X.calm = true) : C1Ok S X (.builtin "min") gMin := .by (cr_minA hc) fun C hk ρ σ H stk x ix dx d Q hs hb e ed k => by
  obtain ⟨l, el, e1⟩ := Option.bind_eq_some_iff.mp ed
  obtain ⟨ns, en, e2⟩ := Option.bind_eq_some_iff.mp e1
  obtain ⟨a, vs, rfl, q, _, _, hl, s⟩ := hs.items hb e el
  have ev := s.ints en
  subst ev
  rw [hk] at q
  cases ns with
  | nil => simp at e2
  | cons n ns =>
    cases e2
    refine ⟨a, _, rfl, q, by simp, fun m h1 h2 => ?_⟩
    rw [min_is (by simp) h1 h2]
    exact k _ _ (s.drop.imm fun B => ⟨rfl, rfl⟩)
def gAll (d : D) : Option D := (listD d).bind fun l => (blsD l).map fun ns => .bl (ns.all id)
def gAny (d : D) : Option D := (listD d).bind fun l => (blsD l).map fun ns => .bl (ns.any id)
theorem ok_all (hc : X.calm = true) : C1Ok S X (.builtin "all") gAll := .by (cr_all hc) fun C hk ρ σ H stk x ix dx d Q hs hb e ed k => by
  obtain ⟨l, el, e1⟩ := Option.bind_eq_some_iff.mp ed
  obtain ⟨ns, en, rfl⟩ := Option.map_eq_some_iff.mp e1
  obtain ⟨o, rfl, z⟩ := listD_some el
  obtain ⟨a, vs, rfl, _, ql, _, hl, s⟩ := hs.items hb e (seq_of_list el)
  have ev := s.bls en
  subst ev
  have q := SqL.of (K := X.K) (ql ⟨o, rfl⟩)
  exact ⟨a, ns, rfl, q, k _ _ (s.drop.imm fun B => ⟨rfl, rfl⟩)⟩
theorem ok_any (hc : X.calm = true) : C1Ok S X (.builtin "any") gAny := .by (cr_any hc) fun C hk ρ σ H stk x ix dx d Q hs hb e ed k => by
  obtain ⟨l, el, e1⟩ := Option.bind_eq_some_iff.mp ed
  obtain ⟨ns, en, rfl⟩ := Option.map_eq_some_iff.mp e1
  obtain ⟨o, rfl, z⟩ := listD_some el
  obtain ⟨a, vs, rfl, _, ql, _, hl, s⟩ := hs.items hb e (seq_of_list el)
  have ev := s.bls en
  subst ev
  have q := SqL.of (K := X.K) (ql ⟨o, rfl⟩)
  exact ⟨a, ns, rfl, q, k _ _ (s.drop.imm fun B => ⟨rfl, rfl⟩)⟩
end
end DV
namespace DV
open PySem L2

section
variable {S : Sg} {X : Cx}
/-! ### subscripts -/
def gIx : D → D → Option D
  | .tup l, .int i => atI l i
  | .scr l, .int i => atI l i
  | .lst _ l, .int i => (atI l i).bind fun d => if isFz d then some d else none
  | .str x, .int i => (atI x i).map fun c => .str [c]
  | _, _ => none
theorem atI_rep {K : PySem.W.Frag} {T : Nat → Option Addr} {H : Hp} {B : List Addr} {l : List D} {vs : List V} {O : List Addr} {i : Int} {d : D} (h : RepA K T H B l vs O) (e : atI l i = some d) : ∃ v O1, atI vs i = some v ∧ Rep K T H B d v O1 ∧ ∀ a ∈ O1, a ∈ O := by
  unfold atI at e ⊢
  obtain ⟨j, e1, e2⟩ := Option.bind_eq_some_iff.mp e
  obtain ⟨v, O1, e3, r, s⟩ := h.getD e2
  rw [h.length, e1]
  exact ⟨v, O1, e3, r, s⟩
/-- an unowned part of the top in its place, by the parts of one reading -/
theorem SR.repl {C : Cn} {ρ : Env} {σ : St} {H : Hp} {stk : List SI} {x : SI} {d : D} {v : V} {B Oρ Os : List Addr} (h : SR C ρ σ H (x :: stk)) (h1 : RepS C.K C.T H B ρ σ Oρ) (h2 : RepK C.K C.T H B (x :: stk) Os) (hB : ∀ a, a ∈ B ↔ a ∈ C.Z ∨ a ∈ Oρ ∨ a ∈ Os) (nd : (Oρ ++ Os).Nodup) (nz : ∀ a ∈ C.Z, a ∉ Oρ ++ Os) (ow : ∀ a ∈ Oρ ++ Os, Nw C.H0 a ∨ a ∈ C.I)
    (r : Rep C.K C.T H B d v []) : SR C ρ σ H (.one v (.val d) :: stk) := by
  obtain ⟨P1, P2, rfl, r2, _⟩ := RepK.one h2
  refine h.remk h1 ⟨[], P2, r, r2, rfl⟩ hB nd nz ow (fun x z => ?_) ?_ h.pin
  · simp at z ⊢
    rcases z with z | z <;> simp [z]
  · refine nodup_sub ?_ nd
    exact List.Sublist.append_left (List.sublist_append_right _ _) _
theorem nil_of_sub {O : List Addr} (h : ∀ a ∈ O, a ∈ ([] : List Addr)) : O = [] := List.eq_nil_iff_forall_not_mem.mpr fun b hb => absurd (h b hb) (by simp)
theorem ok_ix {C : Cn} (hk : C.K = X.K) {ρ : Env} {σ : St} {H : Hp} {stk : List SI} {x y : V} {ix iy : It} {dx dy d : D} {Q : VK} (hs : SR C ρ σ H (.one y iy :: .one x ix :: stk)) (hbx : BrwOk σ ix x) (hby : BrwOk σ iy y) (ex : dref ρ ix = some dx) (ey : dref ρ iy = some dy) (ed : gIx dx dy = some d)
    (k : ∀ v H', SR C ρ σ H' (.one v (.val d) :: stk) → Q v H') : rIx X.K x y H Q := by
  have sx := hs.drop
  obtain ⟨Oρ, Os, B, h1, h2, hB, nd, nz, ow⟩ := sx.ex
  obtain ⟨O1, r⟩ := sx.look hbx ex h1 h2
  have iy' : ∀ i, dy = .int i → y = .int i := fun i e => hs.isInt hby (by rw [ey, e])
  unfold gIx at ed
  split at ed
  · rename_i l i
    obtain ⟨a, vs, rfl, f, ra, _⟩ := r
    obtain ⟨v, O2, e1, rv, s⟩ := atI_rep ra ed
    obtain rfl := nil_of_sub s
    rw [hk] at f
    exact .inr (.inl ⟨a, vs, i, v, rfl, iy' i rfl, f.sqt, e1, k v H (sx.repl h1 h2 hB nd nz ow rv)⟩)
  · rename_i l i
    obtain ⟨a, vs, rfl, f, ra, _⟩ := r
    obtain ⟨v, O2, e1, rv, s⟩ := atI_rep ra ed
    obtain rfl := nil_of_sub s
    rw [hk] at f
    exact .inl ⟨a, vs, i, v, rfl, iy' i rfl, f.sql, e1, k v H (sx.repl h1 h2 hB nd nz ow rv)⟩
  · rename_i o l i
    obtain ⟨d', e0, ed⟩ := Option.bind_eq_some_iff.mp ed
    by_cases z : isFz d' = true
    · rw [if_pos z] at ed
      cases ed
      cases o with
      | false =>
        obtain ⟨a, vs, rfl, f, ra, _⟩ := r
        obtain ⟨v, O2, e1, rv, s⟩ := atI_rep ra e0
        obtain rfl := nil_of_sub s
        exact .inl ⟨a, vs, i, v, rfl, iy' i rfl, f.sql, e1, k v H (sx.repl h1 h2 hB nd nz ow rv)⟩
      | true =>
        obtain ⟨a, vs, O', rfl, f, ra, _⟩ := r
        obtain ⟨v, O2, e1, rv, s⟩ := atI_rep ra e0
        obtain rfl := isFz_nil z rv
        exact .inl ⟨a, vs, i, v, rfl, iy' i rfl, SqL.of f, e1, k v H (sx.repl h1 h2 hB nd nz ow rv)⟩
    · rw [if_neg z] at ed
      cases ed
  · rename_i l i
    obtain ⟨c, ec, rfl⟩ := Option.map_eq_some_iff.mp ed
    obtain ⟨rfl, ha, hl, _⟩ := r
    have hlen : Str.length ⟨l.toArray⟩ = l.length := by simp [Str.length]
    refine .inr (.inr ⟨⟨l.toArray⟩, i, c, rfl, iy' i rfl, by rw [hlen]; exact hl, by simpa using ec, k _ H (sx.drop.imm fun B => ⟨rfl, fun k' hk' => ?_, by rw [sizeLine_eq]; simp, rfl⟩)⟩)
    have : k' = c := by simpa using hk'
    rw [this]
    obtain ⟨j, _, e2, _⟩ := atI_get ec
    exact ha c (List.mem_of_getElem? e2)
  · cases ed
def iW (X : Cx) : R2 := fun x y H Q => ∀ (value slice : Expr) pins s σ v u, Inv X pins σ H s → RelV x v → RelV y u → subscripted slice false v u = operate [v, u] (getItem v u) → wpAny (model X.prog X.w) X.A (PyProof.Rows.subscriptTail value slice v u) (EP X pins σ Q) X.xe s
theorem ixr_W : IxR X (iW X) := fun value slice pins s σ H x y v u Q I rx ry h hs => h value slice pins s σ v u I rx ry hs
theorem iW_of {r : R2} (h : IxR X r) {x y : V} {H : Hp} {Q : VK} (q : r x y H Q) : iW X x y H Q := fun value slice pins s σ v u I rx ry hs => h value slice pins s σ H x y v u Q I rx ry q hs
variable {a b e : Expr} {fa fb : EF} {pos : Pos}
theorem ev_ix (ha : EvOk S X a fa) (hb : EvOk S X b fb) (hsl : PlainIx b) : EvOk S X (.Subscript a b pos) (ev2 fa fb gIx) := fun G ft ρ σ H stk Q hs hp =>
  of_PE (pe_ix ixr_W pe_W pe_W hsl) (ha G ft ρ σ H stk _ hs (hp.bind.mono fun p hp v1 H1 hs1 hb1 => hb G ft p.2 σ H1 _ _ hs1 (hp.bind.up fun q hp v2 H2 hs2 hb2 => by
    obtain ⟨x, ex, hp⟩ := hp.bind.oR
    obtain ⟨y, ey, hp⟩ := hp.bind.oR
    obtain ⟨d, ed, hp⟩ := hp.bind.oR
    exact iW_of ix_seq (ok_ix ft.k hs2 hb1 hb2 ex ey ed fun v H' h => hp v H' h trivial))))

/-! ### texts, lists, tuples put together -/
def gCatS : D → D → Option D
  | .str x, .str y => if x.length + y.length ≤ sizeLine then some (.str (x ++ y)) else none
  | _, _ => none
theorem str_app (x y : List Nat) : (⟨x.toArray⟩ : Str) ++ ⟨y.toArray⟩ = ⟨(x ++ y).toArray⟩ := by
  show Str.mk (x.toArray ++ y.toArray) = _
  simp
theorem ok_catS : OpOk S X (binaryOp .Add) gCatS := .imm op_add_str fun T H x y dx dy d Q hx hy e k => by
  unfold gCatS at e
  split at e
  · rename_i a b
    by_cases z : a.length + b.length ≤ sizeLine
    · rw [if_pos z] at e
      cases e
      obtain ⟨rfl, a1, a2, _⟩ := hx
      obtain ⟨rfl, b1, b2, _⟩ := hy
      refine ⟨_, _, rfl, rfl, by simpa [Str.length] using z, ?_⟩
      rw [str_app]
      exact k _ fun B => ⟨rfl, fun c hc => (List.mem_append.mp hc).elim (a1 c) (b1 c), by simpa using z, rfl⟩
    · rw [if_neg z] at e
      cases e
  · cases e
def gCatL (x y : D) : Option D := (listD x).bind fun l => (listD y).bind fun m => if l.length + m.length ≤ sizeLine then some (.lst true (l ++ m)) else none
theorem ok_catL : OpOk S X (binaryOp .Add) gCatL := .by op_cat fun C hk ρ σ H stk x y ix iy dx dy d Q hs hbx hby ex ey ed k => by
  obtain ⟨l, el, e1⟩ := Option.bind_eq_some_iff.mp ed
  obtain ⟨m, em, e2⟩ := Option.bind_eq_some_iff.mp e1
  by_cases z : l.length + m.length ≤ sizeLine
  · rw [if_pos z] at e2
    cases e2
    obtain ⟨ol, rfl, zl⟩ := listD_some el
    obtain ⟨om, rfl, zm⟩ := listD_some em
    obtain ⟨b, us, rfl, _, qb, _, lb, s1⟩ := hs.items hby ey (seq_of_list em)
    obtain ⟨a, vs, rfl, _, qa, _, la, s2⟩ := s1.swap.items hbx ex (seq_of_list el)
    exact ⟨a, b, vs, us, rfl, rfl, qa ⟨ol, rfl⟩, qb ⟨om, rfl⟩, by omega, fun p hp => k _ _ (s2.join.list hp)⟩
  · rw [if_neg z] at e2
    cases e2
def gCatT (x y : D) : Option D := (tupD x).bind fun l => (tupD y).bind fun m => if l.length + m.length ≤ sizeLine then some (.tup (l ++ m)) else none
theorem isFzA_app : ∀ {l m : List D}, isFzA l = true → isFzA m = true → isFzA (l ++ m) = true
  | [], _, _, h => h
  | d :: l, m, h1, h2 => by
    simp [isFzA] at h1 ⊢
    exact ⟨h1.1, isFzA_app h1.2 h2⟩
theorem ok_catT : OpOk S X (binaryOp .Add) gCatT := .by op_catA fun C hk ρ σ H stk x y ix iy dx dy d Q hs hbx hby ex ey ed k => by
  obtain ⟨l, el, e1⟩ := Option.bind_eq_some_iff.mp ed
  obtain ⟨m, em, e2⟩ := Option.bind_eq_some_iff.mp e1
  by_cases z : l.length + m.length ≤ sizeLine
  · rw [if_pos z] at e2
    cases e2
    obtain rfl := tupD_some el
    obtain rfl := tupD_some em
    have fm := hs.itemsFz hby ey (l := m) rfl
    have fl := hs.drop.itemsFz hbx ex (l := l) rfl
    obtain ⟨b, us, rfl, _, _, qb, lb, s1⟩ := hs.items hby ey (l := m) rfl
    obtain ⟨a, vs, rfl, _, _, qa, la, s2⟩ := s1.swap.items hbx ex (l := l) rfl
    have qa := qa rfl
    have qb := qb rfl
    rw [hk] at qa qb
    refine ⟨a, b, vs, us, rfl, rfl, qa, qb, by omega, fun e => ?_, fun n e => ?_, fun n1 n2 p hp => k _ _ (s2.join.tuple hp (isFzA_app fl fm))⟩
    · have : l = [] := List.length_eq_zero_iff.mp (by rw [← la, e]; rfl)
      subst this
      exact k _ _ (hs.swap.drop.tupItself hby ey)
    · have : m = [] := List.length_eq_zero_iff.mp (by rw [← lb, e]; rfl)
      subst this
      rw [List.append_nil] at k
      exact k _ _ (hs.drop.tupItself hbx ex)
  · rw [if_neg z] at e2
    cases e2
def gRepL (x y : D) : Option D := (listD x).bind fun l => (intD y).bind fun k => if smallI k && decide (l.length * k.toNat ≤ sizeLine) then some (.lst true (List.replicate k.toNat l).flatten) else none
theorem RepA.flat {K : PySem.W.Frag} {T : Nat → Option Addr} {H : Hp} {B : List Addr} {l : List D} {vs : List V} (h : RepA K T H B l vs []) : ∀ n, RepA K T H B (List.replicate n l).flatten (List.replicate n vs).flatten []
  | 0 => ⟨rfl, rfl⟩
  | n + 1 => by
    (rw [List.replicate_succ, List.replicate_succ, List.flatten_cons, List.flatten_cons])
    exact h.app (h.flat n)
theorem SR.flat {C : Cn} {ρ : Env} {σ : St} {H : Hp} {stk : List SI} {vs : List V} {l : List D} (h : SR C ρ σ H (.many vs l :: stk)) (f : isFzA l = true) (n : Nat) : SR C ρ σ H (.many (List.replicate n vs).flatten (List.replicate n l).flatten :: stk) := by
  obtain ⟨Oρ, Os, B, g1, ⟨O1, O2, r1, r2, rfl⟩, hB, nd, nz, ow⟩ := h.ex
  obtain rfl := isFzA_nil f r1
  exact .again g1 ⟨[], O2, r1.flat n, r2, rfl⟩ hB nd nz ow h.kept h.z h.pin
theorem ok_repL : OpOk S X (binaryOp .Mult) gRepL := .by op_rep fun C hk ρ σ H stk x y ix iy dx dy d Q hs hbx hby ex ey ed k => by
  obtain ⟨l, el, e1⟩ := Option.bind_eq_some_iff.mp ed
  obtain ⟨n, en, e2⟩ := Option.bind_eq_some_iff.mp e1
  by_cases z : (smallI n && decide (l.length * n.toNat ≤ sizeLine)) = true
  · rw [if_pos z] at e2
    cases e2
    simp only [Bool.and_eq_true, decide_eq_true_eq] at z
    obtain ⟨z1, z2⟩ := smallI_ok z.1
    obtain ⟨ol, rfl, zl⟩ := listD_some el
    cases hs.isInt (i := n) hby (by rw [ey, intD_some en])
    obtain ⟨a, vs, rfl, _, qa, _, la, s2⟩ := hs.drop.items hbx ex (seq_of_list el)
    exact ⟨a, n, vs, rfl, rfl, qa ⟨ol, rfl⟩, by omega, by omega, by rw [la]; exact z.2, fun p hp => k _ _ ((s2.flat zl n.toNat).list hp)⟩
  · rw [if_neg z] at e2
    cases e2

/-! ### the operators -/
def mulOk (i j : Int) : Bool := (decide (-(2 ^ 64) < i) && decide (i < 2 ^ 64)) || (decide (-(2 ^ 64) < j) && decide (j < 2 ^ 64))
theorem mulOk_ok {i j : Int} (h : mulOk i j = true) : CMul i j := by
  unfold mulOk at h
  simp only [Bool.or_eq_true, Bool.and_eq_true, decide_eq_true_eq] at h
  exact h
def opD : Operator → D → D → Option D
  | .Add => fun x y => (gI (fun _ _ => true) (fun i j => .int (i + j)) x y).or ((gCatS x y).or ((gCatL x y).or (gCatT x y)))
  | .Sub => gI (fun _ _ => true) fun i j => .int (i - j)
  | .Mult => fun x y => (gI mulOk (fun i j => .int (i * j)) x y).or (gRepL x y)
  | .FloorDiv => gI (fun _ j => decide (0 < j) && decide (j < 1073741824)) fun i j => .int (i / j)
  | .Mod => gI (fun _ j => decide (0 < j)) fun i j => .int (i % j)
  | .Pow => gI (fun i j => decide (0 ≤ j) && decide (j ≤ 1000000) && decide (i.natAbs < 2 ^ 64)) fun i j => .int (i ^ j.toNat)
  | _ => fun _ _ => none
theorem ok_opD (op : Operator) : OpOk S X (binaryOp op) (opD op) := by
  have none : ∀ {f : Value → Value → Sem Value}, OpOk S X f (fun _ _ => none) := fun Gq ftq ρq σq Hq stkq xq yq ixq iyq dxq dyq dq Qq hsq hbxq hbyq exq eyq edq kq => by cases edq
  cases op with
  | Add => exact (OpOk.ints0 op_add).or (ok_catS.or (ok_catL.or ok_catT))
  | Sub => exact OpOk.ints0 op_sub
  | Mult => exact (OpOk.ints op_mul fun iq jq hq => mulOk_ok hq).or ok_repL
  | FloorDiv => exact OpOk.ints op_fdiv fun iq jq hq => by simpa [CDiv] using hq
  | Mod => exact OpOk.ints op_mod fun iq jq hq => by simpa using hq
  | Pow =>
    exact OpOk.ints op_pow fun iq jq hq => by
      simp only [Bool.and_eq_true, decide_eq_true_eq] at hq
      exact ⟨hq.1.1, hq.1.2, hq.2⟩
  | _ => exact none

/-! ### comparisons -/
def inD (x y : D) : Option Bool := (toP x).bind fun p => (seqD y).bind fun l => (toPA l).bind fun ps => if min (PyData.depthAll ps) p.depth ≤ 150 then some (ps.any fun z => PyData.eqv z p) else none
def tupOrList : D → Bool
  | .tup _ => true
  | _ => false
theorem op_inN (neg : Bool) (hu : X.A.units + 200 < cLine) : OpR X (compareOp (if neg then .NotIn else .In)) (fun xq yq Hq Qq => ∃ p ps, Dp X.K Hq xq p ∧ (Dp X.K Hq yq (.list ps) ∨ Dp X.K Hq yq (.tuple ps)) ∧ p.canLay0 = true ∧ PyData.canLayAll0 ps = true ∧ min (PyData.depthAll ps) p.depth ≤ 150 ∧ Qq (.bl (if neg then !ps.any fun zq => PyData.eqv zq p else ps.any fun zq => PyData.eqv zq p)) Hq) := by
  intro pinsq sq σq Hq xq yq vq uq Qq Iq rxq ryq hq
  obtain ⟨dq, dsq, hdq, heq, sdq, seq, hmq, qq⟩ := hq
  obtain ⟨asq, r1q⟩ := Dp.reads Iq dq xq vq hdq rxq
  rcases heq with heq | heq
  · obtain ⟨bsq, r2q⟩ := Dp.reads Iq _ yq uq heq ryq
    cases neg with
    | false => exact PySem.SeqAt.in_list_reads r2q r1q seq sdq (by omega) ⟨.bl _, Hq, Iq, rfl, qq⟩
    | true => exact PySem.SeqAt.notIn_list_reads r2q r1q seq sdq (by omega) ⟨.bl _, Hq, Iq, rfl, qq⟩
  · obtain ⟨bsq, r2q⟩ := Dp.reads Iq _ yq uq heq ryq
    cases neg with
    | false => exact PySem.SeqAt.in_tuple_reads r2q r1q seq sdq (by omega) ⟨.bl _, Hq, Iq, rfl, qq⟩
    | true => exact PySem.SeqAt.notIn_tuple_reads r2q r1q seq sdq (by omega) ⟨.bl _, Hq, Iq, rfl, qq⟩
theorem ok_in (neg : Bool) (hu : X.A.units + 200 < cLine) : OpOk S X (compareOp (if neg then .NotIn else .In)) (fun x y => (inD x y).map fun b => .bl (if neg then !b else b)) :=
  .imm (op_inN neg hu) fun T H x y dx dy d Q hx hy e k => by
    obtain ⟨b, e1, rfl⟩ := Option.map_eq_some_iff.mp e
    obtain ⟨p, ep, e2⟩ := Option.bind_eq_some_iff.mp (show (toP dx).bind _ = some b from e1)
    obtain ⟨l, el, e3⟩ := Option.bind_eq_some_iff.mp e2
    obtain ⟨ps, eps, e4⟩ := Option.bind_eq_some_iff.mp e3
    by_cases z : min (PyData.depthAll ps) p.depth ≤ 150
    · rw [if_pos z] at e4
      cases e4
      have a := hx.dp (by rw [toP_frz]; exact ep)
      have fin : ∀ q, toP dy = some q → (q = .list ps ∨ q = .tuple ps) → (Dp X.K H y (.list ps) ∨ Dp X.K H y (.tuple ps)) ∧ PyData.canLayAll0 ps = true := fun q eq hq => by
        have b := hy.dp (by rw [toP_frz]; exact eq)
        rcases hq with rfl | rfl
        · exact ⟨.inl b.1, b.2⟩
        · exact ⟨.inr b.1, b.2⟩
      have : (Dp X.K H y (.list ps) ∨ Dp X.K H y (.tuple ps)) ∧ PyData.canLayAll0 ps = true := by
        cases dy with
        | tup l' => cases el; exact fin (.tuple ps) (by simp [toP, eps]) (.inr rfl)
        | scr l' => cases el; exact fin (.list ps) (by simp [toP, eps]) (.inl rfl)
        | lst o l' =>
          have el : (if isFzA l' then some l' else none) = some l := el
          by_cases zz : isFzA l' = true
          · rw [if_pos zz] at el
            cases el
            exact fin (.list ps) (by simp [toP, eps]) (.inl rfl)
          · rw [if_neg zz] at el
            cases el
        | non => cases el
        | bl _ => cases el
        | int _ => cases el
        | str _ => cases el
        | dct _ _ _ _ => cases el
        | fn _ => cases el
      exact ⟨p, ps, a.1, this.1, a.2, this.2, z, k _ fun B => ⟨rfl, rfl⟩⟩
    · rw [if_neg z] at e4
      cases e4
def occS (x y : List Nat) : Bool := !(Builtin.Str.occurrences ⟨y.toArray⟩ ⟨x.toArray⟩ 0 (Str.length ⟨y.toArray⟩) 1).isEmpty
def gInS (neg : Bool) : D → D → Option D
  | .str x, .str y => some (.bl (if neg then !occS x y else occS x y))
  | _, _ => none
theorem ok_inS (neg : Bool) : OpOk S X (compareOp (if neg then .NotIn else .In)) (gInS neg) := by
  cases neg with
  | false =>
    exact .imm op_in_str fun T H x y dx dy d Q hx hy e k => by
      unfold gInS at e
      split at e
      · cases e
        exact ⟨_, _, hx.1, hy.1, k _ fun B => ⟨rfl, rfl⟩⟩
      · cases e
  | true =>
    exact .imm op_notIn_str fun T H x y dx dy d Q hx hy e k => by
      unfold gInS at e
      split at e
      · cases e
        exact ⟨_, _, hx.1, hy.1, k _ fun B => ⟨rfl, rfl⟩⟩
      · cases e
def isNone : D → Bool
  | .non => true
  | _ => false
def gIs (neg : Bool) (x y : D) : Option D := if isNone y then some (.bl (if neg then !isNone x else isNone x)) else none
theorem isNone_of {K : PySem.W.Frag} {T : Nat → Option Addr} {H : Hp} {B : List Addr} {d : D} {v : V} {O : List Addr} (h : Rep K T H B d v O) : decide (v = .non) = isNone d := by
  cases d with
  | non => rw [h.1]; rfl
  | bl _ => rw [h.1]; rfl
  | int _ => rw [h.1]; rfl
  | str _ => rw [h.1]; rfl
  | tup _ => obtain ⟨a, vs, rfl, _⟩ := h; rfl
  | scr _ => obtain ⟨a, vs, rfl, _⟩ := h; rfl
  | lst o _ => cases o <;> (obtain ⟨a, vs, h⟩ := h; first | (obtain ⟨rfl, _⟩ := h; rfl) | (obtain ⟨O', rfl, _⟩ := h; rfl))
  | dct o _ _ _ => cases o <;> (obtain ⟨a, vs, h⟩ := h; first | (obtain ⟨rfl, _⟩ := h; rfl) | (obtain ⟨O', rfl, _⟩ := h; rfl))
  | fn _ => obtain ⟨⟨a, _, rfl⟩, _⟩ := h; rfl
theorem isNone_frz (d : D) : isNone (frz d) = isNone d := by cases d <;> rfl
theorem ok_is (neg : Bool) : OpOk S X (compareOp (if neg then .IsNot else .Is)) (gIs neg) := by
  have key : ∀ {K : PySem.W.Frag} {T : Nat → Option Addr} {H : Hp} {x y : V} {dx dy : D}, Rep K T H [] (frz dx) x [] → Rep K T H [] (frz dy) y [] → isNone dy = true → y = .non ∧ decide (x = .non) = isNone dx := fun {K T H x y dx dy} hx hy z => by
    have h1 := isNone_of hx
    have h2 := isNone_of hy
    rw [isNone_frz] at h1 h2
    rw [z] at h2
    exact ⟨of_decide_eq_true h2, h1⟩
  cases neg with
  | false =>
    exact .imm op_isN fun T H x y dx dy d Q hx hy e k => by
      unfold gIs at e
      by_cases z : isNone dy = true
      · rw [if_pos z] at e
        cases e
        obtain ⟨h1, h2⟩ := key hx hy z
        refine ⟨h1, ?_⟩
        rw [h2]
        exact k _ fun B => ⟨rfl, rfl⟩
      · rw [if_neg z] at e
        cases e
  | true =>
    exact .imm op_notN fun T H x y dx dy d Q hx hy e k => by
      unfold gIs at e
      by_cases z : isNone dy = true
      · rw [if_pos z] at e
        cases e
        obtain ⟨h1, h2⟩ := key hx hy z
        refine ⟨h1, ?_⟩
        rw [h2]
        exact k _ fun B => ⟨rfl, rfl⟩
      · rw [if_neg z] at e
        cases e
def cmpD : CmpOp → D → D → Option D
  | .Eq => fun x y => (eqD x y).map fun b => .bl (if false then !b else b)
  | .NotEq => fun x y => (eqD x y).map fun b => .bl (if true then !b else b)
  | .Lt => gI (fun _ _ => true) fun i j => .bl (decide (i < j))
  | .LtE => gI (fun _ _ => true) fun i j => .bl (decide (i ≤ j))
  | .Gt => gI (fun _ _ => true) fun i j => .bl (decide (j < i))
  | .GtE => gI (fun _ _ => true) fun i j => .bl (decide (j ≤ i))
  | .In => fun x y => (gInS false x y).or ((inD x y).map fun b => .bl (if false then !b else b))
  | .NotIn => fun x y => (gInS true x y).or ((inD x y).map fun b => .bl (if true then !b else b))
  | .Is => gIs false
  | .IsNot => gIs true
theorem ok_cmpD (op : CmpOp) (hu : X.A.units + 200 < cLine) : OpOk S X (compareOp op) (cmpD op) := by
  cases op with
  | Eq => exact ok_eq false hu
  | NotEq => exact ok_eq true hu
  | Lt => exact OpOk.intsB op_lt
  | LtE => exact OpOk.intsB op_le
  | Gt => exact OpOk.intsB op_gt
  | GtE => exact OpOk.intsB op_ge
  | In => exact (ok_inS false).or (ok_in false hu)
  | NotIn => exact (ok_inS true).or (ok_in true hu)
  | Is => exact ok_is false
  | IsNot => exact ok_is true
end
end DV
namespace DV
open PySem L2

/-! ### what changes a list that a slot owns -/
def ownD : D → Option (List D)
  | .lst true l => some l
  | _ => none
theorem ownD_some {d : D} {l : List D} (h : ownD d = some l) : d = .lst true l := by
  unfold ownD at h
  split at h
  · cases h; rfl
  · cases h
def ownAt (ρ : Env) (i : Nat) : Option (List D) := (slotD ρ i).bind ownD
theorem ownAt_some {ρ : Env} {i : Nat} {l : List D} (h : ownAt ρ i = some l) : ρ[i]? = some (some (.lst true l)) := by
  obtain ⟨d, e1, e2⟩ := Option.bind_eq_some_iff.mp (show (slotD ρ i).bind ownD = some l from h)
  rw [ownD_some e2] at e1
  exact slotD_some e1
def putAt (ρ : Env) (i : Nat) (l : List D) : Env := ρ.set i (some (.lst true l))
section
variable {C : Cn} {ρ : Env} {σ : St} {H : Hp} {stk : List SI}
/-- the slot's list, its place -/
theorem SR.own (h : SR C ρ σ H stk) {i : Nat} {l : List D} (e : ownAt ρ i = some l) : ∃ p vs, σ[i]? = some (some (.ref p)) ∧ H p = some (.lst vs) ∧ vs.length = l.length ∧ SR C (ρ.set i none) σ H (.many vs l :: .hole p :: stk) ∧ (ρ.set i none)[i]? = some none := by
  have e' := ownAt_some e
  obtain ⟨v, ev, s⟩ := h.take e'
  obtain ⟨B, O, r⟩ := s.top
  obtain ⟨a, vs, O', rfl, hH, _⟩ := r
  obtain ⟨vs', e1, hl, s2⟩ := s.open
  rw [hH] at e1
  cases e1
  exact ⟨a, vs, ev, hH, hl, s2, by rw [List.getElem?_set_self (List.getElem?_eq_some_iff.mp e').1]⟩
/-- and back -/
theorem SR.unown {i : Nat} {p : Addr} {vs : List V} {l : List D} (h : SR C (ρ.set i none) σ H (.many vs l :: .hole p :: stk)) (ev : σ[i]? = some (some (.ref p))) (en : (ρ.set i none)[i]? = some none) : SR C (putAt ρ i l) σ (upd H p (.lst vs)) stk := by
  have := h.close.back en ev
  rw [List.set_set] at this
  exact this
theorem SR.split {vs : List V} {l m : List D} (h : SR C ρ σ H (.many vs (l ++ m) :: stk)) : ∃ us ws, vs = us ++ ws ∧ us.length = l.length ∧ ws.length = m.length ∧ SR C ρ σ H (.many us l :: .many ws m :: stk) := by
  have key : ∀ (K : PySem.W.Frag) (T : Nat → Option Addr) (H : Hp) (B : List Addr) (l m : List D) (vs : List V) (O : List Addr), RepA K T H B (l ++ m) vs O → ∃ us ws O1 O2, vs = us ++ ws ∧ RepA K T H B l us O1 ∧ RepA K T H B m ws O2 ∧ O = O1 ++ O2 := fun K T H B l => by
    induction l with
    | nil => exact fun m vs O h => ⟨[], vs, [], O, rfl, ⟨rfl, rfl⟩, h, rfl⟩
    | cons d l ih =>
      intro m vs O h
      obtain ⟨v, vs', O1, O2, rfl, h1, h2, rfl⟩ := h
      obtain ⟨us, ws, P1, P2, rfl, g1, g2, rfl⟩ := ih m vs' O2 h2
      exact ⟨v :: us, ws, O1 ++ P1, P2, rfl, ⟨v, us, O1, P1, rfl, h1, g1, rfl⟩, g2, by simp⟩
  obtain ⟨Oρ, Os, B, h1, ⟨O1, O2, r1, r2, rfl⟩, hB, nd, nz, ow⟩ := h.ex
  obtain ⟨us, ws, P1, P2, rfl, g1, g2, rfl⟩ := key _ _ _ _ _ _ _ _ r1
  exact ⟨us, ws, rfl, g1.length, g2.length, h.remk h1 ⟨P1, P2 ++ O2, g1, ⟨P2, O2, g2, r2, rfl⟩, rfl⟩ hB nd nz ow (fun a q => by simpa using q) (by simpa using nd) h.pin⟩
theorem SR.joins {vs us ws : List V} {l m n : List D} (h : SR C ρ σ H (.many vs l :: .many us m :: stk)) : SR C ρ σ H (.many (vs ++ us) (l ++ m) :: stk) := h.join
/-- the j-th of the things on top out of them -/
theorem SR.pull {vs : List V} {l : List D} {j : Nat} {d : D} (h : SR C ρ σ H (.many vs l :: stk)) (e : l[j]? = some d) : ∃ v, vs[j]? = some v ∧ SR C ρ σ H (.one v (.val d) :: .many (vs.eraseIdx j) (l.eraseIdx j) :: stk) ∧ ∀ (w : V) (d' : D) (ρ' : Env) (σ' : St) (H' : Hp) (s : List SI), SR C ρ' σ' H' (.one w (.val d') :: .many (vs.eraseIdx j) (l.eraseIdx j) :: s) → SR C ρ' σ' H' (.many (vs.set j w) (l.set j d') :: s) := by
  have hj := (List.getElem?_eq_some_iff.mp e).1
  have el : l = l.take j ++ (d :: l.drop (j + 1)) := by
    rw [← (List.getElem?_eq_some_iff.mp e).2, List.getElem_cons_drop, List.take_append_drop]
  have h' := h
  rw [el] at h'
  obtain ⟨us, ws, rfl, hu, hw, s⟩ := h'.split
  have hu' : us.length = j := by rw [hu, List.length_take]; omega
  obtain ⟨v, r, rfl, s2⟩ := s.swap.uncons
  have s3 : SR C ρ σ H (.one v (.val d) :: .many us (l.take j) :: .many r (l.drop (j + 1)) :: stk) := s2.perm (List.Perm.cons _ (List.Perm.swap _ _ _))
  have e1 : (us ++ v :: r).eraseIdx j = us ++ r := by
    rw [List.eraseIdx_append_of_length_le (by omega), hu', Nat.sub_self]
    rfl
  have e2 : l.eraseIdx j = l.take j ++ l.drop (j + 1) := List.eraseIdx_eq_take_drop_succ l j
  refine ⟨v, by rw [List.getElem?_append_right (by omega), hu', Nat.sub_self]; rfl, ?_, fun w d' ρ' σ' H' s5 h5 => ?_⟩
  · rw [e1, e2]
    have t : SR C ρ σ H (.many us (l.take j) :: .many r (l.drop (j + 1)) :: .one v (.val d) :: stk) := s3.perm (List.Perm.trans (List.Perm.swap _ _ _) (List.Perm.cons _ (List.Perm.swap _ _ _)))
    exact t.join.swap
  · rw [e1, e2] at h5
    obtain ⟨us', r', eq, hl1, hl2, h6⟩ := h5.swap.split
    have : us' = us ∧ r' = r := by
      have hl : us'.length = us.length := by rw [hl1, hu]
      exact ⟨(List.append_inj eq.symm hl).1, (List.append_inj eq.symm hl).2⟩
    obtain ⟨rfl, rfl⟩ := this
    have h7 : SR C ρ' σ' H' (.many r' (l.drop (j + 1)) :: .one w (.val d') :: .many us' (l.take j) :: s5) := h6.perm (List.Perm.trans (List.Perm.swap _ _ _) (List.Perm.cons _ (List.Perm.swap _ _ _)))
    have h8 := h7.consMany.swap.join
    have ev : (us' ++ v :: r').set j w = us' ++ w :: r' := by
      rw [List.set_append, if_neg (by omega), hu', Nat.sub_self]
      rfl
    have ed : l.set j d' = l.take j ++ d' :: l.drop (j + 1) := by
      rw [List.set_eq_take_append_cons_drop, if_pos hj]
    rw [ev, ed]
    exact h8
end
section
variable {S : Sg} {X : Cx} {a e : Expr} {fa fe : EF} {i : Nat} {x : Str} {p apos pos : Pos}
theorem few1 {cpos : Pos} (h : notStar a = true) : ((backTo cpos (starEach [a] X.env)).all (fun x => !x.1) && (backToKw cpos (keywordEach [] X.env)).all (fun x => x.1.isSome) && decide ([a].length + ([] : List Keyword).length + (if ([] : List Keyword).isEmpty then 0 else 1) < 30)) = true := by
  rw [star_cons h]
  rfl
def evApp (i : Nat) (a : EF) : EF := fun ρ => (oR (ownAt ρ i)).bind fun _ => (a ρ).bind fun p => (oR (grab p.2 p.1)).bind fun q => (oR (ownAt q.2 i)).bind fun l => if l.length < sizeLine then .ok (.val .non, putAt q.2 i (l ++ [q.1])) else .no
theorem ev_app (hv : PE X (.Name x p) (tVar i)) (ha : EvOk S X a fa) (hst : notStar a = true) (hl : (apos.endLine == pos.line) = true) : EvOk S X (.Call (.Attribute (.Name x p) "append" apos) [a] [] pos) (evApp i fa) := fun G ft ρ σ H stk Q hs hp => by
  obtain ⟨l0, e0, hp⟩ := hp.bind.oR
  obtain ⟨p0, vs0, ev0, hH0, _⟩ := hs.own e0
  refine of_PE (pe_bm PySem.F.plainAttrs_list PySem.F.slot_list_append PySem.F.type_list_append mt_append hv (pa_cons pe_W pa_nil (star_cons hst)) rfl (few1 hst) hl (star_cons hst) rfl) ⟨_, ev0, .inl ⟨rfl, vs0, SqL.of hH0⟩, ?_⟩
  refine ha G ft ρ σ H stk _ hs (hp.bind.mono fun q hp v H1 s1 hb => ?_)
  obtain ⟨d, ed, hp⟩ := hp.bind.oR
  obtain ⟨l, el, hp⟩ := hp.bind.oR
  have s2 := s1.grab hb ed
  obtain ⟨p1, vs, ev1, hH, hl1, s3, en⟩ := s2.own el
  rw [ev0] at ev1
  cases ev1
  by_cases z : l.length < sizeLine
  · rw [if_pos z] at hp
    refine ⟨p0, vs, v, rfl, rfl, hH, by omega, hp _ _ (.imm ?_ fun B => ⟨rfl, rfl⟩) trivial⟩
    have s4 : SR G.C (d.2.set i none) σ H1 (.many vs l :: .many [v] [d.1] :: .hole p0 :: stk) := by
      have t : SR G.C (d.2.set i none) σ H1 (.one v (.val d.1) :: .many vs l :: .hole p0 :: stk) := s3.perm (List.Perm.trans (List.Perm.cons _ (List.Perm.swap _ _ _)) (List.Perm.swap _ _ _))
      exact t.oneMany.swap
    exact s4.join.unown ev0 en
  · rw [if_neg z] at hp
    exact hp.elim
/-- the last one out -/
def evPop (i : Nat) : EF := fun ρ => (oR (ownAt ρ i)).bind fun l => (oR (l[l.length - 1]?)).bind fun d => .ok (.val d, putAt ρ i (l.eraseIdx (l.length - 1)))
theorem ev_pop (hv : PE X (.Name x p) (tVar i)) (hl : (apos.endLine == pos.line) = true) : EvOk S X (.Call (.Attribute (.Name x p) "pop" apos) [] [] pos) (evPop i) := fun G ft ρ σ H stk Q hs hp => by
  obtain ⟨l, e0, hp⟩ := hp.bind.oR
  obtain ⟨d, ed, hp⟩ := hp.bind.oR
  obtain ⟨p0, vs, ev0, hH, hl0, s3, en⟩ := hs.own e0
  obtain ⟨v, ev, s4, _⟩ := s3.pull ed
  have hd : vs.dropLast = vs.eraseIdx (vs.length - 1) := by
    rw [List.eraseIdx_eq_take_drop_succ, List.dropLast_eq_take]
    simp
    omega
  refine of_PE (pe_bm0 PySem.F.plainAttrs_list PySem.F.slot_list_pop PySem.F.type_list_pop mt_pop hv rfl hl) ⟨_, ev0, .inl ⟨rfl, vs, SqL.of hH⟩, p0, vs, v, rfl, rfl, hH, by rw [hl0]; exact ev, ?_⟩
  rw [hd, hl0]
  refine hp v _ ?_ trivial
  have s5 : SR G.C (ρ.set i none) σ H (.many (vs.eraseIdx (l.length - 1)) (l.eraseIdx (l.length - 1)) :: .hole p0 :: .one v (.val d) :: stk) := s4.perm (List.Perm.trans (List.Perm.swap _ _ _) (List.Perm.cons _ (List.Perm.swap _ _ _)))
  exact s5.unown ev0 en
def evPopAt (i : Nat) (a : EF) : EF := fun ρ => (oR (ownAt ρ i)).bind fun _ => (a ρ).bind fun p => (oR (dref p.2 p.1)).bind fun x => (oR (intD x)).bind fun k => (oR (ownAt p.2 i)).bind fun l => if smallI k then (oR (ixN l.length k)).bind fun j => (oR (l[j]?)).bind fun d => .ok (.val d, putAt p.2 i (l.eraseIdx j)) else .no
theorem ev_popAt (hv : PE X (.Name x p) (tVar i)) (ha : EvOk S X a fa) (hst : notStar a = true) (hl : (apos.endLine == pos.line) = true) : EvOk S X (.Call (.Attribute (.Name x p) "pop" apos) [a] [] pos) (evPopAt i fa) := fun G ft ρ σ H stk Q hs hp => by
  obtain ⟨l0, e0, hp⟩ := hp.bind.oR
  obtain ⟨p0, vs0, ev0, hH0, _⟩ := hs.own e0
  refine of_PE (pe_bm PySem.F.plainAttrs_list PySem.F.slot_list_pop PySem.F.type_list_pop mt_popAt hv (pa_cons pe_W pa_nil (star_cons hst)) rfl (few1 hst) hl (star_cons hst) rfl) ⟨_, ev0, .inl ⟨rfl, vs0, SqL.of hH0⟩, ?_⟩
  refine ha G ft ρ σ H stk _ hs (hp.bind.mono fun q hp v H1 s1 hb => ?_)
  obtain ⟨dx, ed, hp⟩ := hp.bind.oR
  obtain ⟨k, ek, hp⟩ := hp.bind.oR
  obtain ⟨l, el, hp⟩ := hp.bind.oR
  by_cases z : smallI k = true
  · rw [if_pos z] at hp
    obtain ⟨z1, z2⟩ := smallI_ok z
    obtain ⟨j, ej, hp⟩ := hp.bind.oR
    obtain ⟨d, edj, hp⟩ := hp.bind.oR
    cases s1.isInt (i := k) hb (by rw [ed, intD_some ek])
    obtain ⟨p1, vs, ev1, hH, hl1, s3, en⟩ := s1.drop.own el
    rw [ev0] at ev1
    cases ev1
    obtain ⟨h1, h2, h3, h4⟩ := ixN_seq ej
    obtain ⟨w, ew, s4, _⟩ := s3.pull edj
    refine ⟨p0, vs, k, j, w, rfl, rfl, hH, by omega, by omega, by rw [hl1]; exact h1, ew, hp w _ ?_ trivial⟩
    have s5 : SR G.C (q.2.set i none) σ H1 (.many (vs.eraseIdx j) (l.eraseIdx j) :: .hole p0 :: .one w (.val d) :: stk) := s4.perm (List.Perm.trans (List.Perm.swap _ _ _) (List.Perm.cons _ (List.Perm.swap _ _ _)))
    exact s5.unown ev0 en
  · rw [if_neg z] at hp
    exact hp.elim
end
end DV
namespace DV
open PySem L2

def notSl : Expr → Bool
  | .Slice _ _ _ _ => false
  | _ => true
section
variable {S : Sg} {X : Cx} {a e ie : Expr} {fa fe fi : EF} {i : Nat} {x : Str} {p apos pos : Pos}
def evExt (i : Nat) (a : EF) : EF := fun ρ => (oR (ownAt ρ i)).bind fun _ => (a ρ).bind fun p => (oR (dref p.2 p.1)).bind fun d => (oR (listD d)).bind fun m => (oR (ownAt p.2 i)).bind fun l => if l.length + m.length ≤ sizeLine then .ok (.val .non, putAt p.2 i (l ++ m)) else .no
theorem ev_ext (hv : PE X (.Name x p) (tVar i)) (ha : EvOk S X a fa) (hst : notStar a = true) (hl : (apos.endLine == pos.line) = true) : EvOk S X (.Call (.Attribute (.Name x p) "extend" apos) [a] [] pos) (evExt i fa) := fun G ft ρ σ H stk Q hs hp => by
  obtain ⟨l0, e0, hp⟩ := hp.bind.oR
  obtain ⟨p0, vs0, ev0, hH0, _⟩ := hs.own e0
  refine of_PE (pe_bm PySem.F.plainAttrs_list PySem.F.slot_list_extend PySem.F.type_list_extend mt_extend hv (pa_cons pe_W pa_nil (star_cons hst)) rfl (few1 hst) hl (star_cons hst) rfl) ⟨_, ev0, .inl ⟨rfl, vs0, SqL.of hH0⟩, ?_⟩
  refine ha G ft ρ σ H stk _ hs (hp.bind.mono fun q hp v H1 s1 hb => ?_)
  obtain ⟨d, ed, hp⟩ := hp.bind.oR
  obtain ⟨m, em, hp⟩ := hp.bind.oR
  obtain ⟨l, el, hp⟩ := hp.bind.oR
  obtain ⟨om, hdm, zm⟩ := listD_some em
  obtain ⟨b, us, rfl, _, qb, _, lb, s2⟩ := s1.items hb ed (seq_of_list em)
  obtain ⟨p1, vs, ev1, hH, hl1, s3, en⟩ := s2.own el
  rw [ev0] at ev1
  cases ev1
  by_cases z : l.length + m.length ≤ sizeLine
  · rw [if_pos z] at hp
    refine ⟨p0, b, vs, us, rfl, rfl, hH, qb ⟨om, hdm⟩, by omega, hp _ _ (.imm ?_ fun B => ⟨rfl, rfl⟩) trivial⟩
    have s4 : SR G.C (q.2.set i none) σ H1 (.many vs l :: .many us m :: .hole p0 :: stk) := s3.perm (List.Perm.cons _ (List.Perm.swap _ _ _))
    exact s4.join.unown ev0 en
  · rw [if_neg z] at hp
    exact hp.elim

/-! ### x[i] = e, x[i] += e -/
def svSto (i : Nat) (ie e : EF) : SF := fun ρ => (e ρ).st fun p => oS (grab p.2 p.1) fun q => oS (ownAt q.2 i) fun _ => (ie q.2).st fun r => oS (dref r.2 r.1) fun x => oS (intD x) fun k => oS (ownAt r.2 i) fun l => oS (ixN l.length k) fun j => .nx (putAt r.2 i (l.set j q.1))
theorem swSub {o : Expr} {p2 : Pos} {l : Nat} {env : PySem.Env} : ∀ e : Expr, swapsWithSole [.Subscript o ie p2] e l env = pure false := fun e => by cases e <;> rfl
theorem stSub {o : Expr} {p2 : Pos} {env : PySem.Env} : ∀ e : Expr, swappedStores [.Subscript o ie p2] e env = pure none := fun e => by cases e <;> rfl
theorem asSub {o : Expr} {p2 : Pos} {env : PySem.Env} (h : notSl ie = true) : ∀ vq, assign (.Subscript o ie p2) env vq = (do
      let ov ← holding [vq] (eval o env)
      let iv ← holding [vq, ov] (eval ie env)
      standAt p2
      holding [vq, ov, iv] (setItem ov iv vq)
      release [vq, ov, iv] []) := fun vq => by cases ie <;> first | rfl | cases h
theorem sv_sto {p2 : Pos} (hv : PE X (.Name x p) (tVar i)) (hi : EvOk S X ie fi) (he : EvOk S X e fe) (hsl : notSl ie = true) : SvOk S X (.Assign [.Subscript (.Name x p) ie p2] e pos) (svSto i fi fe) := fun G ft ρ σ H stk Dn hs hp =>
  of_PS (ps_asg pe_W (pg_sub hv pe_W set_list (asSub hsl)) (swSub e) (stSub e) rfl) (he G ft ρ σ H stk _ hs ((hp.st (σ := σ)).mono fun q hp v H1 s1 hb => by
    obtain ⟨d, ed, hp⟩ := hp.oS
    obtain ⟨l0, e0, hp⟩ := hp.oS
    have s2 := s1.grab hb ed
    obtain ⟨p0, vs0, ev0, hH0, _⟩ := s2.own e0
    refine ⟨_, ev0, hi G ft d.2 σ H1 _ _ s2 ((hp.st (σ := σ)).up fun r hp w H2 s3 hb2 => ?_)⟩
    obtain ⟨y, ey, hp⟩ := hp.oS
    obtain ⟨k, ek, hp⟩ := hp.oS
    obtain ⟨l, el, hp⟩ := hp.oS
    obtain ⟨j, ej, hp⟩ := hp.oS
    cases s3.isInt (i := k) hb2 (by rw [ey, intD_some ek])
    obtain ⟨p1, vs, ev1, hH, hl1, s4, en⟩ := s3.drop.own el
    rw [ev0] at ev1
    cases ev1
    have hj : j < l.length := (ixN_seq ej).2.1
    have ej' : ixN vs.length k = some j := by rw [hl1]; exact ej
    refine ⟨p0, vs, k, j, rfl, rfl, hH, ej', hp _ _ ?_⟩
    obtain ⟨u, eu, s5, back⟩ := s4.pull (List.getElem?_eq_getElem hj)
    have s6 : SR G.C (r.2.set i none) σ H2 (.one v (.val d.1) :: .many (vs.eraseIdx j) (l.eraseIdx j) :: .hole p0 :: stk) := s5.drop.perm (List.Perm.trans (List.Perm.cons _ (List.Perm.swap _ _ _)) (List.Perm.swap _ _ _))
    exact (back _ _ _ _ _ _ s6).unown ev0 en))
def rGetL (K : PySem.W.Frag) : V → V → Hp → VK → Prop := fun o i H Q => ∃ (q : Addr) (xs : List V) (k : Int) (z : V), o = .ref q ∧ i = .int k ∧ SqL K H q xs ∧ atI xs k = some z ∧ Q z H
theorem get_list : PGet X (rGetL X.K) := by
  intro pinsq sq σq Hq oq iq ovq ivq Qq Iq roq riq hq
  obtain ⟨qq, xsq, kq, zq, rfl, rfl, hqq, hzq, k1q⟩ := hq
  cases roq
  obtain ⟨tq, rfl⟩ := riq
  obtain ⟨itsq, rq, plq, hzzq⟩ := Iq.list hqq
  obtain ⟨jq, h1q, h2q, h3q, h4q, h5q⟩ := atI_get hzq
  obtain ⟨wq, ewq, rwq'⟩ := rq.get h2q
  have hlq := rq.length
  have hnq := line63
  have finq : EP X pinsq σq Qq wq sq := ⟨zq, Hq, Iq, rwq', k1q⟩
  by_cases h0 : 0 ≤ kq
  · have hjq : kq.toNat = jq := by
      rw [seqIndex_of h0 h5q] at h1q
      exact Option.some.inj h1q
    exact PySem.wpAny_getItem_list plq.isList h0 (by omega) (by rw [hjq]; simpa using ewq) finq
  · have hjq : (kq + (itsq.toArray.size : Int)).toNat = jq := by
      rw [seqIndex_neg (by omega) h4q] at h1q
      rw [List.size_toArray, ← hlq]
      exact Option.some.inj h1q
    exact PySem.wpAny_getItem_list_neg plq.isList (by omega) (by rw [List.size_toArray] <;> omega) (by omega) (by rw [hjq]; simpa using ewq) finq
/-- the ints' operations in place -/
inductive AO where
  | add | sub
def AO.f : AO → Int → Int → Int
  | .add => fun i j => i + j
  | .sub => fun i j => i - j
def AO.op : AO → Operator
  | .add => .Add
  | .sub => .Sub
theorem AO.ip (o : AO) : PIp X o.op (ipI o.f) := by
  cases o with
  | add => exact ip_add
  | sub => exact ip_sub
def svAug (o : AO) (i : Nat) (ie e : EF) : SF := fun ρ => oS (ownAt ρ i) fun _ => (ie ρ).st fun p => oS (dref p.2 p.1) fun x => oS (intD x) fun k => oS (ownAt p.2 i) fun l => oS (atI l k) fun d => oS (intD d) fun m => (e p.2).st fun q => oS (dref q.2 q.1) fun y => oS (intD y) fun n => oS (ownAt q.2 i) fun l2 => oS (ixN l2.length k) fun j => .nx (putAt q.2 i (l2.set j (.int (o.f m n))))
theorem augSub {o ie : Expr} (h : notSl ie = true) : ∀ ov iv new, augStore ie ov iv new = (do holding [new, ov, iv] (setItem ov iv new); release [new, ov, iv] []; pure .next) := fun ov iv new => by cases ie <;> first | rfl | cases h
theorem sv_aug {o : AO} {p2 : Pos} (hv : PE X (.Name x p) (tVar i)) (hi : EvOk S X ie fi) (he : EvOk S X e fe) (hsl : notSl ie = true) : SvOk S X (.AugAssign (.Subscript (.Name x p) ie p2) o.op e pos) (svAug o i fi fe) := fun G ft ρ σ H stk Dn hs hp => by
  obtain ⟨l0, e0, hp⟩ := hp.oS
  obtain ⟨p0, vs0, ev0, hH0, _⟩ := hs.own e0
  refine of_PS (ps_augS hv pe_W get_list pe_W o.ip set_list (augSub (o := .Name x p) hsl)) ⟨_, ev0, hi G ft ρ σ H stk _ hs ((hp.st (σ := σ)).mono fun r hp w H2 s3 hb2 => ?_)⟩
  obtain ⟨y, ey, hp⟩ := hp.oS
  obtain ⟨k, ek, hp⟩ := hp.oS
  obtain ⟨l, el, hp⟩ := hp.oS
  obtain ⟨d, ed, hp⟩ := hp.oS
  obtain ⟨m, em, hp⟩ := hp.oS
  cases s3.isInt (i := k) hb2 (by rw [ey, intD_some ek])
  obtain ⟨p1, vs, ev1, hH, hl1, s4, en⟩ := s3.drop.own el
  rw [ev0] at ev1
  cases ev1
  have gt : ∃ v, atI vs k = some v ∧ v = .int m := by
    obtain ⟨Oρ, Os, B, h1, ⟨O1, O2, r1, r2, rfl⟩, _⟩ := s4.ex
    obtain ⟨v, O3, e1, rv, _⟩ := atI_rep r1 ed
    rw [intD_some em] at rv
    exact ⟨v, e1, rv.1⟩
  obtain ⟨v, egt, rfl⟩ := gt
  refine ⟨p0, vs, k, _, rfl, rfl, SqL.of hH, egt, he G ft r.2 σ H2 stk _ s3.drop ((hp.st (σ := σ)).mono fun q hp u H3 s5 hb5 => ?_)⟩
  obtain ⟨z, ez, hp⟩ := hp.oS
  obtain ⟨n, en', hp⟩ := hp.oS
  obtain ⟨l2, el2, hp⟩ := hp.oS
  obtain ⟨j, ej, hp⟩ := hp.oS
  cases s5.isInt (i := n) hb5 (by rw [ez, intD_some en'])
  obtain ⟨p2, ws, ev2, hH2, hl2, s6, en2⟩ := s5.drop.own el2
  rw [ev0] at ev2
  cases ev2
  have hj : j < l2.length := (ixN_seq ej).2.1
  refine ⟨m, n, rfl, rfl, p0, ws, k, j, rfl, rfl, hH2, by rw [hl2]; exact ej, hp _ _ ?_⟩
  obtain ⟨u2, eu, s7, back⟩ := s6.pull (List.getElem?_eq_getElem hj)
  have s8 : SR G.C (q.2.set i none) σ H3 (.one (.int (o.f m n)) (.val (.int (o.f m n))) :: .many (ws.eraseIdx j) (l2.eraseIdx j) :: .hole p0 :: stk) := s7.drop.imm fun B => ⟨rfl, rfl⟩
  exact (back _ _ _ _ _ _ s8).unown ev0 en2
/-- name += e, ints -/
def svAugN (o : AO) (i : Nat) (e : EF) : SF := fun ρ => oS (slotD ρ i) fun d => oS (intD d) fun m => (e ρ).st fun q => oS (dref q.2 q.1) fun y => oS (intD y) fun n => if i < q.2.length then .nx (q.2.set i (some (.int (o.f m n)))) else .no
theorem sv_augN {o : AO} {p2 : Pos} (hN : X.N.Nodup) (hi : X.N[i]? = some x) (hx : L2.Loc X.env.scope x) (hf : X.fn x = true ∨ X.env.scope.names.lookup x = some .local) (hk : i ∉ S.pn) (he : EvOk S X e fe) : SvOk S X (.AugAssign (.Name x p) o.op e pos) (svAugN o i fe) := fun G ft ρ σ H stk Dn hs hp => by
  obtain ⟨d, ed, hp⟩ := hp.oS
  obtain ⟨m, em, hp⟩ := hp.oS
  obtain ⟨v, ev, s1⟩ := hs.take (slotD_some ed)
  obtain ⟨B, O, r⟩ := s1.top
  rw [intD_some em] at r
  obtain ⟨rfl, _⟩ := r
  refine of_PS (ps_aug hN hi hx pe_W o.ip hf) ⟨_, ev, he G ft ρ σ H stk _ hs ((hp.st (σ := σ)).mono fun q hp u H3 s5 hb5 => ?_)⟩
  obtain ⟨z, ez, hp⟩ := hp.oS
  obtain ⟨n, en', hp⟩ := hp.oS
  cases s5.isInt (i := n) hb5 (by rw [ez, intD_some en'])
  by_cases hlt : i < q.2.length
  · rw [if_pos hlt] at hp
    have s6 : SR G.C q.2 σ H3 (.one (.int (o.f m n)) (.val (.int (o.f m n))) :: stk) := s5.drop.imm fun B => ⟨rfl, rfl⟩
    have h2 := (s6.gone i).put (i := i) (by rw [List.getElem?_set_self hlt]) (fun p hp' w => hk (by rw [← w]; exact ft.pin p hp'))
    rw [List.set_set] at h2
    exact ⟨m, n, rfl, rfl, hp _ _ h2⟩
  · rw [if_neg hlt] at hp
    exact hp.elim
end
end DV
namespace DV
open PySem L2

section
variable {S : Sg} {X : Cx} {a e ie : Expr} {fa fe fi : EF} {i : Nat} {x : Str} {p apos pos p2 : Pos}
/-! ### slices -/
def cutL {α : Type} (xs : List α) (lo hi : Option Int) : List α := (xs.drop (HT.sIx xs.length 0 lo)).take (HT.sIx xs.length xs.length hi - HT.sIx xs.length 0 lo)
theorem cutL_le {α : Type} (xs : List α) (lo hi : Option Int) : (cutL xs lo hi).length ≤ xs.length := by
  unfold cutL
  (rw [List.length_take, List.length_drop])
  omega
theorem cutL_get {α : Type} {xs : List α} {lo hi : Option Int} {j : Nat} {d : α} (h : (cutL xs lo hi)[j]? = some d) : xs[HT.sIx xs.length 0 lo + j]? = some d := by
  unfold cutL at h
  rw [List.getElem?_take] at h
  split at h
  · rw [List.getElem?_drop] at h
    exact h
  · cases h
theorem cutL_same {α β : Type} {xs : List α} {ys : List β} (h : xs.length = ys.length) (lo hi : Option Int) : (cutL xs lo hi).length = (cutL ys lo hi).length := by
  unfold cutL
  rw [List.length_take, List.length_drop, List.length_take, List.length_drop, h]
theorem cutL_all {α : Type} {xs : List α} {lo hi : Option Int} (h : HT.sIx xs.length 0 lo = 0 ∧ HT.sIx xs.length xs.length hi = xs.length) : cutL xs lo hi = xs := by
  unfold cutL
  rw [h.1, h.2]
  simp
def optE : Option EF → Env → R (Option Int × Env)
  | none, ρ => .ok (none, ρ)
  | some f, ρ => (f ρ).bind fun p => (oR (dref p.2 p.1)).bind fun d => (oR (intD d)).bind fun i => .ok (some i, p.2)
def PoOk (S : Sg) (X : Cx) (e : Option Expr) (F : Option EF) : Prop := ∃ t, PO X e t ∧ ∀ G, Fit S X G → ∀ ρ σ H stk Q, SR G.C ρ σ H stk → PR G σ stk (optE F ρ) (fun p => ∀ H', SR G.C p.2 σ H' stk → Q p.1 H') → t σ H Q
theorem pov_none : PoOk S X none none := ⟨_, po_none, fun G ft ρ σ H stk Q hs hp => hp H hs⟩
theorem pov_some (h : EvOk S X a fa) : PoOk S X (some a) (some fa) := ⟨_, po_some pe_W, fun G ft ρ σ H stk Q hs hp => h G ft ρ σ H stk _ hs (hp.bind.mono fun q hp v H' s hb => by
  obtain ⟨d, ed, hp⟩ := hp.bind.oR
  obtain ⟨k, ek, hp⟩ := hp.bind.oR
  cases s.isInt (i := k) hb (by rw [ed, intD_some ek])
  exact ⟨k, rfl, hp H' s.drop⟩)⟩
theorem SR.scrItems {C : Cn} {ρ : Env} {σ : St} {H : Hp} {stk : List SI} {v : V} {it : It} {l : List D} (h : SR C ρ σ H (.one v it :: stk)) (hb : BrwOk σ it v) (e : dref ρ it = some (.scr l)) :
    ∃ a vs, v = .ref a ∧ SqL C.K H a vs ∧ vs.length = l.length ∧ SR C ρ σ H (.many vs l :: stk) := by
  obtain ⟨Oρ, Os, B, h1, h2, hB, nd, nz, ow⟩ := h.ex
  obtain ⟨O1, r⟩ := h.look hb e h1 h2
  obtain ⟨b, us, rfl, f, ra, _⟩ := r
  obtain ⟨P1, P2, rfl, r2, _⟩ := RepK.one h2
  refine ⟨b, us, rfl, f.sql, ra.length, h.remk h1 ⟨[], P2, ra, r2, rfl⟩ hB nd nz ow (fun z hz => ?_) ?_ h.pin⟩
  · simp at hz ⊢
    rcases hz with q | q <;> simp [q]
  · exact nodup_sub (List.Sublist.append_left (List.sublist_append_right _ _) _) nd
def gSl (lo hi : Option Int) : D → Option D
  | .tup l => some (.tup (cutL l lo hi))
  | .str x => some (.str (cutL x lo hi))
  | .scr l => some (.lst true (cutL l lo hi))
  | .lst _ l => if isFzA l then some (.lst true (cutL l lo hi)) else none
  | _ => none
def evSl (a : EF) (lo hi : Option EF) : EF := fun ρ => (a ρ).bind fun p => (optE lo p.2).bind fun q => (optE hi q.2).bind fun r => (oR (dref r.2 p.1)).bind fun d => (oR (gSl q.1 r.1 d)).bind fun o => .ok (.val o, r.2)
theorem SR.cut {C : Cn} {ρ : Env} {σ : St} {H : Hp} {stk : List SI} {vs : List V} {l : List D} (h : SR C ρ σ H (.many vs l :: stk)) (f : isFzA l = true) (hl : vs.length = l.length) (lo hi : Option Int) : SR C ρ σ H (.many (cutV vs lo hi) (cutL l lo hi) :: stk) :=
  h.pick f (cutL_same hl.symm lo hi) (fun i => HT.sIx l.length 0 lo + i) (fun i d e => cutL_get e) (fun i v e => by
    have := cutL_get (xs := vs) (show (cutL vs lo hi)[i]? = some v from e)
    rw [hl] at this
    exact this)
theorem isFzA_cut {l : List D} (h : isFzA l = true) (lo hi : Option Int) : isFzA (cutL l lo hi) = true := by
  have key : ∀ m : List D, (∀ d ∈ m, isFz d = true) → isFzA m = true := fun m => by
    induction m with
    | nil => exact fun _ => rfl
    | cons d m ih => exact fun q => by simp [isFzA, q d (by simp), ih fun d hd => q d (by simp [hd])]
  refine key _ fun d hd => ?_
  obtain ⟨i, hi⟩ := List.mem_iff_getElem?.mp hd
  exact isFzA_of h (cutL_get hi)
theorem ev_sl {lo hi : Option Expr} {flo fhi : Option EF} (ha : EvOk S X a fa) (hlo : PoOk S X lo flo) (hhi : PoOk S X hi fhi) : EvOk S X (.Subscript a (.Slice lo hi none p2) pos) (evSl fa flo fhi) := fun G ft ρ σ H stk Q hs hp => by
  obtain ⟨tl, pl, hlo⟩ := hlo
  obtain ⟨th, ph, hhi⟩ := hhi
  refine of_PE (pe_slice (sl_list.or (sl_tupA.or sl_str)) pe_W pl ph) (ha G ft ρ σ H stk _ hs (hp.bind.mono fun q hp v H1 s1 hb => hlo G ft q.2 σ H1 _ _ s1 (hp.bind.up fun r hp H2 s2 => hhi G ft r.2 σ H2 _ _ s2 ((PR.up (x := .one v q.1) hp.bind) fun u hp H3 s3 => ?_))))
  obtain ⟨d, ed, hp⟩ := hp.bind.oR
  obtain ⟨o, eo, hp⟩ := hp.bind.oR
  have hk := ft.k
  cases d with
  | tup l =>
    cases eo
    have f := s3.itemsFz hb ed (l := l) rfl
    obtain ⟨b, us, rfl, _, _, qt, lb, s4⟩ := s3.items hb ed (l := l) rfl
    have qt := qt rfl
    rw [hk] at qt
    refine .inr (.inl ⟨b, us, rfl, qt, fun w => ?_, fun w p hp' => hp _ _ ((s4.cut f lb r.1 u.1).tuple hp' (isFzA_cut f _ _)) trivial⟩)
    rw [lb] at w
    rw [cutL_all w] at hp
    exact hp _ _ (s3.tupItself hb ed) trivial
  | scr l =>
    cases eo
    have f := s3.itemsFz hb ed (l := l) rfl
    obtain ⟨b, us, rfl, sq, lb, s4⟩ := s3.scrItems hb ed
    rw [hk] at sq
    exact .inl ⟨b, us, rfl, sq, fun p hp' => hp _ _ ((s4.cut f lb r.1 u.1).list hp') trivial⟩
  | lst o' l =>
    have eo : (if isFzA l then some (.lst true (cutL l r.1 u.1)) else none) = some o := eo
    by_cases f : isFzA l = true
    · rw [if_pos f] at eo
      cases eo
      obtain ⟨b, us, rfl, _, ql, _, lb, s4⟩ := s3.items hb ed (l := l) (by show (if _ then _ else _) = _; rw [if_pos f])
      exact .inl ⟨b, us, rfl, SqL.of (ql ⟨o', rfl⟩), fun p hp' => hp _ _ ((s4.cut f lb r.1 u.1).list hp') trivial⟩
    · rw [if_neg f] at eo
      cases eo
  | str x =>
    cases eo
    have rr := s3.see hb ed
    obtain ⟨rfl, hx, hz, _⟩ := rr
    have hlen : Str.length ⟨x.toArray⟩ = x.length := by simp [Str.length]
    refine .inr (.inr ⟨_, rfl, by rw [hlen]; exact hz, ?_⟩)
    have ec : cutS ⟨x.toArray⟩ r.1 u.1 = ⟨(cutL x r.1 u.1).toArray⟩ := by
      unfold cutS cutL
      rw [hlen]
    rw [ec]
    refine hp _ _ (s3.drop.imm fun B => ⟨rfl, fun c hc => ?_, Nat.le_trans (cutL_le _ _ _) hz, rfl⟩) trivial
    obtain ⟨j, ej⟩ := List.mem_iff_getElem?.mp hc
    exact hx c (List.mem_of_getElem? (cutL_get ej))
  | non => cases eo
  | bl _ => cases eo
  | int _ => cases eo
  | dct _ _ _ _ => cases eo
  | fn _ => cases eo

/-! ### backwards -/
theorem fm_all {α β : Type} {f : α → Option β} {g : α → β} : ∀ l : List α, (∀ m ∈ l, f m = some (g m)) → l.filterMap f = l.map g
  | [], _ => rfl
  | x :: l, h => by
    rw [List.filterMap_cons, h x (by simp), List.map_cons, fm_all l fun m hm => h m (by simp [hm])]
theorem krt_pick (xs : Array Value) : ((List.range xs.size).filterMap fun (m : Nat) => xs[(((xs.size : Int) - 1) + (m : Int) * (-1)).toNat]?).toArray = xs.toList.reverse.toArray := by
  congr 1
  have e : ∀ m ∈ List.range xs.size, xs[(((xs.size : Int) - 1) + (m : Int) * (-1)).toNat]? = some (xs.toList.reverse[m]?.getD default) := fun m hm => by
    have hm := List.mem_range.mp hm
    have e1 : (((xs.size : Int) - 1) + (m : Int) * (-1)).toNat = xs.size - 1 - m := by omega
    rw [e1, List.getElem?_reverse (by simpa using hm), Array.length_toList, Array.getElem?_toList, Array.getElem?_eq_getElem (by omega)]
    rfl
  rw [fm_all _ e]
  refine List.ext_getElem? fun i => ?_
  rw [List.getElem?_map]
  by_cases hi : i < xs.size
  · rw [List.getElem?_range hi]
    have : i < xs.toList.reverse.length := by simpa using hi
    rw [List.getElem?_eq_getElem this]
    simp only [Option.map_some]
    rw [List.getElem?_eq_getElem this]
    rfl
  · rw [List.getElem?_eq_none (by simpa using hi), List.getElem?_eq_none (by simpa using hi)]
    rfl
section
variable {w : World} {A : Around} {E : Value → Shared → Prop} {s : Shared} {prog : Program}
theorem rev_applied {sl : Addr} {vl vu vs : Value} {n : Nat} {Q : Int × Int × Nat → Shared → Prop} (hs : s.heap.IsSliceOf sl vl vu vs) (pl : IsPart vl none) (pu : IsPart vu none) (ps : IsPart vs (some (-1))) (h : Q ((n : Int) - 1, -1, n) s) : wpAny (model prog w) A (Builtin.Slice.sliceApplied (.ref sl) (pure (n : Int))) Q E s := by
  obtain ⟨oq, hoq, _, hdq⟩ := id hs
  (unfold Builtin.Slice.sliceApplied Builtin.Slice.sliceFields)
  refine wpAny_bind (wpAny_bind (wpAny_field hoq hdq (x := vl) rfl (wpAny_bind (wpAny_field hoq hdq (x := vu) rfl (wpAny_bind (wpAny_field hoq hdq (x := vs) rfl (wpAny_pure ?_)))))))
  refine wpAny_bind (HT.slicePart_ ps ?_)
  show wpAny _ _ (if ((-1 : Int) == 0) = true then _ else _) _ _ s
  rw [if_neg (by decide)]
  refine wpAny_bind (HT.slicePart_ pl (wpAny_bind (HT.slicePart_ pu (wpAny_bind (wpAny_pure ?_)))))
  show wpAny _ _ (pure ((n : Int) - 1, (-1 : Int), Builtin.Slice.slicePlaces ((n : Int) - 1) (-1) (-1))) _ _ s
  have eq : Builtin.Slice.slicePlaces ((n : Int) - 1) (-1) (-1) = n := by
    (unfold Builtin.Slice.slicePlaces)
    rw [if_neg (by decide)]
    split
    · have : ((n : Int) - 1 - -1 - 1) / (- -1) = (n : Int) - 1 := by
        rw [show (- -1 : Int) = 1 from rfl, Int.ediv_one]
        omega
      rw [this]
      omega
    · omega
  rw [eq]
  exact wpAny_pure h
theorem rev_tuple {t sl : Addr} {items : Array Value} {vl vu vs : Value} {Q : Value → Shared → Prop} (ht : PyProof.Rows.IsTup s.heap t items) (hs : s.heap.IsSliceOf sl vl vu vs) (pl : IsPart vl none) (pu : IsPart vu none) (ps : IsPart vs (some (-1)))
    (h : Q (.ref s.heap.objs.size) { s with heap := s.heap.push { cls := .type "tuple", data := .seq items.toList.reverse.toArray } }) (hsz : items.size ≤ sizeLine) : wpAny (model prog w) A (getItem (.ref t) (.ref sl)) Q E s := by
  have hzq : sizeOk (.seq items.toList.reverse.toArray) := by
    show items.toList.reverse.toArray.size ≤ sizeLine
    simpa using hsz
  obtain ⟨oq, hoq, hcq, _⟩ := id hs
  unfold getItem
  (try with_reducible refine wpAny_holding ?_)
  (first | refine wpAny_bind (wpAny_pure ?_) | skip)
  (refine wpAny_bind (wpAny_sequenceKey ht.typeIs (by decide) ?_))
  refine wpAny_bind (wpAny_callSpecial?_slot (name := Str.ofString "__getitem__") ht.typeIs PyProof.Rows.slot_tuple_getitem (wpAny_call_entry PyProof.Rows.slot_tuple_getitem ht.typeIs PyProof.Rows.entry_tuple_getitem ?_ (PyProof.Rows.args_tuple_getitem _ _)))
  (show wpAny _ _ (Builtin.Tuple.tupleItemsOf (.ref t) >>= _) _ _ s)
  refine wpAny_bind (PyProof.Rows.tupleItemsOf_ ht ?_)
  have hTq : s.TypeIs (.ref sl) "slice" := ⟨oq, hoq, hcq⟩
  refine wpAny_bind (wpAny_typeOf hTq ?_)
  rw [if_pos (by decide)]
  refine wpAny_bind (rev_applied hs pl pu ps ?_)
  show wpAny _ _ (if ((((items.size : Int) - 1) == 0 && (-1 : Int) == 1 && items.size == items.size)) = true then _ else _) _ _ s
  rw [if_neg (by rw [show ((-1 : Int) == 1) = false from rfl, Bool.and_false, Bool.false_and]; exact Bool.false_ne_true), krt_pick]
  first
    | exact wpAny_bind (m := Builtin.Tuple.tupleExact _) (wpAny_newObj_type (wpAny_pure ⟨_, rfl, wpAny_pure h⟩) hzq)
    | exact wpAny_bind (m := Builtin.Tuple.tupleExact _) (wpAny_newObj_type (wpAny_bind (wpAny_pure (wpAny_pure ⟨_, rfl, wpAny_pure h⟩))) hzq)
    | exact wpAny_bind (wpAny_bind (m := Builtin.Tuple.tupleExact _) (wpAny_newObj_type (wpAny_pure (wpAny_pure ⟨_, rfl, wpAny_pure h⟩)) hzq))
    | exact wpAny_bind (wpAny_bind (m := Builtin.Tuple.tupleExact _) (wpAny_newObj_type (wpAny_pure ⟨_, rfl, wpAny_pure h⟩) hzq))
end
end
end DV
namespace DV
open PySem L2 PySem.Spec
open PyProof.Rows (Call_)

section
variable {S : Sg} {X : Cx} {a b e : Expr} {fa fb : EF} {p pos p1 p2 p3 : Pos} {k : Nat}
/-! ### backwards -/
def tRev (K : PySem.W.Frag) (te : TE) : TE := fun σ H Q => te σ H fun x H1 => (∃ a xs, x = .ref a ∧ SqL K H1 a xs ∧ ∀ p, H1 p = none → Q (.ref p) (upd H1 p (.lst xs.reverse))) ∨ (∃ a xs, x = .ref a ∧ SqT K H1 a xs ∧ ∀ p, H1 p = none → Q (.ref p) (upd H1 p (.tup xs.reverse)))
theorem pe_rev {te : TE} (he : PE X e te) : PE X (.Subscript e (.Slice none none (some (.UnaryOp .USub (.Constant (.int 1) k p1) p2)) p3) pos) (tRev X.K te) := ⟨fun pinsq sq σq Hq Qq Iq hq => by
  refine PyProof.Rows.Subscript_ (thn (he.run pinsq sq σq Hq _ Iq hq) fun vq s1q ⟨xq, H1q, I1q, r1q, q1q⟩ => ?_)
  have hstq : PO X (some (.UnaryOp .USub (.Constant (.int 1) k p1) p2)) (tPart (tUn (rU fun iq => .int (-iq)) (tC (.int 1)))) := po_some (pe_un un_neg pe_int)
  refine wpAny_Slice (thn (po_none.run pinsq s1q σq H1q (fun oq H2q => oq = none ∧ H2q = H1q) I1q ⟨rfl, rfl⟩) fun vlq s2q ⟨lq, H2q, I2q, plq, elq, e2q⟩ => ?_)
  subst elq e2q
  refine thn (po_none.run pinsq s2q σq H2q (fun oq H3q => oq = none ∧ H3q = H2q) I2q ⟨rfl, rfl⟩) fun vuq s3q ⟨uq, H3q, I3q, puq, euq, e3q⟩ => ?_
  subst euq e3q
  refine thn (hstq.run pinsq s3q σq H3q (fun oq H4q => oq = some (-1) ∧ H4q = H3q) I3q ⟨1, rfl, -1, rfl, rfl, rfl⟩) fun vsq s4q ⟨oq, H4q, I4q, psq, eoq, e4q⟩ => ?_
  subst eoq e4q
  have I5q : Inv X pinsq σq H4q { s4q with heap := s4q.heap.push { cls := .type "slice", data := .fields #[vlq, vuq, vsq] } } := I4q.kept (t' := s4q.toks) fun bq obq qq => Heap.get?_push_of_some _ qq
  rcases q1q with ⟨aq, xsq, rfl, hxq, qq⟩ | ⟨aq, xsq, rfl, hxq, qq⟩
  · cases r1q
    obtain ⟨itsq, rq, htq, hzq⟩ := I5q.list hxq
    have hlenq := rq.length
    refine PyProof.Rows.tail_any (ops := [.ref aq, .ref s4q.heap.objs.size]) htq.isList.typeIs (PySem.slot_list_getitem.lookup) ?_ (by with_unfolding_all rfl)
    refine PySem.wpAny_getItem_list_slice htq.isList (Heap.IsSliceOf.new _ vlq vuq vsq) plq puq psq (by decide) ?_ (by rw [List.size_toArray]; omega)
    rw [PySem.W.krv_pick]
    refine ⟨.ref _, _, I5q.laid (t' := s4q.toks) (o := .lst xsq.reverse) (fun bq obq qq => Heap.get?_push_of_some _ qq) (Nat.le_refl _) ?_, rfl, qq _ (I5q.hok.fresh (Nat.le_refl _))⟩
    exact ⟨by rw [List.length_reverse]; exact hzq, _, 0, rq.reverse, Heap.get?_push_size _ rfl⟩
  · cases r1q
    obtain ⟨itsq, rq, htq, hzq⟩ := I5q.tuple hxq
    have hlenq := rq.length
    refine PyProof.Rows.tail_any (ops := [.ref aq, .ref s4q.heap.objs.size]) htq.typeIs (PyProof.Rows.slot_tuple_getitem.lookup) ?_ (by with_unfolding_all rfl)
    refine rev_tuple htq (Heap.IsSliceOf.new _ vlq vuq vsq) plq puq psq ?_ (by rw [List.size_toArray]; omega)
    refine ⟨.ref _, _, I5q.laid (t' := s4q.toks) (o := .tup xsq.reverse) (fun bq obq qq => Heap.get?_push_of_some _ qq) (Nat.le_refl _) ?_, rfl, qq _ (I5q.hok.fresh (Nat.le_refl _))⟩
    exact ⟨by rw [List.length_reverse]; exact hzq, _, rq.reverse, PyProof.Rows.IsTup.new _ _⟩⟩
theorem SR.rev {C : Cn} {ρ : Env} {σ : St} {H : Hp} {stk : List SI} {vs : List V} {l : List D} (h : SR C ρ σ H (.many vs l :: stk)) (f : isFzA l = true) (hl : vs.length = l.length) : SR C ρ σ H (.many vs.reverse l.reverse :: stk) :=
  h.pick f (by simp [hl]) (fun i => l.length - 1 - i) (fun i d e => by
    have hi : i < l.length := by have := (List.getElem?_eq_some_iff.mp e).1; simpa using this
    rw [List.getElem?_reverse hi] at e
    exact e) (fun i v e => by
    have hi : i < vs.length := by have := (List.getElem?_eq_some_iff.mp e).1; simpa using this
    rw [List.getElem?_reverse hi, hl] at e
    exact e)
theorem isFzA_rev {l : List D} (h : isFzA l = true) : isFzA l.reverse = true := by
  induction l with
  | nil => rfl
  | cons d l ih =>
    simp [isFzA] at h
    rw [List.reverse_cons]
    exact isFzA_app (ih h.2) (by simp [isFzA, h.1])
def gRev : D → Option D
  | .tup l => some (.tup l.reverse)
  | .scr l => some (.lst true l.reverse)
  | .lst _ l => if isFzA l then some (.lst true l.reverse) else none
  | _ => none
theorem ev_rev (ha : EvOk S X a fa) : EvOk S X (.Subscript a (.Slice none none (some (.UnaryOp .USub (.Constant (.int 1) k p1) p2)) p3) pos) (ev1 fa gRev) := fun G ft ρ σ H stk Q hs hp => by
  refine of_PE (pe_rev pe_W) (ha G ft ρ σ H stk _ hs (hp.bind.mono fun q hp v H3 s3 hb => ?_))
  obtain ⟨d, ed, hp⟩ := hp.bind.oR
  obtain ⟨o, eo, hp⟩ := hp.bind.oR
  have hk := ft.k
  cases d with
  | tup l =>
    cases eo
    have f := s3.itemsFz hb ed (l := l) rfl
    obtain ⟨b, us, rfl, _, _, qt, lb, s4⟩ := s3.items hb ed (l := l) rfl
    have qt := qt rfl
    rw [hk] at qt
    exact .inr ⟨b, us, rfl, qt, fun p hp' => hp _ _ ((s4.rev f lb).tuple hp' (isFzA_rev f)) trivial⟩
  | scr l =>
    cases eo
    have f := s3.itemsFz hb ed (l := l) rfl
    obtain ⟨b, us, rfl, sq, lb, s4⟩ := s3.scrItems hb ed
    rw [hk] at sq
    exact .inl ⟨b, us, rfl, sq, fun p hp' => hp _ _ ((s4.rev f lb).list hp') trivial⟩
  | lst o' l =>
    have eo : (if isFzA l then some (D.lst true l.reverse) else none) = some o := eo
    by_cases f : isFzA l = true
    · rw [if_pos f] at eo
      cases eo
      obtain ⟨b, us, rfl, _, ql, _, lb, s4⟩ := s3.items hb ed (l := l) (by show (if _ then _ else _) = _; rw [if_pos f])
      exact .inl ⟨b, us, rfl, SqL.of (ql ⟨o', rfl⟩), fun p hp' => hp _ _ ((s4.rev f lb).list hp') trivial⟩
    · rw [if_neg f] at eo
      cases eo
  | non => cases eo
  | str _ => cases eo
  | bl _ => cases eo
  | int _ => cases eo
  | dct _ _ _ _ => cases eo
  | fn _ => cases eo
end

/-! ### enumerate over tuples -/
set_option maxHeartbeats 1000001 in
theorem meets_enumT (l : Addr) (items : Array Value) :
    Meets (Builtin.«enumerate.__new__» ⟨[.type "enumerate", .ref l], []⟩) (fun _ Rq sq => sq.heap.IsTuple l items ∧
      Rq (.ok (.ret (.ref (sq.heap.push { cls := .type "tuple_iterator", data := .fields #[.ref l, .int 0 0] }).objs.size)))
        { sq with heap := (sq.heap.push { cls := .type "tuple_iterator", data := .fields #[.ref l, .int 0 0] }).push { cls := .type "enumerate", data := .fields #[.none, .bool false, .ref sq.heap.objs.size, rawInt 0, .none, .none] } }) :=
  .of_wp fun progq wq Aq Rq sq hq => by
    obtain ⟨hpq, gq, dq, tkq, osq⟩ := sq
    obtain ⟨h1q, hq⟩ := hq
    have hsubq := sub_enumerate
    have q1q : ∀ {A' : Around} {E : Value → Shared → Prop} {Q : Value → Shared → Prop}, Q (.ref hpq.objs.size) ⟨hpq.push { cls := .type "tuple_iterator", data := .fields #[.ref l, .int 0 0] }, gq, dq, tkq, osq⟩ → wpAny (model progq wq) A' (pyIter (.ref l)) Q E ⟨hpq, gq, dq, tkq, osq⟩ :=
      fun qq => wpAny_pyIter_tuple (s := ⟨hpq, gq, dq, tkq, osq⟩) h1q qq
    wp_walk using q1q
    refine wpAny_stack_any fun stq => wpAny_pure ?_
    split
    · rename_i c _ _ _ _ _
      (cases (c == Value.type "enumerate"))
      · wp_walk using q1q; exact ⟨_, rfl, hq⟩
      · wp_walk using q1q; exact ⟨_, rfl, hq⟩
    · wp_walk using q1q; exact ⟨_, rfl, hq⟩
end DV
namespace DV
open PySem L2 PySem.Spec
open PyProof.Rows (Call_)

section
variable {w : World} {A : Around} {E : Value → Shared → Prop} {s : Shared} {prog : Program}
theorem call_enumT {l : Addr} {items : Array Value} {Q : Value → Shared → Prop} (hL : s.heap.IsTuple l items)
    (h : ∀ h', IsEnum h' (s.heap.objs.size + 1) s.heap.objs.size 0 .none → h'.IsTupleIter s.heap.objs.size l 0 → (∀ bq oq, s.heap.get? bq = some oq → h'.get? bq = some oq) → Q (.ref (s.heap.objs.size + 1)) { s with heap := h' }) : wpAny (model prog w) A (call (.type "enumerate") [.ref l]) Q E s := by
  refine callType_new F.called_enumerate (by decide) (F.typeCall_enumerate_1 _) (F.newCall_enumerate_1 _) (fun objq => F.args_object_init_2 objq _) F.entry_enumerate_new (meets_enumT l items) ⟨hL, ?_⟩
  have hzq : (s.heap.push { cls := .type "tuple_iterator", data := .fields #[.ref l, .int 0 0] }).objs.size = s.heap.objs.size + 1 := Heap.size_push ..
  show _ ∧ _
  rw [hzq]
  have heq : IsEnum ((s.heap.push { cls := .type "tuple_iterator", data := .fields #[.ref l, .int 0 0] }).push { cls := .type "enumerate", data := .fields #[.none, .bool false, .ref s.heap.objs.size, rawInt 0, .none, .none] }) (s.heap.objs.size + 1) s.heap.objs.size 0 .none := by
    have qq := Heap.get?_push_size (s.heap.push { cls := .type "tuple_iterator", data := .fields #[.ref l, .int 0 0] }) (o := { cls := .type "enumerate", data := .fields #[.none, .bool false, .ref s.heap.objs.size, rawInt 0, .none, .none] }) rfl
    rw [hzq] at qq; exact qq
  exact ⟨⟨_, heq, rfl⟩, h _ heq ⟨_, Heap.get?_push_of_some _ (Heap.get?_push_size _ rfl), rfl, rfl⟩ fun bq oq xq => Heap.get?_push_of_some _ (Heap.get?_push_of_some _ xq)⟩
end
/-- the tuple at a, its items with their places in new pairs -/
def IteT (K : PySem.W.Frag) (a : Addr) : L2.It :=
  ⟨fun i H => ∃ (xs : List V) (x : V), SqT K H a xs ∧ xs[i]? = some x, fun i H v H' => ∃ T x, v = .ref T ∧ H T = none ∧ H' = upd H T (.tup [.int (i : Nat), x]) ∧ ∀ xs, SqT K H a xs → xs[i]? = some x, fun i H => ∃ xs : List V, SqT K H a xs ∧ xs.length ≤ i⟩
theorem turn_enumT {P : Program} {w : World} {K : PySem.W.Frag} {elts : List Expr} {kk : Nat} {tpos : Pos} (a e it : Addr) :
    Turn P w K (.Tuple elts kk tpos) (IteT K a) [e, it] e (fun iq hq => (∃ oldq, IsEnum hq e it ((iq : Nat) : Int) oldq) ∧ hq.IsTupleIter it a iq ∧ e ≠ it ∧ a ≠ it ∧ a ≠ e) where
  mem := by simp
  obj := fun iq hq stq bq hbq => by
    obtain ⟨⟨oldq, heq⟩, ⟨oq, hoq, hcq, hdq⟩, _⟩ := stq
    have eq' : bq = e ∨ bq = it := by simpa using hbq
    rcases eq' with zq | zq
    · rw [zq]; exact ⟨_, heq, fun vq qq => nomatch qq⟩
    · rw [zq]; exact ⟨oq, hoq, fun vq qq => by rw [hdq] at qq; cases qq⟩
  keep := fun iq hq hq' stq kq => by
    obtain ⟨⟨oldq, heq⟩, hiq, hneq⟩ := stq
    exact ⟨⟨oldq, kq e (by simp) _ heq⟩, hiq.at fun oq qq => kq it (by simp) oq qq, hneq⟩
  item := by
    intro Xq hPq hwq hKq hcq iq pinsq sq σq Hq Eq Iq hfq stq hgq
    subst hPq hwq hKq
    obtain ⟨⟨oldq, heq⟩, hitq, hneq, haiq, haeq⟩ := stq
    obtain ⟨xsq, xq, hqq, hxq⟩ := hgq
    obtain ⟨itsq, rvq, pq, hzq⟩ := Iq.tuple hqq
    obtain ⟨uq, huq, ruq⟩ := rvq.get hxq
    have helq : e < sq.heap.objs.size := Heap.lt_size heq
    have hilq : it < sq.heap.objs.size := by obtain ⟨_, qq, _⟩ := hitq; exact Heap.lt_size qq
    have hlenq : iq < itsq.toArray.size := by
      have := (List.getElem?_eq_some_iff.mp huq).1
      simpa using this
    refine wpAny_pyNext_enum_itemD (Draws.tuple (A := Xq.A.in1) (by show Xq.A.handled = none; exact Iq.ok.hd hcq) it a haiq itsq.toArray) heq ⟨hitq, show sq.heap.IsTuple a itsq.toArray from pq⟩ hlenq hneq (by simp [hneq, Ne.symm haeq]) fun yq hq' tkq hyq hoq hitq' hTq hszq hkq => ?_
    have eyq : yq = uq := by
      have : itsq.toArray[iq]? = some uq := by simpa using huq
      rw [this] at hyq
      exact (Option.some.inj hyq).symm
    subst eyq
    refine ⟨_, rfl, wpAny_letOwnedTupleGo_enum (s := { sq with heap := hq', toks := tkq + 1 }) hoq fun h'q' heq' sbq => ?_⟩
    have hT2q : h'q'.get? sq.heap.objs.size = some { cls := .type "tuple", data := .seq #[.int iq tkq, yq] } := (sbq.2 _ (Nat.ne_of_gt helq)).trans hTq
    have newq : ObjOk Xq.prog Xq.w (upd Hq sq.heap.objs.size (.tup [.int (iq : Nat), xq])) h'q' sq.heap.objs.size (.tup [.int (iq : Nat), xq]) :=
      ⟨by show 2 ≤ sizeLine; decide, [.int iq tkq, yq], .cons ⟨_, rfl⟩ (.cons ruq .nil), ⟨_, hT2q, rfl, _, rfl⟩⟩
    have I1q : Inv Xq pinsq σq (upd Hq sq.heap.objs.size (.tup [.int (iq : Nat), xq])) { sq with heap := h'q', toks := tkq + 1 } :=
      Iq.turnedNew (ch := [e, it]) (fun bq obq hbq qq => (sbq.2 bq (fun zq => hbq (by simp [zq]))).trans (hkq bq obq (fun zq => hbq (by simp [zq])) (fun zq => hbq (by simp [zq])) qq)) hfq (Nat.le_refl _) newq
    refine ⟨.ref sq.heap.objs.size, _, I1q, rfl, ⟨_, xq, rfl, Iq.hok.fresh (Nat.le_refl _), rfl, fun ysq hyq => by rw [Iq.tuple_inj hyq hqq]; exact hxq⟩, ⟨⟨yq, ?_⟩, hitq'.1.at fun oq qq => (sbq.2 it (Ne.symm hneq)).trans qq, hneq, haiq, haeq⟩, fun bq hbq => ?_⟩
    · rw [show ((iq + 1 : Nat) : Int) = (iq : Int) + 1 by omega]; exact heq'
    · have hbq' : bq < sq.heap.objs.size := by
        have eq' : bq = e ∨ bq = it := by simpa using hbq
        rcases eq' with zq | zq <;> rw [zq]
        · exact helq
        · exact hilq
      rw [upd_ne (Nat.ne_of_lt hbq')]
      exact (hfq bq hbq).1
  done := by
    intro Xq hPq hwq hKq hcq iq pinsq sq σq Hq Eq Iq hfq stq hgq
    subst hPq hwq hKq
    obtain ⟨⟨oldq, heq⟩, hitq, hneq, haiq, haeq⟩ := stq
    obtain ⟨xsq, hqq, hxq⟩ := hgq
    obtain ⟨itsq, rvq, pq, hzq⟩ := Iq.tuple hqq
    obtain ⟨f0q, f1q, f2q, f3q, f4q, f5q⟩ := hfq it (by simp)
    have hlq := rvq.length
    have hTq : sq.TypeIs (.ref e) "enumerate" := ⟨_, heq, rfl⟩
    unfold pyNext
    refine wpAny_bind (wpAny_attempt (wpAny_callSpecial?_slot (name := Str.ofString "__next__") hTq F.slot_enumerate_next (wpAny_call_entry F.slot_enumerate_next hTq F.entry_enumerate_next ?_ (F.args_enumerate_next_1 _))))
    (show wpAny _ _ (field (.ref e) 2 >>= _) _ _ _)
    refine wpAny_bind (wpAny_field heq rfl (x := .ref it) rfl ?_)
    refine wpAny_bind (wpAny_nextOf_tuple_end (by show Xq.A.handled = none; exact Iq.ok.hd hcq) hitq (show sq.heap.IsTuple a itsq.toArray from pq) (by simp; omega) fun hq' xq ebq hxq' => ?_)
    obtain ⟨oq, hoq, hccq⟩ := hxq'
    refine wpAny_bind (wpAny_isInstance (T := "StopIteration") (b := true) ⟨oq, hoq, hccq⟩ isSubtype_stop ?_)
    exact wpAny_pure ⟨rfl, Iq.turned (t' := sq.toks) (fun bq oq hbq qq => ebq bq oq hbq qq) f0q f1q f3q f4q f5q⟩
  self := fun Aq iq sq Qq Eq stq hq => by
    obtain ⟨⟨_, heq⟩, _⟩ := stq
    exact wpAny_pyIter_enum heq hq
def iEnumA (K : PySem.W.Frag) (te : TE) : TI := fun σ H R => te σ H fun x H1 => (∃ a, x = .ref a ∧ (∃ xs, SqL K H1 a xs) ∧ R (Ite K a) H1) ∨ (∃ a, x = .ref a ∧ (∃ xs, SqT K H1 a xs) ∧ R (IteT K a) H1)
theorem pi_enumA {X : Cx} {e : Expr} {te : TE} {p pos tpos : Pos} {elts : List Expr} {kk : Nat} (hg : Gl X "enumerate") (hm : X.mg "enumerate" = none) (ha : PE X e te) (hs : starEach [e] X.env = (false, eval e X.env) :: starEach [] X.env) :
    PI X (.Tuple elts kk tpos) (.Call (.Name "enumerate" p) [e] [] pos) (iEnumA X.K te) := ⟨fun pinsq sq σq Hq Rq Iq hq => by
  refine Call_ (ld_blt Iq hg hm PyProof.Rows.boot_enumerate (PyProof.Rows.callWith_type1 (PyProof.Rows.args_cons (thn (ha.run pinsq sq σq Hq _ Iq hq) fun xq s1q ⟨vq, H1q, I1q, r1q, q1q⟩ => PyProof.Rows.args_nil ?_) hs) hs))
  have freshq : ∀ bq, bq ∈ [s1q.heap.objs.size + 1, s1q.heap.objs.size] → FpOk X pinsq H1q bq := fun bq hbq => by
    have eq' : bq = s1q.heap.objs.size + 1 ∨ bq = s1q.heap.objs.size := by simpa using hbq
    have hleq : s1q.heap.objs.size ≤ bq := by rcases eq' with z | z <;> omega
    exact I1q.fpOk hleq (I1q.hok.fresh hleq)
  rcases q1q with ⟨aq, rfl, ⟨xsq, hqq⟩, qq⟩ | ⟨aq, rfl, ⟨xsq, hqq⟩, qq⟩
  · cases r1q
    obtain ⟨itsq, rvq, pq', hzq⟩ := I1q.list hqq
    refine call_enumerate_list pq'.isList fun hq' heq hitq hszq hkq => wpAny_pyIter_enum heq ?_
    have I2q : Inv X pinsq σq H1q { s1q with heap := hq' } := I1q.kept (t' := s1q.toks) hkq
    exact ⟨s1q.heap.objs.size + 1, [s1q.heap.objs.size + 1, s1q.heap.objs.size], _, _, H1q, rfl, I2q, turn_enum aq (s1q.heap.objs.size + 1) s1q.heap.objs.size, ⟨⟨.none, heq⟩, hitq, Nat.succ_ne_self _⟩, freshq, qq⟩
  · cases r1q
    obtain ⟨itsq, rvq, pq', hzq⟩ := I1q.tuple hqq
    have hlq : aq < s1q.heap.objs.size := by
      obtain ⟨oq, hoq, _⟩ := id pq'
      exact Heap.lt_size hoq
    refine call_enumT (show s1q.heap.IsTuple aq itsq.toArray from pq') fun hq' heq hitq hkq => wpAny_pyIter_enum heq ?_
    have I2q : Inv X pinsq σq H1q { s1q with heap := hq' } := I1q.kept (t' := s1q.toks) hkq
    exact ⟨s1q.heap.objs.size + 1, [s1q.heap.objs.size + 1, s1q.heap.objs.size], _, _, H1q, rfl, I2q, turn_enumT aq (s1q.heap.objs.size + 1) s1q.heap.objs.size, ⟨⟨.none, heq⟩, hitq, Nat.succ_ne_self _, Nat.ne_of_lt hlq, Nat.ne_of_lt (Nat.lt_succ_of_lt hlq)⟩, freshq, qq⟩⟩
/-! ### what they give -/
section
variable {S : Sg} {X : Cx} {tg a b : Expr} {fa fb : EF} {p pos : Pos}
def enumD : Nat → List D → List D
  | _, [] => []
  | i, d :: l => .tup [.int (i : Int), d] :: enumD (i + 1) l
theorem enumD_len : ∀ (l : List D) (i : Nat), (enumD i l).length = l.length
  | [], _ => rfl
  | d :: l, i => by simp [enumD, enumD_len l]
theorem enumD_get : ∀ {l : List D} {i j : Nat} {e : D}, (enumD i l)[j]? = some e → ∃ d, l[j]? = some d ∧ e = .tup [.int ((i + j : Nat) : Int), d]
  | [], _, _, _, h => by simp [enumD] at h
  | d :: l, i, 0, e, h => by
    simp [enumD] at h
    exact ⟨d, rfl, h.symm⟩
  | d :: l, i, j + 1, e, h => by
    have h : (enumD (i + 1) l)[j]? = some e := by simpa [enumD] using h
    obtain ⟨d', e1, e2⟩ := enumD_get h
    exact ⟨d', by simpa using e1, by rw [e2]; congr 2; rw [show i + 1 + j = i + (j + 1) by omega]⟩
/-- the i-th item of a walked thing, on the stack, as a new pair -/
theorem SR.pair {C : Cn} {ρ : Env} {σ : St} {H : Hp} {stk : List SI} {n : Int} {x : V} {d : D} {T : Addr} (h : SR C ρ σ H (.one x (.val d) :: stk)) (f : isFz d = true) (hT : H T = none) : SR C ρ σ (upd H T (.tup [.int n, x])) (.one (.ref T) (.val (.tup [.int n, d])) :: stk) := by
  have h2 : SR C ρ σ H (.one (.int n) (.val (.int n)) :: .one x (.val d) :: stk) := h.imm fun B => ⟨rfl, rfl⟩
  exact h2.swap.oneMany.consMany.tuple hT (by simp [isFzA, isFz, f])
/-- a walked sequence: its place, its items -/
theorem SR.walked {C : Cn} {ρ : Env} {σ : St} {H : Hp} {stk : List SI} {v : V} {d : D} {l : List D} (h : SR C ρ σ H (.one v (.val d) :: stk)) (hd : d = .tup l ∨ d = .lst false l ∨ d = .scr l) :
    ∃ a vs, v = .ref a ∧ vs.length = l.length ∧ isFzA l = true ∧ ((d = .tup l → SqT C.K H a vs) ∧ (d ≠ .tup l → SqL C.K H a vs)) ∧ ∀ ws : List V, (SqT C.K H a ws ∨ SqL C.K H a ws) → True := by
  obtain ⟨B, O, r⟩ := h.top
  rcases hd with rfl | rfl | rfl
  · obtain ⟨a, vs, rfl, f, ra, _⟩ := r
    exact ⟨a, vs, rfl, ra.length, ra.fz, ⟨fun _ => f.sqt, fun z => absurd rfl z⟩, fun _ _ => trivial⟩
  · obtain ⟨a, vs, rfl, f, ra, _⟩ := r
    exact ⟨a, vs, rfl, ra.length, ra.fz, ⟨fun z => (nomatch z), fun _ => f.sql⟩, fun _ _ => trivial⟩
  · obtain ⟨a, vs, rfl, f, ra, _⟩ := r
    exact ⟨a, vs, rfl, ra.length, ra.fz, ⟨fun z => (nomatch z), fun _ => f.sql⟩, fun _ _ => trivial⟩
/-- its i-th item, pushed -/
theorem SR.itemT {C : Cn} {ρ : Env} {σ : St} {H : Hp} {stk s : List SI} {a : Addr} {l : List D} {i : Nat} {e : D} {x : V} (h : SR C ρ σ H (.one (.ref a) (.val (.tup l)) :: stk)) (he : l[i]? = some e) (hx : ∀ xs, SqT C.K H a xs → xs[i]? = some x) : SR C ρ σ H (.one x (.val e) :: .one (.ref a) (.val (.tup l)) :: stk) :=
  h.item (.inl rfl) (fun B O r => by
    obtain ⟨a', vs, e1, f, r, _⟩ := r
    cases e1
    exact ⟨vs, r, hx vs f.sqt⟩) he (vs := [])
theorem SR.itemL {C : Cn} {ρ : Env} {σ : St} {H : Hp} {stk s : List SI} {a : Addr} {d : D} {l : List D} {i : Nat} {e : D} {x : V} (h : SR C ρ σ H (.one (.ref a) (.val d) :: stk)) (hd : d = .lst false l ∨ d = .scr l) (he : l[i]? = some e) (hx : ∀ xs, SqL C.K H a xs → xs[i]? = some x) : SR C ρ σ H (.one x (.val e) :: .one (.ref a) (.val d) :: stk) :=
  h.item (.inr hd) (fun B O r => by
    rcases hd with rfl | rfl
    · obtain ⟨a', vs, e1, f, r, _⟩ := r
      cases e1
      exact ⟨vs, r, hx vs f.sql⟩
    · obtain ⟨a', vs, e1, f, r, _⟩ := r
      cases e1
      exact ⟨vs, r, hx vs f.sql⟩) he (vs := [])
theorem src_enumT {C : Cn} {a : Addr} {l : List D} : Src C (IteT C.K a) (enumD 0 l) [.one (.ref a) (.val (.tup l))] := ⟨fun ρ σ H s i h => by
  have h' : SR C ρ σ H (.one (.ref a) (.val (.tup l)) :: s) := h
  obtain ⟨a', vs, e1, hl, f, ⟨q, _⟩, _⟩ := h'.walked (.inl rfl)
  cases e1
  have q := q rfl
  refine ⟨fun d ed => ?_, fun hi => ⟨vs, q, by rw [enumD_len] at hi; omega⟩⟩
  obtain ⟨d', e1, e2⟩ := enumD_get ed
  have hi := (List.getElem?_eq_some_iff.mp e1).1
  refine ⟨⟨vs, vs[i]'(by omega), q, List.getElem?_eq_getElem _⟩, fun x H' y => ?_⟩
  obtain ⟨T, z, rfl, hT, rfl, hz⟩ := y
  rw [e2, Nat.zero_add]
  exact (h'.itemT (s := []) e1 hz).pair (isFzA_of f e1) hT⟩
theorem src_enumL {C : Cn} {a : Addr} {d : D} {l : List D} (hd : d = .lst false l ∨ d = .scr l) : Src C (Ite C.K a) (enumD 0 l) [.one (.ref a) (.val d)] := ⟨fun ρ σ H s i h => by
  have h' : SR C ρ σ H (.one (.ref a) (.val d) :: s) := h
  obtain ⟨a', vs, e1, hl, f, ⟨_, q⟩, _⟩ := h'.walked (.inr hd)
  cases e1
  have q := q (by rcases hd with rfl | rfl <;> exact fun z => nomatch z)
  refine ⟨fun d ed => ?_, fun hi => ⟨vs, q, by rw [enumD_len] at hi; omega⟩⟩
  obtain ⟨d', e1, e2⟩ := enumD_get ed
  have hi := (List.getElem?_eq_some_iff.mp e1).1
  refine ⟨⟨vs, vs[i]'(by omega), q, List.getElem?_eq_getElem _⟩, fun x H' y => ?_⟩
  obtain ⟨T, z, rfl, hT, rfl, hz⟩ := y
  rw [e2, Nat.zero_add]
  exact (h'.itemL (s := []) hd e1 hz).pair (isFzA_of f e1) hT⟩
def ivEnum (a : EF) : IF := fun ρ => (a ρ).bind fun p => (oR (settle p.2 p.1)).bind fun q => match q.1 with
  | .tup l => .ok (enumD 0 l, q.2)
  | .scr l => .ok (enumD 0 l, q.2)
  | .lst false l => .ok (enumD 0 l, q.2)
  | _ => .no
theorem iv_enum {elts : List Expr} {kk : Nat} {tpos : Pos} (hg : Gl X "enumerate") (hm : X.mg "enumerate" = none) (ha : EvOk S X a fa) (hst : notStar a = true) : IvOk S X (.Tuple elts kk tpos) (.Call (.Name "enumerate" p) [a] [] pos) (ivEnum fa) := fun G ft ρ σ H stk R hs hp =>
  of_PI (pi_enumA hg hm pe_W (star_cons hst)) (ha G ft ρ σ H stk _ hs (hp.bind.mono fun q hp v H1 s1 hb => by
    obtain ⟨d, ed, hp⟩ := hp.bind.oR
    have s2 := (s1.settle hb ed).1
    split at hp
    · rename_i l el
      rw [el] at s2
      obtain ⟨b, vs, rfl, _, _, ⟨q, _⟩, _⟩ := s2.walked (.inl rfl)
      have q := q rfl
      have z := hp _ _ H1 (src_enumT (C := G.C) (a := b) (l := l)) s2
      rw [ft.k] at z q
      exact .inr ⟨b, rfl, ⟨_, q⟩, z⟩
    · rename_i l el
      rw [el] at s2
      obtain ⟨b, vs, rfl, _, _, ⟨_, q⟩, _⟩ := s2.walked (.inr (.inr rfl))
      have q := q (fun z => nomatch z)
      have z := hp _ _ H1 (src_enumL (C := G.C) (a := b) (l := l) (.inr rfl)) s2
      rw [ft.k] at z q
      exact .inl ⟨b, rfl, ⟨_, q⟩, z⟩
    · rename_i l el
      rw [el] at s2
      obtain ⟨b, vs, rfl, _, _, ⟨_, q⟩, _⟩ := s2.walked (.inr (.inl rfl))
      have q := q (fun z => nomatch z)
      have z := hp _ _ H1 (src_enumL (C := G.C) (a := b) (l := l) (.inl rfl)) s2
      rw [ft.k] at z q
      exact .inl ⟨b, rfl, ⟨_, q⟩, z⟩
    · exact hp.elim))
end
end DV
namespace DV
open PySem L2 PySem.Spec
open PyProof.Rows (Call_)

/-! ### zip of two things, each a tuple or a list -/
def SqK (t : Bool) (K : PySem.W.Frag) (H : Hp) (a : Addr) (xs : List V) : Prop := match t with
  | true => SqT K H a xs
  | false => SqL K H a xs
def HSq (t : Bool) (h : Heap) (a : Addr) (v : Array Value) : Prop := match t with
  | true => h.IsTuple a v
  | false => h.IsList a v
def HIt (t : Bool) (h : Heap) (i a : Addr) (n : Nat) : Prop := match t with
  | true => h.IsTupleIter i a n
  | false => h.IsListIter i a n
def itO (t : Bool) (a : Addr) : Obj := match t with
  | true => { cls := .type "tuple_iterator", data := .fields #[.ref a, .int 0 0] }
  | false => { cls := .type "list_iterator", data := .fields #[.ref a, .int 0 0] }
theorem begK (t : Bool) (a : Addr) (v : Array Value) : Begins (.ref a) (itO t a) fun h => HSq t h a v := by
  cases t with
  | true => exact begins_tuple a v
  | false => exact begins_list a v
theorem drawK {prog : Program} {w : World} {A : Around} (t : Bool) (hh : A.handled = none) (i a : Addr) (ne : a ≠ i) (v : Array Value) : Draws prog w A i [i, a] v.size (fun n x => v[n]? = some x) fun n h => HIt t h i a n ∧ HSq t h a v := by
  cases t with
  | true => exact Draws.tuple hh i a ne v
  | false => exact Draws.list hh i a ne v
theorem HIt.at {t : Bool} {h h' : Heap} {i a : Addr} {n : Nat} (x : HIt t h i a n) (k : ∀ o, h.get? i = some o → h'.get? i = some o) : HIt t h' i a n := by
  cases t with
  | true => exact Heap.IsTupleIter.at x k
  | false => exact Heap.IsListIter.at x k
theorem HIt.ob {t : Bool} {h : Heap} {i a : Addr} {n : Nat} (x : HIt t h i a n) : ∃ o, h.get? i = some o ∧ ∀ v, o.data ≠ .cell v := by
  cases t with
  | true =>
    obtain ⟨o, e, _, d⟩ := x
    exact ⟨o, e, fun v q => by rw [d] at q; cases q⟩
  | false =>
    obtain ⟨o, e, _, d⟩ := x
    exact ⟨o, e, fun v q => by rw [d] at q; cases q⟩
theorem HIt.begin {t : Bool} {h : Heap} {i a : Addr} (e : h.get? i = some (itO t a)) : HIt t h i a 0 := by
  cases t with
  | true => exact ⟨_, e, rfl, rfl⟩
  | false => exact ⟨_, e, rfl, rfl⟩
section
variable {pins : List (Addr × Obj)} {σ : St} {H : Hp} {s : Shared} {X : Cx}
theorem SqK.stands {t : Bool} {a : Addr} {xs : List V} (I : Inv X pins σ H s) (h : SqK t X.K H a xs) : ∃ its : List Value, Vals xs its ∧ HSq t s.heap a its.toArray ∧ a < s.heap.objs.size := by
  cases t with
  | true =>
    obtain ⟨its, r, p, _⟩ := I.tuple h
    obtain ⟨o, e, _⟩ := id p
    exact ⟨its, r, show s.heap.IsTuple a its.toArray from p, Heap.lt_size e⟩
  | false =>
    obtain ⟨its, r, p, _⟩ := I.list h
    exact ⟨its, r, p.isList, p.lt⟩
theorem SqK.one {t : Bool} {a : Addr} {xs ys : List V} (I : Inv X pins σ H s) (h : SqK t X.K H a xs) (h' : SqK t X.K H a ys) : xs = ys := by
  cases t with
  | true => exact I.tuple_inj h h'
  | false => exact I.list_inj h h'
end
/-- the turns: what stands at a and at b (so long, both) side by side, each pair new -/
def ItG (t u : Bool) (K : PySem.W.Frag) (a b : Addr) (m n : Nat) : L2.It :=
  ⟨fun i H => ∃ (xs ys : List V) (x y : V), SqK t K H a xs ∧ SqK u K H b ys ∧ xs.length = m ∧ ys.length = n ∧ xs[i]? = some x ∧ ys[i]? = some y,
    fun i H v H' => ∃ T x y, v = .ref T ∧ H T = none ∧ H' = upd H T (.tup [x, y]) ∧ (∀ xs, SqK t K H a xs → xs[i]? = some x) ∧ ∀ ys, SqK u K H b ys → ys[i]? = some y,
    fun i H => ∃ xs ys : List V, SqK t K H a xs ∧ SqK u K H b ys ∧ xs.length = m ∧ ys.length = n ∧ (m ≤ i ∨ n ≤ i)⟩
theorem turnG {P : Program} {w : World} {K : PySem.W.Frag} {t u : Bool} {es : List Expr} {kk : Nat} {tp : Pos} {a b z TI TO i1 i2 : Addr} {lm ln : Nat} (D : ZipSep2 z TI TO i1 i2 [i1, a] [i2, b]) (n1 : a ≠ i1) (n2 : b ≠ i2) :
    Turn P w K (.Tuple es kk tp) (ItG t u K a b lm ln) [z, TI, TO, i1, i2] z (fun i h => IsZip h z TI TO .none ∧ IsTupOf2 h TI (.ref i1) (.ref i2) ∧ (∃ x y, IsTupOf2 h TO x y) ∧ HIt t h i1 a i ∧ HIt u h i2 b i ∧ i ≤ lm ∧ i ≤ ln) where
  mem := List.mem_cons_self ..
  obj := fun i h st c hc => by
    obtain ⟨hz, hI, ⟨x, y, hO⟩, g1, g2, b1, b2⟩ := st
    simp only [List.mem_cons, List.not_mem_nil, or_false] at hc
    rcases hc with rfl | rfl | rfl | rfl | rfl
    · exact ⟨_, hz, fun v q => nomatch q⟩
    · exact ⟨_, hI, fun v q => nomatch q⟩
    · exact ⟨_, hO, fun v q => nomatch q⟩
    · exact g1.ob
    · exact g2.ob
  keep := fun i h h' st k => by
    obtain ⟨hz, hI, ⟨x, y, hO⟩, g1, g2, b1, b2⟩ := st
    have km : ∀ c, c ∈ [z, TI, TO, i1, i2] → ∀ o, h.get? c = some o → h'.get? c = some o := k
    exact ⟨km z (by simp) _ hz, km TI (by simp) _ hI, ⟨x, y, km TO (by simp) _ hO⟩, g1.at (km i1 (by simp)), g2.at (km i2 (by simp)), b1, b2⟩
  item := by
    intro X eP ew eK calm i pins s σ H E I hf st hg
    subst eP ew eK
    obtain ⟨hz, hI, ⟨x0, y0, hO⟩, g1, g2, b1, b2⟩ := st
    obtain ⟨xs, ys, x, y, q1, q2, m1', m2', ex, ey⟩ := hg
    obtain ⟨is1, r1, p1, _⟩ := q1.stands I
    obtain ⟨is2, r2, p2, _⟩ := q2.stands I
    obtain ⟨v1, m1, rv1⟩ := r1.get ex
    obtain ⟨v2, m2, rv2⟩ := r2.get ey
    have zl : z < s.heap.objs.size := Heap.lt_size hz
    have hd1 : X.A.in1.handled = none := I.ok.hd calm
    have l1 : i < is1.toArray.size := by simpa using (List.getElem?_eq_some_iff.mp m1).1
    have l2 : i < is2.toArray.size := by simpa using (List.getElem?_eq_some_iff.mp m2).1
    refine wpAny_pyNext_zipD2_item D (drawK (A := X.A.in1) t hd1 i1 a n1 is1.toArray) (drawK (A := X.A.in1) u hd1 i2 b n2 is2.toArray) hz hI hO ⟨g1, p1⟩ ⟨g2, p2⟩ l1 l2 fun w1 w2 h' tk e1 e2 z1 o1 c1 c2 hT _ hk => ?_
    have ew1 : v1 = w1 := by simpa [m1] using e1
    have ew2 : v2 = w2 := by simpa [m2] using e2
    subst ew1 ew2
    refine ⟨_, rfl, wpAny_letOwnedTupleGo_zip (s := { s with heap := h', toks := tk }) z1 fun h2 z2 sb => ?_⟩
    have up : ∀ c o, c ≠ z → c ≠ TO → c ≠ i1 → c ≠ i2 → s.heap.get? c = some o → h2.get? c = some o := fun c o a1 a2 a3 a4 e => (sb.2 c a1).trans (hk c o a1 a2 a3 a4 e)
    have hT2 : h2.get? s.heap.objs.size = some { cls := .type "tuple", data := .seq #[v1, v2] } := (sb.2 _ (Nat.ne_of_gt zl)).trans hT
    have fresh : ObjOk X.prog X.w (upd H s.heap.objs.size (.tup [x, y])) h2 s.heap.objs.size (.tup [x, y]) := ⟨show 2 ≤ sizeLine by decide, [v1, v2], .cons rv1 (.cons rv2 .nil), ⟨_, hT2, rfl, _, rfl⟩⟩
    have I2 : Inv X pins σ (upd H s.heap.objs.size (.tup [x, y])) { s with heap := h2, toks := tk } :=
      I.turnedNew (ch := [z, TI, TO, i1, i2]) (fun c o nc e => up c o (fun q => nc (by simp [q])) (fun q => nc (by simp [q])) (fun q => nc (by simp [q])) (fun q => nc (by simp [q])) e) hf (Nat.le_refl _) fresh
    have i1z : i1 ≠ z := fun q => D.zf1 (by simp [q])
    have i2z : i2 ≠ z := fun q => D.zf2 (by simp [q])
    refine ⟨.ref s.heap.objs.size, _, I2, rfl, ⟨_, x, y, rfl, I.hok.fresh (Nat.le_refl _), rfl, fun l hl => by rw [hl.one I q1]; exact ex, fun l hl => by rw [hl.one I q2]; exact ey⟩,
      ⟨z2, up TI _ D.TIz D.TITO D.TIi1 D.TIi2 hI, ⟨v1, v2, (sb.2 _ D.TOz).trans o1⟩, c1.1.at fun o q => (sb.2 _ i1z).trans q, c2.1.at fun o q => (sb.2 _ i2z).trans q, by have := (List.getElem?_eq_some_iff.mp ex).1; omega, by have := (List.getElem?_eq_some_iff.mp ey).1; omega⟩, fun c hcm => ?_⟩
    have lt : c < s.heap.objs.size := by
      simp only [List.mem_cons, List.not_mem_nil, or_false] at hcm
      rcases hcm with rfl | rfl | rfl | rfl | rfl
      · exact zl
      · exact Heap.lt_size hI
      · exact Heap.lt_size hO
      · obtain ⟨o, e, _⟩ := g1.ob; exact Heap.lt_size e
      · obtain ⟨o, e, _⟩ := g2.ob; exact Heap.lt_size e
    rw [upd_ne (Nat.ne_of_lt lt)]
    exact (hf c hcm).1
  done := by
    intro X eP ew eK calm i pins s σ H E I hf st hg
    subst eP ew eK
    obtain ⟨hz, hI, ⟨x0, y0, hO⟩, g1, g2, b1, b2⟩ := st
    obtain ⟨xs, ys, q1, q2, m1', m2', en⟩ := hg
    obtain ⟨is1, r1, p1, _⟩ := q1.stands I
    obtain ⟨is2, r2, p2, _⟩ := q2.stands I
    have k1 := r1.length
    have k2 := r2.length
    have hd1 : X.A.in1.handled = none := I.ok.hd calm
    refine wpAny_pyNext_zipD2_end D (drawK (A := X.A.in1) t hd1 i1 a n1 is1.toArray) (drawK (A := X.A.in1) u hd1 i2 b n2 is2.toArray) hz hI hO ⟨g1, p1⟩ ⟨g2, p2⟩ (by simp; omega) (by simp; omega) (by simp; omega) fun h' tk hk => ⟨rfl, ?_⟩
    exact I.turnedL (ch := [z, TI, TO, i1, i2]) (fun c o nc e => hk c o (fun q => nc (by simp [q])) (fun q => nc (by simp [q])) (fun q => nc (by simp [q])) (fun q => nc (by simp [q])) e) hf
  self := fun _ _ _ _ _ st wish => wpAny_pyIter_zip st.1 wish
def iZipG (K : PySem.W.Frag) (ta : TA) : TI := fun σ H R => ta σ H fun vs H1 => ∃ (t u : Bool) (a b : Addr) (xs ys : List V), vs = [.ref a, .ref b] ∧ SqK t K H1 a xs ∧ SqK u K H1 b ys ∧ R (ItG t u K a b xs.length ys.length) H1
theorem pi_zipG {X : Cx} {e e2 : Expr} {ta : TA} {p pos tpos : Pos} {elts : List Expr} {kk : Nat} (hg : Gl X "zip") (hm : X.mg "zip" = none) (ha : PA X [e, e2] ta)
    (hs : starEach [e, e2] X.env = (false, eval e X.env) :: starEach [e2] X.env) (hpl : (backTo pos (starEach [e2] X.env)).any (·.1) = false) :
    PI X (.Tuple elts kk tpos) (.Call (.Name "zip" p) [e, e2] [] pos) (iZipG X.K ta) := by
  (refine ⟨fun pins s σ H R I h => ?_⟩)
  refine Call_ (ld_blt I hg hm PyProof.Rows.boot_zip (PyProof.Rows.callWith_type1 (thn (ha.run pos pins s σ H _ I h) fun us s1 hh => ?_) hs hpl))
  obtain ⟨vs, H1, I1, r1, t, u, a, b, xs, ys, ev, q1, q2, q⟩ := hh
  subst ev
  cases r1 with
  | cons ra r2 =>
    cases r2 with
    | cons rb r3 =>
      cases r3
      cases ra
      cases rb
      obtain ⟨is1, _, p1, la⟩ := q1.stands I1
      obtain ⟨is2, _, p2, lb⟩ := q2.stands I1
      refine zip_begins2 (begK t a is1.toArray) (begK u b is2.toArray) p1 p2 fun h' hz hI hO g1 g2 _ hk => wpAny_pyIter_zip hz ?_
      have ok : ∀ j, FpOk X pins H1 (s1.heap.objs.size + j) := fun j => I1.fpOk (Nat.le_add_right _ _) (I1.hok.fresh (Nat.le_add_right _ _))
      have sep : ZipSep2 (s1.heap.objs.size + 4) (s1.heap.objs.size + 2) (s1.heap.objs.size + 3) s1.heap.objs.size (s1.heap.objs.size + 1) [s1.heap.objs.size, a] [s1.heap.objs.size + 1, b] :=
        zip_sep2 (fp1 := [a]) (fp2 := [b]) (fun c hc => by rw [List.mem_singleton.mp hc]; exact la) (fun c hc => by rw [List.mem_singleton.mp hc]; exact lb)
      refine ⟨s1.heap.objs.size + 4, [s1.heap.objs.size + 4, s1.heap.objs.size + 2, s1.heap.objs.size + 3, s1.heap.objs.size, s1.heap.objs.size + 1], _, ItG t u X.K a b xs.length ys.length, H1, rfl, I1.kept (t' := s1.toks) hk,
        turnG (t := t) (u := u) sep (Nat.ne_of_lt la) (Nat.ne_of_lt (Nat.lt_succ_of_lt lb)), ⟨hz, hI, ⟨_, _, hO⟩, HIt.begin g1, HIt.begin g2, Nat.zero_le _, Nat.zero_le _⟩, fun c hc => ?_, q⟩
      have e5 : c = s1.heap.objs.size + 4 ∨ c = s1.heap.objs.size + 2 ∨ c = s1.heap.objs.size + 3 ∨ c = s1.heap.objs.size + 0 ∨ c = s1.heap.objs.size + 1 := by simpa using hc
      rcases e5 with e5 | e5 | e5 | e5 | e5 <;> (rw [e5]; exact ok _)
end DV
namespace DV
open PySem L2 PySem.Spec
open PyProof.Rows (Call_)

section
variable {S : Sg} {X : Cx} {tg a b : Expr} {fa fb : EF} {fr : AF} {p pos : Pos}
def zipD : List D → List D → List D
  | d :: l, e :: m => .tup [d, e] :: zipD l m
  | _, _ => []
theorem zipD_len : ∀ (l m : List D), (zipD l m).length = min l.length m.length
  | [], _ => by simp [zipD]
  | _ :: _, [] => by simp [zipD]
  | d :: l, e :: m => by simp [zipD, zipD_len l m]
theorem zipD_get : ∀ {l m : List D} {j : Nat} {e : D}, (zipD l m)[j]? = some e → ∃ x y, l[j]? = some x ∧ m[j]? = some y ∧ e = .tup [x, y]
  | [], _, _, _, h => by simp [zipD] at h
  | _ :: _, [], _, _, h => by simp [zipD] at h
  | d :: l, e :: m, 0, r, h => by
    simp [zipD] at h
    exact ⟨d, e, rfl, rfl, h.symm⟩
  | d :: l, e :: m, j + 1, r, h => by
    have h : (zipD l m)[j]? = some r := by simpa [zipD] using h
    obtain ⟨x, y, e1, e2, e3⟩ := zipD_get h
    exact ⟨x, y, by simpa using e1, by simpa using e2, e3⟩
theorem SR.pair2 {C : Cn} {ρ : Env} {σ : St} {H : Hp} {stk : List SI} {x y : V} {d e : D} {T : Addr} (h : SR C ρ σ H (.one y (.val e) :: .one x (.val d) :: stk)) (f : isFz d = true) (g : isFz e = true) (hT : H T = none) : SR C ρ σ (upd H T (.tup [x, y])) (.one (.ref T) (.val (.tup [d, e])) :: stk) :=
  h.oneMany.consMany.tuple hT (by simp [isFzA, f, g])
def isLs : D → Option (List D)
  | .scr l => some l
  | .lst false l => some l
  | _ => none
theorem isLs_some {d : D} {l : List D} (h : isLs d = some l) : d = .lst false l ∨ d = .scr l := by
  unfold isLs at h
  split at h
  · cases h; exact .inr rfl
  · cases h; exact .inl rfl
  · cases h
def dZ (t : Bool) (d : D) (l : List D) : Prop := match t with
  | true => d = .tup l
  | false => d = .lst false l ∨ d = .scr l
theorem SR.walkZ {C : Cn} {ρ : Env} {σ : St} {H : Hp} {stk : List SI} {v : V} {t : Bool} {d : D} {l : List D} (h : SR C ρ σ H (.one v (.val d) :: stk)) (hd : dZ t d l) : ∃ a vs, v = .ref a ∧ vs.length = l.length ∧ isFzA l = true ∧ SqK t C.K H a vs := by
  cases t with
  | true =>
    obtain ⟨a, vs, e, hl, f, ⟨q, _⟩, _⟩ := h.walked (.inl hd)
    exact ⟨a, vs, e, hl, f, q hd⟩
  | false =>
    have hd : d = .lst false l ∨ d = .scr l := hd
    obtain ⟨a, vs, e, hl, f, ⟨_, q⟩, _⟩ := h.walked (.inr hd)
    exact ⟨a, vs, e, hl, f, q (by rcases hd with rfl | rfl <;> exact fun z => nomatch z)⟩
theorem SR.itemZ {C : Cn} {ρ : Env} {σ : St} {H : Hp} {stk : List SI} {a : Addr} {t : Bool} {d e : D} {l : List D} {i : Nat} {x : V} (h : SR C ρ σ H (.one (.ref a) (.val d) :: stk)) (hd : dZ t d l) (he : l[i]? = some e) (hx : ∀ xs, SqK t C.K H a xs → xs[i]? = some x) : SR C ρ σ H (.one x (.val e) :: .one (.ref a) (.val d) :: stk) := by
  cases t with
  | true =>
    have hd : d = .tup l := hd
    subst hd
    exact h.itemT (s := []) he hx
  | false => exact h.itemL (s := []) hd he hx
theorem src_zipG {C : Cn} {a b : Addr} {t u : Bool} {da db : D} {l m : List D} (hd : dZ t da l) (he : dZ u db m) : Src C (ItG t u C.K a b l.length m.length) (zipD l m) [.one (.ref a) (.val da), .one (.ref b) (.val db)] := ⟨fun ρ σ H s i h => by
  have h' : SR C ρ σ H (.one (.ref a) (.val da) :: .one (.ref b) (.val db) :: s) := h
  obtain ⟨a', vs, e1, hl, f, q⟩ := h'.walkZ hd
  cases e1
  obtain ⟨b', us, e2, hm, g, r⟩ := h'.drop.walkZ he
  cases e2
  refine ⟨fun d ed => ?_, fun hi => ⟨vs, us, q, r, hl, hm, by rw [zipD_len] at hi; omega⟩⟩
  obtain ⟨x, y, e3, e4, e5⟩ := zipD_get ed
  have h1 := (List.getElem?_eq_some_iff.mp e3).1
  have h2 := (List.getElem?_eq_some_iff.mp e4).1
  refine ⟨⟨vs, us, vs[i]'(by omega), us[i]'(by omega), q, r, hl, hm, List.getElem?_eq_getElem _, List.getElem?_eq_getElem _⟩, fun v H' z => ?_⟩
  obtain ⟨T, z1, z2, rfl, hT, rfl, hz1, hz2⟩ := z
  rw [e5]
  have s1 := h'.itemZ hd e3 hz1
  have s2 : SR C ρ σ H (.one (.ref b) (.val db) :: .one z1 (.val x) :: .one (.ref a) (.val da) :: s) := s1.perm (List.Perm.trans (List.Perm.cons _ (List.Perm.swap _ _ _)) (List.Perm.swap _ _ _))
  have s3 := s2.itemZ he e4 hz2
  have s4 : SR C ρ σ H (.one z2 (.val y) :: .one z1 (.val x) :: .one (.ref a) (.val da) :: .one (.ref b) (.val db) :: s) := s3.perm (List.Perm.cons _ (List.Perm.trans (List.Perm.swap _ _ _) (List.Perm.cons _ (List.Perm.swap _ _ _))))
  exact s4.pair2 (isFzA_of f e3) (isFzA_of g e4) hT⟩
def isZ : D → Option (Bool × List D)
  | .tup l => some (true, l)
  | .scr l => some (false, l)
  | .lst false l => some (false, l)
  | _ => none
theorem isZ_some {d : D} {p : Bool × List D} (h : isZ d = some p) : dZ p.1 d p.2 := by
  unfold isZ at h
  split at h
  · cases h; exact rfl
  · cases h; exact .inr rfl
  · cases h; exact .inl rfl
  · cases h
def zip2 : List D → Option (List D)
  | [x, y] => (isZ x).bind fun l => (isZ y).map fun m => zipD l.2 m.2
  | _ => none
def ivZip (r : AF) : IF := fun ρ => (r ρ).bind fun p => (oR (zip2 p.1)).bind fun l => .ok (l, p.2)
theorem iv_zip {elts : List Expr} {kk : Nat} {tpos : Pos} (hg : Gl X "zip") (hm : X.mg "zip" = none) (hr : AbOk S true X [a, b] fr) (s1 : notStar a = true) (s2 : notStar b = true) : IvOk S X (.Tuple elts kk tpos) (.Call (.Name "zip" p) [a, b] [] pos) (ivZip fr) := fun G ft ρ σ H stk R hs hp =>
  of_PI (pi_zipG hg hm pa_W (star_cons s1) (by rw [star_cons s2]; rfl)) (hr G ft ρ σ H stk _ hs (hp.bind.mono fun q hp vs H1 s _ _ => by
    obtain ⟨l, el, hp⟩ := hp.bind.oR
    have hk := ft.k
    unfold zip2 at el
    split at el
    · rename_i x y eq
      obtain ⟨l1, e1, el⟩ := Option.bind_eq_some_iff.mp el
      obtain ⟨m1, e2, rfl⟩ := Option.map_eq_some_iff.mp el
      rw [eq] at s
      obtain ⟨v, r, rfl, s1⟩ := s.uncons
      obtain ⟨v2, r2, rfl, s2⟩ := s1.swap.uncons
      obtain ⟨e3, s3⟩ := (show SR G.C q.2 σ H1 (.many r2 [] :: .one v2 (.val y) :: .one v (.val x) :: stk) from s2.perm (List.Perm.swap _ _ _)).endMany
      subst e3
      have hx := isZ_some e1
      have hy := isZ_some e2
      obtain ⟨b', us, rfl, w2, _, q2⟩ := s3.walkZ hy
      obtain ⟨a', ws, rfl, w1, _, q1⟩ := s3.drop.walkZ hx
      have z := hp _ _ H1 (src_zipG (C := G.C) (a := a') (b := b') hx hy) s3.swap
      rw [hk] at z q1 q2
      rw [← w1, ← w2] at z
      exact ⟨l1.1, m1.1, a', b', ws, us, rfl, q1, q2, z⟩
    · cases el))

/-! ### list(range(..)) -/
theorem SR.rng {C : Cn} {ρ : Env} {σ : St} {H : Hp} {stk : List SI} (h : SR C ρ σ H stk) (i j : Int) : SR C ρ σ H (.many (rgV i j) (rangeD i (j - i).toNat) :: stk) := by
  have key : ∀ l : List Nat, SR C ρ σ H (.many (l.map fun n => V.int (i + (n : Nat))) (l.map fun (n : Nat) => D.int (i + (n : Int))) :: stk) := fun l => by
    induction l with
    | nil => exact h.nilMany
    | cons n l ih =>
      have h2 : SR C ρ σ H (.one (.int (i + (n : Nat))) (.val (.int (i + (n : Int)))) :: .many (l.map fun n => V.int (i + (n : Nat))) (l.map fun (n : Nat) => D.int (i + (n : Int))) :: stk) := ih.imm fun B => ⟨rfl, rfl⟩
      exact h2.consMany'
  exact key _
def rgOk (i j : Int) : Bool := smallI i && smallI j && decide ((j - i).toNat ≤ 2 ^ 24)
theorem rgOk_ok {i j : Int} (h : rgOk i j = true) : RgOk i j := by
  unfold rgOk at h
  (simp only [Bool.and_eq_true, decide_eq_true_eq] at h)
  obtain ⟨⟨h19, h29⟩, h39⟩ := h
  exact ⟨(smallI_ok h19).1, (smallI_ok h19).2, (smallI_ok h29).1, (smallI_ok h29).2, h39⟩
def evLr1 (a : EF) : EF := fun ρ => (a ρ).bind fun p => (oR (dref p.2 p.1)).bind fun d => (oR (intD d)).bind fun j => if rgOk 0 j then .ok (.val (.lst true (rangeD 0 j.toNat)), p.2) else .no
theorem ev_lr1 {p2 pos2 : Pos} (hc : X.calm = true) (hg0 : Gl X "list") (hm0 : X.mg "list" = none) (hg : Gl X "range") (hm : X.mg "range" = none) (ha : EvOk S X a fa) (hst : notStar a = true) : EvOk S X (.Call (.Name "list" p2) [.Call (.Name "range" p) [a] [] pos] [] pos2) (evLr1 fa) := fun G ft ρ σ H stk Q hs hp =>
  of_PE (pe_listRg hc hg0 hm0 (prg_1 hg hm pe_W (star_cons hst)) rfl) (ha G ft ρ σ H stk _ hs (hp.bind.mono fun q hp v H1 s hb => by
    obtain ⟨d, ed, hp⟩ := hp.bind.oR
    obtain ⟨j, ej, hp⟩ := hp.bind.oR
    cases s.isInt (i := j) hb (by rw [ed, intD_some ej])
    by_cases z : rgOk 0 j = true
    · rw [if_pos z] at hp
      refine ⟨j, rfl, rgOk_ok z, fun r hr => hp _ _ ?_ trivial⟩
      have := (s.drop.rng 0 j).list hr
      rw [Int.sub_zero] at this
      exact this
    · rw [if_neg z] at hp
      exact hp.elim))
def evLr2 (a b : EF) : EF := fun ρ => (a ρ).bind fun p => (b p.2).bind fun q => (oR (dref q.2 p.1)).bind fun x => (oR (dref q.2 q.1)).bind fun y => (oR (intD x)).bind fun i => (oR (intD y)).bind fun j => if rgOk i j then .ok (.val (.lst true (rangeD i (j - i).toNat)), q.2) else .no
theorem ev_lr2 {p2 pos2 : Pos} (hc : X.calm = true) (hg0 : Gl X "list") (hm0 : X.mg "list" = none) (hg : Gl X "range") (hm : X.mg "range" = none) (ha : EvOk S X a fa) (hb : EvOk S X b fb) (s1 : notStar a = true) (s2 : notStar b = true) : EvOk S X (.Call (.Name "list" p2) [.Call (.Name "range" p) [a, b] [] pos] [] pos2) (evLr2 fa fb) := fun G ft ρ σ H stk Q hs hp =>
  of_PE (pe_listRg hc hg0 hm0 (prg_2 hg hm pe_W pe_W (star_cons s1) (star_cons s2) (by rw [star_cons s2]; rfl)) rfl) (ha G ft ρ σ H stk _ hs (hp.bind.mono fun q hp v H1 h1 hb1 => hb G ft _ σ H1 _ _ h1 (hp.bind.up fun r hp u H2 h2 hb2 => by
    obtain ⟨x, ex, hp⟩ := hp.bind.oR
    obtain ⟨y, ey, hp⟩ := hp.bind.oR
    obtain ⟨i, ei, hp⟩ := hp.bind.oR
    obtain ⟨j, ej, hp⟩ := hp.bind.oR
    cases h2.isInt (i := j) hb2 (by rw [ey, intD_some ej])
    cases h2.drop.isInt (i := i) hb1 (by rw [ex, intD_some ei])
    by_cases z : rgOk i j = true
    · rw [if_pos z] at hp
      exact ⟨i, j, rfl, rfl, rgOk_ok z, fun r hr => hp _ _ ((h2.drop.drop.rng i j).list hr) trivial⟩
    · rw [if_neg z] at hp
      exact hp.elim)))

/-! ### sorted -/
def encD (d : D) : PyData := (toP d).getD .none
def sortD (l : List D) : List D := l.mergeSort (PySem.W.dataLe false encD)
def tupNE : PyData → Bool
  | .tuple (_ :: _) => true
  | _ => false
def notNT : PyData → Bool
  | .none => false
  | .tuple _ => false
  | _ => true
def sortQ (l : List D) : Bool := l.all (fun d => (toP d).isSome) && l.all (fun d => l.all fun e => PySem.W.alike (encD d) (encD e)) && (l.all (fun d => tupNE (encD d)) || l.all (fun d => notNT (encD d))) && l.all (fun d => decide ((encD d).depth ≤ 150))
def gSort : D → Option D
  | .scr l => if sortQ l then some (.lst true (sortD l)) else none
  | .lst _ l => if isFzA l && sortQ l then some (.lst true (sortD l)) else none
  | _ => none
open PySem.W (EachIs) in
theorem out_of {K : PySem.W.Frag} {T : Nat → Option Addr} {H : Hp} {B : List Addr} : ∀ {ds : List D} {out : List Value}, EachIs (fun v d => ∃ x, RelV x v ∧ Rep K T H B d x []) out ds → ∃ vs, Vals vs out ∧ RepA K T H B ds vs []
  | [], _, .nil => ⟨[], .nil, rfl, rfl⟩
  | d :: ds, _, .cons ⟨x, r, h⟩ t => by
    obtain ⟨vs, rv, ra⟩ := out_of t
    exact ⟨x :: vs, .cons r rv, x, vs, [], [], rfl, h, ra, rfl⟩
open PySem.W (EachIs) in
theorem in_of {K : PySem.W.Frag} {T : Nat → Option Addr} {H : Hp} {B : List Addr} : ∀ {ds : List D} {vs9 : List V} {us : List Value}, RepA K T H B ds vs9 [] → Vals vs9 us → EachIs (fun v9 d9 => ∃ x, RelV x v9 ∧ Rep K T H B d9 x []) us ds
  | [], _, _, h, r => by
    obtain ⟨rfl, _⟩ := h
    cases r
    exact .nil
  | d9 :: ds, _, _, h, r => by
    obtain ⟨v9, vs9, O19, O29, rfl, h19, h29, e9⟩ := h
    obtain ⟨rfl, rfl⟩ := List.append_eq_nil_iff.mp e9.symm
    cases r with
    | cons r1 r2 => exact .cons ⟨v9, r1, h19⟩ (in_of h29 r2)
open PySem.W (EachIs) in
theorem reads_of {X : Cx} {pins : List (Addr × Obj)} {σ : St} {H : Hp} {s : Shared} {T : Nat → Option Addr} {B : List Addr} (I : Inv X pins σ H s) : ∀ {ds : List D} {us : List Value}, (∀ d ∈ ds, (toP d).isSome = true) → EachIs (fun v d => ∃ x, RelV x v ∧ Rep X.K T H B d x []) us ds → EachIs (fun v d => ∃ as, Reads s.heap v (encD d) as) us ds
  | [], _, _, .nil => .nil
  | d :: ds, _, q, .cons ⟨x, r, h⟩ t => by
    refine .cons ?_ (reads_of I (fun d hd => q d (by simp [hd])) t)
    have := q d (by simp)
    cases e : toP d with
    | none => rw [e] at this; cases this
    | some p =>
      have hd := (h.dp e).1
      have : encD d = p := by unfold encD; rw [e]; rfl
      rw [this]
      exact Dp.reads I p x _ hd r
theorem sort_core {C : Cn} (hk : C.K = X.K) (hu : X.A.units + 200 < cLine) {ρ : Env} {σ : St} {H : Hp} {stk : List SI} {a : Addr} {vs : List V} {l : List D} {Q : VK} (hs : SR C ρ σ H (.many vs l :: stk)) (f : isFzA l = true) (sq : SqL X.K H a vs) (q : sortQ l = true) (k : ∀ v9 H', SR C ρ σ H' (.one v9 (.val (.lst true (sortD l))) :: stk) → Q v9 H') :
    cW X (.builtin "sorted") [.ref a] H Q := fun pins9 s9 σ9' us9 I9 r9 => by
  obtain ⟨u9, rfl, ru9⟩ := Vals.one r9
  cases ru9
  obtain ⟨its9, rv9, hl9, hz9⟩ := I9.list sq
  unfold sortQ at q
  simp only [Bool.and_eq_true, List.all_eq_true, decide_eq_true_eq, Bool.or_eq_true] at q
  obtain ⟨⟨⟨q19, q29⟩, q39⟩, q49⟩ := q
  obtain ⟨Oρ9, Os, B9, h19, ⟨O19, O29, r19, r29, rfl⟩, hB9, nd9, nz9, ow9⟩ := id hs.ex
  obtain rfl := isFzA_nil f r19
  rw [hk] at r19
  have e9 := in_of r19 rv9
  have er9 := reads_of I9 q19 e9
  have hlen9 : l.length = vs.length := r19.length.symm
  refine PySem.W.sorted_data (R := fun v9 d9 => ∃ x, RelV x v9 ∧ Rep X.K C.T H B9 d9 x []) hl9.isList e9 er9 ?_ ?_ (by rw [hlen9]; exact hz9) (fun b9 hb9 => by have := q49 b9 hb9; omega) fun out9 ho9 eo9 => ?_
  · intro d9 hd9 d9' hd9'
    obtain ⟨b9, hb9, rfl⟩ := List.mem_map.mp hd9
    obtain ⟨b9', hb9', rfl⟩ := List.mem_map.mp hd9'
    exact q29 b9 hb9 b9' hb9'
  · rcases q39 with q39 | q39
    · refine .inl fun d9 hd9 => ?_
      obtain ⟨b9, hb9, rfl⟩ := List.mem_map.mp hd9
      have := q39 b9 hb9
      unfold tupNE at this
      split at this
      · rename_i x r9 e9; exact ⟨x, r9, e9⟩
      · cases this
    · refine .inr fun d9 hd9 => ?_
      obtain ⟨b9, hb9, rfl⟩ := List.mem_map.mp hd9
      have := q39 b9 hb9
      unfold notNT at this
      split at this
      · cases this
      · cases this
      · rename_i n1 n2; exact ⟨n1, n2⟩
  · obtain ⟨ys9, ry9, ra9⟩ := out_of eo9
    obtain ⟨ep9, he9'⟩ := PyProof.Rows.sortedAll_at s9.heap its9 out9.toArray
    have hlen29 : ys9.length ≤ sizeLine := by rw [ry9.length, ho9, hlen9]; exact hz9
    have hn9 : H (s9.heap.objs.size + 1) = none := I9.hok.fresh (Nat.le_succ _)
    refine ⟨.ref _, upd H (s9.heap.objs.size + 1) (.lst ys9), I9.laid (t' := s9.toks) (fun _ _ => PyProof.Rows.sortedAll_old) (Nat.le_succ _) ⟨hlen29, out9, ep9, ry9, he9'⟩, rfl, k _ _ ?_⟩
    have s29 : SR C ρ σ H (.many ys9 (sortD l) :: stk) := .again h19 ⟨[], O29, by rw [hk]; exact ra9, r29, rfl⟩ hB9 nd9 nz9 ow9 hs.kept hs.z hs.pin
    exact s29.list hn9
theorem ok_sort (hu : X.A.units + 200 < cLine) : C1Ok S X (.builtin "sorted") gSort := fun G ft ρ σ H stk x ix dx d Q hs hbx ex ed k => by
  cases dx with
  | scr l =>
    have ed : (if sortQ l then some (D.lst true (sortD l)) else none) = some d := ed
    by_cases z : sortQ l = true
    · rw [if_pos z] at ed
      cases ed
      have f := hs.itemsFz hbx ex (l := l) rfl
      obtain ⟨b, us, rfl, sq, lb, s4⟩ := hs.scrItems hbx ex
      rw [ft.k] at sq
      exact sort_core ft.k hu s4 f sq z k
    · rw [if_neg z] at ed
      cases ed
  | lst o' l =>
    have ed : (if isFzA l && sortQ l then some (D.lst true (sortD l)) else none) = some d := ed
    by_cases z : (isFzA l && sortQ l) = true
    · rw [if_pos z] at ed
      cases ed
      simp only [Bool.and_eq_true] at z
      obtain ⟨b, us, rfl, _, ql, _, lb, s4⟩ := hs.items hbx ex (l := l) (by show (if _ then _ else _) = _; rw [if_pos z.1])
      exact sort_core ft.k hu s4 z.1 (SqL.of (ql ⟨o', rfl⟩)) z.2 k
    · rw [if_neg z] at ed
      cases ed
  | non => cases ed
  | str _ => cases ed
  | bl _ => cases ed
  | int _ => cases ed
  | tup _ => cases ed
  | dct _ _ _ _ => cases ed
  | fn _ => cases ed
end
end DV
namespace DV
open PySem L2 PySem.Spec

/-! ### tuple * int -/
theorem tuple_mul1 (l : Addr) (items : Array Value) (n : Nat) (dd : Option Addr) (sl : Array (Option Value)) (u : Tok) :
    Meets (Builtin.«tuple.__mul__» ⟨[.ref l, .int 1 u], []⟩) (fun _ R9 s9 => s9.heap.get? l = some { cls := .type "tuple", dict := dd, data := .seq items n, slots := sl } ∧ R9 (.ok (.ret (Value.ref l))) s9) :=
  .of_wp fun prog9 w9 A9 R9 s9 h9 => by
    obtain ⟨hp9, g9, d9, tk9, os9⟩ := s9
    obtain ⟨hl9, h9⟩ := h9
    have f19 := AutoSeq1.idx_int
    have c09 : (decide ((1 : Int) < -(2 ^ 63)) || decide ((1 : Int) ≥ 2 ^ 63)) = false := by decide
    have c19 : (items.isEmpty || (1 : Int) == 1) = true := by simp
    wp_walk using AutoSeq1.wpAny_loadPart' hl9
    repeat (first
      | (refine wpAny_ite_false (decide_eq_false (by rw [c09]; exact Bool.false_ne_true)) ?_; wp_walk using AutoSeq1.wpAny_loadPart' hl9)
      | (refine wpAny_ite_true (decide_eq_true c19) ?_; wp_walk using AutoSeq1.wpAny_loadPart' hl9))
    exact ⟨_, rfl, h9⟩
section
variable {S : Sg} {X : Cx} {a b e : Expr} {es : List Expr} {fa fb : EF} {p pos : Pos} {x : Str}
def rRep1 (K : PySem.W.Frag) : R2 := fun x y H Q => ∃ l xs, x = .ref l ∧ y = .int 1 ∧ SqT K H l xs ∧ Q (.ref l) H
theorem op_rep1 : OpR X (binaryOp .Mult) (rRep1 X.K) := by
  intro pins9 s9 σ9 H9 x9 y9 v9 u9 Q9 I9 rx9 ry9 h9
  obtain ⟨l9, xs9, rfl, rfl, hT9, q9⟩ := h9
  cases rx9
  obtain ⟨t9, rfl⟩ := ry9
  obtain ⟨its9, r9, ⟨⟨cls9, dd9, data9, sl9⟩, ho9, hc9, n9, hd9⟩, hs9⟩ := I9.tuple hT9
  simp only at hc9 hd9
  subst hc9 hd9
  refine wpAny_binaryOp_repeat_ref (T := "tuple") (U := "int") (by decide) ⟨_, ho9, rfl⟩ (fun s9' => typeIs_int s9' 1 t9) noFill_tuple_mul F.fills_int_mul F.slot_int_rmul repeat_tuple F.slot_int_index.lookup
    (call_meets F.slot_int_rmul (typeIs_int s9 1 t9) F.entry_int_rmul (F.args_int_rmul_2 _ _) (int_rmul_tuple 1 t9 l9 its9.toArray n9 dd9 sl9)
      ⟨ho9, rfl, ⟨_, ho9, rfl⟩, call_meets F.slot_tuple_mul ⟨_, ho9, rfl⟩ F.entry_tuple_mul (F.args_tuple_mul_2 _ _) (tuple_mul1 l9 its9.toArray n9 dd9 sl9 t9) ⟨ho9, ?_⟩⟩)
  exact ⟨.ref l9, H9, I9, rfl, q9⟩
def gRepT (x y : D) : Option D := (tupD x).bind fun l => (intD y).bind fun k => if k = 1 then some (.tup l) else if decide (2 ≤ k) && decide (k ≤ 1000) && decide (l.length ≤ 1000) && !l.isEmpty then some (.tup (List.replicate k.toNat l).flatten) else none
theorem isFzA_flat {l : List D} (h : isFzA l = true) : ∀ n, isFzA (List.replicate n l).flatten = true
  | 0 => rfl
  | n + 1 => by
    (rw [List.replicate_succ, List.flatten_cons])
    exact isFzA_app h (isFzA_flat h n)
theorem ok_repT : OpOk S X (binaryOp .Mult) gRepT := .by (fun pins s σ H x y v u Q I rx ry (h : rRep1 X.K x y H Q ∨ rRepT X.K x y H Q) => h.elim (op_rep1 pins s σ H x y v u Q I rx ry) (op_repT pins s σ H x y v u Q I rx ry)) fun C hk ρ σ H stk x y ix iy dx dy d Q hs hbx hby ex ey ed k => by
  obtain ⟨l, el, e1⟩ := Option.bind_eq_some_iff.mp ed
  obtain ⟨n, en, e2⟩ := Option.bind_eq_some_iff.mp e1
  cases hs.isInt (i := n) hby (by rw [ey, intD_some en])
  obtain rfl := tupD_some el
  have f := hs.drop.itemsFz hbx ex (l := l) rfl
  obtain ⟨a, vs, rfl, _, _, qt, la, s2⟩ := hs.drop.items hbx ex (l := l) rfl
  have qt := qt rfl
  rw [hk] at qt
  by_cases z : n = 1
  · rw [if_pos z] at e2
    cases e2
    subst z
    exact .inl ⟨a, vs, rfl, rfl, qt, k _ _ (hs.drop.tupItself hbx ex)⟩
  · rw [if_neg z] at e2
    by_cases z2 : (decide (2 ≤ n) && decide (n ≤ 1000) && decide (l.length ≤ 1000) && !l.isEmpty) = true
    · rw [if_pos z2] at e2
      cases e2
      simp only [Bool.and_eq_true, decide_eq_true_eq, Bool.not_eq_true'] at z2
      obtain ⟨⟨⟨z3, z4⟩, z5⟩, z6⟩ := z2
      refine .inr ⟨a, n, vs, rfl, rfl, qt, fun e => ?_, z3, z4, by omega, fun p hp => k _ _ ((s2.flat f n.toNat).tuple hp (isFzA_flat f _))⟩
      rw [e] at la
      cases l with
      | nil => cases z6
      | cons _ _ => cases la
    · rw [if_neg z2] at e2
      cases e2
def opE (op : Operator) : D → D → Option D := match op with
  | .Mult => fun x y => (opD .Mult x y).or (gRepT x y)
  | .FloorDiv => fun x y => (opD .FloorDiv x y).or (gI (fun _ j => decide (j ≠ 0) && decide (j.natAbs < 1073741824)) (fun i j => .int (i.fdiv j)) x y)
  | _ => opD op
theorem ok_opE (op : Operator) : OpOk S X (binaryOp op) (opE op) := by
  cases op with
  | Mult => exact (ok_opD .Mult).or ok_repT
  | Add => exact ok_opD .Add
  | Sub => exact ok_opD .Sub
  | MatMult => exact ok_opD .MatMult
  | Div => exact ok_opD .Div
  | Mod => exact ok_opD .Mod
  | Pow => exact ok_opD .Pow
  | LShift => exact ok_opD .LShift
  | RShift => exact ok_opD .RShift
  | BitOr => exact ok_opD .BitOr
  | BitXor => exact ok_opD .BitXor
  | BitAnd => exact ok_opD .BitAnd
  | FloorDiv => exact (ok_opD .FloorDiv).or (OpOk.ints op_fdivN fun i9 j9 h9 => by simpa [CDivN] using h9)

/-! ### targets: tuples and lists -/
def gvU (n : Nat) (r : List D → Env → Option Env) : DV.GF
  | .tup l, ρ => if l.length = n then r l ρ else none
  | .lst _ l, ρ => if l.length = n then r l ρ else none
  | .scr l, ρ => if l.length = n then r l ρ else none
  | _, _ => none
theorem gv_any {k n : Nat} {ks : List Nat} {F : List D → Env → Option Env} (hc : X.calm = true) (h : GvsOk X es ks F) (hn : (assignEach es X.env).length = n) (hst : (assignEach es X.env).findIdx? (·.1) = none) : GvOk X (.Tuple es k pos) ks (gvU n F) := fun C hk hp ρ σ H stk v d ρ' Q hs e q => by
  obtain ⟨t, ht, h⟩ := h
  have fin : ∀ (l : List D) a vs, l.length = n → v = .ref a → SqL X.K H a vs → vs.length = l.length → SR C ρ σ H (.many vs l :: stk) → F l ρ = some ρ' → tWG X (.Tuple es k pos) v σ H Q := fun l a vs z ev s hl h2 e => by
    subst ev
    exact of_PG (pg_unl hc ht hn hst) ⟨a, vs, rfl, s, by omega, h C hk hp ρ σ H stk vs l ρ' Q h2 e q⟩
  unfold gvU at e
  split at e
  · rename_i l
    by_cases z : l.length = n
    · rw [if_pos z] at e
      obtain ⟨a, vs, rfl, s, hl, h2⟩ := hs.untup
      rw [hk] at s
      exact of_PG (pg_tup hc ht hn hst) ⟨a, vs, rfl, s, by omega, h C hk hp ρ σ H stk vs l ρ' Q h2 e q⟩
    · rw [if_neg z] at e
      cases e
  · rename_i o l
    by_cases z : l.length = n
    · rw [if_pos z] at e
      cases o with
      | true =>
        obtain ⟨B, O, r⟩ := hs.top
        obtain ⟨a, vs, O', rfl, hH, _⟩ := r
        obtain ⟨vs', e1, hl, s⟩ := hs.open
        rw [hH] at e1
        cases e1
        have s2 : SR C ρ σ H (.many vs l :: stk) := s.swap.drop
        exact fin l a vs z rfl (SqL.of hH) hl s2 e
      | false =>
        obtain ⟨Oρ, Os, B, h1, ⟨O1, O2, r, r2, rfl⟩, hB, nd, nz, ow⟩ := id hs.ex
        obtain ⟨a, vs, rfl, f, ra, rfl⟩ := r
        exact fin l a vs z rfl f.sql ra.length (.again h1 ⟨[], O2, ra, r2, rfl⟩ hB nd nz ow hs.kept hs.z hs.pin) e
    · rw [if_neg z] at e
      cases e
  · rename_i l
    by_cases z : l.length = n
    · rw [if_pos z] at e
      obtain ⟨Oρ, Os, B, h1, ⟨O1, O2, r, r2, rfl⟩, hB, nd, nz, ow⟩ := id hs.ex
      obtain ⟨a, vs, rfl, f, ra, rfl⟩ := r
      have f := f.sql
      rw [hk] at f
      exact fin l a vs z rfl f ra.length (.again h1 ⟨[], O2, ra, r2, rfl⟩ hB nd nz ow hs.kept hs.z hs.pin) e
    · rw [if_neg z] at e
      cases e
  · cases e

/-! ### x[i][j] -/
def getAt (d : D) (k : Int) : Option D := match d with
  | .tup l => atI l k
  | .scr l => atI l k
  | .lst _ l => atI l k
  | _ => none
theorem get_part {K : PySem.W.Frag} {T : Nat → Option Addr} {H : Hp} {B : List Addr} {d e : D} {v : V} {O : List Addr} {k : Int} (h : Rep K T H B d v O) (g : getAt d k = some e) : ∃ a vs w O1, v = .ref a ∧ (SqL K H a vs ∨ SqT K H a vs) ∧ atI vs k = some w ∧ Rep K T H B e w O1 := by
  cases d with
  | tup l =>
    obtain ⟨a, vs, rfl, f, ra, _⟩ := h
    obtain ⟨w, O1, e1, rw', _⟩ := atI_rep ra g
    exact ⟨a, vs, w, O1, rfl, .inr f.sqt, e1, rw'⟩
  | scr l =>
    obtain ⟨a, vs, rfl, f, ra, _⟩ := h
    obtain ⟨w, O1, e1, rw', _⟩ := atI_rep ra g
    exact ⟨a, vs, w, O1, rfl, .inl f.sql, e1, rw'⟩
  | lst o l =>
    cases o with
    | false =>
      obtain ⟨a, vs, rfl, f, ra, _⟩ := h
      obtain ⟨w, O1, e1, rw', _⟩ := atI_rep ra g
      exact ⟨a, vs, w, O1, rfl, .inl f.sql, e1, rw'⟩
    | true =>
      obtain ⟨a, vs, O', rfl, f, ra, _⟩ := h
      obtain ⟨w, O1, e1, rw', _⟩ := atI_rep ra g
      exact ⟨a, vs, w, O1, rfl, .inl (SqL.of f), e1, rw'⟩
  | non => cases g
  | str _ => cases g
  | bl _ => cases g
  | int _ => cases g
  | dct _ _ _ _ => cases g
  | fn _ => cases g
/-- an index that changes nothing: a number, a name -/
inductive SmI where
  | num (k : Int) | sl (j : Nat)
def SmI.get (ρ : Env) : SmI → Option Int
  | .num k => some k
  | .sl j => (slotD ρ j).bind intD
def SmOk (X : Cx) (b : Expr) (m : SmI) : Prop := ∃ t, PE X b t ∧ ∀ (C : Cn) ρ σ H stk k Q, SR C ρ σ H stk → m.get ρ = some k → Q (.int k) H → t σ H Q
theorem sm_num {k : Int} {j : Nat} : SmOk X (.Constant (.int k) j pos) (.num k) := ⟨_, pe_int, fun C ρ σ H stk k' Q hs e q => by cases e; exact q⟩
theorem sm_sl {j : Nat} (h : PE X b (tVar j)) : SmOk X b (.sl j) := ⟨_, h, fun C ρ σ H stk k Q hs e q => by
  obtain ⟨d, e1, e2⟩ := Option.bind_eq_some_iff.mp e
  obtain ⟨v, ev, s⟩ := hs.take (slotD_some e1)
  obtain ⟨B, O, r⟩ := s.top
  rw [intD_some e2] at r
  exact ⟨_, ev, by rw [r.1]; exact q⟩⟩
def evIxx (i : Nat) (a : EF) (m : SmI) : EF := fun ρ => (oR (slotD ρ i)).bind fun _ => (a ρ).bind fun p => (oR (dref p.2 p.1)).bind fun x => (oR (intD x)).bind fun k => (oR (slotD p.2 i)).bind fun d => (oR (getAt d k)).bind fun e => (oR (m.get p.2)).bind fun n => (oR (getAt e n)).bind fun r => if isFz r then .ok (.val r, p.2) else .no
theorem ev_ixx {i : Nat} {m : SmI} {pos2 : Pos} (hv : PE X (.Name x p) (tVar i)) (ha : EvOk S X a fa) (hb : SmOk X b m) (s1 : notSl a = true) (s2 : notSl b = true) : EvOk S X (.Subscript (.Subscript (.Name x p) a pos) b pos2) (evIxx i fa m) := fun G ft ρ σ H stk Q hs hp => by
  have pl : ∀ {e : Expr}, notSl e = true → PlainIx e := fun {e} h o i => by cases e <;> first | rfl | cases h
  obtain ⟨t, ht, hb⟩ := hb
  obtain ⟨d0, e0, hp⟩ := hp.bind.oR
  obtain ⟨v0, ev0, _⟩ := hs.take (slotD_some e0)
  refine of_PE (pe_ix ixr_W (pe_ix ixr_W hv pe_W (pl s1)) ht (pl s2)) ⟨v0, ev0, ha G ft ρ σ H stk _ hs (hp.bind.mono fun q hp u H1 s1 hbr => ?_)⟩
  obtain ⟨dx, ex, hp⟩ := hp.bind.oR
  obtain ⟨k, ek, hp⟩ := hp.bind.oR
  obtain ⟨d, ed, hp⟩ := hp.bind.oR
  obtain ⟨d1, ed1, hp⟩ := hp.bind.oR
  obtain ⟨n, en, hp⟩ := hp.bind.oR
  obtain ⟨r, er, hp⟩ := hp.bind.oR
  by_cases z : isFz r = true
  · rw [if_pos z] at hp
    cases s1.isInt (i := k) hbr (by rw [ex, intD_some ek])
    have key : ∀ B Oρ Os, RepS G.C.K G.C.T H1 B q.2 σ Oρ → RepK G.C.K G.C.T H1 B stk Os → ∃ a vs w b us y, v0 = .ref a ∧ (SqL G.C.K H1 a vs ∨ SqT G.C.K H1 a vs) ∧ atI vs k = some w ∧ w = .ref b ∧ (SqL G.C.K H1 b us ∨ SqT G.C.K H1 b us) ∧ atI us n = some y ∧ Rep G.C.K G.C.T H1 B r y [] := fun B Oρ Os g1 g2 => by
      obtain ⟨v, O1, O2, ev, rv, _⟩ := g1.take (slotD_some ed)
      rw [ev0] at ev
      cases ev
      obtain ⟨a, vs, w, O3, rfl, h1, h2, h3⟩ := get_part rv ed1
      obtain ⟨b, us, y, O4, rfl, h4, h5, h6⟩ := get_part h3 er
      rw [isFz_nil z h6] at h6
      exact ⟨a, vs, _, b, us, y, rfl, h1, h2, rfl, h4, h5, h6⟩
    have sd := s1.drop
    obtain ⟨Oρ, Os, B, g1, g2, hB, nd, nz, ow⟩ := id sd.ex
    obtain ⟨a, vs, w, b', us, y, rfl, h1, h2, rfl, h4, h5, h6⟩ := key B Oρ Os g1 g2
    rw [ft.k] at h1 h4
    have inner : ∀ (Q2 : VK), Q2 (.ref b') H1 → iW X (.ref a) (.int k) H1 Q2 := fun Q2 q2 => iW_of ix_seq (by
      rcases h1 with h1 | h1
      · exact .inl ⟨a, vs, k, _, rfl, rfl, h1, h2, q2⟩
      · exact .inr (.inl ⟨a, vs, k, _, rfl, rfl, h1, h2, q2⟩))
    refine inner _ (hb G.C q.2 σ H1 stk n _ s1.drop en (iW_of ix_seq ?_))
    have fin : Q y H1 := by
      exact hp y H1 (.again g1 ⟨[], Os, h6, g2, rfl⟩ hB nd nz ow sd.kept sd.z sd.pin) trivial
    rcases h4 with h4 | h4
    · exact .inl ⟨b', us, n, y, rfl, rfl, h4, h5, fin⟩
    · exact .inr (.inl ⟨b', us, n, y, rfl, rfl, h4, h5, fin⟩)
  · rw [if_neg z] at hp
    exact hp.elim
end
end DV
namespace DV
open PySem L2 PySem.Spec PyProof.Rows
section
variable {w : World} {A : Around} {E : Value → Shared → Prop} {s : Shared} {prog : Program}
theorem collectT {l : Addr} {vs : List Value} {Q : List Value → Shared → Prop} (hl : s.heap.IsTuple l vs.toArray)
    (h : Q vs { s with heap := (s.heap.push (seqObj "list" #[] 0)).update s.heap.objs.size (Obj.mapSeq (· ++ vs.toArray)) }) (hsz : vs.length ≤ sizeLine) : wpAny (model prog w) A (collect (.ref l)) Q E s := by
  obtain ⟨o9, ho9, hc9, n9, hd9⟩ := id hl
  have ho9' : (s.heap.push (seqObj "list" #[] 0)).get? l = some o9 := Heap.get?_push_of_some _ ho9
  unfold collect
  (refine wpAny_bind (wpAny_runValue (codeAny_builtin entry_proto_collect' ?_)))
  (show wpAny _ _ (do again (.builtin "list.__iadd__" ⟨[← newList [], .ref l], []⟩)) _ _ s)
  (refine wpAny_bind (wpAny_newList (wpAny_pure ⟨Code.quiet_builtin _ (by decide +kernel), codeAny_builtin entry_list_iadd' ?_⟩)))
  (show wpAny _ _ (Builtin.List.listExtendWith (.ref s.heap.objs.size) (.ref l) (.ref s.heap.objs.size)) _ _ { s with heap := s.heap.push (seqObj "list" #[] 0) })
  (unfold Builtin.List.listExtendWith)
  refine wpAny_bind (wpAny_typeOf (T := "tuple") ⟨o9, ho9', hc9⟩ ?_)
  have ht9 : (Value.type "tuple" == Value.type "tuple") = true := by rfl
  rw [if_pos (by rw [ht9, Bool.or_true])]
  refine wpAny_bind (listItems_at ho9' hd9 ?_)
  (refine wpAny_bind (listItems_at (xs := #[]) (n := 0) (Heap.get?_push_size _ rfl) rfl ?_))
  rw [if_neg (by simp)]
  (refine wpAny_bind (listUpdate_at (xs := #[]) (n := 0) (Heap.get?_push_size _ rfl) rfl ?_ (Nat.zero_le _) (by show (#[] ++ vs.toArray).size ≤ sizeLine + 1; simp only [Array.size_append, List.size_toArray, List.length_nil]; omega)))
  refine wpAny_pure ?_
  show wpAny (model _ _) A (do
      let o9 ← load s.heap.objs.size
      match o9.data with
      | .seq xs _ => pure xs.toList
      | _r => unsupported "internal:collect") Q E { s with heap := (s.heap.push (seqObj "list" #[] 0)).update s.heap.objs.size (Obj.mapSeq (· ++ vs.toArray)) }
  (refine wpAny_bind (wpAny_load (get?_update_seq (Heap.get?_push_size _ rfl) _) ?_))
  (show wpAny _ _ (pure ((#[] : Array Value) ++ vs.toArray).toList) Q E _)
  (rw [show ((#[] : Array Value) ++ vs.toArray).toList = vs by simp])
  exact wpAny_pure h
open PySem.W in
theorem sortedT_of {l : Addr} {vs : List Value} {Q : Value → Shared → Prop} (hl : s.heap.IsTuple l vs.toArray) (hL : vs.length ≤ sizeLine)
    (body : ∀ E' : Value → Shared → Prop, wpAny (model prog w) A.in1.in1 (Builtin.«list.sort» ⟨[.ref (s.heap.objs.size + 1)], []⟩) (fun f9 s9' => f9 = .done (.ret .none) ∧ Q (.ref (s.heap.objs.size + 1)) s9') E' { s with heap := copyHeap s.heap vs }) :
    wpAny (model prog w) A (call (.builtin "sorted") [.ref l] []) Q E s := by
  refine call_function_entry_kw kind_sorted plain_sorted entry_sorted (args_sorted1 _) ?_
  unfold Builtin.«sorted»
  (refine wpAny_bind (m := checkCount "sorted" 1 1 _) (wpAny_pure ?_))
  refine wpAny_bind (collectT hl ?_ hL)
  (refine wpAny_bind (wpAny_newList ?_ hL))
  have hsz9 : ((s.heap.push (seqObj "list" #[] 0)).update s.heap.objs.size (Obj.mapSeq (· ++ vs.toArray))).objs.size = s.heap.objs.size + 1 := by
    (rw [Heap.size_update, size_push'])
  (show wpAny _ _ _ _ _ { s with heap := copyHeap s.heap vs })
  rw [hsz9]
  refine wpAny_bind (wpAny_holding (wpAny_call_entry_kw slot_list_sort ⟨_, copyHeap_at s.heap vs, rfl⟩ entry_list_sort ?body (args_list_sort _)))
  case body =>
    show wpAny (model prog w) A.in1.in1 (Builtin.«list.sort» ⟨[.ref (s.heap.objs.size + 1)], []⟩) _ _ _
    refine wpAny_mono (body _) (fun f9 s9' hf9 => ?_) fun _ _ e9 => e9
    obtain ⟨rfl, hq9⟩ := hf9
    exact ⟨_, rfl, wpAny_pure ⟨_, rfl, hq9⟩⟩
open PySem.W in
theorem sortedT_data {β : Type} {R : Value → β → Prop} {vs : List Value} {bs : List β} {enc : β → PyData} {l : Addr} {Q : Value → Shared → Prop} (hl : s.heap.IsTuple l vs.toArray) (e : EachIs R vs bs) (er : EachIs (fun v9 b9 => ∃ as9, Reads s.heap v9 (enc b9) as9) vs bs) (hal : AllAlike (bs.map enc)) (hk : Sortable (bs.map enc)) (hL : bs.length ≤ sizeLine)
    (hu : ∀ b9, b9 ∈ bs → A.units + 2 + (enc b9).depth < cLine) (h : ∀ out, out.length = bs.length → EachIs R out (bs.mergeSort (dataLe false enc)) → Q (.ref (s.heap.objs.size + 1)) { s with heap := sortedAll s.heap vs (List.toArray out) }) : wpAny (model prog w) A (call (.builtin "sorted") [.ref l]) Q E s := by
  have er9' : EachIs (fun v9 b9 => ∃ as9, Reads (sortingHeap (copyHeap s.heap vs) (s.heap.objs.size + 1) vs) v9 (enc b9) as9) vs bs := er.mono fun _ _ ⟨as9, r9⟩ => ⟨as9, PyProof.Rows.Reads.keeps (fun _ _ => sorting_copy_old) r9⟩
  have hL29 : vs.length ≤ sizeLine := by rw [e.length]; exact hL
  exact sortedT_of hl hL29 fun _ => list_sort_vals (s := { s with heap := copyHeap s.heap vs }) (copyHeap_at s.heap vs) (SortsAt.data (s := { s with heap := sortingHeap (copyHeap s.heap vs) (s.heap.objs.size + 1) vs }) (each_map (R := fun v9 d9 => ∃ as9, Reads (sortingHeap (copyHeap s.heap vs) (s.heap.objs.size + 1) vs) v9 d9 as9) enc er9') hal hk (bound_map hu)) hL29 ⟨rfl, h _ (by rw [sortVals_length false rfl]; exact e.length) (sortVals_data false e er9' hal)⟩
end
end DV
namespace DV
open PySem L2
section
variable {S : Sg} {X : Cx}
theorem sort_coreT {C : Cn} (hk : C.K = X.K) (hu : X.A.units + 200 < cLine) {ρ : Env} {σ : St} {H : Hp} {stk : List SI} {a : Addr} {vs : List V} {l : List D} {Q : VK} (hs : SR C ρ σ H (.many vs l :: stk)) (f : isFzA l = true) (sq : SqT X.K H a vs) (q : sortQ l = true) (k : ∀ v9 H', SR C ρ σ H' (.one v9 (.val (.lst true (sortD l))) :: stk) → Q v9 H') :
    cW X (.builtin "sorted") [.ref a] H Q := fun pins9 s9 σ9' us9 I9 r9 => by
  obtain ⟨u9, rfl, ru9⟩ := Vals.one r9
  cases ru9
  obtain ⟨its9, rv9, hl9, hz9⟩ := I9.tuple sq
  unfold sortQ at q
  simp only [Bool.and_eq_true, List.all_eq_true, decide_eq_true_eq, Bool.or_eq_true] at q
  obtain ⟨⟨⟨q19, q29⟩, q39⟩, q49⟩ := q
  obtain ⟨Oρ9, Os, B9, h19, ⟨O19, O29, r19, r29, rfl⟩, hB9, nd9, nz9, ow9⟩ := id hs.ex
  obtain rfl := isFzA_nil f r19
  rw [hk] at r19
  have e9 := in_of r19 rv9
  have er9 := reads_of I9 q19 e9
  have hlen9 : l.length = vs.length := r19.length.symm
  refine sortedT_data (R := fun v9 d9 => ∃ x, RelV x v9 ∧ Rep X.K C.T H B9 d9 x []) (show s9.heap.IsTuple a its9.toArray from hl9) e9 er9 ?_ ?_ (by rw [hlen9]; exact hz9) (fun b9 hb9 => by have := q49 b9 hb9; omega) fun out9 ho9 eo9 => ?_
  · intro d9 hd9 d9' hd9'
    obtain ⟨b9, hb9, rfl⟩ := List.mem_map.mp hd9
    obtain ⟨b9', hb9', rfl⟩ := List.mem_map.mp hd9'
    exact q29 b9 hb9 b9' hb9'
  · rcases q39 with q39 | q39
    · refine .inl fun d9 hd9 => ?_
      obtain ⟨b9, hb9, rfl⟩ := List.mem_map.mp hd9
      have := q39 b9 hb9
      unfold tupNE at this
      split at this
      · rename_i x r9 e9; exact ⟨x, r9, e9⟩
      · cases this
    · refine .inr fun d9 hd9 => ?_
      obtain ⟨b9, hb9, rfl⟩ := List.mem_map.mp hd9
      have := q39 b9 hb9
      unfold notNT at this
      split at this
      · cases this
      · cases this
      · rename_i n1 n2; exact ⟨n1, n2⟩
  · obtain ⟨ys9, ry9, ra9⟩ := out_of eo9
    obtain ⟨ep9, he9'⟩ := PyProof.Rows.sortedAll_at s9.heap its9 out9.toArray
    have hlen29 : ys9.length ≤ sizeLine := by rw [ry9.length, ho9, hlen9]; exact hz9
    have hn9 : H (s9.heap.objs.size + 1) = none := I9.hok.fresh (Nat.le_succ _)
    refine ⟨.ref _, upd H (s9.heap.objs.size + 1) (.lst ys9), I9.laid (t' := s9.toks) (fun _ _ => PyProof.Rows.sortedAll_old) (Nat.le_succ _) ⟨hlen29, out9, ep9, ry9, he9'⟩, rfl, k _ _ ?_⟩
    have s29 : SR C ρ σ H (.many ys9 (sortD l) :: stk) := .again h19 ⟨[], O29, by rw [hk]; exact ra9, r29, rfl⟩ hB9 nd9 nz9 ow9 hs.kept hs.z hs.pin
    exact s29.list hn9
def gSort2 : D → Option D
  | .tup l => if sortQ l then some (.lst true (sortD l)) else none
  | _ => none
theorem ok_sort2 (hu : X.A.units + 200 < cLine) : C1Ok S X (.builtin "sorted") gSort2 := fun G ft ρ σ H stk x ix dx d Q hs hbx ex ed k => by
  cases dx with
  | tup l =>
    have ed : (if sortQ l then some (D.lst true (sortD l)) else none) = some d := ed
    by_cases z : sortQ l = true
    · rw [if_pos z] at ed
      cases ed
      have f := hs.itemsFz hbx ex (l := l) rfl
      obtain ⟨b, us, rfl, _, _, qt, lb, s4⟩ := hs.items hbx ex (l := l) rfl
      have qt := qt rfl
      rw [ft.k] at qt
      exact sort_coreT ft.k hu s4 f qt z k
    · rw [if_neg z] at ed
      cases ed
  | non => cases ed
  | str _ => cases ed
  | bl _ => cases ed
  | int _ => cases ed
  | scr _ => cases ed
  | lst _ _ => cases ed
  | dct _ _ _ _ => cases ed
  | fn _ => cases ed
def gSortA (d : D) : Option D := (gSort d).or (gSort2 d)
theorem ok_sortA (hu : X.A.units + 200 < cLine) : C1Ok S X (.builtin "sorted") gSortA := (ok_sort hu).or (ok_sort2 hu)
end
end DV
namespace DV
open PySem L2

/-! ### dicts whose keys are tuples of numbers and texts -/
def keyD : D → Option Key
  | .int i => some (.inl i)
  | .str x => some (.inr ⟨x.toArray⟩)
  | _ => none
def keysD : List D → Option (List Key)
  | [] => some []
  | d :: l => (keyD d).bind fun k => (keysD l).map (k :: ·)
def kkD : D → Option (List Key)
  | .tup l => keysD l
  | _ => none
theorem keyD_kD (k : Key) : keyD (kD k) = some k := by
  cases k with
  | inl i => rfl
  | inr x => rfl
theorem keysD_kD : ∀ k : List Key, keysD (k.map kD) = some k
  | [] => rfl
  | a :: k => by simp [keysD, keyD_kD, keysD_kD k]
theorem kkD_kD (k : List Key) : kkD (.tup (k.map kD)) = some k := keysD_kD k
theorem keyD_some {d : D} {k : Key} (h : keyD d = some k) : d = kD k := by
  cases d <;> cases h
  · rfl
  · rfl
theorem keysD_some : ∀ {l : List D} {k : List Key}, keysD l = some k → l = k.map kD
  | [], k, h => by cases h; rfl
  | d :: l, k, h => by
    obtain ⟨a, e1, h⟩ := Option.bind_eq_some_iff.mp (show (keyD d).bind (fun k => (keysD l).map (k :: ·)) = some k from h)
    obtain ⟨r, e2, h⟩ := Option.map_eq_some_iff.mp h
    subst h
    rw [keyD_some e1, keysD_some e2]
    rfl
/-- keys as they stand -/
theorem key_val {K : PySem.W.Frag} {T : Nat → Option Addr} {H : Hp} {B : List Addr} {k : Key} {v : V} {O : List Addr} (h : Rep K T H B (kD k) v O) : v = kV k := by
  cases k with
  | inl i => exact h.1
  | inr x => exact h.1
theorem keys_val {K : PySem.W.Frag} {T : Nat → Option Addr} {H : Hp} {B : List Addr} : ∀ {k : List Key} {vs : List V} {O : List Addr}, RepA K T H B (k.map kD) vs O → vs = k.map kV
  | [], _, _, h => h.1
  | a :: k, _, _, h => by
    obtain ⟨v, vs', O1, O2, rfl, h1, h2, _⟩ := h
    rw [key_val h1, keys_val h2]
    rfl
def dGetT (ks vs : List D) (k : List Key) : Option D := ((ks.zip vs).find? fun p => decide (kkD p.1 = some k)).map (·.2)
def dHas (ks : List D) (k : List Key) : Bool := ks.any fun q => decide (kkD q = some k)
def dPutK (ks : List D) (k : List Key) : List D := if dHas ks k then ks else ks ++ [.tup (k.map kD)]
def dPutV (ks vs : List D) (k : List Key) (x : D) : List D := if dHas ks k then (ks.zip vs).map fun p => if kkD p.1 = some k then x else p.2 else vs ++ [x]
abbrev tKey (p : List Key × V) : D × V := (.tup (p.1.map kD), p.2)
section
variable {K : PySem.W.Frag} {T : Nat → Option Addr} {H : Hp} {B : List Addr} {k : List Key}
theorem getT_rep {d : D} : ∀ {l : List (List Key × V)} {vs : List D} {O : List Addr}, RepA K T H B vs ((l.map tKey).map (·.2)) O → dGetT ((l.map tKey).map (·.1)) vs k = some d → ∃ v O1, valV l k = some v ∧ Rep K T H B d v O1
  | [], vs, O, h, e => by
    cases vs <;> simp [dGetT] at e
  | p :: l, [], O, h, e => by simp [dGetT] at e
  | p :: l, x :: vs, O, h, e => by
    obtain ⟨v, vs', O1, O2, ev, h1, h2, _⟩ := h
    simp only [List.map_cons, List.cons.injEq] at ev
    obtain ⟨rfl, rfl⟩ := ev
    by_cases z : p.1 = k
    · refine ⟨p.2, O1, valV_pos z, ?_⟩
      have : dGetT ((tKey p :: l.map tKey).map (·.1)) (x :: vs) k = some x := by
        unfold dGetT
        simp only [List.map_cons, List.zip_cons_cons, List.find?_cons]
        rw [show kkD (tKey p).1 = some p.1 from kkD_kD _, z]
        simp
      rw [List.map_cons] at e
      rw [this] at e
      cases e
      exact h1
    · have : dGetT ((tKey p :: l.map tKey).map (·.1)) (x :: vs) k = dGetT ((l.map tKey).map (·.1)) vs k := by
        unfold dGetT
        simp only [List.map_cons, List.zip_cons_cons, List.find?_cons]
        rw [show kkD (tKey p).1 = some p.1 from kkD_kD _]
        simp [z]
      rw [List.map_cons] at e
      rw [this] at e
      obtain ⟨w, O3, q1, q2⟩ := getT_rep h2 e
      exact ⟨w, O3, by rw [valV_neg z]; exact q1, q2⟩
theorem has_val : ∀ l : List (List Key × V), dHas ((l.map tKey).map (·.1)) k = l.any fun p => decide (p.1 = k)
  | [] => rfl
  | p :: l => by
    have ih := has_val l
    unfold dHas at ih ⊢
    simp only [List.map_cons, List.any_cons]
    rw [show kkD (tKey p).1 = some p.1 from kkD_kD _, ih]
    simp
theorem putK_keys (l : List (List Key × V)) (v : V) : ((putK l k v).map tKey).map (·.1) = dPutK ((l.map tKey).map (·.1)) k := by
  unfold dPutK putK
  rw [has_val]
  by_cases z : (l.any fun p => decide (p.1 = k)) = true
  · rw [if_pos z, if_pos z, List.map_map, List.map_map, List.map_map]
    (refine List.map_congr_left fun p _ => ?_)
    show D.tup ((if p.1 = k then (p.1, v) else p).1.map kD) = _
    split <;> rfl
  · rw [if_neg z, if_neg z]
    simp
theorem put_same {x : D} {v : V} (hx : Rep K T H B x v []) : ∀ {l : List (List Key × V)} {vs : List D}, RepA K T H B vs ((l.map tKey).map (·.2)) [] →
    RepA K T H B (((((l.map tKey).map (·.1)).zip vs).map fun p => if kkD p.1 = some k then x else p.2)) (((l.map fun kv => if kv.1 = k then (kv.1, v) else kv).map tKey).map (·.2)) []
  | [], vs, h => by
    cases vs with
    | nil => exact ⟨rfl, rfl⟩
    | cons a b => obtain ⟨_, _, _, _, z, _⟩ := h; cases z
  | p :: l, [], h => by cases h.1
  | p :: l, y :: vs, h => by
    obtain ⟨u, vs', O1, O2, ev, h1, h2, eo⟩ := h
    simp only [List.map_cons, List.cons.injEq] at ev
    obtain ⟨rfl, rfl⟩ := ev
    obtain ⟨rfl, rfl⟩ := List.append_eq_nil_iff.mp eo.symm
    have ih := put_same hx h2
    simp only [List.map_cons, List.zip_cons_cons]
    refine ⟨_, _, [], [], rfl, ?_, ih, rfl⟩
    rw [show kkD (tKey p).1 = some p.1 from kkD_kD _]
    by_cases z : p.1 = k
    · simp [z]
      exact hx
    · simp [z]
      exact h1
theorem put_rep {x : D} {v : V} (hx : Rep K T H B x v []) {l : List (List Key × V)} {vs : List D} (h : RepA K T H B vs ((l.map tKey).map (·.2)) []) :
    RepA K T H B (dPutV ((l.map tKey).map (·.1)) vs k x) (((putK l k v).map tKey).map (·.2)) [] := by
  unfold dPutV putK
  rw [has_val]
  by_cases z : (l.any fun p => decide (p.1 = k)) = true
  · rw [if_pos z, if_pos z]
    exact put_same hx h
  · rw [if_neg z, if_neg z]
    have h1 : RepA K T H B [x] [v] [] := ⟨v, [], [], [], rfl, hx, ⟨rfl, rfl⟩, rfl⟩
    have := h.app h1
    simpa using this
end
/-! opened, closed -/
section
variable {C : Cn} {ρ : Env} {σ : St} {H : Hp} {stk : List SI}
theorem dObj_mut {o : HO} {t : Bool} {kvs : List (D × V)} (h : dObj o t kvs) : OwnO o := by
  cases t <;> obtain ⟨l, rfl, _⟩ := h <;> trivial
theorem SR.dopen {a : Addr} {t : Bool} {ks vs : List D} (h : SR C ρ σ H (.one (.ref a) (.val (.dct true t ks vs)) :: stk)) : ∃ o kvs, H a = some o ∧ dObj o t kvs ∧ kvs.map (·.1) = ks ∧ SR C ρ σ H (.many (kvs.map (·.2)) vs :: .hole a :: stk) := by
  obtain ⟨Oρ, Os, B, h1, ⟨O1, O2, r1, r2, rfl⟩, hB, nd, nz, ow⟩ := h.ex
  obtain ⟨a', kvs, O', e, ⟨o, f, fo⟩, ek, r, rfl⟩ := r1
  cases e
  have pm : List.Perm (Oρ ++ (a :: O' ++ O2)) (Oρ ++ (O' ++ a :: O2)) := List.Perm.append_left _ List.perm_middle.symm
  exact ⟨o, kvs, f, fo, ek, h.remk h1 ⟨O', a :: O2, r, ⟨O2, r2, rfl, _, f, dObj_mut fo⟩, rfl⟩ hB nd nz ow (fun a z => pm.mem_iff.mpr z) (pm.nodup_iff.mp nd) h.pin⟩
theorem SR.dclose {a : Addr} {o : HO} {t : Bool} {ks vs : List D} {kvs : List (D × V)} (h : SR C ρ σ H (.many (kvs.map (·.2)) vs :: .hole a :: stk)) (fo : dObj o t kvs) (ek : kvs.map (·.1) = ks) : SR C ρ σ (upd H a o) (.one (.ref a) (.val (.dct true t ks vs)) :: stk) := by
  obtain ⟨Oρ, Os, B, h1, ⟨O1, O3, r1, ⟨O2, r2, rfl, o', e, m⟩, rfl⟩, hB, nd, nz, ow⟩ := h.ex
  have aB : a ∈ B := (hB a).mpr (by simp)
  have nd2 := List.nodup_append.mp nd
  have nd3 := List.nodup_append.mp nd2.2.1
  have nd4 := List.nodup_cons.mp nd3.2.1
  have kp : ∀ O, a ∉ O → Kp H B O (upd H a o) B := fun O hO => ⟨fun b u e _ q => by
    have : b ≠ a := fun z => by
      subst z
      rcases q with q | q
      · exact q aB
      · exact hO q
    rw [upd_ne this]
    exact e, fun a q => .inl q⟩
  have nρ : a ∉ Oρ := fun z => nd2.2.2 a z a (by simp) rfl
  have n1 : a ∉ O1 := fun z => nd3.2.2 a z a (by simp) rfl
  have pm : List.Perm (Oρ ++ (O1 ++ a :: O2)) (Oρ ++ (a :: O1 ++ O2)) := List.Perm.append_left _ List.perm_middle
  refine .again (Oρ := Oρ) (Os := a :: O1 ++ O2) (B := B) (h1.kp (kp _ nρ)) ⟨a :: O1, O2, ⟨a, kvs, O1, rfl, ⟨o, upd_same, fo⟩, ek, r1.kp (kp _ n1), rfl⟩, r2.kp (kp _ nd4.1), rfl⟩ (fun b => ?_) (pm.nodup_iff.mp nd) (fun b q z => nz b q (pm.mem_iff.mpr z)) (fun b q => ow b (pm.mem_iff.mpr q)) ⟨fun b u e2 nt n => ?_, h.kept.tabs.upd e m⟩ h.z h.pin
  · rw [hB b]
    have := (List.Perm.mem_iff (a := b) (List.perm_middle (a := a) (l₁ := O1) (l₂ := O2)))
    simp only [List.cons_append] at this ⊢
    rw [this]
  · have : b ≠ a := fun z => by
      rcases ow a (by simp) with q | q
      · rw [z] at e2; exact q u e2 nt
      · exact n (z ▸ q)
    rw [upd_ne this]
    exact h.kept.old b u e2 nt n
theorem SR.newDict {p : Addr} {t : Bool} {o : HO} (h : SR C ρ σ H stk) (hp : H p = none) (ho : dObj o t []) : SR C ρ σ (upd H p o) (.one (.ref p) (.val (.dct true t [] [])) :: stk) := by
  have hl := (h.nilMany).list hp (vs := [])
  have e : upd (upd H p (.lst [])) p o = upd H p o := by
    funext b
    by_cases z : b = p
    · subst z; rw [upd_same, upd_same]
    · rw [upd_ne z, upd_ne z, upd_ne z]
  obtain ⟨vs', e1, hl', s2⟩ := hl.open
  obtain rfl : vs' = [] := List.length_eq_zero_iff.mp hl'
  have := s2.dclose (kvs := []) ho rfl
  rw [e] at this
  exact this
/-- put under a key -/
theorem SR.dput {a : Addr} {l : List (List Key × V)} {k : List Key} {ks vals ds : List D} {vs : List V} {v : V} {x : D} (h : SR C ρ σ H (.many ((l.map tKey).map (·.2)) vals :: .hole a :: .many vs ds :: .one v (.val x) :: stk)) (fv : isFzA vals = true) (fd : isFzA ds = true) (fx : isFz x = true) (ek : (l.map tKey).map (·.1) = ks) :
    SR C ρ σ (upd H a (.dT (putK l k v))) (.one (.ref a) (.val (.dct true true (dPutK ks k) (dPutV ks vals k x))) :: stk) := by
  obtain ⟨Oρ, Os, B, h1, ⟨O1, O2, r1, ⟨O3, ⟨O4, O5, r4, ⟨O6, O7, r6, r7, rfl⟩, rfl⟩, rfl, o, eo, mo⟩, rfl⟩, hB, nd, nz, ow⟩ := h.ex
  obtain rfl := isFzA_nil fv r1
  obtain rfl := isFzA_nil fd r4
  obtain rfl := isFz_nil fx r6
  have s : SR C ρ σ H (.many (((putK l k v).map tKey).map (·.2)) (dPutV ((l.map tKey).map (·.1)) vals k x) :: .hole a :: stk) := .again (Os := a :: O7) h1 ⟨[], a :: O7, put_rep r6 r1, ⟨O7, r7, rfl, o, eo, mo⟩, rfl⟩ hB nd nz ow h.kept h.z h.pin
  subst ek
  exact s.dclose ⟨_, rfl, rfl⟩ (putK_keys l v)
end
section
variable {S : Sg} {X : Cx} {e : Expr} {es : List Expr} {fe : EF} {fr : AF} {i : Nat} {x : Str} {p pos p2 p3 : Pos}
def evDnew (t : Bool) : EF := fun ρ => .ok (.val (.dct true t [] []), ρ)
theorem ev_dnew (t : Bool) : EvOk S X (.Dict [] [] pos) (evDnew t) := fun G ft ρ σ H stk Q hs hp => by
  cases t with
  | true => exact of_PE pe_dnewT fun a ha => hp _ _ (hs.newDict ha ⟨[], rfl, rfl⟩) trivial
  | false => exact of_PE pe_dnewK fun a ha => hp _ _ (hs.newDict ha ⟨[], rfl, rfl⟩) trivial
def dGet : D → List D → Option D
  | .dct _ true ks vs, key => (keysD key).bind (dGetT ks vs)
  | _, _ => none
def evDix (i : Nat) (r : AF) : EF := fun ρ => (oR (slotD ρ i)).bind fun _ => (r ρ).bind fun q => if q.1.length ≤ sizeLine then (oR (slotD q.2 i)).bind fun d => (oR (dGet d q.1)).bind fun y => if isFz y then .ok (.val y, q.2) else .no else .no
theorem dget_rep {K : PySem.W.Frag} {T : Nat → Option Addr} {H : Hp} {B : List Addr} {d y : D} {v : V} {O : List Addr} {key : List D} {vs : List V} {P : List Addr} {b : Addr} (h : Rep K T H B d v O) (g : dGet d key = some y) (hk : RepA K T H B key vs P) (hb : H b = some (.tup vs)) :
    ∃ a w O1, v = .ref a ∧ DGet H a (.ref b) (some w) ∧ Rep K T H B y w O1 := by
  unfold dGet at g
  split at g
  · rename_i o ks vals
    obtain ⟨k, ek, g2⟩ := Option.bind_eq_some_iff.mp g
    have e2 := keysD_some ek
    subst e2
    have ev := keys_val hk
    subst ev
    have fin : ∀ (a : Addr) (l : List (List Key × V)) (O' : List Addr), v = .ref a → H a = some (.dT l) → (l.map tKey).map (·.1) = ks → RepA K T H B vals ((l.map tKey).map (·.2)) O' → ∃ a w O1, v = .ref a ∧ DGet H a (.ref b) (some w) ∧ Rep K T H B y w O1 := fun a l O' e1 e3 e4 r => by
      rw [← e4] at g2
      obtain ⟨w, O1, q1, q2⟩ := getT_rep r g2
      exact ⟨a, w, O1, e1, by rw [← q1]; exact DGet.t e3 hb, q2⟩
    cases o with
    | false =>
      obtain ⟨a, kvs, e1, ⟨⟨o, e3, l, rfl, rfl⟩, _⟩, e4, r, _⟩ := h
      exact fin a l _ e1 e3 e4 r
    | true =>
      obtain ⟨a, kvs, O', e1, ⟨o, e3, l, rfl, rfl⟩, e4, r, _⟩ := h
      exact fin a l _ e1 e3 e4 r
  · cases g
theorem ev_dix {x1} (hu : X.A.units + 200 < cLine) (hv : PE X (.Name x p) (tVar i)) (hr : AbOk S true X es fr) : EvOk S X (.Subscript (.Name x p) (.Tuple es x1 p2) pos) (evDix i fr) := fun G ft ρ σ H stk Q hs hp => by
  obtain ⟨d0, e0, hp⟩ := hp.bind.oR
  obtain ⟨v0, ev0, _⟩ := hs.take (slotD_some e0)
  refine of_PE (pe_dget (by omega) hv (pe_tup pa_W) (fun _ _ => rfl)) ⟨v0, ev0, hr G ft ρ σ H stk _ hs (hp.bind.mono fun q hp vs H1 s1 hl hf => ?_)⟩
  by_cases z : q.1.length ≤ sizeLine
  · rw [if_pos z] at hp
    obtain ⟨d, ed, hp⟩ := hp.bind.oR
    obtain ⟨y, ey, hp⟩ := hp.bind.oR
    by_cases zy : isFz y = true
    · rw [if_pos zy] at hp
      refine ⟨by rw [hl]; exact z, fun b hb => ?_⟩
      have s2 := s1.grow (upd_grow (o := .tup vs) hb)
      obtain ⟨Oρ, Os, B, h1, h2, hB, nd, nz, ow⟩ := id s2.ex
      obtain ⟨O1, O2, r1, r2, rfl⟩ := h2
      obtain ⟨v', O3, O4, ev', rv, _⟩ := h1.take (slotD_some ed)
      rw [ev0] at ev'
      cases ev'
      obtain ⟨a, w, O5, rfl, g, rw'⟩ := dget_rep rv ey r1 upd_same
      have rw2 := isFz_nil zy rw'
      subst rw2
      refine ⟨a, w, rfl, g, hp w _ ?_ trivial⟩
      have s3 := s2.drop
      obtain rfl := isFzA_nil (hf rfl) r1
      exact .again h1 ⟨[], O2, rw', r2, rfl⟩ (by simpa using hB) (by simpa using nd) (by simpa using nz) (by simpa using ow) s2.kept s2.z s2.pin
    · rw [if_neg zy] at hp
      exact hp.elim
  · rw [if_neg z] at hp
    exact hp.elim
def dPutE : D → List D → D → Option D
  | .dct true true ks vs, key, x => if isFzA vs && decide (ks.length < sizeLine) then (keysD key).map fun k => .dct true true (dPutK ks k) (dPutV ks vs k x) else none
  | _, _, _ => none
def svDput (i : Nat) (r : AF) (e : EF) : SF := fun ρ => (e ρ).st fun q => oS (settle q.2 q.1) fun y => oS (slotD y.2 i) fun _ => (r y.2).st fun t => if t.1.length ≤ sizeLine then oS (slotD t.2 i) fun d => oS (dPutE d t.1 y.1) fun d' => .nx (t.2.set i (some d')) else .no
theorem sv_dput {x1} (hu : X.A.units + 200 < cLine) (hv : PE X (.Name x p) (tVar i)) (hr : AbOk S true X es fr) (he : EvOk S X e fe) : SvOk S X (.Assign [.Subscript (.Name x p) (.Tuple es x1 p3) p2] e pos) (svDput i fr fe) := fun G ft ρ σ H stk Dn hs hp =>
  of_PS (ps_asg pe_W (pg_sub hv (pe_tup pa_W) (set_dict (by omega)) (asSub rfl)) (swSub e) (stSub e) rfl) (he G ft ρ σ H stk _ hs ((hp.st (σ := σ)).mono fun q hp v H1 s1 hb => by
    obtain ⟨y, ey, hp⟩ := hp.oS
    obtain ⟨d0, e0, hp⟩ := hp.oS
    obtain ⟨s2, fy⟩ := s1.settle hb ey
    obtain ⟨v0, ev0, _⟩ := s2.take (slotD_some e0)
    refine ⟨v0, ev0, hr G ft y.2 σ H1 _ _ s2 ((hp.st (σ := σ)).up fun t hp vs H2 s3 hl hf => ?_)⟩
    by_cases z : t.1.length ≤ sizeLine
    · rw [if_pos z] at hp
      obtain ⟨d, ed, hp⟩ := hp.oS
      obtain ⟨d', ed', hp⟩ := hp.oS
      refine ⟨by rw [hl]; exact z, fun b hb => ?_⟩
      unfold dPutE at ed'
      split at ed'
      · rename_i ks vals
        by_cases zz : (isFzA vals && decide (ks.length < sizeLine)) = true
        · rw [if_pos zz] at ed'
          simp only [Bool.and_eq_true, decide_eq_true_eq] at zz
          obtain ⟨k, ek, rfl⟩ := Option.map_eq_some_iff.mp ed'
          have s4 := s3.grow (upd_grow (o := .tup vs) hb)
          have i1 := slotD_some ed
          obtain ⟨v1, ev1, s5⟩ := s4.take i1
          rw [ev0] at ev1
          cases ev1
          have top := s5.ex
          obtain ⟨_, _, B, _, ⟨O1, O2, r1, r2, _⟩, _⟩ := top
          obtain ⟨a, kvs, O', rfl, ⟨o, ea, l, rfl, rfl⟩, e4, r, rfl⟩ := r1
          obtain ⟨o', kvs', ea', fo', e4', s6⟩ := s5.dopen
          rw [ea] at ea'
          cases ea'
          obtain ⟨l', el, rfl⟩ := fo'
          cases el
          have kv : vs = k.map kV := by
            obtain ⟨O3, O4, r3, _⟩ := r2
            rw [keysD_some ek] at r3
            exact keys_val r3
          have ln : l.length < sizeLine := by
            have := congrArg List.length e4
            simp at this
            omega
          refine ⟨a, _, rfl, DPut.t (k := k) ea (by rw [kv]; exact upd_same) ln, hp _ _ ?_⟩
          have s7 := s6.dput (k := k) zz.1 (hf rfl) fy e4
          have hi2 : (t.2.set i none)[i]? = some none := by rw [List.getElem?_set_self (List.getElem?_eq_some_iff.mp i1).1]
          have := s7.back hi2 ev0
          rw [List.set_set] at this
          exact this
        · rw [if_neg zz] at ed'
          cases ed'
      · cases ed'
    · rw [if_neg z] at hp
      exact hp.elim))
/-! max, min of two numbers -/
def gMx (mn : Bool) : D → D → Option D
  | .int i, .int j => some (.int (if mn then (if j < i then j else i) else (if j > i then j else i)))
  | _, _ => none
theorem gMx_some {mn : Bool} {a b d : D} (h : gMx mn a b = some d) : ∃ i j, a = .int i ∧ b = .int j ∧ d = .int (if mn then (if j < i then j else i) else (if j > i then j else i)) := by
  unfold gMx at h
  split at h
  · cases h
    exact ⟨_, _, rfl, rfl, rfl⟩
  · cases h
def mxW (mn : Bool) : String := if mn then "min" else "max"
theorem ev_mx {mn : Bool} {a b : Expr} {fa fb : EF} (hc : X.calm = true) (hg : Gl X (Str.ofString (mxW mn))) (hm : X.mg (Str.ofString (mxW mn)) = none) (ha : EvOk S X a fa) (hb : EvOk S X b fb) (s1 : notStar a = true) (s2 : notStar b = true) : EvOk S X (.Call (.Name (Str.ofString (mxW mn)) p) [a, b] [] pos) (ev2 fa fb (gMx mn)) := fun G ft ρ σ H stk Q hs hp => by
  have core : ∀ {u w : V} {H1 : Hp} {q r : DV.It × Env}, SR G.C r.2 σ H1 (.one w r.1 :: .one u q.1 :: stk) → BrwOk σ r.1 w → BrwOk σ q.1 u → PR G σ stk ((oR (dref r.2 q.1)).bind fun x => (oR (dref r.2 r.1)).bind fun y => (oR (gMx mn x y)).bind fun d => R.ok (DV.It.val d, r.2)) (OkE G σ stk Q) → ∃ i j, [u, w] = [V.int i, V.int j] ∧ Q (.int (if mn then (if j < i then j else i) else (if j > i then j else i))) H1 := fun {u w H1 q r} s b2 b1 hp => by
    obtain ⟨dx, e1, hp⟩ := hp.bind.oR
    obtain ⟨dy, e2, hp⟩ := hp.bind.oR
    obtain ⟨d, e3, hp⟩ := hp.bind.oR
    obtain ⟨i, j, rfl, rfl, rfl⟩ := gMx_some e3
    cases s.isInt (i := j) b2 e2
    have s' := s.drop
    cases s'.isInt (i := i) b1 e1
    exact ⟨i, j, rfl, hp _ _ (s'.drop.imm fun B => ⟨rfl, rfl⟩) trivial⟩
  cases mn with
  | false =>
    exact of_PE (pe_callB (call_max2 hc) hg hm rfl (pa_cons pe_W (pa_cons pe_W pa_nil (star_cons s2)) (star_cons s1)) (by decide) (by rfl) (star_cons s1) (star_none (by simp [s2]))) (ha G ft ρ σ H stk _ hs (hp.bind.mono fun q hp v H1 h1 hb1 => hb G ft _ σ H1 _ _ h1 (hp.bind.up fun r hp u H2 h2 hb2 => core h2 hb2 hb1 hp)))
  | true =>
    exact of_PE (pe_callB (call_min2 hc) hg hm rfl (pa_cons pe_W (pa_cons pe_W pa_nil (star_cons s2)) (star_cons s1)) (by decide) (by rfl) (star_cons s1) (star_none (by simp [s2]))) (ha G ft ρ σ H stk _ hs (hp.bind.mono fun q hp v H1 h1 hb1 => hb G ft _ σ H1 _ _ h1 (hp.bind.up fun r hp u H2 h2 hb2 => core h2 hb2 hb1 hp)))
end
end DV
namespace DV
open PySem L2

/-! ### raise of an own class over ValueError, without arguments -/
structure ClsOk (X : Cx) (x : Str) (C : Addr) : Prop where
  g : X.mg x = some (.ref C)
  k : PySem.W.keepIn X.K (.ref C) = true
  e : PySem.W.excIn X.K C [.type "ValueError", .type "Exception", .type "BaseException", .type "object"] "ValueError.__new__" = true
  b : PySem.W.subIn X.K (.ref C) (.type "BaseException") = some true
  t : PySem.W.typeIn X.K (.ref C) = some (.type "type")
theorem pmk_own0 {X : Cx} {x : Str} {C : Addr} {p pos : Pos} (hC : ClsOk X x C) (hg : Gl X x) (hdb : (x == ("__debug__" : Str)) = false) : PMk X (.Call (.Name x p) [] [] pos) (fun _ H Q => Q (.ref C) none H) := by
  intro pins s σ H Q I wish
  refine wpAny_Call_Name_kw (ld_glob I hg hC.g ?_ hdb)
  refine PySem.W.callWith_K0 I.kIn hC.k ?_
  obtain ⟨_, _, _, _, _, _, _, _, _, _, _, _, _, _, _, _, _, c1, c2, c3, c4⟩ := exc_obj I.kIn hC.e
  exact PySem.wpAny_call_exc_subT PySem.F.excBase_ValueError c4 c1 c2 c3 (fun h' e hm => mk_of I hm (raises_own hC.b hC.t) wish (I.hok.gone hm.new)) (Nat.zero_le _)
def svRz (n : Nat) : SF := fun ρ => .er ⟨n, []⟩ ρ
theorem sv_rz {S : Sg} {X : Cx} {x : Str} {C : Addr} {n : Nat} {p p2 pos : Pos} (hc : X.calm = true) (hC : ClsOk X x C) (hT : S.T n = some C) (hf : S.xf.f n = []) (hg : Gl X x) (hdb : (x == ("__debug__" : Str)) = false) : SvOk S X (.Raise (some (.Call (.Name x p) [] [] p2)) none pos) (svRz n) := fun G ft ρ σ H stk Dn hs hp =>
  of_PS (ps_raise hc ft.tk (pmk_own0 hC hg hdb)) (hp (.ref C) none [] σ H ⟨⟨C, by rw [ft.t]; exact hT, rfl⟩, .inl ⟨rfl, rfl, by rw [ft.x]; exact hf⟩⟩ hs.nilMany)
end DV
namespace DV
open PySem L2

/-! ### count and index of a list, by deep equality -/
section
variable {X : Cx}
def rListD (K : PySem.W.Frag) (f : List PyData → PyData → Option Int) : V → List V → Hp → VK → Prop := fun x xs H Q => ∃ (a : Addr) (zs : List V) (y : V) (d : PyData) (ds : List PyData) (r : Int), x = .ref a ∧ xs = [y] ∧ SqL K H a zs ∧ DpAll K H zs ds ∧ Dp K H y d ∧
  PyData.canLayAll0 ds = true ∧ d.canLay0 = true ∧ min (PyData.depthAll ds) d.depth ≤ 150 ∧ f ds d = some r ∧ Q (.int r) H
def cntP (ds : List PyData) (d : PyData) : Option Int := some ((ds.countP fun z => PyData.eqv z d : Nat) : Int)
def idxP (ds : List PyData) (d : PyData) : Option Int := (ds.findIdx? fun z => PyData.eqv z d).map Int.ofNat
theorem mt_cntD (hu : X.A.units + 200 < cLine) : MtR X "list.count" (rListD X.K cntP) := by
  (intro pins s σ H x xs v us Q I rx rxs h)
  obtain ⟨a, zs, y, d, ds, r, rfl, rfl, hl, ha, hy, cl, cd, hm, er, q⟩ := h
  cases er
  cases rx
  cases rxs with
  | cons ry rt =>
    rename_i uy ut
    cases rt
    (obtain ⟨bs, r1⟩ := Dp.reads I d y uy hy ry)
    obtain ⟨its, rv, ⟨⟨cls, dd, data, sls⟩, n, ho, hc, hdn, hdt⟩, hlen⟩ := I.list hl
    simp only at hc hdt
    subst hc hdt
    (obtain ⟨as, h4⟩ := Dp.readsAll I ds _ its ha rv)
    have hmap : its.map (SeqAt.readOf s.heap) = ds := SeqAt.readsAll_map ds its as cl h4
    refine call_meets PySem.F.slot_list_count ⟨_, ho, rfl⟩ PySem.F.entry_list_count (PySem.F.args_list_count_2 _ _) (SeqAt.list_countAt a its.toArray n dd sls uy fun u => PyData.eqv (SeqAt.readOf s.heap u) d) ⟨ho, SeqAt.items_eqAt (vs := its.toArray) (show ReadsAll s.heap its.toArray.toList ds as from h4) r1 cl cd (by omega), ?_⟩
    have ec : its.toArray.toList.countP (fun u => PyData.eqv (SeqAt.readOf s.heap u) d) = ds.countP fun z => PyData.eqv z d := by
      rw [← hmap, List.countP_map]
      rfl
    refine ⟨.int ((ds.countP fun z => PyData.eqv z d : Nat) : Int), H, I.tok _, ⟨s.toks, ?_⟩, q⟩
    rw [ec]
theorem mt_idxD (hu : X.A.units + 200 < cLine) : MtR X "list.index" (rListD X.K idxP) := by
  (intro pins s σ H x xs v us Q I rx rxs h)
  obtain ⟨a, zs, y, d, ds, r, rfl, rfl, hl, ha, hy, cl, cd, hm, er, q⟩ := h
  unfold idxP at er
  obtain ⟨(j : Nat), ej, ee⟩ := Option.map_eq_some_iff.mp er
  subst ee
  obtain ⟨jl, hit, miss⟩ := List.findIdx?_eq_some_iff_getElem.mp ej
  cases rx
  cases rxs with
  | cons ry rt =>
    rename_i uy ut
    cases rt
    (obtain ⟨bs, r1⟩ := Dp.reads I d y uy hy ry)
    obtain ⟨its, rv, ⟨⟨cls, dd, data, sls⟩, n, ho, hc, hdn, hdt⟩, hlen⟩ := I.list hl
    simp only at hc hdt
    subst hc hdt
    (obtain ⟨as, h4⟩ := Dp.readsAll I ds _ its ha rv)
    have hmap : its.map (SeqAt.readOf s.heap) = ds := SeqAt.readsAll_map ds its as cl h4
    have hn : its.length = ds.length := by rw [← hmap, List.length_map]
    have hvl := rv.length
    have hsl := sizeLine_eq
    have at_ : ∀ (m : Nat) (hm : m < its.toArray.size) (hd : m < ds.length), SeqAt.readOf s.heap its.toArray[m] = ds[m] := by
      intro m hm hd
      have : (its.map (SeqAt.readOf s.heap))[m]'(by simpa using hm) = ds[m] := by simp only [hmap]
      simpa using this
    have hj : j < its.toArray.size := by simp; omega
    refine call_meets PySem.F.slot_list_index ⟨_, ho, rfl⟩ PySem.F.entry_list_index (PySem.F.args_list_index_2 _ _) (SeqAt.list_indexAt a its.toArray n dd sls uy (fun u => PyData.eqv (SeqAt.readOf s.heap u) d) j hj (by omega) ?_ ?_) ⟨ho, SeqAt.items_eqAt (vs := its.toArray) (show ReadsAll s.heap its.toArray.toList ds as from h4) r1 cl cd (by omega), ?_⟩
    · (show PyData.eqv (SeqAt.readOf s.heap its.toArray[j]) d = true)
      rw [at_ j hj jl]
      exact hit
    · intro m hm hmj
      (show PyData.eqv (SeqAt.readOf s.heap its.toArray[m]) d = false)
      rw [at_ m hm (by omega)]
      simpa using miss m hmj
    · exact ⟨.int (Int.ofNat j), H, I.tok _, ⟨_, rfl⟩, q⟩
end
section
variable {S : Sg} {X : Cx} {a : Expr} {fa : EF} {i : Nat} {x : Str} {p pos apos : Pos}
def gList (f : List PyData → PyData → Option Int) (l : List D) (y : D) : Option Int := (toPA l).bind fun ps => (toP y).bind fun q => if min (PyData.depthAll ps) q.depth ≤ 150 then f ps q else none
def evMl (f : List PyData → PyData → Option Int) (i : Nat) (a : EF) : EF := fun ρ => (oR (slotD ρ i)).bind fun d0 => (oR (listD d0)).bind fun _ => (a ρ).bind fun p => (oR (dref p.2 p.1)).bind fun y => (oR (slotD p.2 i)).bind fun d => (oR (listD d)).bind fun l => (oR (gList f l y)).bind fun r => .ok (.val (.int r), p.2)
/-- the slot's list, seen -/
theorem SR.seeList {C : Cn} {ρ : Env} {σ : St} {H : Hp} {stk : List SI} (h : SR C ρ σ H stk) {d : D} {l : List D} (e : slotD ρ i = some d) (el : listD d = some l) : ∃ b vs, σ[i]? = some (some (.ref b)) ∧ SqL C.K H b vs ∧ ∀ ps, toPA l = some ps → DpAll C.K H vs ps ∧ PyData.canLayAll0 ps = true := by
  obtain ⟨v, ev, s⟩ := h.take (slotD_some e)
  obtain ⟨o, rfl, f⟩ := listD_some el
  have s' : SR C (ρ.set i none) σ H (.one v (.val (.lst o l)) :: stk) := s
  obtain ⟨b, vs, rfl, _, qb, _, _, _⟩ := s'.items (it := .val (.lst o l)) trivial rfl (seq_of_list el)
  have hH := qb ⟨o, rfl⟩
  obtain ⟨B, O, r⟩ := s.top
  refine ⟨b, vs, ev, SqL.of hH, fun ps eps => ?_⟩
  cases o with
  | false =>
    obtain ⟨b', vs', e1, fl, ra, _⟩ := r
    cases e1
    have := fl.1
    rw [hH] at this
    cases this
    exact ra.dp eps
  | true =>
    obtain ⟨b', vs', O', e1, fl, ra, _⟩ := r
    cases e1
    rw [hH] at fl
    cases fl
    exact ra.dp eps
theorem ev_ml {nm id : String} {f : List PyData → PyData → Option Int} (slot : Slot "list" nm id) (hty : typeOf (.builtin id) = pure (.type "method_descriptor")) (hm : MtR X id (rListD X.K f)) (hv : PE X (.Name x p) (tVar i)) (ha : EvOk S X a fa) (hst : notStar a = true) (hl : (apos.endLine == pos.line) = true) :
    EvOk S X (.Call (.Attribute (.Name x p) nm apos) [a] [] pos) (evMl f i fa) := fun G ft ρ σ H stk Q hs hp => by
  obtain ⟨d0, e0, hp⟩ := hp.bind.oR
  obtain ⟨l0, el0, hp⟩ := hp.bind.oR
  obtain ⟨b0, vs0, ev0, q0, _⟩ := hs.seeList e0 el0
  rw [ft.k] at q0
  refine of_PE (pe_bm PySem.F.plainAttrs_list slot hty hm hv (pa_cons pe_W pa_nil (star_cons hst)) rfl (few1 hst) hl (star_cons hst) rfl) ⟨_, ev0, .inl ⟨rfl, vs0, q0⟩, ?_⟩
  refine ha G ft ρ σ H stk _ hs (hp.bind.mono fun q hp v H1 s1 hb => ?_)
  obtain ⟨y, ey, hp⟩ := hp.bind.oR
  obtain ⟨d, ed, hp⟩ := hp.bind.oR
  obtain ⟨l, el, hp⟩ := hp.bind.oR
  obtain ⟨r, er, hp⟩ := hp.bind.oR
  obtain ⟨ps, eps, er⟩ := Option.bind_eq_some_iff.mp (show (toPA l).bind _ = some r from er)
  obtain ⟨z, ez, er⟩ := Option.bind_eq_some_iff.mp er
  by_cases hz : min (PyData.depthAll ps) z.depth ≤ 150
  · rw [if_pos hz] at er
    obtain ⟨b1, vs1, ev1, q1, dp⟩ := s1.drop.seeList ed el
    rw [ev0] at ev1
    cases ev1
    have hy := (s1.see hb ey).dp (by rw [toP_frz]; exact ez)
    obtain ⟨da, ca⟩ := dp ps eps
    rw [ft.k] at q1 da hy
    exact ⟨b0, vs1, v, z, ps, r, rfl, rfl, q1, da, hy.1, ca, hy.2, hz, er, hp _ _ (s1.drop.imm fun B => ⟨rfl, rfl⟩) trivial⟩
  · rw [if_neg hz] at er
    cases er
end
end DV
namespace DV
open PySem L2

/-! ### x[i][j] = e, the rows owned -/
section
variable {C : Cn} {ρ : Env} {σ : St} {H : Hp} {stk : List SI}
theorem SR.holes {a b : Addr} {vs us : List V} {l m : List D} (h : SR C ρ σ H (.many us m :: .hole a :: .many vs l :: .hole b :: stk)) : b ≠ a := by
  obtain ⟨Oρ, Os, B, h1, ⟨O1, O2, r1, ⟨O3, ⟨O4, O5, r4, ⟨O6, r6, rfl, _⟩, rfl⟩, rfl, _⟩, rfl⟩, hB, nd, _⟩ := h.ex
  intro e
  subst e
  have := (List.nodup_append.mp (List.nodup_append.mp nd).2.1).2.1
  rw [List.nodup_cons] at this
  exact this.1 (by simp)
theorem upd_back {H : Hp} {a : Addr} {o : HO} (h : H a = some o) : upd H a o = H := by
  funext b
  by_cases z : b = a
  · subst z; rw [upd_same, h]
  · rw [upd_ne z]
/-- one item of an owned row of an owned list of rows put anew -/
theorem SR.put2 {p : Addr} {vs : List V} {l m : List D} {j n : Nat} {v : V} {x : D} (h : SR C ρ σ H (.many vs l :: .hole p :: .one v (.val x) :: stk)) (hp : H p = some (.lst vs)) (ej : l[j]? = some (.lst true m)) (hn : n < m.length) :
    ∃ q us, vs[j]? = some (.ref q) ∧ H q = some (.lst us) ∧ us.length = m.length ∧ SR C ρ σ (upd H q (.lst (us.set n v))) (.many vs (l.set j (.lst true (m.set n x))) :: .hole p :: stk) ∧ (upd H q (.lst (us.set n v))) p = some (.lst vs) := by
  obtain ⟨u, eu, s1, back⟩ := h.pull ej
  obtain ⟨B, O, r⟩ := s1.top
  obtain ⟨q, us0, O', rfl, _, _⟩ := r
  obtain ⟨us, hq, lu, s2⟩ := s1.open
  have ne := s2.holes
  obtain ⟨z, ez, s3, back2⟩ := s2.pull (List.getElem?_eq_getElem hn)
  have s4 : SR C ρ σ H (.one v (.val x) :: .many (us.eraseIdx n) (m.eraseIdx n) :: .hole q :: .many (vs.eraseIdx j) (l.eraseIdx j) :: .hole p :: stk) :=
    SR.ofMid (s := [.many (us.eraseIdx n) (m.eraseIdx n), .hole q, .many (vs.eraseIdx j) (l.eraseIdx j), .hole p]) (t := stk) s3.drop
  have s5 := (back2 _ _ _ _ _ _ s4).close
  have s6 := back _ _ _ _ _ _ s5
  rw [set_self_eq eu] at s6
  exact ⟨q, us, eu, hq, lu, s6, by rw [upd_ne ne, hp]⟩
end
section
variable {S : Sg} {X : Cx} {a b e : Expr} {fa fe : EF} {i : Nat} {x : Str} {p pos : Pos}
def rowAt (l : List D) (k : Int) : Option (Nat × List D) := (ixN l.length k).bind fun j => (l[j]?).bind fun d => (ownD d).map fun m => (j, m)
def svSto2 (i : Nat) (a : EF) (m : SmI) (e : EF) : SF := fun ρ => (e ρ).st fun q => oS (grab q.2 q.1) fun y => oS (ownAt y.2 i) fun _ => (a y.2).st fun r => oS (dref r.2 r.1) fun z => oS (intD z) fun k => oS (ownAt r.2 i) fun l => oS (rowAt l k) fun jm => oS (m.get r.2) fun n => oS (ixN jm.2.length n) fun h => .nx (putAt r.2 i (l.set jm.1 (.lst true (jm.2.set h y.1))))
theorem sv_sto2 {m : SmI} {p2 p3 : Pos} (hv : PE X (.Name x p) (tVar i)) (ha : EvOk S X a fa) (hb : SmOk X b m) (he : EvOk S X e fe) (s1 : notSl a = true) (s2 : notSl b = true) : SvOk S X (.Assign [.Subscript (.Subscript (.Name x p) a p2) b p3] e pos) (svSto2 i fa m fe) := fun G ft ρ σ H stk Dn hs hp => by
  have pl : ∀ {e : Expr}, notSl e = true → PlainIx e := fun {e} h o i => by cases e <;> first | rfl | cases h
  obtain ⟨t, ht, hb⟩ := hb
  refine of_PS (ps_asg pe_W (pg_sub (pe_ix ixr_W hv pe_W (pl s1)) ht set_list (asSub s2)) (swSub e) (stSub e) rfl) (he G ft ρ σ H stk _ hs ((hp.st (σ := σ)).mono fun q hp v H1 h1 hb1 => ?_))
  obtain ⟨y, ey, hp⟩ := hp.oS
  obtain ⟨l0, e0, hp⟩ := hp.oS
  have h2 := h1.grab hb1 ey
  obtain ⟨p0, vs0, ev0, hH0, _⟩ := h2.own e0
  refine ⟨_, ev0, ha G ft y.2 σ H1 _ _ h2 ((hp.st (σ := σ)).up fun r hp w H2 h3 hb2 => ?_)⟩
  obtain ⟨z, ez, hp⟩ := hp.oS
  obtain ⟨k, ek, hp⟩ := hp.oS
  obtain ⟨l, el, hp⟩ := hp.oS
  obtain ⟨jm, ejm, hp⟩ := hp.oS
  obtain ⟨n, en, hp⟩ := hp.oS
  obtain ⟨g, eg, hp⟩ := hp.oS
  cases h3.isInt (i := k) hb2 (by rw [ez, intD_some ek])
  obtain ⟨j, ej, ejm⟩ := Option.bind_eq_some_iff.mp (show (ixN l.length k).bind _ = some jm from ejm)
  obtain ⟨d, ed, ejm⟩ := Option.bind_eq_some_iff.mp ejm
  obtain ⟨mm, em, rfl⟩ := Option.map_eq_some_iff.mp ejm
  have dm := ownD_some em
  subst dm
  obtain ⟨p1, vs, ev1, hH, hl1, h4, en2⟩ := h3.drop.own el
  rw [ev0] at ev1
  cases ev1
  have hg : g < mm.length := (ixN_seq eg).2.1
  obtain ⟨q0, us, eu, hq, lu, h5, hpp⟩ := h4.put2 hH ed hg
  refine iW_of ix_seq (.inl ⟨p0, vs, k, .ref q0, rfl, rfl, SqL.of hH, ?_, ?_⟩)
  · show (ixN vs.length k).bind (fun j => vs[j]?) = _
    rw [hl1, ej]
    exact eu
  · refine hb G.C r.2 σ H2 _ n _ h3.drop en ⟨q0, us, n, g, rfl, rfl, hq, by rw [lu]; exact eg, hp _ _ ?_⟩
    have h6 := h5.unown ev0 en2
    rw [upd_back hpp] at h6
    exact h6
end
end DV
namespace DV
open PySem L2
open PyProof.Rows (envOfC)

/-! ### the state when a lambda is made, when it is called -/
section
variable {C : Cn} {ρ ρ' : Env} {σ : St} {H H1 : Hp} {stk : List SI}
theorem SR.extN (h : SR C ρ σ H stk) (e : LamX.ExtN H H1) (t : LamX.Tabs C.TB H1) : SR C ρ σ H1 stk := by
  obtain ⟨Oρ, Os, B, h1, h2, hB, nd, nz, ow⟩ := h.ex
  have kp : ∀ O, Kp H B O H1 B := fun O => ⟨fun a o q n _ => e a o q n, fun a q => .inl q⟩
  exact .again (h1.kp (kp _)) (h2.kp (kp _)) hB nd nz ow ⟨fun a o q nt n => e a o (h.kept.old a o q nt n) nt, t⟩ h.z h.pin
/-- what stands unowned at the entry -/
def CapS (C : Cn) (ρ2 : Env) (σ2 : St) : Prop := C.I = [] ∧ RepS C.K C.T C.H0 C.Z ρ2 σ2 []
theorem CapS.at {ρ2 : Env} {σ2 : St} (k : CapS C ρ2 σ2) (h : SR C ρ σ H stk) {Oρ Os B : List Addr} (x : SRx C ρ σ H stk Oρ Os B) : RepS C.K C.T H B ρ2 σ2 [] := by
  obtain ⟨hI, r⟩ := k
  obtain ⟨_, _, hB, _, _, ow⟩ := x
  refine r.kp ⟨fun a o e nt q => h.kept.old a o e nt (by rw [hI]; simp), fun a q => ?_⟩
  rcases (hB a).mp q with q | q | q
  · exact .inl q
  · refine .inr ?_
    rcases ow a (by simp [q]) with w | w
    · exact w
    · rw [hI] at w; simp at w
  · refine .inr ?_
    rcases ow a (by simp [q]) with w | w
    · exact w
    · rw [hI] at w; simp at w
/-- a def is entered that owns nothing -/
theorem SR.enterF (h : SR C ρ σ H stk) {ρ2 : Env} {σ2 : St} (hr2 : ∀ Oρ Os B, SRx C ρ σ H stk Oρ Os B → RepS C.K C.T H B ρ2 σ2 []) (pin : List (Nat × V)) (hpin : ∀ p ∈ pin, σ2[p.1]? = some (some p.2)) :
    ∃ Z, SR ⟨C.K, C.T, Z, H, [], pin, C.TB⟩ ρ2 σ2 H [] ∧ (∀ ρq' σq' Hq' sq, SR ⟨C.K, C.T, Z, H, [], pin, C.TB⟩ ρq' σq' Hq' sq → SR C ρ σ Hq' (sq ++ stk)) ∧
      ∀ (ρ3 : Env) (σ3 : St), (∀ Oρ Os B, SRx C ρ σ H stk Oρ Os B → RepS C.K C.T H B ρ3 σ3 []) → CapS ⟨C.K, C.T, Z, H, [], pin, C.TB⟩ ρ3 σ3 := by
  have conv : ∀ {O1 O2 Os B}, SRx C ρ σ H (.many [] [] :: stk) O1 (O2 ++ Os) B → RepA C.K C.T H B [] [] O2 → O2 = [] ∧ SRx C ρ σ H stk O1 Os B := fun {O1 O2 Os B} x r => by
    obtain rfl := r.2
    obtain ⟨a, b, c, d, e, f⟩ := x
    refine ⟨rfl, a, ?_, by simpa using c, by simpa using d, by simpa using e, by simpa using f⟩
    obtain ⟨P1, P2, q, b, e⟩ := b
    obtain rfl := q.2
    simp at e
    rw [e]
    exact b
  obtain ⟨I, Z, h1, h2, O1, O2, B, x, r, hZ⟩ := h.nilMany.enterG (ρ2 := ρ2) (σ2 := σ2) (fun O1 O2 Os B x r => by
    obtain ⟨e, x⟩ := conv x r
    rw [e]
    exact hr2 _ _ _ x) pin hpin
  obtain ⟨rfl, x2⟩ := conv x r
  refine ⟨Z, h1, h2, fun ρ3 σ3 h3 => ⟨rfl, (h3 _ _ _ x2).kp ⟨fun _ _ e _ _ => e, fun a q => .inl ((hZ a).mpr (.inl q))⟩⟩⟩
/-! slots frozen, slots kept -/
def frzS : List Nat → Env → Option Env
  | [], ρ => some ρ
  | k :: ks, ρ => (slotD ρ k).bind fun d => frzS ks (ρ.set k (some (frz d)))
def keepG : Nat → List Nat → Env → Env
  | _, _, [] => []
  | i, ks, o :: ρ => (if ks.contains i then o else none) :: keepG (i + 1) ks ρ
theorem SR.frzS : ∀ {ks : List Nat} {ρ ρ' : Env}, SR C ρ σ H stk → DV.frzS ks ρ = some ρ' → SR C ρ' σ H stk
  | [], ρ, ρ', h, e => by cases e; exact h
  | k :: ks, ρ, ρ', h, e => by
    obtain ⟨d, e1, e2⟩ := Option.bind_eq_some_iff.mp (show (slotD ρ k).bind _ = some ρ' from e)
    obtain ⟨v, ev, s⟩ := h.take (slotD_some e1)
    have hi : k < ρ.length := (List.getElem?_eq_some_iff.mp (slotD_some e1)).1
    have s2 := s.freeze.back (i := k) (by rw [List.getElem?_set_self hi]) ev
    rw [List.set_set] at s2
    exact SR.frzS s2 e2
theorem frzS_fz : ∀ {ks js : List Nat} {ρ ρ' : Env}, (∀ j ∈ js, ∀ d, ρ[j]? = some (some d) → isFz d = true) → DV.frzS ks ρ = some ρ' → ∀ j, j ∈ ks ∨ j ∈ js → ∀ d, ρ'[j]? = some (some d) → isFz d = true
  | [], js, ρ, ρ', h, e, j, hj, d, ed => by cases e; exact h j (by simpa using hj) d ed
  | k :: ks, js, ρ, ρ', h, e, j, hj, d, ed => by
    obtain ⟨d0, e1, e2⟩ := Option.bind_eq_some_iff.mp (show (slotD ρ k).bind _ = some ρ' from e)
    refine frzS_fz (js := k :: js) (fun m hm d2 ed2 => ?_) e2 j ?_ d ed
    · by_cases z : k = m
      · subst z
        have hi : k < ρ.length := (List.getElem?_eq_some_iff.mp (slotD_some e1)).1
        rw [List.getElem?_set_self hi] at ed2
        cases ed2
        exact isFz_frz _
      · rw [List.getElem?_set_ne z] at ed2
        exact h m ((List.mem_cons.mp hm).resolve_left (Ne.symm z)) d2 ed2
    · rcases hj with hj | hj
      · rcases List.mem_cons.mp hj with rfl | hj
        · exact .inr (by simp)
        · exact .inl hj
      · exact .inr (by simp [hj])
theorem keepG_rep {K : PySem.W.Frag} {T : Nat → Option Addr} {B : List Addr} {ks : List Nat} : ∀ {i : Nat} {ρ : Env} {σ : St} {O : List Addr}, RepS K T H B ρ σ O → (∀ j ∈ ks, ∀ m, j = i + m → ∀ d, ρ[m]? = some (some d) → isFz d = true) → RepS K T H B (keepG i ks ρ) σ []
  | i, [], σ, O, h, _ => ⟨h.1, rfl⟩
  | i, none :: ρ, σ, O, h, f => by
    obtain ⟨s, σ', rfl, r⟩ := h
    have r2 := keepG_rep (i := i + 1) r fun j hj m e d ed => f j hj (m + 1) (by omega) d (by simpa using ed)
    unfold keepG
    split <;> exact ⟨s, σ', rfl, r2⟩
  | i, some d :: ρ, σ, O, h, f => by
    obtain ⟨v, σ', O1, O2, rfl, r1, r, rfl⟩ := h
    have r2 := keepG_rep (i := i + 1) r fun j hj m e d ed => f j hj (m + 1) (by omega) d (by simpa using ed)
    unfold keepG
    by_cases z : ks.contains i = true
    · rw [if_pos z]
      obtain rfl := isFz_nil (f i (by simpa using z) 0 rfl d rfl) r1
      exact ⟨v, σ', [], [], rfl, r1, r2, rfl⟩
    · rw [if_neg z]
      exact ⟨some v, σ', rfl, r2⟩
end

/-! ### the lambda called, with the def's own store in sight -/
section
variable {pins : List (Addr × Obj)} {σ : L2.St} {H : Hp} {s : Shared} {X : Cx}
theorem pe_actS {CXg : CXT} {Eg : XK} {Ng : List Str} {qg : Str} {sg : Scope} {g f c' : Addr} {cdg pm ctv : Value} {params : Arguments} {body : Expr} {scope : Scope} {k : Nat} {a : Str} {pn : List (Addr × Obj)} {xe : Value → Shared → Prop} {W : WX} {tb : XK → TE} {p1 p2 : Pos}
    (I : Inv X pins σ H s) (L : LamX.LamS X.env.scope scope) (hf : s.heap.get? f = some (PySem.W.kla_obj "<lambda>" (X.env.qual ++ "<lambda>") params body scope (cloFrom X.env.cells scope.names []) pm c' ctv)) (hfn : H f = none) (hfr : f ∉ frs X.stack)
    (hbind : bindArgs (PySem.W.kla_fn "<lambda>" (X.env.qual ++ "<lambda>") params body scope (cloFrom X.env.cells scope.names []) pm (.ref c') ctv) ⟨[], []⟩ = (pure []))
    (tk : Takes ((cxOf CXg X.prog X.w X.K X.mg X.base Ng qg sg g cdg X.A X.stack s H Eg).tr pn xe) W) (hr : Room (k + 1) (X.A.deeper (envOfC qg sg s.heap.objs.size g cdg)))
    (hbody : ∀ (A : Around) (outer : List PySem.Env) (s : Shared) (H : Hp) (E : XK), Room k (A.deeper (LamX.lamEnv X scope s.heap.objs.size f c')) → PE (LamX.lamCx X A outer s H E scope f c') body (tb E))
    (hv : ∀ {p : Pos}, PE ((cxOf CXg X.prog X.w X.K X.mg X.base Ng qg sg g cdg X.A X.stack s H Eg).tr pn xe) (.Name a p) (tVar 0)) :
    PE ((cxOf CXg X.prog X.w X.K X.mg X.base Ng qg sg g cdg X.A X.stack s H Eg).tr pn xe) ((.Call (.Name a p1) [] [] p2))
      (fun σZ HZ Q => σZ[0]? = some (some (.ref f)) ∧ HZ c' = some (LamX.CodeO c' (X.env.qual ++ "<lambda>")) ∧ tb (WE W σZ) σ HZ Q) := ⟨fun pz sz σZ HZ Q IZ w => by
  obtain ⟨w1, w2, w3⟩ := w
  refine wpAny_Call_Name_kw (thn (hv.run pz sz σZ HZ (fun v H1 => v = .ref f ∧ H1 = HZ) IZ ⟨.ref f, w1, rfl, rfl⟩) fun u s2 ⟨v, H2, J, r, z⟩ => ?_)
  obtain ⟨rfl, rfl⟩ := z
  cases r
  have gf := J.base.keep f _ hf hfn hfr (by intro z; cases z)
  refine PySem.W.callWith_F0 ⟨_, _, _, _, gf⟩ ?_
  have old : Un (frs X.stack) [] H H2 s.heap s2.heap := J.base
  obtain ⟨⟨oc, us, t, g1, g2, g3⟩, _⟩ := J.hok c' _ w2
  have run : codeAny (model X.prog X.w) (X.A.deeper (envOfC qg sg s.heap.objs.size g cdg)) (.call (.ref f) ⟨[], []⟩) (CR (L2.CX X.prog X.w) (envOfC qg sg s.heap.objs.size g cdg :: X.stack) X.prog X.w H2 s2 Q (WE W σZ)) s2 := by
    refine PySem.W.kla_callFunE hr.depth gf rfl L.co L.gen rfl ⟨c', oc, us, t, rfl, g1, g2, g3⟩ ?_
    rw [hbind]
    refine wpAny_pure (wpAny_newFunctionEnv (fun y hy => (L.own y hy).2) (fun y hy => absurd hy (by simp)) (fun h1 n1 n2 => ⟨J.nolimit.fresh _ n2, ?_⟩) L.kind)
    have kp : ∀ b o, s2.heap.get? b = some o → h1.get? b = some o := fun b o e => n2.extBut b o (Nat.ne_of_lt (Heap.lt_size e)) (Heap.get?_push_of_some _ e)
    have J2 := LamX.lam_start2 (A := X.A.deeper (envOfC qg sg s.heap.objs.size g cdg)) (outer := envOfC qg sg s.heap.objs.size g cdg :: X.stack) (E := WE W σZ) (f := f) (c' := c') (tk := s2.toks + ([] : List (Str × Value)).length) I L J.env0 hr.hd old n1 kp
    refine PySem.W.kla_codeExpr (wpAny_mono ((hbody _ _ s2 H2 (WE W σZ) (hr.deeper _)).run [] _ _ H2 Q J2 w3) (fun v s' z => ?_) fun _ _ z => z)
    obtain ⟨w', H', J', rv, q⟩ := z
    (exact ⟨w', H', J'.os, J'.bare, J'.base, J'.hok, rv, q⟩)
  refine wpAny_call (codeAny_mono run fun r s3 z => ?_)
  cases r with
  | error e => exact passAt tk σZ pz H2 s2 e s3 J z
  | ok fl =>
    cases fl with
    | ret u => exact J.after z
    | next => exact z.elim
    | brk => exact z.elim
    | cont => exact z.elim⟩
/-- the def that calls what it got -/
def GivesS (X : Cx) (Ng : List Str) (x : Str) (sg : Scope) (g : Addr) (cdg : Value) (bg : List Stmt) (a : Str) (q : Str) (TT : (XK → Hp → VK → Prop) → Hp → VK → Prop) : Prop :=
  ∀ (f c' : Addr) (s : Shared) (H : Hp) (Q : VK), ∀ (tl : XK → Hp → VK → Prop),
    (∀ (W : WX) (pn : List (Addr × Obj)) (xe : Value → Shared → Prop) (p1 p2 : Pos), Takes ((cxOf C8.CX0 X.prog X.w X.K X.mg X.base Ng x sg g cdg X.A X.stack s H C8.E0).tr pn xe) W →
      PE ((cxOf C8.CX0 X.prog X.w X.K X.mg X.base Ng x sg g cdg X.A X.stack s H C8.E0).tr pn xe) (.Call (.Name a p1) [] [] p2) (fun σZ HZ Q => σZ[0]? = some (some (.ref f)) ∧ HZ c' = some (LamX.CodeO c' q) ∧ tl (WE W σZ) HZ Q)) →
    H c' = some (LamX.CodeO c' q) → TT tl H Q →
    ∃ t, (PSs (cxOf C8.CX0 X.prog X.w X.K X.mg X.base Ng x sg g cdg X.A X.stack s H C8.E0).nox bg t) ∧ t { nx := fun _ H' => Q .non H', rt := Q } (L2.start Ng [.ref f]) H
theorem pe_lamcallS {T : List (Addr × Str)} {TT : (XK → Hp → VK → Prop) → Hp → VK → Prop} {x a : Str} {g c P : Addr} {k : Nat} {pg : Arguments} {bg : List Stmt} {sg : Scope} {dV kV doc pm cdv ct oc : Value} {an od : Option Addr} {osl : Array (Option Value)} {Ng : List Str}
    {t : XK → TE} {params : Arguments} {body : Expr} {scope : Scope} {p lpos pos : Pos} (hg : Gl X x) (hm : X.mg x = some (.ref g)) (hk : PySem.W.keepIn X.K (.ref g) = true)
    (lk : X.K.lookup g = some ⟨oc, od, .func (PySem.W.fnOf x x pg bg sg dV kV doc pm an cdv ct), osl⟩) (hcg : PySem.W.codeIn X.K cdv x = true) (hb : L2.Binds X.K (PySem.W.fnOf x x pg bg sg dV kV doc pm an cdv ct) [a] []) (Sg : FnScope Ng [a] sg)
    (hva : ∀ (A : Around) (s : Shared) (H : Hp) (pn : List (Addr × Obj)) (xe : Value → Shared → Prop) (p : Pos), PE ((cxOf C8.CX0 X.prog X.w X.K X.mg X.base Ng x sg g cdv A X.stack s H C8.E0).tr pn xe) (.Name a p) (tVar 0))
    (hG : GivesS X Ng x sg g cdv bg a (X.env.qual ++ "<lambda>") TT)
    (TB : LamX.TabB X.base X.mg c P) (hcode : X.env.code = .ref c) (hmT : (P, X.env.qual ++ "<lambda>") ∈ T) (hu : ∀ p ∈ T, p.1 = P → p.2 = X.env.qual ++ "<lambda>") (hr : Room (k + 2) X.A) (L : LamX.LamS X.env.scope scope) (hdef : defaultsOf params X.env = ([], []))
    (hbind : ∀ (q : Str) (cl : List (Str × Addr)) (pm cv ctv : Value), bindArgs (PySem.W.kla_fn "<lambda>" q params body scope cl pm cv ctv) ⟨[], []⟩ = (pure []))
    (hbody : ∀ (A : Around) (outer : List PySem.Env) (s : Shared) (H : Hp) (E : XK) (f c' : Addr), Room k (A.deeper (LamX.lamEnv X scope s.heap.objs.size f c')) → PE (LamX.lamCx X A outer s H E scope f c') body (t E))
    (hdb : (x == ("__debug__" : Str)) = false) :
    PE X (.Call (.Name x p) [.Lambda params body scope lpos] [] pos) (LamX.tLam T TT t) := ⟨fun pins s σ H Q I w => by
  obtain ⟨w1, w2⟩ := w
  (refine wpAny_Call_Name_kw (ld_glob I hg hm ?_ hdb))
  (refine PySem.W.callWith_K (h₀ := X.base) I.ok.mod.kin hk ?_ (by rfl) (by rfl))
  (show wpAny _ _ (spliced ((false, eval (.Lambda params body scope lpos) X.env) :: backTo pos (starEach [] X.env))) _ _ s)
  refine Calls.spliced_cons (LamX.lam_make2 I TB hcode hmT hu w1 hdef (L.has I.ok) fun f c' m1 c1 H1 s1 J eN t1 hf hfn hfr hco => ?_)
  refine Calls.spliced_nil ⟨J.kIn, wpAny_call (codeAny_mono (R := CR C8.CX0 X.stack X.prog X.w H1 s1 Q C8.E0) ?_ fun r s2 z => ?_)⟩
  · refine LamX.run_ofS (N := Ng) (ps := [a]) (us := [.ref f]) (vs := [.ref f]) lk hcg Sg hr J.env0 (hb s1 [.ref f] J.kIn rfl) (.cons rfl .nil) rfl fun hr' => ?_
    obtain ⟨t', y1, y2⟩ := hG f c' s1 H1 Q (fun E H' Q' => t E σ H' Q') (fun W pn xe p1 p2 tk => pe_actS J L hf hfn hfr (hbind _ _ _ _ _) tk hr' (fun A outer s H E hr2 => hbody A outer s H E f c' hr2) (hva _ _ _ _ _ _)) hco (w2 H1 eN t1)
    exact ⟨t', y1.nox, y2⟩
  · cases r with
    | error e => exact (show False from z).elim
    | ok fl =>
      cases fl with
      | ret u => exact J.after z
      | next => exact z.elim
      | brk => exact z.elim
      | cont => exact z.elim⟩
end
/-! ### what such a def makes of the lambda's end -/
def LoOk (C : Cn) (xf : XF) (σ : St) (lo : FR) (E : XK) (Q : VK) : Prop := match lo with
  | .ok d [] => ∀ ρ' v H', SR C ρ' σ H' [.one v (.val d)] → Q v H'
  | .er x [] => ∀ ρ' cls dd vs H', XCls C.T xf H' x cls dd vs → SR C ρ' σ H' [.many vs x.fs] → E cls dd H'
  | _ => False
def TTW (K : PySem.W.Frag) (T : Nat → Option Addr) (xf : XF) (W : FR → FR) : (XK → Hp → VK → Prop) → Hp → VK → Prop := fun tl H Q =>
  ∃ (C : Cn) (ρ : Env) (σ : St) (stk : List SI) (ρ2 : Env) (lo : FR), C.K = K ∧ C.T = T ∧ C.TB = xf.tb ∧ SR C ρ σ H stk ∧ (∀ Oρ Os B, SRx C ρ σ H stk Oρ Os B → RepS C.K C.T H B ρ2 σ []) ∧
    (∀ (C2 : Cn) (E2 : XK) (H2 : Hp) (Q2 : VK), C2.K = K → C2.T = T → C2.TB = xf.tb → C2.pin = [] → SR C2 ρ2 σ H2 [] → LoOk C2 xf σ lo E2 Q2 → tl E2 H2 Q2) ∧
    match W lo with
    | .ok d [] => ∀ v H', SR C ρ σ H' (.one v (.val d) :: stk) → Q v H'
    | _ => False
def lamO (F : EF) (ρ : Env) : FR := match F ρ with
  | .ok p => (match grab p.2 p.1 with
    | some q => .ok q.1 []
    | none => .no)
  | .er x _ => .er x []
  | .no => .no
def evLam (ks : List Nat) (F : EF) (W : FR → FR) : EF := fun ρ => (oR (frzS ks ρ)).bind fun ρ' => match W (lamO F (keepG 0 ks ρ')) with
  | .ok d [] => .ok (.val d, ρ')
  | _ => .no
/-- a def that takes a lambda: all that a call of it asks -/
structure WdOk (X : Cx) (k : Nat) (x : Str) (T : Nat → Option Addr) (xf : XF) (W : FR → FR) : Prop where
  ex : ∃ (a : Str) (g : Addr) (pg : Arguments) (bg : List Stmt) (sg : Scope) (dV kV doc pm cdv ct oc : Value) (an od : Option Addr) (osl : Array (Option Value)) (Ng : List Str), X.mg x = some (.ref g) ∧ PySem.W.keepIn X.K (.ref g) = true ∧
    X.K.lookup g = some ⟨oc, od, .func (PySem.W.fnOf x x pg bg sg dV kV doc pm an cdv ct), osl⟩ ∧ PySem.W.codeIn X.K cdv x = true ∧ L2.Binds X.K (PySem.W.fnOf x x pg bg sg dV kV doc pm an cdv ct) [a] [] ∧ FnScope Ng [a] sg ∧
    (∀ (A : Around) (s : Shared) (H : Hp) (pn : List (Addr × Obj)) (xe : Value → Shared → Prop) (p : Pos), PE ((cxOf C8.CX0 X.prog X.w X.K X.mg X.base Ng x sg g cdv A X.stack s H C8.E0).tr pn xe) (.Name a p) (tVar 0)) ∧
    ∀ q, Room (k + 2) X.A → GivesS X Ng x sg g cdv bg a q (TTW X.K T xf W)
/-- where the lambdas of a def are kept -/
structure LmOk (X : Cx) (k : Nat) (S : Sg) : Prop where
  ex : ∃ c P, LamX.TabB X.base X.mg c P ∧ X.env.code = .ref c ∧ (P, X.env.qual ++ "<lambda>") ∈ S.xf.tb ∧ ∀ p ∈ S.xf.tb, p.1 = P → p.2 = X.env.qual ++ "<lambda>"
  room : Room (k + 2) X.A
  lam : ∀ C, S.lam C
def noPar : Arguments → Bool
  | ⟨[], [], none, [], [], none, []⟩ => true
  | _ => false
theorem ev_lam {S : Sg} {X : Cx} {k : Nat} {x : Str} {p lpos pos : Pos} {W : FR → FR} {params : Arguments} {body : Expr} {scope : Scope} {ks : List Nat} {F : EF} (lm : LmOk X k S) (wd : WdOk X k x S.T S.xf W) (hg : Gl X x) (hdb : (x == ("__debug__" : Str)) = false) (L : LamX.LamS X.env.scope scope) (hp : noPar params = true)
    (hb : ∀ (A : Around) (outer : List PySem.Env) (s : Shared) (H : Hp) (E : XK) (f c' : Addr), Room k (A.deeper (LamX.lamEnv X scope s.heap.objs.size f c')) → EvOk S (LamX.lamCx X A outer s H E scope f c') body F) :
    EvOk S X (.Call (.Name x p) [.Lambda params body scope lpos] [] pos) (evLam ks F W) := fun G ft ρ σ H stk Q hs hp' => by
  obtain ⟨a, g, pg, bg, sg, dV, kV, doc, pm, cdv, ct, oc, an, od, osl, Ng, hm, hk, lk, hcg, hbd, Sg, hva, hG⟩ := wd.ex
  obtain ⟨c, P, TB, hcode, hmT, hu⟩ := lm.ex
  have hpar : params = ⟨[], [], none, [], [], none, []⟩ := by
    unfold noPar at hp
    split at hp
    · rfl
    · cases hp
  subst hpar
  obtain ⟨ρ', er, hp'⟩ := hp'.bind.oR
  have hs2 := hs.frzS er
  have fz := frzS_fz (js := []) (fun j hj => absurd hj (by simp)) er
  refine of_PE (pe_lamcallS (t := fun E σ H Q => ∀ (A : Around) (outer : List PySem.Env) (s : Shared) (H0 : Hp) (f c' : Addr), Room k (A.deeper (LamX.lamEnv X scope s.heap.objs.size f c')) → tW (LamX.lamCx X A outer s H0 E scope f c') body σ H Q)
    hg hm hk lk hcg hbd Sg hva (hG _ lm.room) TB hcode hmT hu lm.room L rfl (fun _ _ _ _ _ => rfl) (fun A outer s H E f c' hr => ⟨fun pins s1 σ1 H1 Q1 I1 w => w A outer s H f c' hr pins s1 I1⟩) hdb) ⟨?_, fun H1 eN t1 => ?_⟩
  · have := hs2.kept.tabs
    rw [ft.tb, ft.x] at this
    exact this
  · have t2 := t1
    rw [← ft.x, ← ft.tb] at t2
    have hs3 := hs2.extN eN t2
    refine ⟨G.C, ρ', σ, stk, keepG 0 ks ρ', lamO F (keepG 0 ks ρ'), ft.k, ft.t, by rw [ft.tb, ft.x], hs3, fun Oρ Os B x => keepG_rep x.1 fun j hj m e d ed => fz j (.inl hj) d (by rw [e]; simpa using ed), fun C2 E2 H2 Q2 e1 e2 e3 e4 s2 lo A outer s H0 f c' hr => ?_, ?_⟩
    · refine hb A outer s H0 E2 f c' hr ⟨C2, fun cls d _ H' => E2 cls d H', S.xf⟩ ⟨e1, takes_of rfl rfl rfl rfl, e2, rfl, e3, fun p hp => by rw [e4] at hp; simp at hp, lm.lam _⟩ (keepG 0 ks ρ') σ H2 [] Q2 s2 ?_
      unfold LoOk lamO at lo
      cases eF : F (keepG 0 ks ρ') with
      | ok q =>
        rw [eF] at lo
        intro v H' s3 hb3
        cases eg : grab q.2 q.1 with
        | none =>
          simp only [eg] at lo
        | some r =>
          simp only [eg] at lo
          exact lo r.2 v H' (s3.grab hb3 eg)
      | er x ρx =>
        rw [eF] at lo
        exact fun cls dd vs H' hx s3 => lo ρx cls dd vs H' hx s3
      | no =>
        rw [eF] at lo
        exact lo.elim
    · cases eW : W (lamO F (keepG 0 ks ρ')) with
      | ok d outs =>
        simp only [eW] at hp'
        cases outs with
        | nil => exact fun v H' s => hp' v H' s trivial
        | cons _ _ => exact hp'.elim
      | er x outs => simp only [eW] at hp'; exact hp'.elim
      | no => simp only [eW] at hp'; exact hp'.elim
end DV
namespace DV
open PySem L2

/-! ### classes that a text names, try .. except .. as, isinstance of the error -/
structure ClsF (K : PySem.W.Frag) (mg : Str → Option Value) (T : Nat → Option Addr) (xf : XF) (cls : List (Str × Nat)) (ids : List Nat) (sub : Nat → Nat → Bool) : Prop where
  nm : ∀ x n, (x, n) ∈ cls → (mg x = some (xf.cv n) ∧ ∃ C, xf.cv n = .ref C) ∨ (mg x = none ∧ bootBuiltins x = some (xf.cv n) ∧ x ≠ "__name__" ∧ ∃ z, xf.cv n = .type z)
  ex : ∀ n ∈ ids, ∃ C, T n = some C ∧ xf.f n = [] ∧ ExcC K C ∧ ∀ x m, (x, m) ∈ cls → PySem.W.kitOne K (.ref C) (xf.cv m) = some (sub n m) ∧ PySem.W.exmOne K (.ref C) (xf.cv m) = some (sub n m)
section
variable {C : Cn} {ρ : Env} {σ : St} {H : Hp} {stk : List SI}
theorem SR.repin (h : SR C ρ σ H stk) (pin : List (Nat × V)) (hp : ∀ p ∈ pin, σ[p.1]? = some (some p.2)) : SR ⟨C.K, C.T, C.Z, C.H0, C.I, pin, C.TB⟩ ρ σ H stk := ⟨h.ex, ⟨h.kept.old, h.kept.tabs⟩, h.z, hp⟩
theorem SR.ofpin {K : PySem.W.Frag} {T : Nat → Option Addr} {Z : List Addr} {H0 : Hp} {I : List Addr} {TB : List (Addr × Str)} {pin pin' : List (Nat × V)} (h : SR ⟨K, T, Z, H0, I, pin, TB⟩ ρ σ H stk) (hp : ∀ p ∈ pin', σ[p.1]? = some (some p.2)) : SR ⟨K, T, Z, H0, I, pin', TB⟩ ρ σ H stk := ⟨h.ex, ⟨h.kept.old, h.kept.tabs⟩, h.z, hp⟩
end
/-- isinstance(error, class) where the error is held -/
def evIsx (sub : Nat → Nat → Bool) (xc : Option Nat) (m : Nat) : EF := fun ρ => match xc with
  | some n => .ok (.val (.bl (sub n m)), ρ)
  | none => .no
def SgX (S : Sg) (i : Nat) (a : Addr) : Sg := ⟨i :: S.pn, S.T, S.xf, fun C => (i, .ref a) ∈ C.pin⟩
theorem ev_isx {S : Sg} {X : Cx} {a : Addr} {oe : Obj} {pn : List (Addr × Obj)} {x y : Str} {i n m : Nat} {cls : List (Str × Nat)} {ids : List Nat} {sub : Nat → Nat → Bool} {p p1 p2 pos : Pos} {Cc : Addr} (cf : ClsF X.K X.mg S.T S.xf cls ids sub) (hn : n ∈ ids) (hT : S.T n = some Cc) (hz : Zc (.ref Cc) none oe) (hv : ∃ vs, oe.data = .fields vs)
    (hg : Gl X "isinstance") (hm : X.mg "isinstance" = none) (hx : PE (X.suite a ((a, oe) :: pn)) (.Name x p1) (tVar i)) (hy : (y, m) ∈ cls) (hgy : Gl X y) (hdy : (y == ("__debug__" : Str)) = false) :
    EvOk (SgX S i a) (X.suite a ((a, oe) :: pn)) (.Call (.Name "isinstance" p) [.Name x p1, .Name y p2] [] pos) (evIsx sub (some n) m) := fun G ft ρ σ H stk Q hs hp => by
  obtain ⟨C, e1, _, xc, ek⟩ := cf.ex n hn
  rw [hT] at e1
  cases e1
  obtain ⟨k1, _⟩ := ek y m hy
  have hpin : (i, V.ref a) ∈ G.C.pin := ft.lam
  have si := hs.pin _ hpin
  have fin : Q (.bl (sub n m)) H := hp _ H (hs.imm fun B => ⟨rfl, rfl⟩) trivial
  rcases cf.nm y m hy with ⟨g1, D, g2⟩ | ⟨g1, g2, g3, z, g4⟩
  · rw [g2] at g1 k1
    exact of_PE (pe_callB (call_isE xc hz hv) hg hm rfl (pa_cons hx (pa_cons (pe_glob hgy g1 (v := .ref D) rfl hdy) pa_nil) rfl)) ⟨.ref a, si, .ref D, .ref D, sub n m, rfl, fun u e => e, k1, fin⟩
  · rw [g4] at g2 k1
    exact of_PE (pe_callB (call_isE xc hz hv) hg hm rfl (pa_cons hx (pa_cons (pe_bltn hgy g1 g2 (v := .ty z) rfl g3 hdy) pa_nil) rfl)) ⟨.ref a, si, .ty z, .type z, sub n m, rfl, fun u e => e, k1, fin⟩
def clrS (i : Nat) : SRes → SRes
  | .nx ρ => .nx (ρ.set i none)
  | .bk ρ => .bk (ρ.set i none)
  | .ct ρ => .ct (ρ.set i none)
  | .rt d ρ => .rt d ρ
  | _ => .no
def svTry (ids : List Nat) (sub : Nat → Bool) (i : Nat) (fb : SF) (fh : Nat → SF) : SF := fun ρ => match fb ρ with
  | .er x ρ' => if ids.contains x.c && x.fs.isEmpty && decide (i < ρ'.length) then (if sub x.c then clrS i (fh x.c (ρ'.set i none)) else .er x ρ') else .no
  | r => r
theorem sv_try {S : Sg} {X : Cx} {x nm : Str} {i m : Nat} {body suite : List Stmt} {b0 : Stmt} {np pos pos' : Pos} {fb : SF} {fh : Nat → SF} {cls : List (Str × Nat)} {ids : List Nat} {sub : Nat → Nat → Bool} (cf : ClsF X.K X.mg S.T S.xf cls ids sub) (hst : X.stack = X.env :: X.outer ∧ X.env.frame = some X.env.locals)
    (hN : X.N.Nodup) (hi : X.N[i]? = some nm) (hln : X.env.kindOf nm = some .local) (hip : i ∉ S.pn) (hgx : Gl X x) (hdx : (x == ("__debug__" : Str)) = false) (hx : (x, m) ∈ cls)
    (hb : ∀ pn xe, PassesOwn (model X.prog X.w) X.A X.env xe → SvsOk S (X.tr pn xe) body fb)
    (hh : ∀ a oe pn n C, n ∈ ids → S.T n = some C → Zc (.ref C) none oe → (∃ vs, oe.data = .fields vs) → SvsOk (SgX S i a) (X.suite a ((a, oe) :: pn)) (b0 :: suite) (fh n)) :
    SvOk S X (.Try body [.ExceptHandler (some (.Name x np)) (some nm) (b0 :: suite) pos'] [] [] pos) (svTry ids (fun n => sub n m) i fb fh) := fun G ft ρ σ H stk Dn hs hp => by
  have hnm : Names X x (S.xf.cv m) := ⟨hgx, hdx, by
    rcases cf.nm x m hx with ⟨g1, _⟩ | ⟨g1, g2, g3, _⟩
    · exact .inl g1
    · exact .inr ⟨g1, g2, g3⟩⟩
  refine of_PS (ps_try_as hst.1 hst.2 hN hi hln hnm ft.tk (tb := fun W D σ H => ∀ pn xe, Takes (X.tr pn xe) W → PassesOwn (model X.prog X.w) X.A X.env xe → tWSs (X.tr pn xe) body D σ H)
    (ts := fun a cls d D σ H => ∀ oe pn, Zc cls d oe → (∃ vs, oe.data = .fields vs) → tWSs (X.suite a ((a, oe) :: pn)) (b0 :: suite) D σ H)
    (fun W pn xe tk po => ⟨fun pins s σ H D I w => w pn xe tk po pins s I⟩) (fun a oe cls d pn hz hv => ⟨fun pins s σ H D I w => w oe pn hz hv pins s I⟩)) fun pn xe tk po => ?_
  refine hb pn xe po ⟨G.C, wAs X.K (S.xf.cv m) i (fun a cls d D σ H => ∀ oe pn, Zc cls d oe → (∃ vs, oe.data = .fields vs) → tWSs (X.suite a ((a, oe) :: pn)) (b0 :: suite) D σ H) G.W Dn, G.xf⟩ ⟨ft.k, tk, ft.t, ft.x, ft.tb, ft.pin, ft.lam⟩ ρ σ H stk Dn hs ?_
  unfold svTry at hp
  cases ef : fb ρ with
  | nx ρ' => rw [ef] at hp; exact hp
  | rt d ρ' => rw [ef] at hp; exact hp
  | bk ρ' => rw [ef] at hp; exact hp
  | ct ρ' => rw [ef] at hp; exact hp
  | no => rw [ef] at hp; exact hp
  | er e ρ' =>
    rw [ef] at hp
    have hp : PRS G stk (if ids.contains e.c && e.fs.isEmpty && decide (i < ρ'.length) then (if sub e.c m then clrS i (fh e.c (ρ'.set i none)) else .er e ρ') else .no) Dn := hp
    by_cases c1 : (ids.contains e.c && e.fs.isEmpty && decide (i < ρ'.length)) = true
    · rw [if_pos c1] at hp
      simp only [Bool.and_eq_true, decide_eq_true_eq] at c1
      obtain ⟨⟨c2, _⟩, c3⟩ := c1
      obtain ⟨C, eT, ef0, _, ek⟩ := cf.ex e.c (by simpa using c2)
      obtain ⟨_, k2⟩ := ek x m hx
      intro cl dd vs σ' H' hxc s'
      obtain ⟨⟨a0, t1, rfl⟩, r⟩ := id hxc
      have t1 : S.T e.c = some a0 := by
        rw [← ft.t]
        exact t1
      rw [eT] at t1
      cases t1
      have hdd : dd = none := by
        rcases r with ⟨_, z, _⟩ | ⟨_, _, _, _, z⟩
        · exact z
        · rw [show G.xf = S.xf from ft.x] at z
          exact absurd ef0 z
      subst hdd
      by_cases c4 : sub e.c m = true
      · rw [if_pos c4] at hp
        rw [c4] at k2
        refine ⟨true, k2, fun _ a ha oe pn2 hz hv => ?_, fun z => nomatch z⟩
        have len := s'.len
        have en : (ρ'.set i none)[i]? = some none := by rw [List.getElem?_set_self c3]
        have npin : ∀ p ∈ G.C.pin, p.1 ≠ i := fun p hp z => hip (by rw [← z]; exact ft.pin p hp)
        have s2 := (s'.drop.gone i).cell en (some (.ref a)) npin
        have s3 := s2.repin ((i, .ref a) :: G.C.pin) fun p hp => by
          (rcases List.mem_cons.mp hp with rfl | hp)
          · rw [List.getElem?_set_self (by omega)]
          · exact s2.pin p hp
        refine hh a oe pn2 e.c C (by simpa using c2) eT hz hv ⟨⟨G.C.K, G.C.T, G.C.Z, G.C.H0, G.C.I, (i, .ref a) :: G.C.pin, G.C.TB⟩, fun _ _ _ _ => False, G.xf⟩ ⟨ft.k, takes0, ft.t, ft.x, ft.tb, fun p hp => ?_, by show (i, V.ref a) ∈ (i, V.ref a) :: G.C.pin; simp⟩ _ _ H' stk _ s3 ?_
        · (rcases List.mem_cons.mp hp with rfl | hp)
          · exact List.mem_cons_self
          · exact List.mem_cons_of_mem _ (ft.pin p hp)
        · have back : ∀ {ρ2 : Env} {σ2 : St} {H2 : Hp}, SR ⟨G.C.K, G.C.T, G.C.Z, G.C.H0, G.C.I, (i, .ref a) :: G.C.pin, G.C.TB⟩ ρ2 σ2 H2 stk → SR G.C (ρ2.set i none) (σ2.set i none) H2 stk := fun {ρ2 σ2 H2} z => by
            have z2 : SR G.C ρ2 σ2 H2 stk := z.ofpin (pin' := G.C.pin) fun p hp => z.pin p (List.mem_cons_of_mem _ hp)
            have z3 := z2.gone i
            by_cases li : i < ρ2.length
            · exact z3.cell (by rw [List.getElem?_set_self li]) none npin
            · rw [List.set_eq_of_length_le (l := σ2) (by have := z2.len; omega)]
              exact z3
          cases eh : fh e.c (ρ'.set i none) with
          | nx ρ2 => rw [eh] at hp; exact fun σ2 H2 z => hp _ _ (back z)
          | bk ρ2 => rw [eh] at hp; exact fun σ2 H2 z => hp _ _ (back z)
          | ct ρ2 => rw [eh] at hp; exact fun σ2 H2 z => hp _ _ (back z)
          | rt d ρ2 => rw [eh] at hp; exact fun v σ2 H2 z => hp v σ2 H2 (z.ofpin fun p hp => z.pin p (List.mem_cons_of_mem _ hp))
          | er _ _ => rw [eh] at hp; exact hp.elim
          | no => rw [eh] at hp; exact hp.elim
      · rw [if_neg c4] at hp
        rw [Bool.eq_false_iff.mpr c4] at k2
        exact ⟨false, k2, (fun z => nomatch z), fun _ => hp _ none vs σ' H' hxc s'⟩
    · rw [if_neg c1] at hp
      exact hp.elim
end DV
namespace DV
open PySem L2

/-! ### a def that is handed the error that is held -/
structure FnX (P : Program) (w : World) (K : PySem.W.Frag) (mg : Str → Option Value) (base : Heap) (f : Addr) (fd : FuncData) (ps : List Str) (p : Addr × Obj) (sp : Sp) : Prop where
  len : ∀ vs H Q E, sp vs H Q E → (vs.length = ps.length)
  run : ∀ (A : Around) (outer : List PySem.Env) (s : Shared) (H : Hp) (args : Args) (us : List Value) (vs : List V) (Q : VK) (E : XK), A.depth < recursionLimit → A.units + 3 + 200 < cLine → L2H.PinOk outer H s p → Env0 P w K mg base A outer s H → BindsTo s fd args (ps.zip us) → Vals vs us → sp vs H Q E →
    codeAny (model P w) A (.call (.ref f) args) (CR C8.CX0 outer P w H s Q E) s
theorem fn_ofX {P : Program} {w : World} {K : PySem.W.Frag} {mg : Str → Option Value} {base : Heap} {f : Addr} {name qual : Str} {params : Arguments} {body : List Stmt} {scope : Scope} {dV kV doc pm cdv ct oc : Value} {an od : Option Addr}
    {osl : Array (Option Value)} {N ps : List Str} {p : Addr × Obj} {sp : Sp} (lk : K.lookup f = some ⟨oc, od, .func (PySem.W.fnOf name qual params body scope dV kV doc pm an cdv ct), osl⟩) (hcd : PySem.W.codeIn K cdv qual = true) (S : FnScope N ps scope)
    (len : ∀ vs H Q E, sp vs H Q E → (vs.length = ps.length))
    (hbody : ∀ (A : Around) (outer : List PySem.Env) (s : Shared) (H : Hp) (vs : List V) (Q : VK) (E : XK), A.units + 3 + 200 < cLine → sp vs H Q E →
      ∃ t, PSs (L2H.cxH C8.CX0 P w K mg base N qual scope f cdv A outer s H E p) body t ∧ t { nx := fun _ H' => Q .non H', rt := Q } (L2.start N vs) H) :
    FnX P w K mg base f (PySem.W.fnOf name qual params body scope dV kV doc pm an cdv ct) ps p sp := by
  refine ⟨len, fun A0 outer0 s0 H0 args0 us0 vs0 Q0 E0 hd0 hu0 hpin0 e0 hb0 r0 hsp0 => ?_⟩
  have hl0 := len _ _ _ _ hsp0
  have KX0 : K.In s0.heap := e0.mod.kin.keeps fun b0 o0 q0 => (e0.bs b0 o0 q0).1
  have lim0 : s0.heap.NoLimit := e0.mod.nolimit.keeps fun b0 o0 q0 => (e0.bs b0 o0 q0).1
  have hkind0 : ∀ y0 ∈ ps.zip us0, scope.names.lookup y0.1 = some .local ∨ (scope.names.lookup y0.1 = some .cell ∧ ((PySem.cellsFrom (s0.heap.objs.size + 1) scope.names []).lookup y0.1).isSome = true) := fun ⟨n0, v0⟩ hy0 => by
    rcases S.par n0 (List.of_mem_zip hy0).1 with q0 | q0
    · exact .inl q0
    · exact .inr ⟨q0, PySem.W.cellsFrom_some _ _ _ (.inl q0)⟩
  refine codeAny_call_function hd0 (KX0 _ _ lk) rfl S.co S.gen rfl (PySem.W.codeRec_of KX0 hcd) (hb0 _ _ _ _ ?_)
  refine wpAny_newFunctionEnv_cells S.kind hkind0 fun env0 he0 s10 x0 => ?_
  subst he0
  refine ⟨lim0.keeps x0.toInCall.keep, codeAny_func ?_⟩
  obtain ⟨t0, ht0, hq0⟩ := hbody A0 outer0 s0 H0 vs0 Q0 E0 hu0 hsp0
  have I0 : Inv (L2H.cxH C8.CX0 P w K mg base N qual scope f cdv A0 outer0 s0 H0 E0 p) [] (L2.start N vs0) H0 s10 := L2H.inv_startH S hpin0 e0 hl0 r0 x0
  refine wpAny_mono (ht0.run [] s10 (L2.start N vs0) H0 _ I0 hq0) (fun fl0 s20 hs0 => ?_) fun _ _ z0 => z0
  have fin0 : ∀ {σ0 : St} {H20 : Hp} {v0 : V} {u0 : Value}, Inv (L2H.cxH C8.CX0 P w K mg base N qual scope f cdv A0 outer0 s0 H0 E0 p) [] σ0 H20 s20 → RelV v0 u0 → Q0 v0 H20 → CE outer0 P w H0 s0 Q0 u0 s20 :=
    fun {σ0 H20 v0 u0} J0 rv0 q0 => ⟨v0, H20, J0.os, J0.bare, J0.base, J0.hok, rv0, q0⟩
  cases fl0 with
  | ret u0 =>
    obtain ⟨v0, σ0, H20, J0, rv0, q0⟩ := hs0
    exact fin0 J0 rv0 q0
  | next =>
    obtain ⟨σ0, H20, J0, q0⟩ := hs0
    exact fin0 (v0 := V.non) (u0 := Value.none) J0 rfl q0
  | brk =>
    obtain ⟨_, _, _, q0⟩ := hs0
    exact False.elim q0
  | cont =>
    obtain ⟨_, _, _, q0⟩ := hs0
    exact False.elim q0
section
variable {X : Cx} {f C : Addr} {fd : FuncData} {ps : List Str} {sp : Sp} {x : Str} {q pos : Pos} {e : Expr} {es : List Expr} {t : TA} {p : Addr × Obj}
theorem pe_callX (F : FnX X.prog X.w X.K X.mg X.base f fd ps p sp) (hd : X.A.depth < recursionLimit) (hu : X.A.units + 3 + 200 < cLine) (hp : p ∈ X.pn) (hg : Gl X x) (hm : X.mg x = some (.ref f)) (hk : PySem.W.keepIn X.K (.ref f) = true) (hb : L2.Binds X.K fd ps [])
    (ha : PA X (e :: es) t) (hdb : (x == ("__debug__" : Str)) = false) (he : starEach (e :: es) X.env = (false, eval e X.env) :: starEach es X.env) (hpl : (backTo pos (starEach es X.env)).any (·.1) = false) :
    PE X (.Call (.Name x q) (e :: es) [] pos) (tCallS sp (fun _ => C8.E0) t) := by
  refine ⟨fun pins0 s0 σ0 H0 Q0 I0 h0 => ?_⟩
  refine wpAny_Call_Name_kw (ld_glob I0 hg hm ?_ hdb)
  refine PySem.W.callWith_K (h₀ := X.base) I0.ok.mod.kin hk (thn (ha.run pos pins0 s0 σ0 H0 _ I0 h0) fun us0 s1 ⟨vs0, H1, I1, r0, q0⟩ => ⟨I1.kIn, ?_⟩) he hpl
  have hl0 : us0.length = ps.length := by rw [← r0.length]; exact F.len _ _ _ _ q0
  have b0 := hb s1 us0 I1.kIn (by rw [List.append_nil]; exact hl0)
  rw [List.append_nil] at b0
  have P1 := I1.pin p (List.mem_append_left _ hp)
  have hpin0 : L2H.PinOk X.stack H1 s1 p := ⟨P1.1, P1.2.1, fun hm0 => (List.mem_cons.mp (I1.stkSub p.1 hm0)).elim P1.2.2.1 P1.2.2.2.1, P1.2.2.2.2⟩
  refine wpAny_call (codeAny_mono (F.run X.A X.stack s1 H1 ⟨us0, []⟩ us0 vs0 Q0 C8.E0 hd hu hpin0 I1.env0 b0 r0 q0) fun r1 s2 hq0 => ?_)
  cases r1 with
  | error e0 => exact hq0.elim
  | ok fl0 =>
    cases fl0 with
    | ret u0 => exact I1.after hq0
    | next => exact False.elim hq0
    | brk => exact False.elim hq0
    | cont => exact False.elim hq0
theorem call_isP {a D : Addr} {oe : Obj} (hp : (a, oe) ∈ X.pn) (C : ExcC X.K D) (hz : Zc (.ref D) none oe) (hf : ∃ vs, oe.data = .fields vs) : CallR X (.builtin "isinstance") (rIsE X.K D a) := by
  intro pins0 s0 σ0 H0 xs0 us0 Q0 I0 r0 h0
  obtain ⟨c0, cv0, b0, rfl, hcv0, e0, q0⟩ := h0
  cases r0 with
  | cons rx0 rr0 =>
    cases rr0 with
    | cons rt0 rr0 =>
      cases rr0
      cases rx0
      have ec0 := hcv0 _ rt0
      subst ec0
      obtain ⟨hget0, _⟩ := I0.pin (a, oe) (List.mem_append.mpr (.inl hp))
      obtain ⟨vs0, hv0⟩ := hf
      have J0 : PySem.W.InstAt s0.heap a oe D none := by
        obtain ⟨oc0, od0, oda0, osl0⟩ := oe
        obtain ⟨h10, h20⟩ := hz
        dsimp only at h10 h20 hv0
        subst h10 h20 hv0
        exact ⟨hget0, rfl, rfl, trivial⟩
      exact PySem.W.kia_one (PySem.W.handS_kitx_exc C.hg C.hk C.hs C.hd C.ha C.hn C.ht C.hm) I0.kIn J0 e0 (fun z0 => nomatch z0) fun tk0 => ⟨.bl b0, H0, I0.kept (t' := tk0) fun _ _ z0 => z0, rfl, q0⟩
end
theorem ev_isxP {S : Sg} {X : Cx} {a : Addr} {oe : Obj} {x y : Str} {i n m : Nat} {cls : List (Str × Nat)} {ids : List Nat} {sub : Nat → Nat → Bool} {p p1 p2 pos : Pos} {Cc : Addr} (hpn : (a, oe) ∈ X.pn) (hlam : ∀ C, S.lam C → (i, V.ref a) ∈ C.pin) (cf : ClsF X.K X.mg S.T S.xf cls ids sub) (hn : n ∈ ids) (hT : S.T n = some Cc) (hz : Zc (.ref Cc) none oe) (hv : ∃ vs, oe.data = .fields vs)
    (hg : Gl X "isinstance") (hm : X.mg "isinstance" = none) (hx : PE X (.Name x p1) (tVar i)) (hy : (y, m) ∈ cls) (hgy : Gl X y) (hdy : (y == ("__debug__" : Str)) = false) :
    EvOk S X (.Call (.Name "isinstance" p) [.Name x p1, .Name y p2] [] pos) (evIsx sub (some n) m) := fun G ft ρ σ H stk Q hs hp => by
  obtain ⟨C, e1, _, xc, ek⟩ := cf.ex n hn
  rw [hT] at e1
  cases e1
  obtain ⟨k1, _⟩ := ek y m hy
  have hpin : (i, V.ref a) ∈ G.C.pin := hlam _ ft.lam
  have si := hs.pin _ hpin
  have fin : Q (.bl (sub n m)) H := hp _ H (hs.imm fun B => ⟨rfl, rfl⟩) trivial
  rcases cf.nm y m hy with ⟨g1, D, g2⟩ | ⟨g1, g2, g3, z, g4⟩
  · rw [g2] at g1 k1
    exact of_PE (pe_callB (call_isP hpn xc hz hv) hg hm rfl (pa_cons hx (pa_cons (pe_glob hgy g1 (v := .ref D) rfl hdy) pa_nil) rfl)) ⟨.ref a, si, .ref D, .ref D, sub n m, rfl, fun u e => e, k1, fin⟩
  · rw [g4] at g2 k1
    exact of_PE (pe_callB (call_isP hpn xc hz hv) hg hm rfl (pa_cons hx (pa_cons (pe_bltn hgy g1 g2 (v := .ty z) rfl g3 hdy) pa_nil) rfl)) ⟨.ref a, si, .ty z, .type z, sub n m, rfl, fun u e => e, k1, fin⟩
/-- what such a call tells -/
def spX (K : PySem.W.Frag) (T : Nat → Option Addr) (xf : XF) (a : Addr) (r : FR) : Sp := fun vs H Q _ => vs = [.ref a] ∧ ∃ (C : Cn) (ρ : Env) (σ : St) (stk : List SI), C.K = K ∧ C.T = T ∧ C.TB = xf.tb ∧ SR C ρ σ H stk ∧ match r with
  | .ok d [] => ∀ v H', SR C ρ σ H' (.one v (.val d) :: stk) → Q v H'
  | _ => False
structure XdOk (X : Cx) (x : Str) (T : Nat → Option Addr) (xf : XF) (ids : List Nat) (xd : Nat → FR) : Prop where
  ex : ∃ g fd ps, X.mg x = some (.ref g) ∧ PySem.W.keepIn X.K (.ref g) = true ∧ L2.Binds X.K fd ps [] ∧ ∀ n ∈ ids, ∀ C a oe, T n = some C → Zc (.ref C) none oe → (∃ vs, oe.data = .fields vs) → FnX X.prog X.w X.K X.mg X.base g fd ps (a, oe) (spX X.K T xf a (xd n))
def evCallX (xd : Nat → FR) (xc : Option Nat) : EF := fun ρ => match xc with
  | some n => (match xd n with
    | .ok d [] => .ok (.val d, ρ)
    | _ => .no)
  | none => .no
theorem ev_callX {S : Sg} {X : Cx} {a C : Addr} {oe : Obj} {x y : Str} {i n : Nat} {ids : List Nat} {xd : Nat → FR} {p p1 pos : Pos} (hpn : (a, oe) ∈ X.pn) (hlam : ∀ C, S.lam C → (i, V.ref a) ∈ C.pin) (hn : n ∈ ids) (hT : S.T n = some C) (hz : Zc (.ref C) none oe) (hv : ∃ vs, oe.data = .fields vs)
    (xo : XdOk X x S.T S.xf ids xd) (hr : X.A.depth < recursionLimit ∧ X.A.units + 3 + 200 < cLine) (hg : Gl X x) (hd : (x == ("__debug__" : Str)) = false) (hx : PE X (.Name y p1) (tVar i)) : EvOk S X (.Call (.Name x p) [.Name y p1] [] pos) (evCallX xd (some n)) := fun G ft ρ σ H stk Q hs hp => by
  obtain ⟨g, fd, ps, hm, hk, hb, F⟩ := xo.ex
  have si := hs.pin _ (hlam _ ft.lam)
  refine of_PE (pe_callX (F n hn C a oe hT hz hv) hr.1 hr.2 hpn hg hm hk hb (pa_cons hx pa_nil rfl) hd rfl rfl) ⟨.ref a, si, rfl, G.C, ρ, σ, stk, ft.k, ft.t, by rw [ft.tb, ft.x], hs, ?_⟩
  have hp : PR G σ stk (match xd n with
    | .ok d [] => R.ok (DV.It.val d, ρ)
    | _ => .no) (OkE G σ stk Q) := hp
  match e : xd n with
  | .ok d [] => rw [e] at hp; exact fun v H' s => hp v H' s trivial
  | .ok d (_ :: _) => rw [e] at hp; exact hp.elim
  | .er x outs => rw [e] at hp; exact hp.elim
  | .no => rw [e] at hp; exact hp.elim
end DV
namespace DV
open PySem L2

/-! ### dicts whose keys are numbers and texts -/
def get1 (ks vs : List D) (k : Key) : Option D := ((ks.zip vs).find? fun p => decide (keyD p.1 = some k)).map (·.2)
def has1 (ks : List D) (k : Key) : Bool := ks.any fun q => decide (keyD q = some k)
def putK1 (ks : List D) (k : Key) : List D := if has1 ks k then ks else ks ++ [kD k]
def putV1 (ks vs : List D) (k : Key) (x : D) : List D := if has1 ks k then (ks.zip vs).map fun p => if keyD p.1 = some k then x else p.2 else vs ++ [x]
abbrev oKey (p : Key × V) : D × V := (kD p.1, p.2)
section
variable {K : PySem.W.Frag} {T : Nat → Option Addr} {H : Hp} {B : List Addr} {k : Key}
theorem get1_rep : ∀ {l : List (Key × V)} {vs : List D} {O : List Addr}, RepA K T H B vs ((l.map oKey).map (·.2)) O → (get1 ((l.map oKey).map (·.1)) vs k = none → valV l k = none) ∧ ∀ d, get1 ((l.map oKey).map (·.1)) vs k = some d → ∃ v O1, valV l k = some v ∧ Rep K T H B d v O1
  | [], vs, O, h => ⟨fun _ => rfl, fun d e => by cases vs <;> simp [get1] at e⟩
  | p :: l, [], O, h => by cases h.1
  | p :: l, x :: vs, O, h => by
    obtain ⟨v, vs', O1, O2, ev, h1, h2, _⟩ := h
    simp only [List.map_cons, List.cons.injEq] at ev
    obtain ⟨rfl, rfl⟩ := ev
    by_cases z : p.1 = k
    · have : get1 ((oKey p :: l.map oKey).map (·.1)) (x :: vs) k = some x := by
        unfold get1
        simp only [List.map_cons, List.zip_cons_cons, List.find?_cons]
        rw [show keyD (oKey p).1 = some p.1 from keyD_kD _, z]
        simp
      rw [List.map_cons, this]
      refine ⟨(fun z => nomatch z), fun d e => ?_⟩
      cases e
      exact ⟨p.2, O1, valV_pos z, h1⟩
    · have : get1 ((oKey p :: l.map oKey).map (·.1)) (x :: vs) k = get1 ((l.map oKey).map (·.1)) vs k := by
        unfold get1
        simp only [List.map_cons, List.zip_cons_cons, List.find?_cons]
        rw [show keyD (oKey p).1 = some p.1 from keyD_kD _]
        simp [z]
      rw [List.map_cons, this, valV_neg z]
      exact get1_rep h2
theorem has1_val : ∀ l : List (Key × V), has1 ((l.map oKey).map (·.1)) k = l.any fun p => decide (p.1 = k)
  | [] => rfl
  | p :: l => by
    have ih := has1_val l
    unfold has1 at ih ⊢
    simp only [List.map_cons, List.any_cons]
    rw [show keyD (oKey p).1 = some p.1 from keyD_kD _, ih]
    simp
theorem putK1_keys (l : List (Key × V)) (v : V) : ((putK l k v).map oKey).map (·.1) = putK1 ((l.map oKey).map (·.1)) k := by
  unfold putK1 putK
  rw [has1_val]
  by_cases z : (l.any fun p => decide (p.1 = k)) = true
  · rw [if_pos z, if_pos z, List.map_map, List.map_map, List.map_map]
    (refine List.map_congr_left fun p _ => ?_)
    show kD (if p.1 = k then (p.1, v) else p).1 = _
    split <;> rfl
  · rw [if_neg z, if_neg z]
    simp
theorem put1_same {x : D} {v : V} (hx : Rep K T H B x v []) : ∀ {l : List (Key × V)} {vs : List D}, RepA K T H B vs ((l.map oKey).map (·.2)) [] →
    RepA K T H B (((((l.map oKey).map (·.1)).zip vs).map fun p => if keyD p.1 = some k then x else p.2)) (((l.map fun kv => if kv.1 = k then (kv.1, v) else kv).map oKey).map (·.2)) []
  | [], vs, h => by
    cases vs with
    | nil => exact ⟨rfl, rfl⟩
    | cons a b => obtain ⟨_, _, _, _, z, _⟩ := h; cases z
  | p :: l, [], h => by cases h.1
  | p :: l, y :: vs, h => by
    obtain ⟨u, vs', O1, O2, ev, h1, h2, eo⟩ := h
    simp only [List.map_cons, List.cons.injEq] at ev
    obtain ⟨rfl, rfl⟩ := ev
    obtain ⟨rfl, rfl⟩ := List.append_eq_nil_iff.mp eo.symm
    have ih := put1_same hx h2
    simp only [List.map_cons, List.zip_cons_cons]
    refine ⟨_, _, [], [], rfl, ?_, ih, rfl⟩
    rw [show keyD (oKey p).1 = some p.1 from keyD_kD _]
    by_cases z : p.1 = k
    · simp [z]
      exact hx
    · simp [z]
      exact h1
theorem put1_rep {x : D} {v : V} (hx : Rep K T H B x v []) {l : List (Key × V)} {vs : List D} (h : RepA K T H B vs ((l.map oKey).map (·.2)) []) :
    RepA K T H B (putV1 ((l.map oKey).map (·.1)) vs k x) (((putK l k v).map oKey).map (·.2)) [] := by
  unfold putV1 putK
  rw [has1_val]
  by_cases z : (l.any fun p => decide (p.1 = k)) = true
  · rw [if_pos z, if_pos z]
    exact put1_same hx h
  · rw [if_neg z, if_neg z]
    have h1 : RepA K T H B [x] [v] [] := ⟨v, [], [], [], rfl, hx, ⟨rfl, rfl⟩, rfl⟩
    have := h.app h1
    simpa using this
end
section
variable {C : Cn} {ρ : Env} {σ : St} {H : Hp} {stk : List SI}
/-- put under a key -/
theorem SR.dput1 {a : Addr} {l : List (Key × V)} {k : Key} {ks vals : List D} {u v : V} {x y : D} (h : SR C ρ σ H (.many ((l.map oKey).map (·.2)) vals :: .hole a :: .one u (.val y) :: .one v (.val x) :: stk)) (fv : isFzA vals = true) (fy : isFz y = true) (fx : isFz x = true) (ek : (l.map oKey).map (·.1) = ks) :
    SR C ρ σ (upd H a (.dK (putK l k v))) (.one (.ref a) (.val (.dct true false (putK1 ks k) (putV1 ks vals k x))) :: stk) := by
  obtain ⟨Oρ, Os, B, h1, ⟨O1, O2, r1, ⟨O3, ⟨O4, O5, r4, ⟨O6, O7, r6, r7, rfl⟩, rfl⟩, rfl, o, eo, mo⟩, rfl⟩, hB, nd, nz, ow⟩ := h.ex
  obtain rfl := isFzA_nil fv r1
  obtain rfl := isFz_nil fy r4
  obtain rfl := isFz_nil fx r6
  have s : SR C ρ σ H (.many (((putK l k v).map oKey).map (·.2)) (putV1 ((l.map oKey).map (·.1)) vals k x) :: .hole a :: stk) := .again (Os := a :: O7) h1 ⟨[], a :: O7, put1_rep r6 r1, ⟨O7, r7, rfl, o, eo, mo⟩, rfl⟩ hB nd nz ow h.kept h.z h.pin
  subst ek
  exact s.dclose ⟨_, rfl, rfl⟩ (putK1_keys l v)
end
section
variable {S : Sg} {X : Cx} {e a b : Expr} {fe fa fb : EF} {i : Nat} {x : Str} {p pos p2 p3 apos : Pos}
def dGet1 : D → Key → Option (Option D)
  | .dct _ false ks vs, k => some (get1 ks vs k)
  | _, _ => none
theorem dget1_rep {K : PySem.W.Frag} {T : Nat → Option Addr} {H : Hp} {B : List Addr} {d : D} {v : V} {O : List Addr} {k : Key} {o : Option D} (h : Rep K T H B d v O) (g : dGet1 d k = some o) :
    ∃ a, v = .ref a ∧ IsD H a ∧ (∀ y, o = some y → ∃ w O1, DGet H a (kV k) (some w) ∧ Rep K T H B y w O1) ∧ (o = none → DGet H a (kV k) none) := by
  unfold dGet1 at g
  split at g
  · rename_i o' ks vals
    cases g
    have fin : ∀ (a : Addr) (l : List (Key × V)) (O' : List Addr), v = .ref a → H a = some (.dK l) → (l.map oKey).map (·.1) = ks → RepA K T H B vals ((l.map oKey).map (·.2)) O' → ∃ a, v = .ref a ∧ IsD H a ∧ (∀ y, get1 ks vals k = some y → ∃ w O1, DGet H a (kV k) (some w) ∧ Rep K T H B y w O1) ∧ (get1 ks vals k = none → DGet H a (kV k) none) := fun a l O' e1 e3 e4 r => by
      rw [← e4]
      obtain ⟨g1, g2⟩ := get1_rep (k := k) r
      refine ⟨a, e1, .inl ⟨_, .inl e3⟩, fun y e5 => ?_, fun e5 => ?_⟩
      · obtain ⟨w, O1, q1, q2⟩ := g2 y e5
        exact ⟨w, O1, by rw [← q1]; exact DGet.k e3, q2⟩
      · have := g1 e5
        rw [← this]
        exact DGet.k e3
    cases o' with
    | false =>
      obtain ⟨a, kvs, e1, ⟨⟨o, e3, l, rfl, rfl⟩, _⟩, e4, r, _⟩ := h
      exact fin a l _ e1 e3 e4 r
    | true =>
      obtain ⟨a, kvs, O', e1, ⟨o, e3, l, rfl, rfl⟩, e4, r, _⟩ := h
      exact fin a l _ e1 e3 e4 r
  · cases g
theorem key_see {C : Cn} {ρ : Env} {σ : St} {H : Hp} {stk : List SI} {it : DV.It} {v : V} {d : D} {k : Key} (h : SR C ρ σ H (.one v it :: stk)) (hb : BrwOk σ it v) (e : dref ρ it = some d) (ek : keyD d = some k) : v = kV k := by
  have r := h.see hb e
  rw [keyD_some ek] at r
  have e2 : frz (kD k) = kD k := by cases k <;> rfl
  rw [e2] at r
  exact key_val r
/-- x[k] of a dict in a slot -/
def evDk (i : Nat) (fa : EF) : EF := fun ρ => (oR (slotD ρ i)).bind fun _ => (fa ρ).bind fun q => (oR (dref q.2 q.1)).bind fun kd => (oR (keyD kd)).bind fun k => (oR (slotD q.2 i)).bind fun d => (oR ((dGet1 d k).bind id)).bind fun y => if isFz y then .ok (.val y, q.2) else .no
theorem ev_dk (hu : X.A.units + 200 < cLine) (hv : PE X (.Name x p) (tVar i)) (ha : EvOk S X a fa) (hs : notSl a = true) : EvOk S X (.Subscript (.Name x p) a pos) (evDk i fa) := fun G ft ρ σ H stk Q hs' hp => by
  have pl : NoSl a := fun o i => by cases a <;> first | rfl | cases hs
  obtain ⟨d0, e0, hp⟩ := hp.bind.oR
  obtain ⟨v0, ev0, _⟩ := hs'.take (slotD_some e0)
  refine of_PE (pe_dget (by omega) hv pe_W pl) ⟨v0, ev0, ha G ft ρ σ H stk _ hs' (hp.bind.mono fun q hp v H1 s1 hb => ?_)⟩
  obtain ⟨kd, ekd, hp⟩ := hp.bind.oR
  obtain ⟨k, ek, hp⟩ := hp.bind.oR
  obtain ⟨d, ed, hp⟩ := hp.bind.oR
  obtain ⟨y, ey, hp⟩ := hp.bind.oR
  obtain rfl := key_see s1 hb ekd ek
  obtain ⟨o, eo, ey⟩ := Option.bind_eq_some_iff.mp ey
  cases ey
  by_cases zy : isFz y = true
  · rw [if_pos zy] at hp
    have s2 := s1.drop
    obtain ⟨Oρ, Os, B, h1, h2, hB, nd, nz, ow⟩ := id s2.ex
    obtain ⟨v', O3, O4, ev', rv, _⟩ := h1.take (slotD_some ed)
    rw [ev0] at ev'
    cases ev'
    obtain ⟨a, rfl, _, gg, _⟩ := dget1_rep rv eo
    obtain ⟨w, O5, g, rw'⟩ := gg _ rfl
    have rw2 := isFz_nil zy rw'
    subst rw2
    exact ⟨a, w, rfl, g, hp w _ (.again h1 ⟨[], Os, rw', h2, rfl⟩ (by simpa using hB) (by simpa using nd) (by simpa using nz) (by simpa using ow) s2.kept s2.z s2.pin) trivial⟩
  · rw [if_neg zy] at hp
    exact hp.elim
/-- x[k] = e of an own dict in a slot -/
def dPut1 : D → Key → D → Option D
  | .dct true false ks vs, k, x => if isFzA vs && decide (ks.length < sizeLine) then some (.dct true false (putK1 ks k) (putV1 ks vs k x)) else none
  | _, _, _ => none
theorem dPut1_some {d x d' : D} {k : Key} (h : dPut1 d k x = some d') : ∃ ks vs, d = .dct true false ks vs ∧ isFzA vs = true ∧ ks.length < sizeLine ∧ d' = .dct true false (putK1 ks k) (putV1 ks vs k x) := by
  unfold dPut1 at h
  split at h
  · split at h
    · rename_i z
      simp only [Bool.and_eq_true, decide_eq_true_eq] at z
      cases h
      exact ⟨_, _, rfl, z.1, z.2, rfl⟩
    · cases h
  · cases h
def svDk (i : Nat) (fa fe : EF) : SF := fun ρ => (fe ρ).st fun q => oS (settle q.2 q.1) fun y => oS (slotD y.2 i) fun _ => (fa y.2).st fun t => oS (settle t.2 t.1) fun kd => oS (keyD kd.1) fun k => oS (slotD kd.2 i) fun d => oS (dPut1 d k y.1) fun d' => .nx (kd.2.set i (some d'))
theorem sv_dk (hu : X.A.units + 200 < cLine) (hv : PE X (.Name x p) (tVar i)) (ha : EvOk S X a fa) (he : EvOk S X e fe) (hs : notSl a = true) : SvOk S X (.Assign [.Subscript (.Name x p) a p2] e pos) (svDk i fa fe) := fun G ft ρ σ H stk Dn hs' hp =>
  of_PS (ps_asg pe_W (pg_sub hv pe_W (set_dict (by omega)) (asSub hs)) (swSub e) (stSub e) rfl) (he G ft ρ σ H stk _ hs' ((hp.st (σ := σ)).mono fun q hp v H1 s1 hb => by
    obtain ⟨y, ey, hp⟩ := hp.oS
    obtain ⟨d0, e0, hp⟩ := hp.oS
    obtain ⟨s2, fy⟩ := s1.settle hb ey
    obtain ⟨v0, ev0, _⟩ := s2.take (slotD_some e0)
    refine ⟨v0, ev0, ha G ft y.2 σ H1 _ _ s2 ((hp.st (σ := σ)).up fun t hp u H2 s3 hb2 => ?_)⟩
    obtain ⟨kd, ekd, hp⟩ := hp.oS
    obtain ⟨k, ek, hp⟩ := hp.oS
    obtain ⟨d, ed, hp⟩ := hp.oS
    obtain ⟨d', ed', hp⟩ := hp.oS
    obtain ⟨s4, fk⟩ := s3.settle hb2 ekd
    have eu : u = kV k := key_see s4 trivial rfl ek
    obtain ⟨ks, vals, rfl, z1, z2, rfl⟩ := dPut1_some ed'
    have i1 := slotD_some ed
    obtain ⟨v1, ev1, s5⟩ := s4.take i1
    rw [ev0] at ev1
    cases ev1
    have top := s5.ex
    obtain ⟨_, _, B, _, ⟨O1, O2, r1, r2, _⟩, _⟩ := top
    obtain ⟨a, kvs, O', rfl, ⟨o, ea, l, rfl, rfl⟩, e4, r, rfl⟩ := r1
    obtain ⟨o', kvs', ea', fo', e4', s6⟩ := s5.dopen
    rw [ea] at ea'
    cases ea'
    obtain ⟨l', el, rfl⟩ := fo'
    cases el
    have ln : l.length < sizeLine := by
      have := congrArg List.length e4
      simp at this
      omega
    subst eu
    refine ⟨a, _, rfl, DPut.k (k := k) ea ln, hp _ _ ?_⟩
    have s7 := s6.dput1 (k := k) z1 fk fy e4
    have hi2 : (kd.2.set i none)[i]? = some none := by rw [List.getElem?_set_self (List.getElem?_eq_some_iff.mp i1).1]
    have := s7.back hi2 ev0
    rw [List.set_set] at this
    exact this))
/-- sorted(x) of a dict of numbers in a slot -/
def intKs : List D → Option (List Int)
  | [] => some []
  | .int i :: l => (intKs l).map (i :: ·)
  | _ => none
theorem intKs_some : ∀ {l : List D} {m : List Int}, intKs l = some m → l = m.map .int
  | [], m, h => by cases h; rfl
  | d :: l, m, h => by
    cases d with
    | int i =>
      obtain ⟨r, e, rfl⟩ := Option.map_eq_some_iff.mp (show (intKs l).map (i :: ·) = some m from h)
      rw [intKs_some e]
      rfl
    | _ => cases h
def dKeysI : D → Option (List Int)
  | .dct _ false ks _ => (intKs ks).bind fun m => if m.length < 64 then some m else none
  | _ => none
def sortI (m : List Int) : List Int := m.mergeSort fun a b => decide (a ≤ b)
theorem sort_uniq {ys m : List Int} (h1 : ys.Perm m) (h2 : ys.Pairwise (· ≤ ·)) : ys = sortI m := by
  have p : (sortI m).Pairwise (· ≤ ·) := (List.pairwise_mergeSort (le := fun a b : Int => decide (a ≤ b)) (fun a b c x y => decide_eq_true (Int.le_trans (of_decide_eq_true x) (of_decide_eq_true y))) (fun a b => by simp; omega) m).imp fun h => of_decide_eq_true h
  exact List.Perm.eq_of_pairwise (fun a b _ _ x y => Int.le_antisymm x y) h2 p (h1.trans (List.mergeSort_perm m _).symm)
def evDsort (i : Nat) : EF := fun ρ => (oR (slotD ρ i)).bind fun d => (oR (dKeysI d)).bind fun m => .ok (.val (.lst true ((sortI m).map .int)), ρ)
theorem kD_int {k : Key} {j : Int} (h : kD k = .int j) : k = Sum.inl j := by
  cases k with
  | inl n => cases h; rfl
  | inr n => cases h
theorem keys_int : ∀ (l : List (Key × V)) (m : List Int), (l.map oKey).map (·.1) = m.map D.int → l.map (·.1) = m.map Sum.inl
  | [], [], _ => rfl
  | [], _ :: _, h => by cases h
  | _ :: _, [], h => by cases h
  | q :: l, j :: m, h => by
    (simp only [List.map_cons, List.cons.injEq] at h)
    have e := kD_int (show kD q.1 = .int j from h.1)
    simp only [List.map_cons, e, keys_int l m h.2]
theorem dkeys_rep {K : PySem.W.Frag} {T : Nat → Option Addr} {H : Hp} {B : List Addr} {d : D} {v : V} {O : List Addr} {m : List Int} (h : Rep K T H B d v O) (g : dKeysI d = some m) : ∃ a kvs, v = .ref a ∧ H a = some (.dK kvs) ∧ kvs.map (·.1) = m.map Sum.inl ∧ m.length < 64 := by
  unfold dKeysI at g
  split at g
  · rename_i o ks vals
    obtain ⟨m', em, g⟩ := Option.bind_eq_some_iff.mp g
    by_cases z : m'.length < 64
    · rw [if_pos z] at g
      cases g
      have ek := intKs_some em
      cases o with
      | false =>
        obtain ⟨a, kvs, e1, ⟨⟨o, e3, l, rfl, rfl⟩, _⟩, e4, r, _⟩ := h
        exact ⟨a, l, e1, e3, keys_int l m (e4.trans ek), z⟩
      | true =>
        obtain ⟨a, kvs, O', e1, ⟨o, e3, l, rfl, rfl⟩, e4, r, _⟩ := h
        exact ⟨a, l, e1, e3, keys_int l m (e4.trans ek), z⟩
    · rw [if_neg z] at g
      cases g
  · cases g
theorem ints_repA {K : PySem.W.Frag} {T : Nat → Option Addr} {H : Hp} {B : List Addr} : ∀ ns : List Int, RepA K T H B (ns.map .int) (ns.map V.int) []
  | [] => ⟨rfl, rfl⟩
  | n :: ns => ⟨.int n, ns.map V.int, [], [], rfl, ⟨rfl, rfl⟩, ints_repA ns, rfl⟩
theorem SR.intsM {C : Cn} {ρ : Env} {σ : St} {H : Hp} {stk : List SI} (h : SR C ρ σ H stk) (ns : List Int) : SR C ρ σ H (.many (ns.map V.int) (ns.map .int) :: stk) := by
  obtain ⟨Oρ, Os, B, h1, h2, hB, nd, nz, ow⟩ := h.ex
  exact .again h1 ⟨[], Os, ints_repA ns, h2, rfl⟩ hB nd nz ow h.kept h.z h.pin
theorem ev_dsort (hc : X.calm = true) (hg : Gl X "sorted") (hm : X.mg "sorted" = none) (hv : PE X (.Name x p) (tVar i)) : EvOk S X (.Call (.Name "sorted" p2) [.Name x p] [] pos) (evDsort i) := fun G ft ρ σ H stk Q hs hp => by
  obtain ⟨d, ed, hp⟩ := hp.bind.oR
  obtain ⟨m, em, hp⟩ := hp.bind.oR
  obtain ⟨v, ev, s⟩ := hs.take (slotD_some ed)
  obtain ⟨B, O, r⟩ := s.top
  obtain ⟨a, kvs, rfl, ha, hk, h64⟩ := dkeys_rep r em
  refine of_PE (pe_callB (call_sortedDI hc) hg hm rfl (pa_cons hv pa_nil rfl) (by decide)) ⟨.ref a, ev, a, kvs, m, rfl, .inl ha, hk, h64, fun ys q h1 h2 hn => ?_⟩
  rw [sort_uniq h1 h2]
  have hl := (hs.intsM (sortI m)).list hn
  exact hp _ _ hl trivial
end
end DV
namespace DV
open PySem L2

/-! ### one-place things: built-ins, isinstance, minus -/
inductive Ty where
  | bool | int | str | tuple | list | dict
  deriving DecidableEq
def Ty.nm : Ty → String
  | .bool => "bool" | .int => "int" | .str => "str" | .tuple => "tuple" | .list => "list" | .dict => "dict"
def Ty.wd : Ty → Str
  | .bool => "bool" | .int => "int" | .str => "str" | .tuple => "tuple" | .list => "list" | .dict => "dict"
/-- is it of this type -/
def isiD (t : Ty) : D → Option Bool
  | .non => some false
  | .bl _ => some (t == .bool || t == .int)
  | .int _ => some (t == .int)
  | .str _ => some (t == .str)
  | .tup _ => some (t == .tuple)
  | .scr _ => some (t == .list)
  | .lst _ _ => some (t == .list)
  | .dct _ _ _ _ => some (t == .dict)
  | .fn _ => none
theorem kitT : ∀ t : Ty, kitB "NoneType" t.nm = some false ∧ kitB "bool" t.nm = some (t == .bool || t == .int) ∧ kitB "int" t.nm = some (t == .int) ∧ kitB "str" t.nm = some (t == .str) ∧ kitB "tuple" t.nm = some (t == .tuple) ∧ kitB "list" t.nm = some (t == .list) ∧ kitB "dict" t.nm = some (t == .dict)
  | .bool => by decide +kernel
  | .int => by decide +kernel
  | .str => by decide +kernel
  | .tuple => by decide +kernel
  | .list => by decide +kernel
  | .dict => by decide +kernel
theorem rep_ty {K : PySem.W.Frag} {T : Nat → Option Addr} {H : Hp} {B : List Addr} {d : D} {v : V} {O : List Addr} {t : Ty} {b : Bool} (h : Rep K T H B d v O) (e : isiD t d = some b) : ∃ n : String, TyX K H v (.type n) ∧ kitB n t.nm = some b := by
  have k := kitT t
  cases d with
  | non => obtain ⟨rfl, _⟩ := h; cases e; exact ⟨_, .base .non, k.1⟩
  | bl x => obtain ⟨rfl, _⟩ := h; cases e; exact ⟨_, .base (.bl x), k.2.1⟩
  | int x => obtain ⟨rfl, _⟩ := h; cases e; exact ⟨_, .base (.int x), k.2.2.1⟩
  | str x => obtain ⟨rfl, _⟩ := h; cases e; exact ⟨_, .base (.str _), k.2.2.2.1⟩
  | tup l =>
    obtain ⟨a, vs, rfl, f, _⟩ := h
    cases e
    rcases f with ⟨f, _⟩ | ⟨o, its, n, e1, e2, _⟩
    · rcases f with f | ⟨o, f⟩
      · exact ⟨_, .base (.tup f), k.2.2.2.2.1⟩
      · exact ⟨_, .fTuple f, k.2.2.2.2.1⟩
    · exact ⟨_, .kTuple e1 e2, k.2.2.2.2.1⟩
  | scr l =>
    obtain ⟨a, vs, rfl, f, _⟩ := h
    cases e
    rcases f with ⟨f, _⟩ | ⟨o, its, n, e1, e2, _⟩
    · rcases f with f | ⟨o, f⟩
      · exact ⟨_, .base (.lst f), k.2.2.2.2.2.1⟩
      · exact ⟨_, .base (.frz f), k.2.2.2.2.2.1⟩
    · exact ⟨_, .kList e1 e2, k.2.2.2.2.2.1⟩
  | lst o l =>
    cases e
    cases o with
    | false => obtain ⟨a, vs, rfl, f, _⟩ := h; exact ⟨_, .base (.lst f.1), k.2.2.2.2.2.1⟩
    | true => obtain ⟨a, vs, O', rfl, f, _⟩ := h; exact ⟨_, .base (.lst f), k.2.2.2.2.2.1⟩
  | dct o u ks l =>
    cases e
    cases o with
    | false =>
      obtain ⟨a, kvs, rfl, ⟨⟨o, f, fo⟩, _⟩, _⟩ := h
      cases u <;> obtain ⟨l, rfl, _⟩ := fo
      · exact ⟨_, .base (.dK f), k.2.2.2.2.2.2⟩
      · exact ⟨_, .base (.dT f), k.2.2.2.2.2.2⟩
    | true =>
      obtain ⟨a, kvs, O', rfl, ⟨o, f, fo⟩, _⟩ := h
      cases u <;> obtain ⟨l, rfl, _⟩ := fo
      · exact ⟨_, .base (.dK f), k.2.2.2.2.2.2⟩
      · exact ⟨_, .base (.dT f), k.2.2.2.2.2.2⟩
  | fn n => cases e
section
variable {S : Sg} {X : Cx} {a b e : Expr} {fa fb : EF} {pos p p2 : Pos}
theorem isiD_frz (t : Ty) (d : D) : isiD t (frz d) = isiD t d := by cases d <;> rfl
theorem boot_ty : ∀ t : Ty, bootBuiltins t.wd = some (.type t.nm)
  | .bool => by rfl
  | .int => by rfl
  | .str => by rfl
  | .tuple => by rfl
  | .list => by rfl
  | .dict => by rfl
theorem ty_nn : ∀ t : Ty, t.wd ≠ "__name__" ∧ (t.wd == ("__debug__" : Str)) = false
  | .bool => by decide
  | .int => by decide
  | .str => by decide
  | .tuple => by decide
  | .list => by decide
  | .dict => by decide
theorem ev_isi {t : Ty} (hg : Gl X "isinstance") (hm : X.mg "isinstance" = none) (hg2 : Gl X t.wd) (hm2 : X.mg t.wd = none) (ha : EvOk S X a fa) (hst : notStar a = true) : EvOk S X (.Call (.Name "isinstance" p) [a, .Name t.wd p2] [] pos) (ev1 fa fun d => (isiD t d).map .bl) := fun G ft ρ σ H stk Q hs hp =>
  of_PE (pe_callB call_isi hg hm rfl (pa_cons pe_W (pa_cons (pe_bltn (v := .ty t.nm) hg2 hm2 (boot_ty t) rfl (ty_nn t).1 (ty_nn t).2) pa_nil) (star_cons hst)) (he := star_cons hst)) (ha G ft ρ σ H stk _ hs (hp.bind.mono fun q hp v H' s hb => by
    obtain ⟨dx, e1, hp⟩ := hp.bind.oR
    obtain ⟨d, e2, hp⟩ := hp.bind.oR
    obtain ⟨k, e3, rfl⟩ := Option.map_eq_some_iff.mp e2
    have r := s.see hb e1
    rw [ft.k] at r
    obtain ⟨n, ty, kb⟩ := rep_ty (t := t) r (by rw [isiD_frz]; exact e3)
    exact ⟨v, .ty t.nm, _, _, k, rfl, .ty _, ty, kit_ty kb, hp _ H' (s.drop.imm fun B => ⟨rfl, rfl⟩) trivial⟩))
end

inductive U1 where
  | len | abs | int | list | tuple | sum | max | min | all | any | sorted | neg | isi (t : Ty)
def U1.g : U1 → D → Option D
  | .len => gLen | .abs => gAbs | .int => gInt | .list => fun d => (seqD d).map (.lst true) | .tuple => gTuple | .sum => gSum | .max => gMax | .min => gMin | .all => gAll | .any => gAny | .sorted => gSortA
  | .neg => fun d => (intD d).map fun i => .int (-i)
  | .isi t => fun d => (isiD t d).map .bl
def biNames : List Str := ["len", "abs", "int", "list", "tuple", "sum", "max", "min", "all", "any", "isinstance", "bool", "str", "dict", "range", "enumerate", "zip", "sorted", "repr"]
def U1.wd : U1 → Str
  | .len => "len" | .abs => "abs" | .int => "int" | .list => "list" | .tuple => "tuple" | .sum => "sum" | .max => "max" | .min => "min" | .all => "all" | .any => "any" | .sorted => "sorted" | .neg => "" | .isi _ => ""
/-- a built-in's name that stands for itself -/
structure BiOk (X : Cx) (x : Str) : Prop where
  gl : Gl X x
  mg : X.mg x = none
section
variable {S : Sg} {X : Cx} {a b e : Expr} {fa fb : EF} {pos p p2 : Pos}
theorem ev_bi1 (hc : X.calm = true) (hu0 : X.A.units + 200 < cLine) (u : U1) (hu : u.wd ≠ "") (hb : BiOk X u.wd) (ha : EvOk S X a fa) (hst : notStar a = true) : EvOk S X (.Call (.Name u.wd p) [a] [] pos) (ev1 fa u.g) := by
  cases u with
  | len => exact ev_callB1 ok_len hb.gl hb.mg rfl (by decide) (by decide) ha hst
  | abs => exact ev_callB1 ok_abs hb.gl hb.mg rfl (by decide) (by decide) ha hst
  | int => exact ev_callT1 ok_int hb.gl hb.mg rfl (by decide) (by decide) ha hst
  | list => exact ev_callT1 ok_list hb.gl hb.mg rfl (by decide) (by decide) ha hst
  | tuple => exact ev_callT1 ok_tuple hb.gl hb.mg rfl (by decide) (by decide) ha hst
  | sum => exact ev_callB1 (ok_sum hc) hb.gl hb.mg rfl (by decide) (by decide) ha hst
  | max => exact ev_callB1 (ok_max hc) hb.gl hb.mg rfl (by decide) (by decide) ha hst
  | min => exact ev_callB1 (ok_min hc) hb.gl hb.mg rfl (by decide) (by decide) ha hst
  | all => exact ev_callB1 (ok_all hc) hb.gl hb.mg rfl (by decide) (by decide) ha hst
  | any => exact ev_callB1 (ok_any hc) hb.gl hb.mg rfl (by decide) (by decide) ha hst
  | sorted => exact ev_callB1 (ok_sortA hu0) hb.gl hb.mg rfl (by decide) (by decide) ha hst
  | neg => exact absurd rfl hu
  | isi t => exact absurd rfl hu
end
end DV
namespace DV
open PySem L2

/-! ### the small language -/
mutual
inductive IE where
  | con (d : D) | glb (c : Nat) | fnv (n : Nat) | var (i : Nat)
  | u1 (o : U1) (a : IE) | op (o : Operator) (a b : IE) | cmp (o : CmpOp) (a b : IE) | ix (a b : IE) | chn (o o' : CmpOp) (a b c : IE)
  | and (a b : IE) | or (a b : IE) | not (a : IE) | ife (t a b : IE)
  | tup (l : IA) | lst (l : IA) | lstF (l : IA)
  | call (f : Nat) (l : IA) | callH (f i : Nat) (l : IA) | callV (ok : List Nat) (i : Nat) (l : IA)
  | comp (vs : List Nat) (it : II) (g : IG) (e : IE) | compIf (vs : List Nat) (it : II) (g : IG) (t e : IE)
  | sl (a : IE) (lo hi : IO) | rev (a : IE) | ixx (i : Nat) (a : IE) (m : SmI) | app (i : Nat) (a : IE) | ext (i : Nat) (a : IE) | pop (i : Nat) | popAt (i : Nat) (a : IE) | lr1 (a : IE) | lr2 (a b : IE) | mx (mn : Bool) (a b : IE) | dnew (t : Bool) | dix (i : Nat) (l : IA) | mcnt (i : Nat) (a : IE) | midx (i : Nat) (a : IE) | isx (i m : Nat) | callX (f i : Nat) | dk (i : Nat) (a : IE) | dsort (i : Nat) | lcl | lamc (f : Nat) (ks : List Nat) (e : IE) | dead
inductive IO where
  | none | some (e : IE)
inductive IA where
  | nil | cons (e : IE) (l : IA)
inductive II where
  | seq (e : IE) | rng1 (a : IE) | rng2 (a b : IE) | enum (a : IE) | zip (a b : IE)
inductive IG where
  | nm (i : Nat) | tp (l : IGs)
inductive IGs where
  | nil | cons (g : IG) (l : IGs)
end
mutual
inductive IS where
  | pass | brk | cnt | ex (e : IE) | rt (e : IE) | rtN | ife (t : IE) (a b : ISs) | asg (g : IG) (e : IE) | par (g : IGs) (l : IA) | whl (n : Nat) (t : IE) (b : ISs) | for (it : II) (g : IG) (b : ISs)
  | sto (i : Nat) (a e : IE) | aug (o : AO) (i : Nat) (a e : IE) | augN (o : AO) (i : Nat) (e : IE) | dput (i : Nat) (l : IA) (e : IE) | dkput (i : Nat) (a e : IE) | rz (n : Nat) | sto2 (i : Nat) (a : IE) (m : SmI) (e : IE) | tryE (b : ISs) (n i : Nat) (h : ISs) | dead
inductive ISs where
  | nil | cons (s : IS) (l : ISs)
end
def IGs.len : IGs → Nat
  | .nil => 0
  | .cons _ l => l.len + 1
def IA.len : IA → Nat
  | .nil => 0
  | .cons _ l => l.len + 1
mutual
def IG.ks : IG → List Nat
  | .nm i => [i]
  | .tp l => l.ks
def IGs.ks : IGs → List Nat
  | .nil => []
  | .cons g l => g.ks ++ l.ks
end

/-! ### its meaning -/
structure Pr where
  fn : Fns
  cs : Nat → D
  sub : Nat → Nat → Bool
  ids : List Nat
  wd : Nat → FR → FR
  xd : Nat → Nat → FR
  lc : FR
  xc : Option Nat
mutual
def gv : IG → DV.GF
  | .nm i => gvN i
  | .tp l => gvU l.len (gvs l)
def gvs : IGs → List D → Env → Option Env
  | .nil => gvsNil
  | .cons g l => gvsCons (gv g) (gvs l)
end
def evCh (o o' : CmpOp) (a b c : EF) : EF := fun ρ => (a ρ).bind fun p => (b p.2).bind fun q => (oR (dref q.2 p.1)).bind fun x => (oR (dref q.2 q.1)).bind fun y => (oR (intD y)).bind fun j => (oR (cmpD o x y)).bind fun d => (oR (isB (.val d))).bind fun k =>
  if k then (c q.2).bind fun r => (oR (dref r.2 r.1)).bind fun z => (oR (cmpD o' (.int j) z)).bind fun d => .ok (.val d, r.2) else .ok (.val (.bl false), q.2)
def evCallV (P : Pr) (ok : List Nat) (i : Nat) (r : AF) : EF := fun ρ => match slotD ρ i with
  | some (.fn n) => if ok.contains n then evCall (P.fn n) r ρ else .no
  | _ => .no
def evB (F : EF) : EF × TF := (F, tvT F)
mutual
def bo (P : Pr) : IE → EF × TF
  | .con d => evB (evC d)
  | .glb c => evB (evC (P.cs c))
  | .fnv n => evB (evC (.fn n))
  | .var i => evB (evV i)
  | .u1 o a => evB (ev1 (bo P a).1 o.g)
  | .op o a b => evB (ev2 (bo P a).1 (bo P b).1 (opE o))
  | .cmp o a b => (ev2 (bo P a).1 (bo P b).1 (cmpD o), tvB (ev2 (bo P a).1 (bo P b).1 (cmpD o)))
  | .ix a b => evB (ev2 (bo P a).1 (bo P b).1 gIx)
  | .chn o o' a b c => (evCh o o' (bo P a).1 (bo P b).1 (bo P c).1, tvB (evCh o o' (bo P a).1 (bo P b).1 (bo P c).1))
  | .and a b => (evAnd (bo P a).1 (bo P b).1, tvAnd (bo P a).2 (bo P b).2)
  | .or a b => (evOr (bo P a).1 (bo P b).1, tvOr (bo P a).2 (bo P b).2)
  | .not a => (evNot (bo P a).1, tvNot (bo P a).2)
  | .ife t a b => (evIf (bo P t).2 (bo P a).1 (bo P b).1, fun ρ => ((bo P t).2 ρ).bind fun p => if p.1 then (bo P a).2 p.2 else (bo P b).2 p.2)
  | .tup l => evB (evTup (boA P true l))
  | .lst l => evB (evLst (boA P false l))
  | .lstF l => evB (evLst (boA P true l))
  | .call f l => evB (evCall (P.fn f) (boA P true l))
  | .callH f i l => evB (evCallH (P.fn f) i (boA P true l))
  | .callV ok i l => evB (evCallV P ok i (boA P true l))
  | .comp vs it g e => evB (evLc vs (boI P it) (gv g) tvYes (bo P e).1)
  | .compIf vs it g t e => evB (evLc vs (boI P it) (gv g) (bo P t).2 (bo P e).1)
  | .sl a lo hi => evB (evSl (bo P a).1 (boO P lo) (boO P hi))
  | .rev a => evB (ev1 (bo P a).1 gRev)
  | .ixx i a m => evB (evIxx i (bo P a).1 m)
  | .app i a => evB (evApp i (bo P a).1)
  | .ext i a => evB (evExt i (bo P a).1)
  | .pop i => evB (evPop i)
  | .popAt i a => evB (evPopAt i (bo P a).1)
  | .lr1 a => evB (evLr1 (bo P a).1)
  | .lr2 a b => evB (evLr2 (bo P a).1 (bo P b).1)
  | .mx mn a b => evB (ev2 (bo P a).1 (bo P b).1 (gMx mn))
  | .dnew t => evB (evDnew t)
  | .dix i l => evB (evDix i (boA P true l))
  | .mcnt i a => evB (evMl cntP i (bo P a).1)
  | .midx i a => evB (evMl idxP i (bo P a).1)
  | .isx _ m => evB (evIsx P.sub P.xc m)
  | .callX f _ => evB (evCallX (P.xd f) P.xc)
  | .dk i a => evB (evDk i (bo P a).1)
  | .dsort i => evB (evDsort i)
  | .lcl => evB fun ρ => P.lc.r0 ρ
  | .lamc f ks e => evB (evLam ks (bo P e).1 (P.wd f))
  | .dead => evB fun _ => .no
def boO (P : Pr) : IO → Option EF
  | .none => none
  | .some e => some (bo P e).1
def boA (P : Pr) (fz : Bool) : IA → AF
  | .nil => avNil
  | .cons e l => avCons fz (bo P e).1 (boA P fz l)
def boI (P : Pr) : II → IF
  | .seq e => ivSeq (bo P e).1
  | .rng1 a => ivRng1 (bo P a).1
  | .rng2 a b => ivRng2 (bo P a).1 (bo P b).1
  | .enum a => ivEnum (bo P a).1
  | .zip a b => ivZip (avCons true (bo P a).1 (avCons true (bo P b).1 avNil))
end
def ev (P : Pr) (e : IE) : EF := (bo P e).1
def tv (P : Pr) (e : IE) : TF := (bo P e).2
mutual
def sxI : IS → Pr → SF
  | .pass, P => svNx
  | .brk, P => svBk
  | .cnt, P => svCt
  | .ex e, P => svEx (bo P e).1
  | .rt e, P => svRt (bo P e).1
  | .rtN, P => svRtN
  | .ife t a b, P => svIf (bo P t).2 (sxsI a P) (sxsI b P)
  | .asg g e, P => svAsg (gv g) (bo P e).1
  | .par g l, P => svPar (gvs g) (boA P false l)
  | .whl n t b, P => svWhile n (bo P t).2 (sxsI b P)
  | .for it g b, P => svFor (boI P it) (gv g) (sxsI b P)
  | .sto i a e, P => svSto i (bo P a).1 (bo P e).1
  | .aug o i a e, P => svAug o i (bo P a).1 (bo P e).1
  | .augN o i e, P => svAugN o i (bo P e).1
  | .dput i l e, P => svDput i (boA P true l) (bo P e).1
  | .dkput i a e, P => svDk i (bo P a).1 (bo P e).1
  | .rz n, P => svRz n
  | .sto2 i a m e, P => svSto2 i (bo P a).1 m (bo P e).1
  | .tryE b n i h, P => svTry P.ids (fun m => P.sub m n) i (sxsI b P) fun m => sxsI h { P with xc := some m }
  | .dead, P => fun _ => .no
def sxsI : ISs → Pr → SF
  | .nil, P => svNx
  | .cons s l, P => svSeq (sxI s P) (sxsI l P)
end
abbrev sx (P : Pr) (s : IS) : SF := sxI s P
abbrev sxs (P : Pr) (s : ISs) : SF := sxsI s P
theorem boA_len {P : Pr} {fz : Bool} : ∀ {l : IA} {ρ : Env} {a : List D × Env}, boA P fz l ρ = .ok a → a.1.length = l.len
  | .nil, ρ, a, h => by cases h; rfl
  | .cons e l, ρ, a, h => by
    have h : (((bo P e).1 ρ).bind fun p => (oR (setB fz p.2 p.1)).bind fun q => (boA P fz l q.2).bind fun t => .ok (q.1 :: t.1, t.2)) = R.ok a := h
    cases h1 : (bo P e).1 ρ with
    | er x _ => rw [h1] at h; cases h
    | no => rw [h1] at h; cases h
    | ok p =>
      rw [h1] at h
      have h : ((oR (setB fz p.2 p.1)).bind fun q => (boA P fz l q.2).bind fun t => .ok (q.1 :: t.1, t.2)) = R.ok a := h
      cases h2 : setB fz p.2 p.1 with
      | none => rw [h2] at h; cases h
      | some q =>
        rw [h2] at h
        have h : ((boA P fz l q.2).bind fun t => .ok (q.1 :: t.1, t.2)) = R.ok a := h
        cases h3 : boA P fz l q.2 with
        | er x _ => rw [h3] at h; cases h
        | no => rw [h3] at h; cases h
        | ok t =>
          rw [h3] at h
          cases h
          show (q.1 :: t.1).length = l.len + 1
          rw [List.length_cons, boA_len h3]

/-! ### does it fit a text -/
structure CC where
  N : List Str
  sc : Scope
  tg : List (Str × NameKind)
  pn : List Nat
  fs : List (Str × Nat × Bool)
  gs : List (Str × Nat)
  cl : Bool
  cls : List (Str × Nat)
  rs : List (Str × Nat)
  ws : List (Str × Nat)
  xs : List (Str × Nat)
  lc : Bool
  lw : Bool
  ex : Option Nat
  tb : Bool
  tr : Bool
section
variable (c : CC)
def glQ (x : Str) : Bool := c.sc.names.lookup x == some .globalImplicit && !(x == ("__debug__" : Str))
def visQ (i : Nat) (x : Str) : Bool := c.N[i]? == some x && (match c.sc.names.lookup x with
  | some .local => true
  | some .cell => true
  | some .free => true
  | _ => false) && !(x == ("__debug__" : Str)) && !(x == ("__classdict__" : Str))
def locQ (i : Nat) (x : Str) : Bool := c.N[i]? == some x && (match c.sc.names.lookup x with
  | some .local => true
  | some .cell => c.tg.lookup x == some .cell
  | _ => false)
def biQ (x : Str) : Bool := c.cl && glQ c x && biNames.contains x
def fnQ (x : Str) (f : Nat) (io : Bool) : Bool := c.cl && glQ c x && c.fs.any fun p => p.2.1 == f && p.2.2 == io && p.1 == x
end
def conQ : D → Expr → Bool
  | .non, .Constant .none _ _ => true
  | .bl b, .Constant (.bool b') _ _ => b == b'
  | .int i, .Constant (.int j) _ _ => i == j
  | .str l, .Constant (.str x) _ _ => x.cps.toList == l && l.all (· < 128) && decide (l.length ≤ sizeLine)
  | _, _ => false
def notComp : Expr → Bool
  | .ListComp _ _ _ _ => false
  | .SetComp _ _ _ _ => false
  | .DictComp _ _ _ _ _ => false
  | _ => true
def notTup : Expr → Bool
  | .Tuple _ _ _ => false
  | _ => true
def notSet : Expr → Bool
  | .Set _ _ _ => false
  | _ => true
mutual
def chG (c : CC) : IG → Expr → Bool
  | .nm i, e => match e with
    | .Name x _ => locQ c i x
    | _ => false
  | .tp l, e => match e with
    | .Tuple es _ _ => c.cl && chGs c l es
    | _ => false
def chGs (c : CC) : IGs → List Expr → Bool
  | .nil, es => es.isEmpty
  | .cons g l, es => match es with
    | e :: es => notStar e && chG c g e && chGs c l es
    | [] => false
end
def ownOf (N : List Str) (vs : List Nat) : List (Str × Nat) := vs.filterMap fun i => (N[i]?).map fun x => (x, i)
def subC (c : CC) (scope : Scope) : CC := { c with sc := relS scope c.sc, tg := scope.names, ws := [], xs := [], lc := false, lw := false, ex := none, tb := false, tr := false }
def lamC (c : CC) (scope : Scope) : CC := { c with sc := scope, tg := [], ws := [], xs := [], lc := false, lw := false, ex := none, tb := false, tr := false }
def hdC (c : CC) (i : Nat) : CC := { c with pn := i :: c.pn, cl := false, rs := [], ws := [], lc := false, lw := false, ex := some i, tb := false, tr := false }
def plainT : Expr → Bool
  | .BoolOp _ _ _ => false
  | .UnaryOp .Not _ _ => false
  | .IfExp _ _ _ _ => false
  | .Compare _ _ _ _ => false
  | _ => true
def isTp : Expr → Bool
  | .Tuple _ _ _ => true
  | _ => false
def smQ (c : CC) : SmI → Expr → Bool
  | .num k, e => match e with
    | .Constant (.int j) _ _ => k == j
    | _ => false
  | .sl j, e => match e with
    | .Name x _ => visQ c j x
    | _ => false
mutual
def chE : IE → CC → Expr → Bool
  | .con d, c, e => conQ d e
  | .glb n, c, e => match e with
    | .Name x _ => glQ c x && c.gs.any fun p => p.2 == n && p.1 == x
    | _ => false
  | .fnv n, c, e => match e with
    | .Name x _ => fnQ c x n false || fnQ c x n true
    | _ => false
  | .var i, c, e => match e with
    | .Name x _ => visQ c i x
    | _ => false
  | .u1 .neg a, c, e => match e with
    | .UnaryOp .USub x _ => chE a c x
    | _ => false
  | .u1 (.isi t) a, c, e => match e with
    | .Call (.Name f _) [x, .Name y _] [] _ => f == ("isinstance" : Str) && y == t.wd && biQ c f && biQ c y && notStar x && chE a c x
    | _ => false
  | .u1 u a, c, e => match e with
    | .Call (.Name f _) [x] [] _ => f == u.wd && biQ c f && notStar x && chE a c x
    | _ => false
  | .op o a b, c, e => match e with
    | .BinOp x o' y _ => o == o' && chE a c x && chE b c y
    | _ => false
  | .cmp o a b, c, e => match e with
    | .Compare x [o'] [y] _ => o == o' && notSet y && chE a c x && chE b c y
    | _ => false
  | .chn o o2 a b d, c, e => match e with
    | .Compare x [o', o2'] [y, z] _ => o == o' && o2 == o2' && notSet y && notSet z && chE a c x && chE b c y && chE d c z
    | _ => false
  | .ix a b, c, e => match e with
    | .Subscript x y _ => notSl y && chE a c x && chE b c y
    | _ => false
  | .and a b, c, e => match e with
    | .BoolOp .And (x :: y :: r) p => chE a c x && chE b c (if r.isEmpty then y else .BoolOp .And (y :: r) p)
    | _ => false
  | .or a b, c, e => match e with
    | .BoolOp .Or (x :: y :: r) p => chE a c x && chE b c (if r.isEmpty then y else .BoolOp .Or (y :: r) p)
    | _ => false
  | .not a, c, e => match e with
    | .UnaryOp .Not x _ => chE a c x
    | _ => false
  | .ife t a b, c, e => match e with
    | .IfExp z x y _ => chE t c z && chE a c x && chE b c y
    | _ => false
  | .tup l, c, e => match e with
    | .Tuple es _ _ => chA l c es
    | _ => false
  | .lst l, c, e => match e with
    | .List es _ => chA l c es
    | _ => false
  | .lstF l, c, e => match e with
    | .List es _ => chA l c es
    | _ => false
  | .call f l, c, e => match e with
    | .Call (.Name x _) es [] _ => fnQ c x f false && chA l c es
    | _ => false
  | .callH f i l, c, e => match e with
    | .Call (.Name x _) (.Name h _ :: es) [] _ => fnQ c x f true && visQ c i h && chA l c es
    | _ => false
  | .callV ok i l, c, e => match e with
    | .Call (.Name x _) (e1 :: es) [] _ => c.cl && visQ c i x && chA l c (e1 :: es) && ok.all fun n => c.fs.any fun p => p.2.1 == n && !p.2.2
    | _ => false
  | .comp vs it g a, c, e => match e with
    | .ListComp x [⟨t, i, [], 0⟩] scope _ => c.cl && blkC c.N c.sc scope (ownOf c.N vs) && (ownOf c.N vs).map (·.2) == vs && g.ks.all vs.contains && c.pn.all (!vs.contains ·) && notSet i && chI it c t i && chG (subC c scope) g t && chE a (subC c scope) x
    | _ => false
  | .compIf vs it g z a, c, e => match e with
    | .ListComp x [⟨t, i, [y], 0⟩] scope _ => c.cl && blkC c.N c.sc scope (ownOf c.N vs) && (ownOf c.N vs).map (·.2) == vs && g.ks.all vs.contains && c.pn.all (!vs.contains ·) && notSet i && chI it c t i && chG (subC c scope) g t && chE z (subC c scope) y && chE a (subC c scope) x
    | _ => false
  | .sl a lo hi, c, e => match e with
    | .Subscript x (.Slice l h none _) _ => chE a c x && chO lo c l && chO hi c h
    | _ => false
  | .rev a, c, e => match e with
    | .Subscript x (.Slice none none (some (.UnaryOp .USub (.Constant (.int n) _ _) _)) _) _ => n == 1 && chE a c x
    | _ => false
  | .ixx i a m, c, e => match e with
    | .Subscript (.Subscript (.Name x _) y _) z _ => visQ c i x && chE a c y && smQ c m z && notSl y && notSl z
    | _ => false
  | .app i a, c, e => match e with
    | .Call (.Attribute (.Name x _) m ap) [y] [] p => m == ("append" : Str) && visQ c i x && chE a c y && notStar y && (ap.endLine == p.line)
    | _ => false
  | .ext i a, c, e => match e with
    | .Call (.Attribute (.Name x _) m ap) [y] [] p => m == ("extend" : Str) && visQ c i x && chE a c y && notStar y && (ap.endLine == p.line)
    | _ => false
  | .pop i, c, e => match e with
    | .Call (.Attribute (.Name x _) m ap) [] [] p => m == ("pop" : Str) && visQ c i x && (ap.endLine == p.line)
    | _ => false
  | .popAt i a, c, e => match e with
    | .Call (.Attribute (.Name x _) m ap) [y] [] p => m == ("pop" : Str) && visQ c i x && chE a c y && notStar y && (ap.endLine == p.line)
    | _ => false
  | .lr1 a, c, e => match e with
    | .Call (.Name f _) [.Call (.Name g _) [x] [] _] [] _ => f == ("list" : Str) && g == ("range" : Str) && biQ c f && biQ c g && notStar x && chE a c x
    | _ => false
  | .lr2 a b, c, e => match e with
    | .Call (.Name f _) [.Call (.Name g _) [x, y] [] _] [] _ => f == ("list" : Str) && g == ("range" : Str) && biQ c f && biQ c g && notStar x && notStar y && chE a c x && chE b c y
    | _ => false
  | .mx mn a b, c, e => match e with
    | .Call (.Name f _) [x, y] [] _ => f == Str.ofString (mxW mn) && biQ c f && notStar x && notStar y && chE a c x && chE b c y
    | _ => false
  | .dnew t, c, e => match e with
    | .Dict [] [] _ => true
    | _ => false
  | .dix i l, c, e => match e with
    | .Subscript (.Name x _) (.Tuple es _ _) _ => visQ c i x && chA l c es
    | _ => false
  | .mcnt i a, c, e => match e with
    | .Call (.Attribute (.Name x _) m ap) [y] [] p => m == ("count" : Str) && visQ c i x && chE a c y && notStar y && (ap.endLine == p.line)
    | _ => false
  | .midx i a, c, e => match e with
    | .Call (.Attribute (.Name x _) m ap) [y] [] p => m == ("index" : Str) && visQ c i x && chE a c y && notStar y && (ap.endLine == p.line)
    | _ => false
  | .isx i m, c, e => match e with
    | .Call (.Name f _) [.Name x _, .Name y _] [] _ => f == ("isinstance" : Str) && glQ c f && c.ex == some i && visQ c i x && glQ c y && c.cls.any fun p => p.2 == m && p.1 == y
    | _ => false
  | .dk i a, c, e => match e with
    | .Subscript (.Name x _) y _ => visQ c i x && notSl y && chE a c y
    | _ => false
  | .dsort i, c, e => match e with
    | .Call (.Name f _) [.Name x _] [] _ => f == ("sorted" : Str) && biQ c f && visQ c i x
    | _ => false
  | .callX f i, c, e => match e with
    | .Call (.Name x _) [.Name y _] [] _ => glQ c x && c.ex == some i && visQ c i y && c.xs.any fun p => p.2 == f && p.1 == x
    | _ => false
  | .lcl, c, e => match e with
    | .Call (.Name x _) [] [] _ => c.lc && c.N[0]? == some x
    | _ => false
  | .lamc f ks b, c, e => match e with
    | .Call (.Name x _) [.Lambda ps y scope _] [] _ => c.tb && c.cl && glQ c x && (c.ws.any fun p => p.2 == f && p.1 == x) && noPar ps && LamX.lamSB c.sc scope && chE b (lamC c scope) y
    | _ => false
  | .dead, c, e => plainT e && notComp e
def chO : IO → CC → Option Expr → Bool
  | .none, c, e => e.isNone
  | .some a, c, e => match e with
    | some x => chE a c x
    | none => false
def chA : IA → CC → List Expr → Bool
  | .nil, c, es => es.isEmpty
  | .cons e l, c, es => match es with
    | x :: es => notStar x && chE e c x && chA l c es
    | [] => false
def chI : II → CC → Expr → Expr → Bool
  | .seq a, c, t, e => chE a c e
  | .rng1 a, c, t, e => match e with
    | .Call (.Name f _) [x] [] _ => f == ("range" : Str) && biQ c f && notStar x && chE a c x
    | _ => false
  | .enum a, c, t, e => match e with
    | .Call (.Name f _) [x] [] _ => isTp t && f == ("enumerate" : Str) && biQ c f && notStar x && chE a c x
    | _ => false
  | .zip a b, c, t, e => match e with
    | .Call (.Name f _) [x, y] [] _ => isTp t && f == ("zip" : Str) && biQ c f && notStar x && notStar y && chE a c x && chE b c y
    | _ => false
  | .rng2 a b, c, t, e => match e with
    | .Call (.Name f _) [x, y] [] _ => f == ("range" : Str) && biQ c f && notStar x && notStar y && chE a c x && chE b c y
    | _ => false
end
end DV
namespace DV
open PySem L2

structure CxOk (c : CC) (S : Sg) (k : Nat) (P : Pr) (X : Cx) : Prop where
  N : X.N = c.N
  sc : X.env.scope = c.sc
  nd : c.N.Nodup
  calm : c.cl = true → X.calm = true
  room : c.cl = true → Room k X.A
  un : X.A.units + 200 < cLine
  pn : S.pn = c.pn
  fn : ∀ x, c.tg.lookup x = some .cell → X.fn x = true
  fs : ∀ x f io, (x, f, io) ∈ c.fs → DefOk X k x S.T S.xf io (P.fn f) ∧ ∃ a, X.mg x = some (.ref a) ∧ S.T f = some a
  gs : ∀ x n, (x, n) ∈ c.gs → ∃ v u, X.mg x = some u ∧ RelV v u ∧ ∀ H B, Rep X.K S.T H B (P.cs n) v []
  bi : ∀ x ∈ biNames, X.mg x = none
  cf : ClsF X.K X.mg S.T S.xf c.cls P.ids P.sub
  rs : ∀ x n, (x, n) ∈ c.rs → ∃ C, ClsOk X x C ∧ S.T n = some C ∧ S.xf.f n = []
  ws : ∀ x f, (x, f) ∈ c.ws → WdOk X k x S.T S.xf (P.wd f)
  xs : ∀ x f, (x, f) ∈ c.xs → XdOk X x S.T S.xf P.ids (P.xd f)
  xr : ∀ x f, (x, f) ∈ c.xs → X.A.depth < recursionLimit ∧ X.A.units + 3 + 200 < cLine
  lm : c.tb = true → LmOk X k S
  lc : c.lc = true → ∀ x p1 p2, c.N[0]? = some x → EvOk S X (.Call (.Name x p1) [] [] p2) fun ρ => P.lc.r0 ρ
  lw : c.lw = true → ∀ pn xe x p1 p2, c.N[0]? = some x → EvOk S (X.tr pn xe) (.Call (.Name x p1) [] [] p2) fun ρ => P.lc.r0 ρ
  st : c.tr = true → X.stack = X.env :: X.outer ∧ X.env.frame = some X.env.locals
  ec : ∀ i, c.ex = some i → ∀ x f y p p1 pos, (x, f) ∈ c.xs → Gl X x → (x == ("__debug__" : Str)) = false → PE X (.Name y p1) (tVar i) → EvOk S X (.Call (.Name x p) [.Name y p1] [] pos) (evCallX (P.xd f) P.xc)
  ex : ∀ i, c.ex = some i → ∀ x y m p p1 p2 pos, PE X (.Name x p1) (tVar i) → (y, m) ∈ c.cls → Gl X y → (y == ("__debug__" : Str)) = false → Gl X "isinstance" → EvOk S X (.Call (.Name "isinstance" p) [.Name x p1, .Name y p2] [] pos) (evIsx P.sub P.xc m)
section
variable {c : CC} {S : Sg} {k : Nat} {P : Pr} {X : Cx}
theorem CxOk.units (h : CxOk c S k P X) : X.A.units + 200 < cLine := h.un
theorem glQ_ok (h : CxOk c S k P X) {x : Str} (q : glQ c x = true) : Gl X x ∧ (x == ("__debug__" : Str)) = false := by
  unfold glQ at q
  (simp only [Bool.and_eq_true, beq_iff_eq, Bool.not_eq_true'] at q)
  refine ⟨?_, q.2⟩
  show X.env.scope.names.lookup x = _
  rw [h.sc]
  exact q.1
theorem biQ_ok (h : CxOk c S k P X) {x : Str} (q : biQ c x = true) : BiOk X x := by
  unfold biQ at q
  simp only [Bool.and_eq_true] at q
  exact ⟨(glQ_ok h q.1.2).1, h.bi x (by simpa using q.2)⟩
theorem biQ_cl {x : Str} (q : biQ c x = true) : c.cl = true := by
  unfold biQ at q
  simp only [Bool.and_eq_true] at q
  exact q.1.1
theorem fnQ_cl {x : Str} {f : Nat} {io : Bool} (q : fnQ c x f io = true) : c.cl = true := by
  unfold fnQ at q
  simp only [Bool.and_eq_true] at q
  exact q.1.1
theorem fnQ_ok (h : CxOk c S k P X) {x : Str} {f : Nat} {io : Bool} (q : fnQ c x f io = true) : Gl X x ∧ (x == ("__debug__" : Str)) = false ∧ DefOk X k x S.T S.xf io (P.fn f) ∧ ∃ a, X.mg x = some (.ref a) ∧ S.T f = some a := by
  unfold fnQ at q
  simp only [Bool.and_eq_true, List.any_eq_true, beq_iff_eq] at q
  obtain ⟨⟨_, q1⟩, ⟨x', f', io'⟩, m, ⟨rfl, rfl⟩, rfl⟩ := q
  obtain ⟨a, b⟩ := glQ_ok h q1
  exact ⟨a, b, h.fs _ _ _ m⟩
theorem visQ_ok (h : CxOk c S k P X) {i : Nat} {x : Str} (q : visQ c i x = true) {pos : Pos} : PE X (.Name x pos) (tVar i) := by
  unfold visQ at q
  (simp only [Bool.and_eq_true, beq_iff_eq, Bool.not_eq_true'] at q)
  obtain ⟨⟨⟨q19, q29⟩, q39⟩, q49⟩ := q
  refine pe_var (by rw [h.N]; exact q19) ?_ q39 q49
  show _ ∨ _ ∨ _
  rw [h.sc]
  split at q29
  · exact .inl (by assumption)
  · exact .inr (.inl (by assumption))
  · exact .inr (.inr (by assumption))
  · cases q29
theorem locQ_ok (h : CxOk c S k P X) {i : Nat} {x : Str} (q : locQ c i x = true) : X.N.Nodup ∧ X.N[i]? = some x ∧ L2.Loc X.env.scope x ∧ (X.fn x = true ∨ X.env.scope.names.lookup x = some .local) := by
  unfold locQ at q
  (simp only [Bool.and_eq_true, beq_iff_eq] at q)
  refine ⟨by rw [h.N]; exact h.nd, by rw [h.N]; exact q.1, ?_⟩
  unfold L2.Loc
  rw [h.sc]
  obtain ⟨_, q29⟩ := q
  split at q29
  · exact ⟨.inl (by assumption), .inr (by assumption)⟩
  · exact ⟨.inr (by assumption), .inl (h.fn x (by simpa using q29))⟩
  · cases q29
theorem notComp_sw {e : Expr} (h : notComp e = true) {t : Option Expr} {l : Nat} {env : PySem.Env} : swapsWith e t l env = pure false := by
  cases e <;> first | rfl | cases h
theorem notSet_fold {e : Expr} (h : notSet e = true) {env : PySem.Env} : ∀ x, foldedSetIterable e env x = pure x := fun x => by
  cases e <;> first | rfl | cases h
theorem notSet_marks {op : CmpOp} {e : Expr} (h : notSet e = true) : behindInMarks op e = false := by
  cases e <;> first | rfl | cases h
theorem notSl_ix {e : Expr} (h : notSl e = true) : PlainIx e := fun o i => by
  cases e <;> first | rfl | cases h
theorem notStar_asg {t : Expr} {ts : List Expr} {env : PySem.Env} (h : notStar t = true) : assignEach (t :: ts) env = (false, assign t env) :: assignEach ts env := by
  cases t <;> first | rfl | simp [notStar] at h
theorem asg_len {env : PySem.Env} : ∀ {ts : List Expr}, ts.all notStar = true → (assignEach ts env).length = ts.length ∧ (assignEach ts env).findIdx? (·.1) = none
  | [], _ => ⟨rfl, rfl⟩
  | t :: ts, h => by
    (simp only [List.all_cons, Bool.and_eq_true] at h)
    obtain ⟨a9, b9⟩ := asg_len (env := env) h.2
    rw [notStar_asg h.1]
    refine ⟨by simp [a9], ?_⟩
    rw [List.findIdx?_cons]
    simp only [Bool.false_eq_true, if_false, b9]
    rfl

/-! targets -/
theorem chGs_star : ∀ {g : IGs} {es : List Expr}, chGs c g es = true → es.all notStar = true ∧ es.length = g.len
  | .nil, es, h => by
    have : es = [] := by simpa [chGs] using h
    subst this
    exact ⟨rfl, rfl⟩
  | .cons g l, [], h => by simp [chGs] at h
  | .cons g l, e :: es, h => by
    simp only [chGs, Bool.and_eq_true] at h
    obtain ⟨a, b⟩ := chGs_star h.2
    exact ⟨by simp [h.1.1, a], by simp [b, IGs.len]⟩
mutual
theorem chG_ok (h : CxOk c S k P X) : ∀ (g : IG) (e : Expr), chG c g e = true → GvOk X e g.ks (gv g)
  | .nm i, e, q => by
    unfold chG at q
    split at q
    · obtain ⟨a, b, d, f⟩ := locQ_ok h q
      exact gv_name a b d f
    · cases q
  | .tp l, e, q => by
    unfold chG at q
    split at q
    · rename_i es k p
      simp only [Bool.and_eq_true] at q
      obtain ⟨qc, q⟩ := q
      obtain ⟨a, b⟩ := chGs_star q
      obtain ⟨a1, a2⟩ := asg_len (env := X.env) a
      exact gv_any (h.calm qc) (chGs_ok h l es q) (by rw [a1, b]) a2
    · cases q
theorem chGs_ok (h : CxOk c S k P X) : ∀ (g : IGs) (es : List Expr), chGs c g es = true → GvsOk X es g.ks (gvs g)
  | .nil, es, q => by
    have : es = [] := by simpa [chGs] using q
    subst this
    exact gvs_nil
  | .cons g l, [], q => by simp [chGs] at q
  | .cons g l, e :: es, q => by
    simp only [chGs, Bool.and_eq_true] at q
    exact gvs_cons (chG_ok h g e q.1.2) (chGs_ok h l es q.2) (by rw [notStar_asg q.1.1]; rfl)
end

/-! expressions -/
structure EOk (S : Sg) (X : Cx) (e : Expr) (p : EF × TF) : Prop where
  ev : EvOk S X e p.1
  tv : TvOk S X e p.2
  wv : ∀ op vs pos, e = .BoolOp op vs pos → WvOk S X e p.2
theorem plainT_is {e : Expr} (h : plainT e = true) {env : PySem.Env} : ∀ whole, isTrue e env whole = (do let v ← whole; standAt e.pos; holding [v] (truthy v)) := fun whole => by
  cases e with
  | BoolOp => cases h
  | IfExp => cases h
  | Compare => cases h
  | UnaryOp op x pos => cases op <;> first | rfl | cases h
  | _ => rfl
theorem EOk.of {e : Expr} {F : EF} (h : EvOk S X e F) (q : plainT e = true) : EOk S X e (evB F) := ⟨h, tv_truth h (plainT_is q), fun op vs pos z => by subst z; cases q⟩
theorem chA_star : ∀ {l : IA} {es : List Expr}, chA l c es = true → es.all notStar = true ∧ es.length = l.len
  | .nil, es, h => by
    have : es = [] := by simpa [chA] using h
    subst this
    exact ⟨rfl, rfl⟩
  | .cons e l, [], h => by simp [chA] at h
  | .cons e l, x :: es, h => by
    simp only [chA, Bool.and_eq_true] at h
    obtain ⟨a, b⟩ := chA_star h.2
    exact ⟨by simp [h.1.1, a], by simp [b, IA.len]⟩
theorem conQ_ok {d : D} {e : Expr} (h : conQ d e = true) : EvOk S X e (evC d) ∧ plainT e = true := by
  unfold conQ at h
  split at h
  · exact ⟨ev_imm pe_non fun _ _ _ _ => ⟨rfl, rfl⟩, rfl⟩
  · obtain rfl := eq_of_beq h
    exact ⟨ev_imm pe_bl fun _ _ _ _ => ⟨rfl, rfl⟩, rfl⟩
  · obtain rfl := eq_of_beq h
    exact ⟨ev_imm pe_int fun _ _ _ _ => ⟨rfl, rfl⟩, rfl⟩
  · rename_i l x _ _
    simp only [Bool.and_eq_true, beq_iff_eq, List.all_eq_true, decide_eq_true_eq] at h
    obtain ⟨⟨h1, h2⟩, h3⟩ := h
    refine ⟨ev_imm pe_str fun _ _ _ _ => ⟨?_, h2, h3, rfl⟩, rfl⟩
    rw [← h1]
  · cases h
/-- two comparisons in a row -/
theorem chn_ok {o o' : CmpOp} {x y z : Expr} {fa fb fc : EF} {pos : Pos} (hu : X.A.units + 200 < cLine) (ha : EvOk S X x fa) (hb : EvOk S X y fb) (hc : EvOk S X z fc) (hy : notSet y = true) (hz : notSet z = true) : EOk S X (.Compare x [o, o'] [y, z] pos) (evCh o o' fa fb fc, tvB (evCh o o' fa fb fc)) := by
  have hm : lastMarks [o, o'] [y, z] = false := notSet_marks hz
  have read : ∀ G, Fit S X G → ∀ ρ σ H stk Q, SR G.C ρ σ H stk → PR G σ stk (evCh o o' fa fb fc ρ) (OkE G σ stk Q) → tChain (rW X (compareOp o)) (rW X (compareOp o')) (tW X x) (tW X y) (tW X z) σ H Q := fun G ft ρ σ H stk Q hs hp => by
    refine ha G ft ρ σ H stk _ hs (hp.bind.mono fun p hp v1 H1 hs1 hb1 => hb G ft p.2 σ H1 _ _ hs1 (hp.bind.up fun q hp v2 H2 hs2 hb2 => ?_))
    obtain ⟨dx, ex, hp⟩ := hp.bind.oR
    obtain ⟨dy, ey, hp⟩ := hp.bind.oR
    obtain ⟨j, ej, hp⟩ := hp.bind.oR
    obtain ⟨d, ed, hp⟩ := hp.bind.oR
    obtain ⟨b, eb, hp⟩ := hp.bind.oR
    obtain rfl := intD_some ej
    cases hs2.isInt (i := j) hb2 ey
    refine ok_cmpD o hu G ft q.2 σ H2 stk v1 _ p.1 q.1 dx _ _ _ hs2 hb1 hb2 ex ey ed fun v H3 hs3 => ?_
    refine ⟨b, isB_val hs3 eb, ?_⟩
    cases b with
    | false =>
      rw [if_neg (by simp)] at hp ⊢
      exact hp _ H3 (hs3.drop.imm fun B => ⟨rfl, rfl⟩) trivial
    | true =>
      rw [if_pos rfl] at hp ⊢
      have hs4 : SR G.C q.2 σ H3 (.one (.int j) (.val (.int j)) :: stk) := hs3.drop.imm fun B => ⟨rfl, rfl⟩
      refine hc G ft q.2 σ H3 _ _ hs4 (hp.bind.up fun r hp w H4 hs5 hb5 => ?_)
      obtain ⟨dz, ez, hp⟩ := hp.bind.oR
      obtain ⟨d2, ed2, hp⟩ := hp.bind.oR
      exact ok_cmpD o' hu G ft r.2 σ H4 stk _ w (.val (.int j)) r.1 (.int j) dz d2 Q hs5 trivial hb5 rfl ez ed2 fun v H5 hs6 => hp v H5 hs6 trivial
  refine ⟨fun G ft ρ σ H stk Q hs hp => of_PE (pe_chain opR_W opR_W pe_W pe_W pe_W hm) (read G ft ρ σ H stk Q hs hp), fun G ft ρ σ H stk Q hs hp => of_PT (pt_chain opR_W opR_W pe_W pe_W pe_W hm) (read G ft ρ σ H stk _ hs (hp.bind.mono fun p hp v H' s' hb => ?_)), fun op vs pos z => nomatch z⟩
  obtain ⟨k, ek, hp⟩ := hp.bind.oR
  exact ⟨k, isB_val s' ek, hp H' s'.drop⟩
end
end DV
namespace DV
open PySem L2

section
variable {c : CC} {S : Sg} {k : Nat} {P : Pr} {X : Cx}
def tCallZ (i : Nat) (f : Addr) (sp : Sp) (E : St → XK) (t : TA) : TE := fun σ H Q => σ[i]? = some (some (.ref f)) ∧ t σ H fun vs H1 => sp vs H1 Q (E σ)
theorem pe_callZ {CX : CXT} {i : Nat} {f : Addr} {fd : FuncData} {ps : List Str} {sp : Sp} {E : St → XK} {x : Str} {p pos : Pos} {e : Expr} {es : List Expr} {t : TA} (F : FnOk X.prog X.w X.K X.mg X.base CX k f fd ps sp) (hr : Room k X.A) (hv : PE X (.Name x p) (tVar i)) (hk : PySem.W.keepIn X.K (.ref f) = true) (hb : Binds X.K fd ps []) (hx : ∀ σ, PassesAt CX X σ (E σ)) (ha : PA X (e :: es) t)
    (he : starEach (e :: es) X.env = (false, eval e X.env) :: starEach es X.env) (hpl : (backTo pos (starEach es X.env)).any (·.1) = false) : PE X (.Call (.Name x p) (e :: es) [] pos) (tCallZ i f sp E t) := ⟨fun pins s σ H Q I h => by
  obtain ⟨h1, h2⟩ := h
  refine wpAny_Call_Name_kw (thn (hv.run pins s σ H (fun v H1 => v = .ref f ∧ H1 = H) I ⟨.ref f, h1, rfl, rfl⟩) fun u s1 ⟨v, H1, I1, r1, q1⟩ => ?_)
  obtain ⟨rfl, rfl⟩ := q1
  cases r1
  refine PySem.W.callWith_K (h₀ := X.base) I.ok.mod.kin hk (thn (ha.run pos pins s1 σ _ _ I1 h2) fun us s2 ⟨vs, H2, I2, r, q⟩ => ⟨I2.kIn, ?_⟩) he hpl
  exact run_fnS F hr hb (hx σ) I2 r q⟩
theorem ev_callZ (h : CxOk c S k P X) (hcl : c.cl = true) {i : Nat} {ok : List Nat} {x : Str} {p pos : Pos} {e : Expr} {es : List Expr} {fr : AF} (hq : (ok.all fun n => c.fs.any fun p => p.2.1 == n && !p.2.2) = true) (hv : PE X (.Name x p) (tVar i)) (ha : AbOk S true X (e :: es) fr) (hst : (e :: es).all notStar = true) : EvOk S X (.Call (.Name x p) (e :: es) [] pos) (evCallV P ok i fr) := fun G ft ρ σ H stk Q hs hp => by
  unfold evCallV at hp
  split at hp
  · rename_i n en
    by_cases z : ok.contains n = true
    · rw [if_pos z] at hp
      obtain ⟨v, ev, hs2⟩ := hs.take (slotD_some en)
      obtain ⟨B, O, r⟩ := hs2.top
      obtain ⟨⟨a, ea, rfl⟩, _⟩ := r
      rw [List.all_eq_true] at hq
      have := hq n (by simpa using z)
      simp only [List.any_eq_true, Bool.and_eq_true, beq_iff_eq, Bool.not_eq_true'] at this
      obtain ⟨⟨y, n', io⟩, m, rfl, rfl⟩ := this
      obtain ⟨hd, a', e1, e2⟩ := h.fs _ _ _ m
      rw [ft.t] at ea
      rw [ea] at e2
      cases e2
      obtain ⟨f, fd, ps, hm, hk, hb, hF⟩ := hd.ex
      rw [e1] at hm
      cases hm
      rw [← ft.t, ← ft.x] at hF
      simp only [List.all_cons, Bool.and_eq_true] at hst
      refine of_PE (pe_callZ (E := WE G.W) hF (h.room hcl) hv hk hb (fun σ => passAt ft.tk σ) pa_W (star_cons hst.1) (star_none hst.2)) ⟨ev, ?_⟩
      exact ha G ft ρ σ H stk _ hs (hp.bind.mono fun q hp vs H' hs' hl hf => r0_ok ft hs' hl (hf rfl) hp)
    · rw [if_neg z] at hp
      exact hp.elim
  · exact hp.elim
theorem ev_lstF {es : List Expr} {fr : AF} {pos : Pos} (hr : AbOk S true X es fr) : EvOk S X (.List es pos) (evLst fr) := fun G ft ρ σ H stk Q hs hp =>
  of_PE (pe_lst pa_W) (hr G ft ρ σ H stk _ hs (hp.bind.mono fun p hp vs H1 s1 hl hf => by
    by_cases z : p.1.length ≤ sizeLine
    · rw [if_pos z] at hp
      exact ⟨by omega, fun a ha => hp _ _ (s1.list ha) trivial⟩
    · rw [if_neg z] at hp
      exact hp.elim))
theorem CxOk.blk (h : CxOk c S k P X) (s : Shared) (H : Hp) (scope : Scope) (cl : List (Str × Addr)) (C : Addr) (fp : List Addr) : CxOk (subC c scope) S k P (X.blk s H scope (compEnvC scope cl C X.env) fp) where
  N := h.N
  sc := by show relS scope X.env.scope = _; rw [h.sc]; rfl
  nd := h.nd
  calm := h.calm
  room := h.room
  un := h.un
  pn := h.pn
  fn := fun x q => by show (scope.names.lookup x == some .cell) = true; exact beq_iff_eq.mpr q
  fs := fun x f io m => ⟨⟨(h.fs x f io m).1.ex⟩, (h.fs x f io m).2⟩
  gs := h.gs
  bi := h.bi
  cf := h.cf
  rs := fun x n m => by
    obtain ⟨C, a, b⟩ := h.rs x n m
    exact ⟨C, ⟨a.g, a.k, a.e, a.b, a.t⟩, b⟩
  ws := fun x f m => absurd (show (x, f) ∈ ([] : List (Str × Nat)) from m) (by simp)
  xs := fun x f m => absurd (show (x, f) ∈ ([] : List (Str × Nat)) from m) (by simp)
  xr := fun x f m => absurd (show (x, f) ∈ ([] : List (Str × Nat)) from m) (by simp)
  lm := fun z => absurd (show false = true from z) (by simp)
  lc := fun z => absurd (show false = true from z) (by simp)
  lw := fun z => absurd (show false = true from z) (by simp)
  st := fun z => absurd (show false = true from z) (by simp)
  ec := fun i z => absurd (show none = some i from z) (by simp)
  ex := fun i z => absurd (show none = some i from z) (by simp)
theorem CxOk.lam (h : CxOk c S k P X) {scope : Scope} (L : LamX.LamS X.env.scope scope) (A : Around) (outer : List PySem.Env) (s : Shared) (H : Hp) (E : XK) (f c' : Addr) (hr : Room k (A.deeper (LamX.lamEnv X scope s.heap.objs.size f c'))) : CxOk (lamC c scope) S k P (LamX.lamCx X A outer s H E scope f c') where
  N := h.N
  sc := rfl
  nd := h.nd
  calm := fun _ => rfl
  room := fun _ => hr
  un := by have := hr.un; show (A.deeper _).units + 200 < _; omega
  pn := h.pn
  fn := fun x q => by cases q
  fs := fun x f io m => ⟨⟨(h.fs x f io m).1.ex⟩, (h.fs x f io m).2⟩
  gs := h.gs
  bi := h.bi
  cf := h.cf
  rs := fun x n m => by
    obtain ⟨C, a, b⟩ := h.rs x n m
    exact ⟨C, ⟨a.g, a.k, a.e, a.b, a.t⟩, b⟩
  ws := fun x f m => absurd (show (x, f) ∈ ([] : List (Str × Nat)) from m) (by simp)
  xs := fun x f m => absurd (show (x, f) ∈ ([] : List (Str × Nat)) from m) (by simp)
  xr := fun x f m => absurd (show (x, f) ∈ ([] : List (Str × Nat)) from m) (by simp)
  lm := fun z => absurd (show false = true from z) (by simp)
  lc := fun z => absurd (show false = true from z) (by simp)
  lw := fun z => absurd (show false = true from z) (by simp)
  st := fun z => absurd (show false = true from z) (by simp)
  ec := fun i z => absurd (show none = some i from z) (by simp)
  ex := fun i z => absurd (show none = some i from z) (by simp)
theorem and_rest {y : Expr} {r : List Expr} {p : Pos} {F : EF × TF} (h : EOk S X (if r.isEmpty then y else .BoolOp .And (y :: r) p) F) : EvOk S X (.BoolOp .And (y :: r) p) F.1 ∧ WvOk S X (.BoolOp .And (y :: r) p) F.2 := by
  cases r with
  | nil => exact ⟨ev_one h.ev, wv_and1 h.tv⟩
  | cons z r => exact ⟨h.ev, h.wv _ _ _ rfl⟩
theorem or_rest {y : Expr} {r : List Expr} {p : Pos} {F : EF × TF} (h : EOk S X (if r.isEmpty then y else .BoolOp .Or (y :: r) p) F) : EvOk S X (.BoolOp .Or (y :: r) p) F.1 ∧ WvOk S X (.BoolOp .Or (y :: r) p) F.2 := by
  cases r with
  | nil => exact ⟨ev_one h.ev, wv_or1 h.tv⟩
  | cons z r => exact ⟨h.ev, h.wv _ _ _ rfl⟩
theorem ownOf_map {N : List Str} {vs : List Nat} (h : ((ownOf N vs).map (·.2) == vs) = true) : (ownOf N vs).map (·.2) = vs := eq_of_beq h
theorem smQ_ok (h : CxOk c S k P X) {m : SmI} {e : Expr} (q : smQ c m e = true) : SmOk X e m := by
  unfold smQ at q
  split at q
  · split at q
    · obtain rfl := eq_of_beq q
      exact sm_num
    · cases q
  · split at q
    · exact sm_sl (visQ_ok h q)
    · cases q
theorem u1_ok {a : IE} {e : Expr} (ih : ∀ (X : Cx) (x : Expr), CxOk c S k P X → chE a c x = true → EOk S X x (bo P a)) (u : U1) (hu : u.wd ≠ "") (h : CxOk c S k P X) (q : (match e with
    | .Call (.Name f _) [x] [] _ => f == u.wd && biQ c f && notStar x && chE a c x
    | _ => false) = true) : EOk S X e (evB (ev1 (bo P a).1 u.g)) := by
  split at q
  · simp only [Bool.and_eq_true, beq_iff_eq] at q
    obtain ⟨⟨⟨rfl, q1⟩, q2⟩, q3⟩ := q
    exact .of (ev_bi1 (h.calm (biQ_cl q1)) h.units u hu (biQ_ok h q1) (ih X _ h q3).ev q2) rfl
  · cases q
mutual
theorem chE_ok : ∀ (r : IE) (c : CC) (X9 : Cx) (e : Expr), CxOk c S k P X9 → chE r c e = true → EOk S X9 e (bo P r)
  | .con d, c, X9, e, h9, q9 => by
    have z9 := conQ_ok (S := S) (X := X9) (show conQ d e = true from q9)
    exact .of z9.1 z9.2
  | .glb n, c, X9, e, h9, q9 => by
    unfold chE at q9
    split at q9
    · simp only [Bool.and_eq_true, List.any_eq_true, beq_iff_eq] at q9
      obtain ⟨q19, ⟨x9', n9'⟩, m9, rfl, rfl⟩ := q9
      obtain ⟨a9, b9⟩ := glQ_ok h9 q19
      obtain ⟨v9, u9, e19, rv9, rep9⟩ := h9.gs _ _ m9
      refine .of (fun G9 ft9 ρ9 σ9 H9 stk9 Q9 hs9 hp9 => of_PE (pe_glob a9 e19 rv9 b9) (hp9 v9 H9 (hs9.imm fun B9 => ?_) trivial)) rfl
      rw [ft9.k, ft9.t]
      exact rep9 H9 B9
    · cases q9
  | .fnv n, c, X9, e, h9, q9 => by
    unfold chE at q9
    split at q9
    · rename_i x9 pos
      have : ∃ io9, fnQ c x9 n io9 = true := by
        simp only [Bool.or_eq_true] at q9
        exact q9.elim (fun z9 => ⟨_, z9⟩) (fun z9 => ⟨_, z9⟩)
      obtain ⟨io9, q9⟩ := this
      obtain ⟨a9, b9, _, adr9, e19, e29⟩ := fnQ_ok h9 q9
      refine .of (fun G9 ft9 ρ9 σ9 H9 stk9 Q9 hs9 hp9 => of_PE (pe_glob a9 e19 (v := .ref adr9) rfl b9) (hp9 _ H9 (hs9.imm fun B9 => ⟨⟨adr9, ?_, rfl⟩, rfl⟩) trivial)) rfl
      rw [ft9.t]
      exact e29
    · cases q9
  | .var i, c, X9, e, h9, q9 => by
    unfold chE at q9
    split at q9
    · exact .of (ev_var (visQ_ok h9 q9)) rfl
    · cases q9
  | .u1 .neg a9, c, X9, e, h9, q9 => by
    unfold chE at q9
    split at q9
    · exact .of (ev_neg (chE_ok a9 c X9 _ h9 q9).ev) rfl
    · cases q9
  | .u1 (.isi t) a9, c, X9, e, h9, q9 => by
    unfold chE at q9
    split at q9
    · simp only [Bool.and_eq_true, beq_iff_eq] at q9
      obtain ⟨⟨⟨⟨⟨rfl, rfl⟩, q19⟩, q29⟩, q39⟩, q49⟩ := q9
      exact .of (ev_isi (biQ_ok h9 q19).gl (biQ_ok h9 q19).mg (biQ_ok h9 q29).gl (biQ_ok h9 q29).mg (chE_ok a9 c X9 _ h9 q49).ev q39) rfl
    · cases q9
  | .u1 .len a9, c, X9, e, h9, q9 => u1_ok (fun X9 x9 h9 q9 => chE_ok a9 c X9 x9 h9 q9) .len (by decide) h9 (by unfold chE at q9; exact q9)
  | .u1 .abs a9, c, X9, e, h9, q9 => u1_ok (fun X9 x9 h9 q9 => chE_ok a9 c X9 x9 h9 q9) .abs (by decide) h9 (by unfold chE at q9; exact q9)
  | .u1 .int a9, c, X9, e, h9, q9 => u1_ok (fun X9 x9 h9 q9 => chE_ok a9 c X9 x9 h9 q9) .int (by decide) h9 (by unfold chE at q9; exact q9)
  | .u1 .list a9, c, X9, e, h9, q9 => u1_ok (fun X9 x9 h9 q9 => chE_ok a9 c X9 x9 h9 q9) .list (by decide) h9 (by unfold chE at q9; exact q9)
  | .u1 .tuple a9, c, X9, e, h9, q9 => u1_ok (fun X9 x9 h9 q9 => chE_ok a9 c X9 x9 h9 q9) .tuple (by decide) h9 (by unfold chE at q9; exact q9)
  | .u1 .sum a9, c, X9, e, h9, q9 => u1_ok (fun X9 x9 h9 q9 => chE_ok a9 c X9 x9 h9 q9) .sum (by decide) h9 (by unfold chE at q9; exact q9)
  | .u1 .max a9, c, X9, e, h9, q9 => u1_ok (fun X9 x9 h9 q9 => chE_ok a9 c X9 x9 h9 q9) .max (by decide) h9 (by unfold chE at q9; exact q9)
  | .u1 .min a9, c, X9, e, h9, q9 => u1_ok (fun X9 x9 h9 q9 => chE_ok a9 c X9 x9 h9 q9) .min (by decide) h9 (by unfold chE at q9; exact q9)
  | .u1 .all a9, c, X9, e, h9, q9 => u1_ok (fun X9 x9 h9 q9 => chE_ok a9 c X9 x9 h9 q9) .all (by decide) h9 (by unfold chE at q9; exact q9)
  | .u1 .sorted a9, c, X9, e, h9, q9 => u1_ok (fun X9 x9 h9 q9 => chE_ok a9 c X9 x9 h9 q9) .sorted (by decide) h9 (by unfold chE at q9; exact q9)
  | .u1 .any a9, c, X9, e, h9, q9 => u1_ok (fun X9 x9 h9 q9 => chE_ok a9 c X9 x9 h9 q9) .any (by decide) h9 (by unfold chE at q9; exact q9)
  | .op o a9 b9, c, X9, e, h9, q9 => by
    unfold chE at q9
    split at q9
    · simp only [Bool.and_eq_true, beq_iff_eq] at q9
      obtain ⟨⟨rfl, q19⟩, q29⟩ := q9
      exact .of (ev_op (ok_opE _) (chE_ok a9 c X9 _ h9 q19).ev (chE_ok b9 c X9 _ h9 q29).ev) rfl
    · cases q9
  | .cmp o a9 b9, c, X9, e, h9, q9 => by
    unfold chE at q9
    split at q9
    · simp only [Bool.and_eq_true, beq_iff_eq] at q9
      obtain ⟨⟨⟨rfl, q09⟩, q19⟩, q29⟩ := q9
      exact ⟨ev_cmp (ok_cmpD _ h9.units) (chE_ok a9 c X9 _ h9 q19).ev (chE_ok b9 c X9 _ h9 q29).ev (notSet_marks q09), tv_cmp (ok_cmpD _ h9.units) (chE_ok a9 c X9 _ h9 q19).ev (chE_ok b9 c X9 _ h9 q29).ev (notSet_marks q09), fun _ _ _ z9 => nomatch z9⟩
    · cases q9
  | .chn o o2 a9 b9 d, c, X9, e, h9, q9 => by
    unfold chE at q9
    split at q9
    · simp only [Bool.and_eq_true, beq_iff_eq] at q9
      obtain ⟨⟨⟨⟨⟨⟨rfl, rfl⟩, q09⟩, q19⟩, q29⟩, q39⟩, q49⟩ := q9
      exact chn_ok h9.units (chE_ok a9 c X9 _ h9 q29).ev (chE_ok b9 c X9 _ h9 q39).ev (chE_ok d c X9 _ h9 q49).ev q09 q19
    · cases q9
  | .ix a9 b9, c, X9, e, h9, q9 => by
    unfold chE at q9
    split at q9
    · simp only [Bool.and_eq_true] at q9
      obtain ⟨⟨q09, q19⟩, q29⟩ := q9
      exact .of (ev_ix (chE_ok a9 c X9 _ h9 q19).ev (chE_ok b9 c X9 _ h9 q29).ev (notSl_ix q09)) rfl
    · cases q9
  | .and a9 b9, c, X9, e, h9, q9 => by
    unfold chE at q9
    split at q9
    · simp only [Bool.and_eq_true] at q9
      obtain ⟨q19, q29⟩ := q9
      have h19 := chE_ok a9 c X9 _ h9 q19
      obtain ⟨h29, h39⟩ := and_rest (chE_ok b9 c X9 _ h9 q29)
      have w9 := wv_and h19.tv h39
      exact ⟨ev_and h19.ev h29, w9.tv, fun _ _ _ z9 => by cases z9; exact w9⟩
    · cases q9
  | .or a9 b9, c, X9, e, h9, q9 => by
    unfold chE at q9
    split at q9
    · simp only [Bool.and_eq_true] at q9
      obtain ⟨q19, q29⟩ := q9
      have h19 := chE_ok a9 c X9 _ h9 q19
      obtain ⟨h29, h39⟩ := or_rest (chE_ok b9 c X9 _ h9 q29)
      have w9 := wv_or h19.tv h39
      exact ⟨ev_or h19.ev h29, w9.tv, fun _ _ _ z9 => by cases z9; exact w9⟩
    · cases q9
  | .not a9, c, X9, e, h9, q9 => by
    unfold chE at q9
    split at q9
    · have h19 := chE_ok a9 c X9 _ h9 q9
      exact ⟨ev_not h19.ev, tv_not h19.tv, fun _ _ _ z9 => nomatch z9⟩
    · cases q9
  | .ife t a9 b9, c, X9, e, h9, q9 => by
    unfold chE at q9
    split at q9
    · simp only [Bool.and_eq_true] at q9
      obtain ⟨⟨q09, q19⟩, q29⟩ := q9
      have h09 := chE_ok t c X9 _ h9 q09
      have h19 := chE_ok a9 c X9 _ h9 q19
      have h29 := chE_ok b9 c X9 _ h9 q29
      exact ⟨ev_if h09.tv h19.ev h29.ev, tv_if h09.tv h19.tv h29.tv, fun _ _ _ z9 => nomatch z9⟩
    · cases q9
  | .tup l, c, X9, e, h9, q9 => by
    unfold chE at q9
    split at q9
    · exact .of (ev_tup (chA_ok l c X9 _ true h9 q9)) rfl
    · cases q9
  | .lst l, c, X9, e, h9, q9 => by
    unfold chE at q9
    split at q9
    · exact .of (ev_lst (chA_ok l c X9 _ false h9 q9)) rfl
    · cases q9
  | .lstF l, c, X9, e, h9, q9 => by
    unfold chE at q9
    split at q9
    · exact .of (ev_lstF (chA_ok l c X9 _ true h9 q9)) rfl
    · cases q9
  | .call f l, c, X9, e, h9, q9 => by
    unfold chE at q9
    split at q9
    · rename_i x9 p es pos
      simp only [Bool.and_eq_true] at q9
      obtain ⟨g9, db9, hd9, _⟩ := fnQ_ok h9 q9.1
      have qc9 := fnQ_cl q9.1
      have ha9 := chA_ok l c X9 es true h9 q9.2
      have hst9 := (chA_star q9.2).1
      cases es with
      | nil =>
        cases l with
        | nil => exact .of (ev_call0 hd9 (h9.room qc9) g9 db9) rfl
        | cons _ _ => simp [chA] at q9
      | cons e es => exact .of (ev_call hd9 (h9.room qc9) g9 db9 ha9 hst9) rfl
    · cases q9
  | .callH f i l, c, X9, e, h9, q9 => by
    unfold chE at q9
    split at q9
    · simp only [Bool.and_eq_true] at q9
      obtain ⟨⟨q09, q19⟩, q29⟩ := q9
      obtain ⟨g9, db9, hd9, _⟩ := fnQ_ok h9 q09
      have qc9 := fnQ_cl q09
      exact .of (ev_callH hd9 (h9.room qc9) g9 db9 (visQ_ok h9 q19) (chA_ok l c X9 _ true h9 q29) (by simp [notStar, (chA_star q29).1])) rfl
    · cases q9
  | .callV ok i l, c, X9, e, h9, q9 => by
    unfold chE at q9
    split at q9
    · simp only [Bool.and_eq_true] at q9
      obtain ⟨⟨⟨qc9, q09⟩, q19⟩, q29⟩ := q9
      exact .of (ev_callZ h9 qc9 q29 (visQ_ok h9 q09) (chA_ok l c X9 _ true h9 q19) (chA_star q19).1) rfl
    · cases q9
  | .comp vs it g9 a9, c, X9, e, h9, q9 => by
    unfold chE at q9
    split at q9
    · rename_i _ x0 t0 i0 sc0 p0
      simp only [Bool.and_eq_true] at q9
      obtain ⟨⟨⟨⟨⟨⟨⟨⟨qc9, q19⟩, q29⟩, q39⟩, q49⟩, q59⟩, q69⟩, q79⟩, q89⟩ := q9
      have ho9 := ownOf_map q29
      have hb09 := blkOk_by q19
      have hb9 : BlkOk X9.N X9.env.scope sc0 (ownOf c.N vs) := by rw [h9.N, h9.sc]; exact hb09
      have w9 := ev_lc (S := S) (X := X9) (scope := sc0) (elt := x0) (pos := p0) (tg := t0) (iter := i0) (t := tvYes) (h9.calm qc9) (by rw [h9.N]; exact h9.nd) hb9 (ks := g9.ks) (by rw [ho9]; simpa using q39) (by rw [ho9, h9.pn]; simpa using q49) (chI_ok it c X9 _ _ h9 q69)
        (fun s9 H9 C9 cl9 fp9 => chG_ok (h9.blk s9 H9 sc0 cl9 C9 fp9) g9 _ q79) (fun s9 H9 C9 cl9 fp9 => ptsv_nil) (fun s9 H9 C9 cl9 fp9 => (chE_ok a9 _ _ _ (h9.blk s9 H9 sc0 cl9 C9 fp9) q89).ev) (notSet_fold q59)
      rw [ho9] at w9
      exact .of w9 rfl
    · cases q9
  | .compIf vs it g9 z9 a9, c, X9, e, h9, q9 => by
    unfold chE at q9
    split at q9
    · rename_i _ x0 t0 i0 y0 sc0 p0
      simp only [Bool.and_eq_true] at q9
      obtain ⟨⟨⟨⟨⟨⟨⟨⟨⟨qc9, q19⟩, q29⟩, q39⟩, q49⟩, q59⟩, q69⟩, q79⟩, q99⟩, q89⟩ := q9
      have ho9 := ownOf_map q29
      have hb09 := blkOk_by q19
      have hb9 : BlkOk X9.N X9.env.scope sc0 (ownOf c.N vs) := by rw [h9.N, h9.sc]; exact hb09
      have w9 := ev_lc (S := S) (X := X9) (scope := sc0) (elt := x0) (pos := p0) (tg := t0) (iter := i0) (t := (bo P z9).2) (h9.calm qc9) (by rw [h9.N]; exact h9.nd) hb9 (ks := g9.ks) (by rw [ho9]; simpa using q39) (by rw [ho9, h9.pn]; simpa using q49) (chI_ok it c X9 _ _ h9 q69)
        (fun s9 H9 C9 cl9 fp9 => chG_ok (h9.blk s9 H9 sc0 cl9 C9 fp9) g9 _ q79) (fun s9 H9 C9 cl9 fp9 => ptsv_one (chE_ok z9 _ _ _ (h9.blk s9 H9 sc0 cl9 C9 fp9) q99).tv) (fun s9 H9 C9 cl9 fp9 => (chE_ok a9 _ _ _ (h9.blk s9 H9 sc0 cl9 C9 fp9) q89).ev) (notSet_fold q59)
      rw [ho9] at w9
      exact .of w9 rfl
    · cases q9
  | .sl a9 lo hi, c, X9, e, h9, q9 => by
    unfold chE at q9
    split at q9
    · simp only [Bool.and_eq_true] at q9
      exact .of (ev_sl (chE_ok a9 c X9 _ h9 q9.1.1).ev (chO_ok lo c X9 _ h9 q9.1.2) (chO_ok hi c X9 _ h9 q9.2)) rfl
    · cases q9
  | .rev a9, c, X9, e, h9, q9 => by
    unfold chE at q9
    split at q9
    · simp only [Bool.and_eq_true, beq_iff_eq] at q9
      obtain ⟨rfl, q9⟩ := q9
      exact .of (ev_rev (chE_ok a9 c X9 _ h9 q9).ev) rfl
    · cases q9
  | .ixx i a9 m9, c, X9, e, h9, q9 => by
    unfold chE at q9
    split at q9
    · simp only [Bool.and_eq_true] at q9
      obtain ⟨⟨⟨⟨q19, q29⟩, q39⟩, q49⟩, q59⟩ := q9
      exact .of (ev_ixx (visQ_ok h9 q19) (chE_ok a9 c X9 _ h9 q29).ev (smQ_ok h9 q39) q49 q59) rfl
    · cases q9
  | .app i a9, c, X9, e, h9, q9 => by
    unfold chE at q9
    split at q9
    · simp only [Bool.and_eq_true, beq_iff_eq] at q9
      obtain ⟨⟨⟨⟨rfl, q19⟩, q29⟩, q39⟩, q49⟩ := q9
      exact .of (ev_app (visQ_ok h9 q19) (chE_ok a9 c X9 _ h9 q29).ev q39 (beq_iff_eq.mpr q49)) rfl
    · cases q9
  | .ext i a9, c, X9, e, h9, q9 => by
    unfold chE at q9
    split at q9
    · simp only [Bool.and_eq_true, beq_iff_eq] at q9
      obtain ⟨⟨⟨⟨rfl, q19⟩, q29⟩, q39⟩, q49⟩ := q9
      exact .of (ev_ext (visQ_ok h9 q19) (chE_ok a9 c X9 _ h9 q29).ev q39 (beq_iff_eq.mpr q49)) rfl
    · cases q9
  | .pop i, c, X9, e, h9, q9 => by
    unfold chE at q9
    split at q9
    · simp only [Bool.and_eq_true, beq_iff_eq] at q9
      obtain ⟨⟨rfl, q19⟩, q49⟩ := q9
      exact .of (ev_pop (visQ_ok h9 q19) (beq_iff_eq.mpr q49)) rfl
    · cases q9
  | .popAt i a9, c, X9, e, h9, q9 => by
    unfold chE at q9
    split at q9
    · simp only [Bool.and_eq_true, beq_iff_eq] at q9
      obtain ⟨⟨⟨⟨rfl, q19⟩, q29⟩, q39⟩, q49⟩ := q9
      exact .of (ev_popAt (visQ_ok h9 q19) (chE_ok a9 c X9 _ h9 q29).ev q39 (beq_iff_eq.mpr q49)) rfl
    · cases q9
  | .lr1 a9, c, X9, e, h9, q9 => by
    unfold chE at q9
    split at q9
    · simp only [Bool.and_eq_true, beq_iff_eq] at q9
      obtain ⟨⟨⟨⟨⟨rfl, rfl⟩, q19⟩, q29⟩, q39⟩, q49⟩ := q9
      exact .of (ev_lr1 (h9.calm (biQ_cl q19)) (biQ_ok h9 q19).gl (biQ_ok h9 q19).mg (biQ_ok h9 q29).gl (biQ_ok h9 q29).mg (chE_ok a9 c X9 _ h9 q49).ev q39) rfl
    · cases q9
  | .lr2 a9 b9, c, X9, e, h9, q9 => by
    unfold chE at q9
    split at q9
    · simp only [Bool.and_eq_true, beq_iff_eq] at q9
      obtain ⟨⟨⟨⟨⟨⟨⟨rfl, rfl⟩, q19⟩, q29⟩, q39⟩, q49⟩, q59⟩, q69⟩ := q9
      exact .of (ev_lr2 (h9.calm (biQ_cl q19)) (biQ_ok h9 q19).gl (biQ_ok h9 q19).mg (biQ_ok h9 q29).gl (biQ_ok h9 q29).mg (chE_ok a9 c X9 _ h9 q59).ev (chE_ok b9 c X9 _ h9 q69).ev q39 q49) rfl
    · cases q9
  | .mx mn a9 b9, c, X9, e, h9, q9 => by
    unfold chE at q9
    split at q9
    · simp only [Bool.and_eq_true, beq_iff_eq] at q9
      obtain ⟨⟨⟨⟨⟨rfl, q19⟩, q29⟩, q39⟩, q49⟩, q59⟩ := q9
      exact .of (ev_mx (h9.calm (biQ_cl q19)) (biQ_ok h9 q19).gl (biQ_ok h9 q19).mg (chE_ok a9 c X9 _ h9 q49).ev (chE_ok b9 c X9 _ h9 q59).ev q29 q39) rfl
    · cases q9
  | .dnew t, c, X9, e, h9, q9 => by
    unfold chE at q9
    split at q9
    · exact .of (ev_dnew t) rfl
    · cases q9
  | .dix i l9, c, X9, e, h9, q9 => by
    unfold chE at q9
    split at q9
    · simp only [Bool.and_eq_true] at q9
      obtain ⟨q19, q29⟩ := q9
      exact .of (ev_dix h9.units (visQ_ok h9 q19) (chA_ok l9 c X9 _ true h9 q29)) rfl
    · cases q9
  | .mcnt i a9, c, X9, e, h9, q9 => by
    unfold chE at q9
    split at q9
    · simp only [Bool.and_eq_true, beq_iff_eq] at q9
      obtain ⟨⟨⟨⟨rfl, q19⟩, q29⟩, q39⟩, q49⟩ := q9
      exact .of (ev_ml PySem.F.slot_list_count rfl (mt_cntD h9.units) (visQ_ok h9 q19) (chE_ok a9 c X9 _ h9 q29).ev q39 (beq_iff_eq.mpr q49)) rfl
    · cases q9
  | .midx i a9, c, X9, e, h9, q9 => by
    unfold chE at q9
    split at q9
    · simp only [Bool.and_eq_true, beq_iff_eq] at q9
      obtain ⟨⟨⟨⟨rfl, q19⟩, q29⟩, q39⟩, q49⟩ := q9
      exact .of (ev_ml PySem.F.slot_list_index rfl (mt_idxD h9.units) (visQ_ok h9 q19) (chE_ok a9 c X9 _ h9 q29).ev q39 (beq_iff_eq.mpr q49)) rfl
    · cases q9
  | .isx i m9, c, X9, e, h9, q9 => by
    unfold chE at q9
    split at q9
    · simp only [Bool.and_eq_true, beq_iff_eq, List.any_eq_true] at q9
      obtain ⟨⟨⟨⟨⟨rfl, q19⟩, q29⟩, q39⟩, q49⟩, ⟨y9, m9'⟩, q59, rfl, rfl⟩ := q9
      exact .of (h9.ex i q29 _ _ _ _ _ _ _ (visQ_ok h9 q39) q59 (glQ_ok h9 q49).1 (glQ_ok h9 q49).2 (glQ_ok h9 q19).1) rfl
    · cases q9
  | .dk i a9, c, X9, e, h9, q9 => by
    unfold chE at q9
    split at q9
    · simp only [Bool.and_eq_true] at q9
      obtain ⟨⟨q19, q29⟩, q39⟩ := q9
      exact .of (ev_dk h9.units (visQ_ok h9 q19) (chE_ok a9 c X9 _ h9 q39).ev q29) rfl
    · cases q9
  | .dsort i, c, X9, e, h9, q9 => by
    unfold chE at q9
    split at q9
    · simp only [Bool.and_eq_true, beq_iff_eq] at q9
      obtain ⟨⟨rfl, q19⟩, q29⟩ := q9
      exact .of (ev_dsort (h9.calm (biQ_cl q19)) (biQ_ok h9 q19).gl (biQ_ok h9 q19).mg (visQ_ok h9 q29)) rfl
    · cases q9
  | .callX f9 i, c, X9, e, h9, q9 => by
    unfold chE at q9
    split at q9
    · simp only [Bool.and_eq_true, beq_iff_eq, List.any_eq_true] at q9
      obtain ⟨⟨⟨q19, q29⟩, q39⟩, ⟨x9', f9'⟩, m9, rfl, rfl⟩ := q9
      exact .of (h9.ec i q29 _ _ _ _ _ _ m9 (glQ_ok h9 q19).1 (glQ_ok h9 q19).2 (visQ_ok h9 q39)) rfl
    · cases q9
  | .lcl, c, X9, e, h9, q9 => by
    unfold chE at q9
    split at q9
    · simp only [Bool.and_eq_true, beq_iff_eq] at q9
      exact .of (h9.lc q9.1 _ _ _ q9.2) rfl
    · cases q9
  | .lamc f9 ks9 b9, c, X9, e, h9, q9 => by
    unfold chE at q9
    split at q9
    · simp only [Bool.and_eq_true, List.any_eq_true, beq_iff_eq] at q9
      rename_i x9 p9 ps9 y9 sc9 lp9 pp9
      obtain ⟨⟨⟨⟨⟨⟨q19, q29⟩, q39⟩, ⟨x9', f9'⟩, m9, rfl, rfl⟩, q49⟩, q59⟩, q69⟩ := q9
      have L9 : LamX.LamS X9.env.scope sc9 := by rw [h9.sc]; exact LamX.lamS_by q59
      exact .of (ev_lam (h9.lm q19) (h9.ws _ _ m9) (glQ_ok h9 q39).1 (glQ_ok h9 q39).2 L9 q49 fun A9 outer9 s9 H9 E9 f9 c9 hr9 => (chE_ok b9 _ _ _ (h9.lam L9 A9 outer9 s9 H9 E9 f9 c9 hr9) q69).ev) rfl
    · cases q9
  | .dead, c, X9, e, h9, q9 => .of (fun G9 ft9 ρ9 σ9 H9 stk9 Q9 hs9 hp9 => hp9.elim) (by unfold chE at q9; simp only [Bool.and_eq_true] at q9; exact q9.1)
theorem chO_ok : ∀ (r : IO) (c : CC) (X : Cx) (e : Option Expr), CxOk c S k P X → chO r c e = true → PoOk S X e (boO P r)
  | .none, c, X, e, h, q => by
    have : e = none := by simpa [chO] using q
    subst this
    exact pov_none
  | .some a, c, X, e, h, q => by
    unfold chO at q
    split at q
    · exact pov_some (chE_ok a c X _ h q).ev
    · cases q
theorem chA_ok : ∀ (l : IA) (c : CC) (X : Cx) (es : List Expr) (fz : Bool), CxOk c S k P X → chA l c es = true → AbOk S fz X es (boA P fz l)
  | .nil, c, X, es, fz, h, q => by
    have : es = [] := by simpa [chA] using q
    subst this
    exact ab_nil
  | .cons e l, c, X, [], fz, h, q => by simp [chA] at q
  | .cons e l, c, X, x :: es, fz, h, q => by
    simp only [chA, Bool.and_eq_true] at q
    exact ab_cons (chE_ok e c X x h q.1.2).ev (chA_ok l c X es fz h q.2) q.1.1
theorem chI_ok : ∀ (it : II) (c : CC) (X : Cx) (tg iter : Expr), CxOk c S k P X → chI it c tg iter = true → IvOk S X tg iter (boI P it)
  | .seq a, c, X, tg, e, h, q => by
    unfold chI at q
    exact iv_seq (chE_ok a c X e h q).ev
  | .rng1 a, c, X, tg, e, h, q => by
    unfold chI at q
    split at q
    · simp only [Bool.and_eq_true, beq_iff_eq] at q
      obtain ⟨⟨⟨rfl, q1⟩, q2⟩, q3⟩ := q
      exact iv_rng1 (biQ_ok h q1).gl (biQ_ok h q1).mg (chE_ok a c X _ h q3).ev q2
    · cases q
  | .enum a, c, X, tg, e, h, q => by
    unfold chI at q
    split at q
    · simp only [Bool.and_eq_true, beq_iff_eq] at q
      obtain ⟨⟨⟨⟨qt, rfl⟩, q1⟩, q2⟩, q3⟩ := q
      unfold isTp at qt
      split at qt
      · exact iv_enum (biQ_ok h q1).gl (biQ_ok h q1).mg (chE_ok a c X _ h q3).ev q2
      · cases qt
    · cases q
  | .zip a b, c, X, tg, e, h, q => by
    unfold chI at q
    split at q
    · simp only [Bool.and_eq_true, beq_iff_eq] at q
      obtain ⟨⟨⟨⟨⟨⟨qt, rfl⟩, q1⟩, q2⟩, q3⟩, q4⟩, q5⟩ := q
      unfold isTp at qt
      split at qt
      · exact iv_zip (biQ_ok h q1).gl (biQ_ok h q1).mg (ab_cons (chE_ok a c X _ h q4).ev (ab_cons (chE_ok b c X _ h q5).ev ab_nil q3) q2) q2 q3
      · cases qt
    · cases q
  | .rng2 a b, c, X, tg, e, h, q => by
    unfold chI at q
    split at q
    · simp only [Bool.and_eq_true, beq_iff_eq] at q
      obtain ⟨⟨⟨⟨⟨rfl, q1⟩, q2⟩, q3⟩, q4⟩, q5⟩ := q
      exact iv_rng2 (biQ_ok h q1).gl (biQ_ok h q1).mg (chE_ok a c X _ h q4).ev (chE_ok b c X _ h q5).ev q2 q3
    · cases q
end
end
end DV
namespace DV
open PySem L2

section
variable {env : PySem.Env} {ea eb ec : Expr} {x y z : Str} {px py pz pt p2 : Pos} {kt k2 : Nat} {ts es : List Expr}
theorem bk_fun (hk : env.scope.kind = .function) : env.blockKind = .function := by
  unfold Env.blockKind
  rw [hk]
  rfl
theorem erase2 (h : (x == y) = false) : ([x, y] : List Str).eraseDups = [x, y] := by
  have h' : (y == x) = false := by
    rw [beq_eq_false_iff_ne] at h ⊢
    exact fun q => h q.symm
  simp [List.eraseDups_cons, h, h']
theorem erase3 (h : (x == y) = false) (h2 : (x == z) = false) (h3 : (y == z) = false) : ([x, y, z] : List Str).eraseDups = [x, y, z] := by
  have g1 : (y == x) = false := by
    rw [beq_eq_false_iff_ne] at h ⊢
    exact fun q => h q.symm
  have g2 : (z == x) = false := by
    rw [beq_eq_false_iff_ne] at h2 ⊢
    exact fun q => h2 q.symm
  have g3 : (z == y) = false := by
    rw [beq_eq_false_iff_ne] at h3 ⊢
    exact fun q => h3 q.symm
  simp [List.eraseDups_cons, g1, g2, g3]
theorem sw_two (hk : env.scope.kind = .function) (hx : env.scope.names.lookup x = some .local) (hy : env.scope.names.lookup y = some .local) (hl : (px.line == py.line) = true) (hn : (x == y) = false) (s1 : notStar ea = true) (s2 : notStar eb = true)
    (hf : [ea, eb].all (foldedForSure 8) = false) (hc : [ea, eb].all (constantsAlone 8) = false) : swappedStores [.Tuple [.Name x px, .Name y py] kt pt] (.Tuple [ea, eb] k2 p2) env = pure (some [x, y]) := by
  have kx9 : env.kindOf x = some .local := hx
  have ky9 : env.kindOf y = some .local := hy
  have hb9 := bk_fun hk
  have hl9' : (py.line == px.line) = true := by rw [beq_iff_eq] at hl ⊢; exact hl.symm
  unfold swappedStores
  simp only [hf, hc, hb9, List.filterMap_cons, List.filterMap_nil, kx9, ky9, hl9', Expr.pos, List.head?_cons, Option.map_some, Option.getD_some, beq_self_eq_true, Bool.and_self, if_true, erase2 hn]
  refine (if_neg (by simp)).trans ((if_neg ?_).trans ?_)
  · simp only [List.any_cons, List.any_nil, Bool.or_false, Bool.or_eq_true]
    rintro (q | q)
    · cases ea <;> first | (cases q; done) | (cases s1; done)
    · cases eb <;> first | (cases q; done) | (cases s2; done)
  · rfl
theorem sw_three (hk : env.scope.kind = .function) (hx : env.scope.names.lookup x = some .local) (hy : env.scope.names.lookup y = some .local) (hz : env.scope.names.lookup z = some .local) (hl : (px.line == py.line) = true) (hl2 : (px.line == pz.line) = true)
    (hn : (x == y) = false) (hn2 : (x == z) = false) (hn3 : (y == z) = false) (s1 : notStar ea = true) (s2 : notStar eb = true) (s3 : notStar ec = true)
    (hf : [ea, eb, ec].all (foldedForSure 8) = false) (hc : [ea, eb, ec].all (constantsAlone 8) = false) : swappedStores [.Tuple [.Name x px, .Name y py, .Name z pz] kt pt] (.Tuple [ea, eb, ec] k2 p2) env = pure (some [x, y, z]) := by
  have kx9 : env.kindOf x = some .local := hx
  have ky9 : env.kindOf y = some .local := hy
  have kz9 : env.kindOf z = some .local := hz
  have hb9 := bk_fun hk
  have hl9' : (py.line == px.line) = true := by rw [beq_iff_eq] at hl ⊢; exact hl.symm
  have hl29' : (pz.line == px.line) = true := by rw [beq_iff_eq] at hl2 ⊢; exact hl2.symm
  unfold swappedStores
  simp only [hf, hc, hb9, List.filterMap_cons, List.filterMap_nil, kx9, ky9, kz9, hl9', hl29', Expr.pos, List.head?_cons, Option.map_some, Option.getD_some, beq_self_eq_true, Bool.and_self, if_true, erase3 hn hn2 hn3]
  refine (if_neg (by simp)).trans ((if_neg ?_).trans ?_)
  · simp only [List.any_cons, List.any_nil, Bool.or_false, Bool.or_eq_true]
    rintro (q | q | q)
    · cases ea <;> first | (cases q; done) | (cases s1; done)
    · cases eb <;> first | (cases q; done) | (cases s2; done)
    · cases ec <;> first | (cases q; done) | (cases s3; done)
  · rfl
/-- no stores in another order -/
def plainPar (sc : Scope) (ts es : List Expr) : Bool := !(ts.length == 2 || ts.length == 3) || es.all (foldedForSure 8) || ts.any fun
  | .Name x _ => !(sc.names.lookup x == some .local)
  | _ => true
theorem fm_short {f : Expr → Option Str} {g : Expr → Bool} (h : ∀ t, g t = true → f t = none) : ∀ {l : List Expr}, l.any g = true → (l.filterMap f).length < l.length
  | [], q => by cases q
  | t :: l, q => by
    rw [List.filterMap_cons]
    simp only [List.any_cons, Bool.or_eq_true] at q
    rcases q with q | q
    · rw [h t q]
      exact Nat.lt_succ_of_le (List.length_filterMap_le _ _)
    · have := fm_short h q
      cases f t with
      | none => exact Nat.lt_succ_of_lt this
      | some _ => exact Nat.succ_lt_succ this
theorem sw_none (h : plainPar env.scope ts es = true) : swappedStores [.Tuple ts kt pt] (.Tuple es k2 p2) env = pure none := by
  unfold swappedStores
  unfold plainPar at h
  simp only [Bool.or_eq_true] at h
  show (if _ then pure none else _) = _
  by_cases c1 : (!(ts.length == 2 || ts.length == 3) || es.length != ts.length || env.blockKind != .function) = true
  · rw [if_pos c1]
  · rw [if_neg c1]
    show (if _ then pure none else _) = _
    split
    · rfl
    · show (if _ then pure none else _) = _
      split
      · rfl
      · rename_i q
        show (if _ then pure none else _) = _
        rcases h with (h | h) | h
        · exact absurd (by simp only [h, Bool.true_or]) c1
        · rw [if_pos h]
        · refine absurd ?_ q
          have : (ts.filterMap fun
            | .Name id pos => if env.kindOf id == some .local && pos.line == (ts.head?.map (·.pos.line)).getD 0 then some id else none
            | _ => none).length < ts.length := by
            refine fm_short (fun t ht => ?_) h
            cases t with
            | Name id pos =>
              have ht : (!(env.kindOf id == some .local)) = true := ht
              have ht : (env.kindOf id == some .local) = false := by simpa using ht
              simp only [ht, Bool.false_and]
              rfl
            | _ => rfl
          simp only [Bool.or_eq_true, bne_iff_ne]
          exact .inl (Nat.ne_of_lt this)
end
end DV
namespace DV
open PySem L2

def setQ (c : CC) (i : Nat) (y : Str) (py p : Pos) (l : Nat) (scope : Scope) : Bool := c.cl && c.sc.kind == .function && c.N[i]? == some y && c.sc.names.lookup y == some .local && (py.line == p.line) && !(scope.names.any fun (n, k) => n == y && (k == .local || k == .cell)) && !c.pn.contains i
def par2Q (c : CC) (i j : Nat) (x y : Str) (px py : Pos) (ea eb : Expr) : Bool := c.cl && c.sc.kind == .function && c.N[i]? == some x && c.N[j]? == some y && c.sc.names.lookup x == some .local && c.sc.names.lookup y == some .local && (px.line == py.line) && !(x == y) && !(i == j)
  && !c.pn.contains i && !c.pn.contains j && notStar ea && notStar eb && !([ea, eb].all (foldedForSure 8)) && !([ea, eb].all (constantsAlone 8))
def par3Q (c : CC) (i j l : Nat) (x y z : Str) (px py pz : Pos) (ea eb ec : Expr) : Bool := c.cl && c.sc.kind == .function && c.N[i]? == some x && c.N[j]? == some y && c.N[l]? == some z && c.sc.names.lookup x == some .local && c.sc.names.lookup y == some .local && c.sc.names.lookup z == some .local
  && (px.line == py.line) && (px.line == pz.line) && !(x == y) && !(x == z) && !(y == z) && !(i == j) && !(i == l) && !(j == l) && !c.pn.contains i && !c.pn.contains j && !c.pn.contains l && notStar ea && notStar eb && notStar ec && !([ea, eb, ec].all (foldedForSure 8)) && !([ea, eb, ec].all (constantsAlone 8))
def parQ (c : CC) : IGs → IA → List Expr → List Expr → Bool
  | .cons (.nm i) (.cons (.nm j) .nil), l, [.Name x px, .Name y py], [ea, eb] => par2Q c i j x y px py ea eb && chA l c [ea, eb]
  | .cons (.nm i) (.cons (.nm j) (.cons (.nm k) .nil)), l, [.Name x px, .Name y py, .Name z pz], [ea, eb, ec] => par3Q c i j k x y z px py pz ea eb ec && chA l c [ea, eb, ec]
  | _, _, _, _ => false
def parTQ (c : CC) (g : IGs) (l : IA) (ts es : List Expr) : Bool := c.cl && plainPar c.sc ts es && chGs c g ts && chA l c es && g.len == l.len && decide (g.len ≤ 1000) && g.ks.all (!c.pn.contains ·)
mutual
def chS : IS → CC → Stmt → Bool
  | .pass, c, s => match s with
    | .Pass _ => true
    | _ => false
  | .brk, c, s => match s with
    | .Break _ => true
    | _ => false
  | .cnt, c, s => match s with
    | .Continue _ => true
    | _ => false
  | .ex e, c, s => match s with
    | .Expr x _ => notComp x && chE e c x
    | _ => false
  | .rt e, c, s => match s with
    | .Return (some x) _ => chE e c x
    | _ => false
  | .rtN, c, s => match s with
    | .Return none _ => true
    | _ => false
  | .ife t a b, c, s => match s with
    | .If z x y _ => chE t c z && chSs a c x && chSs b c y
    | _ => false
  | .asg (.nm i) e, c, s => match s with
    | .Assign [.Name y py] x p => if notComp x then locQ c i y && !c.pn.contains i && chE e c x else (match x with
      | .ListComp _ _ scope p2 => setQ c i y py p2 p.line scope && chE e c x
      | _ => false)
    | _ => false
  | .asg (.tp l) e, c, s => match s with
    | .Assign [t] x p => notComp x && notTup x && notStar t && chG c (.tp l) t && l.ks.all (!c.pn.contains ·) && chE e c x
    | _ => false
  | .par g l, c, s => match s with
    | .Assign [.Tuple ts _ _] (.Tuple es _ _) _ => parQ c g l ts es || parTQ c g l ts es
    | _ => false
  | .whl n t b, c, s => match s with
    | .While z x [] _ => c.cl && chE t c z && chSs b c x
    | _ => false
  | .for it g b, c, s => match s with
    | .For t i x [] _ => c.cl && notSet i && chI it c t i && chG c g t && g.ks.all (!c.pn.contains ·) && chSs b c x
    | _ => false
  | .sto i a e, c, s => match s with
    | .Assign [.Subscript (.Name x _) y _] z _ => visQ c i x && notSl y && chE a c y && chE e c z
    | _ => false
  | .aug o i a e, c, s => match s with
    | .AugAssign (.Subscript (.Name x _) y _) o' z _ => o' == o.op && visQ c i x && notSl y && chE a c y && chE e c z
    | _ => false
  | .augN o i e, c, s => match s with
    | .AugAssign (.Name x _) o' z _ => o' == o.op && locQ c i x && !c.pn.contains i && chE e c z
    | _ => false
  | .dput i l e, c, s => match s with
    | .Assign [.Subscript (.Name x _) (.Tuple es _ _) _] z _ => visQ c i x && chA l c es && chE e c z
    | _ => false
  | .dkput i a e, c, s => match s with
    | .Assign [.Subscript (.Name x _) y _] z _ => visQ c i x && notSl y && chE a c y && chE e c z
    | _ => false
  | .rz n, c, s => match s with
    | .Raise (some (.Call (.Name x _) [] [] _)) none _ => c.cl && glQ c x && c.rs.any fun p => p.2 == n && p.1 == x
    | _ => false
  | .sto2 i a m e, c, s => match s with
    | .Assign [.Subscript (.Subscript (.Name x _) y _) z _] w _ => visQ c i x && notSl y && notSl z && chE a c y && smQ c m z && chE e c w
    | _ => false
  | .tryE b n i h, c, s => match s with
    | .Try x [.ExceptHandler (some (.Name y _)) (some nm) (b0 :: w) _] [] [] _ => c.tr && glQ c y && (c.cls.any fun p => p.2 == n && p.1 == y) && c.N[i]? == some nm && c.sc.names.lookup nm == some .local && !c.pn.contains i && chSs b { c with lc := c.lw, lw := false, ex := none } x && chSs h (hdC c i) (b0 :: w)
    | _ => false
  | .dead, c, s => true
def chSs : ISs → CC → List Stmt → Bool
  | .nil, c, l => l.isEmpty
  | .cons s r, c, l => match l with
    | x :: l => chS s c x && chSs r c l
    | [] => false
end
section
variable {c : CC} {S : Sg} {k : Nat} {P : Pr} {X : Cx}
theorem pn_of (h : CxOk c S k P X) {ks : List Nat} (q : (ks.all (!c.pn.contains ·)) = true) : ∀ i ∈ S.pn, i ∉ ks := fun i hi hk => by
  rw [h.pn] at hi
  have := List.all_eq_true.mp q i hk
  simp only [Bool.not_eq_true', List.contains_eq_mem, decide_eq_false_iff_not] at this
  exact this hi
theorem pn_one (h : CxOk c S k P X) {i : Nat} (q : c.pn.contains i = false) : i ∉ S.pn := fun hi => by
  rw [h.pn] at hi
  simp only [List.contains_eq_mem, decide_eq_false_iff_not] at q
  exact q hi
theorem asg_set (h : CxOk c S k P X) (e : IE) {i : Nat} {y : Str} {py p p2 : Pos} {elt : Expr} {gs : List Comprehension} {scope : Scope} (q : setQ c i y py p2 p.line scope = true) (q2 : chE e c (.ListComp elt gs scope p2) = true) : SvOk S X (.Assign [.Name y py] (.ListComp elt gs scope p2) p) (svAsg (gvN i) (bo P e).1) := by
  unfold setQ at q
  (simp only [Bool.and_eq_true, beq_iff_eq, Bool.not_eq_true'] at q)
  obtain ⟨⟨⟨⟨⟨⟨qc9, q19⟩, q39⟩, q49⟩, q59⟩, q69⟩, q79⟩ := q
  have sw9 : swapsWith (.ListComp elt gs scope p2) (some (.Name y py)) p.line X.env = pure true := sw_true (by rw [h.sc]; exact q19) (by rw [h.sc]; exact q49) (beq_iff_eq.mpr q59) q69
  have hN9 : X.N.Nodup := by rw [h.N]; exact h.nd
  have hy9 : X.N[i]? = some y := by rw [h.N]; exact q39
  have hyl9 : X.env.scope.names.lookup y = some .local := by rw [h.sc]; exact q49
  cases e with
  | comp vs it g a =>
    unfold chE at q2
    split at q2
    · rename_i _ x0 t0 i0 sc0 p0 ee
      cases ee
      simp only [Bool.and_eq_true] at q2
      obtain ⟨⟨⟨⟨⟨⟨⟨⟨zc9, z19⟩, z29⟩, z39⟩, z49⟩, z59⟩, z69⟩, z79⟩, z89⟩ := q2
      have ho9 := ownOf_map z29
      have hb09 := blkOk_by z19
      have hb9 : BlkOk X.N X.env.scope scope (ownOf c.N vs) := by rw [h.N, h.sc]; exact hb09
      have w9 := sv_setLc (S := S) (X := X) (t := tvYes) (h.calm zc9) hN9 hy9 hyl9 (pn_one h q79) sw9 hb9 (ks := g.ks) (by rw [ho9]; simpa using z39) (by rw [ho9, h.pn]; simpa using z49) (chI_ok it c X _ _ h z69)
        (fun s9 H9 C9 cl9 fp9 => chG_ok (h.blk s9 H9 scope cl9 C9 fp9) g _ z79) (fun s9 H9 C9 cl9 fp9 => ptsv_nil) (fun s9 H9 C9 cl9 fp9 => (chE_ok a _ _ _ (h.blk s9 H9 scope cl9 C9 fp9) z89).ev) (notSet_fold z59)
      rw [ho9] at w9
      exact w9
    · cases q2
  | compIf vs it g z a =>
    unfold chE at q2
    split at q2
    · rename_i _ x0 t0 i0 y0 sc0 p0 ee
      cases ee
      simp only [Bool.and_eq_true] at q2
      obtain ⟨⟨⟨⟨⟨⟨⟨⟨⟨zc9, z19⟩, z29⟩, z39⟩, z49⟩, z59⟩, z69⟩, z79⟩, z99⟩, z89⟩ := q2
      have ho9 := ownOf_map z29
      have hb09 := blkOk_by z19
      have hb9 : BlkOk X.N X.env.scope scope (ownOf c.N vs) := by rw [h.N, h.sc]; exact hb09
      have w9 := sv_setLc (S := S) (X := X) (t := (bo P z).2) (h.calm zc9) hN9 hy9 hyl9 (pn_one h q79) sw9 hb9 (ks := g.ks) (by rw [ho9]; simpa using z39) (by rw [ho9, h.pn]; simpa using z49) (chI_ok it c X _ _ h z69)
        (fun s9 H9 C9 cl9 fp9 => chG_ok (h.blk s9 H9 scope cl9 C9 fp9) g _ z79) (fun s9 H9 C9 cl9 fp9 => ptsv_one (chE_ok z _ _ _ (h.blk s9 H9 scope cl9 C9 fp9) z99).tv) (fun s9 H9 C9 cl9 fp9 => (chE_ok a _ _ _ (h.blk s9 H9 scope cl9 C9 fp9) z89).ev) (notSet_fold z59)
      rw [ho9] at w9
      exact w9
    · cases q2
  | con d => cases d <;> cases q2
  | u1 o a => cases o <;> cases q2
  | dead => simp [chE, notComp] at q2
  | _ => cases q2
theorem par_two (h : CxOk c S k P X) {i j : Nat} {l : IA} {x y : Str} {px py pt p2 pos : Pos} {ea eb : Expr} {kt k2 : Nat} (q : par2Q c i j x y px py ea eb = true) (q2 : chA l c [ea, eb] = true) :
    SvOk S X (.Assign [.Tuple [.Name x px, .Name y py] kt pt] (.Tuple [ea, eb] k2 p2) pos) (svPar (gvsCons (gvN i) (gvsCons (gvN j) gvsNil)) (boA P false l)) := by
  unfold par2Q at q
  (simp only [Bool.and_eq_true, beq_iff_eq, Bool.not_eq_true'] at q)
  obtain ⟨⟨⟨⟨⟨⟨⟨⟨⟨⟨⟨⟨⟨⟨qc9, a19⟩, a29⟩, a39⟩, a49⟩, a59⟩, a69⟩, a79⟩, a89⟩, a99⟩, b19⟩, b29⟩, b39⟩, b49⟩, b59⟩ := q
  have hx9 : X.env.scope.names.lookup x = some .local := by rw [h.sc]; exact a49
  have hy9 : X.env.scope.names.lookup y = some .local := by rw [h.sc]; exact a59
  exact sv_par2 (h.calm qc9) (by rw [h.N]; exact h.nd) (by rw [h.N]; exact a29) (by rw [h.N]; exact a39) (by simpa using a89) hx9 hy9 (chA_ok l c X _ false h q2) (pn_one h a99) (pn_one h b19)
    (sw_two (by rw [h.sc]; exact a19) hx9 hy9 (beq_iff_eq.mpr a69) a79 b29 b39 b49 b59)
theorem par_three (h : CxOk c S k P X) {i j n : Nat} {l : IA} {x y z : Str} {px py pz pt p2 pos : Pos} {ea eb ec : Expr} {kt k2 : Nat} (q : par3Q c i j n x y z px py pz ea eb ec = true) (q2 : chA l c [ea, eb, ec] = true) :
    SvOk S X (.Assign [.Tuple [.Name x px, .Name y py, .Name z pz] kt pt] (.Tuple [ea, eb, ec] k2 p2) pos) (svPar (gvsCons (gvN i) (gvsCons (gvN j) (gvsCons (gvN n) gvsNil))) (boA P false l)) := by
  unfold par3Q at q
  (simp only [Bool.and_eq_true, beq_iff_eq, Bool.not_eq_true'] at q)
  obtain ⟨⟨⟨⟨⟨⟨⟨⟨⟨⟨⟨⟨⟨⟨⟨⟨⟨⟨⟨⟨⟨⟨⟨qc9, a19⟩, a29⟩, a39⟩, a49⟩, a59⟩, a69⟩, a79⟩, a89⟩, a99⟩, d19⟩, d29⟩, d39⟩, d49⟩, d59⟩, d69⟩, d79⟩, d89⟩, d99⟩, b19⟩, b29⟩, b39⟩, b49⟩, b59⟩ := q
  have hx9 : X.env.scope.names.lookup x = some .local := by rw [h.sc]; exact a59
  have hy9 : X.env.scope.names.lookup y = some .local := by rw [h.sc]; exact a69
  have hz9 : X.env.scope.names.lookup z = some .local := by rw [h.sc]; exact a79
  exact sv_par3 (h.calm qc9) (by rw [h.N]; exact h.nd) (by rw [h.N]; exact a29) (by rw [h.N]; exact a39) (by rw [h.N]; exact a49) (by simpa using d49) (by simpa using d59) (by simpa using d69) hx9 hy9 hz9 (chA_ok l c X _ false h q2) (pn_one h d79) (pn_one h d89) (pn_one h d99)
    (sw_three (by rw [h.sc]; exact a19) hx9 hy9 hz9 (beq_iff_eq.mpr a89) (beq_iff_eq.mpr a99) d19 d29 d39 b19 b29 b39 b49 b59)
theorem par_T (h : CxOk c S k P X) {g : IGs} {l : IA} {ts es : List Expr} {kt k2 : Nat} {pt p2 pos : Pos} (q : parTQ c g l ts es = true) : SvOk S X (.Assign [.Tuple ts kt pt] (.Tuple es k2 p2) pos) (svPar (gvs g) (boA P false l)) := by
  unfold parTQ at q
  simp only [Bool.and_eq_true, beq_iff_eq, decide_eq_true_eq] at q
  obtain ⟨⟨⟨⟨⟨⟨qc, q1⟩, q2⟩, q3⟩, q4⟩, q5⟩, q6⟩ := q
  obtain ⟨a, b⟩ := chGs_star q2
  obtain ⟨a1, a2⟩ := asg_len (env := X.env) a
  refine sv_parT (h.calm qc) (chGs_ok h g ts q2) (n := g.len) (by rw [a1, b]) a2 (pn_of h q6) (chA_ok l c X es false h q3) (by rw [(chA_star q3).2]; omega) (fun ρ z e => by rw [boA_len e, q4]) rfl (sw_none (by rw [h.sc]; exact q1)) rfl ?_
  have := sizeLine_eq
  omega
theorem CxOk.try (h : CxOk c S k P X) (pn : List (Addr × Obj)) (xe : Value → Shared → Prop) : CxOk { c with lc := c.lw, lw := false, ex := none } S k P (X.tr pn xe) where
  N := h.N
  sc := h.sc
  nd := h.nd
  calm := h.calm
  room := h.room
  un := h.un
  pn := h.pn
  fn := h.fn
  fs := fun x f io m => ⟨⟨(h.fs x f io m).1.ex⟩, (h.fs x f io m).2⟩
  gs := h.gs
  bi := h.bi
  cf := h.cf
  rs := fun x n m => by
    obtain ⟨C, a, b⟩ := h.rs x n m
    exact ⟨C, ⟨a.g, a.k, a.e, a.b, a.t⟩, b⟩
  ws := fun x f m => ⟨(h.ws x f m).ex⟩
  xs := fun x f m => ⟨(h.xs x f m).ex⟩
  xr := h.xr
  lm := fun z => ⟨(h.lm z).ex, (h.lm z).room, (h.lm z).lam⟩
  lc := fun z x p1 p2 e => h.lw z pn xe x p1 p2 e
  lw := fun z => absurd (show false = true from z) (by simp)
  st := h.st
  ec := fun i z => absurd (show none = some i from z) (by simp)
  ex := fun i z => absurd (show none = some i from z) (by simp)
theorem CxOk.held (h : CxOk c S k P X) {i n : Nat} {a C : Addr} {oe : Obj} {pn : List (Addr × Obj)} (hn : n ∈ P.ids) (hT : S.T n = some C) (hz : Zc (.ref C) none oe) (hv : ∃ vs, oe.data = .fields vs) : CxOk (hdC c i) (SgX S i a) k { P with xc := some n } (X.suite a ((a, oe) :: pn)) where
  N := h.N
  sc := h.sc
  nd := h.nd
  calm := fun z => absurd (show false = true from z) (by simp)
  room := fun z => absurd (show false = true from z) (by simp)
  un := h.un
  pn := by show i :: S.pn = i :: c.pn; rw [h.pn]
  fn := h.fn
  fs := fun x f io m => ⟨⟨(h.fs x f io m).1.ex⟩, (h.fs x f io m).2⟩
  gs := h.gs
  bi := h.bi
  cf := h.cf
  rs := fun x n m => absurd (show (x, n) ∈ ([] : List (Str × Nat)) from m) (by simp)
  ws := fun x f m => absurd (show (x, f) ∈ ([] : List (Str × Nat)) from m) (by simp)
  xs := fun x f m => ⟨(h.xs x f m).ex⟩
  xr := fun x f m => h.xr x f m
  lm := fun z => absurd (show false = true from z) (by simp)
  lc := fun z => absurd (show false = true from z) (by simp)
  lw := fun z => absurd (show false = true from z) (by simp)
  st := fun z => absurd (show false = true from z) (by simp)
  ec := fun j z x f y p p1 pos m hg hd hx => by
    cases z
    exact ev_callX (S := SgX S i a) (X := X.suite a ((a, oe) :: pn)) (by show (a, oe) ∈ (a, oe) :: pn; simp) (fun C q => q) hn hT hz hv ⟨(h.xs x f m).ex⟩ (h.xr x f m) hg hd hx
  ex := fun j z x y m p p1 p2 pos hx hy hg hd hi => by
    cases z
    exact ev_isx h.cf hn hT hz hv hi (h.bi _ (by decide)) hx hy hg hd
mutual
theorem chS_ok : ∀ (r : IS) (c : CC) (S : Sg) (P : Pr) (X : Cx) (ow : c.cl = true → PassesOwn (model X.prog X.w) X.A X.env X.xe) (h : CxOk c S k P X) (s : Stmt), chS r c s = true → SvOk S X s (sx P r)
  | .pass, c, S, P, X, ow, h, s, q => by
    unfold chS at q
    split at q
    · exact sv_pass
    · cases q
  | .brk, c, S, P, X, ow, h, s, q => by
    unfold chS at q
    split at q
    · exact sv_brk
    · cases q
  | .cnt, c, S, P, X, ow, h, s, q => by
    unfold chS at q
    split at q
    · exact sv_cnt
    · cases q
  | .ex e, c, S, P, X, ow, h, s, q => by
    unfold chS at q
    split at q
    · simp only [Bool.and_eq_true] at q
      exact sv_ex (chE_ok e c X _ h q.2).ev (notComp_sw q.1)
    · cases q
  | .rt e, c, S, P, X, ow, h, s, q => by
    unfold chS at q
    split at q
    · exact sv_rt (chE_ok e c X _ h q).ev
    · cases q
  | .rtN, c, S, P, X, ow, h, s, q => by
    unfold chS at q
    split at q
    · exact sv_rtN
    · cases q
  | .ife t a b, c, S, P, X, ow, h, s, q => by
    unfold chS at q
    split at q
    · simp only [Bool.and_eq_true] at q
      exact sv_if (chE_ok t c X _ h q.1.1).tv (chSs_ok a c S P X ow h _ q.1.2) (chSs_ok b c S P X ow h _ q.2)
    · cases q
  | .asg (.nm i) e, c, S, P, X, ow, h, s, q => by
    unfold chS at q
    split at q
    · rename_i y py x p
      by_cases z : notComp x = true
      · rw [if_pos z] at q
        simp only [Bool.and_eq_true, Bool.not_eq_true'] at q
        obtain ⟨⟨q1, q2⟩, q3⟩ := q
        obtain ⟨a, b, d, f⟩ := locQ_ok h q1
        exact sv_name a b d f (chE_ok e c X _ h q3).ev (pn_one h q2) (notComp_sw z)
      · rw [if_neg z] at q
        split at q
        · simp only [Bool.and_eq_true] at q
          exact asg_set h e q.1 q.2
        · cases q
    · cases q
  | .asg (.tp l) e, c, S, P, X, ow, h, s, q => by
    unfold chS at q
    split at q
    · rename_i t x p
      simp only [Bool.and_eq_true] at q
      obtain ⟨⟨⟨⟨⟨q1, q2⟩, q3⟩, q4⟩, q5⟩, q6⟩ := q
      refine sv_asg (chG_ok h (.tp l) t q4) (chE_ok e c X _ h q6).ev (pn_of h q5) (notComp_sw q1) ?_ (by rw [notStar_asg q3]; rfl)
      unfold swappedStores
      cases x with
      | Tuple => cases q2
      | _ => cases t <;> rfl
    · cases q
  | .par g l, c, S, P, X, ow, h, s, q => by
    unfold chS at q
    split at q
    · simp only [Bool.or_eq_true] at q
      rcases q with q | q
      · unfold parQ at q
        split at q
        · simp only [Bool.and_eq_true] at q
          exact par_two h q.1 q.2
        · simp only [Bool.and_eq_true] at q
          exact par_three h q.1 q.2
        · cases q
      · exact par_T h q
    · cases q
  | .whl n t b, c, S, P, X, ow, h, s, q => by
    unfold chS at q
    split at q
    · simp only [Bool.and_eq_true] at q
      exact sv_while (ow q.1.1) (chE_ok t c X _ h q.1.2).tv (chSs_ok b c S P X ow h _ q.2)
    · cases q
  | .for it g b, c, S, P, X, ow, h, s, q => by
    unfold chS at q
    split at q
    · simp only [Bool.and_eq_true] at q
      obtain ⟨⟨⟨⟨⟨qc, q1⟩, q2⟩, q3⟩, q4⟩, q5⟩ := q
      exact sv_for (ow qc) (h.calm qc) (chI_ok it c X _ _ h q2) (chG_ok h g _ q3) (pn_of h q4) (chSs_ok b c S P X ow h _ q5) (notSet_fold q1)
    · cases q
  | .sto i a e, c, S, P, X, ow, h, s, q => by
    unfold chS at q
    split at q
    · simp only [Bool.and_eq_true] at q
      obtain ⟨⟨⟨q1, q2⟩, q3⟩, q4⟩ := q
      exact sv_sto (visQ_ok h q1) (chE_ok a c X _ h q3).ev (chE_ok e c X _ h q4).ev q2
    · cases q
  | .aug o i a e, c, S, P, X, ow, h, s, q => by
    unfold chS at q
    split at q
    · simp only [Bool.and_eq_true, beq_iff_eq] at q
      obtain ⟨⟨⟨⟨rfl, q1⟩, q2⟩, q3⟩, q4⟩ := q
      exact sv_aug (visQ_ok h q1) (chE_ok a c X _ h q3).ev (chE_ok e c X _ h q4).ev q2
    · cases q
  | .augN o i e, c, S, P, X, ow, h, s, q => by
    unfold chS at q
    split at q
    · simp only [Bool.and_eq_true, beq_iff_eq, Bool.not_eq_true'] at q
      obtain ⟨⟨⟨rfl, q1⟩, q2⟩, q3⟩ := q
      obtain ⟨a, b, d, f⟩ := locQ_ok h q1
      exact sv_augN (p2 := ⟨0, 0, 0, 0⟩) a b d f (pn_one h q2) (chE_ok e c X _ h q3).ev
    · cases q
  | .dput i l e, c, S, P, X, ow, h, s, q => by
    unfold chS at q
    split at q
    · simp only [Bool.and_eq_true] at q
      obtain ⟨⟨q1, q2⟩, q3⟩ := q
      exact sv_dput h.units (visQ_ok h q1) (chA_ok l c X _ true h q2) (chE_ok e c X _ h q3).ev
    · cases q
  | .dkput i a e, c, S, P, X, ow, h, s, q => by
    unfold chS at q
    split at q
    · simp only [Bool.and_eq_true] at q
      obtain ⟨⟨⟨q1, q2⟩, q3⟩, q4⟩ := q
      exact sv_dk h.units (visQ_ok h q1) (chE_ok a c X _ h q3).ev (chE_ok e c X _ h q4).ev q2
    · cases q
  | .rz n, c, S, P, X, ow, h, s, q => by
    unfold chS at q
    split at q
    · simp only [Bool.and_eq_true, List.any_eq_true, beq_iff_eq] at q
      obtain ⟨⟨qc, q1⟩, ⟨x', n'⟩, m, rfl, rfl⟩ := q
      obtain ⟨C, hC, hT, hf⟩ := h.rs _ _ m
      exact sv_rz (h.calm qc) hC hT hf (glQ_ok h q1).1 (glQ_ok h q1).2
    · cases q
  | .sto2 i a m e, c, S, P, X, ow, h, s, q => by
    unfold chS at q
    split at q
    · simp only [Bool.and_eq_true] at q
      obtain ⟨⟨⟨⟨⟨q1, q2⟩, q3⟩, q4⟩, q5⟩, q6⟩ := q
      exact sv_sto2 (visQ_ok h q1) (chE_ok a c X _ h q4).ev (smQ_ok h q5) (chE_ok e c X _ h q6).ev q2 q3
    · cases q
  | .tryE b n i hd, c, S, P, X, ow, h, s, q => by
    unfold chS at q
    split at q
    · simp only [Bool.and_eq_true, List.any_eq_true, beq_iff_eq, Bool.not_eq_true'] at q
      obtain ⟨⟨⟨⟨⟨⟨⟨q1, q2⟩, ⟨y', n'⟩, m, rfl, rfl⟩, q3⟩, q4⟩, q5⟩, q6⟩, q7⟩ := q
      refine sv_try h.cf (h.st q1) (by rw [h.N]; exact h.nd) (by rw [h.N]; exact q3) (by show X.env.scope.names.lookup _ = _; rw [h.sc]; exact q4) (pn_one h q5) (glQ_ok h q2).1 (glQ_ok h q2).2 m (fun pn xe po => chSs_ok b { c with lc := c.lw, lw := false, ex := none } S P (X.tr pn xe) (fun _ => po) (h.try pn xe) _ q6)
        fun a oe pn n C hn hT hz hv => chSs_ok hd (hdC c i) (SgX S i a) { P with xc := some n } (X.suite a ((a, oe) :: pn)) (fun z => absurd (show false = true from z) (by simp)) (h.held hn hT hz hv) _ q7
    · cases q
  | .dead, c, S, P, X, ow, h, s, q => fun G ft ρ σ H stk Dn hs hp => hp.elim
theorem chSs_ok : ∀ (r : ISs) (c : CC) (S : Sg) (P : Pr) (X : Cx) (ow : c.cl = true → PassesOwn (model X.prog X.w) X.A X.env X.xe) (h : CxOk c S k P X) (l : List Stmt), chSs r c l = true → SvsOk S X l (sxs P r)
  | .nil, c, S, P, X, ow, h, l, q => by
    have : l = [] := by simpa [chSs] using q
    subst this
    exact svs_nil
  | .cons s r, c, S, P, X, ow, h, [], q => by simp [chSs] at q
  | .cons s r, c, S, P, X, ow, h, x :: l, q => by
    simp only [chSs, Bool.and_eq_true] at q
    exact svs_cons (chS_ok s c S P X ow h x q.1) (chSs_ok r c S P X ow h l q.2)
end
end
end DV
namespace DV
open PySem L2

/-! ### a whole program -/
structure Fd where
  nm : Str
  st : Stmt
  ps : List Str
  N : List Str
  io : Bool
  lam : Bool
  tb : Bool
  exd : Bool
  ir : ISs
structure Lw where
  fds : List Fd
  gs : List (Str × D)
  cls : List (Str × Nat)
  rs : List (Str × Nat)
  ids : List Nat
  sub : Nat → Nat → Bool
def wsGo : List Fd → Nat → List (Str × Nat)
  | [], _ => []
  | f :: l, i => if f.lam then (f.nm, i) :: wsGo l (i + 1) else wsGo l (i + 1)
theorem wsGo_mem : ∀ {l : List Fd} {i : Nat} {x : Str} {f : Nat}, (x, f) ∈ wsGo l i → ∃ j9 d9, f = i + j9 ∧ l[j9]? = some d9 ∧ d9.nm = x ∧ d9.lam = true
  | [], _, _, _, h9 => by cases h9
  | a :: l, i, x, f, h9 => by
    unfold wsGo at h9
    have tl9 : (x, f) ∈ wsGo l (i + 1) → ∃ j9 d9, f = i + j9 ∧ (a :: l)[j9]? = some d9 ∧ d9.nm = x ∧ d9.lam = true := fun h9 => by
      obtain ⟨j9, d9, rfl, e9, r9⟩ := wsGo_mem h9
      exact ⟨j9 + 1, d9, by omega, e9, r9⟩
    by_cases z9 : a.lam = true
    · rw [if_pos z9] at h9
      rcases List.mem_cons.mp h9 with h9 | h9
      · cases h9
        exact ⟨0, a, rfl, rfl, rfl, z9⟩
      · exact tl9 h9
    · rw [if_neg z9] at h9
      exact tl9 h9
def xsGo : List Fd → Nat → List (Str × Nat)
  | [], _ => []
  | f :: l, i => if f.exd then (f.nm, i) :: xsGo l (i + 1) else xsGo l (i + 1)
theorem xsGo_mem : ∀ {l : List Fd} {i : Nat} {x : Str} {f : Nat}, (x, f) ∈ xsGo l i → ∃ j9 d9, f = i + j9 ∧ l[j9]? = some d9 ∧ d9.nm = x ∧ d9.exd = true
  | [], _, _, _, h9 => by cases h9
  | a :: l, i, x, f, h9 => by
    unfold xsGo at h9
    have tl9 : (x, f) ∈ xsGo l (i + 1) → ∃ j9 d9, f = i + j9 ∧ (a :: l)[j9]? = some d9 ∧ d9.nm = x ∧ d9.exd = true := fun h9 => by
      obtain ⟨j9, d9, rfl, e9, r9⟩ := xsGo_mem h9
      exact ⟨j9 + 1, d9, by omega, e9, r9⟩
    by_cases z9 : a.exd = true
    · rw [if_pos z9] at h9
      rcases List.mem_cons.mp h9 with h9 | h9
      · cases h9
        exact ⟨0, a, rfl, rfl, rfl, z9⟩
      · exact tl9 h9
    · rw [if_neg z9] at h9
      exact tl9 h9
def fsGo : List Fd → Nat → List (Str × Nat × Bool)
  | [], _ => []
  | f :: l, i => (f.nm, i, f.io) :: fsGo l (i + 1)
def gsGo : List (Str × D) → Nat → List (Str × Nat)
  | [], _ => []
  | f :: l, i => (f.1, i) :: gsGo l (i + 1)
theorem fsGo_mem : ∀ {l : List Fd} {i : Nat} {x : Str} {f : Nat} {io : Bool}, (x, f, io) ∈ fsGo l i → ∃ j9 d9, f = i + j9 ∧ l[j9]? = some d9 ∧ d9.nm = x ∧ d9.io = io
  | [], _, _, _, _, h9 => by cases h9
  | a :: l, i, x, f, io, h9 => by
    rcases List.mem_cons.mp h9 with h9 | h9
    · cases h9
      exact ⟨0, a, rfl, rfl, rfl, rfl⟩
    · obtain ⟨j9, d9, rfl, e9, r9⟩ := fsGo_mem h9
      exact ⟨j9 + 1, d9, by omega, e9, r9⟩
theorem gsGo_mem : ∀ {l : List (Str × D)} {i : Nat} {x : Str} {f : Nat}, (x, f) ∈ gsGo l i → ∃ j9 d9, f = i + j9 ∧ l[j9]? = some (x, d9)
  | [], _, _, _, h9 => by cases h9
  | a :: l, i, x, f, h9 => by
    rcases List.mem_cons.mp h9 with h9 | h9
    · cases h9
      exact ⟨0, a.2, rfl, rfl⟩
    · obtain ⟨j9, d9, rfl, e9⟩ := gsGo_mem h9
      exact ⟨j9 + 1, d9, by omega, e9⟩
def Lw.cs (L : Lw) (n : Nat) : D := match L.gs[n]? with
  | some p => p.2
  | none => .non
def ccOf (L : Lw) (f : Fd) : CC := ⟨f.N, defScope f.st, (defScope f.st).names, if f.io || f.lam then [0] else [], fsGo L.fds 0, gsGo L.gs 0, true, L.cls, L.rs, if f.lam then [] else wsGo L.fds 0, xsGo L.fds 0, false, f.lam, none, f.tb && !f.lam, true⟩
def ccX (L : Lw) (f : Fd) : CC := ⟨f.N, defScope f.st, (defScope f.st).names, [0], [], [], false, L.cls, [], [], [], false, false, some 0, false, false⟩
def oneQ (f : Fd) : Bool := !f.io && decide (f.ps.length = 1) && f.ps.all fun x => !(x == ("__debug__" : Str)) && !(x == ("__classdict__" : Str))
def scQ (N ps : List Str) (sc : Scope) : Bool := decide (sc.kind = .function) && decide (sc.isCoroutine = false) && decide (sc.isGenerator = false) && decide N.Nodup && decide (N.take ps.length = ps)
  && ps.all (fun x => sc.names.lookup x == some .local || sc.names.lookup x == some .cell) && sc.names.all fun y => !(y.2 == .free)
theorem scQ_ok {N ps : List Str} {sc : Scope} (h : scQ N ps sc = true) : FnScope N ps sc := by
  unfold scQ at h
  simp only [Bool.and_eq_true, decide_eq_true_eq, List.all_eq_true, Bool.or_eq_true, beq_iff_eq, Bool.not_eq_true', beq_eq_false_iff_ne] at h
  obtain ⟨⟨⟨⟨⟨⟨a, b⟩, c⟩, d⟩, e⟩, f⟩, g⟩ := h
  exact ⟨a, b, c, d, e, f, g⟩
def Fd.ok (L : Lw) (f : Fd) : Bool := scQ f.N f.ps (defScope f.st) && (!f.io || decide (0 < f.ps.length)) && (!f.lam || oneQ f) && (!f.exd || (!f.lam && oneQ f)) && chSs f.ir (if f.exd then ccX L f else ccOf L f) (defBody f.st)
/-- a def that is handed an error of class n -/
def xdF (L : Lw) (f n : Nat) : FR := match L.fds[f]? with
  | some d => if d.exd then (match sxs ⟨fun _ _ => .no, L.cs, L.sub, L.ids, fun _ _ => .no, fun _ _ => .no, .no, some n⟩ d.ir (List.replicate d.N.length none) with
    | .nx _ => .ok .non []
    | .rt d _ => .ok d []
    | _ => .no) else .no
  | none => .no
/-- a def that takes a lambda, from the lambda's end -/
def wdF (F : Fns) (L : Lw) (f : Nat) (lo : FR) : FR := match L.fds[f]? with
  | some d => if d.lam then (match sxs ⟨F, L.cs, L.sub, L.ids, fun _ _ => .no, xdF L, lo, none⟩ d.ir (List.replicate d.N.length none) with
    | .nx _ => .ok .non []
    | .rt d _ => .ok d []
    | _ => .no) else .no
  | none => .no
def prL (L : Lw) (F : Fns) : Pr := ⟨F, L.cs, L.sub, L.ids, wdF F L, xdF L, .no, none⟩
def run (L : Lw) : Nat → Fns
  | 0 => fun _ _ => .no
  | k + 1 => fun f => match L.fds[f]? with
    | some d => if d.lam || d.exd then fun _ => .no else fnF d.ps.length d.N.length d.io (sxs (prL L (run L k)) d.ir)
    | none => fun _ => .no
/-- where a def of the text stands -/
structure At (K : PySem.W.Frag) (mg : Str → Option Value) (T : Nat → Option Addr) (i : Nat) (d : Fd) : Prop where
  ex : ∃ (f : Addr) (fd : FuncData), T i = some f ∧ mg d.nm = some (.ref f) ∧ Fun K d.nm d.nm d.st f fd ∧ (∀ us : List Value, us.length = d.ps.length → bindArgs fd ⟨us, []⟩ = pure (d.ps.zip us)) ∧ ∀ c P, PySem.W.tabIn K d.nm = some (c, P) → fd.code = .ref c
structure Top (L : Lw) (K : PySem.W.Frag) (mg : Str → Option Value) (T : Nat → Option Addr) (xf : XF) : Prop where
  fns : ∀ (i : Nat) (d : Fd), L.fds[i]? = some d → At K mg T i d
  gs : ∀ (n : Nat) (x : Str) (d : D), L.gs[n]? = some (x, d) → ∃ v u, mg x = some u ∧ RelV v u ∧ ∀ H B, Rep K T H B d v []
  bi : ∀ x ∈ biNames, mg x = none
  cf : ClsF K mg T xf L.cls L.ids L.sub
  rs : ∀ x n, (x, n) ∈ L.rs → ∃ C, mg x = some (.ref C) ∧ PySem.W.keepIn K (.ref C) = true ∧ PySem.W.excIn K C [.type "ValueError", .type "Exception", .type "BaseException", .type "object"] "ValueError.__new__" = true ∧ PySem.W.subIn K (.ref C) (.type "BaseException") = some true ∧ PySem.W.typeIn K (.ref C) = some (.type "type") ∧ T n = some C ∧ xf.f n = []
  tb : ∀ d ∈ L.fds, d.tb = true → ∃ c P, PySem.W.tabIn K d.nm = some (c, P) ∧ (P, (d.nm ++ ".<locals>.") ++ "<lambda>") ∈ xf.tb
  uq : ∀ p ∈ xf.tb, ∀ q ∈ xf.tb, p.1 = q.1 → p.2 = q.2
/-- the tables of code objects, in a base heap -/
def TabsB (L : Lw) (K : PySem.W.Frag) (mg : Str → Option Value) (base : Heap) : Prop := ∀ d ∈ L.fds, d.tb = true → ∀ c P, PySem.W.tabIn K d.nm = some (c, P) → LamX.TabB base mg c P
section
variable {L : Lw} {P : Program} {w : World} {K : PySem.W.Frag} {mg : Str → Option Value} {base : Heap} {T : Nat → Option Addr} {xf : XF}
theorem none_ok {f : Addr} {fd : FuncData} {ps : List Str} {io : Bool} {k : Nat} {CX : CXT} {F : List D → FR} (hF : ∀ ds9, F ds9 = .no) : FnOk P w K mg base CX k f fd ps (spF K T xf io F) := by
  have no9 : ∀ vs9 H9 Q9 E9, ¬ spF K T xf io F vs9 H9 Q9 E9 := fun vs9 H9 Q9 E9 h9 => by
    obtain ⟨C9, ρ9, σ9, stk9, ds9, _, _, _, _, _, _, h9⟩ := h9
    rw [hF] at h9
    exact h9
  exact ⟨fun vs9 H9 Q9 E9 h9 => absurd h9 (no9 vs9 H9 Q9 E9), fun A9 outer9 s9 H9 args9 us9 vs9 Q9 E9 _ _ _ _ h9 => absurd h9 (no9 vs9 H9 Q9 E9)⟩
/-- what a body's context is asked to be, at its level -/
def Lev (L : Lw) (P : Program) (w : World) (K : PySem.W.Frag) (mg : Str → Option Value) (base : Heap) (T : Nat → Option Addr) (xf : XF) (k : Nat) (F : Fns) : Prop := ∀ (i : Nat) (d : Fd) (f : Addr) (fd : FuncData), L.fds[i]? = some d → T i = some f → Fun K d.nm d.nm d.st f fd → FnOk P w K mg base (L2.CX P w) k f fd d.ps (spF K T xf d.io (F i))
theorem nones_rep {H : Hp} {B : List Addr} : ∀ {n : Nat} {σ : St}, σ.length = n → RepS K T H B (List.replicate n none) σ []
  | 0, [], _ => ⟨rfl, rfl⟩
  | n + 1, s :: σ, h => ⟨s, σ, rfl, nones_rep (by simpa using h)⟩
  | 0, _ :: _, h => by (simp at h)
  | _ + 1, [], h => by simp at h
theorem lo_ok {G : Bg} {C2 : Cn} {xf : XF} {σ σZ : St} {stk : List SI} {ρ : Env} {lo : FR} {Q : VK} (ex : G.xf = xf) (et : C2.T = G.C.T) (out : ∀ ρ' σ' H' sq, SR C2 ρ' σ' H' sq → SR G.C ρ σZ H' (sq ++ stk)) (h : PR G σZ stk (lo.r0 ρ) (OkE G σZ stk Q)) : LoOk C2 xf σ lo (WE G.W σZ) Q := by
  unfold LoOk
  match lo, h with
  | .ok dd [], h => exact fun ρ' v H' s3 => h v H' (out _ _ _ _ s3) trivial
  | .er x [], h => exact fun ρ' cls dd vs H' hx s3 => h cls dd vs H' (by rw [ex, ← et]; exact hx) (out _ _ _ _ s3)
section
variable {k : Nat} {F : Fns} {X : Cx}
theorem cx_fs (top : Top L K mg T xf) (lv : Lev L P w K mg base T xf k F) (hP : X.prog = P) (hw : X.w = w) (hK : X.K = K) (hm : X.mg = mg) (hb : X.base = base) {x : Str} {f : Nat} {io : Bool} (m : (x, f, io) ∈ fsGo L.fds 0) : DefOk X k x T xf io (F f) ∧ ∃ a, X.mg x = some (.ref a) ∧ T f = some a := by
  obtain ⟨j9, d9', ej9, e9', rfl, rfl⟩ := fsGo_mem m
  have ej9 : f = j9 := by omega
  subst ej9
  obtain ⟨a9, fd9', h19, h29, h39, h49, _⟩ := (top.fns f d9' e9').ex
  refine ⟨⟨a9, fd9', d9'.ps, by rw [hm]; exact h29, by rw [hK]; exact h39.kp, .all h49, ?_⟩, a9, by rw [hm]; exact h29, h19⟩
  rw [hP, hw, hK, hm, hb]
  exact lv f d9' a9 fd9' e9' h19 h39
theorem cx_gs (top : Top L K mg T xf) (hK : X.K = K) (hm : X.mg = mg) {x : Str} {n : Nat} (m : (x, n) ∈ gsGo L.gs 0) : ∃ v u, X.mg x = some u ∧ RelV v u ∧ ∀ H B, Rep X.K T H B (L.cs n) v [] := by
  obtain ⟨j9, d9', ej9, e9'⟩ := gsGo_mem m
  have ej9 : n = j9 := by omega
  subst ej9
  obtain ⟨v9, u9, h19, h29, h39⟩ := top.gs n x d9' e9'
  refine ⟨v9, u9, by rw [hm]; exact h19, h29, fun H9 B9 => ?_⟩
  rw [hK]
  show Rep K T H9 B9 (L.cs n) v9 []
  unfold Lw.cs
  rw [e9']
  exact h39 H9 B9
theorem cx_rs (top : Top L K mg T xf) (hK : X.K = K) (hm : X.mg = mg) {x : Str} {n : Nat} (m : (x, n) ∈ L.rs) : ∃ C, ClsOk X x C ∧ T n = some C ∧ xf.f n = [] := by
  obtain ⟨C, h1, h2, h3, h4, h5, h6, h7⟩ := top.rs x n m
  exact ⟨C, ⟨by rw [hm]; exact h1, by rw [hK]; exact h2, by rw [hK]; exact h3, by rw [hK]; exact h4, by rw [hK]; exact h5⟩, h6, h7⟩
/-- a def that is handed the held error keeps its promise -/
theorem xd_ok (top : Top L K mg T xf) (hok : ∀ d ∈ L.fds, d.ok L = true) (hP : X.prog = P) (hw : X.w = w) (hK : X.K = K) (hm : X.mg = mg) (hb : X.base = base) {x : Str} {f : Nat} (m : (x, f) ∈ xsGo L.fds 0) : XdOk X x T xf L.ids (xdF L f) := by
  obtain ⟨j9, d, ej9, e, rfl, hl⟩ := xsGo_mem m
  have ej9 : f = j9 := by omega
  subst ej9
  subst hP hw hK hm hb
  have ok := hok d (List.mem_of_getElem? e)
  unfold Fd.ok oneQ at ok
  (simp only [Bool.and_eq_true] at ok)
  obtain ⟨⟨⟨⟨o1, _⟩, _⟩, o2⟩, o3⟩ := ok
  rw [hl] at o2 o3
  simp only [Bool.not_true, Bool.false_or, Bool.and_eq_true, Bool.not_eq_true', decide_eq_true_eq] at o2
  rw [if_pos rfl] at o3
  obtain ⟨_, o2, o4⟩ := o2
  have hsc := scQ_ok o1
  obtain ⟨a, hps⟩ := List.length_eq_one_iff.mp o2.2
  rw [hps] at hsc
  obtain ⟨g, fd, h1, h2, h3, h4, _⟩ := (top.fns f d e).ex
  obtain ⟨oc, od, kV, doc, pm, an, cdv, ct, osl, rfl, lk, hcd⟩ := h3.ex
  have hN0 : d.N[0]? = some a := by
    have := hsc.pre
    cases eN : d.N with
    | nil => rw [eN] at this; simp at this
    | cons y r => rw [eN] at this; simp at this; rw [this]; rfl
  have hstart : ∀ f : Addr, (L2.start d.N [V.ref f])[0]? = some (some (V.ref f)) := fun f => by
    unfold L2.start
    simp
  have hslen : ∀ f : Addr, (L2.start d.N [V.ref f]).length = d.N.length := fun f => by
    unfold L2.start
    have := (List.getElem?_eq_some_iff.mp hN0).1
    simp
    omega
  refine ⟨g, _, [a], h2, h3.kp, by rw [← hps]; exact .all h4, fun n hn C0 ad oe hT hz hv => ?_⟩
  refine fn_ofX lk hcd hsc (fun vs H Q E z => by
    obtain ⟨rfl, _⟩ := z
    rfl) fun A outer s H vs Q E hu z => ?_
  obtain ⟨rfl, C, ρ, σ, stk, eK, eT, eTB, hs, hW⟩ := z
  obtain ⟨Z, s1, out, cap⟩ := hs.enterF (ρ2 := List.replicate d.N.length none) (σ2 := L2.start d.N [V.ref ad]) (fun Oρ Os B x => nones_rep (hslen ad)) [(0, .ref ad)] (fun p hp => by
    have : p = (0, .ref ad) := by simpa using hp
    rw [this]
    exact hstart ad)
  let X1 := L2H.cxH C8.CX0 X.prog X.w X.K X.mg X.base d.N d.nm (defScope d.st) g cdv A outer s H E (ad, oe)
  let S1 : Sg := ⟨[0], T, xf, fun C => (0, V.ref ad) ∈ C.pin⟩
  let P1 : Pr := ⟨fun _ _ => .no, L.cs, L.sub, L.ids, fun _ _ => .no, fun _ _ => .no, .no, some n⟩
  have cx1 : CxOk (ccX L d) S1 0 P1 X1 := {
    N := rfl
    sc := rfl
    nd := hsc.nd
    calm := fun z => absurd (show false = true from z) (by simp)
    room := fun z => absurd (show false = true from z) (by simp)
    un := by show A.units + 3 + 200 < _; omega
    pn := rfl
    fn := fun _ _ => rfl
    fs := fun x f io m => absurd (show (x, f, io) ∈ ([] : List (Str × Nat × Bool)) from m) (by simp)
    gs := fun x n m => absurd (show (x, n) ∈ ([] : List (Str × Nat)) from m) (by simp)
    bi := fun x hx => top.bi x hx
    cf := top.cf
    rs := fun x n m => absurd (show (x, n) ∈ ([] : List (Str × Nat)) from m) (by simp)
    ws := fun x f m => absurd (show (x, f) ∈ ([] : List (Str × Nat)) from m) (by simp)
    xs := fun x f m => absurd (show (x, f) ∈ ([] : List (Str × Nat)) from m) (by simp)
    xr := fun x f m => absurd (show (x, f) ∈ ([] : List (Str × Nat)) from m) (by simp)
    lm := fun z => absurd (show false = true from z) (by simp)
    lc := fun z => absurd (show false = true from z) (by simp)
    lw := fun z => absurd (show false = true from z) (by simp)
    st := fun z => absurd (show false = true from z) (by simp)
    ec := fun j z x f y p p1 pos m => absurd (show (x, f) ∈ ([] : List (Str × Nat)) from m) (by simp)
    ex := fun j z x y m p p1 p2 pos hx hy hg hd hi => by
      cases z
      exact ev_isxP (S := S1) (X := X1) (oe := oe) (by show (ad, oe) ∈ [(ad, oe)]; simp) (fun C q => q) top.cf hn hT hz hv hi (top.bi _ (by decide)) hx hy hg hd }
  have ft1 : Fit S1 X1 ⟨⟨C.K, C.T, Z, H, [], [(0, .ref ad)], C.TB⟩, fun _ _ _ _ => False, xf⟩ := ⟨eK, takes0, eT, rfl, eTB, fun p hp => by
    have : p = (0, V.ref ad) := by simpa using hp
    rw [this]
    show 0 ∈ [0]
    simp, by show (0, V.ref ad) ∈ [(0, V.ref ad)]; simp⟩
  refine ⟨_, pss_W, chSs_ok d.ir _ S1 P1 X1 (fun z => absurd (show false = true from z) (by simp)) cx1 _ o3 _ ft1 _ _ H [] _ s1 ?_⟩
  have eW : xdF L f n = (match sxs P1 d.ir (List.replicate d.N.length none) with
    | .nx _ => .ok .non []
    | .rt d _ => .ok d []
    | _ => .no) := by
    unfold xdF
    rw [e]
    show (if d.exd then _ else _) = _
    rw [hl]
    rfl
  rw [eW] at hW
  cases er : sxs P1 d.ir (List.replicate d.N.length none) with
  | nx ρ' => rw [er] at hW; exact fun σ' H' s' => hW .non H' (out _ _ _ [.one .non (.val .non)] (s'.imm fun B => ⟨rfl, rfl⟩))
  | rt dd ρ' => rw [er] at hW; exact fun v σ' H' s' => hW v H' (out _ _ _ [.one v (.val dd)] s')
  | bk ρ' => rw [er] at hW; exact hW.elim
  | ct ρ' => rw [er] at hW; exact hW.elim
  | er x ρ' => rw [er] at hW; exact hW.elim
  | no => rw [er] at hW; exact hW.elim
/-- a def that takes a lambda keeps its promise -/
theorem wd_ok (top : Top L K mg T xf) (hok : ∀ d ∈ L.fds, d.ok L = true) (lv : Lev L P w K mg base T xf k F) (hP : X.prog = P) (hw : X.w = w) (hK : X.K = K) (hm : X.mg = mg) (hb : X.base = base) {x : Str} {f : Nat} (m : (x, f) ∈ wsGo L.fds 0) : WdOk X k x T xf (wdF F L f) := by
  obtain ⟨j9, d, ej9, e, rfl, hl⟩ := wsGo_mem m
  have ej9 : f = j9 := by omega
  subst ej9
  subst hP hw hK hm hb
  have ok := hok d (List.mem_of_getElem? e)
  unfold Fd.ok oneQ at ok
  (simp only [Bool.and_eq_true] at ok)
  obtain ⟨⟨⟨⟨o1, _⟩, o2⟩, o5⟩, o3⟩ := ok
  have hxd : d.exd = false := by
    cases z : d.exd with
    | false => rfl
    | true => rw [z, hl] at o5; simp at o5
  rw [hxd, if_neg (by simp)] at o3
  rw [hl] at o2
  simp only [Bool.not_true, Bool.false_or, Bool.and_eq_true, Bool.not_eq_true', decide_eq_true_eq] at o2
  obtain ⟨o2, o4⟩ := o2
  have hsc := scQ_ok o1
  obtain ⟨a, hps⟩ := List.length_eq_one_iff.mp o2.2
  rw [hps] at hsc
  obtain ⟨g, fd, h1, h2, h3, h4, _⟩ := (top.fns f d e).ex
  obtain ⟨oc, od, kV, doc, pm, an, cdv, ct, osl, rfl, lk, hcd⟩ := h3.ex
  have hN0 : d.N[0]? = some a := by
    have := hsc.pre
    cases eN : d.N with
    | nil => rw [eN] at this; simp at this
    | cons y r => rw [eN] at this; simp at this; rw [this]; rfl
  have hvis : Vis (defScope d.st) a := (hsc.par a (by simp)).elim .inl fun z => .inr (.inl z)
  have hstart : ∀ f : Addr, (L2.start d.N [V.ref f])[0]? = some (some (V.ref f)) := fun f => by
    unfold L2.start
    simp
  have hslen : ∀ f : Addr, (L2.start d.N [V.ref f]).length = d.N.length := fun f => by
    unfold L2.start
    have := (List.getElem?_eq_some_iff.mp hN0).1
    simp
    omega
  have hna : (a == ("__debug__" : Str)) = false ∧ (a == ("__classdict__" : Str)) = false := by
    rw [hps] at o4
    simp only [List.all_cons, List.all_nil, Bool.and_true, Bool.and_eq_true, Bool.not_eq_true'] at o4
    exact o4
  refine ⟨a, g, _, _, _, _, _, _, _, _, _, _, _, _, _, d.N, h2, h3.kp, lk, hcd, ?_, hsc, fun A s H pn xe p => pe_var (X := (cxOf C8.CX0 X.prog X.w X.K X.mg X.base d.N d.nm (defScope d.st) g cdv A X.stack s H C8.E0).tr pn xe) hN0 hvis hna.1 hna.2, fun q hr f0 c' s H Q tl act hc tt => ?_⟩
  · rw [← hps]
    exact .all h4
  · obtain ⟨C, ρ, σ, stk, ρ2, lo, eK, eT, eTB, hs, hr2, htl, hW⟩ := tt
    obtain ⟨Z, s1, out, cap⟩ := hs.enterF (ρ2 := List.replicate d.N.length none) (σ2 := L2.start d.N [V.ref f0]) (fun Oρ Os B x => nones_rep (hslen f0)) [(0, .ref f0)] (fun p hp => by
      have : p = (0, .ref f0) := by simpa using hp
      rw [this]
      exact hstart f0)
    have cp := cap ρ2 σ hr2
    let X1 := (cxOf C8.CX0 X.prog X.w X.K X.mg X.base d.N d.nm (defScope d.st) g cdv X.A X.stack s H C8.E0).nox
    let S1 : Sg := ⟨[0], T, xf, fun C => CapS C ρ2 σ ∧ (0, V.ref f0) ∈ C.pin ∧ C.H0 c' = some (LamX.CodeO c' q)⟩
    let P1 : Pr := ⟨F, L.cs, L.sub, L.ids, fun _ _ => .no, xdF L, lo, none⟩
    have cx1 : CxOk (ccOf L d) S1 k P1 X1 := {
      N := rfl
      sc := rfl
      nd := hsc.nd
      calm := fun _ => rfl
      room := fun _ => (hr.deeper _).mono (by omega)
      un := by have := hr.un; show X.A.units + 3 + 200 < _; omega
      pn := by show [0] = if d.io || d.lam then [0] else []; rw [hl]; simp
      fn := fun _ _ => rfl
      fs := fun x f io m => cx_fs (X := X1) top lv rfl rfl rfl rfl rfl m
      gs := fun x n m => cx_gs (X := X1) top rfl rfl m
      bi := fun x hx => top.bi x hx
      cf := top.cf
      rs := fun x n m => cx_rs (X := X1) top rfl rfl m
      ws := fun x f m => by
        have m : (x, f) ∈ (if d.lam then [] else wsGo L.fds 0) := m
        rw [hl] at m
        simp at m
      xs := fun x f m => xd_ok (X := X1) top hok rfl rfl rfl rfl rfl m
      xr := fun x f m => ⟨by have := hr.dp; show X.A.depth + 1 < _; omega, by have := hr.un; show X.A.units + 3 + 3 + 200 < _; omega⟩
      lm := fun z => by
        have z : (d.tb && !d.lam) = true := z
        rw [hl] at z
        simp at z
      lc := fun z => absurd (show false = true from z) (by simp)
      lw := fun _ pn xe x p1 p2 ex G ft ρc σZ HZ stkc Qc hsc hpc => by
        have ex : d.N[0]? = some x := ex
        rw [hN0] at ex
        cases ex
        obtain ⟨cpS, hpin, hco⟩ := ft.lam
        have eT2 : G.C.T = T := ft.t
        have eK2 : G.C.K = X.K := ft.k
        have eB2 : G.C.TB = xf.tb := ft.tb.trans (congrArg XF.tb ft.x)
        obtain ⟨Z2, s2, out2, _⟩ := hsc.enterF (ρ2 := ρ2) (σ2 := σ) (fun Oρ Os B x => cpS.at hsc x) [] (fun p hp => absurd hp (by simp))
        refine of_PE (act G.W pn xe p1 p2 ft.tk) ⟨hsc.pin _ hpin, hsc.kept.old c' _ hco (fun ps => LamX.codeO_ne ps) (by rw [cpS.1]; simp), htl ⟨G.C.K, G.C.T, Z2, HZ, [], [], G.C.TB⟩ _ _ _ eK2 eT2 eB2 rfl s2 ?_⟩
        have ex2 : G.xf = xf := ft.x
        exact lo_ok ex2 rfl out2 hpc
      st := fun _ => ⟨rfl, rfl⟩
      ec := fun i z => absurd (show none = some i from z) (by simp)
      ex := fun i z => absurd (show none = some i from z) (by simp) }
    have po : PassesOwn (model X1.prog X1.w) X1.A X1.env X1.xe := PassesOwn.never
    have ft1 : Fit S1 X1 ⟨⟨C.K, C.T, Z, H, [], [(0, .ref f0)], C.TB⟩, fun _ _ _ _ => False, xf⟩ := ⟨eK, takes0, eT, rfl, eTB, fun p hp => by
      have : p = (0, V.ref f0) := by simpa using hp
      rw [this]
      show 0 ∈ [0]
      simp, cp, by show (0, V.ref f0) ∈ [(0, V.ref f0)]; simp, hc⟩
    refine ⟨_, pss_W, chSs_ok d.ir _ S1 P1 X1 (fun _ => po) cx1 _ o3 _ ft1 _ _ H [] _ s1 ?_⟩
    have eW : wdF F L f lo = (match sxs P1 d.ir (List.replicate d.N.length none) with
      | .nx _ => .ok .non []
      | .rt d _ => .ok d []
      | _ => .no) := by
      unfold wdF
      rw [e]
      show (if d.lam then _ else _) = _
      rw [hl]
      rfl
    rw [eW] at hW
    cases er : sxs P1 d.ir (List.replicate d.N.length none) with
    | nx ρ' => rw [er] at hW; exact fun σ' H' s' => hW .non H' (out _ _ _ [.one .non (.val .non)] (s'.imm fun B => ⟨rfl, rfl⟩))
    | rt dd ρ' => rw [er] at hW; exact fun v σ' H' s' => hW v H' (out _ _ _ [.one v (.val dd)] s')
    | bk ρ' => rw [er] at hW; exact hW.elim
    | ct ρ' => rw [er] at hW; exact hW.elim
    | er x ρ' => rw [er] at hW; exact hW.elim
    | no => rw [er] at hW; exact hW.elim
end
set_option maxHeartbeats 2000001 in
theorem run_ok (top : Top L K mg T xf) (tbs : TabsB L K mg base) (hok : ∀ d ∈ L.fds, d.ok L = true) : ∀ (k i : Nat) (d : Fd) (f : Addr) (fd : FuncData), L.fds[i]? = some d → T i = some f → Fun K d.nm d.nm d.st f fd → FnOk P w K mg base (L2.CX P w) (3 * k) f fd d.ps (spF K T xf d.io (run L k i))
  | 0, i, d, f, fd, e, ht, F => none_ok fun ds9 => rfl
  | k + 1, i, d, f, fd, e, ht, F => by
    have er9 : run L (k + 1) i = if d.lam || d.exd then fun _ => FR.no else fnF d.ps.length d.N.length d.io (sxs (prL L (run L k)) d.ir) := by
      show (match L.fds[i]? with
        | some d => if d.lam || d.exd then fun _ => FR.no else fnF d.ps.length d.N.length d.io (sxs (prL L (run L k)) d.ir)
        | none => fun _ => .no) = _
      rw [e]
    rw [er9]
    by_cases hl9 : (d.lam || d.exd) = true
    · rw [if_pos hl9]
      exact none_ok fun ds9 => rfl
    rw [if_neg hl9]
    have hl0 : d.lam = false ∧ d.exd = false := by simpa using hl9
    obtain ⟨hl9, hx9⟩ := hl0
    have ok9 := hok d (List.mem_of_getElem? e)
    unfold Fd.ok at ok9
    simp only [Bool.and_eq_true] at ok9
    obtain ⟨⟨⟨⟨o19, o29⟩, o49⟩, _⟩, o39⟩ := ok9
    rw [hx9, if_neg (by simp)] at o39
    have hsc9 := scQ_ok o19
    have lv9 : Lev L P w K mg base T xf (3 * k) (run L k) := fun i d f fd => run_ok top tbs hok k i d f fd
    show FnOk P w K mg base (L2.CX P w) (3 * k + 2 + 1) f fd d.ps _
    refine def_ok F hsc9 (fun z9 => by simpa [z9] using o29) fun X9 bc9 => ?_
    have hr9 := bc9.room
    have cx9 : CxOk (ccOf L d) ⟨if d.io then [0] else [], T, xf, fun _ => True⟩ (3 * k) (prL L (run L k)) X9 := {
      N := bc9.N
      sc := bc9.sc
      nd := hsc9.nd
      calm := fun _ => bc9.calm
      room := fun _ => hr9.mono (by omega)
      un := by have := hr9.un; omega
      pn := by show _ = if d.io || d.lam then [0] else []; rw [hl9, Bool.or_false]
      fn := fun x _ => bc9.fn x
      fs := fun x f io m => cx_fs top lv9 bc9.prog bc9.w bc9.K bc9.mg bc9.base m
      gs := fun x n m => cx_gs top bc9.K bc9.mg m
      bi := fun x hx => by rw [bc9.mg]; exact top.bi x hx
      cf := by rw [bc9.K, bc9.mg]; exact top.cf
      rs := fun x n m => cx_rs top bc9.K bc9.mg m
      ws := fun x f m => by
        have m : (x, f) ∈ (if d.lam then [] else wsGo L.fds 0) := m
        cases z : d.lam with
        | true => rw [z] at m; simp at m
        | false => rw [z] at m; exact wd_ok top hok lv9 bc9.prog bc9.w bc9.K bc9.mg bc9.base m
      xs := fun x f m => xd_ok top hok bc9.prog bc9.w bc9.K bc9.mg bc9.base m
      xr := fun x f m => ⟨by have := hr9.dp; omega, by have := hr9.un; omega⟩
      lm := fun z => by
        have z : (d.tb && !d.lam) = true := z
        simp only [Bool.and_eq_true] at z
        obtain ⟨c, P9, t1, t2⟩ := top.tb d (List.mem_of_getElem? e) z.1
        refine ⟨⟨c, P9, ?_, ?_, ?_, ?_⟩, hr9, fun _ => trivial⟩
        · rw [bc9.base, bc9.mg]
          exact tbs d (List.mem_of_getElem? e) z.1 c P9 t1
        · rw [bc9.code]
          obtain ⟨f2, fd2, h1, _, h3, _, h5⟩ := (top.fns i d e).ex
          rw [ht] at h1
          cases h1
          have : fd2 = fd := by
            obtain ⟨_, _, _, _, _, _, _, _, _, _, l1, _⟩ := h3.ex
            obtain ⟨_, _, _, _, _, _, _, _, _, _, l2, _⟩ := F.ex
            rw [l1] at l2
            cases l2
            rfl
          rw [← this]
          exact h5 c P9 t1
        · rw [bc9.qual]
          exact t2
        · rw [bc9.qual]
          exact fun p hp ep => top.uq p hp _ t2 ep
      lc := fun z => absurd (show false = true from z) (by simp)
      lw := fun _ pn xe x p1 p2 ex G ft ρ σ H stk Q hs hp => hp.elim
      st := fun _ => bc9.st
      ec := fun i z => absurd (show none = some i from z) (by simp)
      ex := fun i z => absurd (show none = some i from z) (by simp) }
    exact chSs_ok d.ir (ccOf L d) _ (prL L (run L k)) X9 (fun _ => bc9.own) cx9 (defBody d.st) o39
end
/-- the law's own call -/
theorem law_sp {K : PySem.W.Frag} {T : Nat → Option Addr} {xf : XF} {F : List D → FR} {H : Hp} {a : Addr} {ns : List Int} (ht : LamX.Tabs xf.tb H) (hS : SqL K H a (ns.map V.int)) (h : F [.scr (ns.map D.int)] = .ok (.bl true) []) : spF K T xf false F [.ref a] H (fun v _ => v = .bl true) fun _ _ _ => False := by
  have ra : ∀ ns : List Int, RepA K T H [] (ns.map D.int) (ns.map V.int) [] := fun ns => by
    induction ns with
    | nil => exact ⟨rfl, rfl⟩
    | cons n l ih => exact ⟨.int n, _, [], [], rfl, ⟨rfl, rfl⟩, ih, rfl⟩
  have f : FzS K H [] a (ns.map V.int) := by
    rcases hS with h | h
    · exact .inl ⟨h, by simp⟩
    · exact .inr h
  refine ⟨⟨K, T, [], H, [], [], xf.tb⟩, [], [], [], [.scr (ns.map D.int)], rfl, rfl, rfl, ?_, rfl, rfl, ?_⟩
  · exact ⟨⟨[], [], [], ⟨rfl, rfl⟩, ⟨[], [], ⟨.ref a, [], [], [], rfl, ⟨a, _, rfl, f, ra ns, rfl⟩, ⟨rfl, rfl⟩, rfl⟩, rfl, rfl⟩, fun x => by simp, by simp, by simp, by simp⟩, ⟨fun x o e _ _ => e, ht⟩, by simp, by simp⟩
  · rw [h]
    refine ⟨rfl, fun v H' s => ?_⟩
    obtain ⟨B, O, r⟩ := s.top
    exact r.1
def tcs (L : Lw) (K : PySem.W.Frag) : List (Addr × Addr) := L.fds.filterMap fun d => if d.tb then PySem.W.tabIn K d.nm else none
theorem law_walk {l : PySem.W.OpenLaw} {q : Program} {loose : List Str} {XP : (Str → Option Value) → Heap → Prop} {YP : World → Heap → Prop} {d : DefRec} {K : Params → PySem.W.Frag} (L : Lw) (k i : Nat) (fl : Fd) (T : PySem.W.Frag → Nat → Option Addr) (xf : PySem.W.Frag → XF) (ts : List Addr) (hn : l.most = some 63) (hdf : d.params.defaults = []) (hr : Room (3 * k) callerA)
    (hY : ∀ (w : World) (h : Heap), YP w h → (K w.params).In h ∧ ∀ P ∈ ts, h.get? P = some (PySem.W.tabObj #[])) (hL : L.fds[i]? = some fl) (hps : fl.ps = [("script" : Str)]) (hio : fl.io = false) (hnm : d.name = fl.nm) (hok : ∀ d ∈ L.fds, d.ok L = true)
    (top : ∀ (w : World) (mg : Str → Option Value) (h : Heap), (K w.params).In h → h.Ns mainGlobals mg → Top L (K w.params) mg (T (K w.params)) (xf (K w.params)) ∧ (∀ p ∈ tcs L (K w.params), p.2 ∈ ts ∧ (K w.params).lookup p.2 = none ∧ PySem.W.codeHdIn (K w.params) p.1 p.2 = true) ∧ ∀ p ∈ (xf (K w.params)).tb, p.1 ∈ (tcs L (K w.params)).map (·.2))
    (plain : ∀ ns : List Int, ns.length ≤ 63 → run L k i [.scr (ns.map D.int)] = .ok (.bl true) []) : PySem.W.WalkO q loose XP YP l.row.toRowW d [] (fun f vs => PySem.call f vs) :=
  LamX.walk_ofTs (n := 63) (k := 3 * k) (x := "script") (CX := fun w => L2.CX l.prog w) hn (by decide) hdf hr (fun w h Y => (hY w h Y).1)
    (fun w mg fa h Y KX G hmg => by
      obtain ⟨tp, tc, tx⟩ := top w mg h KX G
      obtain ⟨f, fd, h1, h2, h3, h4, _⟩ := (tp.fns i fl hL).ex
      rw [hnm, h2] at hmg
      cases hmg
      rw [hps] at h4
      refine ⟨fd, tcs L (K w.params), spF (K w.params) (T (K w.params)) (xf (K w.params)) false (run L k i), fun p hp => (hY w h Y).2 _ (tc p hp).1, fun p hp => (tc p hp).2.1, fun p hp => PySem.W.codeHd_of_K KX (tc p hp).2.2, fun s u => .of_eq (h4 [u] rfl), fun H a ns hl _ hT hS => law_sp (fun p hp => ?_) hS (plain ns hl), fun base KB GB TB => ?_⟩
      · obtain ⟨q, hq, eq⟩ := List.mem_map.mp (tx p hp)
        exact .nil (by rw [← eq]; exact hT q hq)
      · have := run_ok (P := l.prog) (w := w) (base := base) tp (fun d hd ht c P e => TB (c, P) (List.mem_filterMap.mpr ⟨d, hd, by rw [if_pos ht]; exact e⟩)) hok k i fl fa fd hL h1 h3
        rw [hps, hio] at this
        exact this)
    fun w H s e s' z => by
      obtain ⟨_, _, _, _, _, _, _, _, _, _, _, _, z⟩ := z
      exact z

/-- where the top has put a def, a class -/
def refAt (K : PySem.W.Frag) (x : Str) : Option Addr := match PySem.W.nsIn K mainGlobals x with
  | some (some (.ref f)) => some f
  | _ => none
def TT (L : Lw) (K : PySem.W.Frag) (i : Nat) : Option Addr := match L.fds[i]? with
  | some d => refAt K d.nm
  | none => (match L.cls.find? (·.2 == i) with
    | some p => refAt K p.1
    | none => none)
def XX (L : Lw) (K : PySem.W.Frag) : XF := ⟨fun _ => [], L.fds.filterMap fun d => if d.tb then (PySem.W.tabIn K d.nm).map fun p => (p.2, (d.nm ++ ".<locals>.") ++ "<lambda>") else none, fun n => match TT L K n with
  | some a => .ref a
  | none => (match L.cls.find? (·.2 == n) with
    | some p => (bootBuiltins p.1).getD .none
    | none => .none)⟩
theorem refAt_of {K : PySem.W.Frag} {x : Str} {f : Addr} (a : PySem.W.nsIn K mainGlobals x = some (some (.ref f))) : refAt K x = some f := by
  unfold refAt
  rw [a]
theorem tab_code {K : PySem.W.Frag} {x : Str} {c P f : Addr} {oc : Value} {od : Option Addr} {fd : FuncData} {sl : Array (Option Value)} (a : PySem.W.nsIn K mainGlobals x = some (some (.ref f))) (l : K.lookup f = some ⟨oc, od, .func fd, sl⟩) (t : PySem.W.tabIn K x = some (c, P)) : fd.code = .ref c := by
  unfold PySem.W.tabIn at t
  rw [a] at t
  simp only [l] at t
  split at t
  · rename_i c' e'
    split at t
    · split at t
      · cases t
        exact e'
      · cases t
    · cases t
  · cases t
theorem at_mk {L : Lw} {i : Nat} {d : Fd} {K : PySem.W.Frag} {h : Heap} {mg : Str → Option Value} (hd : L.fds[i]? = some d) (X : K.In h) (G : h.Ns mainGlobals mg) {f : Addr} {oc : Value} {od an : Option Addr} {osl : Array (Option Value)} {kV doc pm cdv ct : Value}
    (a : PySem.W.nsIn K mainGlobals d.nm = some (some (.ref f))) (l : K.lookup f = some ⟨oc, od, .func (PySem.W.fnOf d.nm d.nm (defArgs d.st) (defBody d.st) (defScope d.st) .none kV doc pm an cdv ct), osl⟩) (c : PySem.W.codeIn K cdv d.nm = true) (k : PySem.W.keepIn K (.ref f) = true)
    (b : ∀ us : List Value, us.length = d.ps.length → bindArgs (PySem.W.fnOf d.nm d.nm (defArgs d.st) (defBody d.st) (defScope d.st) .none kV doc pm an cdv ct) ⟨us, []⟩ = pure (d.ps.zip us)) : At K mg (TT L K) i d := by
  refine ⟨f, _, ?_, PySem.W.mg_of X G a, fun_mk l c k, b, fun c P t => tab_code a l t⟩
  unfold TT
  rw [hd]
  exact refAt_of a
theorem tt_cls {L : Lw} {K : PySem.W.Frag} {n : Nat} {x : Str} {a : Addr} (h1 : L.fds[n]? = none) (h2 : L.cls.find? (·.2 == n) = some (x, n)) (h3 : PySem.W.nsIn K mainGlobals x = some (some (.ref a))) : TT L K n = some a := by
  unfold TT
  rw [h1, h2]
  exact refAt_of h3
theorem cv_cls {L : Lw} {K : PySem.W.Frag} {n : Nat} {a : Addr} (h : TT L K n = some a) : (XX L K).cv n = .ref a := by
  show (match TT L K n with
    | some a => Value.ref a
    | none => _) = _
  rw [h]
theorem cv_bi {L : Lw} {K : PySem.W.Frag} {n : Nat} {x : Str} {v : Value} (h1 : L.fds[n]? = none) (h2 : L.cls.find? (·.2 == n) = some (x, n)) (h3 : PySem.W.nsIn K mainGlobals x = some none) (hb : bootBuiltins x = some v) : (XX L K).cv n = v := by
  have e : TT L K n = none := by
    unfold TT
    rw [h1, h2]
    show refAt K x = none
    unfold refAt
    rw [h3]
  show (match TT L K n with
    | some a => Value.ref a
    | none => (match L.cls.find? (fun p : Str × Nat => p.2 == n) with
      | some p => (bootBuiltins p.1).getD .none
      | none => .none)) = _
  rw [e, h2]
  show (bootBuiltins x).getD .none = v
  rw [hb]
  rfl
theorem fm_filter {α β : Type} {p : α → Bool} {f : α → Option β} : ∀ l : List α, (l.filterMap fun d => if p d then f d else none) = (l.filter p).filterMap f
  | [] => rfl
  | a :: l => by
    rw [List.filterMap_cons, List.filter_cons]
    cases z : p a with
    | true => simp [fm_filter l]; rfl
    | false => simp [fm_filter l]
theorem tcs_eq (L : Lw) (K : PySem.W.Frag) : tcs L K = (L.fds.filter fun d => d.tb).filterMap fun d => PySem.W.tabIn K d.nm := fm_filter (p := fun d : Fd => d.tb) (f := fun d : Fd => PySem.W.tabIn K d.nm) L.fds
def lnm (d : Fd) : Str := (d.nm ++ ".<locals>.") ++ "<lambda>"
theorem tb_eq (L : Lw) (K : PySem.W.Frag) : (XX L K).tb = (L.fds.filter fun d => d.tb).filterMap fun d => (PySem.W.tabIn K d.nm).map fun p => (p.2, lnm d) := fm_filter (p := fun d : Fd => d.tb) (f := fun d : Fd => (PySem.W.tabIn K d.nm).map fun p : Addr × Addr => (p.2, lnm d)) L.fds
theorem tb_sub (L : Lw) (K : PySem.W.Frag) : ∀ p ∈ (XX L K).tb, p.1 ∈ (tcs L K).map (·.2) := fun p hp => by
  rw [tb_eq] at hp
  obtain ⟨d, hd, e⟩ := List.mem_filterMap.mp hp
  obtain ⟨q, e1, rfl⟩ := Option.map_eq_some_iff.mp e
  rw [tcs_eq]
  exact List.mem_map.mpr ⟨q, List.mem_filterMap.mpr ⟨d, hd, e1⟩, rfl⟩
/-- one def makes lambdas -/
theorem tb_one {L : Lw} {K : PySem.W.Frag} {d : Fd} {c P : Addr} {ts : List Addr} (hf : L.fds.filter (·.tb) = [d]) (ht : PySem.W.tabIn K d.nm = some (c, P)) (hm : P ∈ ts) (hl : K.lookup P = none) (hc : PySem.W.codeHdIn K c P = true) :
    (∀ d ∈ L.fds, d.tb = true → ∃ c P, PySem.W.tabIn K d.nm = some (c, P) ∧ (P, (d.nm ++ ".<locals>.") ++ "<lambda>") ∈ (XX L K).tb) ∧ (∀ p ∈ (XX L K).tb, ∀ q ∈ (XX L K).tb, p.1 = q.1 → p.2 = q.2) ∧ ∀ p ∈ tcs L K, p.2 ∈ ts ∧ K.lookup p.2 = none ∧ PySem.W.codeHdIn K p.1 p.2 = true := by
  have e1 : (XX L K).tb = [(P, lnm d)] := by
    rw [tb_eq, hf]
    simp [ht]
  have e2 : tcs L K = [(c, P)] := by
    rw [tcs_eq, hf]
    simp [ht]
  rw [e1, e2]
  refine ⟨fun d' h1 h2 => ?_, fun p hp q hq _ => ?_, fun p hp => ?_⟩
  · have : d' ∈ L.fds.filter (·.tb) := List.mem_filter.mpr ⟨h1, h2⟩
    rw [hf] at this
    obtain rfl := List.mem_singleton.mp this
    exact ⟨c, P, ht, by show (P, lnm d') ∈ _; simp⟩
  · rw [List.mem_singleton.mp hp, List.mem_singleton.mp hq]
  · (rw [List.mem_singleton.mp hp])
    exact ⟨hm, hl, hc⟩
theorem tb_none {L : Lw} {K : PySem.W.Frag} {ts : List Addr} (hf : L.fds.filter (·.tb) = []) :
    (∀ d ∈ L.fds, d.tb = true → ∃ c P, PySem.W.tabIn K d.nm = some (c, P) ∧ (P, (d.nm ++ ".<locals>.") ++ "<lambda>") ∈ (XX L K).tb) ∧ (∀ p ∈ (XX L K).tb, ∀ q ∈ (XX L K).tb, p.1 = q.1 → p.2 = q.2) ∧ ∀ p ∈ tcs L K, p.2 ∈ ts ∧ K.lookup p.2 = none ∧ PySem.W.codeHdIn K p.1 p.2 = true := by
  have e1 : (XX L K).tb = [] := by rw [tb_eq, hf]; rfl
  have e2 : tcs L K = [] := by rw [tcs_eq, hf]; rfl
  rw [e1, e2]
  refine ⟨fun d' h1 h2 => ?_, fun p hp => absurd hp (by simp), fun p hp => absurd hp (by simp)⟩
  have : d' ∈ L.fds.filter (·.tb) := List.mem_filter.mpr ⟨h1, h2⟩
  rw [hf] at this
  simp at this
theorem tab_mk {K : PySem.W.Frag} {x : Str} {c P f : Addr} {oc ol : Value} {od dl : Option Addr} {fd : FuncData} {sl sm : Array (Option Value)} {vs : Array Value} (a : PySem.W.nsIn K mainGlobals x = some (some (.ref f))) (l : K.lookup f = some ⟨oc, od, .func fd, sl⟩) (e : fd.code = .ref c) (m : K.lookup c = some ⟨ol, dl, .fields vs, sm⟩) (v : (vs[11]? : Option Value) = some (.ref P)) : PySem.W.tabIn K x = some (c, P) := by
  unfold PySem.W.tabIn
  rw [a]
  simp only [l, e, m, v]
theorem kit_ref {K : PySem.W.Frag} {C D : Addr} {b : Bool} (hd : PySem.W.hasDictIn K D = true) (ht : PySem.W.typeIn K (.ref D) = some (.type "type")) (h : PySem.W.subIn K (.ref C) (.ref D) = some b) (hn : b = true ∨ (Value.ref C == Value.ref D) = false) : PySem.W.kitOne K (.ref C) (.ref D) = some b := by
  obtain ⟨cd, hc, _⟩ := PySem.W.any_some hd
  have e2 : ((PySem.W.clsIn K D).isSome && PySem.W.typeIn K (.ref D) == some (.type "type")) = true := by rw [hc, ht] <;> rfl
  unfold PySem.W.kitOne
  by_cases z : (Value.ref C == Value.ref D) = true
  · rw [if_pos z]
    rcases hn with hn | hn
    · rw [hn]
    · rw [hn] at z; cases z
  · rw [if_neg z]
    show (if ((PySem.W.clsIn K D).isSome && PySem.W.typeIn K (.ref D) == some (.type "type")) = true then PySem.W.subIn K (.ref C) (.ref D) else none) = some b
    rw [if_pos e2]
    exact h
theorem kit_ty2 {K : PySem.W.Frag} {C : Addr} {T : String} {b : Bool} (hm : PySem.W.kitMeta T = true) (h : PySem.W.subIn K (.ref C) (.type T) = some b) : PySem.W.kitOne K (.ref C) (.type T) = some b := by
  unfold PySem.W.kitOne
  rw [if_neg (by intro z; cases z)]
  show (if PySem.W.kitMeta T = true then PySem.W.subIn K (.ref C) (.type T) else none) = some b
  rw [if_pos hm]
  exact h
theorem exm_ty2 {K : PySem.W.Frag} {C : Addr} {T : String} {b : Bool} (h0 : PySem.W.subIn K (.type T) (.type "BaseException") = some true) (hm : PySem.W.kitMeta T = true) (h : PySem.W.subIn K (.ref C) (.type T) = some b) : PySem.W.exmOne K (.ref C) (.type T) = some b := by
  unfold PySem.W.exmOne
  rw [if_pos (by rw [h0]; rfl)]
  show (if PySem.W.kitMeta T = true then PySem.W.subIn K (.ref C) (.type T) else none) = some b
  rw [if_pos hm]
  exact h
theorem fns_mk {K : PySem.W.Frag} {mg : Str → Option Value} {T : Nat → Option Addr} : ∀ (l : List Fd) (i : Nat), (∀ (j : Nat) (d : Fd), l[j]? = some d → At K mg T (i + j) d) → ∀ (j : Nat) (d : Fd), l[j]? = some d → At K mg T (i + j) d := fun l i h => h
theorem gi_mk {K : PySem.W.Frag} {T : Nat → Option Addr} {h : Heap} {mg : Str → Option Value} {x : Str} {i : Int} {t : Tok} (X : K.In h) (G : h.Ns mainGlobals mg) (a : PySem.W.nsIn K mainGlobals x = some (some (.int i t))) : ∃ v u, mg x = some u ∧ RelV v u ∧ ∀ H B, Rep K T H B (.int i) v [] :=
  ⟨.int i, _, PySem.W.mg_of X G a, ⟨t, rfl⟩, fun H B => ⟨rfl, rfl⟩⟩
theorem gstr_mk {K : PySem.W.Frag} {T : Nat → Option Addr} {h : Heap} {mg : Str → Option Value} {x : Str} {l : List Nat} {z : Str} {t : Tok} (X : K.In h) (G : h.Ns mainGlobals mg) (a : PySem.W.nsIn K mainGlobals x = some (some (.str z t))) (hz : (z.cps.toList == l && l.all (· < 128) && decide (l.length ≤ sizeLine)) = true) : ∃ v u, mg x = some u ∧ RelV v u ∧ ∀ H B, Rep K T H B (.str l) v [] := by
  simp only [Bool.and_eq_true, beq_iff_eq, List.all_eq_true, decide_eq_true_eq] at hz
  obtain ⟨⟨h1, h2⟩, h3⟩ := hz
  refine ⟨.str z, _, PySem.W.mg_of X G a, ⟨t, rfl⟩, fun H B => ⟨?_, h2, h3, rfl⟩⟩
  rw [← h1]
def intsV : List Value → Option (List Int)
  | [] => some []
  | .int i _ :: l => (intsV l).map (i :: ·)
  | _ => none
theorem intsV_vals : ∀ {us : List Value} {ns : List Int}, intsV us = some ns → Vals (ns.map V.int) us
  | [], ns, h => by cases h; exact .nil
  | .int i t :: l, ns, h => by
    obtain ⟨r, e, rfl⟩ := Option.map_eq_some_iff.mp (show (intsV l).map (i :: ·) = some ns from h)
    exact .cons ⟨t, rfl⟩ (intsV_vals e)
theorem ints_rep {K : PySem.W.Frag} {T : Nat → Option Addr} {H : Hp} {B : List Addr} : ∀ ns : List Int, RepA K T H B (ns.map .int) (ns.map V.int) []
  | [] => ⟨rfl, rfl⟩
  | n :: ns => ⟨.int n, ns.map V.int, [], [], rfl, ⟨rfl, rfl⟩, ints_rep ns, rfl⟩
theorem gtup_mk {K : PySem.W.Frag} {T : Nat → Option Addr} {h : Heap} {mg : Str → Option Value} {x : Str} {p : Addr} {od : Option Addr} {its : Array Value} {n : Nat} {sl : Array (Option Value)} {ns : List Int} (X : K.In h) (G : h.Ns mainGlobals mg) (a : PySem.W.nsIn K mainGlobals x = some (some (.ref p)))
    (l : K.lookup p = some ⟨.type "tuple", od, .seq its n, sl⟩) (hz : intsV its.toList = some ns) (hs : its.size ≤ 1000) : ∃ v u, mg x = some u ∧ RelV v u ∧ ∀ H B, Rep K T H B (.tup (ns.map .int)) v [] :=
  ⟨.ref p, _, PySem.W.mg_of X G a, rfl, fun H B => ⟨p, ns.map V.int, rfl, .inr ⟨_, its, n, l, rfl, rfl, by have := sizeLine_eq; omega, intsV_vals hz⟩, ints_rep ns, rfl⟩⟩
end DV
namespace DV
open PySem L2

/-! ### a text's meaning, step by step -/
section
variable {P : Pr} {ρ ρ1 ρ2 ρ3 : Env} {a b c e t : IE} {x y z : DV.It} {d d1 d2 dx dy dz : D} {i j : Nat} {p q : Bool} {ds ms : List D}
abbrev Evl0 (P : Pr) (e : IE) (ρ : Env) (x : DV.It) (ρ1 : Env) : Prop := (bo P e).1 ρ = .ok (x, ρ1)
abbrev Tvl0 (P : Pr) (e : IE) (ρ : Env) (b : Bool) (ρ1 : Env) : Prop := (bo P e).2 ρ = .ok (b, ρ1)
abbrev Avl0 (P : Pr) (fz : Bool) (l : IA) (ρ : Env) (ds : List D) (ρ1 : Env) : Prop := boA P fz l ρ = .ok (ds, ρ1)
abbrev Ivl0 (P : Pr) (l : II) (ρ : Env) (ds : List D) (ρ1 : Env) : Prop := boI P l ρ = .ok (ds, ρ1)
theorem bind_of {α β : Type} {r : R α} {v : α} {f : α → R β} (h : r = .ok v) : r.bind f = f v := by rw [h]; rfl
theorem ob_of {α β : Type} {r : Option α} {v : α} {f : α → R β} (h : r = some v) : (oR r).bind f = f v := by rw [h]; rfl
theorem st_of {α : Type} {r : R α} {v : α} {f : α → SRes} (h : r = .ok v) : r.st f = f v := by rw [h]; rfl
theorem os_of {α : Type} {r : Option α} {v : α} {f : α → SRes} (h : r = some v) : oS r f = f v := by rw [h]; rfl
structure Evl (P : Pr) (e : IE) (ρ : Env) (x : DV.It) (ρ1 : Env) : Prop where
  eq : Evl0 P e ρ x ρ1
structure Tvl (P : Pr) (e : IE) (ρ : Env) (b : Bool) (ρ1 : Env) : Prop where
  eq : Tvl0 P e ρ b ρ1
structure Avl (P : Pr) (fz : Bool) (l : IA) (ρ : Env) (ds : List D) (ρ1 : Env) : Prop where
  eq : Avl0 P fz l ρ ds ρ1
structure Ivl (P : Pr) (l : II) (ρ : Env) (ds : List D) (ρ1 : Env) : Prop where
  eq : Ivl0 P l ρ ds ρ1
structure Sxl (P : Pr) (l : ISs) (ρ : Env) (r : SRes) : Prop where
  eq : sxs P l ρ = r
structure Stl (P : Pr) (l : IO) (ρ : Env) (x : Option Int) (ρ1 : Env) : Prop where
  eq : optE (boO P l) ρ = .ok (x, ρ1)
structure OpV (o : Operator) (x y d : D) : Prop where
  eq : opE o x y = some d
structure CmV (o : CmpOp) (x y d : D) : Prop where
  eq : cmpD o x y = some d
structure IxV (x y d : D) : Prop where
  eq : gIx x y = some d
structure Rn (f : Nat) (F : Fns) (ds : List D) (d : D) (os : List D) : Prop where
  eq : F f ds = .ok d os
structure U1V (o : U1) (x d : D) : Prop where
  eq : o.g x = some d
theorem x_con0 : Evl0 P (.con d) ρ (.val d) ρ := rfl
theorem x_glb0 {n : Nat} (h : P.cs n = d) : Evl0 P (.glb n) ρ (.val d) ρ := by subst h; rfl
theorem x_fnv0 {n : Nat} : Evl0 P (.fnv n) ρ (.val (.fn n)) ρ := rfl
theorem x_var0 (h : slotD ρ i = some d) (f : isFz d = true) : Evl0 P (.var i) ρ (.val d) ρ := by
  show (oR (slotD ρ i)).bind _ = _
  rw [ob_of h, if_pos f]
theorem x_brw0 (h : slotD ρ i = some d) (f : isFz d = false) : Evl0 P (.var i) ρ (.brw i) ρ := by
  show (oR (slotD ρ i)).bind _ = _
  rw [ob_of h, if_neg (by simp [f])]
theorem x_u10 {o : U1} (h : Evl0 P a ρ x ρ1) (h1 : dref ρ1 x = some dx) (h2 : o.g dx = some d) : Evl0 P (.u1 o a) ρ (.val d) ρ1 := by
  show ((bo P a).1 ρ).bind _ = _
  rw [bind_of h, ob_of h1, ob_of h2]
theorem x20 {fa fb : EF} {g : D → D → Option D} (h : fa ρ = .ok (x, ρ1)) (h' : fb ρ1 = .ok (y, ρ2)) (h1 : dref ρ2 x = some dx) (h2 : dref ρ2 y = some dy) (h3 : g dx dy = some d) : ev2 fa fb g ρ = .ok (.val d, ρ2) := by
  show (fa ρ).bind _ = _
  rw [bind_of h, bind_of h', ob_of h1, ob_of h2, ob_of h3]
theorem x_op0 {o : Operator} (h : Evl0 P a ρ x ρ1) (h' : Evl0 P b ρ1 y ρ2) (h1 : dref ρ2 x = some dx) (h2 : dref ρ2 y = some dy) (h3 : opE o dx dy = some d) : Evl0 P (.op o a b) ρ (.val d) ρ2 := x20 h h' h1 h2 h3
theorem x_cmp0 {o : CmpOp} (h : Evl0 P a ρ x ρ1) (h' : Evl0 P b ρ1 y ρ2) (h1 : dref ρ2 x = some dx) (h2 : dref ρ2 y = some dy) (h3 : cmpD o dx dy = some d) : Evl0 P (.cmp o a b) ρ (.val d) ρ2 := x20 h h' h1 h2 h3
theorem x_ix0 (h : Evl0 P a ρ x ρ1) (h' : Evl0 P b ρ1 y ρ2) (h1 : dref ρ2 x = some dx) (h2 : dref ρ2 y = some dy) (h3 : gIx dx dy = some d) : Evl0 P (.ix a b) ρ (.val d) ρ2 := x20 h h' h1 h2 h3
theorem x_chn0 {o o' : CmpOp} {k : Int} (h : Evl0 P a ρ x ρ1) (h' : Evl0 P b ρ1 y ρ2) (h1 : dref ρ2 x = some dx) (h2 : dref ρ2 y = some (.int k)) (h3 : cmpD o dx (.int k) = some (.bl p)) (h4 : Evl0 P c ρ2 z ρ2) (h5 : dref ρ2 z = some dz) (h6 : cmpD o' (.int k) dz = some (.bl q)) : Evl0 P (.chn o o' a b c) ρ (.val (.bl (p && q))) ρ2 := by
  show ((bo P a).1 ρ).bind _ = _
  rw [bind_of h, bind_of h', ob_of h1, ob_of h2, ob_of (show intD (.int k) = some k from rfl), ob_of h3, ob_of (show isB (.val (.bl p)) = some p from rfl)]
  cases p with
  | false => rfl
  | true =>
    rw [if_pos rfl, bind_of h4, ob_of h5, ob_of h6]
    rfl
theorem x_and0 (h : Evl0 P a ρ (.val (.bl p)) ρ1) (h' : p = true → Evl0 P b ρ1 (.val (.bl q)) ρ1) : Evl0 P (.and a b) ρ (.val (.bl (p && q))) ρ1 := by
  show ((bo P a).1 ρ).bind _ = _
  rw [bind_of h, ob_of (show isB (.val (.bl p)) = some p from rfl)]
  cases p with
  | false => rfl
  | true => exact h' rfl
theorem x_or0 (h : Evl0 P a ρ (.val (.bl p)) ρ1) (h' : p = false → Evl0 P b ρ1 (.val (.bl q)) ρ1) : Evl0 P (.or a b) ρ (.val (.bl (p || q))) ρ1 := by
  show ((bo P a).1 ρ).bind _ = _
  rw [bind_of h, ob_of (show isB (.val (.bl p)) = some p from rfl)]
  cases p with
  | true => rfl
  | false => exact h' rfl
theorem x_not0 (h : Evl0 P a ρ (.val (.bl p)) ρ1) : Evl0 P (.not a) ρ (.val (.bl (!p))) ρ1 := by
  show ((bo P a).1 ρ).bind _ = _
  rw [bind_of h]
  rfl
theorem x_ife0 (h : Tvl0 P t ρ p ρ1) (h1 : p = true → Evl0 P a ρ1 (.val d1) ρ2) (h2 : p = false → Evl0 P b ρ1 (.val d2) ρ2) : Evl0 P (.ife t a b) ρ (.val (bif p then d1 else d2)) ρ2 := by
  show ((bo P t).2 ρ).bind _ = _
  rw [bind_of h]
  cases p with
  | true => exact h1 rfl
  | false => exact h2 rfl
theorem t_cmp0 {o : CmpOp} (h : Evl0 P (.cmp o a b) ρ (.val (.bl p)) ρ1) : Tvl0 P (.cmp o a b) ρ p ρ1 := by
  show ((bo P (.cmp o a b)).1 ρ).bind _ = _
  rw [bind_of h]
  rfl
theorem t_chn0 {o o' : CmpOp} (h : Evl0 P (.chn o o' a b c) ρ (.val (.bl p)) ρ1) : Tvl0 P (.chn o o' a b c) ρ p ρ1 := by
  show ((bo P (.chn o o' a b c)).1 ρ).bind _ = _
  rw [bind_of h]
  rfl
theorem t_and0 (h : Tvl0 P a ρ p ρ1) (h' : p = true → Tvl0 P b ρ1 q ρ1) : Tvl0 P (.and a b) ρ (p && q) ρ1 := by
  show ((bo P a).2 ρ).bind _ = _
  rw [bind_of h]
  cases p with
  | false => rfl
  | true => exact h' rfl
theorem t_or0 (h : Tvl0 P a ρ p ρ1) (h' : p = false → Tvl0 P b ρ1 q ρ1) : Tvl0 P (.or a b) ρ (p || q) ρ1 := by
  show ((bo P a).2 ρ).bind _ = _
  rw [bind_of h]
  cases p with
  | true => rfl
  | false => exact h' rfl
theorem t_not0 (h : Tvl0 P a ρ p ρ1) : Tvl0 P (.not a) ρ (!p) ρ1 := by
  show ((bo P a).2 ρ).bind _ = _
  rw [bind_of h]
theorem tT0 {F : EF} (h : F ρ = .ok (x, ρ1)) (h1 : dref ρ1 x = some d) (h2 : truD d = some p) : (evB F).2 ρ = .ok (p, ρ1) := by
  show (F ρ).bind _ = _
  rw [bind_of h, ob_of h1, ob_of h2]
/-- any other expression as a test -/
theorem t_var0 (h : Evl0 P (.var i) ρ x ρ1) (h1 : dref ρ1 x = some d) (h2 : truD d = some p) : Tvl0 P (.var i) ρ p ρ1 := tT0 h h1 h2
theorem t_u10 {o : U1} (h : Evl0 P (.u1 o a) ρ x ρ1) (h1 : dref ρ1 x = some d) (h2 : truD d = some p) : Tvl0 P (.u1 o a) ρ p ρ1 := tT0 h h1 h2
theorem t_call0 {f : Nat} {l : IA} (h : Evl0 P (.call f l) ρ x ρ1) (h1 : dref ρ1 x = some d) (h2 : truD d = some p) : Tvl0 P (.call f l) ρ p ρ1 := tT0 h h1 h2
theorem t_callH0 {f : Nat} {l : IA} (h : Evl0 P (.callH f i l) ρ x ρ1) (h1 : dref ρ1 x = some d) (h2 : truD d = some p) : Tvl0 P (.callH f i l) ρ p ρ1 := tT0 h h1 h2
theorem t_ix0 (h : Evl0 P (.ix a b) ρ x ρ1) (h1 : dref ρ1 x = some d) (h2 : truD d = some p) : Tvl0 P (.ix a b) ρ p ρ1 := tT0 h h1 h2
theorem t_op0 {o : Operator} (h : Evl0 P (.op o a b) ρ x ρ1) (h1 : dref ρ1 x = some d) (h2 : truD d = some p) : Tvl0 P (.op o a b) ρ p ρ1 := tT0 h h1 h2
/-! arguments -/
theorem a_nil0 {fz : Bool} : Avl0 P fz .nil ρ [] ρ := rfl
theorem a_cons0 {fz : Bool} {l : IA} (h : Evl0 P e ρ x ρ1) (h1 : setB fz ρ1 x = some (d, ρ2)) (h2 : Avl0 P fz l ρ2 ds ρ3) : Avl0 P fz (.cons e l) ρ (d :: ds) ρ3 := by
  show ((bo P e).1 ρ).bind _ = _
  rw [bind_of h, ob_of h1, bind_of h2]
theorem x_tup0 {l : IA} (h : Avl0 P true l ρ ds ρ1) (h1 : ds.length ≤ sizeLine) : Evl0 P (.tup l) ρ (.val (.tup ds)) ρ1 := by
  show (boA P true l ρ).bind _ = _
  rw [bind_of h, if_pos h1]
theorem x_lst0 {l : IA} (h : Avl0 P false l ρ ds ρ1) (h1 : ds.length ≤ sizeLine) : Evl0 P (.lst l) ρ (.val (.lst true ds)) ρ1 := by
  show (boA P false l ρ).bind _ = _
  rw [bind_of h, if_pos h1]
theorem x_lstF0 {l : IA} (h : Avl0 P true l ρ ds ρ1) (h1 : ds.length ≤ sizeLine) : Evl0 P (.lstF l) ρ (.val (.lst true ds)) ρ1 := by
  show (boA P true l ρ).bind _ = _
  rw [bind_of h, if_pos h1]
theorem x_call0 {f : Nat} {l : IA} (h : Avl0 P true l ρ ds ρ1) (h1 : P.fn f ds = .ok d []) : Evl0 P (.call f l) ρ (.val d) ρ1 := by
  show (boA P true l ρ).bind _ = _
  rw [bind_of h]
  show FR.r0 ρ1 (P.fn f ds) = _
  rw [h1]
  rfl
theorem x_callH0 {f : Nat} {l : IA} {h0 h' : D} (g0 : slotD ρ i = some h0) (h : Avl0 P true l ρ ds ρ1) (g1 : slotD ρ1 i = some d1) (h1 : P.fn f (d1 :: ds) = .ok d [h']) : Evl0 P (.callH f i l) ρ (.val d) (ρ1.set i (some h')) := by
  show (oR (slotD ρ i)).bind _ = _
  rw [ob_of g0, bind_of h, ob_of g1]
  show FR.r1 ρ1 i (P.fn f (d1 :: ds)) = _
  rw [h1]
  rfl
theorem x_callV0 {ok : List Nat} {n : Nat} {l : IA} (g0 : slotD ρ i = some (.fn n)) (g1 : ok.contains n = true) (h : Avl0 P true l ρ ds ρ1) (h1 : P.fn n ds = .ok d []) : Evl0 P (.callV ok i l) ρ (.val d) ρ1 := by
  show evCallV P ok i (boA P true l) ρ = _
  unfold evCallV
  rw [g0]
  show (if ok.contains n then _ else _) = _
  rw [if_pos g1]
  exact x_call0 h h1
/-! sources -/
theorem i_seq0 (h : Evl0 P e ρ x ρ1) (h1 : settle ρ1 x = some (d, ρ2)) (h2 : itemsD d = some ds) : Ivl0 P (.seq e) ρ ds ρ2 := by
  show ((bo P e).1 ρ).bind _ = _
  rw [bind_of h, ob_of h1, ob_of h2]
theorem i_rng10 {k : Int} (h : Evl0 P a ρ x ρ1) (h1 : dref ρ1 x = some (.int k)) (h2 : smallI k = true) : Ivl0 P (.rng1 a) ρ (rangeD 0 k.toNat) ρ1 := by
  show ((bo P a).1 ρ).bind _ = _
  rw [bind_of h, ob_of h1, ob_of (show intD (.int k) = some k from rfl), if_pos h2]
theorem i_rng20 {k n : Int} (h : Evl0 P a ρ x ρ1) (h' : Evl0 P b ρ1 y ρ2) (h1 : dref ρ2 x = some (.int k)) (h2 : dref ρ2 y = some (.int n)) (h3 : (smallI k && smallI n) = true) : Ivl0 P (.rng2 a b) ρ (rangeD k (n - k).toNat) ρ2 := by
  show ((bo P a).1 ρ).bind _ = _
  rw [bind_of h, bind_of h', ob_of h1, ob_of h2, ob_of (show intD (.int k) = some k from rfl), ob_of (show intD (.int n) = some n from rfl), if_pos h3]
def enumS : D → Option (List D)
  | .tup l => some (enumD 0 l)
  | .scr l => some (enumD 0 l)
  | .lst false l => some (enumD 0 l)
  | _ => none
theorem i_enum0 (h : Evl0 P a ρ x ρ1) (h1 : settle ρ1 x = some (d, ρ2)) (h2 : enumS d = some ds) : Ivl0 P (.enum a) ρ ds ρ2 := by
  show ((bo P a).1 ρ).bind _ = _
  rw [bind_of h, ob_of h1]
  unfold enumS at h2
  split at h2 <;> first | (cases h2; rfl) | cases h2
theorem i_zip0 (h : Avl0 P true (.cons a (.cons b .nil)) ρ ms ρ1) (h1 : zip2 ms = some ds) : Ivl0 P (.zip a b) ρ ds ρ1 := by
  show (boA P true (.cons a (.cons b .nil)) ρ).bind _ = _
  rw [bind_of h, ob_of h1]
/-! comprehensions -/
theorem x_comp0 {vs : List Nat} {it : II} {g : IG} (h : Ivl0 P it ρ ds ρ1) (h1 : ds.length ≤ sizeLine) (h2 : lcLoop vs (gv g) tvYes (bo P e).1 ds (wipeD ρ1 vs) = .ok (ms, ρ2)) : Evl0 P (.comp vs it g e) ρ (.val (.lst true ms)) ρ2 := by
  show (boI P it ρ).bind _ = _
  rw [bind_of h, if_pos h1, bind_of h2]
theorem x_compIf0 {vs : List Nat} {it : II} {g : IG} (h : Ivl0 P it ρ ds ρ1) (h1 : ds.length ≤ sizeLine) (h2 : lcLoop vs (gv g) (bo P t).2 (bo P e).1 ds (wipeD ρ1 vs) = .ok (ms, ρ2)) : Evl0 P (.compIf vs it g t e) ρ (.val (.lst true ms)) ρ2 := by
  show (boI P it ρ).bind _ = _
  rw [bind_of h, if_pos h1, bind_of h2]
/-! more -/
theorem x_sl0 {lo hi : IO} {l h : Option Int} (h0 : Evl0 P a ρ x ρ1) (h1 : optE (boO P lo) ρ1 = .ok (l, ρ2)) (h2 : optE (boO P hi) ρ2 = .ok (h, ρ3)) (h3 : dref ρ3 x = some dx) (h4 : gSl l h dx = some d) : Evl0 P (.sl a lo hi) ρ (.val d) ρ3 := by
  show ((bo P a).1 ρ).bind _ = _
  rw [bind_of h0, bind_of h1, bind_of h2, ob_of h3, ob_of h4]
theorem o_none0 : optE (boO P .none) ρ = .ok (none, ρ) := rfl
theorem o_some0 {k : Int} (h : Evl0 P e ρ x ρ1) (h1 : dref ρ1 x = some (.int k)) : optE (boO P (.some e)) ρ = .ok (some k, ρ1) := by
  show ((bo P e).1 ρ).bind _ = _
  rw [bind_of h, ob_of h1, ob_of (show intD (.int k) = some k from rfl)]
theorem x_rev0 (h : Evl0 P a ρ x ρ1) (h1 : dref ρ1 x = some dx) (h2 : gRev dx = some d) : Evl0 P (.rev a) ρ (.val d) ρ1 := by
  show ((bo P a).1 ρ).bind _ = _
  rw [bind_of h, ob_of h1, ob_of h2]
theorem x_ixx0 {m : SmI} {k n : Int} {d0 : D} (g0 : slotD ρ i = some d0) (h : Evl0 P a ρ x ρ1) (h1 : dref ρ1 x = some (.int k)) (h2 : slotD ρ1 i = some d1) (h3 : getAt d1 k = some d2) (h4 : m.get ρ1 = some n) (h5 : getAt d2 n = some d) (h6 : isFz d = true) : Evl0 P (.ixx i a m) ρ (.val d) ρ1 := by
  show (oR (slotD ρ i)).bind _ = _
  rw [ob_of g0, bind_of h, ob_of h1, ob_of (show intD (.int k) = some k from rfl), ob_of h2, ob_of h3, ob_of h4, ob_of h5, if_pos h6]
theorem x_app0 {l0 l : List D} (g0 : ownAt ρ i = some l0) (h : Evl0 P a ρ x ρ1) (h1 : grab ρ1 x = some (d, ρ2)) (h2 : ownAt ρ2 i = some l) (h3 : l.length < sizeLine) : Evl0 P (.app i a) ρ (.val .non) (putAt ρ2 i (l ++ [d])) := by
  show (oR (ownAt ρ i)).bind _ = _
  rw [ob_of g0, bind_of h, ob_of h1, ob_of h2, if_pos h3]
theorem x_ext0 {l0 l : List D} (g0 : ownAt ρ i = some l0) (h : Evl0 P a ρ x ρ1) (h1 : dref ρ1 x = some d) (h2 : listD d = some ms) (h3 : ownAt ρ1 i = some l) (h4 : l.length + ms.length ≤ sizeLine) : Evl0 P (.ext i a) ρ (.val .non) (putAt ρ1 i (l ++ ms)) := by
  show (oR (ownAt ρ i)).bind _ = _
  rw [ob_of g0, bind_of h, ob_of h1, ob_of h2, ob_of h3, if_pos h4]
theorem x_popAt0 {l0 l : List D} {k : Int} (g0 : ownAt ρ i = some l0) (h : Evl0 P a ρ x ρ1) (h1 : dref ρ1 x = some (.int k)) (h2 : ownAt ρ1 i = some l) (h3 : smallI k = true) (h4 : ixN l.length k = some j) (h5 : l[j]? = some d) : Evl0 P (.popAt i a) ρ (.val d) (putAt ρ1 i (l.eraseIdx j)) := by
  show (oR (ownAt ρ i)).bind _ = _
  rw [ob_of g0, bind_of h, ob_of h1, ob_of (show intD (.int k) = some k from rfl), ob_of h2, if_pos h3, ob_of h4, ob_of h5]
theorem x_pop0 {l : List D} (g0 : ownAt ρ i = some l) (h1 : l[l.length - 1]? = some d) : Evl0 P (.pop i) ρ (.val d) (putAt ρ i (l.eraseIdx (l.length - 1))) := by
  show (oR (ownAt ρ i)).bind _ = _
  rw [ob_of g0, ob_of h1]
theorem x_lr10 {k : Int} (h : Evl0 P a ρ x ρ1) (h1 : dref ρ1 x = some (.int k)) (h2 : rgOk 0 k = true) : Evl0 P (.lr1 a) ρ (.val (.lst true (rangeD 0 k.toNat))) ρ1 := by
  show ((bo P a).1 ρ).bind _ = _
  rw [bind_of h, ob_of h1, ob_of (show intD (.int k) = some k from rfl), if_pos h2]

theorem x_mx0 {mn : Bool} {m n : Int} (h : Evl0 P a ρ x ρ1) (h' : Evl0 P b ρ1 y ρ2) (h1 : dref ρ2 x = some (.int m)) (h2 : dref ρ2 y = some (.int n)) : Evl0 P (.mx mn a b) ρ (.val (.int (if mn then (if n < m then n else m) else (if n > m then n else m)))) ρ2 := x20 h h' h1 h2 rfl
theorem x_dnew0 {t : Bool} : Evl0 P (.dnew t) ρ (.val (.dct true t [] [])) ρ := rfl
theorem x_dix0 {l : IA} {d0 : D} (g0 : slotD ρ i = some d0) (h : Avl0 P true l ρ ds ρ1) (h1 : ds.length ≤ sizeLine) (h2 : slotD ρ1 i = some d1) (h3 : dGet d1 ds = some d) (h4 : isFz d = true) : Evl0 P (.dix i l) ρ (.val d) ρ1 := by
  show (oR (slotD ρ i)).bind _ = _
  rw [ob_of g0, bind_of h, if_pos h1, ob_of h2, ob_of h3, if_pos h4]

/-! ### statements -/
def ISs.app : ISs → ISs → ISs
  | .nil, r => r
  | .cons s l, r => .cons s (l.app r)
theorem sxs_app : ∀ (l r : ISs) (ρ : Env), sxs P (l.app r) ρ = svSeq (sxs P l) (sxs P r) ρ
  | .nil, r, ρ => rfl
  | .cons s l, r, ρ => by
    show svSeq (sx P s) (sxs P (l.app r)) ρ = svSeq (svSeq (sx P s) (sxs P l)) (sxs P r) ρ
    unfold svSeq
    cases sx P s ρ with
    | nx ρ' =>
      show sxs P (l.app r) ρ' = _
      rw [sxs_app l r ρ']
      rfl
    | _ => rfl
variable {rest : ISs} {r r1 r2 : SRes} {g : IG}
theorem s_nil0 : sxs P .nil ρ = .nx ρ := rfl
theorem seq_of0 {s : IS} (h : sx P s ρ = .nx ρ1) (h1 : sxs P rest ρ1 = r) : sxs P (.cons s rest) ρ = r := by
  show svSeq (sx P s) (sxs P rest) ρ = r
  unfold svSeq
  rw [h]
  exact h1
theorem s_pass0 (h : sxs P rest ρ = r) : sxs P (.cons .pass rest) ρ = r := seq_of0 rfl h
theorem s_ex0 (h : Evl0 P e ρ x ρ1) (h1 : sxs P rest ρ1 = r) : sxs P (.cons (.ex e) rest) ρ = r := seq_of0 (by
  show ((bo P e).1 ρ).st _ = _
  rw [st_of h]) h1
theorem s_rt0 (h : Evl0 P e ρ x ρ1) (h1 : giveD ρ1 x = some (d, ρ2)) : sxs P (.cons (.rt e) rest) ρ = .rt d ρ2 := by
  show svSeq (sx P (.rt e)) (sxs P rest) ρ = _
  have : sx P (.rt e) ρ = .rt d ρ2 := by
    show ((bo P e).1 ρ).st _ = _
    rw [st_of h, os_of h1]
  unfold svSeq
  rw [this]
theorem s_brk0 : sxs P (.cons .brk rest) ρ = .bk ρ := rfl
theorem s_cnt0 : sxs P (.cons .cnt rest) ρ = .ct ρ := rfl
theorem s_asg0 (h : Evl0 P e ρ x ρ1) (h1 : grab ρ1 x = some (d, ρ2)) (h2 : gv g d ρ2 = some ρ3) (h3 : sxs P rest ρ3 = r) : sxs P (.cons (.asg g e) rest) ρ = r := seq_of0 (by
  show ((bo P e).1 ρ).st _ = _
  rw [st_of h, os_of h1, os_of h2]) h3
theorem s_par0 {gs' : IGs} {l : IA} (h : Avl0 P false l ρ ds ρ1) (h1 : gvs gs' ds ρ1 = some ρ2) (h2 : sxs P rest ρ2 = r) : sxs P (.cons (.par gs' l) rest) ρ = r := seq_of0 (by
  show (boA P false l ρ).st _ = _
  rw [st_of h, os_of h1]) h2
theorem s_ife0 {l m : ISs} (h : Tvl0 P t ρ p ρ1) (h1 : p = true → sxs P (l.app rest) ρ1 = r1) (h2 : p = false → sxs P (m.app rest) ρ1 = r2) : sxs P (.cons (.ife t l m) rest) ρ = bif p then r1 else r2 := by
  show svSeq (sx P (.ife t l m)) (sxs P rest) ρ = _
  have e : sx P (.ife t l m) ρ = if p then sxs P l ρ1 else sxs P m ρ1 := by
    show ((bo P t).2 ρ).st _ = _
    rw [st_of h]
  unfold svSeq
  rw [e]
  cases p with
  | true =>
    have := h1 rfl
    rw [sxs_app] at this
    exact this
  | false =>
    have := h2 rfl
    rw [sxs_app] at this
    exact this
theorem s_ifT0 {l m : ISs} (h : Tvl0 P t ρ true ρ1) (h1 : sxs P (l.app rest) ρ1 = r) : sxs P (.cons (.ife t l m) rest) ρ = r := s_ife0 (r1 := r) (r2 := .no) h (fun _ => h1) (fun z => nomatch z)
theorem s_ifF0 {l m : ISs} (h : Tvl0 P t ρ false ρ1) (h1 : sxs P (m.app rest) ρ1 = r) : sxs P (.cons (.ife t l m) rest) ρ = r := s_ife0 (r1 := .no) (r2 := r) h (fun z => nomatch z) (fun _ => h1)
theorem s_sto0 {l0 l : List D} {k : Int} (h : Evl0 P e ρ x ρ1) (h1 : grab ρ1 x = some (d, ρ2)) (h2 : ownAt ρ2 i = some l0) (h3 : Evl0 P a ρ2 y ρ3) (h4 : dref ρ3 y = some (.int k)) (h5 : ownAt ρ3 i = some l) (h6 : ixN l.length k = some j) (h7 : sxs P rest (putAt ρ3 i (l.set j d)) = r) : sxs P (.cons (.sto i a e) rest) ρ = r := seq_of0 (by
  show ((bo P e).1 ρ).st _ = _
  rw [st_of h, os_of h1, os_of h2, st_of h3, os_of h4, os_of (show intD (.int k) = some k from rfl), os_of h5, os_of h6]) h7
theorem s_aug0 {o : AO} {l0 l l2 : List D} {k m n : Int} (h : ownAt ρ i = some l0) (h1 : Evl0 P a ρ x ρ1) (h2 : dref ρ1 x = some (.int k)) (h3 : ownAt ρ1 i = some l) (h4 : atI l k = some (.int m)) (h5 : Evl0 P e ρ1 y ρ2) (h6 : dref ρ2 y = some (.int n)) (h7 : ownAt ρ2 i = some l2) (h8 : ixN l2.length k = some j) (h9 : sxs P rest (putAt ρ2 i (l2.set j (.int (o.f m n)))) = r) : sxs P (.cons (.aug o i a e) rest) ρ = r := seq_of0 (by
  show oS (ownAt ρ i) _ = _
  rw [os_of h, st_of h1, os_of h2, os_of (show intD (.int k) = some k from rfl), os_of h3, os_of h4, os_of (show intD (.int m) = some m from rfl), st_of h5, os_of h6, os_of (show intD (.int n) = some n from rfl), os_of h7, os_of h8]) h9
theorem s_augN0 {o : AO} {m n : Int} (h : slotD ρ i = some (.int m)) (h1 : Evl0 P e ρ x ρ1) (h2 : dref ρ1 x = some (.int n)) (h3 : i < ρ1.length) (h4 : sxs P rest (ρ1.set i (some (.int (o.f m n)))) = r) : sxs P (.cons (.augN o i e) rest) ρ = r := seq_of0 (by
  show oS (slotD ρ i) _ = _
  rw [os_of h, os_of (show intD (.int m) = some m from rfl), st_of h1, os_of h2, os_of (show intD (.int n) = some n from rfl), if_pos h3]) h4
theorem s_dput0 {l : IA} {d0 d' : D} (h : Evl0 P e ρ x ρ1) (h1 : settle ρ1 x = some (d, ρ2)) (h2 : slotD ρ2 i = some d0) (h3 : Avl0 P true l ρ2 ds ρ3) (h4 : ds.length ≤ sizeLine) (h5 : slotD ρ3 i = some d1) (h6 : dPutE d1 ds d = some d') (h7 : sxs P rest (ρ3.set i (some d')) = r) : sxs P (.cons (.dput i l e) rest) ρ = r := seq_of0 (by
  show ((bo P e).1 ρ).st _ = _
  rw [st_of h, os_of h1, os_of h2, st_of h3, if_pos h4, os_of h5, os_of h6]) h7
theorem s_for0 {it : II} {l : ISs} (h : Ivl0 P it ρ ds ρ1) (h1 : fLoop (gv g) (sxs P l) ds ρ1 = .nx ρ2) (h2 : sxs P rest ρ2 = r) : sxs P (.cons (.for it g l) rest) ρ = r := seq_of0 (by
  show (boI P it ρ).st _ = _
  rw [st_of h]
  exact h1) h2
theorem s_whl0 {n : Nat} {l : ISs} (h : wLoop (bo P t).2 (sxs P l) n ρ = .nx ρ1) (h1 : sxs P rest ρ1 = r) : sxs P (.cons (.whl n t l) rest) ρ = r := seq_of0 h h1
/-! defs -/
theorem f_rt0 {np nN : Nat} {l : ISs} (h0 : ds.length = np) (h : sxs P l (ds.map some ++ List.replicate (nN - np) none) = .rt d ρ) : fnF np nN false (sxs P l) ds = .ok d [] := by
  unfold fnF
  rw [if_pos h0, h]
  rfl
theorem f_nx0 {np nN : Nat} {l : ISs} (h0 : ds.length = np) (h : sxs P l (ds.map some ++ List.replicate (nN - np) none) = .nx ρ) : fnF np nN false (sxs P l) ds = .ok .non [] := by
  unfold fnF
  rw [if_pos h0, h]
  rfl
theorem f_rtH0 {np nN : Nat} {l : ISs} {hd : D} (h0 : ds.length = np) (h : sxs P l (ds.map some ++ List.replicate (nN - np) none) = .rt d ρ) (h1 : slotD ρ 0 = some hd) : fnF np nN true (sxs P l) ds = .ok d [hd] := by
  unfold fnF
  rw [if_pos h0, h]
  show finD true d ρ = _
  unfold finD
  rw [if_pos rfl, h1]
end
/-! operations -/
theorem op_add {x y : Int} : opE .Add (.int x) (.int y) = some (.int (x + y)) := rfl
theorem op_sub {x y : Int} : opE .Sub (.int x) (.int y) = some (.int (x - y)) := rfl
theorem op_mul {x y : Int} (h : mulOk x y = true) : opE .Mult (.int x) (.int y) = some (.int (x * y)) := by
  show ((if mulOk x y = true then some (D.int (x * y)) else none).or _).or _ = _
  rw [if_pos h]
  rfl
theorem op_div {x y : Int} (h : 0 < y) (h2 : y < 1073741824) : opE .FloorDiv (.int x) (.int y) = some (.int (x / y)) := by
  show Option.or (if (decide (0 < y) && decide (y < 1073741824)) = true then some (D.int (x / y)) else none) _ = _
  rw [if_pos (by simp [h, h2])]
  rfl
theorem op_fdiv {x y : Int} (h : y ≠ 0) (h2 : y.natAbs < 1073741824) : opE .FloorDiv (.int x) (.int y) = some (.int (x.fdiv y)) := by
  show Option.or (if (decide (0 < y) && decide (y < 1073741824)) = true then some (D.int (x / y)) else none) (if (decide (y ≠ 0) && decide (y.natAbs < 1073741824)) = true then some (D.int (x.fdiv y)) else none) = _
  have e2 : (if (decide (y ≠ 0) && decide (y.natAbs < 1073741824)) = true then some (D.int (x.fdiv y)) else none) = some (D.int (x.fdiv y)) := if_pos (by simp [h, h2])
  by_cases z : (decide (0 < y) && decide (y < 1073741824)) = true
  · rw [if_pos z, Int.fdiv_eq_ediv_of_nonneg _ (by simp at z; omega)]
    rfl
  · rw [if_neg z, e2]
    rfl
theorem op_mod {x y : Int} (h : 0 < y) : opE .Mod (.int x) (.int y) = some (.int (x % y)) := by
  show (if decide (0 < y) = true then some (D.int (x % y)) else none) = _
  rw [if_pos (by simp [h])]
theorem ix_lst {o : Bool} {l : List D} {k : Int} {d : D} (h : atI l k = some d) (f : isFz d = true) : gIx (.lst o l) (.int k) = some d := by
  show (atI l k).bind _ = _
  rw [h]
  show (if isFz d then some d else none) = _
  rw [if_pos f]
theorem ix_tup {l : List D} {k : Int} {d : D} (h : atI l k = some d) : gIx (.tup l) (.int k) = some d := h
theorem at_map {α β : Type} {l : List α} {f : α → β} {k : Int} {a : α} (h : atI l k = some a) : atI (l.map f) k = some (f a) := by
  unfold atI at h ⊢
  obtain ⟨j, e1, e2⟩ := Option.bind_eq_some_iff.mp h
  rw [List.length_map, e1]
  show (l.map f)[j]? = _
  rw [List.getElem?_map, e2]
  rfl
theorem at_nat {α : Type} {l : List α} {k : Int} {a : α} (h0 : 0 ≤ k) (h : l[k.toNat]? = some a) : atI l k = some a := by
  have := (List.getElem?_eq_some_iff.mp h).1
  unfold atI ixN
  rw [if_pos h0, if_pos (by omega)]
  exact h
theorem int_eq {x y : Int} : cmpD .Eq (.int x) (.int y) = some (.bl (decide (x = y))) := by
  show (eqD (.int x) (.int y)).map _ = _
  have : eqD (.int x) (.int y) = some (decide (x = y)) := by
    unfold eqD
    simp [toP, PyData.depth, PyData.eqv]
    rfl
  rw [this]
  rfl
theorem int_ne {x y : Int} : cmpD .NotEq (.int x) (.int y) = some (.bl (!decide (x = y))) := by
  have : eqD (.int x) (.int y) = some (decide (x = y)) := by
    unfold eqD
    simp [toP, PyData.depth, PyData.eqv]
    rfl
  simp only [cmpD, this]
  rfl
theorem x_con  : Evl P (.con d) ρ (.val d) ρ := ⟨x_con0 ⟩
theorem x_glb {n : Nat} (h : P.cs n = d) : Evl P (.glb n) ρ (.val d) ρ := ⟨x_glb0 h⟩
theorem x_fnv {n : Nat} : Evl P (.fnv n) ρ (.val (.fn n)) ρ := ⟨x_fnv0 ⟩
theorem x_var (h : slotD ρ i = some d) (f : isFz d = true) : Evl P (.var i) ρ (.val d) ρ := ⟨x_var0 h f⟩
theorem x_brw (h : slotD ρ i = some d) (f : isFz d = false) : Evl P (.var i) ρ (.brw i) ρ := ⟨x_brw0 h f⟩
theorem x_u1 {o : U1} (h : Evl P a ρ x ρ1) (h1 : dref ρ1 x = some dx) (h2 : U1V o dx d) : Evl P (.u1 o a) ρ (.val d) ρ1 := ⟨x_u10 h.eq h1 h2.eq⟩
theorem x_op {o : Operator} (h : Evl P a ρ x ρ1) (h' : Evl P b ρ1 y ρ2) (h1 : dref ρ2 x = some dx) (h2 : dref ρ2 y = some dy) (h3 : OpV o dx dy d) : Evl P (.op o a b) ρ (.val d) ρ2 := ⟨x_op0 h.eq h'.eq h1 h2 h3.eq⟩
theorem x_cmp {o : CmpOp} (h : Evl P a ρ x ρ1) (h' : Evl P b ρ1 y ρ2) (h1 : dref ρ2 x = some dx) (h2 : dref ρ2 y = some dy) (h3 : CmV o dx dy d) : Evl P (.cmp o a b) ρ (.val d) ρ2 := ⟨x_cmp0 h.eq h'.eq h1 h2 h3.eq⟩
theorem x_ix (h : Evl P a ρ x ρ1) (h' : Evl P b ρ1 y ρ2) (h1 : dref ρ2 x = some dx) (h2 : dref ρ2 y = some dy) (h3 : IxV dx dy d) : Evl P (.ix a b) ρ (.val d) ρ2 := ⟨x_ix0 h.eq h'.eq h1 h2 h3.eq⟩
theorem x_chn {o o' : CmpOp} {k : Int} (h : Evl P a ρ x ρ1) (h' : Evl P b ρ1 y ρ2) (h1 : dref ρ2 x = some dx) (h2 : dref ρ2 y = some (.int k)) (h3 : CmV o dx (.int k) (.bl p)) (h4 : Evl P c ρ2 z ρ2) (h5 : dref ρ2 z = some dz) (h6 : CmV o' (.int k) dz (.bl q)) : Evl P (.chn o o' a b c) ρ (.val (.bl (p && q))) ρ2 := ⟨x_chn0 h.eq h'.eq h1 h2 h3.eq h4.eq h5 h6.eq⟩
theorem x_and (h : Evl P a ρ (.val (.bl p)) ρ1) (h' : p = true → Evl P b ρ1 (.val (.bl q)) ρ1) : Evl P (.and a b) ρ (.val (.bl (p && q))) ρ1 := ⟨x_and0 h.eq (fun z => (h' z).eq)⟩
theorem x_or (h : Evl P a ρ (.val (.bl p)) ρ1) (h' : p = false → Evl P b ρ1 (.val (.bl q)) ρ1) : Evl P (.or a b) ρ (.val (.bl (p || q))) ρ1 := ⟨x_or0 h.eq (fun z => (h' z).eq)⟩
theorem x_not (h : Evl P a ρ (.val (.bl p)) ρ1) : Evl P (.not a) ρ (.val (.bl (!p))) ρ1 := ⟨x_not0 h.eq⟩
theorem x_ife (h : Tvl P t ρ p ρ1) (h1 : p = true → Evl P a ρ1 (.val d1) ρ2) (h2 : p = false → Evl P b ρ1 (.val d2) ρ2) : Evl P (.ife t a b) ρ (.val (bif p then d1 else d2)) ρ2 := ⟨x_ife0 h.eq (fun z => (h1 z).eq) (fun z => (h2 z).eq)⟩
theorem t_cmp {o : CmpOp} (h : Evl P (.cmp o a b) ρ (.val (.bl p)) ρ1) : Tvl P (.cmp o a b) ρ p ρ1 := ⟨t_cmp0 h.eq⟩
theorem t_chn {o o' : CmpOp} (h : Evl P (.chn o o' a b c) ρ (.val (.bl p)) ρ1) : Tvl P (.chn o o' a b c) ρ p ρ1 := ⟨t_chn0 h.eq⟩
theorem t_and (h : Tvl P a ρ p ρ1) (h' : p = true → Tvl P b ρ1 q ρ1) : Tvl P (.and a b) ρ (p && q) ρ1 := ⟨t_and0 h.eq (fun z => (h' z).eq)⟩
theorem t_or (h : Tvl P a ρ p ρ1) (h' : p = false → Tvl P b ρ1 q ρ1) : Tvl P (.or a b) ρ (p || q) ρ1 := ⟨t_or0 h.eq (fun z => (h' z).eq)⟩
theorem t_not (h : Tvl P a ρ p ρ1) : Tvl P (.not a) ρ (!p) ρ1 := ⟨t_not0 h.eq⟩
theorem t_var (h : Evl P (.var i) ρ x ρ1) (h1 : dref ρ1 x = some d) (h2 : truD d = some p) : Tvl P (.var i) ρ p ρ1 := ⟨t_var0 h.eq h1 h2⟩
theorem t_u1 {o : U1} (h : Evl P (.u1 o a) ρ x ρ1) (h1 : dref ρ1 x = some d) (h2 : truD d = some p) : Tvl P (.u1 o a) ρ p ρ1 := ⟨t_u10 h.eq h1 h2⟩
theorem t_call {f : Nat} {l : IA} (h : Evl P (.call f l) ρ x ρ1) (h1 : dref ρ1 x = some d) (h2 : truD d = some p) : Tvl P (.call f l) ρ p ρ1 := ⟨t_call0 h.eq h1 h2⟩
theorem t_callH {f : Nat} {l : IA} (h : Evl P (.callH f i l) ρ x ρ1) (h1 : dref ρ1 x = some d) (h2 : truD d = some p) : Tvl P (.callH f i l) ρ p ρ1 := ⟨t_callH0 h.eq h1 h2⟩
theorem t_ix (h : Evl P (.ix a b) ρ x ρ1) (h1 : dref ρ1 x = some d) (h2 : truD d = some p) : Tvl P (.ix a b) ρ p ρ1 := ⟨t_ix0 h.eq h1 h2⟩
theorem t_op {o : Operator} (h : Evl P (.op o a b) ρ x ρ1) (h1 : dref ρ1 x = some d) (h2 : truD d = some p) : Tvl P (.op o a b) ρ p ρ1 := ⟨t_op0 h.eq h1 h2⟩
theorem a_nil {fz : Bool} : Avl P fz .nil ρ [] ρ := ⟨a_nil0 ⟩
theorem a_cons {fz : Bool} {l : IA} (h : Evl P e ρ x ρ1) (h1 : setB fz ρ1 x = some (d, ρ2)) (h2 : Avl P fz l ρ2 ds ρ3) : Avl P fz (.cons e l) ρ (d :: ds) ρ3 := ⟨a_cons0 h.eq h1 h2.eq⟩
theorem x_tup {l : IA} (h : Avl P true l ρ ds ρ1) (h1 : ds.length ≤ sizeLine) : Evl P (.tup l) ρ (.val (.tup ds)) ρ1 := ⟨x_tup0 h.eq h1⟩
theorem x_lst {l : IA} (h : Avl P false l ρ ds ρ1) (h1 : ds.length ≤ sizeLine) : Evl P (.lst l) ρ (.val (.lst true ds)) ρ1 := ⟨x_lst0 h.eq h1⟩
theorem x_lstF {l : IA} (h : Avl P true l ρ ds ρ1) (h1 : ds.length ≤ sizeLine) : Evl P (.lstF l) ρ (.val (.lst true ds)) ρ1 := ⟨x_lstF0 h.eq h1⟩
theorem x_call {f : Nat} {l : IA} (h : Avl P true l ρ ds ρ1) (h1 : Rn f P.fn ds d []) : Evl P (.call f l) ρ (.val d) ρ1 := ⟨x_call0 h.eq h1.eq⟩
theorem x_callH {f : Nat} {l : IA} {h0 h' : D} (g0 : slotD ρ i = some h0) (h : Avl P true l ρ ds ρ1) (g1 : slotD ρ1 i = some d1) (h1 : Rn f P.fn (d1 :: ds) d [h']) : Evl P (.callH f i l) ρ (.val d) (ρ1.set i (some h')) := ⟨x_callH0 g0 h.eq g1 h1.eq⟩
theorem x_callV {ok : List Nat} {n : Nat} {l : IA} (g0 : slotD ρ i = some (.fn n)) (g1 : ok.contains n = true) (h : Avl P true l ρ ds ρ1) (h1 : Rn n P.fn ds d []) : Evl P (.callV ok i l) ρ (.val d) ρ1 := ⟨x_callV0 g0 g1 h.eq h1.eq⟩
theorem i_seq (h : Evl P e ρ x ρ1) (h1 : settle ρ1 x = some (d, ρ2)) (h2 : itemsD d = some ds) : Ivl P (.seq e) ρ ds ρ2 := ⟨i_seq0 h.eq h1 h2⟩
theorem i_rng1 {k : Int} (h : Evl P a ρ x ρ1) (h1 : dref ρ1 x = some (.int k)) (h2 : smallI k = true) : Ivl P (.rng1 a) ρ (rangeD 0 k.toNat) ρ1 := ⟨i_rng10 h.eq h1 h2⟩
theorem i_rng2 {k n : Int} (h : Evl P a ρ x ρ1) (h' : Evl P b ρ1 y ρ2) (h1 : dref ρ2 x = some (.int k)) (h2 : dref ρ2 y = some (.int n)) (h3 : (smallI k && smallI n) = true) : Ivl P (.rng2 a b) ρ (rangeD k (n - k).toNat) ρ2 := ⟨i_rng20 h.eq h'.eq h1 h2 h3⟩
theorem i_enum (h : Evl P a ρ x ρ1) (h1 : settle ρ1 x = some (d, ρ2)) (h2 : enumS d = some ds) : Ivl P (.enum a) ρ ds ρ2 := ⟨i_enum0 h.eq h1 h2⟩
theorem i_zip (h : Avl P true (.cons a (.cons b .nil)) ρ ms ρ1) (h1 : zip2 ms = some ds) : Ivl P (.zip a b) ρ ds ρ1 := ⟨i_zip0 h.eq h1⟩
theorem x_comp {vs : List Nat} {it : II} {g : IG} (h : Ivl P it ρ ds ρ1) (h1 : ds.length ≤ sizeLine) (h2 : lcLoop vs (gv g) tvYes (bo P e).1 ds (wipeD ρ1 vs) = .ok (ms, ρ2)) : Evl P (.comp vs it g e) ρ (.val (.lst true ms)) ρ2 := ⟨x_comp0 h.eq h1 h2⟩
theorem x_compIf {vs : List Nat} {it : II} {g : IG} (h : Ivl P it ρ ds ρ1) (h1 : ds.length ≤ sizeLine) (h2 : lcLoop vs (gv g) (bo P t).2 (bo P e).1 ds (wipeD ρ1 vs) = .ok (ms, ρ2)) : Evl P (.compIf vs it g t e) ρ (.val (.lst true ms)) ρ2 := ⟨x_compIf0 h.eq h1 h2⟩
theorem x_sl {lo hi : IO} {l h : Option Int} (h0 : Evl P a ρ x ρ1) (h1 : Stl P lo ρ1 l ρ2) (h2 : Stl P hi ρ2 h ρ3) (h3 : dref ρ3 x = some dx) (h4 : gSl l h dx = some d) : Evl P (.sl a lo hi) ρ (.val d) ρ3 := ⟨x_sl0 h0.eq h1.eq h2.eq h3 h4⟩
theorem o_none  : Stl P .none ρ none ρ := ⟨o_none0 ⟩
theorem o_some {k : Int} (h : Evl P e ρ x ρ1) (h1 : dref ρ1 x = some (.int k)) : Stl P (.some e) ρ (some k) ρ1 := ⟨o_some0 h.eq h1⟩
theorem x_rev (h : Evl P a ρ x ρ1) (h1 : dref ρ1 x = some dx) (h2 : gRev dx = some d) : Evl P (.rev a) ρ (.val d) ρ1 := ⟨x_rev0 h.eq h1 h2⟩
theorem x_ixx {m : SmI} {k n : Int} {d0 : D} (g0 : slotD ρ i = some d0) (h : Evl P a ρ x ρ1) (h1 : dref ρ1 x = some (.int k)) (h2 : slotD ρ1 i = some d1) (h3 : getAt d1 k = some d2) (h4 : m.get ρ1 = some n) (h5 : getAt d2 n = some d) (h6 : isFz d = true) : Evl P (.ixx i a m) ρ (.val d) ρ1 := ⟨x_ixx0 g0 h.eq h1 h2 h3 h4 h5 h6⟩
theorem x_app {l0 l : List D} (g0 : ownAt ρ i = some l0) (h : Evl P a ρ x ρ1) (h1 : grab ρ1 x = some (d, ρ2)) (h2 : ownAt ρ2 i = some l) (h3 : l.length < sizeLine) : Evl P (.app i a) ρ (.val .non) (putAt ρ2 i (l ++ [d])) := ⟨x_app0 g0 h.eq h1 h2 h3⟩
theorem x_ext {l0 l : List D} (g0 : ownAt ρ i = some l0) (h : Evl P a ρ x ρ1) (h1 : dref ρ1 x = some d) (h2 : listD d = some ms) (h3 : ownAt ρ1 i = some l) (h4 : l.length + ms.length ≤ sizeLine) : Evl P (.ext i a) ρ (.val .non) (putAt ρ1 i (l ++ ms)) := ⟨x_ext0 g0 h.eq h1 h2 h3 h4⟩
theorem x_popAt {l0 l : List D} {k : Int} (g0 : ownAt ρ i = some l0) (h : Evl P a ρ x ρ1) (h1 : dref ρ1 x = some (.int k)) (h2 : ownAt ρ1 i = some l) (h3 : smallI k = true) (h4 : ixN l.length k = some j) (h5 : l[j]? = some d) : Evl P (.popAt i a) ρ (.val d) (putAt ρ1 i (l.eraseIdx j)) := ⟨x_popAt0 g0 h.eq h1 h2 h3 h4 h5⟩
theorem x_pop {l : List D} (g0 : ownAt ρ i = some l) (h1 : l[l.length - 1]? = some d) : Evl P (.pop i) ρ (.val d) (putAt ρ i (l.eraseIdx (l.length - 1))) := ⟨x_pop0 g0 h1⟩
theorem x_lr1 {k : Int} (h : Evl P a ρ x ρ1) (h1 : dref ρ1 x = some (.int k)) (h2 : rgOk 0 k = true) : Evl P (.lr1 a) ρ (.val (.lst true (rangeD 0 k.toNat))) ρ1 := ⟨x_lr10 h.eq h1 h2⟩
theorem x_mx {mn : Bool} {m n : Int} (h : Evl P a ρ x ρ1) (h' : Evl P b ρ1 y ρ2) (h1 : dref ρ2 x = some (.int m)) (h2 : dref ρ2 y = some (.int n)) : Evl P (.mx mn a b) ρ (.val (.int (if mn then (if n < m then n else m) else (if n > m then n else m)))) ρ2 := ⟨x_mx0 h.eq h'.eq h1 h2⟩
theorem x_dnew {t : Bool} : Evl P (.dnew t) ρ (.val (.dct true t [] [])) ρ := ⟨x_dnew0 ⟩
theorem x_dix {l : IA} {d0 : D} (g0 : slotD ρ i = some d0) (h : Avl P true l ρ ds ρ1) (h1 : ds.length ≤ sizeLine) (h2 : slotD ρ1 i = some d1) (h3 : dGet d1 ds = some d) (h4 : isFz d = true) : Evl P (.dix i l) ρ (.val d) ρ1 := ⟨x_dix0 g0 h.eq h1 h2 h3 h4⟩
variable {rest : ISs} {r r1 r2 : SRes} {g : IG}
theorem s_nil  : Sxl P .nil ρ (.nx ρ) := ⟨s_nil0 ⟩
theorem s_pass (h : Sxl P rest ρ (r)) : Sxl P (.cons .pass rest) ρ (r) := ⟨s_pass0 h.eq⟩
theorem s_ex (h : Evl P e ρ x ρ1) (h1 : Sxl P rest ρ1 (r)) : Sxl P (.cons (.ex e) rest) ρ (r) := ⟨s_ex0 h.eq h1.eq⟩
theorem s_rt (h : Evl P e ρ x ρ1) (h1 : giveD ρ1 x = some (d, ρ2)) : Sxl P (.cons (.rt e) rest) ρ (.rt d ρ2) := ⟨s_rt0 h.eq h1⟩
theorem s_brk  : Sxl P (.cons .brk rest) ρ (.bk ρ) := ⟨s_brk0 ⟩
theorem s_cnt  : Sxl P (.cons .cnt rest) ρ (.ct ρ) := ⟨s_cnt0 ⟩
theorem s_asg (h : Evl P e ρ x ρ1) (h1 : grab ρ1 x = some (d, ρ2)) (h2 : gv g d ρ2 = some ρ3) (h3 : Sxl P rest ρ3 (r)) : Sxl P (.cons (.asg g e) rest) ρ (r) := ⟨s_asg0 h.eq h1 h2 h3.eq⟩
theorem s_par {gs' : IGs} {l : IA} (h : Avl P false l ρ ds ρ1) (h1 : gvs gs' ds ρ1 = some ρ2) (h2 : Sxl P rest ρ2 (r)) : Sxl P (.cons (.par gs' l) rest) ρ (r) := ⟨s_par0 h.eq h1 h2.eq⟩
theorem s_ife {l m : ISs} (h : Tvl P t ρ p ρ1) (h1 : p = true → Sxl P (l.app rest) ρ1 (r1)) (h2 : p = false → Sxl P (m.app rest) ρ1 (r2)) : Sxl P (.cons (.ife t l m) rest) ρ (bif p then r1 else r2) := ⟨s_ife0 h.eq (fun z => (h1 z).eq) (fun z => (h2 z).eq)⟩
theorem s_ifT {l m : ISs} (h : Tvl P t ρ true ρ1) (h1 : Sxl P (l.app rest) ρ1 (r)) : Sxl P (.cons (.ife t l m) rest) ρ (r) := ⟨s_ifT0 h.eq h1.eq⟩
theorem s_ifF {l m : ISs} (h : Tvl P t ρ false ρ1) (h1 : Sxl P (m.app rest) ρ1 (r)) : Sxl P (.cons (.ife t l m) rest) ρ (r) := ⟨s_ifF0 h.eq h1.eq⟩
theorem s_sto {l0 l : List D} {k : Int} (h : Evl P e ρ x ρ1) (h1 : grab ρ1 x = some (d, ρ2)) (h2 : ownAt ρ2 i = some l0) (h3 : Evl P a ρ2 y ρ3) (h4 : dref ρ3 y = some (.int k)) (h5 : ownAt ρ3 i = some l) (h6 : ixN l.length k = some j) (h7 : Sxl P rest (putAt ρ3 i (l.set j d)) (r)) : Sxl P (.cons (.sto i a e) rest) ρ (r) := ⟨s_sto0 h.eq h1 h2 h3.eq h4 h5 h6 h7.eq⟩
theorem s_aug {o : AO} {l0 l l2 : List D} {k m n : Int} (h : ownAt ρ i = some l0) (h1 : Evl P a ρ x ρ1) (h2 : dref ρ1 x = some (.int k)) (h3 : ownAt ρ1 i = some l) (h4 : atI l k = some (.int m)) (h5 : Evl P e ρ1 y ρ2) (h6 : dref ρ2 y = some (.int n)) (h7 : ownAt ρ2 i = some l2) (h8 : ixN l2.length k = some j) (h9 : Sxl P rest (putAt ρ2 i (l2.set j (.int (o.f m n)))) (r)) : Sxl P (.cons (.aug o i a e) rest) ρ (r) := ⟨s_aug0 h h1.eq h2 h3 h4 h5.eq h6 h7 h8 h9.eq⟩
theorem s_augN {o : AO} {m n : Int} (h : slotD ρ i = some (.int m)) (h1 : Evl P e ρ x ρ1) (h2 : dref ρ1 x = some (.int n)) (h3 : i < ρ1.length) (h4 : Sxl P rest (ρ1.set i (some (.int (o.f m n)))) (r)) : Sxl P (.cons (.augN o i e) rest) ρ (r) := ⟨s_augN0 h h1.eq h2 h3 h4.eq⟩
theorem s_dput {l : IA} {d0 d' : D} (h : Evl P e ρ x ρ1) (h1 : settle ρ1 x = some (d, ρ2)) (h2 : slotD ρ2 i = some d0) (h3 : Avl P true l ρ2 ds ρ3) (h4 : ds.length ≤ sizeLine) (h5 : slotD ρ3 i = some d1) (h6 : dPutE d1 ds d = some d') (h7 : Sxl P rest (ρ3.set i (some d')) (r)) : Sxl P (.cons (.dput i l e) rest) ρ (r) := ⟨s_dput0 h.eq h1 h2 h3.eq h4 h5 h6 h7.eq⟩
theorem s_for {it : II} {l : ISs} (h : Ivl P it ρ ds ρ1) (h1 : fLoop (gv g) (sxs P l) ds ρ1 = .nx ρ2) (h2 : Sxl P rest ρ2 (r)) : Sxl P (.cons (.for it g l) rest) ρ (r) := ⟨s_for0 h.eq h1 h2.eq⟩
theorem s_whl {n : Nat} {l : ISs} (h : wLoop (bo P t).2 (sxs P l) n ρ = .nx ρ1) (h1 : Sxl P rest ρ1 (r)) : Sxl P (.cons (.whl n t l) rest) ρ (r) := ⟨s_whl0 h h1.eq⟩
theorem f_rt {np nN : Nat} {l : ISs} (h0 : ds.length = np) (h : Sxl P l (ds.map some ++ List.replicate (nN - np) none) (.rt d ρ)) : fnF np nN false (sxs P l) ds = .ok d [] := f_rt0 h0 h.eq
theorem f_nx {np nN : Nat} {l : ISs} (h0 : ds.length = np) (h : Sxl P l (ds.map some ++ List.replicate (nN - np) none) (.nx ρ)) : fnF np nN false (sxs P l) ds = .ok .non [] := f_nx0 h0 h.eq
theorem f_rtH {np nN : Nat} {l : ISs} {hd : D} (h0 : ds.length = np) (h : Sxl P l (ds.map some ++ List.replicate (nN - np) none) (.rt d ρ)) (h1 : slotD ρ 0 = some hd) : fnF np nN true (sxs P l) ds = .ok d [hd] := f_rtH0 h0 h.eq h1
theorem op_add' {x y : Int} : OpV .Add (.int x) (.int y) (.int (x + y)) := ⟨op_add ⟩
theorem op_sub' {x y : Int} : OpV .Sub (.int x) (.int y) (.int (x - y)) := ⟨op_sub ⟩
theorem op_mul' {x y : Int} (h : mulOk x y = true) : OpV .Mult (.int x) (.int y) (.int (x * y)) := ⟨op_mul h⟩
theorem op_div' {x y : Int} (h : 0 < y) (h2 : y < 1073741824) : OpV .FloorDiv (.int x) (.int y) (.int (x / y)) := ⟨op_div h h2⟩
theorem op_fdiv' {x y : Int} (h : y ≠ 0) (h2 : y.natAbs < 1073741824) : OpV .FloorDiv (.int x) (.int y) (.int (x.fdiv y)) := ⟨op_fdiv h h2⟩
theorem op_mod' {x y : Int} (h : 0 < y) : OpV .Mod (.int x) (.int y) (.int (x % y)) := ⟨op_mod h⟩
theorem ix_lst' {o : Bool} {l : List D} {k : Int} {d : D} (h : atI l k = some d) (f : isFz d = true) : IxV (.lst o l) (.int k) d := ⟨ix_lst h f⟩
theorem ix_tup' {l : List D} {k : Int} {d : D} (h : atI l k = some d) : IxV (.tup l) (.int k) d := ⟨ix_tup h⟩
theorem int_eq' {x y : Int} : CmV .Eq (.int x) (.int y) (.bl (decide (x = y))) := ⟨int_eq ⟩
theorem int_ne' {x y : Int} : CmV .NotEq (.int x) (.int y) (.bl (!decide (x = y))) := ⟨int_ne ⟩
theorem isFzA_ints : ∀ l : List Int, isFzA (l.map D.int) = true
  | [] => rfl
  | _ :: l => by simp [isFzA, isFz, isFzA_ints l]
/-- the hand of drawn numbers -/
def handD (cs : List Int) (a b c d : Int) : D := .lst true [.lst false (cs.map .int), .int a, .int b, .int c, .int d]
def HandOk (h : D) : Prop := ∃ cs a b c d, h = handD cs a b c d ∧ 0 ≤ a ∧ 0 ≤ b ∧ 0 ≤ c ∧ 0 ≤ d ∧ cs.length ≤ 63 ∧ ∀ x ∈ cs, 0 ≤ x
end DV
namespace DV
open PySem L2
section
variable {P : Pr} {e t : IE} {vs : List Nat} {g : IG}
/-- a comprehension that leaves all as it was -/
theorem lc_map {ρ : Env} (f : D → D) : ∀ (l : List D), (∀ d ∈ l, ∃ ρ1, gv g d ρ = some ρ1 ∧ Evl P e ρ1 (.val (f d)) ρ1 ∧ wipeD ρ1 vs = ρ) → lcLoop vs (gv g) tvYes (bo P e).1 l ρ = .ok (l.map f, ρ)
  | [], _ => rfl
  | d :: l, h => by
    obtain ⟨ρ1, h1, h2, h3⟩ := h d (by simp)
    have ih := lc_map f l fun d hd => h d (by simp [hd])
    show ((oR (gv g d ρ)).bind fun ρ1 => (tvYes ρ1).ne.bind fun b => _) = _
    rw [ob_of h1]
    show (((bo P e).1 ρ1).ne.bind fun p => (oR (grab p.2 p.1)).bind fun q => (lcLoop vs (gv g) tvYes (bo P e).1 l (wipeD q.2 vs)).bind fun r => R.ok (q.1 :: r.1, r.2)) = _
    rw [show (bo P e).1 ρ1 = _ from h2.eq]
    show ((lcLoop vs (gv g) tvYes (bo P e).1 l (wipeD ρ1 vs)).bind fun r => R.ok (f d :: r.1, r.2)) = _
    rw [h3, ih]
    rfl
theorem lc_mapM {α : Type} {ρ : Env} {G F : α → D} : ∀ (ms : List α), (∀ a ∈ ms, ∃ ρ2, gv g (G a) ρ = some ρ2 ∧ Evl P e ρ2 (.val (F a)) ρ2 ∧ wipeD ρ2 vs = ρ) → lcLoop vs (gv g) tvYes (bo P e).1 (ms.map G) ρ = .ok (ms.map F, ρ)
  | [], _ => rfl
  | d :: l, h => by
    obtain ⟨ρ1, h1, h2, h3⟩ := h d (by simp)
    have ih := lc_mapM (G := G) (F := F) l fun d hd => h d (by simp [hd])
    show ((oR (gv g (G d) ρ)).bind fun ρ1 => (tvYes ρ1).ne.bind fun b => _) = _
    rw [ob_of h1]
    show (((bo P e).1 ρ1).ne.bind fun p => (oR (grab p.2 p.1)).bind fun q => (lcLoop vs (gv g) tvYes (bo P e).1 (l.map G) (wipeD q.2 vs)).bind fun r => R.ok (q.1 :: r.1, r.2)) = _
    rw [show (bo P e).1 ρ1 = _ from h2.eq]
    show ((lcLoop vs (gv g) tvYes (bo P e).1 (l.map G) (wipeD ρ1 vs)).bind fun r => R.ok (F d :: r.1, r.2)) = _
    rw [h3, ih]
    rfl
theorem lc_filt {α : Type} {ρ : Env} {G F : α → D} {p : α → Bool} : ∀ (ms : List α), (∀ a ∈ ms, ∃ ρ2, gv g (G a) ρ = some ρ2 ∧ Tvl P t ρ2 (p a) ρ2 ∧ (p a = true → Evl P e ρ2 (.val (F a)) ρ2) ∧ wipeD ρ2 vs = ρ) → lcLoop vs (gv g) (bo P t).2 (bo P e).1 (ms.map G) ρ = .ok ((ms.filter p).map F, ρ)
  | [], _ => rfl
  | d :: l, h => by
    obtain ⟨ρ1, h1, h0, h2, h3⟩ := h d (by simp)
    have ih := lc_filt (G := G) (F := F) l fun d hd => h d (by simp [hd])
    show ((oR (gv g (G d) ρ)).bind fun ρ1 => ((bo P t).2 ρ1).ne.bind fun b => _) = _
    rw [ob_of h1]
    show (((bo P t).2 ρ1).ne.bind fun b => if b.1 then (((bo P e).1 b.2).ne.bind fun p => (oR (grab p.2 p.1)).bind fun q => (lcLoop vs (gv g) (bo P t).2 (bo P e).1 (l.map G) (wipeD q.2 vs)).bind fun r => R.ok (q.1 :: r.1, r.2)) else lcLoop vs (gv g) (bo P t).2 (bo P e).1 (l.map G) (wipeD b.2 vs)) = _
    rw [show (bo P t).2 ρ1 = _ from h0.eq]
    show (if p d = true then (((bo P e).1 ρ1).ne.bind fun p => (oR (grab p.2 p.1)).bind fun q => (lcLoop vs (gv g) (bo P t).2 (bo P e).1 (l.map G) (wipeD q.2 vs)).bind fun r => R.ok (q.1 :: r.1, r.2)) else lcLoop vs (gv g) (bo P t).2 (bo P e).1 (l.map G) (wipeD ρ1 vs)) = _
    by_cases z : p d = true
    · rw [if_pos z, show (bo P e).1 ρ1 = _ from (h2 z).eq, List.filter_cons_of_pos z]
      show ((lcLoop vs (gv g) (bo P t).2 (bo P e).1 (l.map G) (wipeD ρ1 vs)).bind fun r => R.ok (F d :: r.1, r.2)) = _
      rw [h3, ih]
      rfl
    · rw [if_neg z, List.filter_cons_of_neg z, h3, ih]
theorem x_compIfM {α : Type} {it : II} {ρ ρ1 ρ' : Env} (ms : List α) (G F : α → D) (p : α → Bool) (h : Ivl P it ρ (ms.map G) ρ1) (hl : ms.length ≤ sizeLine) (hw : wipeD ρ1 vs = ρ') (h2 : ∀ a ∈ ms, ∃ ρ2, gv g (G a) ρ' = some ρ2 ∧ Tvl P t ρ2 (p a) ρ2 ∧ (p a = true → Evl P e ρ2 (.val (F a)) ρ2) ∧ wipeD ρ2 vs = ρ') : Evl P (.compIf vs it g t e) ρ (.val (.lst true ((ms.filter p).map F))) ρ' := by
  subst hw
  exact x_compIf h (by simpa using hl) (lc_filt ms h2)
theorem x_compM {α : Type} {it : II} {ρ ρ1 ρ' : Env} (ms : List α) (G F : α → D) (h : Ivl P it ρ (ms.map G) ρ1) (hl : ms.length ≤ sizeLine) (hw : wipeD ρ1 vs = ρ') (h2 : ∀ a ∈ ms, ∃ ρ2, gv g (G a) ρ' = some ρ2 ∧ Evl P e ρ2 (.val (F a)) ρ2 ∧ wipeD ρ2 vs = ρ') : Evl P (.comp vs it g e) ρ (.val (.lst true (ms.map F))) ρ' := by
  subst hw
  exact x_comp h (by simpa using hl) (lc_mapM ms h2)
/-- a comprehension whose parts change something that stays good -/
theorem lc_st (I : Env → Prop) (Rl : D → Prop) : ∀ (l : List D) (ρ : Env), I ρ → (∀ d ∈ l, ∀ ρ, I ρ → ∃ ρ1 r ρ2, gv g d ρ = some ρ1 ∧ Evl P e ρ1 (.val r) ρ2 ∧ Rl r ∧ I (wipeD ρ2 vs)) → ∃ m ρ', lcLoop vs (gv g) tvYes (bo P e).1 l ρ = .ok (m, ρ') ∧ I ρ' ∧ m.length = l.length ∧ ∀ r ∈ m, Rl r
  | [], ρ, hi, _ => ⟨[], ρ, rfl, hi, rfl, by simp⟩
  | d :: l, ρ, hi, h => by
    obtain ⟨ρ1, r, ρ2, h1, h2, h3, h4⟩ := h d (by simp) ρ hi
    obtain ⟨m, ρ', e1, e2, e3, e4⟩ := lc_st I Rl l (wipeD ρ2 vs) h4 fun d hd => h d (by simp [hd])
    refine ⟨r :: m, ρ', ?_, e2, by simp [e3], fun x hx => ?_⟩
    · show ((oR (gv g d ρ)).bind fun ρ1 => (tvYes ρ1).ne.bind fun b => _) = _
      rw [ob_of h1]
      show (((bo P e).1 ρ1).ne.bind fun p => (oR (grab p.2 p.1)).bind fun q => (lcLoop vs (gv g) tvYes (bo P e).1 l (wipeD q.2 vs)).bind fun r => R.ok (q.1 :: r.1, r.2)) = _
      rw [show (bo P e).1 ρ1 = _ from h2.eq]
      show ((lcLoop vs (gv g) tvYes (bo P e).1 l (wipeD ρ2 vs)).bind fun q => R.ok (r :: q.1, q.2)) = _
      rw [e1]
      rfl
    · rcases List.mem_cons.mp hx with rfl | hx
      · exact h3
      · exact e4 x hx
/-- a for loop, one state for each number of rounds -/
theorem for_inv {l : ISs} (I : Nat → Env → Prop) (ds : List D) : ∀ (k : Nat) (rs : List D) (ρ : Env), ds.drop k = rs → k ≤ ds.length → I k ρ → (∀ (i : Nat) (d : D) (ρ : Env), ds[i]? = some d → I i ρ → ∃ ρ1 ρ2, gv g d ρ = some ρ1 ∧ (Sxl P l ρ1 (.nx ρ2) ∨ Sxl P l ρ1 (.ct ρ2)) ∧ I (i + 1) ρ2) → ∃ ρ', fLoop (gv g) (sxs P l) rs ρ = .nx ρ' ∧ I ds.length ρ'
  | k, [], ρ, er, hk, hi, h => by
    have : k = ds.length := by
      have := congrArg List.length er
      simp at this
      omega
    exact ⟨ρ, rfl, this ▸ hi⟩
  | k, d :: rs, ρ, er, hk, hi, h => by
    have hlt : k < ds.length := by
      have := congrArg List.length er
      simp at this
      omega
    have e1 : ds[k]? = some d := by
      have := congrArg List.head? er
      rw [List.head?_drop] at this
      exact this
    have e2 : ds.drop (k + 1) = rs := by
      have := congrArg List.tail er
      rw [List.tail_drop] at this
      exact this
    obtain ⟨ρ1, ρ2, h1, h2, h3⟩ := h k d ρ e1 hi
    obtain ⟨ρ', h4, h5⟩ := for_inv I ds (k + 1) rs ρ2 e2 hlt h3 h
    refine ⟨ρ', ?_, h5⟩
    show oS (gv g d ρ) _ = _
    rw [os_of h1]
    rcases h2 with h2 | h2
    · show (match sxs P l ρ1 with
        | .nx ρ' => fLoop (gv g) (sxs P l) rs ρ'
        | .ct ρ' => fLoop (gv g) (sxs P l) rs ρ'
        | .bk ρ' => .nx ρ'
        | .rt d ρ' => .rt d ρ'
        | .er x ρ' => .er x ρ'
        | .no => .no) = _
      rw [h2.eq]
      exact h4
    · show (match sxs P l ρ1 with
        | .nx ρ' => fLoop (gv g) (sxs P l) rs ρ'
        | .ct ρ' => fLoop (gv g) (sxs P l) rs ρ'
        | .bk ρ' => .nx ρ'
        | .rt d ρ' => .rt d ρ'
        | .er x ρ' => .er x ρ'
        | .no => .no) = _
      rw [h2.eq]
      exact h4
theorem for_all {l : ISs} (I : Nat → Env → Prop) (ds : List D) {ρ : Env} (hi : I 0 ρ) (h : ∀ (i : Nat) (d : D) (ρ : Env), ds[i]? = some d → I i ρ → ∃ ρ1 ρ2, gv g d ρ = some ρ1 ∧ (Sxl P l ρ1 (.nx ρ2) ∨ Sxl P l ρ1 (.ct ρ2)) ∧ I (i + 1) ρ2) : ∃ ρ', fLoop (gv g) (sxs P l) ds ρ = .nx ρ' ∧ I ds.length ρ' :=
  for_inv I ds 0 ds ρ rfl (Nat.zero_le _) hi h
/-- a while loop by a measure -/
theorem whl_inv {l : ISs} (I : Nat → Env → Prop) (h : ∀ (m : Nat) (ρ : Env), I m ρ → (∃ ρ1, Tvl P t ρ false ρ1 ∧ I 0 ρ1 ∧ m = 0) ∨ ∃ ρ1 ρ2 m', Tvl P t ρ true ρ1 ∧ Sxl P l ρ1 (.nx ρ2) ∧ I m' ρ2 ∧ m' < m) : ∀ (n m : Nat) (ρ : Env), m < n → I m ρ → ∃ ρ', wLoop (bo P t).2 (sxs P l) n ρ = .nx ρ' ∧ I 0 ρ'
  | 0, _, _, z, _ => absurd z (Nat.not_lt_zero _)
  | n + 1, m, ρ, z, hi => by
    rcases h m ρ hi with ⟨ρ1, h1, h2, _⟩ | ⟨ρ1, ρ2, m', h1, h2, h3, h4⟩
    · refine ⟨ρ1, ?_, h2⟩
      show ((bo P t).2 ρ).st _ = _
      rw [st_of h1.eq]
      rfl
    · obtain ⟨ρ', h5, h6⟩ := whl_inv I h n m' ρ2 (by omega) h3
      refine ⟨ρ', ?_, h6⟩
      show ((bo P t).2 ρ).st _ = _
      rw [st_of h1.eq]
      show (match sxs P l ρ1 with
        | .nx ρ' => wLoop (bo P t).2 (sxs P l) n ρ'
        | .ct ρ' => wLoop (bo P t).2 (sxs P l) n ρ'
        | .bk ρ' => .nx ρ'
        | .rt d ρ' => .rt d ρ'
        | .er x ρ' => .er x ρ'
        | .no => .no) = _
      rw [h2.eq]
      exact h5
end
/-! ### the end of a def -/
def finR : SRes → FR
  | .nx _ => .ok .non []
  | .rt d _ => .ok d []
  | .er x _ => .er x []
  | _ => .no
def finH : SRes → FR
  | .nx ρ => finD true .non ρ
  | .rt d ρ => finD true d ρ
  | .er x ρ => (match slotD ρ 0 with
    | some h => .er x [h]
    | none => .no)
  | _ => .no
section
variable {P : Pr} {l rest : ISs} {r : SRes} {ρ ρ1 ρ2 : Env} {np nN : Nat} {ds : List D} {a : IE} {x : DV.It} {t : IE} {p : Bool} {m1 m2 : ISs}
theorem f_ev (h0 : ds.length = np) (h : Sxl P l (ds.map some ++ List.replicate (nN - np) none) r) : fnF np nN false (sxs P l) ds = finR r := by
  unfold fnF
  rw [if_pos h0, h.eq]
  cases r <;> rfl
theorem f_evH (h0 : ds.length = np) (h : Sxl P l (ds.map some ++ List.replicate (nN - np) none) r) : fnF np nN true (sxs P l) ds = finH r := by
  unfold fnF
  rw [if_pos h0, h.eq]
  cases r <;> rfl
theorem x_and2 {a b : IE} {z : DV.It} (h : Evl P a ρ (.val (.bl true)) ρ1) (h' : Evl P b ρ1 z ρ2) : Evl P (.and a b) ρ z ρ2 := ⟨by
  show ((bo P a).1 ρ).bind _ = _
  rw [bind_of h.eq, ob_of (show isB (.val (.bl true)) = some true from rfl)]
  exact h'.eq⟩
theorem x_ifeT' {a b : IE} {d1 : D} (h : Tvl P t ρ p ρ1) (e : p = true) (h1 : Evl P a ρ1 (.val d1) ρ2) : Evl P (.ife t a b) ρ (.val d1) ρ2 := by
  subst e
  exact x_ife (d2 := d1) h (fun _ => h1) (fun z => nomatch z)
theorem x_ifeF' {a b : IE} {d1 : D} (h : Tvl P t ρ p ρ1) (e : p = false) (h1 : Evl P b ρ1 (.val d1) ρ2) : Evl P (.ife t a b) ρ (.val d1) ρ2 := by
  subst e
  exact x_ife (d1 := d1) h (fun z => nomatch z) (fun _ => h1)
theorem s_dead : Sxl P (.cons .dead rest) ρ .no := ⟨rfl⟩
theorem s_ifF' (h : Tvl P t ρ p ρ1) (e : p = false) (h1 : Sxl P (m2.app rest) ρ1 r) : Sxl P (.cons (.ife t m1 m2) rest) ρ r := by
  subst e
  exact s_ifF h h1
theorem s_ifT' (h : Tvl P t ρ p ρ1) (e : p = true) (h1 : Sxl P (m1.app rest) ρ1 r) : Sxl P (.cons (.ife t m1 m2) rest) ρ r := by
  subst e
  exact s_ifT h h1
theorem enumD_ints : ∀ (m : List Int) (n : Nat), enumD n (m.map D.int) = (m.zipIdx n).map fun p => D.tup [.int (p.2 : Int), .int p.1]
  | [], _ => rfl
  | x :: m, n => by simp [enumD, enumD_ints m (n + 1)]
theorem i_enumI {m : List Int} (h : Evl P a ρ x ρ1) (h1 : settle ρ1 x = some (.tup (m.map .int), ρ2)) : Ivl P (.enum a) ρ ((m.zipIdx).map fun p => D.tup [.int (p.2 : Int), .int p.1]) ρ2 := by
  rw [← enumD_ints m 0]
  exact i_enum h h1 rfl
theorem zip_lt {m : List Int} {p : Int × Nat} (h : p ∈ m.zipIdx) : p.2 < m.length ∧ p.1 ∈ m := by
  obtain ⟨x, i⟩ := p
  have := List.mem_zipIdx h
  simp at this
  exact ⟨this.1, by rw [this.2]; exact List.getElem_mem _⟩
end
section
variable {P : Pr} {g : IG} {l : ISs}
theorem fl_nil {ρ : Env} : fLoop (gv g) (sxs P l) [] ρ = .nx ρ := rfl
theorem fl_cons {ds : List D} {d : D} {ρ ρ1 ρ2 ρ3 : Env} (h1 : gv g d ρ = some ρ1) (h2 : Sxl P l ρ1 (.nx ρ2)) (h3 : fLoop (gv g) (sxs P l) ds ρ2 = .nx ρ3) : fLoop (gv g) (sxs P l) (d :: ds) ρ = .nx ρ3 := by
  show oS (gv g d ρ) _ = _
  rw [os_of h1]
  show (match sxs P l ρ1 with
    | .nx ρ' => fLoop (gv g) (sxs P l) ds ρ'
    | .ct ρ' => fLoop (gv g) (sxs P l) ds ρ'
    | .bk ρ' => .nx ρ'
    | .rt d ρ' => .rt d ρ'
    | .er x ρ' => .er x ρ'
    | .no => .no) = _
  rw [h2.eq]
  exact h3
end
theorem zipD_map {α β : Type} (f : α → D) (g : β → D) : ∀ (l : List α) (m : List β), zipD (l.map f) (m.map g) = (l.zip m).map fun p => D.tup [f p.1, g p.2]
  | [], _ => rfl
  | _ :: _, [] => rfl
  | x :: l, y :: m => by simp [zipD, zipD_map f g l m]
/-! ### lists of numbers, of flags -/
theorem intsD_map : ∀ l : List Int, intsD (l.map D.int) = some l
  | [] => rfl
  | x :: l => by
    show (match D.int x with
      | .int i => (intsD (l.map D.int)).map (i :: ·)
      | _ => none) = _
    simp [intsD_map l]
theorem blsD_map : ∀ l : List Bool, blsD (l.map D.bl) = some l
  | [] => rfl
  | x :: l => by
    show (match D.bl x with
      | .bl i => (blsD (l.map D.bl)).map (i :: ·)
      | _ => none) = _
    simp [blsD_map l]
theorem isFzA_bls : ∀ l : List Bool, isFzA (l.map D.bl) = true
  | [] => rfl
  | _ :: l => by simp [isFzA, isFz, isFzA_bls l]
theorem u_sumT {l : List Int} : U1V .sum (.tup (l.map .int)) (.int l.sum) := ⟨by simp [U1.g, gSum, seqD, intsD_map, isFzA_ints]⟩
theorem u_sumL {o : Bool} {l : List Int} : U1V .sum (.lst o (l.map .int)) (.int l.sum) := ⟨by simp [U1.g, gSum, seqD, listD, intsD_map, isFzA_ints]⟩
theorem u_allL {o : Bool} {l : List Bool} : U1V .all (.lst o (l.map .bl)) (.bl (l.all id)) := ⟨by simp [U1.g, gAll, seqD, listD, blsD_map, isFzA_bls]⟩
theorem u_anyL {o : Bool} {l : List Bool} : U1V .any (.lst o (l.map .bl)) (.bl (l.any id)) := ⟨by simp [U1.g, gAny, seqD, listD, blsD_map, isFzA_bls]⟩
theorem u_allM {α : Type} {o : Bool} {ms : List α} {f : α → Bool} : U1V .all (.lst o (ms.map fun a => .bl (f a))) (.bl (ms.all f)) := by
  have := u_allL (o := o) (l := ms.map f)
  rw [List.map_map, List.all_map] at this
  exact this
theorem u_anyM {α : Type} {o : Bool} {ms : List α} {f : α → Bool} : U1V .any (.lst o (ms.map fun a => .bl (f a))) (.bl (ms.any f)) := by
  have := u_anyL (o := o) (l := ms.map f)
  rw [List.map_map, List.any_map] at this
  exact this
theorem u_sumM {α : Type} {o : Bool} {ms : List α} {f : α → Int} : U1V .sum (.lst o (ms.map fun a => .int (f a))) (.int (ms.map f).sum) := by
  have := u_sumL (o := o) (l := ms.map f)
  rw [List.map_map] at this
  exact this
theorem u_tupL {o : Bool} {l : List D} (h : isFzA l = true) : U1V .tuple (.lst o l) (.tup l) := ⟨by
  show gTuple (.lst o l) = _
  simp [gTuple, seqD, listD, h]⟩
theorem frzA_ints : ∀ l : List Int, frzA (l.map D.int) = l.map D.int
  | [] => rfl
  | _ :: l => by simp [frzA, frz, frzA_ints l]
theorem frzA_bls : ∀ l : List Bool, frzA (l.map D.bl) = l.map D.bl
  | [] => rfl
  | _ :: l => by simp [frzA, frz, frzA_bls l]
theorem toPA_ints : ∀ l : List Int, toPA (l.map D.int) = some (l.map PyData.int)
  | [] => rfl
  | x :: l => by simp [toPA, toP, toPA_ints l]
theorem eq_same {a b : D} {p : PyData} (h1 : toP a = some p) (h2 : toP b = some p) (h3 : p.depth ≤ 150) (h4 : PySem.W.alike p p = true) : eqD a b = some true := by
  unfold eqD
  rw [h1, h2]
  show (if min p.depth p.depth ≤ 150 then some (PyData.eqv p p) else none) = _
  rw [if_pos (by omega), PySem.W.eqv_refl_alike p h4]
theorem eqv_its : ∀ l m : List Int, PyData.eqvAll (l.map .int) (m.map .int) = decide (l = m)
  | [], [] => by (simp [PyData.eqvAll])
  | [], _ :: _ => by (simp [PyData.eqvAll])
  | _ :: _, [] => by (simp [PyData.eqvAll])
  | x :: l, y :: m => by
    simp only [List.map_cons, PyData.eqvAll, PyData.eqv, eqv_its l m, List.cons.injEq]
    by_cases h : x = y <;> simp [h]
theorem eq_itT (l m : List Int) : eqD (.tup (l.map .int)) (.tup (m.map .int)) = some (decide (l = m)) := by
  unfold eqD
  simp only [toP, toPA_ints, Option.map_some, Option.bind_some]
  simp only [PyData.depth, PySem.W.depth_ints, PyData.eqv, eqv_its]
  rw [if_pos (by decide)]
theorem isFzA_its (l : List Int) : isFzA (l.map D.int) = true := isFzA_ints l
theorem eq_itL (o o' : Bool) (l m : List Int) : eqD (.lst o (l.map .int)) (.lst o' (m.map .int)) = some (decide (l = m)) := by
  unfold eqD
  simp only [toP, toPA_ints, isFzA_ints, if_true, Option.map_some, Option.bind_some]
  simp only [PyData.depth, PySem.W.depth_ints, PyData.eqv, eqv_its]
  rw [if_pos (by decide)]
theorem cm_eq {a b : D} {p : Bool} (h : eqD a b = some p) : CmV .Eq a b (.bl p) := ⟨by simp [cmpD, h]⟩
theorem cm_ne {a b : D} {p : Bool} (h : eqD a b = some p) : CmV .NotEq a b (.bl (!p)) := ⟨by simp [cmpD, h]⟩
theorem ne_two {a b c d : Int} : CmV .NotEq (.tup [.int a, .int b]) (.tup [.int c, .int d]) (.bl (!decide ([a, b] = [c, d]))) := cm_ne (eq_itT [a, b] [c, d])
theorem eq_two {a b c d : Int} : CmV .Eq (.tup [.int a, .int b]) (.tup [.int c, .int d]) (.bl (decide ([a, b] = [c, d]))) := cm_eq (eq_itT [a, b] [c, d])
theorem eq_itT' {l m : List Int} : CmV .Eq (.tup (l.map .int)) (.tup (m.map .int)) (.bl (decide (l = m))) := cm_eq (eq_itT l m)
theorem ne_itT' {l m : List Int} : CmV .NotEq (.tup (l.map .int)) (.tup (m.map .int)) (.bl (!decide (l = m))) := cm_ne (eq_itT l m)
theorem eq_itL' {o o' : Bool} {l m : List Int} : CmV .Eq (.lst o (l.map .int)) (.lst o' (m.map .int)) (.bl (decide (l = m))) := cm_eq (eq_itL o o' l m)
theorem ne_itL' {o o' : Bool} {l m : List Int} : CmV .NotEq (.lst o (l.map .int)) (.lst o' (m.map .int)) (.bl (!decide (l = m))) := cm_ne (eq_itL o o' l m)
/-! ### errors, lambdas -/
structure Erl (P : Pr) (e : IE) (ρ : Env) (x : Exn) (ρ1 : Env) : Prop where
  eq : (bo P e).1 ρ = .er x ρ1
structure RnE (f : Nat) (F : Fns) (ds : List D) (x : Exn) : Prop where
  eq : F f ds = .er x []
section
variable {P : Pr} {ρ ρ1 ρ2 ρ3 : Env} {a e : IE} {x y : DV.It} {d d1 : D} {i j : Nat} {ds l l0 m1 : List D} {z : Exn} {rest : ISs} {r : SRes}
theorem e_call {f : Nat} {l : IA} (h : Avl P true l ρ ds ρ1) (h1 : RnE f P.fn ds z) : Erl P (.call f l) ρ z ρ1 := ⟨by
  show (boA P true l ρ).bind _ = _
  rw [bind_of h.eq]
  show FR.r0 ρ1 (P.fn f ds) = _
  rw [h1.eq]
  rfl⟩
theorem s_exE (h : Erl P e ρ z ρ1) : Sxl P (.cons (.ex e) rest) ρ (.er z ρ1) := ⟨by
  show svSeq (sx P (.ex e)) (sxs P rest) ρ = _
  have : sx P (.ex e) ρ = .er z ρ1 := by
    show ((bo P e).1 ρ).st _ = _
    rw [h.eq]
    rfl
  unfold svSeq
  rw [this]⟩
theorem s_rz {n : Nat} : Sxl P (.cons (.rz n) rest) ρ (.er ⟨n, []⟩ ρ) := ⟨rfl⟩
theorem x_lamE {f : Nat} {ks : List Nat} (h0 : frzS ks ρ = some ρ1) (h : Erl P e (keepG 0 ks ρ1) z ρ2) (h1 : P.wd f (.er z []) = .ok d []) : Evl P (.lamc f ks e) ρ (.val d) ρ1 := ⟨by
  show (oR (frzS ks ρ)).bind _ = _
  rw [ob_of h0]
  have : lamO (bo P e).1 (keepG 0 ks ρ1) = .er z [] := by
    unfold lamO
    rw [h.eq]
  show (match P.wd f (lamO (bo P e).1 (keepG 0 ks ρ1)) with
    | .ok d [] => R.ok (DV.It.val d, ρ1)
    | _ => .no) = _
  rw [this, h1]⟩
theorem x_lamV {f : Nat} {ks : List Nat} (h0 : frzS ks ρ = some ρ1) (h : Evl P e (keepG 0 ks ρ1) x ρ2) (hg : grab ρ2 x = some (d1, ρ3)) (h1 : P.wd f (.ok d1 []) = .ok d []) : Evl P (.lamc f ks e) ρ (.val d) ρ1 := ⟨by
  show (oR (frzS ks ρ)).bind _ = _
  rw [ob_of h0]
  have : lamO (bo P e).1 (keepG 0 ks ρ1) = .ok d1 [] := by
    unfold lamO
    rw [h.eq]
    show (match grab ρ2 x with
      | some q => FR.ok q.1 []
      | none => .no) = _
    rw [hg]
  show (match P.wd f (lamO (bo P e).1 (keepG 0 ks ρ1)) with
    | .ok d [] => R.ok (DV.It.val d, ρ1)
    | _ => .no) = _
  rw [this, h1]⟩
theorem s_sto2 {m : SmI} {k n : Int} {j2 : Nat} (h : Evl P e ρ x ρ1) (h1 : grab ρ1 x = some (d, ρ2)) (h2 : ownAt ρ2 i = some l0) (h3 : Evl P a ρ2 y ρ3) (h4 : dref ρ3 y = some (.int k)) (h5 : ownAt ρ3 i = some l) (h6 : rowAt l k = some (j, m1)) (h7 : m.get ρ3 = some n) (h8 : ixN m1.length n = some j2) (h9 : Sxl P rest (putAt ρ3 i (l.set j (.lst true (m1.set j2 d)))) r) : Sxl P (.cons (.sto2 i a m e) rest) ρ r := ⟨by
  show svSeq (sx P (.sto2 i a m e)) (sxs P rest) ρ = _
  have : sx P (.sto2 i a m e) ρ = .nx (putAt ρ3 i (l.set j (.lst true (m1.set j2 d)))) := by
    show ((bo P e).1 ρ).st _ = _
    rw [st_of h.eq, os_of h1, os_of h2, st_of h3.eq, os_of h4, os_of (show intD (.int k) = some k from rfl), os_of h5, os_of h6, os_of h7, os_of h8]
  unfold svSeq
  rw [this]
  exact h9.eq⟩
end
end DV
namespace DV
open PySem L2
/-! more step rules -/
mutual
theorem fz_frz : ∀ d : D, isFz d = true → frz d = d
  | .non, _ => rfl
  | .bl _, _ => rfl
  | .int _, _ => rfl
  | .str _, _ => rfl
  | .tup _, _ => rfl
  | .scr _, _ => rfl
  | .fn _, _ => rfl
  | .lst o l, h => by
    simp only [isFz, Bool.and_eq_true, Bool.not_eq_true'] at h
    rw [frz, fzA_frz l h.2, h.1]
  | .dct o t ks vs, h => by
    simp only [isFz, Bool.and_eq_true, Bool.not_eq_true'] at h
    rw [frz, fzA_frz vs h.2, h.1]
theorem fzA_frz : ∀ l : List D, isFzA l = true → frzA l = l
  | [], _ => rfl
  | d :: l, h => by
    simp only [isFzA, Bool.and_eq_true] at h
    rw [frzA, fz_frz d h.1, fzA_frz l h.2]
end
theorem isFzA_mem : ∀ {l : List D} {d : D}, isFzA l = true → d ∈ l → isFz d = true
  | [], _, _, h => by simp at h
  | x :: l, d, h, hd => by
    simp only [isFzA, Bool.and_eq_true] at h
    (rcases List.mem_cons.mp hd with rfl | hd)
    · exact h.1
    · exact isFzA_mem h.2 hd
theorem sbv {d : D} {ρ : DV.Env} (h : isFz d = true) : setB true ρ (.val d) = some (d, ρ) := by
  show some (frz d, ρ) = _
  rw [fz_frz d h]
theorem frzS_nil {ρ : DV.Env} : frzS [] ρ = some ρ := rfl
theorem frzS_cons {ρ : DV.Env} {k : Nat} {ks : List Nat} {d : D} (h : slotD ρ k = some d) (f : isFz d = true) (r : frzS ks ρ = some ρ) : frzS (k :: ks) ρ = some ρ := by
  show (slotD ρ k).bind _ = _
  rw [h, Option.bind_some, fz_frz d f]
  have : ρ.set k (some d) = ρ := by
    have e : ρ[k]? = some (some d) := slotD_some h
    obtain ⟨hk, e⟩ := List.getElem?_eq_some_iff.mp e
    rw [← e]
    exact List.set_getElem_self hk
  rw [this]
  exact r
section
variable {P : Pr} {a b : IE} {p : Bool} {z : DV.It} {ρ ρ1 ρ2 : DV.Env}
theorem x_orT (h : Evl P a ρ (.val (.bl p)) ρ1) (e : p = true) : Evl P (.or a b) ρ (.val (.bl true)) ρ1 := by
  subst e
  exact x_or (q := false) h (fun z => nomatch z)
theorem x_orF (h : Evl P a ρ (.val (.bl p)) ρ1) (e : p = false) (h' : Evl P b ρ1 z ρ2) : Evl P (.or a b) ρ z ρ2 := ⟨by
  subst e
  show ((bo P a).1 ρ).bind _ = _
  rw [bind_of h.eq, ob_of (show isB (.val (.bl false)) = some false from rfl)]
  exact h'.eq⟩
theorem x_andF (h : Evl P a ρ (.val (.bl p)) ρ1) (e : p = false) : Evl P (.and a b) ρ (.val (.bl false)) ρ1 := by
  subst e
  exact x_and (q := false) h (fun z => nomatch z)
theorem x_andT (h : Evl P a ρ (.val (.bl p)) ρ1) (e : p = true) (h' : Evl P b ρ1 z ρ2) : Evl P (.and a b) ρ z ρ2 := by
  subst e
  exact x_and2 h h'
theorem t_andF (h : Tvl P a ρ p ρ1) (e : p = false) : Tvl P (.and a b) ρ false ρ1 := by
  subst e
  exact t_and (q := false) h (fun z => nomatch z)
theorem t_andT {q : Bool} (h : Tvl P a ρ p ρ1) (e : p = true) (h' : Tvl P b ρ1 q ρ1) : Tvl P (.and a b) ρ q ρ1 := by
  subst e
  exact t_and h (fun _ => h')
theorem t_orF {q : Bool} (h : Tvl P a ρ p ρ1) (e : p = false) (h' : Tvl P b ρ1 q ρ1) : Tvl P (.or a b) ρ q ρ1 := by
  subst e
  exact t_or h (fun _ => h')
theorem t_orT (h : Tvl P a ρ p ρ1) (e : p = true) : Tvl P (.or a b) ρ true ρ1 := by
  subst e
  exact t_or (q := false) h (fun z => nomatch z)
end
section
variable {P : Pr} {ρ ρ1 ρ2 ρ3 : DV.Env} {a e : IE} {x y : DV.It} {d d1 d2 kd y1 : D} {i : Nat} {k : Key} {m : List Int} {rest : ISs} {r : SRes}
theorem x_dk {d0 : D} (g0 : slotD ρ i = some d0) (h : Evl P a ρ x ρ1) (h1 : dref ρ1 x = some kd) (h2 : keyD kd = some k) (h3 : slotD ρ1 i = some d1) (h4 : dGet1 d1 k = some (some d)) (h5 : isFz d = true) : Evl P (.dk i a) ρ (.val d) ρ1 := ⟨by
  show (oR (slotD ρ i)).bind _ = _
  rw [ob_of g0, bind_of h.eq, ob_of h1, ob_of h2, ob_of h3, ob_of (show (dGet1 d1 k).bind id = some d by rw [h4]; rfl), if_pos h5]⟩
theorem x_dsort (h : slotD ρ i = some d) (h1 : dKeysI d = some m) : Evl P (.dsort i) ρ (.val (.lst true ((sortI m).map .int))) ρ := ⟨by
  show (oR (slotD ρ i)).bind _ = _
  rw [ob_of h, ob_of h1]⟩
theorem s_dkput {d0 d' : D} {ρ4 : DV.Env} (h : Evl P e ρ x ρ1) (h1 : settle ρ1 x = some (d, ρ2)) (h2 : slotD ρ2 i = some d0) (h3 : Evl P a ρ2 y ρ3) (h4 : settle ρ3 y = some (kd, ρ4)) (h5 : keyD kd = some k) (h6 : slotD ρ4 i = some d1) (h7 : dPut1 d1 k d = some d') (h8 : Sxl P rest (ρ4.set i (some d')) r) : Sxl P (.cons (.dkput i a e) rest) ρ r := ⟨by
  show svSeq (sx P (.dkput i a e)) (sxs P rest) ρ = _
  have : sx P (.dkput i a e) ρ = .nx (ρ4.set i (some d')) := by
    show ((bo P e).1 ρ).st _ = _
    rw [st_of h.eq, os_of h1, os_of h2, st_of h3.eq, os_of h4, os_of h5, os_of h6, os_of h7]
  unfold svSeq
  rw [this]
  exact h8.eq⟩
end
/-- a body without its first statements -/
def dr : Nat → ISs → ISs
  | 0, l => l
  | n + 1, .cons _ r => dr n r
  | _ + 1, .nil => .nil
/-- its first statements alone -/
def tk : Nat → ISs → ISs
  | 0, _ => .nil
  | n + 1, .cons s r => .cons s (tk n r)
  | _ + 1, .nil => .nil
theorem tk_dr : ∀ (n : Nat) (l : ISs), (tk n l).app (dr n l) = l
  | 0, l => rfl
  | n + 1, .cons s r => by
    show ISs.cons s ((tk n r).app (dr n r)) = _
    rw [tk_dr n r]
  | n + 1, .nil => rfl
theorem s_cut {P : Pr} {l : ISs} {ρ ρ1 : DV.Env} {r : SRes} (n : Nat) (h1 : Sxl P (tk n l) ρ (.nx ρ1)) (h2 : Sxl P (dr n l) ρ1 r) : Sxl P l ρ r := ⟨by
  rw [← tk_dr n l, sxs_app]
  unfold svSeq
  rw [h1.eq]
  exact h2.eq⟩
theorem add_tup {l m : List D} (h : l.length + m.length ≤ sizeLine) : OpV .Add (.tup l) (.tup m) (.tup (l ++ m)) := ⟨by
  show (if l.length + m.length ≤ sizeLine then some (D.tup (l ++ m)) else none) = _
  rw [if_pos h]⟩
theorem repT1 (d : D) (n : Nat) (h0 : 1 ≤ n) (h : n ≤ 1000) : OpV .Mult (.tup [d]) (.int n) (.tup (List.replicate n d)) := ⟨by
  have e : gRepT (.tup [d]) (.int n) = some (.tup (List.replicate n d)) := by
    show (if (n : Int) = 1 then some (D.tup [d]) else if (decide (2 ≤ (n : Int)) && decide ((n : Int) ≤ 1000) && decide ([d].length ≤ 1000) && !([d] : List D).isEmpty) = true then some (.tup (List.replicate (n : Int).toNat [d]).flatten) else none) = _
    by_cases z : n = 1
    · subst z
      rfl
    · rw [if_neg (by omega), if_pos (by simp; omega), Int.toNat_natCast]
      simp
  have e2 : opD .Mult (.tup [d]) (.int n) = none := rfl
  show (opD .Mult (.tup [d]) (.int n)).or (gRepT (.tup [d]) (.int n)) = _
  rw [e2, e]
  rfl⟩
/-! tuples of numbers, sorted -/
abbrev itT (l : List Int) : D := .tup (l.map .int)
abbrev leL (a b : List Int) : Bool := decide (a ≤ b)
theorem encT (l : List Int) : encD (itT l) = .tuple (l.map .int) := by
  unfold encD itT
  simp [toP, toPA_ints]
theorem le_tups (a b : List Int) : PySem.W.dataLe false (fun l : List Int => PyData.tuple (l.map .int)) a b = leL a b := by
  show (!PySem.W.dataLt (.tuple (b.map .int)) (.tuple (a.map .int))) = _
  rw [PySem.W.dataLt_tuple]
  show (!PySem.W.rowLt (b.map .int) (a.map .int)) = _
  rw [PySem.W.dataLt_ints]
  by_cases h : b < a
  · have h' : ¬ a ≤ b := fun r => List.not_lt.mpr r h
    simp [leL, h, h']
  · have h' : a ≤ b := List.not_lt.mp h
    simp [leL, h, h']
theorem sortT (rs : List (List Int)) : sortD (rs.map itT) = (rs.mergeSort leL).map itT := by
  unfold sortD
  exact (List.map_mergeSort (r := leL) (s := PySem.W.dataLe false encD) (f := itT) (l := rs) (fun a _ b _ => by
    rw [← le_tups]
    show PySem.W.dataLe false (fun l : List Int => PyData.tuple (l.map .int)) a b = PySem.W.dataLe false (fun l : List Int => encD (itT l)) a b
    rw [show (fun l : List Int => encD (itT l)) = fun l => PyData.tuple (l.map .int) from funext encT])).symm
theorem isFzA_tups : ∀ rs : List (List Int), isFzA (rs.map itT) = true
  | [] => rfl
  | r :: rs => by
    show (isFz (itT r) && isFzA (rs.map itT)) = true
    rw [isFzA_tups rs]
    rfl
theorem frzA_tups (rs : List (List Int)) : frzA (rs.map itT) = rs.map itT := fzA_frz _ (isFzA_tups rs)
theorem sortQT (rs : List (List Int)) (h : ∀ r ∈ rs, r ≠ []) : sortQ (rs.map itT) = true := by
  unfold sortQ
  simp only [Bool.and_eq_true, List.all_eq_true, List.mem_map, decide_eq_true_eq, Bool.or_eq_true]
  refine ⟨⟨⟨?_, ?_⟩, .inl ?_⟩, ?_⟩
  · rintro _ ⟨r, _, rfl⟩
    simp [toP, toPA_ints]
  · rintro _ ⟨r, _, rfl⟩ _ ⟨s, _, rfl⟩
    rw [encT, encT]
    show PySem.W.alikeAll (r.map .int) (s.map .int) = true
    exact PySem.W.alike_ints r s
  · rintro _ ⟨r, hr, rfl⟩
    rw [encT]
    cases r with
    | nil => exact absurd rfl (h [] hr)
    | cons x r => rfl
  · rintro _ ⟨r, _, rfl⟩
    rw [encT]
    simp only [PyData.depth, PySem.W.depth_ints]
    decide
theorem u_sortT {rs : List (List Int)} (h : ∀ r ∈ rs, r ≠ []) : U1V .sorted (.lst true (rs.map itT)) (.lst true ((rs.mergeSort leL).map itT)) := ⟨by
  show Option.or (if isFzA (rs.map itT) && sortQ (rs.map itT) then some (D.lst true (sortD (rs.map itT))) else none) _ = _
  rw [isFzA_tups, sortQT rs h, sortT]
  rfl⟩
theorem sortL_eq {l m : List (List Int)} (h : l.Perm m) (hm : m.Pairwise (· ≤ ·)) : l.mergeSort leL = m := by
  have p : (l.mergeSort leL).Pairwise (· ≤ ·) := (List.pairwise_mergeSort (le := leL) (fun a b c x y => decide_eq_true (List.le_trans (of_decide_eq_true x) (of_decide_eq_true y))) (fun a b => by
    rcases List.le_total a b with z | z
    · simp [leL, z]
    · simp [leL, z]) l).imp fun h => of_decide_eq_true h
  exact List.Perm.eq_of_pairwise (fun a b _ _ x y => List.le_antisymm x y) p hm ((List.mergeSort_perm l _).trans h)
theorem e_callV {P : Pr} {ρ ρ1 : DV.Env} {i n : Nat} {ok : List Nat} {ds : List D} {z : Exn} {l : IA} (g0 : slotD ρ i = some (.fn n)) (g1 : ok.contains n = true) (h : Avl P true l ρ ds ρ1) (h1 : RnE n P.fn ds z) : Erl P (.callV ok i l) ρ z ρ1 := ⟨by
  show evCallV P ok i (boA P true l) ρ = _
  unfold evCallV
  rw [g0]
  show (if ok.contains n then _ else _) = _
  rw [if_pos g1]
  exact (e_call h h1).eq⟩
/-! errors told by the kernel -/
def isE (n : Nat) : FR → Bool
  | .er ⟨m, []⟩ [] => m == n
  | _ => false
theorem isE_of {n : Nat} : ∀ {r : FR}, isE n r = true → r = .er ⟨n, []⟩ []
  | .er ⟨m, []⟩ [], h => by
    have : m = n := by simpa [isE] using h
    rw [this]
  | .er ⟨m, _ :: _⟩ [], h => by cases h
  | .er ⟨m, []⟩ (_ :: _), h => by cases h
  | .er ⟨m, _ :: _⟩ (_ :: _), h => by cases h
  | .ok _ _, h => by cases h
  | .no, h => by cases h
mutual
def bD : D → D → Bool
  | .non, .non => true
  | .bl a, .bl b => a == b
  | .int a, .int b => a == b
  | .str a, .str b => a == b
  | .tup a, .tup b => bA a b
  | .scr a, .scr b => bA a b
  | .lst o a, .lst q b => o == q && bA a b
  | .dct o t ks vs, .dct o' t' ks' vs' => o == o' && t == t' && bA ks ks' && bA vs vs'
  | .fn a, .fn b => a == b
  | _, _ => false
def bA : List D → List D → Bool
  | [], [] => true
  | a :: l, b :: m => bD a b && bA l m
  | _, _ => false
end
mutual
theorem bD_eq : ∀ (a b : D), bD a b = true → a = b
  | .non, b, h => by cases b <;> simp_all [bD]
  | .bl a, b, h => by cases b <;> simp_all [bD]
  | .int a, b, h => by cases b <;> simp_all [bD]
  | .str a, b, h => by cases b <;> simp_all [bD]
  | .fn a, b, h => by cases b <;> simp_all [bD]
  | .tup a, b, h => by
    cases b with
    | tup b => rw [bA_eq a b (by simpa [bD] using h)]
    | _ => simp [bD] at h
  | .scr a, b, h => by
    cases b with
    | scr b => rw [bA_eq a b (by simpa [bD] using h)]
    | _ => simp [bD] at h
  | .lst o a, b, h => by
    cases b with
    | lst q b =>
      simp only [bD, Bool.and_eq_true, beq_iff_eq] at h
      rw [bA_eq a b h.2, h.1]
    | _ => simp [bD] at h
  | .dct o t ks vs, b, h => by
    cases b with
    | dct o' t' ks' vs' =>
      simp only [bD, Bool.and_eq_true, beq_iff_eq] at h
      rw [bA_eq ks ks' h.1.2, bA_eq vs vs' h.2, h.1.1.1, h.1.1.2]
    | _ => simp [bD] at h
theorem bA_eq : ∀ (l m : List D), bA l m = true → l = m
  | [], [], _ => rfl
  | a :: l, b :: m, h => by
    simp only [bA, Bool.and_eq_true] at h
    rw [bD_eq a b h.1, bA_eq l m h.2]
  | [], _ :: _, h => by cases h
  | _ :: _, [], h => by cases h
end
/-- a call's value, told by the kernel -/
def isV (d : D) : FR → Bool
  | .ok x [] => bD x d
  | _ => false
theorem isV_of {d : D} : ∀ {r : FR}, isV d r = true → r = .ok d []
  | .ok x [], h => by rw [bD_eq x d h]
  | .ok _ (_ :: _), h => by cases h
  | .er _ _, h => by cases h
  | .no, h => by cases h
def isVz (d : D) : FR → Bool
  | .ok x [] => bD (frz x) d
  | _ => false
theorem isVz_of {d : D} : ∀ {r : FR}, isVz d r = true → ∃ x, r = .ok x [] ∧ frz x = d
  | .ok x [], h => ⟨x, rfl, bD_eq _ d h⟩
  | .ok _ (_ :: _), h => by cases h
  | .er _ _, h => by cases h
  | .no, h => by cases h
theorem er1 {F : Fns} {f n : Nat} {A : List D} {g : D → List D} (h : (A.all fun a => isE n (F f (g a))) = true) {a : D} (ha : a ∈ A) : RnE f F (g a) ⟨n, []⟩ := ⟨isE_of (List.all_eq_true.mp h a ha)⟩
theorem er2 {F : Fns} {f n : Nat} {A B : List D} {g : D → D → List D} (h : (A.all fun a => B.all fun b => isE n (F f (g a b))) = true) {a b : D} (ha : a ∈ A) (hb : b ∈ B) : RnE f F (g a b) ⟨n, []⟩ := ⟨isE_of (List.all_eq_true.mp (List.all_eq_true.mp h a ha) b hb)⟩
theorem er3 {F : Fns} {f n : Nat} {A B C : List D} {g : D → D → D → List D} (h : (A.all fun a => B.all fun b => C.all fun c => isE n (F f (g a b c))) = true) {a b c : D} (ha : a ∈ A) (hb : b ∈ B) (hc : c ∈ C) : RnE f F (g a b c) ⟨n, []⟩ := ⟨isE_of (List.all_eq_true.mp (List.all_eq_true.mp (List.all_eq_true.mp h a ha) b hb) c hc)⟩
end DV
namespace K77
open PySem L2 DV
def top (i : Nat) : Stmt := PySem.Challenge.pw_chessroom_k77_whole_line_ups_and_teams_r.main.body.getD i (.Pass ⟨0, 0, 0, 0⟩)
@[irreducible] def WF : Nat := 4294967296
def f0 : Fd := ⟨"is_integer", top 1, ["thing"], ["thing"], false, false, false, false, (.cons (.rt (.and (.u1 (.isi .int) (.var 0)) (.not (.u1 (.isi .bool) (.var 0))))) .nil)⟩
def f1 : Fd := ⟨"is_within", top 2, ["thing", "least", "most"], ["thing", "least", "most"], false, false, false, false, (.cons (.rt (.and (.call 0 (.cons (.var 0) .nil)) (.chn .LtE .LtE (.var 1) (.var 0) (.var 2)))) .nil)⟩
def f2 : Fd := ⟨"is_tuple_of", top 3, ["thing", "size"], ["thing", "size"], false, false, false, false, (.cons (.rt (.and (.u1 (.isi .tuple) (.var 0)) (.cmp .Eq (.u1 .len (.var 0)) (.var 1)))) .nil)⟩
def f3 : Fd := ⟨"are_within", top 4, ["thing", "least", "most"], ["thing", "least", "most", "one"], false, false, false, false, (.cons (.rt (.and (.u1 (.isi .tuple) (.var 0)) (.u1 .all (.comp [3] (.seq (.var 0)) (.nm 3) (.call 1 (.cons (.var 3) (.cons (.var 1) (.cons (.var 2) .nil)))))))) .nil)⟩
def f4 : Fd := ⟨"common_part", top 5, ["one", "other"], ["one", "other"], false, false, false, false, (.cons (.whl WF (.cmp .NotEq (.var 1) (.con (.int 0))) (.cons (.par (.cons (.nm 0) (.cons (.nm 1) .nil)) (.cons (.var 1) (.cons (.op .Sub (.var 0) (.op .Mult (.var 1) (.op .FloorDiv (.var 0) (.var 1)))) .nil))) .nil)) (.cons (.rt (.u1 .abs (.var 0))) .nil))⟩
def f5 : Fd := ⟨"fraction", top 6, ["top", "bottom"], ["top", "bottom", "part", "sign"], false, false, false, false, (.cons (.asg (.nm 2) (.call 4 (.cons (.var 1) (.cons (.var 0) .nil)))) (.cons (.asg (.nm 3) (.ife (.cmp .Gt (.var 1) (.con (.int 0))) (.con (.int 1)) (.u1 .neg (.con (.int 1))))) (.cons (.rt (.tup (.cons (.op .FloorDiv (.op .Mult (.var 3) (.var 0)) (.var 2)) (.cons (.op .FloorDiv (.op .Mult (.var 3) (.var 1)) (.var 2)) .nil)))) .nil)))⟩
def f6 : Fd := ⟨"is_pair_of", top 16, ["many", "thing"], ["many", "thing", "player"], false, false, false, false, (.cons (.ife (.or (.not (.call 2 (.cons (.var 1) (.cons (.con (.int 2)) .nil)))) (.not (.u1 .all (.comp [2] (.seq (.var 1)) (.nm 2) (.call 1 (.cons (.var 2) (.cons (.con (.int 0)) (.cons (.op .Sub (.var 0) (.con (.int 1))) .nil)))))))) (.cons (.rt (.con (.bl false))) .nil) .nil) (.cons (.rt (.cmp .NotEq (.ix (.var 1) (.con (.int 0))) (.ix (.var 1) (.con (.int 1))))) .nil))⟩
def f7 : Fd := ⟨"plus", top 21, ["one", "other"], ["one", "other"], false, false, false, false, (.cons (.rt (.call 5 (.cons (.op .Add (.op .Mult (.ix (.var 0) (.con (.int 0))) (.ix (.var 1) (.con (.int 1)))) (.op .Mult (.ix (.var 1) (.con (.int 0))) (.ix (.var 0) (.con (.int 1))))) (.cons (.op .Mult (.ix (.var 0) (.con (.int 1))) (.ix (.var 1) (.con (.int 1)))) .nil)))) .nil)⟩
def f8 : Fd := ⟨"is_below", top 22, ["one", "other"], ["one", "other"], false, false, false, false, (.cons (.rt (.cmp .Lt (.op .Mult (.ix (.var 0) (.con (.int 0))) (.ix (.var 1) (.con (.int 1)))) (.op .Mult (.ix (.var 1) (.con (.int 0))) (.ix (.var 0) (.con (.int 1)))))) .nil)⟩
def f9 : Fd := ⟨"total_of", top 23, ["some"], ["some", "found", "one"], false, false, false, false, (.cons (.asg (.nm 1) (.glb 0)) (.cons (.for (.seq (.var 0)) (.nm 2) (.cons (.asg (.nm 1) (.call 7 (.cons (.var 1) (.cons (.var 2) .nil)))) .nil)) (.cons (.rt (.var 1)) .nil)))⟩
def f10 : Fd := ⟨"raw_expected", top 24, ["one", "other"], ["one", "other", "found"], false, false, false, false, (.cons (.asg (.nm 2) (.call 7 (.cons (.tup (.cons (.con (.int 1)) (.cons (.con (.int 2)) .nil))) (.cons (.call 5 (.cons (.op .Sub (.var 0) (.var 1)) (.cons (.glb 2) .nil))) .nil)))) (.cons (.ife (.call 8 (.cons (.var 2) (.cons (.glb 0) .nil))) (.cons (.rt (.glb 0)) .nil) .nil) (.cons (.rt (.ife (.call 8 (.cons (.glb 1) (.cons (.var 2) .nil))) (.glb 1) (.var 2))) .nil)))⟩
def f11 : Fd := ⟨"is_match", top 31, ["thing"], ["thing"], false, false, false, false, (.cons (.rt (.and (.call 3 (.cons (.var 0) (.cons (.con (.int 0)) (.cons (.glb 4) .nil)))) (.chn .LtE .LtE (.con (.int 1)) (.u1 .len (.var 0)) (.glb 3)))) .nil)⟩
def f12 : Fd := ⟨"check_match", top 32, ["match"], ["match"], false, false, false, false, (.cons (.ife (.not (.call 11 (.cons (.var 0) .nil))) (.cons (.rz 46) .nil) .nil) .nil)⟩
def f13 : Fd := ⟨"raw_board_points", top 33, ["match"], ["match"], false, false, false, false, (.cons (.rt (.tup (.cons (.u1 .sum (.var 0)) (.cons (.op .Sub (.op .Mult (.glb 4) (.u1 .len (.var 0))) (.u1 .sum (.var 0))) .nil)))) .nil)⟩
def f14 : Fd := ⟨"board_points", top 34, ["match"], ["match"], false, false, false, false, (.cons (.ex (.call 12 (.cons (.var 0) .nil))) (.cons (.rt (.call 13 (.cons (.var 0) .nil))) .nil))⟩
def f15 : Fd := ⟨"raw_match_points", top 35, ["match"], ["match", "one", "other"], false, false, false, false, (.cons (.asg (.tp (.cons (.nm 1) (.cons (.nm 2) .nil))) (.call 13 (.cons (.var 0) .nil))) (.cons (.ife (.cmp .Eq (.var 1) (.var 2)) (.cons (.rt (.tup (.cons (.con (.int 1)) (.cons (.con (.int 1)) .nil)))) .nil) .nil) (.cons (.rt (.ife (.cmp .Gt (.var 1) (.var 2)) (.tup (.cons (.con (.int 2)) (.cons (.con (.int 0)) .nil))) (.tup (.cons (.con (.int 0)) (.cons (.con (.int 2)) .nil))))) .nil)))⟩
def f16 : Fd := ⟨"match_points", top 36, ["match"], ["match"], false, false, false, false, (.cons (.ex (.call 12 (.cons (.var 0) .nil))) (.cons (.rt (.call 15 (.cons (.var 0) .nil))) .nil))⟩
def f17 : Fd := ⟨"raw_berlin", top 37, ["match"], ["match", "many", "number", "points", "one", "other"], false, false, false, false, (.cons (.asg (.nm 1) (.u1 .len (.var 0))) (.cons (.asg (.nm 4) (.u1 .sum (.comp [2, 3] (.enum (.var 0)) (.tp (.cons (.nm 2) (.cons (.nm 3) .nil))) (.op .Mult (.var 3) (.op .Sub (.var 1) (.var 2)))))) (.cons (.asg (.nm 5) (.u1 .sum (.comp [2, 3] (.enum (.var 0)) (.tp (.cons (.nm 2) (.cons (.nm 3) .nil))) (.op .Mult (.op .Sub (.glb 4) (.var 3)) (.op .Sub (.var 1) (.var 2)))))) (.cons (.rt (.tup (.cons (.var 4) (.cons (.var 5) .nil)))) .nil))))⟩
def f18 : Fd := ⟨"berlin", top 38, ["match"], ["match"], false, false, false, false, (.cons (.ex (.call 12 (.cons (.var 0) .nil))) (.cons (.rt (.call 17 (.cons (.var 0) .nil))) .nil))⟩
def f19 : Fd := ⟨"are_strengths", top 39, ["thing"], ["thing", "one", "other"], false, false, false, false, (.cons (.ife (.or (.not (.call 3 (.cons (.var 0) (.cons (.con (.int 0)) (.cons (.glb 5) .nil))))) (.not (.chn .LtE .LtE (.con (.int 1)) (.u1 .len (.var 0)) (.glb 3)))) (.cons (.rt (.con (.bl false))) .nil) .nil) (.cons (.rt (.u1 .all (.comp [1, 2] (.zip (.var 0) (.sl (.var 0) (.some (.con (.int 1))) .none)) (.tp (.cons (.nm 1) (.cons (.nm 2) .nil))) (.cmp .Gt (.var 1) (.var 2))))) .nil))⟩
def f20 : Fd := ⟨"check_strengths", top 40, ["strengths"], ["strengths"], false, false, false, false, (.cons (.ife (.not (.call 19 (.cons (.var 0) .nil))) (.cons (.rz 47) .nil) .nil) .nil)⟩
def f21 : Fd := ⟨"lots_of_size", top 41, ["many", "size"], ["many", "size", "found", "turn", "longer", "lot", "begin", "number"], false, false, false, false, (.cons (.asg (.nm 2) (.lst (.cons (.tup .nil) .nil))) (.cons (.for (.rng1 (.var 1)) (.nm 3) (.cons (.asg (.nm 4) (.lst .nil)) (.cons (.for (.seq (.var 2)) (.nm 5) (.cons (.asg (.nm 6) (.ife (.cmp .Gt (.u1 .len (.var 5)) (.con (.int 0))) (.op .Add (.ix (.var 5) (.u1 .neg (.con (.int 1)))) (.con (.int 1))) (.con (.int 0)))) (.cons (.ex (.ext 4 (.comp [7] (.rng2 (.var 6) (.var 0)) (.nm 7) (.op .Add (.var 5) (.tup (.cons (.var 7) .nil)))))) .nil))) (.cons (.asg (.nm 2) (.var 4)) .nil)))) (.cons (.rt (.var 2)) .nil)))⟩
def f22 : Fd := ⟨"line_ups", top 42, ["strengths", "boards"], ["strengths", "boards"], false, false, false, false, (.cons (.ex (.call 20 (.cons (.var 0) .nil))) (.cons (.ife (.not (.call 1 (.cons (.var 1) (.cons (.con (.int 1)) (.cons (.u1 .len (.var 0)) .nil))))) (.cons (.rz 48) .nil) .nil) (.cons (.rt (.u1 .len (.call 21 (.cons (.u1 .len (.var 0)) (.cons (.var 1) .nil))))) .nil)))⟩
def f23 : Fd := ⟨"hope_of", top 43, ["strengths", "others", "lot"], ["strengths", "others", "lot", "player", "other"], false, false, false, false, (.cons (.rt (.call 9 (.cons (.comp [3, 4] (.zip (.var 2) (.var 1)) (.tp (.cons (.nm 3) (.cons (.nm 4) .nil))) (.call 10 (.cons (.ix (.var 0) (.var 3)) (.cons (.var 4) .nil)))) .nil))) .nil)⟩
def f24 : Fd := ⟨"best_answer", top 44, ["strengths", "others"], ["strengths", "others", "best", "lot", "hope"], false, false, false, false, (.cons (.ex (.call 20 (.cons (.var 0) .nil))) (.cons (.ex (.call 20 (.cons (.var 1) .nil))) (.cons (.ife (.cmp .Gt (.u1 .len (.var 1)) (.u1 .len (.var 0))) (.cons (.rz 48) .nil) .nil) (.cons (.asg (.nm 2) (.con .non)) (.cons (.for (.seq (.call 21 (.cons (.u1 .len (.var 0)) (.cons (.u1 .len (.var 1)) .nil)))) (.nm 3) (.cons (.asg (.nm 4) (.call 23 (.cons (.var 0) (.cons (.var 1) (.cons (.var 3) .nil))))) (.cons (.ife (.or (.cmp .Is (.var 2) (.con .non)) (.call 8 (.cons (.ix (.var 2) (.con (.int 0))) (.cons (.var 4) .nil)))) (.cons (.asg (.nm 2) (.tup (.cons (.var 4) (.cons (.var 3) .nil)))) .nil) .nil) .nil))) (.cons (.rt (.ix (.var 2) (.con (.int 1)))) .nil))))))⟩
def f25 : Fd := ⟨"is_team_match", top 45, ["many", "thing"], ["many", "thing"], false, false, false, false, (.cons (.rt (.and (.call 2 (.cons (.var 1) (.cons (.con (.int 3)) .nil))) (.and (.call 6 (.cons (.var 0) (.cons (.sl (.var 1) .none (.some (.con (.int 2)))) .nil))) (.call 11 (.cons (.ix (.var 1) (.con (.int 2))) .nil))))) .nil)⟩
def f26 : Fd := ⟨"check_matches", top 46, ["many", "matches"], ["many", "matches", "one"], false, false, false, false, (.cons (.ife (.not (.call 1 (.cons (.var 0) (.cons (.glb 8) (.cons (.glb 7) .nil))))) (.cons (.rz 50) .nil) .nil) (.cons (.ife (.or (.not (.u1 (.isi .tuple) (.var 1))) (.cmp .Gt (.u1 .len (.var 1)) (.glb 6))) (.cons (.rz 49) .nil) .nil) (.cons (.ife (.not (.u1 .all (.comp [2] (.seq (.var 1)) (.nm 2) (.call 25 (.cons (.var 0) (.cons (.var 2) .nil)))))) (.cons (.rz 49) .nil) .nil) .nil)))⟩
def f27 : Fd := ⟨"sums_by", top 47, ["many", "matches", "told"], ["many", "matches", "told", "found", "one", "other", "match", "pair"], false, false, false, false, (.cons (.asg (.nm 3) (.op .Mult (.lst (.cons (.con (.int 0)) .nil)) (.var 0))) (.cons (.for (.seq (.var 1)) (.tp (.cons (.nm 4) (.cons (.nm 5) (.cons (.nm 6) .nil)))) (.cons (.asg (.nm 7) (.callV [13, 14, 15, 16, 17, 18] 2 (.cons (.var 6) .nil))) (.cons (.aug .add 3 (.var 4) (.ix (.var 7) (.con (.int 0)))) (.cons (.aug .add 3 (.var 5) (.ix (.var 7) (.con (.int 1)))) .nil)))) (.cons (.rt (.var 3)) .nil)))⟩
def f28 : Fd := ⟨"team_table", top 48, ["many", "matches"], ["many", "matches", "first", "second", "third", "team", "rows", "row"], false, false, false, false, (.cons (.ex (.call 26 (.cons (.var 0) (.cons (.var 1) .nil)))) (.cons (.asg (.nm 2) (.call 27 (.cons (.var 0) (.cons (.var 1) (.cons (.fnv 15) .nil))))) (.cons (.par (.cons (.nm 3) (.cons (.nm 4) .nil)) (.cons (.call 27 (.cons (.var 0) (.cons (.var 1) (.cons (.fnv 13) .nil)))) (.cons (.call 27 (.cons (.var 0) (.cons (.var 1) (.cons (.fnv 17) .nil)))) .nil))) (.cons (.asg (.nm 6) (.comp [5] (.rng1 (.var 0)) (.nm 5) (.tup (.cons (.u1 .neg (.ix (.var 2) (.var 5))) (.cons (.u1 .neg (.ix (.var 3) (.var 5))) (.cons (.u1 .neg (.ix (.var 4) (.var 5))) (.cons (.var 5) .nil))))))) (.cons (.rt (.u1 .tuple (.comp [7] (.seq (.u1 .sorted (.var 6))) (.nm 7) (.ix (.var 7) (.con (.int 3)))))) .nil)))))⟩
def f29 : Fd := ⟨"_law_hand", top 50, ["script"], ["script", "cell", "cells"], false, false, false, false, (.cons (.asg (.nm 2) (.comp [1] (.seq (.sl (.var 0) .none (.some (.con (.int 63))))) (.nm 1) (.u1 .abs (.u1 .int (.var 1))))) (.cons (.rt (.lstF (.cons (.var 2) (.cons (.con (.int 0)) (.cons (.con (.int 0)) (.cons (.op .Add (.con (.int 199)) (.u1 .len (.var 2))) (.cons (.con (.int 0)) .nil))))))) .nil))⟩
def f30 : Fd := ⟨"_law_draw", top 51, ["hand", "limit"], ["hand", "limit", "cell", "digit", "number"], true, false, false, false, (.cons (.ife (.and (.cmp .Eq (.ix (.var 0) (.con (.int 2))) (.con (.int 0))) (.cmp .Lt (.ix (.var 0) (.con (.int 1))) (.u1 .len (.ix (.var 0) (.con (.int 0)))))) (.cons (.asg (.nm 2) (.ix (.ix (.var 0) (.con (.int 0))) (.ix (.var 0) (.con (.int 1))))) (.cons (.sto 0 (.con (.int 1)) (.op .Add (.ix (.var 0) (.con (.int 1))) (.con (.int 1)))) (.cons (.sto 0 (.con (.int 3)) (.op .Mod (.u1 .int (.op .Add (.op .Add (.op .Mult (.ix (.var 0) (.con (.int 3))) (.con (.int 69621))) (.var 2)) (.con (.int 283)))) (.con (.int 2147483629)))) (.cons (.ife (.cmp .GtE (.var 2) (.op .Pow (.con (.int 10)) (.con (.int 18)))) (.cons (.sto 0 (.con (.int 2)) (.var 2)) .nil) .nil) .nil)))) .nil) (.cons (.ife (.cmp .Gt (.ix (.var 0) (.con (.int 2))) (.con (.int 0))) (.cons (.asg (.nm 3) (.op .Mod (.u1 .int (.ix (.var 0) (.con (.int 2)))) (.var 1))) (.cons (.sto 0 (.con (.int 2)) (.op .FloorDiv (.ix (.var 0) (.con (.int 2))) (.var 1))) (.cons (.rt (.var 3)) .nil))) .nil) (.cons (.sto 0 (.con (.int 4)) (.op .Add (.ix (.var 0) (.con (.int 4))) (.con (.int 1)))) (.cons (.asg (.nm 4) (.op .Mod (.u1 .int (.op .Mult (.u1 .int (.op .Add (.ix (.var 0) (.con (.int 3))) (.op .Mult (.con (.int 7919)) (.ix (.var 0) (.con (.int 4)))))) (.con (.int 48271)))) (.con (.int 2147483647)))) (.cons (.asg (.nm 4) (.op .Mod (.u1 .int (.op .Mult (.var 4) (.op .Add (.op .FloorDiv (.var 4) (.con (.int 1009))) (.con (.int 69621))))) (.con (.int 2147483647)))) (.cons (.asg (.nm 4) (.op .Mod (.u1 .int (.op .Mult (.var 4) (.op .Add (.op .FloorDiv (.var 4) (.con (.int 2003))) (.con (.int 40692))))) (.con (.int 2147483399)))) (.cons (.rt (.op .Mod (.u1 .int (.op .FloorDiv (.var 4) (.con (.int 16)))) (.var 1))) .nil)))))))⟩
def f31 : Fd := ⟨"_law_some", top 52, ["hand", "items"], ["hand", "items"], true, false, false, false, (.cons (.rt (.ix (.var 1) (.callH 30 0 (.cons (.u1 .len (.var 1)) .nil)))) .nil)⟩
def f32 : Fd := ⟨"_law_is", top 53, ["thing", "due"], ["thing", "due", "one", "its"], false, false, false, false, (.cons (.ife (.or (.u1 (.isi .tuple) (.var 1)) (.u1 (.isi .list) (.var 1))) (.cons (.ife (.or (.cmp .NotEq (.u1 (.isi .tuple) (.var 1)) (.u1 (.isi .tuple) (.var 0))) (.cmp .NotEq (.u1 (.isi .list) (.var 1)) (.u1 (.isi .list) (.var 0)))) (.cons (.rt (.con (.bl false))) .nil) .nil) (.cons (.rt (.and (.cmp .Eq (.u1 .len (.var 0)) (.u1 .len (.var 1))) (.u1 .all (.comp [2, 3] (.zip (.var 0) (.var 1)) (.tp (.cons (.nm 2) (.cons (.nm 3) .nil))) (.call 32 (.cons (.var 2) (.cons (.var 3) .nil))))))) .nil)) .nil) (.cons (.ife (.or (.u1 (.isi .dict) (.var 1)) (.u1 (.isi .dict) (.var 0))) (.cons (.rt (.and (.u1 (.isi .dict) (.var 1)) (.and (.u1 (.isi .dict) (.var 0)) (.cmp .Eq (.var 0) (.var 1))))) .nil) .nil) (.cons (.ife (.or (.cmp .Is (.var 1) (.con .non)) (.cmp .Is (.var 0) (.con .non))) (.cons (.rt (.and (.cmp .Is (.var 1) (.con .non)) (.cmp .Is (.var 0) (.con .non)))) .nil) .nil) (.cons (.ife (.or (.u1 (.isi .bool) (.var 1)) (.u1 (.isi .bool) (.var 0))) (.cons (.rt (.and (.u1 (.isi .bool) (.var 1)) (.and (.u1 (.isi .bool) (.var 0)) (.cmp .Eq (.var 0) (.var 1))))) .nil) .nil) (.cons (.ife (.or (.u1 (.isi .str) (.var 1)) (.u1 (.isi .str) (.var 0))) (.cons (.rt (.and (.u1 (.isi .str) (.var 1)) (.and (.u1 (.isi .str) (.var 0)) (.cmp .Eq (.var 0) (.var 1))))) .nil) .nil) (.cons (.rt (.and (.u1 (.isi .int) (.var 0)) (.cmp .Eq (.var 0) (.var 1)))) .nil))))))⟩
def f33 : Fd := ⟨"_law_deep", top 54, ["turns"], ["turns", "thing", "again"], false, false, false, false, (.cons (.asg (.nm 1) (.con (.str [45]))) (.cons (.for (.rng1 (.var 0)) (.nm 2) (.cons (.asg (.nm 1) (.ife (.cmp .Lt (.var 2) (.con (.int 5))) (.tup (.cons (.var 1) .nil)) (.lstF (.cons (.var 1) .nil)))) .nil)) (.cons (.rt (.var 1)) .nil)))⟩
def f34 : Fd := ⟨"_law_word", top 55, ["call"], ["call", "found", "error", "flags"], false, true, false, false, (.cons (.asg (.nm 1) (.tup (.cons (.con (.str [111, 116, 104, 101, 114])) .nil))) (.cons (.tryE (.cons (.asg (.nm 1) (.tup (.cons (.con (.str [116, 111, 108, 100])) (.cons .lcl .nil)))) .nil) 51 2 (.cons (.asg (.nm 3) (.callX 41 2)) (.cons (.ife (.and (.cmp .Eq (.mcnt 3 (.con (.bl true))) (.con (.int 1))) (.isx 2 52)) (.cons (.asg (.nm 1) (.tup (.cons (.midx 3 (.con (.bl true))) .nil))) .nil) .nil) .nil))) (.cons (.rt (.var 1)) .nil)))⟩
def f35 : Fd := ⟨"_law_low", top 56, ["top", "bottom"], ["top", "bottom", "one", "other"], false, false, false, false, (.cons (.par (.cons (.nm 2) (.cons (.nm 3) .nil)) (.cons (.u1 .abs (.var 0)) (.cons (.u1 .abs (.var 1)) .nil))) (.cons (.whl WF (.cmp .Gt (.var 3) (.con (.int 0))) (.cons (.par (.cons (.nm 2) (.cons (.nm 3) .nil)) (.cons (.var 3) (.cons (.op .Mod (.u1 .int (.var 2)) (.var 3)) .nil))) .nil)) (.cons (.asg (.nm 2) (.ife (.cmp .Gt (.var 1) (.con (.int 0))) (.var 2) (.op .Sub (.con (.int 0)) (.var 2)))) (.cons (.rt (.tup (.cons (.op .FloorDiv (.var 0) (.var 2)) (.cons (.op .FloorDiv (.var 1) (.var 2)) .nil)))) .nil))))⟩
def f36 : Fd := ⟨"_law_plus", top 57, ["one", "other"], ["one", "other"], false, false, false, false, (.cons (.rt (.call 35 (.cons (.op .Add (.op .Mult (.ix (.var 0) (.con (.int 0))) (.ix (.var 1) (.con (.int 1)))) (.op .Mult (.ix (.var 1) (.con (.int 0))) (.ix (.var 0) (.con (.int 1))))) (.cons (.op .Mult (.ix (.var 0) (.con (.int 1))) (.ix (.var 1) (.con (.int 1)))) .nil)))) .nil)⟩
def f37 : Fd := ⟨"_law_expected", top 58, ["one", "other"], ["one", "other", "share"], false, false, false, false, (.cons (.asg (.nm 2) (.call 36 (.cons (.tup (.cons (.con (.int 1)) (.cons (.con (.int 2)) .nil))) (.cons (.call 35 (.cons (.op .Sub (.var 0) (.var 1)) (.cons (.con (.int 800)) .nil))) .nil)))) (.cons (.rt (.ife (.cmp .Lt (.ix (.var 2) (.con (.int 0))) (.con (.int 0))) (.tup (.cons (.con (.int 0)) (.cons (.con (.int 1)) .nil))) (.ife (.cmp .Gt (.ix (.var 2) (.con (.int 0))) (.ix (.var 2) (.con (.int 1)))) (.tup (.cons (.con (.int 1)) (.cons (.con (.int 1)) .nil))) (.var 2)))) .nil))⟩
def f38 : Fd := ⟨"_law_rating", top 59, ["hand"], ["hand", "middle"], true, false, false, false, (.cons (.asg (.nm 1) (.callH 31 0 (.cons (.lst (.cons (.con (.int 200)) (.cons (.con (.int 1500)) (.cons (.con (.int 2000)) (.cons (.con (.int 3800)) .nil))))) .nil))) (.cons (.rt (.mx false (.con (.int 0)) (.mx true (.con (.int 4000)) (.op .Sub (.op .Add (.var 1) (.callH 30 0 (.cons (.con (.int 1001)) .nil))) (.con (.int 500)))))) .nil))⟩
def f39 : Fd := ⟨"_law_lots_of", top 60, ["many", "size"], ["many", "size", "found", "number", "lot"], false, false, false, false, (.cons (.asg (.nm 2) (.lst (.cons (.tup .nil) .nil))) (.cons (.for (.rng1 (.var 0)) (.nm 3) (.cons (.asg (.nm 2) (.op .Add (.var 2) (.comp [4] (.seq (.var 2)) (.nm 4) (.op .Add (.var 4) (.tup (.cons (.var 3) .nil)))))) .nil)) (.cons (.rt (.u1 .sorted (.compIf [4] (.seq (.var 2)) (.nm 4) (.cmp .Eq (.u1 .len (.var 4)) (.var 1)) (.var 4)))) .nil)))⟩
def f40 : Fd := ⟨"_law_strengths", top 61, ["hand", "many"], ["hand", "many", "found", "again"], true, false, false, false, (.cons (.asg (.nm 2) (.dnew false)) (.cons (.for (.rng1 (.var 1)) (.nm 3) (.cons (.dkput 2 (.callH 38 0 .nil) (.con (.bl true))) .nil)) (.cons (.rt (.u1 .tuple (.rev (.dsort 2)))) .nil)))⟩
def f41 : Fd := ⟨"_law_flags", top 62, ["error"], ["error", "flags"], false, false, false, true, (.cons (.asg (.nm 1) (.lst (.cons (.isx 0 46) (.cons (.isx 0 47) (.cons (.isx 0 48) .nil))))) (.cons (.rt (.op .Add (.var 1) (.lst (.cons (.isx 0 50) (.cons (.isx 0 49) .nil))))) .nil))⟩
def f42 : Fd := ⟨"_law_worth", top 63, ["strengths", "others", "lot"], ["strengths", "others", "lot", "found", "player", "other"], false, false, false, false, (.cons (.asg (.nm 3) (.tup (.cons (.con (.int 0)) (.cons (.con (.int 1)) .nil)))) (.cons (.for (.zip (.var 2) (.var 1)) (.tp (.cons (.nm 4) (.cons (.nm 5) .nil))) (.cons (.asg (.nm 3) (.call 36 (.cons (.var 3) (.cons (.call 37 (.cons (.ix (.var 0) (.var 4)) (.cons (.var 5) .nil))) .nil)))) .nil)) (.cons (.rt (.var 3)) .nil)))⟩
def f43 : Fd := ⟨"_law_is_right", top 64, ["hand"], ["hand", "strengths", "many", "boards_now", "lots", "others", "best_now", "due", "lot", "here", "told", "drawn_now"], true, false, false, false, (.cons (.asg (.nm 1) (.callH 40 0 (.cons (.op .Add (.con (.int 1)) (.callH 30 0 (.cons (.con (.int 7)) .nil))) .nil))) (.cons (.asg (.nm 2) (.u1 .len (.var 1))) (.cons (.asg (.nm 3) (.op .Add (.con (.int 1)) (.callH 30 0 (.cons (.var 2) .nil)))) (.cons (.asg (.nm 4) (.call 39 (.cons (.var 2) (.cons (.var 3) .nil)))) (.cons (.ife (.not (.call 32 (.cons (.call 22 (.cons (.var 1) (.cons (.var 3) .nil))) (.cons (.u1 .len (.var 4)) .nil)))) (.cons (.rt (.con (.bl false))) .nil) .nil) (.cons (.asg (.nm 5) (.callH 40 0 (.cons (.var 3) .nil))) (.cons (.asg (.nm 4) (.call 39 (.cons (.var 2) (.cons (.u1 .len (.var 5)) .nil)))) (.cons (.par (.cons (.nm 6) (.cons (.nm 7) .nil)) (.cons (.tup (.cons (.u1 .neg (.con (.int 1))) (.cons (.con (.int 1)) .nil))) (.cons (.con .non) .nil))) (.cons (.for (.seq (.var 4)) (.nm 8) (.cons (.asg (.nm 9) (.call 42 (.cons (.var 1) (.cons (.var 5) (.cons (.var 8) .nil))))) (.cons (.ife (.cmp .Gt (.op .Mult (.ix (.var 9) (.con (.int 0))) (.ix (.var 6) (.con (.int 1)))) (.op .Mult (.ix (.var 6) (.con (.int 0))) (.ix (.var 9) (.con (.int 1))))) (.cons (.par (.cons (.nm 6) (.cons (.nm 7) .nil)) (.cons (.var 9) (.cons (.var 8) .nil))) .nil) .nil) .nil))) (.cons (.asg (.nm 10) (.call 24 (.cons (.var 1) (.cons (.var 5) .nil)))) (.cons (.ife (.not (.call 32 (.cons (.var 10) (.cons (.var 7) .nil)))) (.cons (.rt (.con (.bl false))) .nil) .nil) (.cons (.asg (.nm 11) (.call 42 (.cons (.var 1) (.cons (.var 5) (.cons (.callH 31 0 (.cons (.var 4) .nil)) .nil))))) (.cons (.ife (.cmp .Gt (.op .Mult (.ix (.var 11) (.con (.int 0))) (.ix (.var 6) (.con (.int 1)))) (.op .Mult (.ix (.var 6) (.con (.int 0))) (.ix (.var 11) (.con (.int 1))))) (.cons (.rt (.con (.bl false))) .nil) .nil) (.cons (.rt (.and (.cmp .Eq (.call 22 (.cons (.var 1) (.cons (.var 2) .nil))) (.con (.int 1))) (.cmp .Eq (.call 24 (.cons (.var 1) (.cons (.var 1) .nil))) (.u1 .tuple (.lr1 (.var 2)))))) .nil))))))))))))))⟩
def f44 : Fd := ⟨"_law_is_refused", top 65, ["hand"], ["hand", "none", "rows", "odd", "few", "some", "words", "ask"], true, false, true, false, (.cons (.asg (.nm 1) (.callH 31 0 (.cons (.lstF (.cons (.con .non) (.cons (.con (.int 0)) (.cons (.tup .nil) (.cons (.lst (.cons (.con (.int 1)) (.cons (.con (.int 2)) .nil))) (.cons (.tup (.cons (.con (.int 3)) .nil)) (.cons (.tup (.cons (.u1 .neg (.con (.int 1))) .nil)) (.cons (.tup (.cons (.con (.bl true)) .nil)) (.cons (.tup (.cons (.con .non) .nil)) (.cons (.op .Mult (.tup (.cons (.con (.int 1)) .nil)) (.con (.int 9))) (.cons (.con (.str [49, 50])) (.cons (.dnew false) (.cons (.call 33 (.cons (.con (.int 12)) .nil)) .nil))))))))))))) .nil))) (.cons (.asg (.nm 2) (.lstF (.cons (.con .non) (.cons (.con (.int 0)) (.cons (.tup .nil) (.cons (.lst (.cons (.con (.int 2)) (.cons (.con (.int 1)) .nil))) (.cons (.tup (.cons (.con (.int 1)) (.cons (.con (.int 2)) .nil))) (.cons (.tup (.cons (.con (.int 1)) (.cons (.con (.int 1)) .nil))) (.cons (.tup (.cons (.con (.int 4001)) .nil)) (.cons (.tup (.cons (.u1 .neg (.con (.int 1))) .nil)) (.cons (.tup (.cons (.con (.bl true)) .nil)) (.cons (.tup (.cons (.con (.int 2)) (.cons (.con .non) .nil))) (.cons (.con (.str [50, 49])) (.cons (.dnew false) .nil)))))))))))))) (.cons (.asg (.nm 2) (.op .Add (.var 2) (.lst (.cons (.u1 .tuple (.rev (.lr1 (.con (.int 9))))) .nil)))) (.cons (.asg (.nm 2) (.callH 31 0 (.cons (.var 2) .nil))) (.cons (.asg (.nm 3) (.callH 31 0 (.cons (.lstF (.cons (.con (.int 0)) (.cons (.con (.int 4)) (.cons (.u1 .neg (.con (.int 1))) (.cons (.con .non) (.cons (.con (.bl true)) (.cons (.con (.str [49])) (.cons (.tup (.cons (.con (.int 1)) .nil)) (.cons (.dnew false) .nil))))))))) .nil))) (.cons (.asg (.nm 4) (.callH 31 0 (.cons (.lstF (.cons (.con .non) (.cons (.con (.int 0)) (.cons (.con (.str [116, 119, 111])) (.cons (.tup (.cons (.con (.int 2)) .nil)) (.cons (.dnew false) (.cons (.con (.bl true)) (.cons (.u1 .neg (.con (.int 1))) .nil)))))))) .nil))) (.cons (.asg (.nm 5) (.lstF (.cons (.con .non) (.cons (.con (.int 0)) (.cons (.lst (.cons (.tup (.cons (.con (.int 0)) (.cons (.con (.int 1)) (.cons (.tup (.cons (.con (.int 1)) .nil)) .nil)))) .nil)) (.cons (.tup (.cons (.tup (.cons (.con (.int 0)) (.cons (.con (.int 0)) (.cons (.tup (.cons (.con (.int 1)) .nil)) .nil)))) .nil)) (.cons (.tup (.cons (.tup (.cons (.con (.int 0)) (.cons (.con (.int 1)) (.cons (.tup .nil) .nil)))) .nil)) (.cons (.tup (.cons (.tup (.cons (.con (.int 0)) (.cons (.con (.int 1)) (.cons (.tup (.cons (.con (.int 3)) .nil)) .nil)))) .nil)) (.cons (.tup (.cons (.tup (.cons (.con (.int 0)) (.cons (.con (.int 1)) .nil))) .nil)) .nil))))))))) (.cons (.asg (.nm 5) (.op .Add (.var 5) (.lstF (.cons (.tup (.cons (.tup (.cons (.con (.int 0)) (.cons (.con (.int 9)) (.cons (.tup (.cons (.con (.int 1)) .nil)) .nil)))) .nil)) (.cons (.con (.str [109])) (.cons (.dnew false) (.cons (.tup (.cons (.con .non) .nil)) .nil))))))) (.cons (.asg (.nm 5) (.callH 31 0 (.cons (.op .Add (.var 5) (.lst (.cons (.op .Mult (.tup (.cons (.tup (.cons (.con (.int 0)) (.cons (.con (.int 1)) (.cons (.tup (.cons (.con (.int 1)) .nil)) .nil)))) .nil)) (.con (.int 61))) (.cons (.tup (.cons (.tup (.cons (.con (.bl true)) (.cons (.con (.int 0)) (.cons (.tup (.cons (.con (.int 1)) .nil)) .nil)))) .nil)) (.cons (.tup (.cons (.tup (.cons (.con (.int 0)) (.cons (.con (.int 1)) (.cons (.lst (.cons (.con (.int 1)) .nil)) .nil)))) .nil)) .nil))))) .nil))) (.cons (.asg (.nm 6) (.lst .nil)) (.cons (.for (.seq (.tup (.cons (.fnv 14) (.cons (.fnv 16) (.cons (.fnv 18) .nil))))) (.nm 7) (.cons (.ex (.app 6 (.lamc 34 [7, 1] (.callV [13, 14, 15, 16, 17, 18] 7 (.cons (.var 1) .nil))))) .nil)) (.cons (.ex (.app 6 (.lamc 34 [2, 3] (.call 22 (.cons (.var 2) (.cons (.var 3) .nil)))))) (.cons (.ex (.app 6 (.lamc 34 [3] (.call 22 (.cons (.tup (.cons (.con (.int 3)) (.cons (.con (.int 2)) (.cons (.con (.int 1)) .nil)))) (.cons (.var 3) .nil)))))) (.cons (.ex (.app 6 (.lamc 34 [4, 5] (.call 28 (.cons (.var 4) (.cons (.var 5) .nil)))))) (.cons (.ex (.app 6 (.lamc 34 [5] (.call 28 (.cons (.con (.int 2)) (.cons (.var 5) .nil)))))) (.cons (.rt (.cmp .Eq (.var 6) (.op .Add (.op .Mult (.lst (.cons (.tup (.cons (.con (.int 0)) .nil)) .nil)) (.con (.int 3))) (.lst (.cons (.tup (.cons (.con (.int 1)) .nil)) (.cons (.tup (.cons (.con (.int 2)) .nil)) (.cons (.tup (.cons (.con (.int 3)) .nil)) (.cons (.tup (.cons (.con (.int 4)) .nil)) .nil)))))))) .nil))))))))))))))))⟩
def f45 : Fd := ⟨"law", top 66, ["script"], ["script", "hand", "again"], false, false, false, false, (.cons (.asg (.nm 1) (.call 29 (.cons (.var 0) .nil))) (.cons (.ife (.or (.cmp .NotEq (.call 22 (.cons (.tup (.cons (.con (.int 2400)) (.cons (.con (.int 2300)) (.cons (.con (.int 2200)) (.cons (.con (.int 2100)) .nil))))) (.cons (.con (.int 2)) .nil))) (.con (.int 6))) (.cmp .NotEq (.call 24 (.cons (.tup (.cons (.con (.int 2400)) (.cons (.con (.int 2300)) .nil))) (.cons (.tup (.cons (.con (.int 2500)) .nil)) .nil))) (.tup (.cons (.con (.int 0)) .nil)))) (.cons (.rt (.con (.bl false))) .nil) .nil) (.cons (.rt (.u1 .all (.comp [2] (.rng1 (.con (.int 4))) (.nm 2) (.and (.callH 43 1 .nil) (.callH 44 1 .nil))))) .nil)))⟩
def subs : List (Nat × Nat) := [(46, 46), (46, 51), (46, 52), (47, 47), (47, 51), (47, 52), (48, 48), (48, 51), (48, 52), (49, 49), (49, 51), (49, 52), (50, 50), (50, 51), (50, 52)]
def L : Lw := ⟨[f0, f1, f2, f3, f4, f5, f6, f7, f8, f9, f10, f11, f12, f13, f14, f15, f16, f17, f18, f19, f20, f21, f22, f23, f24, f25, f26, f27, f28, f29, f30, f31, f32, f33, f34, f35, f36, f37, f38, f39, f40, f41, f42, f43, f44, f45], [("NOUGHT", (.tup [(.int 0), (.int 1)])), ("WHOLE", (.tup [(.int 1), (.int 1)])), ("SPAN", (.int 800)), ("MOST_BOARDS", (.int 8)), ("MOST_POINTS", (.int 2)), ("MOST_STRENGTH", (.int 4000)), ("MOST_MATCHES", (.int 60)), ("MOST_TEAMS", (.int 12)), ("LEAST_TEAMS", (.int 2))], [("NoMatch", 46), ("NoStrengths", 47), ("NoBoards", 48), ("NoMatches", 49), ("NoTeams", 50), ("ChessError", 51), ("ValueError", 52)], [("NoMatch", 46), ("NoStrengths", 47), ("NoBoards", 48), ("NoMatches", 49), ("NoTeams", 50)], [46, 47, 48, 49, 50], fun n m => subs.contains (n, m)⟩
theorem ok0 : f0.ok L = true := by decide +kernel
theorem ok1 : f1.ok L = true := by decide +kernel
theorem ok2 : f2.ok L = true := by decide +kernel
theorem ok3 : f3.ok L = true := by decide +kernel
theorem ok4 : f4.ok L = true := by decide +kernel
theorem ok5 : f5.ok L = true := by decide +kernel
theorem ok6 : f6.ok L = true := by decide +kernel
theorem ok7 : f7.ok L = true := by decide +kernel
theorem ok8 : f8.ok L = true := by decide +kernel
theorem ok9 : f9.ok L = true := by decide +kernel
theorem ok10 : f10.ok L = true := by decide +kernel
theorem ok11 : f11.ok L = true := by decide +kernel
theorem ok12 : f12.ok L = true := by decide +kernel
theorem ok13 : f13.ok L = true := by decide +kernel
theorem ok14 : f14.ok L = true := by decide +kernel
theorem ok15 : f15.ok L = true := by decide +kernel
theorem ok16 : f16.ok L = true := by decide +kernel
theorem ok17 : f17.ok L = true := by decide +kernel
theorem ok18 : f18.ok L = true := by decide +kernel
theorem ok19 : f19.ok L = true := by decide +kernel
theorem ok20 : f20.ok L = true := by decide +kernel
theorem ok21 : f21.ok L = true := by decide +kernel
theorem ok22 : f22.ok L = true := by decide +kernel
theorem ok23 : f23.ok L = true := by decide +kernel
theorem ok24 : f24.ok L = true := by decide +kernel
theorem ok25 : f25.ok L = true := by decide +kernel
theorem ok26 : f26.ok L = true := by decide +kernel
theorem ok27 : f27.ok L = true := by decide +kernel
theorem ok28 : f28.ok L = true := by decide +kernel
theorem ok29 : f29.ok L = true := by decide +kernel
theorem ok30 : f30.ok L = true := by decide +kernel
theorem ok31 : f31.ok L = true := by decide +kernel
theorem ok32 : f32.ok L = true := by decide +kernel
theorem ok33 : f33.ok L = true := by decide +kernel
theorem ok34 : f34.ok L = true := by decide +kernel
theorem ok35 : f35.ok L = true := by decide +kernel
theorem ok36 : f36.ok L = true := by decide +kernel
theorem ok37 : f37.ok L = true := by decide +kernel
theorem ok38 : f38.ok L = true := by decide +kernel
theorem ok39 : f39.ok L = true := by decide +kernel
theorem ok40 : f40.ok L = true := by decide +kernel
theorem ok41 : f41.ok L = true := by decide +kernel
theorem ok42 : f42.ok L = true := by decide +kernel
theorem ok43 : f43.ok L = true := by decide +kernel
theorem ok44 : f44.ok L = true := by decide +kernel
theorem ok45 : f45.ok L = true := by decide +kernel
end K77
namespace K77
open PySem L2 DV
def tl : ISs → ISs
  | .cons _ r => r
  | .nil => .nil
theorem r30 (k : Nat) : run L (k + 1) 30 = fnF 2 5 true (sxs (prL L (run L k)) f30.ir) := rfl
set_option maxHeartbeats 4000001 in
theorem draw_tail {P : Pr} {cs : List Int} {a b c d n : Int} {x : Option D} (ha : 0 ≤ a) (hb : 0 ≤ b) (hc : 0 ≤ c) (hd : 0 ≤ d) (hl : cs.length ≤ 63) (hx : ∀ x ∈ cs, 0 ≤ x) (h0 : 0 < n) (h1 : n < 1073741824) :
    ∃ r h' ρ', Sxl P (tl f30.ir) [some (handD cs a b c d), some (.int n), x, none, none] (.rt (.int r) ρ') ∧ slotD ρ' 0 = some h' ∧ 0 ≤ r ∧ r < n ∧ HandOk h' := by
  have key : ∃ r1 r2 h1 h2 ρ1 ρ2, Sxl P (tl f30.ir) [some (handD cs a b c d), some (.int n), x, none, none] (bif decide (0 < b) then .rt (.int (r1 % n)) ρ1 else .rt (.int (r2 % n)) ρ2) ∧ slotD ρ1 0 = some h1 ∧ slotD ρ2 0 = some h2 ∧ (0 < b → HandOk h1) ∧ HandOk h2 := by
    refine ⟨b, ?r2, handD cs a (b / n) c d, handD cs a b c (d + 1), ?p1, ?p2, ?main, ?e1, ?e2, fun _ => ⟨cs, a, b / n, c, d, rfl, ha, Int.ediv_nonneg hb (by omega), hc, hd, hl, hx⟩, ⟨cs, a, b, c, d + 1, rfl, ha, hb, hc, by omega, hl, hx⟩⟩
    case main =>
      unfold f30
      repeat' (first
        | exact x_con
        | exact a_nil
        | exact s_nil
        | exact o_none
        | exact x_fnv
        | exact x_glb rfl
        | exact s_dead
        | exact x_var rfl rfl
        | (refine x_var rfl ?_; simp [isFz, isFzA, isFzA_ints, isFzA_frz, isFz_frz]; done)
        | exact x_brw rfl rfl
        | exact op_add'
        | exact op_sub'
        | exact int_eq'
        | exact int_ne'
        | exact ne_two
        | exact eq_two
        | exact eq_itT'
        | exact ne_itT'
        | exact eq_itL'
        | exact ne_itL'
        | apply op_mul'
        | apply op_div'
        | apply op_mod'
        | apply x_op
        | apply x_cmp
        | apply x_ix
        | apply x_u1
        | apply x_chn
        | apply x_and
        | apply x_or
        | apply x_not
        | apply x_ife
        | apply t_cmp
        | apply t_chn
        | apply t_and
        | apply t_or
        | apply t_not
        | apply t_var
        | apply t_u1
        | apply t_call
        | apply t_ix
        | apply a_cons
        | apply x_tup
        | apply x_lst
        | apply x_lstF
        | apply x_call
        | apply x_sl
        | apply o_some
        | apply x_rev
        | apply i_seq
        | apply i_rng1
        | apply i_rng2
        | apply i_enumI
        | apply i_enum
        | apply i_zip
        | apply s_ife
        | apply s_rt
        | apply s_asg
        | apply s_par
        | apply s_sto
        | apply s_aug
        | apply s_augN
        | apply s_ex
        | exact u_sumT
        | exact u_sumL
        | exact u_allL
        | exact u_anyL
        | exact u_allM
        | exact u_anyM
        | exact u_sumM
        | exact OpV.mk rfl
        | exact CmV.mk rfl
        | exact IxV.mk rfl
        | exact U1V.mk rfl
        | apply ix_lst'
        | omega
        | (have sz := sizeLine_eq; omega)
        | (simp only [List.length_map, List.length_cons, List.length_nil]; have sz := sizeLine_eq; omega)
        | (simp only [mulOk, Bool.or_eq_true, Bool.and_eq_true, decide_eq_true_eq]; omega)
        | refine fun (_ : (_ : Bool) = true) => ?_
        | refine fun (_ : (_ : Bool) = false) => ?_
        | refine ⟨_, rfl, ?_, rfl⟩
        | rfl
        | (simp [isFz, isFzA, isFzA_ints, isFzA_frz, isFz_frz]; done)
        | intro i hi)
    case e1 => rfl
    case e2 => rfl
  obtain ⟨r1, r2, g1, g2, ρ1, ρ2, h, e1, e2, k1, k2⟩ := key
  by_cases z : 0 < b
  · rw [show decide (0 < b) = true from decide_eq_true z] at h
    exact ⟨_, g1, ρ1, h, e1, Int.emod_nonneg _ (by omega), Int.emod_lt_of_pos _ h0, k1 z⟩
  · rw [show decide (0 < b) = false from decide_eq_false z] at h
    exact ⟨_, g2, ρ2, h, e2, Int.emod_nonneg _ (by omega), Int.emod_lt_of_pos _ h0, k2⟩
set_option maxHeartbeats 4000001 in
theorem draw_ok (k : Nat) {h : D} (hh : HandOk h) {n : Int} (h0 : 0 < n) (h1 : n < 1073741824) : ∃ r h', run L (k+1) 30 [h, .int n] = .ok (.int r) [h'] ∧ 0 ≤ r ∧ r < n ∧ HandOk h' := by
  obtain ⟨cs, a, b, c, d, rfl, ha, hb, hc, hd, hl, hx⟩ := hh
  rw [r30]
  have fin : ∀ {r : Int} {h' : D} {ρ' : DV.Env}, Sxl (prL L (run L k)) f30.ir [some (handD cs a b c d), some (.int n), none, none, none] (.rt (.int r) ρ') → slotD ρ' 0 = some h' → fnF 2 5 true (sxs (prL L (run L k)) f30.ir) [handD cs a b c d, .int n] = .ok (.int r) [h'] := fun h e => f_rtH rfl h e
  have cond : ∃ t l m rest, f30.ir = .cons (.ife t l m) rest ∧ tl f30.ir = rest ∧ Tvl (prL L (run L k)) t [some (handD cs a b c d), some (.int n), none, none, none] (decide (b = 0) && decide (a < ((cs.map D.int).length : Nat))) [some (handD cs a b c d), some (.int n), none, none, none] := by
    refine ⟨_, _, _, _, rfl, rfl, ?_⟩
    repeat' (first
      | exact x_con
      | exact a_nil
      | exact s_nil
      | exact o_none
      | exact x_fnv
      | exact x_glb rfl
      | exact s_dead
      | exact x_var rfl rfl
      | (refine x_var rfl ?_; simp [isFz, isFzA, isFzA_ints, isFzA_frz, isFz_frz]; done)
      | exact x_brw rfl rfl
      | exact op_add'
      | exact op_sub'
      | exact int_eq'
      | exact int_ne'
      | exact ne_two
      | exact eq_two
      | exact eq_itT'
      | exact ne_itT'
      | exact eq_itL'
      | exact ne_itL'
      | apply op_mul'
      | apply op_div'
      | apply op_mod'
      | apply x_op
      | apply x_cmp
      | apply x_ix
      | apply x_u1
      | apply x_chn
      | apply x_and
      | apply x_or
      | apply x_not
      | apply x_ife
      | apply t_cmp
      | apply t_chn
      | apply t_and
      | apply t_or
      | apply t_not
      | apply t_var
      | apply t_u1
      | apply t_call
      | apply t_ix
      | apply a_cons
      | apply x_tup
      | apply x_lst
      | apply x_lstF
      | apply x_call
      | apply x_sl
      | apply o_some
      | apply x_rev
      | apply i_seq
      | apply i_rng1
      | apply i_rng2
      | apply i_enumI
      | apply i_enum
      | apply i_zip
      | apply s_ife
      | apply s_rt
      | apply s_asg
      | apply s_par
      | apply s_sto
      | apply s_aug
      | apply s_augN
      | apply s_ex
      | exact u_sumT
      | exact u_sumL
      | exact u_allL
      | exact u_anyL
      | exact u_allM
      | exact u_anyM
      | exact u_sumM
      | exact OpV.mk rfl
      | exact CmV.mk rfl
      | exact IxV.mk rfl
      | exact U1V.mk rfl
      | apply ix_lst'
      | omega
      | (have sz := sizeLine_eq; omega)
      | (simp only [List.length_map, List.length_cons, List.length_nil]; have sz := sizeLine_eq; omega)
      | (simp only [mulOk, Bool.or_eq_true, Bool.and_eq_true, decide_eq_true_eq]; omega)
      | refine fun (_ : (_ : Bool) = true) => ?_
      | refine fun (_ : (_ : Bool) = false) => ?_
      | refine ⟨_, rfl, ?_, rfl⟩
      | rfl
      | (simp [isFz, isFzA, isFzA_ints, isFzA_frz, isFz_frz]; done)
      | intro i hi)
  by_cases c1 : b = 0 ∧ a < cs.length
  · obtain ⟨c1, c2⟩ := c1
    have c3 : a.toNat < cs.length := by omega
    have hv : atI (cs.map D.int) a = some (.int cs[a.toNat]) := at_map (at_nat ha (List.getElem?_eq_getElem c3))
    have hv0 : 0 ≤ cs[a.toNat] := hx _ (List.getElem_mem c3)
    generalize cs[a.toNat] = v at hv hv0
    have hc' : 0 ≤ (c * 69621 + v + 283) % 2147483629 := Int.emod_nonneg _ (by decide)
    obtain ⟨r1, g1, ρ1, t1, e1, k1, k2, k3⟩ := draw_tail (P := (prL L (run L k))) (cs := cs) (a := a + 1) (b := v) (c := (c * 69621 + v + 283) % 2147483629) (d := d) (x := some (.int v)) (by omega) hv0 hc' hd hl hx h0 h1
    obtain ⟨r2, g2, ρ2, t2, e2, j1, j2, j3⟩ := draw_tail (P := (prL L (run L k))) (cs := cs) (a := a + 1) (b := b) (c := (c * 69621 + v + 283) % 2147483629) (d := d) (x := some (.int v)) (by omega) hb hc' hd hl hx h0 h1
    obtain ⟨t, l, m, rest, ei, er, ht⟩ := cond
    have cl : (decide (b = 0) && decide (a < ((cs.map D.int).length : Nat))) = true := by simp [c1, c2]
    rw [cl] at ht
    have main : Sxl (prL L (run L k)) f30.ir [some (handD cs a b c d), some (.int n), none, none, none] (bif decide ((10 : Int) ^ (18 : Int).toNat ≤ v) then .rt (.int r1) ρ1 else .rt (.int r2) ρ2) := by
      cases ei
      cases er
      refine s_ifT ht ?_
      repeat' (first
        | exact t1
        | exact t2
        | exact hv
        | exact x_con
        | exact a_nil
        | exact s_nil
        | exact o_none
        | exact x_fnv
        | exact x_glb rfl
        | exact s_dead
        | exact x_var rfl rfl
        | (refine x_var rfl ?_; simp [isFz, isFzA, isFzA_ints, isFzA_frz, isFz_frz]; done)
        | exact x_brw rfl rfl
        | exact op_add'
        | exact op_sub'
        | exact int_eq'
        | exact int_ne'
        | exact ne_two
        | exact eq_two
        | exact eq_itT'
        | exact ne_itT'
        | exact eq_itL'
        | exact ne_itL'
        | apply op_mul'
        | apply op_div'
        | apply op_mod'
        | apply x_op
        | apply x_cmp
        | apply x_ix
        | apply x_u1
        | apply x_chn
        | apply x_and
        | apply x_or
        | apply x_not
        | apply x_ife
        | apply t_cmp
        | apply t_chn
        | apply t_and
        | apply t_or
        | apply t_not
        | apply t_var
        | apply t_u1
        | apply t_call
        | apply t_ix
        | apply a_cons
        | apply x_tup
        | apply x_lst
        | apply x_lstF
        | apply x_call
        | apply x_sl
        | apply o_some
        | apply x_rev
        | apply i_seq
        | apply i_rng1
        | apply i_rng2
        | apply i_enumI
        | apply i_enum
        | apply i_zip
        | apply s_ife
        | apply s_rt
        | apply s_asg
        | apply s_par
        | apply s_sto
        | apply s_aug
        | apply s_augN
        | apply s_ex
        | exact u_sumT
        | exact u_sumL
        | exact u_allL
        | exact u_anyL
        | exact u_allM
        | exact u_anyM
        | exact u_sumM
        | exact OpV.mk rfl
        | exact CmV.mk rfl
        | exact IxV.mk rfl
        | exact U1V.mk rfl
        | apply ix_lst'
        | omega
        | (have sz := sizeLine_eq; omega)
        | (simp only [List.length_map, List.length_cons, List.length_nil]; have sz := sizeLine_eq; omega)
        | (simp only [mulOk, Bool.or_eq_true, Bool.and_eq_true, decide_eq_true_eq]; omega)
        | refine fun (_ : (_ : Bool) = true) => ?_
        | refine fun (_ : (_ : Bool) = false) => ?_
        | refine ⟨_, rfl, ?_, rfl⟩
        | rfl
        | (simp [isFz, isFzA, isFzA_ints, isFzA_frz, isFz_frz]; done)
        | intro i hi)
    by_cases z : (10 : Int) ^ (18 : Int).toNat ≤ v
    · rw [decide_eq_true z] at main
      exact ⟨r1, g1, fin main e1, k1, k2, k3⟩
    · rw [decide_eq_false z] at main
      exact ⟨r2, g2, fin main e2, j1, j2, j3⟩
  · obtain ⟨r1, g1, ρ1, t1, e1, k1, k2, k3⟩ := draw_tail (P := (prL L (run L k))) (x := none) ha hb hc hd hl hx h0 h1
    obtain ⟨t, l, m, rest, ei, er, ht⟩ := cond
    have cl : (decide (b = 0) && decide (a < ((cs.map D.int).length : Nat))) = false := by
      rw [List.length_map]
      by_cases z : b = 0
      · simp [z]
        have : ¬ a < cs.length := fun y => c1 ⟨z, y⟩
        omega
      · simp [z]
    rw [cl] at ht
    refine ⟨r1, g1, fin ?_ e1, k1, k2, k3⟩
    cases ei
    cases er
    refine s_ifF ht t1
end K77
namespace K77
open PySem L2 DV
theorem r0 (k : Nat) : run L (k + 1) 0 = fnF 1 1 false (sxs (prL L (run L k)) f0.ir) := rfl
theorem r1 (k : Nat) : run L (k + 1) 1 = fnF 3 3 false (sxs (prL L (run L k)) f1.ir) := rfl
theorem r2 (k : Nat) : run L (k + 1) 2 = fnF 2 2 false (sxs (prL L (run L k)) f2.ir) := rfl
theorem r3 (k : Nat) : run L (k + 1) 3 = fnF 3 4 false (sxs (prL L (run L k)) f3.ir) := rfl
theorem r4 (k : Nat) : run L (k + 1) 4 = fnF 2 2 false (sxs (prL L (run L k)) f4.ir) := rfl
theorem r5 (k : Nat) : run L (k + 1) 5 = fnF 2 4 false (sxs (prL L (run L k)) f5.ir) := rfl
theorem r6 (k : Nat) : run L (k + 1) 6 = fnF 2 3 false (sxs (prL L (run L k)) f6.ir) := rfl
theorem r7 (k : Nat) : run L (k + 1) 7 = fnF 2 2 false (sxs (prL L (run L k)) f7.ir) := rfl
theorem r8 (k : Nat) : run L (k + 1) 8 = fnF 2 2 false (sxs (prL L (run L k)) f8.ir) := rfl
theorem r9 (k : Nat) : run L (k + 1) 9 = fnF 1 3 false (sxs (prL L (run L k)) f9.ir) := rfl
theorem r10 (k : Nat) : run L (k + 1) 10 = fnF 2 3 false (sxs (prL L (run L k)) f10.ir) := rfl
theorem r11 (k : Nat) : run L (k + 1) 11 = fnF 1 1 false (sxs (prL L (run L k)) f11.ir) := rfl
theorem r12 (k : Nat) : run L (k + 1) 12 = fnF 1 1 false (sxs (prL L (run L k)) f12.ir) := rfl
theorem r13 (k : Nat) : run L (k + 1) 13 = fnF 1 1 false (sxs (prL L (run L k)) f13.ir) := rfl
theorem r14 (k : Nat) : run L (k + 1) 14 = fnF 1 1 false (sxs (prL L (run L k)) f14.ir) := rfl
theorem r15 (k : Nat) : run L (k + 1) 15 = fnF 1 3 false (sxs (prL L (run L k)) f15.ir) := rfl
theorem r16 (k : Nat) : run L (k + 1) 16 = fnF 1 1 false (sxs (prL L (run L k)) f16.ir) := rfl
theorem r17 (k : Nat) : run L (k + 1) 17 = fnF 1 6 false (sxs (prL L (run L k)) f17.ir) := rfl
theorem r18 (k : Nat) : run L (k + 1) 18 = fnF 1 1 false (sxs (prL L (run L k)) f18.ir) := rfl
theorem r19 (k : Nat) : run L (k + 1) 19 = fnF 1 3 false (sxs (prL L (run L k)) f19.ir) := rfl
theorem r20 (k : Nat) : run L (k + 1) 20 = fnF 1 1 false (sxs (prL L (run L k)) f20.ir) := rfl
theorem r21 (k : Nat) : run L (k + 1) 21 = fnF 2 8 false (sxs (prL L (run L k)) f21.ir) := rfl
theorem r22 (k : Nat) : run L (k + 1) 22 = fnF 2 2 false (sxs (prL L (run L k)) f22.ir) := rfl
theorem r23 (k : Nat) : run L (k + 1) 23 = fnF 3 5 false (sxs (prL L (run L k)) f23.ir) := rfl
theorem r24 (k : Nat) : run L (k + 1) 24 = fnF 2 5 false (sxs (prL L (run L k)) f24.ir) := rfl
theorem r25 (k : Nat) : run L (k + 1) 25 = fnF 2 2 false (sxs (prL L (run L k)) f25.ir) := rfl
theorem r26 (k : Nat) : run L (k + 1) 26 = fnF 2 3 false (sxs (prL L (run L k)) f26.ir) := rfl
theorem r27 (k : Nat) : run L (k + 1) 27 = fnF 3 8 false (sxs (prL L (run L k)) f27.ir) := rfl
theorem r28 (k : Nat) : run L (k + 1) 28 = fnF 2 8 false (sxs (prL L (run L k)) f28.ir) := rfl
theorem r29 (k : Nat) : run L (k + 1) 29 = fnF 1 3 false (sxs (prL L (run L k)) f29.ir) := rfl
theorem r31 (k : Nat) : run L (k + 1) 31 = fnF 2 2 true (sxs (prL L (run L k)) f31.ir) := rfl
theorem r32 (k : Nat) : run L (k + 1) 32 = fnF 2 4 false (sxs (prL L (run L k)) f32.ir) := rfl
theorem r33 (k : Nat) : run L (k + 1) 33 = fnF 1 3 false (sxs (prL L (run L k)) f33.ir) := rfl
theorem r35 (k : Nat) : run L (k + 1) 35 = fnF 2 4 false (sxs (prL L (run L k)) f35.ir) := rfl
theorem r36 (k : Nat) : run L (k + 1) 36 = fnF 2 2 false (sxs (prL L (run L k)) f36.ir) := rfl
theorem r37 (k : Nat) : run L (k + 1) 37 = fnF 2 3 false (sxs (prL L (run L k)) f37.ir) := rfl
theorem r38 (k : Nat) : run L (k + 1) 38 = fnF 1 2 true (sxs (prL L (run L k)) f38.ir) := rfl
theorem r39 (k : Nat) : run L (k + 1) 39 = fnF 2 5 false (sxs (prL L (run L k)) f39.ir) := rfl
theorem r40 (k : Nat) : run L (k + 1) 40 = fnF 2 4 true (sxs (prL L (run L k)) f40.ir) := rfl
theorem r42 (k : Nat) : run L (k + 1) 42 = fnF 3 6 false (sxs (prL L (run L k)) f42.ir) := rfl
theorem r43 (k : Nat) : run L (k + 1) 43 = fnF 1 12 true (sxs (prL L (run L k)) f43.ir) := rfl
theorem r44 (k : Nat) : run L (k + 1) 44 = fnF 1 8 true (sxs (prL L (run L k)) f44.ir) := rfl
theorem r45 (k : Nat) : run L (k + 1) 45 = fnF 1 3 false (sxs (prL L (run L k)) f45.ir) := rfl
abbrev it (l : List Int) : D := .tup (l.map .int)
theorem is_int (k : Nat) (i : Int) : Rn 0 (run L (k + 1)) [.int i] ((.bl true)) [] := by
  constructor
  rw [r0]
  apply f_rt
  · rfl
  unfold f0
  repeat' (first
    | exact x_con
    | exact a_nil
    | exact s_nil
    | exact o_none
    | exact x_fnv
    | exact x_glb rfl
    | exact s_dead
    | exact x_var rfl rfl
    | (refine x_var rfl ?_; simp [isFz, isFzA, isFzA_ints, isFzA_frz, isFz_frz]; done)
    | exact x_brw rfl rfl
    | exact op_add'
    | exact op_sub'
    | exact int_eq'
    | exact int_ne'
    | exact ne_two
    | exact eq_two
    | exact eq_itT'
    | exact ne_itT'
    | exact eq_itL'
    | exact ne_itL'
    | apply op_mul'
    | apply op_div'
    | apply op_mod'
    | apply x_op
    | apply x_cmp
    | apply x_ix
    | apply x_u1
    | apply x_chn
    | apply x_and
    | apply x_or
    | apply x_not
    | apply x_ife
    | apply t_cmp
    | apply t_chn
    | apply t_and
    | apply t_or
    | apply t_not
    | apply t_var
    | apply t_u1
    | apply t_call
    | apply t_ix
    | apply a_cons
    | apply x_tup
    | apply x_lst
    | apply x_lstF
    | apply x_call
    | apply x_sl
    | apply o_some
    | apply x_rev
    | apply i_seq
    | apply i_rng1
    | apply i_rng2
    | apply i_enumI
    | apply i_enum
    | apply i_zip
    | apply s_ife
    | apply s_rt
    | apply s_asg
    | apply s_par
    | apply s_sto
    | apply s_aug
    | apply s_augN
    | apply s_ex
    | exact u_sumT
    | exact u_sumL
    | exact u_allL
    | exact u_anyL
    | exact u_allM
    | exact u_anyM
    | exact u_sumM
    | exact OpV.mk rfl
    | exact CmV.mk rfl
    | exact IxV.mk rfl
    | exact U1V.mk rfl
    | apply ix_lst'
    | omega
    | (have sz := sizeLine_eq; omega)
    | (simp only [List.length_map, List.length_cons, List.length_nil]; have sz := sizeLine_eq; omega)
    | (simp only [mulOk, Bool.or_eq_true, Bool.and_eq_true, decide_eq_true_eq]; omega)
    | refine fun (_ : (_ : Bool) = true) => ?_
    | refine fun (_ : (_ : Bool) = false) => ?_
    | refine ⟨_, rfl, ?_, rfl⟩
    | rfl
    | (simp [isFz, isFzA, isFzA_ints, isFzA_frz, isFz_frz]; done)
    | intro i hi)
theorem within (k : Nat) (i a b : Int) : Rn 1 (run L (k + 2)) [.int i, .int a, .int b] ((.bl (decide (a ≤ i) && decide (i ≤ b)))) [] := by
  constructor
  rw [r1]
  refine f_rt (d := .bl (true && (decide (a ≤ i) && decide (i ≤ b)))) (ρ := ?p) rfl ?_
  case p => exact [some (.int i), some (.int a), some (.int b)]
  unfold f1
  repeat' (first
    | exact is_int k i
    | exact x_con
    | exact a_nil
    | exact s_nil
    | exact o_none
    | exact x_fnv
    | exact x_glb rfl
    | exact s_dead
    | exact x_var rfl rfl
    | (refine x_var rfl ?_; simp [isFz, isFzA, isFzA_ints, isFzA_frz, isFz_frz]; done)
    | exact x_brw rfl rfl
    | exact op_add'
    | exact op_sub'
    | exact int_eq'
    | exact int_ne'
    | exact ne_two
    | exact eq_two
    | exact eq_itT'
    | exact ne_itT'
    | exact eq_itL'
    | exact ne_itL'
    | apply op_mul'
    | apply op_div'
    | apply op_mod'
    | apply x_op
    | apply x_cmp
    | apply x_ix
    | apply x_u1
    | apply x_chn
    | apply x_and
    | apply x_or
    | apply x_not
    | apply x_ife
    | apply t_cmp
    | apply t_chn
    | apply t_and
    | apply t_or
    | apply t_not
    | apply t_var
    | apply t_u1
    | apply t_call
    | apply t_ix
    | apply a_cons
    | apply x_tup
    | apply x_lst
    | apply x_lstF
    | apply x_call
    | apply x_sl
    | apply o_some
    | apply x_rev
    | apply i_seq
    | apply i_rng1
    | apply i_rng2
    | apply i_enumI
    | apply i_enum
    | apply i_zip
    | apply s_ife
    | apply s_rt
    | apply s_asg
    | apply s_par
    | apply s_sto
    | apply s_aug
    | apply s_augN
    | apply s_ex
    | exact u_sumT
    | exact u_sumL
    | exact u_allL
    | exact u_anyL
    | exact u_allM
    | exact u_anyM
    | exact u_sumM
    | exact OpV.mk rfl
    | exact CmV.mk rfl
    | exact IxV.mk rfl
    | exact U1V.mk rfl
    | apply ix_lst'
    | omega
    | (have sz := sizeLine_eq; omega)
    | (simp only [List.length_map, List.length_cons, List.length_nil]; have sz := sizeLine_eq; omega)
    | (simp only [mulOk, Bool.or_eq_true, Bool.and_eq_true, decide_eq_true_eq]; omega)
    | refine fun (_ : (_ : Bool) = true) => ?_
    | refine fun (_ : (_ : Bool) = false) => ?_
    | refine ⟨_, rfl, ?_, rfl⟩
    | rfl
    | (simp [isFz, isFzA, isFzA_ints, isFzA_frz, isFz_frz]; done)
    | intro i hi)
theorem tup_of (k : Nat) (l : List D) (n : Int) : Rn 2 (run L (k + 1)) [.tup l, .int n] ((.bl (decide ((l.length : Int) = n)))) [] := by
  constructor
  rw [r2]
  refine f_rt (d := .bl (true && (decide ((l.length : Int) = n)))) (ρ := ?p) rfl ?_
  case p => exact [some (.tup l), some (.int n)]
  unfold f2
  repeat' (first
    | exact x_con
    | exact a_nil
    | exact s_nil
    | exact o_none
    | exact x_fnv
    | exact x_glb rfl
    | exact s_dead
    | exact x_var rfl rfl
    | (refine x_var rfl ?_; simp [isFz, isFzA, isFzA_ints, isFzA_frz, isFz_frz]; done)
    | exact x_brw rfl rfl
    | exact op_add'
    | exact op_sub'
    | exact int_eq'
    | exact int_ne'
    | exact ne_two
    | exact eq_two
    | exact eq_itT'
    | exact ne_itT'
    | exact eq_itL'
    | exact ne_itL'
    | apply op_mul'
    | apply op_div'
    | apply op_mod'
    | apply x_op
    | apply x_cmp
    | apply x_ix
    | apply x_u1
    | apply x_chn
    | apply x_and
    | apply x_or
    | apply x_not
    | apply x_ife
    | apply t_cmp
    | apply t_chn
    | apply t_and
    | apply t_or
    | apply t_not
    | apply t_var
    | apply t_u1
    | apply t_call
    | apply t_ix
    | apply a_cons
    | apply x_tup
    | apply x_lst
    | apply x_lstF
    | apply x_call
    | apply x_sl
    | apply o_some
    | apply x_rev
    | apply i_seq
    | apply i_rng1
    | apply i_rng2
    | apply i_enumI
    | apply i_enum
    | apply i_zip
    | apply s_ife
    | apply s_rt
    | apply s_asg
    | apply s_par
    | apply s_sto
    | apply s_aug
    | apply s_augN
    | apply s_ex
    | exact u_sumT
    | exact u_sumL
    | exact u_allL
    | exact u_anyL
    | exact u_allM
    | exact u_anyM
    | exact u_sumM
    | exact OpV.mk rfl
    | exact CmV.mk rfl
    | exact IxV.mk rfl
    | exact U1V.mk rfl
    | apply ix_lst'
    | omega
    | (have sz := sizeLine_eq; omega)
    | (simp only [List.length_map, List.length_cons, List.length_nil]; have sz := sizeLine_eq; omega)
    | (simp only [mulOk, Bool.or_eq_true, Bool.and_eq_true, decide_eq_true_eq]; omega)
    | refine fun (_ : (_ : Bool) = true) => ?_
    | refine fun (_ : (_ : Bool) = false) => ?_
    | refine ⟨_, rfl, ?_, rfl⟩
    | rfl
    | (simp [isFz, isFzA, isFzA_ints, isFzA_frz, isFz_frz]; done)
    | intro i hi)
theorem are (k : Nat) (m : List Int) (a b : Int) (hm : m.length ≤ 1000) : Rn 3 (run L (k + 3)) [it m, .int a, .int b] ((.bl (m.all fun i => decide (a ≤ i) && decide (i ≤ b)))) [] := by
  constructor
  rw [r3]
  refine f_rt (d := .bl (true && (m.all fun i => decide (a ≤ i) && decide (i ≤ b)))) (ρ := ?p) rfl ?_
  case p => exact [some (it m), some (.int a), some (.int b), none]
  unfold f3
  repeat' (first
    | refine x_compM (ρ1 := ?_) (ρ' := ?_) m D.int (fun i => .bl (decide (a ≤ i) && decide (i ≤ b))) ?_ ?_ ?_ (fun i hi => ?_)
    | exact within k _ _ _
    | exact x_con
    | exact a_nil
    | exact s_nil
    | exact o_none
    | exact x_fnv
    | exact x_glb rfl
    | exact s_dead
    | exact x_var rfl rfl
    | (refine x_var rfl ?_; simp [isFz, isFzA, isFzA_ints, isFzA_frz, isFz_frz]; done)
    | exact x_brw rfl rfl
    | exact op_add'
    | exact op_sub'
    | exact int_eq'
    | exact int_ne'
    | exact ne_two
    | exact eq_two
    | exact eq_itT'
    | exact ne_itT'
    | exact eq_itL'
    | exact ne_itL'
    | apply op_mul'
    | apply op_div'
    | apply op_mod'
    | apply x_op
    | apply x_cmp
    | apply x_ix
    | apply x_u1
    | apply x_chn
    | apply x_and
    | apply x_or
    | apply x_not
    | apply x_ife
    | apply t_cmp
    | apply t_chn
    | apply t_and
    | apply t_or
    | apply t_not
    | apply t_var
    | apply t_u1
    | apply t_call
    | apply t_ix
    | apply a_cons
    | apply x_tup
    | apply x_lst
    | apply x_lstF
    | apply x_call
    | apply x_sl
    | apply o_some
    | apply x_rev
    | apply i_seq
    | apply i_rng1
    | apply i_rng2
    | apply i_enumI
    | apply i_enum
    | apply i_zip
    | apply s_ife
    | apply s_rt
    | apply s_asg
    | apply s_par
    | apply s_sto
    | apply s_aug
    | apply s_augN
    | apply s_ex
    | exact u_sumT
    | exact u_sumL
    | exact u_allL
    | exact u_anyL
    | exact u_allM
    | exact u_anyM
    | exact u_sumM
    | exact OpV.mk rfl
    | exact CmV.mk rfl
    | exact IxV.mk rfl
    | exact U1V.mk rfl
    | apply ix_lst'
    | omega
    | (have sz := sizeLine_eq; omega)
    | (simp only [List.length_map, List.length_cons, List.length_nil]; have sz := sizeLine_eq; omega)
    | (simp only [mulOk, Bool.or_eq_true, Bool.and_eq_true, decide_eq_true_eq]; omega)
    | refine fun (_ : (_ : Bool) = true) => ?_
    | refine fun (_ : (_ : Bool) = false) => ?_
    | refine ⟨_, rfl, ?_, rfl⟩
    | rfl
    | (simp [isFz, isFzA, isFzA_ints, isFzA_frz, isFz_frz]; done)
    | intro i hi)
theorem at_int {l : List Int} {i : Int} (h0 : 0 ≤ i) (h1 : i < l.length) : atI (l.map D.int) i = some (.int (l.getD i.toNat 0)) := by
  have h : i.toNat < l.length := by omega
  refine at_map (at_nat h0 ?_)
  rw [List.getD_eq_getElem?_getD, List.getElem?_eq_getElem h]
  rfl
theorem ix_nat {n : Nat} {i : Int} (h0 : 0 ≤ i) (h1 : i < n) : ixN n i = some i.toNat := by
  unfold ixN
  rw [if_pos h0, if_pos h1]
theorem rng_map (n : Nat) : rangeD 0 ((n : Int)).toNat = (List.range n).map fun (i : Nat) => D.int (i : Int) := by
  unfold rangeD
  rw [Int.toNat_natCast]
  simp
def absI (i : Int) : Int := if i < 0 then -i else i
theorem cut63 (ns : List Int) (h : ns.length ≤ 63) : gSl none (some 63) (.scr (ns.map D.int)) = some (.lst true (ns.map D.int)) := by
  show some (D.lst true (cutL (ns.map D.int) none (some 63))) = _
  rw [cutL_all]
  refine ⟨rfl, ?_⟩
  unfold HT.sIx
  rw [List.length_map]
  simp
  omega
theorem frzA_intsM {α : Type} (f : α → Int) : ∀ l : List α, frzA (l.map fun a => D.int (f a)) = l.map fun a => D.int (f a)
  | [] => rfl
  | _ :: l => by simp [frzA, frz, frzA_intsM f l]
theorem hand (k : Nat) (ns : List Int) (h : ns.length ≤ 63) : ∃ hd, Rn 29 (run L (k + 1)) [.scr (ns.map D.int)] hd [] ∧ HandOk hd := by
  refine ⟨handD (ns.map absI) 0 0 (199 + ns.length) 0, ?_, ns.map absI, 0, 0, 199 + ns.length, 0, rfl, Int.le_refl 0, Int.le_refl 0, by omega, Int.le_refl 0, by simpa using h, fun x hx => ?_⟩
  · constructor
    rw [r29]
    apply Eq.trans
    · apply f_ev
      · rfl
      · unfold f29
        repeat' (first
          | exact cut63 ns h
          | exact congrArg some (frzA_ints _)
          | apply x_compM ns D.int (fun i => D.int (absI i))
          | exact x_con
          | exact a_nil
          | exact s_nil
          | exact o_none
          | exact x_fnv
          | exact x_glb rfl
          | exact s_dead
          | exact x_var rfl rfl
          | (refine x_var rfl ?_; simp [isFz, isFzA, isFzA_ints, isFzA_frz, isFz_frz]; done)
          | exact x_brw rfl rfl
          | exact op_add'
          | exact op_sub'
          | exact int_eq'
          | exact int_ne'
          | exact ne_two
          | exact eq_two
          | exact eq_itT'
          | exact ne_itT'
          | exact eq_itL'
          | exact ne_itL'
          | apply op_mul'
          | apply op_div'
          | apply op_mod'
          | apply x_op
          | apply x_cmp
          | apply x_ix
          | apply x_u1
          | apply x_chn
          | apply x_and
          | apply x_or
          | apply x_not
          | apply x_ife
          | apply t_cmp
          | apply t_chn
          | apply t_and
          | apply t_or
          | apply t_not
          | apply t_var
          | apply t_u1
          | apply t_call
          | apply t_ix
          | apply a_cons
          | apply x_tup
          | apply x_lst
          | apply x_lstF
          | apply x_call
          | apply x_sl
          | apply o_some
          | apply x_rev
          | apply i_seq
          | apply i_rng1
          | apply i_rng2
          | apply i_enumI
          | apply i_enum
          | apply i_zip
          | apply s_ife
          | apply s_rt
          | apply s_asg
          | apply s_par
          | apply s_sto
          | apply s_aug
          | apply s_augN
          | apply s_ex
          | exact u_sumT
          | exact u_sumL
          | exact u_allL
          | exact u_anyL
          | exact u_allM
          | exact u_anyM
          | exact u_sumM
          | exact OpV.mk rfl
          | exact CmV.mk rfl
          | exact IxV.mk rfl
          | exact U1V.mk rfl
          | apply ix_lst'
          | omega
          | (have sz := sizeLine_eq; omega)
          | (simp only [List.length_map, List.length_cons, List.length_nil]; have sz := sizeLine_eq; omega)
          | (simp only [mulOk, Bool.or_eq_true, Bool.and_eq_true, decide_eq_true_eq]; omega)
          | refine fun (_ : (_ : Bool) = true) => ?_
          | refine fun (_ : (_ : Bool) = false) => ?_
          | refine ⟨_, rfl, ?_, rfl⟩
          | rfl
          | (simp [isFz, isFzA, isFzA_ints, isFzA_frz, isFz_frz]; done)
          | intro i hi)
    · simp [finR, handD, frz, frzA_intsM, List.map_map]
  · obtain ⟨y, _, rfl⟩ := List.mem_map.mp hx
    unfold absI
    split <;> omega
theorem drawR (k : Nat) {h : D} (hh : HandOk h) {n : Int} (h0 : 0 < n) (h1 : n < 1073741824) : ∃ r h', Rn 30 (run L (k + 1)) [h, .int n] (.int r) [h'] ∧ 0 ≤ r ∧ r < n ∧ HandOk h' := by
  obtain ⟨r, h', e, a, b, c⟩ := draw_ok k hh h0 h1
  exact ⟨r, h', ⟨e⟩, a, b, c⟩
theorem isFzA_intsM {α : Type} (f : α → Int) : ∀ l : List α, isFzA (l.map fun a => D.int (f a)) = true
  | [] => rfl
  | _ :: l => by simp [isFzA, isFz, isFzA_intsM f l]
theorem ints_of : ∀ {l : List D} {a b : Int}, (∀ d ∈ l, ∃ x : Int, d = .int x ∧ a ≤ x ∧ x ≤ b) → ∃ m : List Int, l = m.map .int ∧ ∀ x ∈ m, a ≤ x ∧ x ≤ b
  | [], _, _, _ => ⟨[], rfl, by simp⟩
  | d :: l, a, b, h => by
    obtain ⟨x, rfl, h1⟩ := h d (by simp)
    obtain ⟨m, rfl, h2⟩ := ints_of (l := l) fun d hd => h d (by simp [hd])
    exact ⟨x :: m, rfl, fun y hy => by
      (rcases List.mem_cons.mp hy with rfl | hy)
      · exact h1
      · exact h2 y hy⟩
theorem rangeD_len (lo : Int) (n : Nat) : (rangeD lo n).length = n := by simp [rangeD]
theorem erase_perm {α : Type} : ∀ (l : List α) (j : Nat) (h : j < l.length), (l[j] :: l.eraseIdx j).Perm l
  | x :: l, 0, _ => List.Perm.refl _
  | x :: l, j + 1, h => by
    have h2 : j < l.length := by simpa using h
    show (l[j] :: x :: l.eraseIdx j).Perm (x :: l)
    exact (List.Perm.swap _ _ _).trans (List.Perm.cons _ (erase_perm l j h2))
theorem u_listL {o : Bool} {l : List D} (h : isFzA l = true) : U1V .list (.lst o l) (.lst true l) := ⟨by simp [U1.g, seqD, h]⟩
theorem is_i (k : Nat) (x : Int) : Rn 32 (run L (k + 1)) [.int x, .int x] (.bl true) [] := by
  constructor
  rw [r32]
  apply Eq.trans
  · apply f_ev
    · rfl
    · unfold f32
      repeat' (first
        | apply s_ifF'
        | exact x_con
        | exact a_nil
        | exact s_nil
        | exact o_none
        | exact x_fnv
        | exact x_glb rfl
        | exact s_dead
        | exact x_var rfl rfl
        | (refine x_var rfl ?_; simp [isFz, isFzA, isFzA_ints, isFzA_frz, isFz_frz]; done)
        | exact x_brw rfl rfl
        | exact op_add'
        | exact op_sub'
        | exact int_eq'
        | exact int_ne'
        | exact ne_two
        | exact eq_two
        | exact eq_itT'
        | exact ne_itT'
        | exact eq_itL'
        | exact ne_itL'
        | apply op_mul'
        | apply op_div'
        | apply op_mod'
        | apply x_op
        | apply x_cmp
        | apply x_ix
        | apply x_u1
        | apply x_chn
        | apply x_and
        | apply x_or
        | apply x_not
        | apply x_ife
        | apply t_cmp
        | apply t_chn
        | apply t_and
        | apply t_or
        | apply t_not
        | apply t_var
        | apply t_u1
        | apply t_call
        | apply t_ix
        | apply a_cons
        | apply x_tup
        | apply x_lst
        | apply x_lstF
        | apply x_call
        | apply x_sl
        | apply o_some
        | apply x_rev
        | apply i_seq
        | apply i_rng1
        | apply i_rng2
        | apply i_enumI
        | apply i_enum
        | apply i_zip
        | apply s_ife
        | apply s_rt
        | apply s_asg
        | apply s_par
        | apply s_sto
        | apply s_aug
        | apply s_augN
        | apply s_ex
        | exact u_sumT
        | exact u_sumL
        | exact u_allL
        | exact u_anyL
        | exact u_allM
        | exact u_anyM
        | exact u_sumM
        | exact OpV.mk rfl
        | exact CmV.mk rfl
        | exact IxV.mk rfl
        | exact U1V.mk rfl
        | apply ix_lst'
        | omega
        | (have sz := sizeLine_eq; omega)
        | (simp only [List.length_map, List.length_cons, List.length_nil]; have sz := sizeLine_eq; omega)
        | (simp only [mulOk, Bool.or_eq_true, Bool.and_eq_true, decide_eq_true_eq]; omega)
        | refine fun (_ : (_ : Bool) = true) => ?_
        | refine fun (_ : (_ : Bool) = false) => ?_
        | refine ⟨_, rfl, ?_, rfl⟩
        | rfl
        | (simp [isFz, isFzA, isFzA_ints, isFzA_frz, isFz_frz]; done)
        | intro i hi)
  · simp [finR]
theorem zipD_same : ∀ l : List D, zipD l l = l.map fun d => .tup [d, d]
  | [] => rfl
  | d :: l => by simp [zipD, zipD_same l]
theorem i_zipS {P : Pr} {a b : IE} {ρ ρ1 : DV.Env} {l : List D} (h : Avl P true (.cons a (.cons b .nil)) ρ [.tup l, .tup l] ρ1) : Ivl P (.zip a b) ρ (l.map fun d => .tup [d, d]) ρ1 := by
  rw [← zipD_same]
  exact i_zip h rfl
theorem all_true {α : Type} (l : List α) : (l.all fun _ => true) = true := List.all_eq_true.mpr fun _ _ => rfl
theorem is_t (k : Nat) (l : List D) (hl : l.length ≤ 1000) (h : ∀ d ∈ l, Rn 32 (run L k) [d, d] (.bl true) [] ∧ isFz d = true ∧ frz d = d) : Rn 32 (run L (k + 1)) [.tup l, .tup l] (.bl true) [] := by
  constructor
  rw [r32]
  apply Eq.trans
  · apply f_ev
    · rfl
    · unfold f32
      repeat' (first
        | apply s_ifF' (t := .or (.cmp _ _ _) _)
        | apply s_ifT'
        | apply i_zipS
        | apply x_compM (vs := [2, 3]) l (fun d => D.tup [d, d]) (fun d => D.bl true)
        | exact (h _ hi).1
        | (refine x_var rfl ?_; exact (h _ hi).2.1)
        | exact congrArg (fun z => some (z, _)) (h _ hi).2.2
        | exact x_con
        | exact a_nil
        | exact s_nil
        | exact o_none
        | exact x_fnv
        | exact x_glb rfl
        | exact s_dead
        | exact x_var rfl rfl
        | (refine x_var rfl ?_; simp [isFz, isFzA, isFzA_ints, isFzA_frz, isFz_frz]; done)
        | exact x_brw rfl rfl
        | exact op_add'
        | exact op_sub'
        | exact int_eq'
        | exact int_ne'
        | exact ne_two
        | exact eq_two
        | exact eq_itT'
        | exact ne_itT'
        | exact eq_itL'
        | exact ne_itL'
        | apply op_mul'
        | apply op_div'
        | apply op_mod'
        | apply x_op
        | apply x_cmp
        | apply x_ix
        | apply x_u1
        | apply x_chn
        | apply x_and
        | apply x_or
        | apply x_not
        | apply x_ife
        | apply t_cmp
        | apply t_chn
        | apply t_and
        | apply t_or
        | apply t_not
        | apply t_var
        | apply t_u1
        | apply t_call
        | apply t_ix
        | apply a_cons
        | apply x_tup
        | apply x_lst
        | apply x_lstF
        | apply x_call
        | apply x_sl
        | apply o_some
        | apply x_rev
        | apply i_seq
        | apply i_rng1
        | apply i_rng2
        | apply i_enumI
        | apply i_enum
        | apply i_zip
        | apply s_ife
        | apply s_rt
        | apply s_asg
        | apply s_par
        | apply s_sto
        | apply s_aug
        | apply s_augN
        | apply s_ex
        | exact u_sumT
        | exact u_sumL
        | exact u_allL
        | exact u_anyL
        | exact u_allM
        | exact u_anyM
        | exact u_sumM
        | exact OpV.mk rfl
        | exact CmV.mk rfl
        | exact IxV.mk rfl
        | exact U1V.mk rfl
        | apply ix_lst'
        | omega
        | (have sz := sizeLine_eq; omega)
        | (simp only [List.length_map, List.length_cons, List.length_nil]; have sz := sizeLine_eq; omega)
        | (simp only [mulOk, Bool.or_eq_true, Bool.and_eq_true, decide_eq_true_eq]; omega)
        | refine fun (_ : (_ : Bool) = true) => ?_
        | refine fun (_ : (_ : Bool) = false) => ?_
        | refine ⟨_, rfl, ?_, rfl⟩
        | rfl
        | (simp [isFz, isFzA, isFzA_ints, isFzA_frz, isFz_frz]; done)
        | intro i hi)
  · have e := all_true l
    simp only [e]
    simp [finR]
theorem is_two (k : Nat) (a b : Int) : Rn 32 (run L (k + 2)) [.tup [.int a, .int b], .tup [.int a, .int b]] (.bl true) [] := by
  refine is_t (k + 1) _ (by simp) fun d hd => ?_
  simp only [List.mem_cons, List.not_mem_nil, or_false] at hd
  rcases hd with rfl | rfl
  · exact ⟨is_i k _, rfl, rfl⟩
  · exact ⟨is_i k _, rfl, rfl⟩
theorem is_its (k : Nat) (l : List Int) (h : l.length ≤ 1000) : Rn 32 (run L (k + 2)) [it l, it l] (.bl true) [] := by
  refine is_t (k + 1) _ (by simpa using h) fun d hd => ?_
  obtain ⟨x, _, rfl⟩ := List.mem_map.mp hd
  exact ⟨is_i k _, rfl, rfl⟩
theorem u_sum2 {a b : Int} : U1V .sum (.tup [.int a, .int b]) (.int (a + b)) := by
  have := u_sumT (l := [a, b])
  rw [show [a, b].sum = a + b by simp] at this
  exact this
theorem perm_map {α β : Type} (f : α → β) {a b : List β} (h : a.Perm b) : ∀ l : List α, b = l.map f → ∃ l' : List α, a = l'.map f ∧ l'.Perm l := by
  induction h with
  | nil => intro l e; exact ⟨[], rfl, by rw [List.map_eq_nil_iff.mp e.symm]⟩
  | cons x _ ih =>
    intro l e
    cases l with
    | nil => cases e
    | cons y l =>
      cases e
      obtain ⟨l', rfl, p⟩ := ih l rfl
      exact ⟨y :: l', rfl, p.cons y⟩
  | swap x y t =>
    intro l e
    match l, e with
    | u :: v :: l, e =>
      cases e
      exact ⟨v :: u :: l, rfl, .swap _ _ _⟩
  | trans _ _ i1 i2 =>
    intro l e
    obtain ⟨l', rfl, p⟩ := i2 l e
    obtain ⟨l'', rfl, q⟩ := i1 l' rfl
    exact ⟨l'', rfl, q.trans p⟩
def natsI (n : Nat) : List Int := (List.range n).map fun (i : Nat) => (i : Int)
theorem rng_nats (n : Nat) : rangeD 0 ((n : Int)).toNat = (natsI n).map D.int := by
  rw [rng_map]
  unfold natsI
  rw [List.map_map]
  rfl
theorem rg_ok {n : Nat} (h : n ≤ 1000) : rgOk 0 (n : Int) = true := by
  have e : n < 1001 := by omega
  unfold rgOk
  have sz := sizeLine_eq
  simp [smallI]
  omega
theorem x_lrN {P : Pr} {a : IE} {ρ ρ1 : DV.Env} {x : DV.It} {n : Nat} (h : Evl P a ρ x ρ1) (h1 : dref ρ1 x = some (.int (n : Int))) (h2 : n ≤ 1000) : Evl P (.lr1 a) ρ (.val (.lst true ((natsI n).map .int))) ρ1 := by
  rw [← rng_nats]
  exact x_lr1 h h1 (rg_ok h2)
theorem nats_mem {n : Nat} {x : Int} (h : x ∈ natsI n) : 0 ≤ x ∧ x < n := by
  unfold natsI at h
  (obtain ⟨i, hi, rfl⟩ := List.mem_map.mp h)
  have := List.mem_range.mp hi
  omega
theorem nats_nodup (n : Nat) : (natsI n).Nodup := by
  unfold natsI List.Nodup
  rw [List.pairwise_map]
  refine List.Pairwise.imp ?_ (List.pairwise_lt_range (n := n))
  intro a b h
  omega
theorem nats_len (n : Nat) : (natsI n).length = n := by simp [natsI]
theorem cut_two (x y : Int) (r : List Int) : gSl none (some 2) (.lst true ((x :: y :: r).map D.int)) = some (.lst true [.int x, .int y]) := by
  show (if isFzA ((x :: y :: r).map D.int) then some (D.lst true (cutL ((x :: y :: r).map D.int) none (some 2))) else none) = _
  rw [isFzA_ints, if_pos rfl]
  congr 1
end K77
namespace K77
open PySem L2 DV
theorem gcd_step (a b k : Int) : Int.gcd b (a - b * k) = Int.gcd a b := by
  rw [Int.gcd_comm a b, Int.sub_eq_add_neg, ← Int.mul_neg, Int.gcd_add_mul_left_right]
theorem fmod_small (a b : Int) (h : b ≠ 0) : (a - b * a.fdiv b).natAbs < b.natAbs := by
  rw [← Int.fmod_def]
  rcases Int.lt_or_gt_of_ne h with k | k
  · have e : a.fmod b = -((-a).fmod (-b)) := by rw [Int.neg_fmod_neg, Int.neg_neg]
    have h1 := Int.fmod_nonneg_of_pos (-a) (b := -b) (by omega)
    have h2 := Int.fmod_lt_of_pos (-a) (b := -b) (by omega)
    omega
  · have h1 := Int.fmod_nonneg_of_pos a k
    have h2 := Int.fmod_lt_of_pos a k
    omega
theorem gcd_mod (a b : Int) : Int.gcd b (a % b) = Int.gcd a b := by
  rw [Int.emod_def]
  exact gcd_step a b (a / b)
/-! fractions over 800 -/
def nn (n : Int) : Int := (Rat.divInt n 800).num
def dd (n : Int) : Int := ((Rat.divInt n 800).den : Int)
theorem dd_pos (n : Int) : 0 < dd n := by
  unfold dd
  exact Int.natCast_pos.mpr (Rat.den_pos _)
theorem nd_eq (n : Int) : nn n * 800 = n * dd n := by
  have h : Rat.divInt (nn n) (dd n) = Rat.divInt n 800 := Rat.num_divInt_den _
  exact (Rat.divInt_eq_divInt_iff (Int.ne_of_gt (dd_pos n)) (by decide)).mp h
theorem frac_val {a b n : Int} (hb : 0 < b) (h : a * 800 = n * b) : a / (Int.gcd b a : Int) = nn n ∧ b / (Int.gcd b a : Int) = dd n := by
  have e : Rat.divInt a b = Rat.divInt n 800 := (Rat.divInt_eq_divInt_iff (Int.ne_of_gt hb) (by decide)).mpr h
  unfold nn dd
  rw [← e, Rat.num_divInt, Rat.den_divInt, if_neg (Int.ne_of_gt hb), Int.sign_eq_one_of_pos hb, Int.one_mul]
  refine ⟨rfl, ?_⟩
  rw [Int.natCast_ediv, Int.natAbs_of_nonneg (Int.le_of_lt hb)]
theorem dd_dvd (n : Int) : ∃ g, 0 < g ∧ dd n * g = 800 ∧ nn n * g = n := by
  have h := frac_val (a := n) (b := 800) (n := n) (by decide) rfl
  have p : 0 < (Int.gcd 800 n : Int) := by
    have : 0 < Int.gcd 800 n := Int.gcd_pos_of_ne_zero_left _ (by decide)
    omega
  refine ⟨Int.gcd 800 n, p, ?_, ?_⟩
  · rw [← h.2]
    exact Int.ediv_mul_cancel (Int.gcd_dvd_left ..)
  · rw [← h.1]
    exact Int.ediv_mul_cancel (Int.gcd_dvd_right ..)
theorem dd_le (n : Int) : dd n ≤ 800 := by
  obtain ⟨g, h1, h2, h3⟩ := dd_dvd n
  have := dd_pos n
  have : dd n * 1 ≤ dd n * g := Int.mul_le_mul_of_nonneg_left (by omega) (by omega)
  omega
theorem nn_le (n : Int) : (nn n).natAbs ≤ n.natAbs := by
  obtain ⟨g, h1, h2, h3⟩ := dd_dvd n
  have e : n.natAbs = (nn n).natAbs * g.natAbs := by rw [← Int.natAbs_mul, h3]
  rw [e]
  exact Nat.le_mul_of_pos_right _ (by omega)
theorem nn_neg (n : Int) : nn (-n) = -nn n ∧ dd (-n) = dd n := by
  have h := frac_val (a := -nn n) (b := dd n) (n := -n) (dd_pos n) (by rw [Int.neg_mul, nd_eq, Int.neg_mul])
  have h2 := frac_val (a := nn n) (b := dd n) (n := n) (dd_pos n) (nd_eq n)
  have g1 : (Int.gcd (dd n) (nn n) : Int) = 1 := by
    have := (Rat.divInt n 800).reduced
    unfold dd nn
    rw [Int.gcd_comm]
    unfold Int.gcd
    rw [Int.natAbs_natCast]
    exact congrArg Int.ofNat this
  have g2 : (Int.gcd (dd n) (-nn n) : Int) = 1 := by rw [Int.gcd_neg, g1]
  rw [g2, Int.ediv_one, Int.ediv_one] at h
  exact ⟨h.1.symm, h.2.symm⟩
theorem nn_sign (n : Int) : (nn n < 0 ↔ n < 0) ∧ (dd n < nn n ↔ 800 < n) := by
  obtain ⟨g, h1, h2, h3⟩ := dd_dvd n
  constructor
  · constructor
    · intro h
      rw [← h3]
      exact Int.mul_neg_of_neg_of_pos h h1
    · intro h
      rw [← h3] at h
      exact Int.neg_of_mul_neg_left h (by omega) |> fun z => z
  · rw [← h2]
    conv => rhs; rhs; rw [← h3]
    exact (Int.mul_lt_mul_right h1).symm
/-- rounded, halves away from nought -/
def rnd (n : Int) : Int := if 0 ≤ n then (2 * n + 800) / 1600 else -((2 * -n + 800) / 1600)
theorem rnd_neg (n : Int) : rnd (-n) = -rnd n := by
  unfold rnd
  by_cases h : n = 0
  · subst h; decide
  · by_cases k : 0 ≤ n
    · rw [if_pos k, if_neg (by omega), Int.neg_neg]
    · rw [if_neg k, if_pos (by omega), Int.neg_neg]
theorem rnd_abs (n : Int) : (2 * (if nn n < 0 then -nn n else nn n) + dd n) / (2 * dd n) = (2 * (if n < 0 then -n else n) + 800) / 1600 := by
  obtain ⟨g, h1, h2, h3⟩ := dd_dvd n
  have e : (if n < 0 then -n else n) = (if nn n < 0 then -nn n else nn n) * g := by
    by_cases k : n < 0
    · rw [if_pos k, if_pos ((nn_sign n).1.mpr k), Int.neg_mul, h3]
    · rw [if_neg k, if_neg (fun z => k ((nn_sign n).1.mp z)), h3]
  rw [e, show (1600 : Int) = (2 * dd n) * g by rw [Int.mul_assoc, h2]; rfl, show 2 * ((if nn n < 0 then -nn n else nn n) * g) + 800 = (2 * (if nn n < 0 then -nn n else nn n) + dd n) * g by rw [Int.add_mul, h2, Int.mul_assoc]]
  rw [Int.mul_ediv_mul_of_pos_left _ _ h1]
theorem c400 : nn 400 = 1 ∧ dd 400 = 2 := frac_val (a := 1) (b := 2) (n := 400) (by decide) (by decide) |> fun h => ⟨h.1.symm.trans (by decide), h.2.symm.trans (by decide)⟩
theorem c0 : nn 0 = 0 ∧ dd 0 = 1 := frac_val (a := 0) (b := 1) (n := 0) (by decide) (by decide) |> fun h => ⟨h.1.symm.trans (by decide), h.2.symm.trans (by decide)⟩
theorem c800 : nn 800 = 1 ∧ dd 800 = 1 := frac_val (a := 1) (b := 1) (n := 800) (by decide) (by decide) |> fun h => ⟨h.1.symm.trans (by decide), h.2.symm.trans (by decide)⟩
theorem plus_val (m n : Int) : (nn m * dd n + nn n * dd m) * 800 = (m + n) * (dd m * dd n) := by
  have h1 := nd_eq m
  have h2 := nd_eq n
  grind
theorem minus_val (m n : Int) : (nn m * dd n - nn n * dd m) * 800 = (m - n) * (dd m * dd n) := by
  have h1 := nd_eq m
  have h2 := nd_eq n
  grind
theorem times_val (m w : Int) : (nn m * w) * 800 = (m * w) * dd m := by
  have h1 := nd_eq m
  grind
theorem below_val (m n : Int) : nn m * dd n < nn n * dd m ↔ m < n := by
  obtain ⟨g, h1, h2, h3⟩ := dd_dvd m
  obtain ⟨g', h1', h2', h3'⟩ := dd_dvd n
  have e1 : nn m * dd n * (g * g') = m * 800 := by rw [← h3, ← h2']; grind
  have e2 : nn n * dd m * (g * g') = n * 800 := by rw [← h3', ← h2]; grind
  have p : 0 < g * g' := Int.mul_pos h1 h1'
  constructor
  · intro h
    have := Int.mul_lt_mul_of_pos_right h p
    omega
  · intro h
    have : nn m * dd n * (g * g') < nn n * dd m * (g * g') := by omega
    exact Int.lt_of_mul_lt_mul_right this (Int.le_of_lt p)
/-! the walk of fractions -/
abbrev fr (n : Int) : D := .tup [.int (nn n), .int (dd n)]
def Fr (a b : Int) : Prop := a.natAbs < 1073741824 ∧ 0 < b ∧ b < 1073741824
theorem cpart (k : Nat) {a b : Int} (h : a.natAbs < 1073741824) : Rn 4 (run L (k + 1)) [.int b, .int a] (.int (Int.gcd b a : Int)) [] := by
  constructor
  have loop := whl_inv (P := (prL L (run L k))) (t := .cmp .NotEq (.var 1) (.con (.int 0))) (l := .cons (.par (.cons (.nm 0) (.cons (.nm 1) .nil)) (.cons (.var 1) (.cons (.op .Sub (.var 0) (.op .Mult (.var 1) (.op .FloorDiv (.var 0) (.var 1)))) .nil))) .nil)
    (fun m ρ => ∃ x y : Int, ρ = [some (.int x), some (.int y)] ∧ y.natAbs = m ∧ Int.gcd x y = Int.gcd b a ∧ y.natAbs < 1073741824) (fun m ρ hi => by
      obtain ⟨x, y, rfl, e1, e2, e3⟩ := hi
      have tt : Tvl (prL L (run L k)) (.cmp .NotEq (.var 1) (.con (.int 0))) [some (.int x), some (.int y)] (!decide (y = 0)) [some (.int x), some (.int y)] := by repeat' (first
          | exact x_con
          | exact a_nil
          | exact s_nil
          | exact o_none
          | exact x_fnv
          | exact x_glb rfl
          | exact s_dead
          | exact x_var rfl rfl
          | (refine x_var rfl ?_; simp [isFz, isFzA, isFzA_ints, isFzA_frz, isFz_frz]; done)
          | exact x_brw rfl rfl
          | exact op_add'
          | exact op_sub'
          | exact int_eq'
          | exact int_ne'
          | exact ne_two
          | exact eq_two
          | exact eq_itT'
          | exact ne_itT'
          | exact eq_itL'
          | exact ne_itL'
          | apply op_mul'
          | apply op_div'
          | apply op_mod'
          | apply x_op
          | apply x_cmp
          | apply x_ix
          | apply x_u1
          | apply x_chn
          | apply x_and
          | apply x_or
          | apply x_not
          | apply x_ife
          | apply t_cmp
          | apply t_chn
          | apply t_and
          | apply t_or
          | apply t_not
          | apply t_var
          | apply t_u1
          | apply t_call
          | apply t_ix
          | apply a_cons
          | apply x_tup
          | apply x_lst
          | apply x_lstF
          | apply x_call
          | apply x_sl
          | apply o_some
          | apply x_rev
          | apply i_seq
          | apply i_rng1
          | apply i_rng2
          | apply i_enumI
          | apply i_enum
          | apply i_zip
          | apply s_ife
          | apply s_rt
          | apply s_asg
          | apply s_par
          | apply s_sto
          | apply s_aug
          | apply s_augN
          | apply s_ex
          | exact u_sumT
          | exact u_sumL
          | exact u_allL
          | exact u_anyL
          | exact u_allM
          | exact u_anyM
          | exact u_sumM
          | exact OpV.mk rfl
          | exact CmV.mk rfl
          | exact IxV.mk rfl
          | exact U1V.mk rfl
          | apply ix_lst'
          | omega
          | (have sz := sizeLine_eq; omega)
          | (simp only [List.length_map, List.length_cons, List.length_nil]; have sz := sizeLine_eq; omega)
          | (simp only [mulOk, Bool.or_eq_true, Bool.and_eq_true, decide_eq_true_eq]; omega)
          | refine fun (_ : (_ : Bool) = true) => ?_
          | refine fun (_ : (_ : Bool) = false) => ?_
          | refine ⟨_, rfl, ?_, rfl⟩
          | rfl
          | (simp [isFz, isFzA, isFzA_ints, isFzA_frz, isFz_frz]; done)
          | intro i hi)
      by_cases z : y = 0
      · left
        subst z
        exact ⟨_, tt, ⟨x, 0, rfl, rfl, e2, by decide⟩, e1.symm⟩
      · right
        rw [decide_eq_false z] at tt
        have sm := fmod_small x y z
        have od : OpV .FloorDiv (.int x) (.int y) (.int (x.fdiv y)) := op_fdiv' z e3
        have mo : mulOk y (x.fdiv y) = true := by
          simp only [mulOk, Bool.or_eq_true, Bool.and_eq_true, decide_eq_true_eq]
          omega
        have body : Sxl (prL L (run L k)) (.cons (.par (.cons (.nm 0) (.cons (.nm 1) .nil)) (.cons (.var 1) (.cons (.op .Sub (.var 0) (.op .Mult (.var 1) (.op .FloorDiv (.var 0) (.var 1)))) .nil))) .nil) [some (.int x), some (.int y)] (.nx [some (.int y), some (.int (x - y * x.fdiv y))]) := by
          repeat' (first
            | exact od
            | with_reducible exact mo
            | exact x_con
            | exact a_nil
            | exact s_nil
            | exact o_none
            | exact x_fnv
            | exact x_glb rfl
            | exact s_dead
            | exact x_var rfl rfl
            | (refine x_var rfl ?_; simp [isFz, isFzA, isFzA_ints, isFzA_frz, isFz_frz]; done)
            | exact x_brw rfl rfl
            | exact op_add'
            | exact op_sub'
            | exact int_eq'
            | exact int_ne'
            | exact ne_two
            | exact eq_two
            | exact eq_itT'
            | exact ne_itT'
            | exact eq_itL'
            | exact ne_itL'
            | apply op_mul'
            | apply op_div'
            | apply op_mod'
            | apply x_op
            | apply x_cmp
            | apply x_ix
            | apply x_u1
            | apply x_chn
            | apply x_and
            | apply x_or
            | apply x_not
            | apply x_ife
            | apply t_cmp
            | apply t_chn
            | apply t_and
            | apply t_or
            | apply t_not
            | apply t_var
            | apply t_u1
            | apply t_call
            | apply t_ix
            | apply a_cons
            | apply x_tup
            | apply x_lst
            | apply x_lstF
            | apply x_call
            | apply x_sl
            | apply o_some
            | apply x_rev
            | apply i_seq
            | apply i_rng1
            | apply i_rng2
            | apply i_enumI
            | apply i_enum
            | apply i_zip
            | apply s_ife
            | apply s_rt
            | apply s_asg
            | apply s_par
            | apply s_sto
            | apply s_aug
            | apply s_augN
            | apply s_ex
            | exact u_sumT
            | exact u_sumL
            | exact u_allL
            | exact u_anyL
            | exact u_allM
            | exact u_anyM
            | exact u_sumM
            | exact OpV.mk rfl
            | exact CmV.mk rfl
            | exact IxV.mk rfl
            | exact U1V.mk rfl
            | apply ix_lst'
            | omega
            | (have sz := sizeLine_eq; omega)
            | (simp only [List.length_map, List.length_cons, List.length_nil]; have sz := sizeLine_eq; omega)
            | (simp only [mulOk, Bool.or_eq_true, Bool.and_eq_true, decide_eq_true_eq]; omega)
            | refine fun (_ : (_ : Bool) = true) => ?_
            | refine fun (_ : (_ : Bool) = false) => ?_
            | refine ⟨_, rfl, ?_, rfl⟩
            | rfl
            | (simp [isFz, isFzA, isFzA_ints, isFzA_frz, isFz_frz]; done)
            | intro i hi)
        exact ⟨_, _, _, tt, body, ⟨y, x - y * x.fdiv y, rfl, rfl, by rw [gcd_step]; exact e2, by omega⟩, by omega⟩) WF a.natAbs [some (.int b), some (.int a)] (by unfold WF; omega) ⟨b, a, rfl, rfl, rfl, h⟩
  obtain ⟨ρ', c1, x, y, rfl, e1, e2, _⟩ := loop
  have y0 : y = 0 := by omega
  subst y0
  rw [Int.gcd_zero_right] at e2
  rw [r4]
  apply Eq.trans
  · apply f_ev
    · rfl
    · unfold f4
      repeat' (first
        | apply s_whl
        | exact c1
        | exact x_con
        | exact a_nil
        | exact s_nil
        | exact o_none
        | exact x_fnv
        | exact x_glb rfl
        | exact s_dead
        | exact x_var rfl rfl
        | (refine x_var rfl ?_; simp [isFz, isFzA, isFzA_ints, isFzA_frz, isFz_frz]; done)
        | exact x_brw rfl rfl
        | exact op_add'
        | exact op_sub'
        | exact int_eq'
        | exact int_ne'
        | exact ne_two
        | exact eq_two
        | exact eq_itT'
        | exact ne_itT'
        | exact eq_itL'
        | exact ne_itL'
        | apply op_mul'
        | apply op_div'
        | apply op_mod'
        | apply x_op
        | apply x_cmp
        | apply x_ix
        | apply x_u1
        | apply x_chn
        | apply x_and
        | apply x_or
        | apply x_not
        | apply x_ife
        | apply t_cmp
        | apply t_chn
        | apply t_and
        | apply t_or
        | apply t_not
        | apply t_var
        | apply t_u1
        | apply t_call
        | apply t_ix
        | apply a_cons
        | apply x_tup
        | apply x_lst
        | apply x_lstF
        | apply x_call
        | apply x_sl
        | apply o_some
        | apply x_rev
        | apply i_seq
        | apply i_rng1
        | apply i_rng2
        | apply i_enumI
        | apply i_enum
        | apply i_zip
        | apply s_ife
        | apply s_rt
        | apply s_asg
        | apply s_par
        | apply s_sto
        | apply s_aug
        | apply s_augN
        | apply s_ex
        | exact u_sumT
        | exact u_sumL
        | exact u_allL
        | exact u_anyL
        | exact u_allM
        | exact u_anyM
        | exact u_sumM
        | exact OpV.mk rfl
        | exact CmV.mk rfl
        | exact IxV.mk rfl
        | exact U1V.mk rfl
        | apply ix_lst'
        | omega
        | (have sz := sizeLine_eq; omega)
        | (simp only [List.length_map, List.length_cons, List.length_nil]; have sz := sizeLine_eq; omega)
        | (simp only [mulOk, Bool.or_eq_true, Bool.and_eq_true, decide_eq_true_eq]; omega)
        | refine fun (_ : (_ : Bool) = true) => ?_
        | refine fun (_ : (_ : Bool) = false) => ?_
        | refine ⟨_, rfl, ?_, rfl⟩
        | rfl
        | (simp [isFz, isFzA, isFzA_ints, isFzA_frz, isFz_frz]; done)
        | intro i hi)
  · have e : (if x < 0 then -x else x) = (Int.gcd b a : Int) := by
      split <;> omega
    simp [finR, e]
theorem gcd_pos' {a b : Int} (h : 0 < b) : 0 < (Int.gcd b a : Int) := by
  have : 0 < Int.gcd b a := Int.gcd_pos_of_ne_zero_left _ (by omega)
  omega
theorem gcd_le' {a b : Int} (h : 0 < b) : (Int.gcd b a : Int) ≤ b := Int.le_of_dvd h (Int.gcd_dvd_left ..)
theorem frac (k : Nat) {a b n : Int} (h : Fr a b) (e : a * 800 = n * b) : Rn 5 (run L (k + 2)) [.int a, .int b] (fr n) [] := by
  obtain ⟨h1, h2, h3⟩ := h
  constructor
  have c := cpart k (a := a) (b := b) h1
  have gp := gcd_pos' (a := a) h2
  have gl := gcd_le' (a := a) h2
  obtain ⟨v1, v2⟩ := frac_val h2 e
  generalize (Int.gcd b a : Int) = g at c gp gl v1 v2
  rw [r5]
  apply Eq.trans
  · apply f_ev
    · rfl
    · unfold f5
      repeat' (first
        | exact c
        | apply x_ifeT'
        | exact decide_eq_true h2
        | exact x_con
        | exact a_nil
        | exact s_nil
        | exact o_none
        | exact x_fnv
        | exact x_glb rfl
        | exact s_dead
        | exact x_var rfl rfl
        | (refine x_var rfl ?_; simp [isFz, isFzA, isFzA_ints, isFzA_frz, isFz_frz]; done)
        | exact x_brw rfl rfl
        | exact op_add'
        | exact op_sub'
        | exact int_eq'
        | exact int_ne'
        | exact ne_two
        | exact eq_two
        | exact eq_itT'
        | exact ne_itT'
        | exact eq_itL'
        | exact ne_itL'
        | apply op_mul'
        | apply op_div'
        | apply op_mod'
        | apply x_op
        | apply x_cmp
        | apply x_ix
        | apply x_u1
        | apply x_chn
        | apply x_and
        | apply x_or
        | apply x_not
        | apply x_ife
        | apply t_cmp
        | apply t_chn
        | apply t_and
        | apply t_or
        | apply t_not
        | apply t_var
        | apply t_u1
        | apply t_call
        | apply t_ix
        | apply a_cons
        | apply x_tup
        | apply x_lst
        | apply x_lstF
        | apply x_call
        | apply x_sl
        | apply o_some
        | apply x_rev
        | apply i_seq
        | apply i_rng1
        | apply i_rng2
        | apply i_enumI
        | apply i_enum
        | apply i_zip
        | apply s_ife
        | apply s_rt
        | apply s_asg
        | apply s_par
        | apply s_sto
        | apply s_aug
        | apply s_augN
        | apply s_ex
        | exact u_sumT
        | exact u_sumL
        | exact u_allL
        | exact u_anyL
        | exact u_allM
        | exact u_anyM
        | exact u_sumM
        | exact OpV.mk rfl
        | exact CmV.mk rfl
        | exact IxV.mk rfl
        | exact U1V.mk rfl
        | apply ix_lst'
        | omega
        | (have sz := sizeLine_eq; omega)
        | (simp only [List.length_map, List.length_cons, List.length_nil]; have sz := sizeLine_eq; omega)
        | (simp only [mulOk, Bool.or_eq_true, Bool.and_eq_true, decide_eq_true_eq]; omega)
        | refine fun (_ : (_ : Bool) = true) => ?_
        | refine fun (_ : (_ : Bool) = false) => ?_
        | refine ⟨_, rfl, ?_, rfl⟩
        | rfl
        | (simp [isFz, isFzA, isFzA_ints, isFzA_frz, isFz_frz]; done)
        | intro i hi)
  · simp [finR, fr, frz, v1, v2]
theorem low (k : Nat) {a b n : Int} (h : Fr a b) (e : a * 800 = n * b) : Rn 35 (run L (k + 1)) [.int a, .int b] (fr n) [] := by
  obtain ⟨h1, h2, h3⟩ := h
  constructor
  have gp := gcd_pos' (a := a) h2
  have gl := gcd_le' (a := a) h2
  obtain ⟨v1, v2⟩ := frac_val h2 e
  have loop := whl_inv (P := (prL L (run L k))) (t := .cmp .Gt (.var 3) (.con (.int 0))) (l := .cons (.par (.cons (.nm 2) (.cons (.nm 3) .nil)) (.cons (.var 3) (.cons (.op .Mod (.u1 .int (.var 2)) (.var 3)) .nil))) .nil)
    (fun m ρ => ∃ x y : Int, ρ = [some (.int a), some (.int b), some (.int x), some (.int y)] ∧ 0 ≤ x ∧ 0 ≤ y ∧ y.natAbs = m ∧ Int.gcd x y = Int.gcd b a) (fun m ρ hi => by
      obtain ⟨x, y, rfl, e0, e3, e1, e2⟩ := hi
      have tt : Tvl (prL L (run L k)) (.cmp .Gt (.var 3) (.con (.int 0))) [some (.int a), some (.int b), some (.int x), some (.int y)] (decide (0 < y)) [some (.int a), some (.int b), some (.int x), some (.int y)] := by repeat' (first
          | exact x_con
          | exact a_nil
          | exact s_nil
          | exact o_none
          | exact x_fnv
          | exact x_glb rfl
          | exact s_dead
          | exact x_var rfl rfl
          | (refine x_var rfl ?_; simp [isFz, isFzA, isFzA_ints, isFzA_frz, isFz_frz]; done)
          | exact x_brw rfl rfl
          | exact op_add'
          | exact op_sub'
          | exact int_eq'
          | exact int_ne'
          | exact ne_two
          | exact eq_two
          | exact eq_itT'
          | exact ne_itT'
          | exact eq_itL'
          | exact ne_itL'
          | apply op_mul'
          | apply op_div'
          | apply op_mod'
          | apply x_op
          | apply x_cmp
          | apply x_ix
          | apply x_u1
          | apply x_chn
          | apply x_and
          | apply x_or
          | apply x_not
          | apply x_ife
          | apply t_cmp
          | apply t_chn
          | apply t_and
          | apply t_or
          | apply t_not
          | apply t_var
          | apply t_u1
          | apply t_call
          | apply t_ix
          | apply a_cons
          | apply x_tup
          | apply x_lst
          | apply x_lstF
          | apply x_call
          | apply x_sl
          | apply o_some
          | apply x_rev
          | apply i_seq
          | apply i_rng1
          | apply i_rng2
          | apply i_enumI
          | apply i_enum
          | apply i_zip
          | apply s_ife
          | apply s_rt
          | apply s_asg
          | apply s_par
          | apply s_sto
          | apply s_aug
          | apply s_augN
          | apply s_ex
          | exact u_sumT
          | exact u_sumL
          | exact u_allL
          | exact u_anyL
          | exact u_allM
          | exact u_anyM
          | exact u_sumM
          | exact OpV.mk rfl
          | exact CmV.mk rfl
          | exact IxV.mk rfl
          | exact U1V.mk rfl
          | apply ix_lst'
          | omega
          | (have sz := sizeLine_eq; omega)
          | (simp only [List.length_map, List.length_cons, List.length_nil]; have sz := sizeLine_eq; omega)
          | (simp only [mulOk, Bool.or_eq_true, Bool.and_eq_true, decide_eq_true_eq]; omega)
          | refine fun (_ : (_ : Bool) = true) => ?_
          | refine fun (_ : (_ : Bool) = false) => ?_
          | refine ⟨_, rfl, ?_, rfl⟩
          | rfl
          | (simp [isFz, isFzA, isFzA_ints, isFzA_frz, isFz_frz]; done)
          | intro i hi)
      by_cases z : y = 0
      · left
        subst z
        exact ⟨_, tt, ⟨x, 0, rfl, e0, Int.le_refl 0, rfl, e2⟩, e1.symm⟩
      · right
        have yp : 0 < y := by omega
        rw [decide_eq_true yp] at tt
        have m1 := Int.emod_nonneg x z
        have m2 := Int.emod_lt_of_pos x yp
        have body : Sxl (prL L (run L k)) (.cons (.par (.cons (.nm 2) (.cons (.nm 3) .nil)) (.cons (.var 3) (.cons (.op .Mod (.u1 .int (.var 2)) (.var 3)) .nil))) .nil) [some (.int a), some (.int b), some (.int x), some (.int y)] (.nx [some (.int a), some (.int b), some (.int y), some (.int (x % y))]) := by
          repeat' (first
            | exact x_con
            | exact a_nil
            | exact s_nil
            | exact o_none
            | exact x_fnv
            | exact x_glb rfl
            | exact s_dead
            | exact x_var rfl rfl
            | (refine x_var rfl ?_; simp [isFz, isFzA, isFzA_ints, isFzA_frz, isFz_frz]; done)
            | exact x_brw rfl rfl
            | exact op_add'
            | exact op_sub'
            | exact int_eq'
            | exact int_ne'
            | exact ne_two
            | exact eq_two
            | exact eq_itT'
            | exact ne_itT'
            | exact eq_itL'
            | exact ne_itL'
            | apply op_mul'
            | apply op_div'
            | apply op_mod'
            | apply x_op
            | apply x_cmp
            | apply x_ix
            | apply x_u1
            | apply x_chn
            | apply x_and
            | apply x_or
            | apply x_not
            | apply x_ife
            | apply t_cmp
            | apply t_chn
            | apply t_and
            | apply t_or
            | apply t_not
            | apply t_var
            | apply t_u1
            | apply t_call
            | apply t_ix
            | apply a_cons
            | apply x_tup
            | apply x_lst
            | apply x_lstF
            | apply x_call
            | apply x_sl
            | apply o_some
            | apply x_rev
            | apply i_seq
            | apply i_rng1
            | apply i_rng2
            | apply i_enumI
            | apply i_enum
            | apply i_zip
            | apply s_ife
            | apply s_rt
            | apply s_asg
            | apply s_par
            | apply s_sto
            | apply s_aug
            | apply s_augN
            | apply s_ex
            | exact u_sumT
            | exact u_sumL
            | exact u_allL
            | exact u_anyL
            | exact u_allM
            | exact u_anyM
            | exact u_sumM
            | exact OpV.mk rfl
            | exact CmV.mk rfl
            | exact IxV.mk rfl
            | exact U1V.mk rfl
            | apply ix_lst'
            | omega
            | (have sz := sizeLine_eq; omega)
            | (simp only [List.length_map, List.length_cons, List.length_nil]; have sz := sizeLine_eq; omega)
            | (simp only [mulOk, Bool.or_eq_true, Bool.and_eq_true, decide_eq_true_eq]; omega)
            | refine fun (_ : (_ : Bool) = true) => ?_
            | refine fun (_ : (_ : Bool) = false) => ?_
            | refine ⟨_, rfl, ?_, rfl⟩
            | rfl
            | (simp [isFz, isFzA, isFzA_ints, isFzA_frz, isFz_frz]; done)
            | intro i hi)
        exact ⟨_, _, _, tt, body, ⟨y, x % y, rfl, e3, m1, rfl, by rw [gcd_mod]; exact e2⟩, by omega⟩) WF b.natAbs [some (.int a), some (.int b), some (.int (if a < 0 then -a else a)), some (.int (if b < 0 then -b else b))] (by unfold WF; omega) ⟨_, _, rfl, by split <;> omega, by split <;> omega, by split <;> omega, by
        rw [Int.gcd_comm]
        unfold Int.gcd
        congr 1 <;> split <;> omega⟩
  obtain ⟨ρ', c1, x, y, rfl, e0, _, e1, e2⟩ := loop
  have y0 : y = 0 := by omega
  subst y0
  rw [Int.gcd_zero_right] at e2
  have ex : x = (Int.gcd b a : Int) := by omega
  rw [← ex] at gp gl v1 v2
  rw [r35]
  apply Eq.trans
  · apply f_ev
    · rfl
    · unfold f35
      repeat' (first
        | apply s_whl
        | exact c1
        | apply x_ifeT'
        | exact decide_eq_true h2
        | exact x_con
        | exact a_nil
        | exact s_nil
        | exact o_none
        | exact x_fnv
        | exact x_glb rfl
        | exact s_dead
        | exact x_var rfl rfl
        | (refine x_var rfl ?_; simp [isFz, isFzA, isFzA_ints, isFzA_frz, isFz_frz]; done)
        | exact x_brw rfl rfl
        | exact op_add'
        | exact op_sub'
        | exact int_eq'
        | exact int_ne'
        | exact ne_two
        | exact eq_two
        | exact eq_itT'
        | exact ne_itT'
        | exact eq_itL'
        | exact ne_itL'
        | apply op_mul'
        | apply op_div'
        | apply op_mod'
        | apply x_op
        | apply x_cmp
        | apply x_ix
        | apply x_u1
        | apply x_chn
        | apply x_and
        | apply x_or
        | apply x_not
        | apply x_ife
        | apply t_cmp
        | apply t_chn
        | apply t_and
        | apply t_or
        | apply t_not
        | apply t_var
        | apply t_u1
        | apply t_call
        | apply t_ix
        | apply a_cons
        | apply x_tup
        | apply x_lst
        | apply x_lstF
        | apply x_call
        | apply x_sl
        | apply o_some
        | apply x_rev
        | apply i_seq
        | apply i_rng1
        | apply i_rng2
        | apply i_enumI
        | apply i_enum
        | apply i_zip
        | apply s_ife
        | apply s_rt
        | apply s_asg
        | apply s_par
        | apply s_sto
        | apply s_aug
        | apply s_augN
        | apply s_ex
        | exact u_sumT
        | exact u_sumL
        | exact u_allL
        | exact u_anyL
        | exact u_allM
        | exact u_anyM
        | exact u_sumM
        | exact OpV.mk rfl
        | exact CmV.mk rfl
        | exact IxV.mk rfl
        | exact U1V.mk rfl
        | apply ix_lst'
        | omega
        | (have sz := sizeLine_eq; omega)
        | (simp only [List.length_map, List.length_cons, List.length_nil]; have sz := sizeLine_eq; omega)
        | (simp only [mulOk, Bool.or_eq_true, Bool.and_eq_true, decide_eq_true_eq]; omega)
        | refine fun (_ : (_ : Bool) = true) => ?_
        | refine fun (_ : (_ : Bool) = false) => ?_
        | refine ⟨_, rfl, ?_, rfl⟩
        | rfl
        | (simp [isFz, isFzA, isFzA_ints, isFzA_frz, isFz_frz]; done)
        | intro i hi)
  · simp [finR, fr, frz, v1, v2]
end K77
namespace K77
open PySem L2 DV
theorem mul_lt {a b A B : Nat} (h1 : a ≤ A) (h2 : b ≤ B) : a * b ≤ A * B := Nat.mul_le_mul h1 h2
theorem cross_le (m n : Int) : (nn m * dd n).natAbs ≤ m.natAbs * 800 := by
  have h1 := nn_le m
  have h2 := dd_le n
  have h3 := dd_pos n
  rw [Int.natAbs_mul]
  exact Nat.mul_le_mul h1 (by omega)
theorem dd_mul (m n : Int) : 0 < dd m * dd n ∧ dd m * dd n ≤ 640000 := by
  have h1 := dd_le m
  have h2 := dd_pos m
  have h3 := dd_le n
  have h4 := dd_pos n
  refine ⟨Int.mul_pos h2 h4, ?_⟩
  have : dd m * dd n ≤ 800 * 800 := Int.mul_le_mul h1 h3 (by omega) (by omega)
  omega
def Sm (m n : Int) : Prop := m.natAbs + n.natAbs ≤ 1300000
theorem mk (m n : Int) (h : Sm m n) : mulOk (nn m) (dd n) = true ∧ mulOk (dd m) (dd n) = true := by
  have h1 := nn_le m
  have h2 := dd_le n
  have h3 := dd_pos n
  unfold Sm at h
  simp only [mulOk, Bool.or_eq_true, Bool.and_eq_true, decide_eq_true_eq]
  constructor <;> (right; omega)
theorem plus_Fr {m n : Int} (h : Sm m n) : Fr (nn m * dd n + nn n * dd m) (dd m * dd n) := by
  have h1 := cross_le m n
  have h2 := cross_le n m
  have h3 := dd_mul m n
  unfold Sm at h
  exact ⟨by omega, h3.1, by omega⟩
theorem minus_Fr {m n : Int} (h : Sm m n) : Fr (nn m * dd n - nn n * dd m) (dd m * dd n) := by
  have h1 := cross_le m n
  have h2 := cross_le n m
  have h3 := dd_mul m n
  unfold Sm at h
  exact ⟨by omega, h3.1, by omega⟩
theorem Sm.symm {m n : Int} (h : Sm m n) : Sm n m := by
  unfold Sm at *
  omega
theorem plus (k : Nat) (m n : Int) (h : Sm m n) : Rn 7 (run L (k + 3)) [fr m, fr n] (fr (m + n)) [] := by
  constructor
  have c := frac k (plus_Fr h) (plus_val m n)
  have k1 := mk m n h
  have k2 := mk n m h.symm
  rw [r7]
  apply Eq.trans
  · apply f_ev
    · rfl
    · unfold f7
      repeat' (first
        | exact c
        | with_reducible exact k1.1
        | with_reducible exact k2.1
        | with_reducible exact k1.2
        | exact x_con
        | exact a_nil
        | exact s_nil
        | exact o_none
        | exact x_fnv
        | exact x_glb rfl
        | exact s_dead
        | exact x_var rfl rfl
        | (refine x_var rfl ?_; simp [isFz, isFzA, isFzA_ints, isFzA_frz, isFz_frz]; done)
        | exact x_brw rfl rfl
        | exact op_add'
        | exact op_sub'
        | exact int_eq'
        | exact int_ne'
        | exact ne_two
        | exact eq_two
        | exact eq_itT'
        | exact ne_itT'
        | exact eq_itL'
        | exact ne_itL'
        | apply op_mul'
        | apply op_div'
        | apply op_mod'
        | apply x_op
        | apply x_cmp
        | apply x_ix
        | apply x_u1
        | apply x_chn
        | apply x_and
        | apply x_or
        | apply x_not
        | apply x_ife
        | apply t_cmp
        | apply t_chn
        | apply t_and
        | apply t_or
        | apply t_not
        | apply t_var
        | apply t_u1
        | apply t_call
        | apply t_ix
        | apply a_cons
        | apply x_tup
        | apply x_lst
        | apply x_lstF
        | apply x_call
        | apply x_sl
        | apply o_some
        | apply x_rev
        | apply i_seq
        | apply i_rng1
        | apply i_rng2
        | apply i_enumI
        | apply i_enum
        | apply i_zip
        | apply s_ife
        | apply s_rt
        | apply s_asg
        | apply s_par
        | apply s_sto
        | apply s_aug
        | apply s_augN
        | apply s_ex
        | exact u_sumT
        | exact u_sumL
        | exact u_allL
        | exact u_anyL
        | exact u_allM
        | exact u_anyM
        | exact u_sumM
        | exact OpV.mk rfl
        | exact CmV.mk rfl
        | exact IxV.mk rfl
        | exact U1V.mk rfl
        | apply ix_lst'
        | omega
        | (have sz := sizeLine_eq; omega)
        | (simp only [List.length_map, List.length_cons, List.length_nil]; have sz := sizeLine_eq; omega)
        | (simp only [mulOk, Bool.or_eq_true, Bool.and_eq_true, decide_eq_true_eq]; omega)
        | refine fun (_ : (_ : Bool) = true) => ?_
        | refine fun (_ : (_ : Bool) = false) => ?_
        | refine ⟨_, rfl, ?_, rfl⟩
        | rfl
        | (simp [isFz, isFzA, isFzA_ints, isFzA_frz, isFz_frz]; done)
        | intro i hi)
  · rfl
theorem plusL (k : Nat) (m n : Int) (h : Sm m n) : Rn 36 (run L (k + 2)) [fr m, fr n] (fr (m + n)) [] := by
  constructor
  have c := low k (plus_Fr h) (plus_val m n)
  have k1 := mk m n h
  have k2 := mk n m h.symm
  rw [r36]
  apply Eq.trans
  · apply f_ev
    · rfl
    · unfold f36
      repeat' (first
        | exact c
        | with_reducible exact k1.1
        | with_reducible exact k2.1
        | with_reducible exact k1.2
        | exact x_con
        | exact a_nil
        | exact s_nil
        | exact o_none
        | exact x_fnv
        | exact x_glb rfl
        | exact s_dead
        | exact x_var rfl rfl
        | (refine x_var rfl ?_; simp [isFz, isFzA, isFzA_ints, isFzA_frz, isFz_frz]; done)
        | exact x_brw rfl rfl
        | exact op_add'
        | exact op_sub'
        | exact int_eq'
        | exact int_ne'
        | exact ne_two
        | exact eq_two
        | exact eq_itT'
        | exact ne_itT'
        | exact eq_itL'
        | exact ne_itL'
        | apply op_mul'
        | apply op_div'
        | apply op_mod'
        | apply x_op
        | apply x_cmp
        | apply x_ix
        | apply x_u1
        | apply x_chn
        | apply x_and
        | apply x_or
        | apply x_not
        | apply x_ife
        | apply t_cmp
        | apply t_chn
        | apply t_and
        | apply t_or
        | apply t_not
        | apply t_var
        | apply t_u1
        | apply t_call
        | apply t_ix
        | apply a_cons
        | apply x_tup
        | apply x_lst
        | apply x_lstF
        | apply x_call
        | apply x_sl
        | apply o_some
        | apply x_rev
        | apply i_seq
        | apply i_rng1
        | apply i_rng2
        | apply i_enumI
        | apply i_enum
        | apply i_zip
        | apply s_ife
        | apply s_rt
        | apply s_asg
        | apply s_par
        | apply s_sto
        | apply s_aug
        | apply s_augN
        | apply s_ex
        | exact u_sumT
        | exact u_sumL
        | exact u_allL
        | exact u_anyL
        | exact u_allM
        | exact u_anyM
        | exact u_sumM
        | exact OpV.mk rfl
        | exact CmV.mk rfl
        | exact IxV.mk rfl
        | exact U1V.mk rfl
        | apply ix_lst'
        | omega
        | (have sz := sizeLine_eq; omega)
        | (simp only [List.length_map, List.length_cons, List.length_nil]; have sz := sizeLine_eq; omega)
        | (simp only [mulOk, Bool.or_eq_true, Bool.and_eq_true, decide_eq_true_eq]; omega)
        | refine fun (_ : (_ : Bool) = true) => ?_
        | refine fun (_ : (_ : Bool) = false) => ?_
        | refine ⟨_, rfl, ?_, rfl⟩
        | rfl
        | (simp [isFz, isFzA, isFzA_ints, isFzA_frz, isFz_frz]; done)
        | intro i hi)
  · rfl
theorem times_le {m w : Int} (h1 : m.natAbs ≤ 800) (h2 : 0 ≤ w) (h3 : w ≤ 64) : (nn m * w).natAbs < 1073741824 := by
  have := nn_le m
  rw [Int.natAbs_mul]
  have : (nn m).natAbs * w.natAbs ≤ 800 * 64 := Nat.mul_le_mul (by omega) (by omega)
  omega
theorem below (k : Nat) (m n : Int) (h : Sm m n) : Rn 8 (run L (k + 1)) [fr m, fr n] (.bl (decide (m < n))) [] := by
  constructor
  have k1 := mk m n h
  have k2 := mk n m h.symm
  have e : decide (nn m * dd n < nn n * dd m) = decide (m < n) := decide_eq_decide.mpr (below_val m n)
  rw [r8]
  apply Eq.trans
  · apply f_ev
    · rfl
    · unfold f8
      repeat' (first
        | with_reducible exact k1.1
        | with_reducible exact k2.1
        | exact x_con
        | exact a_nil
        | exact s_nil
        | exact o_none
        | exact x_fnv
        | exact x_glb rfl
        | exact s_dead
        | exact x_var rfl rfl
        | (refine x_var rfl ?_; simp [isFz, isFzA, isFzA_ints, isFzA_frz, isFz_frz]; done)
        | exact x_brw rfl rfl
        | exact op_add'
        | exact op_sub'
        | exact int_eq'
        | exact int_ne'
        | exact ne_two
        | exact eq_two
        | exact eq_itT'
        | exact ne_itT'
        | exact eq_itL'
        | exact ne_itL'
        | apply op_mul'
        | apply op_div'
        | apply op_mod'
        | apply x_op
        | apply x_cmp
        | apply x_ix
        | apply x_u1
        | apply x_chn
        | apply x_and
        | apply x_or
        | apply x_not
        | apply x_ife
        | apply t_cmp
        | apply t_chn
        | apply t_and
        | apply t_or
        | apply t_not
        | apply t_var
        | apply t_u1
        | apply t_call
        | apply t_ix
        | apply a_cons
        | apply x_tup
        | apply x_lst
        | apply x_lstF
        | apply x_call
        | apply x_sl
        | apply o_some
        | apply x_rev
        | apply i_seq
        | apply i_rng1
        | apply i_rng2
        | apply i_enumI
        | apply i_enum
        | apply i_zip
        | apply s_ife
        | apply s_rt
        | apply s_asg
        | apply s_par
        | apply s_sto
        | apply s_aug
        | apply s_augN
        | apply s_ex
        | exact u_sumT
        | exact u_sumL
        | exact u_allL
        | exact u_anyL
        | exact u_allM
        | exact u_anyM
        | exact u_sumM
        | exact OpV.mk rfl
        | exact CmV.mk rfl
        | exact IxV.mk rfl
        | exact U1V.mk rfl
        | apply ix_lst'
        | omega
        | (have sz := sizeLine_eq; omega)
        | (simp only [List.length_map, List.length_cons, List.length_nil]; have sz := sizeLine_eq; omega)
        | (simp only [mulOk, Bool.or_eq_true, Bool.and_eq_true, decide_eq_true_eq]; omega)
        | refine fun (_ : (_ : Bool) = true) => ?_
        | refine fun (_ : (_ : Bool) = false) => ?_
        | refine ⟨_, rfl, ?_, rfl⟩
        | rfl
        | (simp [isFz, isFzA, isFzA_ints, isFzA_frz, isFz_frz]; done)
        | intro i hi)
  · simp [finR, e]
/-! what is expected -/
def cl (x : Int) : Int := if x < 0 then 0 else if 800 < x then 800 else x
def E (a b : Int) : Int := cl (400 + (a - b))
def Rt (a : Int) : Prop := 0 ≤ a ∧ a ≤ 4800
theorem fr400 : fr 400 = .tup [.int 1, .int 2] := by unfold fr; rw [c400.1, c400.2]
theorem fr0 : fr 0 = .tup [.int 0, .int 1] := by unfold fr; rw [c0.1, c0.2]
theorem fr800 : fr 800 = .tup [.int 1, .int 1] := by unfold fr; rw [c800.1, c800.2]
theorem E_le (a b : Int) : 0 ≤ E a b ∧ E a b ≤ 800 := by
  unfold E cl
  split
  · omega
  · split <;> omega
theorem rawE (k : Nat) (a b : Int) (ha : Rt a) (hb : Rt b) : Rn 10 (run L (k + 4)) [.int a, .int b] (fr (E a b)) [] := by
  obtain ⟨a1, a2⟩ := ha
  obtain ⟨b1, b2⟩ := hb
  constructor
  have s1 : Sm 400 (a - b) := by unfold Sm; omega
  have s2 : Sm (400 + (a - b)) 0 := by unfold Sm; omega
  have s3 : Sm 800 (400 + (a - b)) := by unfold Sm; omega
  have c1 := frac (k + 1) (a := a - b) (b := 800) (n := a - b) ⟨by omega, by decide, by decide⟩ rfl
  have c2 := plus k 400 (a - b) s1
  rw [fr400] at c2
  have c3 := below (k + 2) (400 + (a - b)) 0 s2
  rw [fr0] at c3
  have c4 := below (k + 2) 800 (400 + (a - b)) s3
  rw [fr800] at c4
  rw [r10]
  apply Eq.trans
  · apply f_ev
    · rfl
    · unfold f10
      repeat' (first
        | exact c1
        | exact c2
        | exact c3
        | exact c4
        | exact x_con
        | exact a_nil
        | exact s_nil
        | exact o_none
        | exact x_fnv
        | exact x_glb rfl
        | exact s_dead
        | exact x_var rfl rfl
        | (refine x_var rfl ?_; simp [isFz, isFzA, isFzA_ints, isFzA_frz, isFz_frz]; done)
        | exact x_brw rfl rfl
        | exact op_add'
        | exact op_sub'
        | exact int_eq'
        | exact int_ne'
        | exact ne_two
        | exact eq_two
        | exact eq_itT'
        | exact ne_itT'
        | exact eq_itL'
        | exact ne_itL'
        | apply op_mul'
        | apply op_div'
        | apply op_mod'
        | apply x_op
        | apply x_cmp
        | apply x_ix
        | apply x_u1
        | apply x_chn
        | apply x_and
        | apply x_or
        | apply x_not
        | apply x_ife
        | apply t_cmp
        | apply t_chn
        | apply t_and
        | apply t_or
        | apply t_not
        | apply t_var
        | apply t_u1
        | apply t_call
        | apply t_ix
        | apply a_cons
        | apply x_tup
        | apply x_lst
        | apply x_lstF
        | apply x_call
        | apply x_sl
        | apply o_some
        | apply x_rev
        | apply i_seq
        | apply i_rng1
        | apply i_rng2
        | apply i_enumI
        | apply i_enum
        | apply i_zip
        | apply s_ife
        | apply s_rt
        | apply s_asg
        | apply s_par
        | apply s_sto
        | apply s_aug
        | apply s_augN
        | apply s_ex
        | exact u_sumT
        | exact u_sumL
        | exact u_allL
        | exact u_anyL
        | exact u_allM
        | exact u_anyM
        | exact u_sumM
        | exact OpV.mk rfl
        | exact CmV.mk rfl
        | exact IxV.mk rfl
        | exact U1V.mk rfl
        | apply ix_lst'
        | omega
        | (have sz := sizeLine_eq; omega)
        | (simp only [List.length_map, List.length_cons, List.length_nil]; have sz := sizeLine_eq; omega)
        | (simp only [mulOk, Bool.or_eq_true, Bool.and_eq_true, decide_eq_true_eq]; omega)
        | refine fun (_ : (_ : Bool) = true) => ?_
        | refine fun (_ : (_ : Bool) = false) => ?_
        | refine ⟨_, rfl, ?_, rfl⟩
        | rfl
        | (simp [isFz, isFzA, isFzA_ints, isFzA_frz, isFz_frz]; done)
        | intro i hi)
  · unfold E cl
    by_cases z : 400 + (a - b) < 0
    · simp [finR, z]
      rw [fr0]
      rfl
    · by_cases y : 800 < 400 + (a - b)
      · simp [finR, z, y]
        rw [fr800]
        rfl
      · simp [finR, z, y]
theorem Ehalf (a : Int) : E a a = 400 := by simp [E, cl]
theorem Esum (a b : Int) : E a b + E b a = 800 := by
  unfold E cl
  repeat' split
  all_goals omega
end K77
namespace K77
open PySem L2 DV
def R4 (a : Int) : Prop := 0 ≤ a ∧ a ≤ 4000
theorem R4.rt {a : Int} (h : R4 a) : Rt a := ⟨h.1, by have := h.2; omega⟩
/-! the law's own -/
theorem expL (k : Nat) (a b : Int) (ha : Rt a) (hb : Rt b) : Rn 37 (run L (k + 3)) [.int a, .int b] (fr (E a b)) [] := by
  obtain ⟨a1, a2⟩ := ha
  obtain ⟨b1, b2⟩ := hb
  constructor
  have s1 : Sm 400 (a - b) := by unfold Sm; omega
  have c1 := low (k + 1) (a := a - b) (b := 800) (n := a - b) ⟨by omega, by decide, by decide⟩ rfl
  have c2 := plusL k 400 (a - b) s1
  rw [fr400] at c2
  have sg := nn_sign (400 + (a - b))
  rw [r37]
  apply Eq.trans
  · apply f_ev
    · rfl
    · unfold f37
      repeat' (first
        | exact c1
        | exact c2
        | exact x_con
        | exact a_nil
        | exact s_nil
        | exact o_none
        | exact x_fnv
        | exact x_glb rfl
        | exact s_dead
        | exact x_var rfl rfl
        | (refine x_var rfl ?_; simp [isFz, isFzA, isFzA_ints, isFzA_frz, isFz_frz]; done)
        | exact x_brw rfl rfl
        | exact op_add'
        | exact op_sub'
        | exact int_eq'
        | exact int_ne'
        | exact ne_two
        | exact eq_two
        | exact eq_itT'
        | exact ne_itT'
        | exact eq_itL'
        | exact ne_itL'
        | apply op_mul'
        | apply op_div'
        | apply op_mod'
        | apply x_op
        | apply x_cmp
        | apply x_ix
        | apply x_u1
        | apply x_chn
        | apply x_and
        | apply x_or
        | apply x_not
        | apply x_ife
        | apply t_cmp
        | apply t_chn
        | apply t_and
        | apply t_or
        | apply t_not
        | apply t_var
        | apply t_u1
        | apply t_call
        | apply t_ix
        | apply a_cons
        | apply x_tup
        | apply x_lst
        | apply x_lstF
        | apply x_call
        | apply x_sl
        | apply o_some
        | apply x_rev
        | apply i_seq
        | apply i_rng1
        | apply i_rng2
        | apply i_enumI
        | apply i_enum
        | apply i_zip
        | apply s_ife
        | apply s_rt
        | apply s_asg
        | apply s_par
        | apply s_sto
        | apply s_aug
        | apply s_augN
        | apply s_ex
        | exact u_sumT
        | exact u_sumL
        | exact u_allL
        | exact u_anyL
        | exact u_allM
        | exact u_anyM
        | exact u_sumM
        | exact OpV.mk rfl
        | exact CmV.mk rfl
        | exact IxV.mk rfl
        | exact U1V.mk rfl
        | apply ix_lst'
        | omega
        | (have sz := sizeLine_eq; omega)
        | (simp only [List.length_map, List.length_cons, List.length_nil]; have sz := sizeLine_eq; omega)
        | (simp only [mulOk, Bool.or_eq_true, Bool.and_eq_true, decide_eq_true_eq]; omega)
        | refine fun (_ : (_ : Bool) = true) => ?_
        | refine fun (_ : (_ : Bool) = false) => ?_
        | refine ⟨_, rfl, ?_, rfl⟩
        | rfl
        | (simp [isFz, isFzA, isFzA_ints, isFzA_frz, isFz_frz]; done)
        | intro i hi)
  · unfold E cl
    have e1 : decide (nn (400 + (a - b)) < 0) = decide (400 + (a - b) < 0) := decide_eq_decide.mpr sg.1
    have e2 : decide (dd (400 + (a - b)) < nn (400 + (a - b))) = decide (800 < 400 + (a - b)) := decide_eq_decide.mpr sg.2
    rw [e1, e2]
    by_cases z : 400 + (a - b) < 0
    · simp [finR, z]
      exact ⟨by rw [c0.1]; rfl, by rw [c0.2]; rfl⟩
    · by_cases y : 800 < 400 + (a - b)
      · simp [finR, z, y]
        exact ⟨by rw [c800.1]; rfl, by rw [c800.2]; rfl⟩
      · simp [finR, z, y]
end K77
namespace K77
open PySem L2 DV
theorem isFzA_fr : ∀ l : List Int, isFzA (l.map fr) = true
  | [] => rfl
  | x :: l => by
    show (isFz (fr x) && isFzA (l.map fr)) = true
    rw [isFzA_fr l]
    rfl
theorem frzA_fr : ∀ l : List Int, frzA (l.map fr) = l.map fr
  | [] => rfl
  | x :: l => by
    show frz (fr x) :: frzA (l.map fr) = _
    rw [frzA_fr l]
    rfl
def Bd (l : List Int) : Prop := ∀ x ∈ l, 0 ≤ x ∧ x ≤ 800
theorem bd_sum : ∀ {l : List Int}, Bd l → 0 ≤ l.sum ∧ l.sum ≤ 800 * (l.length : Int)
  | [], _ => by simp
  | x :: l, h => by
    have h1 := h x (by simp)
    have h2 := bd_sum (l := l) fun y hy => h y (by simp [hy])
    (simp only [List.sum_cons, List.length_cons])
    omega
theorem bd_take {l : List Int} (h : Bd l) (i : Nat) : Bd (l.take i) := fun x hx => h x (List.mem_of_mem_take hx)
theorem total (k : Nat) (ns : List Int) (h : Bd ns) (hl : ns.length ≤ 40) : Rn 9 (run L (k + 4)) [.lst false (ns.map fr)] (fr ns.sum) [] := by
  constructor
  rw [r9]
  have loop := for_all (P := prL L (run L (k + 3))) (g := .nm 2) (l := .cons (.asg (.nm 1) (.call 7 (.cons (.var 1) (.cons (.var 2) .nil)))) .nil)
    (fun i ρ => ∃ a, ρ = [some (.lst false (ns.map fr)), some (fr (ns.take i).sum), a]) (ns.map fr)
    (ρ := [some (.lst false (ns.map fr)), some (fr 0), none]) ⟨_, rfl⟩ (fun i d ρ hd hi => ?_)
  · obtain ⟨ρ', h1, a, rfl⟩ := loop
    rw [List.length_map, List.take_length] at h1
    rw [fr0] at h1
    apply Eq.trans
    · apply f_ev
      · rfl
      · unfold f9
        repeat' (first
          | apply s_for
          | (rw [frzA_fr]; exact h1)
          | (refine x_var rfl ?_; simp [isFz, isFzA_fr]; done)
          | exact x_con
          | exact a_nil
          | exact s_nil
          | exact o_none
          | exact x_fnv
          | exact x_glb rfl
          | exact s_dead
          | exact x_var rfl rfl
          | (refine x_var rfl ?_; simp [isFz, isFzA, isFzA_ints, isFzA_frz, isFz_frz]; done)
          | exact x_brw rfl rfl
          | exact op_add'
          | exact op_sub'
          | exact int_eq'
          | exact int_ne'
          | exact ne_two
          | exact eq_two
          | exact eq_itT'
          | exact ne_itT'
          | exact eq_itL'
          | exact ne_itL'
          | apply op_mul'
          | apply op_div'
          | apply op_mod'
          | apply x_op
          | apply x_cmp
          | apply x_ix
          | apply x_u1
          | apply x_chn
          | apply x_and
          | apply x_or
          | apply x_not
          | apply x_ife
          | apply t_cmp
          | apply t_chn
          | apply t_and
          | apply t_or
          | apply t_not
          | apply t_var
          | apply t_u1
          | apply t_call
          | apply t_ix
          | apply a_cons
          | apply x_tup
          | apply x_lst
          | apply x_lstF
          | apply x_call
          | apply x_sl
          | apply o_some
          | apply x_rev
          | apply i_seq
          | apply i_rng1
          | apply i_rng2
          | apply i_enumI
          | apply i_enum
          | apply i_zip
          | apply s_ife
          | apply s_rt
          | apply s_asg
          | apply s_par
          | apply s_sto
          | apply s_aug
          | apply s_augN
          | apply s_ex
          | exact u_sumT
          | exact u_sumL
          | exact u_allL
          | exact u_anyL
          | exact u_allM
          | exact u_anyM
          | exact u_sumM
          | exact OpV.mk rfl
          | exact CmV.mk rfl
          | exact IxV.mk rfl
          | exact U1V.mk rfl
          | apply ix_lst'
          | omega
          | (have sz := sizeLine_eq; omega)
          | (simp only [List.length_map, List.length_cons, List.length_nil]; have sz := sizeLine_eq; omega)
          | (simp only [mulOk, Bool.or_eq_true, Bool.and_eq_true, decide_eq_true_eq]; omega)
          | refine fun (_ : (_ : Bool) = true) => ?_
          | refine fun (_ : (_ : Bool) = false) => ?_
          | refine ⟨_, rfl, ?_, rfl⟩
          | rfl
          | (simp [isFz, isFzA, isFzA_ints, isFzA_frz, isFz_frz]; done)
          | intro i hi)
    · rfl
  · obtain ⟨a, rfl⟩ := hi
    obtain ⟨t, ht, rfl⟩ : ∃ t, ns[i]? = some t ∧ fr t = d := by simpa [List.getElem?_map] using hd
    have tk : (ns.take (i + 1)).sum = (ns.take i).sum + t := by rw [List.take_add_one, ht]; simp
    have b1 := bd_sum (bd_take h i)
    have b2 := h t (List.mem_of_getElem? ht)
    have li : (ns.take i).length ≤ 40 := by rw [List.length_take]; omega
    have c := plus k (ns.take i).sum t (by unfold Sm; omega)
    rw [← tk] at c
    exact ⟨_, _, rfl, .inl (s_asg (x_call (a_cons (x_var rfl rfl) rfl (a_cons (x_var rfl rfl) rfl a_nil)) c) rfl rfl s_nil), _, rfl⟩
def es (r : Int) (os : List Int) : List Int := os.map fun o => E r o
def S (r : Int) (os : List Int) : Int := (es r os).sum
theorem es_bd (r : Int) (os : List Int) : Bd (es r os) := fun x hx => by
  obtain ⟨o, _, rfl⟩ := List.mem_map.mp hx
  exact E_le r o
theorem S_le (r : Int) (os : List Int) : 0 ≤ S r os ∧ S r os ≤ 800 * (os.length : Int) := by
  have := bd_sum (es_bd r os)
  unfold es at this
  rw [List.length_map] at this
  exact this
theorem E_mono {a b : Int} (h : a ≤ b) (o : Int) : E a o ≤ E b o := by
  unfold E cl
  repeat' split
  all_goals omega
theorem S_mono {a b : Int} (h : a ≤ b) : ∀ os : List Int, S a os ≤ S b os
  | [] => by simp [S, es]
  | o :: os => by
    have h1 := E_mono h o
    have h2 := S_mono h os
    unfold S es at *
    (simp only [List.map_cons, List.sum_cons])
    omega
theorem S_rev (r : Int) (os : List Int) : S r os.reverse = S r os := by
  unfold S es
  rw [List.map_reverse, List.sum_reverse]
theorem S_snoc (r : Int) (os : List Int) (o : Int) : S r (os ++ [o]) = S r os + E r o := by
  unfold S es
  simp
def Rs (os : List Int) : Prop := (∀ o ∈ os, R4 o) ∧ 1 ≤ os.length ∧ os.length ≤ 30
end K77
namespace K77
open PySem L2 DV
/-! lots of numbers -/
abbrev Lt := List Int
def bg (lot : Lt) : Int := match lot.getLast? with
  | some x => x + 1
  | none => 0
def upTo (a n : Int) : List Int := (List.range (n - a).toNat).map fun (i : Nat) => a + (i : Int)
def extL (n : Int) (lot : Lt) : List Lt := (upTo (bg lot) n).map fun x => lot ++ [x]
def lots (n : Int) : Nat → List Lt
  | 0 => [[]]
  | k + 1 => (lots n k).flatMap (extL n)
def Asc (n : Int) (l : Lt) : Prop := l.Pairwise (· < ·) ∧ ∀ x ∈ l, 0 ≤ x ∧ x < n
theorem mem_upTo {a n x : Int} : x ∈ upTo a n ↔ a ≤ x ∧ x < n := by
  unfold upTo
  rw [List.mem_map]
  constructor
  · rintro ⟨i, hi, rfl⟩
    have := List.mem_range.mp hi
    omega
  · rintro ⟨h1, h2⟩
    exact ⟨(x - a).toNat, List.mem_range.mpr (by omega), by omega⟩
theorem upTo_lt (a n : Int) : (upTo a n).Pairwise (· < ·) := by
  unfold upTo
  rw [List.pairwise_map]
  exact List.pairwise_lt_range.imp fun {x y} h => by omega
theorem bg_snoc (l : Lt) (x : Int) : bg (l ++ [x]) = x + 1 := by simp [bg]
theorem asc_snoc {n : Int} {l : Lt} {x : Int} (h : ∀ y ∈ l, 0 ≤ y) : Asc n (l ++ [x]) ↔ Asc n l ∧ bg l ≤ x ∧ x < n := by
  unfold Asc
  rw [List.pairwise_append]
  constructor
  · rintro ⟨⟨h1, _, h2⟩, h3⟩
    refine ⟨⟨h1, fun y hy => h3 y (by simp [hy])⟩, ?_, (h3 x (by simp)).2⟩
    unfold bg
    cases e : l.getLast? with
    | none => exact (h3 x (by simp)).1
    | some y =>
      have := h2 y (List.mem_of_getLast? e) x (by simp)
      show y + 1 ≤ x
      omega
  · rintro ⟨⟨h1, h2⟩, h3, h4⟩
    have key : ∀ y ∈ l, y < x := by
      intro y hy
      unfold bg at h3
      cases e : l.getLast? with
      | none => rw [List.getLast?_eq_none_iff.mp e] at hy; simp at hy
      | some z =>
        rw [e] at h3
        have h3 : z + 1 ≤ x := h3
        obtain ⟨l', rfl⟩ := List.getLast?_eq_some_iff.mp e
        rcases List.mem_append.mp hy with q | q
        · have := (List.pairwise_append.mp h1).2.2 y q z (by simp)
          omega
        · rw [List.mem_singleton.mp q]
          omega
    have x0 : 0 ≤ x := by
      unfold bg at h3
      cases e : l.getLast? with
      | none => rw [e] at h3; exact h3
      | some z =>
        rw [e] at h3
        have h3 : z + 1 ≤ x := h3
        have := h z (List.mem_of_getLast? e)
        omega
    refine ⟨⟨h1, List.pairwise_singleton _ _, fun y hy z hz => by rw [List.mem_singleton.mp hz]; exact key y hy⟩, fun y hy => ?_⟩
    rcases List.mem_append.mp hy with q | q
    · exact h2 y q
    · rw [List.mem_singleton.mp q]
      exact ⟨x0, h4⟩
theorem mem_lots {n : Int} : ∀ {k : Nat} {l : Lt}, l ∈ lots n k ↔ l.length = k ∧ Asc n l
  | 0, l => by
    show l ∈ [[]] ↔ _
    rw [List.mem_singleton]
    constructor
    · rintro rfl
      exact ⟨rfl, .nil, by simp⟩
    · rintro ⟨h, _⟩
      exact List.length_eq_zero_iff.mp h
  | k + 1, l => by
    show l ∈ (lots n k).flatMap (extL n) ↔ _
    rw [List.mem_flatMap]
    constructor
    · rintro ⟨a, ha, hl⟩
      obtain ⟨x, hx, rfl⟩ := List.mem_map.mp hl
      obtain ⟨h1, h2⟩ := mem_lots.mp ha
      obtain ⟨h3, h4⟩ := mem_upTo.mp hx
      exact ⟨by simp [h1], (asc_snoc fun y hy => (h2.2 y hy).1).mpr ⟨h2, h3, h4⟩⟩
    · rintro ⟨h1, h2⟩
      have ne : l ≠ [] := fun z => by rw [z] at h1; cases h1
      obtain ⟨a, x, rfl⟩ : ∃ a x, l = a ++ [x] := ⟨l.dropLast, l.getLast ne, (List.dropLast_concat_getLast ne).symm⟩
      have h0 : ∀ y ∈ a, 0 ≤ y := fun y hy => (h2.2 y (by simp [hy])).1
      obtain ⟨h3, h4, h5⟩ := (asc_snoc h0).mp h2
      exact ⟨a, mem_lots.mpr ⟨by simpa using h1, h3⟩, List.mem_map.mpr ⟨x, mem_upTo.mpr ⟨h4, h5⟩, rfl⟩⟩
theorem lex_snoc : ∀ {a b : Lt} {c d : Lt}, a.length = b.length → a < b → a ++ c < b ++ d
  | [], [], _, _, _, h => absurd h (List.lt_irrefl [])
  | [], _ :: _, _, _, h, _ => by cases h
  | _ :: _, [], _, _, h, _ => by cases h
  | x :: a, y :: b, c, d, hl, h => by
    rw [List.cons_append, List.cons_append, List.cons_lt_cons_iff]
    rcases List.cons_lt_cons_iff.mp h with q | ⟨q1, q2⟩
    · exact .inl q
    · exact .inr ⟨q1, lex_snoc (by simpa using hl) q2⟩
theorem lex_same : ∀ (a : Lt) {x y : Int}, x < y → a ++ [x] < a ++ [y]
  | [], x, y, h => List.cons_lt_cons_iff.mpr (.inl h)
  | z :: a, x, y, h => List.cons_lt_cons_iff.mpr (.inr ⟨rfl, lex_same a h⟩)
theorem lots_lt (n : Int) : ∀ k, (lots n k).Pairwise (· < ·)
  | 0 => List.pairwise_singleton _ _
  | k + 1 => by
    show ((lots n k).flatMap (extL n)).Pairwise (· < ·)
    rw [List.pairwise_flatMap]
    refine ⟨fun a ha => ?_, (List.pairwise_iff_forall_sublist.mpr ?_)⟩
    · unfold extL
      rw [List.pairwise_map]
      exact (upTo_lt _ _).imp fun h => lex_same a h
    · intro a b hs
      have hab := (List.pairwise_iff_forall_sublist.mp (lots_lt n k)) hs
      have ha := (mem_lots.mp (hs.subset (by simp : a ∈ [a, b]))).1
      have hb := (mem_lots.mp (hs.subset (by simp : b ∈ [a, b]))).1
      intro x hx y hy
      obtain ⟨u, _, rfl⟩ := List.mem_map.mp hx
      obtain ⟨v, _, rfl⟩ := List.mem_map.mp hy
      exact lex_snoc (by omega) hab
/-! the law's -/
def subsL : Nat → List Lt
  | 0 => [[]]
  | n + 1 => subsL n ++ (subsL n).map fun l => l ++ [(n : Int)]
theorem mem_subs : ∀ {n : Nat} {l : Lt}, l ∈ subsL n ↔ Asc n l
  | 0, l => by
    show l ∈ [[]] ↔ _
    rw [List.mem_singleton]
    constructor
    · rintro rfl
      exact ⟨.nil, by simp⟩
    · rintro ⟨_, h⟩
      cases l with
      | nil => rfl
      | cons x l => have := h x (by simp); omega
  | n + 1, l => by
    show l ∈ subsL n ++ (subsL n).map (fun l => l ++ [(n : Int)]) ↔ _
    rw [List.mem_append, mem_subs, List.mem_map]
    constructor
    · rintro (h | ⟨a, ha, rfl⟩)
      · exact ⟨h.1, fun x hx => by have := h.2 x hx; omega⟩
      · have ha := mem_subs.mp ha
        refine (asc_snoc fun y hy => (ha.2 y hy).1).mpr ⟨⟨ha.1, fun x hx => by have := ha.2 x hx; omega⟩, ?_, by omega⟩
        unfold bg
        cases e : a.getLast? with
        | none => exact Int.natCast_nonneg n
        | some z =>
          have := (ha.2 z (List.mem_of_getLast? e)).2
          show z + 1 ≤ (n : Int)
          omega
    · intro h
      by_cases ne : l = []
      · subst ne
        exact .inl ⟨.nil, by simp⟩
      · obtain ⟨a, x, rfl⟩ : ∃ a x, l = a ++ [x] := ⟨l.dropLast, l.getLast ne, (List.dropLast_concat_getLast ne).symm⟩
        have h0 : ∀ y ∈ a, 0 ≤ y := fun y hy => (h.2 y (by simp [hy])).1
        have hb := h.2 x (by simp)
        have hlt : ∀ y ∈ a, y < x := fun y hy => (List.pairwise_append.mp h.1).2.2 y hy x (by simp)
        have ha : (a.Pairwise (· < ·)) := (List.pairwise_append.mp h.1).1
        by_cases z : x = (n : Int)
        · right
          subst z
          exact ⟨a, mem_subs.mpr ⟨ha, fun y hy => ⟨h0 y hy, hlt y hy⟩⟩, rfl⟩
        · left
          refine ⟨h.1, fun y hy => ?_⟩
          have hy2 := h.2 y hy
          refine ⟨hy2.1, ?_⟩
          rcases List.mem_append.mp hy with q | q
          · have := hlt y q; omega
          · rw [List.mem_singleton.mp q]; omega
theorem subs_nodup : ∀ n, (subsL n).Nodup
  | 0 => by simp [subsL]
  | n + 1 => by
    show (subsL n ++ (subsL n).map fun l => l ++ [(n : Int)]).Nodup
    rw [List.nodup_append]
    refine ⟨subs_nodup n, ?_, fun a ha b hb z => ?_⟩
    · unfold List.Nodup
      rw [List.pairwise_map]
      exact (subs_nodup n).imp fun h z => h (List.append_cancel_right z)
    · subst z
      obtain ⟨c, hc, rfl⟩ := List.mem_map.mp hb
      have := (mem_subs.mp ha).2 (n : Int) (by simp)
      omega
theorem lots_subs (n k : Nat) : ((subsL n).filter fun l => decide ((l.length : Int) = (k : Int))).Perm (lots n k) := by
  refine (List.perm_ext_iff_of_nodup ((subs_nodup n).filter _) ((lots_lt n k).imp fun {a b} h z => by subst z; exact List.lt_irrefl a h)).mpr fun l => ?_
  rw [List.mem_filter, mem_subs, mem_lots]
  simp only [decide_eq_true_eq]
  constructor
  · rintro ⟨h1, h2⟩
    exact ⟨by omega, h1⟩
  · rintro ⟨h1, h2⟩
    exact ⟨h2, by omega⟩
theorem subs_sorted (n k : Nat) : ((subsL n).filter fun l => decide ((l.length : Int) = (k : Int))).mergeSort leL = lots n k :=
  sortL_eq (lots_subs n k) ((lots_lt n k).imp fun h => List.le_of_lt h)
end K77
namespace K77
open PySem L2 DV
theorem rngU (a n : Int) : rangeD a (n - a).toNat = (upTo a n).map D.int := by
  unfold rangeD upTo
  rw [List.map_map]
  rfl
theorem at_last (a : Lt) (x : Int) : atI ((a ++ [x]).map D.int) (-1) = some (.int x) := by
  have e : ixN ((a ++ [x]).map D.int).length (-1) = some a.length := by
    unfold ixN
    simp
    omega
  unfold atI
  rw [e]
  simp
theorem listD_tups (o : Bool) (L : List Lt) : listD (.lst o (L.map itT)) = some (L.map itT) := by
  unfold listD
  simp [isFzA_tups]
theorem add_it (l : Lt) (x : Int) (h : l.length ≤ 1000) : OpV .Add (itT l) (.tup [.int x]) (itT (l ++ [x])) := by
  have sz := sizeLine_eq
  have := add_tup (l := l.map D.int) (m := [.int x]) (by rw [List.length_map]; simp; omega)
  rw [show l.map D.int ++ [D.int x] = (l ++ [x]).map D.int by rw [List.map_append]; rfl] at this
  exact this
abbrev inB : ISs := .cons (.asg (.nm 6) (.ife (.cmp .Gt (.u1 .len (.var 5)) (.con (.int 0))) (.op .Add (.ix (.var 5) (.u1 .neg (.con (.int 1)))) (.con (.int 1))) (.con (.int 0)))) (.cons (.ex (.ext 4 (.comp [7] (.rng2 (.var 6) (.var 0)) (.nm 7) (.op .Add (.var 5) (.tup (.cons (.var 7) .nil)))))) .nil)
theorem bg_ev (P : Pr) (l : Lt) (hl : l.length ≤ 1000) {N Z F T A a6 : Option D} : Evl P (.ife (.cmp .Gt (.u1 .len (.var 5)) (.con (.int 0))) (.op .Add (.ix (.var 5) (.u1 .neg (.con (.int 1)))) (.con (.int 1))) (.con (.int 0))) [N, Z, F, T, A, some (itT l), a6, none] (.val (.int (bg l))) [N, Z, F, T, A, some (itT l), a6, none] := by
  by_cases h : l = []
  · subst h
    have e : decide ((0 : Int) < (((([] : Lt).map D.int).length : Nat) : Int)) = false := by decide
    repeat' (first
      | apply x_ifeF'
      | exact e
      | exact x_con
      | exact a_nil
      | exact s_nil
      | exact o_none
      | exact x_fnv
      | exact x_glb rfl
      | exact s_dead
      | exact x_var rfl rfl
      | (refine x_var rfl ?_; simp [isFz, isFzA, isFzA_ints, isFzA_frz, isFz_frz]; done)
      | exact x_brw rfl rfl
      | exact op_add'
      | exact op_sub'
      | exact int_eq'
      | exact int_ne'
      | exact ne_two
      | exact eq_two
      | exact eq_itT'
      | exact ne_itT'
      | exact eq_itL'
      | exact ne_itL'
      | apply op_mul'
      | apply op_div'
      | apply op_mod'
      | apply x_op
      | apply x_cmp
      | apply x_ix
      | apply x_u1
      | apply x_chn
      | apply x_and
      | apply x_or
      | apply x_not
      | apply x_ife
      | apply t_cmp
      | apply t_chn
      | apply t_and
      | apply t_or
      | apply t_not
      | apply t_var
      | apply t_u1
      | apply t_call
      | apply t_ix
      | apply a_cons
      | apply x_tup
      | apply x_lst
      | apply x_lstF
      | apply x_call
      | apply x_sl
      | apply o_some
      | apply x_rev
      | apply i_seq
      | apply i_rng1
      | apply i_rng2
      | apply i_enumI
      | apply i_enum
      | apply i_zip
      | apply s_ife
      | apply s_rt
      | apply s_asg
      | apply s_par
      | apply s_sto
      | apply s_aug
      | apply s_augN
      | apply s_ex
      | exact u_sumT
      | exact u_sumL
      | exact u_allL
      | exact u_anyL
      | exact u_allM
      | exact u_anyM
      | exact u_sumM
      | exact OpV.mk rfl
      | exact CmV.mk rfl
      | exact IxV.mk rfl
      | exact U1V.mk rfl
      | apply ix_lst'
      | omega
      | (have sz := sizeLine_eq; omega)
      | (simp only [List.length_map, List.length_cons, List.length_nil]; have sz := sizeLine_eq; omega)
      | (simp only [mulOk, Bool.or_eq_true, Bool.and_eq_true, decide_eq_true_eq]; omega)
      | refine fun (_ : (_ : Bool) = true) => ?_
      | refine fun (_ : (_ : Bool) = false) => ?_
      | refine ⟨_, rfl, ?_, rfl⟩
      | rfl
      | (simp [isFz, isFzA, isFzA_ints, isFzA_frz, isFz_frz]; done)
      | intro i hi)
  · obtain ⟨a, x, rfl⟩ : ∃ a x, l = a ++ [x] := ⟨l.dropLast, l.getLast h, (List.dropLast_concat_getLast h).symm⟩
    have e : decide ((0 : Int) < (((((a ++ [x] : Lt)).map D.int).length : Nat) : Int)) = true := by
      rw [List.length_map]
      simp
    have i1 : IxV (itT (a ++ [x])) (.int (-1)) (.int x) := ⟨at_last a x⟩
    rw [bg_snoc]
    repeat' (first
      | apply x_ifeT'
      | exact e
      | exact i1
      | exact x_con
      | exact a_nil
      | exact s_nil
      | exact o_none
      | exact x_fnv
      | exact x_glb rfl
      | exact s_dead
      | exact x_var rfl rfl
      | (refine x_var rfl ?_; simp [isFz, isFzA, isFzA_ints, isFzA_frz, isFz_frz]; done)
      | exact x_brw rfl rfl
      | exact op_add'
      | exact op_sub'
      | exact int_eq'
      | exact int_ne'
      | exact ne_two
      | exact eq_two
      | exact eq_itT'
      | exact ne_itT'
      | exact eq_itL'
      | exact ne_itL'
      | apply op_mul'
      | apply op_div'
      | apply op_mod'
      | apply x_op
      | apply x_cmp
      | apply x_ix
      | apply x_u1
      | apply x_chn
      | apply x_and
      | apply x_or
      | apply x_not
      | apply x_ife
      | apply t_cmp
      | apply t_chn
      | apply t_and
      | apply t_or
      | apply t_not
      | apply t_var
      | apply t_u1
      | apply t_call
      | apply t_ix
      | apply a_cons
      | apply x_tup
      | apply x_lst
      | apply x_lstF
      | apply x_call
      | apply x_sl
      | apply o_some
      | apply x_rev
      | apply i_seq
      | apply i_rng1
      | apply i_rng2
      | apply i_enumI
      | apply i_enum
      | apply i_zip
      | apply s_ife
      | apply s_rt
      | apply s_asg
      | apply s_par
      | apply s_sto
      | apply s_aug
      | apply s_augN
      | apply s_ex
      | exact u_sumT
      | exact u_sumL
      | exact u_allL
      | exact u_anyL
      | exact u_allM
      | exact u_anyM
      | exact u_sumM
      | exact OpV.mk rfl
      | exact CmV.mk rfl
      | exact IxV.mk rfl
      | exact U1V.mk rfl
      | apply ix_lst'
      | omega
      | (have sz := sizeLine_eq; omega)
      | (simp only [List.length_map, List.length_cons, List.length_nil]; have sz := sizeLine_eq; omega)
      | (simp only [mulOk, Bool.or_eq_true, Bool.and_eq_true, decide_eq_true_eq]; omega)
      | refine fun (_ : (_ : Bool) = true) => ?_
      | refine fun (_ : (_ : Bool) = false) => ?_
      | refine ⟨_, rfl, ?_, rfl⟩
      | rfl
      | (simp [isFz, isFzA, isFzA_ints, isFzA_frz, isFz_frz]; done)
      | intro i hi)
theorem in_step (P : Pr) {n : Int} (hn : 0 ≤ n ∧ n ≤ 100) {l : Lt} (hl : l.length ≤ 1000) (M : List Lt) (hM : (M ++ extL n l).length ≤ 1000) (h0 : 0 ≤ bg l ∧ bg l ≤ 1000) {Z F T a6 : Option D} :
    ∃ ρ, Sxl P inB [some (.int n), Z, F, T, some (.lst true (M.map itT)), some (itT l), a6, none] (.nx ρ) ∧ ∃ a5 a6, ρ = [some (.int n), Z, F, T, some (.lst true ((M ++ extL n l).map itT)), a5, a6, none] := by
  have sz := sizeLine_eq
  have e := bg_ev P l hl (N := some (.int n)) (Z := Z) (F := F) (T := T) (A := some (.lst true (M.map itT))) (a6 := a6)
  have lu : (upTo (bg l) n).length ≤ 1000 := by
    rw [List.length_append] at hM
    unfold extL at hM
    rw [List.length_map] at hM
    omega
  have ld : listD (.lst true ((upTo (bg l) n).map fun x => itT (l ++ [x]))) = some ((upTo (bg l) n).map fun x => itT (l ++ [x])) := by
    have := listD_tups true ((upTo (bg l) n).map fun x => l ++ [x])
    rw [List.map_map] at this
    exact this
  have sm : (smallI (bg l) && smallI n) = true := by simp [smallI]; omega
  have rg : ∀ {ρ : DV.Env}, slotD ρ 6 = some (.int (bg l)) → slotD ρ 0 = some (.int n) → Ivl P (.rng2 (.var 6) (.var 0)) ρ ((upTo (bg l) n).map D.int) ρ := fun {ρ} h1 h2 => by
    rw [← rngU]
    exact i_rng2 (x_var h1 rfl) (x_var h2 rfl) rfl rfl sm
  have ll : (M.map itT).length + ((upTo (bg l) n).map fun x => itT (l ++ [x])).length ≤ sizeLine := by
    rw [List.length_append] at hM
    unfold extL at hM
    rw [List.length_map] at hM
    rw [List.length_map, List.length_map]
    omega
  apply Exists.intro
  apply And.intro
  · repeat' (first
      | exact e
      | exact add_it l _ hl
      | exact ld
      | exact ll
      | exact rg rfl rfl
      | apply x_ext
      | apply x_compM (vs := [7]) (upTo (bg l) n) D.int (fun x => itT (l ++ [x]))
      | exact x_con
      | exact a_nil
      | exact s_nil
      | exact o_none
      | exact x_fnv
      | exact x_glb rfl
      | exact s_dead
      | exact x_var rfl rfl
      | (refine x_var rfl ?_; simp [isFz, isFzA, isFzA_ints, isFzA_frz, isFz_frz]; done)
      | exact x_brw rfl rfl
      | exact op_add'
      | exact op_sub'
      | exact int_eq'
      | exact int_ne'
      | exact ne_two
      | exact eq_two
      | exact eq_itT'
      | exact ne_itT'
      | exact eq_itL'
      | exact ne_itL'
      | apply op_mul'
      | apply op_div'
      | apply op_mod'
      | apply x_op
      | apply x_cmp
      | apply x_ix
      | apply x_u1
      | apply x_chn
      | apply x_and
      | apply x_or
      | apply x_not
      | apply x_ife
      | apply t_cmp
      | apply t_chn
      | apply t_and
      | apply t_or
      | apply t_not
      | apply t_var
      | apply t_u1
      | apply t_call
      | apply t_ix
      | apply a_cons
      | apply x_tup
      | apply x_lst
      | apply x_lstF
      | apply x_call
      | apply x_sl
      | apply o_some
      | apply x_rev
      | apply i_seq
      | apply i_rng1
      | apply i_rng2
      | apply i_enumI
      | apply i_enum
      | apply i_zip
      | apply s_ife
      | apply s_rt
      | apply s_asg
      | apply s_par
      | apply s_sto
      | apply s_aug
      | apply s_augN
      | apply s_ex
      | exact u_sumT
      | exact u_sumL
      | exact u_allL
      | exact u_anyL
      | exact u_allM
      | exact u_anyM
      | exact u_sumM
      | exact OpV.mk rfl
      | exact CmV.mk rfl
      | exact IxV.mk rfl
      | exact U1V.mk rfl
      | apply ix_lst'
      | omega
      | (have sz := sizeLine_eq; omega)
      | (simp only [List.length_map, List.length_cons, List.length_nil]; have sz := sizeLine_eq; omega)
      | (simp only [mulOk, Bool.or_eq_true, Bool.and_eq_true, decide_eq_true_eq]; omega)
      | refine fun (_ : (_ : Bool) = true) => ?_
      | refine fun (_ : (_ : Bool) = false) => ?_
      | refine ⟨_, rfl, ?_, rfl⟩
      | rfl
      | (simp [isFz, isFzA, isFzA_ints, isFzA_frz, isFz_frz]; done)
      | intro i hi)
  · refine ⟨some (itT l), some (.int (bg l)), ?_⟩
    rw [List.map_append]
    unfold extL
    rw [List.map_map]
    rfl
theorem asc_bg {n : Int} {l : Lt} (h : Asc n l) (hn : 0 ≤ n ∧ n ≤ 100) : 0 ≤ bg l ∧ bg l ≤ 1000 := by
  unfold bg
  cases e : l.getLast? with
  | none => exact ⟨Int.le_refl 0, by decide⟩
  | some x =>
    have := h.2 x (List.mem_of_getLast? e)
    show 0 ≤ x + 1 ∧ x + 1 ≤ 1000
    omega
theorem asc_len {n : Int} : ∀ {l : Lt}, Asc n l → 0 ≤ n → (l.length : Int) ≤ n := by
  intro l
  suffices key : ∀ (m : Nat) (l : Lt), l.length = m → Asc n l → 0 ≤ n → (l.length : Int) ≤ bg l ∧ bg l ≤ n from fun h hn => by
    have := key _ l rfl h hn
    omega
  intro m
  induction m with
  | zero =>
    intro l hl h hn
    rw [List.length_eq_zero_iff.mp hl]
    exact ⟨Int.le_refl 0, hn⟩
  | succ m ih =>
    intro l hl h hn
    have ne : l ≠ [] := fun z => by rw [z] at hl; cases hl
    obtain ⟨a, x, rfl⟩ : ∃ a x, l = a ++ [x] := ⟨l.dropLast, l.getLast ne, (List.dropLast_concat_getLast ne).symm⟩
    obtain ⟨h1, h2, h3⟩ := (asc_snoc fun y hy => (h.2 y (by simp [hy])).1).mp h
    have := (ih a (by simpa using hl) h1 hn).1
    rw [bg_snoc, List.length_append]
    simp
    omega
theorem subs_len : ∀ n, (subsL n).length = 2 ^ n
  | 0 => rfl
  | n + 1 => by
    show (subsL n ++ (subsL n).map fun l => l ++ [(n : Int)]).length = _
    rw [List.length_append, List.length_map, subs_len n, Nat.pow_succ]
    omega
theorem lots_len (n k : Nat) (h : n ≤ 8) : (lots n k).length ≤ 256 := by
  rw [← (lots_subs n k).length_eq]
  have h1 := List.length_filter_le (fun l : Lt => decide ((l.length : Int) = (k : Int))) (subsL n)
  rw [subs_len] at h1
  have h2 : 2 ^ n ≤ 2 ^ 8 := Nat.pow_le_pow_right (by decide) h
  omega
theorem fm_take {α β : Type} (f : α → List β) (l : List α) (i : Nat) : ((l.take i).flatMap f).length ≤ (l.flatMap f).length := by
  conv => rhs; rw [← List.take_append_drop i l, List.flatMap_append, List.length_append]
  omega
theorem inner (P : Pr) {n : Nat} (hn : n ≤ 8) (k : Nat) {Z F T a5 a6 : Option D} :
    ∃ ρ', fLoop (gv (.nm 5)) (sxs P inB) ((lots n k).map itT) [some (.int n), Z, F, T, some (.lst true []), a5, a6, none] = .nx ρ' ∧ ∃ a5 a6, ρ' = [some (.int n), Z, F, T, some (.lst true ((lots n (k + 1)).map itT)), a5, a6, none] := by
  have loop := for_all (P := P) (g := .nm 5) (l := inB) (fun i ρ => ∃ a5 a6, ρ = [some (.int n), Z, F, T, some (.lst true ((((lots n k).take i).flatMap (extL n)).map itT)), a5, a6, none]) ((lots n k).map itT)
    (ρ := [some (.int n), Z, F, T, some (.lst true []), a5, a6, none]) ⟨_, _, rfl⟩ (fun i d ρ hd hi => ?_)
  · obtain ⟨ρ', h1, a, b, rfl⟩ := loop
    rw [List.length_map, List.take_length] at h1
    exact ⟨_, h1, a, b, rfl⟩
  · obtain ⟨a, b, rfl⟩ := hi
    obtain ⟨l, hl, rfl⟩ : ∃ l, (lots n k)[i]? = some l ∧ itT l = d := by simpa [List.getElem?_map] using hd
    obtain ⟨m1, m2⟩ := mem_lots.mp (List.mem_of_getElem? hl)
    have tk : ((lots n k).take (i + 1)).flatMap (extL n) = ((lots n k).take i).flatMap (extL n) ++ extL n l := by rw [List.take_add_one, hl, List.flatMap_append]; simp
    have ln := asc_len m2 (by omega)
    have bnd : (((lots n k).take i).flatMap (extL n) ++ extL n l).length ≤ 1000 := by
      rw [← tk]
      have h1 := fm_take (extL n) (lots n k) (i + 1)
      have h2 := lots_len n (k + 1) hn
      have h3 : (lots n (k + 1)).length = ((lots n k).flatMap (extL n)).length := rfl
      omega
    obtain ⟨ρ2, s1, c, d, rfl⟩ := in_step P (n := (n : Int)) ⟨by omega, by omega⟩ (l := l) (by omega) (((lots n k).take i).flatMap (extL n)) bnd (asc_bg m2 ⟨by omega, by omega⟩) (Z := Z) (F := F) (T := T) (a6 := b)
    rw [tk]
    exact ⟨_, _, rfl, .inl s1, c, d, rfl⟩
theorem sb2 (L : List Lt) (a b c d e f : Option D) : settle [a, b, some (.lst true (L.map itT)), c, d, e, f, none] (.brw 2) = some (.lst false (L.map itT), [a, b, some (.lst false (L.map itT)), c, d, e, f, none]) := by
  show some (D.lst false (frzA (L.map itT)), [a, b, some (D.lst false (frzA (L.map itT))), c, d, e, f, none]) = _
  rw [frzA_tups]
theorem sb4 (L : List Lt) (a b c d e f : Option D) : grab [a, b, c, d, some (.lst true (L.map itT)), e, f, none] (.brw 4) = some (.lst false (L.map itT), [a, b, c, d, some (.lst false (L.map itT)), e, f, none]) := by
  show some (D.lst false (frzA (L.map itT)), [a, b, c, d, some (D.lst false (frzA (L.map itT))), e, f, none]) = _
  rw [frzA_tups]
theorem lotsR (k : Nat) (n m : Nat) (hn : n ≤ 8) (h1 : 1 ≤ m) (hm : m ≤ 8) : Rn 21 (run L (k + 1)) [.int n, .int m] (.lst false ((lots n m).map itT)) [] := by
  constructor
  rw [r21]
  generalize prL L (run L k) = P
  have loop := for_all (P := P) (g := .nm 3) (l := (.cons (.asg (.nm 4) (.lst .nil)) (.cons (.for (.seq (.var 2)) (.nm 5) inB) (.cons (.asg (.nm 2) (.var 4)) .nil))))
    (fun i ρ => ∃ o a3 a4 a5 a6, ρ = [some (.int n), some (.int m), some (.lst o ((lots n i).map itT)), a3, a4, a5, a6, none] ∧ (1 ≤ i → o = false)) ((List.range m).map fun (i : Nat) => D.int (i : Int))
    (ρ := [some (.int n), some (.int m), some (.lst true [.tup []]), none, none, none, none, none]) ⟨true, _, _, _, _, rfl, fun z => by omega⟩ (fun i d ρ hd hi => ?_)
  · obtain ⟨ρ', w, o, a3, a4, a5, a6, rfl, ho⟩ := loop
    rw [List.length_map, List.length_range] at w ho
    rw [ho h1] at w
    have rg : Ivl P (.rng1 (.var 1)) [some (.int n), some (.int m), some (.lst true [.tup []]), none, none, none, none, none] ((List.range m).map fun (i : Nat) => D.int (i : Int)) [some (.int n), some (.int m), some (.lst true [.tup []]), none, none, none, none, none] := by
      have := i_rng1 (P := P) (a := .var 1) (ρ := [some (.int n), some (.int m), some (.lst true [.tup []]), none, none, none, none, none]) (x_var rfl rfl) (k := (m : Int)) rfl (by simp [smallI]; omega)
      rw [rng_map] at this
      exact this
    have fz : isFz (.lst false ((lots n m).map itT)) = true := by simp [isFz, isFzA_tups]
    apply Eq.trans
    · apply f_ev
      · rfl
      · unfold f21
        repeat' (first
          | apply s_for
          | exact rg
          | exact w
          | exact x_var rfl fz
          | exact x_con
          | exact a_nil
          | exact s_nil
          | exact o_none
          | exact x_fnv
          | exact x_glb rfl
          | exact s_dead
          | exact x_var rfl rfl
          | (refine x_var rfl ?_; simp [isFz, isFzA, isFzA_ints, isFzA_frz, isFz_frz]; done)
          | exact x_brw rfl rfl
          | exact op_add'
          | exact op_sub'
          | exact int_eq'
          | exact int_ne'
          | exact ne_two
          | exact eq_two
          | exact eq_itT'
          | exact ne_itT'
          | exact eq_itL'
          | exact ne_itL'
          | apply op_mul'
          | apply op_div'
          | apply op_mod'
          | apply x_op
          | apply x_cmp
          | apply x_ix
          | apply x_u1
          | apply x_chn
          | apply x_and
          | apply x_or
          | apply x_not
          | apply x_ife
          | apply t_cmp
          | apply t_chn
          | apply t_and
          | apply t_or
          | apply t_not
          | apply t_var
          | apply t_u1
          | apply t_call
          | apply t_ix
          | apply a_cons
          | apply x_tup
          | apply x_lst
          | apply x_lstF
          | apply x_call
          | apply x_sl
          | apply o_some
          | apply x_rev
          | apply i_seq
          | apply i_rng1
          | apply i_rng2
          | apply i_enumI
          | apply i_enum
          | apply i_zip
          | apply s_ife
          | apply s_rt
          | apply s_asg
          | apply s_par
          | apply s_sto
          | apply s_aug
          | apply s_augN
          | apply s_ex
          | exact u_sumT
          | exact u_sumL
          | exact u_allL
          | exact u_anyL
          | exact u_allM
          | exact u_anyM
          | exact u_sumM
          | exact OpV.mk rfl
          | exact CmV.mk rfl
          | exact IxV.mk rfl
          | exact U1V.mk rfl
          | apply ix_lst'
          | omega
          | (have sz := sizeLine_eq; omega)
          | (simp only [List.length_map, List.length_cons, List.length_nil]; have sz := sizeLine_eq; omega)
          | (simp only [mulOk, Bool.or_eq_true, Bool.and_eq_true, decide_eq_true_eq]; omega)
          | refine fun (_ : (_ : Bool) = true) => ?_
          | refine fun (_ : (_ : Bool) = false) => ?_
          | refine ⟨_, rfl, ?_, rfl⟩
          | rfl
          | (simp [isFz, isFzA, isFzA_ints, isFzA_frz, isFz_frz]; done)
          | intro i hi)
    · rfl
  · obtain ⟨o, a3, a4, a5, a6, rfl, ho⟩ := hi
    obtain ⟨j, hj, rfl⟩ : ∃ j, (List.range m)[i]? = some j ∧ D.int (j : Int) = d := by simpa [List.getElem?_map] using hd
    obtain ⟨ρ', w, b5, b6, rfl⟩ := inner P hn i (Z := some (.int m)) (F := some (.lst false ((lots n i).map itT))) (T := some (.int (j : Int))) (a5 := a5) (a6 := a6)
    have sq : Ivl P (.seq (.var 2)) [some (.int n), some (.int m), some (.lst o ((lots n i).map itT)), some (.int (j : Int)), some (.lst true []), a5, a6, none] ((lots n i).map itT) [some (.int n), some (.int m), some (.lst false ((lots n i).map itT)), some (.int (j : Int)), some (.lst true []), a5, a6, none] := by
      cases o with
      | true => exact i_seq (x_brw rfl rfl) (sb2 _ _ _ _ _ _ _) rfl
      | false => exact i_seq (x_var rfl (by simp [isFz, isFzA_tups])) (by show some (frz _, _) = _; rw [fz_frz _ (by simp [isFz, isFzA_tups])]) rfl
    refine ⟨_, [some (.int n), some (.int m), some (.lst false ((lots n (i + 1)).map itT)), some (.int (j : Int)), some (.lst false ((lots n (i + 1)).map itT)), b5, b6, none], rfl, .inl ?_, false, _, _, _, _, rfl, fun _ => rfl⟩
    exact s_asg (x_lst a_nil (by simp)) rfl rfl (s_for sq w (s_asg (x_brw rfl rfl) (sb4 _ _ _ _ _ _ _) rfl s_nil))
end K77
namespace K77
open PySem L2 DV
def clampR (x : Int) : Int := if (if x < 4000 then x else 4000) > 0 then (if x < 4000 then x else 4000) else 0
theorem clamp_R4 (x : Int) : R4 (clampR x) := by
  unfold clampR R4
  repeat' split
  all_goals omega
/-- the rating drawn -/
theorem ratingR (k : Nat) {h : D} (hh : HandOk h) : ∃ a h', Rn 38 (run L (k + 3)) [h] (.int a) [h'] ∧ R4 a ∧ HandOk h' := by
  obtain ⟨j, g1, e1, p1, p2, q1⟩ := drawR k hh (n := 4) (by decide) (by decide)
  obtain ⟨v, g2, e2, p3, p4, q2⟩ := drawR (k + 1) q1 (n := 1001) (by decide) (by decide)
  obtain ⟨m, em, b1, b2⟩ : ∃ m : Int, atI [D.int 200, .int 1500, .int 2000, .int 3800] j = some (.int m) ∧ 0 ≤ m ∧ m ≤ 4000 := by
    have : j = 0 ∨ j = 1 ∨ j = 2 ∨ j = 3 := by omega
    rcases this with rfl | rfl | rfl | rfl <;> exact ⟨_, rfl, by decide, by decide⟩
  have c1 : Rn 31 (run L (k + 2)) [h, .lst false [.int 200, .int 1500, .int 2000, .int 3800]] (.int m) [g1] := by
    constructor
    rw [r31]
    exact f_rtH rfl (by
      unfold f31
      exact s_rt (x_ix (x_var rfl rfl) (x_callH rfl (a_cons (x_u1 (x_var rfl rfl) rfl ⟨rfl⟩) rfl a_nil) rfl e1) rfl rfl (ix_lst' em rfl)) rfl) rfl
  refine ⟨clampR (m + v - 500), g2, ?_, clamp_R4 _, q2⟩
  constructor
  rw [r38]
  apply Eq.trans
  · apply f_evH
    · rfl
    · unfold f38
      repeat' (first
        | exact c1
        | exact e2
        | apply x_callH
        | apply x_mx
        | exact x_con
        | exact a_nil
        | exact s_nil
        | exact o_none
        | exact x_fnv
        | exact x_glb rfl
        | exact s_dead
        | exact x_var rfl rfl
        | (refine x_var rfl ?_; simp [isFz, isFzA, isFzA_ints, isFzA_frz, isFz_frz]; done)
        | exact x_brw rfl rfl
        | exact op_add'
        | exact op_sub'
        | exact int_eq'
        | exact int_ne'
        | exact ne_two
        | exact eq_two
        | exact eq_itT'
        | exact ne_itT'
        | exact eq_itL'
        | exact ne_itL'
        | apply op_mul'
        | apply op_div'
        | apply op_mod'
        | apply x_op
        | apply x_cmp
        | apply x_ix
        | apply x_u1
        | apply x_chn
        | apply x_and
        | apply x_or
        | apply x_not
        | apply x_ife
        | apply t_cmp
        | apply t_chn
        | apply t_and
        | apply t_or
        | apply t_not
        | apply t_var
        | apply t_u1
        | apply t_call
        | apply t_ix
        | apply a_cons
        | apply x_tup
        | apply x_lst
        | apply x_lstF
        | apply x_call
        | apply x_sl
        | apply o_some
        | apply x_rev
        | apply i_seq
        | apply i_rng1
        | apply i_rng2
        | apply i_enumI
        | apply i_enum
        | apply i_zip
        | apply s_ife
        | apply s_rt
        | apply s_asg
        | apply s_par
        | apply s_sto
        | apply s_aug
        | apply s_augN
        | apply s_ex
        | exact u_sumT
        | exact u_sumL
        | exact u_allL
        | exact u_anyL
        | exact u_allM
        | exact u_anyM
        | exact u_sumM
        | exact OpV.mk rfl
        | exact CmV.mk rfl
        | exact IxV.mk rfl
        | exact U1V.mk rfl
        | apply ix_lst'
        | omega
        | (have sz := sizeLine_eq; omega)
        | (simp only [List.length_map, List.length_cons, List.length_nil]; have sz := sizeLine_eq; omega)
        | (simp only [mulOk, Bool.or_eq_true, Bool.and_eq_true, decide_eq_true_eq]; omega)
        | refine fun (_ : (_ : Bool) = true) => ?_
        | refine fun (_ : (_ : Bool) = false) => ?_
        | refine ⟨_, rfl, ?_, rfl⟩
        | rfl
        | (simp [isFz, isFzA, isFzA_ints, isFzA_frz, isFz_frz]; done)
        | intro i hi)
  · rfl
end K77
namespace K77
open PySem L2 DV
theorem cut1 {α : Type} (l : List α) : cutL l (some 1) none = l.drop 1 := by
  unfold cutL
  rw [show HT.sIx l.length 0 (some 1) = min 1 l.length from HT.sIx_nat _ _ 1, show HT.sIx l.length l.length none = l.length from rfl]
  cases l with
  | nil => rfl
  | cons x l =>
    simp only [List.length_cons]
    rw [show min 1 (l.length + 1) = 1 by omega]
    simp
theorem sl1 (l : Lt) : gSl (some 1) none (itT l) = some (itT (l.drop 1)) := by
  show some (D.tup (cutL (l.map D.int) (some 1) none)) = _
  rw [cut1, ← List.map_drop]
theorem i_zipI {P : Pr} {a b : IE} {ρ ρ1 : DV.Env} {l m : Lt} (h : Avl P true (.cons a (.cons b .nil)) ρ [itT l, itT m] ρ1) : Ivl P (.zip a b) ρ ((l.zip m).map fun p => D.tup [.int p.1, .int p.2]) ρ1 := by
  rw [← zipD_map D.int D.int]
  exact i_zip h rfl
def St (l : Lt) : Prop := (∀ x ∈ l, R4 x) ∧ 1 ≤ l.length ∧ l.length ≤ 8 ∧ l.Pairwise (· > ·)
theorem zip_gt : ∀ {l : Lt}, l.Pairwise (· > ·) → ∀ p ∈ l.zip (l.drop 1), p.1 > p.2
  | [], _, p, h => by simp at h
  | [x], _, p, h => by simp at h
  | x :: y :: l, hp, p, h => by
    rw [List.pairwise_cons] at hp
    have h : p ∈ (x, y) :: (y :: l).zip l := h
    (rcases List.mem_cons.mp h with rfl | h)
    · exact hp.1 y (by simp)
    · exact zip_gt hp.2 p (by simpa using h)
theorem all_R4 {l : Lt} (h : ∀ x ∈ l, R4 x) : (l.all fun i => decide (0 ≤ i) && decide (i ≤ 4000)) = true := List.all_eq_true.mpr fun o ho => by
  have := h o ho
  simp [this.1, this.2]
theorem areS (k : Nat) (l : Lt) (h : St l) : Rn 19 (run L (k + 4)) [itT l] (.bl true) [] := by
  obtain ⟨h1, h2, h3, h4⟩ := h
  constructor
  have c1 := are k l 0 4000 (by omega)
  rw [all_R4 h1] at c1
  have e3 : (!(decide ((1 : Int) ≤ (((l.map D.int).length : Nat) : Int)) && decide ((((l.map D.int).length : Nat) : Int) ≤ 8))) = false := by
    rw [List.length_map]
    have a1 : (1 : Int) ≤ (l.length : Int) := by omega
    have a2 : (l.length : Int) ≤ 8 := by omega
    simp [a1, a2]
  have ev : ((l.zip (l.drop 1)).all fun p => decide (p.2 < p.1)) = true := List.all_eq_true.mpr fun p hp => decide_eq_true (zip_gt h4 p hp)
  have lz : (l.zip (l.drop 1)).length ≤ sizeLine := by
    have sz := sizeLine_eq
    rw [List.length_zip]
    omega
  rw [r19]
  have c1 : Rn 3 (prL L (run L (k + 3))).fn [itT l, .int 0, .int 4000] (.bl true) [] := c1
  have e5 : (prL L (run L (k + 3))).cs 5 = .int 4000 := rfl
  have e6 : (prL L (run L (k + 3))).cs 3 = .int 8 := rfl
  generalize prL L (run L (k + 3)) = P at *
  apply Eq.trans
  · apply f_ev
    · rfl
    · unfold f19
      repeat' (first
        | exact c1
        | exact e3
        | exact sl1 l
        | exact lz
        | apply s_ifF'
        | exact x_glb e5
        | exact x_glb e6
        | apply i_zipI
        | apply x_compM (vs := [1, 2]) (l.zip (l.drop 1)) (fun p => D.tup [.int p.1, .int p.2]) (fun p => .bl (decide (p.2 < p.1)))
        | exact x_con
        | exact a_nil
        | exact s_nil
        | exact o_none
        | exact x_fnv
        | exact s_dead
        | exact x_var rfl rfl
        | (refine x_var rfl ?_; simp [isFz, isFzA, isFzA_ints, isFzA_frz, isFz_frz]; done)
        | exact x_brw rfl rfl
        | exact op_add'
        | exact op_sub'
        | exact int_eq'
        | exact int_ne'
        | exact ne_two
        | exact eq_two
        | exact eq_itT'
        | exact ne_itT'
        | exact eq_itL'
        | exact ne_itL'
        | apply op_mul'
        | apply op_div'
        | apply op_mod'
        | apply x_op
        | apply x_cmp
        | apply x_ix
        | apply x_u1
        | apply x_chn
        | apply x_and
        | apply x_or
        | apply x_not
        | apply x_ife
        | apply t_cmp
        | apply t_chn
        | apply t_and
        | apply t_or
        | apply t_not
        | apply t_var
        | apply t_u1
        | apply t_call
        | apply t_ix
        | apply a_cons
        | apply x_tup
        | apply x_lst
        | apply x_lstF
        | apply x_call
        | apply x_sl
        | apply o_some
        | apply x_rev
        | apply i_seq
        | apply i_rng1
        | apply i_rng2
        | apply i_enumI
        | apply i_enum
        | apply i_zip
        | apply s_ife
        | apply s_rt
        | apply s_asg
        | apply s_par
        | apply s_sto
        | apply s_aug
        | apply s_augN
        | apply s_ex
        | exact u_sumT
        | exact u_sumL
        | exact u_allL
        | exact u_anyL
        | exact u_allM
        | exact u_anyM
        | exact u_sumM
        | exact OpV.mk rfl
        | exact CmV.mk rfl
        | exact IxV.mk rfl
        | exact U1V.mk rfl
        | apply ix_lst'
        | omega
        | (have sz := sizeLine_eq; omega)
        | (simp only [List.length_map, List.length_cons, List.length_nil]; have sz := sizeLine_eq; omega)
        | (simp only [mulOk, Bool.or_eq_true, Bool.and_eq_true, decide_eq_true_eq]; omega)
        | refine fun (_ : (_ : Bool) = true) => ?_
        | refine fun (_ : (_ : Bool) = false) => ?_
        | refine ⟨_, rfl, ?_, rfl⟩
        | rfl
        | (simp [isFz, isFzA, isFzA_ints, isFzA_frz, isFz_frz]; done)
        | intro i hi)
  · simp only [ev]
    rfl
theorem chkS (k : Nat) (l : Lt) (h : St l) : Rn 20 (run L (k + 5)) [itT l] .non [] := by
  constructor
  have c := areS k l h
  rw [r20]
  have c : Rn 19 (prL L (run L (k + 4))).fn [itT l] (.bl true) [] := c
  generalize prL L (run L (k + 4)) = P at *
  apply Eq.trans
  · apply f_ev
    · rfl
    · unfold f20
      repeat' (first
        | exact c
        | apply s_ifF'
        | exact x_con
        | exact a_nil
        | exact s_nil
        | exact o_none
        | exact x_fnv
        | exact x_glb rfl
        | exact s_dead
        | exact x_var rfl rfl
        | (refine x_var rfl ?_; simp [isFz, isFzA, isFzA_ints, isFzA_frz, isFz_frz]; done)
        | exact x_brw rfl rfl
        | exact op_add'
        | exact op_sub'
        | exact int_eq'
        | exact int_ne'
        | exact ne_two
        | exact eq_two
        | exact eq_itT'
        | exact ne_itT'
        | exact eq_itL'
        | exact ne_itL'
        | apply op_mul'
        | apply op_div'
        | apply op_mod'
        | apply x_op
        | apply x_cmp
        | apply x_ix
        | apply x_u1
        | apply x_chn
        | apply x_and
        | apply x_or
        | apply x_not
        | apply x_ife
        | apply t_cmp
        | apply t_chn
        | apply t_and
        | apply t_or
        | apply t_not
        | apply t_var
        | apply t_u1
        | apply t_call
        | apply t_ix
        | apply a_cons
        | apply x_tup
        | apply x_lst
        | apply x_lstF
        | apply x_call
        | apply x_sl
        | apply o_some
        | apply x_rev
        | apply i_seq
        | apply i_rng1
        | apply i_rng2
        | apply i_enumI
        | apply i_enum
        | apply i_zip
        | apply s_ife
        | apply s_rt
        | apply s_asg
        | apply s_par
        | apply s_sto
        | apply s_aug
        | apply s_augN
        | apply s_ex
        | exact u_sumT
        | exact u_sumL
        | exact u_allL
        | exact u_anyL
        | exact u_allM
        | exact u_anyM
        | exact u_sumM
        | exact OpV.mk rfl
        | exact CmV.mk rfl
        | exact IxV.mk rfl
        | exact U1V.mk rfl
        | apply ix_lst'
        | omega
        | (have sz := sizeLine_eq; omega)
        | (simp only [List.length_map, List.length_cons, List.length_nil]; have sz := sizeLine_eq; omega)
        | (simp only [mulOk, Bool.or_eq_true, Bool.and_eq_true, decide_eq_true_eq]; omega)
        | refine fun (_ : (_ : Bool) = true) => ?_
        | refine fun (_ : (_ : Bool) = false) => ?_
        | refine ⟨_, rfl, ?_, rfl⟩
        | rfl
        | (simp [isFz, isFzA, isFzA_ints, isFzA_frz, isFz_frz]; done)
        | intro i hi)
  · rfl
theorem lineups (k : Nat) (l : Lt) (h : St l) (b : Nat) (hb : 1 ≤ b ∧ b ≤ l.length) : Rn 22 (run L (k + 6)) [itT l, .int b] (.int ((lots l.length b).length : Nat)) [] := by
  obtain ⟨h1, h2, h3, h4⟩ := id h
  constructor
  have c1 := chkS k l h
  have c2 := within (k + 3) (b : Int) 1 (l.length : Int)
  rw [show (decide ((1 : Int) ≤ (b : Int)) && decide ((b : Int) ≤ (l.length : Int))) = true by simp; omega] at c2
  have c3 := lotsR (k + 4) l.length b (by omega) hb.1 (by omega)
  have c1 : Rn 20 (prL L (run L (k + 5))).fn [itT l] .non [] := c1
  have c2 : Rn 1 (prL L (run L (k + 5))).fn [.int b, .int 1, .int (((l.map D.int).length : Nat) : Int)] (.bl true) [] := by rw [List.length_map]; exact c2
  have c3 : Rn 21 (prL L (run L (k + 5))).fn [.int (((l.map D.int).length : Nat) : Int), .int b] (.lst false ((lots l.length b).map itT)) [] := by rw [List.length_map]; exact c3
  rw [r22]
  generalize prL L (run L (k + 5)) = P at *
  apply Eq.trans
  · apply f_ev
    · rfl
    · unfold f22
      repeat' (first
        | exact c1
        | exact c2
        | exact c3
        | apply s_ifF'
        | exact x_con
        | exact a_nil
        | exact s_nil
        | exact o_none
        | exact x_fnv
        | exact x_glb rfl
        | exact s_dead
        | exact x_var rfl rfl
        | (refine x_var rfl ?_; simp [isFz, isFzA, isFzA_ints, isFzA_frz, isFz_frz]; done)
        | exact x_brw rfl rfl
        | exact op_add'
        | exact op_sub'
        | exact int_eq'
        | exact int_ne'
        | exact ne_two
        | exact eq_two
        | exact eq_itT'
        | exact ne_itT'
        | exact eq_itL'
        | exact ne_itL'
        | apply op_mul'
        | apply op_div'
        | apply op_mod'
        | apply x_op
        | apply x_cmp
        | apply x_ix
        | apply x_u1
        | apply x_chn
        | apply x_and
        | apply x_or
        | apply x_not
        | apply x_ife
        | apply t_cmp
        | apply t_chn
        | apply t_and
        | apply t_or
        | apply t_not
        | apply t_var
        | apply t_u1
        | apply t_call
        | apply t_ix
        | apply a_cons
        | apply x_tup
        | apply x_lst
        | apply x_lstF
        | apply x_call
        | apply x_sl
        | apply o_some
        | apply x_rev
        | apply i_seq
        | apply i_rng1
        | apply i_rng2
        | apply i_enumI
        | apply i_enum
        | apply i_zip
        | apply s_ife
        | apply s_rt
        | apply s_asg
        | apply s_par
        | apply s_sto
        | apply s_aug
        | apply s_augN
        | apply s_ex
        | exact u_sumT
        | exact u_sumL
        | exact u_allL
        | exact u_anyL
        | exact u_allM
        | exact u_anyM
        | exact u_sumM
        | exact OpV.mk rfl
        | exact CmV.mk rfl
        | exact IxV.mk rfl
        | exact U1V.mk rfl
        | apply ix_lst'
        | omega
        | (have sz := sizeLine_eq; omega)
        | (simp only [List.length_map, List.length_cons, List.length_nil]; have sz := sizeLine_eq; omega)
        | (simp only [mulOk, Bool.or_eq_true, Bool.and_eq_true, decide_eq_true_eq]; omega)
        | refine fun (_ : (_ : Bool) = true) => ?_
        | refine fun (_ : (_ : Bool) = false) => ?_
        | refine ⟨_, rfl, ?_, rfl⟩
        | rfl
        | (simp [isFz, isFzA, isFzA_ints, isFzA_frz, isFz_frz]; done)
        | intro i hi)
  · show FR.ok (.int _) [] = _
    rw [List.length_map]
/-! what is hoped of a lot -/
def hopes (s o lot : Lt) : Lt := (lot.zip o).map fun p => E (s.getD p.1.toNat 0) p.2
def H (s o lot : Lt) : Int := (hopes s o lot).sum
theorem hopes_bd (s o lot : Lt) : Bd (hopes s o lot) := fun x hx => by
  obtain ⟨p, _, rfl⟩ := List.mem_map.mp hx
  exact E_le _ _
theorem H_le (s o lot : Lt) (h : lot.length ≤ 8) : 0 ≤ H s o lot ∧ H s o lot ≤ 6400 := by
  have := bd_sum (hopes_bd s o lot)
  have l2 : (hopes s o lot).length ≤ 8 := by
    unfold hopes
    rw [List.length_map, List.length_zip]
    omega
  unfold H
  omega
theorem nthS {s : Lt} {i : Int} (h0 : 0 ≤ i) (h1 : i < s.length) : IxV (itT s) (.int i) (.int (s.getD i.toNat 0)) := ⟨at_int h0 h1⟩
theorem getD_R4 {s : Lt} (h : ∀ x ∈ s, R4 x) {i : Int} (h0 : 0 ≤ i) (h1 : i < s.length) : R4 (s.getD i.toNat 0) := by
  have hi : i.toNat < s.length := by omega
  (rw [List.getD_eq_getElem?_getD, List.getElem?_eq_getElem hi])
  exact h _ (List.getElem_mem hi)
theorem hope (k : Nat) (s o lot : Lt) (hs : ∀ x ∈ s, R4 x) (ho : ∀ x ∈ o, R4 x) (hl : ∀ i ∈ lot, 0 ≤ i ∧ i < (s.length : Int)) (h8 : lot.length ≤ 8) : Rn 23 (run L (k + 5)) [itT s, itT o, itT lot] (fr (H s o lot)) [] := by
  constructor
  have lz : (lot.zip o).length ≤ sizeLine := by
    have sz := sizeLine_eq
    rw [List.length_zip]
    omega
  have c1 := total k (hopes s o lot) (hopes_bd s o lot) (by unfold hopes; rw [List.length_map, List.length_zip]; omega)
  have mem : ∀ p ∈ lot.zip o, 0 ≤ p.1 ∧ p.1 < (s.length : Int) ∧ R4 p.2 := fun p hp => by
    obtain ⟨a, b⟩ := p
    exact ⟨(hl a (List.of_mem_zip hp).1).1, (hl a (List.of_mem_zip hp).1).2, ho b (List.of_mem_zip hp).2⟩
  have c2 : ∀ p ∈ lot.zip o, Rn 10 (run L (k + 4)) [.int (s.getD p.1.toNat 0), .int p.2] (fr (E (s.getD p.1.toNat 0) p.2)) [] := fun p hp => rawE k _ _ (getD_R4 hs (mem p hp).1 (mem p hp).2.1).rt (mem p hp).2.2.rt
  have c3 : ∀ p ∈ lot.zip o, IxV (itT s) (.int p.1) (.int (s.getD p.1.toNat 0)) := fun p hp => nthS (mem p hp).1 (mem p hp).2.1
  have e1 : ∀ {ρ : DV.Env}, setB true ρ (.val (.lst true ((lot.zip o).map fun p => fr (E (s.getD p.1.toNat 0) p.2)))) = some (.lst false ((hopes s o lot).map fr), ρ) := fun {ρ} => by
    show some (D.lst false (frzA _), _) = _
    have : ((lot.zip o).map fun p => fr (E (s.getD p.1.toNat 0) p.2)) = (hopes s o lot).map fr := by unfold hopes; rw [List.map_map]; rfl
    rw [this, frzA_fr]
  have c1 : Rn 9 (prL L (run L (k + 4))).fn [.lst false ((hopes s o lot).map fr)] (fr (H s o lot)) [] := c1
  have c2 : ∀ p ∈ lot.zip o, Rn 10 (prL L (run L (k + 4))).fn [.int (s.getD p.1.toNat 0), .int p.2] (fr (E (s.getD p.1.toNat 0) p.2)) [] := c2
  rw [r23]
  generalize prL L (run L (k + 4)) = P at *
  apply Eq.trans
  · apply f_ev
    · rfl
    · unfold f23
      repeat' (first
        | exact c1
        | exact c2 _ hi
        | exact c3 _ hi
        | exact e1
        | exact lz
        | apply i_zipI
        | apply x_compM (vs := [3, 4]) (lot.zip o) (fun p => D.tup [.int p.1, .int p.2]) (fun p => fr (E (s.getD p.1.toNat 0) p.2))
        | exact x_con
        | exact a_nil
        | exact s_nil
        | exact o_none
        | exact x_fnv
        | exact x_glb rfl
        | exact s_dead
        | exact x_var rfl rfl
        | (refine x_var rfl ?_; simp [isFz, isFzA, isFzA_ints, isFzA_frz, isFz_frz]; done)
        | exact x_brw rfl rfl
        | exact op_add'
        | exact op_sub'
        | exact int_eq'
        | exact int_ne'
        | exact ne_two
        | exact eq_two
        | exact eq_itT'
        | exact ne_itT'
        | exact eq_itL'
        | exact ne_itL'
        | apply op_mul'
        | apply op_div'
        | apply op_mod'
        | apply x_op
        | apply x_cmp
        | apply x_ix
        | apply x_u1
        | apply x_chn
        | apply x_and
        | apply x_or
        | apply x_not
        | apply x_ife
        | apply t_cmp
        | apply t_chn
        | apply t_and
        | apply t_or
        | apply t_not
        | apply t_var
        | apply t_u1
        | apply t_call
        | apply t_ix
        | apply a_cons
        | apply x_tup
        | apply x_lst
        | apply x_lstF
        | apply x_call
        | apply x_sl
        | apply o_some
        | apply x_rev
        | apply i_seq
        | apply i_rng1
        | apply i_rng2
        | apply i_enumI
        | apply i_enum
        | apply i_zip
        | apply s_ife
        | apply s_rt
        | apply s_asg
        | apply s_par
        | apply s_sto
        | apply s_aug
        | apply s_augN
        | apply s_ex
        | exact u_sumT
        | exact u_sumL
        | exact u_allL
        | exact u_anyL
        | exact u_allM
        | exact u_anyM
        | exact u_sumM
        | exact OpV.mk rfl
        | exact CmV.mk rfl
        | exact IxV.mk rfl
        | exact U1V.mk rfl
        | apply ix_lst'
        | omega
        | (have sz := sizeLine_eq; omega)
        | (simp only [List.length_map, List.length_cons, List.length_nil]; have sz := sizeLine_eq; omega)
        | (simp only [mulOk, Bool.or_eq_true, Bool.and_eq_true, decide_eq_true_eq]; omega)
        | refine fun (_ : (_ : Bool) = true) => ?_
        | refine fun (_ : (_ : Bool) = false) => ?_
        | refine ⟨_, rfl, ?_, rfl⟩
        | rfl
        | (simp [isFz, isFzA, isFzA_ints, isFzA_frz, isFz_frz]; done)
        | intro i hi)
  · rfl
theorem worth (k : Nat) (s o lot : Lt) (hs : ∀ x ∈ s, R4 x) (ho : ∀ x ∈ o, R4 x) (hl : ∀ i ∈ lot, 0 ≤ i ∧ i < (s.length : Int)) (h8 : lot.length ≤ 8) : Rn 42 (run L (k + 4)) [itT s, itT o, itT lot] (fr (H s o lot)) [] := by
  constructor
  rw [r42]
  have c1 : ∀ a b, R4 a → R4 b → Rn 37 (prL L (run L (k + 3))).fn [.int a, .int b] (fr (E a b)) [] := fun a b ha hb => expL k a b ha.rt hb.rt
  have c2 : ∀ m n, Sm m n → Rn 36 (prL L (run L (k + 3))).fn [fr m, fr n] (fr (m + n)) [] := fun m n h => plusL (k + 1) m n h
  generalize prL L (run L (k + 3)) = P at *
  have loop := for_all (P := P) (g := .tp (.cons (.nm 4) (.cons (.nm 5) .nil))) (l := .cons (.asg (.nm 3) (.call 36 (.cons (.var 3) (.cons (.call 37 (.cons (.ix (.var 0) (.var 4)) (.cons (.var 5) .nil))) .nil)))) .nil)
    (fun i ρ => ∃ a b, ρ = [some (itT s), some (itT o), some (itT lot), some (fr (((hopes s o lot).take i).sum)), a, b]) ((lot.zip o).map fun p => D.tup [.int p.1, .int p.2])
    (ρ := [some (itT s), some (itT o), some (itT lot), some (fr 0), none, none]) ⟨_, _, rfl⟩ (fun i d ρ hd hi => ?_)
  · obtain ⟨ρ', w, a, b, rfl⟩ := loop
    rw [List.length_map, show (hopes s o lot).take (lot.zip o).length = hopes s o lot from List.take_of_length_le (by unfold hopes; rw [List.length_map]; exact Nat.le_refl _), fr0] at w
    apply Eq.trans
    · apply f_ev
      · rfl
      · unfold f42
        repeat' (first
          | apply s_for
          | apply i_zipI
          | exact w
          | exact x_con
          | exact a_nil
          | exact s_nil
          | exact o_none
          | exact x_fnv
          | exact x_glb rfl
          | exact s_dead
          | exact x_var rfl rfl
          | (refine x_var rfl ?_; simp [isFz, isFzA, isFzA_ints, isFzA_frz, isFz_frz]; done)
          | exact x_brw rfl rfl
          | exact op_add'
          | exact op_sub'
          | exact int_eq'
          | exact int_ne'
          | exact ne_two
          | exact eq_two
          | exact eq_itT'
          | exact ne_itT'
          | exact eq_itL'
          | exact ne_itL'
          | apply op_mul'
          | apply op_div'
          | apply op_mod'
          | apply x_op
          | apply x_cmp
          | apply x_ix
          | apply x_u1
          | apply x_chn
          | apply x_and
          | apply x_or
          | apply x_not
          | apply x_ife
          | apply t_cmp
          | apply t_chn
          | apply t_and
          | apply t_or
          | apply t_not
          | apply t_var
          | apply t_u1
          | apply t_call
          | apply t_ix
          | apply a_cons
          | apply x_tup
          | apply x_lst
          | apply x_lstF
          | apply x_call
          | apply x_sl
          | apply o_some
          | apply x_rev
          | apply i_seq
          | apply i_rng1
          | apply i_rng2
          | apply i_enumI
          | apply i_enum
          | apply i_zip
          | apply s_ife
          | apply s_rt
          | apply s_asg
          | apply s_par
          | apply s_sto
          | apply s_aug
          | apply s_augN
          | apply s_ex
          | exact u_sumT
          | exact u_sumL
          | exact u_allL
          | exact u_anyL
          | exact u_allM
          | exact u_anyM
          | exact u_sumM
          | exact OpV.mk rfl
          | exact CmV.mk rfl
          | exact IxV.mk rfl
          | exact U1V.mk rfl
          | apply ix_lst'
          | omega
          | (have sz := sizeLine_eq; omega)
          | (simp only [List.length_map, List.length_cons, List.length_nil]; have sz := sizeLine_eq; omega)
          | (simp only [mulOk, Bool.or_eq_true, Bool.and_eq_true, decide_eq_true_eq]; omega)
          | refine fun (_ : (_ : Bool) = true) => ?_
          | refine fun (_ : (_ : Bool) = false) => ?_
          | refine ⟨_, rfl, ?_, rfl⟩
          | rfl
          | (simp [isFz, isFzA, isFzA_ints, isFzA_frz, isFz_frz]; done)
          | intro i hi)
    · rfl
  · obtain ⟨a, b, rfl⟩ := hi
    obtain ⟨p, hp, rfl⟩ : ∃ p, (lot.zip o)[i]? = some p ∧ D.tup [.int p.1, .int p.2] = d := by
      rw [List.getElem?_map] at hd
      obtain ⟨p, e1, e2⟩ := Option.map_eq_some_iff.mp hd
      exact ⟨p, e1, e2⟩
    have mp := List.mem_of_getElem? hp
    have m1 := hl p.1 (List.of_mem_zip (show (p.1, p.2) ∈ _ from mp)).1
    have m2 := ho p.2 (List.of_mem_zip (show (p.1, p.2) ∈ _ from mp)).2
    have hh : (hopes s o lot)[i]? = some (E (s.getD p.1.toNat 0) p.2) := by unfold hopes; rw [List.getElem?_map, hp]; rfl
    have tk : ((hopes s o lot).take (i + 1)).sum = ((hopes s o lot).take i).sum + E (s.getD p.1.toNat 0) p.2 := by rw [List.take_add_one, hh]; simp
    have b1 := bd_sum (bd_take (hopes_bd s o lot) i)
    have b2 := E_le (s.getD p.1.toNat 0) p.2
    have li : ((hopes s o lot).take i).length ≤ 8 := by unfold hopes; rw [List.length_take, List.length_map, List.length_zip]; omega
    have d1 := c1 _ _ (getD_R4 hs m1.1 m1.2) m2
    have d2 := c2 ((hopes s o lot).take i).sum (E (s.getD p.1.toNat 0) p.2) (by unfold Sm; omega)
    rw [← tk] at d2
    exact ⟨_, _, rfl, .inl (s_asg (x_call (a_cons (x_var rfl rfl) rfl (a_cons (x_call (a_cons (x_ix (x_var rfl rfl) (x_var rfl rfl) rfl rfl (nthS m1.1 m1.2)) rfl (a_cons (x_var rfl rfl) rfl a_nil)) d1) rfl a_nil)) d2) rfl rfl s_nil), _, _, rfl⟩
end K77
namespace K77
open PySem L2 DV
abbrev Bst := Option (Int × Lt)
def bestF (s o : Lt) (acc : Bst) (lot : Lt) : Bst := match acc with
  | none => some (H s o lot, lot)
  | some (v, l) => if v < H s o lot then some (H s o lot, lot) else some (v, l)
def bst (s o : Lt) (L : List Lt) : Bst := L.foldl (bestF s o) none
def Ok (s o : Lt) (L : List Lt) (b : Bst) : Prop := ∀ v l, b = some (v, l) → l ∈ L ∧ v = H s o l ∧ ∀ x ∈ L, H s o x ≤ v
theorem bst_snoc (s o : Lt) (L : List Lt) (l : Lt) : bst s o (L ++ [l]) = bestF s o (bst s o L) l := by simp [bst]
theorem bst_ok (s o : Lt) : ∀ (n : Nat) (L : List Lt), L.length = n → Ok s o L (bst s o L) ∧ (L ≠ [] → ∃ v l, bst s o L = some (v, l))
  | 0, L, h => by
    have : L = [] := List.length_eq_zero_iff.mp h
    subst this
    exact ⟨fun v l z => by simp [bst] at z, fun z => absurd rfl z⟩
  | n + 1, L, h => by
    have ne : L ≠ [] := fun z => by rw [z] at h; cases h
    obtain ⟨M, x, rfl⟩ : ∃ a x, L = a ++ [x] := ⟨L.dropLast, L.getLast ne, (List.dropLast_concat_getLast ne).symm⟩
    obtain ⟨h1, h2⟩ := bst_ok s o n M (by simpa using h)
    rw [bst_snoc]
    cases e : bst s o M with
    | none =>
      have me : M = [] := by
        by_cases z : M = []
        · exact z
        · obtain ⟨_, _, w⟩ := h2 z
          rw [e] at w
          cases w
      subst me
      exact ⟨fun v l z => by cases z; exact ⟨by simp, rfl, fun y hy => by simp at hy; subst hy; exact Int.le_refl _⟩, fun _ => ⟨_, _, rfl⟩⟩
    | some p =>
      obtain ⟨v, l⟩ := p
      obtain ⟨k1, k2, k3⟩ := h1 v l e
      unfold bestF
      by_cases z : v < H s o x
      · simp only [z, if_true]
        refine ⟨fun v' l' q => ?_, fun _ => ⟨_, _, rfl⟩⟩
        cases q
        refine ⟨by simp, rfl, fun y hy => ?_⟩
        rcases List.mem_append.mp hy with q | q
        · have := k3 y q; omega
        · rw [List.mem_singleton.mp q]; exact Int.le_refl _
      · simp only [z, if_false]
        refine ⟨fun v' l' q => ?_, fun _ => ⟨_, _, rfl⟩⟩
        cases q
        refine ⟨by simp [k1], k2, fun y hy => ?_⟩
        rcases List.mem_append.mp hy with q | q
        · exact k3 y q
        · rw [List.mem_singleton.mp q]; omega
def bD1 : Bst → D
  | none => .non
  | some (v, l) => .tup [fr v, itT l]
theorem bst_take (s o : Lt) (L : List Lt) {i : Nat} {l : Lt} (h : L[i]? = some l) : bst s o (L.take (i + 1)) = bestF s o (bst s o (L.take i)) l := by
  rw [List.take_add_one, h, Option.toList_some, bst_snoc]
theorem bst_H {s o : Lt} {L : List Lt} {v : Int} {l : Lt} (h : bst s o L = some (v, l)) : v = H s o l ∧ l ∈ L := by
  obtain ⟨h1, _⟩ := bst_ok s o _ L rfl
  exact ⟨(h1 v l h).2.1, (h1 v l h).1⟩
theorem lots_idx {n k : Nat} {l : Lt} (h : l ∈ lots n k) : (∀ i ∈ l, 0 ≤ i ∧ i < (n : Int)) ∧ l.length = k := by
  obtain ⟨h1, h2⟩ := mem_lots.mp h
  exact ⟨h2.2, h1⟩
theorem best (k : Nat) (s o : Lt) (hs : St s) (ho : St o) (hl : o.length ≤ s.length) {v : Int} {l : Lt} (hb : bst s o (lots s.length o.length) = some (v, l)) : Rn 24 (run L (k + 7)) [itT s, itT o] (itT l) [] := by
  constructor
  have c1 := chkS (k + 1) s hs
  have c2 := chkS (k + 1) o ho
  obtain ⟨s1, s2, s3, s4⟩ := hs
  obtain ⟨o1, o2, o3, o4⟩ := ho
  have c3 := lotsR (k + 5) s.length o.length (by omega) o2 o3
  have c4 : ∀ lot ∈ lots s.length o.length, Rn 23 (run L (k + 6)) [itT s, itT o, itT lot] (fr (H s o lot)) [] := fun lot m => hope (k + 1) s o lot s1 o1 (lots_idx m).1 (by rw [(lots_idx m).2]; exact o3)
  have c5 : ∀ a b, Sm a b → Rn 8 (run L (k + 6)) [fr a, fr b] (.bl (decide (a < b))) [] := fun a b h => below (k + 5) a b h
  have hlen : ∀ lot ∈ lots s.length o.length, 0 ≤ H s o lot ∧ H s o lot ≤ 6400 := fun lot m => H_le s o lot (by rw [(lots_idx m).2]; exact o3)
  have e1 : decide ((((s.map D.int).length : Nat) : Int) < (((o.map D.int).length : Nat) : Int)) = false := by
    rw [List.length_map, List.length_map]
    (exact decide_eq_false (by omega))
  rw [r24]
  have c1 : Rn 20 (prL L (run L (k + 6))).fn [itT s] .non [] := c1
  have c2 : Rn 20 (prL L (run L (k + 6))).fn [itT o] .non [] := c2
  have c3 : Rn 21 (prL L (run L (k + 6))).fn [.int (((s.map D.int).length : Nat) : Int), .int (((o.map D.int).length : Nat) : Int)] (.lst false ((lots s.length o.length).map itT)) [] := by rw [List.length_map, List.length_map]; exact c3
  have c4 : ∀ lot ∈ lots s.length o.length, Rn 23 (prL L (run L (k + 6))).fn [itT s, itT o, itT lot] (fr (H s o lot)) [] := c4
  have c5 : ∀ a b, Sm a b → Rn 8 (prL L (run L (k + 6))).fn [fr a, fr b] (.bl (decide (a < b))) [] := c5
  generalize prL L (run L (k + 6)) = P at *
  have loop := for_all (P := P) (g := .nm 3) (l := .cons (.asg (.nm 4) (.call 23 (.cons (.var 0) (.cons (.var 1) (.cons (.var 3) .nil))))) (.cons (.ife (.or (.cmp .Is (.var 2) (.con .non)) (.call 8 (.cons (.ix (.var 2) (.con (.int 0))) (.cons (.var 4) .nil)))) (.cons (.asg (.nm 2) (.tup (.cons (.var 4) (.cons (.var 3) .nil)))) .nil) .nil) .nil))
    (fun i ρ => ∃ a b, ρ = [some (itT s), some (itT o), some (bD1 (bst s o ((lots s.length o.length).take i))), a, b]) ((lots s.length o.length).map itT)
    (ρ := [some (itT s), some (itT o), some .non, none, none]) ⟨_, _, rfl⟩ (fun i d ρ hd hi => ?_)
  · obtain ⟨ρ', w, a, b, rfl⟩ := loop
    rw [List.length_map, List.take_length, hb] at w
    have e1' : decide (((s.length : Nat) : Int) < ((o.length : Nat) : Int)) = false := decide_eq_false (by omega)
    apply Eq.trans
    · apply f_ev
      · rfl
      · unfold f24
        repeat' (first
          | exact c1
          | exact c2
          | exact c3
          | exact e1
          | apply s_ifF'
          | apply s_for
          | (rw [frzA_tups]; exact w)
          | exact x_con
          | exact a_nil
          | exact s_nil
          | exact o_none
          | exact x_fnv
          | exact x_glb rfl
          | exact s_dead
          | exact x_var rfl rfl
          | (refine x_var rfl ?_; simp [isFz, isFzA, isFzA_ints, isFzA_frz, isFz_frz]; done)
          | exact x_brw rfl rfl
          | exact op_add'
          | exact op_sub'
          | exact int_eq'
          | exact int_ne'
          | exact ne_two
          | exact eq_two
          | exact eq_itT'
          | exact ne_itT'
          | exact eq_itL'
          | exact ne_itL'
          | apply op_mul'
          | apply op_div'
          | apply op_mod'
          | apply x_op
          | apply x_cmp
          | apply x_ix
          | apply x_u1
          | apply x_chn
          | apply x_and
          | apply x_or
          | apply x_not
          | apply x_ife
          | apply t_cmp
          | apply t_chn
          | apply t_and
          | apply t_or
          | apply t_not
          | apply t_var
          | apply t_u1
          | apply t_call
          | apply t_ix
          | apply a_cons
          | apply x_tup
          | apply x_lst
          | apply x_lstF
          | apply x_call
          | apply x_sl
          | apply o_some
          | apply x_rev
          | apply i_seq
          | apply i_rng1
          | apply i_rng2
          | apply i_enumI
          | apply i_enum
          | apply i_zip
          | apply s_ife
          | apply s_rt
          | apply s_asg
          | apply s_par
          | apply s_sto
          | apply s_aug
          | apply s_augN
          | apply s_ex
          | exact u_sumT
          | exact u_sumL
          | exact u_allL
          | exact u_anyL
          | exact u_allM
          | exact u_anyM
          | exact u_sumM
          | exact OpV.mk rfl
          | exact CmV.mk rfl
          | exact IxV.mk rfl
          | exact U1V.mk rfl
          | apply ix_lst'
          | omega
          | (have sz := sizeLine_eq; omega)
          | (simp only [List.length_map, List.length_cons, List.length_nil]; have sz := sizeLine_eq; omega)
          | (simp only [mulOk, Bool.or_eq_true, Bool.and_eq_true, decide_eq_true_eq]; omega)
          | refine fun (_ : (_ : Bool) = true) => ?_
          | refine fun (_ : (_ : Bool) = false) => ?_
          | refine ⟨_, rfl, ?_, rfl⟩
          | rfl
          | (simp [isFz, isFzA, isFzA_ints, isFzA_frz, isFz_frz]; done)
          | intro i hi)
    · rfl
  · obtain ⟨a, b, rfl⟩ := hi
    obtain ⟨lot, hlt, rfl⟩ : ∃ l, (lots s.length o.length)[i]? = some l ∧ itT l = d := by simpa [List.getElem?_map] using hd
    have m := List.mem_of_getElem? hlt
    have h1 := hlen lot m
    rw [bst_take s o _ hlt]
    cases e : bst s o ((lots s.length o.length).take i) with
    | none =>
      have body : ∃ ρ2, Sxl P (.cons (.asg (.nm 4) (.call 23 (.cons (.var 0) (.cons (.var 1) (.cons (.var 3) .nil))))) (.cons (.ife (.or (.cmp .Is (.var 2) (.con .non)) (.call 8 (.cons (.ix (.var 2) (.con (.int 0))) (.cons (.var 4) .nil)))) (.cons (.asg (.nm 2) (.tup (.cons (.var 4) (.cons (.var 3) .nil)))) .nil) .nil) .nil)) [some (itT s), some (itT o), some .non, some (itT lot), b] (.nx ρ2) ∧ ρ2 = [some (itT s), some (itT o), some (.tup [fr (H s o lot), itT lot]), some (itT lot), some (fr (H s o lot))] := by
        apply Exists.intro
        apply And.intro
        · repeat' (first
            | exact c4 lot m
            | apply s_ifT'
            | apply t_orT
            | exact x_con
            | exact a_nil
            | exact s_nil
            | exact o_none
            | exact x_fnv
            | exact x_glb rfl
            | exact s_dead
            | exact x_var rfl rfl
            | (refine x_var rfl ?_; simp [isFz, isFzA, isFzA_ints, isFzA_frz, isFz_frz]; done)
            | exact x_brw rfl rfl
            | exact op_add'
            | exact op_sub'
            | exact int_eq'
            | exact int_ne'
            | exact ne_two
            | exact eq_two
            | exact eq_itT'
            | exact ne_itT'
            | exact eq_itL'
            | exact ne_itL'
            | apply op_mul'
            | apply op_div'
            | apply op_mod'
            | apply x_op
            | apply x_cmp
            | apply x_ix
            | apply x_u1
            | apply x_chn
            | apply x_and
            | apply x_or
            | apply x_not
            | apply x_ife
            | apply t_cmp
            | apply t_chn
            | apply t_and
            | apply t_or
            | apply t_not
            | apply t_var
            | apply t_u1
            | apply t_call
            | apply t_ix
            | apply a_cons
            | apply x_tup
            | apply x_lst
            | apply x_lstF
            | apply x_call
            | apply x_sl
            | apply o_some
            | apply x_rev
            | apply i_seq
            | apply i_rng1
            | apply i_rng2
            | apply i_enumI
            | apply i_enum
            | apply i_zip
            | apply s_ife
            | apply s_rt
            | apply s_asg
            | apply s_par
            | apply s_sto
            | apply s_aug
            | apply s_augN
            | apply s_ex
            | exact u_sumT
            | exact u_sumL
            | exact u_allL
            | exact u_anyL
            | exact u_allM
            | exact u_anyM
            | exact u_sumM
            | exact OpV.mk rfl
            | exact CmV.mk rfl
            | exact IxV.mk rfl
            | exact U1V.mk rfl
            | apply ix_lst'
            | omega
            | (have sz := sizeLine_eq; omega)
            | (simp only [List.length_map, List.length_cons, List.length_nil]; have sz := sizeLine_eq; omega)
            | (simp only [mulOk, Bool.or_eq_true, Bool.and_eq_true, decide_eq_true_eq]; omega)
            | refine fun (_ : (_ : Bool) = true) => ?_
            | refine fun (_ : (_ : Bool) = false) => ?_
            | refine ⟨_, rfl, ?_, rfl⟩
            | rfl
            | (simp [isFz, isFzA, isFzA_ints, isFzA_frz, isFz_frz]; done)
            | intro i hi)
        · rfl
      obtain ⟨ρ2, b1, rfl⟩ := body
      exact ⟨_, _, rfl, .inl b1, _, _, rfl⟩
    | some p =>
      obtain ⟨v', l'⟩ := p
      have k1 := bst_H e
      have h2 := hlen l' (List.mem_of_mem_take k1.2)
      rw [← k1.1] at h2
      have c5 := c5 v' (H s o lot) (by unfold Sm; omega)
      unfold bestF
      by_cases z : v' < H s o lot
      · rw [decide_eq_true z] at c5
        have body : ∃ ρ2, Sxl P (.cons (.asg (.nm 4) (.call 23 (.cons (.var 0) (.cons (.var 1) (.cons (.var 3) .nil))))) (.cons (.ife (.or (.cmp .Is (.var 2) (.con .non)) (.call 8 (.cons (.ix (.var 2) (.con (.int 0))) (.cons (.var 4) .nil)))) (.cons (.asg (.nm 2) (.tup (.cons (.var 4) (.cons (.var 3) .nil)))) .nil) .nil) .nil)) [some (itT s), some (itT o), some (.tup [fr v', itT l']), some (itT lot), b] (.nx ρ2) ∧ ρ2 = [some (itT s), some (itT o), some (.tup [fr (H s o lot), itT lot]), some (itT lot), some (fr (H s o lot))] := by
          apply Exists.intro
          apply And.intro
          · repeat' (first
              | exact c4 lot m
              | exact c5
              | apply s_ifT'
              | apply t_orF
              | exact x_con
              | exact a_nil
              | exact s_nil
              | exact o_none
              | exact x_fnv
              | exact x_glb rfl
              | exact s_dead
              | exact x_var rfl rfl
              | (refine x_var rfl ?_; simp [isFz, isFzA, isFzA_ints, isFzA_frz, isFz_frz]; done)
              | exact x_brw rfl rfl
              | exact op_add'
              | exact op_sub'
              | exact int_eq'
              | exact int_ne'
              | exact ne_two
              | exact eq_two
              | exact eq_itT'
              | exact ne_itT'
              | exact eq_itL'
              | exact ne_itL'
              | apply op_mul'
              | apply op_div'
              | apply op_mod'
              | apply x_op
              | apply x_cmp
              | apply x_ix
              | apply x_u1
              | apply x_chn
              | apply x_and
              | apply x_or
              | apply x_not
              | apply x_ife
              | apply t_cmp
              | apply t_chn
              | apply t_and
              | apply t_or
              | apply t_not
              | apply t_var
              | apply t_u1
              | apply t_call
              | apply t_ix
              | apply a_cons
              | apply x_tup
              | apply x_lst
              | apply x_lstF
              | apply x_call
              | apply x_sl
              | apply o_some
              | apply x_rev
              | apply i_seq
              | apply i_rng1
              | apply i_rng2
              | apply i_enumI
              | apply i_enum
              | apply i_zip
              | apply s_ife
              | apply s_rt
              | apply s_asg
              | apply s_par
              | apply s_sto
              | apply s_aug
              | apply s_augN
              | apply s_ex
              | exact u_sumT
              | exact u_sumL
              | exact u_allL
              | exact u_anyL
              | exact u_allM
              | exact u_anyM
              | exact u_sumM
              | exact OpV.mk rfl
              | exact CmV.mk rfl
              | exact IxV.mk rfl
              | exact U1V.mk rfl
              | apply ix_lst'
              | omega
              | (have sz := sizeLine_eq; omega)
              | (simp only [List.length_map, List.length_cons, List.length_nil]; have sz := sizeLine_eq; omega)
              | (simp only [mulOk, Bool.or_eq_true, Bool.and_eq_true, decide_eq_true_eq]; omega)
              | refine fun (_ : (_ : Bool) = true) => ?_
              | refine fun (_ : (_ : Bool) = false) => ?_
              | refine ⟨_, rfl, ?_, rfl⟩
              | rfl
              | (simp [isFz, isFzA, isFzA_ints, isFzA_frz, isFz_frz]; done)
              | intro i hi)
          · rfl
        obtain ⟨ρ2, b1, rfl⟩ := body
        simp only [z, if_true]
        exact ⟨_, _, rfl, .inl b1, _, _, rfl⟩
      · rw [decide_eq_false z] at c5
        have body : ∃ ρ2, Sxl P (.cons (.asg (.nm 4) (.call 23 (.cons (.var 0) (.cons (.var 1) (.cons (.var 3) .nil))))) (.cons (.ife (.or (.cmp .Is (.var 2) (.con .non)) (.call 8 (.cons (.ix (.var 2) (.con (.int 0))) (.cons (.var 4) .nil)))) (.cons (.asg (.nm 2) (.tup (.cons (.var 4) (.cons (.var 3) .nil)))) .nil) .nil) .nil)) [some (itT s), some (itT o), some (.tup [fr v', itT l']), some (itT lot), b] (.nx ρ2) ∧ ρ2 = [some (itT s), some (itT o), some (.tup [fr v', itT l']), some (itT lot), some (fr (H s o lot))] := by
          apply Exists.intro
          apply And.intro
          · repeat' (first
              | exact c4 lot m
              | exact c5
              | apply s_ifF'
              | apply t_orF
              | exact x_con
              | exact a_nil
              | exact s_nil
              | exact o_none
              | exact x_fnv
              | exact x_glb rfl
              | exact s_dead
              | exact x_var rfl rfl
              | (refine x_var rfl ?_; simp [isFz, isFzA, isFzA_ints, isFzA_frz, isFz_frz]; done)
              | exact x_brw rfl rfl
              | exact op_add'
              | exact op_sub'
              | exact int_eq'
              | exact int_ne'
              | exact ne_two
              | exact eq_two
              | exact eq_itT'
              | exact ne_itT'
              | exact eq_itL'
              | exact ne_itL'
              | apply op_mul'
              | apply op_div'
              | apply op_mod'
              | apply x_op
              | apply x_cmp
              | apply x_ix
              | apply x_u1
              | apply x_chn
              | apply x_and
              | apply x_or
              | apply x_not
              | apply x_ife
              | apply t_cmp
              | apply t_chn
              | apply t_and
              | apply t_or
              | apply t_not
              | apply t_var
              | apply t_u1
              | apply t_call
              | apply t_ix
              | apply a_cons
              | apply x_tup
              | apply x_lst
              | apply x_lstF
              | apply x_call
              | apply x_sl
              | apply o_some
              | apply x_rev
              | apply i_seq
              | apply i_rng1
              | apply i_rng2
              | apply i_enumI
              | apply i_enum
              | apply i_zip
              | apply s_ife
              | apply s_rt
              | apply s_asg
              | apply s_par
              | apply s_sto
              | apply s_aug
              | apply s_augN
              | apply s_ex
              | exact u_sumT
              | exact u_sumL
              | exact u_allL
              | exact u_anyL
              | exact u_allM
              | exact u_anyM
              | exact u_sumM
              | exact OpV.mk rfl
              | exact CmV.mk rfl
              | exact IxV.mk rfl
              | exact U1V.mk rfl
              | apply ix_lst'
              | omega
              | (have sz := sizeLine_eq; omega)
              | (simp only [List.length_map, List.length_cons, List.length_nil]; have sz := sizeLine_eq; omega)
              | (simp only [mulOk, Bool.or_eq_true, Bool.and_eq_true, decide_eq_true_eq]; omega)
              | refine fun (_ : (_ : Bool) = true) => ?_
              | refine fun (_ : (_ : Bool) = false) => ?_
              | refine ⟨_, rfl, ?_, rfl⟩
              | rfl
              | (simp [isFz, isFzA, isFzA_ints, isFzA_frz, isFz_frz]; done)
              | intro i hi)
          · rfl
        obtain ⟨ρ2, b1, rfl⟩ := body
        simp only [z, if_false]
        exact ⟨_, _, rfl, .inl b1, _, _, rfl⟩
end K77
namespace K77
open PySem L2 DV
theorem cat_tups (o : Bool) (l m : List Lt) (h : l.length + m.length ≤ 1000) : OpV .Add (.lst o (l.map itT)) (.lst true (m.map itT)) (.lst true ((l ++ m).map itT)) := ⟨by
  have sz := sizeLine_eq
  have e : gCatL (.lst o (l.map itT)) (.lst true (m.map itT)) = some (.lst true ((l ++ m).map itT)) := by
    show (listD (.lst o (l.map itT))).bind (fun a => (listD (.lst true (m.map itT))).bind fun b => if a.length + b.length ≤ sizeLine then some (D.lst true (a ++ b)) else none) = _
    rw [listD_tups, listD_tups, Option.bind_some, Option.bind_some, if_pos (by rw [List.length_map, List.length_map]; omega), List.map_append]
  show (gCatS (.lst o (l.map itT)) (.lst true (m.map itT))).or ((gCatL (.lst o (l.map itT)) (.lst true (m.map itT))).or (gCatT (.lst o (l.map itT)) (.lst true (m.map itT)))) = _
  rw [e]
  rfl⟩
theorem subs_small (n : Nat) (h : n ≤ 8) : (subsL n).length ≤ 256 := by
  rw [subs_len]
  exact Nat.pow_le_pow_right (by decide) h
theorem sbt2 (L : List Lt) (a b c : Option D) : settle [a, b, some (.lst true (L.map itT)), c, none] (.brw 2) = some (.lst false (L.map itT), [a, b, some (.lst false (L.map itT)), c, none]) := by
  show some (D.lst false (frzA (L.map itT)), [a, b, some (D.lst false (frzA (L.map itT))), c, none]) = _
  rw [frzA_tups]
theorem lotsL (k : Nat) (n m : Nat) (hn : n ≤ 8) (hm : 1 ≤ m) : Rn 39 (run L (k + 1)) [.int n, .int m] (.lst true ((lots n m).map itT)) [] := by
  constructor
  rw [r39]
  generalize prL L (run L k) = P
  have asc_l : ∀ (i : Nat), i ≤ n → ∀ l ∈ subsL i, l.length ≤ 8 := fun i hi l hl => by
    have := asc_len (mem_subs.mp hl) (by omega)
    omega
  have loop := for_all (P := P) (g := .nm 3) (l := .cons (.asg (.nm 2) (.op .Add (.var 2) (.comp [4] (.seq (.var 2)) (.nm 4) (.op .Add (.var 4) (.tup (.cons (.var 3) .nil)))))) .nil)
    (fun i ρ => ∃ a, ρ = [some (.int n), some (.int m), some (.lst true ((subsL i).map itT)), a, none]) ((List.range n).map fun (i : Nat) => D.int (i : Int))
    (ρ := [some (.int n), some (.int m), some (.lst true [.tup []]), none, none]) ⟨_, rfl⟩ (fun i d ρ hd hi => ?_)
  · obtain ⟨ρ', w, a, rfl⟩ := loop
    rw [List.length_map, List.length_range] at w
    have rg : Ivl P (.rng1 (.var 0)) [some (.int n), some (.int m), some (.lst true [.tup []]), none, none] ((List.range n).map fun (i : Nat) => D.int (i : Int)) [some (.int n), some (.int m), some (.lst true [.tup []]), none, none] := by
      have := i_rng1 (P := P) (a := .var 0) (ρ := [some (.int n), some (.int m), some (.lst true [.tup []]), none, none]) (x_var rfl rfl) (k := (n : Int)) rfl (by simp [smallI]; omega)
      rw [rng_map] at this
      exact this
    have pe : (fun l : Lt => decide ((((l.map D.int).length : Nat) : Int) = (m : Int))) = fun l => decide ((l.length : Int) = (m : Int)) := funext fun l => by rw [List.length_map]
    have st : U1V .sorted (.lst true (((subsL n).filter fun l => decide ((((l.map D.int).length : Nat) : Int) = (m : Int))).map itT)) (.lst true ((lots n m).map itT)) := by
      rw [pe, ← subs_sorted n m]
      refine u_sortT fun r hr z => ?_
      have := (List.mem_filter.mp hr).2
      subst z
      simp at this
      omega
    have ln : (subsL n).length ≤ sizeLine := by
      have sz := sizeLine_eq
      have := subs_small n hn
      omega
    have sq : Ivl P (.seq (.var 2)) [some (.int n), some (.int m), some (.lst true ((subsL n).map itT)), a, none] ((subsL n).map itT) [some (.int n), some (.int m), some (.lst false ((subsL n).map itT)), a, none] := i_seq (x_brw rfl rfl) (sbt2 _ _ _ _) rfl
    apply Eq.trans
    · apply f_ev
      · rfl
      · unfold f39
        repeat' (first
          | apply s_for
          | exact rg
          | exact w
          | exact st
          | exact sq
          | exact ln
          | apply x_compIfM (vs := [4]) (subsL n) itT itT (fun l => decide ((((l.map D.int).length : Nat) : Int) = (m : Int)))
          | refine ⟨_, rfl, ?_, ?_, rfl⟩
          | exact x_con
          | exact a_nil
          | exact s_nil
          | exact o_none
          | exact x_fnv
          | exact x_glb rfl
          | exact s_dead
          | exact x_var rfl rfl
          | (refine x_var rfl ?_; simp [isFz, isFzA, isFzA_ints, isFzA_frz, isFz_frz]; done)
          | exact x_brw rfl rfl
          | exact op_add'
          | exact op_sub'
          | exact int_eq'
          | exact int_ne'
          | exact ne_two
          | exact eq_two
          | exact eq_itT'
          | exact ne_itT'
          | exact eq_itL'
          | exact ne_itL'
          | apply op_mul'
          | apply op_div'
          | apply op_mod'
          | apply x_op
          | apply x_cmp
          | apply x_ix
          | apply x_u1
          | apply x_chn
          | apply x_and
          | apply x_or
          | apply x_not
          | apply x_ife
          | apply t_cmp
          | apply t_chn
          | apply t_and
          | apply t_or
          | apply t_not
          | apply t_var
          | apply t_u1
          | apply t_call
          | apply t_ix
          | apply a_cons
          | apply x_tup
          | apply x_lst
          | apply x_lstF
          | apply x_call
          | apply x_sl
          | apply o_some
          | apply x_rev
          | apply i_seq
          | apply i_rng1
          | apply i_rng2
          | apply i_enumI
          | apply i_enum
          | apply i_zip
          | apply s_ife
          | apply s_rt
          | apply s_asg
          | apply s_par
          | apply s_sto
          | apply s_aug
          | apply s_augN
          | apply s_ex
          | exact u_sumT
          | exact u_sumL
          | exact u_allL
          | exact u_anyL
          | exact u_allM
          | exact u_anyM
          | exact u_sumM
          | exact OpV.mk rfl
          | exact CmV.mk rfl
          | exact IxV.mk rfl
          | exact U1V.mk rfl
          | apply ix_lst'
          | omega
          | (have sz := sizeLine_eq; omega)
          | (simp only [List.length_map, List.length_cons, List.length_nil]; have sz := sizeLine_eq; omega)
          | (simp only [mulOk, Bool.or_eq_true, Bool.and_eq_true, decide_eq_true_eq]; omega)
          | refine fun (_ : (_ : Bool) = true) => ?_
          | refine fun (_ : (_ : Bool) = false) => ?_
          | refine ⟨_, rfl, ?_, rfl⟩
          | rfl
          | (simp [isFz, isFzA, isFzA_ints, isFzA_frz, isFz_frz]; done)
          | intro i hi)
    · rfl
  · obtain ⟨a, rfl⟩ := hi
    obtain ⟨j, hj, rfl⟩ : ∃ j, (List.range n)[i]? = some j ∧ D.int (j : Int) = d := by simpa [List.getElem?_map] using hd
    have hij : j = i ∧ i < n := by
      have := (List.getElem?_eq_some_iff.mp hj)
      obtain ⟨h1, h2⟩ := this
      simp at h1 h2
      exact ⟨h2.symm, h1⟩
    obtain ⟨rfl, hlt⟩ := hij
    have sq : Ivl P (.seq (.var 2)) [some (.int n), some (.int m), some (.lst true ((subsL j).map itT)), some (.int (j : Int)), none] ((subsL j).map itT) [some (.int n), some (.int m), some (.lst false ((subsL j).map itT)), some (.int (j : Int)), none] := i_seq (x_brw rfl rfl) (sbt2 _ _ _ _) rfl
    have l1 := subs_small j (by omega)
    have ad : ∀ l ∈ subsL j, OpV .Add (itT l) (.tup [.int (j : Int)]) (itT (l ++ [(j : Int)])) := fun l hl => add_it l _ (by have := asc_l j (by omega) l hl; omega)
    have ct := cat_tups false (subsL j) ((subsL j).map fun l => l ++ [(j : Int)]) (by rw [List.length_map]; omega)
    rw [List.map_map] at ct
    have ls : (subsL j).length ≤ sizeLine := by have sz := sizeLine_eq; omega
    have body : ∃ ρ2, Sxl P (.cons (.asg (.nm 2) (.op .Add (.var 2) (.comp [4] (.seq (.var 2)) (.nm 4) (.op .Add (.var 4) (.tup (.cons (.var 3) .nil)))))) .nil) [some (.int n), some (.int m), some (.lst true ((subsL j).map itT)), some (.int (j : Int)), none] (.nx ρ2) ∧ ρ2 = [some (.int n), some (.int m), some (.lst true ((subsL (j + 1)).map itT)), some (.int (j : Int)), none] := by
      apply Exists.intro
      apply And.intro
      · repeat' (first
          | exact sq
          | exact ad _ hi
          | exact ct
          | exact ls
          | apply x_compM (vs := [4]) (subsL j) itT (fun l => itT (l ++ [(j : Int)]))
          | exact x_con
          | exact a_nil
          | exact s_nil
          | exact o_none
          | exact x_fnv
          | exact x_glb rfl
          | exact s_dead
          | exact x_var rfl rfl
          | (refine x_var rfl ?_; simp [isFz, isFzA, isFzA_ints, isFzA_frz, isFz_frz]; done)
          | exact x_brw rfl rfl
          | exact op_add'
          | exact op_sub'
          | exact int_eq'
          | exact int_ne'
          | exact ne_two
          | exact eq_two
          | exact eq_itT'
          | exact ne_itT'
          | exact eq_itL'
          | exact ne_itL'
          | apply op_mul'
          | apply op_div'
          | apply op_mod'
          | apply x_op
          | apply x_cmp
          | apply x_ix
          | apply x_u1
          | apply x_chn
          | apply x_and
          | apply x_or
          | apply x_not
          | apply x_ife
          | apply t_cmp
          | apply t_chn
          | apply t_and
          | apply t_or
          | apply t_not
          | apply t_var
          | apply t_u1
          | apply t_call
          | apply t_ix
          | apply a_cons
          | apply x_tup
          | apply x_lst
          | apply x_lstF
          | apply x_call
          | apply x_sl
          | apply o_some
          | apply x_rev
          | apply i_seq
          | apply i_rng1
          | apply i_rng2
          | apply i_enumI
          | apply i_enum
          | apply i_zip
          | apply s_ife
          | apply s_rt
          | apply s_asg
          | apply s_par
          | apply s_sto
          | apply s_aug
          | apply s_augN
          | apply s_ex
          | exact u_sumT
          | exact u_sumL
          | exact u_allL
          | exact u_anyL
          | exact u_allM
          | exact u_anyM
          | exact u_sumM
          | exact OpV.mk rfl
          | exact CmV.mk rfl
          | exact IxV.mk rfl
          | exact U1V.mk rfl
          | apply ix_lst'
          | omega
          | (have sz := sizeLine_eq; omega)
          | (simp only [List.length_map, List.length_cons, List.length_nil]; have sz := sizeLine_eq; omega)
          | (simp only [mulOk, Bool.or_eq_true, Bool.and_eq_true, decide_eq_true_eq]; omega)
          | refine fun (_ : (_ : Bool) = true) => ?_
          | refine fun (_ : (_ : Bool) = false) => ?_
          | refine ⟨_, rfl, ?_, rfl⟩
          | rfl
          | (simp [isFz, isFzA, isFzA_ints, isFzA_frz, isFz_frz]; done)
          | intro i hi)
      · rfl
    obtain ⟨ρ2, b1, rfl⟩ := body
    exact ⟨_, _, rfl, .inl b1, _, rfl⟩
/-! the strengths drawn -/
def addK (m : Lt) (x : Int) : Lt := if x ∈ m then m else m ++ [x]
def yes (m : Lt) : List D := m.map fun _ => .bl true
theorem has1_int (m : Lt) (x : Int) : has1 (m.map D.int) (Sum.inl x) = decide (x ∈ m) := by
  unfold has1
  rw [List.any_map]
  induction m with
  | nil => rfl
  | cons y m ih =>
    rw [List.any_cons, ih]
    show (decide (some (Sum.inl y) = some (Sum.inl x)) || decide (x ∈ m)) = _
    by_cases h : y = x
    · subst h; simp
    · have h2 : ¬ x = y := fun z => h z.symm
      simp [h, h2]
theorem put_int (m : Lt) (x : Int) (h : m.length ≤ 100) : dPut1 (.dct true false (m.map .int) (yes m)) (Sum.inl x) (.bl true) = some (.dct true false ((addK m x).map .int) (yes (addK m x))) := by
  have sz := sizeLine_eq
  have f : isFzA (yes m) = true := by
    unfold yes
    induction m with
    | nil => rfl
    | cons y m ih => simp [isFzA, isFz]; exact ih (by simp at h; omega)
  show (if isFzA (yes m) && decide ((m.map D.int).length < sizeLine) then some (D.dct true false (putK1 (m.map .int) (Sum.inl x)) (putV1 (m.map .int) (yes m) (Sum.inl x) (.bl true))) else none) = _
  rw [f, List.length_map, if_pos (by simp; omega)]
  unfold putK1 putV1 addK
  rw [has1_int]
  by_cases z : x ∈ m
  · simp only [z, decide_true, if_true]
    have : ((m.map D.int).zip (yes m)).map (fun p => if keyD p.1 = some (Sum.inl x) then D.bl true else p.2) = yes m := by
      unfold yes
      clear z f h
      induction m with
      | nil => rfl
      | cons y m ih =>
        (simp only [List.map_cons, List.zip_cons_cons, ih])
        split <;> rfl
    rw [this]
  · simp only [z, decide_false, if_false, Bool.false_eq_true]
    unfold yes
    rw [List.map_append, List.map_append]
    rfl
theorem add_nodup {m : Lt} (h : m.Nodup) (x : Int) : (addK m x).Nodup := by
  unfold addK
  split
  · exact h
  · rename_i z
    rw [List.nodup_append]
    exact ⟨h, by simp, fun a ha b hb e => by simp at hb; subst hb; subst e; exact z ha⟩
theorem sort_gt {m : Lt} (h : m.Nodup) : (sortI m).reverse.Pairwise (· > ·) := by
  rw [List.pairwise_reverse]
  have p : (sortI m).Pairwise (· ≤ ·) := (List.pairwise_mergeSort (le := fun a b : Int => decide (a ≤ b)) (fun a b c x y => decide_eq_true (Int.le_trans (of_decide_eq_true x) (of_decide_eq_true y))) (fun a b => by simp; omega) m).imp fun h => of_decide_eq_true h
  have nd : (sortI m).Nodup := (List.mergeSort_perm m _).nodup_iff.mpr h
  refine (p.and nd).imp fun {a b} h => ?_
  show b > a
  have := h.1
  have := h.2
  omega
theorem strengths (k : Nat) {h : D} (hh : HandOk h) (c : Nat) (h1 : 1 ≤ c) (h8 : c ≤ 8) : ∃ s h', Rn 40 (run L (k + 4)) [h, .int c] (itT s) [h'] ∧ St s ∧ s.length ≤ c ∧ HandOk h' := by
  have loop := for_all (P := prL L (run L (k + 3))) (g := .nm 3) (l := .cons (.dkput 2 (.callH 38 0 .nil) (.con (.bl true))) .nil)
    (fun i ρ => ∃ h m a, HandOk h ∧ ρ = [some h, some (.int c), some (.dct true false (m.map .int) (yes m)), a] ∧ m.Nodup ∧ (∀ x ∈ m, R4 x) ∧ m.length ≤ i ∧ (1 ≤ i → 1 ≤ m.length)) ((List.range c).map fun (i : Nat) => D.int (i : Int))
    (ρ := [some h, some (.int c), some (.dct true false [] []), none]) ⟨h, [], _, hh, rfl, by simp, by simp, by simp, fun z => by omega⟩ (fun i d ρ hd hi => ?_)
  · obtain ⟨ρ', w, g, m, a, k1, rfl, k2, k3, k4, k5⟩ := loop
    rw [List.length_map, List.length_range] at k4 k5
    have sl : (sortI m).length = m.length := by unfold sortI; rw [List.length_mergeSort]
    refine ⟨(sortI m).reverse, g, ?_, ⟨fun x hx => k3 x ((List.mergeSort_perm m _).mem_iff.mp (List.mem_reverse.mp hx)), by rw [List.length_reverse, sl]; exact k5 h1, by rw [List.length_reverse, sl]; omega, sort_gt k2⟩, by rw [List.length_reverse, sl]; exact k4, k1⟩
    have dk : dKeysI (.dct true false (m.map .int) (yes m)) = some m := by
      show (intKs (m.map .int)).bind (fun m => if m.length < 64 then some m else none) = _
      have : ∀ m : Lt, intKs (m.map .int) = some m := fun m => by
        induction m with
        | nil => rfl
        | cons x m ih => simp [intKs, ih]
      rw [this, Option.bind_some, if_pos (by omega)]
    constructor
    rw [r40]
    have rg : Ivl (prL L (run L (k + 3))) (.rng1 (.var 1)) [some h, some (.int c), some (.dct true false [] []), none] ((List.range c).map fun (i : Nat) => D.int (i : Int)) [some h, some (.int c), some (.dct true false [] []), none] := by
      have := i_rng1 (P := prL L (run L (k + 3))) (a := .var 1) (ρ := [some h, some (.int c), some (.dct true false [] []), none]) (x_var rfl rfl) (k := (c : Int)) rfl (by simp [smallI]; omega)
      rw [rng_map] at this
      exact this
    generalize prL L (run L (k + 3)) = P at *
    have rv : gRev (.lst true ((sortI m).map .int)) = some (.lst true ((sortI m).reverse.map .int)) := by
      show (if isFzA ((sortI m).map D.int) then some (D.lst true ((sortI m).map D.int).reverse) else none) = _
      rw [isFzA_ints, if_pos rfl, ← List.map_reverse]
    apply Eq.trans
    · apply f_evH
      · rfl
      · unfold f40
        repeat' (first
          | apply s_for
          | exact rg
          | exact w
          | exact x_dsort rfl dk
          | exact rv
          | exact u_tupL (isFzA_ints _)
          | exact x_dnew
          | exact x_con
          | exact a_nil
          | exact s_nil
          | exact o_none
          | exact x_fnv
          | exact x_glb rfl
          | exact s_dead
          | exact x_var rfl rfl
          | (refine x_var rfl ?_; simp [isFz, isFzA, isFzA_ints, isFzA_frz, isFz_frz]; done)
          | exact x_brw rfl rfl
          | exact op_add'
          | exact op_sub'
          | exact int_eq'
          | exact int_ne'
          | exact ne_two
          | exact eq_two
          | exact eq_itT'
          | exact ne_itT'
          | exact eq_itL'
          | exact ne_itL'
          | apply op_mul'
          | apply op_div'
          | apply op_mod'
          | apply x_op
          | apply x_cmp
          | apply x_ix
          | apply x_u1
          | apply x_chn
          | apply x_and
          | apply x_or
          | apply x_not
          | apply x_ife
          | apply t_cmp
          | apply t_chn
          | apply t_and
          | apply t_or
          | apply t_not
          | apply t_var
          | apply t_u1
          | apply t_call
          | apply t_ix
          | apply a_cons
          | apply x_tup
          | apply x_lst
          | apply x_lstF
          | apply x_call
          | apply x_sl
          | apply o_some
          | apply x_rev
          | apply i_seq
          | apply i_rng1
          | apply i_rng2
          | apply i_enumI
          | apply i_enum
          | apply i_zip
          | apply s_ife
          | apply s_rt
          | apply s_asg
          | apply s_par
          | apply s_sto
          | apply s_aug
          | apply s_augN
          | apply s_ex
          | exact u_sumT
          | exact u_sumL
          | exact u_allL
          | exact u_anyL
          | exact u_allM
          | exact u_anyM
          | exact u_sumM
          | exact OpV.mk rfl
          | exact CmV.mk rfl
          | exact IxV.mk rfl
          | exact U1V.mk rfl
          | apply ix_lst'
          | omega
          | (have sz := sizeLine_eq; omega)
          | (simp only [List.length_map, List.length_cons, List.length_nil]; have sz := sizeLine_eq; omega)
          | (simp only [mulOk, Bool.or_eq_true, Bool.and_eq_true, decide_eq_true_eq]; omega)
          | refine fun (_ : (_ : Bool) = true) => ?_
          | refine fun (_ : (_ : Bool) = false) => ?_
          | refine ⟨_, rfl, ?_, rfl⟩
          | rfl
          | (simp [isFz, isFzA, isFzA_ints, isFzA_frz, isFz_frz]; done)
          | intro i hi)
    · rfl
  · obtain ⟨g, m, a, k1, rfl, k2, k3, k4, k5⟩ := hi
    obtain ⟨j, hj, rfl⟩ : ∃ j, (List.range c)[i]? = some j ∧ D.int (j : Int) = d := by simpa [List.getElem?_map] using hd
    have hlt : i < c := by
      have := (List.getElem?_eq_some_iff.mp hj).1
      simpa using this
    obtain ⟨x, g2, e2, q1, q2⟩ := ratingR k k1
    refine ⟨_, _, rfl, .inl (s_dkput x_con rfl rfl (x_callH rfl a_nil rfl e2) rfl rfl rfl (put_int m x (by omega)) s_nil), g2, addK m x, some (.int (j : Int)), q2, rfl, add_nodup k2 x, fun y hy => ?_, ?_, fun _ => ?_⟩
    · unfold addK at hy
      split at hy
      · exact k3 y hy
      · rcases List.mem_append.mp hy with q | q
        · exact k3 y q
        · rw [List.mem_singleton.mp q]; exact q1
    · unfold addK
      split
      · omega
      · rw [List.length_append]; simp; exact k4
    · unfold addK
      split
      · rename_i z
        exact List.length_pos_of_mem z
      · (rw [List.length_append]; simp)
end K77
namespace K77
open PySem L2 DV
def b6 : Bst → D
  | none => .tup [.int (-1), .int 1]
  | some (v, _) => fr v
def b7 : Bst → D
  | none => .non
  | some (_, l) => itT l
abbrev wB : ISs := .cons (.asg (.nm 9) (.call 42 (.cons (.var 1) (.cons (.var 5) (.cons (.var 8) .nil))))) (.cons (.ife (.cmp .Gt (.op .Mult (.ix (.var 9) (.con (.int 0))) (.ix (.var 6) (.con (.int 1)))) (.op .Mult (.ix (.var 6) (.con (.int 0))) (.ix (.var 9) (.con (.int 1))))) (.cons (.par (.cons (.nm 6) (.cons (.nm 7) .nil)) (.cons (.var 9) (.cons (.var 8) .nil))) .nil) .nil) .nil)
theorem gt_val (v h : Int) : decide (nn v * dd h < nn h * dd v) = decide (v < h) := decide_eq_decide.mpr (below_val v h)
theorem wstep {P : Pr} {s o lot : Lt} {acc : Bst} (c : Rn 42 P.fn [itT s, itT o, itT lot] (fr (H s o lot)) []) (h0 : 0 ≤ H s o lot ∧ H s o lot ≤ 6400) (hv : ∀ v l, acc = some (v, l) → 0 ≤ v ∧ v ≤ 6400) {hd x2 x3 x4 a9 : Option D} :
    ∃ ρ, Sxl P wB [hd, some (itT s), x2, x3, x4, some (itT o), some (b6 acc), some (b7 acc), some (itT lot), a9, none, none] (.nx ρ) ∧ ρ = [hd, some (itT s), x2, x3, x4, some (itT o), some (b6 (bestF s o acc lot)), some (b7 (bestF s o acc lot)), some (itT lot), some (fr (H s o lot)), none, none] := by
  cases acc with
  | none =>
    have p1 := dd_pos (H s o lot)
    have p2 : 0 ≤ nn (H s o lot) := by
      have := (nn_sign (H s o lot)).1
      have : ¬ nn (H s o lot) < 0 := fun z => by have := this.mp z; omega
      omega
    have e : decide (-1 * dd (H s o lot) < nn (H s o lot) * 1) = true := decide_eq_true (by omega)
    have m1 : mulOk (nn (H s o lot)) 1 = true := by simp only [mulOk, Bool.or_eq_true, Bool.and_eq_true, decide_eq_true_eq]; right; decide
    have m2 : mulOk (-1) (dd (H s o lot)) = true := by simp only [mulOk, Bool.or_eq_true, Bool.and_eq_true, decide_eq_true_eq]; left; decide
    apply Exists.intro
    apply And.intro
    · repeat' (first
        | exact c
        | exact m1
        | exact m2
        | exact e
        | apply s_ifT'
        | exact x_con
        | exact a_nil
        | exact s_nil
        | exact o_none
        | exact x_fnv
        | exact x_glb rfl
        | exact s_dead
        | exact x_var rfl rfl
        | (refine x_var rfl ?_; simp [isFz, isFzA, isFzA_ints, isFzA_frz, isFz_frz]; done)
        | exact x_brw rfl rfl
        | exact op_add'
        | exact op_sub'
        | exact int_eq'
        | exact int_ne'
        | exact ne_two
        | exact eq_two
        | exact eq_itT'
        | exact ne_itT'
        | exact eq_itL'
        | exact ne_itL'
        | apply op_mul'
        | apply op_div'
        | apply op_mod'
        | apply x_op
        | apply x_cmp
        | apply x_ix
        | apply x_u1
        | apply x_chn
        | apply x_and
        | apply x_or
        | apply x_not
        | apply x_ife
        | apply t_cmp
        | apply t_chn
        | apply t_and
        | apply t_or
        | apply t_not
        | apply t_var
        | apply t_u1
        | apply t_call
        | apply t_ix
        | apply a_cons
        | apply x_tup
        | apply x_lst
        | apply x_lstF
        | apply x_call
        | apply x_sl
        | apply o_some
        | apply x_rev
        | apply i_seq
        | apply i_rng1
        | apply i_rng2
        | apply i_enumI
        | apply i_enum
        | apply i_zip
        | apply s_ife
        | apply s_rt
        | apply s_asg
        | apply s_par
        | apply s_sto
        | apply s_aug
        | apply s_augN
        | apply s_ex
        | exact u_sumT
        | exact u_sumL
        | exact u_allL
        | exact u_anyL
        | exact u_allM
        | exact u_anyM
        | exact u_sumM
        | exact OpV.mk rfl
        | exact CmV.mk rfl
        | exact IxV.mk rfl
        | exact U1V.mk rfl
        | apply ix_lst'
        | omega
        | (have sz := sizeLine_eq; omega)
        | (simp only [List.length_map, List.length_cons, List.length_nil]; have sz := sizeLine_eq; omega)
        | (simp only [mulOk, Bool.or_eq_true, Bool.and_eq_true, decide_eq_true_eq]; omega)
        | refine fun (_ : (_ : Bool) = true) => ?_
        | refine fun (_ : (_ : Bool) = false) => ?_
        | refine ⟨_, rfl, ?_, rfl⟩
        | rfl
        | (simp [isFz, isFzA, isFzA_ints, isFzA_frz, isFz_frz]; done)
        | intro i hi)
    · rfl
  | some p =>
    obtain ⟨v, l⟩ := p
    have hv := hv v l rfl
    have k1 := mk v (H s o lot) (by unfold Sm; omega)
    have k2 := mk (H s o lot) v (by unfold Sm; omega)
    have g := gt_val v (H s o lot)
    unfold bestF
    by_cases z : v < H s o lot
    · rw [decide_eq_true z] at g
      simp only [z, if_true]
      apply Exists.intro
      apply And.intro
      · repeat' (first
          | exact c
          | with_reducible exact k1.1
          | with_reducible exact k2.1
          | exact g
          | apply s_ifT'
          | exact x_con
          | exact a_nil
          | exact s_nil
          | exact o_none
          | exact x_fnv
          | exact x_glb rfl
          | exact s_dead
          | exact x_var rfl rfl
          | (refine x_var rfl ?_; simp [isFz, isFzA, isFzA_ints, isFzA_frz, isFz_frz]; done)
          | exact x_brw rfl rfl
          | exact op_add'
          | exact op_sub'
          | exact int_eq'
          | exact int_ne'
          | exact ne_two
          | exact eq_two
          | exact eq_itT'
          | exact ne_itT'
          | exact eq_itL'
          | exact ne_itL'
          | apply op_mul'
          | apply op_div'
          | apply op_mod'
          | apply x_op
          | apply x_cmp
          | apply x_ix
          | apply x_u1
          | apply x_chn
          | apply x_and
          | apply x_or
          | apply x_not
          | apply x_ife
          | apply t_cmp
          | apply t_chn
          | apply t_and
          | apply t_or
          | apply t_not
          | apply t_var
          | apply t_u1
          | apply t_call
          | apply t_ix
          | apply a_cons
          | apply x_tup
          | apply x_lst
          | apply x_lstF
          | apply x_call
          | apply x_sl
          | apply o_some
          | apply x_rev
          | apply i_seq
          | apply i_rng1
          | apply i_rng2
          | apply i_enumI
          | apply i_enum
          | apply i_zip
          | apply s_ife
          | apply s_rt
          | apply s_asg
          | apply s_par
          | apply s_sto
          | apply s_aug
          | apply s_augN
          | apply s_ex
          | exact u_sumT
          | exact u_sumL
          | exact u_allL
          | exact u_anyL
          | exact u_allM
          | exact u_anyM
          | exact u_sumM
          | exact OpV.mk rfl
          | exact CmV.mk rfl
          | exact IxV.mk rfl
          | exact U1V.mk rfl
          | apply ix_lst'
          | omega
          | (have sz := sizeLine_eq; omega)
          | (simp only [List.length_map, List.length_cons, List.length_nil]; have sz := sizeLine_eq; omega)
          | (simp only [mulOk, Bool.or_eq_true, Bool.and_eq_true, decide_eq_true_eq]; omega)
          | refine fun (_ : (_ : Bool) = true) => ?_
          | refine fun (_ : (_ : Bool) = false) => ?_
          | refine ⟨_, rfl, ?_, rfl⟩
          | rfl
          | (simp [isFz, isFzA, isFzA_ints, isFzA_frz, isFz_frz]; done)
          | intro i hi)
      · rfl
    · rw [decide_eq_false z] at g
      simp only [z, if_false]
      apply Exists.intro
      apply And.intro
      · repeat' (first
          | exact c
          | with_reducible exact k1.1
          | with_reducible exact k2.1
          | exact g
          | apply s_ifF'
          | exact x_con
          | exact a_nil
          | exact s_nil
          | exact o_none
          | exact x_fnv
          | exact x_glb rfl
          | exact s_dead
          | exact x_var rfl rfl
          | (refine x_var rfl ?_; simp [isFz, isFzA, isFzA_ints, isFzA_frz, isFz_frz]; done)
          | exact x_brw rfl rfl
          | exact op_add'
          | exact op_sub'
          | exact int_eq'
          | exact int_ne'
          | exact ne_two
          | exact eq_two
          | exact eq_itT'
          | exact ne_itT'
          | exact eq_itL'
          | exact ne_itL'
          | apply op_mul'
          | apply op_div'
          | apply op_mod'
          | apply x_op
          | apply x_cmp
          | apply x_ix
          | apply x_u1
          | apply x_chn
          | apply x_and
          | apply x_or
          | apply x_not
          | apply x_ife
          | apply t_cmp
          | apply t_chn
          | apply t_and
          | apply t_or
          | apply t_not
          | apply t_var
          | apply t_u1
          | apply t_call
          | apply t_ix
          | apply a_cons
          | apply x_tup
          | apply x_lst
          | apply x_lstF
          | apply x_call
          | apply x_sl
          | apply o_some
          | apply x_rev
          | apply i_seq
          | apply i_rng1
          | apply i_rng2
          | apply i_enumI
          | apply i_enum
          | apply i_zip
          | apply s_ife
          | apply s_rt
          | apply s_asg
          | apply s_par
          | apply s_sto
          | apply s_aug
          | apply s_augN
          | apply s_ex
          | exact u_sumT
          | exact u_sumL
          | exact u_allL
          | exact u_anyL
          | exact u_allM
          | exact u_anyM
          | exact u_sumM
          | exact OpV.mk rfl
          | exact CmV.mk rfl
          | exact IxV.mk rfl
          | exact U1V.mk rfl
          | apply ix_lst'
          | omega
          | (have sz := sizeLine_eq; omega)
          | (simp only [List.length_map, List.length_cons, List.length_nil]; have sz := sizeLine_eq; omega)
          | (simp only [mulOk, Bool.or_eq_true, Bool.and_eq_true, decide_eq_true_eq]; omega)
          | refine fun (_ : (_ : Bool) = true) => ?_
          | refine fun (_ : (_ : Bool) = false) => ?_
          | refine ⟨_, rfl, ?_, rfl⟩
          | rfl
          | (simp [isFz, isFzA, isFzA_ints, isFzA_frz, isFz_frz]; done)
          | intro i hi)
      · rfl
theorem wloop {P : Pr} {s o : Lt} {L : List Lt} (c : ∀ lot ∈ L, Rn 42 P.fn [itT s, itT o, itT lot] (fr (H s o lot)) []) (h0 : ∀ lot ∈ L, 0 ≤ H s o lot ∧ H s o lot ≤ 6400) {hd x2 x3 x4 : Option D} :
    ∃ ρ', fLoop (gv (.nm 8)) (sxs P wB) (L.map itT) [hd, some (itT s), x2, x3, x4, some (itT o), some (b6 none), some (b7 none), none, none, none, none] = .nx ρ' ∧ ∃ a8 a9, ρ' = [hd, some (itT s), x2, x3, x4, some (itT o), some (b6 (bst s o L)), some (b7 (bst s o L)), a8, a9, none, none] := by
  have loop := for_all (P := P) (g := .nm 8) (l := wB) (fun i ρ => ∃ a8 a9, ρ = [hd, some (itT s), x2, x3, x4, some (itT o), some (b6 (bst s o (L.take i))), some (b7 (bst s o (L.take i))), a8, a9, none, none]) (L.map itT)
    (ρ := [hd, some (itT s), x2, x3, x4, some (itT o), some (b6 none), some (b7 none), none, none, none, none]) ⟨_, _, rfl⟩ (fun i d ρ hd hi => ?_)
  · obtain ⟨ρ', w, a, b, rfl⟩ := loop
    rw [List.length_map, List.take_length] at w
    exact ⟨_, w, _, _, rfl⟩
  · obtain ⟨a, b, rfl⟩ := hi
    obtain ⟨lot, hl, rfl⟩ : ∃ l, L[i]? = some l ∧ itT l = d := by simpa [List.getElem?_map] using hd
    have m := List.mem_of_getElem? hl
    obtain ⟨ρ2, w, rfl⟩ := wstep (acc := bst s o (L.take i)) (c lot m) (h0 lot m) (fun v l e => by
      have := bst_H e
      rw [this.1]
      exact h0 l (List.mem_of_mem_take this.2)) (hd := _) (x2 := x2) (x3 := x3) (x4 := x4) (a9 := b)
    rw [bst_take s o L hl]
    exact ⟨_, _, rfl, .inl w, _, _, rfl⟩
theorem whole_ok : ∀ n ∈ ([1, 2, 3, 4, 5, 6, 7, 8] : List Nat), lots (n : Int) n = [natsI n] := by decide
theorem whole (n : Nat) (h1 : 1 ≤ n) (h8 : n ≤ 8) : lots (n : Int) n = [natsI n] := whole_ok n (by
  have : n = 1 ∨ n = 2 ∨ n = 3 ∨ n = 4 ∨ n = 5 ∨ n = 6 ∨ n = 7 ∨ n = 8 := by omega
  rcases this with rfl | rfl | rfl | rfl | rfl | rfl | rfl | rfl <;> simp)
end K77
namespace K77
open PySem L2 DV
theorem someR (k : Nat) {h : D} (hh : HandOk h) (l : List D) (h0 : 0 < l.length) (h1 : l.length ≤ 1000) (hf : isFzA l = true) : ∃ x h', x ∈ l ∧ Rn 31 (run L (k + 2)) [h, .lst false l] x [h'] ∧ HandOk h' := by
  obtain ⟨j, g, e1, p1, p2, g1⟩ := drawR k hh (n := (l.length : Int)) (by omega) (by omega)
  have hj : j.toNat < l.length := by omega
  refine ⟨l[j.toNat], g, List.getElem_mem hj, ?_, g1⟩
  constructor
  rw [r31]
  have hi : IxV (.lst false l) (.int j) l[j.toNat] := ix_lst' (at_nat p1 (List.getElem?_eq_getElem hj)) (isFzA_mem hf (List.getElem_mem hj))
  have hv : isFz (.lst false l) = true := by simpa [isFz] using hf
  exact f_rtH rfl (by
    unfold f31
    exact s_rt (x_ix (x_var rfl hv) (x_callH rfl (a_cons (x_u1 (x_var rfl hv) rfl ⟨rfl⟩) rfl a_nil) rfl e1) rfl rfl hi) rfl) rfl
theorem add_nat (r : Int) (h : 0 ≤ r) : ∃ c : Nat, OpV .Add (.int 1) (.int r) (.int (c : Nat)) ∧ (c : Int) = 1 + r := by
  refine ⟨(1 + r).toNat, ?_, by omega⟩
  have := op_add' (x := 1) (y := r)
  rw [show (1 + r) = (((1 + r).toNat : Nat) : Int) by omega] at this
  exact this
theorem lots_ne (n k : Nat) (h : k ≤ n) : lots (n : Int) k ≠ [] := fun z => by
  have : (natsI k) ∈ lots (n : Int) k := mem_lots.mpr ⟨nats_len k, by
    unfold natsI
    rw [List.pairwise_map]
    exact List.pairwise_lt_range.imp fun {a b} h => by omega, fun x hx => by have := nats_mem hx; omega⟩
  rw [z] at this
  simp at this
theorem sb4' (Lz : List Lt) (a b c d e f g h i j k : Option D) : settle [a, b, c, d, some (.lst true (Lz.map itT)), e, f, g, h, i, j, k] (.brw 4) = some (.lst false (Lz.map itT), [a, b, c, d, some (.lst false (Lz.map itT)), e, f, g, h, i, j, k]) := by
  show some (D.lst false (frzA (Lz.map itT)), [a, b, c, d, some (D.lst false (frzA (Lz.map itT))), e, f, g, h, i, j, k]) = _
  rw [frzA_tups]
set_option maxHeartbeats 2000001 in
theorem rightR (k : Nat) {h : D} (hh : HandOk h) : ∃ h', Rn 43 (run L (k + 9)) [h] (.bl true) [h'] ∧ HandOk h' := by
  obtain ⟨r, g1, e1, p1, p2, q1⟩ := drawR (k + 7) hh (n := 7) (by decide) (by decide)
  obtain ⟨c, oc, ec⟩ := add_nat r p1
  obtain ⟨s, g2, e2, hs, ls, q2⟩ := strengths (k + 4) q1 c (by omega) (by omega)
  obtain ⟨s1, s2, s3, s4⟩ := id hs
  obtain ⟨r', g3, e3, p3, p4, q3⟩ := drawR (k + 7) q2 (n := (((s.map D.int).length : Nat) : Int)) (by rw [List.length_map]; omega) (by rw [List.length_map]; omega)
  obtain ⟨b, ob, eb⟩ := add_nat r' p3
  rw [List.length_map] at p4
  obtain ⟨o, g4, e4, ho, lo, q4⟩ := strengths (k + 4) q3 b (by omega) (by omega)
  obtain ⟨o1, o2, o3, o4⟩ := id ho
  have los : o.length ≤ s.length := by omega
  have c1 := lotsL (k + 7) s.length b s3 (by omega)
  have c2 := lineups (k + 2) s hs b ⟨by omega, by omega⟩
  have c3 := lotsL (k + 7) s.length o.length s3 o2
  obtain ⟨w1, w2⟩ := bst_ok s o _ (lots (s.length : Int) o.length) rfl
  obtain ⟨v, lt, eb'⟩ := w2 (lots_ne _ _ los)
  obtain ⟨m1, m2, m3⟩ := w1 v lt eb'
  have c4 := best (k + 1) s o hs ho los eb'
  have c5 : ∀ lot ∈ lots (s.length : Int) o.length, Rn 42 (run L (k + 8)) [itT s, itT o, itT lot] (fr (H s o lot)) [] := fun lot m => worth (k + 4) s o lot s1 o1 (lots_idx m).1 (by rw [(lots_idx m).2]; exact o3)
  have hl : ∀ lot ∈ lots (s.length : Int) o.length, 0 ≤ H s o lot ∧ H s o lot ≤ 6400 := fun lot m => H_le s o lot (by rw [(lots_idx m).2]; exact o3)
  have lne : 0 < ((lots (s.length : Int) o.length).map itT).length := by
    rw [List.length_map]
    exact List.length_pos_iff.mpr (lots_ne _ _ los)
  obtain ⟨xd, g5, mx, e5, q5⟩ := someR (k + 6) q4 ((lots (s.length : Int) o.length).map itT) lne (by rw [List.length_map]; have := lots_len s.length o.length s3; omega) (isFzA_tups _)
  obtain ⟨x, mx2, rfl⟩ := List.mem_map.mp mx
  have c6 := c5 x mx2
  have c7 := lineups (k + 2) s hs s.length ⟨s2, Nat.le_refl _⟩
  rw [whole s.length s2 s3] at c7
  have eW : bst s s (lots (s.length : Int) s.length) = some (H s s (natsI s.length), natsI s.length) := by
    rw [whole s.length s2 s3]
    rfl
  have c8 := best (k + 1) s s hs hs (Nat.le_refl _) eW
  have i1 := is_i (k + 7) (((lots (s.length : Int) b).length : Nat) : Int)
  have i2 := is_its (k + 6) lt (by have := (lots_idx m1).2; omega)
  have gx := gt_val v (H s o x)
  have mxv := m3 x mx2
  rw [decide_eq_false (by omega : ¬ v < H s o x)] at gx
  have hv := hl lt m1
  rw [← m2] at hv
  have hx := hl x mx2
  have k1 := mk v (H s o x) (by unfold Sm; omega)
  have k2 := mk (H s o x) v (by unfold Sm; omega)
  have lenS : (((s.map D.int).length : Nat) : Int) = (s.length : Int) := by rw [List.length_map]
  have lenO : (((o.map D.int).length : Nat) : Int) = (o.length : Int) := by rw [List.length_map]
  have lb : ((((lots (s.length : Int) b).map itT).length : Nat) : Int) = (((lots (s.length : Int) b).length : Nat) : Int) := by rw [List.length_map]
  have e1 : Rn 30 (prL L (run L (k + 8))).fn [h, .int 7] (.int r) [g1] := e1
  have e2 : Rn 40 (prL L (run L (k + 8))).fn [g1, .int c] (itT s) [g2] := e2
  have e3 : Rn 30 (prL L (run L (k + 8))).fn [g2, .int (((s.map D.int).length : Nat) : Int)] (.int r') [g3] := e3
  have e4 : Rn 40 (prL L (run L (k + 8))).fn [g3, .int b] (itT o) [g4] := e4
  have e5 : Rn 31 (prL L (run L (k + 8))).fn [g4, .lst false ((lots (s.length : Int) o.length).map itT)] (itT x) [g5] := e5
  have c1 : Rn 39 (prL L (run L (k + 8))).fn [.int (((s.map D.int).length : Nat) : Int), .int b] (.lst true ((lots (s.length : Int) b).map itT)) [] := by rw [lenS]; exact c1
  have c2 : Rn 22 (prL L (run L (k + 8))).fn [itT s, .int b] (.int (((lots (s.length : Int) b).length : Nat) : Int)) [] := c2
  have c3 : Rn 39 (prL L (run L (k + 8))).fn [.int (((s.map D.int).length : Nat) : Int), .int (((o.map D.int).length : Nat) : Int)] (.lst true ((lots (s.length : Int) o.length).map itT)) [] := by rw [lenS, lenO]; exact c3
  have c4 : Rn 24 (prL L (run L (k + 8))).fn [itT s, itT o] (itT lt) [] := c4
  have c5 : ∀ lot ∈ lots (s.length : Int) o.length, Rn 42 (prL L (run L (k + 8))).fn [itT s, itT o, itT lot] (fr (H s o lot)) [] := c5
  have c6 : Rn 42 (prL L (run L (k + 8))).fn [itT s, itT o, itT x] (fr (H s o x)) [] := c6
  have c7 : Rn 22 (prL L (run L (k + 8))).fn [itT s, .int (((s.map D.int).length : Nat) : Int)] (.int 1) [] := by rw [lenS]; exact c7
  have c8 : Rn 24 (prL L (run L (k + 8))).fn [itT s, itT s] (itT (natsI s.length)) [] := c8
  have i1 : Rn 32 (prL L (run L (k + 8))).fn [.int (((lots (s.length : Int) b).length : Nat) : Int), .int ((((lots (s.length : Int) b).map itT).length : Nat) : Int)] (.bl true) [] := by rw [lb]; exact i1
  have i2 : Rn 32 (prL L (run L (k + 8))).fn [itT lt, itT lt] (.bl true) [] := i2
  refine ⟨g5, ?_, q5⟩
  constructor
  rw [r43]
  generalize prL L (run L (k + 8)) = P at *
  have t1 : Sxl P (tk 8 f43.ir) [some h, none, none, none, none, none, none, none, none, none, none, none] (.nx [some g4, some (itT s), some (.int (((s.map D.int).length : Nat) : Int)), some (.int b), some (.lst true ((lots (s.length : Int) o.length).map itT)), some (itT o), some (b6 none), some (b7 none), none, none, none, none]) := by
    unfold f43
    show Sxl _ (.cons _ (.cons _ (.cons _ (.cons _ (.cons _ (.cons _ (.cons _ (.cons _ .nil)))))))) _ _
    have fz : isFz (.lst true ((lots (s.length : Int) b).map itT)) = false := rfl
    repeat' (first
      | exact oc
      | exact ob
      | exact e1
      | exact e2
      | exact e3
      | exact e4
      | exact c1
      | exact c2
      | exact c3
      | exact i1
      | apply x_callH
      | apply s_ifF'
      | exact (⟨rfl⟩ : U1V .neg (.int 1) (.int (-1)))
      | exact x_con
      | exact a_nil
      | exact s_nil
      | exact o_none
      | exact x_fnv
      | exact x_glb rfl
      | exact s_dead
      | exact x_var rfl rfl
      | (refine x_var rfl ?_; simp [isFz, isFzA, isFzA_ints, isFzA_frz, isFz_frz]; done)
      | exact x_brw rfl rfl
      | exact op_add'
      | exact op_sub'
      | exact int_eq'
      | exact int_ne'
      | exact ne_two
      | exact eq_two
      | exact eq_itT'
      | exact ne_itT'
      | exact eq_itL'
      | exact ne_itL'
      | apply op_mul'
      | apply op_div'
      | apply op_mod'
      | apply x_op
      | apply x_cmp
      | apply x_ix
      | apply x_u1
      | apply x_chn
      | apply x_and
      | apply x_or
      | apply x_not
      | apply x_ife
      | apply t_cmp
      | apply t_chn
      | apply t_and
      | apply t_or
      | apply t_not
      | apply t_var
      | apply t_u1
      | apply t_call
      | apply t_ix
      | apply a_cons
      | apply x_tup
      | apply x_lst
      | apply x_lstF
      | apply x_call
      | apply x_sl
      | apply o_some
      | apply x_rev
      | apply i_seq
      | apply i_rng1
      | apply i_rng2
      | apply i_enumI
      | apply i_enum
      | apply i_zip
      | apply s_ife
      | apply s_rt
      | apply s_asg
      | apply s_par
      | apply s_sto
      | apply s_aug
      | apply s_augN
      | apply s_ex
      | exact u_sumT
      | exact u_sumL
      | exact u_allL
      | exact u_anyL
      | exact u_allM
      | exact u_anyM
      | exact u_sumM
      | exact OpV.mk rfl
      | exact CmV.mk rfl
      | exact IxV.mk rfl
      | exact U1V.mk rfl
      | apply ix_lst'
      | omega
      | (have sz := sizeLine_eq; omega)
      | (simp only [List.length_map, List.length_cons, List.length_nil]; have sz := sizeLine_eq; omega)
      | (simp only [mulOk, Bool.or_eq_true, Bool.and_eq_true, decide_eq_true_eq]; omega)
      | refine fun (_ : (_ : Bool) = true) => ?_
      | refine fun (_ : (_ : Bool) = false) => ?_
      | refine ⟨_, rfl, ?_, rfl⟩
      | rfl
      | (simp [isFz, isFzA, isFzA_ints, isFzA_frz, isFz_frz]; done)
      | intro i hi)
  obtain ⟨ρ', w, a8, a9, rfl⟩ := wloop c5 hl (hd := some g4) (x2 := some (.int (((s.map D.int).length : Nat) : Int))) (x3 := some (.int b)) (x4 := some (.lst false ((lots (s.length : Int) o.length).map itT)))
  rw [eb'] at w
  have lrN : Evl P (.lr1 (.var 2)) [some g5, some (itT s), some (.int (((s.map D.int).length : Nat) : Int)), some (.int b), some (.lst false ((lots (s.length : Int) o.length).map itT)), some (itT o), some (fr v), some (itT lt), a8, a9, some (itT lt), some (fr (H s o x))] (.val (.lst true ((natsI s.length).map .int))) [some g5, some (itT s), some (.int (((s.map D.int).length : Nat) : Int)), some (.int b), some (.lst false ((lots (s.length : Int) o.length).map itT)), some (itT o), some (fr v), some (itT lt), a8, a9, some (itT lt), some (fr (H s o x))] := by
    rw [lenS]
    exact x_lrN (x_var rfl rfl) rfl (by omega)
  have eqN : CmV .Eq (itT (natsI s.length)) (.tup ((natsI s.length).map .int)) (.bl true) := by
    have := eq_itT' (l := natsI s.length) (m := natsI s.length)
    simpa using this
  have eq1 : CmV .Eq (.int 1) (.int 1) (.bl true) := ⟨rfl⟩
  have fz4 : isFz (.lst false ((lots (s.length : Int) o.length).map itT)) = true := by simp [isFz, isFzA_tups]
  have t2 : ∃ ρ, Sxl P (dr 8 f43.ir) [some g4, some (itT s), some (.int (((s.map D.int).length : Nat) : Int)), some (.int b), some (.lst true ((lots (s.length : Int) o.length).map itT)), some (itT o), some (b6 none), some (b7 none), none, none, none, none] (.rt (.bl true) ρ) ∧ ρ[0]? = some (some g5) := by
    apply Exists.intro
    apply And.intro
    · unfold f43
      show Sxl _ (.cons _ (.cons _ (.cons _ (.cons _ (.cons _ (.cons _ .nil)))))) _ _
      refine s_for (i_seq (x_brw rfl rfl) (sb4' _ _ _ _ _ _ _ _ _ _ _ _) rfl) w ?_
      repeat' (first
        | exact c4
        | exact c6
        | exact c7
        | exact c8
        | exact i2
        | exact e5
        | with_reducible exact k1.1
        | with_reducible exact k2.1
        | exact gx
        | exact eq1
        | exact eqN
        | exact lrN
        | exact u_tupL (isFzA_ints _)
        | exact x_var rfl fz4
        | exact sbv fz4
        | apply x_callH
        | apply s_ifF'
        | apply x_andT
        | exact x_con
        | exact a_nil
        | exact s_nil
        | exact o_none
        | exact x_fnv
        | exact x_glb rfl
        | exact s_dead
        | exact x_var rfl rfl
        | (refine x_var rfl ?_; simp [isFz, isFzA, isFzA_ints, isFzA_frz, isFz_frz]; done)
        | exact x_brw rfl rfl
        | exact op_add'
        | exact op_sub'
        | exact int_eq'
        | exact int_ne'
        | exact ne_two
        | exact eq_two
        | exact eq_itT'
        | exact ne_itT'
        | exact eq_itL'
        | exact ne_itL'
        | apply op_mul'
        | apply op_div'
        | apply op_mod'
        | apply x_op
        | apply x_cmp
        | apply x_ix
        | apply x_u1
        | apply x_chn
        | apply x_and
        | apply x_or
        | apply x_not
        | apply x_ife
        | apply t_cmp
        | apply t_chn
        | apply t_and
        | apply t_or
        | apply t_not
        | apply t_var
        | apply t_u1
        | apply t_call
        | apply t_ix
        | apply a_cons
        | apply x_tup
        | apply x_lst
        | apply x_lstF
        | apply x_call
        | apply x_sl
        | apply o_some
        | apply x_rev
        | apply i_seq
        | apply i_rng1
        | apply i_rng2
        | apply i_enumI
        | apply i_enum
        | apply i_zip
        | apply s_ife
        | apply s_rt
        | apply s_asg
        | apply s_par
        | apply s_sto
        | apply s_aug
        | apply s_augN
        | apply s_ex
        | exact u_sumT
        | exact u_sumL
        | exact u_allL
        | exact u_anyL
        | exact u_allM
        | exact u_anyM
        | exact u_sumM
        | exact OpV.mk rfl
        | exact CmV.mk rfl
        | exact IxV.mk rfl
        | exact U1V.mk rfl
        | apply ix_lst'
        | omega
        | (have sz := sizeLine_eq; omega)
        | (simp only [List.length_map, List.length_cons, List.length_nil]; have sz := sizeLine_eq; omega)
        | (simp only [mulOk, Bool.or_eq_true, Bool.and_eq_true, decide_eq_true_eq]; omega)
        | refine fun (_ : (_ : Bool) = true) => ?_
        | refine fun (_ : (_ : Bool) = false) => ?_
        | refine ⟨_, rfl, ?_, rfl⟩
        | rfl
        | (simp [isFz, isFzA, isFzA_ints, isFzA_frz, isFz_frz]; done)
        | intro i hi)
    · rfl
  obtain ⟨ρe, t2, e0⟩ := t2
  apply Eq.trans
  · apply f_evH
    · rfl
    · exact s_cut 8 t1 t2
  · show finD true (.bl true) ρe = _
    unfold finD slotD
    rw [e0]
    rfl
end K77
namespace K77
open PySem L2 DV
def dct0 : D := .dct false false [] []
def l1 (d : D) : D := .lst false [d]
def t1 (d : D) : D := .tup [d]
def i_ (n : Int) : D := .int n
def deep6 : D := l1 (l1 (l1 (l1 (l1 (l1 (t1 (t1 (t1 (t1 (t1 (.str [45])))))))))))
def nones : List D := [.non, .int 0, .tup [], .lst false [.int 1, .int 2], t1 (.int 3), t1 (.int (-1)), t1 (.bl true), t1 .non, .tup (List.replicate 9 (.int 1)), .str [49, 50], dct0, l1 deep6]
def rowsL : List D := [.non, .int 0, .tup [], .lst false [.int 2, .int 1], .tup [.int 1, .int 2], .tup [.int 1, .int 1], t1 (.int 4001), t1 (.int (-1)), t1 (.bl true), .tup [.int 2, .non], .str [50, 49], dct0, itT [8, 7, 6, 5, 4, 3, 2, 1, 0]]
def odds : List D := [.int 0, .int 4, .int (-1), .non, .bl true, .str [49], t1 (.int 1), dct0]
def fews : List D := [.non, .int 0, .str [116, 119, 111], t1 (.int 2), dct0, .bl true, .int (-1)]
def tr (a b c : D) : D := .tup [a, b, c]
def m01 (d : D) : D := tr (.int 0) (.int 1) d
def somes : List D := [.non, .int 0, l1 (m01 (t1 (.int 1))), t1 (tr (.int 0) (.int 0) (t1 (.int 1))), t1 (m01 (.tup [])), t1 (m01 (t1 (.int 3))), t1 (.tup [.int 0, .int 1]), t1 (tr (.int 0) (.int 9) (t1 (.int 1))), .str [109], dct0, t1 .non, .tup (List.replicate 61 (m01 (t1 (.int 1)))), t1 (tr (.bl true) (.int 0) (t1 (.int 1))), t1 (m01 (l1 (.int 1)))]
theorem a1 : (nones.all fun a => isE 46 (run L 58 14 [a])) = true := by decide +kernel
theorem a2 : (nones.all fun a => isE 46 (run L 58 16 [a])) = true := by decide +kernel
theorem a3 : (nones.all fun a => isE 46 (run L 58 18 [a])) = true := by decide +kernel
theorem a4 : (rowsL.all fun a => odds.all fun b => isE 47 (run L 58 22 [a, b])) = true := by decide +kernel
theorem a5 : (odds.all fun b => isE 48 (run L 58 22 [.tup [.int 3, .int 2, .int 1], b])) = true := by decide +kernel
theorem a6 : (fews.all fun a => somes.all fun b => isE 50 (run L 58 28 [a, b])) = true := by decide +kernel
theorem a7 : (somes.all fun b => isE 49 (run L 58 28 [.int 2, b])) = true := by decide +kernel
def wd (i : Int) : D := .tup [.int i]
theorem w0 : (prL L (run L 58)).wd 34 (.er ⟨46, []⟩ []) = .ok (wd 0) [] := isV_of (by decide +kernel)
theorem w1 : (prL L (run L 58)).wd 34 (.er ⟨47, []⟩ []) = .ok (wd 1) [] := isV_of (by decide +kernel)
theorem w2 : (prL L (run L 58)).wd 34 (.er ⟨48, []⟩ []) = .ok (wd 2) [] := isV_of (by decide +kernel)
theorem w3 : (prL L (run L 58)).wd 34 (.er ⟨50, []⟩ []) = .ok (wd 3) [] := isV_of (by decide +kernel)
theorem w4 : (prL L (run L 58)).wd 34 (.er ⟨49, []⟩ []) = .ok (wd 4) [] := isV_of (by decide +kernel)
def dueL : List D := [wd 0, wd 0, wd 0, wd 1, wd 2, wd 3, wd 4]
theorem due_eq : CmV .Eq (.lst true dueL) (.lst true dueL) (.bl true) := ⟨by rfl⟩
theorem due3 : OpV .Mult (.lst true [wd 0]) (.int 3) (.lst true [wd 0, wd 0, wd 0]) := ⟨by rfl⟩
theorem due7 : OpV .Add (.lst true [wd 0, wd 0, wd 0]) (.lst true [wd 1, wd 2, wd 3, wd 4]) (.lst true dueL) := ⟨by rfl⟩
theorem deepR : Rn 33 (run L 58) [.int 12] (.lst true [deep6]) [] := ⟨isV_of (by decide +kernel)⟩
theorem q9 : OpV .Mult (.tup [.int 1]) (.int 9) (.tup (List.replicate 9 (.int 1))) := repT1 (.int 1) 9 (by decide) (by decide)
theorem q61 : OpV .Mult (.tup [.tup [.int 0, .int 1, .tup [.int 1]]]) (.int 61) (.tup (List.replicate 61 (m01 (t1 (.int 1))))) := repT1 (m01 (t1 (.int 1))) 61 (by decide) (by decide)
theorem lr9 {P : Pr} {ρ : DV.Env} : Evl P (.u1 .tuple (.rev (.lr1 (.con (.int 9))))) ρ (.val (itT [8, 7, 6, 5, 4, 3, 2, 1, 0])) ρ := x_u1 (x_rev (x_lr1 (k := 9) x_con rfl (by decide)) rfl (d := .lst true [.int 8, .int 7, .int 6, .int 5, .int 4, .int 3, .int 2, .int 1, .int 0]) (by rfl)) rfl ⟨by rfl⟩
theorem s_app8_6 {P : Pr} {x0 x1 x2 x3 x4 x5 x7 : Option D} {a : IE} {rest : ISs} {r : SRes} {l l' : List D} {d : D} (h : Evl P a [x0, x1, x2, x3, x4, x5, some (.lst true l), x7] (.val d) [x0, x1, x2, x3, x4, x5, some (.lst true l), x7]) (hl : l.length < sizeLine) (e : l ++ [d] = l') (h1 : Sxl P rest [x0, x1, x2, x3, x4, x5, some (.lst true l'), x7] r) : Sxl P (.cons (.ex (.app 6 a)) rest) [x0, x1, x2, x3, x4, x5, some (.lst true l), x7] r := by
  subst e
  exact s_ex (x_app (l0 := l) (l := l) rfl h rfl rfl hl) h1
set_option maxHeartbeats 1000001 in
theorem words {g : D} {a r b f s : D} (ma : a ∈ nones) (mr : r ∈ rowsL) (mb : b ∈ odds) (mf : f ∈ fews) (ms : s ∈ somes) : ∃ ρ', Sxl (prL L (run L 58)) (dr 9 f44.ir) [some g, some a, some r, some b, some f, some s, none, none] (.rt (.bl true) ρ') ∧ ρ'[0]? = some (some g) := by
  have fa : isFz a = true := isFzA_mem (l := nones) rfl ma
  have fr : isFz r = true := isFzA_mem (l := rowsL) rfl mr
  have fb : isFz b = true := isFzA_mem (l := odds) rfl mb
  have ff : isFz f = true := isFzA_mem (l := fews) rfl mf
  have fs : isFz s = true := isFzA_mem (l := somes) rfl ms
  have e1 : RnE 14 (prL L (run L 58)).fn [a] ⟨46, []⟩ := er1 (g := fun a => [a]) a1 ma
  have e2 : RnE 16 (prL L (run L 58)).fn [a] ⟨46, []⟩ := er1 (g := fun a => [a]) a2 ma
  have e3 : RnE 18 (prL L (run L 58)).fn [a] ⟨46, []⟩ := er1 (g := fun a => [a]) a3 ma
  have e4 : RnE 22 (prL L (run L 58)).fn [r, b] ⟨47, []⟩ := er2 (g := fun a b => [a, b]) a4 mr mb
  have e5 : RnE 22 (prL L (run L 58)).fn [.tup [.int 3, .int 2, .int 1], b] ⟨48, []⟩ := er1 (g := fun b => [.tup [.int 3, .int 2, .int 1], b]) a5 mb
  have e6 : RnE 28 (prL L (run L 58)).fn [f, s] ⟨50, []⟩ := er2 (g := fun a b => [a, b]) a6 mf ms
  have e7 : RnE 28 (prL L (run L 58)).fn [.int 2, s] ⟨49, []⟩ := er1 (g := fun b => [.int 2, b]) a7 ms
  have w0 := w0
  have w1 := w1
  have w2 := w2
  have w3 := w3
  have w4 := w4
  generalize prL L (run L 58) = P at *
  apply Exists.intro
  apply And.intro
  · show Sxl _ (.cons _ (.cons _ (.cons _ (.cons _ (.cons _ (.cons _ (.cons _ .nil))))))) _ _
    repeat' (first
      | with_reducible exact e1
      | with_reducible exact e2
      | with_reducible exact e3
      | with_reducible exact e4
      | with_reducible exact e5
      | with_reducible exact e6
      | with_reducible exact e7
      | with_reducible exact w0
      | with_reducible exact w1
      | with_reducible exact w2
      | with_reducible exact w3
      | with_reducible exact w4
      | exact due3
      | exact due7
      | exact due_eq
      | apply s_for
      | apply fl_cons
      | exact fl_nil
      | apply x_lamE
      | refine frzS_cons rfl fa ?_
      | refine frzS_cons rfl fr ?_
      | refine frzS_cons rfl fb ?_
      | refine frzS_cons rfl ff ?_
      | refine frzS_cons rfl fs ?_
      | refine frzS_cons rfl (show isFz (.fn _) = true from rfl) ?_
      | with_reducible exact frzS_nil
      | (simp only [List.cons_append, List.nil_append]; rfl)
      | apply e_call
      | apply e_callV
      | exact x_var rfl fa
      | exact x_var rfl fr
      | exact x_var rfl fb
      | exact x_var rfl ff
      | exact x_var rfl fs
      | exact sbv fa
      | exact sbv fr
      | exact sbv fb
      | exact sbv ff
      | exact sbv fs
      | exact sbv rfl
      | apply s_app8_6
      | exact x_con
      | exact a_nil
      | exact s_nil
      | exact o_none
      | exact x_fnv
      | exact x_glb rfl
      | exact s_dead
      | exact x_var rfl rfl
      | (refine x_var rfl ?_; simp [isFz, isFzA, isFzA_ints, isFzA_frz, isFz_frz]; done)
      | exact x_brw rfl rfl
      | exact op_add'
      | exact op_sub'
      | exact int_eq'
      | exact int_ne'
      | exact ne_two
      | exact eq_two
      | exact eq_itT'
      | exact ne_itT'
      | exact eq_itL'
      | exact ne_itL'
      | apply op_mul'
      | apply op_div'
      | apply op_mod'
      | apply x_op
      | apply x_cmp
      | apply x_ix
      | apply x_u1
      | apply x_chn
      | apply x_and
      | apply x_or
      | apply x_not
      | apply x_ife
      | apply t_cmp
      | apply t_chn
      | apply t_and
      | apply t_or
      | apply t_not
      | apply t_var
      | apply t_u1
      | apply t_call
      | apply t_ix
      | apply a_cons
      | apply x_tup
      | apply x_lst
      | apply x_lstF
      | apply x_call
      | apply x_sl
      | apply o_some
      | apply x_rev
      | apply i_seq
      | apply i_rng1
      | apply i_rng2
      | apply i_enumI
      | apply i_enum
      | apply i_zip
      | apply s_ife
      | apply s_rt
      | apply s_asg
      | apply s_par
      | apply s_sto
      | apply s_aug
      | apply s_augN
      | apply s_ex
      | exact u_sumT
      | exact u_sumL
      | exact u_allL
      | exact u_anyL
      | exact u_allM
      | exact u_anyM
      | exact u_sumM
      | exact OpV.mk rfl
      | exact CmV.mk rfl
      | exact IxV.mk rfl
      | exact U1V.mk rfl
      | apply ix_lst'
      | omega
      | (have sz := sizeLine_eq; omega)
      | (simp only [List.length_map, List.length_cons, List.length_nil]; have sz := sizeLine_eq; omega)
      | (simp only [mulOk, Bool.or_eq_true, Bool.and_eq_true, decide_eq_true_eq]; omega)
      | refine fun (_ : (_ : Bool) = true) => ?_
      | refine fun (_ : (_ : Bool) = false) => ?_
      | refine ⟨_, rfl, ?_, rfl⟩
      | rfl
      | (simp [isFz, isFzA, isFzA_ints, isFzA_frz, isFz_frz]; done)
      | intro i hi)
  · rfl
set_option maxHeartbeats 1000001 in
theorem draws {P : Pr} {h g1 g2 g3 g4 g5 a r b f s : D} (c1 : Rn 31 P.fn [h, .lst false nones] a [g1]) (c2 : Rn 31 P.fn [g1, .lst false rowsL] r [g2]) (c3 : Rn 31 P.fn [g2, .lst false odds] b [g3]) (c4 : Rn 31 P.fn [g3, .lst false fews] f [g4]) (c5 : Rn 31 P.fn [g4, .lst false somes] s [g5])
    (ed : Rn 33 P.fn [.int 12] (.lst true [deep6]) []) : ∃ ρ, Sxl P (tk 9 f44.ir) [some h, none, none, none, none, none, none, none] (.nx ρ) ∧ ρ = [some g5, some a, some r, some b, some f, some s, none, none] := by
  apply Exists.intro
  apply And.intro
  · unfold f44
    show Sxl _ (.cons _ (.cons _ (.cons _ (.cons _ (.cons _ (.cons _ (.cons _ (.cons _ (.cons _ .nil))))))))) _ _
    repeat' (first
      | exact c1
      | exact c2
      | exact c3
      | exact c4
      | exact c5
      | exact ed
      | exact q9
      | exact q61
      | exact lr9
      | apply x_callH
      | exact x_dnew
      | exact x_con
      | exact a_nil
      | exact s_nil
      | exact o_none
      | exact x_fnv
      | exact x_glb rfl
      | exact s_dead
      | exact x_var rfl rfl
      | (refine x_var rfl ?_; simp [isFz, isFzA, isFzA_ints, isFzA_frz, isFz_frz]; done)
      | exact x_brw rfl rfl
      | exact op_add'
      | exact op_sub'
      | exact int_eq'
      | exact int_ne'
      | exact ne_two
      | exact eq_two
      | exact eq_itT'
      | exact ne_itT'
      | exact eq_itL'
      | exact ne_itL'
      | apply op_mul'
      | apply op_div'
      | apply op_mod'
      | apply x_op
      | apply x_cmp
      | apply x_ix
      | apply x_u1
      | apply x_chn
      | apply x_and
      | apply x_or
      | apply x_not
      | apply x_ife
      | apply t_cmp
      | apply t_chn
      | apply t_and
      | apply t_or
      | apply t_not
      | apply t_var
      | apply t_u1
      | apply t_call
      | apply t_ix
      | apply a_cons
      | apply x_tup
      | apply x_lst
      | apply x_lstF
      | apply x_call
      | apply x_sl
      | apply o_some
      | apply x_rev
      | apply i_seq
      | apply i_rng1
      | apply i_rng2
      | apply i_enumI
      | apply i_enum
      | apply i_zip
      | apply s_ife
      | apply s_rt
      | apply s_asg
      | apply s_par
      | apply s_sto
      | apply s_aug
      | apply s_augN
      | apply s_ex
      | exact u_sumT
      | exact u_sumL
      | exact u_allL
      | exact u_anyL
      | exact u_allM
      | exact u_anyM
      | exact u_sumM
      | exact OpV.mk rfl
      | exact CmV.mk rfl
      | exact IxV.mk rfl
      | exact U1V.mk rfl
      | apply ix_lst'
      | omega
      | (have sz := sizeLine_eq; omega)
      | (simp only [List.length_map, List.length_cons, List.length_nil]; have sz := sizeLine_eq; omega)
      | (simp only [mulOk, Bool.or_eq_true, Bool.and_eq_true, decide_eq_true_eq]; omega)
      | refine fun (_ : (_ : Bool) = true) => ?_
      | refine fun (_ : (_ : Bool) = false) => ?_
      | refine ⟨_, rfl, ?_, rfl⟩
      | rfl
      | (simp [isFz, isFzA, isFzA_ints, isFzA_frz, isFz_frz]; done)
      | intro i hi)
  · rfl
theorem refusedR {h : D} (hh : HandOk h) : ∃ h', Rn 44 (run L (58 + 1)) [h] (.bl true) [h'] ∧ HandOk h' := by
  obtain ⟨a, g1, ma, c1, q1⟩ := someR 56 hh nones (by decide) (by decide) rfl
  obtain ⟨r, g2, mr, c2, q2⟩ := someR 56 q1 rowsL (by decide) (by decide) rfl
  obtain ⟨b, g3, mb, c3, q3⟩ := someR 56 q2 odds (by decide) (by decide) rfl
  obtain ⟨f, g4, mf, c4, q4⟩ := someR 56 q3 fews (by decide) (by decide) rfl
  obtain ⟨s, g5, ms, c5, q5⟩ := someR 56 q4 somes (by decide) (by decide) rfl
  obtain ⟨ρ', tl, e0⟩ := words (g := g5) ma mr mb mf ms
  have ed := deepR
  refine ⟨g5, ?_, q5⟩
  constructor
  rw [r44]
  have c1 : Rn 31 (prL L (run L 58)).fn [h, .lst false nones] a [g1] := c1
  have c2 : Rn 31 (prL L (run L 58)).fn [g1, .lst false rowsL] r [g2] := c2
  have c3 : Rn 31 (prL L (run L 58)).fn [g2, .lst false odds] b [g3] := c3
  have c4 : Rn 31 (prL L (run L 58)).fn [g3, .lst false fews] f [g4] := c4
  have c5 : Rn 31 (prL L (run L 58)).fn [g4, .lst false somes] s [g5] := c5
  have ed : Rn 33 (prL L (run L 58)).fn [.int 12] (.lst true [deep6]) [] := ed
  generalize prL L (run L 58) = P at *
  obtain ⟨ρ1, d1, rfl⟩ := draws c1 c2 c3 c4 c5 ed
  have key := s_cut 9 d1 tl
  apply Eq.trans
  · apply f_evH
    · rfl
    · exact key
  · show finD true (.bl true) ρ' = _
    unfold finD slotD
    rw [e0]
    rfl
theorem trues {m : List D} (h : ∀ d ∈ m, d = .bl true) : m = m.map fun _ => D.bl true := by
  induction m with
  | nil => rfl
  | cons d m ih =>
    rw [List.map_cons, ← ih fun d hd => h d (by simp [hd]), h d (by simp)]
theorem u_trues {o : Bool} {m : List D} (h : ∀ d ∈ m, d = .bl true) : U1V .all (.lst o m) (.bl true) := by
  have := u_allM (o := o) (ms := m) (f := fun _ => true)
  rw [← trues h, all_true] at this
  exact this
theorem v1 : Rn 22 (run L (58 + 1)) [itT [2400, 2300, 2200, 2100], .int 2] (.int 6) [] := ⟨isV_of (by decide +kernel)⟩
theorem v2 : Rn 24 (run L (58 + 1)) [itT [2400, 2300], itT [2500]] (itT [0]) [] := ⟨isV_of (by decide +kernel)⟩
theorem plain (ns : List Int) (h : ns.length ≤ 63) : run L 60 45 [.scr (ns.map .int)] = .ok (.bl true) [] := by
  obtain ⟨hd, e1, k1⟩ := hand 58 ns h
  have v1 := v1
  have v2 := v2
  obtain ⟨m, ρ', c1, ⟨h', k2, rfl⟩, c2, c3⟩ := lc_st (P := prL L (run L 59)) (e := .and (.callH 43 1 .nil) (.callH 44 1 .nil)) (vs := [2]) (g := .nm 2) (fun ρ => ∃ h, HandOk h ∧ ρ = [some (.scr (ns.map .int)), some h, none]) (fun d => d = .bl true) (rangeD 0 (4 : Int).toNat) [some (.scr (ns.map .int)), some hd, none] ⟨hd, k1, rfl⟩ (fun d hd ρ hi => by
    obtain ⟨h2, k2, rfl⟩ := hi
    obtain ⟨h3, e3, k3⟩ := rightR 50 k2
    obtain ⟨h4, e4, k4⟩ := refusedR k3
    exact ⟨_, _, _, rfl, x_and2 (x_callH rfl a_nil rfl e3) (x_callH rfl a_nil rfl e4), rfl, h4, k4, rfl⟩)
  rw [rangeD_len] at c2
  have ev : CmV .NotEq (itT [0]) (.tup [.int 0]) (.bl false) := ⟨by rfl⟩
  obtain ⟨P, hP⟩ : ∃ P, P = prL L (run L 59) := ⟨_, rfl⟩
  have ef : run L 59 = P.fn := by rw [hP]; rfl
  rw [ef] at e1 v1 v2
  show fnF 1 3 false (sxs (prL L (run L 59)) f45.ir) [.scr (ns.map .int)] = _
  rw [← hP] at c1 ⊢
  clear hP ef
  apply Eq.trans
  · apply f_ev
    · rfl
    · unfold f45
      repeat' (first
        | exact e1
        | exact v1
        | exact v2
        | exact ev
        | exact c1
        | exact u_trues c3
        | (rw [rangeD_len]; have sz := sizeLine_eq; omega)
        | apply s_ifF'
        | apply x_comp
        | exact x_con
        | exact a_nil
        | exact s_nil
        | exact o_none
        | exact x_fnv
        | exact x_glb rfl
        | exact s_dead
        | exact x_var rfl rfl
        | (refine x_var rfl ?_; simp [isFz, isFzA, isFzA_ints, isFzA_frz, isFz_frz]; done)
        | exact x_brw rfl rfl
        | exact op_add'
        | exact op_sub'
        | exact int_eq'
        | exact int_ne'
        | exact ne_two
        | exact eq_two
        | exact eq_itT'
        | exact ne_itT'
        | exact eq_itL'
        | exact ne_itL'
        | apply op_mul'
        | apply op_div'
        | apply op_mod'
        | apply x_op
        | apply x_cmp
        | apply x_ix
        | apply x_u1
        | apply x_chn
        | apply x_and
        | apply x_or
        | apply x_not
        | apply x_ife
        | apply t_cmp
        | apply t_chn
        | apply t_and
        | apply t_or
        | apply t_not
        | apply t_var
        | apply t_u1
        | apply t_call
        | apply t_ix
        | apply a_cons
        | apply x_tup
        | apply x_lst
        | apply x_lstF
        | apply x_call
        | apply x_sl
        | apply o_some
        | apply x_rev
        | apply i_seq
        | apply i_rng1
        | apply i_rng2
        | apply i_enumI
        | apply i_enum
        | apply i_zip
        | apply s_ife
        | apply s_rt
        | apply s_asg
        | apply s_par
        | apply s_sto
        | apply s_aug
        | apply s_augN
        | apply s_ex
        | exact u_sumT
        | exact u_sumL
        | exact u_allL
        | exact u_anyL
        | exact u_allM
        | exact u_anyM
        | exact u_sumM
        | exact OpV.mk rfl
        | exact CmV.mk rfl
        | exact IxV.mk rfl
        | exact U1V.mk rfl
        | apply ix_lst'
        | omega
        | (have sz := sizeLine_eq; omega)
        | (simp only [List.length_map, List.length_cons, List.length_nil]; have sz := sizeLine_eq; omega)
        | (simp only [mulOk, Bool.or_eq_true, Bool.and_eq_true, decide_eq_true_eq]; omega)
        | refine fun (_ : (_ : Bool) = true) => ?_
        | refine fun (_ : (_ : Bool) = false) => ?_
        | refine ⟨_, rfl, ?_, rfl⟩
        | rfl
        | (simp [isFz, isFzA, isFzA_ints, isFzA_frz, isFz_frz]; done)
        | intro i hi)
  · rfl
end K77
namespace K77
open PySem L2 DV
section
variable {K : PySem.W.Frag} {h : Heap} {mg : Str → Option Value} {ts : List Addr}
set_option maxHeartbeats 0 in
theorem all_mk (X : K.In h) (G : h.Ns mainGlobals mg)
    {a0 : Addr} {oc0 kV0 dc0 pm0 cd0 ct0 : Value} {od0 an0 : Option Addr} {sl0 : Array (Option Value)}
    (n0 : PySem.W.nsIn K mainGlobals "is_integer" = some (some (.ref a0)))
    (l0 : K.lookup a0 = some ⟨oc0, od0, .func (PySem.W.fnOf "is_integer" "is_integer" (defArgs (top 1)) (defBody (top 1)) (defScope (top 1)) .none kV0 dc0 pm0 an0 cd0 ct0), sl0⟩)
    (c0 : PySem.W.codeIn K cd0 "is_integer" = true)
    (k0 : PySem.W.keepIn K (.ref a0) = true)
    {a1 : Addr} {oc1 kV1 dc1 pm1 cd1 ct1 : Value} {od1 an1 : Option Addr} {sl1 : Array (Option Value)}
    (n1 : PySem.W.nsIn K mainGlobals "is_within" = some (some (.ref a1)))
    (l1 : K.lookup a1 = some ⟨oc1, od1, .func (PySem.W.fnOf "is_within" "is_within" (defArgs (top 2)) (defBody (top 2)) (defScope (top 2)) .none kV1 dc1 pm1 an1 cd1 ct1), sl1⟩)
    (c1 : PySem.W.codeIn K cd1 "is_within" = true)
    (k1 : PySem.W.keepIn K (.ref a1) = true)
    {a2 : Addr} {oc2 kV2 dc2 pm2 cd2 ct2 : Value} {od2 an2 : Option Addr} {sl2 : Array (Option Value)}
    (n2 : PySem.W.nsIn K mainGlobals "is_tuple_of" = some (some (.ref a2)))
    (l2 : K.lookup a2 = some ⟨oc2, od2, .func (PySem.W.fnOf "is_tuple_of" "is_tuple_of" (defArgs (top 3)) (defBody (top 3)) (defScope (top 3)) .none kV2 dc2 pm2 an2 cd2 ct2), sl2⟩)
    (c2 : PySem.W.codeIn K cd2 "is_tuple_of" = true)
    (k2 : PySem.W.keepIn K (.ref a2) = true)
    {a3 : Addr} {oc3 kV3 dc3 pm3 cd3 ct3 : Value} {od3 an3 : Option Addr} {sl3 : Array (Option Value)}
    (n3 : PySem.W.nsIn K mainGlobals "are_within" = some (some (.ref a3)))
    (l3 : K.lookup a3 = some ⟨oc3, od3, .func (PySem.W.fnOf "are_within" "are_within" (defArgs (top 4)) (defBody (top 4)) (defScope (top 4)) .none kV3 dc3 pm3 an3 cd3 ct3), sl3⟩)
    (c3 : PySem.W.codeIn K cd3 "are_within" = true)
    (k3 : PySem.W.keepIn K (.ref a3) = true)
    {a4 : Addr} {oc4 kV4 dc4 pm4 cd4 ct4 : Value} {od4 an4 : Option Addr} {sl4 : Array (Option Value)}
    (n4 : PySem.W.nsIn K mainGlobals "common_part" = some (some (.ref a4)))
    (l4 : K.lookup a4 = some ⟨oc4, od4, .func (PySem.W.fnOf "common_part" "common_part" (defArgs (top 5)) (defBody (top 5)) (defScope (top 5)) .none kV4 dc4 pm4 an4 cd4 ct4), sl4⟩)
    (c4 : PySem.W.codeIn K cd4 "common_part" = true)
    (k4 : PySem.W.keepIn K (.ref a4) = true)
    {a5 : Addr} {oc5 kV5 dc5 pm5 cd5 ct5 : Value} {od5 an5 : Option Addr} {sl5 : Array (Option Value)}
    (n5 : PySem.W.nsIn K mainGlobals "fraction" = some (some (.ref a5)))
    (l5 : K.lookup a5 = some ⟨oc5, od5, .func (PySem.W.fnOf "fraction" "fraction" (defArgs (top 6)) (defBody (top 6)) (defScope (top 6)) .none kV5 dc5 pm5 an5 cd5 ct5), sl5⟩)
    (c5 : PySem.W.codeIn K cd5 "fraction" = true)
    (k5 : PySem.W.keepIn K (.ref a5) = true)
    {a6 : Addr} {oc6 kV6 dc6 pm6 cd6 ct6 : Value} {od6 an6 : Option Addr} {sl6 : Array (Option Value)}
    (n6 : PySem.W.nsIn K mainGlobals "is_pair_of" = some (some (.ref a6)))
    (l6 : K.lookup a6 = some ⟨oc6, od6, .func (PySem.W.fnOf "is_pair_of" "is_pair_of" (defArgs (top 16)) (defBody (top 16)) (defScope (top 16)) .none kV6 dc6 pm6 an6 cd6 ct6), sl6⟩)
    (c6 : PySem.W.codeIn K cd6 "is_pair_of" = true)
    (k6 : PySem.W.keepIn K (.ref a6) = true)
    {a7 : Addr} {oc7 kV7 dc7 pm7 cd7 ct7 : Value} {od7 an7 : Option Addr} {sl7 : Array (Option Value)}
    (n7 : PySem.W.nsIn K mainGlobals "plus" = some (some (.ref a7)))
    (l7 : K.lookup a7 = some ⟨oc7, od7, .func (PySem.W.fnOf "plus" "plus" (defArgs (top 21)) (defBody (top 21)) (defScope (top 21)) .none kV7 dc7 pm7 an7 cd7 ct7), sl7⟩)
    (c7 : PySem.W.codeIn K cd7 "plus" = true)
    (k7 : PySem.W.keepIn K (.ref a7) = true)
    {a8 : Addr} {oc8 kV8 dc8 pm8 cd8 ct8 : Value} {od8 an8 : Option Addr} {sl8 : Array (Option Value)}
    (n8 : PySem.W.nsIn K mainGlobals "is_below" = some (some (.ref a8)))
    (l8 : K.lookup a8 = some ⟨oc8, od8, .func (PySem.W.fnOf "is_below" "is_below" (defArgs (top 22)) (defBody (top 22)) (defScope (top 22)) .none kV8 dc8 pm8 an8 cd8 ct8), sl8⟩)
    (c8 : PySem.W.codeIn K cd8 "is_below" = true)
    (k8 : PySem.W.keepIn K (.ref a8) = true)
    {a9 : Addr} {oc9 kV9 dc9 pm9 cd9 ct9 : Value} {od9 an9 : Option Addr} {sl9 : Array (Option Value)}
    (n9 : PySem.W.nsIn K mainGlobals "total_of" = some (some (.ref a9)))
    (l9 : K.lookup a9 = some ⟨oc9, od9, .func (PySem.W.fnOf "total_of" "total_of" (defArgs (top 23)) (defBody (top 23)) (defScope (top 23)) .none kV9 dc9 pm9 an9 cd9 ct9), sl9⟩)
    (c9 : PySem.W.codeIn K cd9 "total_of" = true)
    (k9 : PySem.W.keepIn K (.ref a9) = true)
    {a10 : Addr} {oc10 kV10 dc10 pm10 cd10 ct10 : Value} {od10 an10 : Option Addr} {sl10 : Array (Option Value)}
    (n10 : PySem.W.nsIn K mainGlobals "raw_expected" = some (some (.ref a10)))
    (l10 : K.lookup a10 = some ⟨oc10, od10, .func (PySem.W.fnOf "raw_expected" "raw_expected" (defArgs (top 24)) (defBody (top 24)) (defScope (top 24)) .none kV10 dc10 pm10 an10 cd10 ct10), sl10⟩)
    (c10 : PySem.W.codeIn K cd10 "raw_expected" = true)
    (k10 : PySem.W.keepIn K (.ref a10) = true)
    {a11 : Addr} {oc11 kV11 dc11 pm11 cd11 ct11 : Value} {od11 an11 : Option Addr} {sl11 : Array (Option Value)}
    (n11 : PySem.W.nsIn K mainGlobals "is_match" = some (some (.ref a11)))
    (l11 : K.lookup a11 = some ⟨oc11, od11, .func (PySem.W.fnOf "is_match" "is_match" (defArgs (top 31)) (defBody (top 31)) (defScope (top 31)) .none kV11 dc11 pm11 an11 cd11 ct11), sl11⟩)
    (c11 : PySem.W.codeIn K cd11 "is_match" = true)
    (k11 : PySem.W.keepIn K (.ref a11) = true)
    {a12 : Addr} {oc12 kV12 dc12 pm12 cd12 ct12 : Value} {od12 an12 : Option Addr} {sl12 : Array (Option Value)}
    (n12 : PySem.W.nsIn K mainGlobals "check_match" = some (some (.ref a12)))
    (l12 : K.lookup a12 = some ⟨oc12, od12, .func (PySem.W.fnOf "check_match" "check_match" (defArgs (top 32)) (defBody (top 32)) (defScope (top 32)) .none kV12 dc12 pm12 an12 cd12 ct12), sl12⟩)
    (c12 : PySem.W.codeIn K cd12 "check_match" = true)
    (k12 : PySem.W.keepIn K (.ref a12) = true)
    {a13 : Addr} {oc13 kV13 dc13 pm13 cd13 ct13 : Value} {od13 an13 : Option Addr} {sl13 : Array (Option Value)}
    (n13 : PySem.W.nsIn K mainGlobals "raw_board_points" = some (some (.ref a13)))
    (l13 : K.lookup a13 = some ⟨oc13, od13, .func (PySem.W.fnOf "raw_board_points" "raw_board_points" (defArgs (top 33)) (defBody (top 33)) (defScope (top 33)) .none kV13 dc13 pm13 an13 cd13 ct13), sl13⟩)
    (c13 : PySem.W.codeIn K cd13 "raw_board_points" = true)
    (k13 : PySem.W.keepIn K (.ref a13) = true)
    {a14 : Addr} {oc14 kV14 dc14 pm14 cd14 ct14 : Value} {od14 an14 : Option Addr} {sl14 : Array (Option Value)}
    (n14 : PySem.W.nsIn K mainGlobals "board_points" = some (some (.ref a14)))
    (l14 : K.lookup a14 = some ⟨oc14, od14, .func (PySem.W.fnOf "board_points" "board_points" (defArgs (top 34)) (defBody (top 34)) (defScope (top 34)) .none kV14 dc14 pm14 an14 cd14 ct14), sl14⟩)
    (c14 : PySem.W.codeIn K cd14 "board_points" = true)
    (k14 : PySem.W.keepIn K (.ref a14) = true)
    {a15 : Addr} {oc15 kV15 dc15 pm15 cd15 ct15 : Value} {od15 an15 : Option Addr} {sl15 : Array (Option Value)}
    (n15 : PySem.W.nsIn K mainGlobals "raw_match_points" = some (some (.ref a15)))
    (l15 : K.lookup a15 = some ⟨oc15, od15, .func (PySem.W.fnOf "raw_match_points" "raw_match_points" (defArgs (top 35)) (defBody (top 35)) (defScope (top 35)) .none kV15 dc15 pm15 an15 cd15 ct15), sl15⟩)
    (c15 : PySem.W.codeIn K cd15 "raw_match_points" = true)
    (k15 : PySem.W.keepIn K (.ref a15) = true)
    {a16 : Addr} {oc16 kV16 dc16 pm16 cd16 ct16 : Value} {od16 an16 : Option Addr} {sl16 : Array (Option Value)}
    (n16 : PySem.W.nsIn K mainGlobals "match_points" = some (some (.ref a16)))
    (l16 : K.lookup a16 = some ⟨oc16, od16, .func (PySem.W.fnOf "match_points" "match_points" (defArgs (top 36)) (defBody (top 36)) (defScope (top 36)) .none kV16 dc16 pm16 an16 cd16 ct16), sl16⟩)
    (c16 : PySem.W.codeIn K cd16 "match_points" = true)
    (k16 : PySem.W.keepIn K (.ref a16) = true)
    {a17 : Addr} {oc17 kV17 dc17 pm17 cd17 ct17 : Value} {od17 an17 : Option Addr} {sl17 : Array (Option Value)}
    (n17 : PySem.W.nsIn K mainGlobals "raw_berlin" = some (some (.ref a17)))
    (l17 : K.lookup a17 = some ⟨oc17, od17, .func (PySem.W.fnOf "raw_berlin" "raw_berlin" (defArgs (top 37)) (defBody (top 37)) (defScope (top 37)) .none kV17 dc17 pm17 an17 cd17 ct17), sl17⟩)
    (c17 : PySem.W.codeIn K cd17 "raw_berlin" = true)
    (k17 : PySem.W.keepIn K (.ref a17) = true)
    {a18 : Addr} {oc18 kV18 dc18 pm18 cd18 ct18 : Value} {od18 an18 : Option Addr} {sl18 : Array (Option Value)}
    (n18 : PySem.W.nsIn K mainGlobals "berlin" = some (some (.ref a18)))
    (l18 : K.lookup a18 = some ⟨oc18, od18, .func (PySem.W.fnOf "berlin" "berlin" (defArgs (top 38)) (defBody (top 38)) (defScope (top 38)) .none kV18 dc18 pm18 an18 cd18 ct18), sl18⟩)
    (c18 : PySem.W.codeIn K cd18 "berlin" = true)
    (k18 : PySem.W.keepIn K (.ref a18) = true)
    {a19 : Addr} {oc19 kV19 dc19 pm19 cd19 ct19 : Value} {od19 an19 : Option Addr} {sl19 : Array (Option Value)}
    (n19 : PySem.W.nsIn K mainGlobals "are_strengths" = some (some (.ref a19)))
    (l19 : K.lookup a19 = some ⟨oc19, od19, .func (PySem.W.fnOf "are_strengths" "are_strengths" (defArgs (top 39)) (defBody (top 39)) (defScope (top 39)) .none kV19 dc19 pm19 an19 cd19 ct19), sl19⟩)
    (c19 : PySem.W.codeIn K cd19 "are_strengths" = true)
    (k19 : PySem.W.keepIn K (.ref a19) = true)
    {a20 : Addr} {oc20 kV20 dc20 pm20 cd20 ct20 : Value} {od20 an20 : Option Addr} {sl20 : Array (Option Value)}
    (n20 : PySem.W.nsIn K mainGlobals "check_strengths" = some (some (.ref a20)))
    (l20 : K.lookup a20 = some ⟨oc20, od20, .func (PySem.W.fnOf "check_strengths" "check_strengths" (defArgs (top 40)) (defBody (top 40)) (defScope (top 40)) .none kV20 dc20 pm20 an20 cd20 ct20), sl20⟩)
    (c20 : PySem.W.codeIn K cd20 "check_strengths" = true)
    (k20 : PySem.W.keepIn K (.ref a20) = true)
    {a21 : Addr} {oc21 kV21 dc21 pm21 cd21 ct21 : Value} {od21 an21 : Option Addr} {sl21 : Array (Option Value)}
    (n21 : PySem.W.nsIn K mainGlobals "lots_of_size" = some (some (.ref a21)))
    (l21 : K.lookup a21 = some ⟨oc21, od21, .func (PySem.W.fnOf "lots_of_size" "lots_of_size" (defArgs (top 41)) (defBody (top 41)) (defScope (top 41)) .none kV21 dc21 pm21 an21 cd21 ct21), sl21⟩)
    (c21 : PySem.W.codeIn K cd21 "lots_of_size" = true)
    (k21 : PySem.W.keepIn K (.ref a21) = true)
    {a22 : Addr} {oc22 kV22 dc22 pm22 cd22 ct22 : Value} {od22 an22 : Option Addr} {sl22 : Array (Option Value)}
    (n22 : PySem.W.nsIn K mainGlobals "line_ups" = some (some (.ref a22)))
    (l22 : K.lookup a22 = some ⟨oc22, od22, .func (PySem.W.fnOf "line_ups" "line_ups" (defArgs (top 42)) (defBody (top 42)) (defScope (top 42)) .none kV22 dc22 pm22 an22 cd22 ct22), sl22⟩)
    (c22 : PySem.W.codeIn K cd22 "line_ups" = true)
    (k22 : PySem.W.keepIn K (.ref a22) = true)
    {a23 : Addr} {oc23 kV23 dc23 pm23 cd23 ct23 : Value} {od23 an23 : Option Addr} {sl23 : Array (Option Value)}
    (n23 : PySem.W.nsIn K mainGlobals "hope_of" = some (some (.ref a23)))
    (l23 : K.lookup a23 = some ⟨oc23, od23, .func (PySem.W.fnOf "hope_of" "hope_of" (defArgs (top 43)) (defBody (top 43)) (defScope (top 43)) .none kV23 dc23 pm23 an23 cd23 ct23), sl23⟩)
    (c23 : PySem.W.codeIn K cd23 "hope_of" = true)
    (k23 : PySem.W.keepIn K (.ref a23) = true)
    {a24 : Addr} {oc24 kV24 dc24 pm24 cd24 ct24 : Value} {od24 an24 : Option Addr} {sl24 : Array (Option Value)}
    (n24 : PySem.W.nsIn K mainGlobals "best_answer" = some (some (.ref a24)))
    (l24 : K.lookup a24 = some ⟨oc24, od24, .func (PySem.W.fnOf "best_answer" "best_answer" (defArgs (top 44)) (defBody (top 44)) (defScope (top 44)) .none kV24 dc24 pm24 an24 cd24 ct24), sl24⟩)
    (c24 : PySem.W.codeIn K cd24 "best_answer" = true)
    (k24 : PySem.W.keepIn K (.ref a24) = true)
    {a25 : Addr} {oc25 kV25 dc25 pm25 cd25 ct25 : Value} {od25 an25 : Option Addr} {sl25 : Array (Option Value)}
    (n25 : PySem.W.nsIn K mainGlobals "is_team_match" = some (some (.ref a25)))
    (l25 : K.lookup a25 = some ⟨oc25, od25, .func (PySem.W.fnOf "is_team_match" "is_team_match" (defArgs (top 45)) (defBody (top 45)) (defScope (top 45)) .none kV25 dc25 pm25 an25 cd25 ct25), sl25⟩)
    (c25 : PySem.W.codeIn K cd25 "is_team_match" = true)
    (k25 : PySem.W.keepIn K (.ref a25) = true)
    {a26 : Addr} {oc26 kV26 dc26 pm26 cd26 ct26 : Value} {od26 an26 : Option Addr} {sl26 : Array (Option Value)}
    (n26 : PySem.W.nsIn K mainGlobals "check_matches" = some (some (.ref a26)))
    (l26 : K.lookup a26 = some ⟨oc26, od26, .func (PySem.W.fnOf "check_matches" "check_matches" (defArgs (top 46)) (defBody (top 46)) (defScope (top 46)) .none kV26 dc26 pm26 an26 cd26 ct26), sl26⟩)
    (c26 : PySem.W.codeIn K cd26 "check_matches" = true)
    (k26 : PySem.W.keepIn K (.ref a26) = true)
    {a27 : Addr} {oc27 kV27 dc27 pm27 cd27 ct27 : Value} {od27 an27 : Option Addr} {sl27 : Array (Option Value)}
    (n27 : PySem.W.nsIn K mainGlobals "sums_by" = some (some (.ref a27)))
    (l27 : K.lookup a27 = some ⟨oc27, od27, .func (PySem.W.fnOf "sums_by" "sums_by" (defArgs (top 47)) (defBody (top 47)) (defScope (top 47)) .none kV27 dc27 pm27 an27 cd27 ct27), sl27⟩)
    (c27 : PySem.W.codeIn K cd27 "sums_by" = true)
    (k27 : PySem.W.keepIn K (.ref a27) = true)
    {a28 : Addr} {oc28 kV28 dc28 pm28 cd28 ct28 : Value} {od28 an28 : Option Addr} {sl28 : Array (Option Value)}
    (n28 : PySem.W.nsIn K mainGlobals "team_table" = some (some (.ref a28)))
    (l28 : K.lookup a28 = some ⟨oc28, od28, .func (PySem.W.fnOf "team_table" "team_table" (defArgs (top 48)) (defBody (top 48)) (defScope (top 48)) .none kV28 dc28 pm28 an28 cd28 ct28), sl28⟩)
    (c28 : PySem.W.codeIn K cd28 "team_table" = true)
    (k28 : PySem.W.keepIn K (.ref a28) = true)
    {a29 : Addr} {oc29 kV29 dc29 pm29 cd29 ct29 : Value} {od29 an29 : Option Addr} {sl29 : Array (Option Value)}
    (n29 : PySem.W.nsIn K mainGlobals "_law_hand" = some (some (.ref a29)))
    (l29 : K.lookup a29 = some ⟨oc29, od29, .func (PySem.W.fnOf "_law_hand" "_law_hand" (defArgs (top 50)) (defBody (top 50)) (defScope (top 50)) .none kV29 dc29 pm29 an29 cd29 ct29), sl29⟩)
    (c29 : PySem.W.codeIn K cd29 "_law_hand" = true)
    (k29 : PySem.W.keepIn K (.ref a29) = true)
    {a30 : Addr} {oc30 kV30 dc30 pm30 cd30 ct30 : Value} {od30 an30 : Option Addr} {sl30 : Array (Option Value)}
    (n30 : PySem.W.nsIn K mainGlobals "_law_draw" = some (some (.ref a30)))
    (l30 : K.lookup a30 = some ⟨oc30, od30, .func (PySem.W.fnOf "_law_draw" "_law_draw" (defArgs (top 51)) (defBody (top 51)) (defScope (top 51)) .none kV30 dc30 pm30 an30 cd30 ct30), sl30⟩)
    (c30 : PySem.W.codeIn K cd30 "_law_draw" = true)
    (k30 : PySem.W.keepIn K (.ref a30) = true)
    {a31 : Addr} {oc31 kV31 dc31 pm31 cd31 ct31 : Value} {od31 an31 : Option Addr} {sl31 : Array (Option Value)}
    (n31 : PySem.W.nsIn K mainGlobals "_law_some" = some (some (.ref a31)))
    (l31 : K.lookup a31 = some ⟨oc31, od31, .func (PySem.W.fnOf "_law_some" "_law_some" (defArgs (top 52)) (defBody (top 52)) (defScope (top 52)) .none kV31 dc31 pm31 an31 cd31 ct31), sl31⟩)
    (c31 : PySem.W.codeIn K cd31 "_law_some" = true)
    (k31 : PySem.W.keepIn K (.ref a31) = true)
    {a32 : Addr} {oc32 kV32 dc32 pm32 cd32 ct32 : Value} {od32 an32 : Option Addr} {sl32 : Array (Option Value)}
    (n32 : PySem.W.nsIn K mainGlobals "_law_is" = some (some (.ref a32)))
    (l32 : K.lookup a32 = some ⟨oc32, od32, .func (PySem.W.fnOf "_law_is" "_law_is" (defArgs (top 53)) (defBody (top 53)) (defScope (top 53)) .none kV32 dc32 pm32 an32 cd32 ct32), sl32⟩)
    (c32 : PySem.W.codeIn K cd32 "_law_is" = true)
    (k32 : PySem.W.keepIn K (.ref a32) = true)
    {a33 : Addr} {oc33 kV33 dc33 pm33 cd33 ct33 : Value} {od33 an33 : Option Addr} {sl33 : Array (Option Value)}
    (n33 : PySem.W.nsIn K mainGlobals "_law_deep" = some (some (.ref a33)))
    (l33 : K.lookup a33 = some ⟨oc33, od33, .func (PySem.W.fnOf "_law_deep" "_law_deep" (defArgs (top 54)) (defBody (top 54)) (defScope (top 54)) .none kV33 dc33 pm33 an33 cd33 ct33), sl33⟩)
    (c33 : PySem.W.codeIn K cd33 "_law_deep" = true)
    (k33 : PySem.W.keepIn K (.ref a33) = true)
    {a34 : Addr} {oc34 kV34 dc34 pm34 cd34 ct34 : Value} {od34 an34 : Option Addr} {sl34 : Array (Option Value)}
    (n34 : PySem.W.nsIn K mainGlobals "_law_word" = some (some (.ref a34)))
    (l34 : K.lookup a34 = some ⟨oc34, od34, .func (PySem.W.fnOf "_law_word" "_law_word" (defArgs (top 55)) (defBody (top 55)) (defScope (top 55)) .none kV34 dc34 pm34 an34 cd34 ct34), sl34⟩)
    (c34 : PySem.W.codeIn K cd34 "_law_word" = true)
    (k34 : PySem.W.keepIn K (.ref a34) = true)
    {a35 : Addr} {oc35 kV35 dc35 pm35 cd35 ct35 : Value} {od35 an35 : Option Addr} {sl35 : Array (Option Value)}
    (n35 : PySem.W.nsIn K mainGlobals "_law_low" = some (some (.ref a35)))
    (l35 : K.lookup a35 = some ⟨oc35, od35, .func (PySem.W.fnOf "_law_low" "_law_low" (defArgs (top 56)) (defBody (top 56)) (defScope (top 56)) .none kV35 dc35 pm35 an35 cd35 ct35), sl35⟩)
    (c35 : PySem.W.codeIn K cd35 "_law_low" = true)
    (k35 : PySem.W.keepIn K (.ref a35) = true)
    {a36 : Addr} {oc36 kV36 dc36 pm36 cd36 ct36 : Value} {od36 an36 : Option Addr} {sl36 : Array (Option Value)}
    (n36 : PySem.W.nsIn K mainGlobals "_law_plus" = some (some (.ref a36)))
    (l36 : K.lookup a36 = some ⟨oc36, od36, .func (PySem.W.fnOf "_law_plus" "_law_plus" (defArgs (top 57)) (defBody (top 57)) (defScope (top 57)) .none kV36 dc36 pm36 an36 cd36 ct36), sl36⟩)
    (c36 : PySem.W.codeIn K cd36 "_law_plus" = true)
    (k36 : PySem.W.keepIn K (.ref a36) = true)
    {a37 : Addr} {oc37 kV37 dc37 pm37 cd37 ct37 : Value} {od37 an37 : Option Addr} {sl37 : Array (Option Value)}
    (n37 : PySem.W.nsIn K mainGlobals "_law_expected" = some (some (.ref a37)))
    (l37 : K.lookup a37 = some ⟨oc37, od37, .func (PySem.W.fnOf "_law_expected" "_law_expected" (defArgs (top 58)) (defBody (top 58)) (defScope (top 58)) .none kV37 dc37 pm37 an37 cd37 ct37), sl37⟩)
    (c37 : PySem.W.codeIn K cd37 "_law_expected" = true)
    (k37 : PySem.W.keepIn K (.ref a37) = true)
    {a38 : Addr} {oc38 kV38 dc38 pm38 cd38 ct38 : Value} {od38 an38 : Option Addr} {sl38 : Array (Option Value)}
    (n38 : PySem.W.nsIn K mainGlobals "_law_rating" = some (some (.ref a38)))
    (l38 : K.lookup a38 = some ⟨oc38, od38, .func (PySem.W.fnOf "_law_rating" "_law_rating" (defArgs (top 59)) (defBody (top 59)) (defScope (top 59)) .none kV38 dc38 pm38 an38 cd38 ct38), sl38⟩)
    (c38 : PySem.W.codeIn K cd38 "_law_rating" = true)
    (k38 : PySem.W.keepIn K (.ref a38) = true)
    {a39 : Addr} {oc39 kV39 dc39 pm39 cd39 ct39 : Value} {od39 an39 : Option Addr} {sl39 : Array (Option Value)}
    (n39 : PySem.W.nsIn K mainGlobals "_law_lots_of" = some (some (.ref a39)))
    (l39 : K.lookup a39 = some ⟨oc39, od39, .func (PySem.W.fnOf "_law_lots_of" "_law_lots_of" (defArgs (top 60)) (defBody (top 60)) (defScope (top 60)) .none kV39 dc39 pm39 an39 cd39 ct39), sl39⟩)
    (c39 : PySem.W.codeIn K cd39 "_law_lots_of" = true)
    (k39 : PySem.W.keepIn K (.ref a39) = true)
    {a40 : Addr} {oc40 kV40 dc40 pm40 cd40 ct40 : Value} {od40 an40 : Option Addr} {sl40 : Array (Option Value)}
    (n40 : PySem.W.nsIn K mainGlobals "_law_strengths" = some (some (.ref a40)))
    (l40 : K.lookup a40 = some ⟨oc40, od40, .func (PySem.W.fnOf "_law_strengths" "_law_strengths" (defArgs (top 61)) (defBody (top 61)) (defScope (top 61)) .none kV40 dc40 pm40 an40 cd40 ct40), sl40⟩)
    (c40 : PySem.W.codeIn K cd40 "_law_strengths" = true)
    (k40 : PySem.W.keepIn K (.ref a40) = true)
    {a41 : Addr} {oc41 kV41 dc41 pm41 cd41 ct41 : Value} {od41 an41 : Option Addr} {sl41 : Array (Option Value)}
    (n41 : PySem.W.nsIn K mainGlobals "_law_flags" = some (some (.ref a41)))
    (l41 : K.lookup a41 = some ⟨oc41, od41, .func (PySem.W.fnOf "_law_flags" "_law_flags" (defArgs (top 62)) (defBody (top 62)) (defScope (top 62)) .none kV41 dc41 pm41 an41 cd41 ct41), sl41⟩)
    (c41 : PySem.W.codeIn K cd41 "_law_flags" = true)
    (k41 : PySem.W.keepIn K (.ref a41) = true)
    {a42 : Addr} {oc42 kV42 dc42 pm42 cd42 ct42 : Value} {od42 an42 : Option Addr} {sl42 : Array (Option Value)}
    (n42 : PySem.W.nsIn K mainGlobals "_law_worth" = some (some (.ref a42)))
    (l42 : K.lookup a42 = some ⟨oc42, od42, .func (PySem.W.fnOf "_law_worth" "_law_worth" (defArgs (top 63)) (defBody (top 63)) (defScope (top 63)) .none kV42 dc42 pm42 an42 cd42 ct42), sl42⟩)
    (c42 : PySem.W.codeIn K cd42 "_law_worth" = true)
    (k42 : PySem.W.keepIn K (.ref a42) = true)
    {a43 : Addr} {oc43 kV43 dc43 pm43 cd43 ct43 : Value} {od43 an43 : Option Addr} {sl43 : Array (Option Value)}
    (n43 : PySem.W.nsIn K mainGlobals "_law_is_right" = some (some (.ref a43)))
    (l43 : K.lookup a43 = some ⟨oc43, od43, .func (PySem.W.fnOf "_law_is_right" "_law_is_right" (defArgs (top 64)) (defBody (top 64)) (defScope (top 64)) .none kV43 dc43 pm43 an43 cd43 ct43), sl43⟩)
    (c43 : PySem.W.codeIn K cd43 "_law_is_right" = true)
    (k43 : PySem.W.keepIn K (.ref a43) = true)
    {a44 : Addr} {oc44 kV44 dc44 pm44 cd44 ct44 : Value} {od44 an44 : Option Addr} {sl44 : Array (Option Value)}
    (n44 : PySem.W.nsIn K mainGlobals "_law_is_refused" = some (some (.ref a44)))
    (l44 : K.lookup a44 = some ⟨oc44, od44, .func (PySem.W.fnOf "_law_is_refused" "_law_is_refused" (defArgs (top 65)) (defBody (top 65)) (defScope (top 65)) .none kV44 dc44 pm44 an44 cd44 ct44), sl44⟩)
    (c44 : PySem.W.codeIn K cd44 "_law_is_refused" = true)
    (k44 : PySem.W.keepIn K (.ref a44) = true)
    {a45 : Addr} {oc45 kV45 dc45 pm45 cd45 ct45 : Value} {od45 an45 : Option Addr} {sl45 : Array (Option Value)}
    (n45 : PySem.W.nsIn K mainGlobals "law" = some (some (.ref a45)))
    (l45 : K.lookup a45 = some ⟨oc45, od45, .func (PySem.W.fnOf "law" "law" (defArgs (top 66)) (defBody (top 66)) (defScope (top 66)) .none kV45 dc45 pm45 an45 cd45 ct45), sl45⟩)
    (c45 : PySem.W.codeIn K cd45 "law" = true)
    (k45 : PySem.W.keepIn K (.ref a45) = true)
    {p0 : Addr} {po0 : Option Addr} {pi0 : Array Value} {pn0 : Nat} {ps0 : Array (Option Value)}
    (gv0 : PySem.W.nsIn K mainGlobals "NOUGHT" = some (some (.ref p0)))
    (gl0 : K.lookup p0 = some ⟨.type "tuple", po0, .seq pi0 pn0, ps0⟩)
    (gw0 : intsV pi0.toList = some [0, 1])
    (gx0 : pi0.size ≤ 1000)
    {p1 : Addr} {po1 : Option Addr} {pi1 : Array Value} {pn1 : Nat} {ps1 : Array (Option Value)}
    (gv1 : PySem.W.nsIn K mainGlobals "WHOLE" = some (some (.ref p1)))
    (gl1 : K.lookup p1 = some ⟨.type "tuple", po1, .seq pi1 pn1, ps1⟩)
    (gw1 : intsV pi1.toList = some [1, 1])
    (gx1 : pi1.size ≤ 1000)
    {t2 : Tok}
    (gv2 : PySem.W.nsIn K mainGlobals "SPAN" = some (some (.int 800 t2)))
    {t3 : Tok}
    (gv3 : PySem.W.nsIn K mainGlobals "MOST_BOARDS" = some (some (.int 8 t3)))
    {t4 : Tok}
    (gv4 : PySem.W.nsIn K mainGlobals "MOST_POINTS" = some (some (.int 2 t4)))
    {t5 : Tok}
    (gv5 : PySem.W.nsIn K mainGlobals "MOST_STRENGTH" = some (some (.int 4000 t5)))
    {t6 : Tok}
    (gv6 : PySem.W.nsIn K mainGlobals "MOST_MATCHES" = some (some (.int 60 t6)))
    {t7 : Tok}
    (gv7 : PySem.W.nsIn K mainGlobals "MOST_TEAMS" = some (some (.int 12 t7)))
    {t8 : Tok}
    (gv8 : PySem.W.nsIn K mainGlobals "LEAST_TEAMS" = some (some (.int 2 t8)))
    (z0 : PySem.W.nsIn K mainGlobals "len" = some none)
    (z1 : PySem.W.nsIn K mainGlobals "abs" = some none)
    (z2 : PySem.W.nsIn K mainGlobals "int" = some none)
    (z3 : PySem.W.nsIn K mainGlobals "list" = some none)
    (z4 : PySem.W.nsIn K mainGlobals "tuple" = some none)
    (z5 : PySem.W.nsIn K mainGlobals "sum" = some none)
    (z6 : PySem.W.nsIn K mainGlobals "max" = some none)
    (z7 : PySem.W.nsIn K mainGlobals "min" = some none)
    (z8 : PySem.W.nsIn K mainGlobals "all" = some none)
    (z9 : PySem.W.nsIn K mainGlobals "any" = some none)
    (z10 : PySem.W.nsIn K mainGlobals "isinstance" = some none)
    (z11 : PySem.W.nsIn K mainGlobals "bool" = some none)
    (z12 : PySem.W.nsIn K mainGlobals "str" = some none)
    (z13 : PySem.W.nsIn K mainGlobals "dict" = some none)
    (z14 : PySem.W.nsIn K mainGlobals "range" = some none)
    (z15 : PySem.W.nsIn K mainGlobals "enumerate" = some none)
    (z16 : PySem.W.nsIn K mainGlobals "zip" = some none)
    (z17 : PySem.W.nsIn K mainGlobals "sorted" = some none)
    (z18 : PySem.W.nsIn K mainGlobals "repr" = some none)
    {b46 : Addr}
    (y46 : PySem.W.nsIn K mainGlobals "NoMatch" = some (some (.ref b46)))
    {b47 : Addr}
    (y47 : PySem.W.nsIn K mainGlobals "NoStrengths" = some (some (.ref b47)))
    {b48 : Addr}
    (y48 : PySem.W.nsIn K mainGlobals "NoBoards" = some (some (.ref b48)))
    {b49 : Addr}
    (y49 : PySem.W.nsIn K mainGlobals "NoMatches" = some (some (.ref b49)))
    {b50 : Addr}
    (y50 : PySem.W.nsIn K mainGlobals "NoTeams" = some (some (.ref b50)))
    {b51 : Addr}
    (y51 : PySem.W.nsIn K mainGlobals "ChessError" = some (some (.ref b51)))
    (y52 : PySem.W.nsIn K mainGlobals "ValueError" = some none)
    (sn : PySem.W.specialIn K (.builtin "object.__class__") "__get__" = some (some (.builtin "getset_descriptor.__get__")))
    (st : PySem.W.takesIn K (.builtin "object.__class__") = some true)
    (rc46 : PySem.W.subIn K (.ref b46) (.type "BaseException") = some true)
    (rd46 : PySem.W.typeIn K (.ref b46) = some (.type "type"))
    (rg46 : PySem.W.hasDictIn K b46 = true)
    (rc47 : PySem.W.subIn K (.ref b47) (.type "BaseException") = some true)
    (rd47 : PySem.W.typeIn K (.ref b47) = some (.type "type"))
    (rg47 : PySem.W.hasDictIn K b47 = true)
    (rc48 : PySem.W.subIn K (.ref b48) (.type "BaseException") = some true)
    (rd48 : PySem.W.typeIn K (.ref b48) = some (.type "type"))
    (rg48 : PySem.W.hasDictIn K b48 = true)
    (rc49 : PySem.W.subIn K (.ref b49) (.type "BaseException") = some true)
    (rd49 : PySem.W.typeIn K (.ref b49) = some (.type "type"))
    (rg49 : PySem.W.hasDictIn K b49 = true)
    (rc50 : PySem.W.subIn K (.ref b50) (.type "BaseException") = some true)
    (rd50 : PySem.W.typeIn K (.ref b50) = some (.type "type"))
    (rg50 : PySem.W.hasDictIn K b50 = true)
    (rc51 : PySem.W.subIn K (.ref b51) (.type "BaseException") = some true)
    (rd51 : PySem.W.typeIn K (.ref b51) = some (.type "type"))
    (rg51 : PySem.W.hasDictIn K b51 = true)
    (rc52 : PySem.W.subIn K (.type "ValueError") (.type "BaseException") = some true)
    (rp52 : PySem.W.kitMeta "ValueError" = true)
    (ra46 : PySem.W.keepIn K (.ref b46) = true)
    (rb46 : PySem.W.excIn K b46 [.type "ValueError", .type "Exception", .type "BaseException", .type "object"] "ValueError.__new__" = true)
    (re46 : PySem.W.findIn K (.ref b46) "__getattribute__" = some (some (.builtin "BaseException.__getattribute__")))
    (rf46 : PySem.W.findIn K (.ref b46) "__getattr__" = some none)
    (rh46 : PySem.W.findIn K (.ref b46) "__class__" = some (some (.builtin "object.__class__")))
    (ri46 : PySem.W.mroIn K b46 (.type "object") = some true)
    (rk46_46 : PySem.W.subIn K (.ref b46) (.ref b46) = some true)
    (rk46_47 : PySem.W.subIn K (.ref b46) (.ref b47) = some false)
    (rn46_47 : (Value.ref b46 == Value.ref b47) = false)
    (rk46_48 : PySem.W.subIn K (.ref b46) (.ref b48) = some false)
    (rn46_48 : (Value.ref b46 == Value.ref b48) = false)
    (rk46_49 : PySem.W.subIn K (.ref b46) (.ref b49) = some false)
    (rn46_49 : (Value.ref b46 == Value.ref b49) = false)
    (rk46_50 : PySem.W.subIn K (.ref b46) (.ref b50) = some false)
    (rn46_50 : (Value.ref b46 == Value.ref b50) = false)
    (rk46_51 : PySem.W.subIn K (.ref b46) (.ref b51) = some true)
    (rk46_52 : PySem.W.subIn K (.ref b46) (.type "ValueError") = some true)
    (ra47 : PySem.W.keepIn K (.ref b47) = true)
    (rb47 : PySem.W.excIn K b47 [.type "ValueError", .type "Exception", .type "BaseException", .type "object"] "ValueError.__new__" = true)
    (re47 : PySem.W.findIn K (.ref b47) "__getattribute__" = some (some (.builtin "BaseException.__getattribute__")))
    (rf47 : PySem.W.findIn K (.ref b47) "__getattr__" = some none)
    (rh47 : PySem.W.findIn K (.ref b47) "__class__" = some (some (.builtin "object.__class__")))
    (ri47 : PySem.W.mroIn K b47 (.type "object") = some true)
    (rk47_46 : PySem.W.subIn K (.ref b47) (.ref b46) = some false)
    (rn47_46 : (Value.ref b47 == Value.ref b46) = false)
    (rk47_47 : PySem.W.subIn K (.ref b47) (.ref b47) = some true)
    (rk47_48 : PySem.W.subIn K (.ref b47) (.ref b48) = some false)
    (rn47_48 : (Value.ref b47 == Value.ref b48) = false)
    (rk47_49 : PySem.W.subIn K (.ref b47) (.ref b49) = some false)
    (rn47_49 : (Value.ref b47 == Value.ref b49) = false)
    (rk47_50 : PySem.W.subIn K (.ref b47) (.ref b50) = some false)
    (rn47_50 : (Value.ref b47 == Value.ref b50) = false)
    (rk47_51 : PySem.W.subIn K (.ref b47) (.ref b51) = some true)
    (rk47_52 : PySem.W.subIn K (.ref b47) (.type "ValueError") = some true)
    (ra48 : PySem.W.keepIn K (.ref b48) = true)
    (rb48 : PySem.W.excIn K b48 [.type "ValueError", .type "Exception", .type "BaseException", .type "object"] "ValueError.__new__" = true)
    (re48 : PySem.W.findIn K (.ref b48) "__getattribute__" = some (some (.builtin "BaseException.__getattribute__")))
    (rf48 : PySem.W.findIn K (.ref b48) "__getattr__" = some none)
    (rh48 : PySem.W.findIn K (.ref b48) "__class__" = some (some (.builtin "object.__class__")))
    (ri48 : PySem.W.mroIn K b48 (.type "object") = some true)
    (rk48_46 : PySem.W.subIn K (.ref b48) (.ref b46) = some false)
    (rn48_46 : (Value.ref b48 == Value.ref b46) = false)
    (rk48_47 : PySem.W.subIn K (.ref b48) (.ref b47) = some false)
    (rn48_47 : (Value.ref b48 == Value.ref b47) = false)
    (rk48_48 : PySem.W.subIn K (.ref b48) (.ref b48) = some true)
    (rk48_49 : PySem.W.subIn K (.ref b48) (.ref b49) = some false)
    (rn48_49 : (Value.ref b48 == Value.ref b49) = false)
    (rk48_50 : PySem.W.subIn K (.ref b48) (.ref b50) = some false)
    (rn48_50 : (Value.ref b48 == Value.ref b50) = false)
    (rk48_51 : PySem.W.subIn K (.ref b48) (.ref b51) = some true)
    (rk48_52 : PySem.W.subIn K (.ref b48) (.type "ValueError") = some true)
    (ra49 : PySem.W.keepIn K (.ref b49) = true)
    (rb49 : PySem.W.excIn K b49 [.type "ValueError", .type "Exception", .type "BaseException", .type "object"] "ValueError.__new__" = true)
    (re49 : PySem.W.findIn K (.ref b49) "__getattribute__" = some (some (.builtin "BaseException.__getattribute__")))
    (rf49 : PySem.W.findIn K (.ref b49) "__getattr__" = some none)
    (rh49 : PySem.W.findIn K (.ref b49) "__class__" = some (some (.builtin "object.__class__")))
    (ri49 : PySem.W.mroIn K b49 (.type "object") = some true)
    (rk49_46 : PySem.W.subIn K (.ref b49) (.ref b46) = some false)
    (rn49_46 : (Value.ref b49 == Value.ref b46) = false)
    (rk49_47 : PySem.W.subIn K (.ref b49) (.ref b47) = some false)
    (rn49_47 : (Value.ref b49 == Value.ref b47) = false)
    (rk49_48 : PySem.W.subIn K (.ref b49) (.ref b48) = some false)
    (rn49_48 : (Value.ref b49 == Value.ref b48) = false)
    (rk49_49 : PySem.W.subIn K (.ref b49) (.ref b49) = some true)
    (rk49_50 : PySem.W.subIn K (.ref b49) (.ref b50) = some false)
    (rn49_50 : (Value.ref b49 == Value.ref b50) = false)
    (rk49_51 : PySem.W.subIn K (.ref b49) (.ref b51) = some true)
    (rk49_52 : PySem.W.subIn K (.ref b49) (.type "ValueError") = some true)
    (ra50 : PySem.W.keepIn K (.ref b50) = true)
    (rb50 : PySem.W.excIn K b50 [.type "ValueError", .type "Exception", .type "BaseException", .type "object"] "ValueError.__new__" = true)
    (re50 : PySem.W.findIn K (.ref b50) "__getattribute__" = some (some (.builtin "BaseException.__getattribute__")))
    (rf50 : PySem.W.findIn K (.ref b50) "__getattr__" = some none)
    (rh50 : PySem.W.findIn K (.ref b50) "__class__" = some (some (.builtin "object.__class__")))
    (ri50 : PySem.W.mroIn K b50 (.type "object") = some true)
    (rk50_46 : PySem.W.subIn K (.ref b50) (.ref b46) = some false)
    (rn50_46 : (Value.ref b50 == Value.ref b46) = false)
    (rk50_47 : PySem.W.subIn K (.ref b50) (.ref b47) = some false)
    (rn50_47 : (Value.ref b50 == Value.ref b47) = false)
    (rk50_48 : PySem.W.subIn K (.ref b50) (.ref b48) = some false)
    (rn50_48 : (Value.ref b50 == Value.ref b48) = false)
    (rk50_49 : PySem.W.subIn K (.ref b50) (.ref b49) = some false)
    (rn50_49 : (Value.ref b50 == Value.ref b49) = false)
    (rk50_50 : PySem.W.subIn K (.ref b50) (.ref b50) = some true)
    (rk50_51 : PySem.W.subIn K (.ref b50) (.ref b51) = some true)
    (rk50_52 : PySem.W.subIn K (.ref b50) (.type "ValueError") = some true)
    {tc tp : Addr}
    {tol : Value} {tdl : Option Addr} {tsm : Array (Option Value)} {tvs : Array Value}
    (te : cd44 = .ref tc)
    (tk : K.lookup tc = some ⟨tol, tdl, .fields tvs, tsm⟩)
    (tv : (tvs[11]? : Option Value) = some (.ref tp))
    (tm : tp ∈ ts)
    (tl : K.lookup tp = none)
    (th : PySem.W.codeHdIn K tc tp = true) : Top L K mg (TT L K) (XX L K) ∧ (∀ p ∈ tcs L K, p.2 ∈ ts ∧ K.lookup p.2 = none ∧ PySem.W.codeHdIn K p.1 p.2 = true) ∧ ∀ p ∈ (XX L K).tb, p.1 ∈ (tcs L K).map (·.2) := by
  have e0 : At K mg (TT L K) 0 f0 := at_mk (L := L) rfl X G n0 l0 c0 k0 fun us hl => match us, hl with | [_], _ => rfl
  have e1 : At K mg (TT L K) 1 f1 := at_mk (L := L) rfl X G n1 l1 c1 k1 fun us hl => match us, hl with | [_, _, _], _ => rfl
  have e2 : At K mg (TT L K) 2 f2 := at_mk (L := L) rfl X G n2 l2 c2 k2 fun us hl => match us, hl with | [_, _], _ => rfl
  have e3 : At K mg (TT L K) 3 f3 := at_mk (L := L) rfl X G n3 l3 c3 k3 fun us hl => match us, hl with | [_, _, _], _ => rfl
  have e4 : At K mg (TT L K) 4 f4 := at_mk (L := L) rfl X G n4 l4 c4 k4 fun us hl => match us, hl with | [_, _], _ => rfl
  have e5 : At K mg (TT L K) 5 f5 := at_mk (L := L) rfl X G n5 l5 c5 k5 fun us hl => match us, hl with | [_, _], _ => rfl
  have e6 : At K mg (TT L K) 6 f6 := at_mk (L := L) rfl X G n6 l6 c6 k6 fun us hl => match us, hl with | [_, _], _ => rfl
  have e7 : At K mg (TT L K) 7 f7 := at_mk (L := L) rfl X G n7 l7 c7 k7 fun us hl => match us, hl with | [_, _], _ => rfl
  have e8 : At K mg (TT L K) 8 f8 := at_mk (L := L) rfl X G n8 l8 c8 k8 fun us hl => match us, hl with | [_, _], _ => rfl
  have e9 : At K mg (TT L K) 9 f9 := at_mk (L := L) rfl X G n9 l9 c9 k9 fun us hl => match us, hl with | [_], _ => rfl
  have e10 : At K mg (TT L K) 10 f10 := at_mk (L := L) rfl X G n10 l10 c10 k10 fun us hl => match us, hl with | [_, _], _ => rfl
  have e11 : At K mg (TT L K) 11 f11 := at_mk (L := L) rfl X G n11 l11 c11 k11 fun us hl => match us, hl with | [_], _ => rfl
  have e12 : At K mg (TT L K) 12 f12 := at_mk (L := L) rfl X G n12 l12 c12 k12 fun us hl => match us, hl with | [_], _ => rfl
  have e13 : At K mg (TT L K) 13 f13 := at_mk (L := L) rfl X G n13 l13 c13 k13 fun us hl => match us, hl with | [_], _ => rfl
  have e14 : At K mg (TT L K) 14 f14 := at_mk (L := L) rfl X G n14 l14 c14 k14 fun us hl => match us, hl with | [_], _ => rfl
  have e15 : At K mg (TT L K) 15 f15 := at_mk (L := L) rfl X G n15 l15 c15 k15 fun us hl => match us, hl with | [_], _ => rfl
  have e16 : At K mg (TT L K) 16 f16 := at_mk (L := L) rfl X G n16 l16 c16 k16 fun us hl => match us, hl with | [_], _ => rfl
  have e17 : At K mg (TT L K) 17 f17 := at_mk (L := L) rfl X G n17 l17 c17 k17 fun us hl => match us, hl with | [_], _ => rfl
  have e18 : At K mg (TT L K) 18 f18 := at_mk (L := L) rfl X G n18 l18 c18 k18 fun us hl => match us, hl with | [_], _ => rfl
  have e19 : At K mg (TT L K) 19 f19 := at_mk (L := L) rfl X G n19 l19 c19 k19 fun us hl => match us, hl with | [_], _ => rfl
  have e20 : At K mg (TT L K) 20 f20 := at_mk (L := L) rfl X G n20 l20 c20 k20 fun us hl => match us, hl with | [_], _ => rfl
  have e21 : At K mg (TT L K) 21 f21 := at_mk (L := L) rfl X G n21 l21 c21 k21 fun us hl => match us, hl with | [_, _], _ => rfl
  have e22 : At K mg (TT L K) 22 f22 := at_mk (L := L) rfl X G n22 l22 c22 k22 fun us hl => match us, hl with | [_, _], _ => rfl
  have e23 : At K mg (TT L K) 23 f23 := at_mk (L := L) rfl X G n23 l23 c23 k23 fun us hl => match us, hl with | [_, _, _], _ => rfl
  have e24 : At K mg (TT L K) 24 f24 := at_mk (L := L) rfl X G n24 l24 c24 k24 fun us hl => match us, hl with | [_, _], _ => rfl
  have e25 : At K mg (TT L K) 25 f25 := at_mk (L := L) rfl X G n25 l25 c25 k25 fun us hl => match us, hl with | [_, _], _ => rfl
  have e26 : At K mg (TT L K) 26 f26 := at_mk (L := L) rfl X G n26 l26 c26 k26 fun us hl => match us, hl with | [_, _], _ => rfl
  have e27 : At K mg (TT L K) 27 f27 := at_mk (L := L) rfl X G n27 l27 c27 k27 fun us hl => match us, hl with | [_, _, _], _ => rfl
  have e28 : At K mg (TT L K) 28 f28 := at_mk (L := L) rfl X G n28 l28 c28 k28 fun us hl => match us, hl with | [_, _], _ => rfl
  have e29 : At K mg (TT L K) 29 f29 := at_mk (L := L) rfl X G n29 l29 c29 k29 fun us hl => match us, hl with | [_], _ => rfl
  have e30 : At K mg (TT L K) 30 f30 := at_mk (L := L) rfl X G n30 l30 c30 k30 fun us hl => match us, hl with | [_, _], _ => rfl
  have e31 : At K mg (TT L K) 31 f31 := at_mk (L := L) rfl X G n31 l31 c31 k31 fun us hl => match us, hl with | [_, _], _ => rfl
  have e32 : At K mg (TT L K) 32 f32 := at_mk (L := L) rfl X G n32 l32 c32 k32 fun us hl => match us, hl with | [_, _], _ => rfl
  have e33 : At K mg (TT L K) 33 f33 := at_mk (L := L) rfl X G n33 l33 c33 k33 fun us hl => match us, hl with | [_], _ => rfl
  have e34 : At K mg (TT L K) 34 f34 := at_mk (L := L) rfl X G n34 l34 c34 k34 fun us hl => match us, hl with | [_], _ => rfl
  have e35 : At K mg (TT L K) 35 f35 := at_mk (L := L) rfl X G n35 l35 c35 k35 fun us hl => match us, hl with | [_, _], _ => rfl
  have e36 : At K mg (TT L K) 36 f36 := at_mk (L := L) rfl X G n36 l36 c36 k36 fun us hl => match us, hl with | [_, _], _ => rfl
  have e37 : At K mg (TT L K) 37 f37 := at_mk (L := L) rfl X G n37 l37 c37 k37 fun us hl => match us, hl with | [_, _], _ => rfl
  have e38 : At K mg (TT L K) 38 f38 := at_mk (L := L) rfl X G n38 l38 c38 k38 fun us hl => match us, hl with | [_], _ => rfl
  have e39 : At K mg (TT L K) 39 f39 := at_mk (L := L) rfl X G n39 l39 c39 k39 fun us hl => match us, hl with | [_, _], _ => rfl
  have e40 : At K mg (TT L K) 40 f40 := at_mk (L := L) rfl X G n40 l40 c40 k40 fun us hl => match us, hl with | [_, _], _ => rfl
  have e41 : At K mg (TT L K) 41 f41 := at_mk (L := L) rfl X G n41 l41 c41 k41 fun us hl => match us, hl with | [_], _ => rfl
  have e42 : At K mg (TT L K) 42 f42 := at_mk (L := L) rfl X G n42 l42 c42 k42 fun us hl => match us, hl with | [_, _, _], _ => rfl
  have e43 : At K mg (TT L K) 43 f43 := at_mk (L := L) rfl X G n43 l43 c43 k43 fun us hl => match us, hl with | [_], _ => rfl
  have e44 : At K mg (TT L K) 44 f44 := at_mk (L := L) rfl X G n44 l44 c44 k44 fun us hl => match us, hl with | [_], _ => rfl
  have e45 : At K mg (TT L K) 45 f45 := at_mk (L := L) rfl X G n45 l45 c45 k45 fun us hl => match us, hl with | [_], _ => rfl
  have u46 : TT L K 46 = some b46 := tt_cls rfl rfl y46
  have v46 : (XX L K).cv 46 = .ref b46 := cv_cls u46
  have u47 : TT L K 47 = some b47 := tt_cls rfl rfl y47
  have v47 : (XX L K).cv 47 = .ref b47 := cv_cls u47
  have u48 : TT L K 48 = some b48 := tt_cls rfl rfl y48
  have v48 : (XX L K).cv 48 = .ref b48 := cv_cls u48
  have u49 : TT L K 49 = some b49 := tt_cls rfl rfl y49
  have v49 : (XX L K).cv 49 = .ref b49 := cv_cls u49
  have u50 : TT L K 50 = some b50 := tt_cls rfl rfl y50
  have v50 : (XX L K).cv 50 = .ref b50 := cv_cls u50
  have u51 : TT L K 51 = some b51 := tt_cls rfl rfl y51
  have v51 : (XX L K).cv 51 = .ref b51 := cv_cls u51
  have v52 : (XX L K).cv 52 = .type "ValueError" := cv_bi rfl rfl y52 rfl
  have tb9 := tb_one (L := L) (ts := ts) (d := f44) rfl (tab_mk n44 l44 te tk tv) tm tl th
  refine ⟨⟨fun i d e => ?_, fun n x d e => ?_, fun x hx => ?_, ⟨fun x n hm => ?_, fun n hn => ?_⟩, fun x n hm => ?_, tb9.1, tb9.2.1⟩, tb9.2.2, tb_sub L K⟩
  · match i, e with
    | 0, e => cases e; exact e0
    | 1, e => cases e; exact e1
    | 2, e => cases e; exact e2
    | 3, e => cases e; exact e3
    | 4, e => cases e; exact e4
    | 5, e => cases e; exact e5
    | 6, e => cases e; exact e6
    | 7, e => cases e; exact e7
    | 8, e => cases e; exact e8
    | 9, e => cases e; exact e9
    | 10, e => cases e; exact e10
    | 11, e => cases e; exact e11
    | 12, e => cases e; exact e12
    | 13, e => cases e; exact e13
    | 14, e => cases e; exact e14
    | 15, e => cases e; exact e15
    | 16, e => cases e; exact e16
    | 17, e => cases e; exact e17
    | 18, e => cases e; exact e18
    | 19, e => cases e; exact e19
    | 20, e => cases e; exact e20
    | 21, e => cases e; exact e21
    | 22, e => cases e; exact e22
    | 23, e => cases e; exact e23
    | 24, e => cases e; exact e24
    | 25, e => cases e; exact e25
    | 26, e => cases e; exact e26
    | 27, e => cases e; exact e27
    | 28, e => cases e; exact e28
    | 29, e => cases e; exact e29
    | 30, e => cases e; exact e30
    | 31, e => cases e; exact e31
    | 32, e => cases e; exact e32
    | 33, e => cases e; exact e33
    | 34, e => cases e; exact e34
    | 35, e => cases e; exact e35
    | 36, e => cases e; exact e36
    | 37, e => cases e; exact e37
    | 38, e => cases e; exact e38
    | 39, e => cases e; exact e39
    | 40, e => cases e; exact e40
    | 41, e => cases e; exact e41
    | 42, e => cases e; exact e42
    | 43, e => cases e; exact e43
    | 44, e => cases e; exact e44
    | 45, e => cases e; exact e45
    | _ + 46, e => cases e
  · match n, e with
    | 0, e => cases e; exact gtup_mk X G gv0 gl0 gw0 gx0
    | 1, e => cases e; exact gtup_mk X G gv1 gl1 gw1 gx1
    | 2, e => cases e; exact gi_mk X G gv2
    | 3, e => cases e; exact gi_mk X G gv3
    | 4, e => cases e; exact gi_mk X G gv4
    | 5, e => cases e; exact gi_mk X G gv5
    | 6, e => cases e; exact gi_mk X G gv6
    | 7, e => cases e; exact gi_mk X G gv7
    | 8, e => cases e; exact gi_mk X G gv8
    | _ + 9, e => cases e
  · unfold biNames at hx
    (simp only [List.mem_cons, List.not_mem_nil, or_false] at hx)
    rcases hx with rfl | rfl | rfl | rfl | rfl | rfl | rfl | rfl | rfl | rfl | rfl | rfl | rfl | rfl | rfl | rfl | rfl | rfl | rfl
    · exact PySem.W.mg_none_of X G z0
    · exact PySem.W.mg_none_of X G z1
    · exact PySem.W.mg_none_of X G z2
    · exact PySem.W.mg_none_of X G z3
    · exact PySem.W.mg_none_of X G z4
    · exact PySem.W.mg_none_of X G z5
    · exact PySem.W.mg_none_of X G z6
    · exact PySem.W.mg_none_of X G z7
    · exact PySem.W.mg_none_of X G z8
    · exact PySem.W.mg_none_of X G z9
    · exact PySem.W.mg_none_of X G z10
    · exact PySem.W.mg_none_of X G z11
    · exact PySem.W.mg_none_of X G z12
    · exact PySem.W.mg_none_of X G z13
    · exact PySem.W.mg_none_of X G z14
    · exact PySem.W.mg_none_of X G z15
    · exact PySem.W.mg_none_of X G z16
    · exact PySem.W.mg_none_of X G z17
    · exact PySem.W.mg_none_of X G z18
  · simp only [L, List.mem_cons, List.not_mem_nil, or_false, Prod.mk.injEq] at hm
    rcases hm with ⟨rfl, rfl⟩ | ⟨rfl, rfl⟩ | ⟨rfl, rfl⟩ | ⟨rfl, rfl⟩ | ⟨rfl, rfl⟩ | ⟨rfl, rfl⟩ | ⟨rfl, rfl⟩
    · exact .inl ⟨by rw [v46]; exact PySem.W.mg_of X G y46, _, v46⟩
    · exact .inl ⟨by rw [v47]; exact PySem.W.mg_of X G y47, _, v47⟩
    · exact .inl ⟨by rw [v48]; exact PySem.W.mg_of X G y48, _, v48⟩
    · exact .inl ⟨by rw [v49]; exact PySem.W.mg_of X G y49, _, v49⟩
    · exact .inl ⟨by rw [v50]; exact PySem.W.mg_of X G y50, _, v50⟩
    · exact .inl ⟨by rw [v51]; exact PySem.W.mg_of X G y51, _, v51⟩
    · exact .inr ⟨PySem.W.mg_none_of X G y52, by rw [v52]; rfl, by decide, _, v52⟩
  · simp only [L, List.mem_cons, List.not_mem_nil, or_false] at hn
    rcases hn with rfl | rfl | rfl | rfl | rfl
    · refine ⟨b46, u46, rfl, ⟨re46, rf46, rc46, rg46, rh46, sn, st, ri46⟩, fun x m hm => ?_⟩
      simp only [L, List.mem_cons, List.not_mem_nil, or_false, Prod.mk.injEq] at hm
      rcases hm with ⟨rfl, rfl⟩ | ⟨rfl, rfl⟩ | ⟨rfl, rfl⟩ | ⟨rfl, rfl⟩ | ⟨rfl, rfl⟩ | ⟨rfl, rfl⟩ | ⟨rfl, rfl⟩
      · rw [v46]; exact ⟨kit_ref rg46 rd46 rk46_46 (.inl rfl), PySem.W.exm_ref rc46 rg46 rd46 rk46_46⟩
      · rw [v47]; exact ⟨kit_ref rg47 rd47 rk46_47 (.inr rn46_47), PySem.W.exm_ref rc47 rg47 rd47 rk46_47⟩
      · rw [v48]; exact ⟨kit_ref rg48 rd48 rk46_48 (.inr rn46_48), PySem.W.exm_ref rc48 rg48 rd48 rk46_48⟩
      · rw [v49]; exact ⟨kit_ref rg49 rd49 rk46_49 (.inr rn46_49), PySem.W.exm_ref rc49 rg49 rd49 rk46_49⟩
      · rw [v50]; exact ⟨kit_ref rg50 rd50 rk46_50 (.inr rn46_50), PySem.W.exm_ref rc50 rg50 rd50 rk46_50⟩
      · rw [v51]; exact ⟨kit_ref rg51 rd51 rk46_51 (.inl rfl), PySem.W.exm_ref rc51 rg51 rd51 rk46_51⟩
      · rw [v52]; exact ⟨kit_ty2 rp52 rk46_52, exm_ty2 rc52 rp52 rk46_52⟩
    · refine ⟨b47, u47, rfl, ⟨re47, rf47, rc47, rg47, rh47, sn, st, ri47⟩, fun x m hm => ?_⟩
      simp only [L, List.mem_cons, List.not_mem_nil, or_false, Prod.mk.injEq] at hm
      rcases hm with ⟨rfl, rfl⟩ | ⟨rfl, rfl⟩ | ⟨rfl, rfl⟩ | ⟨rfl, rfl⟩ | ⟨rfl, rfl⟩ | ⟨rfl, rfl⟩ | ⟨rfl, rfl⟩
      · rw [v46]; exact ⟨kit_ref rg46 rd46 rk47_46 (.inr rn47_46), PySem.W.exm_ref rc46 rg46 rd46 rk47_46⟩
      · rw [v47]; exact ⟨kit_ref rg47 rd47 rk47_47 (.inl rfl), PySem.W.exm_ref rc47 rg47 rd47 rk47_47⟩
      · rw [v48]; exact ⟨kit_ref rg48 rd48 rk47_48 (.inr rn47_48), PySem.W.exm_ref rc48 rg48 rd48 rk47_48⟩
      · rw [v49]; exact ⟨kit_ref rg49 rd49 rk47_49 (.inr rn47_49), PySem.W.exm_ref rc49 rg49 rd49 rk47_49⟩
      · rw [v50]; exact ⟨kit_ref rg50 rd50 rk47_50 (.inr rn47_50), PySem.W.exm_ref rc50 rg50 rd50 rk47_50⟩
      · rw [v51]; exact ⟨kit_ref rg51 rd51 rk47_51 (.inl rfl), PySem.W.exm_ref rc51 rg51 rd51 rk47_51⟩
      · rw [v52]; exact ⟨kit_ty2 rp52 rk47_52, exm_ty2 rc52 rp52 rk47_52⟩
    · refine ⟨b48, u48, rfl, ⟨re48, rf48, rc48, rg48, rh48, sn, st, ri48⟩, fun x m hm => ?_⟩
      simp only [L, List.mem_cons, List.not_mem_nil, or_false, Prod.mk.injEq] at hm
      rcases hm with ⟨rfl, rfl⟩ | ⟨rfl, rfl⟩ | ⟨rfl, rfl⟩ | ⟨rfl, rfl⟩ | ⟨rfl, rfl⟩ | ⟨rfl, rfl⟩ | ⟨rfl, rfl⟩
      · rw [v46]; exact ⟨kit_ref rg46 rd46 rk48_46 (.inr rn48_46), PySem.W.exm_ref rc46 rg46 rd46 rk48_46⟩
      · rw [v47]; exact ⟨kit_ref rg47 rd47 rk48_47 (.inr rn48_47), PySem.W.exm_ref rc47 rg47 rd47 rk48_47⟩
      · rw [v48]; exact ⟨kit_ref rg48 rd48 rk48_48 (.inl rfl), PySem.W.exm_ref rc48 rg48 rd48 rk48_48⟩
      · rw [v49]; exact ⟨kit_ref rg49 rd49 rk48_49 (.inr rn48_49), PySem.W.exm_ref rc49 rg49 rd49 rk48_49⟩
      · rw [v50]; exact ⟨kit_ref rg50 rd50 rk48_50 (.inr rn48_50), PySem.W.exm_ref rc50 rg50 rd50 rk48_50⟩
      · rw [v51]; exact ⟨kit_ref rg51 rd51 rk48_51 (.inl rfl), PySem.W.exm_ref rc51 rg51 rd51 rk48_51⟩
      · rw [v52]; exact ⟨kit_ty2 rp52 rk48_52, exm_ty2 rc52 rp52 rk48_52⟩
    · refine ⟨b49, u49, rfl, ⟨re49, rf49, rc49, rg49, rh49, sn, st, ri49⟩, fun x m hm => ?_⟩
      simp only [L, List.mem_cons, List.not_mem_nil, or_false, Prod.mk.injEq] at hm
      rcases hm with ⟨rfl, rfl⟩ | ⟨rfl, rfl⟩ | ⟨rfl, rfl⟩ | ⟨rfl, rfl⟩ | ⟨rfl, rfl⟩ | ⟨rfl, rfl⟩ | ⟨rfl, rfl⟩
      · rw [v46]; exact ⟨kit_ref rg46 rd46 rk49_46 (.inr rn49_46), PySem.W.exm_ref rc46 rg46 rd46 rk49_46⟩
      · rw [v47]; exact ⟨kit_ref rg47 rd47 rk49_47 (.inr rn49_47), PySem.W.exm_ref rc47 rg47 rd47 rk49_47⟩
      · rw [v48]; exact ⟨kit_ref rg48 rd48 rk49_48 (.inr rn49_48), PySem.W.exm_ref rc48 rg48 rd48 rk49_48⟩
      · rw [v49]; exact ⟨kit_ref rg49 rd49 rk49_49 (.inl rfl), PySem.W.exm_ref rc49 rg49 rd49 rk49_49⟩
      · rw [v50]; exact ⟨kit_ref rg50 rd50 rk49_50 (.inr rn49_50), PySem.W.exm_ref rc50 rg50 rd50 rk49_50⟩
      · rw [v51]; exact ⟨kit_ref rg51 rd51 rk49_51 (.inl rfl), PySem.W.exm_ref rc51 rg51 rd51 rk49_51⟩
      · rw [v52]; exact ⟨kit_ty2 rp52 rk49_52, exm_ty2 rc52 rp52 rk49_52⟩
    · refine ⟨b50, u50, rfl, ⟨re50, rf50, rc50, rg50, rh50, sn, st, ri50⟩, fun x m hm => ?_⟩
      simp only [L, List.mem_cons, List.not_mem_nil, or_false, Prod.mk.injEq] at hm
      rcases hm with ⟨rfl, rfl⟩ | ⟨rfl, rfl⟩ | ⟨rfl, rfl⟩ | ⟨rfl, rfl⟩ | ⟨rfl, rfl⟩ | ⟨rfl, rfl⟩ | ⟨rfl, rfl⟩
      · rw [v46]; exact ⟨kit_ref rg46 rd46 rk50_46 (.inr rn50_46), PySem.W.exm_ref rc46 rg46 rd46 rk50_46⟩
      · rw [v47]; exact ⟨kit_ref rg47 rd47 rk50_47 (.inr rn50_47), PySem.W.exm_ref rc47 rg47 rd47 rk50_47⟩
      · rw [v48]; exact ⟨kit_ref rg48 rd48 rk50_48 (.inr rn50_48), PySem.W.exm_ref rc48 rg48 rd48 rk50_48⟩
      · rw [v49]; exact ⟨kit_ref rg49 rd49 rk50_49 (.inr rn50_49), PySem.W.exm_ref rc49 rg49 rd49 rk50_49⟩
      · rw [v50]; exact ⟨kit_ref rg50 rd50 rk50_50 (.inl rfl), PySem.W.exm_ref rc50 rg50 rd50 rk50_50⟩
      · rw [v51]; exact ⟨kit_ref rg51 rd51 rk50_51 (.inl rfl), PySem.W.exm_ref rc51 rg51 rd51 rk50_51⟩
      · rw [v52]; exact ⟨kit_ty2 rp52 rk50_52, exm_ty2 rc52 rp52 rk50_52⟩
  · simp only [L, List.mem_cons, List.not_mem_nil, or_false, Prod.mk.injEq] at hm
    rcases hm with ⟨rfl, rfl⟩ | ⟨rfl, rfl⟩ | ⟨rfl, rfl⟩ | ⟨rfl, rfl⟩ | ⟨rfl, rfl⟩
    · exact ⟨b46, PySem.W.mg_of X G y46, ra46, rb46, rc46, rd46, u46, rfl⟩
    · exact ⟨b47, PySem.W.mg_of X G y47, ra47, rb47, rc47, rd47, u47, rfl⟩
    · exact ⟨b48, PySem.W.mg_of X G y48, ra48, rb48, rc48, rd48, u48, rfl⟩
    · exact ⟨b49, PySem.W.mg_of X G y49, ra49, rb49, rc49, rd49, u49, rfl⟩
    · exact ⟨b50, PySem.W.mg_of X G y50, ra50, rb50, rc50, rd50, u50, rfl⟩
end
theorem all_ok : ∀ d ∈ L.fds, d.ok L = true := by
  intro d hd
  simp only [L, List.mem_cons, List.not_mem_nil, or_false] at hd
  rcases hd with rfl | rfl | rfl | rfl | rfl | rfl | rfl | rfl | rfl | rfl | rfl | rfl | rfl | rfl | rfl | rfl | rfl | rfl | rfl | rfl | rfl | rfl | rfl | rfl | rfl | rfl | rfl | rfl | rfl | rfl | rfl | rfl | rfl | rfl | rfl | rfl | rfl | rfl | rfl | rfl | rfl | rfl | rfl | rfl | rfl | rfl
  · exact ok0
  · exact ok1
  · exact ok2
  · exact ok3
  · exact ok4
  · exact ok5
  · exact ok6
  · exact ok7
  · exact ok8
  · exact ok9
  · exact ok10
  · exact ok11
  · exact ok12
  · exact ok13
  · exact ok14
  · exact ok15
  · exact ok16
  · exact ok17
  · exact ok18
  · exact ok19
  · exact ok20
  · exact ok21
  · exact ok22
  · exact ok23
  · exact ok24
  · exact ok25
  · exact ok26
  · exact ok27
  · exact ok28
  · exact ok29
  · exact ok30
  · exact ok31
  · exact ok32
  · exact ok33
  · exact ok34
  · exact ok35
  · exact ok36
  · exact ok37
  · exact ok38
  · exact ok39
  · exact ok40
  · exact ok41
  · exact ok42
  · exact ok43
  · exact ok44
  · exact ok45
end K77
open PyProof.Rows PySem PySem.W
set_option maxHeartbeats 0 in
theorem PySem.Challenge.cw_chessroom_k77_whole_line_ups_and_teams_r_holds : PySem.Challenge.rw_chessroom_k77_whole_line_ups_and_teams_r.Holds := by
  w_on
  o_law
  k_head
  (case hw => w_witness2)
  k_fill
  refine DV.law_walk (l := PySem.Challenge.rw_chessroom_k77_whole_line_ups_and_teams_r) K77.L 60 45 K77.f45 (DV.TT K77.L) (DV.XX K77.L) _ rfl rfl ⟨rfl, by decide, by decide⟩ (fun w h Y => ⟨PySem.W.km_in_of Y, PySem.W.km_tabs_of Y⟩) rfl rfl rfl rfl K77.all_ok ?top K77.plain
  case top =>
    intro w mg h KX G
    refine' K77.all_mk KX G ?n0 ?l0 ?c0 ?k0 ?n1 ?l1 ?c1 ?k1 ?n2 ?l2 ?c2 ?k2 ?n3 ?l3 ?c3 ?k3 ?n4 ?l4 ?c4 ?k4 ?n5 ?l5 ?c5 ?k5 ?n6 ?l6 ?c6 ?k6 ?n7 ?l7 ?c7 ?k7 ?n8 ?l8 ?c8 ?k8 ?n9 ?l9 ?c9 ?k9 ?n10 ?l10 ?c10 ?k10 ?n11 ?l11 ?c11 ?k11 ?n12 ?l12 ?c12 ?k12 ?n13 ?l13 ?c13 ?k13 ?n14 ?l14 ?c14 ?k14 ?n15 ?l15 ?c15 ?k15 ?n16 ?l16 ?c16 ?k16 ?n17 ?l17 ?c17 ?k17 ?n18 ?l18 ?c18 ?k18 ?n19 ?l19 ?c19 ?k19 ?n20 ?l20 ?c20 ?k20 ?n21 ?l21 ?c21 ?k21 ?n22 ?l22 ?c22 ?k22 ?n23 ?l23 ?c23 ?k23 ?n24 ?l24 ?c24 ?k24 ?n25 ?l25 ?c25 ?k25 ?n26 ?l26 ?c26 ?k26 ?n27 ?l27 ?c27 ?k27 ?n28 ?l28 ?c28 ?k28 ?n29 ?l29 ?c29 ?k29 ?n30 ?l30 ?c30 ?k30 ?n31 ?l31 ?c31 ?k31 ?n32 ?l32 ?c32 ?k32 ?n33 ?l33 ?c33 ?k33 ?n34 ?l34 ?c34 ?k34 ?n35 ?l35 ?c35 ?k35 ?n36 ?l36 ?c36 ?k36 ?n37 ?l37 ?c37 ?k37 ?n38 ?l38 ?c38 ?k38 ?n39 ?l39 ?c39 ?k39 ?n40 ?l40 ?c40 ?k40 ?n41 ?l41 ?c41 ?k41 ?n42 ?l42 ?c42 ?k42 ?n43 ?l43 ?c43 ?k43 ?n44 ?l44 ?c44 ?k44 ?n45 ?l45 ?c45 ?k45 ?gv0 ?gl0 ?gw0 ?gx0 ?gv1 ?gl1 ?gw1 ?gx1 ?gv2 ?gv3 ?gv4 ?gv5 ?gv6 ?gv7 ?gv8 ?z0 ?z1 ?z2 ?z3 ?z4 ?z5 ?z6 ?z7 ?z8 ?z9 ?z10 ?z11 ?z12 ?z13 ?z14 ?z15 ?z16 ?z17 ?z18 ?y46 ?y47 ?y48 ?y49 ?y50 ?y51 ?y52 ?sn ?st ?rc46 ?rd46 ?rg46 ?rc47 ?rd47 ?rg47 ?rc48 ?rd48 ?rg48 ?rc49 ?rd49 ?rg49 ?rc50 ?rd50 ?rg50 ?rc51 ?rd51 ?rg51 ?rc52 ?rp52 ?ra46 ?rb46 ?re46 ?rf46 ?rh46 ?ri46 ?rk46_46 ?rk46_47 ?rn46_47 ?rk46_48 ?rn46_48 ?rk46_49 ?rn46_49 ?rk46_50 ?rn46_50 ?rk46_51 ?rk46_52 ?ra47 ?rb47 ?re47 ?rf47 ?rh47 ?ri47 ?rk47_46 ?rn47_46 ?rk47_47 ?rk47_48 ?rn47_48 ?rk47_49 ?rn47_49 ?rk47_50 ?rn47_50 ?rk47_51 ?rk47_52 ?ra48 ?rb48 ?re48 ?rf48 ?rh48 ?ri48 ?rk48_46 ?rn48_46 ?rk48_47 ?rn48_47 ?rk48_48 ?rk48_49 ?rn48_49 ?rk48_50 ?rn48_50 ?rk48_51 ?rk48_52 ?ra49 ?rb49 ?re49 ?rf49 ?rh49 ?ri49 ?rk49_46 ?rn49_46 ?rk49_47 ?rn49_47 ?rk49_48 ?rn49_48 ?rk49_49 ?rk49_50 ?rn49_50 ?rk49_51 ?rk49_52 ?ra50 ?rb50 ?re50 ?rf50 ?rh50 ?ri50 ?rk50_46 ?rn50_46 ?rk50_47 ?rn50_47 ?rk50_48 ?rn50_48 ?rk50_49 ?rn50_49 ?rk50_50 ?rk50_51 ?rk50_52 ?te ?tk ?tv ?tm ?tl ?th
    (case n0 => k_is)
    (case l0 => k_is)
    (case c0 => k_is)
    (case k0 => k_is)
    (case n1 => k_is)
    (case l1 => k_is)
    (case c1 => k_is)
    (case k1 => k_is)
    (case n2 => k_is)
    (case l2 => k_is)
    (case c2 => k_is)
    (case k2 => k_is)
    (case n3 => k_is)
    (case l3 => k_is)
    (case c3 => k_is)
    (case k3 => k_is)
    (case n4 => k_is)
    (case l4 => k_is)
    (case c4 => k_is)
    (case k4 => k_is)
    (case n5 => k_is)
    (case l5 => k_is)
    (case c5 => k_is)
    (case k5 => k_is)
    (case n6 => k_is)
    (case l6 => k_is)
    (case c6 => k_is)
    (case k6 => k_is)
    (case n7 => k_is)
    (case l7 => k_is)
    (case c7 => k_is)
    (case k7 => k_is)
    (case n8 => k_is)
    (case l8 => k_is)
    (case c8 => k_is)
    (case k8 => k_is)
    (case n9 => k_is)
    (case l9 => k_is)
    (case c9 => k_is)
    (case k9 => k_is)
    (case n10 => k_is)
    (case l10 => k_is)
    (case c10 => k_is)
    (case k10 => k_is)
    (case n11 => k_is)
    (case l11 => k_is)
    (case c11 => k_is)
    (case k11 => k_is)
    (case n12 => k_is)
    (case l12 => k_is)
    (case c12 => k_is)
    (case k12 => k_is)
    (case n13 => k_is)
    (case l13 => k_is)
    (case c13 => k_is)
    (case k13 => k_is)
    (case n14 => k_is)
    (case l14 => k_is)
    (case c14 => k_is)
    (case k14 => k_is)
    (case n15 => k_is)
    (case l15 => k_is)
    (case c15 => k_is)
    (case k15 => k_is)
    (case n16 => k_is)
    (case l16 => k_is)
    (case c16 => k_is)
    (case k16 => k_is)
    (case n17 => k_is)
    (case l17 => k_is)
    (case c17 => k_is)
    (case k17 => k_is)
    (case n18 => k_is)
    (case l18 => k_is)
    (case c18 => k_is)
    (case k18 => k_is)
    (case n19 => k_is)
    (case l19 => k_is)
    (case c19 => k_is)
    (case k19 => k_is)
    (case n20 => k_is)
    (case l20 => k_is)
    (case c20 => k_is)
    (case k20 => k_is)
    (case n21 => k_is)
    (case l21 => k_is)
    (case c21 => k_is)
    (case k21 => k_is)
    (case n22 => k_is)
    (case l22 => k_is)
    (case c22 => k_is)
    (case k22 => k_is)
    (case n23 => k_is)
    (case l23 => k_is)
    (case c23 => k_is)
    (case k23 => k_is)
    (case n24 => k_is)
    (case l24 => k_is)
    (case c24 => k_is)
    (case k24 => k_is)
    (case n25 => k_is)
    (case l25 => k_is)
    (case c25 => k_is)
    (case k25 => k_is)
    (case n26 => k_is)
    (case l26 => k_is)
    (case c26 => k_is)
    (case k26 => k_is)
    (case n27 => k_is)
    (case l27 => k_is)
    (case c27 => k_is)
    (case k27 => k_is)
    (case n28 => k_is)
    (case l28 => k_is)
    (case c28 => k_is)
    (case k28 => k_is)
    (case n29 => k_is)
    (case l29 => k_is)
    (case c29 => k_is)
    (case k29 => k_is)
    (case n30 => k_is)
    (case l30 => k_is)
    (case c30 => k_is)
    (case k30 => k_is)
    (case n31 => k_is)
    (case l31 => k_is)
    (case c31 => k_is)
    (case k31 => k_is)
    (case n32 => k_is)
    (case l32 => k_is)
    (case c32 => k_is)
    (case k32 => k_is)
    (case n33 => k_is)
    (case l33 => k_is)
    (case c33 => k_is)
    (case k33 => k_is)
    (case n34 => k_is)
    (case l34 => k_is)
    (case c34 => k_is)
    (case k34 => k_is)
    (case n35 => k_is)
    (case l35 => k_is)
    (case c35 => k_is)
    (case k35 => k_is)
    (case n36 => k_is)
    (case l36 => k_is)
    (case c36 => k_is)
    (case k36 => k_is)
    (case n37 => k_is)
    (case l37 => k_is)
    (case c37 => k_is)
    (case k37 => k_is)
    (case n38 => k_is)
    (case l38 => k_is)
    (case c38 => k_is)
    (case k38 => k_is)
    (case n39 => k_is)
    (case l39 => k_is)
    (case c39 => k_is)
    (case k39 => k_is)
    (case n40 => k_is)
    (case l40 => k_is)
    (case c40 => k_is)
    (case k40 => k_is)
    (case n41 => k_is)
    (case l41 => k_is)
    (case c41 => k_is)
    (case k41 => k_is)
    (case n42 => k_is)
    (case l42 => k_is)
    (case c42 => k_is)
    (case k42 => k_is)
    (case n43 => k_is)
    (case l43 => k_is)
    (case c43 => k_is)
    (case k43 => k_is)
    (case n44 => k_is)
    (case l44 => k_is)
    (case c44 => k_is)
    (case k44 => k_is)
    (case n45 => k_is)
    (case l45 => k_is)
    (case c45 => k_is)
    (case k45 => k_is)
    (case gv0 => k_is)
    (case gl0 => k_is)
    (case gw0 => rfl)
    (case gx0 => decide)
    (case gv1 => k_is)
    (case gl1 => k_is)
    (case gw1 => rfl)
    (case gx1 => decide)
    (case gv2 => k_is)
    (case gv3 => k_is)
    (case gv4 => k_is)
    (case gv5 => k_is)
    (case gv6 => k_is)
    (case gv7 => k_is)
    (case gv8 => k_is)
    (case z0 => k_is)
    (case z1 => k_is)
    (case z2 => k_is)
    (case z3 => k_is)
    (case z4 => k_is)
    (case z5 => k_is)
    (case z6 => k_is)
    (case z7 => k_is)
    (case z8 => k_is)
    (case z9 => k_is)
    (case z10 => k_is)
    (case z11 => k_is)
    (case z12 => k_is)
    (case z13 => k_is)
    (case z14 => k_is)
    (case z15 => k_is)
    (case z16 => k_is)
    (case z17 => k_is)
    (case z18 => k_is)
    (case y46 => k_is)
    (case y47 => k_is)
    (case y48 => k_is)
    (case y49 => k_is)
    (case y50 => k_is)
    (case y51 => k_is)
    (case y52 => k_is)
    (case sn => k_is)
    (case st => k_is)
    (case rc46 => k_is)
    (case rd46 => k_is)
    (case rg46 => k_is)
    (case rc47 => k_is)
    (case rd47 => k_is)
    (case rg47 => k_is)
    (case rc48 => k_is)
    (case rd48 => k_is)
    (case rg48 => k_is)
    (case rc49 => k_is)
    (case rd49 => k_is)
    (case rg49 => k_is)
    (case rc50 => k_is)
    (case rd50 => k_is)
    (case rg50 => k_is)
    (case rc51 => k_is)
    (case rd51 => k_is)
    (case rg51 => k_is)
    (case rc52 => k_is)
    (case rp52 => decide +kernel)
    (case ra46 => k_is)
    (case rb46 => k_exc)
    (case re46 => k_is)
    (case rf46 => k_is)
    (case rh46 => k_is)
    (case ri46 => k_is)
    (case rk46_46 => k_is)
    (case rk46_47 => k_is)
    (case rn46_47 => rfl)
    (case rk46_48 => k_is)
    (case rn46_48 => rfl)
    (case rk46_49 => k_is)
    (case rn46_49 => rfl)
    (case rk46_50 => k_is)
    (case rn46_50 => rfl)
    (case rk46_51 => k_is)
    (case rk46_52 => k_is)
    (case ra47 => k_is)
    (case rb47 => k_exc)
    (case re47 => k_is)
    (case rf47 => k_is)
    (case rh47 => k_is)
    (case ri47 => k_is)
    (case rk47_46 => k_is)
    (case rn47_46 => rfl)
    (case rk47_47 => k_is)
    (case rk47_48 => k_is)
    (case rn47_48 => rfl)
    (case rk47_49 => k_is)
    (case rn47_49 => rfl)
    (case rk47_50 => k_is)
    (case rn47_50 => rfl)
    (case rk47_51 => k_is)
    (case rk47_52 => k_is)
    (case ra48 => k_is)
    (case rb48 => k_exc)
    (case re48 => k_is)
    (case rf48 => k_is)
    (case rh48 => k_is)
    (case ri48 => k_is)
    (case rk48_46 => k_is)
    (case rn48_46 => rfl)
    (case rk48_47 => k_is)
    (case rn48_47 => rfl)
    (case rk48_48 => k_is)
    (case rk48_49 => k_is)
    (case rn48_49 => rfl)
    (case rk48_50 => k_is)
    (case rn48_50 => rfl)
    (case rk48_51 => k_is)
    (case rk48_52 => k_is)
    (case ra49 => k_is)
    (case rb49 => k_exc)
    (case re49 => k_is)
    (case rf49 => k_is)
    (case rh49 => k_is)
    (case ri49 => k_is)
    (case rk49_46 => k_is)
    (case rn49_46 => rfl)
    (case rk49_47 => k_is)
    (case rn49_47 => rfl)
    (case rk49_48 => k_is)
    (case rn49_48 => rfl)
    (case rk49_49 => k_is)
    (case rk49_50 => k_is)
    (case rn49_50 => rfl)
    (case rk49_51 => k_is)
    (case rk49_52 => k_is)
    (case ra50 => k_is)
    (case rb50 => k_exc)
    (case re50 => k_is)
    (case rf50 => k_is)
    (case rh50 => k_is)
    (case ri50 => k_is)
    (case rk50_46 => k_is)
    (case rn50_46 => rfl)
    (case rk50_47 => k_is)
    (case rn50_47 => rfl)
    (case rk50_48 => k_is)
    (case rn50_48 => rfl)
    (case rk50_49 => k_is)
    (case rn50_49 => rfl)
    (case rk50_50 => k_is)
    (case rk50_51 => k_is)
    (case rk50_52 => k_is)
    (case te => rfl)
    (case tk => k_is)
    (case tv => rfl)
    (case tm => decide)
    (case tl => rfl)
    (case th => rfl)
