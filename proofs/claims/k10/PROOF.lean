import PyProof.Rows.All
import Wide.All
import OpenK.AllK
import Wide.FinOn
import HandS.ForMost
import HandS.Exc
import HandS.TryOnly
import HandS.ExcOwn
import HandS.WordsExc
import HandS.IsInst
import HandS.Zip
import HandS.Rev
import KE.DataFind
import HandS.TupAny
import HandS.RevTup
import HandS.ExcIs
import HandS.More
import HandS.TupLe
import PySem.Challenge.RW_wordfractions_k10_last_steps_all
set_option Elab.async false
set_option linter.all false
set_option maxRecDepth 100000
namespace Dl
open PySem L2

/-! ## values without addresses of tuples; the store of what may change -/
inductive D where
  | non | bl (b : Bool) | int (i : Int) | str (x : Str) | tup (xs : List D) | ref (l : Nat) | raw (v : V)
  deriving Inhabited

inductive Cell where
  | lst (xs : List D) | rol (xs : List D) | dic (kvs : List (Key × D)) | gone
  deriving Inhabited
def Cell.mut : Cell → Bool
  | .lst _ => true
  | .dic _ => true
  | _ => false
abbrev Store := List Cell
structure Exn where
  name : Str
  fs : List (Str × D)
inductive R (α : Type) where
  | ok (a : α) (S : Store) | ex (x : Exn) (S : Store) | no
abbrev Env := List (Option D)
abbrev M (α : Type) := Store → R α
def R.bind {α β : Type} : R α → (α → Store → R β) → R β
  | .ok a S, k => k a S
  | .ex x S, _ => .ex x S
  | .no, _ => .no
@[simp] theorem R.bind_ok {α β : Type} (a : α) (S : Store) (k : α → Store → R β) : (R.ok a S).bind k = k a S := rfl
@[simp] theorem R.bind_ex {α β : Type} (x : Exn) (S : Store) (k : α → Store → R β) : (R.ex x S).bind k = .ex x S := rfl
@[simp] theorem R.bind_no {α β : Type} (k : α → Store → R β) : (R.no).bind k = .no := rfl
abbrev EX := Env → Store → R D
abbrev TX := Env → Store → R Bool
abbrev AX := Env → Store → R (List D)
inductive Out where
  | nx (ρ : Env) (S : Store) | rt (d : D) (S : Store) | bk (ρ : Env) (S : Store) | ct (ρ : Env) (S : Store) | ex (x : Exn) (ρ : Env) (S : Store) | no
abbrev SX := Env → Store → Out
/-- an expression's outcome within a statement -/
def R.out {α : Type} (ρ : Env) : R α → (α → Store → Out) → Out
  | .ok a S, k => k a S
  | .ex x S, _ => .ex x ρ S
  | .no, _ => .no
@[simp] theorem R.out_ok {α : Type} (ρ : Env) (a : α) (S : Store) (k : α → Store → Out) : (R.ok a S).out ρ k = k a S := rfl
@[simp] theorem R.out_ex {α : Type} (ρ : Env) (x : Exn) (S : Store) (k : α → Store → Out) : (R.ex (α := α) x S).out ρ k = .ex x ρ S := rfl
@[simp] theorem R.out_no {α : Type} (ρ : Env) (k : α → Store → Out) : (R.no (α := α)).out ρ k = .no := rfl

/-! ## how they stand in the heap -/
/-- a tuple without a dict of its own -/
def TupAt (K : PySem.W.Frag) (H : Hp) (a : Addr) (vs : List V) : Prop :=
  (∃ o, H a = some (.frz o (.tup vs)) ∧ o.cls = .type "tuple" ∧ o.dict = none) ∨
    ∃ (o : Obj) (its : Array Value) (n : Nat), K.lookup a = some o ∧ o.cls = .type "tuple" ∧ o.dict = none ∧ o.data = .seq its n ∧ its.size ≤ sizeLine ∧ Vals vs its.toList
theorem TupAt.sq {K : PySem.W.Frag} {H : Hp} {a : Addr} {vs : List V} (h : TupAt K H a vs) : SqT K H a vs := by
  rcases h with ⟨o, h, _⟩ | ⟨o, its, n, h1, h2, _, h3, h4, h5⟩
  · exact .inl (.inr ⟨o, h⟩)
  · exact .inr ⟨o, its, n, h1, h2, h3, h4, h5⟩
/-- a list that nobody may write -/
def RolAt (K : PySem.W.Frag) (H : Hp) (a : Addr) (vs : List V) : Prop :=
  (∃ o, H a = some (.frz o (.lst vs))) ∨
    ∃ (o : Obj) (its : Array Value) (n : Nat), K.lookup a = some o ∧ o.cls = .type "list" ∧ o.dict = none ∧ o.data = .seq its n ∧ its.size ≤ sizeLine ∧ Vals vs its.toList
theorem RolAt.sq {K : PySem.W.Frag} {H : Hp} {a : Addr} {vs : List V} (h : RolAt K H a vs) : SqL K H a vs := by
  rcases h with ⟨o, h⟩ | h
  · exact .inl (.inr ⟨o, h⟩)
  · exact .inr h
mutual
inductive RD (K : PySem.W.Frag) (m : List Addr) (H : Hp) : V → D → Prop
  | non : RD K m H .non .non
  | bl (b : Bool) : RD K m H (.bl b) (.bl b)
  | int (i : Int) : RD K m H (.int i) (.int i)
  | str {x : Str} (h : x.length ≤ 16777216) : RD K m H (.str x) (.str x)
  | tup {a : Addr} {vs : List V} {ds : List D} (h : TupAt K H a vs) (r : RDs K m H vs ds) : RD K m H (.ref a) (.tup ds)
  | ref {a : Addr} {l : Nat} (h : m[l]? = some a) : RD K m H (.ref a) (.ref l)
  | raw (v : V) : RD K m H v (.raw v)
inductive RDs (K : PySem.W.Frag) (m : List Addr) (H : Hp) : List V → List D → Prop
  | nil : RDs K m H [] []
  | cons {v : V} {d : D} {vs : List V} {ds : List D} (h : RD K m H v d) (t : RDs K m H vs ds) : RDs K m H (v :: vs) (d :: ds)
end
structure Ext (K : PySem.W.Frag) (m : List Addr) (H : Hp) (m' : List Addr) (H' : Hp) : Prop where
  pre : ∃ r, m' = m ++ r
  tup : ∀ a vs, TupAt K H a vs → TupAt K H' a vs
theorem Ext.refl {K : PySem.W.Frag} {m : List Addr} {H : Hp} : Ext K m H m H := ⟨⟨[], by simp⟩, fun _ _ h => h⟩
theorem Ext.trans {K : PySem.W.Frag} {m m1 m2 : List Addr} {H H1 H2 : Hp} (a : Ext K m H m1 H1) (b : Ext K m1 H1 m2 H2) : Ext K m H m2 H2 := by
  obtain ⟨⟨r, e⟩, t⟩ := a
  obtain ⟨⟨r', e'⟩, t'⟩ := b
  exact ⟨⟨r ++ r', by rw [e', e, List.append_assoc]⟩, fun x vs h => t' x vs (t x vs h)⟩
theorem Ext.at {K : PySem.W.Frag} {m m' : List Addr} {H H' : Hp} (e : Ext K m H m' H') {l : Nat} {a : Addr} (h : m[l]? = some a) : m'[l]? = some a := by
  obtain ⟨⟨r, e⟩, _⟩ := e
  rw [e, List.getElem?_append_left (List.getElem?_eq_some_iff.mp h).1]
  exact h
theorem Ext.len {K : PySem.W.Frag} {m m' : List Addr} {H H' : Hp} (e : Ext K m H m' H') : m.length ≤ m'.length := by
  obtain ⟨⟨r, e⟩, _⟩ := e
  rw [e, List.length_append]
  exact Nat.le_add_right _ _
section
variable {K : PySem.W.Frag} {m m' : List Addr} {H H' : Hp}
mutual
theorem RD.mono (e : Ext K m H m' H') : ∀ {v : V} {d : D}, RD K m H v d → RD K m' H' v d
  | _, _, .non => .non
  | _, _, .bl b => .bl b
  | _, _, .int i => .int i
  | _, _, .str h => .str h
  | _, _, .tup h r => .tup (e.tup _ _ h) (RDs.mono e r)
  | _, _, .ref h => .ref (e.at h)
  | _, _, .raw v => .raw v
theorem RDs.mono (e : Ext K m H m' H') : ∀ {vs : List V} {ds : List D}, RDs K m H vs ds → RDs K m' H' vs ds
  | _, _, .nil => .nil
  | _, _, .cons h t => .cons (RD.mono e h) (RDs.mono e t)
end
theorem RDs.length : ∀ {vs : List V} {ds : List D}, RDs K m H vs ds → vs.length = ds.length
  | _, _, .nil => rfl
  | _, _, .cons _ t => congrArg Nat.succ (RDs.length t)
theorem RDs.get : ∀ {vs : List V} {ds : List D} {i : Nat} {d : D}, RDs K m H vs ds → ds[i]? = some d → ∃ v, vs[i]? = some v ∧ RD K m H v d
  | _, _, _, _, .nil, e => by simp at e
  | _, _, 0, _, .cons h _, e => by simp at e; subst e; exact ⟨_, rfl, h⟩
  | _, _, i + 1, d, .cons _ t, e => by
    obtain ⟨v, h1, h2⟩ := RDs.get (i := i) (d := d) t (by simpa using e)
    exact ⟨v, by simpa using h1, h2⟩
theorem RDs.append : ∀ {vs ws : List V} {ds es : List D}, RDs K m H vs ds → RDs K m H ws es → RDs K m H (vs ++ ws) (ds ++ es)
  | _, _, _, _, .nil, s => s
  | _, _, _, _, .cons h t, s => .cons h (RDs.append t s)
theorem RDs.one {v : V} {d : D} (h : RD K m H v d) : RDs K m H [v] [d] := .cons h .nil
theorem RDs.take : ∀ {vs : List V} {ds : List D} (n : Nat), RDs K m H vs ds → RDs K m H (vs.take n) (ds.take n)
  | _, _, 0, _ => .nil
  | _, _, _ + 1, .nil => .nil
  | _, _, n + 1, .cons h t => .cons h (RDs.take n t)
theorem RDs.drop : ∀ {vs : List V} {ds : List D} (n : Nat), RDs K m H vs ds → RDs K m H (vs.drop n) (ds.drop n)
  | _, _, 0, r => r
  | _, _, _ + 1, .nil => .nil
  | _, _, n + 1, .cons _ t => RDs.drop n t
theorem RDs.set {v : V} {d : D} (h : RD K m H v d) : ∀ {vs : List V} {ds : List D} (i : Nat), RDs K m H vs ds → RDs K m H (vs.set i v) (ds.set i d)
  | _, _, _, .nil => .nil
  | _, _, 0, .cons _ t => .cons h t
  | _, _, i + 1, .cons q t => .cons q (RDs.set h i t)
theorem RDs.reverse : ∀ {vs : List V} {ds : List D}, RDs K m H vs ds → RDs K m H vs.reverse ds.reverse
  | _, _, .nil => .nil
  | _, _, .cons h t => by
    rw [List.reverse_cons, List.reverse_cons]
    exact (RDs.reverse t).append (.one h)
theorem RDs.dropLast {vs : List V} {ds : List D} (r : RDs K m H vs ds) : RDs K m H vs.dropLast ds.dropLast := by
  rw [List.dropLast_eq_take, List.dropLast_eq_take, r.length]
  exact r.take _
theorem RDs.eraseIdx : ∀ {vs : List V} {ds : List D} (i : Nat), RDs K m H vs ds → RDs K m H (vs.eraseIdx i) (ds.eraseIdx i)
  | _, _, _, .nil => .nil
  | _, _, 0, .cons _ t => t
  | _, _, i + 1, .cons q t => .cons q (RDs.eraseIdx i t)
end

def CellOk (K : PySem.W.Frag) (m : List Addr) (H : Hp) (a : Addr) : Cell → Prop
  | .lst xs => ∃ vs, H a = some (.lst vs) ∧ RDs K m H vs xs
  | .rol xs => ∃ vs, RolAt K H a vs ∧ RDs K m H vs xs
  | .dic kvs => ∃ ws : List (Key × V), H a = some (.dK ws) ∧ ws.map (·.1) = kvs.map (·.1) ∧ RDs K m H (ws.map (·.2)) (kvs.map (·.2))
  | .gone => True
structure RS (K : PySem.W.Frag) (m : List Addr) (H : Hp) (S : Store) : Prop where
  len : m.length = S.length
  at_ : ∀ {l : Nat} {a : Addr} {c : Cell}, m[l]? = some a → S[l]? = some c → CellOk K m H a c
  inj : ∀ {l l' : Nat} {a : Addr} {c c' : Cell}, m[l]? = some a → m[l']? = some a → S[l]? = some c → S[l']? = some c' → c.mut = true → c'.mut = true → l = l'
/-- a cell that is read as a list -/
def lstAt (S : Store) (l : Nat) : Option (List D) := match S[l]? with
  | some (.lst xs) => some xs
  | some (.rol xs) => some xs
  | _ => none
section
variable {K : PySem.W.Frag} {m m' : List Addr} {H H' : Hp} {S : Store}
theorem RS.addr (r : RS K m H S) {l : Nat} (h : l < S.length) : ∃ a, m[l]? = some a := by
  rw [← r.len] at h
  exact ⟨m[l], List.getElem?_eq_getElem h⟩
theorem RS.lst (r : RS K m H S) {l : Nat} {a : Addr} {xs : List D} (h : m[l]? = some a) (e : lstAt S l = some xs) : ∃ vs, SqL K H a vs ∧ RDs K m H vs xs := by
  unfold lstAt at e
  split at e
  · cases e
    obtain ⟨vs, h1, h2⟩ := r.at_ h ‹_›
    exact ⟨vs, SqL.of h1, h2⟩
  · cases e
    obtain ⟨vs, h1, h2⟩ := r.at_ h ‹_›
    exact ⟨vs, h1.sq, h2⟩
  · cases e
theorem RS.wlst (r : RS K m H S) {l : Nat} {a : Addr} {xs : List D} (h : m[l]? = some a) (e : S[l]? = some (.lst xs)) : ∃ vs, H a = some (.lst vs) ∧ RDs K m H vs xs := r.at_ h e
theorem CellOk.mono {a : Addr} {c : Cell} (e : Ext K m H m' H') (h : CellOk K m H a c) (k : c.mut = true → H' a = H a) (kr : ∀ vs, RolAt K H a vs → RolAt K H' a vs) : CellOk K m' H' a c := by
  cases c with
  | lst xs =>
    obtain ⟨vs, h1, h2⟩ := h
    exact ⟨vs, by rw [k rfl]; exact h1, h2.mono e⟩
  | rol xs =>
    obtain ⟨vs, h1, h2⟩ := h
    exact ⟨vs, kr _ h1, h2.mono e⟩
  | dic kvs =>
    obtain ⟨ws, h1, h2, h3⟩ := h
    exact ⟨ws, by rw [k rfl]; exact h1, h2, h3.mono e⟩
  | gone => trivial
/-- a cell that changes is tracked as such -/
theorem CellOk.some {a : Addr} {c : Cell} (h : CellOk K m H a c) (k : c.mut = true) : ∃ o, H a = Option.some o ∧ ∀ ob u, o ≠ .frz ob u := by
  cases c with
  | lst xs => obtain ⟨vs, h1, _⟩ := h; exact ⟨_, h1, fun _ _ z => nomatch z⟩
  | dic kvs => obtain ⟨vs, h1, _⟩ := h; exact ⟨_, h1, fun _ _ z => nomatch z⟩
  | rol xs => cases k
  | gone => cases k
/-- what stood frozen is untouched by a new object -/
theorem tup_new {p : Addr} {o : HO} (hp : H p = none) : ∀ a vs, TupAt K H a vs → TupAt K (upd H p o) a vs := fun a vs h => by
  rcases h with ⟨ob, h, d⟩ | h
  · exact .inl ⟨ob, by rw [upd_ne (ne_of_none h hp)]; exact h, d⟩
  · exact .inr h
theorem rol_new {p : Addr} {o : HO} (hp : H p = none) : ∀ a vs, RolAt K H a vs → RolAt K (upd H p o) a vs := fun a vs h => by
  rcases h with ⟨ob, h⟩ | h
  · exact .inl ⟨ob, by rw [upd_ne (ne_of_none h hp)]; exact h⟩
  · exact .inr h
theorem tup_upd {p : Addr} {o u : HO} (hp : H p = some u) (hu : ∀ ob w, u ≠ .frz ob w) : ∀ a vs, TupAt K H a vs → TupAt K (upd H p o) a vs := fun a vs h => by
  rcases h with ⟨ob, h, d⟩ | h
  · exact .inl ⟨ob, by rw [upd_ne (ne_of h hp (fun z => hu _ _ z.symm))]; exact h, d⟩
  · exact .inr h
theorem rol_upd {p : Addr} {o u : HO} (hp : H p = some u) (hu : ∀ ob w, u ≠ .frz ob w) : ∀ a vs, RolAt K H a vs → RolAt K (upd H p o) a vs := fun a vs h => by
  rcases h with ⟨ob, h⟩ | h
  · exact .inl ⟨ob, by rw [upd_ne (ne_of h hp (fun z => hu _ _ z.symm))]; exact h⟩
  · exact .inr h
/-- a new object that the store does not know -/
theorem RS.new (r : RS K m H S) {p : Addr} {o : HO} (hp : H p = none) : Ext K m H m (upd H p o) ∧ RS K m (upd H p o) S := by
  have e : Ext K m H m (upd H p o) := ⟨⟨[], by simp⟩, tup_new hp⟩
  refine ⟨e, r.len, fun {l a c} h1 h2 => (r.at_ h1 h2).mono e (fun k => ?_) (rol_new hp _), r.inj⟩
  obtain ⟨u, h, _⟩ := (r.at_ h1 h2).some k
  rw [upd_ne (ne_of_none h hp)]
/-- a new cell -/
theorem RS.push (r : RS K m H S) {p : Addr} {o : HO} {c : Cell} (hp : H p = none) (hc : ∀ m', Ext K m H m' (upd H p o) → CellOk K m' (upd H p o) p c) : Ext K m H (m ++ [p]) (upd H p o) ∧ RS K (m ++ [p]) (upd H p o) (S ++ [c]) := by
  have e : Ext K m H (m ++ [p]) (upd H p o) := ⟨⟨[p], rfl⟩, tup_new hp⟩
  have hl := r.len
  refine ⟨e, by simp [hl], fun {l a c'} h1 h2 => ?_, fun {l l' a c' c''} h1 h2 h3 h4 h5 h6 => ?_⟩
  · by_cases z : l < S.length
    · rw [List.getElem?_append_left (by omega)] at h1
      rw [List.getElem?_append_left z] at h2
      refine (r.at_ h1 h2).mono e (fun k => ?_) (rol_new hp _)
      obtain ⟨u, h, _⟩ := (r.at_ h1 h2).some k
      rw [upd_ne (ne_of_none h hp)]
    · have hz : l = S.length := by
        have := (List.getElem?_eq_some_iff.mp h2).1
        simp at this
        omega
      subst hz
      rw [List.getElem?_append_right (by omega)] at h1
      rw [List.getElem?_append_right (by omega)] at h2
      simp [hl] at h1 h2
      subst h1; subst h2
      exact hc _ e
  · have old : ∀ {i : Nat} {x : Cell}, m[i]? = some a → S[i]? = some x → x.mut = true → a ≠ p := fun {i x} q1 q2 q3 => by
      obtain ⟨u, h, _⟩ := (r.at_ q1 q2).some q3
      exact ne_of_none h hp
    have lt : ∀ {i : Nat} {x : Cell}, (S ++ [c])[i]? = some x → i < S.length ∨ i = S.length := fun {i x} q => by
      have := (List.getElem?_eq_some_iff.mp q).1
      simp at this
      omega
    have low : ∀ {i : Nat} {x : Cell}, i < S.length → (m ++ [p])[i]? = some a → (S ++ [c])[i]? = some x → m[i]? = some a ∧ S[i]? = some x := fun {i x} q q1 q2 => by
      rw [List.getElem?_append_left (by omega)] at q1
      rw [List.getElem?_append_left q] at q2
      exact ⟨q1, q2⟩
    have top : (m ++ [p])[S.length]? = some a → a = p := fun q => by
      rw [List.getElem?_append_right (by omega)] at q
      simp [hl] at q
      exact q.symm
    rcases lt h3 with z | z
    · obtain ⟨a1, a2⟩ := low z h1 h3
      rcases lt h4 with z' | z'
      · obtain ⟨b1, b2⟩ := low z' h2 h4
        exact r.inj a1 b1 a2 b2 h5 h6
      · subst z'
        exact absurd (top h2) (old a1 a2 h5)
    · subst z
      rcases lt h4 with z' | z'
      · obtain ⟨b1, b2⟩ := low z' h2 h4
        exact absurd (top h1) (old b1 b2 h6)
      · exact z'.symm
/-- a cell is written -/
theorem RS.write (r : RS K m H S) {p : Addr} {o : HO} {l : Nat} {c c' : Cell} (hl : m[l]? = some p) (hc : S[l]? = some c) (k : c.mut = true) (k' : c'.mut = true) (hn : Ext K m H m (upd H p o) → CellOk K m (upd H p o) p c') :
    Ext K m H m (upd H p o) ∧ RS K m (upd H p o) (S.set l c') := by
  obtain ⟨u, hu, hf⟩ := (r.at_ hl hc).some k
  have e : Ext K m H m (upd H p o) := ⟨⟨[], by simp⟩, tup_upd hu hf⟩
  have lS : l < S.length := (List.getElem?_eq_some_iff.mp hc).1
  have get : ∀ {i : Nat} {x : Cell}, (S.set l c')[i]? = some x → (i = l ∧ x = c') ∨ (i ≠ l ∧ S[i]? = some x) := fun {i x} q => by
    by_cases z : i = l
    · subst z
      rw [List.getElem?_set_self lS] at q
      cases q
      exact .inl ⟨rfl, rfl⟩
    · rw [List.getElem?_set_ne (Ne.symm z)] at q
      exact .inr ⟨z, q⟩
  refine ⟨e, by rw [List.length_set]; exact r.len, fun {i a x} h1 h2 => ?_, fun {i i' a x x'} h1 h2 h3 h4 h5 h6 => ?_⟩
  · rcases get h2 with ⟨rfl, rfl⟩ | ⟨z, q⟩
    · rw [hl] at h1; cases h1
      exact hn e
    · refine (r.at_ h1 q).mono e (fun kx => ?_) (rol_upd hu hf _)
      have : a ≠ p := fun za => by
        subst za
        exact z (r.inj h1 hl q hc kx k)
      rw [upd_ne this]
  · rcases get h3 with ⟨rfl, rfl⟩ | ⟨z, q⟩
    · rcases get h4 with ⟨rfl, rfl⟩ | ⟨z', q'⟩
      · rfl
      · exact r.inj h1 h2 hc q' k h6
    · rcases get h4 with ⟨rfl, rfl⟩ | ⟨z', q'⟩
      · exact r.inj h1 h2 q hc h5 k
      · exact r.inj h1 h2 q q' h5 h6
end
/-- the slots -/
structure RE (K : PySem.W.Frag) (m : List Addr) (H : Hp) (σ : St) (ρ : Env) : Prop where
  len : σ.length = ρ.length
  at_ : ∀ {i : Nat} {d : D}, ρ[i]? = some (some d) → ∃ v, σ[i]? = some (some v) ∧ RD K m H v d
section
variable {K : PySem.W.Frag} {m m' : List Addr} {H H' : Hp} {σ : St} {ρ : Env}
theorem RE.mono (e : Ext K m H m' H') (r : RE K m H σ ρ) : RE K m' H' σ ρ := ⟨r.len, fun h => let ⟨v, h1, h2⟩ := r.at_ h; ⟨v, h1, h2.mono e⟩⟩
theorem RE.set (r : RE K m H σ ρ) {v : V} {d : D} (h : RD K m H v d) (i : Nat) : RE K m H (σ.set i (some v)) (ρ.set i (some d)) := by
  refine ⟨by rw [List.length_set, List.length_set]; exact r.len, fun {j d'} e => ?_⟩
  by_cases z : i = j
  · subst z
    have hl : i < ρ.length := by have := (List.getElem?_eq_some_iff.mp e).1; rwa [List.length_set] at this
    rw [List.getElem?_set_self hl] at e
    cases e
    exact ⟨v, by rw [List.getElem?_set_self (by rw [r.len]; exact hl)], h⟩
  · rw [List.getElem?_set_ne z] at e
    obtain ⟨w, h1, h2⟩ := r.at_ e
    exact ⟨w, by rw [List.getElem?_set_ne z]; exact h1, h2⟩
def wipeD (ρ : Env) : List Nat → Env
  | [] => ρ
  | v :: vs => (wipeD ρ vs).set v none
theorem RE.none (r : RE K m H σ ρ) (i : Nat) : RE K m H (σ.set i none) (ρ.set i none) := by
  refine ⟨by rw [List.length_set, List.length_set]; exact r.len, fun {j d'} e => ?_⟩
  by_cases z : i = j
  · subst z
    have hl : i < ρ.length := by have := (List.getElem?_eq_some_iff.mp e).1; rwa [List.length_set] at this
    rw [List.getElem?_set_self hl] at e
    cases e
  · rw [List.getElem?_set_ne z] at e
    obtain ⟨w, h1, h2⟩ := r.at_ e
    exact ⟨w, by rw [List.getElem?_set_ne z]; exact h1, h2⟩
theorem RE.wipe (r : RE K m H σ ρ) : ∀ vs : List Nat, RE K m H (wipe σ vs) (wipeD ρ vs)
  | [] => r
  | v :: vs => (RE.wipe r vs).none v
end
end Dl

set_option Elab.async false
set_option linter.all false
set_option maxRecDepth 100000
namespace Dl
open PySem L2

/-! ## readings -/
structure Cq where
  K : PySem.W.Frag
  mg : Str → Option Value
  W : WX
abbrev W0 : WX := fun _ _ _ _ => False
abbrev _root_.L2.Cx.cq (X : Cx) (W : WX) : Cq := ⟨X.K, X.mg, W⟩
def RX (c : Cq) (m : List Addr) (H : Hp) (x : Exn) (cls : Value) (dd : Option Addr) : Prop :=
  c.mg x.name = some cls ∧ match x.fs with
    | [] => dd = none
    | fs => ∃ d ws, dd = some d ∧ H d = some (.xd ws) ∧ ws.map (·.1) = fs.map (·.1) ∧ RDs c.K m H (ws.map (·.2)) (fs.map (·.2))
def Post {α β : Type} (c : Cq) (rel : List Addr → Hp → β → α → Prop) (m : List Addr) (H : Hp) (σ : St) (Q : β → Hp → Prop) : R α → Prop
  | .ok a S' => ∀ b H' m', Ext c.K m H m' H' → RS c.K m' H' S' → rel m' H' b a → Q b H'
  | .ex x S' => ∀ cls dd H' m', Ext c.K m H m' H' → RS c.K m' H' S' → RX c m' H' x cls dd → c.W cls dd σ H'
  | .no => False
def PostS (c : Cq) (m : List Addr) (H : Hp) (Dn : Ends) : Out → Prop
  | .nx ρ' S' => ∀ σ' H' m', Ext c.K m H m' H' → RE c.K m' H' σ' ρ' → RS c.K m' H' S' → Dn.nx σ' H'
  | .bk ρ' S' => ∀ σ' H' m', Ext c.K m H m' H' → RE c.K m' H' σ' ρ' → RS c.K m' H' S' → Dn.bk σ' H'
  | .ct ρ' S' => ∀ σ' H' m', Ext c.K m H m' H' → RE c.K m' H' σ' ρ' → RS c.K m' H' S' → Dn.ct σ' H'
  | .rt d S' => ∀ v H' m', Ext c.K m H m' H' → RS c.K m' H' S' → RD c.K m' H' v d → Dn.rt v H'
  | .ex x ρ' S' => ∀ cls dd σ' H' m', Ext c.K m H m' H' → RE c.K m' H' σ' ρ' → RS c.K m' H' S' → RX c m' H' x cls dd → c.W cls dd σ' H'
  | .no => False
abbrev relD (c : Cq) : List Addr → Hp → V → D → Prop := fun m H v d => RD c.K m H v d
abbrev relDs (c : Cq) : List Addr → Hp → List V → List D → Prop := fun m H v d => RDs c.K m H v d
abbrev relB {α : Type} : List Addr → Hp → α → α → Prop := fun _ _ a b => a = b
def rdE (c : Cq) (f : EX) : TE := fun σ H Q => ∃ m ρ S, RE c.K m H σ ρ ∧ RS c.K m H S ∧ Post c (relD c) m H σ Q (f ρ S)
def rdT (c : Cq) (f : TX) : TT := fun σ H Q => ∃ m ρ S, RE c.K m H σ ρ ∧ RS c.K m H S ∧ Post c relB m H σ Q (f ρ S)
def rdA (c : Cq) (f : AX) : TA := fun σ H Q => ∃ m ρ S, RE c.K m H σ ρ ∧ RS c.K m H S ∧ Post c (relDs c) m H σ Q (f ρ S)
def rdO (c : Cq) (f : Env → Store → R (Option Int)) : TO := fun σ H Q => ∃ m ρ S, RE c.K m H σ ρ ∧ RS c.K m H S ∧ Post c relB m H σ Q (f ρ S)
def rdS (c : Cq) (g : SX) : TS := fun Dn σ H => ∃ m ρ S, RE c.K m H σ ρ ∧ RS c.K m H S ∧ PostS c m H Dn (g ρ S)
def rdG (c : Cq) (tg : D → SX) : TG := fun v σ H Q => ∃ m ρ S d, RE c.K m H σ ρ ∧ RS c.K m H S ∧ RD c.K m H v d ∧ PostS c m H { nx := Q, rt := fun _ _ => False } (tg d ρ S)
/-- what a def promises: the mirror's answer -/
def rdF (c : Cq) (F : List D → M D) : Sp := fun vs H Q E => ∃ m ds S, RDs c.K m H vs ds ∧ RS c.K m H S ∧ Post { c with W := fun cls dd _ H => E cls dd H } (relD c) m H [] Q (F ds S)

section
variable {α β γ δ : Type} {c : Cq} {rel : List Addr → Hp → β → α → Prop} {rel' : List Addr → Hp → δ → γ → Prop} {m m1 : List Addr} {H H1 : Hp} {σ : St} {ρ : Env} {Q Q' : β → Hp → Prop} {Q2 : δ → Hp → Prop} {Dn : Ends}
theorem Post.mono (e : Ext c.K m H m1 H1) {r : R α} (h : Post c rel m H σ Q r) : Post c rel m1 H1 σ Q r := by
  cases r with
  | ok a S => exact fun b H' m' e' => h b H' m' (e.trans e')
  | ex x S => exact fun cls dd H' m' e' => h cls dd H' m' (e.trans e')
  | no => exact h
theorem Post.imp {r : R α} (h : Post c rel m H σ Q r) (k : ∀ b H', Q b H' → Q' b H') : Post c rel m H σ Q' r := by
  cases r with
  | ok a S => exact fun b H' m' e rs rl => k _ _ (h b H' m' e rs rl)
  | ex x S => exact h
  | no => exact h
theorem Post.bind {r : R α} {k : α → Store → R γ} (h : Post c rel' m H σ Q2 (r.bind k)) :
    Post c rel m H σ (fun b H1 => ∃ m1 a S1, Ext c.K m H m1 H1 ∧ RS c.K m1 H1 S1 ∧ rel m1 H1 b a ∧ Post c rel' m1 H1 σ Q2 (k a S1)) r := by
  cases r with
  | ok a S => exact fun b H' m' e rs rl => ⟨m', a, S, e, rs, rl, Post.mono e h⟩
  | ex x S => exact h
  | no => exact h
theorem PostS.mono (e : Ext c.K m H m1 H1) {o : Out} (h : PostS c m H Dn o) : PostS c m1 H1 Dn o := by
  cases o with
  | nx ρ S => exact fun σ' H' m' e' => h σ' H' m' (e.trans e')
  | bk ρ S => exact fun σ' H' m' e' => h σ' H' m' (e.trans e')
  | ct ρ S => exact fun σ' H' m' e' => h σ' H' m' (e.trans e')
  | rt d S => exact fun σ' H' m' e' => h σ' H' m' (e.trans e')
  | ex x ρ S => exact fun cls dd σ' H' m' e' => h cls dd σ' H' m' (e.trans e')
  | no => exact h
theorem Post.out {r : R α} {k : α → Store → Out} (re : RE c.K m H σ ρ) (h : PostS c m H Dn (r.out ρ k)) :
    Post c rel m H σ (fun b H1 => ∃ m1 a S1, Ext c.K m H m1 H1 ∧ RS c.K m1 H1 S1 ∧ rel m1 H1 b a ∧ RE c.K m1 H1 σ ρ ∧ PostS c m1 H1 Dn (k a S1)) r := by
  cases r with
  | ok a S => exact fun b H' m' e rs rl => ⟨m', a, S, e, rs, rl, re.mono e, PostS.mono e h⟩
  | ex x S => exact fun cls dd H' m' e rs rx => h cls dd σ H' m' e (re.mono e) rs rx
  | no => exact h
end
section
variable {X : Cx}
theorem PEwk {e : Expr} {t t' : TE} (h : PE X e t) (k : ∀ σ H Q, t' σ H Q → t σ H Q) : PE X e t' := ⟨fun pins s σ H Q I q => h.run pins s σ H Q I (k _ _ _ q)⟩
theorem PTwk {e : Expr} {t t' : TT} (h : PT X e t) (k : ∀ σ H Q, t' σ H Q → t σ H Q) : PT X e t' := ⟨fun pins s σ H Q I q => h.run pins s σ H Q I (k _ _ _ q)⟩
theorem PWwk {e : Expr} {t t' : TT} (h : PW X e t) (k : ∀ σ H Q, t' σ H Q → t σ H Q) : PW X e t' := ⟨fun wh pins s σ H Q I q => h.run wh pins s σ H Q I (k _ _ _ q)⟩
theorem PAwk {es : List Expr} {t t' : TA} (h : PA X es t) (k : ∀ σ H Q, t' σ H Q → t σ H Q) : PA X es t' := ⟨fun pos pins s σ H Q I q => h.run pos pins s σ H Q I (k _ _ _ q)⟩
theorem POwk {e : Option Expr} {t t' : TO} (h : PO X e t) (k : ∀ σ H Q, t' σ H Q → t σ H Q) : PO X e t' := ⟨fun pins s σ H Q I q => h.run pins s σ H Q I (k _ _ _ q)⟩
theorem PSwk {e : Stmt} {t t' : TS} (h : PS X e t) (k : ∀ D σ H, t' D σ H → t D σ H) : PS X e t' := ⟨fun pins s σ H D I q => h.run pins s σ H D I (k _ _ _ q)⟩
theorem PSswk {e : List Stmt} {t t' : TS} (h : PSs X e t) (k : ∀ D σ H, t' D σ H → t D σ H) : PSs X e t' := ⟨fun pins s σ H D I q => h.run pins s σ H D I (k _ _ _ q)⟩
theorem PGwk {e : Expr} {t t' : TG} (h : PG X e t) (k : ∀ v σ H Q, t' v σ H Q → t v σ H Q) : PG X e t' := ⟨fun pins s σ H v u Q I r q => h.run pins s σ H v u Q I r (k _ _ _ _ q)⟩
theorem PIwk {tg e : Expr} {t t' : TI} (h : PI X tg e t) (k : ∀ σ H Q, t' σ H Q → t σ H Q) : PI X tg e t' := ⟨fun pins s σ H Q I q => h.run pins s σ H Q I (k _ _ _ q)⟩
end

/-! ## expressions -/
def toR {α : Type} : Option (α × Store) → R α
  | some (a, S) => .ok a S
  | none => .no
@[simp] theorem toR_some {α : Type} (a : α) (S : Store) : toR (some (a, S)) = .ok a S := rfl
@[simp] theorem toR_none {α : Type} : toR (none : Option (α × Store)) = .no := rfl
def eV (i : Nat) : EX := fun ρ S => match ρ[i]? with
  | some (some d) => .ok d S
  | _ => .no
def eC (d : D) : EX := fun _ S => .ok d S
/-- two operands, by values -/
def e2 (g : D → D → Store → Option (D × Store)) (fa fb : EX) : EX := fun ρ S => (fa ρ S).bind fun x S1 => (fb ρ S1).bind fun y S2 => toR (g x y S2)
def e1 (g : D → Store → Option (D × Store)) (fa : EX) : EX := fun ρ S => (fa ρ S).bind fun x S1 => toR (g x S1)
def aN : AX := fun _ S => .ok [] S
def aC (fa : EX) (fr : AX) : AX := fun ρ S => (fa ρ S).bind fun x S1 => (fr ρ S1).bind fun xs S2 => .ok (x :: xs) S2
def eB (g : List D → Store → Option (D × Store)) (fa : AX) : EX := fun ρ S => (fa ρ S).bind fun xs S1 => toR (g xs S1)
def eF (F : List D → M D) (fa : AX) : EX := fun ρ S => (fa ρ S).bind fun xs S1 => F xs S1
/-- a method of a built-in type -/
def eM (g : D → List D → Store → Option (D × Store)) (fo : EX) (fa : AX) : EX := fun ρ S => (fo ρ S).bind fun x S1 => (fa ρ S1).bind fun xs S2 => toR (g x xs S2)
/-- by values -/
def VPost (K : PySem.W.Frag) (m : List Addr) (H : Hp) (Q : VK) : Option (D × Store) → Prop
  | some (d, S') => ∀ v H' m', Ext K m H m' H' → RS K m' H' S' → RD K m' H' v d → Q v H'
  | none => False
theorem VPost.of {c : Cq} {m : List Addr} {H : Hp} {σ : St} {Q : VK} {o : Option (D × Store)} (h : Post c (relD c) m H σ Q (toR o)) : VPost c.K m H Q o := by
  cases o with
  | none => exact h
  | some p => exact h
def rd1 (K : PySem.W.Frag) (g : D → Store → Option (D × Store)) : V → Hp → VK → Prop := fun v H Q => ∃ m x S, RD K m H v x ∧ RS K m H S ∧ VPost K m H Q (g x S)
def rd2 (K : PySem.W.Frag) (g : D → D → Store → Option (D × Store)) : R2 := fun v u H Q => ∃ m x y S, RD K m H v x ∧ RD K m H u y ∧ RS K m H S ∧ VPost K m H Q (g x y S)
def rdC (K : PySem.W.Frag) (g : List D → Store → Option (D × Store)) : List V → Hp → VK → Prop := fun vs H Q => ∃ m xs S, RDs K m H vs xs ∧ RS K m H S ∧ VPost K m H Q (g xs S)
def rdM (K : PySem.W.Frag) (g : D → List D → Store → Option (D × Store)) : V → List V → Hp → VK → Prop := fun v vs H Q => ∃ m x xs S, RD K m H v x ∧ RDs K m H vs xs ∧ RS K m H S ∧ VPost K m H Q (g x xs S)
section
variable {X : Cx} {W : WX} {a b e : Expr} {es : List Expr} {fa fb fe : EX} {fr fx : AX} {pos p : Pos}
theorem d_v (i : Nat) {x : Str} (hN : X.N[i]? = some x := by rfl) (hv : Vis X.env.scope x := by first | exact Or.inl rfl | exact Or.inr (Or.inl rfl) | exact Or.inr (Or.inr rfl)) (hd : (x == ("__debug__" : Str)) = false := by decide)
    (hcd : (x == ("__classdict__" : Str)) = false := by decide) : PE X (.Name x pos) (rdE (X.cq W) (eV i)) := PEwk (pv i hN hv hd hcd) fun σ H Q h => by
  obtain ⟨m, ρ, S, re, rs, h⟩ := h
  unfold eV at h
  split at h
  · rename_i d e
    obtain ⟨v, h1, h2⟩ := re.at_ e
    exact ⟨v, h1, h v H m .refl rs h2⟩
  · exact h.elim
theorem d_c {v : V} {d : D} (h : PE X e (tC v)) (r : ∀ m H, RD X.K m H v d) : PE X e (rdE (X.cq W) (eC d)) := PEwk h fun σ H Q h => by
  obtain ⟨m, ρ, S, re, rs, h⟩ := h
  exact h v H m .refl rs (r m H)
theorem d_int {i j} : PE X (.Constant (.int i) j pos) (rdE (X.cq W) (eC (.int i))) := d_c pe_int fun _ _ => .int i
theorem d_bl {i j} : PE X (.Constant (.bool i) j pos) (rdE (X.cq W) (eC (.bl i))) := d_c pe_bl fun _ _ => .bl i
theorem d_non {j} : PE X (.Constant .none j pos) (rdE (X.cq W) (eC .non)) := d_c pe_non fun _ _ => .non
theorem d_str {x : Str} {j} (h : x.length ≤ 16777216 := by decide +kernel) : PE X (.Constant (.str x) j pos) (rdE (X.cq W) (eC (.str x))) := d_c pe_str fun _ _ => .str h
/-- a builtin's name as a value -/
theorem d_blt {x : Str} {v : V} {u : Value} (hg : Gl X x) (hm : X.mg x = none) (hv : bootBuiltins x = some u) (r : RelV v u) (hn : x ≠ "__name__" := by decide) (hd : (x == ("__debug__" : Str)) = false := by decide) :
    PE X (.Name x pos) (rdE (X.cq W) (eC (.raw v))) := d_c (pe_bltn hg hm hv r hn hd) fun _ _ => .raw v
/-- a module's constant -/
theorem d_glob {x : Str} {v : V} {d : D} {u : Value} (hg : Gl X x) (hm : X.mg x = some u) (r : RelV v u) (rd : ∀ m H, RD X.K m H v d) (hd : (x == ("__debug__" : Str)) = false := by decide) :
    PE X (.Name x pos) (rdE (X.cq W) (eC d)) := d_c (pe_glob hg hm r hd) rd
theorem d_2h {r : R2} (h : PE X e (tOp r (rdE (X.cq W) fa) (rdE (X.cq W) fb))) {g : D → D → Store → Option (D × Store)} (k : ∀ v u H Q, rd2 X.K g v u H Q → r v u H Q) : PE X e (rdE (X.cq W) (e2 g fa fb)) := PEwk h fun σ H Q h => by
  obtain ⟨m, ρ, S, re, rs, h⟩ := h
  exact ⟨m, ρ, S, re, rs, (Post.bind h).imp fun v H1 ⟨m1, x, S1, e, rs1, rd, h1⟩ => ⟨m1, ρ, S1, re.mono e, rs1, (Post.bind h1).imp fun u H2 ⟨m2, y, S2, e2, rs2, rd2, h2⟩ =>
    k _ _ _ _ ⟨m2, x, y, S2, rd.mono e2, rd2, rs2, VPost.of h2⟩⟩⟩
theorem d_op {op : Operator} {g : D → D → Store → Option (D × Store)} (ho : OpR X (binaryOp op) (rd2 X.K g)) (ha : PE X a (rdE (X.cq W) fa)) (hb : PE X b (rdE (X.cq W) fb)) : PE X (.BinOp a op b pos) (rdE (X.cq W) (e2 g fa fb)) :=
  d_2h (pe_op ho ha hb) fun _ _ _ _ h => h
end
end Dl

set_option Elab.async false
set_option linter.all false
set_option maxRecDepth 100000
namespace HT
open PySem PyProof.Rows
theorem cat_tup0 {prog : Program} {w : World} {A : Around} {E : Value → Shared → Prop} {s : Shared} {t b : Addr} {ws : List Value} {Q : Value → Shared → Prop} (ht : IsTup s.heap t ([] : List Value).toArray) (hb : IsTup s.heap b ws.toArray)
    (h1 : Q (.ref b) s) : wpAny (model prog w) A (binaryOp .Add (.ref t) (.ref b)) Q E s := by
  obtain ⟨⟨cls, dd, data, sl⟩, ho, hc, n, hd⟩ := id ht
  obtain ⟨⟨cls2, dd2, data2, sl2⟩, ho2, hc2, n2, hd2⟩ := id hb
  simp only at hc hd hc2 hd2
  subst hc hd hc2 hd2
  exact concat_meets ⟨_, ho, rfl⟩ ⟨_, ho2, rfl⟩ noFill_tuple_add seq_tuple_add PySem.F.slot_tuple_add PySem.F.entry_tuple_add (PySem.F.args_tuple_add_2 _ _)
      (PyProof.Rows.tuple_addW0 t b ([] : List Value).toArray ws.toArray n n2 dd dd2 sl sl2 (by simp)) ⟨ho, ho2, h1⟩
end HT
namespace Dl
open PySem L2

/-! ## operations by values -/
def LIM : Nat := 16777216
theorem lim_eq : LIM = sizeLine := by rw [sizeLine_eq]; rfl
def catL (S : Store) (l k : Nat) : Option (D × Store) := match S[l]?, S[k]? with
    | some (.lst xs), some (.lst ys) => if xs.length + ys.length ≤ LIM then some (.ref S.length, S ++ [.lst (xs ++ ys)]) else none
    | _, _ => none
def gAdd : D → D → Store → Option (D × Store)
  | .int i, .int j, S => some (.int (i + j), S)
  | .str a, .str b, S => if a.length + b.length ≤ LIM then some (.str (a ++ b), S) else none
  | .tup (x :: xs), .tup ys, S => if (x :: xs).length + ys.length ≤ LIM then some (.tup (x :: xs ++ ys), S) else none
  | .tup [], .tup ys, S => some (.tup ys, S)
  | .ref l, .ref k, S => catL S l k
  | _, _, _ => none
def gSub : D → D → Store → Option (D × Store)
  | .int i, .int j, S => some (.int (i - j), S)
  | _, _, _ => none
def gMul : D → D → Store → Option (D × Store)
  | .int i, .int j, S => if (-(2 ^ 64) < i ∧ i < 2 ^ 64) ∨ (-(2 ^ 64) < j ∧ j < 2 ^ 64) then some (.int (i * j), S) else none
  | _, _, _ => none
def gFdiv : D → D → Store → Option (D × Store)
  | .int i, .int j, S => if 0 < j ∧ j < 1073741824 then some (.int (i / j), S) else none
  | _, _, _ => none
def gMod : D → D → Store → Option (D × Store)
  | .int i, .int j, S => if 0 < j then some (.int (i % j), S) else none
  | _, _, _ => none
def gPow : D → D → Store → Option (D × Store)
  | .int i, .int j, S => if 0 ≤ j ∧ j ≤ 1000000 ∧ i.natAbs < 2 ^ 64 then some (.int (i ^ j.toNat), S) else none
  | _, _, _ => none
section
variable {X : Cx}
theorem str_app_len (a b : Str) : (a ++ b).length = a.length + b.length := by
  show (a.cps ++ b.cps).size = a.cps.size + b.cps.size
  exact Array.size_append
/-- a new tuple, without a dict -/
theorem lay_tup {pins : List (Addr × Obj)} {σ : St} {H : Hp} {s : Shared} {xs : List V} {us : List Value} {Q : VK} {tk : Nat} {n : Nat} (I : Inv X pins σ H s) (hz : xs.length ≤ sizeLine) (r : Vals xs us)
    (q : ∀ o, o.cls = .type "tuple" → o.dict = none → Q (.ref s.heap.objs.size) (upd H s.heap.objs.size (.frz o (.tup xs)))) :
    EP X pins σ Q (.ref s.heap.objs.size) { s with heap := s.heap.push { cls := .type "tuple", data := .seq us.toArray n }, toks := tk } := by
  refine ⟨.ref s.heap.objs.size, _, I.laid (t' := tk) (o := .frz { cls := .type "tuple", data := .seq us.toArray n } (.tup xs)) (fun b ob q => Heap.get?_push_of_some _ q) (Nat.le_refl _) ?_, rfl, q _ rfl rfl⟩
  exact ⟨Heap.get?_push_size _ rfl, hz, us, r, _, Heap.get?_push_size _ rfl, rfl, _, rfl⟩
/-- what VPost asks, for a new tuple -/
theorem vp_tup {K : PySem.W.Frag} {m : List Addr} {H : Hp} {S : Store} {Q : VK} {p : Addr} {o : Obj} {xs : List V} {ds : List D} (rs : RS K m H S) (hp : H p = none) (hc : o.cls = .type "tuple") (hd : o.dict = none) (r : RDs K m H xs ds)
    (h : ∀ v H' m', Ext K m H m' H' → RS K m' H' S → RD K m' H' v (.tup ds) → Q v H') : Q (.ref p) (upd H p (.frz o (.tup xs))) := by
  obtain ⟨e, rs'⟩ := rs.new (o := .frz o (.tup xs)) hp
  exact h _ _ m e rs' (.tup (.inl ⟨o, upd_same, hc, hd⟩) (r.mono e))
/-- .. for a new list -/
theorem vp_lst {K : PySem.W.Frag} {m : List Addr} {H : Hp} {S : Store} {Q : VK} {p : Addr} {xs : List V} {ds : List D} (rs : RS K m H S) (hp : H p = none) (r : RDs K m H xs ds)
    (h : ∀ v H' m', Ext K m H m' H' → RS K m' H' (S ++ [.lst ds]) → RD K m' H' v (.ref S.length) → Q v H') : Q (.ref p) (upd H p (.lst xs)) := by
  obtain ⟨e, rs'⟩ := rs.push (o := .lst xs) (c := .lst ds) hp fun m' e' => ⟨xs, upd_same, r.mono e'⟩
  refine h _ _ _ e rs' (.ref ?_)
  rw [← rs.len, List.getElem?_append_right (Nat.le_refl _), Nat.sub_self]
  rfl
theorem o_add : OpR X (binaryOp .Add) (rd2 X.K gAdd) := by
  intro pins s σ H v u vv uu Q I rv ru ⟨m, x, y, S, hx, hy, rs, h⟩
  cases hx with
  | int i =>
    cases hy with
    | int j => exact op_add pins s σ H _ _ vv uu Q I rv ru ⟨i, j, rfl, rfl, h _ _ m .refl rs (.int _)⟩
    | _ => exact (show False from h).elim
  | str ha =>
    cases hy with
    | str hb =>
      change VPost X.K m H Q (ite _ _ _) at h
      split at h
      · rename_i hz
        exact op_add_str pins s σ H _ _ vv uu Q I rv ru ⟨_, _, rfl, rfl, by rw [← lim_eq]; exact hz, h _ _ m .refl rs (.str (by rw [str_app_len]; exact hz))⟩
      · exact h.elim
    | _ => exact (show False from h).elim
  | @tup a vs ds ha r =>
    cases hy with
    | @tup b ws es hb r' =>
      cases ds with
      | nil =>
        cases rv
        cases ru
        obtain ⟨its, r1, p1, _⟩ := I.tuple ha.sq
        obtain ⟨its2, r2, p2, _⟩ := I.tuple hb.sq
        cases r
        cases r1
        exact HT.cat_tup0 p1 p2 ⟨.ref b, H, I, rfl, h _ _ m .refl rs (.tup hb r')⟩
      | cons d ds =>
        change VPost X.K m H Q (ite _ _ _) at h
        split at h
        · rename_i hz
          cases rv
          cases ru
          obtain ⟨its, r1, p1, _⟩ := I.tuple ha.sq
          obtain ⟨its2, r2, p2, _⟩ := I.tuple hb.sq
          have l1 := r.length
          have l2 := r'.length
          have hne : vs ≠ [] := fun z => by rw [z] at l1; cases l1
          refine HT.cat_tup p1 p2 (fun z => hne (r1.nil_iff.mp z)) (fun z => ⟨.ref a, H, I, rfl, ?_⟩) (fun z => ?_) (by rw [← r1.length, ← r2.length, l1, l2, ← lim_eq]; exact hz)
          · have w := r2.nil_iff.mp z
            rw [w] at l2
            have w' : es = [] := List.eq_nil_of_length_eq_zero l2.symm
            subst w'
            refine h _ _ m .refl rs (.tup ha ?_)
            rw [List.append_nil]
            exact r
          · exact lay_tup (tk := s.toks) I (by rw [List.length_append, l1, l2, ← lim_eq]; exact hz) (r1.append r2) fun o hc hd => vp_tup rs (I.hok.fresh (Nat.le_refl _)) hc hd (r.append r') h
        · exact h.elim
    | _ => cases ds <;> exact (show False from h).elim
  | @ref a l ha =>
    cases hy with
    | @ref b k hb =>
      have h : VPost X.K m H Q (catL S l k) := h
      unfold catL at h
      split at h
      · rename_i xs ys e1 e2
        split at h
        · rename_i hz
          obtain ⟨vs, h1, r1⟩ := rs.wlst ha e1
          obtain ⟨ws, h2, r2⟩ := rs.wlst hb e2
          exact op_cat pins s σ H _ _ vv uu Q I rv ru ⟨a, b, vs, ws, rfl, rfl, h1, h2, by rw [r1.length, r2.length, ← lim_eq]; exact hz, fun p hp => vp_lst rs hp (r1.append r2) h⟩
        · exact h.elim
      · exact h.elim
    | _ => exact (show False from h).elim
  | _ => cases hy <;> exact (show False from h).elim
theorem o_int {op : Operator} {C : Int → Int → Prop} [∀ i j, Decidable (C i j)] {g : Int → Int → Int} {r : R2} {gg : D → D → Store → Option (D × Store)} (ho : OpR X (binaryOp op) r)
    (hr : ∀ i j H Q, C i j → Q (.int (g i j)) H → r (.int i) (.int j) H Q) (hg : ∀ x y S, gg x y S = match x, y with
      | .int i, .int j => if C i j then some (.int (g i j), S) else none
      | _, _ => none) : OpR X (binaryOp op) (rd2 X.K gg) := by
  intro pins s σ H v u vv uu Q I rv ru ⟨m, x, y, S, hx, hy, rs, h⟩
  rw [hg] at h
  cases hx with
  | int i =>
    cases hy with
    | int j =>
      by_cases hc : C i j
      · simp only [hc, if_true] at h
        exact ho pins s σ H _ _ vv uu Q I rv ru (hr i j H Q hc (h _ _ m .refl rs (.int _)))
      · simp only [hc, if_false] at h
        exact h.elim
    | _ => exact (show False from h).elim
  | _ => exact (show False from h).elim
theorem o_sub : OpR X (binaryOp .Sub) (rd2 X.K gSub) := o_int (C := fun _ _ => True) (g := fun i j => i - j) op_sub (fun i j H Q _ q => ⟨i, j, rfl, rfl, q⟩) fun x y S => by cases x <;> cases y <;> rfl
theorem o_mul : OpR X (binaryOp .Mult) (rd2 X.K gMul) := o_int (C := fun i j => (-(2 ^ 64) < i ∧ i < 2 ^ 64) ∨ (-(2 ^ 64) < j ∧ j < 2 ^ 64)) (g := fun i j => i * j) op_mul (fun i j H Q c q => ⟨i, j, rfl, rfl, c, q⟩) fun x y S => by cases x <;> cases y <;> rfl
theorem o_fdiv : OpR X (binaryOp .FloorDiv) (rd2 X.K gFdiv) := o_int (C := fun i j => 0 < j ∧ j < 1073741824) (g := fun i j => i / j) op_fdiv (fun i j H Q c q => ⟨i, j, rfl, rfl, c, q⟩) fun x y S => by cases x <;> cases y <;> rfl
theorem o_mod : OpR X (binaryOp .Mod) (rd2 X.K gMod) := o_int (C := fun i j => 0 < j) (g := fun i j => i % j) op_mod (fun i j H Q c q => ⟨i, j, rfl, rfl, c, q⟩) fun x y S => by cases x <;> cases y <;> rfl
theorem o_pow : OpR X (binaryOp .Pow) (rd2 X.K gPow) := o_int (C := fun i j => 0 ≤ j ∧ j ≤ 1000000 ∧ i.natAbs < 2 ^ 64) (g := fun i j => i ^ j.toNat) op_pow (fun i j H Q c q => ⟨i, j, rfl, rfl, c, q⟩) fun x y S => by cases x <;> cases y <;> rfl

/-! ### comparisons -/
end
end Dl

set_option Elab.async false
set_option linter.all false
set_option maxRecDepth 100000
namespace Dl
open PySem L2

/-! ## data -/
mutual
/-- no lists within -/
def D.flat : D → Bool
  | .tup xs => flats xs
  | .ref _ => false
  | .raw _ => false
  | _ => true
def flats : List D → Bool
  | [] => true
  | x :: xs => x.flat && flats xs
end
mutual
def D.dep : D → Nat
  | .tup xs => deps xs + 1
  | _ => 0
def deps : List D → Nat
  | [] => 0
  | x :: xs => max x.dep (deps xs)
end
mutual
/-- == -/
def deq : D → D → Bool
  | .non, .non => true
  | .bl a, .bl b => a == b
  | .bl a, .int j => (if a then 1 else 0) == j
  | .int i, .bl b => i == (if b then 1 else 0)
  | .int i, .int j => i == j
  | .str x, .str y => x == y
  | .tup xs, .tup ys => deqs xs ys
  | _, _ => false
def deqs : List D → List D → Bool
  | [], [] => true
  | x :: xs, y :: ys => deq x y && deqs xs ys
  | _, _ => false
end
mutual
def toPy : D → PyData
  | .non => .none
  | .bl b => .bool b
  | .int i => .int i
  | .str x => .str x
  | .tup xs => .tuple (toPys xs)
  | _ => .none
def toPys : List D → List PyData
  | [] => []
  | x :: xs => toPy x :: toPys xs
end
mutual
theorem plain_toPy : ∀ x : D, (toPy x).plain = true
  | .non => rfl
  | .bl _ => rfl
  | .int _ => rfl
  | .str _ => rfl
  | .tup xs => plains_toPys xs
  | .ref _ => rfl
  | .raw _ => rfl
theorem plains_toPys : ∀ xs : List D, PyData.plainAll (toPys xs) = true
  | [] => rfl
  | x :: xs => by
    show ((toPy x).plain && PyData.plainAll (toPys xs)) = true
    rw [plain_toPy x, plains_toPys xs] <;> rfl
end
mutual
theorem depth_toPy : ∀ x : D, (toPy x).depth = x.dep
  | .non => rfl
  | .bl _ => rfl
  | .int _ => rfl
  | .str _ => rfl
  | .tup xs => by
    show PyData.depthAll (toPys xs) + 1 = deps xs + 1
    rw [depths_toPys xs]
  | .ref _ => rfl
  | .raw _ => rfl
theorem depths_toPys : ∀ xs : List D, PyData.depthAll (toPys xs) = deps xs
  | [] => rfl
  | x :: xs => by
    show max (toPy x).depth (PyData.depthAll (toPys xs)) = max x.dep (deps xs)
    rw [depth_toPy x, depths_toPys xs]
end
mutual
theorem eqv_toPy : ∀ x y : D, x.flat = true → y.flat = true → PyData.eqv (toPy x) (toPy y) = deq x y
  | x, y, hx, hy => by
    cases x with
    | tup xs =>
      cases y with
      | tup ys =>
        show PyData.eqvAll (toPys xs) (toPys ys) = deqs xs ys
        exact eqvs_toPys xs ys hx hy
      | ref _ => cases hy
      | raw _ => cases hy
      | _ => rfl
    | ref _ => cases hx
    | raw _ => cases hx
    | _ =>
      cases y with
      | ref _ => cases hy
      | raw _ => cases hy
      | _ => rfl
theorem eqvs_toPys : ∀ xs ys : List D, flats xs = true → flats ys = true → PyData.eqvAll (toPys xs) (toPys ys) = deqs xs ys
  | [], [], _, _ => rfl
  | [], _ :: _, _, _ => rfl
  | _ :: _, [], _, _ => rfl
  | x :: xs, y :: ys, hx, hy => by
    have hx' : (x.flat && flats xs) = true := hx
    have hy' : (y.flat && flats ys) = true := hy
    rw [Bool.and_eq_true] at hx' hy'
    show (PyData.eqv (toPy x) (toPy y) && PyData.eqvAll (toPys xs) (toPys ys)) = (deq x y && deqs xs ys)
    rw [eqv_toPy x y hx'.1 hy'.1, eqvs_toPys xs ys hx'.2 hy'.2]
end
section
variable {K : PySem.W.Frag} {m : List Addr} {H : Hp}
mutual
theorem dp_of : ∀ {d : D} {v : V}, d.flat = true → RD K m H v d → Dp K H v (toPy d)
  | .non, _, _, r => by cases r; exact .non
  | .bl b, _, _, r => by cases r; exact .bl b
  | .int b, _, _, r => by cases r; exact .int b
  | .str b, _, _, r => by cases r; exact .str b
  | .tup xs, _, h, r => by
    cases r with
    | tup h1 h2 => exact .tup h1.sq (dps_of (show flats xs = true from h) h2)
theorem dps_of : ∀ {ds : List D} {vs : List V}, flats ds = true → RDs K m H vs ds → DpAll K H vs (toPys ds)
  | [], _, _, r => by cases r; exact .nil
  | d :: ds, _, h, r => by
    have h' : (d.flat && flats ds) = true := h
    rw [Bool.and_eq_true] at h'
    cases r with
    | cons h1 h2 => exact .cons (dp_of h'.1 h1) (dps_of h'.2 h2)
end
end
/-- a value as data: flat, or a list of flat ones -/
def asP (S : Store) (x : D) : Option PyData := if x.flat then some (toPy x) else match x with
  | .ref l => match lstAt S l with
    | some xs => if flats xs then some (.list (toPys xs)) else none
    | none => none
  | _ => none
theorem asP_flat {S : Store} {x : D} (h : x.flat = true) : asP S x = some (toPy x) := by unfold asP; rw [if_pos h]
theorem asP_of {K : PySem.W.Frag} {m : List Addr} {H : Hp} {S : Store} {x : D} {v : V} {p : PyData} (rs : RS K m H S) (r : RD K m H v x) (h : asP S x = some p) : Dp K H v p ∧ p.plain = true := by
  unfold asP at h
  split at h
  · rename_i hx
    cases h
    exact ⟨dp_of hx r, plain_toPy x⟩
  · split at h
    · rename_i l _
      split at h
      · rename_i xs e
        split at h
        · rename_i hf
          cases h
          cases r with
          | ref ha =>
            obtain ⟨vs, h1, h2⟩ := rs.lst ha e
            exact ⟨.lst h1 (dps_of hf h2), plains_toPys xs⟩
        · cases h
      · cases h
    · cases h
def gEqB (x y : D) (S : Store) : Option Bool := match asP S x, asP S y with
  | some p, some q => if p.depth ≤ 64 then some (PyData.eqv p q) else none
  | _, _ => none
def gEq (x y : D) (S : Store) : Option (D × Store) := (gEqB x y S).map fun b => (.bl b, S)
def gNe (x y : D) (S : Store) : Option (D × Store) := (gEqB x y S).map fun b => (.bl (!b), S)
theorem gEqB_flat {x y : D} {S : Store} (hx : x.flat = true) (hy : y.flat = true) (hd : x.dep ≤ 64) : gEqB x y S = some (deq x y) := by
  unfold gEqB
  rw [asP_flat hx, asP_flat hy]
  show (if (toPy x).depth ≤ 64 then some (PyData.eqv (toPy x) (toPy y)) else none) = _
  rw [depth_toPy, if_pos hd, eqv_toPy x y hx hy]
theorem gEq_flat {x y : D} {S : Store} (hx : x.flat = true) (hy : y.flat = true) (hd : x.dep ≤ 64) : gEq x y S = some (.bl (deq x y), S) := by unfold gEq; rw [gEqB_flat hx hy hd]; rfl
theorem gNe_flat {x y : D} {S : Store} (hx : x.flat = true) (hy : y.flat = true) (hd : x.dep ≤ 64) : gNe x y S = some (.bl (!deq x y), S) := by unfold gNe; rw [gEqB_flat hx hy hd]; rfl
@[simp] theorem gEq_int (i j : Int) (S : Store) : gEq (.int i) (.int j) S = some (.bl (i == j), S) := gEq_flat rfl rfl (Nat.zero_le _)
@[simp] theorem gEq_str (i j : Str) (S : Store) : gEq (.str i) (.str j) S = some (.bl (i == j), S) := gEq_flat rfl rfl (Nat.zero_le _)
@[simp] theorem gNe_int (i j : Int) (S : Store) : gNe (.int i) (.int j) S = some (.bl (!(i == j)), S) := gNe_flat rfl rfl (Nat.zero_le _)
@[simp] theorem gNe_str (i j : Str) (S : Store) : gNe (.str i) (.str j) S = some (.bl (!(i == j)), S) := gNe_flat rfl rfl (Nat.zero_le _)
section
variable {X : Cx}
theorem o_eqB {op : CmpOp} {f : Bool → Bool} {g : D → D → Store → Option (D × Store)} (hg : ∀ x y S, g x y S = (gEqB x y S).map fun b => (.bl (f b), S))
    (rule : ∀ {s : Shared} {a b : Value} {da db : PyData} {as bs : List Addr} {Q E : Value → Shared → Prop}, Reads s.heap a da as → Reads s.heap b db bs → da.plain = true → db.plain = true → X.A.units + min da.depth db.depth < cLine →
      Q (.bool (f (PyData.eqv da db))) s → wpAny (model X.prog X.w) X.A (compareOp op a b) Q E s) (hu : X.A.units + 64 < cLine) : OpR X (compareOp op) (rd2 X.K g) := by
  intro pins s σ H v u vv uu Q I rv ru ⟨m, x, y, S, hx, hy, rs, h⟩
  rw [hg] at h
  unfold gEqB at h
  split at h
  · rename_i p q e1 e2
    split at h
    · rename_i hd
      obtain ⟨d1, p1⟩ := asP_of rs hx e1
      obtain ⟨d2, p2⟩ := asP_of rs hy e2
      obtain ⟨as, r1⟩ := Dp.reads I _ _ _ d1 rv
      obtain ⟨bs, r2⟩ := Dp.reads I _ _ _ d2 ru
      have hm : min p.depth q.depth ≤ p.depth := Nat.min_le_left _ _
      exact rule r1 r2 p1 p2 (by omega) ⟨.bl _, H, I, rfl, h _ _ m .refl rs (.bl _)⟩
    · exact h.elim
  · exact h.elim
theorem o_eq (hu : X.A.units + 64 < cLine) : OpR X (compareOp .Eq) (rd2 X.K gEq) := o_eqB (f := fun b => b) (fun _ _ _ => rfl) PySem.SeqAt.eq_plain hu
theorem o_ne (hu : X.A.units + 64 < cLine) : OpR X (compareOp .NotEq) (rd2 X.K gNe) := o_eqB (f := fun b => !b) (fun _ _ _ => rfl) PySem.SeqAt.ne_plain hu

/-! ### order of ints and texts -/
def gLt : D → D → Store → Option (D × Store)
  | .int i, .int j, S => some (.bl (decide (i < j)), S)
  | .str a, .str b, S => some (.bl (decide (a.cps.toList < b.cps.toList)), S)
  | _, _, _ => none
def gLe : D → D → Store → Option (D × Store)
  | .int i, .int j, S => some (.bl (decide (i ≤ j)), S)
  | .str a, .str b, S => some (.bl (!decide (b.cps.toList < a.cps.toList)), S)
  | _, _, _ => none
def gGt : D → D → Store → Option (D × Store)
  | .int i, .int j, S => some (.bl (decide (j < i)), S)
  | .str a, .str b, S => some (.bl (decide (b.cps.toList < a.cps.toList)), S)
  | _, _, _ => none
def gGe : D → D → Store → Option (D × Store)
  | .int i, .int j, S => some (.bl (decide (j ≤ i)), S)
  | .str a, .str b, S => some (.bl (!decide (a.cps.toList < b.cps.toList)), S)
  | _, _, _ => none
theorem o_ord {op : CmpOp} {fi : Int → Int → Bool} {fs : Str → Str → Bool} {ri rs' : R2} {g : D → D → Store → Option (D × Store)} (hi : OpR X (compareOp op) ri) (hs : OpR X (compareOp op) rs')
    (ki : ∀ i j H Q, Q (.bl (fi i j)) H → ri (.int i) (.int j) H Q) (ks : ∀ i j H Q, Q (.bl (fs i j)) H → rs' (.str i) (.str j) H Q)
    (hg : ∀ x y S, g x y S = match x, y with
      | .int i, .int j => some (.bl (fi i j), S)
      | .str i, .str j => some (.bl (fs i j), S)
      | _, _ => none) : OpR X (compareOp op) (rd2 X.K g) := by
  intro pins s σ H v u vv uu Q I rv ru ⟨m, x, y, S, hx, hy, rs, h⟩
  rw [hg] at h
  cases hx with
  | int i =>
    cases hy with
    | int j => exact hi pins s σ H _ _ vv uu Q I rv ru (ki i j H Q (h _ _ m .refl rs (.bl _)))
    | _ => exact (show False from h).elim
  | str ha =>
    cases hy with
    | str hb => exact hs pins s σ H _ _ vv uu Q I rv ru (ks _ _ H Q (h _ _ m .refl rs (.bl _)))
    | _ => exact (show False from h).elim
  | _ => exact (show False from h).elim
theorem o_lt : OpR X (compareOp .Lt) (rd2 X.K gLt) := o_ord op_lt op_lt_str (fun i j H Q q => ⟨i, j, rfl, rfl, q⟩) (fun i j H Q q => ⟨i, j, rfl, rfl, q⟩) fun x y S => by cases x <;> cases y <;> rfl
theorem o_le : OpR X (compareOp .LtE) (rd2 X.K gLe) := o_ord op_le op_le_str (fun i j H Q q => ⟨i, j, rfl, rfl, q⟩) (fun i j H Q q => ⟨i, j, rfl, rfl, q⟩) fun x y S => by cases x <;> cases y <;> rfl
theorem o_gt : OpR X (compareOp .Gt) (rd2 X.K gGt) := o_ord op_gt op_gt_str (fun i j H Q q => ⟨i, j, rfl, rfl, q⟩) (fun i j H Q q => ⟨i, j, rfl, rfl, q⟩) fun x y S => by cases x <;> cases y <;> rfl
theorem o_ge : OpR X (compareOp .GtE) (rd2 X.K gGe) := o_ord op_ge op_ge_str (fun i j H Q q => ⟨i, j, rfl, rfl, q⟩) (fun i j H Q q => ⟨i, j, rfl, rfl, q⟩) fun x y S => by cases x <;> cases y <;> rfl

/-! ### in: a list or tuple of flat things, a sign of a text -/
def gInB : D → D → Store → Option Bool
  | .str a, .str b, _ => if a.length = 1 then some (decide (a.cps.getD 0 0 ∈ b.cps.toList)) else none
  | x, .tup ys, _ => if x.flat && flats ys && decide (x.dep ≤ 64) then some (ys.any fun y => deq y x) else none
  | x, .ref l, S => match lstAt S l with
    | some ys => if x.flat && flats ys && decide (x.dep ≤ 64) then some (ys.any fun y => deq y x) else none
    | none => none
  | _, _, _ => none
def gIn (x y : D) (S : Store) : Option (D × Store) := (gInB x y S).map fun b => (.bl b, S)
def gNin (x y : D) (S : Store) : Option (D × Store) := (gInB x y S).map fun b => (.bl (!b), S)
theorem any_toPys {x : D} (hx : x.flat = true) : ∀ {ys : List D}, flats ys = true → ((toPys ys).any fun y => PyData.eqv y (toPy x)) = ys.any fun y => deq y x
  | [], _ => rfl
  | y :: ys, h => by
    have h' : (y.flat && flats ys) = true := h
    rw [Bool.and_eq_true] at h'
    show (PyData.eqv (toPy y) (toPy x) || (toPys ys).any _) = (deq y x || ys.any _)
    rw [eqv_toPy y x h'.1 hx, any_toPys hx h'.2]
theorem sign_of {a : Str} (h : a.length = 1) : a = ⟨#[a.cps.getD 0 0]⟩ := by
  obtain ⟨⟨l⟩⟩ := a
  have h' : l.length = 1 := h
  match l, h' with
  | [c], _ => rfl
theorem o_inB {op : CmpOp} {f : Bool → Bool} {g : D → D → Store → Option (D × Store)} {rs' : R2} (hg : ∀ x y S, g x y S = (gInB x y S).map fun b => (.bl (f b), S)) (hs : OpR X (compareOp op) rs')
    (ks : ∀ (c : Nat) (z : Str) H Q, Q (.bl (f (decide (c ∈ z.cps.toList)))) H → rs' (.str ⟨#[c]⟩) (.str z) H Q)
    (rl : ∀ {s : Shared} {c x : Value} {xs : List PyData} {d : PyData} {as bs : List Addr} {Q E : Value → Shared → Prop}, Reads s.heap c (.list xs) as → Reads s.heap x d bs → PyData.plainAll xs = true → d.plain = true →
      X.A.units + 1 + min (PyData.depthAll xs) d.depth < cLine → Q (.bool (f (xs.any fun y => PyData.eqv y d))) s → wpAny (model X.prog X.w) X.A (compareOp op x c) Q E s)
    (rt : ∀ {s : Shared} {c x : Value} {xs : List PyData} {d : PyData} {as bs : List Addr} {Q E : Value → Shared → Prop}, Reads s.heap c (.tuple xs) as → Reads s.heap x d bs → PyData.plainAll xs = true → d.plain = true →
      X.A.units + 1 + min (PyData.depthAll xs) d.depth < cLine → Q (.bool (f (xs.any fun y => PyData.eqv y d))) s → wpAny (model X.prog X.w) X.A (compareOp op x c) Q E s)
    (hu : X.A.units + 65 < cLine) : OpR X (compareOp op) (rd2 X.K g) := by
  intro pins s σ H v u vv uu Q I rv ru ⟨m, x, y, S, hx, hy, rs, h⟩
  rw [hg] at h
  have room : ∀ (d : D) (ps : List PyData), d.dep ≤ 64 → X.A.units + 1 + min (PyData.depthAll ps) (toPy d).depth < cLine := fun d ps hd => by
    rw [depth_toPy]
    have hm : min (PyData.depthAll ps) d.dep ≤ d.dep := Nat.min_le_right _ _
    omega
  have seqT : ∀ {a : Addr} {vs : List V} {ys : List D} {c : Bool}, TupAt X.K H a vs → RDs X.K m H vs ys → u = .ref a → (x.flat && flats ys && decide (x.dep ≤ 64)) = true → Q (.bl (f (ys.any fun y => deq y x))) H →
      wpAny (model X.prog X.w) X.A (compareOp op vv uu) (EP X pins σ Q) X.xe s := fun {a vs ys c} ht r e hc q => by
    simp only [Bool.and_eq_true, decide_eq_true_eq] at hc
    obtain ⟨⟨h1, h2⟩, h3⟩ := hc
    subst e
    obtain ⟨as, r1⟩ := Dp.reads I _ _ _ (dp_of h1 hx) rv
    obtain ⟨bs, r2⟩ := Dp.reads I _ _ _ (Dp.tup ht.sq (dps_of h2 r)) ru
    exact rt r2 r1 (plains_toPys ys) (plain_toPy x) (room x _ h3) ⟨.bl _, H, I, rfl, by rw [any_toPys h1 h2]; exact q⟩
  have seqL : ∀ {a : Addr} {vs : List V} {ys : List D} {c : Bool}, SqL X.K H a vs → RDs X.K m H vs ys → u = .ref a → (x.flat && flats ys && decide (x.dep ≤ 64)) = true → Q (.bl (f (ys.any fun y => deq y x))) H →
      wpAny (model X.prog X.w) X.A (compareOp op vv uu) (EP X pins σ Q) X.xe s := fun {a vs ys c} ht r e hc q => by
    simp only [Bool.and_eq_true, decide_eq_true_eq] at hc
    obtain ⟨⟨h1, h2⟩, h3⟩ := hc
    subst e
    obtain ⟨as, r1⟩ := Dp.reads I _ _ _ (dp_of h1 hx) rv
    obtain ⟨bs, r2⟩ := Dp.reads I _ _ _ (Dp.lst ht (dps_of h2 r)) ru
    exact rl r2 r1 (plains_toPys ys) (plain_toPy x) (room x _ h3) ⟨.bl _, H, I, rfl, by rw [any_toPys h1 h2]; exact q⟩
  unfold gInB at h
  split at h
  · rename_i a b
    split at h
    · rename_i ha
      have e := sign_of ha
      cases hx
      cases hy
      rw [e] at rv
      exact hs pins s σ H _ _ vv uu Q I rv ru (ks _ _ H Q (h _ _ m .refl rs (.bl _)))
    · exact h.elim
  · rename_i ys _
    split at h
    · rename_i hc
      cases hy with
      | tup ht r => exact seqT (c := true) ht r rfl hc (h _ _ m .refl rs (.bl _))
    · exact h.elim
  · rename_i l
    split at h
    · rename_i ys e
      split at h
      · rename_i hc
        cases hy with
        | ref ha =>
          obtain ⟨vs, h1, h2⟩ := rs.lst ha e
          exact seqL (c := true) h1 h2 rfl hc (h _ _ m .refl rs (.bl _))
      · exact h.elim
    · exact h.elim
  · exact h.elim
theorem o_in (hu : X.A.units + 65 < cLine) : OpR X (compareOp .In) (rd2 X.K gIn) := o_inB (f := fun b => b) (fun _ _ _ => rfl) op_in_sign (fun c z H Q q => ⟨c, z, rfl, rfl, q⟩) PySem.SeqAt.in_list_data PySem.SeqAt.in_tuple_data hu
theorem o_nin (hu : X.A.units + 65 < cLine) : OpR X (compareOp .NotIn) (rd2 X.K gNin) := o_inB (f := fun b => !b) (fun _ _ _ => rfl) op_notIn_sign (fun c z H Q q => ⟨c, z, rfl, rfl, q⟩) PySem.SeqAt.notIn_list_data PySem.SeqAt.notIn_tuple_data hu
end
end Dl

set_option Elab.async false
set_option linter.all false
set_option maxRecDepth 100000
namespace Dl
open PySem L2

/-! ## items, slices -/
def gIx : D → D → Store → Option (D × Store)
  | .tup xs, .int i, S => (atI xs i).map fun d => (d, S)
  | .ref l, .int i, S => (lstAt S l).bind fun xs => (atI xs i).map fun d => (d, S)
  | .str x, .int i, S => (atI x.cps.toList i).map fun c => (.str ⟨#[c]⟩, S)
  | _, _, _ => none
def cutD {α : Type} (xs : List α) (lo hi : Option Int) : List α := (xs.drop (HT.sIx xs.length 0 lo)).take (HT.sIx xs.length xs.length hi - HT.sIx xs.length 0 lo)
def gSl : D → Option Int → Option Int → Store → Option (D × Store)
  | .tup xs, lo, hi, S => some (.tup (cutD xs lo hi), S)
  | .ref l, lo, hi, S => (lstAt S l).map fun xs => (.ref S.length, S ++ [.lst (cutD xs lo hi)])
  | .str x, lo, hi, S => some (.str (cutS x lo hi), S)
  | _, _, _, _ => none
theorem cutS_le (x : Str) (lo hi : Option Int) : (cutS x lo hi).length ≤ x.length := by
  show ((x.cps.toList.drop _).take _).toArray.size ≤ x.cps.size
  rw [List.size_toArray, List.length_take, List.length_drop, Array.length_toList]
  omega
section
variable {K : PySem.W.Frag} {m : List Addr} {H : Hp}
theorem RDs.atI {vs : List V} {ds : List D} (r : RDs K m H vs ds) {i : Int} {d : D} (h : atI ds i = some d) : ∃ v, L2.atI vs i = some v ∧ RD K m H v d := by
  unfold L2.atI at h ⊢
  rw [r.length]
  cases e : ixN ds.length i with
  | none => rw [e] at h; cases h
  | some j =>
    rw [e] at h
    exact r.get h
theorem RDs.cut {vs : List V} {ds : List D} (r : RDs K m H vs ds) (lo hi : Option Int) : RDs K m H (cutV vs lo hi) (cutD ds lo hi) := by
  unfold cutV cutD
  rw [r.length]
  exact (r.drop _).take _
end
section
variable {X : Cx}
theorem i_ix : IxR X (rd2 X.K gIx) := by
  intro value slice pins s σ H v u vv uu Q I rv ru ⟨m, x, y, S, hx, hy, rs, h⟩ hs
  cases hx with
  | @str a ha =>
    cases hy with
    | int i =>
      have h : VPost X.K m H Q ((L2.atI a.cps.toList i).map fun c => (.str ⟨#[c]⟩, S)) := h
      cases e : L2.atI a.cps.toList i with
      | none => rw [e] at h; exact h.elim
      | some c =>
        rw [e] at h
        exact ix_str value slice pins s σ H _ _ vv uu Q I rv ru ⟨a, i, c, rfl, rfl, by rw [← lim_eq]; exact ha, e, h _ _ m .refl rs (.str (by show (1 : Nat) ≤ _; decide))⟩ hs
    | _ => exact (show False from h).elim
  | @tup a vs ds ht r =>
    cases hy with
    | int i =>
      have h : VPost X.K m H Q ((L2.atI ds i).map fun c => (c, S)) := h
      cases e : L2.atI ds i with
      | none => rw [e] at h; exact h.elim
      | some d =>
        rw [e] at h
        obtain ⟨w, h1, h2⟩ := r.atI e
        exact ix_tup value slice pins s σ H _ _ vv uu Q I rv ru ⟨a, vs, i, w, rfl, rfl, ht.sq, h1, h _ _ m .refl rs h2⟩ hs
    | _ => exact (show False from h).elim
  | @ref a l hl =>
    cases hy with
    | int i =>
      have h : VPost X.K m H Q ((lstAt S l).bind fun xs => (L2.atI xs i).map fun c => (c, S)) := h
      cases e1 : lstAt S l with
      | none => rw [e1] at h; exact h.elim
      | some xs =>
        rw [e1] at h
        obtain ⟨vs, hq, r⟩ := rs.lst hl e1
        have h : VPost X.K m H Q ((L2.atI xs i).map fun c => (c, S)) := h
        cases e : L2.atI xs i with
        | none => rw [e] at h; exact h.elim
        | some d =>
          rw [e] at h
          obtain ⟨w, h1, h2⟩ := r.atI e
          exact ix_list value slice pins s σ H _ _ vv uu Q I rv ru ⟨a, vs, i, w, rfl, rfl, hq, h1, h _ _ m .refl rs h2⟩ hs
    | _ => exact (show False from h).elim
  | _ => exact (show False from h).elim
def rdSl (K : PySem.W.Frag) (g : D → Option Int → Option Int → Store → Option (D × Store)) : V → Option Int → Option Int → Hp → VK → Prop := fun v lo hi H Q => ∃ m x S, RD K m H v x ∧ RS K m H S ∧ VPost K m H Q (g x lo hi S)
theorem s_sl : SlR X (rdSl X.K gSl) := by
  intro pins s σ H v vv vl vu lo hi sl Q I rv hs pl pu ⟨m, x, S, hx, rs, h⟩
  cases hx with
  | @str a ha => exact sl_str pins s σ H _ vv vl vu lo hi sl Q I rv hs pl pu ⟨a, rfl, by rw [← lim_eq]; exact ha, h _ _ m .refl rs (.str (Nat.le_trans (cutS_le a lo hi) ha))⟩
  | @tup a vs ds ht r =>
    have h : VPost X.K m H Q (some (.tup (cutD ds lo hi), S)) := h
    by_cases hw : HT.sIx ds.length 0 lo = 0 ∧ HT.sIx ds.length ds.length hi = ds.length
    · cases rv
      obtain ⟨its, r1, p, hz⟩ := I.tuple ht.sq
      have hlen : its.toArray.size = vs.length := by rw [List.size_toArray]; exact r1.length.symm
      have ec : cutD ds lo hi = ds := by unfold cutD; rw [hw.1, hw.2, List.drop_zero, Nat.sub_zero, List.take_length]
      refine ⟨"tuple", _, PyProof.Rows.slot_tuple_getitem.lookup, p.typeIs, ?_⟩
      refine getItem_tuple_whole p hs pl pu (by rw [hlen, r.length]; exact hw) ⟨.ref a, H, I, rfl, h _ _ m .refl rs ?_⟩
      rw [ec]
      exact .tup ht r
    · cases rv
      obtain ⟨its, r1, p, hz⟩ := I.tuple ht.sq
      have hlen : its.toArray.size = vs.length := by rw [List.size_toArray]; exact r1.length.symm
      refine ⟨"tuple", _, PyProof.Rows.slot_tuple_getitem.lookup, p.typeIs, ?_⟩
      refine HT.getItem_tuple_cut p hs pl pu (by rw [hlen, r.length]; exact hw) ?_ (by rw [hlen]; exact hz)
      rw [hlen]
      exact lay_tup (tk := s.toks) I (Nat.le_trans (cutV_length vs lo hi) hz) ((r1.drop (HT.sIx vs.length 0 lo)).take (HT.sIx vs.length vs.length hi - HT.sIx vs.length 0 lo)) fun o hc hd =>
        vp_tup rs (I.hok.fresh (Nat.le_refl _)) hc hd (r.cut lo hi) h
  | @ref a l hl =>
    have h : VPost X.K m H Q ((lstAt S l).map fun xs => (.ref S.length, S ++ [.lst (cutD xs lo hi)])) := h
    cases e : lstAt S l with
    | none => rw [e] at h; exact h.elim
    | some xs =>
      rw [e] at h
      obtain ⟨vs, hq, r⟩ := rs.lst hl e
      exact sl_list pins s σ H _ vv vl vu lo hi sl Q I rv hs pl pu ⟨a, vs, rfl, hq, fun p hp => vp_lst rs hp (r.cut lo hi) h⟩
  | _ => exact (show False from h).elim
/-- o[i] = v -/
def gSet : D → D → D → Store → Option Store
  | .ref l, .int k, d, S => match S[l]? with
    | some (.lst xs) => (ixN xs.length k).map fun j => S.set l (.lst (xs.set j d))
    | _ => none
  | _, _, _, _ => none
def rdSet (K : PySem.W.Frag) (g : D → D → D → Store → Option Store) : V → V → V → Hp → (Hp → Prop) → Prop := fun o i v H Q => ∃ m x y z S, RD K m H o x ∧ RD K m H i y ∧ RD K m H v z ∧ RS K m H S ∧ match g x y z S with
  | some S' => ∀ H' m', Ext K m H m' H' → RS K m' H' S' → Q H'
  | none => False
theorem p_set : PSet X (rdSet X.K gSet) := by
  intro pins s σ H o i v ov iv u Q I ro ri rv ⟨m, x, y, z, S, hx, hy, hz, rs, h⟩
  unfold gSet at h
  cases hx with
  | @ref a l hl =>
    cases hy with
    | int k =>
      simp only at h
      cases e : S[l]? with
      | none => rw [e] at h; exact h.elim
      | some c =>
        cases c with
        | lst xs =>
          rw [e] at h
          simp only at h
          cases e2 : ixN xs.length k with
          | none => rw [e2] at h; exact h.elim
          | some j =>
            rw [e2] at h
            simp only [Option.map_some] at h
            obtain ⟨vs, h1, r⟩ := rs.wlst hl e
            refine set_list pins s σ H _ _ v ov iv u Q I ro ri rv ⟨a, vs, k, j, rfl, rfl, h1, by rw [r.length]; exact e2, ?_⟩
            obtain ⟨ex, rs'⟩ := rs.write (o := .lst (vs.set j v)) (c' := .lst (xs.set j z)) hl e rfl rfl fun ex => ⟨_, upd_same, (RDs.set hz j r).mono ex⟩
            exact h _ _ ex rs'
        | _ => rw [e] at h; exact h.elim
    | _ => exact h.elim
  | _ => exact h.elim
end
section
variable {X : Cx} {W : WX} {a b e : Expr} {es : List Expr} {fa fb fe : EX} {fr fx : AX} {pos p p2 : Pos}
theorem d_ix (ha : PE X a (rdE (X.cq W) fa)) (hb : PE X b (rdE (X.cq W) fb)) (hs : PlainIx b := by exact fun _ _ => rfl) : PE X (.Subscript a b pos) (rdE (X.cq W) (e2 gIx fa fb)) :=
  d_2h (pe_ix i_ix ha hb hs) fun _ _ _ _ h => h
def oN : Env → Store → R (Option Int) := fun _ S => .ok none S
def oI (fa : EX) : Env → Store → R (Option Int) := fun ρ S => (fa ρ S).bind fun d S1 => match d with
  | .int i => .ok (some i) S1
  | _ => .no
def eSl (fa : EX) (lo hi : Env → Store → R (Option Int)) : EX := fun ρ S => (fa ρ S).bind fun x S1 => (lo ρ S1).bind fun l S2 => (hi ρ S2).bind fun h S3 => toR (gSl x l h S3)
theorem d_oN : PO X none (rdO (X.cq W) oN) := POwk po_none fun σ H Q ⟨m, ρ, S, re, rs, h⟩ => h none H m .refl rs rfl
theorem d_oI (ha : PE X a (rdE (X.cq W) fa)) : PO X (some a) (rdO (X.cq W) (oI fa)) := POwk (po_some ha) fun σ H Q ⟨m, ρ, S, re, rs, h⟩ =>
  ⟨m, ρ, S, re, rs, (Post.bind h).imp fun v H1 ⟨m1, x, S1, e, rs1, rd, h1⟩ => by
    cases rd with
    | int i => exact ⟨i, rfl, h1 _ _ m1 .refl rs1 rfl⟩
    | _ => exact h1.elim⟩
theorem d_sl {lo hi : Option Expr} {fl fh : Env → Store → R (Option Int)} (ha : PE X a (rdE (X.cq W) fa)) (hl : PO X lo (rdO (X.cq W) fl)) (hh : PO X hi (rdO (X.cq W) fh)) :
    PE X (.Subscript a (.Slice lo hi none p2) pos) (rdE (X.cq W) (eSl fa fl fh)) := PEwk (pe_slice s_sl ha hl hh) fun σ H Q ⟨m, ρ, S, re, rs, h⟩ =>
  ⟨m, ρ, S, re, rs, (Post.bind h).imp fun v H1 ⟨m1, x, S1, e, rs1, rd, h1⟩ => ⟨m1, ρ, S1, re.mono e, rs1, (Post.bind h1).imp fun lv H2 ⟨m2, l, S2, e2, rs2, el, h2⟩ => by
    subst el
    exact ⟨m2, ρ, S2, (re.mono e).mono e2, rs2, (Post.bind h2).imp fun hv H3 ⟨m3, hh', S3, e3, rs3, eh, h3⟩ => by
      subst eh
      exact ⟨m3, x, S3, (rd.mono e2).mono e3, rs3, VPost.of h3⟩⟩⟩⟩
/-! ## arguments, displays, calls of builtins -/
theorem d_aN : PA X [] (rdA (X.cq W) aN) := PAwk pa_nil fun σ H Q ⟨m, ρ, S, re, rs, h⟩ => h [] H m .refl rs .nil
theorem d_aC (he : PE X e (rdE (X.cq W) fe)) (hr : PA X es (rdA (X.cq W) fr)) (hs : starEach (e :: es) X.env = (false, eval e X.env) :: starEach es X.env := by rfl) : PA X (e :: es) (rdA (X.cq W) (aC fe fr)) :=
  PAwk (pa_cons he hr hs) fun σ H Q ⟨m, ρ, S, re, rs, h⟩ => ⟨m, ρ, S, re, rs, (Post.bind h).imp fun v H1 ⟨m1, x, S1, e, rs1, rd, h1⟩ =>
    ⟨m1, ρ, S1, re.mono e, rs1, (Post.bind h1).imp fun vs H2 ⟨m2, xs, S2, e2, rs2, rds, h2⟩ => h2 _ _ m2 .refl rs2 (.cons (rd.mono e2) rds)⟩⟩
def gTpl (xs : List D) (S : Store) : Option (D × Store) := if xs.length ≤ LIM then some (.tup xs, S) else none
def gLsd (xs : List D) (S : Store) : Option (D × Store) := if xs.length ≤ LIM then some (.ref S.length, S ++ [.lst xs]) else none
theorem d_tup {k : Nat} (h : PA X es (rdA (X.cq W) fx)) : PE X (.Tuple es k pos) (rdE (X.cq W) (eB gTpl fx)) := by
  refine ⟨fun pins s σ H Q I ⟨m, ρ, S, re, rs, hq⟩ => ?_⟩
  refine wpAny_Tuple_spliced (thn (h.run pos pins s σ H _ I ⟨m, ρ, S, re, rs, Post.bind hq⟩) fun us s1 ⟨vs, H1, I1, r, m1, xs, S1, e, rs1, rds, h1⟩ => ?_)
  have h1 := VPost.of h1
  unfold gTpl at h1
  split at h1
  · rename_i hz
    have hz' : vs.length ≤ sizeLine := by rw [← lim_eq, rds.length]; exact hz
    exact ⟨by rw [← r.length]; exact hz', lay_tup (tk := s1.toks) I1 hz' r fun o hc hd => vp_tup rs1 (I1.hok.fresh (Nat.le_refl _)) hc hd rds h1⟩
  · exact h1.elim
theorem d_lst (h : PA X es (rdA (X.cq W) fx)) : PE X (.List es pos) (rdE (X.cq W) (eB gLsd fx)) := PEwk (pe_lst h) fun σ H Q ⟨m, ρ, S, re, rs, hq⟩ =>
  ⟨m, ρ, S, re, rs, (Post.bind hq).imp fun vs H1 ⟨m1, xs, S1, e, rs1, rds, h1⟩ => by
    have h1 := VPost.of h1
    unfold gLsd at h1
    split at h1
    · rename_i hz
      exact ⟨by rw [← lim_eq, rds.length]; exact hz, fun p hp => vp_lst rs1 hp rds h1⟩
    · exact h1.elim⟩
theorem d_callB {x : Str} {id : String} {g : List D → Store → Option (D × Store)} (hc : CallR X (.builtin id) (rdC X.K g)) (hg : Gl X x) (hm : X.mg x = none) (hv : bootBuiltins x = some (.builtin id)) (ha : PA X (e :: es) (rdA (X.cq W) fx)) (hn : x ≠ "__name__" := by decide)
    (hdb : (x == ("__debug__" : Str)) = false := by decide) (he : starEach (e :: es) X.env = (false, eval e X.env) :: starEach es X.env := by rfl) (hpl : (backTo pos (starEach es X.env)).any (·.1) = false := by rfl) :
    PE X (.Call (.Name x p) (e :: es) [] pos) (rdE (X.cq W) (eB g fx)) := PEwk (pe_callB hc hg hm hv ha hn hdb he hpl) fun σ H Q ⟨m, ρ, S, re, rs, h⟩ =>
  ⟨m, ρ, S, re, rs, (Post.bind h).imp fun vs H1 ⟨m1, xs, S1, e, rs1, rd, h1⟩ => ⟨m1, xs, S1, rd, rs1, VPost.of h1⟩⟩
theorem d_callT {x : Str} {T : String} {g : List D → Store → Option (D × Store)} (hc : CallR X (.type T) (rdC X.K g)) (hg : Gl X x) (hm : X.mg x = none) (hv : bootBuiltins x = some (.type T)) (ha : PA X (e :: es) (rdA (X.cq W) fx)) (hn : x ≠ "__name__" := by decide)
    (hdb : (x == ("__debug__" : Str)) = false := by decide) (he : starEach (e :: es) X.env = (false, eval e X.env) :: starEach es X.env := by rfl) (hpl : (backTo pos (starEach es X.env)).any (·.1) = false := by rfl) :
    PE X (.Call (.Name x p) (e :: es) [] pos) (rdE (X.cq W) (eB g fx)) := PEwk (pe_callTy hc hg hm hv ha hn hdb he hpl) fun σ H Q ⟨m, ρ, S, re, rs, h⟩ =>
  ⟨m, ρ, S, re, rs, (Post.bind h).imp fun vs H1 ⟨m1, xs, S1, e, rs1, rd, h1⟩ => ⟨m1, xs, S1, rd, rs1, VPost.of h1⟩⟩
/-- a method of a built-in type -/
theorem d_bm {o : Expr} {fo : EX} {T id : String} {name : Str} {apos cpos : Pos} {g : D → List D → Store → Option (D × Store)} (pa : PlainAttrs T) (slot : Slot T name id) (hty : typeOf (.builtin id) = pure (.type "method_descriptor")) (hm : MtR X id (rdM X.K g))
    (hT : ∀ v m H x S xs S1, RD X.K m H v x → RS X.K m H S → (g x xs S1).isSome = true → tyV X.K T v H)
    (ho : PE X o (rdE (X.cq W) fo)) (ha : PA X (e :: es) (rdA (X.cq W) fx)) : True := trivial
end
end Dl

set_option Elab.async false
set_option linter.all false
set_option maxRecDepth 100000
namespace Dl
open PySem L2

/-! ## built-in functions -/
inductive Ty where
  | non | bl | int | str | tup | lst | dic
  deriving DecidableEq
def Ty.name : Ty → String
  | .non => "NoneType" | .bl => "bool" | .int => "int" | .str => "str" | .tup => "tuple" | .lst => "list" | .dic => "dict"
def tyD (S : Store) : D → Option Ty
  | .non => some .non
  | .bl _ => some .bl
  | .int _ => some .int
  | .str _ => some .str
  | .tup _ => some .tup
  | .ref l => match S[l]? with
    | some (.lst _) => some .lst
    | some (.rol _) => some .lst
    | some (.dic _) => some .dic
    | _ => none
  | .raw _ => none
def isiB (t T : Ty) : Bool := decide (t = T) || (decide (t = .bl) && decide (T = .int))
theorem kit_all (t T : Ty) (hT : T ≠ .non) : kitB t.name T.name = some (isiB t T) := by
  cases T <;> first | exact absurd rfl hT | (cases t <;> decide +kernel)
def gIsi (T : Ty) : List D → Store → Option (D × Store)
  | [x, .raw (.ty n)], S => if n = T.name then (tyD S x).map fun t => (.bl (isiB t T), S) else none
  | _, _ => none
def gLen : List D → Store → Option (D × Store)
  | [.str x], S => some (.int x.length, S)
  | [.tup xs], S => some (.int xs.length, S)
  | [.ref l], S => (lstAt S l).map fun xs => (.int xs.length, S)
  | _, _ => none
def gAbs : List D → Store → Option (D × Store)
  | [.int i], S => some (.int (if i < 0 then -i else i), S)
  | _, _ => none
def gInt : List D → Store → Option (D × Store)
  | [.int i], S => some (.int i, S)
  | [.bl b], S => some (.int (if b then 1 else 0), S)
  | [.str x], S => if x.length ≤ 640 then (PySem.intText? x).map fun n => (.int n, S) else none
  | _, _ => none
def gStr : List D → Store → Option (D × Store)
  | [.int i], S => if i.natAbs.log2 < 1920 ∧ (toString i : Str).length ≤ LIM then some (.str (toString i), S) else none
  | _, _ => none
def gMax2 : List D → Store → Option (D × Store)
  | [.int i, .int j], S => some (.int (if j > i then j else i), S)
  | _, _ => none
def gMin2 : List D → Store → Option (D × Store)
  | [.int i, .int j], S => some (.int (if j < i then j else i), S)
  | _, _ => none
/-- list(xs): a new list -/
def gList : List D → Store → Option (D × Store)
  | [.tup xs], S => some (.ref S.length, S ++ [.lst xs])
  | [.ref l], S => (lstAt S l).map fun xs => (.ref S.length, S ++ [.lst xs])
  | _, _ => none
def gTuple : List D → Store → Option (D × Store)
  | [.tup xs], S => some (.tup xs, S)
  | [.ref l], S => (lstAt S l).map fun xs => (.tup xs, S)
  | _, _ => none
/-- all, any of a list of bools -/
def bools : List D → Option (List Bool)
  | [] => some []
  | .bl b :: r => (bools r).map (b :: ·)
  | _ => none
def gAll : List D → Store → Option (D × Store)
  | [.ref l], S => ((lstAt S l).bind bools).map fun bs => (.bl (bs.all id), S)
  | _, _ => none
def gAny : List D → Store → Option (D × Store)
  | [.ref l], S => ((lstAt S l).bind bools).map fun bs => (.bl (bs.any id), S)
  | _, _ => none
section
variable {X : Cx}
theorem tyx_of {K : PySem.W.Frag} {m : List Addr} {H : Hp} {S : Store} {v : V} {x : D} {t : Ty} (r : RD K m H v x) (rs : RS K m H S) (h : tyD S x = some t) : TyX K H v (.type t.name) := by
  cases r with
  | non => cases h; exact .base .non
  | bl b => cases h; exact .base (.bl b)
  | int b => cases h; exact .base (.int b)
  | str b => cases h; exact .base (.str _)
  | tup ht _ =>
    cases h
    rcases ht with ⟨o, h, _⟩ | ⟨o, its, n, h1, h2, _⟩
    · exact .fTuple h
    · exact .kTuple h1 h2
  | @ref a l hl =>
    unfold tyD at h
    simp only at h
    split at h
    · rename_i xs e
      cases h
      obtain ⟨vs, h1, _⟩ := rs.at_ hl e
      exact .base (.lst h1)
    · rename_i xs e
      cases h
      obtain ⟨vs, h1, _⟩ := rs.at_ hl e
      rcases h1 with ⟨o, h1⟩ | ⟨o, its, n, h1, h2, _⟩
      · exact .base (.frz h1)
      · exact .kList h1 h2
    · rename_i xs e
      cases h
      obtain ⟨vs, h1, _⟩ := rs.at_ hl e
      exact .base (.dK h1)
    · cases h
  | raw v => cases h
theorem c_isi (T : Ty) (hT : T ≠ .non) : CallR X (.builtin "isinstance") (rdC X.K (gIsi T)) := by
  intro pins s σ H vs us Q I r ⟨m, xs, S, hx, rs, h⟩
  unfold gIsi at h
  split at h
  · rename_i x n
    split at h
    · rename_i hn
      subst hn
      cases hx with
      | cons h1 h2 =>
        cases h2 with
        | cons h3 h4 =>
          cases h4
          cases h3
          cases e : tyD S x with
          | none => rw [e] at h; exact h.elim
          | some t =>
            rw [e] at h
            exact call_isi pins s σ H _ us Q I r ⟨_, _, _, .type T.name, isiB t T, rfl, .ty _, tyx_of h1 rs e, kit_ty (kit_all t T hT), h _ _ m .refl rs (.bl _)⟩
    · exact h.elim
  · exact h.elim
theorem c_len : CallR X (.builtin "len") (rdC X.K gLen) := by
  intro pins s σ H vs us Q I r ⟨m, xs, S, hx, rs, h⟩
  unfold gLen at h
  split at h
  · cases hx with
    | cons h1 h2 =>
      cases h2
      cases h1 with
      | str hz => exact call_len pins s σ H _ us Q I r ⟨_, _, rfl, ⟨by rw [← lim_eq]; exact hz, rfl⟩, h _ _ m .refl rs (.int _)⟩
  · cases hx with
    | cons h1 h2 =>
      cases h2
      cases h1 with
      | tup ht rd => exact call_len pins s σ H _ us Q I r ⟨_, _, rfl, .inr ⟨_, ht.sq, rfl⟩, by rw [rd.length]; exact h _ _ m .refl rs (.int _)⟩
  · rename_i l
    cases e : lstAt S l with
    | none => rw [e] at h; exact h.elim
    | some ys =>
      rw [e] at h
      cases hx with
      | cons h1 h2 =>
        cases h2
        cases h1 with
        | ref hl =>
          obtain ⟨ws, hq, rd⟩ := rs.lst hl e
          exact call_len pins s σ H _ us Q I r ⟨_, _, rfl, .inl ⟨_, hq, rfl⟩, by rw [rd.length]; exact h _ _ m .refl rs (.int _)⟩
  · exact h.elim
theorem c_abs : CallR X (.builtin "abs") (rdC X.K gAbs) := by
  intro pins s σ H vs us Q I r ⟨m, xs, S, hx, rs, h⟩
  unfold gAbs at h
  split at h
  · cases hx with
    | cons h1 h2 =>
      cases h2
      cases h1
      exact call_abs pins s σ H _ us Q I r ⟨_, rfl, h _ _ m .refl rs (.int _)⟩
  · exact h.elim
theorem c_int : CallR X (.type "int") (rdC X.K gInt) := by
  intro pins s σ H vs us Q I r ⟨m, xs, S, hx, rs, h⟩
  unfold gInt at h
  split at h
  · cases hx with
    | cons h1 h2 =>
      cases h2
      cases h1
      exact call_int1 pins s σ H _ us Q I r (.inl ⟨_, rfl, h _ _ m .refl rs (.int _)⟩)
  · cases hx with
    | cons h1 h2 =>
      cases h2
      cases h1
      exact call_int1 pins s σ H _ us Q I r (.inr ⟨_, rfl, h _ _ m .refl rs (.int _)⟩)
  · rename_i x
    split at h
    · rename_i hz
      cases e : PySem.intText? x with
      | none => rw [e] at h; exact h.elim
      | some n =>
        rw [e] at h
        cases hx with
        | cons h1 h2 =>
          cases h2
          cases h1
          exact call_int_str pins s σ H _ us Q I r ⟨_, n, rfl, e, hz, h _ _ m .refl rs (.int _)⟩
    · exact h.elim
  · exact h.elim
theorem c_str : CallR X (.type "str") (rdC X.K gStr) := by
  intro pins s σ H vs us Q I r ⟨m, xs, S, hx, rs, h⟩
  unfold gStr at h
  split at h
  · split at h
    · rename_i hz
      cases hx with
      | cons h1 h2 =>
        cases h2
        cases h1
        exact call_str_int pins s σ H _ us Q I r ⟨_, rfl, hz.1, h _ _ m .refl rs (.str hz.2)⟩
    · exact h.elim
  · exact h.elim
theorem c_max2 (hc : X.calm = true) : CallR X (.builtin "max") (rdC X.K gMax2) := by
  intro pins s σ H vs us Q I r ⟨m, xs, S, hx, rs, h⟩
  unfold gMax2 at h
  split at h
  · cases hx with
    | cons h1 h2 =>
      cases h2 with
      | cons h2 h3 =>
        cases h3
        cases h1
        cases h2
        exact call_max2 hc pins s σ H _ us Q I r ⟨_, _, rfl, h _ _ m .refl rs (.int _)⟩
  · exact h.elim
theorem c_min2 (hc : X.calm = true) : CallR X (.builtin "min") (rdC X.K gMin2) := by
  intro pins s σ H vs us Q I r ⟨m, xs, S, hx, rs, h⟩
  unfold gMin2 at h
  split at h
  · cases hx with
    | cons h1 h2 =>
      cases h2 with
      | cons h2 h3 =>
        cases h3
        cases h1
        cases h2
        exact call_min2 hc pins s σ H _ us Q I r ⟨_, _, rfl, h _ _ m .refl rs (.int _)⟩
  · exact h.elim
theorem c_list : CallR X (.type "list") (rdC X.K gList) := by
  intro pins s σ H vs us Q I r ⟨m, xs, S, hx, rs, h⟩
  unfold gList at h
  split at h
  · cases hx with
    | cons h1 h2 =>
      cases h2
      cases h1 with
      | tup ht rd => exact call_list_of pins s σ H _ us Q I r ⟨_, _, rfl, .inr ht.sq, fun p hp => vp_lst rs hp rd h⟩
  · rename_i l
    cases e : lstAt S l with
    | none => rw [e] at h; exact h.elim
    | some ys =>
      rw [e] at h
      cases hx with
      | cons h1 h2 =>
        cases h2
        cases h1 with
        | ref hl =>
          obtain ⟨ws, hq, rd⟩ := rs.lst hl e
          exact call_list_of pins s σ H _ us Q I r ⟨_, _, rfl, .inl hq, fun p hp => vp_lst rs hp rd h⟩
  · exact h.elim
theorem c_tuple : CallR X (.type "tuple") (rdC X.K gTuple) := by
  intro pins s σ H vs us Q I r ⟨m, xs, S, hx, rs, h⟩
  unfold gTuple at h
  split at h
  · cases hx with
    | cons h1 h2 =>
      cases h2
      cases h1 with
      | tup ht rd => exact call_tupleT pins s σ H _ us Q I r ⟨_, _, rfl, ht.sq, h _ _ m .refl rs (.tup ht rd)⟩
  · rename_i l
    cases e : lstAt S l with
    | none => rw [e] at h; exact h.elim
    | some ys =>
      rw [e] at h
      cases hx with
      | cons h1 h2 =>
        cases h2
        cases h1 with
        | ref hl =>
          obtain ⟨ws, hq, rd⟩ := rs.lst hl e
          obtain ⟨u, rfl, rx⟩ := vals1 r
          cases rx
          obtain ⟨its, r', pl, hz⟩ := I.list hq
          have hlen := r'.length
          refine call_tuple_list pl.isList (fun h' kp => ?_) (by simp only [List.size_toArray] <;> omega)
          have I1 : L2.Inv X pins σ H { s with heap := h' } := I.kept (t' := s.toks) kp
          exact lay_tup (s := { s with heap := h' }) (tk := s.toks) I1 hz r' fun o hc hd => vp_tup rs (I1.hok.fresh (Nat.le_refl _)) hc hd rd h
  · exact h.elim
theorem bools_of {K : PySem.W.Frag} {m : List Addr} {H : Hp} : ∀ {xs : List D} {vs : List V} {bs : List Bool}, RDs K m H vs xs → bools xs = some bs → vs = bs.map V.bl
  | [], _, _, r, h => by cases r; cases h; rfl
  | .bl b :: r, _, bs, rr, h => by
    cases rr with
    | cons h1 h2 =>
      cases h1
      have h : (bools r).map (b :: ·) = some bs := h
      cases e : bools r with
      | none => rw [e] at h; cases h
      | some cs =>
        rw [e] at h
        cases h
        rw [bools_of h2 e]
        rfl
  | .non :: _, _, _, _, h => nomatch h
  | .int _ :: _, _, _, _, h => nomatch h
  | .str _ :: _, _, _, _, h => nomatch h
  | .tup _ :: _, _, _, _, h => nomatch h
  | .ref _ :: _, _, _, _, h => nomatch h
  | .raw _ :: _, _, _, _, h => nomatch h
theorem c_all (hc : X.calm = true) : CallR X (.builtin "all") (rdC X.K gAll) := by
  intro pins s σ H vs us Q I r ⟨m, xs, S, hx, rs, h⟩
  unfold gAll at h
  split at h
  · rename_i l
    cases e : lstAt S l with
    | none => rw [e] at h; exact h.elim
    | some ys =>
      rw [e] at h
      simp only [Option.bind_some] at h
      cases e2 : bools ys with
      | none => rw [e2] at h; exact h.elim
      | some bs =>
        rw [e2] at h
        cases hx with
        | cons h1 h2 =>
          cases h2
          cases h1 with
          | ref hl =>
            obtain ⟨ws, hq, rd⟩ := rs.lst hl e
            have ew := bools_of rd e2
            subst ew
            exact cr_all hc pins s σ H _ us Q I r ⟨_, bs, rfl, hq, h _ _ m .refl rs (.bl _)⟩
  · exact h.elim
theorem c_any (hc : X.calm = true) : CallR X (.builtin "any") (rdC X.K gAny) := by
  intro pins s σ H vs us Q I r ⟨m, xs, S, hx, rs, h⟩
  unfold gAny at h
  split at h
  · rename_i l
    cases e : lstAt S l with
    | none => rw [e] at h; exact h.elim
    | some ys =>
      rw [e] at h
      simp only [Option.bind_some] at h
      cases e2 : bools ys with
      | none => rw [e2] at h; exact h.elim
      | some bs =>
        rw [e2] at h
        cases hx with
        | cons h1 h2 =>
          cases h2
          cases h1 with
          | ref hl =>
            obtain ⟨ws, hq, rd⟩ := rs.lst hl e
            have ew := bools_of rd e2
            subst ew
            exact cr_any hc pins s σ H _ us Q I r ⟨_, bs, rfl, hq, h _ _ m .refl rs (.bl _)⟩
  · exact h.elim
end

/-! ## methods of built-in types -/
def eMt (T : Ty) (g : D → List D → Store → Option (D × Store)) (fo : EX) (fa : AX) : EX := fun ρ S => (fo ρ S).bind fun x S1 => if tyD S1 x = some T then (fa ρ S1).bind fun xs S2 => toR (g x xs S2) else .no
section
variable {X : Cx} {W : WX} {o e : Expr} {es : List Expr} {fo fe : EX} {fx : AX} {apos cpos : Pos} {name : Str} {id : String} {T : Ty} {g : D → List D → Store → Option (D × Store)}
theorem ty_is {pins : List (Addr × Obj)} {σ : St} {H : Hp} {s : Shared} {m : List Addr} {S : Store} {v : V} {x : D} {u : Value} (I : L2.Inv X pins σ H s) (r : RelV v u) (rd : RD X.K m H v x) (rs : RS X.K m H S) (h : tyD S x = some T) (hT : T = .str ∨ T = .tup ∨ T = .lst ∨ T = .dic) :
    s.TypeIs u T.name ∧ ∀ a, u = .ref a → ∃ ob, s.heap.get? a = some ob ∧ ob.dict = none := by
  cases rd with
  | non => cases h; rcases hT with z | z | z | z <;> cases z
  | bl b => cases h; rcases hT with z | z | z | z <;> cases z
  | int b => cases h; rcases hT with z | z | z | z <;> cases z
  | str b =>
    cases h
    obtain ⟨t, rfl⟩ := r
    exact ⟨typeIs_str _ _ _, fun _ e => nomatch e⟩
  | @tup a _ _ ht _ =>
    cases h
    cases r
    rcases ht with ⟨ob, h, hc, hd⟩ | ⟨ob, its, n, h1, h2, h3, _⟩
    · obtain ⟨e, _⟩ := (show ObjOk X.prog X.w H s.heap a (.frz ob _) from I.hok a _ h)
      exact ⟨⟨ob, e, hc⟩, fun b eb => by cases eb; exact ⟨ob, e, hd⟩⟩
    · exact ⟨⟨ob, I.kIn a ob h1, h2⟩, fun b eb => by cases eb; exact ⟨ob, I.kIn _ ob h1, h3⟩⟩
  | @ref a l hl =>
    cases r
    unfold tyD at h
    simp only at h
    split at h
    · rename_i xs e
      cases h
      obtain ⟨vs, h1, _⟩ := rs.at_ hl e
      exact tyV_is (T := "list") (x := .ref a) I rfl (.inl ⟨rfl, _, SqL.of h1⟩)
    · rename_i xs e
      cases h
      obtain ⟨vs, h1, _⟩ := rs.at_ hl e
      exact tyV_is (T := "list") (x := .ref a) I rfl (.inl ⟨rfl, _, h1.sq⟩)
    · rename_i xs e
      cases h
      obtain ⟨vs, h1, _⟩ := rs.at_ hl e
      exact tyV_is (T := "dict") (x := .ref a) I rfl (.inr (.inr (.inl ⟨rfl, .inl ⟨_, h1⟩⟩)))
    · cases h
  | raw v => cases h
theorem d_m0 (pa : PlainAttrs T.name) (slot : Slot T.name name id) (hty : typeOf (.builtin id) = pure (.type "method_descriptor")) (hT : T = .str ∨ T = .tup ∨ T = .lst ∨ T = .dic) (hm : MtR X id (rdM X.K g)) (ho : PE X o (rdE (X.cq W) fo))
    (hbase : attributeBase o name X.env (eval o X.env) = eval o X.env := by rfl) (hline : (apos.endLine == cpos.line) = true := by rfl) : PE X (.Call (.Attribute o name apos) [] [] cpos) (rdE (X.cq W) (eMt T g fo aN)) := by
  refine ⟨fun pins s σ H Q I ⟨m, ρ, S, re, rs, h⟩ => ?_⟩
  refine wpAny_Call_method0_late hbase hline (thn (ho.run pins s σ H _ I ⟨m, ρ, S, re, rs, Post.bind h⟩) fun v s1 ⟨x, H1, I1, r1, m1, d, S1, e1, rs1, rd1, h1⟩ => ?_)
  split at h1
  · rename_i ht
    obtain ⟨q1, q2⟩ := ty_is I1 r1 rd1 rs1 ht hT
    exact ⟨T.name, id, pa, slot, hty, q1, q2, Calls.callWith_builtin rfl (PySem.evalArgs_none (hm pins s1 σ H1 x [] v [] Q I1 r1 .nil ⟨m1, d, [], S1, rd1, .nil, rs1, VPost.of h1⟩))⟩
  · exact h1.elim
theorem d_m (pa : PlainAttrs T.name) (slot : Slot T.name name id) (hty : typeOf (.builtin id) = pure (.type "method_descriptor")) (hT : T = .str ∨ T = .tup ∨ T = .lst ∨ T = .dic) (hm : MtR X id (rdM X.K g)) (ho : PE X o (rdE (X.cq W) fo)) (ha : PA X (e :: es) (rdA (X.cq W) fx))
    (hbase : attributeBase o name X.env (eval o X.env) = eval o X.env := by rfl)
    (hfew : ((backTo cpos (starEach (e :: es) X.env)).all (fun x => !x.1) && (backToKw cpos (keywordEach [] X.env)).all (fun x => x.1.isSome)
      && decide ((e :: es).length + ([] : List Keyword).length + (if ([] : List Keyword).isEmpty then 0 else 1) < 30)) = true := by rfl)
    (hline : (apos.endLine == cpos.line) = true := by rfl) (hs : starEach (e :: es) X.env = (false, eval e X.env) :: starEach es X.env := by rfl) (hplain : (backTo cpos (starEach es X.env)).any (·.1) = false := by rfl) :
    PE X (.Call (.Attribute o name apos) (e :: es) [] cpos) (rdE (X.cq W) (eMt T g fo fx)) := by
  refine ⟨fun pins s σ H Q I ⟨m, ρ, S, re, rs, h⟩ => ?_⟩
  refine wpAny_Call_method_late hbase hfew hline rfl (thn (ho.run pins s σ H _ I ⟨m, ρ, S, re, rs, Post.bind h⟩) fun v s1 ⟨x, H1, I1, r1, m1, d, S1, e1, rs1, rd1, h1⟩ => ?_)
  split at h1
  · rename_i ht
    obtain ⟨q1, q2⟩ := ty_is I1 r1 rd1 rs1 ht hT
    refine ⟨T.name, id, pa, slot, hty, q1, q2, ?_⟩
    have hA := ha.run cpos pins s1 σ H1 _ I1 ⟨m1, ρ, S1, re.mono e1, rs1, Post.bind h1⟩
    rw [hs] at hA ⊢
    refine Calls.callWith_builtin (by show (false || (backTo cpos (starEach es X.env)).any (·.1)) = false; rw [hplain] <;> rfl) (Calls.evalArgs_plain ?_)
    exact thn hA fun us s2 ⟨vs, H2, I2, r2, m2, xs, S2, e2, rs2, rd2, h2⟩ => hm pins s2 σ H2 x vs v us Q I2 r1 r2 ⟨m2, d, xs, S2, rd1.mono e2, rd2, rs2, VPost.of h2⟩
  · exact h1.elim
end
/-- xs.append(y) -/
def gAppend : D → List D → Store → Option (D × Store)
  | .ref l, [d], S => match S[l]? with
    | some (.lst xs) => if xs.length < LIM then some (.non, S.set l (.lst (xs ++ [d]))) else none
    | _ => none
  | _, _, _ => none
def gPop : D → List D → Store → Option (D × Store)
  | .ref l, [], S => match S[l]? with
    | some (.lst xs) => (xs[xs.length - 1]?).map fun d => (d, S.set l (.lst xs.dropLast))
    | _ => none
  | _, _, _ => none
/-- s.partition(c), c one sign -/
def partL (c : Nat) (xs : List Nat) : List Nat × List Nat × List Nat := if c ∈ xs then (xs.takeWhile (· != c), [c], (xs.dropWhile (· != c)).drop 1) else (xs, [], [])
def gPart : D → List D → Store → Option (D × Store)
  | .str a, [.str b], S => if b.length = 1 then
      let p := partL (b.cps.getD 0 0) a.cps.toList
      some (.tup [.str ⟨p.1.toArray⟩, .str ⟨p.2.1.toArray⟩, .str ⟨p.2.2.toArray⟩], S) else none
  | _, _, _ => none
/-- t.count(x), l.count(x) -/
def gCountT : D → List D → Store → Option (D × Store)
  | .tup xs, [d], S => if d.flat && flats xs && decide (d.dep ≤ 64) then some (.int (xs.countP fun y => deq y d : Nat), S) else none
  | _, _, _ => none
theorem takeWhile_at {c : Nat} : ∀ {l : List Nat} {i : Nat}, l[i]? = some c → (∀ k, k < i → l[k]? ≠ some c) → l.takeWhile (· != c) = l.take i
  | [], i, h, _ => by simp at h
  | k :: r, 0, h, _ => by
    have e : k = c := by simpa using h
    subst e
    rw [List.takeWhile_cons_of_neg (by simp)]
    rfl
  | k :: r, i + 1, h, hn => by
    have h1 : k ≠ c := fun e => hn 0 (by omega) (by simp [e])
    rw [List.takeWhile_cons_of_pos (by simp [h1]), takeWhile_at (l := r) (i := i) (by simpa using h) fun j hj => by have := hn (j + 1) (by omega); simpa using this]
    rfl
theorem dropWhile_at {c : Nat} : ∀ {l : List Nat} {i : Nat}, l[i]? = some c → (∀ k, k < i → l[k]? ≠ some c) → l.dropWhile (· != c) = c :: l.drop (i + 1)
  | [], i, h, _ => by simp at h
  | k :: r, 0, h, _ => by
    have e : k = c := by simpa using h
    subst e
    rw [List.dropWhile_cons_of_neg (by simp)]
    rfl
  | k :: r, i + 1, h, hn => by
    have h1 : k ≠ c := fun e => hn 0 (by omega) (by simp [e])
    rw [List.dropWhile_cons_of_pos (by simp [h1]), dropWhile_at (l := r) (i := i) (by simpa using h) fun j hj => by have := hn (j + 1) (by omega); simpa using this]
    rfl
theorem part_one (x : Str) (c : Nat) : Txt.partition x ⟨#[c]⟩ = (⟨(partL c x.cps.toList).1.toArray⟩, ⟨(partL c x.cps.toList).2.1.toArray⟩, ⟨(partL c x.cps.toList).2.2.toArray⟩) := by
  unfold Txt.partition
  rcases StrLaws.occ_head x ⟨#[c]⟩ 1 (Nat.le_refl 1) with ⟨h0, hn⟩ | ⟨i, r, h0, hi, hn⟩
  · have hfree : c ∉ x.cps.toList := fun hm => by
      obtain ⟨j, hj⟩ := List.getElem?_of_mem hm
      exact hn j ((StrLaws.subAt_one x c j).mpr hj)
    rw [h0]
    unfold partL
    rw [if_neg hfree]
    rfl
  · rw [h0]
    have hm := (StrLaws.subAt_one x c i).mp hi
    have hn' : ∀ k, k < i → x.cps.toList[k]? ≠ some c := fun k hk e => hn k hk ((StrLaws.subAt_one x c k).mpr e)
    have hmem : c ∈ x.cps.toList := List.mem_of_getElem? hm
    unfold partL
    rw [if_pos hmem, takeWhile_at hm hn', dropWhile_at hm hn']
    have hl : x.cps.toList.length = x.cps.size := Array.length_toList
    refine Prod.ext ?_ (Prod.ext rfl ?_)
    · apply congrArg Str.mk
      apply Array.toList_inj.mp
      show (x.cps.extract 0 i).toList = _
      simp
    · apply congrArg Str.mk
      apply Array.toList_inj.mp
      show (x.cps.extract (i + 1) x.cps.size).toList = _
      rw [Array.toList_extract]
      simp [List.extract_eq_take_drop]
      rw [← hl, ← List.length_drop]
      exact List.take_length
theorem partL_le (c : Nat) (xs : List Nat) : (partL c xs).1.length ≤ xs.length ∧ (partL c xs).2.1.length ≤ 1 ∧ (partL c xs).2.2.length ≤ xs.length := by
  unfold partL
  split
  · refine ⟨(List.takeWhile_sublist _).length_le, Nat.le_refl _, ?_⟩
    exact Nat.le_trans (List.drop_sublist _ _).length_le (List.dropWhile_sublist _).length_le
  · exact ⟨Nat.le_refl _, Nat.zero_le _, Nat.zero_le _⟩
section
variable {X : Cx}
theorem m_append : MtR X "list.append" (rdM X.K gAppend) := by
  intro pins s σ H v vs vv us Q I rv rvs ⟨m, x, xs, S, hx, hxs, rs, h⟩
  unfold gAppend at h
  split at h
  · rename_i l d
    split at h
    · rename_i ys e
      split at h
      · rename_i hz
        cases hx with
        | ref hl =>
          cases hxs with
          | cons h1 h2 =>
            cases h2
            obtain ⟨ws, hw, rw'⟩ := rs.wlst hl e
            refine mt_append pins s σ H _ _ vv us Q I rv rvs ⟨_, ws, _, rfl, rfl, hw, by rw [rw'.length, ← lim_eq]; exact hz, ?_⟩
            obtain ⟨ex, rs'⟩ := rs.write (o := .lst (ws ++ [_])) (c' := .lst (ys ++ [d])) hl e rfl rfl fun ex => ⟨_, upd_same, (rw'.mono ex).append (.one (h1.mono ex))⟩
            exact h _ _ m ex rs' .non
      · exact h.elim
    · exact h.elim
  · exact h.elim
theorem m_pop : MtR X "list.pop" (rdM X.K gPop) := by
  intro pins s σ H v vs vv us Q I rv rvs ⟨m, x, xs, S, hx, hxs, rs, h⟩
  unfold gPop at h
  split at h
  · rename_i l
    split at h
    · rename_i ys e
      cases hx with
      | ref hl =>
        cases hxs
        obtain ⟨ws, hw, rw'⟩ := rs.wlst hl e
        cases e2 : ys[ys.length - 1]? with
        | none => rw [e2] at h; exact h.elim
        | some d =>
          rw [e2] at h
          obtain ⟨w, e3, rd⟩ := rw'.get e2
          refine mt_pop pins s σ H _ _ vv us Q I rv rvs ⟨_, ws, w, rfl, rfl, hw, by rw [rw'.length]; exact e3, ?_⟩
          obtain ⟨ex, rs'⟩ := rs.write (o := .lst ws.dropLast) (c' := .lst ys.dropLast) hl e rfl rfl fun ex => ⟨_, upd_same, (rw'.mono ex).dropLast⟩
          exact h _ _ m ex rs' (rd.mono ex)
    · exact h.elim
  · exact h.elim
theorem m_part : MtR X "str.partition" (rdM X.K gPart) := by
  intro pins s σ H v vs vv us Q I rv rvs ⟨m, x, xs, S, hx, hxs, rs, h⟩
  unfold gPart at h
  split at h
  · rename_i a b
    split at h
    · rename_i hb
      cases hx with
      | str ha =>
        cases hxs with
        | cons h1 h2 =>
          cases h2
          cases h1 with
          | str hb2 =>
            obtain ⟨t, rfl⟩ := rv
            cases rvs with
            | cons r1 rs1 =>
              cases rs1
              obtain ⟨u, rfl⟩ := r1
              have hz : a.length ≤ sizeLine := by rw [← lim_eq]; exact ha
              refine call_meets F.slot_str_partition (typeIs_str _ _ _) F.entry_str_partition (F.args_str_partition_2 _ _) (meets_str_partition a b t u (by rw [hb]; rfl) hz) ?_
              have hp := part_one a (b.cps.getD 0 0)
              rw [← sign_of hb] at hp
              obtain ⟨l1, l2, l3⟩ := partL_le (b.cps.getD 0 0) a.cps.toList
              have la : a.cps.toList.length = a.length := by simp [Str.length]
              have go : ∀ {x y z : Str} {t u v : Tok} {k : Nat}, (x, y, z) = (⟨(partL (b.cps.getD 0 0) a.cps.toList).1.toArray⟩, ⟨(partL (b.cps.getD 0 0) a.cps.toList).2.1.toArray⟩, (⟨(partL (b.cps.getD 0 0) a.cps.toList).2.2.toArray⟩ : Str)) →
                  EP X pins σ Q (.ref s.heap.objs.size) { s with toks := k, heap := s.heap.push { cls := .type "tuple", data := .seq [Value.str x t, .str y u, .str z v].toArray } } := fun {x y z t u v k} e => by
                injection e with e1 e2
                injection e2 with e2 e3
                subst e1 e2 e3
                refine lay_tup (xs := [.str ⟨(partL (b.cps.getD 0 0) a.cps.toList).1.toArray⟩, .str ⟨(partL (b.cps.getD 0 0) a.cps.toList).2.1.toArray⟩, .str ⟨(partL (b.cps.getD 0 0) a.cps.toList).2.2.toArray⟩]) (tk := k) I (by show 3 ≤ sizeLine; decide) (.cons ⟨t, rfl⟩ (.cons ⟨u, rfl⟩ (.cons ⟨v, rfl⟩ .nil))) fun o hc hd => ?_
                have la' : a.cps.toList.length ≤ 16777216 := by rw [la]; exact ha
                exact vp_tup rs (I.hok.fresh (Nat.le_refl _)) hc hd (.cons (.str (by show (List.toArray _).size ≤ _; rw [List.size_toArray]; omega)) (.cons (.str (by show (List.toArray _).size ≤ _; rw [List.size_toArray]; omega)) (.cons (.str (by show (List.toArray _).size ≤ _; rw [List.size_toArray]; omega)) .nil))) h
              unfold Txt.partition at hp
              revert hp
              cases Builtin.Str.occurrences a b 0 a.length 1 with
              | nil => intro hp; exact go hp
              | cons i r => intro hp; exact go hp
    · exact h.elim
  · exact h.elim
theorem m_countT (hu : X.A.units + 65 < cLine) : MtR X "tuple.count" (rdM X.K gCountT) := by
  intro pins s σ H v vs vv us Q I rv rvs ⟨m, x, xs, S, hx, hxs, rs, h⟩
  unfold gCountT at h
  split at h
  · rename_i ys d
    split at h
    · rename_i hc
      simp only [Bool.and_eq_true, decide_eq_true_eq] at hc
      obtain ⟨⟨c1, c2⟩, c3⟩ := hc
      cases hx with
      | tup ht r =>
        cases hxs with
        | cons h1 h2 =>
          cases h2
          cases rv
          obtain ⟨u, rfl, ru⟩ := rvs.one
          obtain ⟨its, r', p, hz⟩ := I.tuple ht.sq
          obtain ⟨as, q1⟩ := Dp.readsAll I _ _ _ (dps_of c2 r) r'
          obtain ⟨bs, q2⟩ := Dp.reads I _ _ _ (dp_of c1 h1) ru
          have hm : min (PyData.depthAll (toPys ys)) (toPy d).depth ≤ (toPy d).depth := Nat.min_le_right _ _
          rw [depth_toPy] at hm
          refine PySem.SeqAt.count_tuple_data (vs := its.toArray) p (by simpa using q1) q2 (plains_toPys ys) (plain_toPy d) (by rw [depth_toPy]; omega) ?_
          have e : ((toPys ys).countP fun y => PyData.eqv y (toPy d)) = ys.countP fun y => deq y d := by
            clear h r r' q1 hm rvs
            induction ys with
            | nil => rfl
            | cons y ys ih =>
              have c2' : (y.flat && flats ys) = true := c2
              rw [Bool.and_eq_true] at c2'
              show ((toPy y :: toPys ys).countP _) = _
              rw [List.countP_cons, List.countP_cons, ih c2'.2, eqv_toPy y d c2'.1 c1]
          rw [e]
          exact ⟨.int _, H, I.tok _, ⟨_, rfl⟩, h _ _ m .refl rs (.int _)⟩
    · exact h.elim
  · exact h.elim
end
end Dl

set_option Elab.async false
set_option linter.all false
set_option maxRecDepth 100000
namespace Dl
open PySem PySem.Spec PyProof.Rows L2

/-! ## tests -/
def truD (S : Store) : D → Option Bool
  | .non => some false
  | .bl b => some b
  | .int i => some (i != 0)
  | .str x => some ((x.length : Int) != 0)
  | .tup xs => some (!xs.isEmpty)
  | .ref l => match S[l]? with
    | some (.lst xs) => some (!xs.isEmpty)
    | some (.rol xs) => some (!xs.isEmpty)
    | some (.dic kvs) => some (!kvs.isEmpty)
    | _ => none
  | .raw _ => none
def toT (S : Store) : Option Bool → R Bool
  | some b => .ok b S
  | none => .no
/-- an expression's truth -/
def tV (f : EX) : TX := fun ρ S => (f ρ S).bind fun d S1 => toT S1 (truD S1 d)
/-- an expression that is a bool -/
def tE (f : EX) : TX := fun ρ S => (f ρ S).bind fun d S1 => match d with
  | .bl b => .ok b S1
  | _ => .no
def tA (f g : TX) : TX := fun ρ S => (f ρ S).bind fun b S1 => if b then g ρ S1 else .ok false S1
def tO (f g : TX) : TX := fun ρ S => (f ρ S).bind fun b S1 => if b then .ok true S1 else g ρ S1
def tN (f : TX) : TX := fun ρ S => (f ρ S).bind fun b S1 => .ok (!b) S1
def eIf (t : TX) (f g : EX) : EX := fun ρ S => (t ρ S).bind fun b S1 => if b then f ρ S1 else g ρ S1
def eAnd (f g : EX) : EX := fun ρ S => (f ρ S).bind fun d S1 => (toT S1 (truD S1 d)).bind fun b S2 => if b then g ρ S2 else .ok d S2
def eOr (f g : EX) : EX := fun ρ S => (f ρ S).bind fun d S1 => (toT S1 (truD S1 d)).bind fun b S2 => if b then .ok d S2 else g ρ S2
def eNot (f : EX) : EX := fun ρ S => (f ρ S).bind fun d S1 => (toT S1 (truD S1 d)).bind fun b S2 => .ok (.bl (!b)) S2
/-- a < b < c -/
def eCh (g g' : D → D → Store → Option (D × Store)) (fa fb fc : EX) : EX := fun ρ S => (fa ρ S).bind fun x S1 => (fb ρ S1).bind fun y S2 => (toR (g x y S2)).bind fun z S3 => match z with
  | .bl true => (fc ρ S3).bind fun w S4 => toR (g' y w S4)
  | .bl false => .ok (.bl false) S3
  | _ => .no
section
variable {X : Cx} {W : WX} {a b c e : Expr} {rest : List Expr} {fa fb fc f g : EX} {ta tb : TX} {pos : Pos}
theorem tru_of {K : PySem.W.Frag} {m : List Addr} {H : Hp} {S : Store} {v : V} {x : D} {k : Bool} (r : RD K m H v x) (rs : RS K m H S) (h : truD S x = some k) : TruV K v H k := by
  cases r with
  | non => cases h; exact rfl
  | bl b => cases h; exact rfl
  | int b => cases h; exact rfl
  | str hz => cases h; exact ⟨by rw [← lim_eq]; exact hz, rfl⟩
  | @tup a vs ds ht r =>
    cases h
    refine .inr (.inl ⟨vs, ht.sq, ?_⟩)
    cases r <;> rfl
  | @ref a l hl =>
    unfold truD at h
    simp only at h
    split at h
    · rename_i xs e1
      cases h
      obtain ⟨vs, h1, r⟩ := rs.at_ hl e1
      refine .inl ⟨vs, SqL.of h1, ?_⟩
      cases r <;> rfl
    · rename_i xs e1
      cases h
      obtain ⟨vs, h1, r⟩ := rs.at_ hl e1
      refine .inl ⟨vs, h1.sq, ?_⟩
      cases r <;> rfl
    · rename_i kvs e1
      cases h
      obtain ⟨ws, h1, h2, r⟩ := rs.at_ hl e1
      refine .inr (.inr ⟨ws, h1, ?_⟩)
      cases kvs <;> cases ws <;> simp at h2 <;> rfl
    · cases h
  | raw v => cases h
theorem d_tv (ha : PE X a (rdE (X.cq W) fa)) (he : ∀ whole, isTrue a X.env whole = (do let v ← whole; standAt a.pos; holding [v] (truthy v)) := by exact fun _ => rfl) : PT X a (rdT (X.cq W) (tV fa)) :=
  PTwk (pt_truth ha he) fun σ H Q ⟨m, ρ, S, re, rs, h⟩ => ⟨m, ρ, S, re, rs, (Post.bind h).imp fun v H1 ⟨m1, x, S1, e1, rs1, rd, h1⟩ => by
    cases e : truD S1 x with
    | none => rw [e] at h1; exact h1.elim
    | some k =>
      rw [e] at h1
      exact ⟨k, tru_of rd rs1 e, h1 _ _ m1 .refl rs1 rfl⟩⟩
theorem d_te {t : TE} (h : PT X e (tTest t)) (k : ∀ σ H Q, rdE (X.cq W) f σ H Q → t σ H Q) : PT X e (rdT (X.cq W) (tE f)) :=
  PTwk h fun σ H Q ⟨m, ρ, S, re, rs, h⟩ => k _ _ _ ⟨m, ρ, S, re, rs, (Post.bind h).imp fun v H1 ⟨m1, x, S1, e1, rs1, rd, h1⟩ => by
    cases rd with
    | bl b => exact ⟨b, rfl, h1 _ _ m1 .refl rs1 rfl⟩
    | _ => exact h1.elim⟩
theorem k2 {r : R2} {g : D → D → Store → Option (D × Store)} (k : ∀ v u H Q, rd2 X.K g v u H Q → r v u H Q) : ∀ σ H Q, rdE (X.cq W) (e2 g fa fb) σ H Q → tOp r (rdE (X.cq W) fa) (rdE (X.cq W) fb) σ H Q := fun σ H Q ⟨m, ρ, S, re, rs, h⟩ =>
  ⟨m, ρ, S, re, rs, (Post.bind h).imp fun v H1 ⟨m1, x, S1, e, rs1, rd, h1⟩ => ⟨m1, ρ, S1, re.mono e, rs1, (Post.bind h1).imp fun u H2 ⟨m2, y, S2, e2, rs2, rd2, h2⟩ =>
    k _ _ _ _ ⟨m2, x, y, S2, rd.mono e2, rd2, rs2, VPost.of h2⟩⟩⟩
/-- a == b and its like: as a value, as a test -/
theorem d_cmp {op : CmpOp} {g : D → D → Store → Option (D × Store)} (ho : OpR X (compareOp op) (rd2 X.K g)) (ha : PE X a (rdE (X.cq W) fa)) (hb : PE X b (rdE (X.cq W) fb)) (hm : behindInMarks op b = false := by first | exact nomark _ | rfl) :
    PE X (.Compare a [op] [b] pos) (rdE (X.cq W) (e2 g fa fb)) := PEwk (pe_cmpR ho ha hb hm) (k2 fun _ _ _ _ h => h)
theorem d_tcmp {op : CmpOp} {g : D → D → Store → Option (D × Store)} (ho : OpR X (compareOp op) (rd2 X.K g)) (ha : PE X a (rdE (X.cq W) fa)) (hb : PE X b (rdE (X.cq W) fb)) (hm : behindInMarks op b = false := by first | exact nomark _ | rfl) :
    PT X (.Compare a [op] [b] pos) (rdT (X.cq W) (tE (e2 g fa fb))) := d_te (pt_cmpR ho ha hb hm) (k2 fun _ _ _ _ h => h)
theorem kCh {r r' : R2} {g g' : D → D → Store → Option (D × Store)} (k : ∀ v u H Q, rd2 X.K g v u H Q → r v u H Q) (k' : ∀ v u H Q, rd2 X.K g' v u H Q → r' v u H Q) :
    ∀ σ H Q, rdE (X.cq W) (eCh g g' fa fb fc) σ H Q → tChain r r' (rdE (X.cq W) fa) (rdE (X.cq W) fb) (rdE (X.cq W) fc) σ H Q := fun σ H Q ⟨m, ρ, S, re, rs, h⟩ =>
  ⟨m, ρ, S, re, rs, (Post.bind h).imp fun v H1 ⟨m1, x, S1, e, rs1, rd, h1⟩ => ⟨m1, ρ, S1, re.mono e, rs1, (Post.bind h1).imp fun u H2 ⟨m2, y, S2, e2, rs2, rd2, h2⟩ => by
    refine k _ _ _ _ ⟨m2, x, y, S2, rd.mono e2, rd2, rs2, ?_⟩
    cases eg : g x y S2 with
    | none => rw [eg] at h2; exact h2.elim
    | some p =>
      obtain ⟨z, S3⟩ := p
      rw [eg] at h2
      intro vz H3 m3 e3 rs3 rdz
      have h2 : Post _ _ m2 H2 σ Q (match z with
        | .bl true => (fc ρ S3).bind fun w S4 => toR (g' y w S4)
        | .bl false => .ok (.bl false) S3
        | _ => .no) := h2
      cases rdz with
      | bl k =>
        refine ⟨k, rfl, ?_⟩
        cases k with
        | true =>
          rw [if_pos rfl]
          have h3 := Post.mono e3 h2
          exact ⟨m3, ρ, S3, ((re.mono e).mono e2).mono e3, rs3, (Post.bind h3).imp fun w H4 ⟨m4, dw, S4, e4, rs4, rdw, h4⟩ => k' _ _ _ _ ⟨m4, y, dw, S4, (rd2.mono e3).mono e4, rdw, rs4, VPost.of h4⟩⟩
        | false =>
          rw [if_neg Bool.false_ne_true]
          exact h2 _ _ m3 e3 rs3 (.bl false)
      | _ => exact h2.elim⟩⟩
theorem d_ch {op op' : CmpOp} {g g' : D → D → Store → Option (D × Store)} (ho : OpR X (compareOp op) (rd2 X.K g)) (ho' : OpR X (compareOp op') (rd2 X.K g')) (ha : PE X a (rdE (X.cq W) fa)) (hb : PE X b (rdE (X.cq W) fb)) (hc : PE X c (rdE (X.cq W) fc))
    (hm : lastMarks [op, op'] [b, c] = false := by with_unfolding_all rfl) : PE X (.Compare a [op, op'] [b, c] pos) (rdE (X.cq W) (eCh g g' fa fb fc)) := PEwk (pe_chain ho ho' ha hb hc hm) (kCh (fun _ _ _ _ h => h) fun _ _ _ _ h => h)
theorem d_tch {op op' : CmpOp} {g g' : D → D → Store → Option (D × Store)} (ho : OpR X (compareOp op) (rd2 X.K g)) (ho' : OpR X (compareOp op') (rd2 X.K g')) (ha : PE X a (rdE (X.cq W) fa)) (hb : PE X b (rdE (X.cq W) fb)) (hc : PE X c (rdE (X.cq W) fc))
    (hm : lastMarks [op, op'] [b, c] = false := by with_unfolding_all rfl) : PT X (.Compare a [op, op'] [b, c] pos) (rdT (X.cq W) (tE (eCh g g' fa fb fc))) := d_te (pt_chain ho ho' ha hb hc hm) (kCh (fun _ _ _ _ h => h) fun _ _ _ _ h => h)
theorem d_and1 (ha : PT X a (rdT (X.cq W) ta)) : PW X (.BoolOp .And [a] pos) (rdT (X.cq W) ta) := pw_and1 ha
theorem d_or1 (ha : PT X a (rdT (X.cq W) ta)) : PW X (.BoolOp .Or [a] pos) (rdT (X.cq W) ta) := pw_or1 ha
theorem d_and (ha : PT X a (rdT (X.cq W) ta)) (hb : PW X (.BoolOp .And (b :: rest) pos) (rdT (X.cq W) tb)) : PW X (.BoolOp .And (a :: b :: rest) pos) (rdT (X.cq W) (tA ta tb)) :=
  PWwk (pw_and ha hb) fun σ H Q ⟨m, ρ, S, re, rs, h⟩ => ⟨m, ρ, S, re, rs, (Post.bind (rel := relB) h).imp fun k H1 ⟨m1, k', S1, e1, rs1, ek, h1⟩ => by
    subst ek
    cases k with
    | true => rw [if_pos rfl]; exact ⟨m1, ρ, S1, re.mono e1, rs1, h1⟩
    | false => rw [if_neg Bool.false_ne_true]; exact h1 _ _ m1 .refl rs1 rfl⟩
theorem d_or (ha : PT X a (rdT (X.cq W) ta)) (hb : PW X (.BoolOp .Or (b :: rest) pos) (rdT (X.cq W) tb)) : PW X (.BoolOp .Or (a :: b :: rest) pos) (rdT (X.cq W) (tO ta tb)) :=
  PWwk (pw_or ha hb) fun σ H Q ⟨m, ρ, S, re, rs, h⟩ => ⟨m, ρ, S, re, rs, (Post.bind (rel := relB) h).imp fun k H1 ⟨m1, k', S1, e1, rs1, ek, h1⟩ => by
    subst ek
    cases k with
    | true => rw [if_pos rfl]; exact h1 _ _ m1 .refl rs1 rfl
    | false => rw [if_neg Bool.false_ne_true]; exact ⟨m1, ρ, S1, re.mono e1, rs1, h1⟩⟩
theorem d_not (ha : PT X a (rdT (X.cq W) ta)) : PT X (.UnaryOp .Not a pos) (rdT (X.cq W) (tN ta)) :=
  PTwk (pt_not ha) fun σ H Q ⟨m, ρ, S, re, rs, h⟩ => ⟨m, ρ, S, re, rs, (Post.bind (rel := relB) h).imp fun k H1 ⟨m1, k', S1, e1, rs1, ek, h1⟩ => by
    subst ek
    exact h1 _ _ m1 .refl rs1 rfl⟩
theorem d_if {t : Expr} (ht : PT X t (rdT (X.cq W) ta)) (ha : PE X a (rdE (X.cq W) fa)) (hb : PE X b (rdE (X.cq W) fb)) : PE X (.IfExp t a b pos) (rdE (X.cq W) (eIf ta fa fb)) :=
  PEwk (pe_ifExp ht ha hb) fun σ H Q ⟨m, ρ, S, re, rs, h⟩ => ⟨m, ρ, S, re, rs, (Post.bind (rel := relB) h).imp fun k H1 ⟨m1, k', S1, e1, rs1, ek, h1⟩ => by
    subst ek
    cases k with
    | true => rw [if_pos rfl]; exact ⟨m1, ρ, S1, re.mono e1, rs1, h1⟩
    | false => rw [if_neg Bool.false_ne_true]; exact ⟨m1, ρ, S1, re.mono e1, rs1, h1⟩⟩
end
/-! .. as values, by truth -/
section
variable {X : Cx} {W : WX} {a b : Expr} {rest : List Expr} {fa fb : EX} {pos : Pos} {op : BoolOp}
theorem d_one (ha : PE X a (rdE (X.cq W) fa)) : PE X (.BoolOp op [a] pos) (rdE (X.cq W) fa) := pe_one ha
theorem d_vand (ha : PE X a (rdE (X.cq W) fa)) (hb : PE X (.BoolOp .And (b :: rest) pos) (rdE (X.cq W) fb)) : PE X (.BoolOp .And (a :: b :: rest) pos) (rdE (X.cq W) (eAnd fa fb)) := by
  refine ⟨fun pins s σ H Q I ⟨m, ρ, S, re, rs, h⟩ => ?_⟩
  refine BoolOp_and (thn (ha.run pins s σ H _ I ⟨m, ρ, S, re, rs, Post.bind h⟩) fun v s1 ⟨x, H1, I1, r1, m1, d, S1, e1, rs1, rd1, h1⟩ => ?_)
  cases e : truD S1 d with
  | none => rw [e] at h1; exact h1.elim
  | some k =>
    rw [e] at h1
    have h1 : Post (X.cq W) (relD (X.cq W)) m1 H1 σ Q (if k then fb ρ S1 else .ok d S1) := h1
    refine thn (tru_ok pins s1 σ H1 x v (fun c H2 => c = k ∧ H2 = H1) I1 r1 ⟨k, tru_of rd1 rs1 e, rfl, rfl⟩) fun c s2 hc => ?_
    obtain ⟨H2, I2, e1', e2⟩ := hc
    rw [e2] at I2
    subst e1'
    cases c with
    | true =>
      rw [if_pos rfl] at h1
      exact hb.run pins s2 σ H1 Q I2 ⟨m1, ρ, S1, re.mono e1, rs1, h1⟩
    | false =>
      rw [if_neg Bool.false_ne_true] at h1
      exact ⟨x, H1, I2, r1, h1 _ _ m1 .refl rs1 rd1⟩
theorem d_vor (ha : PE X a (rdE (X.cq W) fa)) (hb : PE X (.BoolOp .Or (b :: rest) pos) (rdE (X.cq W) fb)) : PE X (.BoolOp .Or (a :: b :: rest) pos) (rdE (X.cq W) (eOr fa fb)) := by
  refine ⟨fun pins s σ H Q I ⟨m, ρ, S, re, rs, h⟩ => ?_⟩
  refine BoolOp_or (thn (ha.run pins s σ H _ I ⟨m, ρ, S, re, rs, Post.bind h⟩) fun v s1 ⟨x, H1, I1, r1, m1, d, S1, e1, rs1, rd1, h1⟩ => ?_)
  cases e : truD S1 d with
  | none => rw [e] at h1; exact h1.elim
  | some k =>
    rw [e] at h1
    have h1 : Post (X.cq W) (relD (X.cq W)) m1 H1 σ Q (if k then .ok d S1 else fb ρ S1) := h1
    refine thn (tru_ok pins s1 σ H1 x v (fun c H2 => c = k ∧ H2 = H1) I1 r1 ⟨k, tru_of rd1 rs1 e, rfl, rfl⟩) fun c s2 hc => ?_
    obtain ⟨H2, I2, e1', e2⟩ := hc
    rw [e2] at I2
    subst e1'
    cases c with
    | false =>
      rw [if_neg Bool.false_ne_true] at h1
      exact hb.run pins s2 σ H1 Q I2 ⟨m1, ρ, S1, re.mono e1, rs1, h1⟩
    | true =>
      rw [if_pos rfl] at h1
      exact ⟨x, H1, I2, r1, h1 _ _ m1 .refl rs1 rd1⟩
theorem d_vnot (ha : PE X a (rdE (X.cq W) fa)) : PE X (.UnaryOp .Not a pos) (rdE (X.cq W) (eNot fa)) := by
  refine ⟨fun pins s σ H Q I ⟨m, ρ, S, re, rs, h⟩ => ?_⟩
  refine UnaryOp_ (thn (ha.run pins s σ H _ I ⟨m, ρ, S, re, rs, Post.bind h⟩) fun v s1 ⟨x, H1, I1, r1, m1, d, S1, e1, rs1, rd1, h1⟩ => ?_)
  cases e : truD S1 d with
  | none => rw [e] at h1; exact h1.elim
  | some k =>
    rw [e] at h1
    exact not_of (thn (tru_ok pins s1 σ H1 x v (fun c H2 => c = k ∧ H2 = H1) I1 r1 ⟨k, tru_of rd1 rs1 e, rfl, rfl⟩) fun c s2 ⟨H2, I2, e1', e2⟩ => by
      subst e1' e2
      exact ⟨.bl (!c), H2, I2, rfl, h1 _ _ m1 .refl rs1 (.bl _)⟩)
end
/-! a call of a def -/
section
variable {X : Cx} {W : WX} {e : Expr} {es : List Expr} {fx : AX} {pos p : Pos} {CX : CXT} {k : Nat} {f : Addr} {fd : FuncData} {ps : List Str} {x : Str} {F : List D → M D}
theorem d_call (G : FnOk X.prog X.w X.K X.mg X.base CX k f fd ps (rdF ⟨X.K, X.mg, W0⟩ F)) (hr : Room k X.A) (hg : Gl X x) (hm : X.mg x = some (.ref f)) (hk : PySem.W.keepIn X.K (.ref f) = true) (hb : Binds X.K fd ps []) (hx : ∀ σ, PassesAt CX X σ (WE W σ))
    (ha : PA X (e :: es) (rdA (X.cq W) fx)) (hdb : (x == ("__debug__" : Str)) = false := by decide) (he : starEach (e :: es) X.env = (false, eval e X.env) :: starEach es X.env := by rfl) (hpl : (backTo pos (starEach es X.env)).any (·.1) = false := by rfl) :
    PE X (.Call (.Name x p) (e :: es) [] pos) (rdE (X.cq W) (eF F fx)) := PEwk (pe_callS G hr hg hm hk hb hx ha hdb he hpl) fun σ H Q ⟨m, ρ, S, re, rs, h⟩ =>
  ⟨m, ρ, S, re, rs, (Post.bind h).imp fun vs H1 ⟨m1, xs, S1, e1, rs1, rds, h1⟩ => ⟨m1, xs, S1, rds, rs1, by
    cases er : F xs S1 with
    | ok d S2 => rw [er] at h1; exact h1
    | ex ex S2 => rw [er] at h1; exact h1
    | no => rw [er] at h1; exact h1⟩⟩
end
end Dl

set_option Elab.async false
set_option linter.all false
set_option maxRecDepth 100000
namespace Dl
open PySem PySem.Spec PyProof.Rows L2

/-! ## statements -/
def sP : SX := fun ρ S => .nx ρ S
def Out.seq (o : Out) (h : SX) : Out := match o with
  | .nx ρ' S' => h ρ' S'
  | o => o
def sQ (g h : SX) : SX := fun ρ S => (g ρ S).seq h
def sBk : SX := fun ρ S => .bk ρ S
def sCt : SX := fun ρ S => .ct ρ S
def sNo : SX := fun _ _ => .no
def sE (f : EX) : SX := fun ρ S => (f ρ S).out ρ fun _ S1 => .nx ρ S1
def sR (f : EX) : SX := fun ρ S => (f ρ S).out ρ fun d S1 => .rt d S1
def sIf (t : TX) (g h : SX) : SX := fun ρ S => (t ρ S).out ρ fun b S1 => if b then g ρ S1 else h ρ S1
/-- name = .. -/
def nm (i : Nat) : D → SX := fun d ρ S => .nx (ρ.set i (some d)) S
def tgO : Out → Out
  | .nx ρ S => .nx ρ S
  | .ex x ρ S => .ex x ρ S
  | _ => .no
def sA (f : EX) (tg : D → SX) : SX := fun ρ S => (f ρ S).out ρ fun d S1 => tgO (tg d ρ S1)
def sN (j : Nat) (f : EX) : SX := fun ρ S => (f ρ S).out ρ fun d S1 => .nx (ρ.set j (some d)) S1
/-- o[i] = .. -/
def tgIx (fo fi : EX) : D → SX := fun d ρ S => (fo ρ S).out ρ fun o S1 => (fi ρ S1).out ρ fun i S2 => match gSet o i d S2 with
  | some S3 => .nx ρ S3
  | none => .no
/-- several targets -/
def tgL : List (D → SX) → List D → SX
  | [], [] => sP
  | t :: ts, d :: ds => fun ρ S => match t d ρ S with
    | .nx ρ' S' => tgL ts ds ρ' S'
    | .ex x ρ' S' => .ex x ρ' S'
    | _ => .no
  | _, _ => sNo
def tgT (ts : List (D → SX)) : D → SX := fun d => match d with
  | .tup ds => if ds.length = ts.length then tgL ts ds else sNo
  | _ => sNo
section
variable {X : Cx} {W : WX} {st : Stmt} {rest : List Stmt} {g h : SX} {e o i : Expr} {f fo fi : EX} {t : Expr} {ft : TX} {pos : Pos} {a b : List Stmt}
theorem t_nil : PSs X [] (rdS (X.cq W) sP) := PSswk pss_nil fun Dn σ H ⟨m, ρ, S, re, rs, h⟩ => h σ H m .refl re rs
theorem seq_post {c : Cq} {m : List Addr} {H : Hp} {Dn : Ends} {o : Out} {h : SX} (q : PostS c m H Dn (o.seq h)) : PostS c m H { Dn with nx := rdS c h Dn } o := by
  cases o with
  | nx ρ' S' => exact fun σ' H' m' e re rs => ⟨m', ρ', S', re, rs, PostS.mono e q⟩
  | _ => exact q
theorem t_cons (h1 : PS X st (rdS (X.cq W) g)) (h2 : PSs X rest (rdS (X.cq W) h)) : PSs X (st :: rest) (rdS (X.cq W) (sQ g h)) := PSswk (pss_cons h1 h2) fun Dn σ H ⟨m, ρ, S, re, rs, q⟩ =>
  ⟨m, ρ, S, re, rs, seq_post q⟩
theorem t_one (h1 : PS X st (rdS (X.cq W) g)) : PSs X [st] (rdS (X.cq W) g) := pss_one h1
theorem t_pass : PS X (.Pass pos) (rdS (X.cq W) sP) := PSwk ps_pass fun Dn σ H ⟨m, ρ, S, re, rs, h⟩ => h σ H m .refl re rs
theorem t_break : PS X (.Break pos) (rdS (X.cq W) sBk) := PSwk ps_break fun Dn σ H ⟨m, ρ, S, re, rs, h⟩ => h σ H m .refl re rs
theorem t_continue : PS X (.Continue pos) (rdS (X.cq W) sCt) := PSwk ps_continue fun Dn σ H ⟨m, ρ, S, re, rs, h⟩ => h σ H m .refl re rs
theorem t_never : PS X st (rdS (X.cq W) sNo) := PSwk ps_never fun Dn σ H ⟨m, ρ, S, re, rs, h⟩ => h
theorem t_doc {x j pos pos'} : PS X (.Expr (.Constant (.str x) j pos) pos') (rdS (X.cq W) sP) := PSwk ps_doc fun Dn σ H ⟨m, ρ, S, re, rs, h⟩ => h σ H m .refl re rs
theorem t_expr (he : PE X e (rdE (X.cq W) f)) (hs : swapsWith e none pos.line X.env = pure false := by rfl) : PS X (.Expr e pos) (rdS (X.cq W) (sE f)) := PSwk (ps_expr he hs) fun Dn σ H ⟨m, ρ, S, re, rs, q⟩ =>
  ⟨m, ρ, S, re, rs, (Post.out re q).imp fun v H1 ⟨m1, d, S1, e1, rs1, rd, re1, q1⟩ => q1 σ H1 m1 .refl re1 rs1⟩
theorem t_ret (he : PE X e (rdE (X.cq W) f)) : PS X (.Return (some e) pos) (rdS (X.cq W) (sR f)) := PSwk (ps_ret he) fun Dn σ H ⟨m, ρ, S, re, rs, q⟩ =>
  ⟨m, ρ, S, re, rs, (Post.out re q).imp fun v H1 ⟨m1, d, S1, e1, rs1, rd, re1, q1⟩ => q1 v H1 m1 .refl rs1 rd⟩
theorem t_retN : PS X (.Return none pos) (rdS (X.cq W) (sR (eC .non))) := PSwk ps_retN fun Dn σ H ⟨m, ρ, S, re, rs, q⟩ => q .non H m .refl rs .non
theorem t_if (ht : PT X t (rdT (X.cq W) ft)) (ha : PSs X a (rdS (X.cq W) g)) (hb : PSs X b (rdS (X.cq W) h)) : PS X (.If t a b pos) (rdS (X.cq W) (sIf ft g h)) := PSwk (ps_if ht ha hb) fun Dn σ H ⟨m, ρ, S, re, rs, q⟩ =>
  ⟨m, ρ, S, re, rs, (Post.out (rel := relB) re q).imp fun k H1 ⟨m1, k', S1, e1, rs1, ek, re1, q1⟩ => by
    subst ek
    cases k with
    | true => rw [if_pos rfl]; exact ⟨m1, ρ, S1, re1, rs1, q1⟩
    | false => rw [if_neg Bool.false_ne_true]; exact ⟨m1, ρ, S1, re1, rs1, q1⟩⟩
/-! ### targets -/
theorem g_nm {j : Nat} {x : Str} (hN : X.N.Nodup) (hi : X.N[j]? = some x := by rfl) (hx : Loc X.env.scope x := by first | exact .inl rfl | exact .inr rfl) (hf : X.fn x = true ∨ X.env.scope.names.lookup x = some .local := by first | exact .inl rfl | exact .inr rfl) :
    PG X (.Name x pos) (rdG (X.cq W) (nm j)) := PGwk (pg_name hN hi hx hf) fun v σ H Q ⟨m, ρ, S, d, re, rs, rd, q⟩ => q _ H m .refl (re.set rd j) rs
def rdGs (c : Cq) (tg : List D → SX) : TGs := fun vs σ H Q => ∃ m ρ S ds, RE c.K m H σ ρ ∧ RS c.K m H S ∧ RDs c.K m H vs ds ∧ PostS c m H { nx := Q, rt := fun _ _ => False } (tg ds ρ S)
theorem g_nil : PGs X [] (rdGs (X.cq W) (tgL [])) := ⟨fun pins s σ H vs us Q I r ⟨m, ρ, S, ds, re, rs, rd, q⟩ => pgs_nil.run pins s σ H vs us Q I r (by
  cases rd with
  | nil => exact ⟨rfl, q σ H m .refl re rs⟩
  | cons _ _ => exact q.elim)⟩
theorem g_cons {es : List Expr} {tg : D → SX} {ts : List (D → SX)} (h1 : PG X e (rdG (X.cq W) tg)) (h2 : PGs X es (rdGs (X.cq W) (tgL ts)))
    (hs : (assignEach (e :: es) X.env).map (·.2) = assign e X.env :: (assignEach es X.env).map (·.2) := by rfl) : PGs X (e :: es) (rdGs (X.cq W) (tgL (tg :: ts))) := ⟨fun pins s σ H vs us Q I r ⟨m, ρ, S, ds, re, rs, rd, q⟩ =>
  (pgs_cons h1 h2 hs).run pins s σ H vs us Q I r (by
    cases rd with
    | nil => exact q.elim
    | @cons v d vs ds hd hds =>
      refine ⟨v, vs, rfl, m, ρ, S, d, re, rs, hd, ?_⟩
      have q : PostS (X.cq W) m H { nx := Q, rt := fun _ _ => False } (match tg d ρ S with
        | .nx ρ' S' => tgL ts ds ρ' S'
        | .ex x ρ' S' => .ex x ρ' S'
        | _ => .no) := q
      cases eo : tg d ρ S with
      | nx ρ' S' =>
        rw [eo] at q
        exact fun σ' H' m' e' re' rs' => ⟨m', ρ', S', ds, re', rs', hds.mono e', PostS.mono e' q⟩
      | ex x ρ' S' => rw [eo] at q; exact q
      | _ => rw [eo] at q; exact q.elim)⟩
theorem g_tup {es : List Expr} {k : Nat} {ts : List (D → SX)} (hc : X.calm = true) (h : PGs X es (rdGs (X.cq W) (tgL ts))) (hl : ts.length = es.length := by rfl)
    (hn : (assignEach es X.env).length = es.length := by rfl) (hst : (assignEach es X.env).findIdx? (·.1) = none := by rfl) : PG X (.Tuple es k pos) (rdG (X.cq W) (tgT ts)) := PGwk (pg_tup hc h hn hst) fun v σ H Q ⟨m, ρ, S, d, re, rs, rd, q⟩ => by
  cases rd with
  | @tup a vs ds ht r =>
    have q : PostS (X.cq W) m H { nx := Q, rt := fun _ _ => False } ((if ds.length = ts.length then tgL ts ds else sNo) ρ S) := q
    by_cases hz : ds.length = ts.length
    · rw [if_pos hz] at q
      exact ⟨a, vs, rfl, ht.sq, by rw [r.length, hz, hl], m, ρ, S, ds, re, rs, r, q⟩
    · rw [if_neg hz] at q
      exact q.elim
  | _ => exact q.elim
theorem g_ix (ho : PE X o (rdE (X.cq W) fo)) (hi : PE X i (rdE (X.cq W) fi))
    (ha : ∀ v, assign (.Subscript o i pos) X.env v = (do
      let ov ← holding [v] (eval o X.env)
      let iv ← holding [v, ov] (eval i X.env)
      standAt pos
      holding [v, ov, iv] (setItem ov iv v)
      release [v, ov, iv] []) := by intro _; rfl) : PG X (.Subscript o i pos) (rdG (X.cq W) (tgIx fo fi)) := PGwk (pg_sub ho hi p_set ha) fun v σ H Q ⟨m, ρ, S, d, re, rs, rd, q⟩ =>
  ⟨m, ρ, S, re, rs, (Post.out re q).imp fun vo H1 ⟨m1, x, S1, e1, rs1, rx, re1, q1⟩ => ⟨m1, ρ, S1, re1, rs1, (Post.out re1 q1).imp fun vi H2 ⟨m2, y, S2, e2, rs2, ry, re2, q2⟩ => by
    refine ⟨m2, x, y, d, S2, rx.mono e2, ry, (rd.mono e1).mono e2, rs2, ?_⟩
    cases eg : gSet x y d S2 with
    | none => rw [eg] at q2; exact q2.elim
    | some S3 =>
      rw [eg] at q2
      exact fun H3 m3 e3 rs3 => q2 σ H3 m3 e3 (re2.mono e3) rs3⟩⟩
/-- target = value -/
theorem t_asg {tg : Expr} {G : D → SX} (he : PE X e (rdE (X.cq W) f)) (hg : PG X tg (rdG (X.cq W) G)) (hs : swapsWithSole [tg] e pos.line X.env = pure false := by rfl) (hw : swappedStores [tg] e X.env = pure none := by rfl)
    (h1 : (assignEach [tg] X.env).map (·.2) = [assign tg X.env] := by rfl) : PS X (.Assign [tg] e pos) (rdS (X.cq W) (sA f G)) := PSwk (ps_asg he hg hs hw h1) fun Dn σ H ⟨m, ρ, S, re, rs, q⟩ =>
  ⟨m, ρ, S, re, rs, (Post.out re q).imp fun v H1 ⟨m1, d, S1, e1, rs1, rd, re1, q1⟩ => ⟨m1, ρ, S1, d, re1, rs1, rd, by
    cases eo : G d ρ S1 with
    | nx ρ' S' => rw [eo] at q1; exact q1
    | ex x ρ' S' => rw [eo] at q1; exact q1
    | _ => rw [eo] at q1; exact q1.elim⟩⟩
theorem t_set {j : Nat} {x : Str} {pos' : Pos} (hN : X.N.Nodup) (he : PE X e (rdE (X.cq W) f)) (hi : X.N[j]? = some x := by rfl) (hx : Loc X.env.scope x := by first | exact .inl rfl | exact .inr rfl) (hs : swapsWith e (some (.Name x pos')) pos.line X.env = pure false := by rfl)
    (hf : X.fn x = true ∨ X.env.scope.names.lookup x = some .local := by first | exact .inl rfl | exact .inr rfl) : PS X (.Assign [.Name x pos'] e pos) (rdS (X.cq W) (sN j f)) := PSwk (ps_set hN hi hx he hs hf) fun Dn σ H ⟨m, ρ, S, re, rs, q⟩ =>
  ⟨m, ρ, S, re, rs, (Post.out re q).imp fun v H1 ⟨m1, d, S1, e1, rs1, rd, re1, q1⟩ => q1 _ H1 m1 .refl (re1.set rd j) rs1⟩
end
end Dl

set_option Elab.async false
set_option linter.all false
set_option maxRecDepth 100000
namespace Dl
open PySem PySem.Spec PyProof.Rows L2

/-! ## what is walked -/
/-- lists that must stand as they are while they are walked -/
abbrev Chk := List (Nat × List D)
def chkOk (k : Chk) (S : Store) : Prop := ∀ p ∈ k, lstAt S p.1 = some p.2
/-- the items, and what must stand -/
abbrev IX := Env → Store → R (List D × Chk)
def ItOk (K : PySem.W.Frag) (m0 : List Addr) (H0 : Hp) (J : It) (xs : List D) (k : Chk) : Prop :=
  ∀ (i : Nat) (m : List Addr) (H : Hp) (S : Store), Ext K m0 H0 m H → RS K m H S → chkOk k S →
    (∀ d, xs[i]? = some d → J.go i H ∧ ∀ x H', J.yld i H x H' → ∃ m', Ext K m H m' H' ∧ RS K m' H' S ∧ RD K m' H' x d) ∧ (xs.length ≤ i → J.stop i H)
def PostI (c : Cq) (m : List Addr) (H : Hp) (σ : L2.St) (R' : It → Hp → Prop) : R (List D × Chk) → Prop
  | .ok p S' => ∀ J H' m', Ext c.K m H m' H' → RS c.K m' H' S' → ItOk c.K m' H' J p.1 p.2 → R' J H'
  | .ex x S' => ∀ cls dd H' m', Ext c.K m H m' H' → RS c.K m' H' S' → RX c m' H' x cls dd → c.W cls dd σ H'
  | .no => False
theorem PostI.mono {c : Cq} {m m1 : List Addr} {H H1 : Hp} {σ : L2.St} {R' : It → Hp → Prop} {r : R (List D × Chk)} (e : Ext c.K m H m1 H1) (h : PostI c m H σ R' r) : PostI c m1 H1 σ R' r := by
  cases r with
  | ok p S2 => exact fun J H2 m2 e2 => h J H2 m2 (e.trans e2)
  | ex x S2 => exact fun cls dd H2 m2 e2 => h cls dd H2 m2 (e.trans e2)
  | no => exact h
def rdI (c : Cq) (src : IX) : TI := fun σ H R' => ∃ m ρ S, RE c.K m H σ ρ ∧ RS c.K m H S ∧ PostI c m H σ R' (src ρ S)
def iL (f : EX) : IX := fun ρ S => (f ρ S).bind fun d S1 => match d with
  | .ref l => match lstAt S1 l with
    | some xs => .ok (xs, [(l, xs)]) S1
    | none => .no
  | _ => .no
def iT (f : EX) : IX := fun ρ S => (f ρ S).bind fun d S1 => match d with
  | .tup xs => .ok (xs, []) S1
  | _ => .no
def iS (f : EX) : IX := fun ρ S => (f ρ S).bind fun d S1 => match d with
  | .str x => .ok (x.cps.toList.map fun c => .str ⟨#[c]⟩, []) S1
  | _ => .no
def rng (lo : Int) (n : Nat) : List D := (List.range n).map fun i => .int (lo + (i : Nat))
def iR1 (f : EX) : IX := fun ρ S => (f ρ S).bind fun d S1 => match d with
  | .int j => if -(2 ^ 62) ≤ j ∧ j < 2 ^ 62 then .ok (rng 0 j.toNat, []) S1 else .no
  | _ => .no
def iR2 (f g : EX) : IX := fun ρ S => (f ρ S).bind fun d S1 => (g ρ S1).bind fun e S2 => match d, e with
  | .int i, .int j => if -(2 ^ 62) ≤ i ∧ i < 2 ^ 62 ∧ -(2 ^ 62) ≤ j ∧ j < 2 ^ 62 then .ok (rng i (j - i).toNat, []) S2 else .no
  | _, _ => .no
/-- reversed(..) of a list or a tuple -/
def iV (f : EX) : IX := fun ρ S => (f ρ S).bind fun d S1 => match d with
  | .ref l => match lstAt S1 l with
    | some xs => .ok (xs.reverse, [(l, xs)]) S1
    | none => .no
  | .tup xs => .ok (xs.reverse, []) S1
  | _ => .no
section
variable {X : Cx} {W : WX} {tg e a b : Expr} {f g : EX} {pos p : Pos}
theorem it_list {K : PySem.W.Frag} {m : List Addr} {H : Hp} {a : Addr} {l : Nat} {xs : List D} (h : m[l]? = some a) : ItOk K m H (Itl K a) xs [(l, xs)] := by
  intro i m' H' S e rs hk
  have q := hk (l, xs) (by simp)
  obtain ⟨vs, h1, r⟩ := rs.lst (e.at h) q
  refine ⟨fun d hd => ?_, fun hl => ⟨vs, h1, by rw [r.length]; exact hl⟩⟩
  obtain ⟨v, h2, rd⟩ := r.get hd
  refine ⟨⟨vs, v, h1, h2⟩, fun x H'' y => ?_⟩
  obtain ⟨eH, y⟩ := y
  subst eH
  have z := y vs h1
  rw [h2] at z
  cases z
  exact ⟨m', .refl, rs, rd⟩
theorem it_tup {K : PySem.W.Frag} {m : List Addr} {H : Hp} {a : Addr} {vs : List V} {xs : List D} (h : TupAt K H a vs) (r : RDs K m H vs xs) : ItOk K m H (Itt K a) xs [] := by
  intro i m' H' S e rs hk
  have h1 := (e.tup _ _ h).sq
  have r := r.mono e
  refine ⟨fun d hd => ?_, fun hl => ⟨vs, h1, by rw [r.length]; exact hl⟩⟩
  obtain ⟨v, h2, rd⟩ := r.get hd
  refine ⟨⟨vs, v, h1, h2⟩, fun x H'' y => ?_⟩
  obtain ⟨eH, y⟩ := y
  subst eH
  have z := y vs h1
  rw [h2] at z
  cases z
  exact ⟨m', .refl, rs, rd⟩
theorem it_rng {K : PySem.W.Frag} {m : List Addr} {H : Hp} {lo : Int} {n : Nat} : ItOk K m H (Itr lo n) (rng lo n) [] := by
  intro i m' H' S e rs hk
  unfold rng
  refine ⟨fun d hd => ?_, fun hl => by rw [List.length_map, List.length_range] at hl; exact hl⟩
  have hi : i < n := by have := (List.getElem?_eq_some_iff.mp hd).1; rwa [List.length_map, List.length_range] at this
  rw [List.getElem?_map, List.getElem?_range hi] at hd
  cases hd
  refine ⟨hi, fun x H'' y => ?_⟩
  obtain ⟨eH, y⟩ := y
  subst eH y
  exact ⟨m', .refl, rs, .int _⟩
theorem it_str {K : PySem.W.Frag} {m : List Addr} {H : Hp} {x : Str} : ItOk K m H (Its x) (x.cps.toList.map fun c => .str ⟨#[c]⟩) [] := by
  intro i m' H' S e rs hk
  refine ⟨fun d hd => ?_, fun hl => by rw [List.length_map, Array.length_toList] at hl; exact hl⟩
  rw [List.getElem?_map] at hd
  cases hc : x.cps.toList[i]? with
  | none => rw [hc] at hd; cases hd
  | some c =>
    rw [hc] at hd
    cases hd
    have hi : i < x.cps.size := by have := (List.getElem?_eq_some_iff.mp hc).1; rwa [Array.length_toList] at this
    refine ⟨hi, fun v H'' y => ?_⟩
    obtain ⟨eH, c', e1, y⟩ := y
    subst eH y
    rw [← Array.getElem?_toList, hc] at e1
    cases e1
    exact ⟨m', .refl, rs, .str (by show (1 : Nat) ≤ _; decide)⟩
theorem get_rev {α : Type} {xs : List α} {i : Nat} {d : α} (h : xs.reverse[i]? = some d) : i < xs.length ∧ xs[xs.length - 1 - i]? = some d := by
  have hi : i < xs.length := by have := (List.getElem?_eq_some_iff.mp h).1; rwa [List.length_reverse] at this
  rw [List.getElem?_reverse hi] at h
  exact ⟨hi, h⟩
theorem it_rev {K : PySem.W.Frag} {m : List Addr} {H : Hp} {a : Addr} {l : Nat} {xs : List D} (h : m[l]? = some a) : ItOk K m H (Itv K a xs.length) xs.reverse [(l, xs)] := by
  intro i m' H' S e rs hk
  have q := hk (l, xs) (by simp)
  obtain ⟨vs, h1, r⟩ := rs.lst (e.at h) q
  refine ⟨fun d hd => ?_, fun hl => by rw [List.length_reverse] at hl; exact hl⟩
  obtain ⟨hi, hd⟩ := get_rev hd
  obtain ⟨v, h2, rd⟩ := r.get hd
  refine ⟨⟨hi, vs, v, h1, h2⟩, fun x H'' y => ?_⟩
  obtain ⟨eH, y⟩ := y
  subst eH
  have z := y vs h1
  rw [h2] at z
  cases z
  exact ⟨m', .refl, rs, rd⟩
theorem it_revT {K : PySem.W.Frag} {m : List Addr} {H : Hp} {a : Addr} {vs : List V} {xs : List D} (h : TupAt K H a vs) (r : RDs K m H vs xs) : ItOk K m H (RT.ItvT K a xs.length) xs.reverse [] := by
  intro i m' H' S e rs hk
  have h1 := (e.tup _ _ h).sq
  have r := r.mono e
  refine ⟨fun d hd => ?_, fun hl => by rw [List.length_reverse] at hl; exact hl⟩
  obtain ⟨hi, hd⟩ := get_rev hd
  obtain ⟨v, h2, rd⟩ := r.get hd
  refine ⟨⟨hi, vs, v, h1, h2⟩, fun x H'' y => ?_⟩
  obtain ⟨eH, y⟩ := y
  subst eH
  have z := y vs h1
  rw [h2] at z
  cases z
  exact ⟨m', .refl, rs, rd⟩
/-- from an expression's outcome to what is walked -/
theorem src_bind {α : Type} {β : Type} {c : Cq} {rel : List Addr → Hp → β → α → Prop} {m : List Addr} {H : Hp} {σ : L2.St} {R' : It → Hp → Prop} {r : R α} {k : α → Store → R (List D × Chk)} (h : PostI c m H σ R' (r.bind k)) :
    Post c rel m H σ (fun b H1 => ∃ m1 a S1, Ext c.K m H m1 H1 ∧ RS c.K m1 H1 S1 ∧ rel m1 H1 b a ∧ PostI c m1 H1 σ R' (k a S1)) r := by
  cases r with
  | ok a S => exact fun b H' m' e rs rl => ⟨m', a, S, e, rs, rl, PostI.mono e h⟩
  | ex x S => exact h
  | no => exact h
theorem w_list (he : PE X e (rdE (X.cq W) f)) : PI X tg e (rdI (X.cq W) (iL f)) := PIwk (pi_list he) fun σ H R' ⟨m, ρ, S, re, rs, q⟩ =>
  ⟨m, ρ, S, re, rs, (src_bind (rel := relD (X.cq W)) q).imp fun v H1 ⟨m1, d, S1, e1, rs1, rd, q1⟩ => by
    cases rd with
    | @ref a l hl =>
      simp only at q1
      cases el : lstAt S1 l with
      | none => rw [el] at q1; exact q1.elim
      | some xs =>
        rw [el] at q1
        obtain ⟨vs, h1, r⟩ := rs1.lst hl el
        exact ⟨a, rfl, ⟨vs, h1⟩, q1 _ _ m1 .refl rs1 (it_list hl)⟩
    | _ => exact q1.elim⟩
theorem w_tup (he : PE X e (rdE (X.cq W) f)) : PI X tg e (rdI (X.cq W) (iT f)) := PIwk (pi_tup he) fun σ H R' ⟨m, ρ, S, re, rs, q⟩ =>
  ⟨m, ρ, S, re, rs, (src_bind (rel := relD (X.cq W)) q).imp fun v H1 ⟨m1, d, S1, e1, rs1, rd, q1⟩ => by
    cases rd with
    | @tup a vs ds ht r => exact ⟨a, rfl, ⟨vs, ht.sq⟩, q1 _ _ m1 .refl rs1 (it_tup ht r)⟩
    | _ => exact q1.elim⟩
theorem w_str (he : PE X e (rdE (X.cq W) f)) : PI X tg e (rdI (X.cq W) (iS f)) := PIwk (pi_str he) fun σ H R' ⟨m, ρ, S, re, rs, q⟩ =>
  ⟨m, ρ, S, re, rs, (src_bind (rel := relD (X.cq W)) q).imp fun v H1 ⟨m1, d, S1, e1, rs1, rd, q1⟩ => by
    cases rd with
    | str h => exact ⟨_, rfl, q1 _ _ m1 .refl rs1 it_str⟩
    | _ => exact q1.elim⟩
theorem w_rng1 (hg : Gl X "range") (hm : X.mg "range" = none) (ha : PE X a (rdE (X.cq W) f)) (hs : starEach [a] X.env = [(false, eval a X.env)] := by rfl) (hs2 : starEach [a] X.env = (false, eval a X.env) :: starEach [] X.env := by rfl) : PI X tg (.Call (.Name "range" p) [a] [] pos) (rdI (X.cq W) (iR1 f)) :=
  PIwk (pi_range1 hg hm (pa_cons ha pa_nil hs2) hs) fun σ H R' ⟨m, ρ, S, re, rs, q⟩ => ⟨m, ρ, S, re, rs, (src_bind (rel := relD (X.cq W)) q).imp fun v H1 ⟨m1, d, S1, e1, rs1, rd, q1⟩ => by
    cases rd with
    | int j =>
      simp only at q1
      split at q1
      · rename_i hz
        exact ⟨j, rfl, hz.1, hz.2, q1 _ _ m1 .refl rs1 it_rng⟩
      · exact q1.elim
    | _ => exact q1.elim⟩
theorem w_rng2 (hg : Gl X "range") (hm : X.mg "range" = none) (ha : PE X a (rdE (X.cq W) f)) (hb : PE X b (rdE (X.cq W) g)) (hs : starEach [a, b] X.env = [(false, eval a X.env), (false, eval b X.env)] := by rfl) (hs2 : starEach [b] X.env = [(false, eval b X.env)] := by rfl) (hs4 : starEach [b] X.env = (false, eval b X.env) :: starEach [] X.env := by rfl)
    (hs3 : starEach [a, b] X.env = (false, eval a X.env) :: starEach [b] X.env := by rfl) : PI X tg (.Call (.Name "range" p) [a, b] [] pos) (rdI (X.cq W) (iR2 f g)) :=
  PIwk (pi_range2 hg hm (pa_cons ha (pa_cons hb pa_nil hs4) hs3) hs hs2) fun σ H R' ⟨m, ρ, S, re, rs, q⟩ => ⟨m, ρ, S, re, rs, (src_bind (rel := relD (X.cq W)) q).imp fun v H1 ⟨m1, d, S1, e1, rs1, rd, q1⟩ =>
    ⟨m1, ρ, S1, re.mono e1, rs1, (src_bind (rel := relD (X.cq W)) q1).imp fun u H2 ⟨m2, d2, S2, e2, rs2, rd2, q2⟩ => by
      cases rd with
      | int i =>
        cases rd2 with
        | int j =>
          simp only at q2
          split at q2
          · rename_i hz
            exact ⟨i, j, rfl, hz, q2 _ _ m2 .refl rs2 it_rng⟩
          · exact q2.elim
        | _ => exact q2.elim
      | _ => cases rd2 <;> exact q2.elim⟩⟩
theorem w_rev (hg : Gl X "reversed") (hm : X.mg "reversed" = none) (ha : PE X a (rdE (X.cq W) f)) (hs : starEach [a] X.env = (false, eval a X.env) :: starEach [] X.env := by rfl) : PI X tg (.Call (.Name "reversed" p) [a] [] pos) (rdI (X.cq W) (iV f)) :=
  PIwk (RT.pi_revA hg hm ha hs) fun σ H R' ⟨m, ρ, S, re, rs, q⟩ => ⟨m, ρ, S, re, rs, (src_bind (rel := relD (X.cq W)) q).imp fun v H1 ⟨m1, d, S1, e1, rs1, rd, q1⟩ => by
    cases rd with
    | @ref a l hl =>
      simp only at q1
      cases el : lstAt S1 l with
      | none => rw [el] at q1; exact q1.elim
      | some xs =>
        rw [el] at q1
        obtain ⟨vs, h1, r⟩ := rs1.lst hl el
        exact ⟨a, vs, rfl, .inl ⟨h1, by rw [r.length]; exact q1 _ _ m1 .refl rs1 (it_rev hl)⟩⟩
    | @tup a vs ds ht r => exact ⟨a, vs, rfl, .inr ⟨ht.sq, by rw [r.length]; exact q1 _ _ m1 .refl rs1 (it_revT ht r)⟩⟩
    | _ => exact q1.elim⟩
end

/-! ## for, while -/
open Classical in
noncomputable def runF (tg : D → SX) (body : SX) (k : Chk) : List D → Env → Store → Out
  | [], ρ, S => if chkOk k S then .nx ρ S else .no
  | d :: ds, ρ, S => if chkOk k S then (match tgO (tg d ρ S) with
    | .nx ρ1 S1 => match body ρ1 S1 with
      | .nx ρ2 S2 => runF tg body k ds ρ2 S2
      | .ct ρ2 S2 => runF tg body k ds ρ2 S2
      | .bk ρ2 S2 => .nx ρ2 S2
      | o => o
    | o => o) else .no
noncomputable def sF (src : IX) (tg : D → SX) (body : SX) : SX := fun ρ S => (src ρ S).out ρ fun p S1 => runF tg body p.2 p.1 ρ S1
def runW (t : TX) (body : SX) : Nat → Env → Store → Out
  | 0, _, _ => .no
  | n + 1, ρ, S => (t ρ S).out ρ fun b S1 => if b then (match body ρ S1 with
      | .nx ρ2 S2 => runW t body n ρ2 S2
      | .ct ρ2 S2 => runW t body n ρ2 S2
      | .bk ρ2 S2 => .nx ρ2 S2
      | o => o) else .nx ρ S1
def sW (n : Nat) (t : TX) (body : SX) : SX := fun ρ S => runW t body n ρ S
section
variable {X : Cx} {W : WX} {tg iter t : Expr} {body : List Stmt} {src : IX} {G : D → SX} {g : SX} {ft : TX} {pos : Pos}
theorem t_for (hp : PassesOwn (model X.prog X.w) X.A X.env X.xe) (hc : X.calm = true) (hi : PI X tg iter (rdI (X.cq W) src)) (hg : PG X tg (rdG (X.cq W) G)) (hb : PSs X body (rdS (X.cq W) g))
    (hs : ∀ x, foldedSetIterable iter X.env x = pure x := by intro _; rfl) : PS X (.For tg iter body [] pos) (rdS (X.cq W) (sF src G g)) := PSwk (ps_for hp hc hi hg hb hs) fun Dn σ H ⟨m, ρ, S, re, rs, q⟩ => by
  refine ⟨m, ρ, S, re, rs, ?_⟩
  have q : PostS (X.cq W) m H Dn ((src ρ S).out ρ fun p S1 => runF G g p.2 p.1 ρ S1) := q
  cases es : src ρ S with
  | no => rw [es] at q; exact q.elim
  | ex x S' => rw [es] at q; exact fun cls dd H' m' e rs' rx => q cls dd σ H' m' e (re.mono e) rs' rx
  | ok p S' =>
    obtain ⟨xs, k⟩ := p
    rw [es] at q
    have q : PostS (X.cq W) m H Dn (runF G g k xs ρ S') := q
    intro J H1 m1 e1 rs1 it
    refine ⟨fun i n σ' H' => ∃ mm ρ' S', Ext X.K m1 H1 mm H' ∧ RE X.K mm H' σ' ρ' ∧ RS X.K mm H' S' ∧ n = xs.length - i ∧ i ≤ xs.length ∧ PostS (X.cq W) mm H' Dn (runF G g k (xs.drop i) ρ' S'),
      ⟨xs.length, m1, ρ, S', .refl, re.mono e1, rs1, by simp, Nat.zero_le _, by simpa using PostS.mono e1 q⟩, ?_⟩
    rintro i n σ' H' ⟨mm, ρ', S', e2, re2, rs2, rfl, hi, q2⟩
    by_cases hlt : i < xs.length
    · rw [List.drop_eq_getElem_cons hlt] at q2
      unfold runF at q2
      split at q2
      · rename_i hk
        obtain ⟨go, yl⟩ := (it i mm H' S' e2 rs2 hk).1 xs[i] (List.getElem?_eq_getElem hlt)
        refine .inr ⟨go, fun σ3 H3 => ∃ mm ρ' S', Ext X.K m1 H1 mm H3 ∧ RE X.K mm H3 σ3 ρ' ∧ RS X.K mm H3 S' ∧ PostS (X.cq W) mm H3 Dn (runF G g k (xs.drop (i + 1)) ρ' S'), fun σ3 H3 ⟨mm3, ρ3, S3, e3, re3, rs3, q3⟩ => ⟨xs.length - (i + 1), by omega, mm3, ρ3, S3, e3, re3, rs3, rfl, hlt, q3⟩, fun x H4 y => ?_⟩
        obtain ⟨m4, e4, rs4, rd4⟩ := yl x H4 y
        have q2 := PostS.mono e4 q2
        refine ⟨m4, ρ', S', xs[i], re2.mono e4, rs4, rd4, ?_⟩
        cases eo : G xs[i] ρ' S' with
        | nx ρ5 S5 =>
          rw [eo] at q2
          intro σ5 H5 m5 e5 re5 rs5
          have q2 : PostS (X.cq W) m5 H5 Dn (match g ρ5 S5 with
            | .nx ρ2 S2 => runF G g k (xs.drop (i + 1)) ρ2 S2
            | .ct ρ2 S2 => runF G g k (xs.drop (i + 1)) ρ2 S2
            | .bk ρ2 S2 => .nx ρ2 S2
            | o => o) := PostS.mono e5 q2
          refine ⟨m5, ρ5, S5, re5, rs5, ?_⟩
          have e15 : Ext X.K m1 H1 m5 H5 := (e2.trans e4).trans e5
          cases eb : g ρ5 S5 with
          | nx ρ6 S6 => rw [eb] at q2; exact fun σ6 H6 m6 e6 re6 rs6 => ⟨m6, ρ6, S6, e15.trans e6, re6, rs6, PostS.mono e6 q2⟩
          | ct ρ6 S6 => rw [eb] at q2; exact fun σ6 H6 m6 e6 re6 rs6 => ⟨m6, ρ6, S6, e15.trans e6, re6, rs6, PostS.mono e6 q2⟩
          | bk ρ6 S6 => rw [eb] at q2; exact q2
          | rt d S6 => rw [eb] at q2; exact q2
          | ex x ρ6 S6 => rw [eb] at q2; exact q2
          | no => rw [eb] at q2; exact q2
        | ex x ρ5 S5 => rw [eo] at q2; exact q2
        | _ => rw [eo] at q2; exact q2.elim
      · exact q2.elim
    · have hz : i = xs.length := by omega
      subst hz
      rw [List.drop_length] at q2
      unfold runF at q2
      split at q2
      · rename_i hk
        exact .inl ⟨(it xs.length mm H' S' e2 rs2 hk).2 (Nat.le_refl _), q2 σ' H' mm .refl re2 rs2⟩
      · exact q2.elim
theorem t_while (n : Nat) (hp : PassesOwn (model X.prog X.w) X.A X.env X.xe) (ht : PT X t (rdT (X.cq W) ft)) (hb : PSs X body (rdS (X.cq W) g)) : PS X (.While t body [] pos) (rdS (X.cq W) (sW n ft g)) := PSwk (ps_while hp ht hb) fun Dn σ H ⟨m, ρ, S, re, rs, q⟩ => by
  refine ⟨fun i σ' H' => ∃ mm ρ' S', RE X.K mm H' σ' ρ' ∧ RS X.K mm H' S' ∧ PostS (X.cq W) mm H' Dn (runW ft g i ρ' S'), ⟨n, m, ρ, S, re, rs, q⟩, ?_⟩
  rintro i σ' H' ⟨mm, ρ', S', re', rs', q'⟩
  cases i with
  | zero => exact q'.elim
  | succ i =>
    refine ⟨mm, ρ', S', re', rs', (Post.out (rel := relB) re' q').imp fun b H1 ⟨m1, b', S1, e1, rs1, eb, re1, q1⟩ => ?_⟩
    subst eb
    cases b with
    | false => rw [if_neg Bool.false_ne_true] at q1 ⊢; exact q1 σ' H1 m1 .refl re1 rs1
    | true =>
      rw [if_pos rfl] at q1 ⊢
      refine ⟨fun σ3 H3 => ∃ mm ρ' S', RE X.K mm H3 σ3 ρ' ∧ RS X.K mm H3 S' ∧ PostS (X.cq W) mm H3 Dn (runW ft g i ρ' S'), fun σ3 H3 h => ⟨i, Nat.lt_succ_self _, h⟩, m1, ρ', S1, re1, rs1, ?_⟩
      cases eb : g ρ' S1 with
      | nx ρ6 S6 => rw [eb] at q1; exact fun σ6 H6 m6 e6 re6 rs6 => ⟨m6, ρ6, S6, re6, rs6, PostS.mono e6 q1⟩
      | ct ρ6 S6 => rw [eb] at q1; exact fun σ6 H6 m6 e6 re6 rs6 => ⟨m6, ρ6, S6, re6, rs6, PostS.mono e6 q1⟩
      | bk ρ6 S6 => rw [eb] at q1; exact q1
      | rt d S6 => rw [eb] at q1; exact q1
      | ex x ρ6 S6 => rw [eb] at q1; exact q1
      | no => rw [eb] at q1; exact q1
end
end Dl

set_option Elab.async false
set_option linter.all false
set_option maxRecDepth 100000
namespace Dl
open PySem PySem.Spec PyProof.Rows L2

/-! ## list comprehensions: the target is names -/
/-- the slots of a comprehension's target: one name, or several -/
inductive Cg where
  | one (j : Nat) | many (js : List Nat)
def setsD (ρ : Env) : List Nat → List D → Env
  | j :: js, d :: ds => setsD (ρ.set j (some d)) js ds
  | _, _ => ρ
def Cg.put : Cg → D → Env → Option Env
  | .one j, d, ρ => some (ρ.set j (some d))
  | .many js, .tup ds, ρ => if ds.length = js.length then some (setsD ρ js ds) else none
  | _, _, _ => none
def Cg.slots : Cg → List Nat
  | .one j => [j]
  | .many js => js
def gNs : List Nat → TGs
  | [] => gNil
  | j :: js => gCons (gName j) (gNs js)
def Cg.tg (K : PySem.W.Frag) : Cg → TG
  | .one j => gName j
  | .many js => L2.gTup K js.length (gNs js)
open Classical in
noncomputable def runC (l : Nat) (ρ : Env) (g : Cg) (ft : TX) (fe : EX) (k : Chk) : List D → Store → R D
  | [], S => if chkOk k S then .ok (.ref l) S else .no
  | d :: ds, S => if chkOk k S then (match g.put d ρ with
    | some ρ1 => match ft ρ1 S with
      | .ok true S2 => match fe ρ1 S2 with
        | .ok e S3 => match S3[l]? with
          | some (.lst acc) => if acc.length < LIM then runC l ρ g ft fe k ds (S3.set l (.lst (acc ++ [e]))) else .no
          | _ => .no
        | _ => .no
      | .ok false S2 => runC l ρ g ft fe k ds S2
      | _ => .no
    | none => .no) else .no
/-- [elt for .. in .. if ..] -/
noncomputable def eLc (vs : List Nat) (src : IX) (g : Cg) (ft : TX) (fe : EX) : EX := fun ρ S => (src ρ S).bind fun p S1 => runC S1.length (wipeD ρ vs) g ft fe p.2 p.1 (S1 ++ [.lst []])
def tYesD : TX := fun _ S => .ok true S
section
theorem wipe_get {σ : L2.St} : ∀ {vs : List Nat} {i : Nat}, i ∈ vs → i < σ.length → (wipe σ vs)[i]? = some none
  | v :: vs, i, h, hl => by
    unfold wipe
    by_cases e : v = i
    · subst e
      exact List.getElem?_set_self (by rw [wipe_length]; exact hl)
    · rw [List.getElem?_set_ne e]
      rcases List.mem_cons.mp h with z | z
      · exact absurd z.symm e
      · exact wipe_get z hl
theorem wipe_out {σ : L2.St} : ∀ {vs : List Nat} {i : Nat}, i ∉ vs → (wipe σ vs)[i]? = σ[i]?
  | [], _, _ => rfl
  | v :: vs, i, h => by
    unfold wipe
    have e : v ≠ i := fun z => h (by simp [z])
    rw [List.getElem?_set_ne e]
    exact wipe_out fun z => h (List.mem_cons_of_mem _ z)
/-- slots among vs do not count -/
theorem wipe_same {σ σ' : L2.St} {vs : List Nat} (hl : σ'.length = σ.length) (h : ∀ i, i ∉ vs → σ'[i]? = σ[i]?) : wipe σ' vs = wipe σ vs := by
  apply List.ext_getElem?
  intro i
  by_cases hi : i ∈ vs
  · by_cases hz : i < σ.length
    · rw [wipe_get hi hz, wipe_get hi (by omega)]
    · rw [List.getElem?_eq_none (by rw [wipe_length]; omega), List.getElem?_eq_none (by rw [wipe_length]; omega)]
  · rw [wipe_out hi, wipe_out hi, h i hi]
def setsV (σ : L2.St) : List Nat → List V → L2.St
  | j :: js, v :: vs => setsV (σ.set j (some v)) js vs
  | _, _ => σ
theorem setsV_length : ∀ {js : List Nat} {ws : List V} {σ : L2.St}, (setsV σ js ws).length = σ.length
  | [], _, _ => rfl
  | _ :: _, [], _ => rfl
  | j :: js, w :: ws, σ => by
    show (setsV (σ.set j (some w)) js ws).length = _
    rw [setsV_length, List.length_set]
theorem setsV_out : ∀ {js : List Nat} {ws : List V} {σ : L2.St} {i : Nat}, i ∉ js → (setsV σ js ws)[i]? = σ[i]?
  | [], _, _, _, _ => rfl
  | _ :: _, [], _, _, _ => rfl
  | j :: js, w :: ws, σ, i, h => by
    show (setsV (σ.set j (some w)) js ws)[i]? = _
    rw [setsV_out fun z => h (List.mem_cons_of_mem _ z), List.getElem?_set_ne fun z => h (by simp [z])]
theorem RE.sets {K : PySem.W.Frag} {m : List Addr} {H : Hp} : ∀ {js : List Nat} {ws : List V} {ds : List D} {σ : L2.St} {ρ : Env}, RE K m H σ ρ → RDs K m H ws ds → RE K m H (setsV σ js ws) (setsD ρ js ds)
  | [], _, _, _, _, re, .nil => re
  | [], _, _, _, _, re, .cons _ _ => re
  | _ :: _, _, _, _, _, re, .nil => re
  | j :: js, _, _, _, _, re, .cons h t => by
    have q := RE.sets (js := js) (re.set h j) t
    exact q
theorem gNs_of {js : List Nat} : ∀ {ws : List V} {σ : L2.St} {H : Hp} {Q : L2.St → Hp → Prop}, ws.length = js.length → Q (setsV σ js ws) H → gNs js ws σ H Q := by
  induction js with
  | nil =>
    intro ws σ H Q hl q
    cases ws with
    | nil => exact ⟨rfl, q⟩
    | cons _ _ => cases hl
  | cons j js ih =>
    intro ws σ H Q hl q
    cases ws with
    | nil => cases hl
    | cons w ws => exact ⟨w, ws, rfl, ih (Nat.succ.inj hl) q⟩
theorem cg_of {K : PySem.W.Frag} {m : List Addr} {H : Hp} {g : Cg} {v : V} {d : D} {σ : L2.St} {ρ ρ1 : Env} {vs : List Nat} (hs : ∀ j ∈ g.slots, j ∈ vs) (re : RE K m H σ ρ) (rd : RD K m H v d) (hp : g.put d ρ = some ρ1) {Q : L2.St → Hp → Prop}
    (q : ∀ σ1, RE K m H σ1 ρ1 → wipe σ1 vs = wipe σ vs → Q σ1 H) : g.tg K v σ H Q := by
  cases g with
  | one j =>
    cases hp
    refine q _ (re.set rd j) (wipe_same (List.length_set ..) fun i hi => List.getElem?_set_ne fun z => hi (hs i ?_))
    rw [z]
    exact List.mem_singleton.mpr rfl
  | many js =>
    cases rd with
    | @tup a ws ds ht r =>
      have hp : (if ds.length = js.length then some (setsD ρ js ds) else none) = some ρ1 := hp
      split at hp
      · rename_i hz
        cases hp
        refine ⟨a, ws, rfl, ht.sq, by rw [r.length]; exact hz, gNs_of (by rw [r.length]; exact hz) (q _ (re.sets r) (wipe_same setsV_length fun i hi => setsV_out fun z => hi (hs i z)))⟩
      · cases hp
    | _ => cases hp
variable {X : Cx} {W : WX}
theorem lc_read {src : IX} {g : Cg} {ft : TX} {fe : EX} {vs : List Nat} (hs : ∀ j ∈ g.slots, j ∈ vs) (σ : L2.St) (H : Hp) (Q : VK) (h : rdE (X.cq W) (eLc vs src g ft fe) σ H Q) :
    tLc (rdI (X.cq W) src) (g.tg X.K) (rdT (X.cq W0) ft) (rdE (X.cq W0) fe) vs σ H Q := by
  obtain ⟨m, ρ, S, re, rs, h⟩ := h
  refine ⟨m, ρ, S, re, rs, ?_⟩
  have h : Post (X.cq W) (relD (X.cq W)) m H σ Q ((src ρ S).bind fun p S1 => runC S1.length (wipeD ρ vs) g ft fe p.2 p.1 (S1 ++ [.lst []])) := h
  cases es : src ρ S with
  | no => rw [es] at h; exact h.elim
  | ex x S' => rw [es] at h; exact h
  | ok p S' =>
    obtain ⟨xs, k⟩ := p
    rw [es] at h
    intro J H1 m1 e1 rs1 it D hD
    have h : Post (X.cq W) (relD (X.cq W)) m1 H1 σ Q (runC S'.length (wipeD ρ vs) g ft fe k xs (S' ++ [.lst []])) := Post.mono e1 h
    obtain ⟨e2, rs2⟩ := rs1.push (o := .lst []) (c := .lst []) hD fun m' e' => ⟨[], upd_same, .nil⟩
    have hl : (m1 ++ [D])[S'.length]? = some D := by
      rw [← rs1.len, List.getElem?_append_right (Nat.le_refl _), Nat.sub_self]
      rfl
    have re0 := re.mono e1
    refine ⟨fun i n H' => ∃ mm S2, Ext X.K m1 H1 mm H' ∧ RS X.K mm H' S2 ∧ mm[S'.length]? = some D ∧ n = xs.length - i ∧ i ≤ xs.length ∧ Post (X.cq W) (relD (X.cq W)) mm H' σ Q (runC S'.length (wipeD ρ vs) g ft fe k (xs.drop i) S2),
      ⟨xs.length, m1 ++ [D], S' ++ [.lst []], e2, rs2, hl, by simp, Nat.zero_le _, by simpa using Post.mono e2 h⟩, ?_⟩
    rintro i n H' ⟨mm, S2, e3, rs3, hl3, rfl, hi, h3⟩
    by_cases hlt : i < xs.length
    · rw [List.drop_eq_getElem_cons hlt] at h3
      unfold runC at h3
      split at h3
      · rename_i hk
        obtain ⟨go, yl⟩ := (it i mm H' S2 e3 rs3 hk).1 xs[i] (List.getElem?_eq_getElem hlt)
        refine .inr ⟨go, fun H3 => ∃ mm S3, Ext X.K m1 H1 mm H3 ∧ RS X.K mm H3 S3 ∧ mm[S'.length]? = some D ∧ Post (X.cq W) (relD (X.cq W)) mm H3 σ Q (runC S'.length (wipeD ρ vs) g ft fe k (xs.drop (i + 1)) S3),
          fun H3 ⟨mm3, S3, a1, a2, a3, a4⟩ => ⟨xs.length - (i + 1), by omega, mm3, S3, a1, a2, a3, rfl, hlt, a4⟩, fun x H4 y => ?_⟩
        obtain ⟨m4, e4, rs4, rd4⟩ := yl x H4 y
        have h3 := Post.mono e4 h3
        cases hp : g.put xs[i] (wipeD ρ vs) with
        | none => rw [hp] at h3; exact h3.elim
        | some ρ1 =>
          rw [hp] at h3
          simp only at h3
          have re4 : RE X.K m4 H4 (wipe σ vs) (wipeD ρ vs) := ((re0.mono e3).mono e4).wipe vs
          refine cg_of hs re4 rd4 hp fun σ1 re1 hw => ⟨by rw [hw]; exact wipe_same (wipe_length σ vs) fun i hi => wipe_out hi, m4, ρ1, S2, re1, rs4, ?_⟩
          cases et : ft ρ1 S2 with
          | no => rw [et] at h3; exact h3.elim
          | ex x S5 => rw [et] at h3; exact h3.elim
          | ok b S5 =>
            rw [et] at h3
            intro b' H5 m5 e5 rs5 eb
            subst eb
            have h3 := Post.mono (c := X.cq W) e5 h3
            have e15 := (e3.trans e4).trans e5
            cases b' with
            | false =>
              rw [if_neg Bool.false_ne_true]
              exact ⟨m5, S5, e15, rs5, e5.at (e4.at hl3), h3⟩
            | true =>
              rw [if_pos rfl]
              simp only at h3
              refine ⟨m5, ρ1, S5, re1.mono e5, rs5, ?_⟩
              cases ee : fe ρ1 S5 with
              | no => rw [ee] at h3; exact h3.elim
              | ex x S6 => rw [ee] at h3; exact h3.elim
              | ok d S6 =>
                rw [ee] at h3
                simp only at h3
                intro v H6 m6 e6 rs6 rd6
                have h3 := Post.mono (c := X.cq W) e6 h3
                have hl6 := e6.at (e5.at (e4.at hl3))
                split at h3
                · rename_i acc ea
                  split at h3
                  · rename_i hz
                    obtain ⟨ws, hw, rw'⟩ := rs6.wlst hl6 ea
                    obtain ⟨e7, rs7⟩ := rs6.write (o := .lst (ws ++ [v])) (c' := .lst (acc ++ [d])) hl6 ea rfl rfl fun ex => ⟨_, upd_same, (rw'.mono ex).append (.one (rd6.mono ex))⟩
                    exact ⟨ws, hw, by rw [rw'.length, ← lim_eq]; exact hz, m6, _, (e15.trans e6).trans e7, rs7, hl6, Post.mono (c := X.cq W) e7 h3⟩
                  · exact h3.elim
                · exact h3.elim
      · exact h3.elim
    · have hz : i = xs.length := by omega
      subst hz
      rw [List.drop_length] at h3
      unfold runC at h3
      split at h3
      · rename_i hk
        exact .inl ⟨(it xs.length mm H' S2 e3 rs3 hk).2 (Nat.le_refl _), h3 _ _ mm .refl rs3 (.ref hl3)⟩
      · exact h3.elim
variable {elt tg iter : Expr} {ifs : List Expr} {scope : Scope} {own : List (Str × Nat)} {pos : Pos} {src : IX} {g : Cg} {ft : TX} {fe : EX}
theorem d_lc (hc : X.calm = true) (hN : X.N.Nodup) (hi : PI X tg iter (rdI (X.cq W) src)) (ok : BlkOk X.N X.env.scope scope own) (hsl : ∀ j ∈ g.slots, j ∈ own.map (·.2))
    (hg : ∀ (s : Shared) (H : Hp) (C : Addr) (cl : List (Str × Addr)) (fp : List Addr), PG (X.blk s H scope (compEnvC scope cl C X.env) fp) tg (g.tg X.K)) (ht : ∀ (s : Shared) (H : Hp) (C : Addr) (cl : List (Str × Addr)) (fp : List Addr), PTs (X.blk s H scope (compEnvC scope cl C X.env) fp) ifs (rdT (X.cq W0) ft))
    (he : ∀ (s : Shared) (H : Hp) (C : Addr) (cl : List (Str × Addr)) (fp : List Addr), PE (X.blk s H scope (compEnvC scope cl C X.env) fp) elt (rdE (X.cq W0) fe)) (hs : ∀ x, foldedSetIterable iter X.env x = pure x := by intro _; rfl) :
    PE X (.ListComp elt [⟨tg, iter, ifs, 0⟩] scope pos) (rdE (X.cq W) (eLc (own.map (·.2)) src g ft fe)) := PEwk (pe_lc hc hN hi ok hg ht he hs) (lc_read hsl)
theorem t_setLc {i : Nat} {y : Str} {py spos : Pos} (hc : X.calm = true) (hN : X.N.Nodup) (hy : X.N[i]? = some y) (hyl : X.env.scope.names.lookup y = some .local)
    (hsw : swapsWith (.ListComp elt [⟨tg, iter, ifs, 0⟩] scope pos) (some (.Name y py)) spos.line X.env = pure true) (hi : PI X tg iter (rdI (X.cq W) src)) (ok : BlkOk X.N X.env.scope scope own) (hsl : ∀ j ∈ g.slots, j ∈ own.map (·.2))
    (hg : ∀ (s : Shared) (H : Hp) (C : Addr) (cl : List (Str × Addr)) (fp : List Addr), PG (X.blk s H scope (compEnvC scope cl C X.env) fp) tg (g.tg X.K)) (ht : ∀ (s : Shared) (H : Hp) (C : Addr) (cl : List (Str × Addr)) (fp : List Addr), PTs (X.blk s H scope (compEnvC scope cl C X.env) fp) ifs (rdT (X.cq W0) ft))
    (he : ∀ (s : Shared) (H : Hp) (C : Addr) (cl : List (Str × Addr)) (fp : List Addr), PE (X.blk s H scope (compEnvC scope cl C X.env) fp) elt (rdE (X.cq W0) fe)) (hs : ∀ x, foldedSetIterable iter X.env x = pure x := by intro _; rfl) :
    PS X (.Assign [.Name y py] (.ListComp elt [⟨tg, iter, ifs, 0⟩] scope pos) spos) (rdS (X.cq W) (sN i (eLc (own.map (·.2)) src g ft fe))) := PSwk (ps_setLc (i := i) hc hN hy hyl hsw hi ok hg ht he hs) fun Dn σ H ⟨m, ρ, S, re, rs, q⟩ =>
  lc_read hsl σ H _ ⟨m, ρ, S, re, rs, (Post.out (rel := relD (X.cq W)) re q).imp fun v H1 ⟨m1, d, S1, e1, rs1, rd, re1, q1⟩ => q1 _ H1 m1 .refl (re1.set rd i) rs1⟩
theorem u_nil : PTs X [] (rdT (X.cq W) tYesD) := ⟨fun pins s σ H Q I ⟨m, ρ, S, re, rs, h⟩ => pts_nil.run pins s σ H Q I (h _ H m .refl rs rfl)⟩
theorem u_one {c : Expr} (h : PT X c (rdT (X.cq W) ft)) : PTs X [c] (rdT (X.cq W) ft) := pts_one h
theorem v_one {j : Nat} {x : Str} (hN : X.N.Nodup) (hi : X.N[j]? = some x := by rfl) (hx : Loc X.env.scope x := by first | exact .inl rfl | exact .inr rfl) (hf : X.fn x = true ∨ X.env.scope.names.lookup x = some .local := by first | exact .inl rfl | exact .inr rfl) :
    PG X (.Name x pos) ((Cg.one j).tg X.K) := pg_name hN hi hx hf
theorem v_nil : PGs X [] (gNs []) := pgs_nil
theorem v_cons {j : Nat} {js : List Nat} {e : Expr} {es : List Expr} (h1 : PG X e (gName j)) (h2 : PGs X es (gNs js)) (hs : (assignEach (e :: es) X.env).map (·.2) = assign e X.env :: (assignEach es X.env).map (·.2) := by rfl) : PGs X (e :: es) (gNs (j :: js)) := pgs_cons h1 h2 hs
theorem v_many {js : List Nat} {es : List Expr} {k : Nat} (hc : X.calm = true) (h : PGs X es (gNs js)) (hn : (assignEach es X.env).length = js.length := by rfl) (hst : (assignEach es X.env).findIdx? (·.1) = none := by rfl) :
    PG X (.Tuple es k pos) ((Cg.many js).tg X.K) := pg_tup hc h hn hst
end
end Dl

set_option Elab.async false
set_option linter.all false
set_option maxRecDepth 100000
namespace Dl
open PySem PySem.Spec PyProof.Rows L2

/-! ## what a def leaves: new cells that nobody knows are forgotten -/
mutual
def D.wf (n : Nat) : D → Bool
  | .tup xs => wfs n xs
  | .ref l => decide (l < n)
  | _ => true
def wfs (n : Nat) : List D → Bool
  | [] => true
  | x :: xs => x.wf n && wfs n xs
end
def Cell.wf (n : Nat) : Cell → Bool
  | .lst xs => wfs n xs
  | .rol xs => wfs n xs
  | .dic kvs => wfs n (kvs.map (·.2))
  | .gone => true
def SWf (n : Nat) (S : Store) : Bool := S.all (Cell.wf n)
def newCell (n : Nat) : Option Cell → Option Cell
  | some (.lst xs) => if wfs n xs then some (.lst xs) else none
  | some (.dic kvs) => if wfs n (kvs.map (·.2)) then some (.dic kvs) else none
  | _ => none
def cmp (n : Nat) (d : D) (S' : Store) : R D :=
  if SWf n (S'.take n) then
    if d.wf n then .ok d (S'.take n)
    else match d with
      | .ref l => match newCell n (S'[l]?) with
        | some c => .ok (.ref n) (S'.take n ++ [c])
        | none => .ok d S'
      | _ => .ok d S'
  else .ok d S'
def runB (np ns : Nat) (g : SX) (ds : List D) (S : Store) : R D := if ds.length = np then (match g (ds.map some ++ List.replicate (ns - np) none) S with
  | .rt d S' => cmp S.length d S'
  | .nx _ S' => cmp S.length .non S'
  | .ex x _ S' => .ex x S'
  | _ => .no) else .no
section
variable {K : PySem.W.Frag} {m r : List Addr} {H : Hp}
mutual
theorem RD.low : ∀ {v : V} {d : D}, RD K (m ++ r) H v d → d.wf m.length = true → RD K m H v d
  | _, _, .non, _ => .non
  | _, _, .bl b, _ => .bl b
  | _, _, .int b, _ => .int b
  | _, _, .str h, _ => .str h
  | _, _, .tup h t, w => .tup h (RDs.low t w)
  | _, _, .ref h, w => .ref (by
      have w' := of_decide_eq_true w
      rwa [List.getElem?_append_left w'] at h)
  | _, _, .raw v, _ => .raw v
theorem RDs.low : ∀ {vs : List V} {ds : List D}, RDs K (m ++ r) H vs ds → wfs m.length ds = true → RDs K m H vs ds
  | _, _, .nil, _ => .nil
  | _, _, .cons h t, w => by
    have w' := Bool.and_eq_true_iff.mp w
    exact .cons (RD.low h w'.1) (RDs.low t w'.2)
end
theorem CellOk.low {a : Addr} {c : Cell} (h : CellOk K (m ++ r) H a c) (w : c.wf m.length = true) : CellOk K m H a c := by
  cases c with
  | lst xs => obtain ⟨vs, h1, h2⟩ := h; exact ⟨vs, h1, h2.low w⟩
  | rol xs => obtain ⟨vs, h1, h2⟩ := h; exact ⟨vs, h1, h2.low w⟩
  | dic kvs => obtain ⟨vs, h1, h2, h3⟩ := h; exact ⟨vs, h1, h2, h3.low w⟩
  | gone => trivial
theorem RS.low {S : Store} (h : RS K (m ++ r) H S) (w : SWf m.length (S.take m.length) = true) : RS K m H (S.take m.length) := by
  have hl := h.len
  rw [List.length_append] at hl
  have gm : ∀ {l : Nat} {a : Addr}, m[l]? = some a → (m ++ r)[l]? = some a := fun {l a} e => by
    rw [List.getElem?_append_left (List.getElem?_eq_some_iff.mp e).1]
    exact e
  have gS : ∀ {l : Nat} {c : Cell}, (S.take m.length)[l]? = some c → S[l]? = some c := fun {l c} e => by
    have z := (List.getElem?_eq_some_iff.mp e).1
    rw [List.length_take] at z
    rwa [List.getElem?_take_of_lt (by omega)] at e
  refine ⟨by rw [List.length_take]; omega, fun {l a c} h1 h2 => (h.at_ (gm h1) (gS h2)).low (List.all_eq_true.mp w c (List.mem_of_getElem? h2)), fun h1 h2 h3 h4 h5 h6 => h.inj (gm h1) (gm h2) (gS h3) (gS h4) h5 h6⟩
theorem newCell_mut {n : Nat} {o : Option Cell} {c : Cell} (h : newCell n o = some c) : o = some c ∧ c.wf n = true := by
  unfold newCell at h
  split at h
  · split at h
    · cases h; exact ⟨rfl, ‹_›⟩
    · cases h
  · split at h
    · cases h; exact ⟨rfl, ‹_›⟩
    · cases h
  · cases h
/-- new at the end -/
theorem RS.last {S : Store} {l : Nat} {a : Addr} {c : Cell} (h : RS K (m ++ r) H S) (w : SWf m.length (S.take m.length) = true) (hn : m.length ≤ l) (hl : (m ++ r)[l]? = some a) (hc : S[l]? = some c) (wc : c.wf m.length = true) :
    RS K (m ++ [a]) H (S.take m.length ++ [c]) := by
  have b := h.low w
  have hlen := b.len
  have e : Ext K m H (m ++ [a]) H := ⟨⟨[a], rfl⟩, fun _ _ h => h⟩
  have split1 : ∀ {i : Nat} {x : Addr}, (m ++ [a])[i]? = some x → m[i]? = some x ∨ (i = m.length ∧ x = a) := fun {i x} q => by
    by_cases z : i < m.length
    · rw [List.getElem?_append_left z] at q
      exact .inl q
    · have := (List.getElem?_eq_some_iff.mp q).1
      simp at this
      have e : i = m.length := by omega
      subst e
      rw [List.getElem?_append_right (Nat.le_refl _)] at q
      simp at q
      exact .inr ⟨rfl, q.symm⟩
  have split2 : ∀ {i : Nat} {x : Cell}, (S.take m.length ++ [c])[i]? = some x → (i < m.length ∧ (S.take m.length)[i]? = some x) ∨ (i = m.length ∧ x = c) := fun {i x} q => by
    by_cases z : i < m.length
    · rw [List.getElem?_append_left (by rw [← hlen]; exact z)] at q
      exact .inl ⟨z, q⟩
    · have := (List.getElem?_eq_some_iff.mp q).1
      rw [List.length_append, ← hlen] at this
      simp at this
      have e : i = m.length := by omega
      subst e
      rw [List.getElem?_append_right (by rw [← hlen]; exact Nat.le_refl _), ← hlen] at q
      simp at q
      exact .inr ⟨rfl, q.symm⟩
  have gm : ∀ {l : Nat} {a : Addr}, m[l]? = some a → (m ++ r)[l]? = some a := fun {l a} e => by
    rw [List.getElem?_append_left (List.getElem?_eq_some_iff.mp e).1]
    exact e
  have gS : ∀ {l : Nat} {c : Cell}, (S.take m.length)[l]? = some c → S[l]? = some c := fun {l c} e => by
    have z := (List.getElem?_eq_some_iff.mp e).1
    rw [List.length_take] at z
    rwa [List.getElem?_take_of_lt (by omega)] at e
  have lt : ∀ {i : Nat} {x : Addr}, m[i]? = some x → i < m.length := fun {i x} q => (List.getElem?_eq_some_iff.mp q).1
  refine ⟨by rw [List.length_append, List.length_append, ← hlen]; rfl, fun {i x y} h1 h2 => ?_, fun {i i' x y y'} h1 h2 h3 h4 h5 h6 => ?_⟩
  · rcases split1 h1 with q1 | ⟨q1, rfl⟩
    · rcases split2 h2 with ⟨z, q2⟩ | ⟨q2, rfl⟩
      · exact (b.at_ q1 q2).mono e (fun _ => rfl) fun _ z => z
      · exact absurd (lt q1) (by omega)
    · rcases split2 h2 with ⟨z, q2⟩ | ⟨q2, rfl⟩
      · exact absurd z (by omega)
      · exact ((h.at_ hl hc).low wc).mono e (fun _ => rfl) fun _ z => z
  · rcases split1 h1 with q1 | ⟨q1, e1⟩
    · rcases split2 h3 with ⟨z, q3⟩ | ⟨q3, _⟩
      · rcases split1 h2 with q2 | ⟨q2, e2⟩
        · rcases split2 h4 with ⟨z', q4⟩ | ⟨q4, _⟩
          · exact b.inj q1 q2 q3 q4 h5 h6
          · exact absurd (lt q2) (by omega)
        · rcases split2 h4 with ⟨z', q4⟩ | ⟨q4, e4⟩
          · exact absurd z' (by omega)
          · subst e2 e4
            have := h.inj (gm q1) hl (gS q3) hc h5 h6
            have := lt q1
            omega
      · exact absurd (lt q1) (by omega)
    · rcases split2 h3 with ⟨z, q3⟩ | ⟨q3, e3⟩
      · exact absurd z (by omega)
      · rcases split1 h2 with q2 | ⟨q2, e2⟩
        · rcases split2 h4 with ⟨z', q4⟩ | ⟨q4, _⟩
          · subst e1 e3
            have := h.inj hl (gm q2) hc (gS q4) h5 h6
            have := lt q2
            omega
          · exact absurd (lt q2) (by omega)
        · omega
end
theorem cmp_post {c : Cq} {m m' : List Addr} {H H' : Hp} {v : V} {d : D} {S S' : Store} {Q : VK} {σ : L2.St} (hm : m.length = S.length) (e : Ext c.K m H m' H') (rs : RS c.K m' H' S') (rd : RD c.K m' H' v d) (h : Post c (relD c) m H σ Q (cmp S.length d S')) : Q v H' := by
  obtain ⟨⟨r, rfl⟩, et⟩ := e
  rw [← hm] at h
  unfold cmp at h
  have e0 : Ext c.K m H m H' := ⟨⟨[], by simp⟩, et⟩
  have same : Post c (relD c) m H σ Q (.ok d S') → Q v H' := fun h => h v H' _ ⟨⟨r, rfl⟩, et⟩ rs rd
  split at h
  · rename_i w
    split at h
    · rename_i wd
      exact h v H' m e0 (rs.low w) (rd.low wd)
    · rename_i wd
      split at h
      · rename_i l
        split at h
        · rename_i cl hc
          obtain ⟨q1, q2⟩ := newCell_mut hc
          cases rd with
          | @ref a _ hl =>
            have hn : m.length ≤ l := by
              have := mt (fun z => decide_eq_true z) (show ¬ (D.ref l).wf m.length = true from wd)
              omega
            refine h _ H' (m ++ [a]) ⟨⟨[a], rfl⟩, et⟩ (rs.last w hn hl q1 q2) (.ref ?_)
            rw [List.getElem?_append_right (Nat.le_refl _), Nat.sub_self]
            rfl
        · exact same h
      · exact same h
  · exact same h
theorem re_start {K : PySem.W.Frag} {m : List Addr} {H : Hp} {N : List Str} {vs : List V} {ds : List D} (r : RDs K m H vs ds) : RE K m H (L2.start N vs) (ds.map some ++ List.replicate (N.length - ds.length) none) := by
  unfold L2.start
  have hl := r.length
  refine ⟨by simp [hl], fun {i d} h => ?_⟩
  by_cases z : i < ds.length
  · rw [List.getElem?_append_left (by simpa using z), List.getElem?_map] at h
    cases e : ds[i]? with
    | none => rw [e] at h; cases h
    | some d' =>
      rw [e] at h
      cases h
      obtain ⟨v, h1, h2⟩ := r.get e
      refine ⟨v, ?_, h2⟩
      rw [List.getElem?_append_left (by simp [hl]; exact z), List.getElem?_map, h1]
      rfl
  · rw [List.getElem?_append_right (by simpa using z), List.getElem?_replicate] at h
    split at h <;> cases h
theorem passB {X : Cx} {σ : L2.St} : PassesAt (L2.CX X.prog X.w) X σ (WE W0 σ) := fun _ _ _ _ _ _ h => by
  obtain ⟨_, _, _, _, _, _, _, _, _, _, _, _, z⟩ := h
  exact z.elim
section
variable {P : Program} {w : World} {K : PySem.W.Frag} {mg : Str → Option Value} {base : Heap}
/-- a def of the text keeps its mirror's promise -/
theorem fn_ok {x qual : Str} {st : Stmt} {f : Addr} {fd : FuncData} {N ps : List Str} {k : Nat} {g : SX} (F : Fun K x qual st f fd) (S : FnScope N ps (defScope st))
    (hbody : ∀ (cdv : Value) (A : Around) (outer : List PySem.Env) (s : Shared) (H : Hp) (E : XK), Room k (A.deeper (envOfC qual (defScope st) s.heap.objs.size f cdv)) →
      PSs (cxOf (L2.CX P w) P w K mg base N qual (defScope st) f cdv A outer s H E) (defBody st) (rdS ⟨K, mg, fun c d _ H => E c d H⟩ g)) :
    FnOk P w K mg base (L2.CX P w) (k + 1) f fd ps (rdF ⟨K, mg, W0⟩ (runB ps.length N.length g)) := by
  refine F.okX S (fun vs H Q E h => ?_) fun cdv A outer s H vs Q E hr h => ⟨_, hbody cdv A outer s H E hr, ?_⟩
  · obtain ⟨m, ds, S, r, rs, h⟩ := h
    rw [r.length]
    unfold runB at h
    split at h
    · assumption
    · exact h.elim
  · obtain ⟨m, ds, S, r, rs, h⟩ := h
    unfold runB at h
    split at h
    · rename_i hl
      refine ⟨m, ds.map some ++ List.replicate (N.length - ps.length) none, S, by rw [← hl]; exact re_start r, rs, ?_⟩
      cases eg : g (ds.map some ++ List.replicate (N.length - ps.length) none) S with
      | rt d S' => rw [eg] at h; exact fun v H' m' e rs' rd => cmp_post (σ := []) rs.len e rs' rd h
      | nx ρ' S' => rw [eg] at h; exact fun σ' H' m' e re' rs' => cmp_post (σ := []) rs.len e rs' .non h
      | ex xx ρ' S' => rw [eg] at h; exact fun cls dd σ' H' m' e re' rs' rx => h cls dd H' m' e rs' rx
      | _ => rw [eg] at h; exact h.elim
    · exact h.elim
/-- none is called with no calls left -/
theorem fn_zero {f : Addr} {fd : FuncData} {ps : List Str} : FnOk P w K mg base (L2.CX P w) 0 f fd ps (rdF ⟨K, mg, W0⟩ fun _ _ => .no) :=
  ⟨fun vs H Q E ⟨m, ds, S, r, rs, h⟩ => h.elim, fun A outer s H args us vs Q E _ _ _ _ ⟨m, ds, S, r, rs, h⟩ => h.elim⟩
end
/-- a promise without exceptions -/
def rdL (K : PySem.W.Frag) (F : List D → M D) : Sp := fun vs H Q _ => ∃ m ds S d S', RDs K m H vs ds ∧ RS K m H S ∧ F ds S = .ok d S' ∧ ∀ v H' m', Ext K m H m' H' → RS K m' H' S' → RD K m' H' v d → Q v H'
theorem rdL_F {K : PySem.W.Frag} {mg : Str → Option Value} {F : List D → M D} {vs : List V} {H : Hp} {Q : VK} {E : XK} (h : rdL K F vs H Q E) : rdF ⟨K, mg, W0⟩ F vs H Q E := by
  obtain ⟨m, ds, S, d, S', r, rs, e, k⟩ := h
  exact ⟨m, ds, S, r, rs, by rw [e]; exact k⟩
/-- THE END: a script's ints, True -/
theorem law_sp {K : PySem.W.Frag} {F : List D → M D} {H : Hp} {a : Addr} {ns : List Int} (hO : Only H) (hS : SqL K H a (ns.map V.int)) (h : ∃ S, F [.ref 0] [.rol (ns.map D.int)] = .ok (.bl true) S) :
    rdL K F [.ref a] H (fun v _ => v = .bl true) fun _ _ _ => False := by
  obtain ⟨S, h⟩ := h
  have rds : ∀ ns : List Int, RDs K [a] H (ns.map V.int) (ns.map D.int) := fun ns => by
    induction ns with
    | nil => exact .nil
    | cons n ns ih => exact .cons (.int n) ih
  have hR : RolAt K H a (ns.map V.int) := by
    rcases hS with hS | hS
    · rcases hS with hS | hS
      · rcases hO a with z | ⟨o, xs, z⟩
        · rw [z] at hS; cases hS
        · rw [z] at hS; cases hS
      · exact .inl hS
    · exact .inr hS
  refine ⟨[a], [.ref 0], [.rol (ns.map D.int)], .bl true, S, .cons (.ref rfl) .nil, ⟨rfl, fun {l a' c} h1 h2 => ?_, fun {l l' a' c c'} h1 h2 h3 h4 h5 h6 => ?_⟩, ?_⟩
  · cases l with
    | zero =>
      simp at h1 h2
      subst h1 h2
      exact ⟨_, hR, rds ns⟩
    | succ l => simp at h1
  · cases l with
    | zero => simp at h3; subst h3; cases h5
    | succ l => simp at h3
  · exact ⟨h, fun v H' m' e rs rd => by cases rd; rfl⟩
end Dl

set_option Elab.async false
set_option linter.all false
set_option maxRecDepth 100000
set_option maxHeartbeats 1000000
namespace Dl
open PySem PySem.Spec PyProof.Rows L2 RT
/-! ## list(reversed(xs)) -/
section
variable {prog : Program} {w : World} {A : Around} {E : Value → Shared → Prop} {s : Shared}
theorem extend_rev {it l S : Addr} {items : Array Value} {res : Value} {c₀ : Nat} {R : Result → Shared → Prop} (hh : A.handled = none) (hit : s.heap.IsRevIter it l ((items.size : Int) - 1)) (hl : s.heap.IsList l items) (hne : l ≠ it) (hn : items.size ≤ sizeLine)
    (hSi : S ≠ it) (hSl : S ≠ l) (hS : s.heap.get? S = some { cls := .type "list", data := .seq #[] c₀ })
    (hR : ∀ h' tk acc c', (∀ b o, b ≠ it → b ≠ S → s.heap.get? b = some o → h'.get? b = some o) → h'.get? S = some { cls := .type "list", dict := none, data := .seq acc c', slots := #[] } →
      ItemsOf (fun i v => items[items.size - 1 - i]? = some v) acc items.size → R (.ok (.ret res)) { s with heap := h', toks := tk }) :
    wpAny (model prog w) A.in1 (Builtin.List.listExtendWith (.ref S) (.ref it) res)
      (fun fin s' => match fin with | .done f => R (.ok f) s' | .again c' => c'.quiet = true ∧ codeAny (model prog w) A c' R s') (fun e s' => R (.error e) s') s := by
  have W := (Walks.listRev (prog := prog) (w := w) (A := A.in1) hh it l hne items).toS
  have hSf : S ∉ [it, l] := by simp only [List.mem_cons, List.not_mem_nil, or_false, not_or]; exact ⟨hSi, hSl⟩
  have hT : s.TypeIs (.ref it) "list_reverseiterator" := hit.typeIs
  have h1 : Builtin.List.listSameRef (.ref S) (.ref it) = false := by simp [Builtin.List.listSameRef, hSi]
  unfold Builtin.List.listExtendWith
  refine wpAny_bind (wpAny_typeOf hT ?_)
  rw [if_neg (by rw [h1]; decide)]
  refine wpAny_bind (wpAny_pyIter_revIter hit ?_)
  refine wpAny_bind (wpAny_holding ?_)
  unfold Builtin.List.listLengthHint
  refine wpAny_bind (wpAny_specialOf hT nolen_lri ?_)
  show wpAny _ A.in1 (specialOf (Value.ref it) (Str.ofString "__length_hint__") >>= _) _ _ _
  refine wpAny_bind (wpAny_specialOf hT hint_lri ?_)
  generalize hid : ("list_reverseiterator.__length_hint__" : String) = id0
  wp_delta
  rw [show splitId id0 = some ("list_reverseiterator", "__length_hint__") from by subst hid; decide +kernel]
  subst hid
  refine wpAny_bind (wpAny_isInstance (b := true) hT (by rw [isSubtype_type]; kernel_rfl) ?_)
  refine wpAny_pure ?_
  rw [if_neg (by decide)]
  have e0 : ((items.size : Nat) : Int) - 1 - ((0 : Nat) : Int) = (items.size : Int) - 1 := by omega
  refine wpAny_pure ⟨plainId_quiet F.plain_extend_loop _, codeAny_extend_loopS W hn _ hSf _ items.size 0 _ _ _ rfl (Nat.zero_le _) ⟨Nat.zero_le _, by rw [e0]; exact hit, hl⟩ hS (ItemsOf.nil _) fun s' acc' c' hm hS' hacc => ?_⟩
  rw [Moved.eq_with hm]
  refine hR s'.heap s'.toks acc' c' (fun b o hb hb2 e => hm.heap b o (fun hmem => ?_) e) hS' hacc
  rcases List.mem_cons.mp hmem with e' | hmem
  · exact hb2 e'
  · exact hb (List.mem_singleton.mp hmem)
theorem list_init_rev {it l S : Addr} {items : Array Value} {R : Result → Shared → Prop} (hh : A.handled = none) (hit : s.heap.IsRevIter it l ((items.size : Int) - 1)) (hl : s.heap.IsList l items) (hne : l ≠ it) (hn : items.size ≤ sizeLine)
    (hSi : S ≠ it) (hSl : S ≠ l) (hS : s.heap.get? S = some { cls := .type "list", data := .seq #[] })
    (hR : ∀ h' tk acc c', (∀ b o, b ≠ it → b ≠ S → s.heap.get? b = some o → h'.get? b = some o) → h'.get? S = some { cls := .type "list", dict := none, data := .seq acc c', slots := #[] } →
      ItemsOf (fun i v => items[items.size - 1 - i]? = some v) acc items.size → R (.ok (.ret .none)) { s with heap := h', toks := tk }) :
    wpAny (model prog w) A.in1 (Builtin.«list.__init__» ⟨[.ref S, .ref it], []⟩)
      (fun fin s' => match fin with | .done f => R (.ok f) s' | .again c' => c'.quiet = true ∧ codeAny (model prog w) A c' R s') (fun e s' => R (.error e) s') s := by
  show wpAny _ _ (do let old ← Builtin.List.listItems (.ref S); Builtin.List.listUpdate (.ref S) (fun _ => #[]); letGo old.toList.reverse; Builtin.List.listExtendWith (.ref S) (.ref it) .none) _ _ s
  refine wpAny_bind ?_
  unfold Builtin.List.listItems
  refine wpAny_bind (wpAny_seqItems hS rfl (wpAny_pure ?_))
  show wpAny _ _ (updateSeq S (fun _ => #[]) >>= fun _ => letGo (#[] : Array Value).toList.reverse >>= fun _ => Builtin.List.listExtendWith (.ref S) (.ref it) .none) _ _ s
  refine wpAny_bind (wpAny_updateSeq hS rfl ?_)
  have hS₂ := Heap.get?_update_self (Obj.mapSeq (fun _ => (#[] : Array Value))) hS rfl
  have oth : ∀ b o, b ≠ S → s.heap.get? b = some o → (s.heap.update S (Obj.mapSeq (fun _ => (#[] : Array Value)))).get? b = some o :=
    fun b o hb e => (Heap.get?_update_other _ _ (Ne.symm hb)).trans e
  refine wpAny_bind (wpAny_letGo ?_)
  obtain ⟨ol, hol, hcl, hdl⟩ := id hl
  refine extend_rev hh (hit.at fun o e => oth it o (Ne.symm hSi) e) ⟨ol, oth l _ (Ne.symm hSl) hol, hcl, hdl⟩ hne hn hSi hSl hS₂ fun h' tk acc' c' hk hS' hacc => ?_
  exact hR h' tk acc' c' (fun b o hb hb2 e => hk b o hb hb2 (oth b o hb2 e)) hS' hacc
theorem call_list_rev {it l : Addr} {items : Array Value} {Q : Value → Shared → Prop} (hh : A.handled = none) (hit : s.heap.IsRevIter it l ((items.size : Int) - 1)) (hl : s.heap.IsList l items) (hne : l ≠ it) (hn : items.size ≤ sizeLine)
    (hQ : ∀ h' tk acc' c', (∀ b o, b ≠ it → s.heap.get? b = some o → h'.get? b = some o) →
      h'.get? s.heap.objs.size = some { cls := .type "list", dict := none, data := .seq acc' c', slots := #[] } → ItemsOf (fun i v => items[items.size - 1 - i]? = some v) acc' items.size → Q (.ref s.heap.objs.size) { s with heap := h', toks := tk }) :
    wpAny (model prog w) A (call (.type "list") [.ref it]) Q E s := by
  refine callType_codes (Q₁ := fun obj s₁ => obj = .ref s.heap.objs.size ∧ s₁ = { s with heap := s.heap.push { cls := .type "list", data := .seq #[] } }) F.called_list (F.typeCall_list_1 _) F.entry_list_init
    (code_list_new _ ⟨rfl, rfl⟩) fun obj s₁ h₁ => ?_
  obtain ⟨rfl, rfl⟩ := h₁
  have hS : (s.heap.push { cls := .type "list", data := .seq #[] }).get? s.heap.objs.size = some { cls := .type "list", data := .seq #[] } := Heap.get?_push_size _ rfl
  obtain ⟨oi, hoi, _⟩ := id hit
  obtain ⟨ol, hol, _⟩ := id hl
  refine ⟨⟨_, hS, rfl⟩, F.args_list_init_2 _ _, list_init_rev (A := A.in1) hh (hit.at fun o e => Heap.get?_push_of_some _ e) (hl.push _) hne hn (Nat.ne_of_gt (Heap.lt_size hoi)) (Nat.ne_of_gt (Heap.lt_size hol)) hS fun h' tk acc' c' hk hS' hacc => ?_⟩
  exact ⟨rfl, hQ h' tk acc' c' (fun b o hb e => hk b o hb (Nat.ne_of_lt (Heap.lt_size e)) (Heap.get?_push_of_some _ e)) hS' hacc⟩
end
def gListRev : D → Store → Option (D × Store)
  | .ref l, S => (lstAt S l).map fun xs => (.ref S.length, S ++ [.lst xs.reverse])
  | _, _ => none
section
variable {X : Cx} {W : WX} {e : Expr} {f : EX} {p p2 pos pos2 : Pos}
theorem d_listRev (hc : X.calm = true) (hg : Gl X "list") (hm : X.mg "list" = none) (hg2 : Gl X "reversed") (hm2 : X.mg "reversed" = none) (he : PE X e (rdE (X.cq W) f))
    (hs : starEach [e] X.env = (false, eval e X.env) :: starEach [] X.env := by rfl)
    (hs2 : starEach [.Call (.Name "reversed" p2) [e] [] pos2] X.env = (false, eval (.Call (.Name "reversed" p2) [e] [] pos2) X.env) :: starEach [] X.env := by rfl) :
    PE X (.Call (.Name "list" p) [.Call (.Name "reversed" p2) [e] [] pos2] [] pos) (rdE (X.cq W) (e1 gListRev f)) := by
  refine ⟨fun pins s σ H Q I ⟨m, ρ, S, re, rs, h⟩ => ?_⟩
  refine Call_ (ld_blt I hg hm boot_list (PyProof.Rows.callWith_type1 (args_cons (Call_ (ld_blt I hg2 hm2 PyProof.Rows.boot_reversed (PyProof.Rows.callWith_type1 (args_cons (thn (he.run pins s σ H _ I ⟨m, ρ, S, re, rs, Post.bind h⟩) fun u s1 ⟨v, H1, I1, r1, q1⟩ => args_nil ?_) hs) hs rfl))) hs2) hs2 rfl))
  obtain ⟨m1, d, S1, e1, rs1, rd1, q⟩ := q1
  have q := VPost.of q
  cases rd1 with
  | @ref a l hla =>
    have q : VPost X.K m1 H1 Q ((lstAt S1 l).map fun xs => (.ref S1.length, S1 ++ [.lst xs.reverse])) := q
    cases el : lstAt S1 l with
    | none => rw [el] at q; exact q.elim
    | some xs =>
      rw [el] at q
      obtain ⟨vs, hq, rds⟩ := rs1.lst hla el
      obtain rfl : u = Value.ref a := r1
      obtain ⟨its, rv, p', hz⟩ := I1.list hq
      refine call_reversed_list p'.isList (args_nil ?_)
      have k0 : ∀ b o, s1.heap.get? b = some o → (s1.heap.push (revObj a ((its.toArray.size : Int) - 1))).get? b = some o := fun b o e => Heap.get?_push_of_some _ e
      have I2 : L2.Inv X pins σ H1 { s1 with heap := s1.heap.push (revObj a ((its.toArray.size : Int) - 1)) } := I1.kept (t' := s1.toks) k0
      obtain ⟨f0, f1, f2, f3, f4, f5⟩ := I1.fpOk (H' := H1) (b := s1.heap.objs.size) (Nat.le_refl _) (I1.hok.fresh (Nat.le_refl _))
      have hl := p'.isList
      obtain ⟨ol, hol, _⟩ := id hl
      have hne : a ≠ s1.heap.objs.size := Nat.ne_of_lt (Heap.lt_size hol)
      have hn : its.toArray.size ≤ sizeLine := by rw [List.size_toArray, ← rv.length]; exact hz
      have ksz : (s1.heap.push (revObj a ((its.toArray.size : Int) - 1))).objs.size = s1.heap.objs.size + 1 := Heap.size_push _ _
      refine call_list_rev (s := { s1 with heap := s1.heap.push (revObj a ((its.toArray.size : Int) - 1)) }) (I1.ok.hd hc) ⟨_, Heap.get?_push_size _ rfl, rfl, rfl⟩ (hl.push _) hne hn fun h' tk acc c' hk hS' hi => ?_
      have hfr : H1 (s1.heap.push (revObj a ((its.toArray.size : Int) - 1))).objs.size = none := I2.hok.fresh (Nat.le_refl _)
      refine ⟨.ref (s1.heap.push (revObj a ((its.toArray.size : Int) - 1))).objs.size, upd H1 _ (.lst vs.reverse), ?_, rfl, vp_lst rs1 hfr rds.reverse q⟩
      have I3 : L2.Inv X pins σ H1 { s1 with heap := h', toks := tk } := I2.turned (t' := tk) (fun b o hb e => hk b o hb e) f0 f1 f3 f4 f5
      obtain ⟨g0, g1, g2, g3, g4, g5⟩ := I2.fpOk (H' := H1) (b := (s1.heap.push (revObj a ((its.toArray.size : Int) - 1))).objs.size) (Nat.le_refl _) hfr
      have hS'' : h'.get? (s1.heap.push (revObj a ((its.toArray.size : Int) - 1))).objs.size = some { cls := .type "list", dict := none, data := .seq acc c', slots := #[] } := hS'
      generalize (s1.heap.push (revObj a ((its.toArray.size : Int) - 1))).objs.size = p0 at *
      refine L2.Inv.step (s := { s1 with heap := h', toks := tk }) (g' := s1.gens) (t' := tk) (d' := s1.drawn) (h' := h') (ch := [p0]) I3 (fun b hb => ?_) (fun b o _ _ _ q _ => q) (fun b o _ _ _ q _ => ⟨o.slots, q⟩) (fun b o hb q n => ?_) (fun b o _ q => ⟨o, q⟩) (fun b ws q => by rw [upd_ne (ne_of_none q hfr)]; exact q)
        (fun b o u q => by rw [upd_ne (ne_of_none q hfr)]; exact q) (fun b ps q => ⟨#[], by rw [upd_ne (ne_of_none q hfr), q]; simp⟩) (fun m hm => hm) (fun b u q => ?_) I1.bare
      · have e : b = p0 := by simpa using hb
        subst e
        exact ⟨g3, g1, g4, g5⟩
      · rw [upd_ne (fun z => hb (by simp [z]))]
        exact n
      · by_cases hb : b = p0
        · subst hb
          rw [upd_same] at q
          cases q
          refine ⟨by rw [List.length_reverse]; exact hz, acc.toList, c', RT.vals_rev rv hi, ?_⟩
          rw [Array.toArray_toList]
          exact hS''
        · rw [upd_ne hb] at q
          exact (I3.hok b u q).stay (fun c v _ r => r) (fun c r => by rw [upd_ne (ne_of_none r hfr)]; exact r) fun c ws r => by rw [upd_ne (ne_of_none r hfr)]; exact r
  | _ => exact q.elim
end
end Dl

set_option Elab.async false
set_option linter.all false
set_option maxRecDepth 100000
namespace Dl
open PySem PySem.Spec PyProof.Rows L2
/-! ## a walk over whatever stands there: a list, a tuple, a text -/
def iA (f : EX) : IX := fun ρ S => (f ρ S).bind fun d S1 => match d with
  | .ref l => match lstAt S1 l with
    | some xs => .ok (xs, [(l, xs)]) S1
    | none => .no
  | .tup xs => .ok (xs, []) S1
  | .str x => .ok (x.cps.toList.map fun c => .str ⟨#[c]⟩, []) S1
  | _ => .no
section
variable {X : Cx} {W : WX} {tg e : Expr} {f : EX}
theorem w_any (he : PE X e (rdE (X.cq W) f)) : PI X tg e (rdI (X.cq W) (iA f)) := by
  refine ⟨fun pins s σ H R' I ⟨m, ρ, S, re, rs, q⟩ => thn (he.run pins s σ H _ I ⟨m, ρ, S, re, rs, src_bind q⟩) fun v s1 ⟨x, H1, I1, r1, m1, d, S1, e1, rs1, rd, q1⟩ => ?_⟩
  cases rd with
  | @ref a l hl =>
    simp only at q1
    cases el : lstAt S1 l with
    | none => rw [el] at q1; exact q1.elim
    | some xs =>
      rw [el] at q1
      obtain ⟨vs, hq, r⟩ := rs1.lst hl el
      cases r1
      obtain ⟨its, rv, p, hz⟩ := I1.list hq
      refine wpAny_pyIter_list p.isList ?_
      refine ⟨s1.heap.objs.size, [s1.heap.objs.size], _, _, H1, rfl, I1.kept (t' := s1.toks) fun b o e => Heap.get?_push_of_some _ e, turn_list a _, ⟨_, Heap.get?_push_size _ rfl, rfl, rfl⟩, fun b hb => ?_, q1 _ _ m1 .refl rs1 (it_list hl)⟩
      have e : b = s1.heap.objs.size := by simpa using hb
      subst e
      exact I1.fpOk (Nat.le_refl _) (I1.hok.fresh (Nat.le_refl _))
  | @tup a vs ds ht r =>
    cases r1
    obtain ⟨its, rv, p, hz⟩ := I1.tuple ht.sq
    refine wpAny_pyIter_tuple (show s1.heap.IsTuple a its.toArray from p) ?_
    refine ⟨s1.heap.objs.size, [s1.heap.objs.size], _, _, H1, rfl, I1.kept (t' := s1.toks) fun b o e => Heap.get?_push_of_some _ e, turn_tuple a _, ⟨_, Heap.get?_push_size _ rfl, rfl, rfl⟩, fun b hb => ?_, q1 _ _ m1 .refl rs1 (it_tup ht r)⟩
    have e : b = s1.heap.objs.size := by simpa using hb
    subst e
    exact I1.fpOk (Nat.le_refl _) (I1.hok.fresh (Nat.le_refl _))
  | @str x h =>
    obtain ⟨t, rfl⟩ := r1
    have q : (fun J H' => R' J H') (Its x) H1 := q1 _ _ m1 .refl rs1 it_str
    cases ha : x.cps.all (· < 128)
    · exact wpAny_pyIter_wide ha (pi_one (tk := s1.toks) I1 _ (turn_str _ x t "str_iterator" (.inr rfl)) ⟨_, Heap.get?_push_size _ rfl, rfl, rfl⟩ q)
    · exact wpAny_pyIter_ascii ha (pi_one (tk := s1.toks) I1 _ (turn_str _ x t "str_ascii_iterator" (.inl rfl)) ⟨_, Heap.get?_push_size _ rfl, rfl, rfl⟩ q)
  | _ => exact q1.elim
end
theorem r65 {k : Nat} {A : Around} (r : Room k A) : A.units + 65 < cLine := by have := r.un; omega
end Dl

set_option Elab.async false
set_option linter.all false
set_option maxRecDepth 100000
namespace Dl
open PySem L2
/-! ## the mirror, evaluated from the outside in -/
def kE (ρ : Env) : R D → Out
  | .ok _ S => .nx ρ S
  | .ex x S => .ex x ρ S
  | .no => .no
def kR (ρ : Env) : R D → Out
  | .ok d S => .rt d S
  | .ex x S => .ex x ρ S
  | .no => .no
def kIf (g h : SX) (ρ : Env) : R Bool → Out
  | .ok b S => if b then g ρ S else h ρ S
  | .ex x S => .ex x ρ S
  | .no => .no
def kN (j : Nat) (ρ : Env) : R D → Out
  | .ok d S => .nx (ρ.set j (some d)) S
  | .ex x S => .ex x ρ S
  | .no => .no
def kA (tg : D → SX) (ρ : Env) : R D → Out
  | .ok d S => tgO (tg d ρ S)
  | .ex x S => .ex x ρ S
  | .no => .no
def kIx3 (ρ : Env) : Option Store → Out
  | some S => .nx ρ S
  | none => .no
def kIx2 (o d : D) (ρ : Env) : R D → Out
  | .ok i S => kIx3 ρ (gSet o i d S)
  | .ex x S => .ex x ρ S
  | .no => .no
def kIx1 (f : EX) (d : D) (ρ : Env) : R D → Out
  | .ok o S => kIx2 o d ρ (f ρ S)
  | .ex x S => .ex x ρ S
  | .no => .no
def kE1 (g : D → Store → Option (D × Store)) : R D → R D
  | .ok x S => toR (g x S)
  | .ex x S => .ex x S
  | .no => .no
def kE2 (g : D → D → Store → Option (D × Store)) (x : D) : R D → R D
  | .ok y S => toR (g x y S)
  | .ex x S => .ex x S
  | .no => .no
def kE21 (g : D → D → Store → Option (D × Store)) (fb : EX) (ρ : Env) : R D → R D
  | .ok x S => kE2 g x (fb ρ S)
  | .ex x S => .ex x S
  | .no => .no
def kB (g : List D → Store → Option (D × Store)) : R (List D) → R D
  | .ok xs S => toR (g xs S)
  | .ex x S => .ex x S
  | .no => .no
def kF (F : List D → M D) : R (List D) → R D
  | .ok xs S => F xs S
  | .ex x S => .ex x S
  | .no => .no
def kC (x : D) : R (List D) → R (List D)
  | .ok xs S => .ok (x :: xs) S
  | .ex x S => .ex x S
  | .no => .no
def kC1 (fr : AX) (ρ : Env) : R D → R (List D)
  | .ok x S => kC x (fr ρ S)
  | .ex x S => .ex x S
  | .no => .no
def kM (g : D → List D → Store → Option (D × Store)) (x : D) : R (List D) → R D
  | .ok xs S => toR (g x xs S)
  | .ex x S => .ex x S
  | .no => .no
def kM2 (g : D → List D → Store → Option (D × Store)) (fx : AX) (ρ : Env) (x : D) (S : Store) (T : Ty) : Option Ty → R D
  | some T' => if T' = T then kM g x (fx ρ S) else .no
  | none => .no
def kM1 (g : D → List D → Store → Option (D × Store)) (fx : AX) (ρ : Env) (T : Ty) : R D → R D
  | .ok x S => kM2 g fx ρ x S T (tyD S x)
  | .ex x S => .ex x S
  | .no => .no
def kS3 (x : D) (l : Option Int) : R (Option Int) → R D
  | .ok h S => toR (gSl x l h S)
  | .ex x S => .ex x S
  | .no => .no
def kS2 (x : D) (hi : Env → Store → R (Option Int)) (ρ : Env) : R (Option Int) → R D
  | .ok l S => kS3 x l (hi ρ S)
  | .ex x S => .ex x S
  | .no => .no
def kS1 (lo hi : Env → Store → R (Option Int)) (ρ : Env) : R D → R D
  | .ok x S => kS2 x hi ρ (lo ρ S)
  | .ex x S => .ex x S
  | .no => .no
def kO : R D → R (Option Int)
  | .ok d S => match d with
    | .int i => .ok (some i) S
    | _ => .no
  | .ex x S => .ex x S
  | .no => .no
def kV : R D → R Bool
  | .ok d S => toT S (truD S d)
  | .ex x S => .ex x S
  | .no => .no
def kT : R D → R Bool
  | .ok d S => match d with
    | .bl b => .ok b S
    | _ => .no
  | .ex x S => .ex x S
  | .no => .no
def kAn (u : TX) (ρ : Env) : R Bool → R Bool
  | .ok b S => if b then u ρ S else .ok false S
  | .ex x S => .ex x S
  | .no => .no
def kOr (u : TX) (ρ : Env) : R Bool → R Bool
  | .ok b S => if b then .ok true S else u ρ S
  | .ex x S => .ex x S
  | .no => .no
def kNo : R Bool → R Bool
  | .ok b S => .ok (!b) S
  | .ex x S => .ex x S
  | .no => .no
def kIfE (fa fb : EX) (ρ : Env) : R Bool → R D
  | .ok b S => if b then fa ρ S else fb ρ S
  | .ex x S => .ex x S
  | .no => .no
def kVa2 (fb : EX) (d : D) (ρ : Env) : R Bool → R D
  | .ok b S => if b then fb ρ S else .ok d S
  | .ex x S => .ex x S
  | .no => .no
def kVa (fb : EX) (ρ : Env) : R D → R D
  | .ok d S => kVa2 fb d ρ (toT S (truD S d))
  | .ex x S => .ex x S
  | .no => .no
def kVo2 (fb : EX) (d : D) (ρ : Env) : R Bool → R D
  | .ok b S => if b then .ok d S else fb ρ S
  | .ex x S => .ex x S
  | .no => .no
def kVo (fb : EX) (ρ : Env) : R D → R D
  | .ok d S => kVo2 fb d ρ (toT S (truD S d))
  | .ex x S => .ex x S
  | .no => .no
def kVn2 : R Bool → R D
  | .ok b S => .ok (.bl (!b)) S
  | .ex x S => .ex x S
  | .no => .no
def kVn : R D → R D
  | .ok d S => kVn2 (toT S (truD S d))
  | .ex x S => .ex x S
  | .no => .no
def kH3 (g' : D → D → Store → Option (D × Store)) (y : D) : R D → R D
  | .ok w S => toR (g' y w S)
  | .ex x S => .ex x S
  | .no => .no
def kH2 (g' : D → D → Store → Option (D × Store)) (fc : EX) (y : D) (ρ : Env) : R D → R D
  | .ok z S => match z with
    | .bl b => if b then kH3 g' y (fc ρ S) else .ok (.bl false) S
    | _ => .no
  | .ex x S => .ex x S
  | .no => .no
def kH1 (g g' : D → D → Store → Option (D × Store)) (fc : EX) (x : D) (ρ : Env) : R D → R D
  | .ok y S => kH2 g' fc y ρ (toR (g x y S))
  | .ex x S => .ex x S
  | .no => .no
def kH (g g' : D → D → Store → Option (D × Store)) (fb fc : EX) (ρ : Env) : R D → R D
  | .ok x S => kH1 g g' fc x ρ (fb ρ S)
  | .ex x S => .ex x S
  | .no => .no
/-- an equation that simp takes as a step of its own -/
theorem nr {α : Sort u} {a b : α} (h : a = b) : a = b := h
theorem seq_nx {h : SX} {ρ : Env} {S : Store} : (Out.nx ρ S).seq h = h ρ S := nr rfl
theorem seq_rt {h : SX} {d : D} {S : Store} : (Out.rt d S).seq h = .rt d S := nr rfl
theorem seq_bk {h : SX} {ρ : Env} {S : Store} : (Out.bk ρ S).seq h = .bk ρ S := nr rfl
theorem seq_ct {h : SX} {ρ : Env} {S : Store} : (Out.ct ρ S).seq h = .ct ρ S := nr rfl
theorem seq_ex {h : SX} {x : Exn} {ρ : Env} {S : Store} : (Out.ex x ρ S).seq h = .ex x ρ S := nr rfl
section
variable {ρ : Env} {S : Store} {g h : SX} {f fa fb fc fo : EX} {t u : TX} {fx fr : AX} {i j : Nat} {d x y : D} {tg : D → SX}
theorem sQ_ : sQ g h ρ S = (g ρ S).seq h := nr rfl
theorem sP_ : sP ρ S = .nx ρ S := nr rfl
theorem sE_ : sE f ρ S = kE ρ (f ρ S) := by show (f ρ S).out ρ _ = _; cases f ρ S <;> rfl
theorem sR_ : sR f ρ S = kR ρ (f ρ S) := by show (f ρ S).out ρ _ = _; cases f ρ S <;> rfl
theorem sIf_ : sIf t g h ρ S = kIf g h ρ (t ρ S) := by show (t ρ S).out ρ _ = _; cases t ρ S <;> rfl
theorem sN_ : sN j f ρ S = kN j ρ (f ρ S) := by show (f ρ S).out ρ _ = _; cases f ρ S <;> rfl
theorem sA_ : sA f tg ρ S = kA tg ρ (f ρ S) := by show (f ρ S).out ρ _ = _; cases f ρ S <;> rfl
theorem tgO_nx : tgO (.nx ρ S) = .nx ρ S := nr rfl
theorem nm_ : nm i d ρ S = .nx (ρ.set i (some d)) S := nr rfl
theorem tgIx_ : tgIx fo f d ρ S = kIx1 f d ρ (fo ρ S) := by
  show (fo ρ S).out ρ _ = _
  cases fo ρ S with
  | ok o S1 =>
    show (f ρ S1).out ρ _ = kIx2 o d ρ (f ρ S1)
    cases f ρ S1 with
    | ok i S2 =>
      show (match gSet o i d S2 with | some S3 => Out.nx ρ S3 | none => .no) = kIx3 ρ (gSet o i d S2)
      cases gSet o i d S2 <;> rfl
    | _ => rfl
  | _ => rfl
theorem eC_ : eC d ρ S = .ok d S := nr rfl
theorem eV0 {r : Env} : eV 0 (some d :: r) S = .ok d S := nr rfl
theorem eV1 {a : Option D} {r : Env} {n : Nat} : eV (n + 1) (a :: r) S = eV n r S := nr rfl
theorem e1_ {g : D → Store → Option (D × Store)} : e1 g fa ρ S = kE1 g (fa ρ S) := by show (fa ρ S).bind _ = _; cases fa ρ S <;> rfl
theorem e2_ {g : D → D → Store → Option (D × Store)} : e2 g fa fb ρ S = kE21 g fb ρ (fa ρ S) := by
  show (fa ρ S).bind _ = _
  cases fa ρ S with
  | ok x S1 =>
    show (fb ρ S1).bind _ = kE2 g x (fb ρ S1)
    cases fb ρ S1 <;> rfl
  | _ => rfl
theorem eB_ {g : List D → Store → Option (D × Store)} : eB g fx ρ S = kB g (fx ρ S) := by show (fx ρ S).bind _ = _; cases fx ρ S <;> rfl
theorem eF_ {F : List D → M D} : eF F fx ρ S = kF F (fx ρ S) := by show (fx ρ S).bind _ = _; cases fx ρ S <;> rfl
theorem aN_ : aN ρ S = .ok [] S := nr rfl
theorem aC_ : aC fa fr ρ S = kC1 fr ρ (fa ρ S) := by
  show (fa ρ S).bind _ = _
  cases fa ρ S with
  | ok x S1 =>
    show (fr ρ S1).bind _ = kC x (fr ρ S1)
    cases fr ρ S1 <;> rfl
  | _ => rfl
theorem eMt_ {T : Ty} {g : D → List D → Store → Option (D × Store)} : eMt T g fo fx ρ S = kM1 g fx ρ T (fo ρ S) := by
  show (fo ρ S).bind _ = _
  cases fo ρ S with
  | ok x S1 =>
    show (if tyD S1 x = some T then (fx ρ S1).bind fun xs S2 => toR (g x xs S2) else .no) = kM2 g fx ρ x S1 T (tyD S1 x)
    have q : (fx ρ S1).bind (fun xs S2 => toR (g x xs S2)) = kM g x (fx ρ S1) := by cases fx ρ S1 <;> rfl
    cases tyD S1 x with
    | none => rw [if_neg (fun z => nomatch z)]; rfl
    | some T' =>
      show _ = if T' = T then _ else _
      by_cases e : T' = T
      · rw [if_pos (by rw [e]), if_pos e, q]
      · rw [if_neg (fun z => e (Option.some.inj z)), if_neg e]
  | _ => rfl
theorem eSl_ {lo hi : Env → Store → R (Option Int)} : eSl fa lo hi ρ S = kS1 lo hi ρ (fa ρ S) := by
  show (fa ρ S).bind _ = _
  cases fa ρ S with
  | ok x S1 =>
    show (lo ρ S1).bind _ = kS2 x hi ρ (lo ρ S1)
    cases lo ρ S1 with
    | ok l S2 =>
      show (hi ρ S2).bind _ = kS3 x l (hi ρ S2)
      cases hi ρ S2 <;> rfl
    | _ => rfl
  | _ => rfl
theorem oN_ : oN ρ S = .ok none S := nr rfl
theorem oI_ : oI fa ρ S = kO (fa ρ S) := by show (fa ρ S).bind _ = _; cases fa ρ S <;> rfl
theorem tV_ : tV f ρ S = kV (f ρ S) := by show (f ρ S).bind _ = _; cases f ρ S <;> rfl
theorem tE_ : tE f ρ S = kT (f ρ S) := by show (f ρ S).bind _ = _; cases f ρ S <;> rfl
theorem tA_ : tA t u ρ S = kAn u ρ (t ρ S) := by show (t ρ S).bind _ = _; cases t ρ S <;> rfl
theorem tO_ : tO t u ρ S = kOr u ρ (t ρ S) := by show (t ρ S).bind _ = _; cases t ρ S <;> rfl
theorem tN_ : tN t ρ S = kNo (t ρ S) := by show (t ρ S).bind _ = _; cases t ρ S <;> rfl
theorem eIf_ : eIf t fa fb ρ S = kIfE fa fb ρ (t ρ S) := by show (t ρ S).bind _ = _; cases t ρ S <;> rfl
theorem eAnd_ : eAnd fa fb ρ S = kVa fb ρ (fa ρ S) := by
  show (fa ρ S).bind _ = _
  cases fa ρ S with
  | ok d S1 =>
    show (toT S1 (truD S1 d)).bind _ = kVa2 fb d ρ (toT S1 (truD S1 d))
    cases toT S1 (truD S1 d) <;> rfl
  | _ => rfl
theorem eOr_ : eOr fa fb ρ S = kVo fb ρ (fa ρ S) := by
  show (fa ρ S).bind _ = _
  cases fa ρ S with
  | ok d S1 =>
    show (toT S1 (truD S1 d)).bind _ = kVo2 fb d ρ (toT S1 (truD S1 d))
    cases toT S1 (truD S1 d) <;> rfl
  | _ => rfl
theorem eNot_ : eNot fa ρ S = kVn (fa ρ S) := by
  show (fa ρ S).bind _ = _
  cases fa ρ S with
  | ok d S1 =>
    show (toT S1 (truD S1 d)).bind _ = kVn2 (toT S1 (truD S1 d))
    cases toT S1 (truD S1 d) <;> rfl
  | _ => rfl
theorem eCh_ {g g' : D → D → Store → Option (D × Store)} : eCh g g' fa fb fc ρ S = kH g g' fb fc ρ (fa ρ S) := by
  show (fa ρ S).bind _ = _
  cases fa ρ S with
  | ok x S1 =>
    show (fb ρ S1).bind _ = kH1 g g' fc x ρ (fb ρ S1)
    cases fb ρ S1 with
    | ok y S2 =>
      show (toR (g x y S2)).bind _ = kH2 g' fc y ρ (toR (g x y S2))
      cases toR (g x y S2) with
      | ok z S3 =>
        cases z with
        | bl b =>
          cases b with
          | true =>
            show (fc ρ S3).bind _ = kH3 g' y (fc ρ S3)
            cases fc ρ S3 <;> rfl
          | false => rfl
        | _ => rfl
      | _ => rfl
    | _ => rfl
  | _ => rfl
/-! ### what goes on with an outcome -/
theorem kE_ : kE ρ (.ok d S) = .nx ρ S := nr rfl
theorem kR_ : kR ρ (.ok d S) = .rt d S := nr rfl
theorem kIf_t : kIf g h ρ (.ok true S) = g ρ S := nr rfl
theorem kIf_f : kIf g h ρ (.ok false S) = h ρ S := nr rfl
theorem kN_ : kN j ρ (.ok d S) = .nx (ρ.set j (some d)) S := nr rfl
theorem kA_ : kA tg ρ (.ok d S) = tgO (tg d ρ S) := nr rfl
theorem kIx1_ : kIx1 f d ρ (.ok x S) = kIx2 x d ρ (f ρ S) := nr rfl
theorem kIx2_ : kIx2 x d ρ (.ok y S) = kIx3 ρ (gSet x y d S) := nr rfl
theorem kIx3_ : kIx3 ρ (some S) = .nx ρ S := nr rfl
theorem kE1_ {g : D → Store → Option (D × Store)} : kE1 g (.ok x S) = toR (g x S) := nr rfl
theorem kE21_ {g : D → D → Store → Option (D × Store)} : kE21 g fb ρ (.ok x S) = kE2 g x (fb ρ S) := nr rfl
theorem kE2_ {g : D → D → Store → Option (D × Store)} : kE2 g x (.ok y S) = toR (g x y S) := nr rfl
theorem kB_ {g : List D → Store → Option (D × Store)} {xs : List D} : kB g (.ok xs S) = toR (g xs S) := nr rfl
theorem kF_ {F : List D → M D} {xs : List D} : kF F (.ok xs S) = F xs S := nr rfl
theorem kC1_ : kC1 fr ρ (.ok x S) = kC x (fr ρ S) := nr rfl
theorem kC_ {xs : List D} : kC x (.ok xs S) = .ok (x :: xs) S := nr rfl
theorem kM1_ {T : Ty} {g : D → List D → Store → Option (D × Store)} : kM1 g fx ρ T (.ok x S) = kM2 g fx ρ x S T (tyD S x) := nr rfl
theorem kM2_ {T : Ty} {g : D → List D → Store → Option (D × Store)} : kM2 g fx ρ x S T (some T) = kM g x (fx ρ S) := if_pos rfl
theorem kM_ {g : D → List D → Store → Option (D × Store)} {xs : List D} : kM g x (.ok xs S) = toR (g x xs S) := nr rfl
theorem kS1_ {lo hi : Env → Store → R (Option Int)} : kS1 lo hi ρ (.ok x S) = kS2 x hi ρ (lo ρ S) := nr rfl
theorem kS2_ {hi : Env → Store → R (Option Int)} {l : Option Int} : kS2 x hi ρ (.ok l S) = kS3 x l (hi ρ S) := nr rfl
theorem kS3_ {l h : Option Int} : kS3 x l (.ok h S) = toR (gSl x l h S) := nr rfl
theorem kO_ {i : Int} : kO (.ok (.int i) S) = .ok (some i) S := nr rfl
theorem kV_ : kV (.ok d S) = toT S (truD S d) := nr rfl
theorem kT_ {b : Bool} : kT (.ok (.bl b) S) = .ok b S := nr rfl
theorem kAn_t : kAn u ρ (.ok true S) = u ρ S := nr rfl
theorem kAn_f : kAn u ρ (.ok false S) = .ok false S := nr rfl
theorem kOr_t : kOr u ρ (.ok true S) = .ok true S := nr rfl
theorem kOr_f : kOr u ρ (.ok false S) = u ρ S := nr rfl
theorem kNo_ {b : Bool} : kNo (.ok b S) = .ok (!b) S := nr rfl
theorem kIfE_t : kIfE fa fb ρ (.ok true S) = fa ρ S := nr rfl
theorem kIfE_f : kIfE fa fb ρ (.ok false S) = fb ρ S := nr rfl
theorem kVa_ : kVa fb ρ (.ok d S) = kVa2 fb d ρ (toT S (truD S d)) := nr rfl
theorem kVa2_t : kVa2 fb d ρ (.ok true S) = fb ρ S := nr rfl
theorem kVa2_f : kVa2 fb d ρ (.ok false S) = .ok d S := nr rfl
theorem kVo_ : kVo fb ρ (.ok d S) = kVo2 fb d ρ (toT S (truD S d)) := nr rfl
theorem kVo2_t : kVo2 fb d ρ (.ok true S) = .ok d S := nr rfl
theorem kVo2_f : kVo2 fb d ρ (.ok false S) = fb ρ S := nr rfl
theorem kVn_ : kVn (.ok d S) = kVn2 (toT S (truD S d)) := nr rfl
theorem kVn2_ {b : Bool} : kVn2 (.ok b S) = .ok (.bl (!b)) S := nr rfl
theorem kH_ {g g' : D → D → Store → Option (D × Store)} : kH g g' fb fc ρ (.ok x S) = kH1 g g' fc x ρ (fb ρ S) := nr rfl
theorem kH1_ {g g' : D → D → Store → Option (D × Store)} : kH1 g g' fc x ρ (.ok y S) = kH2 g' fc y ρ (toR (g x y S)) := nr rfl
theorem kH2_t {g' : D → D → Store → Option (D × Store)} : kH2 g' fc y ρ (.ok (.bl true) S) = kH3 g' y (fc ρ S) := nr rfl
theorem kH2_f {g' : D → D → Store → Option (D × Store)} : kH2 g' fc y ρ (.ok (.bl false) S) = .ok (.bl false) S := nr rfl
theorem kH3_ {g' : D → D → Store → Option (D × Store)} : kH3 g' y (.ok x S) = toR (g' y x S) := nr rfl
theorem toT_some {b : Bool} : toT S (some b) = .ok b S := nr rfl
theorem truD_bl {b : Bool} : truD S (.bl b) = some b := nr rfl
theorem truD_int {b : Int} : truD S (.int b) = some (b != 0) := nr rfl
theorem truD_tup {xs : List D} : truD S (.tup xs) = some (!xs.isEmpty) := nr rfl
theorem tyD_str {a : Str} : tyD S (.str a) = some .str := nr rfl
theorem tyD_tup {a : List D} : tyD S (.tup a) = some .tup := nr rfl
theorem tyD_int {a : Int} : tyD S (.int a) = some .int := nr rfl
theorem tyD_bl {a : Bool} : tyD S (.bl a) = some .bl := nr rfl
theorem tyD_non : tyD S .non = some .non := nr rfl
theorem tyD_lst {l : Nat} {xs : List D} (h : S[l]? = some (.lst xs)) : tyD S (.ref l) = some .lst := by unfold tyD; simp only [h]
theorem lstAt_lst {l : Nat} {xs : List D} (h : S[l]? = some (.lst xs)) : lstAt S l = some xs := by unfold lstAt; rw [h]
theorem gAdd_int {a b : Int} : gAdd (.int a) (.int b) S = some (.int (a + b), S) := nr rfl
theorem gAdd_str {a b : Str} (h : a.length + b.length ≤ 16777216) : gAdd (.str a) (.str b) S = some (.str (a ++ b), S) := if_pos h
theorem gAdd_tup {xs ys : List D} (h0 : 0 < xs.length) (h : xs.length + ys.length ≤ 16777216) : gAdd (.tup xs) (.tup ys) S = some (.tup (xs ++ ys), S) := by
  cases xs with
  | nil => exact absurd h0 (Nat.lt_irrefl _)
  | cons x xs => exact if_pos h
theorem gAdd_tup0 {ys : List D} : gAdd (.tup []) (.tup ys) S = some (.tup ys, S) := nr rfl
theorem gAdd_lst {l k : Nat} {xs ys : List D} (h1 : S[l]? = some (.lst xs)) (h2 : S[k]? = some (.lst ys)) (h : xs.length + ys.length ≤ 16777216) : gAdd (.ref l) (.ref k) S = some (.ref S.length, S ++ [.lst (xs ++ ys)]) := by
  show catL S l k = _
  unfold catL
  rw [h1, h2]
  exact if_pos h
theorem gSub_int {a b : Int} : Dl.gSub (.int a) (.int b) S = some (.int (a - b), S) := nr rfl
theorem gMul_l {a b : Int} (h0 : 0 ≤ a) (h1 : a < 18446744073709551616) : gMul (.int a) (.int b) S = some (.int (a * b), S) := if_pos (.inl ⟨by omega, by omega⟩)
theorem gMul_r {a b : Int} (h0 : 0 ≤ b) (h1 : b < 18446744073709551616) : gMul (.int a) (.int b) S = some (.int (a * b), S) := if_pos (.inr ⟨by omega, by omega⟩)
theorem gFdiv_int {a b : Int} (h0 : 0 < b) (h1 : b < 1073741824) : gFdiv (.int a) (.int b) S = some (.int (a / b), S) := if_pos ⟨h0, h1⟩
theorem gMod_int {a b : Int} (h0 : 0 < b) : gMod (.int a) (.int b) S = some (.int (a % b), S) := if_pos h0
theorem gLt_int {a b : Int} : gLt (.int a) (.int b) S = some (.bl (decide (a < b)), S) := nr rfl
theorem gLe_int {a b : Int} : gLe (.int a) (.int b) S = some (.bl (decide (a ≤ b)), S) := nr rfl
theorem gGt_int {a b : Int} : gGt (.int a) (.int b) S = some (.bl (decide (b < a)), S) := nr rfl
theorem gGe_int {a b : Int} : gGe (.int a) (.int b) S = some (.bl (decide (b ≤ a)), S) := nr rfl
theorem gInt_int {a : Int} : gInt [.int a] S = some (.int a, S) := nr rfl
theorem gAbs_int {a : Int} : gAbs [.int a] S = some (.int (if a < 0 then -a else a), S) := nr rfl
theorem gLen_tup {xs : List D} : gLen [.tup xs] S = some (.int xs.length, S) := nr rfl
theorem gLen_str {x : Str} : gLen [.str x] S = some (.int x.length, S) := nr rfl
theorem gLen_lst {l : Nat} {xs : List D} (h : lstAt S l = some xs) : gLen [.ref l] S = some (.int xs.length, S) := by show Option.map _ (lstAt S l) = _; rw [h]; rfl
theorem gTpl_ {xs : List D} (h : xs.length ≤ 16777216) : gTpl xs S = some (.tup xs, S) := if_pos h
theorem gLsd_ {xs : List D} (h : xs.length ≤ 16777216) : gLsd xs S = some (.ref S.length, S ++ [.lst xs]) := if_pos h
theorem gIx_tup {xs : List D} {k : Int} (h : atI xs k = some d) : gIx (.tup xs) (.int k) S = some (d, S) := by show Option.map _ (atI xs k) = _; rw [h]; rfl
theorem gIx_lst {l : Nat} {xs : List D} {k : Int} (h : lstAt S l = some xs) (h2 : atI xs k = some d) : gIx (.ref l) (.int k) S = some (d, S) := by
  show (lstAt S l).bind (fun xs => (atI xs k).map fun d => (d, S)) = _
  rw [h]
  show Option.map _ (atI xs k) = _
  rw [h2]
  rfl
theorem gIx_str {x : Str} {k : Int} {c : Nat} (h : atI x.cps.toList k = some c) : gIx (.str x) (.int k) S = some (.str ⟨#[c]⟩, S) := by show Option.map _ (atI x.cps.toList k) = _; rw [h]; rfl
theorem gSet_lst {l : Nat} {xs : List D} {k : Int} {m : Nat} (h : S[l]? = some (.lst xs)) (h2 : ixN xs.length k = some m) : gSet (.ref l) (.int k) d S = some (S.set l (.lst (xs.set m d))) := by
  show (match S[l]? with | some (.lst xs) => (ixN xs.length k).map fun j => S.set l (.lst (xs.set j d)) | _ => none) = _
  rw [h]
  show Option.map _ (ixN xs.length k) = _
  rw [h2]
  rfl
theorem gAppend_ {l : Nat} {xs : List D} (h : S[l]? = some (.lst xs)) (hz : xs.length < 16777216) : gAppend (.ref l) [d] S = some (.non, S.set l (.lst (xs ++ [d]))) := by
  show (match S[l]? with | some (.lst xs) => if xs.length < LIM then some (D.non, S.set l (.lst (xs ++ [d]))) else none | _ => none) = _
  rw [h]
  exact if_pos hz
theorem tgT_ {ts : List (D → SX)} {ds : List D} (h : ds.length = ts.length) : tgT ts (.tup ds) ρ S = tgL ts ds ρ S := by
  show (if ds.length = ts.length then tgL ts ds else sNo) ρ S = _
  rw [if_pos h]
theorem tgL0 : tgL [] [] ρ S = .nx ρ S := nr rfl
theorem tgL1 {ts : List (D → SX)} {ds : List D} {j : Nat} : tgL (nm j :: ts) (d :: ds) ρ S = tgL ts ds (ρ.set j (some d)) S := nr rfl
/-! ### what a def leaves -/
theorem runB_rt {np ns : Nat} {ds : List D} {S' : Store} (h : ds.length = np) (hg : g (ds.map some ++ List.replicate (ns - np) none) S = .rt d S') : runB np ns g ds S = cmp S.length d S' := by
  unfold runB
  rw [if_pos h, hg]
theorem runB_nx {np ns : Nat} {ds : List D} {ρ' : Env} {S' : Store} (h : ds.length = np) (hg : g (ds.map some ++ List.replicate (ns - np) none) S = .nx ρ' S') : runB np ns g ds S = cmp S.length D.non S' := by
  unfold runB
  rw [if_pos h, hg]
theorem cmp_same {n : Nat} (h : S.length = n) (w : d.wf n = true) : cmp n d S = .ok d S := by
  unfold cmp
  rw [← h, List.take_length]
  split
  · rw [if_pos (by rw [h]; exact w)]
  · rfl
theorem cmp_more {n : Nat} {T : Store} (h : S.length = n) (wS : SWf n S = true) (w : d.wf n = true) : cmp n d (S ++ T) = .ok d S := by
  unfold cmp
  rw [← h, List.take_left' rfl]
  rw [if_pos (by rw [h]; exact wS), if_pos (by rw [h]; exact w)]
theorem cmp_new {n l : Nat} {T : Store} {xs : List D} (h : S.length = n) (wS : SWf n S = true) (hl : n ≤ l) (hx : (S ++ T)[l]? = some (.lst xs)) (w : wfs n xs = true) : cmp n (.ref l) (S ++ T) = .ok (.ref n) (S ++ [.lst xs]) := by
  unfold cmp
  have e : (S ++ T).take n = S := by rw [← h]; exact List.take_left' rfl
  rw [e, if_pos wS, if_neg (show ¬ (D.ref l).wf n = true from fun z => by
    have z' : l < n := of_decide_eq_true z
    omega)]
  simp only [hx, newCell, w, if_true]
mutual
theorem wf_flat {n : Nat} : ∀ {d : D}, d.flat = true → d.wf n = true
  | .non, _ => rfl
  | .bl _, _ => rfl
  | .int _, _ => rfl
  | .str _, _ => rfl
  | .tup xs, h => wfs_flat (show flats xs = true from h)
  | .ref _, h => nomatch h
  | .raw _, _ => rfl
theorem wfs_flat {n : Nat} : ∀ {ds : List D}, flats ds = true → wfs n ds = true
  | [], _ => rfl
  | d :: ds, h => by
    have h' : (d.flat && flats ds) = true := h
    rw [Bool.and_eq_true] at h'
    show (d.wf n && wfs n ds) = true
    rw [wf_flat h'.1, wfs_flat h'.2]
    rfl
end
/-- all cells hold flat data -/
def Cell.flat : Cell → Bool
  | .lst xs => flats xs
  | .rol xs => flats xs
  | .dic kvs => flats (kvs.map (·.2))
  | .gone => true
def SFlat (S : Store) : Prop := ∀ c ∈ S, Cell.flat c = true
theorem SFlat.wf {n : Nat} (h : SFlat S) : SWf n S = true := by
  refine List.all_eq_true.mpr fun c hc => ?_
  have q := h c hc
  cases c with
  | lst xs => exact wfs_flat q
  | rol xs => exact wfs_flat q
  | dic kvs => exact wfs_flat q
  | gone => rfl
theorem SFlat.set {c : Cell} (h : SFlat S) (hc : c.flat = true) : SFlat (S.set i c) := fun x hx => by
  rcases List.mem_or_eq_of_mem_set hx with q | q
  · exact h x q
  · rw [q]; exact hc
theorem SFlat.push {c : Cell} (h : SFlat S) (hc : c.flat = true) : SFlat (S ++ [c]) := fun x hx => by
  rcases List.mem_append.mp hx with q | q
  · exact h x q
  · rw [List.mem_singleton.mp q]; exact hc
end
end Dl

set_option Elab.async false
set_option linter.all false
set_option maxRecDepth 100000
namespace Dl
open PySem L2
/-! ## tools -/
theorem set_self {S : Store} {p : Nat} {c : Cell} (h : S[p]? = some c) : S.set p c = S := by
  apply List.ext_getElem?
  intro i
  by_cases e : p = i
  · subst e
    rw [List.getElem?_set_self (List.getElem?_eq_some_iff.mp h).1, h]
  · rw [List.getElem?_set_ne e]
theorem get_lt {α : Type} {S : List α} {p : Nat} {c : α} (h : S[p]? = some c) : p < S.length := (List.getElem?_eq_some_iff.mp h).1
theorem get_set {S : Store} {p : Nat} {c d : Cell} (h : S[p]? = some c) : (S.set p d)[p]? = some d := List.getElem?_set_self (get_lt h)
theorem get_app {α : Type} {S T : List α} {p : Nat} {c : α} (h : S[p]? = some c) : (S ++ T)[p]? = some c := by
  rw [List.getElem?_append_left (get_lt h)]
  exact h
theorem set_app {S T : Store} {p : Nat} {c d : Cell} (h : S[p]? = some c) : (S ++ T).set p d = S.set p d ++ T := List.set_append_left _ _ (get_lt h)
theorem get_end {S : Store} {c : Cell} : (S ++ [c])[S.length]? = some c := by rw [List.getElem?_append_right (Nat.le_refl _), Nat.sub_self]; rfl
theorem set_end {S : Store} {c d : Cell} : (S ++ [c]).set S.length d = S ++ [d] := by rw [List.set_append_right _ _ (Nat.le_refl _), Nat.sub_self]; rfl
theorem atI_of {α : Type} {xs : List α} {k : Int} {v : α} (h0 : 0 ≤ k) (h : xs[k.toNat]? = some v) : atI xs k = some v := by
  have e : k = ((k.toNat : Nat) : Int) := by omega
  rw [e]
  exact atI_nat h
theorem atI_in {α : Type} {xs : List α} {k : Int} (h0 : 0 ≤ k) (h1 : k < xs.length) : ∃ v, atI xs k = some v ∧ v ∈ xs := by
  have hk : k.toNat < xs.length := by omega
  exact ⟨xs[k.toNat], atI_of h0 (List.getElem?_eq_getElem hk), List.getElem_mem hk⟩
theorem chk_nil {S : Store} : chkOk [] S := fun _ h => nomatch h
theorem chk_one {S : Store} {l : Nat} {xs : List D} (h : lstAt S l = some xs) : chkOk [(l, xs)] S := fun p hp => by rw [List.mem_singleton.mp hp]; exact h
section
variable {tg : D → SX} {body : SX} {k : Chk} {d : D} {ds : List D} {ρ ρ1 ρ2 : Env} {S S1 S2 : Store}
theorem runF_nil (h : chkOk k S) : runF tg body k [] ρ S = .nx ρ S := by unfold runF; rw [if_pos h]
theorem runF_cons (h : chkOk k S) (ht : tg d ρ S = .nx ρ1 S1) (hb : body ρ1 S1 = .nx ρ2 S2) : runF tg body k (d :: ds) ρ S = runF tg body k ds ρ2 S2 := by
  rw [runF, if_pos h, ht]
  show (match body ρ1 S1 with | .nx ρ2 S2 => runF tg body k ds ρ2 S2 | .ct ρ2 S2 => runF tg body k ds ρ2 S2 | .bk ρ2 S2 => .nx ρ2 S2 | o => o) = _
  rw [hb]
theorem sF_ok {src : IX} {p : List D × Chk} {S' : Store} (h : src ρ S = .ok p S') : sF src tg body ρ S = runF tg body p.2 p.1 ρ S' := by
  show (src ρ S).out ρ _ = _
  rw [h]
  rfl
theorem iR1_ok {f : EX} {j : Int} {S' : Store} (h : f ρ S = .ok (.int j) S') (h0 : 0 ≤ j) (h1 : j < 1000000000) : iR1 f ρ S = .ok (rng 0 j.toNat, []) S' := by
  show (f ρ S).bind _ = _
  rw [h]
  exact if_pos ⟨by omega, by omega⟩
theorem iA_lst {f : EX} {l : Nat} {S' : Store} {xs : List D} (h : f ρ S = .ok (.ref l) S') (hl : lstAt S' l = some xs) : iA f ρ S = .ok (xs, [(l, xs)]) S' := by
  show (f ρ S).bind _ = _
  rw [h]
  show (match lstAt S' l with | some xs => R.ok (xs, [(l, xs)]) S' | none => .no) = _
  rw [hl]
theorem iA_tup {f : EX} {S' : Store} {xs : List D} (h : f ρ S = .ok (.tup xs) S') : iA f ρ S = .ok (xs, []) S' := by
  show (f ρ S).bind _ = _
  rw [h]
  rfl
theorem iA_str {f : EX} {S' : Store} {x : Str} (h : f ρ S = .ok (.str x) S') : iA f ρ S = .ok (x.cps.toList.map fun c => .str ⟨#[c]⟩, []) S' := by
  show (f ρ S).bind _ = _
  rw [h]
  rfl
/-- over a range -/
theorem rng_succ (n : Nat) (lo : Int) : rng lo (n + 1) = .int lo :: rng (lo + 1) n := by
  unfold rng
  rw [List.range_succ_eq_map, List.map_cons, List.map_map]
  congr 1
  · simp
  · apply List.map_congr_left
    intro i _
    show D.int (lo + ((i + 1 : Nat) : Int)) = .int (lo + 1 + (i : Nat))
    congr 1
    omega
theorem rng_length (n : Nat) (lo : Int) : (rng lo n).length = n := by unfold rng; rw [List.length_map, List.length_range]
/-- a comprehension over items that leaves the store as it is: the items' values -/
theorem runC_map {l : Nat} {g : Cg} {ft : TX} {fe : EX} (val : D → D) (keep : D → Bool) : ∀ (ds acc : List D) (T : Store), SFlat T → l = T.length → acc.length + ds.length ≤ 1000000 → (∀ S, chkOk k T → chkOk k (T ++ S)) → chkOk k T →
    (∀ d ∈ ds, ∃ ρ1, g.put d ρ = some ρ1 ∧ ∀ a, ft ρ1 (T ++ [.lst a]) = .ok (keep d) (T ++ [.lst a]) ∧ (keep d = true → fe ρ1 (T ++ [.lst a]) = .ok (val d) (T ++ [.lst a]))) →
    runC l ρ g ft fe k ds (T ++ [.lst acc]) = .ok (.ref l) (T ++ [.lst (acc ++ (ds.filter keep).map val)])
  | [], acc, T, hT, hl, hz, hk, hk0, _ => by
    unfold runC
    rw [if_pos (hk _ hk0)]
    simp
  | d :: ds, acc, T, hT, hl, hz, hk, hk0, hd => by
    obtain ⟨ρ1, h1, h2⟩ := hd d (List.mem_cons_self ..)
    obtain ⟨h3, h4⟩ := h2 acc
    have hz' : acc.length + (ds.length + 1) ≤ 1000000 := hz
    unfold runC
    rw [if_pos (hk _ hk0)]
    simp only [h1, h3]
    cases hkd : keep d with
    | false =>
      simp only
      rw [runC_map val keep ds acc T hT hl (by omega) hk hk0 fun x hx => hd x (List.mem_cons_of_mem _ hx), List.filter_cons_of_neg (by rw [hkd]; exact Bool.false_ne_true)]
    | true =>
      have h4' := h4 hkd
      subst hl
      simp only [h4', get_end]
      rw [if_pos (show acc.length < LIM by show acc.length < 16777216; omega), set_end, runC_map val keep ds (acc ++ [val d]) T hT rfl (by rw [List.length_append]; simp only [List.length_singleton]; omega) hk hk0 fun x hx => hd x (List.mem_cons_of_mem _ hx),
        List.filter_cons_of_pos hkd, List.map_cons, List.append_assoc]
      rfl
theorem eLc_ok {vs : List Nat} {src : IX} {g : Cg} {ft : TX} {fe : EX} {p : List D × Chk} {S' : Store} (h : src ρ S = .ok p S') : eLc vs src g ft fe ρ S = runC S'.length (wipeD ρ vs) g ft fe p.2 p.1 (S' ++ [.lst []]) := by
  show (src ρ S).bind _ = _
  rw [h]
  rfl
end
end Dl

set_option Elab.async false
set_option linter.all false
set_option maxRecDepth 100000
namespace Dl
open PySem L2
/-! ## exceptions -/
def sX (x : Str) : SX := fun ρ S => .ex ⟨x, []⟩ ρ S
/-- what the written part says of an own error class without own __init__ -/
structure XCls (K : PySem.W.Frag) (mg : Str → Option Value) (x : Str) (bm : List Value) (nid : String) (C : Addr) : Prop where
  m : mg x = some (.ref C)
  q : PySem.W.excIn K C bm nid = true
  k : PySem.W.keepIn K (.ref C) = true
  s : PySem.W.subIn K (.ref C) (.type "BaseException") = some true
  t : PySem.W.typeIn K (.ref C) = some (.type "type")
section
variable {X : Cx} {W : WX} {C : Addr} {bm : List Value} {B nid iid : String}
theorem t_raise {x m : Str} {j : Nat} {p p2 pos pos2 : Pos} (hc : X.calm = true) (tk : Takes X W) (F : ExcBaseFacts B nid iid bm) (T : XCls X.K X.mg x bm nid C) (hg : Gl X x) (hdb : (x == ("__debug__" : Str)) = false := by decide) :
    PS X (.Raise (some (.Call (.Name x p) [.Constant (.str m) j p2] [] pos)) none pos2) (rdS (X.cq W) (sX x)) :=
  PSwk (ps_raise hc tk (pmk_own F T.q T.m T.k (raises_own T.s T.t) hg hdb)) fun Dn σ H ⟨m, ρ, S, re, rs, h⟩ => h (.ref C) none σ H m .refl re rs ⟨T.m, rfl⟩
end
/-- a slot laid bare -/
def clr (i : Nat) : Out → Out
  | .nx ρ S => .nx (ρ.set i none) S
  | .bk ρ S => .bk (ρ.set i none) S
  | .ct ρ S => .ct (ρ.set i none) S
  | .rt d S => .rt d S
  | _ => .no
abbrev Tab := List (Str × Bool × (Addr → SX))
/-- try: g; except .. as slot i: by the table -/
def sTry (i : Nat) (L : Tab) (g : SX) : SX := fun ρ S => match g ρ S with
  | .ex x ρ1 S1 => match x.fs, L.lookup x.name with
    | [], some (true, su) => clr i (su 0 (ρ1.set i (some (.raw (.ref 0)))) S1)
    | [], some (false, _) => .ex x ρ1 S1
    | _, _ => .no
  | o => o
theorem re_unset {K : PySem.W.Frag} {m : List Addr} {H : Hp} {σ : St} {ρ : Env} (r : RE K m H σ ρ) (i : Nat) : RE K m H (σ.set i none) (ρ.set i none) := by
  refine ⟨by rw [List.length_set, List.length_set]; exact r.len, fun {j d'} e => ?_⟩
  by_cases z : i = j
  · subst z
    rw [List.getElem?_set] at e
    split at e
    · split at e
      · cases e
      · cases e
    · exact absurd rfl (by assumption)
  · rw [List.getElem?_set_ne z] at e
    obtain ⟨v, h1, h2⟩ := r.at_ e
    exact ⟨v, by rw [List.getElem?_set_ne z]; exact h1, h2⟩
structure TryEnt (X : Cx) (W : WX) (c : Value) (i : Nat) (suite : List Stmt) (p : Str × Bool × (Addr → SX)) : Prop where
  cls : ∃ C, X.mg p.1 = some (.ref C) ∧ PySem.W.exmOne X.K (.ref C) c = some p.2.1 ∧
    (p.2.1 = true → ∀ (a : Addr) (oe : Obj) (pn : List (Addr × Obj)), Zc (.ref C) none oe → (∃ vs, oe.data = .fields vs) → PSs (X.suite a ((a, oe) :: pn)) suite (rdS ((X.suite a ((a, oe) :: pn)).cq W0) (p.2.2 a)))
  sim : p.2.1 = true → ∀ (a : Addr) (ρ : Env) (S : Store), clr i (p.2.2 a (ρ.set i (some (.raw (.ref a)))) S) = clr i (p.2.2 0 (ρ.set i (some (.raw (.ref 0)))) S)
inductive Ents (X : Cx) (W : WX) (c : Value) (i : Nat) (suite : List Stmt) : Tab → Prop
  | nil : Ents X W c i suite []
  | cons {p : Str × Bool × (Addr → SX)} {L : Tab} (h : TryEnt X W c i suite p) (t : Ents X W c i suite L) : Ents X W c i suite (p :: L)
theorem Ents.all {X : Cx} {W : WX} {c : Value} {i : Nat} {suite : List Stmt} : ∀ {L : Tab}, Ents X W c i suite L → ∀ p ∈ L, TryEnt X W c i suite p
  | _, .cons h t, p, hp => by
    rcases List.mem_cons.mp hp with rfl | hp
    · exact h
    · exact t.all p hp
theorem ent_t {X : Cx} {W : WX} {c : Value} {i : Nat} {suite : List Stmt} {R : Str} {su : Addr → SX} {C : Addr} (m : X.mg R = some (.ref C)) (x : PySem.W.exmOne X.K (.ref C) c = some true)
    (h : ∀ (a : Addr) (oe : Obj) (pn : List (Addr × Obj)), Zc (.ref C) none oe → (∃ vs, oe.data = .fields vs) → PSs (X.suite a ((a, oe) :: pn)) suite (rdS ((X.suite a ((a, oe) :: pn)).cq W0) (su a)))
    (s : ∀ (a : Addr) (ρ : Env) (S : Store), clr i (su a (ρ.set i (some (.raw (.ref a)))) S) = clr i (su 0 (ρ.set i (some (.raw (.ref 0)))) S)) : TryEnt X W c i suite (R, true, su) := ⟨⟨C, m, x, fun _ => h⟩, fun _ => s⟩
theorem ent_f {X : Cx} {W : WX} {c : Value} {i : Nat} {suite : List Stmt} {R : Str} {su : Addr → SX} {C : Addr} (m : X.mg R = some (.ref C)) (x : PySem.W.exmOne X.K (.ref C) c = some false) : TryEnt X W c i suite (R, false, su) :=
  ⟨⟨C, m, x, fun h => nomatch h⟩, fun h => nomatch h⟩
theorem lookup_mem {α : Type} {x : Str} {v : α} : ∀ {L : List (Str × α)}, L.lookup x = some v → (x, v) ∈ L
  | (y, w) :: L, h => by
    rw [List.lookup_cons] at h
    cases e : x == y with
    | true => rw [e] at h; cases h; rw [show x = y from LawfulBEq.eq_of_beq e]; exact List.mem_cons_self ..
    | false => rw [e] at h; exact List.mem_cons_of_mem _ (lookup_mem h)
section
variable {X : Cx} {W : WX} {x n : Str} {c : Value} {i : Nat} {body suite : List Stmt} {b₀ : Stmt} {np pos pos' : Pos} {g : SX} {L : Tab}
theorem t_try (hs : X.stack = X.env :: X.outer) (hf : X.env.frame = some X.env.locals) (hN : X.N.Nodup) (hi : X.N[i]? = some n) (hln : X.env.kindOf n = some .local) (hc : Names X x c) (tk : Takes X W)
    (hb : ∀ (W : WX) (pn : List (Addr × Obj)) (xe : Value → Shared → Prop), Takes (X.tr pn xe) W → PassesOwn (model X.prog X.w) X.A X.env xe → PSs (X.tr pn xe) body (rdS ((X.tr pn xe).cq W) g))
    (hLs : Ents X W c i (b₀ :: suite) L) :
    PS X (.Try body [.ExceptHandler (some (.Name x np)) (some n) (b₀ :: suite) pos'] [] [] pos) (rdS (X.cq W) (sTry i L g)) := by
  have hL := hLs.all
  refine PSwk (ps_try_as (tb := fun W' => rdS ⟨X.K, X.mg, W'⟩ g) (ts := fun a cls d => fun D σ H => d = none ∧ ∃ p ∈ L, X.mg p.1 = some cls ∧ p.2.1 = true ∧ rdS ⟨X.K, X.mg, W0⟩ (p.2.2 a) D σ H) hs hf hN hi hln hc tk hb fun a oe cls d pn hz hv => ⟨fun pins s σ H D I ⟨hd, p, hp, hm, ht, q⟩ => ?_⟩) fun Dn σ H ⟨m, ρ, S, re, rs, h⟩ => ⟨m, ρ, S, re, rs, ?_⟩
  · obtain ⟨C, h1, h2, h3⟩ := (hL p hp).cls
    rw [h1] at hm
    cases hm
    subst hd
    exact (h3 ht a oe pn hz hv).run pins s σ H D I q
  · have h : PostS (X.cq W) m H Dn (match g ρ S with
      | .ex x ρ1 S1 => match x.fs, L.lookup x.name with
        | [], some (true, su) => clr i (su 0 (ρ1.set i (some (.raw (.ref 0)))) S1)
        | [], some (false, _) => .ex x ρ1 S1
        | _, _ => .no
      | o => o) := h
    cases e : g ρ S with
    | ex z ρ1 S1 =>
      rw [e] at h
      simp only at h
      intro cls dd σ1 H1 m1 ex1 re1 rs1 rx
      obtain ⟨rx1, rx2⟩ := rx
      split at h
      · rename_i su efs el
        have hm := lookup_mem el
        obtain ⟨C, h1, h2, h3⟩ := (hL _ hm).cls
        have sim := (hL _ hm).sim rfl
        rw [efs] at rx2
        have h1' : X.mg z.name = some (.ref C) := h1
        have rx1' : X.mg z.name = some cls := rx1
        rw [h1'] at rx1'
        cases rx1'
        refine ⟨true, h2, fun _ a ha => ⟨rx2, _, hm, h1, rfl, ?_⟩, (fun q => nomatch q)⟩
        refine ⟨m1, ρ1.set i (some (.raw (.ref a))), S1, re1.set (.raw _) i, rs1, ?_⟩
        rw [← sim a ρ1 S1] at h
        have h := PostS.mono (c := X.cq W) (m1 := m1) (H1 := H1) ex1 h
        revert h
        show PostS (X.cq W) m1 H1 Dn (clr i (su a _ S1)) → PostS _ m1 H1 _ (su a _ S1)
        cases su a (ρ1.set i (some (.raw (.ref a)))) S1 with
        | nx ρ' S' => exact fun h σ' H' m' e re rs => h _ H' m' e (re_unset re i) rs
        | bk ρ' S' => exact fun h σ' H' m' e re rs => h _ H' m' e (re_unset re i) rs
        | ct ρ' S' => exact fun h σ' H' m' e re rs => h _ H' m' e (re_unset re i) rs
        | rt d S' => exact fun h => h
        | ex x ρ' S' => exact fun h => h.elim
        | no => exact fun h => h.elim
      · rename_i su efs el
        have hm := lookup_mem el
        obtain ⟨C, h1, h2, h3⟩ := (hL _ hm).cls
        have h1' : X.mg z.name = some (.ref C) := h1
        have rx1' : X.mg z.name = some cls := rx1
        rw [h1'] at rx1'
        cases rx1'
        exact ⟨false, h2, (fun q => nomatch q), fun _ => h (.ref C) dd σ1 H1 m1 ex1 re1 rs1 ⟨h1', rx2⟩⟩
      · exact h.elim
    | nx ρ1 S1 => rw [e] at h; exact h
    | bk ρ1 S1 => rw [e] at h; exact h
    | ct ρ1 S1 => rw [e] at h; exact h
    | rt d S1 => rw [e] at h; exact h
    | no => rw [e] at h; exact h
end
/-- isinstance's answers, from what k_is finds -/
theorem kit_t {K : PySem.W.Frag} {R C : Addr} (hd : PySem.W.hasDictIn K C = true) (ht : PySem.W.typeIn K (.ref C) = some (.type "type")) (h : PySem.W.subIn K (.ref R) (.ref C) = some true) : PySem.W.kitOne K (.ref R) (.ref C) = some true := by
  obtain ⟨cd, hc, _⟩ := PySem.W.any_some hd
  have e2 : ((PySem.W.clsIn K C).isSome && PySem.W.typeIn K (.ref C) == some (.type "type")) = true := by rw [hc, ht] <;> rfl
  show (if (Value.ref R == Value.ref C) = true then some true else if ((PySem.W.clsIn K C).isSome && PySem.W.typeIn K (.ref C) == some (.type "type")) = true then PySem.W.subIn K (.ref R) (.ref C) else none) = some true
  by_cases e : (Value.ref R == Value.ref C) = true
  · rw [if_pos e]
  · rw [if_neg e, if_pos e2]; exact h
theorem kit_f {K : PySem.W.Frag} {R C : Addr} (hd : PySem.W.hasDictIn K C = true) (ht : PySem.W.typeIn K (.ref C) = some (.type "type")) (h : PySem.W.subIn K (.ref R) (.ref C) = some false) (hn : (Value.ref R == Value.ref C) = false) : PySem.W.kitOne K (.ref R) (.ref C) = some false := by
  obtain ⟨cd, hc, _⟩ := PySem.W.any_some hd
  have e2 : ((PySem.W.clsIn K C).isSome && PySem.W.typeIn K (.ref C) == some (.type "type")) = true := by rw [hc, ht] <;> rfl
  show (if (Value.ref R == Value.ref C) = true then some true else if ((PySem.W.clsIn K C).isSome && PySem.W.typeIn K (.ref C) == some (.type "type")) = true then PySem.W.subIn K (.ref R) (.ref C) else none) = some false
  rw [hn, if_neg Bool.false_ne_true, if_pos e2]
  exact h
theorem kit_b {K : PySem.W.Frag} {R : Addr} {T : String} {b : Bool} (hm : PySem.W.kitMeta T = true) (h : PySem.W.subIn K (.ref R) (.type T) = some b) : PySem.W.kitOne K (.ref R) (.type T) = some b := by
  show (if (Value.ref R == Value.type T) = true then some true else if PySem.W.kitMeta T = true then PySem.W.subIn K (.ref R) (.type T) else none) = some b
  rw [show (Value.ref R == Value.type T) = false from rfl, if_neg Bool.false_ne_true, if_pos hm]
  exact h
/-! ### isinstance of the error that the suite holds -/
def eIs (i : Nat) (a : Addr) (b : Bool) : EX := fun ρ S => match ρ[i]? with
  | some (some (.raw (.ref a'))) => if a' = a then .ok (.bl b) S else .no
  | _ => .no
def gIsE (a : Addr) (cv : V) (b : Bool) : List D → Store → Option (D × Store)
  | [.raw x, .raw y], S => if x = .ref a ∧ y = cv then some (.bl b, S) else none
  | _, _ => none
section
variable {X : Cx} {C : Addr} {a : Addr} {oe : Obj} {pn : List (Addr × Obj)} {cv : V} {cu : Value} {b : Bool}
theorem c_isE (E : ExcC X.K C) (hz : Zc (.ref C) none oe) (hf : ∃ vs, oe.data = .fields vs) (hk : PySem.W.kitOne X.K (.ref C) cu = some b) (hr : ∀ u, RelV cv u → u = cu) :
    CallR (X.suite a ((a, oe) :: pn)) (.builtin "isinstance") (rdC X.K (gIsE a cv b)) := by
  intro pins s σ H vs us Q I r ⟨m, xs, S, hx, rs, h⟩
  unfold gIsE at h
  split at h
  · rename_i x y
    split at h
    · rename_i hc
      obtain ⟨rfl, rfl⟩ := hc
      cases hx with
      | cons h1 h2 =>
        cases h2 with
        | cons h3 h4 =>
          cases h4
          cases h1 with
          | raw =>
            cases h3 with
            | raw => exact call_isE E hz hf pins s σ H _ us Q I r ⟨_, cu, b, rfl, hr, hk, h _ _ m .refl rs (.bl b)⟩
    · exact h.elim
  · exact h.elim
theorem d_isE {i : Nat} {e1 e2 : Expr} {p pos : Pos} (E : ExcC X.K C) (hz : Zc (.ref C) none oe) (hf : ∃ vs, oe.data = .fields vs) (hk : PySem.W.kitOne X.K (.ref C) cu = some b) (hr : ∀ u, RelV cv u → u = cu)
    (hg : Gl (X.suite a ((a, oe) :: pn)) "isinstance") (hm : X.mg "isinstance" = none) (hv : bootBuiltins "isinstance" = some (.builtin "isinstance"))
    (ha : PA (X.suite a ((a, oe) :: pn)) [e1, e2] (rdA ((X.suite a ((a, oe) :: pn)).cq W0) (aC (eV i) (aC (eC (.raw cv)) aN))))
    (he : starEach (e1 :: [e2]) X.env = (false, eval e1 X.env) :: starEach [e2] X.env := by rfl) (hpl : (backTo pos (starEach [e2] X.env)).any (·.1) = false := by rfl) :
    PE (X.suite a ((a, oe) :: pn)) (.Call (.Name "isinstance" p) [e1, e2] [] pos) (rdE ((X.suite a ((a, oe) :: pn)).cq W0) (eIs i a b)) := by
  refine PEwk (d_callB (c_isE (a := a) (pn := pn) E hz hf hk hr) hg hm hv ha (by decide) (by decide) he hpl) fun σ H Q ⟨m, ρ, S, re, rs, h⟩ => ⟨m, ρ, S, re, rs, ?_⟩
  unfold eIs at h
  split at h
  · rename_i a' e
    split at h
    · rename_i ea
      subst ea
      have e' : eB (gIsE a' cv b) (aC (eV i) (aC (eC (.raw cv)) aN)) ρ S = .ok (.bl b) S := by
        show (R.bind (R.bind (eV i ρ S) _) _) = _
        unfold eV
        rw [e]
        show toR (if V.ref a' = .ref a' ∧ cv = cv then some (D.bl b, S) else none) = _
        rw [if_pos ⟨rfl, rfl⟩]
        rfl
      rw [e']
      exact h
    · exact h.elim
  · exact h.elim
end
/-! ### the answer does not hang on the address -/
structure OffA (i : Nat) (a : Addr) (ρ ρ' : Env) : Prop where
  l : ρ.length = ρ'.length
  h : (ρ[i]? = some (some (.raw (.ref a))) ∧ ρ'[i]? = some (some (.raw (.ref 0)))) ∨ (ρ[i]? = none ∧ ρ'[i]? = none)
  o : ∀ j, j ≠ i → ρ[j]? = ρ'[j]?
def SimE (i : Nat) (a : Addr) {α : Type} (f f' : Env → Store → R α) : Prop := ∀ ρ ρ' S, OffA i a ρ ρ' → f ρ S = f' ρ' S
/-- outcomes alike but for slot i -/
def OutA (i : Nat) (a : Addr) : Out → Out → Prop
  | .nx ρ S, .nx ρ' S' => OffA i a ρ ρ' ∧ S = S'
  | .bk ρ S, .bk ρ' S' => OffA i a ρ ρ' ∧ S = S'
  | .ct ρ S, .ct ρ' S' => OffA i a ρ ρ' ∧ S = S'
  | .rt d S, .rt d' S' => d = d' ∧ S = S'
  | .ex _ _ _, .ex _ _ _ => True
  | .no, .no => True
  | _, _ => False
def SimS (i : Nat) (a : Addr) (g g' : SX) : Prop := ∀ ρ ρ' S, OffA i a ρ ρ' → OutA i a (g ρ S) (g' ρ' S)
section
variable {i j : Nat} {a : Addr} {f f' h h' : EX} {r r' : AX} {g g' k k' : SX}
theorem OffA.set {ρ ρ' : Env} (o : OffA i a ρ ρ') {d : Option D} (hj : j ≠ i) : OffA i a (ρ.set j d) (ρ'.set j d) :=
  ⟨by rw [List.length_set, List.length_set, o.l], by rw [List.getElem?_set_ne hj, List.getElem?_set_ne hj]; exact o.h, fun k hk => by
    by_cases e : j = k
    · subst e
      rw [List.getElem?_set, List.getElem?_set, o.l, if_pos rfl, if_pos rfl]
    · rw [List.getElem?_set_ne e, List.getElem?_set_ne e, o.o k hk]⟩
theorem m_eC {d : D} : SimE i a (eC d) (eC d) := fun _ _ _ _ => rfl
theorem m_eV (hj : j ≠ i) : SimE i a (eV j) (eV j) := fun ρ ρ' S o => by unfold eV; rw [o.o j hj]
theorem m_eIs {b : Bool} : SimE i a (eIs i a b) (eIs i 0 b) := fun ρ ρ' S o => by
  unfold eIs
  rcases o.h with ⟨e1, e2⟩ | ⟨e1, e2⟩
  · rw [e1, e2]; simp
  · rw [e1, e2]
theorem m_aN : SimE i a aN aN := fun _ _ _ _ => rfl
theorem m_aC (h1 : SimE i a f f') (h2 : SimE i a r r') : SimE i a (aC f r) (aC f' r') := fun ρ ρ' S o => by
  unfold aC
  rw [h1 ρ ρ' S o]
  congr 1
  funext x S1
  rw [h2 ρ ρ' S1 o]
theorem m_eB {q : List D → Store → Option (D × Store)} (h2 : SimE i a r r') : SimE i a (eB q r) (eB q r') := fun ρ ρ' S o => by
  unfold eB
  rw [h2 ρ ρ' S o]
theorem m_e2 {q : D → D → Store → Option (D × Store)} (h1 : SimE i a f f') (h2 : SimE i a h h') : SimE i a (Dl.e2 q f h) (Dl.e2 q f' h') := fun ρ ρ' S o => by
  unfold Dl.e2
  rw [h1 ρ ρ' S o]
  congr 1
  funext x S1
  rw [h2 ρ ρ' S1 o]
theorem m_eAnd (h1 : SimE i a f f') (h2 : SimE i a h h') : SimE i a (eAnd f h) (eAnd f' h') := fun ρ ρ' S o => by
  unfold eAnd
  rw [h1 ρ ρ' S o]
  congr 1
  funext x S1
  congr 1
  funext b S2
  rw [h2 ρ ρ' S2 o]
theorem m_eOr (h1 : SimE i a f f') (h2 : SimE i a h h') : SimE i a (eOr f h) (eOr f' h') := fun ρ ρ' S o => by
  unfold eOr
  rw [h1 ρ ρ' S o]
  congr 1
  funext x S1
  congr 1
  funext b S2
  rw [h2 ρ ρ' S2 o]
theorem m_eNot (h1 : SimE i a f f') : SimE i a (eNot f) (eNot f') := fun ρ ρ' S o => by
  unfold eNot
  rw [h1 ρ ρ' S o]
theorem m_sN (hj : j ≠ i) (h1 : SimE i a f f') : SimS i a (sN j f) (sN j f') := fun ρ ρ' S o => by
  unfold sN
  rw [h1 ρ ρ' S o]
  cases f' ρ' S with
  | ok d S1 => exact ⟨o.set hj, rfl⟩
  | ex x S1 => exact True.intro
  | no => exact True.intro
theorem m_sQ (h1 : SimS i a g g') (h2 : SimS i a k k') : SimS i a (sQ g k) (sQ g' k') := fun ρ ρ' S o => by
  have q := h1 ρ ρ' S o
  show OutA i a ((g ρ S).seq k) ((g' ρ' S).seq k')
  revert q
  cases g ρ S <;> cases g' ρ' S <;> intro q <;> first | exact q.elim | skip
  · obtain ⟨q1, rfl⟩ := q
    exact h2 _ _ _ q1
  all_goals exact q
theorem m_sR (h1 : SimE i a f f') : SimS i a (sR f) (sR f') := fun ρ ρ' S o => by
  unfold sR
  rw [h1 ρ ρ' S o]
  cases f' ρ' S with
  | ok d S1 => exact ⟨rfl, rfl⟩
  | ex x S1 => exact True.intro
  | no => exact True.intro
theorem set_off {ρ ρ' : Env} (o : OffA i a ρ ρ') : ρ.set i none = ρ'.set i none := by
  apply List.ext_getElem?
  intro k
  by_cases e : i = k
  · subst e
    rw [List.getElem?_set, List.getElem?_set, o.l, if_pos rfl, if_pos rfl]
  · rw [List.getElem?_set_ne e, List.getElem?_set_ne e, o.o k (Ne.symm e)]
theorem m_clr {o o' : Out} (q : OutA i a o o') : clr i o = clr i o' := by
  cases o <;> cases o' <;> first | exact q.elim | skip
  · obtain ⟨q1, rfl⟩ := q; show Out.nx _ _ = Out.nx _ _; rw [set_off q1]
  · obtain ⟨rfl, rfl⟩ := q; rfl
  · obtain ⟨q1, rfl⟩ := q; show Out.bk _ _ = Out.bk _ _; rw [set_off q1]
  · obtain ⟨q1, rfl⟩ := q; show Out.ct _ _ = Out.ct _ _; rw [set_off q1]
  · rfl
  · rfl
/-- the table's last field -/
theorem m_sim {su : Addr → SX} (h : ∀ a, SimS i a (su a) (su 0)) : ∀ (a : Addr) (ρ : Env) (S : Store), clr i (su a (ρ.set i (some (.raw (.ref a)))) S) = clr i (su 0 (ρ.set i (some (.raw (.ref 0)))) S) := fun a ρ S => by
  by_cases hl : i < ρ.length
  · exact m_clr (h a _ _ S ⟨by rw [List.length_set, List.length_set], Or.inl ⟨List.getElem?_set_self hl, List.getElem?_set_self hl⟩, fun j hj => by rw [List.getElem?_set_ne (Ne.symm hj), List.getElem?_set_ne (Ne.symm hj)]⟩)
  · have e : ∀ d, ρ.set i d = ρ := fun d => List.set_eq_of_length_le (by omega)
    rw [e, e]
    exact m_clr (h a ρ ρ S ⟨rfl, Or.inr ⟨List.getElem?_eq_none (by omega), List.getElem?_eq_none (by omega)⟩, fun j _ => rfl⟩)
end
end Dl

set_option Elab.async false
set_option linter.all false
set_option maxRecDepth 100000
namespace Dl
open PySem L2
/-! ## more methods -/
def gSplit : D → List D → Store → Option (D × Store)
  | .str a, [.str b], S => if b.length ≠ 0 ∧ a.length + 2 ≤ LIM ∧ ((Txt.split a b).all fun p => decide (p.length ≤ LIM)) = true then some (.ref S.length, S ++ [.lst ((Txt.split a b).map .str)]) else none
  | _, _, _ => none
def gCountS : D → List D → Store → Option (D × Store)
  | .str a, [.str b], S => some (.int (Txt.count a b), S)
  | _, _, _ => none
def gInsert : D → List D → Store → Option (D × Store)
  | .ref l, [.int i, d], S => match S[l]? with
    | some (.lst xs) => if xs.length < LIM ∧ 0 ≤ i ∧ i < 2 ^ 63 then some (.non, S.set l (.lst (xs.take i.toNat ++ [d] ++ xs.drop i.toNat))) else none
    | _ => none
  | _, _, _ => none
/-- a module's own table -/
def gTab (L : List (Str × D)) : D → D → Store → Option (D × Store)
  | _, .str s, S => (L.lookup s).map fun d => (d, S)
  | _, _, _ => none
section
variable {X : Cx}
theorem strs_rd {K : PySem.W.Frag} {m : List Addr} {H : Hp} : ∀ {xs : List Str}, (xs.all fun p => decide (p.length ≤ LIM)) = true → RDs K m H (xs.map V.str) (xs.map D.str)
  | [], _ => .nil
  | x :: xs, h => by
    rw [List.all_cons, Bool.and_eq_true] at h
    exact .cons (.str (of_decide_eq_true h.1)) (strs_rd h.2)
theorem m_split : MtR X "str.split" (rdM X.K gSplit) := by
  intro pins s σ H v vs vv us Q I rv rvs ⟨m, x, xs, S, hx, hxs, rs, h⟩
  unfold gSplit at h
  split at h
  · rename_i a b
    split at h
    · rename_i hc
      obtain ⟨h1, h2, h3⟩ := hc
      cases hx with
      | str ha =>
        cases hxs with
        | cons g1 g2 =>
          cases g2
          cases g1 with
          | str hb =>
            exact mt_split pins s σ H _ _ vv us Q I rv rvs ⟨a, b, rfl, rfl, by simpa using h1, by rw [← lim_eq]; exact h2, fun p hp => vp_lst rs hp (strs_rd h3) h⟩
    · exact h.elim
  · exact h.elim
theorem m_countS : MtR X "str.count" (rdM X.K gCountS) := by
  intro pins s σ H v vs vv us Q I rv rvs ⟨m, x, xs, S, hx, hxs, rs, h⟩
  unfold gCountS at h
  split at h
  · rename_i a b
    cases hx with
    | str ha =>
      cases hxs with
      | cons g1 g2 =>
        cases g2
        cases g1 with
        | str hb => exact mt_count pins s σ H _ _ vv us Q I rv rvs ⟨a, b, rfl, rfl, h _ _ m .refl rs (.int _)⟩
  · exact h.elim
theorem rds_take {K : PySem.W.Frag} {m : List Addr} {H : Hp} : ∀ {vs : List V} {ds : List D}, RDs K m H vs ds → ∀ n : Nat, RDs K m H (vs.take n) (ds.take n)
  | _, _, .nil, n => by rw [List.take_nil, List.take_nil]; exact .nil
  | _, _, .cons h t, 0 => .nil
  | _, _, .cons h t, n + 1 => .cons h (rds_take t n)
theorem rds_drop {K : PySem.W.Frag} {m : List Addr} {H : Hp} : ∀ {vs : List V} {ds : List D}, RDs K m H vs ds → ∀ n : Nat, RDs K m H (vs.drop n) (ds.drop n)
  | _, _, .nil, n => by rw [List.drop_nil, List.drop_nil]; exact .nil
  | _, _, .cons h t, 0 => .cons h t
  | _, _, .cons h t, n + 1 => rds_drop t n
theorem m_insert : MtR X "list.insert" (rdM X.K gInsert) := by
  intro pins s σ H v vs vv us Q I rv rvs ⟨m, x, xs, S, hx, hxs, rs, h⟩
  unfold gInsert at h
  split at h
  · rename_i l i d
    split at h
    · rename_i ys e
      split at h
      · rename_i hc
        obtain ⟨hz, h0, h1⟩ := hc
        cases hx with
        | ref hl =>
          cases hxs with
          | cons g1 g2 =>
            cases g1 with
            | int =>
              cases g2 with
              | cons g3 g4 =>
                cases g4
                obtain ⟨ws, hw, rw'⟩ := rs.wlst hl e
                refine mt_insert pins s σ H _ _ vv us Q I rv rvs ⟨_, ws, i, _, rfl, rfl, hw, by rw [rw'.length, ← lim_eq]; exact hz, h0, h1, ?_⟩
                obtain ⟨ex, rs'⟩ := rs.write (o := .lst (ws.take i.toNat ++ [_] ++ ws.drop i.toNat)) (c' := .lst (ys.take i.toNat ++ [d] ++ ys.drop i.toNat)) hl e rfl rfl fun ex => ⟨_, upd_same, ((rds_take (rw'.mono ex) _).append (.one (g3.mono ex))).append (rds_drop (rw'.mono ex) _)⟩
                exact h _ _ m ex rs' .non
      · exact h.elim
    · exact h.elim
  · exact h.elim
/-- what the written part says of such a table -/
structure TabK (K : PySem.W.Frag) (w : World) (p : Addr) (L : List (Str × D)) : Prop where
  at_ : ∀ q ∈ L, ∃ v, KDct K w p q.1 v ∧ ∀ m H, RD K m H v q.2
variable {W : WX} {a b : Expr} {fa fb : EX} {pos p1 : Pos}
/-- D[e], D a module's table -/
def eTab (L : List (Str × D)) (fb : EX) : EX := fun ρ S => (fb ρ S).bind fun y S1 => toR (gTab L .non y S1)
theorem d_tab {x : Str} {p : Addr} {L : List (Str × D)} (T : TabK X.K X.w p L) (hg : Gl X x) (hm : X.mg x = some (.ref p)) (hb : PE X b (rdE (X.cq W) fb)) (hd : (x == ("__debug__" : Str)) = false := by decide) (hs : PlainIx b := by exact fun _ _ => rfl) :
    PE X (.Subscript (.Name x p1) b pos) (rdE (X.cq W) (eTab L fb)) := by
  refine PEwk (pe_ix ix_kdict (pe_glob (v := .ref p) hg hm rfl hd) hb hs) fun σ H Q ⟨m, ρ, S, re, rs, h⟩ => ?_
  refine ⟨m, ρ, S, re, rs, (Post.bind h).imp fun u H2 ⟨m2, y, S2, e2, rs2, rd2', h2⟩ => ?_⟩
  replace h2 : VPost X.K m2 H2 Q (gTab L .non y S2) := VPost.of h2
  unfold gTab at h2
  split at h2
  · rename_i s
    cases e : L.lookup s with
    | none => rw [e] at h2; exact h2.elim
    | some d =>
      rw [e] at h2
      cases rd2' with
      | str hs =>
        obtain ⟨z, g1, g2⟩ := T.at_ _ (lookup_mem e)
        exact ⟨p, s, z, rfl, rfl, g1, h2 _ _ m2 .refl rs2 (g2 m2 H2)⟩
  · exact h2.elim
/-! ## a, b = a tuple or a list -/
def tgU (ts : List (D → SX)) : D → SX := fun d => match d with
  | .tup ds => if ds.length = ts.length then tgL ts ds else sNo
  | .ref l => fun ρ S => match lstAt S l with
    | some ds => if ds.length = ts.length then tgL ts ds ρ S else .no
    | none => .no
  | _ => sNo
theorem g_seq {es : List Expr} {k : Nat} {ts : List (D → SX)} (hc : X.calm = true) (h : PGs X es (rdGs (X.cq W) (tgL ts))) (hl : ts.length = es.length := by rfl)
    (hn : (assignEach es X.env).length = es.length := by rfl) (hst : (assignEach es X.env).findIdx? (·.1) = none := by rfl) : PG X (.Tuple es k pos) (rdG (X.cq W) (tgU ts)) := ⟨fun pins s σ H v u Q I r ⟨m, ρ, S, d, re, rs, rd, q⟩ => by
  cases d with
  | tup ds => exact (g_tup (pos := pos) (k := k) hc h hl hn hst).run pins s σ H v u Q I r ⟨m, ρ, S, _, re, rs, rd, q⟩
  | ref l =>
    have q : PostS (X.cq W) m H { nx := Q, rt := fun _ _ => False } (match lstAt S l with
      | some ds => if ds.length = ts.length then tgL ts ds ρ S else .no
      | none => .no) := q
    cases e : lstAt S l with
    | none => rw [e] at q; exact q.elim
    | some ds =>
      rw [e] at q
      by_cases hz : ds.length = ts.length
      · simp only [if_pos hz] at q
        cases rd with
        | ref hm =>
          obtain ⟨vs, h1, h2⟩ := rs.lst hm e
          exact (pg_lst (k := k) (pos := pos) hc h hn hst).run pins s σ H _ u Q I r ⟨_, vs, rfl, h1, by rw [h2.length, hz, hl], m, ρ, S, ds, re, rs, h2, q⟩
      · simp only [if_neg hz] at q
        exact q.elim
  | _ => exact q.elim⟩
end
end Dl

set_option Elab.async false
set_option linter.all false
set_option maxRecDepth 100000
namespace Dl
open PySem L2
/-! ## unary minus, extend, reverse, sum, is None -/
def gNeg : D → Store → Option (D × Store)
  | .int i, S => some (.int (-i), S)
  | _, _ => none
def gExtend : D → List D → Store → Option (D × Store)
  | .ref l, [.ref k], S => match S[l]?, S[k]? with
    | some (.lst xs), some (.lst ys) => if xs.length + ys.length ≤ LIM then some (.non, S.set l (.lst (xs ++ ys))) else none
    | _, _ => none
  | _, _, _ => none
def gReverse : D → List D → Store → Option (D × Store)
  | .ref l, [], S => match S[l]? with
    | some (.lst xs) => some (.non, S.set l (.lst xs.reverse))
    | _ => none
  | _, _, _ => none
def intsD : List D → Option (List Int)
  | [] => some []
  | .int i :: r => (intsD r).map (i :: ·)
  | _ :: _ => none
def gSum : List D → Store → Option (D × Store)
  | [.ref l], S => ((lstAt S l).bind intsD).map fun ns => (.int ns.sum, S)
  | _, _ => none
section
variable {X : Cx} {W : WX} {e : Expr} {f : EX} {pos : Pos}
theorem d_neg (he : PE X e (rdE (X.cq W) f)) : PE X (.UnaryOp .USub e pos) (rdE (X.cq W) (e1 gNeg f)) := PEwk (pe_un un_neg he) fun σ H Q ⟨m, ρ, S, re, rs, h⟩ =>
  ⟨m, ρ, S, re, rs, (Post.bind h).imp fun v H1 ⟨m1, x, S1, e1, rs1, rd, h1⟩ => by
    have h1 : VPost X.K m1 H1 Q (gNeg x S1) := VPost.of h1
    unfold gNeg at h1
    split at h1
    · cases rd with
      | int => exact ⟨_, rfl, h1 _ _ m1 .refl rs1 (.int _)⟩
    · exact h1.elim⟩
theorem m_extend : MtR X "list.extend" (rdM X.K gExtend) := by
  intro pins s σ H v vs vv us Q I rv rvs ⟨m, x, xs, S, hx, hxs, rs, h⟩
  unfold gExtend at h
  split at h
  · rename_i l k
    split at h
    · rename_i xs ys e1 e2
      split at h
      · rename_i hc
        cases hx with
        | ref hl =>
          cases hxs with
          | cons g1 g2 =>
            cases g2
            cases g1 with
            | ref hk =>
              obtain ⟨ws, hw, rw'⟩ := rs.wlst hl e1
              obtain ⟨us', hu, ru⟩ := rs.wlst hk e2
              refine mt_extend pins s σ H _ _ vv us Q I rv rvs ⟨_, _, ws, us', rfl, rfl, hw, hu, by rw [rw'.length, ru.length, ← lim_eq]; exact hc, ?_⟩
              obtain ⟨ex, rs'⟩ := rs.write (o := .lst (ws ++ us')) (c' := .lst (xs ++ ys)) hl e1 rfl rfl fun ex => ⟨_, upd_same, (rw'.mono ex).append (ru.mono ex)⟩
              exact h _ _ m ex rs' .non
      · exact h.elim
    · exact h.elim
  · exact h.elim
theorem rds_reverse {K : PySem.W.Frag} {m : List Addr} {H : Hp} : ∀ {vs : List V} {ds : List D}, RDs K m H vs ds → RDs K m H vs.reverse ds.reverse
  | _, _, .nil => .nil
  | _, _, .cons h t => by
    rw [List.reverse_cons, List.reverse_cons]
    exact (rds_reverse t).append (.one h)
theorem m_reverse : MtR X "list.reverse" (rdM X.K gReverse) := by
  intro pins s σ H v vs vv us Q I rv rvs ⟨m, x, xs, S, hx, hxs, rs, h⟩
  unfold gReverse at h
  split at h
  · rename_i l
    split at h
    · rename_i xs e1
      cases hx with
      | ref hl =>
        cases hxs
        obtain ⟨ws, hw, rw'⟩ := rs.wlst hl e1
        refine mt_reverse pins s σ H _ _ vv us Q I rv rvs ⟨_, ws, rfl, rfl, hw, ?_⟩
        obtain ⟨ex, rs'⟩ := rs.write (o := .lst ws.reverse) (c' := .lst xs.reverse) hl e1 rfl rfl fun ex => ⟨_, upd_same, rds_reverse (rw'.mono ex)⟩
        exact h _ _ m ex rs' .non
    · exact h.elim
  · exact h.elim
theorem ints_rd {K : PySem.W.Frag} {m : List Addr} {H : Hp} : ∀ {vs : List V} {ds : List D} {ns : List Int}, RDs K m H vs ds → intsD ds = some ns → vs = ns.map V.int
  | _, _, ns, .nil, h => by cases h; rfl
  | _, d :: ds, ns, .cons g t, h => by
    cases d with
    | int i =>
      have h' : (intsD ds).map (i :: ·) = some ns := h
      cases e : intsD ds with
      | none => rw [e] at h'; cases h'
      | some r =>
        rw [e] at h'
        cases h'
        cases g
        rw [ints_rd t e]
        rfl
    | _ => cases h
theorem c_sum (hc : X.calm = true) : CallR X (.builtin "sum") (rdC X.K gSum) := by
  intro pins s σ H vs us Q I r ⟨m, xs, S, hx, rs, h⟩
  unfold gSum at h
  split at h
  · rename_i l
    cases e : lstAt S l with
    | none => rw [e] at h; exact h.elim
    | some ds =>
      cases e2 : intsD ds with
      | none => rw [e] at h; simp only [Option.bind_some, e2] at h; exact h.elim
      | some ns =>
        rw [e] at h
        simp only [Option.bind_some, e2] at h
        cases hx with
        | cons h1 h2 =>
          cases h2
          cases h1 with
          | ref hl =>
            obtain ⟨ws, hw, rw'⟩ := rs.lst hl e
            have ew := ints_rd rw' e2
            subst ew
            exact cr_sum hc pins s σ H _ us Q I r ⟨_, ns, rfl, hw, h _ _ m .refl rs (.int _)⟩
  · exact h.elim
end
end Dl

set_option Elab.async false
set_option linter.all false
set_option maxRecDepth 100000
namespace Dl
open PySem L2
/-! ## dicts: a display with written keys, d[k], k in d, d[k] = v -/
def keyD : D → Option Key
  | .int i => some (.inl i)
  | .str s => some (.inr s)
  | _ => none
def findK (kvs : List (Key × D)) (k : Key) : Option D := (kvs.find? fun kv => decide (kv.1 = k)).map (·.2)
def gDget : D → D → Store → Option (D × Store)
  | .ref l, y, S => match S[l]?, keyD y with
    | some (.dic kvs), some k => (findK kvs k).map fun d => (d, S)
    | _, _ => none
  | _, _, _ => none
def gDin (f : Bool → Bool) : D → D → Store → Option (D × Store)
  | y, .ref l, S => match S[l]?, keyD y with
    | some (.dic kvs), some k => some (.bl (f (findK kvs k).isSome), S)
    | _, _ => none
  | _, _, _ => none
def aL : List (Key × EX) → AX
  | [] => aN
  | (_, f) :: r => aC f (aL r)
/-- {k: f, ..} -/
def eDct (L : List (Key × EX)) : EX := fun ρ S => (aL L ρ (S ++ [.dic []])).bind fun ds S1 => match S1[S.length]? with
  | some (.dic []) => if L.length ≤ 15 ∧ (L.map (·.1)).Nodup then .ok (.ref S.length) (S1.set S.length (.dic ((L.map (·.1)).zip ds))) else .no
  | _ => .no
theorem find_rd {K : PySem.W.Frag} {m : List Addr} {H : Hp} {k : Key} {d : D} : ∀ {kvs : List (Key × D)} {ws : List (Key × V)}, ws.map (·.1) = kvs.map (·.1) → RDs K m H (ws.map (·.2)) (kvs.map (·.2)) → findK kvs k = some d → ∃ v, valV ws k = some v ∧ RD K m H v d
  | [], _, _, _, h => nomatch h
  | (k1, d1) :: kvs, [], e, _, _ => nomatch e
  | (k1, d1) :: kvs, (k2, v2) :: ws, e, r, h => by
    cases r with
    | cons rh rt =>
      have e1 : k2 = k1 := (List.cons.inj e).1
      have e2 : ws.map (·.1) = kvs.map (·.1) := (List.cons.inj e).2
      subst e1
      by_cases z : k2 = k
      · rw [valV_pos (show (k2, v2).1 = k from z)]
        unfold findK at h
        rw [List.find?_cons_of_pos (by simpa using z)] at h
        cases h
        exact ⟨_, rfl, rh⟩
      · rw [valV_neg (show ¬ (k2, v2).1 = k from z)]
        unfold findK at h
        rw [List.find?_cons_of_neg (by simpa using z)] at h
        exact find_rd e2 rt h
theorem find_none {k : Key} : ∀ {kvs : List (Key × D)} {ws : List (Key × V)}, ws.map (·.1) = kvs.map (·.1) → findK kvs k = none → valV ws k = none
  | [], [], _, _ => rfl
  | [], _ :: _, e, _ => nomatch e
  | (k1, d1) :: kvs, [], e, _ => nomatch e
  | (k1, d1) :: kvs, (k2, v2) :: ws, e, h => by
    have e1 : k2 = k1 := (List.cons.inj e).1
    have e2 : ws.map (·.1) = kvs.map (·.1) := (List.cons.inj e).2
    subst e1
    by_cases z : k2 = k
    · unfold findK at h
      rw [List.find?_cons_of_pos (by simpa using z)] at h
      cases h
    · rw [valV_neg (show ¬ (k2, v2).1 = k from z)]
      unfold findK at h
      rw [List.find?_cons_of_neg (by simpa using z)] at h
      exact find_none e2 h
theorem key_rd {K : PySem.W.Frag} {m : List Addr} {H : Hp} {v : V} {d : D} {k : Key} (r : RD K m H v d) (h : keyD d = some k) : v = L2.kV k := by
  unfold keyD at h
  split at h
  · cases h; cases r; rfl
  · cases h; cases r; rfl
  · cases h
theorem val_none {k : Key} : ∀ {ws : List (Key × V)}, k ∉ ws.map (·.1) → valV ws k = none
  | [], _ => rfl
  | (k2, v2) :: ws, h => by
    rw [List.map_cons, List.mem_cons, not_or] at h
    rw [valV_neg (show ¬ (k2, v2).1 = k from fun e => h.1 e.symm)]
    exact val_none h.2
theorem merge_nd : ∀ (more acc : List (Key × V)), ((acc ++ more).map (·.1)).Nodup → mergeK acc more = acc ++ more
  | [], acc, _ => by rw [List.append_nil]; rfl
  | (k, v) :: more, acc, h => by
    have h' : ((acc ++ [(k, v)] ++ more).map (·.1)).Nodup := by rw [List.append_assoc]; exact h
    have hk : k ∉ acc.map (·.1) := fun q => by
      rw [List.map_append, List.map_cons] at h
      exact (List.nodup_append.mp h).2.2 k q k (List.mem_cons_self ..) rfl
    show mergeK (putK acc k v) more = _
    rw [putK_new v (val_none hk), merge_nd more (acc ++ [(k, v)]) h', List.append_assoc]
    rfl
theorem u1 {k : Nat} {A : Around} (r : Room k A) : A.units + 1 < cLine := by have := r.un; omega
section
variable {X : Cx} {W : WX} {o i e : Expr} {fo fi f : EX} {pos : Pos}
theorem d_dget (hu : X.A.units + 1 < cLine) (ho : PE X o (rdE (X.cq W) fo)) (hi : PE X i (rdE (X.cq W) fi)) (hs : NoSl i := by exact fun _ _ => rfl) : PE X (.Subscript o i pos) (rdE (X.cq W) (Dl.e2 gDget fo fi)) :=
  PEwk (pe_dget hu ho hi hs) fun σ H Q ⟨m, ρ, S, re, rs, h⟩ =>
  ⟨m, ρ, S, re, rs, (Post.bind h).imp fun v H1 ⟨m1, x, S1, e1, rs1, rd, h1⟩ => ⟨m1, ρ, S1, re.mono e1, rs1, (Post.bind h1).imp fun u H2 ⟨m2, y, S2, e2, rs2, rd2, h2⟩ => by
    have h2 : VPost X.K m2 H2 Q (gDget x y S2) := VPost.of h2
    have rd' := rd.mono e2
    unfold gDget at h2
    split at h2
    · split at h2
      · rename_i kvs k es ek
        cases ef : findK kvs k with
        | none => rw [ef] at h2; exact h2.elim
        | some d =>
          rw [ef] at h2
          cases rd' with
          | ref hl =>
            obtain ⟨ws, g1, g2, g3⟩ := rs2.at_ hl es
            obtain ⟨w, q1, q2⟩ := find_rd g2 g3 ef
            have eu := key_rd rd2 ek
            subst eu
            refine ⟨_, w, rfl, ?_, h2 _ _ m2 .refl rs2 q2⟩
            rw [← q1]
            exact DGet.k g1
      · exact h2.elim
    · exact h2.elim⟩⟩
inductive Ents2 (X : Cx) (W : WX) (pos : Pos) : List (Option Expr) → List Expr → List (Key × EX) → Prop
  | nil : Ents2 X W pos [] [] []
  | cons {k : Key} {ke v : Expr} {f : EX} {ks : List (Option Expr)} {vs : List Expr} {L : List (Key × EX)} (hk : PE X ke (tC (L2.kV k))) (hv : PE X v (rdE (X.cq W) f)) (t : Ents2 X W pos ks vs L) : Ents2 X W pos (some ke :: ks) (v :: vs) ((k, f) :: L)
def trsL (c : Cq) (L : List (Key × EX)) : List (TE × TE) := L.map fun kf => (tC (L2.kV kf.1), rdE c kf.2)
theorem Ents2.pps {ks : List (Option Expr)} {vs : List Expr} : ∀ {L : List (Key × EX)}, Ents2 X W pos ks vs L → PPs X pos ks vs (trsL (X.cq W) L) := by
  intro L h
  induction h with
  | nil => exact pps_nil
  | cons hk hv t ih => exact pps_cons hk hv ih
theorem Ents2.len {ks : List (Option Expr)} {vs : List Expr} {L : List (Key × EX)} (h : Ents2 X W pos ks vs L) : ks.length = L.length ∧ vs.length = L.length ∧ ks.all (·.isSome) = true := by
  induction h with
  | nil => exact ⟨rfl, rfl, rfl⟩
  | cons hk hv t ih =>
    obtain ⟨a, b, c⟩ := ih
    exact ⟨by rw [List.length_cons, List.length_cons, a], by rw [List.length_cons, List.length_cons, b], by rw [List.all_cons, c]; rfl⟩
theorem tPairs_imp : ∀ {trs : List (TE × TE)} {σ : St} {H : Hp} {Q Q' : List (V × V) → Hp → Prop}, (∀ (t : TE × TE), t ∈ trs → (∀ σ H (P P' : V → Hp → Prop), t.1 σ H P → (∀ v H', P v H' → P' v H') → t.1 σ H P') ∧ (∀ σ H (P P' : V → Hp → Prop), t.2 σ H P → (∀ v H', P v H' → P' v H') → t.2 σ H P')) → tPairs trs σ H Q → (∀ ps H', Q ps H' → Q' ps H') → tPairs trs σ H Q'
  | [], σ, H, Q, Q', _, h, k => k _ _ h
  | (tk, tv) :: r, σ, H, Q, Q', mn, h, k => by
    obtain ⟨m1, m2⟩ := mn _ (List.mem_cons_self ..)
    exact m1 σ H _ _ h fun x H1 h1 => m2 σ H1 _ _ h1 fun y H2 h2 => tPairs_imp (fun t ht => mn t (List.mem_cons_of_mem _ ht)) h2 fun ps H3 h3 => k _ _ h3
theorem trsL_mono (c : Cq) (L : List (Key × EX)) : ∀ (t : TE × TE), t ∈ trsL c L → (∀ σ H (P P' : V → Hp → Prop), t.1 σ H P → (∀ v H', P v H' → P' v H') → t.1 σ H P') ∧ (∀ σ H (P P' : V → Hp → Prop), t.2 σ H P → (∀ v H', P v H' → P' v H') → t.2 σ H P') := by
  intro t ht
  obtain ⟨kf, _, rfl⟩ := List.mem_map.mp ht
  exact ⟨fun σ H P P' h k => k _ _ h, fun σ H P P' ⟨m, ρ, S, re, rs, h⟩ k => ⟨m, ρ, S, re, rs, h.imp k⟩⟩
theorem pairs_post {c : Cq} : ∀ (L : List (Key × EX)) {m : List Addr} {H : Hp} {σ : St} {ρ : Env} {S : Store} {Q : List V → Hp → Prop}, RE c.K m H σ ρ → RS c.K m H S → Post c (relDs c) m H σ Q (aL L ρ S) → tPairs (trsL c L) σ H fun ps H3 => ∃ vs, ps = ((L.map fun kf => L2.kV kf.1).zip vs) ∧ vs.length = L.length ∧ Q vs H3
  | [], m, H, σ, ρ, S, Q, re, rs, h => ⟨[], rfl, rfl, h [] H m .refl rs .nil⟩
  | (k, f) :: L, m, H, σ, ρ, S, Q, re, rs, h => by
    show rdE c f σ H fun y H2 => tPairs (trsL c L) σ H2 fun ps H3 => ∃ vs, ((L2.kV k, y) :: ps) = _ ∧ _ ∧ Q vs H3
    have h : Post c (relDs c) m H σ Q ((f ρ S).bind fun x S1 => (aL L ρ S1).bind fun xs S2 => .ok (x :: xs) S2) := h
    refine ⟨m, ρ, S, re, rs, (Post.bind h).imp fun y H2 ⟨m1, x, S1, e1, rs1, rd, h1⟩ => ?_⟩
    have q := pairs_post L (re.mono e1) rs1 ((Post.bind h1).imp (rel := relDs c) (Q' := fun vs H3 => Q (y :: vs) H3) fun vs H3 ⟨m3, xs, S3, e3, rs3, rds, h3⟩ => h3 _ _ m3 .refl rs3 (.cons (rd.mono e3) rds))
    exact tPairs_imp (trsL_mono c L) q fun ps H3 ⟨vs, q1, q2, q3⟩ => ⟨y :: vs, by rw [q1]; rfl, by rw [List.length_cons, q2, List.length_cons], q3⟩
theorem zip_fst {α β : Type} : ∀ (ks : List α) (vs : List β), vs.length = ks.length → (ks.zip vs).map (·.1) = ks
  | [], _, _ => rfl
  | k :: ks, [], h => nomatch h
  | k :: ks, v :: vs, h => by
    show k :: (ks.zip vs).map (·.1) = k :: ks
    rw [zip_fst ks vs (Nat.succ.inj h)]
theorem zip_snd {α β : Type} : ∀ (ks : List α) (vs : List β), vs.length = ks.length → (ks.zip vs).map (·.2) = vs
  | [], [], _ => rfl
  | [], _ :: _, h => nomatch h
  | k :: ks, [], h => nomatch h
  | k :: ks, v :: vs, h => by
    show v :: (ks.zip vs).map (·.2) = v :: vs
    rw [zip_snd ks vs (Nat.succ.inj h)]
theorem zip_kv : ∀ (ks : List Key) (vs : List V), (ks.zip vs).map (fun kv => (L2.kV kv.1, kv.2)) = (ks.map L2.kV).zip vs
  | [], _ => rfl
  | _ :: _, [] => rfl
  | k :: ks, v :: vs => by
    show (L2.kV k, v) :: (ks.zip vs).map _ = (L2.kV k, v) :: (ks.map L2.kV).zip vs
    rw [zip_kv ks vs]
theorem d_dct {ks : List (Option Expr)} {vs : List Expr} {L : List (Key × EX)} (h : Ents2 X W pos ks vs L) (h0 : ks ≠ [] := by simp) (h15 : L.length ≤ 15 := by decide) : PE X (.Dict ks vs pos) (rdE (X.cq W) (eDct L)) := by
  obtain ⟨l1, l2, l3⟩ := h.len
  refine PEwk (pe_disp h.pps l3 (l1.trans l2.symm) h0 (by rw [l1]; exact h15)) fun σ H Q ⟨m, ρ, S, re, rs, q⟩ p hp => ?_
  obtain ⟨e1, rs1⟩ := rs.push (o := .dK []) (c := .dic []) hp fun m' e' => ⟨[], upd_same, rfl, .nil⟩
  have q : Post (X.cq W) (relD (X.cq W)) m H σ Q ((aL L ρ (S ++ [.dic []])).bind fun ds S1 => match S1[S.length]? with
    | some (.dic []) => if L.length ≤ 15 ∧ (L.map (·.1)).Nodup then .ok (.ref S.length) (S1.set S.length (.dic ((L.map (·.1)).zip ds))) else .no
    | _ => .no) := q
  have q1 := pairs_post L (re.mono e1) rs1 (Post.bind (rel := relDs (X.cq W)) (Post.mono e1 q))
  refine tPairs_imp (trsL_mono _ L) q1 fun ps H3 ⟨us, ep, lu, m1, ds, S1, e3, rs3, rds, h3⟩ => ?_
  have hl : m1[S.length]? = some p := by
    obtain ⟨r, rfl⟩ := e3.pre
    rw [List.getElem?_append_left (by rw [List.length_append, ← rs.len]; show _ < _ + 1; omega), ← rs.len, List.getElem?_append_right (Nat.le_refl _), Nat.sub_self]
    rfl
  cases es : S1[S.length]? with
  | none => rw [es] at h3; exact h3.elim
  | some c =>
    rw [es] at h3
    cases c with
    | dic kvs =>
      cases kvs with
      | nil =>
        simp only at h3
        by_cases hc : L.length ≤ 15 ∧ (L.map (·.1)).Nodup
        · rw [if_pos hc] at h3
          obtain ⟨ws, g1, g2, g3⟩ := rs3.at_ hl es
          have ews : ws = [] := List.map_eq_nil_iff.mp g2
          subst ews
          refine ⟨g1, (L.map (·.1)).zip us, by rw [ep, zip_kv, List.map_map]; rfl, by rw [List.length_zip, List.length_map]; omega, ?_⟩
          have nd : (((L.map (·.1)).zip us).map (·.1)).Nodup := by rw [zip_fst _ _ (by rw [List.length_map]; exact lu)]; exact hc.2
          rw [show mergeK [] ((L.map (·.1)).zip us) = (L.map (·.1)).zip us from merge_nd _ [] nd]
          have ld := rds.length
          obtain ⟨ex, rs4⟩ := rs3.write (o := .dK ((L.map (·.1)).zip us)) (c' := .dic ((L.map (·.1)).zip ds)) hl es rfl rfl fun ex => ⟨_, upd_same, by rw [zip_fst _ _ (by rw [List.length_map]; exact lu), zip_fst _ _ (by rw [List.length_map, ← ld]; exact lu)], by
            rw [zip_snd _ _ (by rw [List.length_map]; exact lu), zip_snd _ _ (by rw [List.length_map, ← ld]; exact lu)]
            exact rds.mono ex⟩
          exact h3 _ _ m1 ex rs4 (.ref hl)
        · rw [if_neg hc] at h3
          exact h3.elim
      | cons a b => exact h3.elim
    | lst xs => exact h3.elim
    | rol xs => exact h3.elim
    | gone => exact h3.elim
end
end Dl

set_option Elab.async false
set_option linter.all false
set_option maxRecDepth 100000
namespace Dl
open PySem L2
/-! ## is None, is True; x += i -/
/-- the fuel of a while -/
def WF : Nat := 100000
def nonD : D → Bool
  | .non => true
  | _ => false
def isD : D → D → Option Bool
  | .raw _, _ => none
  | x, .non => some (nonD x)
  | .bl a, .bl b => some (decide (a = b))
  | _, _ => none
def gIs (x y : D) (S : Store) : Option (D × Store) := (isD x y).map fun b => (.bl b, S)
def gIsN (x y : D) (S : Store) : Option (D × Store) := (isD x y).map fun b => (.bl (!b), S)
theorem is_non {K : PySem.W.Frag} {m : List Addr} {H : Hp} {v : V} {d : D} (r : RD K m H v d) (hr : ∀ u, d ≠ .raw u) : decide (v = .non) = nonD d := by
  cases r with
  | non => rfl
  | bl b => rfl
  | int i => rfl
  | str h => rfl
  | tup h r => rfl
  | ref h => rfl
  | raw v => exact absurd rfl (hr v)
section
variable {X : Cx}
theorem o_is : OpR X (compareOp .Is) (rd2 X.K gIs) := by
  intro pins s σ H v u vv uu Q I rv ru ⟨m, x, y, S, hx, hy, rs, h⟩
  unfold gIs isD at h
  split at h
  · exact h.elim
  · rename_i x' hr
    cases hy
    refine op_isN pins s σ H _ _ vv uu Q I rv ru ⟨rfl, ?_⟩
    rw [is_non hx (fun w e => hr w e)]
    exact h _ _ m .refl rs (.bl _)
  · cases hx
    cases hy
    exact op_is_bl pins s σ H _ _ vv uu Q I rv ru ⟨_, _, rfl, rfl, h _ _ m .refl rs (.bl _)⟩
  · exact h.elim
theorem o_isn : OpR X (compareOp .IsNot) (rd2 X.K gIsN) := by
  intro pins s σ H v u vv uu Q I rv ru ⟨m, x, y, S, hx, hy, rs, h⟩
  unfold gIsN isD at h
  split at h
  · exact h.elim
  · rename_i x' hr
    cases hy
    refine op_notN pins s σ H _ _ vv uu Q I rv ru ⟨rfl, ?_⟩
    rw [is_non hx (fun w e => hr w e)]
    exact h _ _ m .refl rs (.bl _)
  · cases hx
    cases hy
    exact op_isnot_bl pins s σ H _ _ vv uu Q I rv ru ⟨_, _, rfl, rfl, h _ _ m .refl rs (.bl _)⟩
  · exact h.elim
def gAugAdd : D → D → Store → Option (D × Store)
  | .int i, .int j, S => some (.int (i + j), S)
  | _, _, _ => none
def gAugSub : D → D → Store → Option (D × Store)
  | .int i, .int j, S => some (.int (i - j), S)
  | _, _, _ => none
/-- x op= f -/
def sAug (j : Nat) (g : D → D → Store → Option (D × Store)) (f : EX) : SX := fun ρ S => match ρ[j]? with
  | some (some d) => (f ρ S).out ρ fun y S1 => match g d y S1 with
    | some (z, S2) => .nx (ρ.set j (some z)) S2
    | none => .no
  | _ => .no
theorem ip_addD : PIp X .Add (fun v u H Q => rd2 X.K gAugAdd v u H Q) := fun pins s σ H x y v u Q I rx ry ⟨m, d, e, S, hx, hy, rs, h⟩ => by
  unfold gAugAdd at h
  split at h
  · cases hx
    cases hy
    exact ip_add pins s σ H _ _ v u Q I rx ry ⟨_, _, rfl, rfl, h _ _ m .refl rs (.int _)⟩
  · exact h.elim
theorem ip_subD : PIp X .Sub (fun v u H Q => rd2 X.K gAugSub v u H Q) := fun pins s σ H x y v u Q I rx ry ⟨m, d, e, S, hx, hy, rs, h⟩ => by
  unfold gAugSub at h
  split at h
  · cases hx
    cases hy
    exact ip_sub pins s σ H _ _ v u Q I rx ry ⟨_, _, rfl, rfl, h _ _ m .refl rs (.int _)⟩
  · exact h.elim
variable {W : WX} {e : Expr} {f : EX} {pos : Pos}
theorem t_aug {op : Operator} {g : D → D → Store → Option (D × Store)} {j : Nat} {x : Str} {pos' : Pos} (hN : X.N.Nodup) (ho : PIp X op (fun v u H Q => rd2 X.K g v u H Q)) (he : PE X e (rdE (X.cq W) f)) (hi : X.N[j]? = some x := by rfl) (hx : Loc X.env.scope x := by first | exact .inl rfl | exact .inr rfl)
    (hf : X.fn x = true ∨ X.env.scope.names.lookup x = some .local := by first | exact .inl rfl | exact .inr rfl) : PS X (.AugAssign (.Name x pos') op e pos) (rdS (X.cq W) (sAug j g f)) := PSwk (ps_aug hN hi hx he ho hf) fun Dn σ H ⟨m, ρ, S, re, rs, q⟩ => by
  have q : PostS (X.cq W) m H Dn (match ρ[j]? with
    | some (some d) => (f ρ S).out ρ fun y S1 => match g d y S1 with
      | some (z, S2) => .nx (ρ.set j (some z)) S2
      | none => .no
    | _ => .no) := q
  cases ed : ρ[j]? with
  | none => rw [ed] at q; exact q.elim
  | some od =>
    cases od with
    | none => rw [ed] at q; exact q.elim
    | some d =>
      rw [ed] at q
      obtain ⟨v, hv, rd⟩ := re.at_ ed
      refine ⟨v, hv, m, ρ, S, re, rs, (Post.out re q).imp fun u H1 ⟨m1, y, S1, e1, rs1, rdy, re1, q1⟩ => ⟨m1, d, y, S1, rd.mono e1, rdy, rs1, ?_⟩⟩
      cases eg : g d y S1 with
      | none => rw [eg] at q1; exact q1.elim
      | some p =>
        obtain ⟨z, S2⟩ := p
        rw [eg] at q1
        exact fun w H2 m2 ex rs2 rz => q1 _ H2 m2 ex ((re1.mono ex).set rz j) rs2
end
end Dl

set_option Elab.async false
set_option linter.all false
set_option maxRecDepth 100000
namespace Dl
open PySem L2
/-! ## a def's promise, shown by evaluation under an open end -/
abbrev Sp (r : R D) (Q : R D → Prop) : Prop := Q r
def fin (n : Nat) : Out → R D
  | .rt d S' => cmp n d S'
  | .nx _ S' => cmp n .non S'
  | .ex x _ S' => .ex x S'
  | _ => .no
def So (n : Nat) (Q : R D → Prop) (o : Out) : Prop := Q (fin n o)
/-- the store T, the pool P at p, behind it the def's own cells -/
def st (T : Store) (p : Nat) (P : List D) (L : List Cell) : Store := T.set p (.lst P) ++ L
/-- the store T, behind it the def's own cells -/
def sx (T : Store) (L : List Cell) : Store := T ++ L
section
variable {n np ns : Nat} {g : SX} {ds : List D} {S T : Store} {Q : R D → Prop} {p q k : Nat} {P P' : List D} {L M : List Cell} {c : Cell} {d : D} {ρ : Env} {x : Exn}
theorem runB_fin (h : ds.length = np) : runB np ns g ds S = fin S.length (g (ds.map some ++ List.replicate (ns - np) none) S) := by
  unfold runB
  rw [if_pos h]
  cases g (ds.map some ++ List.replicate (ns - np) none) S <;> rfl
theorem sp_run (h : ds.length = np) (k : ∀ Q' : R D → Prop, (∀ r, Q r → Q' r) → So S.length Q' (g (ds.map some ++ List.replicate (ns - np) none) S)) : Sp (runB np ns g ds S) Q := by
  show Q _
  rw [runB_fin h]
  exact k Q fun _ h => h
theorem st_in (hp : S[p]? = some (.lst P)) : S = st S p P [] := by
  unfold st
  rw [List.append_nil]
  apply List.ext_getElem?
  intro i
  by_cases e : p = i
  · subst e
    rw [List.getElem?_set_self (List.getElem?_eq_some_iff.mp hp).1, hp]
  · rw [List.getElem?_set_ne e]
theorem sx_in : S = sx S [] := (List.append_nil S).symm
/-- with a pool -/
theorem sp_pool (h : ds.length = np) (hp : S[p]? = some (.lst P)) (k : p < S.length → ∀ Q' : R D → Prop, (∀ r, Q r → Q' r) → So S.length Q' (g (ds.map some ++ List.replicate (ns - np) none) (st S p P []))) : Sp (runB np ns g ds S) Q :=
  sp_run h fun Q' hQ => by
    have z := k (List.getElem?_eq_some_iff.mp hp).1 Q' hQ
    rwa [← st_in hp] at z
/-- without one -/
theorem sp_plain (h : ds.length = np) (k : ∀ Q' : R D → Prop, (∀ r, Q r → Q' r) → So S.length Q' (g (ds.map some ++ List.replicate (ns - np) none) (sx S []))) : Sp (runB np ns g ds S) Q :=
  sp_run h fun Q' hQ => by
    have z := k Q' hQ
    rwa [← sx_in] at z
theorem So_rt : So n Q (.rt d S) = Q (cmp n d S) := nr rfl
theorem So_nx : So n Q (.nx ρ S) = Q (cmp n .non S) := nr rfl
theorem So_ex : So n Q (.ex x ρ S) = Q (.ex x S) := nr rfl
/-! ### the store's normal forms -/
theorem st_len : (st T p P L).length = T.length + L.length := by unfold st; rw [List.length_append, List.length_set]
theorem st_p (h : p < T.length) : (st T p P L)[p]? = some (.lst P) := by
  unfold st
  rw [List.getElem?_append_left (by rw [List.length_set]; exact h), List.getElem?_set_self h]
theorem st_k : (st T p P L)[T.length + k]? = L[k]? := by
  unfold st
  rw [List.getElem?_append_right (by rw [List.length_set]; omega), List.length_set, Nat.add_sub_cancel_left]
theorem st_0 : (st T p P L)[T.length]? = L[0]? := st_k (k := 0)
theorem st_q (h : q < T.length) (e : q ≠ p) : (st T p P L)[q]? = T[q]? := by
  unfold st
  rw [List.getElem?_append_left (by rw [List.length_set]; exact h), List.getElem?_set_ne (Ne.symm e)]
theorem st_set_p (h : p < T.length) : (st T p P L).set p (.lst P') = st T p P' L := by
  unfold st
  rw [List.set_append_left _ _ (by rw [List.length_set]; exact h), List.set_set]
theorem st_set_k : (st T p P L).set (T.length + k) c = st T p P (L.set k c) := by
  unfold st
  rw [List.set_append_right _ _ (by rw [List.length_set]; omega), List.length_set, Nat.add_sub_cancel_left]
theorem st_set_0 : (st T p P L).set T.length c = st T p P (L.set 0 c) := st_set_k (k := 0)
theorem st_push : st T p P L ++ M = st T p P (L ++ M) := List.append_assoc ..
theorem sx_len : (sx T L).length = T.length + L.length := List.length_append ..
theorem sx_k : (sx T L)[T.length + k]? = L[k]? := by
  unfold sx
  rw [List.getElem?_append_right (by omega), Nat.add_sub_cancel_left]
theorem sx_0 : (sx T L)[T.length]? = L[0]? := sx_k (k := 0)
theorem sx_q (h : q < T.length) : (sx T L)[q]? = T[q]? := by
  unfold sx
  rw [List.getElem?_append_left h]
theorem sx_set_q (h : q < T.length) : (sx T L).set q c = sx (T.set q c) L := by
  unfold sx
  rw [List.set_append_left _ _ h]
theorem sx_set_k : (sx T L).set (T.length + k) c = sx T (L.set k c) := by
  unfold sx
  rw [List.set_append_right _ _ (by omega), Nat.add_sub_cancel_left]
theorem sx_set_0 : (sx T L).set T.length c = sx T (L.set 0 c) := sx_set_k (k := 0)
theorem sx_push : sx T L ++ M = sx T (L ++ M) := List.append_assoc ..
/-! ### what a def leaves -/
theorem SWf_set (hS : SWf n T = true) (hc : c.wf n = true) : SWf n (T.set q c) = true := List.all_eq_true.mpr fun x hx => by
  rcases List.mem_or_eq_of_mem_set hx with z | z
  · exact List.all_eq_true.mp hS x z
  · rw [z]; exact hc
theorem fin_p (hT : SWf T.length T = true) (hP : wfs T.length P = true) (hd : d.wf T.length = true) : cmp T.length d (st T p P L) = .ok d (T.set p (.lst P)) := by
  unfold cmp st
  have e : (T.set p (Cell.lst P) ++ L).take T.length = T.set p (.lst P) := List.take_left' (List.length_set ..)
  rw [e, if_pos (SWf_set (c := .lst P) hT hP), if_pos hd]
theorem fin_pl {xs : List D} (hT : SWf T.length T = true) (hP : wfs T.length P = true) (hL : L[k]? = some (.lst xs)) (hx : wfs T.length xs = true) : cmp T.length (.ref (T.length + k)) (st T p P L) = .ok (.ref T.length) (T.set p (.lst P) ++ [.lst xs]) := by
  unfold cmp
  have e : (st T p P L).take T.length = T.set p (.lst P) := List.take_left' (List.length_set ..)
  rw [e, if_pos (SWf_set (c := .lst P) hT hP), if_neg (show ¬ (D.ref (T.length + k)).wf T.length = true from fun z => by
    have z' : T.length + k < T.length := of_decide_eq_true z
    omega)]
  simp only [st_k, hL, newCell, hx, if_true]
theorem fin_pl0 {xs : List D} (hT : SWf T.length T = true) (hP : wfs T.length P = true) (hx : wfs T.length xs = true) : cmp T.length (.ref T.length) (st T p P (.lst xs :: L)) = .ok (.ref T.length) (T.set p (.lst P) ++ [.lst xs]) := fin_pl (k := 0) hT hP rfl hx
theorem fin_x (hT : SWf T.length T = true) (hd : d.wf T.length = true) : cmp T.length d (sx T L) = .ok d T := by
  unfold cmp sx
  rw [List.take_left' rfl, if_pos hT, if_pos hd]
theorem fin_xl {xs : List D} (hT : SWf T.length T = true) (hL : L[k]? = some (.lst xs)) (hx : wfs T.length xs = true) : cmp T.length (.ref (T.length + k)) (sx T L) = .ok (.ref T.length) (T ++ [.lst xs]) := by
  unfold cmp
  have e : (sx T L).take T.length = T := List.take_left' rfl
  rw [e, if_pos hT, if_neg (show ¬ (D.ref (T.length + k)).wf T.length = true from fun z => by
    have z' : T.length + k < T.length := of_decide_eq_true z
    omega)]
  simp only [sx_k, hL, newCell, hx, if_true]
theorem fin_xl0 {xs : List D} (hT : SWf T.length T = true) (hx : wfs T.length xs = true) : cmp T.length (.ref T.length) (sx T (.lst xs :: L)) = .ok (.ref T.length) (T ++ [.lst xs]) := fin_xl (k := 0) hT rfl hx
theorem Qp (hT : SWf T.length T = true) (hP : wfs T.length P = true) (hd : d.wf T.length = true) (h : Q (.ok d (T.set p (.lst P)))) : Q (cmp T.length d (st T p P L)) := by rw [fin_p hT hP hd]; exact h
theorem Qpl {xs : List D} (hT : SWf T.length T = true) (hP : wfs T.length P = true) (hL : L[k]? = some (.lst xs)) (hx : wfs T.length xs = true) (h : Q (.ok (.ref T.length) (T.set p (.lst P) ++ [.lst xs]))) : Q (cmp T.length (.ref (T.length + k)) (st T p P L)) := by rw [fin_pl hT hP hL hx]; exact h
theorem Qpl0 {xs : List D} (hT : SWf T.length T = true) (hP : wfs T.length P = true) (hx : wfs T.length xs = true) (h : Q (.ok (.ref T.length) (T.set p (.lst P) ++ [.lst xs]))) : Q (cmp T.length (.ref T.length) (st T p P (.lst xs :: L))) := by rw [fin_pl0 hT hP hx]; exact h
theorem Qx (hT : SWf T.length T = true) (hd : d.wf T.length = true) (h : Q (.ok d T)) : Q (cmp T.length d (sx T L)) := by rw [fin_x hT hd]; exact h
theorem Qxl {xs : List D} (hT : SWf T.length T = true) (hL : L[k]? = some (.lst xs)) (hx : wfs T.length xs = true) (h : Q (.ok (.ref T.length) (T ++ [.lst xs]))) : Q (cmp T.length (.ref (T.length + k)) (sx T L)) := by rw [fin_xl hT hL hx]; exact h
theorem Qxl0 {xs : List D} (hT : SWf T.length T = true) (hx : wfs T.length xs = true) (h : Q (.ok (.ref T.length) (T ++ [.lst xs]))) : Q (cmp T.length (.ref T.length) (sx T (.lst xs :: L))) := by rw [fin_xl0 hT hx]; exact h
/-- nothing is new and nothing is bad -/
theorem fin_s (hS : S.length = n) (hd : d.wf n = true) : cmp n d S = .ok d S := cmp_same hS hd
end
/-! ### cells, read -/
def tyC : Option Cell → Option Ty
  | some (.lst _) => some .lst
  | some (.rol _) => some .lst
  | some (.dic _) => some .dic
  | _ => none
def lstC : Option Cell → Option (List D)
  | some (.lst xs) => some xs
  | some (.rol xs) => some xs
  | _ => none
def ixO (S : Store) : Option D → Option (D × Store)
  | some d => some (d, S)
  | none => none
def ixC (i : Int) (S : Store) : Option (List D) → Option (D × Store)
  | some xs => ixO S (atI xs i)
  | none => none
def ixS (S : Store) : Option Nat → Option (D × Store)
  | some c => some (.str ⟨#[c]⟩, S)
  | none => none
def lenC (S : Store) : Option (List D) → Option (D × Store)
  | some xs => some (.int xs.length, S)
  | none => none
def appC (l : Nat) (d : D) (S : Store) : Option Cell → Option (D × Store)
  | some (.lst xs) => if xs.length < LIM then some (.non, S.set l (.lst (xs ++ [d]))) else none
  | _ => none
def extC (l : Nat) (S : Store) : Option Cell → Option Cell → Option (D × Store)
  | some (.lst xs), some (.lst ys) => if xs.length + ys.length ≤ LIM then some (.non, S.set l (.lst (xs ++ ys))) else none
  | _, _ => none
def popC (l : Nat) (S : Store) : Option Cell → Option (D × Store)
  | some (.lst xs) => (xs[xs.length - 1]?).map fun d => (d, S.set l (.lst xs.dropLast))
  | _ => none
def setC (l : Nat) (k : Int) (d : D) (S : Store) : Option Cell → Option Store
  | some (.lst xs) => (ixN xs.length k).map fun j => S.set l (.lst (xs.set j d))
  | _ => none
def catC (S : Store) : Option Cell → Option Cell → Option (D × Store)
  | some (.lst xs), some (.lst ys) => if xs.length + ys.length ≤ LIM then some (.ref S.length, S ++ [.lst (xs ++ ys)]) else none
  | _, _ => none
def tupC (S : Store) : Option (List D) → Option (D × Store)
  | some xs => some (.tup xs, S)
  | none => none
def newC (S : Store) : Option (List D) → Option (D × Store)
  | some xs => some (.ref S.length, S ++ [.lst xs])
  | none => none
def slC (lo hi : Option Int) (S : Store) : Option (List D) → Option (D × Store)
  | some xs => some (.ref S.length, S ++ [.lst (cutD xs lo hi)])
  | none => none
def truC : Option Cell → Option Bool
  | some (.lst xs) => some (!xs.isEmpty)
  | some (.rol xs) => some (!xs.isEmpty)
  | some (.dic kvs) => some (!kvs.isEmpty)
  | _ => none
def isO (T : Ty) (S : Store) : Option Ty → Option (D × Store)
  | some t => some (.bl (isiB t T), S)
  | none => none
def sumO (S : Store) : Option (List Int) → Option (D × Store)
  | some is => some (.int is.sum, S)
  | none => none
def sumC (S : Store) : Option (List D) → Option (D × Store)
  | some xs => sumO S (intsD xs)
  | none => none
def iaC (l : Nat) (S : Store) : Option (List D) → R (List D × Chk)
  | some xs => .ok (xs, [(l, xs)]) S
  | none => .no
section
variable {S : Store} {l r : Nat} {i k : Int} {d e : D} {xs ys : List D} {x : Str} {T : Ty} {t : Ty} {lo hi : Option Int}
theorem tyD_ref : tyD S (.ref l) = tyC S[l]? := by
  show (match S[l]? with | some (.lst _) => some Ty.lst | some (.rol _) => some Ty.lst | some (.dic _) => some Ty.dic | _ => none) = tyC S[l]?
  cases S[l]? with
  | none => rfl
  | some c => cases c <;> rfl
theorem tyC_lst : tyC (some (.lst xs)) = some .lst := nr rfl
theorem tyC_rol : tyC (some (.rol xs)) = some .lst := nr rfl
theorem tyC_dic {kvs : List (Key × D)} : tyC (some (.dic kvs)) = some .dic := nr rfl
theorem lstAt_C : lstAt S l = lstC S[l]? := by
  unfold lstAt
  cases S[l]? with
  | none => rfl
  | some c => cases c <;> rfl
theorem lstC_lst : lstC (some (.lst xs)) = some xs := nr rfl
theorem lstC_rol : lstC (some (.rol xs)) = some xs := nr rfl
theorem gIx_r : gIx (.ref l) (.int i) S = ixC i S (lstC S[l]?) := by
  show (lstAt S l).bind (fun xs => (atI xs i).map fun d => (d, S)) = _
  rw [lstAt_C]
  cases lstC S[l]? with
  | none => rfl
  | some xs =>
    show (atI xs i).map (fun d => (d, S)) = ixO S (atI xs i)
    cases atI xs i <;> rfl
theorem ixC_s : ixC i S (some xs) = ixO S (atI xs i) := nr rfl
theorem ixO_s : ixO S (some d) = some (d, S) := nr rfl
theorem gIx_t : gIx (.tup xs) (.int i) S = ixO S (atI xs i) := by
  show (atI xs i).map (fun d => (d, S)) = _
  cases atI xs i <;> rfl
theorem gIx_s : gIx (.str x) (.int i) S = ixS S (atI x.cps.toList i) := by
  show (atI x.cps.toList i).map _ = _
  cases atI x.cps.toList i <;> rfl
theorem ixS_s {c : Nat} : ixS S (some c) = some (.str ⟨#[c]⟩, S) := nr rfl
theorem atI_0 {α : Type} {a : α} {as : List α} : atI (a :: as) 0 = some a := by
  have h : atI (a :: as) ((0 : Nat) : Int) = (a :: as)[0]? := atI_nat (by rfl)
  exact h
theorem atI_1 {α : Type} {a b : α} {as : List α} : atI (a :: b :: as) 1 = some b := atI_nat (j := 1) rfl
theorem atI_2 {α : Type} {a b c : α} {as : List α} : atI (a :: b :: c :: as) 2 = some c := atI_nat (j := 2) rfl
theorem atI_3 {α : Type} {a b c d : α} {as : List α} : atI (a :: b :: c :: d :: as) 3 = some d := atI_nat (j := 3) rfl
theorem atI_4 {α : Type} {a b c d e : α} {as : List α} : atI (a :: b :: c :: d :: e :: as) 4 = some e := atI_nat (j := 4) rfl
theorem atI_5 {α : Type} {a b c d e f : α} {as : List α} : atI (a :: b :: c :: d :: e :: f :: as) 5 = some f := atI_nat (j := 5) rfl
theorem gLen_r : gLen [.ref l] S = lenC S (lstC S[l]?) := by
  show (lstAt S l).map _ = _
  rw [lstAt_C]
  cases lstC S[l]? <;> rfl
theorem lenC_s : lenC S (some xs) = some (.int xs.length, S) := nr rfl
theorem gAppend_r : gAppend (.ref l) [d] S = appC l d S S[l]? := by
  show (match S[l]? with | some (.lst xs) => if xs.length < LIM then some (D.non, S.set l (.lst (xs ++ [d]))) else none | _ => none) = _
  cases S[l]? with
  | none => rfl
  | some c => cases c <;> rfl
theorem appC_s (h : xs.length < 16777216) : appC l d S (some (.lst xs)) = some (.non, S.set l (.lst (xs ++ [d]))) := if_pos h
theorem gExtend_r : gExtend (.ref l) [.ref r] S = extC l S S[l]? S[r]? := by
  show (match S[l]?, S[r]? with | some (.lst xs), some (.lst ys) => if xs.length + ys.length ≤ LIM then some (D.non, S.set l (.lst (xs ++ ys))) else none | _, _ => none) = _
  cases S[l]? with
  | none => rfl
  | some c =>
    cases S[r]? with
    | none => cases c <;> rfl
    | some c' => cases c <;> cases c' <;> rfl
theorem extC_s (h : xs.length + ys.length ≤ 16777216) : extC l S (some (.lst xs)) (some (.lst ys)) = some (.non, S.set l (.lst (xs ++ ys))) := if_pos h
theorem gPop_r : gPop (.ref l) [] S = popC l S S[l]? := by
  show (match S[l]? with | some (.lst xs) => (xs[xs.length - 1]?).map fun d => (d, S.set l (.lst xs.dropLast)) | _ => none) = _
  cases S[l]? with
  | none => rfl
  | some c => cases c <;> rfl
theorem popC_s : popC l S (some (.lst (xs ++ [d]))) = some (d, S.set l (.lst xs)) := by
  show ((xs ++ [d])[(xs ++ [d]).length - 1]?).map _ = _
  rw [List.length_append, List.length_singleton, Nat.add_sub_cancel, List.getElem?_append_right (Nat.le_refl _), Nat.sub_self, List.dropLast_concat]
  rfl
theorem gSet_r : gSet (.ref l) (.int k) d S = setC l k d S S[l]? := by
  show (match S[l]? with | some (.lst xs) => (ixN xs.length k).map fun j => S.set l (.lst (xs.set j d)) | _ => none) = _
  cases S[l]? with
  | none => rfl
  | some c => cases c <;> rfl
theorem setC_s {m : Nat} (h : ixN xs.length k = some m) : setC l k d S (some (.lst xs)) = some (S.set l (.lst (xs.set m d))) := by
  show (ixN xs.length k).map _ = _
  rw [h]
  rfl
theorem setC_0 {a : D} : setC l 0 d S (some (.lst (a :: xs))) = some (S.set l (.lst (d :: xs))) := setC_s (m := 0) (xs := a :: xs) (by unfold ixN; rw [if_pos (by decide), if_pos (by rw [List.length_cons]; omega)]; rfl)
theorem setC_2 {a b c : D} : setC l 2 d S (some (.lst (a :: b :: c :: xs))) = some (S.set l (.lst (a :: b :: d :: xs))) := setC_s (m := 2) (xs := a :: b :: c :: xs) (by unfold ixN; rw [if_pos (by decide), if_pos (by rw [List.length_cons, List.length_cons, List.length_cons]; omega)]; rfl)
theorem gAdd_r : gAdd (.ref l) (.ref r) S = catC S S[l]? S[r]? := by
  show catL S l r = _
  unfold catL
  cases S[l]? with
  | none => rfl
  | some c =>
    cases S[r]? with
    | none => cases c <;> rfl
    | some c' => cases c <;> cases c' <;> rfl
theorem catC_s (h : xs.length + ys.length ≤ 16777216) : catC S (some (.lst xs)) (some (.lst ys)) = some (.ref S.length, S ++ [.lst (xs ++ ys)]) := if_pos h
/-- tuples, the left one empty or not -/
theorem gAdd_t (h : xs.length + ys.length ≤ 16777216) : gAdd (.tup xs) (.tup ys) S = some (.tup (xs ++ ys), S) := by
  cases xs with
  | nil => rfl
  | cons x xs => exact if_pos h
theorem gTuple_r : gTuple [.ref l] S = tupC S (lstC S[l]?) := by
  show (lstAt S l).map _ = _
  rw [lstAt_C]
  cases lstC S[l]? <;> rfl
theorem tupC_s : tupC S (some xs) = some (.tup xs, S) := nr rfl
theorem gTuple_t : gTuple [.tup xs] S = some (.tup xs, S) := nr rfl
theorem gList_r : gList [.ref l] S = newC S (lstC S[l]?) := by
  show (lstAt S l).map _ = _
  rw [lstAt_C]
  cases lstC S[l]? <;> rfl
theorem gList_t : gList [.tup xs] S = some (.ref S.length, S ++ [.lst xs]) := nr rfl
theorem newC_s : newC S (some xs) = some (.ref S.length, S ++ [.lst xs]) := nr rfl
theorem gSl_r : gSl (.ref l) lo hi S = slC lo hi S (lstC S[l]?) := by
  show (lstAt S l).map _ = _
  rw [lstAt_C]
  cases lstC S[l]? <;> rfl
theorem slC_s : slC lo hi S (some xs) = some (.ref S.length, S ++ [.lst (cutD xs lo hi)]) := nr rfl
theorem gSl_t : gSl (.tup xs) lo hi S = some (.tup (cutD xs lo hi), S) := nr rfl
theorem gSl_s : gSl (.str x) lo hi S = some (.str (cutS x lo hi), S) := nr rfl
theorem truD_ref : truD S (.ref l) = truC S[l]? := by
  show (match S[l]? with | some (.lst xs) => some (!xs.isEmpty) | some (.rol xs) => some (!xs.isEmpty) | some (.dic kvs) => some (!kvs.isEmpty) | _ => none) = _
  cases S[l]? with
  | none => rfl
  | some c => cases c <;> rfl
theorem truC_lst : truC (some (.lst xs)) = some (!xs.isEmpty) := nr rfl
theorem truD_non : truD S .non = some false := nr rfl
theorem truD_str : truD S (.str x) = some ((x.length : Int) != 0) := nr rfl
theorem isi_str : gIsi .str [d, .raw (.ty "str")] S = isO .str S (tyD S d) := by
  show (tyD S d).map (fun t => (D.bl (isiB t .str), S)) = _
  cases tyD S d <;> rfl
theorem isi_int : gIsi .int [d, .raw (.ty "int")] S = isO .int S (tyD S d) := by
  show (tyD S d).map (fun t => (D.bl (isiB t .int), S)) = _
  cases tyD S d <;> rfl
theorem isi_bool : gIsi .bl [d, .raw (.ty "bool")] S = isO .bl S (tyD S d) := by
  show (tyD S d).map (fun t => (D.bl (isiB t .bl), S)) = _
  cases tyD S d <;> rfl
theorem isi_tup : gIsi .tup [d, .raw (.ty "tuple")] S = isO .tup S (tyD S d) := by
  show (tyD S d).map (fun t => (D.bl (isiB t .tup), S)) = _
  cases tyD S d <;> rfl
theorem isi_lst : gIsi .lst [d, .raw (.ty "list")] S = isO .lst S (tyD S d) := by
  show (tyD S d).map (fun t => (D.bl (isiB t .lst), S)) = _
  cases tyD S d <;> rfl
theorem isO_s : isO T S (some t) = some (.bl (isiB t T), S) := nr rfl
theorem isB_1 : isiB .str .str = true := nr rfl
theorem isB_2 : isiB .tup .str = false := nr rfl
theorem isB_3 : isiB .int .str = false := nr rfl
theorem isB_4 : isiB .lst .str = false := nr rfl
theorem isB_5 : isiB .non .str = false := nr rfl
theorem isB_6 : isiB .bl .str = false := nr rfl
theorem isB_7 : isiB .str .int = false := nr rfl
theorem isB_8 : isiB .tup .int = false := nr rfl
theorem isB_9 : isiB .int .int = true := nr rfl
theorem isB_10 : isiB .lst .int = false := nr rfl
theorem isB_11 : isiB .non .int = false := nr rfl
theorem isB_12 : isiB .bl .int = true := nr rfl
theorem isB_13 : isiB .str .tup = false := nr rfl
theorem isB_14 : isiB .tup .tup = true := nr rfl
theorem isB_15 : isiB .int .tup = false := nr rfl
theorem isB_16 : isiB .lst .tup = false := nr rfl
theorem isB_17 : isiB .non .tup = false := nr rfl
theorem isB_18 : isiB .bl .tup = false := nr rfl
theorem isB_19 : isiB .str .bl = false := nr rfl
theorem isB_20 : isiB .tup .bl = false := nr rfl
theorem isB_21 : isiB .int .bl = false := nr rfl
theorem isB_22 : isiB .bl .bl = true := nr rfl
theorem isB_23 : isiB .dic .str = false := nr rfl
theorem isB_24 : isiB .dic .tup = false := nr rfl
theorem isB_25 : isiB .lst .lst = true := nr rfl
theorem isB_26 : isiB .tup .lst = false := nr rfl
theorem gSum_r : gSum [.ref l] S = sumC S (lstC S[l]?) := by
  show ((lstAt S l).bind intsD).map _ = _
  rw [lstAt_C]
  cases lstC S[l]? with
  | none => rfl
  | some xs =>
    show (intsD xs).map (fun ns => (D.int ns.sum, S)) = sumO S (intsD xs)
    cases intsD xs <;> rfl
theorem sumC_s : sumC S (some xs) = sumO S (intsD xs) := nr rfl
theorem sumO_s {is : List Int} : sumO S (some is) = some (.int is.sum, S) := nr rfl
theorem gMin_ {a b : Int} : gMin2 [.int a, .int b] S = some (.int (if b < a then b else a), S) := nr rfl
theorem gMax_ {a b : Int} : gMax2 [.int a, .int b] S = some (.int (if b > a then b else a), S) := nr rfl
theorem qEq_int {a b : Int} : gEq (.int a) (.int b) S = some (.bl (decide (a = b)), S) := by
  rw [gEq_int]
  by_cases e : a = b
  · rw [decide_eq_true e, e, beq_self_eq_true]
  · rw [decide_eq_false e, beq_eq_false_iff_ne.mpr e]
theorem qNe_int {a b : Int} : gNe (.int a) (.int b) S = some (.bl (!decide (a = b)), S) := by
  rw [gNe_int]
  by_cases e : a = b
  · rw [decide_eq_true e, e, beq_self_eq_true]
  · rw [decide_eq_false e, beq_eq_false_iff_ne.mpr e]
theorem qEq_str {a b : Str} : gEq (.str a) (.str b) S = some (.bl (decide (a = b)), S) := by
  rw [gEq_str]
  by_cases e : a = b
  · rw [decide_eq_true e, e, beq_self_eq_true]
  · rw [decide_eq_false e, beq_eq_false_iff_ne.mpr e]
theorem qNe_str {a b : Str} : gNe (.str a) (.str b) S = some (.bl (!decide (a = b)), S) := by
  rw [gNe_str]
  by_cases e : a = b
  · rw [decide_eq_true e, e, beq_self_eq_true]
  · rw [decide_eq_false e, beq_eq_false_iff_ne.mpr e]
theorem gNeg_z : gNeg (.int i) S = some (.int (-i), S) := nr rfl
end
/-! ### slices -/
theorem sIx_nat (n d k : Nat) (h : k ≤ n) : HT.sIx n d (some (k : Int)) = k := by
  unfold HT.sIx
  simp only
  split
  · omega
  · rw [Int.toNat_natCast]; omega
theorem cut_take {α : Type} {xs : List α} {k : Int} (h0 : 0 ≤ k) : cutD xs none (some k) = xs.take k.toNat := by
  unfold cutD HT.sIx
  simp only
  rw [if_neg (by omega)]
  simp only [List.drop_zero, Nat.sub_zero]
  rcases Nat.le_total k.toNat xs.length with h | h
  · rw [Nat.min_eq_left h]
  · rw [Nat.min_eq_right h, List.take_length, List.take_of_length_le h]
theorem cut_drop {α : Type} {xs : List α} {k : Int} (h0 : 0 ≤ k) : cutD xs (some k) none = xs.drop k.toNat := by
  unfold cutD HT.sIx
  simp only
  rw [if_neg (by omega)]
  rcases Nat.le_total k.toNat xs.length with h | h
  · rw [Nat.min_eq_left h, List.take_of_length_le (by rw [List.length_drop]; omega)]
  · rw [Nat.min_eq_right h, List.drop_length, List.drop_of_length_le h, List.take_nil]
theorem cut_mid {α : Type} {xs : List α} {j k : Int} (h0 : 0 ≤ j) (h1 : j ≤ k) (h2 : k ≤ xs.length) : cutD xs (some j) (some k) = (xs.drop j.toNat).take (k.toNat - j.toNat) := by
  unfold cutD HT.sIx
  simp only
  rw [if_neg (by omega), if_neg (by omega), Nat.min_eq_left (by omega), Nat.min_eq_left (by omega)]
theorem cut_init {α : Type} {xs : List α} : cutD xs none (some (-1)) = xs.dropLast := by
  unfold cutD HT.sIx
  simp only
  rw [if_pos (by decide), List.drop_zero, List.dropLast_eq_take, Nat.sub_zero]
  congr 1
  omega
theorem atI_last {α : Type} {xs : List α} {a : α} : atI (xs ++ [a]) (-1) = some a := L2.atI_last _ _
/-! ### loops -/
def Tn (I : Env → Store → Prop) (P : Out → Prop) : Out → Prop
  | .nx ρ S => I ρ S
  | .ct ρ S => I ρ S
  | .bk ρ S => P (.nx ρ S)
  | .rt d S => P (.rt d S)
  | .ex x ρ S => P (.ex x ρ S)
  | .no => False
section
variable {tg : D → SX} {body h : SX} {k : Chk} {P : Out → Prop}
theorem Tn_nx {I : Env → Store → Prop} {ρ : Env} {S : Store} : Tn I P (.nx ρ S) = I ρ S := nr rfl
theorem Tn_ct {I : Env → Store → Prop} {ρ : Env} {S : Store} : Tn I P (.ct ρ S) = I ρ S := nr rfl
theorem Tn_bk {I : Env → Store → Prop} {ρ : Env} {S : Store} : Tn I P (.bk ρ S) = P (.nx ρ S) := nr rfl
theorem Tn_rt {I : Env → Store → Prop} {d : D} {S : Store} : Tn I P (.rt d S) = P (.rt d S) := nr rfl
theorem Tn_ex {I : Env → Store → Prop} {x : Exn} {ρ : Env} {S : Store} : Tn I P (.ex x ρ S) = P (.ex x ρ S) := nr rfl
theorem forQ' (I : Nat → Env → Store → Prop) {all : List D} (hs : ∀ j d ρ S, all[j]? = some d → I j ρ S → chkOk k S ∧ ∃ ρ1 S1, tg d ρ S = .nx ρ1 S1 ∧ Tn (I (j + 1)) P (body ρ1 S1))
    (he : ∀ ρ S, I all.length ρ S → chkOk k S ∧ P (.nx ρ S)) : ∀ (xs : List D) (i : Nat) (ρ : Env) (S : Store), all.drop i = xs → i + xs.length = all.length → I i ρ S → P (runF tg body k xs ρ S)
  | [], i, ρ, S, _, hi, h0 => by
    have hi : i = all.length := hi
    subst hi
    obtain ⟨h1, h2⟩ := he ρ S h0
    unfold runF
    rw [if_pos h1]
    exact h2
  | d :: ds, i, ρ, S, e, hi, h0 => by
    have hd : all[i]? = some d := by
      have := congrArg (fun l => l[0]?) e
      simpa using this
    have ht : all.drop (i + 1) = ds := by
      rw [← List.drop_drop, e]
      rfl
    have hi' : i + 1 + ds.length = all.length := by rw [← hi, List.length_cons]; omega
    obtain ⟨h1, ρ1, S1, h2, h3⟩ := hs i d ρ S hd h0
    unfold runF
    rw [if_pos h1, h2]
    show P (match body ρ1 S1 with
      | .nx ρ2 S2 => runF tg body k ds ρ2 S2
      | .ct ρ2 S2 => runF tg body k ds ρ2 S2
      | .bk ρ2 S2 => .nx ρ2 S2
      | o => o)
    cases eb : body ρ1 S1 with
    | nx ρ2 S2 => rw [eb] at h3; exact forQ' I hs he ds (i + 1) ρ2 S2 ht hi' h3
    | ct ρ2 S2 => rw [eb] at h3; exact forQ' I hs he ds (i + 1) ρ2 S2 ht hi' h3
    | bk ρ2 S2 => rw [eb] at h3; exact h3
    | rt d S2 => rw [eb] at h3; exact h3
    | ex x ρ2 S2 => rw [eb] at h3; exact h3
    | no => rw [eb] at h3; exact h3.elim
/-- a for loop by an invariant, something behind it -/
theorem forQ (I : Nat → Env → Store → Prop) {all : List D} {ρ : Env} {S : Store} (h0 : I 0 ρ S) (hs : ∀ j d ρ S, all[j]? = some d → I j ρ S → chkOk k S ∧ ∃ ρ1 S1, tg d ρ S = .nx ρ1 S1 ∧ Tn (I (j + 1)) (fun o => P (o.seq h)) (body ρ1 S1))
    (he : ∀ ρ S, I all.length ρ S → chkOk k S ∧ P (h ρ S)) : P ((runF tg body k all ρ S).seq h) :=
  forQ' (P := fun o => P (o.seq h)) I hs he all 0 ρ S rfl (Nat.zero_add _) h0
/-- the same, nothing behind it -/
theorem forQe (I : Nat → Env → Store → Prop) {all : List D} {ρ : Env} {S : Store} (h0 : I 0 ρ S) (hs : ∀ j d ρ S, all[j]? = some d → I j ρ S → chkOk k S ∧ ∃ ρ1 S1, tg d ρ S = .nx ρ1 S1 ∧ Tn (I (j + 1)) P (body ρ1 S1))
    (he : ∀ ρ S, I all.length ρ S → chkOk k S ∧ P (.nx ρ S)) : P (runF tg body k all ρ S) :=
  forQ' I hs he all 0 ρ S rfl (Nat.zero_add _) h0
/-- over a range from lo -/
theorem rng_get {lo : Int} {n j : Nat} {d : D} (h : (rng lo n)[j]? = some d) : j < n ∧ d = .int (lo + j) := by
  unfold rng at h
  rw [List.getElem?_map] at h
  by_cases z : j < n
  · rw [List.getElem?_range z] at h
    cases h
    exact ⟨z, rfl⟩
  · rw [List.getElem?_eq_none (by rw [List.length_range]; omega)] at h
    cases h
/-- a while loop: what is left falls -/
theorem whileQ' {t : TX} (I : Nat → Env → Store → Prop) (hs : ∀ j ρ S, I j ρ S → (∃ S1, t ρ S = .ok false S1 ∧ P (.nx ρ S1)) ∨ ∃ S1, t ρ S = .ok true S1 ∧ Tn (fun ρ S => ∃ i, i < j ∧ I i ρ S) P (body ρ S1)) :
    ∀ (m j : Nat) (ρ : Env) (S : Store), j < m → I j ρ S → P (runW t body m ρ S)
  | 0, j, _, _, h, _ => absurd h (Nat.not_lt_zero _)
  | m + 1, j, ρ, S, hj, h0 => by
    unfold runW
    rcases hs j ρ S h0 with ⟨S1, e, q⟩ | ⟨S1, e, q⟩
    · rw [e]; exact q
    · rw [e]
      show P (match body ρ S1 with
        | .nx ρ2 S2 => runW t body m ρ2 S2
        | .ct ρ2 S2 => runW t body m ρ2 S2
        | .bk ρ2 S2 => .nx ρ2 S2
        | o => o)
      cases eb : body ρ S1 with
      | nx ρ2 S2 => rw [eb] at q; obtain ⟨i, hi, q⟩ := q; exact whileQ' I hs m i ρ2 S2 (by omega) q
      | ct ρ2 S2 => rw [eb] at q; obtain ⟨i, hi, q⟩ := q; exact whileQ' I hs m i ρ2 S2 (by omega) q
      | bk ρ2 S2 => rw [eb] at q; exact q
      | rt d S2 => rw [eb] at q; exact q
      | ex x ρ2 S2 => rw [eb] at q; exact q
      | no => rw [eb] at q; exact q.elim
/-- a comprehension by an invariant: what stands in the new list after j turns, and in what store -/
theorem compQ {l : Nat} {ρ : Env} {g : Cg} {ft : TX} {fe : EX} (I : Nat → List D → Store → Prop) {all : List D} (hl : all.length ≤ 1000000)
    (hs : ∀ j d acc S, all[j]? = some d → acc.length ≤ j → S[l]? = some (.lst acc) → I j acc S → chkOk k S ∧ ∃ ρ1, g.put d ρ = some ρ1 ∧ ∃ b S2, ft ρ1 S = .ok b S2 ∧ S2[l]? = some (.lst acc) ∧
      (b = false → I (j + 1) acc S2) ∧ (b = true → ∃ e S3, fe ρ1 S2 = .ok e S3 ∧ S3[l]? = some (.lst acc) ∧ I (j + 1) (acc ++ [e]) (S3.set l (.lst (acc ++ [e])))))
    (he : ∀ acc S, I all.length acc S → chkOk k S) :
    ∀ (xs : List D) (i : Nat) (acc : List D) (S : Store), all.drop i = xs → i + xs.length = all.length → acc.length ≤ i → S[l]? = some (.lst acc) → I i acc S → ∃ acc' S', acc'.length ≤ all.length ∧ S'[l]? = some (.lst acc') ∧ I all.length acc' S' ∧ runC l ρ g ft fe k xs S = .ok (.ref l) S'
  | [], i, acc, S, _, hi, ha, hS, h0 => by
    have hi : i = all.length := hi
    subst hi
    refine ⟨acc, S, ha, hS, h0, ?_⟩
    unfold runC
    rw [if_pos (he acc S h0)]
  | d :: ds, i, acc, S, e, hi, ha, hS, h0 => by
    have hd : all[i]? = some d := by
      have := congrArg (fun l => l[0]?) e
      simpa using this
    have ht : all.drop (i + 1) = ds := by
      rw [← List.drop_drop, e]
      rfl
    have hi' : i + 1 + ds.length = all.length := by rw [← hi, List.length_cons]; omega
    have hlt : i < all.length := by rw [← hi, List.length_cons]; omega
    obtain ⟨h1, ρ1, h2, b, S2, h3, h4, h5, h6⟩ := hs i d acc S hd ha hS h0
    unfold runC
    rw [if_pos h1]
    simp only [h2, h3]
    cases b with
    | false => exact compQ I hl hs he ds (i + 1) acc S2 ht hi' (by omega) h4 (h5 rfl)
    | true =>
      obtain ⟨e, S3, h7, h8, h9⟩ := h6 rfl
      simp only [h7, h8]
      rw [if_pos (show acc.length < LIM by show acc.length < 16777216; omega)]
      exact compQ I hl hs he ds (i + 1) (acc ++ [e]) _ ht hi' (by rw [List.length_append, List.length_singleton]; omega) (List.getElem?_set_self (List.getElem?_eq_some_iff.mp h8).1) h9
end
/-! ### what is walked, evaluated -/
noncomputable def kFor (tg : D → SX) (body : SX) (ρ : Env) : R (List D × Chk) → Out
  | .ok p S => runF tg body p.2 p.1 ρ S
  | .ex x S => .ex x ρ S
  | .no => .no
def kR1 : R D → R (List D × Chk)
  | .ok d S => match d with
    | .int j => if -(2 ^ 62) ≤ j ∧ j < 2 ^ 62 then .ok (rng 0 j.toNat, []) S else .no
    | _ => .no
  | .ex x S => .ex x S
  | .no => .no
def kR3 (d : D) : R D → R (List D × Chk)
  | .ok e S => match d, e with
    | .int i, .int j => if -(2 ^ 62) ≤ i ∧ i < 2 ^ 62 ∧ -(2 ^ 62) ≤ j ∧ j < 2 ^ 62 then .ok (rng i (j - i).toNat, []) S else .no
    | _, _ => .no
  | .ex x S => .ex x S
  | .no => .no
def kR2 (g : EX) (ρ : Env) : R D → R (List D × Chk)
  | .ok d S => kR3 d (g ρ S)
  | .ex x S => .ex x S
  | .no => .no
def kAny : R D → R (List D × Chk)
  | .ok d S => match d with
    | .ref l => iaC l S (lstC S[l]?)
    | .tup xs => .ok (xs, []) S
    | .str x => .ok (x.cps.toList.map fun c => .str ⟨#[c]⟩, []) S
    | _ => .no
  | .ex x S => .ex x S
  | .no => .no
noncomputable def kLc (vs : List Nat) (g : Cg) (ft : TX) (fe : EX) (ρ : Env) : R (List D × Chk) → R D
  | .ok p S => runC S.length (wipeD ρ vs) g ft fe p.2 p.1 (S ++ [.lst []])
  | .ex x S => .ex x S
  | .no => .no
section
variable {src : IX} {tg : D → SX} {body : SX} {f g : EX} {ρ : Env} {S : Store} {i j : Int} {l : Nat} {xs : List D} {x : Str} {k : Chk} {vs : List Nat} {cg : Cg} {ft : TX} {fe : EX}
theorem sF_ : sF src tg body ρ S = kFor tg body ρ (src ρ S) := by show (src ρ S).out ρ _ = _; cases src ρ S <;> rfl
theorem kFor_ : kFor tg body ρ (.ok (xs, k) S) = runF tg body k xs ρ S := nr rfl
theorem iR1_ : iR1 f ρ S = kR1 (f ρ S) := by show (f ρ S).bind _ = _; cases f ρ S <;> rfl
theorem kR1_ (h0 : -4611686018427387904 ≤ j) (h1 : j < 4611686018427387904) : kR1 (.ok (.int j) S) = .ok (rng 0 j.toNat, []) S := if_pos ⟨h0, h1⟩
theorem iR2_ : iR2 f g ρ S = kR2 g ρ (f ρ S) := by
  show (f ρ S).bind _ = _
  cases f ρ S with
  | ok d S1 =>
    show (g ρ S1).bind _ = kR3 d (g ρ S1)
    cases g ρ S1 <;> rfl
  | _ => rfl
theorem kR2_ {d : D} : kR2 g ρ (.ok d S) = kR3 d (g ρ S) := nr rfl
theorem kR3_ (h0 : -4611686018427387904 ≤ i) (h1 : i < 4611686018427387904) (h2 : -4611686018427387904 ≤ j) (h3 : j < 4611686018427387904) : kR3 (.int i) (.ok (.int j) S) = .ok (rng i (j - i).toNat, []) S := if_pos ⟨h0, h1, h2, h3⟩
theorem iA_ : iA f ρ S = kAny (f ρ S) := by
  show (f ρ S).bind _ = _
  cases f ρ S with
  | ok d S1 =>
    cases d with
    | ref l =>
      show (match lstAt S1 l with | some xs => R.ok (xs, [(l, xs)]) S1 | none => .no) = iaC l S1 (lstC S1[l]?)
      rw [lstAt_C]
      cases lstC S1[l]? <;> rfl
    | _ => rfl
  | _ => rfl
theorem kAny_r : kAny (.ok (.ref l) S) = iaC l S (lstC S[l]?) := nr rfl
theorem kAny_t : kAny (.ok (.tup xs) S) = .ok (xs, []) S := nr rfl
theorem kAny_s : kAny (.ok (.str x) S) = .ok (x.cps.toList.map fun c => .str ⟨#[c]⟩, []) S := nr rfl
theorem iaC_s : iaC l S (some xs) = .ok (xs, [(l, xs)]) S := nr rfl
theorem eLc_ : eLc vs src cg ft fe ρ S = kLc vs cg ft fe ρ (src ρ S) := by show (src ρ S).bind _ = _; cases src ρ S <;> rfl
theorem kLc_ : kLc vs cg ft fe ρ (.ok (xs, k) S) = runC S.length (wipeD ρ vs) cg ft fe k xs (S ++ [.lst []]) := nr rfl
theorem wipeD_c {v : Nat} : wipeD ρ (v :: vs) = (wipeD ρ vs).set v none := nr rfl
theorem wipeD_n : wipeD ρ [] = ρ := nr rfl
theorem tYes_ : tYesD ρ S = .ok true S := nr rfl
theorem put_one {d : D} {m : Nat} : (Cg.one m).put d ρ = some (ρ.set m (some d)) := nr rfl
theorem sAug_ {m : Nat} {gg : D → D → Store → Option (D × Store)} {d : D} (h : ρ[m]? = some (some d)) : sAug m gg f ρ S = kN m ρ (kE2 gg d (f ρ S)) := by
  unfold sAug
  rw [h]
  show (f ρ S).out ρ _ = _
  cases f ρ S with
  | ok y S1 =>
    show (match gg d y S1 with | some (z, S2) => Out.nx (ρ.set m (some z)) S2 | none => .no) = kN m ρ (toR (gg d y S1))
    cases gg d y S1 <;> rfl
  | _ => rfl
theorem gAug_i : gAugAdd (.int i) (.int j) S = some (.int (i + j), S) := nr rfl
theorem sBk_ : sBk ρ S = .bk ρ S := nr rfl
theorem sCt_ : sCt ρ S = .ct ρ S := nr rfl
theorem sW_ {n : Nat} {t : TX} : sW n t body ρ S = runW t body n ρ S := nr rfl
/-- flat cells -/
inductive FL : List Cell → Prop
  | nil : FL []
  | cons {c : Cell} {L : List Cell} (h : c.flat = true) (t : FL L) : FL (c :: L)
end
theorem SOK_FL_wf {n : Nat} {c : Cell} (h : c.flat = true) : Cell.wf n c = true := by
  cases c with
  | lst xs => exact wfs_flat h
  | rol xs => exact wfs_flat h
  | dic kvs => exact wfs_flat h
  | gone => rfl
theorem FL.app : ∀ {L M : List Cell}, FL L → FL M → FL (L ++ M)
  | [], _, _, h => h
  | _ :: _, _, .cons h t, h' => .cons h (FL.app t h')
theorem FL.one {c : Cell} (h : c.flat = true) : FL [c] := .cons h .nil
theorem FL.set : ∀ {L : List Cell} {i : Nat} {c : Cell}, FL L → c.flat = true → FL (L.set i c)
  | [], _, _, _, _ => .nil
  | _ :: _, 0, _, .cons _ t, h => .cons h t
  | _ :: _, i + 1, _, .cons h0 t, h => .cons h0 (FL.set t h)
theorem FL.mem : ∀ {L : List Cell} {c : Cell}, FL L → c ∈ L → c.flat = true
  | _ :: _, _, .cons h t, hc => by
    rcases List.mem_cons.mp hc with rfl | hc
    · exact h
    · exact FL.mem t hc
section
variable {S : Store} {ρ : Env} {g : Cg} {fe : EX} {k : Chk} {ds : List D} {L : List Cell} {m p : Nat} {P : List D}
/-- a comprehension that leaves the store as it is -/
theorem comp_sx (val : D → D) (hz : ds.length ≤ 1000000) (hL : L[m]? = some (.lst [])) (hk : ∀ a, chkOk k (sx S (L.set m (.lst a))))
    (h : ∀ d ∈ ds, ∃ ρ1, g.put d ρ = some ρ1 ∧ ∀ a, fe ρ1 (sx S (L.set m (.lst a))) = .ok (val d) (sx S (L.set m (.lst a)))) :
    runC (S.length + m) ρ g tYesD fe k ds (sx S L) = .ok (.ref (S.length + m)) (sx S (L.set m (.lst (ds.map val)))) := by
  have hm := (List.getElem?_eq_some_iff.mp hL).1
  have e0 : L.set m (.lst []) = L := by
    apply List.ext_getElem?
    intro i
    by_cases e : m = i
    · subst e; rw [List.getElem?_set_self hm, hL]
    · rw [List.getElem?_set_ne e]
  obtain ⟨acc, T, h1, h2, ⟨rfl, rfl⟩, e⟩ := compQ (l := S.length + m) (ρ := ρ) (g := g) (ft := tYesD) (fe := fe) (k := k) (fun j acc T => acc = (ds.take j).map val ∧ T = sx S (L.set m (.lst acc))) (all := ds) hz (fun j d acc T hd ha hT hI => by
    obtain ⟨rfl, rfl⟩ := hI
    obtain ⟨ρ1, q1, q2⟩ := h d (List.mem_of_getElem? hd)
    refine ⟨hk _, ρ1, q1, true, _, rfl, hT, (fun z => nomatch z), fun _ => ⟨_, _, q2 _, hT, ?_, ?_⟩⟩
    · have hj := (List.getElem?_eq_some_iff.mp hd)
      rw [List.take_succ, hd, List.map_append]
      rfl
    · rw [sx_set_k, List.set_set]) (fun acc T hI => by rw [hI.2]; exact hk _) ds 0 [] (sx S L) rfl (Nat.zero_add _) (Nat.le_refl _) (by rw [sx_k]; exact hL) ⟨rfl, by rw [e0]⟩
  rw [e, List.take_length]
theorem comp_sx0 (val : D → D) (hz : ds.length ≤ 1000000) (hk : ∀ a, chkOk k (sx S (.lst a :: L)))
    (h : ∀ d ∈ ds, ∃ ρ1, g.put d ρ = some ρ1 ∧ ∀ a, fe ρ1 (sx S (.lst a :: L)) = .ok (val d) (sx S (.lst a :: L))) :
    runC S.length ρ g tYesD fe k ds (sx S (.lst [] :: L)) = .ok (.ref S.length) (sx S (.lst (ds.map val) :: L)) := comp_sx (m := 0) (L := .lst [] :: L) val hz rfl hk h
end
/-! ### dict displays -/
def dgC (k : Key) : Option Cell → Option D
  | some (.dic kvs) => findK kvs k
  | _ => none
theorem gDget_r {S : Store} {l : Nat} {s : Str} : gDget (.ref l) (.str s) S = ixO S (dgC (.inr s) S[l]?) := by
  show (match S[l]?, keyD (.str s) with | some (.dic kvs), some k => (findK kvs k).map fun d => (d, S) | _, _ => none) = _
  cases S[l]? with
  | none => rfl
  | some c =>
    cases c with
    | dic kvs =>
      show (findK kvs (.inr s)).map (fun d => (d, S)) = ixO S (findK kvs (.inr s))
      cases findK kvs (.inr s) <;> rfl
    | _ => rfl
theorem dgC_s {k : Key} {kvs : List (Key × D)} : dgC k (some (.dic kvs)) = findK kvs k := nr rfl
/-- a display of constants -/
theorem eDct_c {L : List (Key × EX)} {ds : List D} {ρ : Env} {S : Store} (h : aL L ρ (S ++ [.dic []]) = .ok ds (S ++ [.dic []])) (hL : L.length ≤ 15 ∧ (L.map (·.1)).Nodup) : eDct L ρ S = .ok (.ref S.length) (S ++ [.dic ((L.map (·.1)).zip ds)]) := by
  unfold eDct
  rw [h]
  simp only [R.bind_ok, get_end]
  rw [if_pos hL, set_end]
end Dl

set_option Elab.async false
set_option linter.all false
set_option maxRecDepth 100000
namespace Lw
open PySem L2 Dl
/-! ## the mirror of the text, def by def -/
inductive FN where
  | goal_steps | over_left_steps | under_left_steps | premise_steps | last_steps | _law_cell | _law_mix | _law_pool | _law_draw | _law_base | _law_numbered | _law_lot | _law_kind | _law_spread | _law_sizes | _law_sequent | _law_heads | _law_lengths | _law_leads | _law_same | _law_step_right | _law_all_told | law
noncomputable def b_goal_steps (F : FN → List D → M D) : SX := (sQ (sIf (tV (eB (gIsi .str) (aC (eV 1) (aC (eC (.raw (.ty "str"))) aN)))) (sR (eB gLsd aN)) sP)
  (sQ (sA (eV 1) (tgU [(nm 4), (nm 5), (nm 6)]))
  (sQ (sIf (tE (e2 gEq (eV 4) (eC (.str "/")))) (sR (eB gLsd (aC (eB gTpl (aC (eC (.str "over right")) (aC (eC (.int 0)) (aC (eC (.int 0)) (aC (eB gTpl (aC (eB gTpl (aC (e2 gAdd (eV 0) (eB gTpl (aC (eV 6) aN))) (aC (eV 5) aN))) aN)) aN))))) aN))) sP)
  (sQ (sIf (tE (e2 gEq (eV 4) (eC (.str ">")))) (sR (eB gLsd (aC (eB gTpl (aC (eC (.str "under right")) (aC (eC (.int 0)) (aC (eC (.int 0)) (aC (eB gTpl (aC (eB gTpl (aC (e2 gAdd (eB gTpl (aC (eV 5) aN)) (eV 0)) (aC (eV 6) aN))) aN)) aN))))) aN))) sP)
  (sQ (sN 2 (eB gLsd aN))
  (sQ (sF (iR2 (eC (.int 1)) (eB gLen (aC (eV 0) aN))) (nm 3) (sE (eMt .lst gAppend (eV 2) (aC (eB gTpl (aC (eC (.str "pair right")) (aC (eV 3) (aC (eC (.int 0)) (aC (eB gTpl (aC (eB gTpl (aC (eSl (eV 0) oN (oI (eV 3))) (aC (eV 5) aN))) (aC (eB gTpl (aC (eSl (eV 0) (oI (eV 3)) oN) (aC (eV 6) aN))) aN))) aN))))) aN))))
  (sR (eV 2))))))))
noncomputable def b_over_left_steps (F : FN → List D → M D) : SX := (sQ (sA (e2 gIx (eV 0) (eV 2)) (tgU [(nm 5), (nm 6), (nm 7)]))
  (sQ (sN 3 (eB gLsd aN))
  (sQ (sF (iR2 (eC (.int 1)) (e2 gSub (eB gLen (aC (eV 0) aN)) (eV 2))) (nm 4) (sQ (sN 8 (e2 gAdd (e2 gAdd (eV 2) (eC (.int 1))) (eV 4)))
  (sQ (sN 9 (e2 gAdd (e2 gAdd (eSl (eV 0) oN (oI (eV 2))) (eB gTpl (aC (eV 6) aN))) (eSl (eV 0) (oI (eV 8)) oN)))
  (sE (eMt .lst gAppend (eV 3) (aC (eB gTpl (aC (eC (.str "over left")) (aC (eV 2) (aC (eV 4) (aC (eB gTpl (aC (eB gTpl (aC (eSl (eV 0) (oI (e2 gAdd (eV 2) (eC (.int 1)))) (oI (eV 8))) (aC (eV 7) aN))) (aC (eB gTpl (aC (eV 9) (aC (eV 1) aN))) aN))) aN))))) aN))))))
  (sR (eV 3)))))
noncomputable def b_under_left_steps (F : FN → List D → M D) : SX := (sQ (sA (e2 gIx (eV 0) (eV 2)) (tgU [(nm 5), (nm 6), (nm 7)]))
  (sQ (sN 3 (eB gLsd aN))
  (sQ (sF (iR2 (eC (.int 1)) (e2 gAdd (eV 2) (eC (.int 1)))) (nm 4) (sQ (sN 8 (e2 gSub (eV 2) (eV 4)))
  (sQ (sN 9 (e2 gAdd (e2 gAdd (eSl (eV 0) oN (oI (eV 8))) (eB gTpl (aC (eV 7) aN))) (eSl (eV 0) (oI (e2 gAdd (eV 2) (eC (.int 1)))) oN)))
  (sE (eMt .lst gAppend (eV 3) (aC (eB gTpl (aC (eC (.str "under left")) (aC (eV 2) (aC (eV 4) (aC (eB gTpl (aC (eB gTpl (aC (eSl (eV 0) (oI (eV 8)) (oI (eV 2))) (aC (eV 6) aN))) (aC (eB gTpl (aC (eV 9) (aC (eV 1) aN))) aN))) aN))))) aN))))))
  (sR (eV 3)))))
noncomputable def b_premise_steps (F : FN → List D → M D) : SX := (sQ (sN 3 (e2 gIx (eV 0) (eV 2)))
  (sQ (sIf (tV (eB (gIsi .str) (aC (eV 3) (aC (eC (.raw (.ty "str"))) aN)))) (sR (eB gLsd aN)) sP)
  (sQ (sA (eV 3) (tgU [(nm 5), (nm 6), (nm 7)]))
  (sQ (sIf (tE (e2 gEq (eV 5) (eC (.str "/")))) (sR (eF (F .over_left_steps) (aC (eV 0) (aC (eV 1) (aC (eV 2) aN))))) sP)
  (sQ (sIf (tE (e2 gEq (eV 5) (eC (.str ">")))) (sR (eF (F .under_left_steps) (aC (eV 0) (aC (eV 1) (aC (eV 2) aN))))) sP)
  (sQ (sN 4 (e2 gAdd (e2 gAdd (eSl (eV 0) oN (oI (eV 2))) (eB gTpl (aC (eV 6) (aC (eV 7) aN)))) (eSl (eV 0) (oI (e2 gAdd (eV 2) (eC (.int 1)))) oN)))
  (sR (eB gLsd (aC (eB gTpl (aC (eC (.str "pair left")) (aC (eV 2) (aC (eC (.int 0)) (aC (eB gTpl (aC (eB gTpl (aC (eV 4) (aC (eV 1) aN))) aN)) aN))))) aN)))))))))
noncomputable def b_last_steps (F : FN → List D → M D) : SX := (sQ (sA (eV 0) (tgU [(nm 3), (nm 4)]))
  (sQ (sN 1 (eB gLsd aN))
  (sQ (sIf (tA (tV (eB (gIsi .str) (aC (eV 4) (aC (eC (.raw (.ty "str"))) aN)))) (tE (e2 gEq (eV 3) (eB gTpl (aC (eV 4) aN))))) (sE (eMt .lst gAppend (eV 1) (aC (eB gTpl (aC (eC (.str "axiom")) (aC (eC (.int 0)) (aC (eC (.int 0)) (aC (eB gTpl aN) aN))))) aN))) sP)
  (sQ (sE (eMt .lst gExtend (eV 1) (aC (eF (F .goal_steps) (aC (eV 3) (aC (eV 4) aN))) aN)))
  (sQ (sF (iR1 (eB gLen (aC (eV 3) aN))) (nm 2) (sE (eMt .lst gExtend (eV 1) (aC (eF (F .premise_steps) (aC (eV 3) (aC (eV 4) (aC (eV 2) aN)))) aN))))
  (sR (eB gTuple (aC (eV 1) aN))))))))
noncomputable def b__law_cell (F : FN → List D → M D) : SX := (sQ (sIf (tE (e2 gLt (eV 1) (eB gLen (aC (eV 0) aN)))) (sR (eB gInt (aC (e2 gIx (eV 0) (eV 1)) aN))) sP)
  (sR (eC (.int 0))))
noncomputable def b__law_mix (F : FN → List D → M D) : SX := (sQ (sN 0 (e2 gMod (eB gInt (aC (e2 gAdd (e2 gAdd (e2 gMul (eV 0) (eV 0)) (e2 gMul (eC (.int 3)) (eV 0))) (eC (.int 7919))) aN)) (eC (.int 1000003))))
  (sR (e2 gMod (eB gInt (aC (e2 gAdd (e2 gAdd (e2 gMul (eV 0) (eV 0)) (e2 gMul (eC (.int 5)) (eV 0))) (eC (.int 104729))) aN)) (eC (.int 998244353)))))
noncomputable def b__law_pool (F : FN → List D → M D) : SX := (sQ (sN 2 (eF (F ._law_cell) (aC (eV 0) (aC (eV 1) aN))))
  (sQ (sIf (tE (e2 gGe (eV 2) (e2 gPow (eC (.int 10)) (eC (.int 18))))) (sR (eB gLsd (aC (e2 gSub (eV 2) (e2 gPow (eC (.int 10)) (eC (.int 18)))) (aC (e2 gMul (eC (.int 40009)) (e2 gAdd (eV 1) (eC (.int 1)))) (aC (eC (.int 0)) aN))))) sP)
  (sR (eB gLsd (aC (eC (.int 0)) (aC (e2 gAdd (e2 gMod (eB gInt (aC (eB gAbs (aC (eV 2) aN)) aN)) (eC (.int 2000000011))) (e2 gMul (eC (.int 7919)) (eV 1))) (aC (eC (.int 0)) aN)))))))
noncomputable def b__law_draw (F : FN → List D → M D) : SX := (sQ (sIf (tE (e2 gGt (e2 gIx (eV 0) (eC (.int 0))) (eC (.int 0)))) (sQ (sN 2 (e2 gMod (eB gInt (aC (e2 gIx (eV 0) (eC (.int 0))) aN)) (eV 1)))
  (sQ (sA (e2 gFdiv (e2 gIx (eV 0) (eC (.int 0))) (eV 1)) (tgIx (eV 0) (eC (.int 0))))
  (sR (eV 2)))) sP)
  (sQ (sA (e2 gAdd (e2 gIx (eV 0) (eC (.int 2))) (eC (.int 1))) (tgIx (eV 0) (eC (.int 2))))
  (sR (e2 gMod (eB gInt (aC (e2 gFdiv (eF (F ._law_mix) (aC (e2 gAdd (e2 gIx (eV 0) (eC (.int 1))) (e2 gMul (eC (.int 7368787)) (e2 gIx (eV 0) (eC (.int 2))))) aN)) (eC (.int 8))) aN)) (eV 1)))))
noncomputable def b__law_base (F : FN → List D → M D) : SX := (sQ (sN 1 (eC (.str "abcdefghijklmnopqrstuvwxyz")))
  (sQ (sN 2 (e2 gIx (eV 1) (eF (F ._law_draw) (aC (eV 0) (aC (eC (.int 26)) aN)))))
  (sQ (sF (iR1 (e2 gIx (eB gLsd (aC (eC (.int 1)) (aC (eC (.int 0)) (aC (eC (.int 0)) (aC (eC (.int 7)) (aC (eC (.int 2)) (aC (eC (.int 0)) (aC (eC (.int 3)) (aC (eC (.int 4)) (aC (eC (.int 5)) (aC (eC (.int 6)) aN))))))))))) (eF (F ._law_draw) (aC (eV 0) (aC (eC (.int 10)) aN))))) (nm 3) (sN 2 (e2 gAdd (eV 2) (e2 gIx (e2 gAdd (eV 1) (eC (.str "0123456789"))) (eF (F ._law_draw) (aC (eV 0) (aC (eC (.int 36)) aN)))))))
  (sR (eV 2)))))
noncomputable def b__law_numbered (F : FN → List D → M D) : SX := (sQ (sN 2 (eF (F ._law_draw) (aC (eV 0) (aC (eC (.int 4)) aN))))
  (sQ (sIf (tE (e2 gEq (eV 2) (eC (.int 2)))) (sR (e2 gAdd (e2 gAdd (eV 1) (eC (.str "."))) (eB gStr (aC (e2 gAdd (eC (.int 1)) (eF (F ._law_draw) (aC (eV 0) (aC (eC (.int 9)) aN)))) aN)))) sP)
  (sQ (sIf (tE (e2 gEq (eV 2) (eC (.int 3)))) (sR (e2 gAdd (e2 gAdd (eV 1) (eC (.str "."))) (eB gStr (aC (e2 gAdd (eC (.int 1)) (eF (F ._law_draw) (aC (eV 0) (aC (eC (.int 999999)) aN)))) aN)))) sP)
  (sR (eV 1)))))
noncomputable def b__law_lot (F : FN → List D → M D) : SX := (sQ (sN 1 (eF (F ._law_base) (aC (eV 0) aN)))
  (sQ (sN 2 (eB gLsd (aC (eF (F ._law_numbered) (aC (eV 0) (aC (eV 1) aN))) aN)))
  (sQ (sIf (tE (e2 gEq (eF (F ._law_draw) (aC (eV 0) (aC (eC (.int 2)) aN))) (eC (.int 0)))) (sN 1 (eF (F ._law_base) (aC (eV 0) aN))) sP)
  (sQ (sE (eMt .lst gAppend (eV 2) (aC (eF (F ._law_numbered) (aC (eV 0) (aC (eV 1) aN))) aN)))
  (sQ (sE (eMt .lst gAppend (eV 2) (aC (eF (F ._law_numbered) (aC (eV 0) (aC (eF (F ._law_base) (aC (eV 0) aN)) aN))) aN)))
  (sR (eV 2)))))))
noncomputable def b__law_kind (F : FN → List D → M D) : SX := (sQ (sIf (tE (e2 gLe (eV 2) (eC (.int 1)))) (sQ (sN 6 (eF (F ._law_draw) (aC (eV 0) (aC (eC (.int 8)) aN))))
  (sQ (sIf (tE (e2 gEq (eV 6) (eC (.int 7)))) (sR (eF (F ._law_numbered) (aC (eV 0) (aC (eF (F ._law_base) (aC (eV 0) aN)) aN)))) sP)
  (sR (e2 gIx (eV 1) (e2 gMod (eB gInt (aC (eV 6) aN)) (eC (.int 3))))))) sP)
  (sQ (sN 3 (e2 gAdd (eC (.int 1)) (eF (F ._law_draw) (aC (eV 0) (aC (e2 gSub (eV 2) (eC (.int 1))) aN)))))
  (sQ (sN 4 (e2 gIx (eC (.str "/>*")) (eF (F ._law_draw) (aC (eV 0) (aC (eC (.int 3)) aN)))))
  (sQ (sN 5 (eF (F ._law_kind) (aC (eV 0) (aC (eV 1) (aC (eV 3) aN)))))
  (sR (eB gTpl (aC (eV 4) (aC (eV 5) (aC (eF (F ._law_kind) (aC (eV 0) (aC (eV 1) (aC (e2 gSub (eV 2) (eV 3)) aN)))) aN)))))))))
noncomputable def b__law_spread (F : FN → List D → M D) : SX := (sQ (sN 4 (eB gLsd aN))
  (sQ (sF (iR1 (eV 1)) (nm 5) (sE (eMt .lst gAppend (eV 4) (aC (e2 gAdd (eC (.int 1)) (eF (F ._law_draw) (aC (eV 0) (aC (eB gMin2 (aC (eV 2) (aC (e2 gAdd (e2 gSub (e2 gSub (e2 gAdd (eV 3) (eC (.int 1))) (eB gSum (aC (eV 4) aN))) (eV 1)) (eV 5)) aN))) aN)))) aN))))
  (sR (eV 4))))
noncomputable def b__law_sizes (F : FN → List D → M D) : SX := (sQ (sN 1 (eF (F ._law_draw) (aC (eV 0) (aC (eC (.int 12)) aN))))
  (sQ (sIf (tE (e2 gLt (eV 1) (eC (.int 7)))) (sR (eF (F ._law_spread) (aC (eV 0) (aC (e2 gAdd (eC (.int 2)) (eF (F ._law_draw) (aC (eV 0) (aC (eC (.int 6)) aN)))) (aC (eC (.int 4)) (aC (eC (.int 80)) aN)))))) sP)
  (sQ (sIf (tE (e2 gLt (eV 1) (eC (.int 10)))) (sR (eF (F ._law_spread) (aC (eV 0) (aC (eC (.int 13)) (aC (eC (.int 2)) (aC (eC (.int 80)) aN)))))) sP)
  (sQ (sIf (tE (e2 gEq (eV 1) (eC (.int 10)))) (sR (eF (F ._law_spread) (aC (eV 0) (aC (e2 gAdd (eC (.int 2)) (eF (F ._law_draw) (aC (eV 0) (aC (eC (.int 40)) aN)))) (aC (eC (.int 40)) (aC (eC (.int 80)) aN)))))) sP)
  (sR (eF (F ._law_spread) (aC (eV 0) (aC (e2 gSub (eC (.int 41)) (eF (F ._law_draw) (aC (eV 0) (aC (eC (.int 2)) aN)))) (aC (eC (.int 2)) (aC (eC (.int 80)) aN))))))))))
noncomputable def b__law_sequent (F : FN → List D → M D) : SX := (sQ (sN 1 (eF (F ._law_lot) (aC (eV 0) aN)))
  (sQ (sN 2 (eF (F ._law_sizes) (aC (eV 0) aN)))
  (sQ (sN 3 (eLc [6] (iA (eV 2)) (.one 6) tYesD (eF (F ._law_kind) (aC (eV 0) (aC (eV 1) (aC (eV 6) aN))))))
  (sQ (sN 4 (eF (F ._law_draw) (aC (eV 0) (aC (eC (.int 8)) aN))))
  (sQ (sIf (tA (tE (e2 gEq (eV 4) (eC (.int 5)))) (tE (e2 gLe (e2 gAdd (e2 gSub (eB gSum (aC (eV 2) aN)) (e2 gIx (eV 2) (e1 gNeg (eC (.int 1))))) (e2 gIx (eV 2) (eC (.int 0)))) (eC (.int 80))))) (sA (e2 gIx (eV 3) (eC (.int 0))) (tgIx (eV 3) (e1 gNeg (eC (.int 1))))) sP)
  (sQ (sIf (tE (e2 gEq (eV 4) (eC (.int 6)))) (sN 3 (eB gLsd (aC (e2 gIx (eV 1) (eC (.int 0))) (aC (e2 gIx (eV 1) (eC (.int 0))) aN)))) sP)
  (sQ (sIf (tE (e2 gEq (eV 4) (eC (.int 7)))) (sQ (sN 5 (e2 gIx (eMt .str gSplit (e2 gIx (eV 1) (eC (.int 0))) (aC (eC (.str ".")) aN)) (eC (.int 0))))
  (sN 3 (eB gLsd (aC (e2 gIx (eV 1) (eC (.int 0))) (aC (eF (F ._law_numbered) (aC (eV 0) (aC (eV 5) aN))) aN))))) sP)
  (sR (eB gTpl (aC (eB gTuple (aC (eSl (eV 3) oN (oI (e1 gNeg (eC (.int 1))))) aN)) (aC (e2 gIx (eV 3) (e1 gNeg (eC (.int 1)))) aN)))))))))))
noncomputable def b__law_heads (F : FN → List D → M D) : SX := (sQ (sA (eV 0) (tgU [(nm 4), (nm 5)]))
  (sQ (sN 1 (eB gLen (aC (eV 4) aN)))
  (sQ (sN 2 (eB gLsd aN))
  (sQ (sIf (tV (eB (gIsi .str) (aC (eV 5) (aC (eC (.raw (.ty "str"))) aN)))) (sIf (tA (tE (e2 gEq (eV 1) (eC (.int 1)))) (tE (e2 gEq (e2 gIx (eV 4) (eC (.int 0))) (eV 5)))) (sE (eMt .lst gAppend (eV 2) (aC (eB gTpl (aC (eC (.str "axiom")) (aC (eC (.int 0)) (aC (eC (.int 0)) aN)))) aN))) sP) (sIf (tE (e2 gEq (e2 gIx (eV 5) (eC (.int 0))) (eC (.str "*")))) (sN 2 (eLc [3] (iR2 (eC (.int 1)) (eV 1)) (.one 3) tYesD (eB gTpl (aC (eC (.str "pair right")) (aC (eV 3) (aC (eC (.int 0)) aN)))))) (sE (eMt .lst gAppend (eV 2) (aC (eB gTpl (aC (e2 gDget (eDct [(.inr "/", (eC (.str "over right"))), (.inr ">", (eC (.str "under right")))]) (e2 gIx (eV 5) (eC (.int 0)))) (aC (eC (.int 0)) (aC (eC (.int 0)) aN)))) aN)))))
  (sQ (sF (iR1 (eV 1)) (nm 3) (sQ (sN 6 (eC (.str "")))
  (sQ (sIf (tN (tV (eB (gIsi .str) (aC (e2 gIx (eV 4) (eV 3)) (aC (eC (.raw (.ty "str"))) aN))))) (sN 6 (e2 gIx (e2 gIx (eV 4) (eV 3)) (eC (.int 0)))) sP)
  (sQ (sIf (tE (e2 gEq (eV 6) (eC (.str "/")))) (sN 2 (e2 gAdd (eV 2) (eLc [7] (iR2 (eC (.int 1)) (e2 gSub (eV 1) (eV 3))) (.one 7) tYesD (eB gTpl (aC (eC (.str "over left")) (aC (eV 3) (aC (eV 7) aN))))))) sP)
  (sQ (sIf (tE (e2 gEq (eV 6) (eC (.str ">")))) (sN 2 (e2 gAdd (eV 2) (eLc [7] (iR2 (eC (.int 1)) (e2 gAdd (eV 3) (eC (.int 1)))) (.one 7) tYesD (eB gTpl (aC (eC (.str "under left")) (aC (eV 3) (aC (eV 7) aN))))))) sP)
  (sIf (tE (e2 gEq (eV 6) (eC (.str "*")))) (sE (eMt .lst gAppend (eV 2) (aC (eB gTpl (aC (eC (.str "pair left")) (aC (eV 3) (aC (eC (.int 0)) aN)))) aN))) sP))))))
  (sR (eV 2)))))))
noncomputable def b__law_lengths (F : FN → List D → M D) : SX := (sQ (sA (eV 0) (tgU [(nm 2), (nm 3), (nm 4)]))
  (sQ (sIf (tE (e2 gEq (eV 2) (eC (.str "axiom")))) (sR (eB gLsd aN)) sP)
  (sQ (sIf (tE (e2 gEq (eV 2) (eC (.str "pair right")))) (sR (eB gLsd (aC (eV 3) (aC (e2 gSub (eV 1) (eV 3)) aN)))) sP)
  (sQ (sIf (tO (tE (e2 gEq (eV 2) (eC (.str "over left")))) (tE (e2 gEq (eV 2) (eC (.str "under left"))))) (sR (eB gLsd (aC (eV 4) (aC (e2 gSub (eV 1) (eV 4)) aN)))) sP)
  (sR (eB gLsd (aC (e2 gAdd (eV 1) (eC (.int 1))) aN)))))))
noncomputable def b__law_leads (F : FN → List D → M D) : SX := (sQ (sA (eV 0) (tgU [(nm 3), (nm 4), (nm 5)]))
  (sQ (sA (e2 gIx (eV 1) (eC (.int 0))) (tgU [(nm 6), (nm 7)]))
  (sQ (sIf (tE (e2 gEq (eV 3) (eC (.str "over right")))) (sR (eB gTpl (aC (eSl (eV 6) oN (oI (e1 gNeg (eC (.int 1))))) (aC (eB gTpl (aC (eC (.str "/")) (aC (eV 7) (aC (e2 gIx (eV 6) (e1 gNeg (eC (.int 1)))) aN)))) aN)))) sP)
  (sQ (sIf (tE (e2 gEq (eV 3) (eC (.str "under right")))) (sR (eB gTpl (aC (eSl (eV 6) (oI (eC (.int 1))) oN) (aC (eB gTpl (aC (eC (.str ">")) (aC (e2 gIx (eV 6) (eC (.int 0))) (aC (eV 7) aN)))) aN)))) sP)
  (sQ (sIf (tE (e2 gEq (eV 3) (eC (.str "pair left")))) (sR (eB gTpl (aC (e2 gAdd (e2 gAdd (eSl (eV 6) oN (oI (eV 4))) (eB gTpl (aC (eB gTpl (aC (eC (.str "*")) (aC (e2 gIx (eV 6) (eV 4)) (aC (e2 gIx (eV 6) (e2 gAdd (eV 4) (eC (.int 1)))) aN)))) aN))) (eSl (eV 6) (oI (e2 gAdd (eV 4) (eC (.int 2)))) oN)) (aC (eV 7) aN)))) sP)
  (sQ (sA (e2 gIx (eV 1) (eC (.int 1))) (tgU [(nm 8), (nm 9)]))
  (sQ (sIf (tE (e2 gEq (eV 3) (eC (.str "pair right")))) (sR (eB gTpl (aC (e2 gAdd (eV 6) (eV 8)) (aC (eB gTpl (aC (eC (.str "*")) (aC (eV 7) (aC (eV 9) aN)))) aN)))) sP)
  (sQ (sIf (tE (e2 gEq (eV 3) (eC (.str "over left")))) (sR (eB gTpl (aC (e2 gAdd (e2 gAdd (e2 gAdd (eSl (eV 8) oN (oI (eV 4))) (eB gTpl (aC (eB gTpl (aC (eC (.str "/")) (aC (e2 gIx (eV 8) (eV 4)) (aC (eV 7) aN)))) aN))) (eV 6)) (eSl (eV 8) (oI (e2 gAdd (eV 4) (eC (.int 1)))) oN)) (aC (eV 9) aN)))) sP)
  (sQ (sN 2 (e2 gSub (eV 4) (eV 5)))
  (sR (eB gTpl (aC (e2 gAdd (e2 gAdd (e2 gAdd (eSl (eV 8) oN (oI (eV 2))) (eV 6)) (eB gTpl (aC (eB gTpl (aC (eC (.str ">")) (aC (eV 7) (aC (e2 gIx (eV 8) (eV 2)) aN)))) aN))) (eSl (eV 8) (oI (e2 gAdd (eV 2) (eC (.int 1)))) oN)) (aC (eV 9) aN)))))))))))))
noncomputable def b__law_same (F : FN → List D → M D) : SX := (sQ (sIf (tV (eB (gIsi .str) (aC (eV 1) (aC (eC (.raw (.ty "str"))) aN)))) (sR (eAnd (eB (gIsi .str) (aC (eV 0) (aC (eC (.raw (.ty "str"))) aN))) (e2 gEq (eV 0) (eV 1)))) sP)
  (sQ (sIf (tV (eB (gIsi .int) (aC (eV 1) (aC (eC (.raw (.ty "int"))) aN)))) (sR (eAnd (eB (gIsi .int) (aC (eV 0) (aC (eC (.raw (.ty "int"))) aN))) (eAnd (eNot (eB (gIsi .bl) (aC (eV 0) (aC (eC (.raw (.ty "bool"))) aN)))) (e2 gEq (eV 0) (eV 1))))) sP)
  (sQ (sIf (tO (tN (tV (eB (gIsi .tup) (aC (eV 0) (aC (eC (.raw (.ty "tuple"))) aN))))) (tE (e2 gNe (eB gLen (aC (eV 0) aN)) (eB gLen (aC (eV 1) aN))))) (sR (eC (.bl false))) sP)
  (sQ (sF (iR1 (eB gLen (aC (eV 1) aN))) (nm 2) (sIf (tN (tV (eF (F ._law_same) (aC (e2 gIx (eV 0) (eV 2)) (aC (e2 gIx (eV 1) (eV 2)) aN))))) (sR (eC (.bl false))) sP))
  (sR (eC (.bl true)))))))
noncomputable def b__law_step_right (F : FN → List D → M D) : SX := (sQ (sIf (tO (tN (tV (eB (gIsi .tup) (aC (eV 2) (aC (eC (.raw (.ty "tuple"))) aN))))) (tO (tE (e2 gNe (eB gLen (aC (eV 2) aN)) (eC (.int 4)))) (tN (tV (eF (F ._law_same) (aC (eSl (eV 2) oN (oI (eC (.int 3)))) (aC (eV 1) aN))))))) (sR (eC (.bl false))) sP)
  (sQ (sN 3 (e2 gIx (eV 2) (eC (.int 3))))
  (sQ (sIf (tN (tV (eB (gIsi .tup) (aC (eV 3) (aC (eC (.raw (.ty "tuple"))) aN))))) (sR (eC (.bl false))) sP)
  (sQ (sF (iA (eV 3)) (nm 4) (sIf (tO (tN (tV (eB (gIsi .tup) (aC (eV 4) (aC (eC (.raw (.ty "tuple"))) aN))))) (tO (tE (e2 gNe (eB gLen (aC (eV 4) aN)) (eC (.int 2)))) (tN (tV (eB (gIsi .tup) (aC (e2 gIx (eV 4) (eC (.int 0))) (aC (eC (.raw (.ty "tuple"))) aN))))))) (sR (eC (.bl false))) sP))
  (sQ (sIf (tE (e2 gNe (eLc [4] (iA (eV 3)) (.one 4) tYesD (eB gLen (aC (e2 gIx (eV 4) (eC (.int 0))) aN))) (eF (F ._law_lengths) (aC (eV 1) (aC (eB gLen (aC (e2 gIx (eV 0) (eC (.int 0))) aN)) aN))))) (sR (eC (.bl false))) sP)
  (sR (eOr (e2 gEq (eB gLen (aC (eV 3) aN)) (eC (.int 0))) (eF (F ._law_same) (aC (eF (F ._law_leads) (aC (eV 1) (aC (eV 3) aN))) (aC (eV 0) aN))))))))))
noncomputable def b__law_all_told (F : FN → List D → M D) : SX := (sQ (sN 1 (eF (F .last_steps) (aC (eV 0) aN)))
  (sQ (sN 2 (eF (F ._law_heads) (aC (eV 0) aN)))
  (sQ (sIf (tO (tN (tV (eB (gIsi .tup) (aC (eV 1) (aC (eC (.raw (.ty "tuple"))) aN))))) (tE (e2 gNe (eB gLen (aC (eV 1) aN)) (eB gLen (aC (eV 2) aN))))) (sR (eC (.bl false))) sP)
  (sQ (sF (iR1 (eB gLen (aC (eV 2) aN))) (nm 3) (sIf (tN (tV (eF (F ._law_step_right) (aC (eV 0) (aC (e2 gIx (eV 2) (eV 3)) (aC (e2 gIx (eV 1) (eV 3)) aN)))))) (sR (eC (.bl false))) sP))
  (sR (eC (.bl true)))))))
noncomputable def b_law (F : FN → List D → M D) : SX := (sQ (sN 1 (eF (F ._law_sequent) (aC (eF (F ._law_pool) (aC (eV 0) (aC (eC (.int 0)) aN))) aN)))
  (sQ (sN 2 (eF (F ._law_sequent) (aC (eF (F ._law_pool) (aC (eV 0) (aC (eC (.int 1)) aN))) aN)))
  (sQ (sIf (tO (tN (tV (eF (F ._law_all_told) (aC (eV 1) aN)))) (tN (tV (eF (F ._law_all_told) (aC (eV 2) aN))))) (sR (eC (.bl false))) sP)
  (sR (eOr (e2 gGt (eB gLen (aC (e2 gIx (eV 1) (eC (.int 0))) aN)) (eC (.int 14))) (eF (F ._law_all_told) (aC (eV 1) aN)))))))
noncomputable def tab : Nat → FN → List D → M D
  | 0, _ => fun _ _ => .no
  | n + 1, .goal_steps => runB 2 7 (b_goal_steps (tab n))
  | n + 1, .over_left_steps => runB 3 10 (b_over_left_steps (tab n))
  | n + 1, .under_left_steps => runB 3 10 (b_under_left_steps (tab n))
  | n + 1, .premise_steps => runB 3 8 (b_premise_steps (tab n))
  | n + 1, .last_steps => runB 1 5 (b_last_steps (tab n))
  | n + 1, ._law_cell => runB 2 2 (b__law_cell (tab n))
  | n + 1, ._law_mix => runB 1 1 (b__law_mix (tab n))
  | n + 1, ._law_pool => runB 2 3 (b__law_pool (tab n))
  | n + 1, ._law_draw => runB 2 3 (b__law_draw (tab n))
  | n + 1, ._law_base => runB 1 4 (b__law_base (tab n))
  | n + 1, ._law_numbered => runB 2 3 (b__law_numbered (tab n))
  | n + 1, ._law_lot => runB 1 3 (b__law_lot (tab n))
  | n + 1, ._law_kind => runB 3 7 (b__law_kind (tab n))
  | n + 1, ._law_spread => runB 4 6 (b__law_spread (tab n))
  | n + 1, ._law_sizes => runB 1 2 (b__law_sizes (tab n))
  | n + 1, ._law_sequent => runB 1 7 (b__law_sequent (tab n))
  | n + 1, ._law_heads => runB 1 8 (b__law_heads (tab n))
  | n + 1, ._law_lengths => runB 2 5 (b__law_lengths (tab n))
  | n + 1, ._law_leads => runB 2 10 (b__law_leads (tab n))
  | n + 1, ._law_same => runB 2 3 (b__law_same (tab n))
  | n + 1, ._law_step_right => runB 3 5 (b__law_step_right (tab n))
  | n + 1, ._law_all_told => runB 1 4 (b__law_all_told (tab n))
  | n + 1, .law => runB 1 3 (b_law (tab n))
end Lw

set_option Elab.async false
set_option linter.all false
set_option maxRecDepth 100000
namespace Lw
open PySem L2 Dl
local macro_rules | `(tactic| walk_at "ev") => `(tactic| simp (disch := first | omega | assumption | (simp only [List.length_cons, List.length_nil]; omega)) only [sQ_, sP_, sE_, sR_, sIf_, sN_, sA_, tgO_nx, nm_, tgIx_, eC_, eV0, eV1, e1_, e2_, eB_, eF_, aN_, aC_, eMt_, eSl_, oN_, oI_, tV_, tE_, tA_, tO_, tN_, eIf_, eAnd_, eOr_, eNot_, eCh_,
  seq_nx, seq_rt, seq_bk, seq_ct, seq_ex, toR_some, toR_none, toT_some, truD_bl, truD_int, truD_tup, tyD_str, tyD_tup, tyD_int, tyD_bl, tyD_non,
  kE_, kR_, kIf_t, kIf_f, kN_, kA_, kIx1_, kIx2_, kIx3_, kE1_, kE21_, kE2_, kB_, kF_, kC1_, kC_, kM1_, kM2_, kM_, kS1_, kS2_, kS3_, kO_, kV_, kT_, kAn_t, kAn_f, kOr_t, kOr_f, kNo_, kIfE_t, kIfE_f, kVa_, kVa2_t, kVa2_f, kVo_, kVo2_t, kVo2_f, kVn_, kVn2_, kH_, kH1_, kH2_t, kH2_f, kH3_,
  List.getElem?_cons_zero, List.getElem?_cons_succ, List.set_cons_zero, List.set_cons_succ, gAdd_int, gAdd_str, gSub_int, gMul_l, gMul_r, gFdiv_int, gMod_int, gLt_int, gLe_int, gGt_int, gGe_int, gInt_int, gAbs_int, gLen_tup, gLen_str, gTpl_, gLsd_,
  Bool.false_eq_true, if_true, if_false, reduceIte, Option.map_some, Option.bind_some, gEq_int, gNe_int, gEq_str, gNe_str, Bool.not_true, Bool.not_false, decide_true, decide_false, List.length_singleton, List.length_cons, List.length_nil, List.map_cons, List.map_nil, Nat.sub_self, List.replicate_zero, List.append_nil, List.cons_append, List.nil_append, List.replicate_succ, Nat.reduceSub, Nat.reduceAdd, Nat.add_zero, Nat.zero_add, tgT_, tgL0, tgL1])
local macro_rules | `(tactic| walk_at "evs") => `(tactic| simp (disch := first | omega | assumption | (simp only [List.length_cons, List.length_nil]; omega)) only [sQ_, sP_, sE_, sR_, sIf_, sN_, sA_, tgO_nx, nm_, tgIx_, eC_, eV0, eV1, e1_, e2_, eB_, eF_, aN_, aC_, eMt_, eSl_, oN_, oI_, tV_, tE_, tA_, tO_, tN_, eIf_, eAnd_, eOr_, eNot_, eCh_,
  seq_nx, seq_rt, seq_bk, seq_ct, seq_ex, toR_some, toR_none, toT_some, truD_bl, truD_int, truD_tup, tyD_str, tyD_tup, tyD_int, tyD_bl, tyD_non,
  kE_, kR_, kIf_t, kIf_f, kN_, kA_, kIx1_, kIx2_, kIx3_, kE1_, kE21_, kE2_, kB_, kF_, kC1_, kC_, kM1_, kM2_, kM_, kS1_, kS2_, kS3_, kO_, kV_, kT_, kAn_t, kAn_f, kOr_t, kOr_f, kNo_, kIfE_t, kIfE_f, kVa_, kVa2_t, kVa2_f, kVo_, kVo2_t, kVo2_f, kVn_, kVn2_, kH_, kH1_, kH2_t, kH2_f, kH3_,
  List.getElem?_cons_zero, List.getElem?_cons_succ, List.set_cons_zero, List.set_cons_succ, gAdd_int, gAdd_str, gSub_int, gMul_l, gMul_r, gFdiv_int, gMod_int, gLt_int, gLe_int, gGt_int, gGe_int, gInt_int, gAbs_int, gLen_tup, gLen_str, gTpl_, gLsd_,
  Bool.false_eq_true, if_true, if_false, reduceIte, Option.map_some, Option.bind_some, gEq_int, gNe_int, gEq_str, gNe_str, Bool.not_true, Bool.not_false, decide_true, decide_false, List.length_singleton, List.length_cons, List.length_nil, List.map_cons, List.map_nil, Nat.sub_self, List.replicate_zero, List.append_nil, List.cons_append, List.nil_append, List.replicate_succ, Nat.reduceSub, Nat.reduceAdd, Nat.add_zero, Nat.zero_add, tgT_, tgL0, tgL1, *])
def mixZ (x : Int) : Int :=
  let y := (x * x + 3 * x + 7919) % 1000003
  (y * y + 5 * y + 104729) % 998244353
theorem mix_spec (n : Nat) (x : Int) (h0 : 0 ≤ x) (h1 : x < 18446744073709551616) (S : Store) : tab (n + 1) ._law_mix [.int x] S = .ok (.int (mixZ x)) S := by
  refine (runB_rt (g := b__law_mix (tab n)) rfl (d := .int (mixZ x)) (S' := S) ?_).trans (cmp_same rfl rfl)
  unfold b__law_mix
  have b1 : 0 ≤ (x * x + 3 * x + 7919) % 1000003 := Int.emod_nonneg _ (by decide)
  have b2 : (x * x + 3 * x + 7919) % 1000003 < 1000003 := Int.emod_lt_of_pos _ (by decide)
  walk_at "ev"
  rfl

def Pool (N : Nat) (P : List D) : Prop := ∃ a b c : Int, P = [.int a, .int b, .int c] ∧ 0 ≤ b ∧ b ≤ 10000000000 ∧ 0 ≤ c ∧ c ≤ N
theorem Pool.flat {N : Nat} {P : List D} (h : Pool N P) : flats P = true := by obtain ⟨a, b, c, rfl, _⟩ := h; rfl
theorem Pool.mono {N M : Nat} {P : List D} (h : Pool N P) (l : N ≤ M) : Pool M P := by obtain ⟨a, b, c, e, h1, h2, h3, h4⟩ := h; exact ⟨a, b, c, e, h1, h2, h3, by omega⟩
theorem draw_spec (n : Nat) {N p : Nat} {many : Int} {S : Store} {P : List D} (h : S[p]? = some (.lst P)) (hp : Pool N P) (hN : N ≤ 1000000) (h0 : 0 < many) (h1 : many < 1073741824) :
    ∃ d P', Pool (N + 1) P' ∧ 0 ≤ d ∧ d < many ∧ tab (n + 2) ._law_draw [.ref p, .int many] S = .ok (.int d) (S.set p (.lst P')) := by
  obtain ⟨a, b, c, rfl, b0, b1, c0, c1⟩ := hp
  have hl : p < S.length := (List.getElem?_eq_some_iff.mp h).1
  have e0 : gIx (.ref p) (.int 0) S = some (.int a, S) := gIx_lst (lstAt_lst h) rfl
  have e1 : gIx (.ref p) (.int 1) S = some (.int b, S) := gIx_lst (lstAt_lst h) rfl
  have e2 : gIx (.ref p) (.int 2) S = some (.int c, S) := gIx_lst (lstAt_lst h) rfl
  by_cases ha : 0 < a
  · refine ⟨a % many, [.int (a / many), .int b, .int c], ⟨_, _, _, rfl, b0, b1, c0, by omega⟩, Int.emod_nonneg _ (by omega), Int.emod_lt_of_pos _ h0, ?_⟩
    refine (runB_rt (g := b__law_draw (tab (n + 1))) rfl (d := .int (a % many)) (S' := S.set p (.lst [.int (a / many), .int b, .int c])) ?_).trans (cmp_same (by rw [List.length_set]) rfl)
    have es : gSet (.ref p) (.int 0) (.int (a / many)) S = some (S.set p (.lst [.int (a / many), .int b, .int c])) := gSet_lst (m := 0) h rfl
    unfold b__law_draw
    walk_at "evs"

  · have hs : ∀ k : Int, gSet (.ref p) (.int 2) (.int k) S = some (S.set p (.lst [.int a, .int b, .int k])) := fun k => gSet_lst (m := 2) h rfl
    have h' : (S.set p (.lst [.int a, .int b, .int (c + 1)]))[p]? = some (.lst [.int a, .int b, .int (c + 1)]) := List.getElem?_set_self hl
    have f1 : gIx (.ref p) (.int 1) (S.set p (.lst [.int a, .int b, .int (c + 1)])) = some (.int b, S.set p (.lst [.int a, .int b, .int (c + 1)])) := gIx_lst (lstAt_lst h') rfl
    have f2 : gIx (.ref p) (.int 2) (S.set p (.lst [.int a, .int b, .int (c + 1)])) = some (.int (c + 1), S.set p (.lst [.int a, .int b, .int (c + 1)])) := gIx_lst (lstAt_lst h') rfl
    have em := mix_spec n (b + 7368787 * (c + 1)) (by omega) (by omega) (S.set p (.lst [.int a, .int b, .int (c + 1)]))
    refine ⟨mixZ (b + 7368787 * (c + 1)) / 8 % many, [.int a, .int b, .int (c + 1)], ⟨_, _, _, rfl, b0, b1, by omega, by omega⟩, Int.emod_nonneg _ (by omega), Int.emod_lt_of_pos _ h0, ?_⟩
    refine (runB_rt (g := b__law_draw (tab (n + 1))) rfl (d := .int (mixZ (b + 7368787 * (c + 1)) / 8 % many)) (S' := S.set p (.lst [.int a, .int b, .int (c + 1)])) ?_).trans (cmp_same (by rw [List.length_set]) rfl)
    unfold b__law_draw
    have ha' : decide (0 < a) = false := decide_eq_false ha
    walk_at "evs"

end Lw

set_option Elab.async false
set_option linter.all false
set_option maxRecDepth 100000
namespace Lw
open PySem L2 Dl
/-! ## tools of this law -/
theorem tgU_ {ts : List (D → SX)} {ds : List D} {ρ : Dl.Env} {S : Store} (h : ds.length = ts.length) : tgU ts (.tup ds) ρ S = tgL ts ds ρ S := by
  show (if ds.length = ts.length then tgL ts ds else sNo) ρ S = _
  rw [if_pos h]
theorem tgU_l {ts : List (D → SX)} {ds : List D} {ρ : Dl.Env} {S : Store} {l : Nat} (hl : lstAt S l = some ds) (h : ds.length = ts.length) : tgU ts (.ref l) ρ S = tgL ts ds ρ S := by
  show (match lstAt S l with
    | some ds => if ds.length = ts.length then tgL ts ds ρ S else .no
    | none => .no) = _
  rw [hl]
  exact if_pos h
noncomputable def kTab (L : List (Str × D)) : Dl.R D → Dl.R D
  | .ok y S => toR (gTab L .non y S)
  | .ex x S => .ex x S
  | .no => .no
theorem eTab_ {L : List (Str × D)} {f : EX} {ρ : Dl.Env} {S : Store} : eTab L f ρ S = kTab L (f ρ S) := by show (f ρ S).bind _ = _; cases f ρ S <;> rfl
theorem kTab_ {L : List (Str × D)} {y : D} {S : Store} : kTab L (.ok y S) = toR (gTab L .non y S) := rfl
theorem sX_ {x : Str} {ρ : Dl.Env} {S : Store} : sX x ρ S = .ex ⟨x, []⟩ ρ S := rfl
local macro_rules | `(tactic| walk_at "ev") => `(tactic| simp (disch := first | omega | assumption | (simp only [List.length_cons, List.length_nil]; omega)) only [sQ_, sP_, sE_, sR_, sIf_, sN_, sA_, tgO_nx, nm_, tgIx_, eC_, eV0, eV1, e1_, e2_, eB_, eF_, aN_, aC_, eMt_, eSl_, oN_, oI_, tV_, tE_, tA_, tO_, tN_, eIf_, eAnd_, eOr_, eNot_, eCh_,
  seq_nx, seq_rt, seq_bk, seq_ct, seq_ex, toR_some, toR_none, toT_some, truD_bl, truD_int, truD_tup, tyD_str, tyD_tup, tyD_int, tyD_bl, tyD_non,
  kE_, kR_, kIf_t, kIf_f, kN_, kA_, kIx1_, kIx2_, kIx3_, kE1_, kE21_, kE2_, kB_, kF_, kC1_, kC_, kM1_, kM2_, kM_, kS1_, kS2_, kS3_, kO_, kV_, kT_, kAn_t, kAn_f, kOr_t, kOr_f, kNo_, kIfE_t, kIfE_f, kVa_, kVa2_t, kVa2_f, kVo_, kVo2_t, kVo2_f, kVn_, kVn2_, kH_, kH1_, kH2_t, kH2_f, kH3_,
  List.getElem?_cons_zero, List.getElem?_cons_succ, List.set_cons_zero, List.set_cons_succ, gAdd_int, gAdd_str, gSub_int, gMul_l, gMul_r, gFdiv_int, gMod_int, gLt_int, gLe_int, gGt_int, gGe_int, gInt_int, gAbs_int, gLen_tup, gLen_str, gTpl_, gLsd_,
  Bool.false_eq_true, if_true, if_false, reduceIte, Option.map_some, Option.bind_some, gEq_int, gNe_int, gEq_str, gNe_str, Bool.not_true, Bool.not_false, decide_true, decide_false, List.length_singleton, List.length_cons, List.length_nil, List.map_cons, List.map_nil, Nat.sub_self, List.replicate_zero, List.append_nil, List.cons_append, List.nil_append, List.replicate_succ, Nat.reduceSub, Nat.reduceAdd, Nat.add_zero, Nat.zero_add, tgT_, tgU_, tgL0, tgL1, eTab_, kTab_, sX_])
local macro_rules | `(tactic| walk_at "evs") => `(tactic| simp (disch := first | omega | assumption | (simp only [List.length_cons, List.length_nil]; omega)) only [sQ_, sP_, sE_, sR_, sIf_, sN_, sA_, tgO_nx, nm_, tgIx_, eC_, eV0, eV1, e1_, e2_, eB_, eF_, aN_, aC_, eMt_, eSl_, oN_, oI_, tV_, tE_, tA_, tO_, tN_, eIf_, eAnd_, eOr_, eNot_, eCh_,
  seq_nx, seq_rt, seq_bk, seq_ct, seq_ex, toR_some, toR_none, toT_some, truD_bl, truD_int, truD_tup, tyD_str, tyD_tup, tyD_int, tyD_bl, tyD_non,
  kE_, kR_, kIf_t, kIf_f, kN_, kA_, kIx1_, kIx2_, kIx3_, kE1_, kE21_, kE2_, kB_, kF_, kC1_, kC_, kM1_, kM2_, kM_, kS1_, kS2_, kS3_, kO_, kV_, kT_, kAn_t, kAn_f, kOr_t, kOr_f, kNo_, kIfE_t, kIfE_f, kVa_, kVa2_t, kVa2_f, kVo_, kVo2_t, kVo2_f, kVn_, kVn2_, kH_, kH1_, kH2_t, kH2_f, kH3_,
  List.getElem?_cons_zero, List.getElem?_cons_succ, List.set_cons_zero, List.set_cons_succ, gAdd_int, gAdd_str, gSub_int, gMul_l, gMul_r, gFdiv_int, gMod_int, gLt_int, gLe_int, gGt_int, gGe_int, gInt_int, gAbs_int, gLen_tup, gLen_str, gTpl_, gLsd_,
  Bool.false_eq_true, if_true, if_false, reduceIte, Option.map_some, Option.bind_some, gEq_int, gNe_int, gEq_str, gNe_str, Bool.not_true, Bool.not_false, decide_true, decide_false, List.length_singleton, List.length_cons, List.length_nil, List.map_cons, List.map_nil, Nat.sub_self, List.replicate_zero, List.append_nil, List.cons_append, List.nil_append, List.replicate_succ, Nat.reduceSub, Nat.reduceAdd, Nat.add_zero, Nat.zero_add, tgT_, tgU_, tgL0, tgL1, eTab_, kTab_, sX_, *])
/-! ### stores -/
mutual
theorem wf_mono {n m : Nat} (h : n ≤ m) : ∀ {d : D}, d.wf n = true → d.wf m = true
  | .non, _ => rfl
  | .bl _, _ => rfl
  | .int _, _ => rfl
  | .str _, _ => rfl
  | .tup xs, q => wfs_mono h (show wfs n xs = true from q)
  | .ref l, q => by
    have q' : l < n := of_decide_eq_true q
    exact decide_eq_true (by omega)
  | .raw _, _ => rfl
theorem wfs_mono {n m : Nat} (h : n ≤ m) : ∀ {ds : List D}, wfs n ds = true → wfs m ds = true
  | [], _ => rfl
  | d :: ds, q => by
    have q' : (d.wf n && wfs n ds) = true := q
    rw [Bool.and_eq_true] at q'
    show (d.wf m && wfs m ds) = true
    rw [wf_mono h q'.1, wfs_mono h q'.2]
    rfl
end
theorem cwf_mono {n m : Nat} (h : n ≤ m) {c : Cell} (q : Cell.wf n c = true) : Cell.wf m c = true := by
  cases c with
  | lst xs => exact wfs_mono h q
  | rol xs => exact wfs_mono h q
  | dic kvs => exact wfs_mono h q
  | gone => rfl
theorem cwf_flat {n : Nat} {c : Cell} (q : Cell.flat c = true) : Cell.wf n c = true := by
  cases c with
  | lst xs => exact wfs_flat q
  | rol xs => exact wfs_flat q
  | dic kvs => exact wfs_flat q
  | gone => rfl
/-- no cell holds an address beyond the store -/
def SOK (S : Store) : Prop := ∀ c ∈ S, Cell.wf S.length c = true
theorem SOK.wf {S : Store} {n : Nat} (h : SOK S) (e : S.length = n) : SWf n S = true := by
  subst e
  exact List.all_eq_true.mpr h
theorem SOK.set {S : Store} {i : Nat} {c : Cell} (h : SOK S) (hc : Cell.flat c = true) : SOK (S.set i c) := fun x hx => by
  rw [List.length_set]
  rcases List.mem_or_eq_of_mem_set hx with q | q
  · exact h x q
  · rw [q]; exact cwf_flat hc
theorem SOK.push {S : Store} {c : Cell} (h : SOK S) (hc : Cell.wf S.length c = true) : SOK (S ++ [c]) := fun x hx => by
  have l : S.length ≤ (S ++ [c]).length := by rw [List.length_append]; omega
  rcases List.mem_append.mp hx with q | q
  · exact cwf_mono l (h x q)
  · rw [List.mem_singleton.mp q]; exact cwf_mono l hc
theorem SOK.pushF {S : Store} {c : Cell} (h : SOK S) (hc : Cell.flat c = true) : SOK (S ++ [c]) := h.push (cwf_flat hc)
theorem get_end' {S : Store} {c : Cell} {l : Nat} (h : l = S.length) : (S ++ [c])[l]? = some c := by rw [h]; exact get_end
theorem set_end' {S : Store} {c d : Cell} {l : Nat} (h : l = S.length) : (S ++ [c]).set l d = S ++ [d] := by rw [h]; exact set_end
theorem set_keep {S : Store} {p q : Nat} {c d : Cell} (h : S[q]? = some c) (n : p ≠ q) : (S.set p d)[q]? = some c := by rw [List.getElem?_set_ne n]; exact h
theorem ne_end {S : Store} {p : Nat} {c : Cell} (h : S[p]? = some c) : p ≠ S.length := Nat.ne_of_lt (get_lt h)
theorem chk_app {k : Chk} {T : Store} (S : Store) (h : chkOk k T) : chkOk k (T ++ S) := fun p hp => by
  have q := h p hp
  unfold lstAt at q ⊢
  cases e : T[p.1]? with
  | none => rw [e] at q; exact nomatch q
  | some c => rw [get_app e]; rw [e] at q; exact q
theorem lstAt_app {T : Store} (S : Store) {l : Nat} {xs : List D} (h : lstAt T l = some xs) : lstAt (T ++ S) l = some xs := chk_app (k := [(l, xs)]) S (chk_one h) _ (List.mem_singleton.mpr rfl)
theorem lstAt_lt {T : Store} {l : Nat} {xs : List D} (h : lstAt T l = some xs) : l < T.length := by
  unfold lstAt at h
  cases e : T[l]? with
  | none => rw [e] at h; exact nomatch h
  | some c => exact get_lt e
theorem seq_step {a b : SX} {ρ ρ' : Dl.Env} {S S' : Store} {o : Dl.Out} (h1 : a ρ S = .nx ρ' S') (h2 : b ρ' S' = o) : sQ a b ρ S = o := by rw [sQ_, h1]; exact h2
theorem isi_ss {t : Str} {S : Store} : gIsi .str [.str t, .raw (.ty "str")] S = some (.bl true, S) := by unfold gIsi; exact if_pos rfl
theorem isi_st {t : List D} {S : Store} : gIsi .str [.tup t, .raw (.ty "str")] S = some (.bl false, S) := by unfold gIsi; exact if_pos rfl
theorem isi_tt {t : List D} {S : Store} : gIsi .tup [.tup t, .raw (.ty "tuple")] S = some (.bl true, S) := by unfold gIsi; exact if_pos rfl
theorem runC_all {k : Chk} {ρ : Dl.Env} {l : Nat} {g : Cg} {ft : TX} {fe : EX} (val : D → D) (keep : D → Bool) : ∀ (ds acc : List D) (T : Store), l = T.length → acc.length + ds.length ≤ 1000000 → (∀ S, chkOk k T → chkOk k (T ++ S)) → chkOk k T →
    (∀ d ∈ ds, ∃ ρ1, g.put d ρ = some ρ1 ∧ ∀ a, ft ρ1 (T ++ [Cell.lst a]) = .ok (keep d) (T ++ [Cell.lst a]) ∧ (keep d = true → fe ρ1 (T ++ [Cell.lst a]) = .ok (val d) (T ++ [Cell.lst a]))) →
    runC l ρ g ft fe k ds (T ++ [Cell.lst acc]) = .ok (.ref l) (T ++ [Cell.lst (acc ++ (ds.filter keep).map val)])
  | [], acc, T, hl, hz, hk, hk0, _ => by
    unfold runC
    rw [if_pos (hk _ hk0)]
    simp
  | d :: ds, acc, T, hl, hz, hk, hk0, hd => by
    obtain ⟨ρ1, h1, h2⟩ := hd d (List.mem_cons_self ..)
    obtain ⟨h3, h4⟩ := h2 acc
    have hz' : acc.length + (ds.length + 1) ≤ 1000000 := hz
    unfold runC
    rw [if_pos (hk _ hk0)]
    simp only [h1, h3]
    cases hkd : keep d with
    | false =>
      simp only
      rw [runC_all val keep ds acc T hl (by omega) hk hk0 fun x hx => hd x (List.mem_cons_of_mem _ hx), List.filter_cons_of_neg (by rw [hkd]; exact Bool.false_ne_true)]
    | true =>
      have h4' := h4 hkd
      subst hl
      simp only [h4', get_end]
      rw [if_pos (show acc.length < LIM by show acc.length < 16777216; omega), set_end, runC_all val keep ds (acc ++ [val d]) T rfl (by rw [List.length_append]; simp only [List.length_singleton]; omega) hk hk0 fun x hx => hd x (List.mem_cons_of_mem _ hx),
        List.filter_cons_of_pos hkd, List.map_cons, List.append_assoc]
      rfl
/-! ### == of lists -/
theorem deps_str : ∀ xs : List Str, deps (xs.map D.str) = 0
  | [] => rfl
  | x :: xs => by show max 0 (deps (xs.map D.str)) = 0; rw [deps_str xs]; rfl
def sts (xs : List Str) : List D := xs.map D.str
theorem sts_flat : ∀ xs : List Str, flats (sts xs) = true
  | [] => rfl
  | x :: xs => by show (true && flats (sts xs)) = true; rw [sts_flat xs]; rfl
theorem sts_len (xs : List Str) : (sts xs).length = xs.length := List.length_map ..
theorem sts_app (xs ys : List Str) : sts (xs ++ ys) = sts xs ++ sts ys := List.map_append ..
theorem sts_deqs : ∀ xs : List Str, deqs (sts xs) (sts xs) = true
  | [] => rfl
  | x :: xs => by show ((x == x) && deqs (sts xs) (sts xs)) = true; rw [sts_deqs xs, beq_self_eq_true]; rfl
theorem asP_lst {S : Store} {l : Nat} {xs : List D} (h : lstAt S l = some xs) (hf : flats xs = true) : asP S (.ref l) = some (.list (toPys xs)) := by
  unfold asP
  rw [if_neg (show ¬ (D.ref l).flat = true from Bool.false_ne_true)]
  simp only [h, hf, if_true]
theorem gEq_sts {S : Store} {l r : Nat} {xs : List Str} (h1 : lstAt S l = some (sts xs)) (h2 : lstAt S r = some (sts xs)) : gEq (.ref l) (.ref r) S = some (.bl true, S) := by
  unfold gEq gEqB
  rw [asP_lst h1 (sts_flat xs), asP_lst h2 (sts_flat xs)]
  have e : (PyData.list (toPys (sts xs))).depth ≤ 64 := by
    have q := depth_toPy (.tup (sts xs))
    have q' : PyData.depthAll (toPys (sts xs)) + 1 = deps (sts xs) + 1 := q
    show PyData.depthAll (toPys (sts xs)) + 1 ≤ 64
    rw [q', show deps (sts xs) = 0 from deps_str xs]
    decide
  show Option.map _ (if (PyData.list (toPys (sts xs))).depth ≤ 64 then some (PyData.eqv (.list (toPys (sts xs))) (.list (toPys (sts xs)))) else none) = _
  rw [if_pos e]
  show some (D.bl (PyData.eqvAll (toPys (sts xs)) (toPys (sts xs))), S) = _
  rw [eqvs_toPys (sts xs) (sts xs) (sts_flat xs) (sts_flat xs), sts_deqs]
/-! ## pools -/
theorem lstAt_rol {S : Store} {l : Nat} {xs : List D} (h : S[l]? = some (.rol xs)) : lstAt S l = some xs := by unfold lstAt; rw [h]
theorem cell_spec (j : Nat) {ns : List Int} {T : Store} (h : T[0]? = some (Cell.rol (ns.map D.int))) (k : Nat) : ∃ c : Int, tab (j + 1) ._law_cell [.ref 0, .int k] T = .ok (.int c) T := by
  have gl : gLen [.ref 0] T = some (.int ns.length, T) := by rw [gLen_lst (lstAt_rol h), List.length_map]
  by_cases hk : k < ns.length
  · refine ⟨ns[k], (runB_rt (np := 2) (ns := 2) (ds := [.ref 0, .int k]) (g := b__law_cell (tab j)) (d := .int ns[k]) (S' := T) rfl ?_).trans (cmp_same rfl rfl)⟩
    have g0 : gIx (.ref 0) (.int k) T = some (.int ns[k], T) := gIx_lst (lstAt_rol h) (atI_nat (by rw [List.getElem?_map, List.getElem?_eq_getElem hk]; rfl))
    unfold b__law_cell
    walk_at "ev"
    rw [gl]
    walk_at "ev"
    rw [decide_eq_true (show (k : Int) < (ns.length : Int) by omega)]
    walk_at "ev"
    rw [g0]
    walk_at "ev"
  · refine ⟨0, (runB_rt (np := 2) (ns := 2) (ds := [.ref 0, .int k]) (g := b__law_cell (tab j)) (d := .int 0) (S' := T) rfl ?_).trans (cmp_same rfl rfl)⟩
    unfold b__law_cell
    walk_at "ev"
    rw [gl]
    walk_at "ev"
    rw [decide_eq_false (show ¬ (k : Int) < (ns.length : Int) by omega)]
    walk_at "ev"
theorem pow_ {S : Store} : gPow (.int 10) (.int 18) S = some (.int 1000000000000000000, S) := by
  show (if (0 : Int) ≤ 18 ∧ (18 : Int) ≤ 1000000 ∧ (10 : Int).natAbs < 2 ^ 64 then _ else none) = _
  rw [if_pos (by decide)]
  rfl
theorem pool_spec (j : Nat) {ns : List Int} {T : Store} (h : T[0]? = some (Cell.rol (ns.map D.int))) (hT : SOK T) (k : Nat) (hk : k ≤ 100) : ∃ P, Pool 0 P ∧ tab (j + 2) ._law_pool [.ref 0, .int k] T = .ok (.ref T.length) (T ++ [Cell.lst P]) := by
  obtain ⟨c, hc⟩ := cell_spec j h k
  have fin : ∀ P, Pool 0 P → b__law_pool (tab (j + 1)) [some (.ref 0), some (.int k), none] T = .rt (.ref T.length) (T ++ [Cell.lst P]) → ∃ P, Pool 0 P ∧ tab (j + 2) ._law_pool [.ref 0, .int k] T = .ok (.ref T.length) (T ++ [Cell.lst P]) := fun P hp e =>
    ⟨P, hp, (runB_rt (np := 2) (ns := 3) (ds := [.ref 0, .int k]) (g := b__law_pool (tab (j + 1))) rfl e).trans (cmp_new rfl (hT.wf rfl) (Nat.le_refl _) get_end (wfs_flat hp.flat))⟩
  by_cases hb : (1000000000000000000 : Int) ≤ c
  · refine fin [.int (c - 1000000000000000000), .int (40009 * ((k : Int) + 1)), .int 0] ⟨_, _, _, rfl, by omega, by omega, by decide, by decide⟩ ?_
    unfold b__law_pool
    walk_at "ev"
    rw [hc]
    walk_at "ev"
    rw [pow_]
    walk_at "ev"
    rw [decide_eq_true hb]
    walk_at "ev"
    rw [pow_]
    walk_at "ev"
  · have m0 := Int.emod_nonneg (if c < 0 then -c else c) (show (2000000011 : Int) ≠ 0 by decide)
    have m1 := Int.emod_lt_of_pos (if c < 0 then -c else c) (show (0 : Int) < 2000000011 by decide)
    refine fin [.int 0, .int ((if c < 0 then -c else c) % 2000000011 + 7919 * (k : Int)), .int 0] ⟨_, _, _, rfl, by omega, by omega, by decide, by decide⟩ ?_
    unfold b__law_pool
    walk_at "ev"
    rw [hc]
    walk_at "ev"
    rw [pow_]
    walk_at "ev"
    rw [decide_eq_false hb]
    walk_at "ev"
end Lw

set_option Elab.async false
set_option linter.all false
set_option maxRecDepth 100000
namespace Lw
open PySem L2 Dl
local macro_rules | `(tactic| walk_at "ev") => `(tactic| simp (disch := first | omega | assumption | (simp only [List.length_cons, List.length_nil]; omega) | (simp only [List.length_cons, List.length_nil])) only [sQ_, sP_, sE_, sR_, sIf_, sN_, sA_, tgO_nx, nm_, tgIx_, eC_, eV0, eV1, e1_, e2_, eB_, eF_, aN_, aC_, eMt_, eSl_, oN_, oI_, tV_, tE_, tA_, tO_, tN_, eIf_, eAnd_, eOr_, eNot_, eCh_,
  seq_nx, seq_rt, seq_bk, seq_ct, seq_ex, toR_some, toR_none, toT_some, truD_bl, truD_int, truD_tup, tyD_str, tyD_tup, tyD_int, tyD_bl, tyD_non,
  kE_, kR_, kIf_t, kIf_f, kN_, kA_, kIx1_, kIx2_, kIx3_, kE1_, kE21_, kE2_, kB_, kF_, kC1_, kC_, kM1_, kM2_, kM_, kS1_, kS2_, kS3_, kO_, kV_, kT_, kAn_t, kAn_f, kOr_t, kOr_f, kNo_, kIfE_t, kIfE_f, kVa_, kVa2_t, kVa2_f, kVo_, kVo2_t, kVo2_f, kVn_, kVn2_, kH_, kH1_, kH2_t, kH2_f, kH3_,
  List.getElem?_cons_zero, List.getElem?_cons_succ, List.set_cons_zero, List.set_cons_succ, gAdd_int, gAdd_str, gSub_int, gMul_l, gMul_r, gFdiv_int, gMod_int, gLt_int, gLe_int, gGt_int, gGe_int, gInt_int, gAbs_int, gLen_tup, gLen_str, gTpl_, gLsd_,
  Bool.false_eq_true, if_true, if_false, reduceIte, Option.map_some, Option.bind_some, gEq_int, gNe_int, gEq_str, gNe_str, Bool.not_true, Bool.not_false, decide_true, decide_false, List.length_singleton, List.length_cons, List.length_nil, List.map_cons, List.map_nil, Nat.sub_self, List.replicate_zero, List.append_nil, List.cons_append, List.nil_append, List.replicate_succ, Nat.reduceSub, Nat.reduceAdd, Nat.add_zero, Nat.zero_add, tgT_, tgU_, tgL0, tgL1, eTab_, kTab_, sX_])
local macro_rules | `(tactic| walk_at "evs") => `(tactic| simp (disch := first | omega | assumption | (simp only [List.length_cons, List.length_nil]; omega) | (simp only [List.length_cons, List.length_nil])) only [sQ_, sP_, sE_, sR_, sIf_, sN_, sA_, tgO_nx, nm_, tgIx_, eC_, eV0, eV1, e1_, e2_, eB_, eF_, aN_, aC_, eMt_, eSl_, oN_, oI_, tV_, tE_, tA_, tO_, tN_, eIf_, eAnd_, eOr_, eNot_, eCh_,
  seq_nx, seq_rt, seq_bk, seq_ct, seq_ex, toR_some, toR_none, toT_some, truD_bl, truD_int, truD_tup, tyD_str, tyD_tup, tyD_int, tyD_bl, tyD_non,
  kE_, kR_, kIf_t, kIf_f, kN_, kA_, kIx1_, kIx2_, kIx3_, kE1_, kE21_, kE2_, kB_, kF_, kC1_, kC_, kM1_, kM2_, kM_, kS1_, kS2_, kS3_, kO_, kV_, kT_, kAn_t, kAn_f, kOr_t, kOr_f, kNo_, kIfE_t, kIfE_f, kVa_, kVa2_t, kVa2_f, kVo_, kVo2_t, kVo2_f, kVn_, kVn2_, kH_, kH1_, kH2_t, kH2_f, kH3_,
  List.getElem?_cons_zero, List.getElem?_cons_succ, List.set_cons_zero, List.set_cons_succ, gAdd_int, gAdd_str, gSub_int, gMul_l, gMul_r, gFdiv_int, gMod_int, gLt_int, gLe_int, gGt_int, gGe_int, gInt_int, gAbs_int, gLen_tup, gLen_str, gTpl_, gLsd_,
  Bool.false_eq_true, if_true, if_false, reduceIte, Option.map_some, Option.bind_some, gEq_int, gNe_int, gEq_str, gNe_str, Bool.not_true, Bool.not_false, decide_true, decide_false, List.length_singleton, List.length_cons, List.length_nil, List.map_cons, List.map_nil, Nat.sub_self, List.replicate_zero, List.append_nil, List.cons_append, List.nil_append, List.replicate_succ, Nat.reduceSub, Nat.reduceAdd, Nat.add_zero, Nat.zero_add, tgT_, tgU_, tgL0, tgL1, eTab_, kTab_, sX_, *])
/-! ## atoms -/
def SM : List Nat := ("abcdefghijklmnopqrstuvwxyz0123456789" : Str).cps.toList
structure Base (b : Str) : Prop where
  all : ∀ c ∈ b.cps.toList, c ∈ SM
  fst : ∃ c, b.cps.toList[0]? = some c ∧ c ∈ ("abcdefghijklmnopqrstuvwxyz" : Str).cps.toList
  len : b.length ≤ 8
theorem sm_dot : ∀ c ∈ SM, c ≠ 46 := by decide +kernel
theorem Base.dot {b : Str} (h : Base b) : 46 ∉ b.cps.toList := fun q => sm_dot 46 (h.all 46 q) rfl
theorem Base.ne {b : Str} (h : Base b) : 1 ≤ b.length := by
  obtain ⟨c, hc, _⟩ := h.fst
  have q := (List.getElem?_eq_some_iff.mp hc).1
  show 1 ≤ b.cps.size
  rw [← Array.length_toList]; omega
def atT (b : Str) (m : Int) : Str := if m = 0 then b else b ++ "." ++ (toString m : Str)
theorem dot_ : ("." : Str) = ⟨#[46]⟩ := by decide +kernel
theorem dot_list : ("." : Str).cps.toList = [46] := by decide +kernel
theorem app_list (a b : Str) : (a ++ b).cps.toList = a.cps.toList ++ b.cps.toList := Array.toList_append
theorem app_len (a b : Str) : (a ++ b).length = a.length + b.length := str_app_len a b
theorem dot_len : ("." : Str).length = 1 := by decide +kernel
theorem len_list (a : Str) : a.cps.toList.length = a.length := Array.length_toList
theorem num_len {m : Int} (h0 : 0 ≤ m) (h1 : m ≤ 999999) : (toString m : Str).length ≤ 6 := PyProof.Rows.toString_length_le h0 (by decide) (by omega)
theorem log_small {m : Int} (h0 : 0 ≤ m) (h1 : m ≤ 999999) : m.natAbs.log2 < 1920 := by
  by_cases e : m.natAbs = 0
  · rw [e]; decide
  · have : m.natAbs.log2 < 20 := (Nat.log2_lt e).mpr (by omega)
    omega
theorem gStr_ {m : Int} {S : Store} (h0 : 0 ≤ m) (h1 : m ≤ 999999) : gStr [.int m] S = some (.str (toString m), S) := if_pos ⟨log_small h0 h1, by have := num_len h0 h1; show _ ≤ 16777216; omega⟩
theorem digs (n : Nat) : ∀ c ∈ (Nat.toDigits 10 n).map Char.toNat, c ∈ ("0123456789" : Str).cps.toList := by
  induction n using Nat.strongRecOn with
  | _ n ih =>
    have one : ∀ d : Nat, d < 10 → (Nat.digitChar d).toNat ∈ ("0123456789" : Str).cps.toList := by decide +kernel
    by_cases h : n < 10
    · rw [Nat.toDigits_of_lt_base h]
      intro c hc
      rw [List.mem_singleton.mp hc]
      exact one n h
    · have hm : n % 10 < 10 := Nat.mod_lt n (by decide)
      have t : Nat.toDigits 10 (n / 10) ++ Nat.toDigits 10 (n % 10) = Nat.toDigits 10 (10 * (n / 10) + n % 10) := Nat.toDigits_append_toDigits (by decide) (by omega) hm
      rw [Nat.div_add_mod] at t
      rw [← t, List.map_append, Nat.toDigits_of_lt_base hm]
      intro c hc
      rcases List.mem_append.mp hc with q | q
      · exact ih (n / 10) (by omega) c q
      · rw [List.mem_singleton.mp q]
        exact one _ hm
theorem dig_head (n : Nat) (h0 : 0 < n) : ∃ c, ((Nat.toDigits 10 n).map Char.toNat)[0]? = some c ∧ c ≠ 48 := by
  induction n using Nat.strongRecOn with
  | _ n ih =>
    have one : ∀ d : Nat, d < 10 → 0 < d → (Nat.digitChar d).toNat ≠ 48 := by decide +kernel
    by_cases h : n < 10
    · rw [Nat.toDigits_of_lt_base h]
      exact ⟨_, rfl, one n h h0⟩
    · have hm : n % 10 < 10 := Nat.mod_lt n (by decide)
      have t : Nat.toDigits 10 (n / 10) ++ Nat.toDigits 10 (n % 10) = Nat.toDigits 10 (10 * (n / 10) + n % 10) := Nat.toDigits_append_toDigits (by decide) (by omega) hm
      rw [Nat.div_add_mod] at t
      rw [← t, List.map_append]
      obtain ⟨c, h1, h2⟩ := ih (n / 10) (by omega) (by omega)
      exact ⟨c, by rw [List.getElem?_append_left (List.getElem?_eq_some_iff.mp h1).1]; exact h1, h2⟩
theorem num_list {m : Int} (h0 : 0 ≤ m) : (toString m : Str).cps.toList = (Nat.toDigits 10 m.toNat).map Char.toNat := by
  obtain ⟨n, rfl⟩ := Int.eq_ofNat_of_zero_le h0
  exact PySem.W.KIN.signs_num n
theorem num_dig {m : Int} (h0 : 0 ≤ m) : ∀ c ∈ (toString m : Str).cps.toList, c ∈ ("0123456789" : Str).cps.toList := by rw [num_list h0]; exact digs _
theorem dig_dot : ∀ c ∈ ("0123456789" : Str).cps.toList, c ≠ 46 := by decide +kernel
theorem num_dot {m : Int} (h0 : 0 ≤ m) : 46 ∉ (toString m : Str).cps.toList := fun q => dig_dot 46 (num_dig h0 46 q) rfl
/-- its split at the dot -/
theorem ext_list {a b : Str} (h : a.cps.toList = b.cps.toList) : a = b := by
  cases a; cases b
  exact congrArg Str.mk (Array.toList_inj.mp h)
theorem split_atom {b : Str} {m : Int} (hb : Base b) (h0 : 0 ≤ m) : Txt.split (atT b m) "." = if m = 0 then [b] else [b, (toString m : Str)] := by
  unfold atT
  by_cases e : m = 0
  · rw [if_pos e, if_pos e]
    have q := TL.split_join (y := ".") (s := 46) (S := []) dot_list (by decide +kernel) (parts := [b]) (by simp) (fun p hp => by rw [List.mem_singleton.mp hp]; exact hb.dot)
    rw [show Txt.join "." [b] = b from rfl] at q
    exact q
  · rw [if_neg e, if_neg e]
    have q := TL.split_join (y := ".") (s := 46) (S := []) dot_list (by decide +kernel) (parts := [b, (toString m : Str)]) (by simp) (fun p hp => by
      rcases List.mem_cons.mp hp with rfl | hp
      · exact hb.dot
      · rw [List.mem_singleton.mp hp]; exact num_dot h0)
    rw [show Txt.join "." [b, (toString m : Str)] = b ++ "." ++ (toString m : Str) from ext_list (by
      rw [TL.join_eq]
      have t := TL.tl_join "." [b, (toString m : Str)]
      rw [show (Str.join "." [b, (toString m : Str)]).cps.toList = _ from t, app_list, app_list, dot_list]
      show b.cps.toList ++ (("." : Str).cps.toList ++ (toString m : Str).cps.toList) = _
      rw [dot_list, List.append_assoc])] at q
    exact q
theorem atT_len {b : Str} {m : Int} (hb : Base b) (h0 : 0 ≤ m) (h1 : m ≤ 999999) : (atT b m).length ≤ 15 := by
  unfold atT
  have l1 := num_len h0 h1
  have l2 := hb.len
  have l3 := dot_len
  by_cases e : m = 0
  · rw [if_pos e]; omega
  · rw [if_neg e, app_len, app_len]; omega
theorem gSplit_ {t : Str} {ps : List Str} {S : Store} (h : Txt.split t "." = ps) (hl : t.length ≤ 100) (hp : ∀ p ∈ ps, p.length ≤ 100) : gSplit (.str t) [.str "."] S = some (.ref S.length, S ++ [Cell.lst (sts ps)]) := by
  show (if ("." : Str).length ≠ 0 ∧ t.length + 2 ≤ LIM ∧ ((Txt.split t ".").all fun p => decide (p.length ≤ LIM)) = true then some (D.ref S.length, S ++ [Cell.lst ((Txt.split t ".").map .str)]) else none) = _
  rw [h, if_pos ⟨by rw [dot_len]; decide, by show _ ≤ 16777216; omega, List.all_eq_true.mpr fun p q => decide_eq_true (by have := hp p q; show _ ≤ 16777216; omega)⟩]
  rfl

theorem dotted {S : Store} {b : Str} {m : Int} (hb : Base b) (h0 : 0 < m) (h1 : m ≤ 999999) : gStr [.int m] S = some (.str (toString m), S) ∧ gAdd (.str b) (.str ".") S = some (.str (b ++ "."), S) ∧ gAdd (.str (b ++ ".")) (.str (toString m)) S = some (.str (atT b m), S) := by
  have l1 := num_len (by omega) h1
  have l2 := app_len b "."
  have l3 := dot_len
  have l4 := hb.len
  refine ⟨gStr_ (by omega) h1, gAdd_str (by omega), ?_⟩
  rw [gAdd_str (by omega)]
  unfold atT
  rw [if_neg (by omega)]
def AtS (t : Str) : Prop := ∃ b m, t = atT b m ∧ Base b ∧ 0 ≤ m ∧ m ≤ 999999
theorem base_at {b : Str} (hb : Base b) : AtS b := ⟨b, 0, by unfold atT; rw [if_pos rfl], hb, by decide, by decide⟩
/-! ## a base, a numbered atom -/
theorem sm36 : (("abcdefghijklmnopqrstuvwxyz" : Str) ++ ("0123456789" : Str)).cps.toList = SM := by decide +kernel
theorem small_len : ("abcdefghijklmnopqrstuvwxyz" : Str).length = 26 := by decide +kernel
theorem dig_len : ("0123456789" : Str).length = 10 := by decide +kernel
theorem small26_len : ("abcdefghijklmnopqrstuvwxyz" : Str).cps.toList.length = 26 := by decide +kernel
theorem sm_len : SM.length = 36 := by decide +kernel
theorem small_sm : ∀ c ∈ ("abcdefghijklmnopqrstuvwxyz" : Str).cps.toList, c ∈ SM := by decide +kernel
theorem base_loop (n : Nat) {p : Nat} : ∀ (r : Nat) (lo : Int) {N : Nat} {T : Store} {P : List D} {b : Str} {x : Option D} (h : T[p]? = some (Cell.lst P)) (hp : Pool N P) (hN : N + r ≤ 1000000) (ha : ∀ c ∈ b.cps.toList, c ∈ SM) (hf : ∃ c, b.cps.toList[0]? = some c ∧ c ∈ ("abcdefghijklmnopqrstuvwxyz" : Str).cps.toList) (hl : b.length + r ≤ 8),
    ∃ b' P' x', Base b' ∧ Pool (N + r) P' ∧ runF (nm 3) (sN 2 (Dl.e2 gAdd (eV 2) (Dl.e2 gIx (Dl.e2 gAdd (eV 1) (eC (.str "0123456789"))) (eF (tab (n + 2) ._law_draw) (aC (eV 0) (aC (eC (.int 36)) aN)))))) [] (rng lo r)
      [some (.ref p), some (.str "abcdefghijklmnopqrstuvwxyz"), some (.str b), x] T = .nx [some (.ref p), some (.str "abcdefghijklmnopqrstuvwxyz"), some (.str b'), x'] (T.set p (Cell.lst P'))
  | 0, lo, N, T, P, b, x, h, hp, hN, ha, hf, hl => ⟨b, P, x, ⟨ha, hf, hl⟩, hp, by rw [set_self h]; exact runF_nil chk_nil⟩
  | r + 1, lo, N, T, P, b, x, h, hp, hN, ha, hf, hl => by
    obtain ⟨d, P1, hp1, d0, d1, e1⟩ := draw_spec n h hp (by omega) (many := 36) (by decide) (by decide)
    obtain ⟨c, hc, hm⟩ := atI_in (xs := (("abcdefghijklmnopqrstuvwxyz" : Str) ++ ("0123456789" : Str)).cps.toList) d0 (by rw [sm36, sm_len]; exact d1)
    rw [sm36] at hm
    have gx : gIx (.str (("abcdefghijklmnopqrstuvwxyz" : Str) ++ ("0123456789" : Str))) (.int d) (T.set p (Cell.lst P1)) = some (.str ⟨#[c]⟩, T.set p (Cell.lst P1)) := gIx_str hc
    have c2 : (⟨#[c]⟩ : Str).length = 1 := rfl
    have l1 := small_len
    have l2 := dig_len
    obtain ⟨b', P', x', q1, q2, q3⟩ := base_loop n r (lo + 1) (b := b ++ ⟨#[c]⟩) (x := some (.int lo)) (get_set h (d := .lst P1)) hp1 (by omega) (by
      rw [app_list]
      intro y hy
      rcases List.mem_append.mp hy with q | q
      · exact ha y q
      · rw [List.mem_singleton.mp (show y ∈ [c] from q)]; exact hm) (by
      obtain ⟨f, hf1, hf2⟩ := hf
      exact ⟨f, by rw [app_list, List.getElem?_append_left (List.getElem?_eq_some_iff.mp hf1).1]; exact hf1, hf2⟩) (by rw [app_len, c2]; omega)
    refine ⟨b', P', x', q1, by rw [show N + (r + 1) = N + 1 + r by omega]; exact q2, ?_⟩
    rw [rng_succ, runF_cons chk_nil (ρ1 := [some (.ref p), some (.str "abcdefghijklmnopqrstuvwxyz"), some (.str b), some (.int lo)]) (S1 := T) (ρ2 := [some (.ref p), some (.str "abcdefghijklmnopqrstuvwxyz"), some (.str (b ++ ⟨#[c]⟩)), some (.int lo)]) (S2 := T.set p (Cell.lst P1)) rfl ?_, q3, List.set_set]
    walk_at "ev"
    rw [e1]
    walk_at "ev"
    rw [gx]
    walk_at "ev"
theorem seven : ∀ x ∈ [D.int 1, .int 0, .int 0, .int 7, .int 2, .int 0, .int 3, .int 4, .int 5, .int 6], ∃ k : Int, x = .int k ∧ 0 ≤ k ∧ k ≤ 7 := by
  intro x hx
  simp only [List.mem_cons, List.not_mem_nil, or_false] at hx
  rcases hx with h | h | h | h | h | h | h | h | h | h <;> exact ⟨_, h, by decide, by decide⟩
theorem base_spec (n : Nat) {N p : Nat} {T : Store} {P : List D} (h : T[p]? = some (Cell.lst P)) (hp : Pool N P) (hN : N + 20 ≤ 1000000) (hT : SOK T) :
    ∃ b P', Pool (N + 10) P' ∧ Base b ∧ tab (n + 3) ._law_base [.ref p] T = .ok (.str b) (T.set p (Cell.lst P')) := by
  obtain ⟨d1, P1, hp1, a1, b1, e1⟩ := draw_spec n h hp (by omega) (many := 26) (by decide) (by decide)
  obtain ⟨c, hc, hcs⟩ := atI_in (xs := ("abcdefghijklmnopqrstuvwxyz" : Str).cps.toList) a1 (by rw [small26_len]; exact b1)
  have hcm := small_sm c hcs
  have g1 : gIx (.str "abcdefghijklmnopqrstuvwxyz") (.int d1) (T.set p (Cell.lst P1)) = some (.str ⟨#[c]⟩, T.set p (Cell.lst P1)) := gIx_str hc
  have h1 : (T.set p (Cell.lst P1))[p]? = some (Cell.lst P1) := get_set h
  generalize hL : [D.int 1, .int 0, .int 0, .int 7, .int 2, .int 0, .int 3, .int 4, .int 5, .int 6] = L
  have L7 : ∀ x ∈ L, ∃ k : Int, x = .int k ∧ 0 ≤ k ∧ k ≤ 7 := by rw [← hL]; exact seven
  have Ll : L.length = 10 := by rw [← hL]; rfl
  obtain ⟨d2, P2, hp2, a2, b2, e2⟩ := draw_spec n (get_app h1 (T := [Cell.lst L])) hp1 (by omega) (many := 10) (by decide) (by decide)
  obtain ⟨x, hx, hxm⟩ := atI_in (xs := L) a2 (by rw [Ll]; exact b2)
  obtain ⟨r, rfl, r0, r7⟩ := L7 x hxm
  have s2 : (T.set p (Cell.lst P1) ++ [Cell.lst L]).set p (Cell.lst P2) = T.set p (Cell.lst P2) ++ [Cell.lst L] := by rw [set_app h1, List.set_set]
  rw [s2] at e2
  have tl : (T.set p (Cell.lst P1)).length = (T.set p (Cell.lst P2)).length := by rw [List.length_set, List.length_set]
  have g2 : gIx (.ref (T.set p (Cell.lst P1)).length) (.int d2) (T.set p (Cell.lst P2) ++ [Cell.lst L]) = some (.int r, T.set p (Cell.lst P2) ++ [Cell.lst L]) := gIx_lst (lstAt_lst (by rw [tl]; exact get_end)) hx
  have h2 : (T.set p (Cell.lst P2) ++ [Cell.lst L])[p]? = some (Cell.lst P2) := get_app (get_set h)
  obtain ⟨b, P3, x3, hb, hp3, e3⟩ := base_loop n r.toNat 0 (b := ⟨#[c]⟩) (x := none) h2 hp2 (by omega) (fun y hy => by rw [List.mem_singleton.mp (show y ∈ [c] from hy)]; exact hcm) ⟨c, rfl, hcs⟩ (by show 1 + _ ≤ 8; omega)
  have s3 : (T.set p (Cell.lst P2) ++ [Cell.lst L]).set p (Cell.lst P3) = T.set p (Cell.lst P3) ++ [Cell.lst L] := by rw [set_app (get_set h), List.set_set]
  rw [s3] at e3
  refine ⟨b, P3, hp3.mono (by omega), hb, (runB_rt (np := 1) (ns := 4) (ds := [.ref p]) (g := b__law_base (tab (n + 2))) (d := .str b) (S' := T.set p (Cell.lst P3) ++ [Cell.lst L]) rfl ?_).trans (cmp_more (by rw [List.length_set]) ((hT.set (i := p) (c := Cell.lst P3) hp3.flat).wf (by rw [List.length_set])) rfl)⟩
  unfold b__law_base
  refine seq_step (ρ' := [some (.ref p), some (.str "abcdefghijklmnopqrstuvwxyz"), none, none]) (S' := T) (by walk_at "ev") ?_
  refine seq_step (ρ' := [some (.ref p), some (.str "abcdefghijklmnopqrstuvwxyz"), some (.str ⟨#[c]⟩), none]) (S' := T.set p (Cell.lst P1)) (by walk_at "ev"; rw [e1]; walk_at "ev"; rw [g1]; walk_at "ev") ?_
  refine seq_step (ρ' := [some (.ref p), some (.str "abcdefghijklmnopqrstuvwxyz"), some (.str b), x3]) (S' := T.set p (Cell.lst P3) ++ [Cell.lst L]) ?_ (by walk_at "ev")
  have i1 : iR1 (Dl.e2 gIx (eB gLsd (aC (eC (.int 1)) (aC (eC (.int 0)) (aC (eC (.int 0)) (aC (eC (.int 7)) (aC (eC (.int 2)) (aC (eC (.int 0)) (aC (eC (.int 3)) (aC (eC (.int 4)) (aC (eC (.int 5)) (aC (eC (.int 6)) aN))))))))))) (eF (tab (n + 2) ._law_draw) (aC (eV 0) (aC (eC (.int 10)) aN))))
      [some (.ref p), some (.str "abcdefghijklmnopqrstuvwxyz"), some (.str ⟨#[c]⟩), none] (T.set p (Cell.lst P1)) = .ok (rng 0 r.toNat, []) (T.set p (Cell.lst P2) ++ [Cell.lst L]) := by
    refine iR1_ok ?_ r0 (by omega)
    walk_at "ev"
    rw [hL, e2]
    walk_at "ev"
    rw [g2]
    walk_at "ev"
  rw [sF_ok i1]
  exact e3
theorem numbered_spec (n : Nat) {N p : Nat} {T : Store} {P : List D} {b : Str} (h : T[p]? = some (Cell.lst P)) (hp : Pool N P) (hN : N + 20 ≤ 1000000) (hb : Base b) :
    ∃ t P', Pool (N + 2) P' ∧ AtS t ∧ tab (n + 3) ._law_numbered [.ref p, .str b] T = .ok (.str t) (T.set p (Cell.lst P')) := by
  obtain ⟨w, P1, hp1, a1, b1, e1⟩ := draw_spec n h hp (by omega) (many := 4) (by decide) (by decide)
  have l2 := app_len b "."
  have l3 := dot_len
  have l4 := hb.len
  have fin : ∀ (t : Str) Q, b__law_numbered (tab (n + 2)) [some (.ref p), some (.str b), none] T = .rt (.str t) (T.set p (Cell.lst Q)) → tab (n + 3) ._law_numbered [.ref p, .str b] T = .ok (.str t) (T.set p (Cell.lst Q)) := fun t Q e =>
    (runB_rt (np := 2) (ns := 3) (ds := [.ref p, .str b]) (g := b__law_numbered (tab (n + 2))) rfl e).trans (cmp_same (by rw [List.length_set]) rfl)
  by_cases h2 : w = 2
  · obtain ⟨m, P2, hp2, a2, b2, e2⟩ := draw_spec n (get_set h (d := .lst P1)) hp1 (by omega) (many := 9) (by decide) (by decide)
    rw [List.set_set] at e2
    obtain ⟨t1, t2, t3⟩ := dotted hb (m := 1 + m) (by omega) (by omega) (S := T.set p (Cell.lst P2))
    subst h2
    refine ⟨atT b (1 + m), P2, hp2, ⟨b, 1 + m, rfl, hb, by omega, by omega⟩, fin _ _ ?_⟩
    unfold b__law_numbered
    walk_at "ev"
    rw [e1]
    walk_at "ev"
    simp only [beq_self_eq_true, kIf_t]
    walk_at "ev"
    rw [e2]
    walk_at "ev"
    rw [t1]
    walk_at "ev"
    rw [t3]
    walk_at "ev"
  · by_cases h3 : w = 3
    · obtain ⟨m, P2, hp2, a2, b2, e2⟩ := draw_spec n (get_set h (d := .lst P1)) hp1 (by omega) (many := 999999) (by decide) (by decide)
      rw [List.set_set] at e2
      obtain ⟨t1, t2, t3⟩ := dotted hb (m := 1 + m) (by omega) (by omega) (S := T.set p (Cell.lst P2))
      have h2' : (w == 2) = false := beq_eq_false_iff_ne.mpr h2
      subst h3
      refine ⟨atT b (1 + m), P2, hp2, ⟨b, 1 + m, rfl, hb, by omega, by omega⟩, fin _ _ ?_⟩
      unfold b__law_numbered
      walk_at "ev"
      rw [e1]
      walk_at "ev"
      rw [h2']
      walk_at "ev"
      simp only [beq_self_eq_true, kIf_t]
      walk_at "ev"
      rw [e2]
      walk_at "ev"
      rw [t1]
      walk_at "ev"
      rw [t3]
      walk_at "ev"
    · refine ⟨b, P1, hp1.mono (by omega), base_at hb, fin _ _ ?_⟩
      unfold b__law_numbered
      walk_at "ev"
      rw [e1]
      walk_at "ev"
      rw [beq_eq_false_iff_ne.mpr h2]
      walk_at "ev"
      rw [beq_eq_false_iff_ne.mpr h3]
      walk_at "ev"

end Lw

set_option Elab.async false
set_option linter.all false
set_option maxRecDepth 100000
namespace Lw
open PySem L2 Dl
local macro_rules | `(tactic| walk_at "ev") => `(tactic| simp (disch := first | omega | assumption | (simp only [List.length_cons, List.length_nil]; omega) | (simp only [List.length_cons, List.length_nil])) only [sQ_, sP_, sE_, sR_, sIf_, sN_, sA_, tgO_nx, nm_, tgIx_, eC_, eV0, eV1, e1_, e2_, eB_, eF_, aN_, aC_, eMt_, eSl_, oN_, oI_, tV_, tE_, tA_, tO_, tN_, eIf_, eAnd_, eOr_, eNot_, eCh_,
  seq_nx, seq_rt, seq_bk, seq_ct, seq_ex, toR_some, toR_none, toT_some, truD_bl, truD_int, truD_tup, tyD_str, tyD_tup, tyD_int, tyD_bl, tyD_non,
  kE_, kR_, kIf_t, kIf_f, kN_, kA_, kIx1_, kIx2_, kIx3_, kE1_, kE21_, kE2_, kB_, kF_, kC1_, kC_, kM1_, kM2_, kM_, kS1_, kS2_, kS3_, kO_, kV_, kT_, kAn_t, kAn_f, kOr_t, kOr_f, kNo_, kIfE_t, kIfE_f, kVa_, kVa2_t, kVa2_f, kVo_, kVo2_t, kVo2_f, kVn_, kVn2_, kH_, kH1_, kH2_t, kH2_f, kH3_,
  List.getElem?_cons_zero, List.getElem?_cons_succ, List.set_cons_zero, List.set_cons_succ, gAdd_int, gAdd_str, gSub_int, gMul_l, gMul_r, gFdiv_int, gMod_int, gLt_int, gLe_int, gGt_int, gGe_int, gInt_int, gAbs_int, gLen_tup, gLen_str, gTpl_, gLsd_,
  Bool.false_eq_true, if_true, if_false, reduceIte, Option.map_some, Option.bind_some, gEq_int, gNe_int, gEq_str, gNe_str, Bool.not_true, Bool.not_false, decide_true, decide_false, List.length_singleton, List.length_cons, List.length_nil, List.map_cons, List.map_nil, Nat.sub_self, List.replicate_zero, List.append_nil, List.cons_append, List.nil_append, List.replicate_succ, Nat.reduceSub, Nat.reduceAdd, Nat.add_zero, Nat.zero_add, tgT_, tgU_, tgL0, tgL1, eTab_, kTab_, sX_])
local macro_rules | `(tactic| walk_at "evs") => `(tactic| simp (disch := first | omega | assumption | (simp only [List.length_cons, List.length_nil]; omega) | (simp only [List.length_cons, List.length_nil])) only [sQ_, sP_, sE_, sR_, sIf_, sN_, sA_, tgO_nx, nm_, tgIx_, eC_, eV0, eV1, e1_, e2_, eB_, eF_, aN_, aC_, eMt_, eSl_, oN_, oI_, tV_, tE_, tA_, tO_, tN_, eIf_, eAnd_, eOr_, eNot_, eCh_,
  seq_nx, seq_rt, seq_bk, seq_ct, seq_ex, toR_some, toR_none, toT_some, truD_bl, truD_int, truD_tup, tyD_str, tyD_tup, tyD_int, tyD_bl, tyD_non,
  kE_, kR_, kIf_t, kIf_f, kN_, kA_, kIx1_, kIx2_, kIx3_, kE1_, kE21_, kE2_, kB_, kF_, kC1_, kC_, kM1_, kM2_, kM_, kS1_, kS2_, kS3_, kO_, kV_, kT_, kAn_t, kAn_f, kOr_t, kOr_f, kNo_, kIfE_t, kIfE_f, kVa_, kVa2_t, kVa2_f, kVo_, kVo2_t, kVo2_f, kVn_, kVn2_, kH_, kH1_, kH2_t, kH2_f, kH3_,
  List.getElem?_cons_zero, List.getElem?_cons_succ, List.set_cons_zero, List.set_cons_succ, gAdd_int, gAdd_str, gSub_int, gMul_l, gMul_r, gFdiv_int, gMod_int, gLt_int, gLe_int, gGt_int, gGe_int, gInt_int, gAbs_int, gLen_tup, gLen_str, gTpl_, gLsd_,
  Bool.false_eq_true, if_true, if_false, reduceIte, Option.map_some, Option.bind_some, gEq_int, gNe_int, gEq_str, gNe_str, Bool.not_true, Bool.not_false, decide_true, decide_false, List.length_singleton, List.length_cons, List.length_nil, List.map_cons, List.map_nil, Nat.sub_self, List.replicate_zero, List.append_nil, List.cons_append, List.nil_append, List.replicate_succ, Nat.reduceSub, Nat.reduceAdd, Nat.add_zero, Nat.zero_add, tgT_, tgU_, tgL0, tgL1, eTab_, kTab_, sX_, *])
/-! ## kinds as trees -/
def Sg (s : Str) : Prop := s = "/" ∨ s = ">" ∨ s = "*"
inductive KT where
  | leaf (t : Str) | node (s : Str) (a b : KT)
namespace KT
def d : KT → D
  | leaf t => .str t
  | node s a b => .tup [.str s, a.d, b.d]
def at_ : KT → List Str
  | leaf t => [t]
  | node _ a b => a.at_ ++ b.at_
def ok (P : Str → Prop) : KT → Prop
  | leaf t => P t
  | node s a b => Sg s ∧ a.ok P ∧ b.ok P
theorem flat : ∀ k : KT, k.d.flat = true
  | leaf t => rfl
  | node s a b => by show (true && (a.d.flat && (b.d.flat && true))) = true; rw [flat a, flat b]; rfl
theorem pos : ∀ k : KT, 1 ≤ k.at_.length
  | leaf t => Nat.le_refl _
  | node s a b => by
    have := pos a
    show 1 ≤ (a.at_ ++ b.at_).length
    rw [List.length_append]; omega
theorem dep : ∀ k : KT, k.d.dep + 1 ≤ k.at_.length
  | leaf t => Nat.le_refl _
  | node s a b => by
    have ha := dep a
    have hb := dep b
    have pa := pos a
    have pb := pos b
    show max 0 (max a.d.dep (max b.d.dep 0)) + 1 + 1 ≤ (a.at_ ++ b.at_).length
    rw [List.length_append]; omega
theorem len_node {s : Str} {a b : KT} : (node s a b).at_.length = a.at_.length + b.at_.length := List.length_append ..
end KT
theorem ix0 {s a b : D} {S : Store} : gIx (.tup [s, a, b]) (.int 0) S = some (s, S) := rfl
theorem ix1 {s a b : D} {S : Store} : gIx (.tup [s, a, b]) (.int 1) S = some (a, S) := rfl
theorem ix2 {s a b : D} {S : Store} : gIx (.tup [s, a, b]) (.int 2) S = some (b, S) := rfl
theorem signs3 {d : Int} (h0 : 0 ≤ d) (h1 : d < 3) (S : Store) : ∃ s : Str, Sg s ∧ gIx (.str "/>*") (.int d) S = some (.str s, S) := by
  have h : d = 0 ∨ d = 1 ∨ d = 2 := by omega
  rcases h with rfl | rfl | rfl
  · exact ⟨"/", .inl rfl, (gIx_str (c := 47) (by decide +kernel)).trans (by rw [show (⟨#[47]⟩ : Str) = "/" by decide +kernel])⟩
  · exact ⟨">", .inr (.inl rfl), (gIx_str (c := 62) (by decide +kernel)).trans (by rw [show (⟨#[62]⟩ : Str) = ">" by decide +kernel])⟩
  · exact ⟨"*", .inr (.inr rfl), (gIx_str (c := 42) (by decide +kernel)).trans (by rw [show (⟨#[42]⟩ : Str) = "*" by decide +kernel])⟩
/-! ## the lot: three atoms -/
theorem lot_spec (n : Nat) {N p : Nat} {T : Store} {P : List D} (h : T[p]? = some (Cell.lst P)) (hp : Pool N P) (hN : N + 100 ≤ 1000000) (hT : SOK T) :
    ∃ ts P', Pool (N + 100) P' ∧ ts.length = 3 ∧ (∀ t ∈ ts, AtS t) ∧ tab (n + 4) ._law_lot [.ref p] T = .ok (.ref T.length) (T.set p (Cell.lst P') ++ [Cell.lst (sts ts)]) := by
  obtain ⟨b1, P1, hp1, hb1, e1⟩ := base_spec n h hp (by omega) hT
  obtain ⟨t1, P2, hp2, ht1, e2⟩ := numbered_spec n (get_set h (d := .lst P1)) hp1 (by omega) hb1
  rw [List.set_set] at e2
  have g : ∀ Q xs, (T.set p (Cell.lst Q) ++ [Cell.lst xs])[p]? = some (Cell.lst Q) := fun Q xs => get_app (get_set h)
  have st : ∀ Q R xs, (T.set p (Cell.lst Q) ++ [Cell.lst xs]).set p (Cell.lst R) = T.set p (Cell.lst R) ++ [Cell.lst xs] := fun Q R xs => by rw [set_app (get_set h), List.set_set]
  have ok : ∀ Q (ts : List Str), flats Q = true → SOK (T.set p (Cell.lst Q) ++ [Cell.lst (sts ts)]) := fun Q ts hq => (hT.set (i := p) (c := Cell.lst Q) hq).pushF (sts_flat _)
  obtain ⟨d, P3, hp3, d0, d1, e3⟩ := draw_spec (n + 1) (g P2 (sts [t1])) hp2 (by omega) (many := 2) (by decide) (by decide)
  rw [st] at e3
  obtain ⟨b2, P4, hp4, hb2, e4⟩ : ∃ b2 P4, Pool (N + 40) P4 ∧ Base b2 ∧ sIf (tE (Dl.e2 gEq (eF (tab (n + 3) ._law_draw) (aC (eV 0) (aC (eC (.int 2)) aN))) (eC (.int 0)))) (sN 1 (eF (tab (n + 3) ._law_base) (aC (eV 0) aN))) sP
      [some (.ref p), some (.str b1), some (.ref T.length)] (T.set p (Cell.lst P2) ++ [Cell.lst (sts [t1])]) = .nx [some (.ref p), some (.str b2), some (.ref T.length)] (T.set p (Cell.lst P4) ++ [Cell.lst (sts [t1])]) := by
    by_cases hd : d = 0
    · obtain ⟨b2, P4, hp4, hb2, e4⟩ := base_spec n (g P3 (sts [t1])) hp3 (by omega) (ok P3 [t1] hp3.flat)
      rw [st] at e4
      subst hd
      refine ⟨b2, P4, hp4.mono (by omega), hb2, ?_⟩
      walk_at "ev"
      rw [e3]
      walk_at "ev"
      simp only [beq_self_eq_true, kIf_t]
      walk_at "ev"
      rw [e4]
      walk_at "ev"
    · refine ⟨b1, P3, hp3.mono (by omega), hb1, ?_⟩
      walk_at "ev"
      rw [e3]
      walk_at "ev"
      rw [beq_eq_false_iff_ne.mpr hd]
      walk_at "ev"
  obtain ⟨t2, P5, hp5, ht2, e5⟩ := numbered_spec n (g P4 (sts [t1])) hp4 (by omega) hb2
  rw [st] at e5
  obtain ⟨b3, P6, hp6, hb3, e6⟩ := base_spec n (g P5 (sts [t1, t2])) hp5 (by omega) (ok P5 [t1, t2] hp5.flat)
  rw [st] at e6
  obtain ⟨t3, P7, hp7, ht3, e7⟩ := numbered_spec n (g P6 (sts [t1, t2])) hp6 (by omega) hb3
  rw [st] at e7
  have ge : ∀ Q ts, (T.set p (Cell.lst Q) ++ [Cell.lst (sts ts)])[T.length]? = some (Cell.lst (sts ts)) := fun Q ts => get_end' (by rw [List.length_set])
  have ga : ∀ Q (ts : List Str) t, ts.length ≤ 5 → gAppend (.ref T.length) [.str t] (T.set p (Cell.lst Q) ++ [Cell.lst (sts ts)]) = some (.non, T.set p (Cell.lst Q) ++ [Cell.lst (sts (ts ++ [t]))]) := fun Q ts t hz => by
    rw [gAppend_ (ge Q ts) (by rw [sts_len]; omega), set_end' (by rw [List.length_set]), sts_app]
    rfl
  have ty : ∀ Q ts, tyD (T.set p (Cell.lst Q) ++ [Cell.lst (sts ts)]) (.ref T.length) = some .lst := fun Q ts => tyD_lst (ge Q ts)
  refine ⟨[t1, t2, t3], P7, hp7.mono (by omega), rfl, fun t ht => ?_, (runB_rt (np := 1) (ns := 3) (ds := [.ref p]) (g := b__law_lot (tab (n + 3))) (d := .ref T.length) (S' := T.set p (Cell.lst P7) ++ [Cell.lst (sts [t1, t2, t3])]) rfl ?_).trans (cmp_new (by rw [List.length_set]) ((hT.set (i := p) (c := Cell.lst P7) hp7.flat).wf (by rw [List.length_set])) (Nat.le_refl _) (ge P7 _) (wfs_flat (sts_flat _)))⟩
  · rcases List.mem_cons.mp ht with rfl | ht
    · exact ht1
    rcases List.mem_cons.mp ht with rfl | ht
    · exact ht2
    · exact List.mem_singleton.mp ht ▸ ht3
  · unfold b__law_lot
    refine seq_step (ρ' := [some (.ref p), some (.str b1), none]) (S' := T.set p (Cell.lst P1)) (by walk_at "ev"; rw [e1]; walk_at "ev") ?_
    refine seq_step (ρ' := [some (.ref p), some (.str b1), some (.ref T.length)]) (S' := T.set p (Cell.lst P2) ++ [Cell.lst (sts [t1])]) (by walk_at "ev"; rw [e2]; walk_at "ev"; rw [List.length_set]; rfl) ?_
    refine seq_step e4 ?_
    refine seq_step (ρ' := [some (.ref p), some (.str b2), some (.ref T.length)]) (S' := T.set p (Cell.lst P5) ++ [Cell.lst (sts [t1, t2])]) (by
      walk_at "ev"
      rw [ty]
      walk_at "ev"
      rw [e5]
      walk_at "ev"
      rw [ga P5 [t1] t2 (by show 1 ≤ 5; decide)]
      walk_at "ev") ?_
    refine seq_step (ρ' := [some (.ref p), some (.str b2), some (.ref T.length)]) (S' := T.set p (Cell.lst P7) ++ [Cell.lst (sts [t1, t2, t3])]) (by
      walk_at "ev"
      rw [ty]
      walk_at "ev"
      rw [e6]
      walk_at "ev"
      rw [e7]
      walk_at "ev"
      rw [ga P7 [t1, t2] t3 (by show 2 ≤ 5; decide)]
      walk_at "ev") ?_
    walk_at "ev"
/-! ## a kind of a given size -/
theorem kind_spec (n : Nat) : ∀ (L : Nat) (sz : Int) {p lt N : Nat} {T : Store} {P : List D} {ts : List Str}, sz ≤ L → 1 ≤ sz → ts.length = 3 → (∀ t ∈ ts, AtS t) → p ≠ lt → T[p]? = some (Cell.lst P) → T[lt]? = some (Cell.lst (sts ts)) → Pool N P → N + 20 * sz.toNat ≤ 900000 → sz ≤ 1000 → SOK T →
    ∃ K P', Pool (N + (20 * sz.toNat - 5)) P' ∧ ((KT.at_ K).length : Int) = sz ∧ KT.ok AtS K ∧ tab (n + L + 4) ._law_kind [.ref p, .ref lt, .int sz] T = .ok K.d (T.set p (Cell.lst P'))
  | 0, sz, p, lt, N, T, P, ts, hL, h1, _, _, _, _, _, _, _, _, _ => by omega
  | L + 1, sz, p, lt, N, T, P, ts, hL, h1, h3, hA, hpl, h, hl, hp, hN, hz, hT => by
    have fin : ∀ (K : KT) Q, Pool (N + (20 * sz.toNat - 5)) Q → b__law_kind (tab (n + L + 4)) [some (.ref p), some (.ref lt), some (.int sz), none, none, none, none] T = .rt K.d (T.set p (Cell.lst Q)) → tab (n + (L + 1) + 4) ._law_kind [.ref p, .ref lt, .int sz] T = .ok K.d (T.set p (Cell.lst Q)) := fun K Q hq e =>
      (runB_rt (np := 3) (ns := 7) (ds := [.ref p, .ref lt, .int sz]) (g := b__law_kind (tab (n + L + 4))) rfl e).trans (cmp_same (by rw [List.length_set]) (wf_flat (KT.flat _)))
    by_cases hs : sz ≤ 1
    · obtain ⟨d, P1, hp1, d0, d1, e1⟩ := draw_spec (n + L + 2) h hp (by omega) (many := 8) (by decide) (by decide)
      by_cases hd : d = 7
      · obtain ⟨b, P2, hp2, hb, e2⟩ := base_spec (n + L + 1) (get_set h (d := .lst P1)) hp1 (by omega) (hT.set (i := p) (c := Cell.lst P1) hp1.flat)
        rw [List.set_set] at e2
        obtain ⟨t, P3, hp3, ht, e3⟩ := numbered_spec (n + L + 1) (get_set h (d := .lst P2)) hp2 (by omega) hb
        rw [List.set_set] at e3
        have hp3' : Pool (N + (20 * sz.toNat - 5)) P3 := hp3.mono (by omega)
        subst hd
        refine ⟨.leaf t, P3, hp3', by show ((1 : Nat) : Int) = sz; omega, ht, fin (.leaf t) P3 hp3' ?_⟩
        unfold b__law_kind
        walk_at "ev"
        rw [decide_eq_true hs]
        walk_at "ev"
        rw [e1]
        walk_at "ev"
        simp only [beq_self_eq_true, kIf_t]
        walk_at "ev"
        rw [e2]
        walk_at "ev"
        rw [e3]
        walk_at "ev"
        rfl
      · have m0 : 0 ≤ d % 3 := Int.emod_nonneg _ (by decide)
        have m1 : d % 3 < 3 := Int.emod_lt_of_pos _ (by decide)
        obtain ⟨v, hv, hm⟩ := atI_in (xs := sts ts) m0 (by rw [sts_len]; omega)
        obtain ⟨t, ht, rfl⟩ := List.mem_map.mp hm
        have g : gIx (.ref lt) (.int (d % 3)) (T.set p (Cell.lst P1)) = some (.str t, T.set p (Cell.lst P1)) := gIx_lst (lstAt_lst (set_keep hl hpl)) hv
        have hp1' : Pool (N + (20 * sz.toNat - 5)) P1 := hp1.mono (by omega)
        refine ⟨.leaf t, P1, hp1', by show ((1 : Nat) : Int) = sz; omega, hA t ht, fin (.leaf t) P1 hp1' ?_⟩
        unfold b__law_kind
        walk_at "ev"
        rw [decide_eq_true hs]
        walk_at "ev"
        rw [e1]
        walk_at "ev"
        rw [beq_eq_false_iff_ne.mpr hd]
        walk_at "ev"
        rw [g]
        walk_at "ev"
        rfl
    · obtain ⟨d1, P1, hp1, a1, b1, e1⟩ := draw_spec (n + L + 2) h hp (by omega) (many := sz - 1) (by omega) (by omega)
      obtain ⟨d2, P2, hp2, a2, b2, e2⟩ := draw_spec (n + L + 2) (get_set h (d := .lst P1)) hp1 (by omega) (many := 3) (by decide) (by decide)
      rw [List.set_set] at e2
      obtain ⟨s, hsg, hs2⟩ := signs3 a2 b2 (T.set p (Cell.lst P2))
      obtain ⟨K1, P3, hp3, hk1, ok1, e3⟩ := kind_spec n L (1 + d1) (by omega) (by omega) h3 hA hpl (get_set h (d := .lst P2)) (set_keep hl hpl) hp2 (by omega) (by omega) (hT.set (i := p) (c := Cell.lst P2) hp2.flat)
      rw [List.set_set] at e3
      obtain ⟨K2, P4, hp4, hk2, ok2, e4⟩ := kind_spec n L (sz - (1 + d1)) (by omega) (by omega) h3 hA hpl (get_set h (d := .lst P3)) (set_keep hl hpl) hp3 (by omega) (by omega) (hT.set (i := p) (c := Cell.lst P3) hp3.flat)
      rw [List.set_set] at e4
      have hp4' : Pool (N + (20 * sz.toNat - 5)) P4 := hp4.mono (by omega)
      refine ⟨.node s K1 K2, P4, hp4', by rw [KT.len_node]; omega, ⟨hsg, ok1, ok2⟩, fin (.node s K1 K2) P4 hp4' ?_⟩
      unfold b__law_kind
      refine seq_step (ρ' := [some (.ref p), some (.ref lt), some (.int sz), none, none, none, none]) (S' := T) (by walk_at "ev"; rw [decide_eq_false hs]; walk_at "ev") ?_
      refine seq_step (ρ' := [some (.ref p), some (.ref lt), some (.int sz), some (.int (1 + d1)), none, none, none]) (S' := T.set p (Cell.lst P1)) (by walk_at "ev"; rw [e1]; walk_at "ev") ?_
      refine seq_step (ρ' := [some (.ref p), some (.ref lt), some (.int sz), some (.int (1 + d1)), some (.str s), none, none]) (S' := T.set p (Cell.lst P2)) (by walk_at "ev"; rw [e2]; walk_at "ev"; rw [hs2]; walk_at "ev") ?_
      refine seq_step (ρ' := [some (.ref p), some (.ref lt), some (.int sz), some (.int (1 + d1)), some (.str s), some K1.d, none]) (S' := T.set p (Cell.lst P3)) (by walk_at "ev"; rw [e3]; walk_at "ev") ?_
      walk_at "ev"
      rw [e4]
      walk_at "ev"
      rfl
/-! ## sizes -/
def ins (xs : List Int) : List D := xs.map D.int
theorem ins_flat : ∀ xs : List Int, flats (ins xs) = true
  | [] => rfl
  | x :: xs => by show (true && flats (ins xs)) = true; rw [ins_flat xs]; rfl
theorem ins_len (xs : List Int) : (ins xs).length = xs.length := List.length_map ..
theorem ins_app (xs ys : List Int) : ins (xs ++ ys) = ins xs ++ ins ys := List.map_append ..
theorem ins_D : ∀ xs : List Int, intsD (ins xs) = some xs
  | [] => rfl
  | x :: xs => by show (intsD (ins xs)).map (x :: ·) = _; rw [ins_D xs]; rfl
theorem gSum_ {S : Store} {l : Nat} {xs : List Int} (h : lstAt S l = some (ins xs)) : gSum [.ref l] S = some (.int xs.sum, S) := by
  show ((lstAt S l).bind intsD).map (fun ns => (D.int ns.sum, S)) = _
  rw [h]
  show (intsD (ins xs)).map (fun ns => (D.int ns.sum, S)) = _
  rw [ins_D]
  rfl
theorem spread_loop (n : Nat) {p w : Nat} {many most total : Int} (hm1 : 1 ≤ most) (hm2 : most ≤ 100) (ht : total ≤ 1000) : ∀ (r : Nat) (lo : Int) (N : Nat) (T : Store) (P : List D) (R : List Int) (x : Option D), w = T.length → T[p]? = some (Cell.lst P) → Pool N P → N + r ≤ 900000 → lo + r = many → R.length + r ≤ 1000 → 0 ≤ R.sum → R.sum + many - lo ≤ total → (∀ z ∈ R, 1 ≤ z ∧ z ≤ most) →
    ∃ P' R' x', Pool (N + r) P' ∧ R'.length = R.length + r ∧ 0 ≤ R'.sum ∧ R'.sum ≤ total ∧ (∀ z ∈ R', 1 ≤ z ∧ z ≤ most) ∧ runF (nm 5) (sE (eMt .lst gAppend (eV 4) (aC (Dl.e2 gAdd (eC (.int 1)) (eF (tab (n + 2) ._law_draw) (aC (eV 0) (aC (eB gMin2 (aC (eV 2) (aC (Dl.e2 gAdd (Dl.e2 gSub (Dl.e2 gSub (Dl.e2 gAdd (eV 3) (eC (.int 1))) (eB gSum (aC (eV 4) aN))) (eV 1)) (eV 5)) aN))) aN)))) aN)))
      [] (rng lo r) [some (.ref p), some (.int many), some (.int most), some (.int total), some (.ref w), x] (T ++ [Cell.lst (ins R)]) = .nx [some (.ref p), some (.int many), some (.int most), some (.int total), some (.ref w), x'] (T.set p (Cell.lst P') ++ [Cell.lst (ins R')])
  | 0, lo, N, T, P, R, x, hw, h, hp, hN, hlo, hz, h0, hs, hR => ⟨P, R, x, hp, rfl, h0, by omega, hR, by rw [set_self h]; exact runF_nil chk_nil⟩
  | r + 1, lo, N, T, P, R, x, hw, h, hp, hN, hlo, hz, h0, hs, hR => by
    have gw0 : (T ++ [Cell.lst (ins R)])[w]? = some (Cell.lst (ins R)) := get_end' hw
    have gs := gSum_ (S := T ++ [Cell.lst (ins R)]) (lstAt_lst gw0)
    obtain ⟨X, hX, X1⟩ : ∃ X : Int, X = total + 1 - R.sum - many + lo ∧ 1 ≤ X := ⟨_, rfl, by omega⟩
    obtain ⟨M, hM, M1, M2, M3⟩ : ∃ M : Int, M = (if X < most then X else most) ∧ 1 ≤ M ∧ M ≤ X ∧ M ≤ most := ⟨_, rfl, by split <;> omega, by split <;> omega, by split <;> omega⟩
    obtain ⟨d, P1, hp1, a1, b1, e1⟩ := draw_spec n (get_app h (T := [Cell.lst (ins R)])) hp (by omega) (many := M) (by omega) (by omega)
    rw [set_app h] at e1
    have hw' : w = (T.set p (Cell.lst P1)).length := by rw [List.length_set]; exact hw
    have gw : (T.set p (Cell.lst P1) ++ [Cell.lst (ins R)])[w]? = some (Cell.lst (ins R)) := get_end' hw'
    have ga : gAppend (.ref w) [.int (1 + d)] (T.set p (Cell.lst P1) ++ [Cell.lst (ins R)]) = some (.non, T.set p (Cell.lst P1) ++ [Cell.lst (ins (R ++ [1 + d]))]) := by
      rw [gAppend_ gw (by rw [ins_len]; omega), set_end' hw', ins_app]
      rfl
    have ty0 : tyD (T ++ [Cell.lst (ins R)]) (.ref w) = some .lst := tyD_lst gw0
    have sR : (R ++ [1 + d]).sum = R.sum + (1 + d) := by rw [List.sum_append]; simp
    obtain ⟨P', R', x', q1, q2, q3, q4, q5, q6⟩ := spread_loop n (many := many) (most := most) (total := total) hm1 hm2 ht r (lo + 1) (N + 1) (T.set p (Cell.lst P1)) P1 (R ++ [1 + d]) (some (.int lo)) hw' (get_set h) hp1 (by omega) (by omega) (by rw [List.length_append]; simp only [List.length_singleton]; omega) (by rw [sR]; omega) (by rw [sR]; omega) (fun z hz => (List.mem_append.mp hz).elim (hR z) fun q => by rw [List.mem_singleton.mp q]; omega)
    refine ⟨P', R', x', by rw [show N + (r + 1) = N + 1 + r by omega]; exact q1, by rw [q2, List.length_append]; simp only [List.length_singleton]; omega, q3, q4, q5, ?_⟩
    rw [List.set_set] at q6
    rw [rng_succ, runF_cons chk_nil (d := .int lo) (ρ1 := [some (.ref p), some (.int many), some (.int most), some (.int total), some (.ref w), some (.int lo)]) (S1 := T ++ [Cell.lst (ins R)]) (ρ2 := [some (.ref p), some (.int many), some (.int most), some (.int total), some (.ref w), some (.int lo)]) (S2 := T.set p (Cell.lst P1) ++ [Cell.lst (ins (R ++ [1 + d]))]) rfl ?_, q6]
    walk_at "ev"
    rw [ty0]
    walk_at "ev"
    rw [gs]
    walk_at "ev"
    rw [show gMin2 [.int most, .int (total + 1 - R.sum - many + lo)] (T ++ [Cell.lst (ins R)]) = some (.int (if total + 1 - R.sum - many + lo < most then total + 1 - R.sum - many + lo else most), T ++ [Cell.lst (ins R)]) from rfl, ← hX, ← hM]
    walk_at "ev"
    rw [e1]
    walk_at "ev"
    rw [ga]
    walk_at "ev"

end Lw

set_option Elab.async false
set_option linter.all false
set_option maxRecDepth 100000
namespace Lw
open PySem L2 Dl
local macro_rules | `(tactic| walk_at "ev") => `(tactic| simp (disch := first | omega | assumption | (simp only [List.length_cons, List.length_nil]; omega) | (simp only [List.length_cons, List.length_nil])) only [sQ_, sP_, sE_, sR_, sIf_, sN_, sA_, tgO_nx, nm_, tgIx_, eC_, eV0, eV1, e1_, e2_, eB_, eF_, aN_, aC_, eMt_, eSl_, oN_, oI_, tV_, tE_, tA_, tO_, tN_, eIf_, eAnd_, eOr_, eNot_, eCh_,
  seq_nx, seq_rt, seq_bk, seq_ct, seq_ex, toR_some, toR_none, toT_some, truD_bl, truD_int, truD_tup, tyD_str, tyD_tup, tyD_int, tyD_bl, tyD_non,
  kE_, kR_, kIf_t, kIf_f, kN_, kA_, kIx1_, kIx2_, kIx3_, kE1_, kE21_, kE2_, kB_, kF_, kC1_, kC_, kM1_, kM2_, kM_, kS1_, kS2_, kS3_, kO_, kV_, kT_, kAn_t, kAn_f, kOr_t, kOr_f, kNo_, kIfE_t, kIfE_f, kVa_, kVa2_t, kVa2_f, kVo_, kVo2_t, kVo2_f, kVn_, kVn2_, kH_, kH1_, kH2_t, kH2_f, kH3_,
  List.getElem?_cons_zero, List.getElem?_cons_succ, List.set_cons_zero, List.set_cons_succ, gAdd_int, gAdd_str, gSub_int, gMul_l, gMul_r, gFdiv_int, gMod_int, gLt_int, gLe_int, gGt_int, gGe_int, gInt_int, gAbs_int, gLen_tup, gLen_str, gTpl_, gLsd_,
  Bool.false_eq_true, if_true, if_false, reduceIte, Option.map_some, Option.bind_some, gEq_int, gNe_int, gEq_str, gNe_str, Bool.not_true, Bool.not_false, decide_true, decide_false, List.length_singleton, List.length_cons, List.length_nil, List.map_cons, List.map_nil, Nat.sub_self, List.replicate_zero, List.append_nil, List.cons_append, List.nil_append, List.replicate_succ, Nat.reduceSub, Nat.reduceAdd, Nat.add_zero, Nat.zero_add, tgT_, tgU_, tgL0, tgL1, eTab_, kTab_, sX_])
local macro_rules | `(tactic| walk_at "evs") => `(tactic| simp (disch := first | omega | assumption | (simp only [List.length_cons, List.length_nil]; omega) | (simp only [List.length_cons, List.length_nil])) only [sQ_, sP_, sE_, sR_, sIf_, sN_, sA_, tgO_nx, nm_, tgIx_, eC_, eV0, eV1, e1_, e2_, eB_, eF_, aN_, aC_, eMt_, eSl_, oN_, oI_, tV_, tE_, tA_, tO_, tN_, eIf_, eAnd_, eOr_, eNot_, eCh_,
  seq_nx, seq_rt, seq_bk, seq_ct, seq_ex, toR_some, toR_none, toT_some, truD_bl, truD_int, truD_tup, tyD_str, tyD_tup, tyD_int, tyD_bl, tyD_non,
  kE_, kR_, kIf_t, kIf_f, kN_, kA_, kIx1_, kIx2_, kIx3_, kE1_, kE21_, kE2_, kB_, kF_, kC1_, kC_, kM1_, kM2_, kM_, kS1_, kS2_, kS3_, kO_, kV_, kT_, kAn_t, kAn_f, kOr_t, kOr_f, kNo_, kIfE_t, kIfE_f, kVa_, kVa2_t, kVa2_f, kVo_, kVo2_t, kVo2_f, kVn_, kVn2_, kH_, kH1_, kH2_t, kH2_f, kH3_,
  List.getElem?_cons_zero, List.getElem?_cons_succ, List.set_cons_zero, List.set_cons_succ, gAdd_int, gAdd_str, gSub_int, gMul_l, gMul_r, gFdiv_int, gMod_int, gLt_int, gLe_int, gGt_int, gGe_int, gInt_int, gAbs_int, gLen_tup, gLen_str, gTpl_, gLsd_,
  Bool.false_eq_true, if_true, if_false, reduceIte, Option.map_some, Option.bind_some, gEq_int, gNe_int, gEq_str, gNe_str, Bool.not_true, Bool.not_false, decide_true, decide_false, List.length_singleton, List.length_cons, List.length_nil, List.map_cons, List.map_nil, Nat.sub_self, List.replicate_zero, List.append_nil, List.cons_append, List.nil_append, List.replicate_succ, Nat.reduceSub, Nat.reduceAdd, Nat.add_zero, Nat.zero_add, tgT_, tgU_, tgL0, tgL1, eTab_, kTab_, sX_, *])
theorem spread_spec (n : Nat) {N p : Nat} {T : Store} {P : List D} {many most total : Int} (hm1 : 1 ≤ most) (hm2 : most ≤ 100) (ht : total ≤ 1000) (m1 : 1 ≤ many) (m2 : many ≤ 100) (mt : many ≤ total) (h : T[p]? = some (Cell.lst P)) (hp : Pool N P) (hN : N ≤ 800000) (hT : SOK T) :
    ∃ R P', Pool (N + 100) P' ∧ (R.length : Int) = many ∧ R.sum ≤ total ∧ (∀ z ∈ R, 1 ≤ z ∧ z ≤ most) ∧ tab (n + 3) ._law_spread [.ref p, .int many, .int most, .int total] T = .ok (.ref T.length) (T.set p (Cell.lst P') ++ [Cell.lst (ins R)]) := by
  obtain ⟨P', R', x', q1, q2, q3, q4, q5, q6⟩ := spread_loop n (many := many) (most := most) (total := total) hm1 hm2 ht many.toNat 0 N T P [] none rfl h hp (by omega) (by omega) (by show 0 + _ ≤ _; omega) (by decide) (by show (0 : Int) + many - 0 ≤ total; omega) (fun _ h => nomatch h)
  refine ⟨R', P', q1.mono (by omega), by rw [q2]; show ((0 + many.toNat : Nat) : Int) = many; omega, q4, q5, (runB_rt (np := 4) (ns := 6) (ds := [.ref p, .int many, .int most, .int total]) (g := b__law_spread (tab (n + 2))) (d := .ref T.length) (S' := T.set p (Cell.lst P') ++ [Cell.lst (ins R')]) rfl ?_).trans (cmp_new (by rw [List.length_set]) ((hT.set (i := p) (c := Cell.lst P') q1.flat).wf (by rw [List.length_set])) (Nat.le_refl _) (get_end' (by rw [List.length_set])) (wfs_flat (ins_flat _)))⟩
  unfold b__law_spread
  refine seq_step (ρ' := [some (.ref p), some (.int many), some (.int most), some (.int total), some (.ref T.length), none]) (S' := T ++ [Cell.lst []]) (by walk_at "ev") ?_
  refine seq_step (ρ' := [some (.ref p), some (.int many), some (.int most), some (.int total), some (.ref T.length), x']) (S' := T.set p (Cell.lst P') ++ [Cell.lst (ins R')]) ?_ (by walk_at "ev")
  rw [sF_ok (iR1_ok (j := many) (S' := T ++ [Cell.lst []]) (by walk_at "ev") (by omega) (by omega))]
  exact q6
/-- the sizes of a row: at least two, each at most 40, together at most 80 -/
theorem sizes_spec (n : Nat) {N p : Nat} {T : Store} {P : List D} (h : T[p]? = some (Cell.lst P)) (hp : Pool N P) (hN : N ≤ 700000) (hT : SOK T) :
    ∃ R P', Pool (N + 200) P' ∧ 2 ≤ R.length ∧ R.length ≤ 41 ∧ R.sum ≤ 80 ∧ (∀ z ∈ R, 1 ≤ z ∧ z ≤ 40) ∧ tab (n + 4) ._law_sizes [.ref p] T = .ok (.ref T.length) (T.set p (Cell.lst P') ++ [Cell.lst (ins R)]) := by
  obtain ⟨w, P1, hp1, a1, b1, e1⟩ := draw_spec (n + 1) h hp (by omega) (many := 12) (by decide) (by decide)
  have h1 : (T.set p (Cell.lst P1))[p]? = some (Cell.lst P1) := get_set h
  have fin : ∀ (R : List Int) Q, Pool (N + 200) Q → b__law_sizes (tab (n + 3)) [some (.ref p), none] T = .rt (.ref T.length) (T.set p (Cell.lst Q) ++ [Cell.lst (ins R)]) → tab (n + 4) ._law_sizes [.ref p] T = .ok (.ref T.length) (T.set p (Cell.lst Q) ++ [Cell.lst (ins R)]) := fun R Q hq e =>
    (runB_rt (np := 1) (ns := 2) (ds := [.ref p]) (g := b__law_sizes (tab (n + 3))) rfl e).trans (cmp_new (by rw [List.length_set]) ((hT.set (i := p) (c := Cell.lst Q) hq.flat).wf (by rw [List.length_set])) (Nat.le_refl _) (get_end' (by rw [List.length_set])) (wfs_flat (ins_flat _)))
  have T1 := hT.set (i := p) (c := Cell.lst P1) hp1.flat
  by_cases w7 : w < 7
  · obtain ⟨d, P2, hp2, a2, b2, e2⟩ := draw_spec (n + 1) h1 hp1 (by omega) (many := 6) (by decide) (by decide)
    rw [List.set_set] at e2
    obtain ⟨R, P3, hp3, r1, r2, r3, e3⟩ := spread_spec n (many := 2 + d) (most := 4) (total := 80) (by decide) (by decide) (by decide) (by omega) (by omega) (by omega) (get_set h (d := .lst P2)) hp2 (by omega) (hT.set (i := p) (c := Cell.lst P2) hp2.flat)
    rw [List.set_set, List.length_set] at e3
    have q3 : Pool (N + 200) P3 := hp3.mono (by omega)
    refine ⟨R, P3, q3, by omega, by omega, r2, fun z hz => by have := r3 z hz; omega, fin R P3 q3 ?_⟩
    unfold b__law_sizes
    refine seq_step (ρ' := [some (.ref p), some (.int w)]) (S' := T.set p (Cell.lst P1)) (by walk_at "ev"; rw [e1]; walk_at "ev") ?_
    walk_at "ev"
    rw [decide_eq_true w7]
    walk_at "ev"
    rw [e2]
    walk_at "ev"
    rw [e3]
    walk_at "ev"
  · by_cases w10 : w < 10
    · obtain ⟨R, P3, hp3, r1, r2, r3, e3⟩ := spread_spec n (many := 13) (most := 2) (total := 80) (by decide) (by decide) (by decide) (by omega) (by omega) (by omega) h1 hp1 (by omega) T1
      rw [List.set_set, List.length_set] at e3
      have q3 : Pool (N + 200) P3 := hp3.mono (by omega)
      refine ⟨R, P3, q3, by omega, by omega, r2, fun z hz => by have := r3 z hz; omega, fin R P3 q3 ?_⟩
      unfold b__law_sizes
      refine seq_step (ρ' := [some (.ref p), some (.int w)]) (S' := T.set p (Cell.lst P1)) (by walk_at "ev"; rw [e1]; walk_at "ev") ?_
      walk_at "ev"
      rw [decide_eq_false w7]
      walk_at "ev"
      rw [decide_eq_true w10]
      walk_at "ev"
      rw [e3]
      walk_at "ev"
    · by_cases h10 : w = 10
      · obtain ⟨d, P2, hp2, a2, b2, e2⟩ := draw_spec (n + 1) h1 hp1 (by omega) (many := 40) (by decide) (by decide)
        rw [List.set_set] at e2
        obtain ⟨R, P3, hp3, r1, r2, r3, e3⟩ := spread_spec n (many := 2 + d) (most := 40) (total := 80) (by decide) (by decide) (by decide) (by omega) (by omega) (by omega) (get_set h (d := .lst P2)) hp2 (by omega) (hT.set (i := p) (c := Cell.lst P2) hp2.flat)
        rw [List.set_set, List.length_set] at e3
        have q3 : Pool (N + 200) P3 := hp3.mono (by omega)
        refine ⟨R, P3, q3, by omega, by omega, r2, fun z hz => by have := r3 z hz; omega, fin R P3 q3 ?_⟩
        unfold b__law_sizes
        refine seq_step (ρ' := [some (.ref p), some (.int w)]) (S' := T.set p (Cell.lst P1)) (by walk_at "ev"; rw [e1]; walk_at "ev") ?_
        walk_at "ev"
        rw [decide_eq_false w7]
        walk_at "ev"
        rw [decide_eq_false w10]
        walk_at "ev"
        rw [h10]
        simp only [beq_self_eq_true, kIf_t]
        walk_at "ev"
        rw [e2]
        walk_at "ev"
        rw [e3]
        walk_at "ev"
      · obtain ⟨d, P2, hp2, a2, b2, e2⟩ := draw_spec (n + 1) h1 hp1 (by omega) (many := 2) (by decide) (by decide)
        rw [List.set_set] at e2
        obtain ⟨R, P3, hp3, r1, r2, r3, e3⟩ := spread_spec n (many := 41 - d) (most := 2) (total := 80) (by decide) (by decide) (by decide) (by omega) (by omega) (by omega) (get_set h (d := .lst P2)) hp2 (by omega) (hT.set (i := p) (c := Cell.lst P2) hp2.flat)
        rw [List.set_set, List.length_set] at e3
        have q3 : Pool (N + 200) P3 := hp3.mono (by omega)
        refine ⟨R, P3, q3, by omega, by omega, r2, fun z hz => by have := r3 z hz; omega, fin R P3 q3 ?_⟩
        unfold b__law_sizes
        refine seq_step (ρ' := [some (.ref p), some (.int w)]) (S' := T.set p (Cell.lst P1)) (by walk_at "ev"; rw [e1]; walk_at "ev") ?_
        walk_at "ev"
        rw [decide_eq_false w7]
        walk_at "ev"
        rw [decide_eq_false w10]
        walk_at "ev"
        rw [beq_eq_false_iff_ne.mpr h10]
        walk_at "ev"
        rw [e2]
        walk_at "ev"
        rw [e3]
        walk_at "ev"

end Lw

set_option Elab.async false
set_option linter.all false
set_option maxRecDepth 100000
namespace Lw
open PySem L2 Dl
local macro_rules | `(tactic| walk_at "ev") => `(tactic| simp (disch := first | omega | assumption | (simp only [List.length_cons, List.length_nil]; omega) | (simp only [List.length_cons, List.length_nil])) only [sQ_, sP_, sE_, sR_, sIf_, sN_, sA_, tgO_nx, nm_, tgIx_, eC_, eV0, eV1, e1_, e2_, eB_, eF_, aN_, aC_, eMt_, eSl_, oN_, oI_, tV_, tE_, tA_, tO_, tN_, eIf_, eAnd_, eOr_, eNot_, eCh_,
  seq_nx, seq_rt, seq_bk, seq_ct, seq_ex, toR_some, toR_none, toT_some, truD_bl, truD_int, truD_tup, tyD_str, tyD_tup, tyD_int, tyD_bl, tyD_non,
  kE_, kR_, kIf_t, kIf_f, kN_, kA_, kIx1_, kIx2_, kIx3_, kE1_, kE21_, kE2_, kB_, kF_, kC1_, kC_, kM1_, kM2_, kM_, kS1_, kS2_, kS3_, kO_, kV_, kT_, kAn_t, kAn_f, kOr_t, kOr_f, kNo_, kIfE_t, kIfE_f, kVa_, kVa2_t, kVa2_f, kVo_, kVo2_t, kVo2_f, kVn_, kVn2_, kH_, kH1_, kH2_t, kH2_f, kH3_,
  List.getElem?_cons_zero, List.getElem?_cons_succ, List.set_cons_zero, List.set_cons_succ, gAdd_int, gAdd_str, gSub_int, gMul_l, gMul_r, gFdiv_int, gMod_int, gLt_int, gLe_int, gGt_int, gGe_int, gInt_int, gAbs_int, gLen_tup, gLen_str, gTpl_, gLsd_,
  Bool.false_eq_true, if_true, if_false, reduceIte, Option.map_some, Option.bind_some, gEq_int, gNe_int, gEq_str, gNe_str, Bool.not_true, Bool.not_false, decide_true, decide_false, List.length_singleton, List.length_cons, List.length_nil, List.map_cons, List.map_nil, Nat.sub_self, List.replicate_zero, List.append_nil, List.cons_append, List.nil_append, List.replicate_succ, Nat.reduceSub, Nat.reduceAdd, Nat.add_zero, Nat.zero_add, tgT_, tgU_, tgL0, tgL1, eTab_, kTab_, sX_])
local macro_rules | `(tactic| walk_at "evs") => `(tactic| simp (disch := first | omega | assumption | (simp only [List.length_cons, List.length_nil]; omega) | (simp only [List.length_cons, List.length_nil])) only [sQ_, sP_, sE_, sR_, sIf_, sN_, sA_, tgO_nx, nm_, tgIx_, eC_, eV0, eV1, e1_, e2_, eB_, eF_, aN_, aC_, eMt_, eSl_, oN_, oI_, tV_, tE_, tA_, tO_, tN_, eIf_, eAnd_, eOr_, eNot_, eCh_,
  seq_nx, seq_rt, seq_bk, seq_ct, seq_ex, toR_some, toR_none, toT_some, truD_bl, truD_int, truD_tup, tyD_str, tyD_tup, tyD_int, tyD_bl, tyD_non,
  kE_, kR_, kIf_t, kIf_f, kN_, kA_, kIx1_, kIx2_, kIx3_, kE1_, kE21_, kE2_, kB_, kF_, kC1_, kC_, kM1_, kM2_, kM_, kS1_, kS2_, kS3_, kO_, kV_, kT_, kAn_t, kAn_f, kOr_t, kOr_f, kNo_, kIfE_t, kIfE_f, kVa_, kVa2_t, kVa2_f, kVo_, kVo2_t, kVo2_f, kVn_, kVn2_, kH_, kH1_, kH2_t, kH2_f, kH3_,
  List.getElem?_cons_zero, List.getElem?_cons_succ, List.set_cons_zero, List.set_cons_succ, gAdd_int, gAdd_str, gSub_int, gMul_l, gMul_r, gFdiv_int, gMod_int, gLt_int, gLe_int, gGt_int, gGe_int, gInt_int, gAbs_int, gLen_tup, gLen_str, gTpl_, gLsd_,
  Bool.false_eq_true, if_true, if_false, reduceIte, Option.map_some, Option.bind_some, gEq_int, gNe_int, gEq_str, gNe_str, Bool.not_true, Bool.not_false, decide_true, decide_false, List.length_singleton, List.length_cons, List.length_nil, List.map_cons, List.map_nil, Nat.sub_self, List.replicate_zero, List.append_nil, List.cons_append, List.nil_append, List.replicate_succ, Nat.reduceSub, Nat.reduceAdd, Nat.add_zero, Nat.zero_add, tgT_, tgU_, tgL0, tgL1, eTab_, kTab_, sX_, *])
/-! ## the sequent -/
def kds (ks : List KT) : List D := ks.map KT.d
theorem kds_flat : ∀ ks : List KT, flats (kds ks) = true
  | [] => rfl
  | k :: ks => by show (k.d.flat && flats (kds ks)) = true; rw [KT.flat k, kds_flat ks]; rfl
theorem kds_len (ks : List KT) : (kds ks).length = ks.length := List.length_map ..
theorem kds_app (ks js : List KT) : kds (ks ++ js) = kds ks ++ kds js := List.map_append ..
/-- a kind of at most 40 atoms -/
def Fit (k : KT) : Prop := k.ok AtS ∧ k.at_.length ≤ 40
theorem kinds_comp (n : Nat) {p lt la : Nat} {ts : List Str} {zs : List Int} {ρ : Dl.Env} (hts : ts.length = 3) (hA : ∀ t ∈ ts, AtS t) (hpl : p ≠ lt) (hpa : p ≠ la) (r0 : ρ[0]? = some (some (.ref p))) (r1 : ρ[1]? = some (some (.ref lt))) (r6 : 6 < ρ.length) : ∀ (ds : List Int) (acc : List KT) (T : Store) (P : List D) (N : Nat), (∀ z ∈ ds, 1 ≤ z ∧ z ≤ 40) → T[p]? = some (Cell.lst P) → T[lt]? = some (Cell.lst (sts ts)) → T[la]? = some (Cell.lst (ins zs)) → Pool N P → N + 800 * ds.length ≤ 100000 → acc.length + ds.length ≤ 1000 → SOK T →
    ∃ P' ks, Pool (N + 800 * ds.length) P' ∧ ks.length = ds.length ∧ (∀ k ∈ ks, Fit k) ∧ runC T.length ρ (.one 6) tYesD (eF (tab (n + 44) ._law_kind) (aC (eV 0) (aC (eV 1) (aC (eV 6) aN)))) [(la, ins zs)] (ins ds) (T ++ [Cell.lst (kds acc)]) = .ok (.ref T.length) (T.set p (Cell.lst P') ++ [Cell.lst (kds (acc ++ ks))])
  | [], acc, T, P, N, _, h, hl, ha, hp, hN, hz, hT => ⟨P, [], hp, rfl, (fun _ h => nomatch h), by
    show runC _ _ _ _ _ _ [] _ = _
    unfold runC
    rw [if_pos (chk_one (lstAt_lst (get_app ha))), set_self h, List.append_nil]⟩
  | z :: ds, acc, T, P, N, hzs, h, hl, ha, hp, hN, hz, hT => by
    have hN' : N + 800 * (ds.length + 1) ≤ 100000 := hN
    have hz' : acc.length + (ds.length + 1) ≤ 1000 := hz
    obtain ⟨z1, z2⟩ := hzs z (List.mem_cons_self ..)
    obtain ⟨K, P1, hp1, hk, hok, e1⟩ := kind_spec n 40 z (by omega) z1 hts hA hpl (get_app h (T := [Cell.lst (kds acc)])) (get_app hl) hp (by omega) (by omega) (hT.pushF (c := Cell.lst (kds acc)) (kds_flat _))
    rw [set_app h] at e1
    have T1 := hT.set (i := p) (c := Cell.lst P1) hp1.flat
    obtain ⟨P', ks, q1, q2, q3, q4⟩ := kinds_comp n hts hA hpl hpa r0 r1 r6 ds (acc ++ [K]) (T.set p (Cell.lst P1)) P1 (N + 800) (fun y hy => hzs y (List.mem_cons_of_mem _ hy)) (get_set h) (set_keep hl hpl) (set_keep ha hpa) (hp1.mono (by omega)) (by omega) (by rw [List.length_append]; simp only [List.length_singleton]; omega) T1
    rw [List.set_set, List.length_set] at q4
    refine ⟨P', K :: ks, by rw [show N + 800 * (z :: ds).length = N + 800 + 800 * ds.length by rw [List.length_cons]; omega]; exact q1, by rw [List.length_cons, q2, List.length_cons], fun y hy => (List.mem_cons.mp hy).elim (fun e => e ▸ ⟨hok, by omega⟩) (q3 y), ?_⟩
    have ef : eF (tab (n + 44) ._law_kind) (aC (eV 0) (aC (eV 1) (aC (eV 6) aN))) (ρ.set 6 (some (.int z))) (T ++ [Cell.lst (kds acc)]) = .ok K.d (T.set p (Cell.lst P1) ++ [Cell.lst (kds acc)]) := by
      unfold eF aC eV aN
      rw [List.getElem?_set_ne (by decide), List.getElem?_set_ne (by decide), r0, r1, List.getElem?_set_self r6]
      exact e1
    have ge : (T.set p (Cell.lst P1) ++ [Cell.lst (kds acc)])[T.length]? = some (Cell.lst (kds acc)) := get_end' (by rw [List.length_set])
    have se : (T.set p (Cell.lst P1) ++ [Cell.lst (kds acc)]).set T.length (Cell.lst (kds acc ++ [K.d])) = T.set p (Cell.lst P1) ++ [Cell.lst (kds (acc ++ [K]))] := by rw [set_end' (by rw [List.length_set]), kds_app]; rfl
    show runC _ _ _ _ _ _ (.int z :: ins ds) _ = _
    unfold runC
    rw [if_pos (chk_one (lstAt_lst (get_app ha)))]
    simp only [Cg.put, tYesD, ef, ge]
    rw [if_pos (show (kds acc).length < LIM by rw [kds_len]; show acc.length < 16777216; omega), se, q4, List.append_assoc acc [K] ks]
    rfl
theorem gNeg_ {i : Int} {S : Store} : gNeg (.int i) S = some (.int (-i), S) := rfl
theorem cut_m1 (ks : List KT) (g : KT) : cutD (kds (ks ++ [g])) none (some (-1)) = kds ks := by
  unfold cutD
  have hl : (kds (ks ++ [g])).length = ks.length + 1 := by rw [kds_len, List.length_append]; rfl
  have e : HT.sIx (kds (ks ++ [g])).length (kds (ks ++ [g])).length (some (-1)) = ks.length := by
    rw [hl]
    show (if (-1 : Int) < 0 then ((-1 : Int) + ((ks.length + 1 : Nat) : Int)).toNat else min (-1 : Int).toNat (ks.length + 1)) = _
    rw [if_pos (by decide)]
    omega
  rw [HT.sIx_none, e, List.drop_zero, Nat.sub_zero, kds_app, ← kds_len]
  exact List.take_left' rfl
theorem at_m1 (ks : List KT) (g : KT) : atI (kds (ks ++ [g])) (-1) = some g.d := by rw [kds_app]; exact L2.atI_last _ _
/-- a row that a sequent is cut from -/
structure Row (ks : List KT) : Prop where
  fit : ∀ k ∈ ks, Fit k
  l2 : 2 ≤ ks.length
  l41 : ks.length ≤ 41
theorem leaf_fit {t : Str} (h : AtS t) : Fit (.leaf t) := ⟨h, by show 1 ≤ 40; decide⟩
theorem last_of {ks : List KT} (h : Row ks) : ∃ js g, ks = js ++ [g] ∧ 1 ≤ js.length ∧ js.length ≤ 40 ∧ (∀ k ∈ js, Fit k) ∧ Fit g := by
  have hn : ks ≠ [] := fun e => by have := h.l2; rw [e] at this; exact absurd this (by decide)
  refine ⟨ks.dropLast, ks.getLast hn, (List.dropLast_concat_getLast hn).symm, ?_, ?_, fun k hk => h.fit k (List.dropLast_subset _ hk), h.fit _ (List.getLast_mem hn)⟩
  · rw [List.length_dropLast]; have := h.l2; omega
  · rw [List.length_dropLast]; have := h.l41; omega
/-- what a drawn sequent is -/
structure Seq (js : List KT) (g : KT) : Prop where
  l1 : 1 ≤ js.length
  l40 : js.length ≤ 40
  fit : ∀ k ∈ js, Fit k
  goal : Fit g
theorem fin_spec {r : Nat} {U : Store} {js : List KT} {g : KT} {v0 v1 v2 v4 v5 v6 : Option D} (hr : U[r]? = some (Cell.lst (kds (js ++ [g])))) :
    sR (eB gTpl (aC (eB gTuple (aC (eSl (eV 3) oN (oI (e1 gNeg (eC (.int 1))))) aN)) (aC (Dl.e2 gIx (eV 3) (e1 gNeg (eC (.int 1)))) aN))) [v0, v1, v2, some (.ref r), v4, v5, v6] U = .rt (.tup [.tup (kds js), g.d]) (U ++ [Cell.lst (kds js)]) := by
  have s1 : gSl (.ref r) none (some (-1)) U = some (.ref U.length, U ++ [Cell.lst (kds js)]) := by
    show Option.map _ (lstAt U r) = _
    rw [lstAt_lst hr]
    show some (D.ref U.length, U ++ [Cell.lst (cutD (kds (js ++ [g])) none (some (-1)))]) = _
    rw [cut_m1]
  have s2 : gTuple [.ref U.length] (U ++ [Cell.lst (kds js)]) = some (.tup (kds js), U ++ [Cell.lst (kds js)]) := by
    show Option.map _ (lstAt (U ++ [Cell.lst (kds js)]) U.length) = _
    rw [lstAt_lst get_end]
    rfl
  have s3 : gIx (.ref r) (.int (-1)) (U ++ [Cell.lst (kds js)]) = some (g.d, U ++ [Cell.lst (kds js)]) := gIx_lst (lstAt_lst (get_app hr)) (at_m1 js g)
  have n1 : ∀ S, gNeg (.int 1) S = some (.int (-1), S) := fun _ => rfl
  walk_at "ev"
  rw [n1]
  walk_at "ev"
  rw [s1]
  walk_at "ev"
  rw [s2]
  walk_at "ev"
  rw [n1]
  walk_at "ev"
  rw [s3]
  walk_at "ev"

end Lw

set_option Elab.async false
set_option linter.all false
set_option maxRecDepth 100000
namespace Lw
open PySem L2 Dl
local macro_rules | `(tactic| walk_at "ev") => `(tactic| simp (disch := first | omega | assumption | (simp only [List.length_cons, List.length_nil]; omega) | (simp only [List.length_cons, List.length_nil])) only [sQ_, sP_, sE_, sR_, sIf_, sN_, sA_, tgO_nx, nm_, tgIx_, eC_, eV0, eV1, e1_, e2_, eB_, eF_, aN_, aC_, eMt_, eSl_, oN_, oI_, tV_, tE_, tA_, tO_, tN_, eIf_, eAnd_, eOr_, eNot_, eCh_,
  seq_nx, seq_rt, seq_bk, seq_ct, seq_ex, toR_some, toR_none, toT_some, truD_bl, truD_int, truD_tup, tyD_str, tyD_tup, tyD_int, tyD_bl, tyD_non,
  kE_, kR_, kIf_t, kIf_f, kN_, kA_, kIx1_, kIx2_, kIx3_, kE1_, kE21_, kE2_, kB_, kF_, kC1_, kC_, kM1_, kM2_, kM_, kS1_, kS2_, kS3_, kO_, kV_, kT_, kAn_t, kAn_f, kOr_t, kOr_f, kNo_, kIfE_t, kIfE_f, kVa_, kVa2_t, kVa2_f, kVo_, kVo2_t, kVo2_f, kVn_, kVn2_, kH_, kH1_, kH2_t, kH2_f, kH3_,
  List.getElem?_cons_zero, List.getElem?_cons_succ, List.set_cons_zero, List.set_cons_succ, gAdd_int, gAdd_str, gSub_int, gMul_l, gMul_r, gFdiv_int, gMod_int, gLt_int, gLe_int, gGt_int, gGe_int, gInt_int, gAbs_int, gLen_tup, gLen_str, gTpl_, gLsd_,
  Bool.false_eq_true, if_true, if_false, reduceIte, Option.map_some, Option.bind_some, gEq_int, gNe_int, gEq_str, gNe_str, Bool.not_true, Bool.not_false, decide_true, decide_false, List.length_singleton, List.length_cons, List.length_nil, List.map_cons, List.map_nil, Nat.sub_self, List.replicate_zero, List.append_nil, List.cons_append, List.nil_append, List.replicate_succ, Nat.reduceSub, Nat.reduceAdd, Nat.add_zero, Nat.zero_add, gNeg_, tgT_, tgU_, tgL0, tgL1, eTab_, kTab_, sX_])
local macro_rules | `(tactic| walk_at "evs") => `(tactic| simp (disch := first | omega | assumption | (simp only [List.length_cons, List.length_nil]; omega) | (simp only [List.length_cons, List.length_nil])) only [sQ_, sP_, sE_, sR_, sIf_, sN_, sA_, tgO_nx, nm_, tgIx_, eC_, eV0, eV1, e1_, e2_, eB_, eF_, aN_, aC_, eMt_, eSl_, oN_, oI_, tV_, tE_, tA_, tO_, tN_, eIf_, eAnd_, eOr_, eNot_, eCh_,
  seq_nx, seq_rt, seq_bk, seq_ct, seq_ex, toR_some, toR_none, toT_some, truD_bl, truD_int, truD_tup, tyD_str, tyD_tup, tyD_int, tyD_bl, tyD_non,
  kE_, kR_, kIf_t, kIf_f, kN_, kA_, kIx1_, kIx2_, kIx3_, kE1_, kE21_, kE2_, kB_, kF_, kC1_, kC_, kM1_, kM2_, kM_, kS1_, kS2_, kS3_, kO_, kV_, kT_, kAn_t, kAn_f, kOr_t, kOr_f, kNo_, kIfE_t, kIfE_f, kVa_, kVa2_t, kVa2_f, kVo_, kVo2_t, kVo2_f, kVn_, kVn2_, kH_, kH1_, kH2_t, kH2_f, kH3_,
  List.getElem?_cons_zero, List.getElem?_cons_succ, List.set_cons_zero, List.set_cons_succ, gAdd_int, gAdd_str, gSub_int, gMul_l, gMul_r, gFdiv_int, gMod_int, gLt_int, gLe_int, gGt_int, gGe_int, gInt_int, gAbs_int, gLen_tup, gLen_str, gTpl_, gLsd_,
  Bool.false_eq_true, if_true, if_false, reduceIte, Option.map_some, Option.bind_some, gEq_int, gNe_int, gEq_str, gNe_str, Bool.not_true, Bool.not_false, decide_true, decide_false, List.length_singleton, List.length_cons, List.length_nil, List.map_cons, List.map_nil, Nat.sub_self, List.replicate_zero, List.append_nil, List.cons_append, List.nil_append, List.replicate_succ, Nat.reduceSub, Nat.reduceAdd, Nat.add_zero, Nat.zero_add, gNeg_, tgT_, tgU_, tgL0, tgL1, eTab_, kTab_, sX_, *])
theorem row_set {ks : List KT} (h : Row ks) : ∃ js, Row js ∧ kds js = (kds ks).set (ks.length - 1) ((kds ks)[0]?.getD .non) ∧ ∃ k0, (kds ks)[0]? = some k0 ∧ (kds ks)[0]?.getD .non = k0 := by
  obtain ⟨k0, kr, rfl⟩ : ∃ k0 kr, ks = k0 :: kr := by
    cases ks with
    | nil => exact absurd h.l2 (by decide)
    | cons a b => exact ⟨a, b, rfl⟩
  refine ⟨(k0 :: kr).set ((k0 :: kr).length - 1) k0, ⟨fun k hk => ?_, by rw [List.length_set]; exact h.l2, by rw [List.length_set]; exact h.l41⟩, ?_, k0.d, rfl, rfl⟩
  · rcases List.mem_or_eq_of_mem_set hk with q | q
    · exact h.fit k q
    · rw [q]; exact h.fit _ (List.mem_cons_self ..)
  · show ((k0 :: kr).set _ k0).map KT.d = ((k0 :: kr).map KT.d).set _ k0.d
    rw [List.map_set]
theorem sequent_spec (n : Nat) {N p : Nat} {T : Store} {P : List D} (h : T[p]? = some (Cell.lst P)) (hp : Pool N P) (hN : N ≤ 10000) (hT : SOK T) :
    ∃ js g P', Pool (N + 40000) P' ∧ Seq js g ∧ tab (n + 45) ._law_sequent [.ref p] T = .ok (.tup [.tup (kds js), g.d]) (T.set p (Cell.lst P')) := by
  obtain ⟨ts, P1, hp1, h3, hA, e1⟩ := lot_spec (n + 40) h hp (by omega) hT
  have S1 : SOK (T.set p (Cell.lst P1) ++ [Cell.lst (sts ts)]) := (hT.set (i := p) (c := Cell.lst P1) hp1.flat).pushF (sts_flat _)
  obtain ⟨R, P2, hp2, r2, r41, rs80, rz, e2⟩ := sizes_spec (n + 40) (get_app (get_set h) (T := [Cell.lst (sts ts)])) hp1 (by omega) S1
  rw [set_app (get_set h), List.set_set] at e2
  have l1 : (T.set p (Cell.lst P1) ++ [Cell.lst (sts ts)]).length = T.length + 1 := by rw [List.length_append, List.length_set]; rfl
  rw [l1] at e2
  -- the store with pool Q and three lists
  have U : ∀ Q, SOK (T.set p (Cell.lst Q)) → SOK (T.set p (Cell.lst Q) ++ [Cell.lst (sts ts)] ++ [Cell.lst (ins R)]) := fun Q h => (h.pushF (c := Cell.lst (sts ts)) (sts_flat _)).pushF (c := Cell.lst (ins R)) (ins_flat _)
  have lp := get_lt h
  have lq : ∀ Q, (T.set p (Cell.lst Q) ++ [Cell.lst (sts ts)]).length = T.length + 1 := fun Q => by rw [List.length_append, List.length_set]; rfl
  have gl : ∀ Q, (T.set p (Cell.lst Q) ++ [Cell.lst (sts ts)] ++ [Cell.lst (ins R)])[T.length]? = some (Cell.lst (sts ts)) := fun Q => get_app (get_end' (by rw [List.length_set]))
  have ga : ∀ Q, (T.set p (Cell.lst Q) ++ [Cell.lst (sts ts)] ++ [Cell.lst (ins R)])[T.length + 1]? = some (Cell.lst (ins R)) := fun Q => get_end' (lq Q).symm
  have gp : ∀ Q, (T.set p (Cell.lst Q) ++ [Cell.lst (sts ts)] ++ [Cell.lst (ins R)])[p]? = some (Cell.lst Q) := fun Q => get_app (get_app (get_set h))
  obtain ⟨P3, ks, hp3, kl, kf, e3⟩ := kinds_comp n (la := T.length + 1) (ρ := wipeD [some (.ref p), some (.ref T.length), some (.ref (T.length + 1)), none, none, none, none] [6]) h3 hA (by omega) (by omega) rfl rfl (show 6 < 7 by decide) R [] _ P2 _ rz (gp P2) (gl P2) (ga P2) hp2 (by omega) (by show 0 + _ ≤ _; omega) (U P2 (hT.set hp2.flat))
  have l3 : (T.set p (Cell.lst P2) ++ [Cell.lst (sts ts)] ++ [Cell.lst (ins R)]).length = T.length + 2 := by rw [List.length_append, lq]; rfl
  rw [l3, List.nil_append, set_app (get_app (get_set h)), set_app (get_set h), List.set_set] at e3
  have row0 : Row ks := ⟨kf, by omega, by omega⟩
  let V : List D → List KT → Store := fun Q js => T.set p (Cell.lst Q) ++ [Cell.lst (sts ts)] ++ [Cell.lst (ins R)] ++ [Cell.lst (kds js)]
  have vl : ∀ Q js, (V Q js)[T.length]? = some (Cell.lst (sts ts)) := fun Q js => get_app (gl Q)
  have va : ∀ Q js, (V Q js)[T.length + 1]? = some (Cell.lst (ins R)) := fun Q js => get_app (ga Q)
  have vp : ∀ Q js, (V Q js)[p]? = some (Cell.lst Q) := fun Q js => get_app (gp Q)
  have lV : ∀ Q, (T.set p (Cell.lst Q) ++ [Cell.lst (sts ts)] ++ [Cell.lst (ins R)]).length = T.length + 2 := fun Q => by rw [List.length_append, lq]; rfl
  have vr : ∀ Q js, (V Q js)[T.length + 2]? = some (Cell.lst (kds js)) := fun Q js => get_end' (lV Q).symm
  have vs : ∀ Q Q' js, (V Q js).set p (Cell.lst Q') = V Q' js := fun Q Q' js => by
    show (T.set p (Cell.lst Q) ++ [Cell.lst (sts ts)] ++ [Cell.lst (ins R)] ++ [Cell.lst (kds js)]).set p _ = _
    rw [set_app (gp Q), set_app (get_app (get_set h)), set_app (get_set h), List.set_set]
  have vk : ∀ Q js (i : Nat) d ks', (kds js).set i d = kds ks' → (V Q js).set (T.length + 2) (Cell.lst ((kds js).set i d)) = V Q ks' := fun Q js i d ks' e => by
    show (T.set p (Cell.lst Q) ++ [Cell.lst (sts ts)] ++ [Cell.lst (ins R)] ++ [Cell.lst (kds js)]).set _ _ = _
    rw [set_end' (lV Q).symm, e]
  have ll : ∀ Q js, (V Q js).length = T.length + 3 := fun Q js => by
    show (T.set p (Cell.lst Q) ++ [Cell.lst (sts ts)] ++ [Cell.lst (ins R)] ++ [Cell.lst (kds js)]).length = _
    rw [List.length_append, lV]; rfl
  have vok : ∀ Q js, flats Q = true → SOK (V Q js) := fun Q js hq => (U Q (hT.set (i := p) (c := Cell.lst Q) hq)).pushF (c := Cell.lst (kds js)) (kds_flat _)
  have vpre : ∀ Q js, V Q js = T.set p (Cell.lst Q) ++ ([Cell.lst (sts ts)] ++ ([Cell.lst (ins R)] ++ [Cell.lst (kds js)])) := fun Q js => by
    show T.set p (Cell.lst Q) ++ [Cell.lst (sts ts)] ++ [Cell.lst (ins R)] ++ [Cell.lst (kds js)] = _
    rw [List.append_assoc, List.append_assoc]
  have e3 : runC (T.length + 2) (wipeD [some (.ref p), some (.ref T.length), some (.ref (T.length + 1)), none, none, none, none] [6]) (.one 6) tYesD (eF (tab (n + 44) ._law_kind) (aC (eV 0) (aC (eV 1) (aC (eV 6) aN)))) [(T.length + 1, ins R)] (ins R) (T.set p (Cell.lst P2) ++ [Cell.lst (sts ts)] ++ [Cell.lst (ins R)] ++ [Cell.lst []]) = .ok (.ref (T.length + 2)) (V P3 ks) := e3
  obtain ⟨w, P4, hp4, w0, w8, e4⟩ := draw_spec (n + 42) (vp P3 ks) hp3 (by omega) (many := 8) (by decide) (by decide)
  rw [vs] at e4
  -- a row with the first kind at its end
  obtain ⟨k1, row1, e5⟩ : ∃ k1, Row k1 ∧ sIf (tA (tE (Dl.e2 gEq (eV 4) (eC (.int 5)))) (tE (Dl.e2 gLe (Dl.e2 gAdd (Dl.e2 Dl.gSub (eB gSum (aC (eV 2) aN)) (Dl.e2 gIx (eV 2) (Dl.e1 gNeg (eC (.int 1))))) (Dl.e2 gIx (eV 2) (eC (.int 0)))) (eC (.int 80))))) (sA (Dl.e2 gIx (eV 3) (eC (.int 0))) (tgIx (eV 3) (Dl.e1 gNeg (eC (.int 1))))) sP
      [some (.ref p), some (.ref T.length), some (.ref (T.length + 1)), some (.ref (T.length + 2)), some (.int w), none, none] (V P4 ks) = .nx [some (.ref p), some (.ref T.length), some (.ref (T.length + 1)), some (.ref (T.length + 2)), some (.int w), none, none] (V P4 k1) := by
    by_cases h5 : w = 5
    · obtain ⟨za, zz, zr, hzr⟩ : ∃ za zz zr, R = za ++ [zz] ∧ (ins R)[0]? = some (.int zr) := by
        have hn : R ≠ [] := fun e => by rw [e] at r2; exact absurd r2 (by decide)
        obtain ⟨x, xs, hx⟩ : ∃ x xs, R = x :: xs := by
          cases R with
          | nil => exact absurd rfl hn
          | cons a b => exact ⟨a, b, rfl⟩
        exact ⟨R.dropLast, R.getLast hn, x, (List.dropLast_concat_getLast hn).symm, by rw [hx]; rfl⟩
      have i0 : gIx (.ref (T.length + 1)) (.int 0) (V P4 ks) = some (.int zr, V P4 ks) := gIx_lst (lstAt_lst (va P4 ks)) (atI_nat (j := 0) hzr.2)
      have i1 : gIx (.ref (T.length + 1)) (.int (-1)) (V P4 ks) = some (.int zz, V P4 ks) := gIx_lst (lstAt_lst (va P4 ks)) (by rw [hzr.1, ins_app]; exact L2.atI_last _ _)
      have gs := gSum_ (lstAt_lst (va P4 ks))
      by_cases hc : R.sum - zz + zr ≤ 80
      · obtain ⟨k1, row1, q1, k0, q2, q3⟩ := row_set row0
        rw [q3] at q1
        refine ⟨k1, row1, ?_⟩
        have g0 : gIx (.ref (T.length + 2)) (.int 0) (V P4 ks) = some (k0, V P4 ks) := gIx_lst (lstAt_lst (vr P4 ks)) (atI_nat (j := 0) q2)
        have gS : gSet (.ref (T.length + 2)) (.int (-1)) k0 (V P4 ks) = some (V P4 k1) := by
          rw [gSet_lst (m := ks.length - 1) (vr P4 ks) (by
            rw [kds_len]
            unfold ixN
            have := row0.l2
            rw [if_neg (by decide), if_pos (by omega)]
            congr 1
            omega), vk P4 ks _ _ k1 q1.symm]
        walk_at "ev"
        rw [h5]
        simp only [beq_self_eq_true]
        walk_at "ev"
        rw [gs]
        walk_at "ev"
        rw [i1]
        walk_at "ev"
        rw [i0]
        walk_at "ev"
        rw [decide_eq_true hc]
        walk_at "ev"
        rw [g0]
        walk_at "ev"
        rw [gS]
        rfl
      · refine ⟨ks, row0, ?_⟩
        walk_at "ev"
        rw [h5]
        simp only [beq_self_eq_true]
        walk_at "ev"
        rw [gs]
        walk_at "ev"
        rw [i1]
        walk_at "ev"
        rw [i0]
        walk_at "ev"
        rw [decide_eq_false hc]
        walk_at "ev"
    · refine ⟨ks, row0, ?_⟩
      walk_at "ev"
      rw [beq_eq_false_iff_ne.mpr h5]
      walk_at "ev"
  obtain ⟨t0, tr, hts⟩ : ∃ t0 tr, ts = t0 :: tr := by
    cases ts with
    | nil => exact absurd h3 (by decide)
    | cons a b => exact ⟨a, b, rfl⟩
  have t0A : AtS t0 := hA t0 (by rw [hts]; exact List.mem_cons_self ..)
  have g0 : ∀ {S : Store}, S[T.length]? = some (Cell.lst (sts ts)) → gIx (.ref T.length) (.int 0) S = some (.str t0, S) := fun hS => gIx_lst (lstAt_lst hS) (atI_nat (j := 0) (by rw [hts]; rfl))
  -- the last row, in some store
  obtain ⟨kf2, row2, rr, Q, G, v5, hQ, hr, e6⟩ : ∃ k2, Row k2 ∧ ∃ (r : Nat) (Q : List D) (G : Store) (v5 : Option D), Pool (N + 40000) Q ∧ (T.set p (Cell.lst Q) ++ G)[r]? = some (Cell.lst (kds k2)) ∧ sQ (sIf (tE (Dl.e2 gEq (eV 4) (eC (.int 6)))) (sN 3 (eB gLsd (aC (Dl.e2 gIx (eV 1) (eC (.int 0))) (aC (Dl.e2 gIx (eV 1) (eC (.int 0))) aN)))) sP)
      (sIf (tE (Dl.e2 gEq (eV 4) (eC (.int 7)))) (sQ (sN 5 (Dl.e2 gIx (eMt .str gSplit (Dl.e2 gIx (eV 1) (eC (.int 0))) (aC (eC (.str ".")) aN)) (eC (.int 0))))
        (sN 3 (eB gLsd (aC (Dl.e2 gIx (eV 1) (eC (.int 0))) (aC (eF (tab (n + 44) ._law_numbered) (aC (eV 0) (aC (eV 5) aN))) aN))))) sP)
      [some (.ref p), some (.ref T.length), some (.ref (T.length + 1)), some (.ref (T.length + 2)), some (.int w), none, none] (V P4 k1) = .nx [some (.ref p), some (.ref T.length), some (.ref (T.length + 1)), some (.ref r), some (.int w), v5, none] (T.set p (Cell.lst Q) ++ G) := by
    by_cases h6 : w = 6
    · refine ⟨[.leaf t0, .leaf t0], ⟨fun k hk => ?_, by show 2 ≤ 2; decide, by show 2 ≤ 41; decide⟩, T.length + 3, P4, [Cell.lst (sts ts)] ++ ([Cell.lst (ins R)] ++ [Cell.lst (kds k1)]) ++ [Cell.lst (kds [.leaf t0, .leaf t0])], none, hp4.mono (by omega), ?_, ?_⟩
      · rcases List.mem_cons.mp hk with rfl | hk
        · exact leaf_fit t0A
        · rw [List.mem_singleton.mp hk]; exact leaf_fit t0A
      · rw [← List.append_assoc, ← vpre]
        exact get_end' (ll P4 k1).symm
      · rw [← List.append_assoc, ← vpre]
        refine seq_step (ρ' := [some (.ref p), some (.ref T.length), some (.ref (T.length + 1)), some (.ref (T.length + 3)), some (.int w), none, none]) (S' := V P4 k1 ++ [Cell.lst (kds [.leaf t0, .leaf t0])]) ?_ ?_
        · walk_at "ev"
          rw [h6]
          simp only [beq_self_eq_true, kIf_t]
          walk_at "ev"
          rw [g0 (vl P4 k1)]
          walk_at "ev"
          rw [g0 (vl P4 k1)]
          walk_at "ev"
          rw [ll]
          rfl
        · walk_at "ev"
          rw [beq_eq_false_iff_ne.mpr (show w ≠ 7 by omega)]
          walk_at "ev"
    · by_cases h7 : w = 7
      · obtain ⟨b, m, rfl, hb, m0, m1⟩ := t0A
        obtain ⟨ps, hps, hp0, hpl⟩ : ∃ ps : List Str, Txt.split (atT b m) "." = ps ∧ (sts ps)[0]? = some (D.str b) ∧ ∀ p ∈ ps, p.length ≤ 100 := by
          have bl := hb.len
          have nl := num_len m0 m1
          rw [split_atom hb m0]
          by_cases e : m = 0
          · rw [if_pos e]; exact ⟨_, rfl, rfl, fun p hp => by rw [List.mem_singleton.mp hp]; omega⟩
          · rw [if_neg e]
            exact ⟨_, rfl, rfl, fun p hp => by
              rcases List.mem_cons.mp hp with rfl | hp
              · omega
              · rw [List.mem_singleton.mp hp]; omega⟩
        have tl := atT_len hb m0 m1
        have s1 := gSplit_ (S := V P4 k1) hps (by omega) hpl
        have i1 : gIx (.ref (V P4 k1).length) (.int 0) (V P4 k1 ++ [Cell.lst (sts ps)]) = some (.str b, V P4 k1 ++ [Cell.lst (sts ps)]) := gIx_lst (lstAt_lst get_end) (atI_nat (j := 0) hp0)
        obtain ⟨t, P5, hp5, ht, e7⟩ := numbered_spec (n + 41) (get_app (vp P4 k1) (T := [Cell.lst (sts ps)])) hp4 (by omega) hb
        rw [set_app (vp P4 k1), vs] at e7
        refine ⟨[.leaf (atT b m), .leaf t], ⟨fun k hk => ?_, by show 2 ≤ 2; decide, by show 2 ≤ 41; decide⟩, T.length + 4, P5, [Cell.lst (sts ts)] ++ ([Cell.lst (ins R)] ++ [Cell.lst (kds k1)]) ++ [Cell.lst (sts ps)] ++ [Cell.lst (kds [.leaf (atT b m), .leaf t])], some (.str b), hp5.mono (by omega), ?_, ?_⟩
        · rcases List.mem_cons.mp hk with rfl | hk
          · exact leaf_fit ⟨b, m, rfl, hb, m0, m1⟩
          · rw [List.mem_singleton.mp hk]; exact leaf_fit ht
        · rw [← List.append_assoc, ← List.append_assoc, ← vpre]
          exact get_end' (by rw [List.length_append, ll]; rfl)
        · rw [← List.append_assoc, ← List.append_assoc, ← vpre]
          refine seq_step (ρ' := [some (.ref p), some (.ref T.length), some (.ref (T.length + 1)), some (.ref (T.length + 2)), some (.int w), none, none]) (S' := V P4 k1) (by walk_at "ev"; rw [beq_eq_false_iff_ne.mpr h6]; walk_at "ev") ?_
          walk_at "ev"
          rw [h7]
          simp only [beq_self_eq_true, kIf_t]
          walk_at "ev"
          rw [g0 (vl P4 k1)]
          walk_at "ev"
          rw [s1]
          walk_at "ev"
          rw [i1]
          walk_at "ev"
          rw [g0 (get_app (vl P4 k1))]
          walk_at "ev"
          rw [e7]
          walk_at "ev"
          rw [List.length_append, ll]
          rfl
      · refine ⟨k1, row1, T.length + 2, P4, [Cell.lst (sts ts)] ++ ([Cell.lst (ins R)] ++ [Cell.lst (kds k1)]), none, hp4.mono (by omega), by rw [← vpre]; exact vr P4 k1, ?_⟩
        rw [← vpre]
        walk_at "ev"
        rw [beq_eq_false_iff_ne.mpr h6]
        walk_at "ev"
        rw [beq_eq_false_iff_ne.mpr h7]
        walk_at "ev"
  obtain ⟨js, g, rfl, j1, j40, jf, gf⟩ := last_of row2
  refine ⟨js, g, Q, hQ, ⟨j1, j40, jf, gf⟩, ?_⟩
  have hf := fin_spec (v0 := some (.ref p)) (v1 := some (.ref T.length)) (v2 := some (.ref (T.length + 1))) (v4 := some (.int w)) (v5 := v5) (v6 := none) hr
  refine (runB_rt (np := 1) (ns := 7) (ds := [.ref p]) (g := b__law_sequent (tab (n + 44))) (d := .tup [.tup (kds js), g.d]) (S' := T.set p (Cell.lst Q) ++ (G ++ [Cell.lst (kds js)])) rfl ?_).trans (cmp_more (by rw [List.length_set]) ((hT.set (i := p) (c := Cell.lst Q) hQ.flat).wf (by rw [List.length_set])) (by
    show (wfs T.length (kds js) && (g.d.wf T.length && true)) = true
    rw [wfs_flat (kds_flat js), wf_flat (KT.flat g)]
    rfl))
  rw [← List.append_assoc]
  unfold b__law_sequent
  refine seq_step (ρ' := [some (.ref p), some (.ref T.length), none, none, none, none, none]) (S' := T.set p (Cell.lst P1) ++ [Cell.lst (sts ts)]) (by walk_at "ev"; rw [e1]; walk_at "ev") ?_
  refine seq_step (ρ' := [some (.ref p), some (.ref T.length), some (.ref (T.length + 1)), none, none, none, none]) (S' := T.set p (Cell.lst P2) ++ [Cell.lst (sts ts)] ++ [Cell.lst (ins R)]) (by walk_at "ev"; rw [e2]; walk_at "ev") ?_
  refine seq_step (ρ' := [some (.ref p), some (.ref T.length), some (.ref (T.length + 1)), some (.ref (T.length + 2)), none, none, none]) (S' := V P3 ks) (by
    rw [sN_, eLc_ok (iA_lst (S' := T.set p (Cell.lst P2) ++ [Cell.lst (sts ts)] ++ [Cell.lst (ins R)]) (by walk_at "ev") (lstAt_lst (ga P2))), l3]
    show kN 3 _ (runC _ _ _ _ _ _ _ _) = _
    rw [e3]
    rfl) ?_
  refine seq_step (ρ' := [some (.ref p), some (.ref T.length), some (.ref (T.length + 1)), some (.ref (T.length + 2)), some (.int w), none, none]) (S' := V P4 ks) (by walk_at "ev"; rw [e4]; walk_at "ev") ?_
  refine seq_step e5 ?_
  rw [sQ_] at e6
  rw [sQ_]
  generalize hX : sIf (tE (Dl.e2 gEq (eV 4) (eC (.int 6)))) (sN 3 (eB gLsd (aC (Dl.e2 gIx (eV 1) (eC (.int 0))) (aC (Dl.e2 gIx (eV 1) (eC (.int 0))) aN)))) sP [some (.ref p), some (.ref T.length), some (.ref (T.length + 1)), some (.ref (T.length + 2)), some (.int w), none, none] (V P4 k1) = X at e6 ⊢
  cases X with
  | nx ρ' S' =>
    have e6 : sIf (tE (Dl.e2 gEq (eV 4) (eC (.int 7)))) (sQ (sN 5 (Dl.e2 gIx (eMt .str gSplit (Dl.e2 gIx (eV 1) (eC (.int 0))) (aC (eC (.str ".")) aN)) (eC (.int 0))))
        (sN 3 (eB gLsd (aC (Dl.e2 gIx (eV 1) (eC (.int 0))) (aC (eF (tab (n + 44) ._law_numbered) (aC (eV 0) (aC (eV 5) aN))) aN))))) sP ρ' S' = _ := e6
    rw [seq_nx]
    exact seq_step e6 hf
  | rt d S' => exact nomatch e6
  | bk a b => exact nomatch e6
  | ct a b => exact nomatch e6
  | ex a b c => exact nomatch e6
  | no => exact nomatch e6

end Lw

set_option Elab.async false
set_option linter.all false
set_option maxRecDepth 100000
namespace Lw
open PySem L2 Dl
local macro_rules | `(tactic| walk_at "ev") => `(tactic| simp (disch := first | omega | assumption | (simp only [List.length_cons, List.length_nil]; omega) | (simp only [List.length_cons, List.length_nil])) only [sQ_, sP_, sE_, sR_, sIf_, sN_, sA_, tgO_nx, nm_, tgIx_, eC_, eV0, eV1, e1_, e2_, eB_, eF_, aN_, aC_, eMt_, eSl_, oN_, oI_, tV_, tE_, tA_, tO_, tN_, eIf_, eAnd_, eOr_, eNot_, eCh_,
  seq_nx, seq_rt, seq_bk, seq_ct, seq_ex, toR_some, toR_none, toT_some, truD_bl, truD_int, truD_tup, tyD_str, tyD_tup, tyD_int, tyD_bl, tyD_non,
  kE_, kR_, kIf_t, kIf_f, kN_, kA_, kIx1_, kIx2_, kIx3_, kE1_, kE21_, kE2_, kB_, kF_, kC1_, kC_, kM1_, kM2_, kM_, kS1_, kS2_, kS3_, kO_, kV_, kT_, kAn_t, kAn_f, kOr_t, kOr_f, kNo_, kIfE_t, kIfE_f, kVa_, kVa2_t, kVa2_f, kVo_, kVo2_t, kVo2_f, kVn_, kVn2_, kH_, kH1_, kH2_t, kH2_f, kH3_,
  List.getElem?_cons_zero, List.getElem?_cons_succ, List.set_cons_zero, List.set_cons_succ, gAdd_int, gAdd_str, gSub_int, gMul_l, gMul_r, gFdiv_int, gMod_int, gLt_int, gLe_int, gGt_int, gGe_int, gInt_int, gAbs_int, gLen_tup, gLen_str, gTpl_, gLsd_,
  Bool.false_eq_true, if_true, if_false, reduceIte, Option.map_some, Option.bind_some, gEq_int, gNe_int, gEq_str, gNe_str, Bool.not_true, Bool.not_false, decide_true, decide_false, List.length_singleton, List.length_cons, List.length_nil, List.map_cons, List.map_nil, Nat.sub_self, List.replicate_zero, List.append_nil, List.cons_append, List.nil_append, List.replicate_succ, Nat.reduceSub, Nat.reduceAdd, Nat.add_zero, Nat.zero_add, gNeg_, tgT_, tgU_, tgL0, tgL1, eTab_, kTab_, sX_])
local macro_rules | `(tactic| walk_at "evs") => `(tactic| simp (disch := first | omega | assumption | (simp only [List.length_cons, List.length_nil]; omega) | (simp only [List.length_cons, List.length_nil])) only [sQ_, sP_, sE_, sR_, sIf_, sN_, sA_, tgO_nx, nm_, tgIx_, eC_, eV0, eV1, e1_, e2_, eB_, eF_, aN_, aC_, eMt_, eSl_, oN_, oI_, tV_, tE_, tA_, tO_, tN_, eIf_, eAnd_, eOr_, eNot_, eCh_,
  seq_nx, seq_rt, seq_bk, seq_ct, seq_ex, toR_some, toR_none, toT_some, truD_bl, truD_int, truD_tup, tyD_str, tyD_tup, tyD_int, tyD_bl, tyD_non,
  kE_, kR_, kIf_t, kIf_f, kN_, kA_, kIx1_, kIx2_, kIx3_, kE1_, kE21_, kE2_, kB_, kF_, kC1_, kC_, kM1_, kM2_, kM_, kS1_, kS2_, kS3_, kO_, kV_, kT_, kAn_t, kAn_f, kOr_t, kOr_f, kNo_, kIfE_t, kIfE_f, kVa_, kVa2_t, kVa2_f, kVo_, kVo2_t, kVo2_f, kVn_, kVn2_, kH_, kH1_, kH2_t, kH2_f, kH3_,
  List.getElem?_cons_zero, List.getElem?_cons_succ, List.set_cons_zero, List.set_cons_succ, gAdd_int, gAdd_str, gSub_int, gMul_l, gMul_r, gFdiv_int, gMod_int, gLt_int, gLe_int, gGt_int, gGe_int, gInt_int, gAbs_int, gLen_tup, gLen_str, gTpl_, gLsd_,
  Bool.false_eq_true, if_true, if_false, reduceIte, Option.map_some, Option.bind_some, gEq_int, gNe_int, gEq_str, gNe_str, Bool.not_true, Bool.not_false, decide_true, decide_false, List.length_singleton, List.length_cons, List.length_nil, List.map_cons, List.map_nil, Nat.sub_self, List.replicate_zero, List.append_nil, List.cons_append, List.nil_append, List.replicate_succ, Nat.reduceSub, Nat.reduceAdd, Nat.add_zero, Nat.zero_add, gNeg_, tgT_, tgU_, tgL0, tgL1, eTab_, kTab_, sX_, *])
/-! ## the same -/
mutual
/-- made of texts, whole numbers and tuples -/
def Pl : D → Bool
  | .str _ => true
  | .int _ => true
  | .tup xs => Pls xs
  | _ => false
def Pls : List D → Bool
  | [] => true
  | x :: xs => Pl x && Pls xs
end
theorem isi_xi {t : Str} {S : Store} : gIsi .int [.str t, .raw (.ty "int")] S = some (.bl false, S) := by unfold gIsi; exact if_pos rfl
theorem isi_is {t : Int} {S : Store} : gIsi .str [.int t, .raw (.ty "str")] S = some (.bl false, S) := by unfold gIsi; exact if_pos rfl
theorem isi_ii {t : Int} {S : Store} : gIsi .int [.int t, .raw (.ty "int")] S = some (.bl true, S) := by unfold gIsi; exact if_pos rfl
theorem isi_bi {t : Int} {S : Store} : gIsi .bl [.int t, .raw (.ty "bool")] S = some (.bl false, S) := by unfold gIsi; exact if_pos rfl
theorem isi_ti {t : List D} {S : Store} : gIsi .int [.tup t, .raw (.ty "int")] S = some (.bl false, S) := by unfold gIsi; exact if_pos rfl
theorem pls_at : ∀ {xs : List D} {k : Nat} {d : D}, Pls xs = true → xs[k]? = some d → Pl d = true ∧ d.dep ≤ deps xs
  | [], _, _, _, h => by simp at h
  | x :: xs, 0, d, h, e => by
    have h' : (Pl x && Pls xs) = true := h
    rw [Bool.and_eq_true] at h'
    cases e
    exact ⟨h'.1, Nat.le_max_left _ _⟩
  | x :: xs, k + 1, d, h, e => by
    have h' : (Pl x && Pls xs) = true := h
    rw [Bool.and_eq_true] at h'
    obtain ⟨a, b⟩ := pls_at (k := k) h'.2 e
    exact ⟨a, Nat.le_trans b (Nat.le_max_right _ _)⟩
mutual
/-- every tuple within is short -/
def Sh : D → Prop
  | .tup xs => xs.length ≤ 1000000 ∧ Shs xs
  | _ => True
def Shs : List D → Prop
  | [] => True
  | x :: xs => Sh x ∧ Shs xs
end
theorem shs_at : ∀ {xs : List D} {k : Nat} {d : D}, Shs xs → xs[k]? = some d → Sh d
  | [], _, _, _, h => by simp at h
  | x :: xs, 0, d, h, e => by
    cases e
    exact (show Sh x ∧ Shs xs from h).1
  | x :: xs, k + 1, d, h, e => shs_at (k := k) (show Sh x ∧ Shs xs from h).2 e
theorem same_loop (j : Nat) (S : Store) (xs : List D) (hx : ∀ (k : Nat) (d : D), xs[k]? = some d → tab j ._law_same [d, d] S = .ok (.bl true) S) : ∀ (r k : Nat) (x : Option D), k + r = xs.length → ∃ y, runF (nm 2) (sIf (tN (tV (eF (tab j ._law_same) (aC (Dl.e2 gIx (eV 0) (eV 2)) (aC (Dl.e2 gIx (eV 1) (eV 2)) aN))))) (sR (eC (.bl false))) sP) []
    (rng (k : Int) r) [some (.tup xs), some (.tup xs), x] S = .nx [some (.tup xs), some (.tup xs), y] S
  | 0, k, x, _ => ⟨x, runF_nil chk_nil⟩
  | r + 1, k, x, h => by
    obtain ⟨y, q⟩ := same_loop j S xs hx r (k + 1) (some (.int k)) (by omega)
    refine ⟨y, ?_⟩
    have hk : xs[k]? = some xs[k] := List.getElem?_eq_getElem (by omega)
    have g0 : gIx (.tup xs) (.int k) S = some (xs[k], S) := gIx_tup (atI_nat hk)
    have e := hx k _ hk
    rw [rng_succ, runF_cons chk_nil (d := .int (k : Int)) (ρ1 := [some (.tup xs), some (.tup xs), some (.int k)]) (S1 := S) (ρ2 := [some (.tup xs), some (.tup xs), some (.int k)]) (S2 := S) rfl ?_]
    · exact q
    · walk_at "ev"
      rw [g0]
      walk_at "ev"
      rw [g0]
      walk_at "ev"
      rw [e]
      walk_at "ev"
theorem same_spec (j : Nat) : ∀ (d : D) (S : Store), Pl d = true → Sh d → d.dep < j → tab j ._law_same [d, d] S = .ok (.bl true) S := by
  induction j with
  | zero => exact fun d S _ _ h => absurd h (Nat.not_lt_zero _)
  | succ j ih =>
    intro d S hp hs hd
    refine (runB_rt (np := 2) (ns := 3) (ds := [d, d]) (g := b__law_same (tab j)) (d := .bl true) (S' := S) rfl ?_).trans (cmp_same rfl rfl)
    cases d with
    | str t =>
      unfold b__law_same
      walk_at "ev"
      rw [isi_ss]
      walk_at "ev"
      rw [isi_ss]
      walk_at "ev"
      simp only [beq_self_eq_true]
    | int i =>
      unfold b__law_same
      walk_at "ev"
      rw [isi_is]
      walk_at "ev"
      rw [isi_ii]
      walk_at "ev"
      rw [isi_ii]
      walk_at "ev"
      rw [isi_bi]
      walk_at "ev"
      simp only [beq_self_eq_true]
    | tup xs =>
      have hs' : xs.length ≤ 1000000 ∧ Shs xs := hs
      have hz := hs'.1
      have hd' : deps xs + 1 < j + 1 := hd
      obtain ⟨y, q⟩ := same_loop j S xs (fun k d e => by
        obtain ⟨a, b⟩ := pls_at (xs := xs) hp e
        exact ih d S a (shs_at hs'.2 e) (by omega)) xs.length 0 none (by omega)
      unfold b__law_same
      refine seq_step (ρ' := [some (.tup xs), some (.tup xs), none]) (S' := S) (by walk_at "ev"; rw [isi_st]; walk_at "ev") ?_
      refine seq_step (ρ' := [some (.tup xs), some (.tup xs), none]) (S' := S) (by walk_at "ev"; rw [isi_ti]; walk_at "ev") ?_
      refine seq_step (ρ' := [some (.tup xs), some (.tup xs), none]) (S' := S) (by walk_at "ev"; rw [isi_tt]; walk_at "ev"; simp only [beq_self_eq_true, Bool.not_true, kIf_f]; walk_at "ev") ?_
      refine seq_step (ρ' := [some (.tup xs), some (.tup xs), y]) (S' := S) ?_ (by walk_at "ev")
      rw [sF_ok (iR1_ok (j := (xs.length : Int)) (S' := S) (by walk_at "ev") (by omega) (by omega)), Int.toNat_natCast]
      exact q
    | non => exact nomatch hp
    | bl b => exact nomatch hp
    | ref l => exact nomatch hp
    | raw v => exact nomatch hp

end Lw

set_option Elab.async false
set_option linter.all false
set_option maxRecDepth 100000
namespace Lw
open PySem L2 Dl
local macro_rules | `(tactic| simp_arith [$ls,*]) => `(tactic| simp (disch := first | omega | assumption | (simp only [List.length_cons, List.length_nil, List.length_append, List.length_take, List.length_drop]; omega) | (simp only [List.length_cons, List.length_nil])) only [sQ_, sP_, sE_, sR_, sIf_, sN_, sA_, tgO_nx, nm_, tgIx_, eC_, eV0, eV1, e1_, e2_, eB_, eF_, aN_, aC_, eMt_, eSl_, oN_, oI_, tV_, tE_, tA_, tO_, tN_, eIf_, eAnd_, eOr_, eNot_, eCh_, seq_nx, seq_rt, seq_bk, seq_ct, seq_ex, toR_some, toR_none, toT_some, truD_bl, truD_int, truD_tup, truD_non, truD_str, truD_ref, truC_lst, tyD_str, tyD_tup, tyD_int, tyD_bl, tyD_non, tyD_ref, tyC_lst, tyC_rol, tyC_dic, kE_, kR_, kIf_t, kIf_f, kN_, kA_, kIx1_, kIx2_, kIx3_, kE1_, kE21_, kE2_, kB_, kF_, kC1_, kC_, kM1_, kM2_, kM_, kS1_, kS2_, kS3_, kO_, kV_, kT_, kAn_t, kAn_f, kOr_t, kOr_f, kNo_, kIfE_t, kIfE_f, kVa_, kVa2_t, kVa2_f, kVo_, kVo2_t, kVo2_f, kVn_, kVn2_, kH_, kH1_, kH2_t, kH2_f, kH3_, List.getElem?_cons_zero, List.getElem?_cons_succ, List.set_cons_zero, List.set_cons_succ, gAdd_int, gAdd_str, gAdd_t, gAdd_r, catC_s, gSub_int, gMul_l, gMul_r, gFdiv_int, gMod_int, gLt_int, gLe_int, gGt_int, gGe_int, gInt_int, gAbs_int, gLen_tup, gLen_str, gLen_r, lenC_s, gTpl_, gLsd_, gIx_r, ixC_s, ixO_s, gIx_t, gIx_s, ixS_s, atI_0, atI_1, atI_2, atI_3, atI_4, atI_5, gAppend_r, appC_s, gExtend_r, extC_s, gPop_r, popC_s, gSet_r, setC_0, setC_2, gTuple_r, tupC_s, gTuple_t, gList_r, gList_t, newC_s, gSl_r, slC_s, gSl_t, gSl_s, cut_take, cut_drop, cut_init, cut_mid, Int.toNat_natCast, lstC_lst, lstC_rol, lstAt_C, isi_str, isi_int, isi_bool, isi_tup, isi_lst, isO_s, isB_1, isB_2, isB_3, isB_4, isB_5, isB_6, isB_7, isB_8, isB_9, isB_10, isB_11, isB_12, isB_13, isB_14, isB_15, isB_16, isB_17, isB_18, isB_19, isB_20, isB_21, isB_22, isB_23, isB_24, isB_25, isB_26, gSum_r, sumC_s, sumO_s, gMin_, gMax_, qEq_int, qNe_int, qEq_str, qNe_str, gNeg_z, tgT_, tgU_, tgL0, tgL1, eTab_, kTab_, sX_, gDget_r, dgC_s, List.getElem?_concat_length, set_end, sF_, kFor_, iR1_, kR1_, iR2_, kR2_, kR3_, iA_, kAny_r, kAny_t, kAny_s, iaC_s, eLc_, kLc_, wipeD_c, wipeD_n, tYes_, put_one, sAug_, gAug_i, sBk_, sCt_, sW_, st_len, st_p, st_k, st_0, st_q, st_set_p, st_set_k, st_set_0, st_push, sx_len, sx_k, sx_0, sx_q, sx_set_k, sx_set_0, sx_push, So_rt, So_nx, So_ex, Tn_nx, Tn_ct, Tn_bk, Tn_rt, Tn_ex, Bool.false_eq_true, if_true, if_false, reduceIte, Option.map_some, Option.bind_some, Bool.not_true, Bool.not_false, decide_true, decide_false, eq_self, List.length_append, List.length_singleton, List.length_cons, List.length_nil, List.map_cons, List.map_nil, Nat.sub_self, List.replicate_zero, List.append_nil, List.cons_append, List.nil_append, List.append_assoc, List.replicate_succ, Nat.reduceSub, Nat.reduceAdd, Nat.add_zero, Nat.zero_add, Nat.add_assoc, Nat.reduceLeDiff, Int.reduceEq, Int.reduceLT, Int.reduceLE, Int.reduceAdd, Int.reduceSub, Int.reduceNeg, $ls,*])
local macro_rules | `(tactic| walk_at "ev") => `(tactic| simp (disch := first | omega | assumption | (simp only [List.length_cons, List.length_nil, List.length_append, List.length_take, List.length_drop]; omega) | (simp only [List.length_cons, List.length_nil])) only [sQ_, sP_, sE_, sR_, sIf_, sN_, sA_, tgO_nx, nm_, tgIx_, eC_, eV0, eV1, e1_, e2_, eB_, eF_, aN_, aC_, eMt_, eSl_, oN_, oI_, tV_, tE_, tA_, tO_, tN_, eIf_, eAnd_, eOr_, eNot_, eCh_, seq_nx, seq_rt, seq_bk, seq_ct, seq_ex, toR_some, toR_none, toT_some, truD_bl, truD_int, truD_tup, truD_non, truD_str, truD_ref, truC_lst, tyD_str, tyD_tup, tyD_int, tyD_bl, tyD_non, tyD_ref, tyC_lst, tyC_rol, tyC_dic, kE_, kR_, kIf_t, kIf_f, kN_, kA_, kIx1_, kIx2_, kIx3_, kE1_, kE21_, kE2_, kB_, kF_, kC1_, kC_, kM1_, kM2_, kM_, kS1_, kS2_, kS3_, kO_, kV_, kT_, kAn_t, kAn_f, kOr_t, kOr_f, kNo_, kIfE_t, kIfE_f, kVa_, kVa2_t, kVa2_f, kVo_, kVo2_t, kVo2_f, kVn_, kVn2_, kH_, kH1_, kH2_t, kH2_f, kH3_, List.getElem?_cons_zero, List.getElem?_cons_succ, List.set_cons_zero, List.set_cons_succ, gAdd_int, gAdd_str, gAdd_t, gAdd_r, catC_s, gSub_int, gMul_l, gMul_r, gFdiv_int, gMod_int, gLt_int, gLe_int, gGt_int, gGe_int, gInt_int, gAbs_int, gLen_tup, gLen_str, gLen_r, lenC_s, gTpl_, gLsd_, gIx_r, ixC_s, ixO_s, gIx_t, gIx_s, ixS_s, atI_0, atI_1, atI_2, atI_3, atI_4, atI_5, gAppend_r, appC_s, gExtend_r, extC_s, gPop_r, popC_s, gSet_r, setC_0, setC_2, gTuple_r, tupC_s, gTuple_t, gList_r, gList_t, newC_s, gSl_r, slC_s, gSl_t, gSl_s, cut_take, cut_drop, cut_init, cut_mid, Int.toNat_natCast, lstC_lst, lstC_rol, lstAt_C, isi_str, isi_int, isi_bool, isi_tup, isi_lst, isO_s, isB_1, isB_2, isB_3, isB_4, isB_5, isB_6, isB_7, isB_8, isB_9, isB_10, isB_11, isB_12, isB_13, isB_14, isB_15, isB_16, isB_17, isB_18, isB_19, isB_20, isB_21, isB_22, isB_23, isB_24, isB_25, isB_26, gSum_r, sumC_s, sumO_s, gMin_, gMax_, qEq_int, qNe_int, qEq_str, qNe_str, gNeg_z, tgT_, tgU_, tgL0, tgL1, eTab_, kTab_, sX_, gDget_r, dgC_s, List.getElem?_concat_length, set_end, sF_, kFor_, iR1_, kR1_, iR2_, kR2_, kR3_, iA_, kAny_r, kAny_t, kAny_s, iaC_s, eLc_, kLc_, wipeD_c, wipeD_n, tYes_, put_one, sAug_, gAug_i, sBk_, sCt_, sW_, st_len, st_p, st_k, st_0, st_q, st_set_p, st_set_k, st_set_0, st_push, sx_len, sx_k, sx_0, sx_q, sx_set_k, sx_set_0, sx_push, So_rt, So_nx, So_ex, Tn_nx, Tn_ct, Tn_bk, Tn_rt, Tn_ex, Bool.false_eq_true, if_true, if_false, reduceIte, Option.map_some, Option.bind_some, Bool.not_true, Bool.not_false, decide_true, decide_false, eq_self, List.length_append, List.length_singleton, List.length_cons, List.length_nil, List.map_cons, List.map_nil, Nat.sub_self, List.replicate_zero, List.append_nil, List.cons_append, List.nil_append, List.append_assoc, List.replicate_succ, Nat.reduceSub, Nat.reduceAdd, Nat.add_zero, Nat.zero_add, Nat.add_assoc, Nat.reduceLeDiff, Int.reduceEq, Int.reduceLT, Int.reduceLE, Int.reduceAdd, Int.reduceSub, Int.reduceNeg])
/-! ## the steps and the heads, side by side -/
structure Stp where
  rule : Str
  at_ : Int
  width : Int
  parts : List (List D × D)
def prt (p : List D × D) : D := .tup [.tup p.1, p.2]
def Stp.d (s : Stp) : D := .tup [.str s.rule, .int s.at_, .int s.width, .tup (s.parts.map prt)]
def Stp.h (s : Stp) : D := .tup [.str s.rule, .int s.at_, .int s.width]
def axStps (ks : List D) : KT → List Stp
  | .leaf t => if deqs ks [.str t] = true then [⟨"axiom", 0, 0, []⟩] else []
  | _ => []
def prStp (ks : List D) (a b : D) (k : Nat) : Stp := ⟨"pair right", (1 : Int) + k, 0, [(ks.take (k + 1), a), (ks.drop (k + 1), b)]⟩
def goalStps (ks : List D) : KT → List Stp
  | .leaf _ => []
  | .node s a b =>
    if s = "/" then [⟨"over right", 0, 0, [(ks ++ [b.d], a.d)]⟩]
    else if s = ">" then [⟨"under right", 0, 0, [(a.d :: ks, b.d)]⟩]
    else (List.range (ks.length - 1)).map (prStp ks a.d b.d)
def olStp (ks : List D) (g : D) (i : Nat) (a b : D) (k : Nat) : Stp := ⟨"over left", i, (1 : Int) + k, [((ks.drop (i + 1)).take (k + 1), b), (ks.take i ++ a :: ks.drop (i + 2 + k), g)]⟩
def ulStp (ks : List D) (g : D) (i : Nat) (a b : D) (k : Nat) : Stp := ⟨"under left", i, (1 : Int) + k, [((ks.drop (i - (k + 1))).take (k + 1), a), (ks.take (i - (k + 1)) ++ b :: ks.drop (i + 1), g)]⟩
def premStps (ks : List D) (g : D) (i : Nat) : KT → List Stp
  | .leaf _ => []
  | .node s a b =>
    if s = "/" then (List.range (ks.length - (i + 1))).map (olStp ks g i a.d b.d)
    else if s = ">" then (List.range i).map (ulStp ks g i a.d b.d)
    else [⟨"pair left", i, 0, [(ks.take i ++ a.d :: b.d :: ks.drop (i + 1), g)]⟩]
def allPrem (ks : List D) (g : D) : Nat → List KT → List Stp
  | _, [] => []
  | i, k :: ks' => premStps ks g i k ++ allPrem ks g (i + 1) ks'
def allStps (js : List KT) (g : KT) : List Stp := axStps (kds js) g ++ goalStps (kds js) g ++ allPrem (kds js) g.d 0 js
def sds (ss : List Stp) : List D := ss.map Stp.d
def hds (ss : List Stp) : List D := ss.map Stp.h
theorem KTd_leaf {t : Str} : KT.d (.leaf t) = .str t := Dl.nr rfl
theorem KTd_node {s : Str} {a b : KT} : KT.d (.node s a b) = .tup [.str s, a.d, b.d] := Dl.nr rfl
theorem e1 : (("" : Str) = "/") = False := eq_false (by decide)
theorem e2 : (("" : Str) = ">") = False := eq_false (by decide)
theorem e3 : (("" : Str) = "*") = False := eq_false (by decide)
theorem q1 : (("/" : Str) = ">") = False := eq_false (by decide)
theorem q2 : (("/" : Str) = "*") = False := eq_false (by decide)
theorem q3 : ((">" : Str) = "/") = False := eq_false (by decide)
theorem q4 : ((">" : Str) = "*") = False := eq_false (by decide)
theorem q5 : (("*" : Str) = "/") = False := eq_false (by decide)
theorem q6 : (("*" : Str) = ">") = False := eq_false (by decide)
theorem flats_iff : ∀ {xs : List D}, flats xs = true ↔ ∀ x ∈ xs, x.flat = true
  | [] => ⟨fun _ x h => (nomatch h), fun _ => rfl⟩
  | x :: xs => by
    show (x.flat && flats xs) = true ↔ _
    rw [Bool.and_eq_true, flats_iff (xs := xs), List.forall_mem_cons]
theorem flats_app {xs ys : List D} (h : flats xs = true) (h2 : flats ys = true) : flats (xs ++ ys) = true := flats_iff.mpr fun x hx => by
  rcases List.mem_append.mp hx with z | z
  · exact flats_iff.mp h x z
  · exact flats_iff.mp h2 x z
theorem flats_take {xs : List D} (n : Nat) (h : flats xs = true) : flats (xs.take n) = true := flats_iff.mpr fun x hx => flats_iff.mp h x (List.mem_of_mem_take hx)
theorem flats_drop {xs : List D} (n : Nat) (h : flats xs = true) : flats (xs.drop n) = true := flats_iff.mpr fun x hx => flats_iff.mp h x (List.mem_of_mem_drop hx)
theorem flats_cons {x : D} {xs : List D} (h : x.flat = true) (h2 : flats xs = true) : flats (x :: xs) = true := flats_iff.mpr fun y hy => by
  rcases List.mem_cons.mp hy with rfl | z
  · exact h
  · exact flats_iff.mp h2 y z
def Stp.Fl (s : Stp) : Prop := ∀ p ∈ s.parts, flats p.1 = true ∧ p.2.flat = true
theorem prts_flat : ∀ {ps : List (List D × D)}, (∀ p ∈ ps, flats p.1 = true ∧ p.2.flat = true) → flats (ps.map prt) = true
  | [], _ => rfl
  | p :: ps, h => flats_cons (by
    have q := h p (List.mem_cons_self ..)
    show (flats p.1 && (p.2.flat && true)) = true
    rw [q.1, q.2]; rfl) (prts_flat fun p hp => h p (List.mem_cons_of_mem _ hp))
theorem Stp.flat {s : Stp} (h : s.Fl) : s.d.flat = true := by
  show (true && (true && (true && (flats (s.parts.map prt) && true)))) = true
  rw [prts_flat h]
  rfl
theorem sds_flat {ss : List Stp} (h : ∀ s ∈ ss, s.Fl) : flats (sds ss) = true := flats_iff.mpr fun x hx => by
  obtain ⟨s, hs, rfl⟩ := List.mem_map.mp hx
  exact Stp.flat (h s hs)
theorem one_fl {r : Str} {i w : Int} {ps : List (List D × D)} (h : (⟨r, i, w, ps⟩ : Stp).Fl) : ∀ s ∈ [(⟨r, i, w, ps⟩ : Stp)], s.Fl := fun s hs => by rw [List.mem_singleton.mp hs]; exact h
theorem fl1 {r : Str} {i w : Int} {a : List D} {b : D} (h : flats a = true) (h2 : b.flat = true) : (⟨r, i, w, [(a, b)]⟩ : Stp).Fl := fun p hp => by rw [List.mem_singleton.mp hp]; exact ⟨h, h2⟩
theorem fl2 {r : Str} {i w : Int} {a c : List D} {b e : D} (h : flats a = true) (h2 : b.flat = true) (h3 : flats c = true) (h4 : e.flat = true) : (⟨r, i, w, [(a, b), (c, e)]⟩ : Stp).Fl := fun p hp => by
  rcases List.mem_cons.mp hp with rfl | hp
  · exact ⟨h, h2⟩
  · rw [List.mem_singleton.mp hp]; exact ⟨h3, h4⟩
theorem map_fl {n : Nat} {f : Nat → Stp} (h : ∀ k, k < n → (f k).Fl) : ∀ s ∈ (List.range n).map f, s.Fl := fun s hs => by
  obtain ⟨k, hk, rfl⟩ := List.mem_map.mp hs
  exact h k (List.mem_range.mp hk)
theorem goal_fl (ks : List D) (hk : flats ks = true) (g : KT) : ∀ s ∈ goalStps ks g, s.Fl := by
  cases g with
  | leaf t => exact fun s hs => nomatch hs
  | node r a b =>
    show ∀ s ∈ (if r = "/" then [(⟨"over right", 0, 0, [(ks ++ [b.d], a.d)]⟩ : Stp)] else if r = ">" then [⟨"under right", 0, 0, [(a.d :: ks, b.d)]⟩] else (List.range (ks.length - 1)).map (prStp ks a.d b.d)), s.Fl
    split
    · exact one_fl (fl1 (flats_app hk (flats_cons (KT.flat b) rfl)) (KT.flat a))
    · split
      · exact one_fl (fl1 (flats_cons (KT.flat a) hk) (KT.flat b))
      · exact map_fl fun k _ => fl2 (flats_take _ hk) (KT.flat a) (flats_drop _ hk) (KT.flat b)
theorem prem_fl (ks : List D) (hk : flats ks = true) (g : D) (hg : g.flat = true) (i : Nat) (k : KT) : ∀ s ∈ premStps ks g i k, s.Fl := by
  cases k with
  | leaf t => exact fun s hs => nomatch hs
  | node r a b =>
    show ∀ s ∈ (if r = "/" then (List.range (ks.length - (i + 1))).map (olStp ks g i a.d b.d) else if r = ">" then (List.range i).map (ulStp ks g i a.d b.d) else [(⟨"pair left", i, 0, [(ks.take i ++ a.d :: b.d :: ks.drop (i + 1), g)]⟩ : Stp)]), s.Fl
    split
    · exact map_fl fun j _ => fl2 (flats_take _ (flats_drop _ hk)) (KT.flat b) (flats_app (flats_take _ hk) (flats_cons (KT.flat a) (flats_drop _ hk))) hg
    · split
      · exact map_fl fun j _ => fl2 (flats_take _ (flats_drop _ hk)) (KT.flat a) (flats_app (flats_take _ hk) (flats_cons (KT.flat b) (flats_drop _ hk))) hg
      · exact one_fl (fl1 (flats_app (flats_take _ hk) (flats_cons (KT.flat a) (flats_cons (KT.flat b) (flats_drop _ hk)))) hg)
theorem sds_snoc {f : Nat → Stp} {j : Nat} : sds ((List.range j).map f) ++ [(f j).d] = sds ((List.range (j + 1)).map f) := by
  unfold sds
  rw [List.range_succ, List.map_append, List.map_append]
  rfl
theorem sds_len (ss : List Stp) : (sds ss).length = ss.length := List.length_map ..
theorem goal_o {ks : List D} {a b : KT} : goalStps ks (.node "/" a b) = [⟨"over right", 0, 0, [(ks ++ [b.d], a.d)]⟩] := rfl
theorem goal_u {ks : List D} {a b : KT} : goalStps ks (.node ">" a b) = [⟨"under right", 0, 0, [(a.d :: ks, b.d)]⟩] := rfl
theorem goal_p {ks : List D} {a b : KT} {s : Str} (h1 : ¬ s = "/") (h2 : ¬ s = ">") : goalStps ks (.node s a b) = (List.range (ks.length - 1)).map (prStp ks a.d b.d) := (if_neg h1).trans (if_neg h2)
theorem prem_o {ks : List D} {g : D} {i : Nat} {a b : KT} : premStps ks g i (.node "/" a b) = (List.range (ks.length - (i + 1))).map (olStp ks g i a.d b.d) := rfl
theorem prem_u {ks : List D} {g : D} {i : Nat} {a b : KT} : premStps ks g i (.node ">" a b) = (List.range i).map (ulStp ks g i a.d b.d) := rfl
theorem prem_p {ks : List D} {g : D} {i : Nat} {a b : KT} {s : Str} (h1 : ¬ s = "/") (h2 : ¬ s = ">") : premStps ks g i (.node s a b) = [⟨"pair left", i, 0, [(ks.take i ++ a.d :: b.d :: ks.drop (i + 1), g)]⟩] := (if_neg h1).trans (if_neg h2)
theorem goal_steps_t (n : Nat) (js : List KT) (g : KT) (S : Store) (hS : SOK S) (hl : js.length ≤ 40) : Dl.Sp (tab (n + 1) .goal_steps [.tup (kds js), g.d] S) fun r => r = .ok (.ref S.length) (S ++ [.lst (sds (goalStps (kds js) g))]) := by
  have kl := kds_len js
  have fl := wfs_flat (n := S.length) (sds_flat (goal_fl (kds js) (kds_flat js) g))
  refine Dl.sp_plain (g := b_goal_steps (tab n)) rfl fun Q hQ => ?_
  unfold b_goal_steps
  cases g with
  | leaf t =>
    simp_arith [KTd_leaf]
    exact Dl.Qxl0 (hS.wf rfl) rfl (hQ _ rfl)
  | node s a b =>
    simp_arith [KTd_node, qEq_str]
    by_cases h1 : s = "/"
    · subst h1
      rw [goal_o] at hQ fl
      simp_arith []
      exact Dl.Qxl0 (hS.wf rfl) fl (hQ _ rfl)
    · simp_arith [h1]
      by_cases h2 : s = ">"
      · subst h2
        rw [goal_u] at hQ fl
        simp_arith []
        exact Dl.Qxl0 (hS.wf rfl) fl (hQ _ rfl)
      · rw [goal_p h1 h2] at hQ fl
        simp_arith [h2]
        refine Dl.forQ (fun j ρ T => ∃ v, ρ = [some (.tup (kds js)), some (.tup [.str s, a.d, b.d]), some (.ref S.length), v, some (.str s), some a.d, some b.d] ∧ T = Dl.sx S [.lst (sds ((List.range j).map (prStp (kds js) a.d b.d)))]) ⟨_, rfl, rfl⟩ ?_ ?_
        · rintro j d _ _ hj ⟨v, rfl, rfl⟩
          obtain ⟨hj, rfl⟩ := Dl.rng_get hj
          have hz : (sds ((List.range j).map (prStp (kds js) a.d b.d))).length < 16777216 := by rw [sds_len, List.length_map, List.length_range]; omega
          refine ⟨chk_nil, _, _, rfl, ?_⟩
          simp_arith []
          refine ⟨_, rfl, ?_⟩
          rw [← sds_snoc, show ((1 : Int) + j).toNat = j + 1 by omega]
          rfl
        · rintro _ _ ⟨v, rfl, rfl⟩
          rw [rng_length, show (((kds js).length : Int) - 1).toNat = (kds js).length - 1 by omega]
          refine ⟨chk_nil, ?_⟩
          simp_arith []
          exact Dl.Qxl0 (hS.wf rfl) fl (hQ _ rfl)

end Lw

set_option Elab.async false
set_option linter.all false
set_option maxRecDepth 100000
namespace Lw
open PySem L2 Dl
local macro_rules | `(tactic| simp_arith [$ls,*]) => `(tactic| simp (disch := first | omega | assumption | (simp only [List.length_cons, List.length_nil, List.length_append, List.length_take, List.length_drop]; omega) | (simp only [List.length_cons, List.length_nil])) only [sQ_, sP_, sE_, sR_, sIf_, sN_, sA_, tgO_nx, nm_, tgIx_, eC_, eV0, eV1, e1_, e2_, eB_, eF_, aN_, aC_, eMt_, eSl_, oN_, oI_, tV_, tE_, tA_, tO_, tN_, eIf_, eAnd_, eOr_, eNot_, eCh_, seq_nx, seq_rt, seq_bk, seq_ct, seq_ex, toR_some, toR_none, toT_some, truD_bl, truD_int, truD_tup, truD_non, truD_str, truD_ref, truC_lst, tyD_str, tyD_tup, tyD_int, tyD_bl, tyD_non, tyD_ref, tyC_lst, tyC_rol, tyC_dic, kE_, kR_, kIf_t, kIf_f, kN_, kA_, kIx1_, kIx2_, kIx3_, kE1_, kE21_, kE2_, kB_, kF_, kC1_, kC_, kM1_, kM2_, kM_, kS1_, kS2_, kS3_, kO_, kV_, kT_, kAn_t, kAn_f, kOr_t, kOr_f, kNo_, kIfE_t, kIfE_f, kVa_, kVa2_t, kVa2_f, kVo_, kVo2_t, kVo2_f, kVn_, kVn2_, kH_, kH1_, kH2_t, kH2_f, kH3_, List.getElem?_cons_zero, List.getElem?_cons_succ, List.set_cons_zero, List.set_cons_succ, gAdd_int, gAdd_str, gAdd_t, gAdd_r, catC_s, gSub_int, gMul_l, gMul_r, gFdiv_int, gMod_int, gLt_int, gLe_int, gGt_int, gGe_int, gInt_int, gAbs_int, gLen_tup, gLen_str, gLen_r, lenC_s, gTpl_, gLsd_, gIx_r, ixC_s, ixO_s, gIx_t, gIx_s, ixS_s, atI_0, atI_1, atI_2, atI_3, atI_4, atI_5, gAppend_r, appC_s, gExtend_r, extC_s, gPop_r, popC_s, gSet_r, setC_0, setC_2, gTuple_r, tupC_s, gTuple_t, gList_r, gList_t, newC_s, gSl_r, slC_s, gSl_t, gSl_s, cut_take, cut_drop, cut_init, cut_mid, Int.toNat_natCast, lstC_lst, lstC_rol, lstAt_C, isi_str, isi_int, isi_bool, isi_tup, isi_lst, isO_s, isB_1, isB_2, isB_3, isB_4, isB_5, isB_6, isB_7, isB_8, isB_9, isB_10, isB_11, isB_12, isB_13, isB_14, isB_15, isB_16, isB_17, isB_18, isB_19, isB_20, isB_21, isB_22, isB_23, isB_24, isB_25, isB_26, gSum_r, sumC_s, sumO_s, gMin_, gMax_, qEq_int, qNe_int, qEq_str, qNe_str, gNeg_z, tgT_, tgU_, tgL0, tgL1, eTab_, kTab_, sX_, gDget_r, dgC_s, List.getElem?_concat_length, set_end, sF_, kFor_, iR1_, kR1_, iR2_, kR2_, kR3_, iA_, kAny_r, kAny_t, kAny_s, iaC_s, eLc_, kLc_, wipeD_c, wipeD_n, tYes_, put_one, sAug_, gAug_i, sBk_, sCt_, sW_, st_len, st_p, st_k, st_0, st_q, st_set_p, st_set_k, st_set_0, st_push, sx_len, sx_k, sx_0, sx_q, sx_set_k, sx_set_0, sx_push, So_rt, So_nx, So_ex, Tn_nx, Tn_ct, Tn_bk, Tn_rt, Tn_ex, Bool.false_eq_true, if_true, if_false, reduceIte, Option.map_some, Option.bind_some, Bool.not_true, Bool.not_false, decide_true, decide_false, eq_self, List.length_append, List.length_singleton, List.length_cons, List.length_nil, List.map_cons, List.map_nil, Nat.sub_self, List.replicate_zero, List.append_nil, List.cons_append, List.nil_append, List.append_assoc, List.replicate_succ, Nat.reduceSub, Nat.reduceAdd, Nat.add_zero, Nat.zero_add, Nat.add_assoc, Nat.reduceLeDiff, Int.reduceEq, Int.reduceLT, Int.reduceLE, Int.reduceAdd, Int.reduceSub, Int.reduceNeg, $ls,*])
local macro_rules | `(tactic| walk_at "ev") => `(tactic| simp (disch := first | omega | assumption | (simp only [List.length_cons, List.length_nil, List.length_append, List.length_take, List.length_drop]; omega) | (simp only [List.length_cons, List.length_nil])) only [sQ_, sP_, sE_, sR_, sIf_, sN_, sA_, tgO_nx, nm_, tgIx_, eC_, eV0, eV1, e1_, e2_, eB_, eF_, aN_, aC_, eMt_, eSl_, oN_, oI_, tV_, tE_, tA_, tO_, tN_, eIf_, eAnd_, eOr_, eNot_, eCh_, seq_nx, seq_rt, seq_bk, seq_ct, seq_ex, toR_some, toR_none, toT_some, truD_bl, truD_int, truD_tup, truD_non, truD_str, truD_ref, truC_lst, tyD_str, tyD_tup, tyD_int, tyD_bl, tyD_non, tyD_ref, tyC_lst, tyC_rol, tyC_dic, kE_, kR_, kIf_t, kIf_f, kN_, kA_, kIx1_, kIx2_, kIx3_, kE1_, kE21_, kE2_, kB_, kF_, kC1_, kC_, kM1_, kM2_, kM_, kS1_, kS2_, kS3_, kO_, kV_, kT_, kAn_t, kAn_f, kOr_t, kOr_f, kNo_, kIfE_t, kIfE_f, kVa_, kVa2_t, kVa2_f, kVo_, kVo2_t, kVo2_f, kVn_, kVn2_, kH_, kH1_, kH2_t, kH2_f, kH3_, List.getElem?_cons_zero, List.getElem?_cons_succ, List.set_cons_zero, List.set_cons_succ, gAdd_int, gAdd_str, gAdd_t, gAdd_r, catC_s, gSub_int, gMul_l, gMul_r, gFdiv_int, gMod_int, gLt_int, gLe_int, gGt_int, gGe_int, gInt_int, gAbs_int, gLen_tup, gLen_str, gLen_r, lenC_s, gTpl_, gLsd_, gIx_r, ixC_s, ixO_s, gIx_t, gIx_s, ixS_s, atI_0, atI_1, atI_2, atI_3, atI_4, atI_5, gAppend_r, appC_s, gExtend_r, extC_s, gPop_r, popC_s, gSet_r, setC_0, setC_2, gTuple_r, tupC_s, gTuple_t, gList_r, gList_t, newC_s, gSl_r, slC_s, gSl_t, gSl_s, cut_take, cut_drop, cut_init, cut_mid, Int.toNat_natCast, lstC_lst, lstC_rol, lstAt_C, isi_str, isi_int, isi_bool, isi_tup, isi_lst, isO_s, isB_1, isB_2, isB_3, isB_4, isB_5, isB_6, isB_7, isB_8, isB_9, isB_10, isB_11, isB_12, isB_13, isB_14, isB_15, isB_16, isB_17, isB_18, isB_19, isB_20, isB_21, isB_22, isB_23, isB_24, isB_25, isB_26, gSum_r, sumC_s, sumO_s, gMin_, gMax_, qEq_int, qNe_int, qEq_str, qNe_str, gNeg_z, tgT_, tgU_, tgL0, tgL1, eTab_, kTab_, sX_, gDget_r, dgC_s, List.getElem?_concat_length, set_end, sF_, kFor_, iR1_, kR1_, iR2_, kR2_, kR3_, iA_, kAny_r, kAny_t, kAny_s, iaC_s, eLc_, kLc_, wipeD_c, wipeD_n, tYes_, put_one, sAug_, gAug_i, sBk_, sCt_, sW_, st_len, st_p, st_k, st_0, st_q, st_set_p, st_set_k, st_set_0, st_push, sx_len, sx_k, sx_0, sx_q, sx_set_k, sx_set_0, sx_push, So_rt, So_nx, So_ex, Tn_nx, Tn_ct, Tn_bk, Tn_rt, Tn_ex, Bool.false_eq_true, if_true, if_false, reduceIte, Option.map_some, Option.bind_some, Bool.not_true, Bool.not_false, decide_true, decide_false, eq_self, List.length_append, List.length_singleton, List.length_cons, List.length_nil, List.map_cons, List.map_nil, Nat.sub_self, List.replicate_zero, List.append_nil, List.cons_append, List.nil_append, List.append_assoc, List.replicate_succ, Nat.reduceSub, Nat.reduceAdd, Nat.add_zero, Nat.zero_add, Nat.add_assoc, Nat.reduceLeDiff, Int.reduceEq, Int.reduceLT, Int.reduceLE, Int.reduceAdd, Int.reduceSub, Int.reduceNeg])
theorem over_left_t (n : Nat) (js : List KT) (g : D) (S : Store) (i : Nat) (a b : KT) (hS : SOK S) (hl : js.length ≤ 40) (hg : g.flat = true) (hi : (kds js)[i]? = some (.tup [.str "/", a.d, b.d])) :
    Dl.Sp (tab (n + 1) .over_left_steps [.tup (kds js), g, .int i] S) fun r => r = .ok (.ref S.length) (S ++ [.lst (sds ((List.range ((kds js).length - (i + 1))).map (olStp (kds js) g i a.d b.d)))]) := by
  have kl := kds_len js
  have il := get_lt hi
  have fl := wfs_flat (n := S.length) (sds_flat (prem_fl (kds js) (kds_flat js) g hg i (.node "/" a b)))
  rw [prem_o] at fl
  have ei := atI_nat hi
  refine Dl.sp_plain (g := b_over_left_steps (tab n)) rfl fun Q hQ => ?_
  unfold b_over_left_steps
  simp_arith [ei]
  refine Dl.forQ (fun j ρ T => ∃ v w x, ρ = [some (.tup (kds js)), some g, some (.int i), some (.ref S.length), v, some (.str "/"), some a.d, some b.d, w, x] ∧ T = Dl.sx S [.lst (sds ((List.range j).map (olStp (kds js) g i a.d b.d)))]) ⟨_, _, _, rfl, rfl⟩ ?_ ?_
  · rintro j d _ _ hj ⟨v, w, x, rfl, rfl⟩
    obtain ⟨hj, rfl⟩ := Dl.rng_get hj
    have hz : (sds ((List.range j).map (olStp (kds js) g i a.d b.d))).length < 16777216 := by rw [sds_len, List.length_map, List.length_range]; omega
    refine ⟨chk_nil, _, _, rfl, ?_⟩
    simp_arith []
    refine ⟨_, _, _, rfl, ?_⟩
    rw [← sds_snoc]
    unfold olStp Stp.d
    simp only [show ((i : Int) + 1 + (1 + (j : Int))).toNat = i + 2 + j by omega, show ((i : Int) + 1).toNat = i + 1 by omega, show i + 2 + j - (i + 1) = j + 1 by omega]
    rfl
  · rintro _ _ ⟨v, w, x, rfl, rfl⟩
    rw [rng_length, show (((kds js).length : Int) - (i : Int) - 1).toNat = (kds js).length - (i + 1) by omega]
    refine ⟨chk_nil, ?_⟩
    simp_arith []
    exact Dl.Qxl0 (hS.wf rfl) fl (hQ _ rfl)
theorem under_left_t (n : Nat) (js : List KT) (g : D) (S : Store) (i : Nat) (a b : KT) (hS : SOK S) (hl : js.length ≤ 40) (hg : g.flat = true) (hi : (kds js)[i]? = some (.tup [.str ">", a.d, b.d])) :
    Dl.Sp (tab (n + 1) .under_left_steps [.tup (kds js), g, .int i] S) fun r => r = .ok (.ref S.length) (S ++ [.lst (sds ((List.range i).map (ulStp (kds js) g i a.d b.d)))]) := by
  have kl := kds_len js
  have il := get_lt hi
  have fl := wfs_flat (n := S.length) (sds_flat (prem_fl (kds js) (kds_flat js) g hg i (.node ">" a b)))
  rw [prem_u] at fl
  have ei := atI_nat hi
  refine Dl.sp_plain (g := b_under_left_steps (tab n)) rfl fun Q hQ => ?_
  unfold b_under_left_steps
  simp_arith [ei]
  refine Dl.forQ (fun j ρ T => ∃ v w x, ρ = [some (.tup (kds js)), some g, some (.int i), some (.ref S.length), v, some (.str ">"), some a.d, some b.d, w, x] ∧ T = Dl.sx S [.lst (sds ((List.range j).map (ulStp (kds js) g i a.d b.d)))]) ⟨_, _, _, rfl, rfl⟩ ?_ ?_
  · rintro j d _ _ hj ⟨v, w, x, rfl, rfl⟩
    obtain ⟨hj, rfl⟩ := Dl.rng_get hj
    have hz : (sds ((List.range j).map (ulStp (kds js) g i a.d b.d))).length < 16777216 := by rw [sds_len, List.length_map, List.length_range]; omega
    refine ⟨chk_nil, _, _, rfl, ?_⟩
    simp_arith []
    refine ⟨_, _, _, rfl, ?_⟩
    rw [← sds_snoc]
    unfold ulStp Stp.d
    simp only [show ((i : Int) - (1 + (j : Int))).toNat = i - (j + 1) by omega, show ((i : Int) + 1).toNat = i + 1 by omega, show i - (i - (j + 1)) = j + 1 by omega]
    rfl
  · rintro _ _ ⟨v, w, x, rfl, rfl⟩
    rw [rng_length, show ((i : Int) + 1 - 1).toNat = i by omega]
    refine ⟨chk_nil, ?_⟩
    simp_arith []
    exact Dl.Qxl0 (hS.wf rfl) fl (hQ _ rfl)
theorem premise_steps_t (n : Nat) (js : List KT) (g : D) (S : Store) (i : Nat) (k : KT) (hS : SOK S) (hl : js.length ≤ 40) (hg : g.flat = true) (hi : (kds js)[i]? = some k.d) :
    Dl.Sp (tab (n + 2) .premise_steps [.tup (kds js), g, .int i] S) fun r => r = .ok (.ref S.length) (S ++ [.lst (sds (premStps (kds js) g i k))]) := by
  have kl := kds_len js
  have il := get_lt hi
  have fl := wfs_flat (n := S.length) (sds_flat (prem_fl (kds js) (kds_flat js) g hg i k))
  have ei := atI_nat hi
  refine Dl.sp_plain (g := b_premise_steps (tab (n + 1))) rfl fun Q hQ => ?_
  unfold b_premise_steps
  have hS' : SOK (Dl.sx S []) := by rw [← Dl.sx_in]; exact hS
  cases k with
  | leaf t =>
    simp_arith [ei, KTd_leaf]
    exact Dl.Qxl0 (hS.wf rfl) rfl (hQ _ rfl)
  | node s a b =>
    simp_arith [ei, KTd_node]
    by_cases h1 : s = "/"
    · subst h1
      have e := over_left_t n js g (Dl.sx S []) i a b hS' hl hg hi
      rw [prem_o] at hQ fl
      simp_arith [e]
      exact Dl.Qxl0 (hS.wf rfl) fl (hQ _ rfl)
    · by_cases h2 : s = ">"
      · subst h2
        have e := under_left_t n js g (Dl.sx S []) i a b hS' hl hg hi
        rw [prem_u] at hQ fl
        simp_arith [e, q3]
        exact Dl.Qxl0 (hS.wf rfl) fl (hQ _ rfl)
      · rw [prem_p h1 h2] at hQ fl
        simp_arith [h1, h2]
        rw [show ((i : Int) + 1).toNat = i + 1 by omega]
        exact Dl.Qxl0 (hS.wf rfl) fl (hQ _ rfl)

end Lw

set_option Elab.async false
set_option linter.all false
set_option maxRecDepth 100000
namespace Lw
open PySem L2 Dl
local macro_rules | `(tactic| simp_arith [$ls,*]) => `(tactic| simp (disch := first | omega | assumption | (simp only [List.length_cons, List.length_nil, List.length_append, List.length_take, List.length_drop]; omega) | (simp only [List.length_cons, List.length_nil])) only [sQ_, sP_, sE_, sR_, sIf_, sN_, sA_, tgO_nx, nm_, tgIx_, eC_, eV0, eV1, e1_, e2_, eB_, eF_, aN_, aC_, eMt_, eSl_, oN_, oI_, tV_, tE_, tA_, tO_, tN_, eIf_, eAnd_, eOr_, eNot_, eCh_, seq_nx, seq_rt, seq_bk, seq_ct, seq_ex, toR_some, toR_none, toT_some, truD_bl, truD_int, truD_tup, truD_non, truD_str, truD_ref, truC_lst, tyD_str, tyD_tup, tyD_int, tyD_bl, tyD_non, tyD_ref, tyC_lst, tyC_rol, tyC_dic, kE_, kR_, kIf_t, kIf_f, kN_, kA_, kIx1_, kIx2_, kIx3_, kE1_, kE21_, kE2_, kB_, kF_, kC1_, kC_, kM1_, kM2_, kM_, kS1_, kS2_, kS3_, kO_, kV_, kT_, kAn_t, kAn_f, kOr_t, kOr_f, kNo_, kIfE_t, kIfE_f, kVa_, kVa2_t, kVa2_f, kVo_, kVo2_t, kVo2_f, kVn_, kVn2_, kH_, kH1_, kH2_t, kH2_f, kH3_, List.getElem?_cons_zero, List.getElem?_cons_succ, List.set_cons_zero, List.set_cons_succ, gAdd_int, gAdd_str, gAdd_t, gAdd_r, catC_s, gSub_int, gMul_l, gMul_r, gFdiv_int, gMod_int, gLt_int, gLe_int, gGt_int, gGe_int, gInt_int, gAbs_int, gLen_tup, gLen_str, gLen_r, lenC_s, gTpl_, gLsd_, gIx_r, ixC_s, ixO_s, gIx_t, gIx_s, ixS_s, atI_0, atI_1, atI_2, atI_3, atI_4, atI_5, gAppend_r, appC_s, gExtend_r, extC_s, gPop_r, popC_s, gSet_r, setC_0, setC_2, gTuple_r, tupC_s, gTuple_t, gList_r, gList_t, newC_s, gSl_r, slC_s, gSl_t, gSl_s, cut_take, cut_drop, cut_init, cut_mid, Int.toNat_natCast, lstC_lst, lstC_rol, lstAt_C, isi_str, isi_int, isi_bool, isi_tup, isi_lst, isO_s, isB_1, isB_2, isB_3, isB_4, isB_5, isB_6, isB_7, isB_8, isB_9, isB_10, isB_11, isB_12, isB_13, isB_14, isB_15, isB_16, isB_17, isB_18, isB_19, isB_20, isB_21, isB_22, isB_23, isB_24, isB_25, isB_26, gSum_r, sumC_s, sumO_s, gMin_, gMax_, qEq_int, qNe_int, qEq_str, qNe_str, gNeg_z, tgT_, tgU_, tgL0, tgL1, eTab_, kTab_, sX_, gDget_r, dgC_s, List.getElem?_concat_length, set_end, sF_, kFor_, iR1_, kR1_, iR2_, kR2_, kR3_, iA_, kAny_r, kAny_t, kAny_s, iaC_s, eLc_, kLc_, wipeD_c, wipeD_n, tYes_, put_one, sAug_, gAug_i, sBk_, sCt_, sW_, st_len, st_p, st_k, st_0, st_q, st_set_p, st_set_k, st_set_0, st_push, sx_len, sx_k, sx_0, sx_q, sx_set_k, sx_set_0, sx_push, So_rt, So_nx, So_ex, Tn_nx, Tn_ct, Tn_bk, Tn_rt, Tn_ex, Bool.false_eq_true, if_true, if_false, reduceIte, Option.map_some, Option.bind_some, Bool.not_true, Bool.not_false, decide_true, decide_false, eq_self, List.length_append, List.length_singleton, List.length_cons, List.length_nil, List.map_cons, List.map_nil, Nat.sub_self, List.replicate_zero, List.append_nil, List.cons_append, List.nil_append, List.append_assoc, List.replicate_succ, Nat.reduceSub, Nat.reduceAdd, Nat.add_zero, Nat.zero_add, Nat.add_assoc, Nat.reduceLeDiff, Int.reduceEq, Int.reduceLT, Int.reduceLE, Int.reduceAdd, Int.reduceSub, Int.reduceNeg, $ls,*])
local macro_rules | `(tactic| walk_at "ev") => `(tactic| simp (disch := first | omega | assumption | (simp only [List.length_cons, List.length_nil, List.length_append, List.length_take, List.length_drop]; omega) | (simp only [List.length_cons, List.length_nil])) only [sQ_, sP_, sE_, sR_, sIf_, sN_, sA_, tgO_nx, nm_, tgIx_, eC_, eV0, eV1, e1_, e2_, eB_, eF_, aN_, aC_, eMt_, eSl_, oN_, oI_, tV_, tE_, tA_, tO_, tN_, eIf_, eAnd_, eOr_, eNot_, eCh_, seq_nx, seq_rt, seq_bk, seq_ct, seq_ex, toR_some, toR_none, toT_some, truD_bl, truD_int, truD_tup, truD_non, truD_str, truD_ref, truC_lst, tyD_str, tyD_tup, tyD_int, tyD_bl, tyD_non, tyD_ref, tyC_lst, tyC_rol, tyC_dic, kE_, kR_, kIf_t, kIf_f, kN_, kA_, kIx1_, kIx2_, kIx3_, kE1_, kE21_, kE2_, kB_, kF_, kC1_, kC_, kM1_, kM2_, kM_, kS1_, kS2_, kS3_, kO_, kV_, kT_, kAn_t, kAn_f, kOr_t, kOr_f, kNo_, kIfE_t, kIfE_f, kVa_, kVa2_t, kVa2_f, kVo_, kVo2_t, kVo2_f, kVn_, kVn2_, kH_, kH1_, kH2_t, kH2_f, kH3_, List.getElem?_cons_zero, List.getElem?_cons_succ, List.set_cons_zero, List.set_cons_succ, gAdd_int, gAdd_str, gAdd_t, gAdd_r, catC_s, gSub_int, gMul_l, gMul_r, gFdiv_int, gMod_int, gLt_int, gLe_int, gGt_int, gGe_int, gInt_int, gAbs_int, gLen_tup, gLen_str, gLen_r, lenC_s, gTpl_, gLsd_, gIx_r, ixC_s, ixO_s, gIx_t, gIx_s, ixS_s, atI_0, atI_1, atI_2, atI_3, atI_4, atI_5, gAppend_r, appC_s, gExtend_r, extC_s, gPop_r, popC_s, gSet_r, setC_0, setC_2, gTuple_r, tupC_s, gTuple_t, gList_r, gList_t, newC_s, gSl_r, slC_s, gSl_t, gSl_s, cut_take, cut_drop, cut_init, cut_mid, Int.toNat_natCast, lstC_lst, lstC_rol, lstAt_C, isi_str, isi_int, isi_bool, isi_tup, isi_lst, isO_s, isB_1, isB_2, isB_3, isB_4, isB_5, isB_6, isB_7, isB_8, isB_9, isB_10, isB_11, isB_12, isB_13, isB_14, isB_15, isB_16, isB_17, isB_18, isB_19, isB_20, isB_21, isB_22, isB_23, isB_24, isB_25, isB_26, gSum_r, sumC_s, sumO_s, gMin_, gMax_, qEq_int, qNe_int, qEq_str, qNe_str, gNeg_z, tgT_, tgU_, tgL0, tgL1, eTab_, kTab_, sX_, gDget_r, dgC_s, List.getElem?_concat_length, set_end, sF_, kFor_, iR1_, kR1_, iR2_, kR2_, kR3_, iA_, kAny_r, kAny_t, kAny_s, iaC_s, eLc_, kLc_, wipeD_c, wipeD_n, tYes_, put_one, sAug_, gAug_i, sBk_, sCt_, sW_, st_len, st_p, st_k, st_0, st_q, st_set_p, st_set_k, st_set_0, st_push, sx_len, sx_k, sx_0, sx_q, sx_set_k, sx_set_0, sx_push, So_rt, So_nx, So_ex, Tn_nx, Tn_ct, Tn_bk, Tn_rt, Tn_ex, Bool.false_eq_true, if_true, if_false, reduceIte, Option.map_some, Option.bind_some, Bool.not_true, Bool.not_false, decide_true, decide_false, eq_self, List.length_append, List.length_singleton, List.length_cons, List.length_nil, List.map_cons, List.map_nil, Nat.sub_self, List.replicate_zero, List.append_nil, List.cons_append, List.nil_append, List.append_assoc, List.replicate_succ, Nat.reduceSub, Nat.reduceAdd, Nat.add_zero, Nat.zero_add, Nat.add_assoc, Nat.reduceLeDiff, Int.reduceEq, Int.reduceLT, Int.reduceLE, Int.reduceAdd, Int.reduceSub, Int.reduceNeg])
/-! ## last_steps -/
theorem deps_kds : ∀ {ks : List KT} {m : Nat}, (∀ k ∈ ks, Fit k) → 40 ≤ m → deps (kds ks) ≤ m
  | [], _, _, _ => Nat.zero_le _
  | k :: ks, m, h, hm => by
    have h1 := KT.dep k
    have h2 := (h k (List.mem_cons_self ..)).2
    have h3 := deps_kds (ks := ks) (fun x hx => h x (List.mem_cons_of_mem _ hx)) hm
    show max k.d.dep (deps (kds ks)) ≤ m
    omega
theorem allPrem_app (ks : List D) (g : D) : ∀ (xs : List KT) (m : Nat) (k : KT), allPrem ks g m (xs ++ [k]) = allPrem ks g m xs ++ premStps ks g (m + xs.length) k
  | [], m, k => by
    show premStps ks g m k ++ [] = [] ++ premStps ks g (m + 0) k
    rw [List.append_nil]; rfl
  | x :: xs, m, k => by
    show premStps ks g m x ++ allPrem ks g (m + 1) (xs ++ [k]) = premStps ks g m x ++ allPrem ks g (m + 1) xs ++ premStps ks g (m + (xs.length + 1)) k
    rw [allPrem_app ks g xs (m + 1) k, List.append_assoc, show m + 1 + xs.length = m + (xs.length + 1) by omega]
theorem allPrem_step (ks : List D) (g : D) {js : List KT} {i : Nat} {k : KT} (h : js[i]? = some k) : allPrem ks g 0 (js.take (i + 1)) = allPrem ks g 0 (js.take i) ++ premStps ks g i k := by
  have hl := get_lt h
  rw [List.take_succ, h]
  show allPrem ks g 0 (js.take i ++ [k]) = _
  rw [allPrem_app, List.length_take, Nat.min_eq_left (Nat.le_of_lt hl), Nat.zero_add]
theorem prem_len (ks : List D) (g : D) (i : Nat) (k : KT) (hi : i < ks.length) : (premStps ks g i k).length ≤ ks.length := by
  cases k with
  | leaf t => exact Nat.zero_le _
  | node r a b =>
    show (if r = "/" then (List.range (ks.length - (i + 1))).map (olStp ks g i a.d b.d) else if r = ">" then (List.range i).map (ulStp ks g i a.d b.d) else [(⟨"pair left", i, 0, [(ks.take i ++ a.d :: b.d :: ks.drop (i + 1), g)]⟩ : Stp)]).length ≤ _
    split
    · rw [List.length_map, List.length_range]; omega
    · split
      · rw [List.length_map, List.length_range]; omega
      · show 1 ≤ _; omega
theorem goal_len (ks : List D) (k : KT) : (goalStps ks k).length ≤ ks.length + 1 := by
  cases k with
  | leaf t => exact Nat.zero_le _
  | node r a b =>
    show (if r = "/" then [(⟨"over right", 0, 0, [(ks ++ [b.d], a.d)]⟩ : Stp)] else if r = ">" then [⟨"under right", 0, 0, [(a.d :: ks, b.d)]⟩] else (List.range (ks.length - 1)).map (prStp ks a.d b.d)).length ≤ _
    split
    · show 1 ≤ _; omega
    · split
      · show 1 ≤ _; omega
      · rw [List.length_map, List.length_range]; omega
theorem allPrem_len (ks : List D) (g : D) : ∀ (xs : List KT) (m : Nat), m + xs.length ≤ ks.length → (allPrem ks g m xs).length ≤ ks.length * xs.length
  | [], _, _ => Nat.zero_le _
  | x :: xs, m, h => by
    have h' : m + (xs.length + 1) ≤ ks.length := h
    show (premStps ks g m x ++ allPrem ks g (m + 1) xs).length ≤ ks.length * (xs.length + 1)
    have h1 := prem_len ks g m x (by omega)
    have h2 := allPrem_len ks g xs (m + 1) (by omega)
    rw [List.length_append, Nat.mul_add]
    omega
theorem allPrem_fl (ks : List D) (hk : flats ks = true) (g : D) (hg : g.flat = true) : ∀ (xs : List KT) (m : Nat), ∀ s ∈ allPrem ks g m xs, s.Fl
  | [], _, s, h => nomatch h
  | x :: xs, m, s, h => by
    rcases List.mem_append.mp (show s ∈ premStps ks g m x ++ allPrem ks g (m + 1) xs from h) with z | z
    · exact prem_fl ks hk g hg m x s z
    · exact allPrem_fl ks hk g hg xs (m + 1) s z
theorem ax_fl (ks : List D) (g : KT) : ∀ s ∈ axStps ks g, s.Fl := by
  cases g with
  | leaf t =>
    show ∀ s ∈ (if deqs ks [.str t] = true then [(⟨"axiom", 0, 0, []⟩ : Stp)] else []), s.Fl
    split
    · exact one_fl fun p hp => nomatch hp
    · exact fun s hs => nomatch hs
  | node r a b => exact fun s hs => nomatch hs
theorem ax_len (ks : List D) (g : KT) : (axStps ks g).length ≤ 1 := by
  cases g with
  | leaf t =>
    show (if deqs ks [.str t] = true then [(⟨"axiom", 0, 0, []⟩ : Stp)] else []).length ≤ 1
    split
    · exact Nat.le_refl _
    · exact Nat.zero_le _
  | node r a b => exact Nat.zero_le _
theorem sds_app (a b : List Stp) : sds (a ++ b) = sds a ++ sds b := List.map_append ..
theorem SOK.sx {S : Store} {L : List Cell} (h : SOK S) (hL : Dl.FL L) : SOK (Dl.sx S L) := fun c hc => by
  rcases List.mem_append.mp (show c ∈ S ++ L from hc) with z | z
  · exact cwf_mono (by rw [Dl.sx_len]; omega) (h c z)
  · exact cwf_flat (hL.mem z)
theorem gEqT {x y : List D} {S : Store} (hx : flats x = true) (hy : flats y = true) (hd : deps x ≤ 63) : gEq (.tup x) (.tup y) S = some (.bl (deqs x y), S) := gEq_flat hx hy (by show deps x + 1 ≤ 64; omega)
theorem last_steps_t (n : Nat) (js : List KT) (g : KT) (S : Store) (hS : SOK S) (hq : Seq js g) : Dl.Sp (tab (n + 3) .last_steps [.tup [.tup (kds js), g.d]] S) fun r => r = .ok (.tup (sds (allStps js g))) S := by
  have kl := kds_len js
  have hl := hq.l40
  have kf := kds_flat js
  have gf := KT.flat g
  have hd := deps_kds (m := 63) hq.fit (by decide)
  have fl : flats (sds (allStps js g)) = true := sds_flat fun s hs => by
    rcases List.mem_append.mp hs with hs | hs
    · rcases List.mem_append.mp hs with hs | hs
      · exact ax_fl _ g s hs
      · exact goal_fl _ kf g s hs
    · exact allPrem_fl _ kf _ gf js 0 s hs
  refine Dl.sp_plain (g := b_last_steps (tab (n + 2))) rfl fun Q hQ => ?_
  unfold b_last_steps
  -- the axiom
  have tail : So S.length Q ((Out.nx [some (.tup [.tup (kds js), g.d]), some (.ref S.length), none, some (.tup (kds js)), some g.d] (Dl.sx S [.lst (sds (axStps (kds js) g))])).seq
      (sQ (sE (eMt .lst gExtend (eV 1) (aC (eF ((tab (n + 2)) .goal_steps) (aC (eV 3) (aC (eV 4) aN))) aN)))
      (sQ (sF (iR1 (eB gLen (aC (eV 3) aN))) (nm 2) (sE (eMt .lst gExtend (eV 1) (aC (eF ((tab (n + 2)) .premise_steps) (aC (eV 3) (aC (eV 4) (aC (eV 2) aN)))) aN))))
      (sR (eB gTuple (aC (eV 1) aN)))))) := by
    have e := goal_steps_t (n + 1) js g (Dl.sx S [.lst (sds (axStps (kds js) g))]) (SOK.sx hS (.one (sds_flat (ax_fl _ g)))) hl
    have z1 := ax_len (kds js) g
    have z2 := goal_len (kds js) g
    have z3 := sds_len (axStps (kds js) g)
    have z4 := sds_len (goalStps (kds js) g)
    simp_arith [e]
    rw [← sds_app]
    have hWf : ∀ s ∈ axStps (kds js) g ++ goalStps (kds js) g, s.Fl := fun s hs => by
      rcases List.mem_append.mp hs with hs | hs
      · exact ax_fl _ g s hs
      · exact goal_fl _ kf g s hs
    have hWl : (axStps (kds js) g ++ goalStps (kds js) g).length ≤ 42 := by rw [List.length_append]; omega
    have hQ' : ∀ r, r = Dl.R.ok (.tup (sds (axStps (kds js) g ++ goalStps (kds js) g ++ allPrem (kds js) g.d 0 js))) S → Q r := hQ
    have hfl : flats (sds (axStps (kds js) g ++ goalStps (kds js) g ++ allPrem (kds js) g.d 0 js)) = true := fl
    generalize axStps (kds js) g ++ goalStps (kds js) g = W at hWf hWl hQ' hfl ⊢
    refine Dl.forQ (fun i ρ T => ∃ v M, Dl.FL M ∧ ρ = [some (.tup [.tup (kds js), g.d]), some (.ref S.length), v, some (.tup (kds js)), some g.d] ∧ T = Dl.sx S (.lst (sds (W ++ allPrem (kds js) g.d 0 (js.take i))) :: M)) ⟨_, _, .one (c := Dl.Cell.lst _) (sds_flat (goal_fl _ kf g)), rfl, by rw [List.take_zero]; show _ = Dl.sx S (.lst (sds (W ++ [])) :: _); rw [List.append_nil]⟩ ?_ ?_
    · rintro i d _ _ hi ⟨v, M, hM, rfl, rfl⟩
      obtain ⟨hi, rfl⟩ := Dl.rng_get hi
      have hi' : i < js.length := by omega
      have hk : js[i]? = some js[i] := List.getElem?_eq_getElem hi'
      have e := premise_steps_t n js g.d (Dl.sx S (.lst (sds (W ++ allPrem (kds js) g.d 0 (js.take i))) :: M)) i js[i] (SOK.sx hS (.cons (sds_flat fun s hs => by
        rcases List.mem_append.mp hs with hs | hs
        · exact hWf s hs
        · exact allPrem_fl _ kf _ gf _ 0 s hs) hM)) hl gf (by unfold kds; rw [List.getElem?_map, hk]; rfl)
      have y1 := allPrem_len (kds js) g.d (js.take i) 0 (by rw [List.length_take]; omega)
      have y2 := prem_len (kds js) g.d i js[i] (by omega)
      have y3 := Nat.mul_le_mul (show (kds js).length ≤ 40 by omega) (show (js.take i).length ≤ 40 by rw [List.length_take]; omega)
      have hz : (sds (W ++ allPrem (kds js) g.d 0 (js.take i))).length + (sds (premStps (kds js) g.d i js[i])).length ≤ 16777216 := by
        rw [sds_len, sds_len, List.length_append]
        omega
      refine ⟨chk_nil, _, _, rfl, ?_⟩
      rw [show ((0 : Int) + (i : Nat)) = (i : Int) by omega]
      simp_arith [e]
      refine ⟨_, M ++ [.lst (sds (premStps (kds js) g.d i js[i]))], hM.app (.one (c := Dl.Cell.lst _) (sds_flat (prem_fl _ kf _ gf i _))), rfl, ?_⟩
      rw [allPrem_step _ _ hk, ← sds_app, List.append_assoc]
    · rintro _ _ ⟨v, M, hM, rfl, rfl⟩
      rw [rng_length]
      refine ⟨chk_nil, ?_⟩
      rw [kl, List.take_length]
      simp_arith []
      exact Dl.Qx (hS.wf rfl) (wf_flat (show D.flat (.tup _) = true from hfl)) (hQ' _ rfl)
  cases g with
  | leaf t =>
    have et := gEqT (S := Dl.sx S [.lst []]) kf (show flats [.str t] = true from rfl) hd
    by_cases hc : deqs (kds js) [.str t] = true
    · have ea : axStps (kds js) (.leaf t) = [⟨"axiom", 0, 0, []⟩] := if_pos hc
      rw [ea] at tail
      rw [hc] at et
      revert tail
      simp_arith [KTd_leaf, et, sds, List.map_cons, Stp.d] <;> exact fun h => h
    · have ea : axStps (kds js) (.leaf t) = [] := if_neg hc
      rw [ea] at tail
      rw [Bool.eq_false_iff.mpr hc] at et
      revert tail
      simp_arith [KTd_leaf, et, sds] <;> exact fun h => h
  | node s a b =>
    revert tail
    simp_arith [KTd_node, show axStps (kds js) (.node s a b) = [] from rfl, sds] <;> exact fun h => h

end Lw

set_option Elab.async false
set_option linter.all false
set_option maxRecDepth 100000
namespace Lw
open PySem L2 Dl
local macro_rules | `(tactic| simp_arith [$ls,*]) => `(tactic| simp (disch := first | omega | assumption | (simp only [List.length_cons, List.length_nil, List.length_append, List.length_take, List.length_drop]; omega) | (simp only [List.length_cons, List.length_nil])) only [sQ_, sP_, sE_, sR_, sIf_, sN_, sA_, tgO_nx, nm_, tgIx_, eC_, eV0, eV1, e1_, e2_, eB_, eF_, aN_, aC_, eMt_, eSl_, oN_, oI_, tV_, tE_, tA_, tO_, tN_, eIf_, eAnd_, eOr_, eNot_, eCh_, seq_nx, seq_rt, seq_bk, seq_ct, seq_ex, toR_some, toR_none, toT_some, truD_bl, truD_int, truD_tup, truD_non, truD_str, truD_ref, truC_lst, tyD_str, tyD_tup, tyD_int, tyD_bl, tyD_non, tyD_ref, tyC_lst, tyC_rol, tyC_dic, kE_, kR_, kIf_t, kIf_f, kN_, kA_, kIx1_, kIx2_, kIx3_, kE1_, kE21_, kE2_, kB_, kF_, kC1_, kC_, kM1_, kM2_, kM_, kS1_, kS2_, kS3_, kO_, kV_, kT_, kAn_t, kAn_f, kOr_t, kOr_f, kNo_, kIfE_t, kIfE_f, kVa_, kVa2_t, kVa2_f, kVo_, kVo2_t, kVo2_f, kVn_, kVn2_, kH_, kH1_, kH2_t, kH2_f, kH3_, List.getElem?_cons_zero, List.getElem?_cons_succ, List.set_cons_zero, List.set_cons_succ, gAdd_int, gAdd_str, gAdd_t, gAdd_r, catC_s, gSub_int, gMul_l, gMul_r, gFdiv_int, gMod_int, gLt_int, gLe_int, gGt_int, gGe_int, gInt_int, gAbs_int, gLen_tup, gLen_str, gLen_r, lenC_s, gTpl_, gLsd_, gIx_r, ixC_s, ixO_s, gIx_t, gIx_s, ixS_s, atI_0, atI_1, atI_2, atI_3, atI_4, atI_5, gAppend_r, appC_s, gExtend_r, extC_s, gPop_r, popC_s, gSet_r, setC_0, setC_2, gTuple_r, tupC_s, gTuple_t, gList_r, gList_t, newC_s, gSl_r, slC_s, gSl_t, gSl_s, cut_take, cut_drop, cut_init, cut_mid, Int.toNat_natCast, lstC_lst, lstC_rol, lstAt_C, isi_str, isi_int, isi_bool, isi_tup, isi_lst, isO_s, isB_1, isB_2, isB_3, isB_4, isB_5, isB_6, isB_7, isB_8, isB_9, isB_10, isB_11, isB_12, isB_13, isB_14, isB_15, isB_16, isB_17, isB_18, isB_19, isB_20, isB_21, isB_22, isB_23, isB_24, isB_25, isB_26, gSum_r, sumC_s, sumO_s, gMin_, gMax_, qEq_int, qNe_int, qEq_str, qNe_str, gNeg_z, tgT_, tgU_, tgL0, tgL1, eTab_, kTab_, sX_, gDget_r, dgC_s, List.getElem?_concat_length, set_end, sF_, kFor_, iR1_, kR1_, iR2_, kR2_, kR3_, iA_, kAny_r, kAny_t, kAny_s, iaC_s, eLc_, kLc_, wipeD_c, wipeD_n, tYes_, put_one, sAug_, gAug_i, sBk_, sCt_, sW_, st_len, st_p, st_k, st_0, st_q, st_set_p, st_set_k, st_set_0, st_push, sx_len, sx_k, sx_0, sx_q, sx_set_k, sx_set_0, sx_push, So_rt, So_nx, So_ex, Tn_nx, Tn_ct, Tn_bk, Tn_rt, Tn_ex, Bool.false_eq_true, if_true, if_false, reduceIte, Option.map_some, Option.bind_some, Bool.not_true, Bool.not_false, decide_true, decide_false, eq_self, List.length_append, List.length_singleton, List.length_cons, List.length_nil, List.map_cons, List.map_nil, Nat.sub_self, List.replicate_zero, List.append_nil, List.cons_append, List.nil_append, List.append_assoc, List.replicate_succ, Nat.reduceSub, Nat.reduceAdd, Nat.add_zero, Nat.zero_add, Nat.add_assoc, Nat.reduceLeDiff, Int.cast_ofNat_Int, Int.reduceEq, Int.reduceLT, Int.reduceLE, Int.reduceAdd, Int.reduceSub, Int.reduceNeg, q1, q2, q3, q4, q5, q6, e1, e2, e3, $ls,*])
local macro_rules | `(tactic| walk_at "ev") => `(tactic| simp (disch := first | omega | assumption | (simp only [List.length_cons, List.length_nil, List.length_append, List.length_take, List.length_drop]; omega) | (simp only [List.length_cons, List.length_nil])) only [sQ_, sP_, sE_, sR_, sIf_, sN_, sA_, tgO_nx, nm_, tgIx_, eC_, eV0, eV1, e1_, e2_, eB_, eF_, aN_, aC_, eMt_, eSl_, oN_, oI_, tV_, tE_, tA_, tO_, tN_, eIf_, eAnd_, eOr_, eNot_, eCh_, seq_nx, seq_rt, seq_bk, seq_ct, seq_ex, toR_some, toR_none, toT_some, truD_bl, truD_int, truD_tup, truD_non, truD_str, truD_ref, truC_lst, tyD_str, tyD_tup, tyD_int, tyD_bl, tyD_non, tyD_ref, tyC_lst, tyC_rol, tyC_dic, kE_, kR_, kIf_t, kIf_f, kN_, kA_, kIx1_, kIx2_, kIx3_, kE1_, kE21_, kE2_, kB_, kF_, kC1_, kC_, kM1_, kM2_, kM_, kS1_, kS2_, kS3_, kO_, kV_, kT_, kAn_t, kAn_f, kOr_t, kOr_f, kNo_, kIfE_t, kIfE_f, kVa_, kVa2_t, kVa2_f, kVo_, kVo2_t, kVo2_f, kVn_, kVn2_, kH_, kH1_, kH2_t, kH2_f, kH3_, List.getElem?_cons_zero, List.getElem?_cons_succ, List.set_cons_zero, List.set_cons_succ, gAdd_int, gAdd_str, gAdd_t, gAdd_r, catC_s, gSub_int, gMul_l, gMul_r, gFdiv_int, gMod_int, gLt_int, gLe_int, gGt_int, gGe_int, gInt_int, gAbs_int, gLen_tup, gLen_str, gLen_r, lenC_s, gTpl_, gLsd_, gIx_r, ixC_s, ixO_s, gIx_t, gIx_s, ixS_s, atI_0, atI_1, atI_2, atI_3, atI_4, atI_5, gAppend_r, appC_s, gExtend_r, extC_s, gPop_r, popC_s, gSet_r, setC_0, setC_2, gTuple_r, tupC_s, gTuple_t, gList_r, gList_t, newC_s, gSl_r, slC_s, gSl_t, gSl_s, cut_take, cut_drop, cut_init, cut_mid, Int.toNat_natCast, lstC_lst, lstC_rol, lstAt_C, isi_str, isi_int, isi_bool, isi_tup, isi_lst, isO_s, isB_1, isB_2, isB_3, isB_4, isB_5, isB_6, isB_7, isB_8, isB_9, isB_10, isB_11, isB_12, isB_13, isB_14, isB_15, isB_16, isB_17, isB_18, isB_19, isB_20, isB_21, isB_22, isB_23, isB_24, isB_25, isB_26, gSum_r, sumC_s, sumO_s, gMin_, gMax_, qEq_int, qNe_int, qEq_str, qNe_str, gNeg_z, tgT_, tgU_, tgL0, tgL1, eTab_, kTab_, sX_, gDget_r, dgC_s, List.getElem?_concat_length, set_end, sF_, kFor_, iR1_, kR1_, iR2_, kR2_, kR3_, iA_, kAny_r, kAny_t, kAny_s, iaC_s, eLc_, kLc_, wipeD_c, wipeD_n, tYes_, put_one, sAug_, gAug_i, sBk_, sCt_, sW_, st_len, st_p, st_k, st_0, st_q, st_set_p, st_set_k, st_set_0, st_push, sx_len, sx_k, sx_0, sx_q, sx_set_k, sx_set_0, sx_push, So_rt, So_nx, So_ex, Tn_nx, Tn_ct, Tn_bk, Tn_rt, Tn_ex, Bool.false_eq_true, if_true, if_false, reduceIte, Option.map_some, Option.bind_some, Bool.not_true, Bool.not_false, decide_true, decide_false, eq_self, List.length_append, List.length_singleton, List.length_cons, List.length_nil, List.map_cons, List.map_nil, Nat.sub_self, List.replicate_zero, List.append_nil, List.cons_append, List.nil_append, List.append_assoc, List.replicate_succ, Nat.reduceSub, Nat.reduceAdd, Nat.add_zero, Nat.zero_add, Nat.add_assoc, Nat.reduceLeDiff, Int.cast_ofNat_Int, Int.reduceEq, Int.reduceLT, Int.reduceLE, Int.reduceAdd, Int.reduceSub, Int.reduceNeg, q1, q2, q3, q4, q5, q6, e1, e2, e3])
/-! ## _law_heads -/
theorem hds_app (a b : List Stp) : hds (a ++ b) = hds a ++ hds b := List.map_append ..
theorem hds_len (a : List Stp) : (hds a).length = a.length := List.length_map ..
theorem hds_flat (ss : List Stp) : flats (hds ss) = true := flats_iff.mpr fun x hx => by
  obtain ⟨s, _, rfl⟩ := List.mem_map.mp hx
  rfl
theorem rng_map {n : Nat} {lo : Int} {f : Nat → D} {g : D → D} (h : ∀ k, k < n → g (.int (lo + k)) = f k) : (rng lo n).map g = (List.range n).map f := by
  unfold rng
  rw [List.map_map]
  exact List.map_congr_left fun k hk => h k (List.mem_range.mp hk)
theorem hds_rng {n : Nat} {f : Nat → Stp} : hds ((List.range n).map f) = (List.range n).map fun k => (f k).h := by unfold hds; rw [List.map_map]; rfl
theorem comp_head {S : Store} {M : List Cell} {ρ : Dl.Env} {fe : EX} {n : Nat} {lo : Int} {j : Nat} (f : Nat → Stp) (hn : n ≤ 100000) (h : ∀ k, k < n → ∀ T, fe (ρ.set j (some (.int (lo + (k : Nat))))) T = .ok (f k).h T) :
    runC (S.length + M.length) ρ (.one j) tYesD fe [] (rng lo n) (Dl.sx S (M ++ [.lst []])) = .ok (.ref (S.length + M.length)) (Dl.sx S (M ++ [.lst (hds ((List.range n).map f))])) := by
  have hv : ∀ d ∈ rng lo n, ∃ k, k < n ∧ d = .int (lo + (k : Nat)) := fun d hd => by
    obtain ⟨i, hi⟩ := List.getElem?_of_mem hd
    exact ⟨i, Dl.rng_get hi⟩
  rw [Dl.comp_sx (val := fun d => match d with | .int i => (f (i - lo).toNat).h | _ => .non) (by rw [rng_length]; omega) (by rw [List.getElem?_concat_length]) (fun a => chk_nil) (fun d hd => by
    obtain ⟨k, hk, rfl⟩ := hv d hd
    refine ⟨_, rfl, fun a => ?_⟩
    rw [h k hk]
    show _ = Dl.R.ok (f (lo + (k : Nat) - lo).toNat).h _
    rw [show (lo + (k : Nat) - lo).toNat = k by omega])]
  rw [set_end, hds_rng, rng_map (f := fun k => (f k).h) (fun k hk => by
    show (f (lo + (k : Nat) - lo).toNat).h = _
    rw [show (lo + (k : Nat) - lo).toNat = k by omega])]
theorem law_heads_t (n : Nat) (js : List KT) (g : KT) (S : Store) (hS : SOK S) (hq : Seq js g) : Dl.Sp (tab (n + 1) ._law_heads [.tup [.tup (kds js), g.d]] S) fun r => r = .ok (.ref S.length) (S ++ [.lst (hds (allStps js g))]) := by
  have kl := kds_len js
  have hl := hq.l40
  have kf := kds_flat js
  have gf := KT.flat g
  have hd := deps_kds (m := 63) hq.fit (by decide)
  refine Dl.sp_plain (g := b__law_heads (tab n)) rfl fun Q hQ => ?_
  unfold b__law_heads
  -- behind the goal's part
  have tail : ∀ (m : Nat) (M : List Cell) (v3 : Option D), Dl.FL M → M[m]? = some (.lst (hds (axStps (kds js) g ++ goalStps (kds js) g))) → So S.length Q ((Out.nx [some (.tup [.tup (kds js), g.d]), some (.int (kds js).length), some (.ref (S.length + m)), v3, some (.tup (kds js)), some g.d, none, none] (Dl.sx S M)).seq
      (sQ (sF (iR1 (eV 1)) (nm 3) (sQ (sN 6 (eC (.str "")))
  (sQ (sIf (tN (tV (eB (gIsi .str) (aC (Dl.e2 gIx (eV 4) (eV 3)) (aC (eC (.raw (.ty "str"))) aN))))) (sN 6 (Dl.e2 gIx (Dl.e2 gIx (eV 4) (eV 3)) (eC (.int 0)))) sP)
  (sQ (sIf (tE (Dl.e2 gEq (eV 6) (eC (.str "/")))) (sN 2 (Dl.e2 gAdd (eV 2) (eLc [7] (iR2 (eC (.int 1)) (Dl.e2 Dl.gSub (eV 1) (eV 3))) (.one 7) tYesD (eB gTpl (aC (eC (.str "over left")) (aC (eV 3) (aC (eV 7) aN))))))) sP)
  (sQ (sIf (tE (Dl.e2 gEq (eV 6) (eC (.str ">")))) (sN 2 (Dl.e2 gAdd (eV 2) (eLc [7] (iR2 (eC (.int 1)) (Dl.e2 gAdd (eV 3) (eC (.int 1)))) (.one 7) tYesD (eB gTpl (aC (eC (.str "under left")) (aC (eV 3) (aC (eV 7) aN))))))) sP)
  (sIf (tE (Dl.e2 gEq (eV 6) (eC (.str "*")))) (sE (eMt .lst gAppend (eV 2) (aC (eB gTpl (aC (eC (.str "pair left")) (aC (eV 3) (aC (eC (.int 0)) aN)))) aN))) sP))))))
  (sR (eV 2)))) := by
    intro m0 M0 v3 hM0 hm0
    have z1 := ax_len (kds js) g
    have z2 := goal_len (kds js) g
    simp_arith []
    refine Dl.forQ (fun i ρ T => ∃ m M v3 v6, Dl.FL M ∧ M[m]? = some (.lst (hds (axStps (kds js) g ++ goalStps (kds js) g ++ allPrem (kds js) g.d 0 (js.take i)))) ∧ ρ = [some (.tup [.tup (kds js), g.d]), some (.int (kds js).length), some (.ref (S.length + m)), v3, some (.tup (kds js)), some g.d, v6, none] ∧ T = Dl.sx S M) ⟨m0, M0, v3, none, hM0, by rw [hm0, List.take_zero]; show _ = some (Dl.Cell.lst (hds (_ ++ []))); rw [List.append_nil], rfl, rfl⟩ ?_ ?_
    · rintro i d _ _ hi ⟨m, M, v3, v6, hM, hm, rfl, rfl⟩
      obtain ⟨hi, rfl⟩ := Dl.rng_get hi
      have hi' : i < js.length := by omega
      have hk : js[i]? = some js[i] := List.getElem?_eq_getElem hi'
      have ei : atI (kds js) (i : Int) = some js[i].d := atI_nat (by unfold kds; rw [List.getElem?_map, hk]; rfl)
      have y1 := allPrem_len (kds js) g.d (js.take i) 0 (by rw [List.length_take]; omega)
      have y2 := prem_len (kds js) g.d i js[i] (by omega)
      have y3 := Nat.mul_le_mul (show (kds js).length ≤ 40 by omega) (show (js.take i).length ≤ 40 by rw [List.length_take]; omega)
      rw [allPrem_step _ _ hk, ← List.append_assoc, hds_app]
      have hz : (hds (axStps (kds js) g ++ goalStps (kds js) g ++ allPrem (kds js) g.d 0 (js.take i))).length + (hds (premStps (kds js) g.d i js[i])).length ≤ 1000000 := by
        rw [hds_len, hds_len, List.length_append, List.length_append]
        omega
      have hW : flats (hds (axStps (kds js) g ++ goalStps (kds js) g ++ allPrem (kds js) g.d 0 (js.take i))) = true := hds_flat _
      generalize hds (axStps (kds js) g ++ goalStps (kds js) g ++ allPrem (kds js) g.d 0 (js.take i)) = W at hm hz hW ⊢
      refine ⟨chk_nil, _, _, rfl, ?_⟩
      rw [show ((0 : Int) + (i : Nat)) = (i : Int) by omega]
      cases hkk : js[i] with
      | leaf t =>
        rw [hkk, KTd_leaf] at ei
        simp_arith [ei, e1, e2, e3]
        exact ⟨m, M, _, _, hM, by rw [hm]; show some (Dl.Cell.lst W) = some (Dl.Cell.lst (W ++ [])); rw [List.append_nil], rfl, rfl⟩
      | node s a b =>
        rw [hkk, KTd_node] at ei
        rw [hkk] at hz
        by_cases h1 : s = "/"
        · subst h1
          rw [prem_o] at hz ⊢
          have ec := fun ρ fe h => comp_head (S := S) (M := M) (ρ := ρ) (fe := fe) (n := (kds js).length - (i + 1)) (lo := 1) (j := 7) (olStp (kds js) g.d i a.d b.d) (by omega) h
          simp_arith [ei, show (((kds js).length : Int) - (i : Int) - 1).toNat = (kds js).length - (i + 1) by omega]
          rw [ec _ _ (fun k hk T => by simp_arith []; rfl)]
          simp_arith [get_app hm]
          refine ⟨M.length + 1, M ++ [.lst (hds ((List.range ((kds js).length - (i + 1))).map (olStp (kds js) g.d i a.d b.d))), .lst (W ++ hds ((List.range ((kds js).length - (i + 1))).map (olStp (kds js) g.d i a.d b.d)))], _, _, hM.app (.cons (c := Dl.Cell.lst _) (hds_flat _) (.one (c := Dl.Cell.lst _) (flats_app hW (hds_flat _)))), ?_, rfl, rfl⟩
          rw [List.getElem?_append_right (by omega), Nat.add_sub_cancel_left]
          rfl
        · by_cases h2 : s = ">"
          · subst h2
            rw [prem_u] at hz ⊢
            have ec := fun ρ fe h => comp_head (S := S) (M := M) (ρ := ρ) (fe := fe) (n := i) (lo := 1) (j := 7) (ulStp (kds js) g.d i a.d b.d) (by omega) h
            simp_arith [ei, show ((i : Int) + 1 - 1).toNat = i by omega]
            rw [ec _ _ (fun k hk T => by simp_arith []; rfl)]
            simp_arith [get_app hm]
            refine ⟨M.length + 1, M ++ [.lst (hds ((List.range i).map (ulStp (kds js) g.d i a.d b.d))), .lst (W ++ hds ((List.range i).map (ulStp (kds js) g.d i a.d b.d)))], _, _, hM.app (.cons (c := Dl.Cell.lst _) (hds_flat _) (.one (c := Dl.Cell.lst _) (flats_app hW (hds_flat _)))), ?_, rfl, rfl⟩
            rw [List.getElem?_append_right (by omega), Nat.add_sub_cancel_left]
            rfl
          · obtain rfl : s = "*" := by
              have sg : Sg s := by
                have := hq.fit js[i] (List.getElem_mem hi')
                rw [hkk] at this
                exact this.1.1
              rcases sg with h | h | h
              · exact absurd h h1
              · exact absurd h h2
              · exact h
            rw [prem_p h1 h2] at hz ⊢
            have hz' : W.length < 16777216 := by omega
            simp_arith [ei, hm]
            exact ⟨m, M.set m (.lst (W ++ [_])), _, _, hM.set (c := Dl.Cell.lst _) (flats_app hW rfl), List.getElem?_set_self (get_lt hm), rfl, rfl⟩
    · rintro _ _ ⟨m, M, v3, v6, hM, hm, rfl, rfl⟩
      rw [rng_length, kl, List.take_length] at hm
      refine ⟨chk_nil, ?_⟩
      simp_arith []
      exact Dl.Qxl (hS.wf rfl) hm (wfs_flat (hds_flat _)) (hQ _ rfl)
  cases g with
  | leaf t =>
    rw [show goalStps (kds js) (.leaf t) = [] from rfl, List.append_nil] at tail
    by_cases h1 : js.length = 1
    · obtain ⟨k, rfl⟩ : ∃ k, js = [k] := List.length_eq_one_iff.mp h1
      have hk := KT.dep k
      have hk2 := (hq.fit k (List.mem_cons_self ..)).2
      have et := gEq_flat (S := Dl.sx S [.lst []]) (KT.flat k) (show (D.str t).flat = true from rfl) (by omega)
      by_cases hc : deq k.d (.str t) = true
      · have ea : axStps (kds [k]) (.leaf t) = [⟨"axiom", 0, 0, []⟩] := if_pos (by show (deq k.d (.str t) && true) = true; rw [hc]; rfl)
        have t2 := tail 0 [.lst (hds [⟨"axiom", 0, 0, []⟩])] none (.one (c := Dl.Cell.lst _) rfl) (by rw [ea]; rfl)
        rw [hc] at et
        revert t2
        simp_arith [KTd_leaf, kds, et, hds, Stp.h] <;> exact fun h => h
      · have ea : axStps (kds [k]) (.leaf t) = [] := if_neg (by show ¬ (deq k.d (.str t) && true) = true; rw [Bool.and_true]; exact hc)
        have t2 := tail 0 [.lst (hds [])] none (.one (c := Dl.Cell.lst _) rfl) (by rw [ea]; rfl)
        rw [Bool.eq_false_iff.mpr hc] at et
        revert t2
        simp_arith [KTd_leaf, kds, et, hds] <;> exact fun h => h
    · have ea : axStps (kds js) (.leaf t) = [] := if_neg (by
        match js, h1 with
        | [], _ => exact Bool.false_ne_true
        | x :: y :: r, _ =>
          show ¬ (deq x.d (.str t) && false) = true
          rw [Bool.and_false]
          exact Bool.false_ne_true
        | [x], h => exact absurd rfl h)
      have t2 := tail 0 [.lst (hds [])] none (.one (c := Dl.Cell.lst _) rfl) (by rw [ea]; rfl)
      have h1' : ¬ ((kds js).length : Int) = 1 := by omega
      revert t2
      simp_arith [KTd_leaf, h1', hds] <;> exact fun h => h
  | node s a b =>
    rw [show axStps (kds js) (.node s a b) = [] from rfl, List.nil_append] at tail
    by_cases h3 : s = "*"
    · subst h3
      rw [goal_p (by decide) (by decide)] at tail
      have t2 := tail 1 [.lst [], .lst (hds ((List.range ((kds js).length - 1)).map (prStp (kds js) a.d b.d)))] none (.cons (c := Dl.Cell.lst _) rfl (.one (c := Dl.Cell.lst _) (hds_flat _))) rfl
      have ec := fun ρ fe h => comp_head (S := S) (M := [.lst []]) (ρ := ρ) (fe := fe) (n := (kds js).length - 1) (lo := 1) (j := 3) (prStp (kds js) a.d b.d) (by omega) h
      revert t2
      simp_arith [KTd_node, show (((kds js).length : Int) - 1).toNat = (kds js).length - 1 by omega]
      intro t2
      have ec := ec [some (.tup [.tup (kds js), .tup [.str "*", a.d, b.d]]), some (.int (kds js).length), some (.ref S.length), none, some (.tup (kds js)), some (.tup [.str "*", a.d, b.d]), none, none] (eB gTpl (aC (eC (.str "pair right")) (aC (eV 3) (aC (eC (.int 0)) aN)))) (fun k hk T => by simp_arith []; rfl)
      revert t2 ec
      simp_arith []
      intro t2 ec
      rw [ec]
      simp_arith []
      exact t2
    · by_cases h1 : s = "/"
      · subst h1
        have t2 := tail 0 [.lst (hds [⟨"over right", 0, 0, []⟩]), .dic [(.inr "/", .str "over right"), (.inr ">", .str "under right")]] none (.cons (c := Dl.Cell.lst _) rfl (.one (c := Dl.Cell.dic _) rfl)) rfl
        have ed := fun ρ => eDct_c (L := [(.inr "/", (eC (.str "over right"))), (.inr ">", (eC (.str "under right")))]) (ds := [.str "over right", .str "under right"]) (ρ := ρ) (S := Dl.sx S [.lst []]) rfl (by exact ⟨by decide, by decide⟩)
        revert t2
        simp_arith [KTd_node, ed, hds, Stp.h, List.zip_cons_cons, List.zip_nil_left, show findK [(.inr "/", D.str "over right"), (.inr ">", D.str "under right")] (.inr "/") = some (.str "over right") from rfl] <;> exact fun h => h
      · obtain rfl : s = ">" := by
          rcases hq.goal.1.1 with h | h | h
          · exact absurd h h1
          · exact h
          · exact absurd h h3
        have t2 := tail 0 [.lst (hds [⟨"under right", 0, 0, []⟩]), .dic [(.inr "/", .str "over right"), (.inr ">", .str "under right")]] none (.cons (c := Dl.Cell.lst _) rfl (.one (c := Dl.Cell.dic _) rfl)) rfl
        have ed := fun ρ => eDct_c (L := [(.inr "/", (eC (.str "over right"))), (.inr ">", (eC (.str "under right")))]) (ds := [.str "over right", .str "under right"]) (ρ := ρ) (S := Dl.sx S [.lst []]) rfl (by exact ⟨by decide, by decide⟩)
        revert t2
        simp_arith [KTd_node, ed, hds, Stp.h, List.zip_cons_cons, List.zip_nil_left, show findK [(.inr "/", D.str "over right"), (.inr ">", D.str "under right")] (.inr ">") = some (.str "under right") from rfl] <;> exact fun h => h

end Lw

set_option Elab.async false
set_option linter.all false
set_option maxRecDepth 100000
namespace Lw
open PySem L2 Dl
local macro_rules | `(tactic| simp_arith [$ls,*]) => `(tactic| simp (disch := first | omega | assumption | (simp only [List.length_cons, List.length_nil, List.length_append, List.length_take, List.length_drop]; omega) | (simp only [List.length_cons, List.length_nil])) only [sQ_, sP_, sE_, sR_, sIf_, sN_, sA_, tgO_nx, nm_, tgIx_, eC_, eV0, eV1, e1_, e2_, eB_, eF_, aN_, aC_, eMt_, eSl_, oN_, oI_, tV_, tE_, tA_, tO_, tN_, eIf_, eAnd_, eOr_, eNot_, eCh_, seq_nx, seq_rt, seq_bk, seq_ct, seq_ex, toR_some, toR_none, toT_some, truD_bl, truD_int, truD_tup, truD_non, truD_str, truD_ref, truC_lst, tyD_str, tyD_tup, tyD_int, tyD_bl, tyD_non, tyD_ref, tyC_lst, tyC_rol, tyC_dic, kE_, kR_, kIf_t, kIf_f, kN_, kA_, kIx1_, kIx2_, kIx3_, kE1_, kE21_, kE2_, kB_, kF_, kC1_, kC_, kM1_, kM2_, kM_, kS1_, kS2_, kS3_, kO_, kV_, kT_, kAn_t, kAn_f, kOr_t, kOr_f, kNo_, kIfE_t, kIfE_f, kVa_, kVa2_t, kVa2_f, kVo_, kVo2_t, kVo2_f, kVn_, kVn2_, kH_, kH1_, kH2_t, kH2_f, kH3_, List.getElem?_cons_zero, List.getElem?_cons_succ, List.set_cons_zero, List.set_cons_succ, gAdd_int, gAdd_str, gAdd_t, gAdd_r, catC_s, gSub_int, gMul_l, gMul_r, gFdiv_int, gMod_int, gLt_int, gLe_int, gGt_int, gGe_int, gInt_int, gAbs_int, gLen_tup, gLen_str, gLen_r, lenC_s, gTpl_, gLsd_, gIx_r, ixC_s, ixO_s, gIx_t, gIx_s, ixS_s, atI_0, atI_1, atI_2, atI_3, atI_4, atI_5, gAppend_r, appC_s, gExtend_r, extC_s, gPop_r, popC_s, gSet_r, setC_0, setC_2, gTuple_r, tupC_s, gTuple_t, gList_r, gList_t, newC_s, gSl_r, slC_s, gSl_t, gSl_s, cut_take, cut_drop, cut_init, cut_mid, Int.toNat_natCast, lstC_lst, lstC_rol, lstAt_C, isi_str, isi_int, isi_bool, isi_tup, isi_lst, isO_s, isB_1, isB_2, isB_3, isB_4, isB_5, isB_6, isB_7, isB_8, isB_9, isB_10, isB_11, isB_12, isB_13, isB_14, isB_15, isB_16, isB_17, isB_18, isB_19, isB_20, isB_21, isB_22, isB_23, isB_24, isB_25, isB_26, gSum_r, sumC_s, sumO_s, gMin_, gMax_, qEq_int, qNe_int, qEq_str, qNe_str, gNeg_z, tgT_, tgU_, tgL0, tgL1, eTab_, kTab_, sX_, gDget_r, dgC_s, List.getElem?_concat_length, set_end, sF_, kFor_, iR1_, kR1_, iR2_, kR2_, kR3_, iA_, kAny_r, kAny_t, kAny_s, iaC_s, eLc_, kLc_, wipeD_c, wipeD_n, tYes_, put_one, sAug_, gAug_i, sBk_, sCt_, sW_, st_len, st_p, st_k, st_0, st_q, st_set_p, st_set_k, st_set_0, st_push, sx_len, sx_k, sx_0, sx_q, sx_set_k, sx_set_0, sx_push, So_rt, So_nx, So_ex, Tn_nx, Tn_ct, Tn_bk, Tn_rt, Tn_ex, Bool.false_eq_true, if_true, if_false, reduceIte, Option.map_some, Option.bind_some, Bool.not_true, Bool.not_false, decide_true, decide_false, eq_self, List.length_append, List.length_singleton, List.length_cons, List.length_nil, List.map_cons, List.map_nil, Nat.sub_self, List.replicate_zero, List.append_nil, List.cons_append, List.nil_append, List.append_assoc, List.replicate_succ, Nat.reduceSub, Nat.reduceAdd, Nat.add_zero, Nat.zero_add, Nat.add_assoc, Nat.reduceLeDiff, Int.cast_ofNat_Int, Int.reduceEq, Int.reduceLT, Int.reduceLE, Int.reduceAdd, Int.reduceSub, Int.reduceNeg, Int.reduceToNat, List.take_succ_cons, List.take_zero, List.drop_succ_cons, List.drop_zero, List.dropLast_concat, Dl.atI_last, $ls,*])
local macro_rules | `(tactic| walk_at "ev") => `(tactic| simp (disch := first | omega | assumption | (simp only [List.length_cons, List.length_nil, List.length_append, List.length_take, List.length_drop]; omega) | (simp only [List.length_cons, List.length_nil])) only [sQ_, sP_, sE_, sR_, sIf_, sN_, sA_, tgO_nx, nm_, tgIx_, eC_, eV0, eV1, e1_, e2_, eB_, eF_, aN_, aC_, eMt_, eSl_, oN_, oI_, tV_, tE_, tA_, tO_, tN_, eIf_, eAnd_, eOr_, eNot_, eCh_, seq_nx, seq_rt, seq_bk, seq_ct, seq_ex, toR_some, toR_none, toT_some, truD_bl, truD_int, truD_tup, truD_non, truD_str, truD_ref, truC_lst, tyD_str, tyD_tup, tyD_int, tyD_bl, tyD_non, tyD_ref, tyC_lst, tyC_rol, tyC_dic, kE_, kR_, kIf_t, kIf_f, kN_, kA_, kIx1_, kIx2_, kIx3_, kE1_, kE21_, kE2_, kB_, kF_, kC1_, kC_, kM1_, kM2_, kM_, kS1_, kS2_, kS3_, kO_, kV_, kT_, kAn_t, kAn_f, kOr_t, kOr_f, kNo_, kIfE_t, kIfE_f, kVa_, kVa2_t, kVa2_f, kVo_, kVo2_t, kVo2_f, kVn_, kVn2_, kH_, kH1_, kH2_t, kH2_f, kH3_, List.getElem?_cons_zero, List.getElem?_cons_succ, List.set_cons_zero, List.set_cons_succ, gAdd_int, gAdd_str, gAdd_t, gAdd_r, catC_s, gSub_int, gMul_l, gMul_r, gFdiv_int, gMod_int, gLt_int, gLe_int, gGt_int, gGe_int, gInt_int, gAbs_int, gLen_tup, gLen_str, gLen_r, lenC_s, gTpl_, gLsd_, gIx_r, ixC_s, ixO_s, gIx_t, gIx_s, ixS_s, atI_0, atI_1, atI_2, atI_3, atI_4, atI_5, gAppend_r, appC_s, gExtend_r, extC_s, gPop_r, popC_s, gSet_r, setC_0, setC_2, gTuple_r, tupC_s, gTuple_t, gList_r, gList_t, newC_s, gSl_r, slC_s, gSl_t, gSl_s, cut_take, cut_drop, cut_init, cut_mid, Int.toNat_natCast, lstC_lst, lstC_rol, lstAt_C, isi_str, isi_int, isi_bool, isi_tup, isi_lst, isO_s, isB_1, isB_2, isB_3, isB_4, isB_5, isB_6, isB_7, isB_8, isB_9, isB_10, isB_11, isB_12, isB_13, isB_14, isB_15, isB_16, isB_17, isB_18, isB_19, isB_20, isB_21, isB_22, isB_23, isB_24, isB_25, isB_26, gSum_r, sumC_s, sumO_s, gMin_, gMax_, qEq_int, qNe_int, qEq_str, qNe_str, gNeg_z, tgT_, tgU_, tgL0, tgL1, eTab_, kTab_, sX_, gDget_r, dgC_s, List.getElem?_concat_length, set_end, sF_, kFor_, iR1_, kR1_, iR2_, kR2_, kR3_, iA_, kAny_r, kAny_t, kAny_s, iaC_s, eLc_, kLc_, wipeD_c, wipeD_n, tYes_, put_one, sAug_, gAug_i, sBk_, sCt_, sW_, st_len, st_p, st_k, st_0, st_q, st_set_p, st_set_k, st_set_0, st_push, sx_len, sx_k, sx_0, sx_q, sx_set_k, sx_set_0, sx_push, So_rt, So_nx, So_ex, Tn_nx, Tn_ct, Tn_bk, Tn_rt, Tn_ex, Bool.false_eq_true, if_true, if_false, reduceIte, Option.map_some, Option.bind_some, Bool.not_true, Bool.not_false, decide_true, decide_false, eq_self, List.length_append, List.length_singleton, List.length_cons, List.length_nil, List.map_cons, List.map_nil, Nat.sub_self, List.replicate_zero, List.append_nil, List.cons_append, List.nil_append, List.append_assoc, List.replicate_succ, Nat.reduceSub, Nat.reduceAdd, Nat.add_zero, Nat.zero_add, Nat.add_assoc, Nat.reduceLeDiff, Int.cast_ofNat_Int, Int.reduceEq, Int.reduceLT, Int.reduceLE, Int.reduceAdd, Int.reduceSub, Int.reduceNeg, Int.reduceToNat, List.take_succ_cons, List.take_zero, List.drop_succ_cons, List.drop_zero, List.dropLast_concat, Dl.atI_last])
/-! ## names of rules -/
theorem r_ax_or : (("axiom" : Str) = "over right") = False := eq_false (by decide)
theorem r_ax_ur : (("axiom" : Str) = "under right") = False := eq_false (by decide)
theorem r_ax_pr : (("axiom" : Str) = "pair right") = False := eq_false (by decide)
theorem r_ax_ol : (("axiom" : Str) = "over left") = False := eq_false (by decide)
theorem r_ax_ul : (("axiom" : Str) = "under left") = False := eq_false (by decide)
theorem r_ax_pl : (("axiom" : Str) = "pair left") = False := eq_false (by decide)
theorem r_or_ax : (("over right" : Str) = "axiom") = False := eq_false (by decide)
theorem r_or_ur : (("over right" : Str) = "under right") = False := eq_false (by decide)
theorem r_or_pr : (("over right" : Str) = "pair right") = False := eq_false (by decide)
theorem r_or_ol : (("over right" : Str) = "over left") = False := eq_false (by decide)
theorem r_or_ul : (("over right" : Str) = "under left") = False := eq_false (by decide)
theorem r_or_pl : (("over right" : Str) = "pair left") = False := eq_false (by decide)
theorem r_ur_ax : (("under right" : Str) = "axiom") = False := eq_false (by decide)
theorem r_ur_or : (("under right" : Str) = "over right") = False := eq_false (by decide)
theorem r_ur_pr : (("under right" : Str) = "pair right") = False := eq_false (by decide)
theorem r_ur_ol : (("under right" : Str) = "over left") = False := eq_false (by decide)
theorem r_ur_ul : (("under right" : Str) = "under left") = False := eq_false (by decide)
theorem r_ur_pl : (("under right" : Str) = "pair left") = False := eq_false (by decide)
theorem r_pr_ax : (("pair right" : Str) = "axiom") = False := eq_false (by decide)
theorem r_pr_or : (("pair right" : Str) = "over right") = False := eq_false (by decide)
theorem r_pr_ur : (("pair right" : Str) = "under right") = False := eq_false (by decide)
theorem r_pr_ol : (("pair right" : Str) = "over left") = False := eq_false (by decide)
theorem r_pr_ul : (("pair right" : Str) = "under left") = False := eq_false (by decide)
theorem r_pr_pl : (("pair right" : Str) = "pair left") = False := eq_false (by decide)
theorem r_ol_ax : (("over left" : Str) = "axiom") = False := eq_false (by decide)
theorem r_ol_or : (("over left" : Str) = "over right") = False := eq_false (by decide)
theorem r_ol_ur : (("over left" : Str) = "under right") = False := eq_false (by decide)
theorem r_ol_pr : (("over left" : Str) = "pair right") = False := eq_false (by decide)
theorem r_ol_ul : (("over left" : Str) = "under left") = False := eq_false (by decide)
theorem r_ol_pl : (("over left" : Str) = "pair left") = False := eq_false (by decide)
theorem r_ul_ax : (("under left" : Str) = "axiom") = False := eq_false (by decide)
theorem r_ul_or : (("under left" : Str) = "over right") = False := eq_false (by decide)
theorem r_ul_ur : (("under left" : Str) = "under right") = False := eq_false (by decide)
theorem r_ul_pr : (("under left" : Str) = "pair right") = False := eq_false (by decide)
theorem r_ul_ol : (("under left" : Str) = "over left") = False := eq_false (by decide)
theorem r_ul_pl : (("under left" : Str) = "pair left") = False := eq_false (by decide)
theorem r_pl_ax : (("pair left" : Str) = "axiom") = False := eq_false (by decide)
theorem r_pl_or : (("pair left" : Str) = "over right") = False := eq_false (by decide)
theorem r_pl_ur : (("pair left" : Str) = "under right") = False := eq_false (by decide)
theorem r_pl_pr : (("pair left" : Str) = "pair right") = False := eq_false (by decide)
theorem r_pl_ol : (("pair left" : Str) = "over left") = False := eq_false (by decide)
theorem r_pl_ul : (("pair left" : Str) = "under left") = False := eq_false (by decide)

end Lw

set_option Elab.async false
set_option linter.all false
set_option maxRecDepth 100000
namespace Lw
open PySem L2 Dl
local macro_rules | `(tactic| simp_arith [$ls,*]) => `(tactic| simp (disch := first | omega | assumption | (simp only [List.length_cons, List.length_nil, List.length_append, List.length_take, List.length_drop]; omega) | (simp only [List.length_cons, List.length_nil])) only [sQ_, sP_, sE_, sR_, sIf_, sN_, sA_, tgO_nx, nm_, tgIx_, eC_, eV0, eV1, e1_, e2_, eB_, eF_, aN_, aC_, eMt_, eSl_, oN_, oI_, tV_, tE_, tA_, tO_, tN_, eIf_, eAnd_, eOr_, eNot_, eCh_, seq_nx, seq_rt, seq_bk, seq_ct, seq_ex, toR_some, toR_none, toT_some, truD_bl, truD_int, truD_tup, truD_non, truD_str, truD_ref, truC_lst, tyD_str, tyD_tup, tyD_int, tyD_bl, tyD_non, tyD_ref, tyC_lst, tyC_rol, tyC_dic, kE_, kR_, kIf_t, kIf_f, kN_, kA_, kIx1_, kIx2_, kIx3_, kE1_, kE21_, kE2_, kB_, kF_, kC1_, kC_, kM1_, kM2_, kM_, kS1_, kS2_, kS3_, kO_, kV_, kT_, kAn_t, kAn_f, kOr_t, kOr_f, kNo_, kIfE_t, kIfE_f, kVa_, kVa2_t, kVa2_f, kVo_, kVo2_t, kVo2_f, kVn_, kVn2_, kH_, kH1_, kH2_t, kH2_f, kH3_, List.getElem?_cons_zero, List.getElem?_cons_succ, List.set_cons_zero, List.set_cons_succ, gAdd_int, gAdd_str, gAdd_t, gAdd_r, catC_s, gSub_int, gMul_l, gMul_r, gFdiv_int, gMod_int, gLt_int, gLe_int, gGt_int, gGe_int, gInt_int, gAbs_int, gLen_tup, gLen_str, gLen_r, lenC_s, gTpl_, gLsd_, gIx_r, ixC_s, ixO_s, gIx_t, gIx_s, ixS_s, atI_0, atI_1, atI_2, atI_3, atI_4, atI_5, gAppend_r, appC_s, gExtend_r, extC_s, gPop_r, popC_s, gSet_r, setC_0, setC_2, gTuple_r, tupC_s, gTuple_t, gList_r, gList_t, newC_s, gSl_r, slC_s, gSl_t, gSl_s, cut_take, cut_drop, cut_init, cut_mid, Int.toNat_natCast, lstC_lst, lstC_rol, lstAt_C, isi_str, isi_int, isi_bool, isi_tup, isi_lst, isO_s, isB_1, isB_2, isB_3, isB_4, isB_5, isB_6, isB_7, isB_8, isB_9, isB_10, isB_11, isB_12, isB_13, isB_14, isB_15, isB_16, isB_17, isB_18, isB_19, isB_20, isB_21, isB_22, isB_23, isB_24, isB_25, isB_26, gSum_r, sumC_s, sumO_s, gMin_, gMax_, qEq_int, qNe_int, qEq_str, qNe_str, gNeg_z, tgT_, tgU_, tgL0, tgL1, eTab_, kTab_, sX_, gDget_r, dgC_s, List.getElem?_concat_length, set_end, sF_, kFor_, iR1_, kR1_, iR2_, kR2_, kR3_, iA_, kAny_r, kAny_t, kAny_s, iaC_s, eLc_, kLc_, wipeD_c, wipeD_n, tYes_, put_one, sAug_, gAug_i, sBk_, sCt_, sW_, st_len, st_p, st_k, st_0, st_q, st_set_p, st_set_k, st_set_0, st_push, sx_len, sx_k, sx_0, sx_q, sx_set_k, sx_set_0, sx_push, So_rt, So_nx, So_ex, Tn_nx, Tn_ct, Tn_bk, Tn_rt, Tn_ex, Bool.false_eq_true, if_true, if_false, reduceIte, Option.map_some, Option.bind_some, Bool.not_true, Bool.not_false, decide_true, decide_false, eq_self, List.length_append, List.length_singleton, List.length_cons, List.length_nil, List.map_cons, List.map_nil, Nat.sub_self, List.replicate_zero, List.append_nil, List.cons_append, List.nil_append, List.append_assoc, List.replicate_succ, Nat.reduceSub, Nat.reduceAdd, Nat.add_zero, Nat.zero_add, Nat.add_assoc, Nat.reduceLeDiff, Int.cast_ofNat_Int, Int.reduceEq, Int.reduceLT, Int.reduceLE, Int.reduceAdd, Int.reduceSub, Int.reduceNeg, Int.reduceToNat, List.take_succ_cons, List.take_zero, List.drop_succ_cons, List.drop_zero, List.dropLast_concat, Dl.atI_last, q1, q2, q3, q4, q5, q6, e1, e2, e3, r_ax_or, r_ax_ur, r_ax_pr, r_ax_ol, r_ax_ul, r_ax_pl, r_or_ax, r_or_ur, r_or_pr, r_or_ol, r_or_ul, r_or_pl, r_ur_ax, r_ur_or, r_ur_pr, r_ur_ol, r_ur_ul, r_ur_pl, r_pr_ax, r_pr_or, r_pr_ur, r_pr_ol, r_pr_ul, r_pr_pl, r_ol_ax, r_ol_or, r_ol_ur, r_ol_pr, r_ol_ul, r_ol_pl, r_ul_ax, r_ul_or, r_ul_ur, r_ul_pr, r_ul_ol, r_ul_pl, r_pl_ax, r_pl_or, r_pl_ur, r_pl_pr, r_pl_ol, r_pl_ul, $ls,*])
local macro_rules | `(tactic| walk_at "ev") => `(tactic| simp (disch := first | omega | assumption | (simp only [List.length_cons, List.length_nil, List.length_append, List.length_take, List.length_drop]; omega) | (simp only [List.length_cons, List.length_nil])) only [sQ_, sP_, sE_, sR_, sIf_, sN_, sA_, tgO_nx, nm_, tgIx_, eC_, eV0, eV1, e1_, e2_, eB_, eF_, aN_, aC_, eMt_, eSl_, oN_, oI_, tV_, tE_, tA_, tO_, tN_, eIf_, eAnd_, eOr_, eNot_, eCh_, seq_nx, seq_rt, seq_bk, seq_ct, seq_ex, toR_some, toR_none, toT_some, truD_bl, truD_int, truD_tup, truD_non, truD_str, truD_ref, truC_lst, tyD_str, tyD_tup, tyD_int, tyD_bl, tyD_non, tyD_ref, tyC_lst, tyC_rol, tyC_dic, kE_, kR_, kIf_t, kIf_f, kN_, kA_, kIx1_, kIx2_, kIx3_, kE1_, kE21_, kE2_, kB_, kF_, kC1_, kC_, kM1_, kM2_, kM_, kS1_, kS2_, kS3_, kO_, kV_, kT_, kAn_t, kAn_f, kOr_t, kOr_f, kNo_, kIfE_t, kIfE_f, kVa_, kVa2_t, kVa2_f, kVo_, kVo2_t, kVo2_f, kVn_, kVn2_, kH_, kH1_, kH2_t, kH2_f, kH3_, List.getElem?_cons_zero, List.getElem?_cons_succ, List.set_cons_zero, List.set_cons_succ, gAdd_int, gAdd_str, gAdd_t, gAdd_r, catC_s, gSub_int, gMul_l, gMul_r, gFdiv_int, gMod_int, gLt_int, gLe_int, gGt_int, gGe_int, gInt_int, gAbs_int, gLen_tup, gLen_str, gLen_r, lenC_s, gTpl_, gLsd_, gIx_r, ixC_s, ixO_s, gIx_t, gIx_s, ixS_s, atI_0, atI_1, atI_2, atI_3, atI_4, atI_5, gAppend_r, appC_s, gExtend_r, extC_s, gPop_r, popC_s, gSet_r, setC_0, setC_2, gTuple_r, tupC_s, gTuple_t, gList_r, gList_t, newC_s, gSl_r, slC_s, gSl_t, gSl_s, cut_take, cut_drop, cut_init, cut_mid, Int.toNat_natCast, lstC_lst, lstC_rol, lstAt_C, isi_str, isi_int, isi_bool, isi_tup, isi_lst, isO_s, isB_1, isB_2, isB_3, isB_4, isB_5, isB_6, isB_7, isB_8, isB_9, isB_10, isB_11, isB_12, isB_13, isB_14, isB_15, isB_16, isB_17, isB_18, isB_19, isB_20, isB_21, isB_22, isB_23, isB_24, isB_25, isB_26, gSum_r, sumC_s, sumO_s, gMin_, gMax_, qEq_int, qNe_int, qEq_str, qNe_str, gNeg_z, tgT_, tgU_, tgL0, tgL1, eTab_, kTab_, sX_, gDget_r, dgC_s, List.getElem?_concat_length, set_end, sF_, kFor_, iR1_, kR1_, iR2_, kR2_, kR3_, iA_, kAny_r, kAny_t, kAny_s, iaC_s, eLc_, kLc_, wipeD_c, wipeD_n, tYes_, put_one, sAug_, gAug_i, sBk_, sCt_, sW_, st_len, st_p, st_k, st_0, st_q, st_set_p, st_set_k, st_set_0, st_push, sx_len, sx_k, sx_0, sx_q, sx_set_k, sx_set_0, sx_push, So_rt, So_nx, So_ex, Tn_nx, Tn_ct, Tn_bk, Tn_rt, Tn_ex, Bool.false_eq_true, if_true, if_false, reduceIte, Option.map_some, Option.bind_some, Bool.not_true, Bool.not_false, decide_true, decide_false, eq_self, List.length_append, List.length_singleton, List.length_cons, List.length_nil, List.map_cons, List.map_nil, Nat.sub_self, List.replicate_zero, List.append_nil, List.cons_append, List.nil_append, List.append_assoc, List.replicate_succ, Nat.reduceSub, Nat.reduceAdd, Nat.add_zero, Nat.zero_add, Nat.add_assoc, Nat.reduceLeDiff, Int.cast_ofNat_Int, Int.reduceEq, Int.reduceLT, Int.reduceLE, Int.reduceAdd, Int.reduceSub, Int.reduceNeg, Int.reduceToNat, List.take_succ_cons, List.take_zero, List.drop_succ_cons, List.drop_zero, List.dropLast_concat, Dl.atI_last, q1, q2, q3, q4, q5, q6, e1, e2, e3, r_ax_or, r_ax_ur, r_ax_pr, r_ax_ol, r_ax_ul, r_ax_pl, r_or_ax, r_or_ur, r_or_pr, r_or_ol, r_or_ul, r_or_pl, r_ur_ax, r_ur_or, r_ur_pr, r_ur_ol, r_ur_ul, r_ur_pl, r_pr_ax, r_pr_or, r_pr_ur, r_pr_ol, r_pr_ul, r_pr_pl, r_ol_ax, r_ol_or, r_ol_ur, r_ol_pr, r_ol_ul, r_ol_pl, r_ul_ax, r_ul_or, r_ul_ur, r_ul_pr, r_ul_ol, r_ul_pl, r_pl_ax, r_pl_or, r_pl_ur, r_pl_pr, r_pl_ol, r_pl_ul])
/-! ## _law_lengths, _law_leads -/
theorem flat_line {xs : List D} {g : D} {n : Nat} (h : flats xs = true) (h2 : g.flat = true) : D.wf n (.tup [.tup xs, g]) = true := wf_flat (show (flats xs && (g.flat && true)) = true by rw [h, h2]; rfl)
section
variable (n : Nat) (S : Store) (hS : SOK S) (a w m : Int)
include hS
theorem lens_ax : Dl.Sp (tab (n + 1) ._law_lengths [.tup [.str "axiom", .int a, .int w], .int m] S) fun r => r = .ok (.ref S.length) (S ++ [.lst []]) := by
  refine Dl.sp_plain (g := b__law_lengths (tab n)) rfl fun Q hQ => ?_
  unfold b__law_lengths
  simp_arith []
  exact Dl.Qxl0 (hS.wf rfl) rfl (hQ _ rfl)
theorem lens_pr : Dl.Sp (tab (n + 1) ._law_lengths [.tup [.str "pair right", .int a, .int w], .int m] S) fun r => r = .ok (.ref S.length) (S ++ [.lst [.int a, .int (m - a)]]) := by
  refine Dl.sp_plain (g := b__law_lengths (tab n)) rfl fun Q hQ => ?_
  unfold b__law_lengths
  simp_arith []
  exact Dl.Qxl0 (hS.wf rfl) rfl (hQ _ rfl)
theorem lens_ol : Dl.Sp (tab (n + 1) ._law_lengths [.tup [.str "over left", .int a, .int w], .int m] S) fun r => r = .ok (.ref S.length) (S ++ [.lst [.int w, .int (m - w)]]) := by
  refine Dl.sp_plain (g := b__law_lengths (tab n)) rfl fun Q hQ => ?_
  unfold b__law_lengths
  simp_arith []
  exact Dl.Qxl0 (hS.wf rfl) rfl (hQ _ rfl)
theorem lens_ul : Dl.Sp (tab (n + 1) ._law_lengths [.tup [.str "under left", .int a, .int w], .int m] S) fun r => r = .ok (.ref S.length) (S ++ [.lst [.int w, .int (m - w)]]) := by
  refine Dl.sp_plain (g := b__law_lengths (tab n)) rfl fun Q hQ => ?_
  unfold b__law_lengths
  simp_arith []
  exact Dl.Qxl0 (hS.wf rfl) rfl (hQ _ rfl)
theorem lens_or : Dl.Sp (tab (n + 1) ._law_lengths [.tup [.str "over right", .int a, .int w], .int m] S) fun r => r = .ok (.ref S.length) (S ++ [.lst [.int (m + 1)]]) := by
  refine Dl.sp_plain (g := b__law_lengths (tab n)) rfl fun Q hQ => ?_
  unfold b__law_lengths
  simp_arith []
  exact Dl.Qxl0 (hS.wf rfl) rfl (hQ _ rfl)
theorem lens_ur : Dl.Sp (tab (n + 1) ._law_lengths [.tup [.str "under right", .int a, .int w], .int m] S) fun r => r = .ok (.ref S.length) (S ++ [.lst [.int (m + 1)]]) := by
  refine Dl.sp_plain (g := b__law_lengths (tab n)) rfl fun Q hQ => ?_
  unfold b__law_lengths
  simp_arith []
  exact Dl.Qxl0 (hS.wf rfl) rfl (hQ _ rfl)
theorem lens_pl : Dl.Sp (tab (n + 1) ._law_lengths [.tup [.str "pair left", .int a, .int w], .int m] S) fun r => r = .ok (.ref S.length) (S ++ [.lst [.int (m + 1)]]) := by
  refine Dl.sp_plain (g := b__law_lengths (tab n)) rfl fun Q hQ => ?_
  unfold b__law_lengths
  simp_arith []
  exact Dl.Qxl0 (hS.wf rfl) rfl (hQ _ rfl)
end
theorem atI_mid {A B : List D} {x : D} {i : Nat} (h : A.length = i) : atI (A ++ x :: B) (i : Int) = some x := atI_nat (by rw [← h, List.getElem?_append_right (Nat.le_refl _), Nat.sub_self]; rfl)
theorem atI_mid1 {A B : List D} {x y : D} {i : Nat} (h : A.length = i) : atI (A ++ x :: y :: B) ((i : Int) + 1) = some y := by
  rw [show ((i : Int) + 1) = ((i + 1 : Nat) : Int) by omega]
  exact atI_nat (by rw [← h, List.getElem?_append_right (by omega), Nat.add_sub_cancel_left]; rfl)
theorem cut_mid1 {A B : List D} {i : Nat} (h : A.length = i) : cutD (A ++ B) none (some (i : Int)) = A := by
  rw [Dl.cut_take (by omega), Int.toNat_natCast]
  exact List.take_left' h
theorem cut_mid2 {A B : List D} {x : D} {i : Nat} (h : A.length = i) : cutD (A ++ x :: B) (some ((i : Int) + 1)) none = B := by
  rw [Dl.cut_drop (by omega), show ((i : Int) + 1).toNat = A.length + 1 by omega, ← List.drop_drop, List.drop_left' rfl]
  rfl
theorem cut_mid3 {A B : List D} {x y : D} {i : Nat} (h : A.length = i) : cutD (A ++ x :: y :: B) (some ((i : Int) + 2)) none = B := by
  rw [Dl.cut_drop (by omega), show ((i : Int) + 2).toNat = A.length + 2 by omega, ← List.drop_drop, List.drop_left' rfl]
  rfl
section
variable (n : Nat) (S : Store) (hS : SOK S) (A B M : List D) (x y b g : D) (i : Nat) (w : Int) (hA : A.length = i) (zA : A.length ≤ 100) (zB : B.length ≤ 100) (zM : M.length ≤ 100) (fA : flats A = true) (fB : flats B = true) (fM : flats M = true) (fx : x.flat = true) (fy : y.flat = true) (fb : b.flat = true) (fg : g.flat = true)
include hS
include zA fA fx fb in
theorem leads_or : Dl.Sp (tab (n + 1) ._law_leads [.tup [.str "over right", .int 0, .int w], .tup [.tup [.tup (A ++ [b]), x]]] S) fun r => r = .ok (.tup [.tup A, .tup [.str "/", x, b]]) S := by
  refine Dl.sp_plain (g := b__law_leads (tab n)) rfl fun Q hQ => ?_
  unfold b__law_leads
  simp_arith []
  exact Dl.Qx (hS.wf rfl) (flat_line fA (show (true && (x.flat && (b.flat && true))) = true by rw [fx, fb]; rfl)) (hQ _ rfl)
include zA fA fx fb in
theorem leads_ur : Dl.Sp (tab (n + 1) ._law_leads [.tup [.str "under right", .int 0, .int w], .tup [.tup [.tup (x :: A), b]]] S) fun r => r = .ok (.tup [.tup A, .tup [.str ">", x, b]]) S := by
  refine Dl.sp_plain (g := b__law_leads (tab n)) rfl fun Q hQ => ?_
  unfold b__law_leads
  simp_arith []
  exact Dl.Qx (hS.wf rfl) (flat_line fA (show (true && (x.flat && (b.flat && true))) = true by rw [fx, fb]; rfl)) (hQ _ rfl)
include zA zB fA fB fx fb in
theorem leads_pr : Dl.Sp (tab (n + 1) ._law_leads [.tup [.str "pair right", .int i, .int w], .tup [.tup [.tup A, x], .tup [.tup B, b]]] S) fun r => r = .ok (.tup [.tup (A ++ B), .tup [.str "*", x, b]]) S := by
  refine Dl.sp_plain (g := b__law_leads (tab n)) rfl fun Q hQ => ?_
  unfold b__law_leads
  simp_arith []
  exact Dl.Qx (hS.wf rfl) (flat_line (flats_app fA fB) (show (true && (x.flat && (b.flat && true))) = true by rw [fx, fb]; rfl)) (hQ _ rfl)
include hA zA zB fA fB fx fy fg in
theorem leads_pl : Dl.Sp (tab (n + 1) ._law_leads [.tup [.str "pair left", .int i, .int w], .tup [.tup [.tup (A ++ x :: y :: B), g]]] S) fun r => r = .ok (.tup [.tup (A ++ .tup [.str "*", x, y] :: B), g]) S := by
  refine Dl.sp_plain (g := b__law_leads (tab n)) rfl fun Q hQ => ?_
  unfold b__law_leads
  simp_arith [cut_mid1 hA, cut_mid3 hA, atI_mid hA, atI_mid1 hA]
  exact Dl.Qx (hS.wf rfl) (flat_line (flats_app fA (flats_cons (show (true && (x.flat && (y.flat && true))) = true by rw [fx, fy]; rfl) fB)) fg) (hQ _ rfl)
include hA zA zB zM fA fB fM fx fb fg in
theorem leads_ol : Dl.Sp (tab (n + 1) ._law_leads [.tup [.str "over left", .int i, .int w], .tup [.tup [.tup M, b], .tup [.tup (A ++ x :: B), g]]] S) fun r => r = .ok (.tup [.tup (A ++ .tup [.str "/", x, b] :: (M ++ B)), g]) S := by
  refine Dl.sp_plain (g := b__law_leads (tab n)) rfl fun Q hQ => ?_
  unfold b__law_leads
  simp_arith [cut_mid1 hA, cut_mid2 hA, atI_mid hA]
  exact Dl.Qx (hS.wf rfl) (flat_line (flats_app fA (flats_cons (show (true && (x.flat && (b.flat && true))) = true by rw [fx, fb]; rfl) (flats_app fM fB))) fg) (hQ _ rfl)
include hA zA zB zM fA fB fM fx fb fg in
theorem leads_ul (at_ : Int) (hat : at_ - w = i) : Dl.Sp (tab (n + 1) ._law_leads [.tup [.str "under left", .int at_, .int w], .tup [.tup [.tup M, b], .tup [.tup (A ++ x :: B), g]]] S) fun r => r = .ok (.tup [.tup (A ++ (M ++ .tup [.str ">", b, x] :: B)), g]) S := by
  refine Dl.sp_plain (g := b__law_leads (tab n)) rfl fun Q hQ => ?_
  unfold b__law_leads
  simp_arith [hat, cut_mid1 hA, cut_mid2 hA, atI_mid hA]
  exact Dl.Qx (hS.wf rfl) (flat_line (flats_app fA (flats_app fM (flats_cons (show (true && (b.flat && (x.flat && true))) = true by rw [fx, fb]; rfl) fB))) fg) (hQ _ rfl)
end

end Lw

set_option Elab.async false
set_option linter.all false
set_option maxRecDepth 100000
namespace Lw
open PySem L2 Dl
local macro_rules | `(tactic| simp_arith [$ls,*]) => `(tactic| simp (disch := first | omega | assumption | (simp only [List.length_cons, List.length_nil, List.length_append, List.length_take, List.length_drop]; omega) | (simp only [List.length_cons, List.length_nil])) only [sQ_, sP_, sE_, sR_, sIf_, sN_, sA_, tgO_nx, nm_, tgIx_, eC_, eV0, eV1, e1_, e2_, eB_, eF_, aN_, aC_, eMt_, eSl_, oN_, oI_, tV_, tE_, tA_, tO_, tN_, eIf_, eAnd_, eOr_, eNot_, eCh_, seq_nx, seq_rt, seq_bk, seq_ct, seq_ex, toR_some, toR_none, toT_some, truD_bl, truD_int, truD_tup, truD_non, truD_str, truD_ref, truC_lst, tyD_str, tyD_tup, tyD_int, tyD_bl, tyD_non, tyD_ref, tyC_lst, tyC_rol, tyC_dic, kE_, kR_, kIf_t, kIf_f, kN_, kA_, kIx1_, kIx2_, kIx3_, kE1_, kE21_, kE2_, kB_, kF_, kC1_, kC_, kM1_, kM2_, kM_, kS1_, kS2_, kS3_, kO_, kV_, kT_, kAn_t, kAn_f, kOr_t, kOr_f, kNo_, kIfE_t, kIfE_f, kVa_, kVa2_t, kVa2_f, kVo_, kVo2_t, kVo2_f, kVn_, kVn2_, kH_, kH1_, kH2_t, kH2_f, kH3_, List.getElem?_cons_zero, List.getElem?_cons_succ, List.set_cons_zero, List.set_cons_succ, gAdd_int, gAdd_str, gAdd_t, gAdd_r, catC_s, gSub_int, gMul_l, gMul_r, gFdiv_int, gMod_int, gLt_int, gLe_int, gGt_int, gGe_int, gInt_int, gAbs_int, gLen_tup, gLen_str, gLen_r, lenC_s, gTpl_, gLsd_, gIx_r, ixC_s, ixO_s, gIx_t, gIx_s, ixS_s, atI_0, atI_1, atI_2, atI_3, atI_4, atI_5, gAppend_r, appC_s, gExtend_r, extC_s, gPop_r, popC_s, gSet_r, setC_0, setC_2, gTuple_r, tupC_s, gTuple_t, gList_r, gList_t, newC_s, gSl_r, slC_s, gSl_t, gSl_s, cut_take, cut_drop, cut_init, cut_mid, Int.toNat_natCast, lstC_lst, lstC_rol, lstAt_C, isi_str, isi_int, isi_bool, isi_tup, isi_lst, isO_s, isB_1, isB_2, isB_3, isB_4, isB_5, isB_6, isB_7, isB_8, isB_9, isB_10, isB_11, isB_12, isB_13, isB_14, isB_15, isB_16, isB_17, isB_18, isB_19, isB_20, isB_21, isB_22, isB_23, isB_24, isB_25, isB_26, gSum_r, sumC_s, sumO_s, gMin_, gMax_, qEq_int, qNe_int, qEq_str, qNe_str, gNeg_z, tgT_, tgU_, tgL0, tgL1, eTab_, kTab_, sX_, gDget_r, dgC_s, List.getElem?_concat_length, set_end, sF_, kFor_, iR1_, kR1_, iR2_, kR2_, kR3_, iA_, kAny_r, kAny_t, kAny_s, iaC_s, eLc_, kLc_, wipeD_c, wipeD_n, tYes_, put_one, sAug_, gAug_i, sBk_, sCt_, sW_, st_len, st_p, st_k, st_0, st_q, st_set_p, st_set_k, st_set_0, st_push, sx_len, sx_k, sx_0, sx_q, sx_set_k, sx_set_0, sx_push, So_rt, So_nx, So_ex, Tn_nx, Tn_ct, Tn_bk, Tn_rt, Tn_ex, Bool.false_eq_true, if_true, if_false, reduceIte, Option.map_some, Option.bind_some, Bool.not_true, Bool.not_false, decide_true, decide_false, eq_self, List.length_append, List.length_singleton, List.length_cons, List.length_nil, List.map_cons, List.map_nil, Nat.sub_self, List.replicate_zero, List.append_nil, List.cons_append, List.nil_append, List.append_assoc, List.replicate_succ, Nat.reduceSub, Nat.reduceAdd, Nat.add_zero, Nat.zero_add, Nat.add_assoc, Nat.reduceLeDiff, Int.cast_ofNat_Int, Int.reduceEq, Int.reduceLT, Int.reduceLE, Int.reduceAdd, Int.reduceSub, Int.reduceNeg, Int.reduceToNat, List.take_succ_cons, List.take_zero, List.drop_succ_cons, List.drop_zero, List.dropLast_concat, Dl.atI_last, q1, q2, q3, q4, q5, q6, e1, e2, e3, r_ax_or, r_ax_ur, r_ax_pr, r_ax_ol, r_ax_ul, r_ax_pl, r_or_ax, r_or_ur, r_or_pr, r_or_ol, r_or_ul, r_or_pl, r_ur_ax, r_ur_or, r_ur_pr, r_ur_ol, r_ur_ul, r_ur_pl, r_pr_ax, r_pr_or, r_pr_ur, r_pr_ol, r_pr_ul, r_pr_pl, r_ol_ax, r_ol_or, r_ol_ur, r_ol_pr, r_ol_ul, r_ol_pl, r_ul_ax, r_ul_or, r_ul_ur, r_ul_pr, r_ul_ol, r_ul_pl, r_pl_ax, r_pl_or, r_pl_ur, r_pl_pr, r_pl_ol, r_pl_ul, $ls,*])
local macro_rules | `(tactic| walk_at "ev") => `(tactic| simp (disch := first | omega | assumption | (simp only [List.length_cons, List.length_nil, List.length_append, List.length_take, List.length_drop]; omega) | (simp only [List.length_cons, List.length_nil])) only [sQ_, sP_, sE_, sR_, sIf_, sN_, sA_, tgO_nx, nm_, tgIx_, eC_, eV0, eV1, e1_, e2_, eB_, eF_, aN_, aC_, eMt_, eSl_, oN_, oI_, tV_, tE_, tA_, tO_, tN_, eIf_, eAnd_, eOr_, eNot_, eCh_, seq_nx, seq_rt, seq_bk, seq_ct, seq_ex, toR_some, toR_none, toT_some, truD_bl, truD_int, truD_tup, truD_non, truD_str, truD_ref, truC_lst, tyD_str, tyD_tup, tyD_int, tyD_bl, tyD_non, tyD_ref, tyC_lst, tyC_rol, tyC_dic, kE_, kR_, kIf_t, kIf_f, kN_, kA_, kIx1_, kIx2_, kIx3_, kE1_, kE21_, kE2_, kB_, kF_, kC1_, kC_, kM1_, kM2_, kM_, kS1_, kS2_, kS3_, kO_, kV_, kT_, kAn_t, kAn_f, kOr_t, kOr_f, kNo_, kIfE_t, kIfE_f, kVa_, kVa2_t, kVa2_f, kVo_, kVo2_t, kVo2_f, kVn_, kVn2_, kH_, kH1_, kH2_t, kH2_f, kH3_, List.getElem?_cons_zero, List.getElem?_cons_succ, List.set_cons_zero, List.set_cons_succ, gAdd_int, gAdd_str, gAdd_t, gAdd_r, catC_s, gSub_int, gMul_l, gMul_r, gFdiv_int, gMod_int, gLt_int, gLe_int, gGt_int, gGe_int, gInt_int, gAbs_int, gLen_tup, gLen_str, gLen_r, lenC_s, gTpl_, gLsd_, gIx_r, ixC_s, ixO_s, gIx_t, gIx_s, ixS_s, atI_0, atI_1, atI_2, atI_3, atI_4, atI_5, gAppend_r, appC_s, gExtend_r, extC_s, gPop_r, popC_s, gSet_r, setC_0, setC_2, gTuple_r, tupC_s, gTuple_t, gList_r, gList_t, newC_s, gSl_r, slC_s, gSl_t, gSl_s, cut_take, cut_drop, cut_init, cut_mid, Int.toNat_natCast, lstC_lst, lstC_rol, lstAt_C, isi_str, isi_int, isi_bool, isi_tup, isi_lst, isO_s, isB_1, isB_2, isB_3, isB_4, isB_5, isB_6, isB_7, isB_8, isB_9, isB_10, isB_11, isB_12, isB_13, isB_14, isB_15, isB_16, isB_17, isB_18, isB_19, isB_20, isB_21, isB_22, isB_23, isB_24, isB_25, isB_26, gSum_r, sumC_s, sumO_s, gMin_, gMax_, qEq_int, qNe_int, qEq_str, qNe_str, gNeg_z, tgT_, tgU_, tgL0, tgL1, eTab_, kTab_, sX_, gDget_r, dgC_s, List.getElem?_concat_length, set_end, sF_, kFor_, iR1_, kR1_, iR2_, kR2_, kR3_, iA_, kAny_r, kAny_t, kAny_s, iaC_s, eLc_, kLc_, wipeD_c, wipeD_n, tYes_, put_one, sAug_, gAug_i, sBk_, sCt_, sW_, st_len, st_p, st_k, st_0, st_q, st_set_p, st_set_k, st_set_0, st_push, sx_len, sx_k, sx_0, sx_q, sx_set_k, sx_set_0, sx_push, So_rt, So_nx, So_ex, Tn_nx, Tn_ct, Tn_bk, Tn_rt, Tn_ex, Bool.false_eq_true, if_true, if_false, reduceIte, Option.map_some, Option.bind_some, Bool.not_true, Bool.not_false, decide_true, decide_false, eq_self, List.length_append, List.length_singleton, List.length_cons, List.length_nil, List.map_cons, List.map_nil, Nat.sub_self, List.replicate_zero, List.append_nil, List.cons_append, List.nil_append, List.append_assoc, List.replicate_succ, Nat.reduceSub, Nat.reduceAdd, Nat.add_zero, Nat.zero_add, Nat.add_assoc, Nat.reduceLeDiff, Int.cast_ofNat_Int, Int.reduceEq, Int.reduceLT, Int.reduceLE, Int.reduceAdd, Int.reduceSub, Int.reduceNeg, Int.reduceToNat, List.take_succ_cons, List.take_zero, List.drop_succ_cons, List.drop_zero, List.dropLast_concat, Dl.atI_last, q1, q2, q3, q4, q5, q6, e1, e2, e3, r_ax_or, r_ax_ur, r_ax_pr, r_ax_ol, r_ax_ul, r_ax_pl, r_or_ax, r_or_ur, r_or_pr, r_or_ol, r_or_ul, r_or_pl, r_ur_ax, r_ur_or, r_ur_pr, r_ur_ol, r_ur_ul, r_ur_pl, r_pr_ax, r_pr_or, r_pr_ur, r_pr_ol, r_pr_ul, r_pr_pl, r_ol_ax, r_ol_or, r_ol_ur, r_ol_pr, r_ol_ul, r_ol_pl, r_ul_ax, r_ul_or, r_ul_ur, r_ul_pr, r_ul_ol, r_ul_pl, r_pl_ax, r_pl_or, r_pl_ur, r_pl_pr, r_pl_ol, r_pl_ul])
/-! ## _law_step_right -/
theorem KTpl : ∀ k : KT, Pl k.d = true
  | .leaf t => rfl
  | .node s a b => by
    show (true && (Pl a.d && (Pl b.d && true))) = true
    rw [KTpl a, KTpl b]; rfl
theorem KTsh : ∀ k : KT, Sh k.d
  | .leaf t => trivial
  | .node s a b => ⟨by show 3 ≤ 1000000; decide, trivial, KTsh a, KTsh b, trivial⟩
theorem kds_pl : ∀ ks : List KT, Pls (kds ks) = true
  | [] => rfl
  | k :: ks => by
    show (Pl k.d && Pls (kds ks)) = true
    rw [KTpl k, kds_pl ks]; rfl
theorem kds_sh : ∀ ks : List KT, Shs (kds ks)
  | [] => trivial
  | k :: ks => ⟨KTsh k, kds_sh ks⟩
theorem deqs_ints : ∀ xs : List Int, deqs (xs.map D.int) (xs.map D.int) = true
  | [] => rfl
  | x :: xs => by show ((x == x) && deqs _ _) = true; rw [deqs_ints xs, beq_self_eq_true]; rfl
theorem ints_flat : ∀ xs : List Int, flats (xs.map D.int) = true
  | [] => rfl
  | x :: xs => by show (true && flats _) = true; rw [ints_flat xs]; rfl
theorem deps_ints : ∀ xs : List Int, deps (xs.map D.int) = 0
  | [] => rfl
  | x :: xs => by show max 0 (deps _) = 0; rw [deps_ints xs]; rfl
theorem gNe_ints {S : Store} {l r : Nat} {xs : List Int} (h1 : lstAt S l = some (xs.map D.int)) (h2 : lstAt S r = some (xs.map D.int)) : gNe (.ref l) (.ref r) S = some (.bl false, S) := by
  unfold gNe gEqB
  rw [asP_lst h1 (ints_flat xs), asP_lst h2 (ints_flat xs)]
  have e : (PyData.list (toPys (xs.map D.int))).depth ≤ 64 := by
    have q := depth_toPy (.tup (xs.map D.int))
    have q' : PyData.depthAll (toPys (xs.map D.int)) + 1 = deps (xs.map D.int) + 1 := q
    show PyData.depthAll (toPys (xs.map D.int)) + 1 ≤ 64
    rw [q', deps_ints xs]
    decide
  show Option.map _ (if (PyData.list (toPys (xs.map D.int))).depth ≤ 64 then some (PyData.eqv (.list (toPys (xs.map D.int))) (.list (toPys (xs.map D.int)))) else none) = _
  rw [if_pos e]
  show some (D.bl (!PyData.eqvAll (toPys (xs.map D.int)) (toPys (xs.map D.int))), S) = _
  rw [eqvs_toPys _ _ (ints_flat xs) (ints_flat xs), deqs_ints]
  rfl
def pl_ (ps : List (List D × D)) : List Int := ps.map fun p => (p.1.length : Int)
structure Rt (js : List KT) (g : KT) (s : Stp) : Prop where
  plen : s.parts.length ≤ 2
  fl : s.Fl
  lens : ∀ (n : Nat) (S : Store), SOK S → Dl.Sp (tab (n + 1) ._law_lengths [s.h, .int js.length] S) fun r => r = .ok (.ref S.length) (S ++ [.lst ((pl_ s.parts).map D.int)])
  leads : s.parts ≠ [] → ∀ (n : Nat) (S : Store), SOK S → Dl.Sp (tab (n + 1) ._law_leads [s.h, .tup (s.parts.map prt)] S) fun r => r = .ok (.tup [.tup (kds js), g.d]) S
theorem step_right_t (n : Nat) (js : List KT) (g : KT) (s : Stp) (S : Store) (hS : SOK S) (hq : Seq js g) (hs : Rt js g s) : Dl.Sp (tab (n + 45) ._law_step_right [.tup [.tup (kds js), g.d], s.h, s.d] S) fun r => r = .ok (.bl true) S := by
  have kl := kds_len js
  have hl := hq.l40
  have kf := kds_flat js
  have gf := KT.flat g
  have hd := deps_kds (m := 40) hq.fit (by decide)
  have gd := KT.dep g
  have gd2 := hq.goal.2
  have hp := hs.plen
  refine Dl.sp_plain (g := b__law_step_right (tab (n + 44))) rfl fun Q hQ => ?_
  unfold b__law_step_right Stp.d
  have e1 : tab (n + 44) ._law_same [.tup [.str s.rule, .int s.at_, .int s.width], s.h] (Dl.sx S []) = .ok (.bl true) (Dl.sx S []) := same_spec (n + 44) s.h (Dl.sx S []) rfl (show 3 ≤ 1000000 ∧ True ∧ True ∧ True ∧ True from ⟨by decide, trivial, trivial, trivial, trivial⟩) (by show 0 + 1 < n + 44; omega)
  have e2 := fun T => same_spec (n + 44) (.tup [.tup (kds js), g.d]) T (by show (Pls (kds js) && (Pl g.d && true)) = true; rw [kds_pl, KTpl]; rfl) ⟨by show 2 ≤ 1000000; decide, ⟨by rw [kl]; omega, kds_sh js⟩, KTsh g, trivial⟩ (by
    show max (deps (kds js) + 1) (max g.d.dep 0) + 1 < n + 44
    omega)
  simp_arith [e1]
  refine Dl.forQ (fun j ρ T => ∃ v, ρ = [some (.tup [.tup (kds js), g.d]), some s.h, some (.tup [.str s.rule, .int s.at_, .int s.width, .tup (s.parts.map prt)]), some (.tup (s.parts.map prt)), v] ∧ T = Dl.sx S []) ⟨_, rfl, rfl⟩ ?_ ?_
  · rintro j d _ _ hj ⟨v, rfl, rfl⟩
    rw [List.getElem?_map] at hj
    cases hpj : s.parts[j]? with
    | none => rw [hpj] at hj; exact nomatch hj
    | some p =>
      rw [hpj] at hj
      cases hj
      refine ⟨chk_nil, _, _, rfl, ?_⟩
      unfold prt
      simp_arith []
      exact ⟨_, rfl, trivial⟩
  · rintro _ _ ⟨v, rfl, rfl⟩
    refine ⟨chk_nil, ?_⟩
    have ec : ∀ ρ : Dl.Env, 4 < ρ.length → runC S.length ρ (.one 4) tYesD (eB gLen (aC (Dl.e2 gIx (eV 4) (eC (.int 0))) aN)) [] (s.parts.map prt) (Dl.sx S [.lst []]) = .ok (.ref S.length) (Dl.sx S [.lst ((pl_ s.parts).map D.int)]) := fun ρ hρ => by
      rw [Dl.comp_sx0 (val := fun d => match d with | .tup (.tup xs :: _) => .int xs.length | _ => .non) (by rw [List.length_map]; omega) (fun a => chk_nil) (fun d hd => by
        obtain ⟨p, _, rfl⟩ := List.mem_map.mp hd
        refine ⟨_, rfl, fun a => ?_⟩
        rw [eB_, aC_, e2_, show eV 4 (ρ.set 4 (some (prt p))) (Dl.sx S [.lst a]) = .ok (prt p) (Dl.sx S [.lst a]) by unfold eV; rw [List.getElem?_set_self hρ]]
        unfold prt
        simp_arith []), List.map_map]
      unfold pl_
      rw [List.map_map]
      rfl
    have S1 : SOK (Dl.sx S [.lst ((pl_ s.parts).map D.int)]) := SOK.sx hS (.one (c := Dl.Cell.lst _) (ints_flat _))
    have el := hs.lens (n + 43) _ S1
    have eg := gNe_ints (xs := pl_ s.parts) (S := Dl.sx S [.lst ((pl_ s.parts).map D.int), .lst ((pl_ s.parts).map D.int)]) (l := S.length) (r := S.length + 1) (by simp_arith []) (by simp_arith [])
    rw [← kl] at el
    simp_arith [ec, el, eg]
    by_cases hz : s.parts = []
    · simp_arith [hz]
      exact Dl.Qx (hS.wf rfl) rfl (hQ _ rfl)
    · have hz' : ¬ ((s.parts.length : Int) = 0) := fun z => hz (List.eq_nil_of_length_eq_zero (by omega))
      have S2 : SOK (Dl.sx S [.lst ((pl_ s.parts).map D.int), .lst ((pl_ s.parts).map D.int)]) := SOK.sx hS (.cons (c := Dl.Cell.lst _) (ints_flat _) (.one (c := Dl.Cell.lst _) (ints_flat _)))
      have ed := hs.leads hz (n + 43) _ S2
      simp_arith [List.length_map, hz', ed, e2]
      exact Dl.Qx (hS.wf rfl) rfl (hQ _ rfl)

end Lw

set_option Elab.async false
set_option linter.all false
set_option maxRecDepth 100000
namespace Lw
open PySem L2 Dl
local macro_rules | `(tactic| simp_arith [$ls,*]) => `(tactic| simp (disch := first | omega | assumption | (simp only [List.length_cons, List.length_nil, List.length_append, List.length_take, List.length_drop]; omega) | (simp only [List.length_cons, List.length_nil])) only [sQ_, sP_, sE_, sR_, sIf_, sN_, sA_, tgO_nx, nm_, tgIx_, eC_, eV0, eV1, e1_, e2_, eB_, eF_, aN_, aC_, eMt_, eSl_, oN_, oI_, tV_, tE_, tA_, tO_, tN_, eIf_, eAnd_, eOr_, eNot_, eCh_, seq_nx, seq_rt, seq_bk, seq_ct, seq_ex, toR_some, toR_none, toT_some, truD_bl, truD_int, truD_tup, truD_non, truD_str, truD_ref, truC_lst, tyD_str, tyD_tup, tyD_int, tyD_bl, tyD_non, tyD_ref, tyC_lst, tyC_rol, tyC_dic, kE_, kR_, kIf_t, kIf_f, kN_, kA_, kIx1_, kIx2_, kIx3_, kE1_, kE21_, kE2_, kB_, kF_, kC1_, kC_, kM1_, kM2_, kM_, kS1_, kS2_, kS3_, kO_, kV_, kT_, kAn_t, kAn_f, kOr_t, kOr_f, kNo_, kIfE_t, kIfE_f, kVa_, kVa2_t, kVa2_f, kVo_, kVo2_t, kVo2_f, kVn_, kVn2_, kH_, kH1_, kH2_t, kH2_f, kH3_, List.getElem?_cons_zero, List.getElem?_cons_succ, List.set_cons_zero, List.set_cons_succ, gAdd_int, gAdd_str, gAdd_t, gAdd_r, catC_s, gSub_int, gMul_l, gMul_r, gFdiv_int, gMod_int, gLt_int, gLe_int, gGt_int, gGe_int, gInt_int, gAbs_int, gLen_tup, gLen_str, gLen_r, lenC_s, gTpl_, gLsd_, gIx_r, ixC_s, ixO_s, gIx_t, gIx_s, ixS_s, atI_0, atI_1, atI_2, atI_3, atI_4, atI_5, gAppend_r, appC_s, gExtend_r, extC_s, gPop_r, popC_s, gSet_r, setC_0, setC_2, gTuple_r, tupC_s, gTuple_t, gList_r, gList_t, newC_s, gSl_r, slC_s, gSl_t, gSl_s, cut_take, cut_drop, cut_init, cut_mid, Int.toNat_natCast, lstC_lst, lstC_rol, lstAt_C, isi_str, isi_int, isi_bool, isi_tup, isi_lst, isO_s, isB_1, isB_2, isB_3, isB_4, isB_5, isB_6, isB_7, isB_8, isB_9, isB_10, isB_11, isB_12, isB_13, isB_14, isB_15, isB_16, isB_17, isB_18, isB_19, isB_20, isB_21, isB_22, isB_23, isB_24, isB_25, isB_26, gSum_r, sumC_s, sumO_s, gMin_, gMax_, qEq_int, qNe_int, qEq_str, qNe_str, gNeg_z, tgT_, tgU_, tgL0, tgL1, eTab_, kTab_, sX_, gDget_r, dgC_s, List.getElem?_concat_length, set_end, sF_, kFor_, iR1_, kR1_, iR2_, kR2_, kR3_, iA_, kAny_r, kAny_t, kAny_s, iaC_s, eLc_, kLc_, wipeD_c, wipeD_n, tYes_, put_one, sAug_, gAug_i, sBk_, sCt_, sW_, st_len, st_p, st_k, st_0, st_q, st_set_p, st_set_k, st_set_0, st_push, sx_len, sx_k, sx_0, sx_q, sx_set_k, sx_set_0, sx_push, So_rt, So_nx, So_ex, Tn_nx, Tn_ct, Tn_bk, Tn_rt, Tn_ex, Bool.false_eq_true, if_true, if_false, reduceIte, Option.map_some, Option.bind_some, Bool.not_true, Bool.not_false, decide_true, decide_false, eq_self, List.length_append, List.length_singleton, List.length_cons, List.length_nil, List.map_cons, List.map_nil, Nat.sub_self, List.replicate_zero, List.append_nil, List.cons_append, List.nil_append, List.append_assoc, List.replicate_succ, Nat.reduceSub, Nat.reduceAdd, Nat.add_zero, Nat.zero_add, Nat.add_assoc, Nat.reduceLeDiff, Int.cast_ofNat_Int, Int.reduceEq, Int.reduceLT, Int.reduceLE, Int.reduceAdd, Int.reduceSub, Int.reduceNeg, Int.reduceToNat, List.take_succ_cons, List.take_zero, List.drop_succ_cons, List.drop_zero, List.dropLast_concat, Dl.atI_last, q1, q2, q3, q4, q5, q6, e1, e2, e3, r_ax_or, r_ax_ur, r_ax_pr, r_ax_ol, r_ax_ul, r_ax_pl, r_or_ax, r_or_ur, r_or_pr, r_or_ol, r_or_ul, r_or_pl, r_ur_ax, r_ur_or, r_ur_pr, r_ur_ol, r_ur_ul, r_ur_pl, r_pr_ax, r_pr_or, r_pr_ur, r_pr_ol, r_pr_ul, r_pr_pl, r_ol_ax, r_ol_or, r_ol_ur, r_ol_pr, r_ol_ul, r_ol_pl, r_ul_ax, r_ul_or, r_ul_ur, r_ul_pr, r_ul_ol, r_ul_pl, r_pl_ax, r_pl_or, r_pl_ur, r_pl_pr, r_pl_ol, r_pl_ul, $ls,*])
local macro_rules | `(tactic| walk_at "ev") => `(tactic| simp (disch := first | omega | assumption | (simp only [List.length_cons, List.length_nil, List.length_append, List.length_take, List.length_drop]; omega) | (simp only [List.length_cons, List.length_nil])) only [sQ_, sP_, sE_, sR_, sIf_, sN_, sA_, tgO_nx, nm_, tgIx_, eC_, eV0, eV1, e1_, e2_, eB_, eF_, aN_, aC_, eMt_, eSl_, oN_, oI_, tV_, tE_, tA_, tO_, tN_, eIf_, eAnd_, eOr_, eNot_, eCh_, seq_nx, seq_rt, seq_bk, seq_ct, seq_ex, toR_some, toR_none, toT_some, truD_bl, truD_int, truD_tup, truD_non, truD_str, truD_ref, truC_lst, tyD_str, tyD_tup, tyD_int, tyD_bl, tyD_non, tyD_ref, tyC_lst, tyC_rol, tyC_dic, kE_, kR_, kIf_t, kIf_f, kN_, kA_, kIx1_, kIx2_, kIx3_, kE1_, kE21_, kE2_, kB_, kF_, kC1_, kC_, kM1_, kM2_, kM_, kS1_, kS2_, kS3_, kO_, kV_, kT_, kAn_t, kAn_f, kOr_t, kOr_f, kNo_, kIfE_t, kIfE_f, kVa_, kVa2_t, kVa2_f, kVo_, kVo2_t, kVo2_f, kVn_, kVn2_, kH_, kH1_, kH2_t, kH2_f, kH3_, List.getElem?_cons_zero, List.getElem?_cons_succ, List.set_cons_zero, List.set_cons_succ, gAdd_int, gAdd_str, gAdd_t, gAdd_r, catC_s, gSub_int, gMul_l, gMul_r, gFdiv_int, gMod_int, gLt_int, gLe_int, gGt_int, gGe_int, gInt_int, gAbs_int, gLen_tup, gLen_str, gLen_r, lenC_s, gTpl_, gLsd_, gIx_r, ixC_s, ixO_s, gIx_t, gIx_s, ixS_s, atI_0, atI_1, atI_2, atI_3, atI_4, atI_5, gAppend_r, appC_s, gExtend_r, extC_s, gPop_r, popC_s, gSet_r, setC_0, setC_2, gTuple_r, tupC_s, gTuple_t, gList_r, gList_t, newC_s, gSl_r, slC_s, gSl_t, gSl_s, cut_take, cut_drop, cut_init, cut_mid, Int.toNat_natCast, lstC_lst, lstC_rol, lstAt_C, isi_str, isi_int, isi_bool, isi_tup, isi_lst, isO_s, isB_1, isB_2, isB_3, isB_4, isB_5, isB_6, isB_7, isB_8, isB_9, isB_10, isB_11, isB_12, isB_13, isB_14, isB_15, isB_16, isB_17, isB_18, isB_19, isB_20, isB_21, isB_22, isB_23, isB_24, isB_25, isB_26, gSum_r, sumC_s, sumO_s, gMin_, gMax_, qEq_int, qNe_int, qEq_str, qNe_str, gNeg_z, tgT_, tgU_, tgL0, tgL1, eTab_, kTab_, sX_, gDget_r, dgC_s, List.getElem?_concat_length, set_end, sF_, kFor_, iR1_, kR1_, iR2_, kR2_, kR3_, iA_, kAny_r, kAny_t, kAny_s, iaC_s, eLc_, kLc_, wipeD_c, wipeD_n, tYes_, put_one, sAug_, gAug_i, sBk_, sCt_, sW_, st_len, st_p, st_k, st_0, st_q, st_set_p, st_set_k, st_set_0, st_push, sx_len, sx_k, sx_0, sx_q, sx_set_k, sx_set_0, sx_push, So_rt, So_nx, So_ex, Tn_nx, Tn_ct, Tn_bk, Tn_rt, Tn_ex, Bool.false_eq_true, if_true, if_false, reduceIte, Option.map_some, Option.bind_some, Bool.not_true, Bool.not_false, decide_true, decide_false, eq_self, List.length_append, List.length_singleton, List.length_cons, List.length_nil, List.map_cons, List.map_nil, Nat.sub_self, List.replicate_zero, List.append_nil, List.cons_append, List.nil_append, List.append_assoc, List.replicate_succ, Nat.reduceSub, Nat.reduceAdd, Nat.add_zero, Nat.zero_add, Nat.add_assoc, Nat.reduceLeDiff, Int.cast_ofNat_Int, Int.reduceEq, Int.reduceLT, Int.reduceLE, Int.reduceAdd, Int.reduceSub, Int.reduceNeg, Int.reduceToNat, List.take_succ_cons, List.take_zero, List.drop_succ_cons, List.drop_zero, List.dropLast_concat, Dl.atI_last, q1, q2, q3, q4, q5, q6, e1, e2, e3, r_ax_or, r_ax_ur, r_ax_pr, r_ax_ol, r_ax_ul, r_ax_pl, r_or_ax, r_or_ur, r_or_pr, r_or_ol, r_or_ul, r_or_pl, r_ur_ax, r_ur_or, r_ur_pr, r_ur_ol, r_ur_ul, r_ur_pl, r_pr_ax, r_pr_or, r_pr_ur, r_pr_ol, r_pr_ul, r_pr_pl, r_ol_ax, r_ol_or, r_ol_ur, r_ol_pr, r_ol_ul, r_ol_pl, r_ul_ax, r_ul_or, r_ul_ur, r_ul_pr, r_ul_ol, r_ul_pl, r_pl_ax, r_pl_or, r_pl_ur, r_pl_pr, r_pl_ol, r_pl_ul])
/-! ## every step is right -/
theorem take_mid {ks : List D} {i : Nat} {x : D} (h : ks[i]? = some x) : ks.take i ++ x :: ks.drop (i + 1) = ks := by
  have hl := get_lt h
  have e : ks.drop i = x :: ks.drop (i + 1) := by
    rw [List.drop_eq_getElem_cons hl]
    congr 1
    rw [List.getElem?_eq_getElem hl] at h
    exact Option.some.inj h
  rw [← e, List.take_append_drop]
theorem deq_self_str {d : D} {t : Str} (h : deq d (.str t) = true) : d = .str t := by
  cases d with
  | str x => exact congrArg D.str (eq_of_beq (show (x == t) = true from h))
  | _ => exact nomatch h
theorem rt_ax {js : List KT} {g : KT} : ∀ s ∈ axStps (kds js) g, Rt js g s := by
  cases g with
  | leaf t =>
    show ∀ s ∈ (if deqs (kds js) [.str t] = true then [(⟨"axiom", 0, 0, []⟩ : Stp)] else []), Rt js (.leaf t) s
    split
    · intro s hs
      rw [List.mem_singleton.mp hs]
      exact ⟨by show 0 ≤ 2; omega, fun p hp => (nomatch hp), fun n S hS => lens_ax n S hS 0 0 _, fun h => absurd rfl h⟩
    · exact fun s hs => nomatch hs
  | node r a b => exact fun s hs => nomatch hs
theorem rt_goal {js : List KT} {g : KT} (hq : Seq js g) : ∀ s ∈ goalStps (kds js) g, Rt js g s := by
  have kl := kds_len js
  have hl := hq.l40
  have kf := kds_flat js
  have fl := goal_fl (kds js) kf g
  cases g with
  | leaf t => exact fun s hs => nomatch hs
  | node r a b =>
    have fa := KT.flat a
    have fb := KT.flat b
    rcases hq.goal.1.1 with h | h | h
    · subst h
      rw [goal_o] at fl ⊢
      intro s hs
      have f := fl s hs
      rw [List.mem_singleton.mp hs] at f ⊢
      refine ⟨by show 1 ≤ 2; omega, f, fun n S hS => ?_, fun _ n S hS => leads_or n S hS (kds js) a.d b.d 0 (by omega) kf fa fb⟩
      have e := lens_or n S hS 0 0 js.length
      rw [show (js.length : Int) + 1 = ((kds js ++ [b.d]).length : Int) by rw [List.length_append, kl]; rfl] at e
      exact e
    · subst h
      rw [goal_u] at fl ⊢
      intro s hs
      have f := fl s hs
      rw [List.mem_singleton.mp hs] at f ⊢
      refine ⟨by show 1 ≤ 2; omega, f, fun n S hS => ?_, fun _ n S hS => leads_ur n S hS (kds js) a.d b.d 0 (by omega) kf fa fb⟩
      have e := lens_ur n S hS 0 0 js.length
      rw [show (js.length : Int) + 1 = ((a.d :: kds js).length : Int) by rw [List.length_cons, kl]; rfl] at e
      exact e
    · subst h
      rw [goal_p (by decide) (by decide)] at fl ⊢
      intro s hs
      have f := fl s hs
      obtain ⟨k, hk, rfl⟩ := List.mem_map.mp hs
      have hk := List.mem_range.mp hk
      refine ⟨by show 2 ≤ 2; omega, f, fun n S hS => ?_, fun _ n S hS => ?_⟩
      · have e := lens_pr n S hS (1 + k) 0 js.length
        have z1 : (1 : Int) + k = (((kds js).take (k + 1)).length : Int) := by rw [List.length_take]; omega
        have z2 : (js.length : Int) - (1 + k) = (((kds js).drop (k + 1)).length : Int) := by rw [List.length_drop]; omega
        rw [z2] at e
        show Dl.Sp _ fun r => r = .ok _ (S ++ [.lst [.int (((kds js).take (k + 1)).length : Int), .int (((kds js).drop (k + 1)).length : Int)]])
        rw [← z1]
        exact e
      · have e := leads_pr n S hS ((kds js).take (k + 1)) ((kds js).drop (k + 1)) a.d b.d (k + 1) 0 (by rw [List.length_take]; omega) (by rw [List.length_drop]; omega) (flats_take _ kf) (flats_drop _ kf) fa fb
        rw [List.take_append_drop, show (((k + 1 : Nat) : Int)) = 1 + (k : Int) by omega] at e
        exact e
theorem rt_prem {js : List KT} {g : KT} (hq : Seq js g) {i : Nat} {k : KT} (hk : js[i]? = some k) : ∀ s ∈ premStps (kds js) g.d i k, Rt js g s := by
  have kl := kds_len js
  have hl := hq.l40
  have kf := kds_flat js
  have fg := KT.flat g
  have fl := prem_fl (kds js) kf g.d fg i k
  have il := get_lt hk
  have hi : (kds js)[i]? = some k.d := by unfold kds; rw [List.getElem?_map, hk]; rfl
  have tm := take_mid hi
  cases k with
  | leaf t => exact fun s hs => nomatch hs
  | node r a b =>
    have fa := KT.flat a
    have fb := KT.flat b
    rcases (hq.fit _ (List.mem_of_getElem? hk)).1.1 with h | h | h
    · subst h
      rw [prem_o] at fl ⊢
      intro s hs
      have f := fl s hs
      obtain ⟨j, hj, rfl⟩ := List.mem_map.mp hs
      have hj := List.mem_range.mp hj
      have z0 : ((kds js).take i).length = i := by rw [List.length_take]; omega
      have z1 : (((kds js).drop (i + 1)).take (j + 1)).length = j + 1 := by rw [List.length_take, List.length_drop]; omega
      have z2 : ((kds js).drop (i + 2 + j)).length = js.length - (i + 2 + j) := by rw [List.length_drop, kl]
      refine ⟨by show 2 ≤ 2; omega, f, fun n S hS => ?_, fun _ n S hS => ?_⟩
      · have e := lens_ol n S hS i (1 + j) js.length
        have y1 : (1 : Int) + j = ((((kds js).drop (i + 1)).take (j + 1)).length : Int) := by omega
        have y2 : (js.length : Int) - (1 + j) = (((kds js).take i ++ a.d :: (kds js).drop (i + 2 + j)).length : Int) := by rw [List.length_append, List.length_cons]; omega
        rw [y2] at e
        show Dl.Sp _ fun r => r = .ok _ (S ++ [.lst [.int ((((kds js).drop (i + 1)).take (j + 1)).length : Int), .int (((kds js).take i ++ a.d :: (kds js).drop (i + 2 + j)).length : Int)]])
        rw [← y1]
        exact e
      · have e := leads_ol n S hS ((kds js).take i) ((kds js).drop (i + 2 + j)) (((kds js).drop (i + 1)).take (j + 1)) a.d b.d g.d i (1 + j) z0 (by omega) (by omega) (by omega) (flats_take _ kf) (flats_drop _ kf) (flats_take _ (flats_drop _ kf)) fa fb fg
        have em : ((kds js).drop (i + 1)).take (j + 1) ++ (kds js).drop (i + 2 + j) = (kds js).drop (i + 1) := by
          rw [show (kds js).drop (i + 2 + j) = ((kds js).drop (i + 1)).drop (j + 1) by rw [List.drop_drop]; congr 1; omega, List.take_append_drop]
        rw [em, ← KTd_node, tm] at e
        exact e
    · subst h
      rw [prem_u] at fl ⊢
      intro s hs
      have f := fl s hs
      obtain ⟨j, hj, rfl⟩ := List.mem_map.mp hs
      have hj := List.mem_range.mp hj
      have z0 : ((kds js).take (i - (j + 1))).length = i - (j + 1) := by rw [List.length_take]; omega
      have z1 : (((kds js).drop (i - (j + 1))).take (j + 1)).length = j + 1 := by rw [List.length_take, List.length_drop]; omega
      have z2 : ((kds js).drop (i + 1)).length = js.length - (i + 1) := by rw [List.length_drop, kl]
      refine ⟨by show 2 ≤ 2; omega, f, fun n S hS => ?_, fun _ n S hS => ?_⟩
      · have e := lens_ul n S hS i (1 + j) js.length
        have y1 : (1 : Int) + j = ((((kds js).drop (i - (j + 1))).take (j + 1)).length : Int) := by omega
        have y2 : (js.length : Int) - (1 + j) = (((kds js).take (i - (j + 1)) ++ b.d :: (kds js).drop (i + 1)).length : Int) := by rw [List.length_append, List.length_cons]; omega
        rw [y2] at e
        show Dl.Sp _ fun r => r = .ok _ (S ++ [.lst [.int ((((kds js).drop (i - (j + 1))).take (j + 1)).length : Int), .int (((kds js).take (i - (j + 1)) ++ b.d :: (kds js).drop (i + 1)).length : Int)]])
        rw [← y1]
        exact e
      · have e := leads_ul n S hS ((kds js).take (i - (j + 1))) ((kds js).drop (i + 1)) (((kds js).drop (i - (j + 1))).take (j + 1)) b.d a.d g.d (i - (j + 1)) (1 + j) z0 (by omega) (by omega) (by omega) (flats_take _ kf) (flats_drop _ kf) (flats_take _ (flats_drop _ kf)) fb fa fg i (by omega)
        have em : (kds js).take (i - (j + 1)) ++ (((kds js).drop (i - (j + 1))).take (j + 1) ++ (KT.node ">" a b).d :: (kds js).drop (i + 1)) = kds js := by
          rw [← List.append_assoc, show (kds js).take (i - (j + 1)) ++ ((kds js).drop (i - (j + 1))).take (j + 1) = (kds js).take i by
            rw [← List.take_add, show i - (j + 1) + (j + 1) = i by omega]]
          exact tm
        rw [← KTd_node, em] at e
        exact e
    · subst h
      rw [prem_p (by decide) (by decide)] at fl ⊢
      intro s hs
      have f := fl s hs
      rw [List.mem_singleton.mp hs] at f ⊢
      have z0 : ((kds js).take i).length = i := by rw [List.length_take]; omega
      have z2 : ((kds js).drop (i + 1)).length = js.length - (i + 1) := by rw [List.length_drop, kl]
      refine ⟨by show 1 ≤ 2; omega, f, fun n S hS => ?_, fun _ n S hS => ?_⟩
      · have e := lens_pl n S hS i 0 js.length
        rw [show (js.length : Int) + 1 = (((kds js).take i ++ a.d :: b.d :: (kds js).drop (i + 1)).length : Int) by rw [List.length_append, List.length_cons, List.length_cons]; omega] at e
        exact e
      · have e := leads_pl n S hS ((kds js).take i) ((kds js).drop (i + 1)) a.d b.d g.d i 0 z0 (by omega) (by omega) (flats_take _ kf) (flats_drop _ kf) fa fb fg
        rw [← KTd_node, tm] at e
        exact e
theorem rt_allPrem {js : List KT} {g : KT} (hq : Seq js g) : ∀ (xs : List KT) (m : Nat), js.drop m = xs → ∀ s ∈ allPrem (kds js) g.d m xs, Rt js g s
  | [], _, _, s, h => nomatch h
  | x :: xs, m, e, s, h => by
    rcases List.mem_append.mp (show s ∈ premStps (kds js) g.d m x ++ allPrem (kds js) g.d (m + 1) xs from h) with z | z
    · exact rt_prem hq (by
        have := congrArg (fun l => l[0]?) e
        simpa using this) s z
    · exact rt_allPrem hq xs (m + 1) (by rw [← List.drop_drop, e]; rfl) s z
theorem rt_all {js : List KT} {g : KT} (hq : Seq js g) : ∀ s ∈ allStps js g, Rt js g s := fun s hs => by
  rcases List.mem_append.mp hs with hs | hs
  · rcases List.mem_append.mp hs with hs | hs
    · exact rt_ax s hs
    · exact rt_goal hq s hs
  · exact rt_allPrem hq js 0 rfl s hs
theorem allStps_len {js : List KT} {g : KT} (hq : Seq js g) : (allStps js g).length ≤ 100000 := by
  have kl := kds_len js
  have hl := hq.l40
  have y1 := allPrem_len (kds js) g.d js 0 (by omega)
  have y3 := Nat.mul_le_mul (show (kds js).length ≤ 40 by omega) hl
  have z1 := ax_len (kds js) g
  have z2 := goal_len (kds js) g
  show (axStps (kds js) g ++ goalStps (kds js) g ++ allPrem (kds js) g.d 0 js).length ≤ _
  rw [List.length_append, List.length_append]
  omega
theorem all_told_t (n : Nat) (js : List KT) (g : KT) (S : Store) (hS : SOK S) (hq : Seq js g) : Dl.Sp (tab (n + 46) ._law_all_told [.tup [.tup (kds js), g.d]] S) fun r => r = .ok (.bl true) S := by
  have hz := allStps_len hq
  have l1 := sds_len (allStps js g)
  have l2 := hds_len (allStps js g)
  refine Dl.sp_plain (g := b__law_all_told (tab (n + 45))) rfl fun Q hQ => ?_
  unfold b__law_all_told
  have ea := last_steps_t (n + 42) js g (Dl.sx S []) (SOK.sx hS .nil) hq
  have eb := law_heads_t (n + 44) js g (Dl.sx S []) (SOK.sx hS .nil) hq
  simp_arith [ea, eb, l1, l2]
  refine Dl.forQ (fun j ρ T => ∃ v, ρ = [some (.tup [.tup (kds js), g.d]), some (.tup (sds (allStps js g))), some (.ref S.length), v] ∧ T = Dl.sx S [.lst (hds (allStps js g))]) ⟨_, rfl, rfl⟩ ?_ ?_
  · rintro j d _ _ hj ⟨v, rfl, rfl⟩
    obtain ⟨hj', rfl⟩ := Dl.rng_get hj
    have hk : (allStps js g)[j]? = some ((allStps js g)[j]'hj') := List.getElem?_eq_getElem hj'
    have i1 : atI (sds (allStps js g)) (j : Int) = some ((allStps js g)[j]'hj').d := atI_nat (by unfold sds; rw [List.getElem?_map, hk]; rfl)
    have i2 : atI (hds (allStps js g)) (j : Int) = some ((allStps js g)[j]'hj').h := atI_nat (by unfold hds; rw [List.getElem?_map, hk]; rfl)
    have e := step_right_t n js g _ _ (SOK.sx hS (.one (c := Dl.Cell.lst _) (hds_flat (allStps js g)))) hq (rt_all hq _ (List.getElem_mem hj'))
    refine ⟨chk_nil, _, _, rfl, ?_⟩
    rw [show ((0 : Int) + (j : Nat)) = (j : Int) by omega]
    simp_arith [i1, i2, e]
    exact ⟨_, rfl, trivial⟩
  · rintro _ _ ⟨v, rfl, rfl⟩
    refine ⟨chk_nil, ?_⟩
    simp_arith []
    exact Dl.Qx (hS.wf rfl) rfl (hQ _ rfl)

end Lw

set_option Elab.async false
set_option linter.all false
set_option maxRecDepth 100000
namespace Lw
open PySem L2 Dl
local macro_rules | `(tactic| simp_arith [$ls,*]) => `(tactic| simp (disch := first | omega | assumption | (simp only [List.length_cons, List.length_nil, List.length_append, List.length_take, List.length_drop]; omega) | (simp only [List.length_cons, List.length_nil])) only [sQ_, sP_, sE_, sR_, sIf_, sN_, sA_, tgO_nx, nm_, tgIx_, eC_, eV0, eV1, e1_, e2_, eB_, eF_, aN_, aC_, eMt_, eSl_, oN_, oI_, tV_, tE_, tA_, tO_, tN_, eIf_, eAnd_, eOr_, eNot_, eCh_, seq_nx, seq_rt, seq_bk, seq_ct, seq_ex, toR_some, toR_none, toT_some, truD_bl, truD_int, truD_tup, truD_non, truD_str, truD_ref, truC_lst, tyD_str, tyD_tup, tyD_int, tyD_bl, tyD_non, tyD_ref, tyC_lst, tyC_rol, tyC_dic, kE_, kR_, kIf_t, kIf_f, kN_, kA_, kIx1_, kIx2_, kIx3_, kE1_, kE21_, kE2_, kB_, kF_, kC1_, kC_, kM1_, kM2_, kM_, kS1_, kS2_, kS3_, kO_, kV_, kT_, kAn_t, kAn_f, kOr_t, kOr_f, kNo_, kIfE_t, kIfE_f, kVa_, kVa2_t, kVa2_f, kVo_, kVo2_t, kVo2_f, kVn_, kVn2_, kH_, kH1_, kH2_t, kH2_f, kH3_, List.getElem?_cons_zero, List.getElem?_cons_succ, List.set_cons_zero, List.set_cons_succ, gAdd_int, gAdd_str, gAdd_t, gAdd_r, catC_s, gSub_int, gMul_l, gMul_r, gFdiv_int, gMod_int, gLt_int, gLe_int, gGt_int, gGe_int, gInt_int, gAbs_int, gLen_tup, gLen_str, gLen_r, lenC_s, gTpl_, gLsd_, gIx_r, ixC_s, ixO_s, gIx_t, gIx_s, ixS_s, atI_0, atI_1, atI_2, atI_3, atI_4, atI_5, gAppend_r, appC_s, gExtend_r, extC_s, gPop_r, popC_s, gSet_r, setC_0, setC_2, gTuple_r, tupC_s, gTuple_t, gList_r, gList_t, newC_s, gSl_r, slC_s, gSl_t, gSl_s, cut_take, cut_drop, cut_init, cut_mid, Int.toNat_natCast, lstC_lst, lstC_rol, lstAt_C, isi_str, isi_int, isi_bool, isi_tup, isi_lst, isO_s, isB_1, isB_2, isB_3, isB_4, isB_5, isB_6, isB_7, isB_8, isB_9, isB_10, isB_11, isB_12, isB_13, isB_14, isB_15, isB_16, isB_17, isB_18, isB_19, isB_20, isB_21, isB_22, isB_23, isB_24, isB_25, isB_26, gSum_r, sumC_s, sumO_s, gMin_, gMax_, qEq_int, qNe_int, qEq_str, qNe_str, gNeg_z, tgT_, tgU_, tgL0, tgL1, eTab_, kTab_, sX_, gDget_r, dgC_s, List.getElem?_concat_length, set_end, sF_, kFor_, iR1_, kR1_, iR2_, kR2_, kR3_, iA_, kAny_r, kAny_t, kAny_s, iaC_s, eLc_, kLc_, wipeD_c, wipeD_n, tYes_, put_one, sAug_, gAug_i, sBk_, sCt_, sW_, st_len, st_p, st_k, st_0, st_q, st_set_p, st_set_k, st_set_0, st_push, sx_len, sx_k, sx_0, sx_q, sx_set_k, sx_set_0, sx_push, So_rt, So_nx, So_ex, Tn_nx, Tn_ct, Tn_bk, Tn_rt, Tn_ex, Bool.false_eq_true, if_true, if_false, reduceIte, Option.map_some, Option.bind_some, Bool.not_true, Bool.not_false, decide_true, decide_false, eq_self, List.length_append, List.length_singleton, List.length_cons, List.length_nil, List.map_cons, List.map_nil, Nat.sub_self, List.replicate_zero, List.append_nil, List.cons_append, List.nil_append, List.append_assoc, List.replicate_succ, Nat.reduceSub, Nat.reduceAdd, Nat.add_zero, Nat.zero_add, Nat.add_assoc, Nat.reduceLeDiff, Int.cast_ofNat_Int, Int.reduceEq, Int.reduceLT, Int.reduceLE, Int.reduceAdd, Int.reduceSub, Int.reduceNeg, Int.reduceToNat, List.take_succ_cons, List.take_zero, List.drop_succ_cons, List.drop_zero, List.dropLast_concat, Dl.atI_last, $ls,*])
local macro_rules | `(tactic| walk_at "ev") => `(tactic| simp (disch := first | omega | assumption | (simp only [List.length_cons, List.length_nil, List.length_append, List.length_take, List.length_drop]; omega) | (simp only [List.length_cons, List.length_nil])) only [sQ_, sP_, sE_, sR_, sIf_, sN_, sA_, tgO_nx, nm_, tgIx_, eC_, eV0, eV1, e1_, e2_, eB_, eF_, aN_, aC_, eMt_, eSl_, oN_, oI_, tV_, tE_, tA_, tO_, tN_, eIf_, eAnd_, eOr_, eNot_, eCh_, seq_nx, seq_rt, seq_bk, seq_ct, seq_ex, toR_some, toR_none, toT_some, truD_bl, truD_int, truD_tup, truD_non, truD_str, truD_ref, truC_lst, tyD_str, tyD_tup, tyD_int, tyD_bl, tyD_non, tyD_ref, tyC_lst, tyC_rol, tyC_dic, kE_, kR_, kIf_t, kIf_f, kN_, kA_, kIx1_, kIx2_, kIx3_, kE1_, kE21_, kE2_, kB_, kF_, kC1_, kC_, kM1_, kM2_, kM_, kS1_, kS2_, kS3_, kO_, kV_, kT_, kAn_t, kAn_f, kOr_t, kOr_f, kNo_, kIfE_t, kIfE_f, kVa_, kVa2_t, kVa2_f, kVo_, kVo2_t, kVo2_f, kVn_, kVn2_, kH_, kH1_, kH2_t, kH2_f, kH3_, List.getElem?_cons_zero, List.getElem?_cons_succ, List.set_cons_zero, List.set_cons_succ, gAdd_int, gAdd_str, gAdd_t, gAdd_r, catC_s, gSub_int, gMul_l, gMul_r, gFdiv_int, gMod_int, gLt_int, gLe_int, gGt_int, gGe_int, gInt_int, gAbs_int, gLen_tup, gLen_str, gLen_r, lenC_s, gTpl_, gLsd_, gIx_r, ixC_s, ixO_s, gIx_t, gIx_s, ixS_s, atI_0, atI_1, atI_2, atI_3, atI_4, atI_5, gAppend_r, appC_s, gExtend_r, extC_s, gPop_r, popC_s, gSet_r, setC_0, setC_2, gTuple_r, tupC_s, gTuple_t, gList_r, gList_t, newC_s, gSl_r, slC_s, gSl_t, gSl_s, cut_take, cut_drop, cut_init, cut_mid, Int.toNat_natCast, lstC_lst, lstC_rol, lstAt_C, isi_str, isi_int, isi_bool, isi_tup, isi_lst, isO_s, isB_1, isB_2, isB_3, isB_4, isB_5, isB_6, isB_7, isB_8, isB_9, isB_10, isB_11, isB_12, isB_13, isB_14, isB_15, isB_16, isB_17, isB_18, isB_19, isB_20, isB_21, isB_22, isB_23, isB_24, isB_25, isB_26, gSum_r, sumC_s, sumO_s, gMin_, gMax_, qEq_int, qNe_int, qEq_str, qNe_str, gNeg_z, tgT_, tgU_, tgL0, tgL1, eTab_, kTab_, sX_, gDget_r, dgC_s, List.getElem?_concat_length, set_end, sF_, kFor_, iR1_, kR1_, iR2_, kR2_, kR3_, iA_, kAny_r, kAny_t, kAny_s, iaC_s, eLc_, kLc_, wipeD_c, wipeD_n, tYes_, put_one, sAug_, gAug_i, sBk_, sCt_, sW_, st_len, st_p, st_k, st_0, st_q, st_set_p, st_set_k, st_set_0, st_push, sx_len, sx_k, sx_0, sx_q, sx_set_k, sx_set_0, sx_push, So_rt, So_nx, So_ex, Tn_nx, Tn_ct, Tn_bk, Tn_rt, Tn_ex, Bool.false_eq_true, if_true, if_false, reduceIte, Option.map_some, Option.bind_some, Bool.not_true, Bool.not_false, decide_true, decide_false, eq_self, List.length_append, List.length_singleton, List.length_cons, List.length_nil, List.map_cons, List.map_nil, Nat.sub_self, List.replicate_zero, List.append_nil, List.cons_append, List.nil_append, List.append_assoc, List.replicate_succ, Nat.reduceSub, Nat.reduceAdd, Nat.add_zero, Nat.zero_add, Nat.add_assoc, Nat.reduceLeDiff, Int.cast_ofNat_Int, Int.reduceEq, Int.reduceLT, Int.reduceLE, Int.reduceAdd, Int.reduceSub, Int.reduceNeg, Int.reduceToNat, List.take_succ_cons, List.take_zero, List.drop_succ_cons, List.drop_zero, List.dropLast_concat, Dl.atI_last])
/-! ## the law -/
theorem law_at (n : Nat) (ns : List Int) : ∃ S, tab (n + 48) .law [.ref 0] [.rol (ns.map D.int)] = .ok (.bl true) S := by
  have hI : flats (ns.map D.int) = true := ints_flat ns
  have h0 : ([.rol (ns.map D.int)] : Store)[0]? = some (.rol (ns.map D.int)) := rfl
  have S0 : SOK ([.rol (ns.map D.int)] : Store) := fun c hc => by rw [List.mem_singleton.mp hc]; exact wfs_flat hI
  obtain ⟨P, hp, e1⟩ := pool_spec (n + 45) h0 S0 0 (by decide)
  have S1 : SOK ([.rol (ns.map D.int)] ++ [Cell.lst P] : Store) := S0.pushF (c := Cell.lst P) hp.flat
  obtain ⟨js, g, P', hp', hq, e2⟩ := sequent_spec (n + 2) (T := [.rol (ns.map D.int)] ++ [Cell.lst P]) (p := 1) rfl hp (by omega) S1
  have S2 : SOK ([.rol (ns.map D.int), Cell.lst P'] : Store) := S0.pushF (c := Cell.lst P') hp'.flat
  obtain ⟨R, hr, e3⟩ := pool_spec (n + 45) (T := [.rol (ns.map D.int), Cell.lst P']) rfl S2 1 (by decide)
  have S3 : SOK ([.rol (ns.map D.int), Cell.lst P', Cell.lst R] : Store) := S2.pushF (c := Cell.lst R) hr.flat
  obtain ⟨js', g', R', hr', hq', e4⟩ := sequent_spec (n + 2) (T := [.rol (ns.map D.int), Cell.lst P', Cell.lst R]) (p := 2) rfl hr (by omega) S3
  have S4 : SOK ([.rol (ns.map D.int), Cell.lst P', Cell.lst R'] : Store) := S2.pushF (c := Cell.lst R') hr'.flat
  have e5 := all_told_t (n + 1) js g _ S4 hq
  have e6 := all_told_t (n + 1) js' g' _ S4 hq'
  have go : Dl.Sp (tab (n + 48) .law [.ref 0] [.rol (ns.map D.int)]) fun r => ∃ S, r = .ok (.bl true) S := by
    refine Dl.sp_run (g := b_law (tab (n + 47))) rfl fun Q hQ => ?_
    unfold b_law
    have e1' : tab (n + 47) ._law_pool [.ref 0, .int 0] [.rol (ns.map D.int)] = .ok (.ref 1) [.rol (ns.map D.int), Cell.lst P] := e1
    have e2' : tab (n + 47) ._law_sequent [.ref 1] [.rol (ns.map D.int), Cell.lst P] = .ok (.tup [.tup (kds js), g.d]) [.rol (ns.map D.int), Cell.lst P'] := e2
    have e3' : tab (n + 47) ._law_pool [.ref 0, .int 1] [.rol (ns.map D.int), Cell.lst P'] = .ok (.ref 2) [.rol (ns.map D.int), Cell.lst P', Cell.lst R] := e3
    have e4' : tab (n + 47) ._law_sequent [.ref 2] [.rol (ns.map D.int), Cell.lst P', Cell.lst R] = .ok (.tup [.tup (kds js'), g'.d]) [.rol (ns.map D.int), Cell.lst P', Cell.lst R'] := e4
    simp_arith [e1', e2', e3', e4', e5, e6]
    have wf : SWf 1 ([.rol (ns.map D.int)] : Store) = true := S0.wf rfl
    have end_ : ∀ b : Bool, cmp 1 (.bl b) [.rol (ns.map D.int), Cell.lst P', Cell.lst R'] = .ok (.bl b) [.rol (ns.map D.int)] := fun b => by
      unfold cmp
      show (if SWf 1 ([.rol (ns.map D.int)] : Store) = true then _ else _) = _
      rw [if_pos wf]
      rfl
    by_cases h14 : (14 : Int) < (kds js).length
    · simp_arith [h14]
      rw [end_]
      exact hQ _ ⟨_, rfl⟩
    · simp_arith [h14, e5]
      rw [end_]
      exact hQ _ ⟨_, rfl⟩
  exact go
theorem good : ∀ ns : List Int, ns.length ≤ 63 → ∃ S, tab 150 .law [.ref 0] [.rol (ns.map D.int)] = .ok (.bl true) S := fun ns _ => law_at 102 ns

end Lw

set_option Elab.async false
set_option linter.all false
set_option maxRecDepth 100000
namespace Lw
open PySem L2 Dl
/-! ## the text by places -/
def topS (i : Nat) : Stmt := PySem.Challenge.pw_wordfractions_k10_last_steps_all.main.body.getD i (.Pass ⟨0, 0, 0, 0⟩)
abbrev st_goal_steps : Stmt := topS 1
abbrev nl_goal_steps : List Str := ["premises", "goal", "steps", "at", "sign", "first", "second"]
abbrev st_over_left_steps : Stmt := topS 2
abbrev nl_over_left_steps : List Str := ["premises", "goal", "at", "steps", "width", "sign", "result", "argument", "end", "rest"]
abbrev st_under_left_steps : Stmt := topS 3
abbrev nl_under_left_steps : List Str := ["premises", "goal", "at", "steps", "width", "sign", "argument", "result", "start", "rest"]
abbrev st_premise_steps : Stmt := topS 4
abbrev nl_premise_steps : List Str := ["premises", "goal", "at", "kind", "rest", "sign", "first", "second"]
abbrev st_last_steps : Stmt := topS 5
abbrev nl_last_steps : List Str := ["sequent", "steps", "at", "premises", "goal"]
abbrev st__law_cell : Stmt := topS 7
abbrev nl__law_cell : List Str := ["script", "k"]
abbrev st__law_mix : Stmt := topS 8
abbrev nl__law_mix : List Str := ["x"]
abbrev st__law_pool : Stmt := topS 9
abbrev nl__law_pool : List Str := ["script", "k", "cell"]
abbrev st__law_draw : Stmt := topS 10
abbrev nl__law_draw : List Str := ["pool", "many", "digit"]
abbrev st__law_base : Stmt := topS 11
abbrev nl__law_base : List Str := ["pool", "small", "base", "k"]
abbrev st__law_numbered : Stmt := topS 12
abbrev nl__law_numbered : List Str := ["pool", "base", "way"]
abbrev st__law_lot : Stmt := topS 13
abbrev nl__law_lot : List Str := ["pool", "base", "lot"]
abbrev st__law_kind : Stmt := topS 14
abbrev nl__law_kind : List Str := ["pool", "lot", "size", "left", "sign", "first", "pick"]
abbrev st__law_spread : Stmt := topS 15
abbrev nl__law_spread : List Str := ["pool", "many", "most", "total", "sizes", "k"]
abbrev st__law_sizes : Stmt := topS 16
abbrev nl__law_sizes : List Str := ["pool", "way"]
abbrev st__law_sequent : Stmt := topS 17
abbrev nl__law_sequent : List Str := ["pool", "lot", "sizes", "row", "way", "base", "size"]
abbrev st__law_heads : Stmt := topS 18
abbrev nl__law_heads : List Str := ["line", "many", "heads", "at", "row", "goal", "sign", "width"]
abbrev st__law_lengths : Stmt := topS 19
abbrev nl__law_lengths : List Str := ["head", "many", "rule", "at", "width"]
abbrev st__law_leads : Stmt := topS 20
abbrev nl__law_leads : List Str := ["head", "parts", "start", "rule", "at", "width", "row", "goal", "other", "end"]
abbrev st__law_same : Stmt := topS 21
abbrev nl__law_same : List Str := ["told", "due", "k"]
abbrev st__law_step_right : Stmt := topS 22
abbrev nl__law_step_right : List Str := ["line", "head", "told", "parts", "part"]
abbrev st__law_all_told : Stmt := topS 23
abbrev nl__law_all_told : List Str := ["line", "told", "heads", "k"]
abbrev st_law : Stmt := topS 24
abbrev nl_law : List Str := ["script", "first", "second"]
theorem sc_goal_steps : FnScope nl_goal_steps ["premises", "goal"] (defScope st_goal_steps) := ⟨rfl, rfl, rfl, by decide +kernel, rfl, by decide +kernel, by decide +kernel⟩
theorem sc_over_left_steps : FnScope nl_over_left_steps ["premises", "goal", "at"] (defScope st_over_left_steps) := ⟨rfl, rfl, rfl, by decide +kernel, rfl, by decide +kernel, by decide +kernel⟩
theorem sc_under_left_steps : FnScope nl_under_left_steps ["premises", "goal", "at"] (defScope st_under_left_steps) := ⟨rfl, rfl, rfl, by decide +kernel, rfl, by decide +kernel, by decide +kernel⟩
theorem sc_premise_steps : FnScope nl_premise_steps ["premises", "goal", "at"] (defScope st_premise_steps) := ⟨rfl, rfl, rfl, by decide +kernel, rfl, by decide +kernel, by decide +kernel⟩
theorem sc_last_steps : FnScope nl_last_steps ["sequent"] (defScope st_last_steps) := ⟨rfl, rfl, rfl, by decide +kernel, rfl, by decide +kernel, by decide +kernel⟩
theorem sc__law_cell : FnScope nl__law_cell ["script", "k"] (defScope st__law_cell) := ⟨rfl, rfl, rfl, by decide +kernel, rfl, by decide +kernel, by decide +kernel⟩
theorem sc__law_mix : FnScope nl__law_mix ["x"] (defScope st__law_mix) := ⟨rfl, rfl, rfl, by decide +kernel, rfl, by decide +kernel, by decide +kernel⟩
theorem sc__law_pool : FnScope nl__law_pool ["script", "k"] (defScope st__law_pool) := ⟨rfl, rfl, rfl, by decide +kernel, rfl, by decide +kernel, by decide +kernel⟩
theorem sc__law_draw : FnScope nl__law_draw ["pool", "many"] (defScope st__law_draw) := ⟨rfl, rfl, rfl, by decide +kernel, rfl, by decide +kernel, by decide +kernel⟩
theorem sc__law_base : FnScope nl__law_base ["pool"] (defScope st__law_base) := ⟨rfl, rfl, rfl, by decide +kernel, rfl, by decide +kernel, by decide +kernel⟩
theorem sc__law_numbered : FnScope nl__law_numbered ["pool", "base"] (defScope st__law_numbered) := ⟨rfl, rfl, rfl, by decide +kernel, rfl, by decide +kernel, by decide +kernel⟩
theorem sc__law_lot : FnScope nl__law_lot ["pool"] (defScope st__law_lot) := ⟨rfl, rfl, rfl, by decide +kernel, rfl, by decide +kernel, by decide +kernel⟩
theorem sc__law_kind : FnScope nl__law_kind ["pool", "lot", "size"] (defScope st__law_kind) := ⟨rfl, rfl, rfl, by decide +kernel, rfl, by decide +kernel, by decide +kernel⟩
theorem sc__law_spread : FnScope nl__law_spread ["pool", "many", "most", "total"] (defScope st__law_spread) := ⟨rfl, rfl, rfl, by decide +kernel, rfl, by decide +kernel, by decide +kernel⟩
theorem sc__law_sizes : FnScope nl__law_sizes ["pool"] (defScope st__law_sizes) := ⟨rfl, rfl, rfl, by decide +kernel, rfl, by decide +kernel, by decide +kernel⟩
theorem sc__law_sequent : FnScope nl__law_sequent ["pool"] (defScope st__law_sequent) := ⟨rfl, rfl, rfl, by decide +kernel, rfl, by decide +kernel, by decide +kernel⟩
theorem sc__law_heads : FnScope nl__law_heads ["line"] (defScope st__law_heads) := ⟨rfl, rfl, rfl, by decide +kernel, rfl, by decide +kernel, by decide +kernel⟩
theorem sc__law_lengths : FnScope nl__law_lengths ["head", "many"] (defScope st__law_lengths) := ⟨rfl, rfl, rfl, by decide +kernel, rfl, by decide +kernel, by decide +kernel⟩
theorem sc__law_leads : FnScope nl__law_leads ["head", "parts"] (defScope st__law_leads) := ⟨rfl, rfl, rfl, by decide +kernel, rfl, by decide +kernel, by decide +kernel⟩
theorem sc__law_same : FnScope nl__law_same ["told", "due"] (defScope st__law_same) := ⟨rfl, rfl, rfl, by decide +kernel, rfl, by decide +kernel, by decide +kernel⟩
theorem sc__law_step_right : FnScope nl__law_step_right ["line", "head", "told"] (defScope st__law_step_right) := ⟨rfl, rfl, rfl, by decide +kernel, rfl, by decide +kernel, by decide +kernel⟩
theorem sc__law_all_told : FnScope nl__law_all_told ["line"] (defScope st__law_all_told) := ⟨rfl, rfl, rfl, by decide +kernel, rfl, by decide +kernel, by decide +kernel⟩
theorem sc_law : FnScope nl_law ["script"] (defScope st_law) := ⟨rfl, rfl, rfl, by decide +kernel, rfl, by decide +kernel, by decide +kernel⟩
theorem boot_isinstance_ : bootBuiltins "isinstance" = some (.builtin "isinstance") := by decide +kernel
theorem boot_str_ : bootBuiltins "str" = some (.type "str") := by decide +kernel
theorem boot_len_ : bootBuiltins "len" = some (.builtin "len") := by decide +kernel
theorem boot_tuple_ : bootBuiltins "tuple" = some (.type "tuple") := by decide +kernel
theorem boot_int_ : bootBuiltins "int" = some (.type "int") := by decide +kernel
theorem boot_abs_ : bootBuiltins "abs" = some (.builtin "abs") := by decide +kernel
theorem boot_min_ : bootBuiltins "min" = some (.builtin "min") := by decide +kernel
theorem boot_sum_ : bootBuiltins "sum" = some (.builtin "sum") := by decide +kernel
theorem boot_bool_ : bootBuiltins "bool" = some (.type "bool") := by decide +kernel
/-- a module's constant -/
structure Kon (K : PySem.W.Frag) (mg : Str → Option Value) (x : Str) (d : D) (v : V) (u : Value) : Prop where
  m : mg x = some u
  r : RelV v u
  d : ∀ m H, RD K m H v d
structure Txt (w : World) (K : PySem.W.Frag) (mg : Str → Option Value) (f : FN → Addr) (fd : FN → FuncData) (cv : Nat → V) (cu : Nat → Value) (cl : Nat → Addr) (tb : Nat → Addr) : Prop where
  F_goal_steps : Fun K "goal_steps" "goal_steps" st_goal_steps (f .goal_steps) (fd .goal_steps)
  b_goal_steps : Binds K (fd .goal_steps) ["premises", "goal"] []
  m_goal_steps : mg "goal_steps" = some (.ref (f .goal_steps))
  F_over_left_steps : Fun K "over_left_steps" "over_left_steps" st_over_left_steps (f .over_left_steps) (fd .over_left_steps)
  b_over_left_steps : Binds K (fd .over_left_steps) ["premises", "goal", "at"] []
  m_over_left_steps : mg "over_left_steps" = some (.ref (f .over_left_steps))
  F_under_left_steps : Fun K "under_left_steps" "under_left_steps" st_under_left_steps (f .under_left_steps) (fd .under_left_steps)
  b_under_left_steps : Binds K (fd .under_left_steps) ["premises", "goal", "at"] []
  m_under_left_steps : mg "under_left_steps" = some (.ref (f .under_left_steps))
  F_premise_steps : Fun K "premise_steps" "premise_steps" st_premise_steps (f .premise_steps) (fd .premise_steps)
  b_premise_steps : Binds K (fd .premise_steps) ["premises", "goal", "at"] []
  m_premise_steps : mg "premise_steps" = some (.ref (f .premise_steps))
  F_last_steps : Fun K "last_steps" "last_steps" st_last_steps (f .last_steps) (fd .last_steps)
  b_last_steps : Binds K (fd .last_steps) ["sequent"] []
  m_last_steps : mg "last_steps" = some (.ref (f .last_steps))
  F__law_cell : Fun K "_law_cell" "_law_cell" st__law_cell (f ._law_cell) (fd ._law_cell)
  b__law_cell : Binds K (fd ._law_cell) ["script", "k"] []
  m__law_cell : mg "_law_cell" = some (.ref (f ._law_cell))
  F__law_mix : Fun K "_law_mix" "_law_mix" st__law_mix (f ._law_mix) (fd ._law_mix)
  b__law_mix : Binds K (fd ._law_mix) ["x"] []
  m__law_mix : mg "_law_mix" = some (.ref (f ._law_mix))
  F__law_pool : Fun K "_law_pool" "_law_pool" st__law_pool (f ._law_pool) (fd ._law_pool)
  b__law_pool : Binds K (fd ._law_pool) ["script", "k"] []
  m__law_pool : mg "_law_pool" = some (.ref (f ._law_pool))
  F__law_draw : Fun K "_law_draw" "_law_draw" st__law_draw (f ._law_draw) (fd ._law_draw)
  b__law_draw : Binds K (fd ._law_draw) ["pool", "many"] []
  m__law_draw : mg "_law_draw" = some (.ref (f ._law_draw))
  F__law_base : Fun K "_law_base" "_law_base" st__law_base (f ._law_base) (fd ._law_base)
  b__law_base : Binds K (fd ._law_base) ["pool"] []
  m__law_base : mg "_law_base" = some (.ref (f ._law_base))
  F__law_numbered : Fun K "_law_numbered" "_law_numbered" st__law_numbered (f ._law_numbered) (fd ._law_numbered)
  b__law_numbered : Binds K (fd ._law_numbered) ["pool", "base"] []
  m__law_numbered : mg "_law_numbered" = some (.ref (f ._law_numbered))
  F__law_lot : Fun K "_law_lot" "_law_lot" st__law_lot (f ._law_lot) (fd ._law_lot)
  b__law_lot : Binds K (fd ._law_lot) ["pool"] []
  m__law_lot : mg "_law_lot" = some (.ref (f ._law_lot))
  F__law_kind : Fun K "_law_kind" "_law_kind" st__law_kind (f ._law_kind) (fd ._law_kind)
  b__law_kind : Binds K (fd ._law_kind) ["pool", "lot", "size"] []
  m__law_kind : mg "_law_kind" = some (.ref (f ._law_kind))
  F__law_spread : Fun K "_law_spread" "_law_spread" st__law_spread (f ._law_spread) (fd ._law_spread)
  b__law_spread : Binds K (fd ._law_spread) ["pool", "many", "most", "total"] []
  m__law_spread : mg "_law_spread" = some (.ref (f ._law_spread))
  F__law_sizes : Fun K "_law_sizes" "_law_sizes" st__law_sizes (f ._law_sizes) (fd ._law_sizes)
  b__law_sizes : Binds K (fd ._law_sizes) ["pool"] []
  m__law_sizes : mg "_law_sizes" = some (.ref (f ._law_sizes))
  F__law_sequent : Fun K "_law_sequent" "_law_sequent" st__law_sequent (f ._law_sequent) (fd ._law_sequent)
  b__law_sequent : Binds K (fd ._law_sequent) ["pool"] []
  m__law_sequent : mg "_law_sequent" = some (.ref (f ._law_sequent))
  F__law_heads : Fun K "_law_heads" "_law_heads" st__law_heads (f ._law_heads) (fd ._law_heads)
  b__law_heads : Binds K (fd ._law_heads) ["line"] []
  m__law_heads : mg "_law_heads" = some (.ref (f ._law_heads))
  F__law_lengths : Fun K "_law_lengths" "_law_lengths" st__law_lengths (f ._law_lengths) (fd ._law_lengths)
  b__law_lengths : Binds K (fd ._law_lengths) ["head", "many"] []
  m__law_lengths : mg "_law_lengths" = some (.ref (f ._law_lengths))
  F__law_leads : Fun K "_law_leads" "_law_leads" st__law_leads (f ._law_leads) (fd ._law_leads)
  b__law_leads : Binds K (fd ._law_leads) ["head", "parts"] []
  m__law_leads : mg "_law_leads" = some (.ref (f ._law_leads))
  F__law_same : Fun K "_law_same" "_law_same" st__law_same (f ._law_same) (fd ._law_same)
  b__law_same : Binds K (fd ._law_same) ["told", "due"] []
  m__law_same : mg "_law_same" = some (.ref (f ._law_same))
  F__law_step_right : Fun K "_law_step_right" "_law_step_right" st__law_step_right (f ._law_step_right) (fd ._law_step_right)
  b__law_step_right : Binds K (fd ._law_step_right) ["line", "head", "told"] []
  m__law_step_right : mg "_law_step_right" = some (.ref (f ._law_step_right))
  F__law_all_told : Fun K "_law_all_told" "_law_all_told" st__law_all_told (f ._law_all_told) (fd ._law_all_told)
  b__law_all_told : Binds K (fd ._law_all_told) ["line"] []
  m__law_all_told : mg "_law_all_told" = some (.ref (f ._law_all_told))
  F_law : Fun K "law" "law" st_law (f .law) (fd .law)
  b_law : Binds K (fd .law) ["script"] []
  m_law : mg "law" = some (.ref (f .law))
  n_isinstance : mg "isinstance" = none
  n_str : mg "str" = none
  n_range : mg "range" = none
  n_len : mg "len" = none
  n_tuple : mg "tuple" = none
  n_int : mg "int" = none
  n_abs : mg "abs" = none
  n_min : mg "min" = none
  n_sum : mg "sum" = none
  n_bool : mg "bool" = none
structure Oks (P : Program) (w : World) (K : PySem.W.Frag) (mg : Str → Option Value) (base : Heap) (f : FN → Addr) (fd : FN → FuncData) (n : Nat) : Prop where
  o_goal_steps : FnOk P w K mg base (L2.CX P w) n (f .goal_steps) (fd .goal_steps) ["premises", "goal"] (rdF ⟨K, mg, W0⟩ (tab n .goal_steps))
  o_over_left_steps : FnOk P w K mg base (L2.CX P w) n (f .over_left_steps) (fd .over_left_steps) ["premises", "goal", "at"] (rdF ⟨K, mg, W0⟩ (tab n .over_left_steps))
  o_under_left_steps : FnOk P w K mg base (L2.CX P w) n (f .under_left_steps) (fd .under_left_steps) ["premises", "goal", "at"] (rdF ⟨K, mg, W0⟩ (tab n .under_left_steps))
  o_premise_steps : FnOk P w K mg base (L2.CX P w) n (f .premise_steps) (fd .premise_steps) ["premises", "goal", "at"] (rdF ⟨K, mg, W0⟩ (tab n .premise_steps))
  o_last_steps : FnOk P w K mg base (L2.CX P w) n (f .last_steps) (fd .last_steps) ["sequent"] (rdF ⟨K, mg, W0⟩ (tab n .last_steps))
  o__law_cell : FnOk P w K mg base (L2.CX P w) n (f ._law_cell) (fd ._law_cell) ["script", "k"] (rdF ⟨K, mg, W0⟩ (tab n ._law_cell))
  o__law_mix : FnOk P w K mg base (L2.CX P w) n (f ._law_mix) (fd ._law_mix) ["x"] (rdF ⟨K, mg, W0⟩ (tab n ._law_mix))
  o__law_pool : FnOk P w K mg base (L2.CX P w) n (f ._law_pool) (fd ._law_pool) ["script", "k"] (rdF ⟨K, mg, W0⟩ (tab n ._law_pool))
  o__law_draw : FnOk P w K mg base (L2.CX P w) n (f ._law_draw) (fd ._law_draw) ["pool", "many"] (rdF ⟨K, mg, W0⟩ (tab n ._law_draw))
  o__law_base : FnOk P w K mg base (L2.CX P w) n (f ._law_base) (fd ._law_base) ["pool"] (rdF ⟨K, mg, W0⟩ (tab n ._law_base))
  o__law_numbered : FnOk P w K mg base (L2.CX P w) n (f ._law_numbered) (fd ._law_numbered) ["pool", "base"] (rdF ⟨K, mg, W0⟩ (tab n ._law_numbered))
  o__law_lot : FnOk P w K mg base (L2.CX P w) n (f ._law_lot) (fd ._law_lot) ["pool"] (rdF ⟨K, mg, W0⟩ (tab n ._law_lot))
  o__law_kind : FnOk P w K mg base (L2.CX P w) n (f ._law_kind) (fd ._law_kind) ["pool", "lot", "size"] (rdF ⟨K, mg, W0⟩ (tab n ._law_kind))
  o__law_spread : FnOk P w K mg base (L2.CX P w) n (f ._law_spread) (fd ._law_spread) ["pool", "many", "most", "total"] (rdF ⟨K, mg, W0⟩ (tab n ._law_spread))
  o__law_sizes : FnOk P w K mg base (L2.CX P w) n (f ._law_sizes) (fd ._law_sizes) ["pool"] (rdF ⟨K, mg, W0⟩ (tab n ._law_sizes))
  o__law_sequent : FnOk P w K mg base (L2.CX P w) n (f ._law_sequent) (fd ._law_sequent) ["pool"] (rdF ⟨K, mg, W0⟩ (tab n ._law_sequent))
  o__law_heads : FnOk P w K mg base (L2.CX P w) n (f ._law_heads) (fd ._law_heads) ["line"] (rdF ⟨K, mg, W0⟩ (tab n ._law_heads))
  o__law_lengths : FnOk P w K mg base (L2.CX P w) n (f ._law_lengths) (fd ._law_lengths) ["head", "many"] (rdF ⟨K, mg, W0⟩ (tab n ._law_lengths))
  o__law_leads : FnOk P w K mg base (L2.CX P w) n (f ._law_leads) (fd ._law_leads) ["head", "parts"] (rdF ⟨K, mg, W0⟩ (tab n ._law_leads))
  o__law_same : FnOk P w K mg base (L2.CX P w) n (f ._law_same) (fd ._law_same) ["told", "due"] (rdF ⟨K, mg, W0⟩ (tab n ._law_same))
  o__law_step_right : FnOk P w K mg base (L2.CX P w) n (f ._law_step_right) (fd ._law_step_right) ["line", "head", "told"] (rdF ⟨K, mg, W0⟩ (tab n ._law_step_right))
  o__law_all_told : FnOk P w K mg base (L2.CX P w) n (f ._law_all_told) (fd ._law_all_told) ["line"] (rdF ⟨K, mg, W0⟩ (tab n ._law_all_told))
  o_law : FnOk P w K mg base (L2.CX P w) n (f .law) (fd .law) ["script"] (rdF ⟨K, mg, W0⟩ (tab n .law))
section
variable {P : Program} {w : World} {K : PySem.W.Frag} {mg : Str → Option Value} {base : Heap} {f : FN → Addr} {fd : FN → FuncData} {cv : Nat → V} {cu : Nat → Value} {cl tb : Nat → Addr} {n : Nat}
set_option maxHeartbeats 4000000 in
theorem ok_goal_steps (T : Txt w K mg f fd cv cu cl tb) (O : Oks P w K mg base f fd n) : FnOk P w K mg base (L2.CX P w) (n + 1) (f .goal_steps) (fd .goal_steps) ["premises", "goal"] (rdF ⟨K, mg, W0⟩ (tab (n + 1) .goal_steps)) :=
  fn_ok (N := nl_goal_steps) (g := b_goal_steps (tab n)) T.F_goal_steps sc_goal_steps fun cdv A outer s H E hr =>
    (t_cons (t_if (d_tv (d_callB (c_isi .str (by decide)) rfl T.n_isinstance boot_isinstance_ (d_aC (d_v 1) (d_aC (d_blt rfl T.n_str boot_str_ rfl) d_aN)))) (t_one (t_ret (d_lst d_aN))) t_nil)
    (t_cons (t_asg (d_v 1) (g_seq rfl (g_cons (g_nm (j := 4) sc_goal_steps.nd) (g_cons (g_nm (j := 5) sc_goal_steps.nd) (g_cons (g_nm (j := 6) sc_goal_steps.nd) g_nil)))))
    (t_cons (t_if (d_tcmp (o_eq hr.units) (d_v 4) d_str) (t_one (t_ret (d_lst (d_aC (d_tup (d_aC d_str (d_aC d_int (d_aC d_int (d_aC (d_tup (d_aC (d_tup (d_aC (d_op o_add (d_v 0) (d_tup (d_aC (d_v 6) d_aN))) (d_aC (d_v 5) d_aN))) d_aN)) d_aN))))) d_aN)))) t_nil)
    (t_cons (t_if (d_tcmp (o_eq hr.units) (d_v 4) d_str) (t_one (t_ret (d_lst (d_aC (d_tup (d_aC d_str (d_aC d_int (d_aC d_int (d_aC (d_tup (d_aC (d_tup (d_aC (d_op o_add (d_tup (d_aC (d_v 5) d_aN)) (d_v 0)) (d_aC (d_v 6) d_aN))) d_aN)) d_aN))))) d_aN)))) t_nil)
    (t_cons (t_set (j := 2) sc_goal_steps.nd (d_lst d_aN))
    (t_cons (t_for (passes_of rfl) rfl (w_rng2 rfl T.n_range d_int (d_callB c_len rfl T.n_len boot_len_ (d_aC (d_v 0) d_aN))) (g_nm (j := 3) sc_goal_steps.nd) (t_one (t_expr (d_m (T := .lst) PySem.F.plainAttrs_list PySem.F.slot_list_append PySem.F.type_list_append (by decide) m_append (d_v 2) (d_aC (d_tup (d_aC d_str (d_aC (d_v 3) (d_aC d_int (d_aC (d_tup (d_aC (d_tup (d_aC (d_sl (d_v 0) d_oN (d_oI (d_v 3))) (d_aC (d_v 5) d_aN))) (d_aC (d_tup (d_aC (d_sl (d_v 0) (d_oI (d_v 3)) d_oN) (d_aC (d_v 6) d_aN))) d_aN))) d_aN))))) d_aN)))))
    (t_one (t_ret (d_v 2)))))))))
set_option maxHeartbeats 4000000 in
theorem ok_over_left_steps (T : Txt w K mg f fd cv cu cl tb) (O : Oks P w K mg base f fd n) : FnOk P w K mg base (L2.CX P w) (n + 1) (f .over_left_steps) (fd .over_left_steps) ["premises", "goal", "at"] (rdF ⟨K, mg, W0⟩ (tab (n + 1) .over_left_steps)) :=
  fn_ok (N := nl_over_left_steps) (g := b_over_left_steps (tab n)) T.F_over_left_steps sc_over_left_steps fun cdv A outer s H E hr =>
    (t_cons (t_asg (d_ix (d_v 0) (d_v 2)) (g_seq rfl (g_cons (g_nm (j := 5) sc_over_left_steps.nd) (g_cons (g_nm (j := 6) sc_over_left_steps.nd) (g_cons (g_nm (j := 7) sc_over_left_steps.nd) g_nil)))))
    (t_cons (t_set (j := 3) sc_over_left_steps.nd (d_lst d_aN))
    (t_cons (t_for (passes_of rfl) rfl (w_rng2 rfl T.n_range d_int (d_op o_sub (d_callB c_len rfl T.n_len boot_len_ (d_aC (d_v 0) d_aN)) (d_v 2))) (g_nm (j := 4) sc_over_left_steps.nd) (t_cons (t_set (j := 8) sc_over_left_steps.nd (d_op o_add (d_op o_add (d_v 2) d_int) (d_v 4)))
    (t_cons (t_set (j := 9) sc_over_left_steps.nd (d_op o_add (d_op o_add (d_sl (d_v 0) d_oN (d_oI (d_v 2))) (d_tup (d_aC (d_v 6) d_aN))) (d_sl (d_v 0) (d_oI (d_v 8)) d_oN)))
    (t_one (t_expr (d_m (T := .lst) PySem.F.plainAttrs_list PySem.F.slot_list_append PySem.F.type_list_append (by decide) m_append (d_v 3) (d_aC (d_tup (d_aC d_str (d_aC (d_v 2) (d_aC (d_v 4) (d_aC (d_tup (d_aC (d_tup (d_aC (d_sl (d_v 0) (d_oI (d_op o_add (d_v 2) d_int)) (d_oI (d_v 8))) (d_aC (d_v 7) d_aN))) (d_aC (d_tup (d_aC (d_v 9) (d_aC (d_v 1) d_aN))) d_aN))) d_aN))))) d_aN)))))))
    (t_one (t_ret (d_v 3))))))
set_option maxHeartbeats 4000000 in
theorem ok_under_left_steps (T : Txt w K mg f fd cv cu cl tb) (O : Oks P w K mg base f fd n) : FnOk P w K mg base (L2.CX P w) (n + 1) (f .under_left_steps) (fd .under_left_steps) ["premises", "goal", "at"] (rdF ⟨K, mg, W0⟩ (tab (n + 1) .under_left_steps)) :=
  fn_ok (N := nl_under_left_steps) (g := b_under_left_steps (tab n)) T.F_under_left_steps sc_under_left_steps fun cdv A outer s H E hr =>
    (t_cons (t_asg (d_ix (d_v 0) (d_v 2)) (g_seq rfl (g_cons (g_nm (j := 5) sc_under_left_steps.nd) (g_cons (g_nm (j := 6) sc_under_left_steps.nd) (g_cons (g_nm (j := 7) sc_under_left_steps.nd) g_nil)))))
    (t_cons (t_set (j := 3) sc_under_left_steps.nd (d_lst d_aN))
    (t_cons (t_for (passes_of rfl) rfl (w_rng2 rfl T.n_range d_int (d_op o_add (d_v 2) d_int)) (g_nm (j := 4) sc_under_left_steps.nd) (t_cons (t_set (j := 8) sc_under_left_steps.nd (d_op o_sub (d_v 2) (d_v 4)))
    (t_cons (t_set (j := 9) sc_under_left_steps.nd (d_op o_add (d_op o_add (d_sl (d_v 0) d_oN (d_oI (d_v 8))) (d_tup (d_aC (d_v 7) d_aN))) (d_sl (d_v 0) (d_oI (d_op o_add (d_v 2) d_int)) d_oN)))
    (t_one (t_expr (d_m (T := .lst) PySem.F.plainAttrs_list PySem.F.slot_list_append PySem.F.type_list_append (by decide) m_append (d_v 3) (d_aC (d_tup (d_aC d_str (d_aC (d_v 2) (d_aC (d_v 4) (d_aC (d_tup (d_aC (d_tup (d_aC (d_sl (d_v 0) (d_oI (d_v 8)) (d_oI (d_v 2))) (d_aC (d_v 6) d_aN))) (d_aC (d_tup (d_aC (d_v 9) (d_aC (d_v 1) d_aN))) d_aN))) d_aN))))) d_aN)))))))
    (t_one (t_ret (d_v 3))))))
set_option maxHeartbeats 4000000 in
theorem ok_premise_steps (T : Txt w K mg f fd cv cu cl tb) (O : Oks P w K mg base f fd n) : FnOk P w K mg base (L2.CX P w) (n + 1) (f .premise_steps) (fd .premise_steps) ["premises", "goal", "at"] (rdF ⟨K, mg, W0⟩ (tab (n + 1) .premise_steps)) :=
  fn_ok (N := nl_premise_steps) (g := b_premise_steps (tab n)) T.F_premise_steps sc_premise_steps fun cdv A outer s H E hr =>
    (t_cons (t_set (j := 3) sc_premise_steps.nd (d_ix (d_v 0) (d_v 2)))
    (t_cons (t_if (d_tv (d_callB (c_isi .str (by decide)) rfl T.n_isinstance boot_isinstance_ (d_aC (d_v 3) (d_aC (d_blt rfl T.n_str boot_str_ rfl) d_aN)))) (t_one (t_ret (d_lst d_aN))) t_nil)
    (t_cons (t_asg (d_v 3) (g_seq rfl (g_cons (g_nm (j := 5) sc_premise_steps.nd) (g_cons (g_nm (j := 6) sc_premise_steps.nd) (g_cons (g_nm (j := 7) sc_premise_steps.nd) g_nil)))))
    (t_cons (t_if (d_tcmp (o_eq hr.units) (d_v 5) d_str) (t_one (t_ret (d_call O.o_over_left_steps hr rfl T.m_over_left_steps T.F_over_left_steps.kp T.b_over_left_steps (fun σ => passAt (takes_of rfl rfl rfl rfl) σ) (d_aC (d_v 0) (d_aC (d_v 1) (d_aC (d_v 2) d_aN)))))) t_nil)
    (t_cons (t_if (d_tcmp (o_eq hr.units) (d_v 5) d_str) (t_one (t_ret (d_call O.o_under_left_steps hr rfl T.m_under_left_steps T.F_under_left_steps.kp T.b_under_left_steps (fun σ => passAt (takes_of rfl rfl rfl rfl) σ) (d_aC (d_v 0) (d_aC (d_v 1) (d_aC (d_v 2) d_aN)))))) t_nil)
    (t_cons (t_set (j := 4) sc_premise_steps.nd (d_op o_add (d_op o_add (d_sl (d_v 0) d_oN (d_oI (d_v 2))) (d_tup (d_aC (d_v 6) (d_aC (d_v 7) d_aN)))) (d_sl (d_v 0) (d_oI (d_op o_add (d_v 2) d_int)) d_oN)))
    (t_one (t_ret (d_lst (d_aC (d_tup (d_aC d_str (d_aC (d_v 2) (d_aC d_int (d_aC (d_tup (d_aC (d_tup (d_aC (d_v 4) (d_aC (d_v 1) d_aN))) d_aN)) d_aN))))) d_aN))))))))))
set_option maxHeartbeats 4000000 in
theorem ok_last_steps (T : Txt w K mg f fd cv cu cl tb) (O : Oks P w K mg base f fd n) : FnOk P w K mg base (L2.CX P w) (n + 1) (f .last_steps) (fd .last_steps) ["sequent"] (rdF ⟨K, mg, W0⟩ (tab (n + 1) .last_steps)) :=
  fn_ok (N := nl_last_steps) (g := b_last_steps (tab n)) T.F_last_steps sc_last_steps fun cdv A outer s H E hr =>
    (t_cons (t_asg (d_v 0) (g_seq rfl (g_cons (g_nm (j := 3) sc_last_steps.nd) (g_cons (g_nm (j := 4) sc_last_steps.nd) g_nil))))
    (t_cons (t_set (j := 1) sc_last_steps.nd (d_lst d_aN))
    (t_cons (t_if (PW.pt (d_and (d_tv (d_callB (c_isi .str (by decide)) rfl T.n_isinstance boot_isinstance_ (d_aC (d_v 4) (d_aC (d_blt rfl T.n_str boot_str_ rfl) d_aN)))) (d_and1 (d_tcmp (o_eq hr.units) (d_v 3) (d_tup (d_aC (d_v 4) d_aN)))))) (t_one (t_expr (d_m (T := .lst) PySem.F.plainAttrs_list PySem.F.slot_list_append PySem.F.type_list_append (by decide) m_append (d_v 1) (d_aC (d_tup (d_aC d_str (d_aC d_int (d_aC d_int (d_aC (d_tup d_aN) d_aN))))) d_aN)))) t_nil)
    (t_cons (t_expr (d_m (T := .lst) PySem.F.plainAttrs_list PySem.F.slot_list_extend PySem.F.type_list_extend (by decide) m_extend (d_v 1) (d_aC (d_call O.o_goal_steps hr rfl T.m_goal_steps T.F_goal_steps.kp T.b_goal_steps (fun σ => passAt (takes_of rfl rfl rfl rfl) σ) (d_aC (d_v 3) (d_aC (d_v 4) d_aN))) d_aN)))
    (t_cons (t_for (passes_of rfl) rfl (w_rng1 rfl T.n_range (d_callB c_len rfl T.n_len boot_len_ (d_aC (d_v 3) d_aN))) (g_nm (j := 2) sc_last_steps.nd) (t_one (t_expr (d_m (T := .lst) PySem.F.plainAttrs_list PySem.F.slot_list_extend PySem.F.type_list_extend (by decide) m_extend (d_v 1) (d_aC (d_call O.o_premise_steps hr rfl T.m_premise_steps T.F_premise_steps.kp T.b_premise_steps (fun σ => passAt (takes_of rfl rfl rfl rfl) σ) (d_aC (d_v 3) (d_aC (d_v 4) (d_aC (d_v 2) d_aN)))) d_aN)))))
    (t_one (t_ret (d_callT c_tuple rfl T.n_tuple boot_tuple_ (d_aC (d_v 1) d_aN)))))))))
set_option maxHeartbeats 4000000 in
theorem ok__law_cell (T : Txt w K mg f fd cv cu cl tb) (O : Oks P w K mg base f fd n) : FnOk P w K mg base (L2.CX P w) (n + 1) (f ._law_cell) (fd ._law_cell) ["script", "k"] (rdF ⟨K, mg, W0⟩ (tab (n + 1) ._law_cell)) :=
  fn_ok (N := nl__law_cell) (g := b__law_cell (tab n)) T.F__law_cell sc__law_cell fun cdv A outer s H E hr =>
    (t_cons (t_if (d_tcmp o_lt (d_v 1) (d_callB c_len rfl T.n_len boot_len_ (d_aC (d_v 0) d_aN))) (t_one (t_ret (d_callT c_int rfl T.n_int boot_int_ (d_aC (d_ix (d_v 0) (d_v 1)) d_aN)))) t_nil)
    (t_one (t_ret d_int)))
set_option maxHeartbeats 4000000 in
theorem ok__law_mix (T : Txt w K mg f fd cv cu cl tb) (O : Oks P w K mg base f fd n) : FnOk P w K mg base (L2.CX P w) (n + 1) (f ._law_mix) (fd ._law_mix) ["x"] (rdF ⟨K, mg, W0⟩ (tab (n + 1) ._law_mix)) :=
  fn_ok (N := nl__law_mix) (g := b__law_mix (tab n)) T.F__law_mix sc__law_mix fun cdv A outer s H E hr =>
    (t_cons (t_set (j := 0) sc__law_mix.nd (d_op o_mod (d_callT c_int rfl T.n_int boot_int_ (d_aC (d_op o_add (d_op o_add (d_op o_mul (d_v 0) (d_v 0)) (d_op o_mul d_int (d_v 0))) d_int) d_aN)) d_int))
    (t_one (t_ret (d_op o_mod (d_callT c_int rfl T.n_int boot_int_ (d_aC (d_op o_add (d_op o_add (d_op o_mul (d_v 0) (d_v 0)) (d_op o_mul d_int (d_v 0))) d_int) d_aN)) d_int))))
set_option maxHeartbeats 4000000 in
theorem ok__law_pool (T : Txt w K mg f fd cv cu cl tb) (O : Oks P w K mg base f fd n) : FnOk P w K mg base (L2.CX P w) (n + 1) (f ._law_pool) (fd ._law_pool) ["script", "k"] (rdF ⟨K, mg, W0⟩ (tab (n + 1) ._law_pool)) :=
  fn_ok (N := nl__law_pool) (g := b__law_pool (tab n)) T.F__law_pool sc__law_pool fun cdv A outer s H E hr =>
    (t_cons (t_set (j := 2) sc__law_pool.nd (d_call O.o__law_cell hr rfl T.m__law_cell T.F__law_cell.kp T.b__law_cell (fun σ => passAt (takes_of rfl rfl rfl rfl) σ) (d_aC (d_v 0) (d_aC (d_v 1) d_aN))))
    (t_cons (t_if (d_tcmp o_ge (d_v 2) (d_op o_pow d_int d_int)) (t_one (t_ret (d_lst (d_aC (d_op o_sub (d_v 2) (d_op o_pow d_int d_int)) (d_aC (d_op o_mul d_int (d_op o_add (d_v 1) d_int)) (d_aC d_int d_aN)))))) t_nil)
    (t_one (t_ret (d_lst (d_aC d_int (d_aC (d_op o_add (d_op o_mod (d_callT c_int rfl T.n_int boot_int_ (d_aC (d_callB c_abs rfl T.n_abs boot_abs_ (d_aC (d_v 2) d_aN)) d_aN)) d_int) (d_op o_mul d_int (d_v 1))) (d_aC d_int d_aN))))))))
set_option maxHeartbeats 4000000 in
theorem ok__law_draw (T : Txt w K mg f fd cv cu cl tb) (O : Oks P w K mg base f fd n) : FnOk P w K mg base (L2.CX P w) (n + 1) (f ._law_draw) (fd ._law_draw) ["pool", "many"] (rdF ⟨K, mg, W0⟩ (tab (n + 1) ._law_draw)) :=
  fn_ok (N := nl__law_draw) (g := b__law_draw (tab n)) T.F__law_draw sc__law_draw fun cdv A outer s H E hr =>
    (t_cons (t_if (d_tcmp o_gt (d_ix (d_v 0) d_int) d_int) (t_cons (t_set (j := 2) sc__law_draw.nd (d_op o_mod (d_callT c_int rfl T.n_int boot_int_ (d_aC (d_ix (d_v 0) d_int) d_aN)) (d_v 1)))
    (t_cons (t_asg (d_op o_fdiv (d_ix (d_v 0) d_int) (d_v 1)) (g_ix (d_v 0) d_int))
    (t_one (t_ret (d_v 2))))) t_nil)
    (t_cons (t_asg (d_op o_add (d_ix (d_v 0) d_int) d_int) (g_ix (d_v 0) d_int))
    (t_one (t_ret (d_op o_mod (d_callT c_int rfl T.n_int boot_int_ (d_aC (d_op o_fdiv (d_call O.o__law_mix hr rfl T.m__law_mix T.F__law_mix.kp T.b__law_mix (fun σ => passAt (takes_of rfl rfl rfl rfl) σ) (d_aC (d_op o_add (d_ix (d_v 0) d_int) (d_op o_mul d_int (d_ix (d_v 0) d_int))) d_aN)) d_int) d_aN)) (d_v 1))))))
set_option maxHeartbeats 4000000 in
theorem ok__law_base (T : Txt w K mg f fd cv cu cl tb) (O : Oks P w K mg base f fd n) : FnOk P w K mg base (L2.CX P w) (n + 1) (f ._law_base) (fd ._law_base) ["pool"] (rdF ⟨K, mg, W0⟩ (tab (n + 1) ._law_base)) :=
  fn_ok (N := nl__law_base) (g := b__law_base (tab n)) T.F__law_base sc__law_base fun cdv A outer s H E hr =>
    (t_cons (t_set (j := 1) sc__law_base.nd d_str)
    (t_cons (t_set (j := 2) sc__law_base.nd (d_ix (d_v 1) (d_call O.o__law_draw hr rfl T.m__law_draw T.F__law_draw.kp T.b__law_draw (fun σ => passAt (takes_of rfl rfl rfl rfl) σ) (d_aC (d_v 0) (d_aC d_int d_aN)))))
    (t_cons (t_for (passes_of rfl) rfl (w_rng1 rfl T.n_range (d_ix (d_lst (d_aC d_int (d_aC d_int (d_aC d_int (d_aC d_int (d_aC d_int (d_aC d_int (d_aC d_int (d_aC d_int (d_aC d_int (d_aC d_int d_aN))))))))))) (d_call O.o__law_draw hr rfl T.m__law_draw T.F__law_draw.kp T.b__law_draw (fun σ => passAt (takes_of rfl rfl rfl rfl) σ) (d_aC (d_v 0) (d_aC d_int d_aN))))) (g_nm (j := 3) sc__law_base.nd) (t_one (t_set (j := 2) sc__law_base.nd (d_op o_add (d_v 2) (d_ix (d_op o_add (d_v 1) d_str) (d_call O.o__law_draw hr rfl T.m__law_draw T.F__law_draw.kp T.b__law_draw (fun σ => passAt (takes_of rfl rfl rfl rfl) σ) (d_aC (d_v 0) (d_aC d_int d_aN))))))))
    (t_one (t_ret (d_v 2))))))
set_option maxHeartbeats 4000000 in
theorem ok__law_numbered (T : Txt w K mg f fd cv cu cl tb) (O : Oks P w K mg base f fd n) : FnOk P w K mg base (L2.CX P w) (n + 1) (f ._law_numbered) (fd ._law_numbered) ["pool", "base"] (rdF ⟨K, mg, W0⟩ (tab (n + 1) ._law_numbered)) :=
  fn_ok (N := nl__law_numbered) (g := b__law_numbered (tab n)) T.F__law_numbered sc__law_numbered fun cdv A outer s H E hr =>
    (t_cons (t_set (j := 2) sc__law_numbered.nd (d_call O.o__law_draw hr rfl T.m__law_draw T.F__law_draw.kp T.b__law_draw (fun σ => passAt (takes_of rfl rfl rfl rfl) σ) (d_aC (d_v 0) (d_aC d_int d_aN))))
    (t_cons (t_if (d_tcmp (o_eq hr.units) (d_v 2) d_int) (t_one (t_ret (d_op o_add (d_op o_add (d_v 1) d_str) (d_callT c_str rfl T.n_str boot_str_ (d_aC (d_op o_add d_int (d_call O.o__law_draw hr rfl T.m__law_draw T.F__law_draw.kp T.b__law_draw (fun σ => passAt (takes_of rfl rfl rfl rfl) σ) (d_aC (d_v 0) (d_aC d_int d_aN)))) d_aN))))) t_nil)
    (t_cons (t_if (d_tcmp (o_eq hr.units) (d_v 2) d_int) (t_one (t_ret (d_op o_add (d_op o_add (d_v 1) d_str) (d_callT c_str rfl T.n_str boot_str_ (d_aC (d_op o_add d_int (d_call O.o__law_draw hr rfl T.m__law_draw T.F__law_draw.kp T.b__law_draw (fun σ => passAt (takes_of rfl rfl rfl rfl) σ) (d_aC (d_v 0) (d_aC d_int d_aN)))) d_aN))))) t_nil)
    (t_one (t_ret (d_v 1))))))
set_option maxHeartbeats 4000000 in
theorem ok__law_lot (T : Txt w K mg f fd cv cu cl tb) (O : Oks P w K mg base f fd n) : FnOk P w K mg base (L2.CX P w) (n + 1) (f ._law_lot) (fd ._law_lot) ["pool"] (rdF ⟨K, mg, W0⟩ (tab (n + 1) ._law_lot)) :=
  fn_ok (N := nl__law_lot) (g := b__law_lot (tab n)) T.F__law_lot sc__law_lot fun cdv A outer s H E hr =>
    (t_cons (t_set (j := 1) sc__law_lot.nd (d_call O.o__law_base hr rfl T.m__law_base T.F__law_base.kp T.b__law_base (fun σ => passAt (takes_of rfl rfl rfl rfl) σ) (d_aC (d_v 0) d_aN)))
    (t_cons (t_set (j := 2) sc__law_lot.nd (d_lst (d_aC (d_call O.o__law_numbered hr rfl T.m__law_numbered T.F__law_numbered.kp T.b__law_numbered (fun σ => passAt (takes_of rfl rfl rfl rfl) σ) (d_aC (d_v 0) (d_aC (d_v 1) d_aN))) d_aN)))
    (t_cons (t_if (d_tcmp (o_eq hr.units) (d_call O.o__law_draw hr rfl T.m__law_draw T.F__law_draw.kp T.b__law_draw (fun σ => passAt (takes_of rfl rfl rfl rfl) σ) (d_aC (d_v 0) (d_aC d_int d_aN))) d_int) (t_one (t_set (j := 1) sc__law_lot.nd (d_call O.o__law_base hr rfl T.m__law_base T.F__law_base.kp T.b__law_base (fun σ => passAt (takes_of rfl rfl rfl rfl) σ) (d_aC (d_v 0) d_aN)))) t_nil)
    (t_cons (t_expr (d_m (T := .lst) PySem.F.plainAttrs_list PySem.F.slot_list_append PySem.F.type_list_append (by decide) m_append (d_v 2) (d_aC (d_call O.o__law_numbered hr rfl T.m__law_numbered T.F__law_numbered.kp T.b__law_numbered (fun σ => passAt (takes_of rfl rfl rfl rfl) σ) (d_aC (d_v 0) (d_aC (d_v 1) d_aN))) d_aN)))
    (t_cons (t_expr (d_m (T := .lst) PySem.F.plainAttrs_list PySem.F.slot_list_append PySem.F.type_list_append (by decide) m_append (d_v 2) (d_aC (d_call O.o__law_numbered hr rfl T.m__law_numbered T.F__law_numbered.kp T.b__law_numbered (fun σ => passAt (takes_of rfl rfl rfl rfl) σ) (d_aC (d_v 0) (d_aC (d_call O.o__law_base hr rfl T.m__law_base T.F__law_base.kp T.b__law_base (fun σ => passAt (takes_of rfl rfl rfl rfl) σ) (d_aC (d_v 0) d_aN)) d_aN))) d_aN)))
    (t_one (t_ret (d_v 2))))))))
set_option maxHeartbeats 4000000 in
theorem ok__law_kind (T : Txt w K mg f fd cv cu cl tb) (O : Oks P w K mg base f fd n) : FnOk P w K mg base (L2.CX P w) (n + 1) (f ._law_kind) (fd ._law_kind) ["pool", "lot", "size"] (rdF ⟨K, mg, W0⟩ (tab (n + 1) ._law_kind)) :=
  fn_ok (N := nl__law_kind) (g := b__law_kind (tab n)) T.F__law_kind sc__law_kind fun cdv A outer s H E hr =>
    (t_cons (t_if (d_tcmp o_le (d_v 2) d_int) (t_cons (t_set (j := 6) sc__law_kind.nd (d_call O.o__law_draw hr rfl T.m__law_draw T.F__law_draw.kp T.b__law_draw (fun σ => passAt (takes_of rfl rfl rfl rfl) σ) (d_aC (d_v 0) (d_aC d_int d_aN))))
    (t_cons (t_if (d_tcmp (o_eq hr.units) (d_v 6) d_int) (t_one (t_ret (d_call O.o__law_numbered hr rfl T.m__law_numbered T.F__law_numbered.kp T.b__law_numbered (fun σ => passAt (takes_of rfl rfl rfl rfl) σ) (d_aC (d_v 0) (d_aC (d_call O.o__law_base hr rfl T.m__law_base T.F__law_base.kp T.b__law_base (fun σ => passAt (takes_of rfl rfl rfl rfl) σ) (d_aC (d_v 0) d_aN)) d_aN))))) t_nil)
    (t_one (t_ret (d_ix (d_v 1) (d_op o_mod (d_callT c_int rfl T.n_int boot_int_ (d_aC (d_v 6) d_aN)) d_int)))))) t_nil)
    (t_cons (t_set (j := 3) sc__law_kind.nd (d_op o_add d_int (d_call O.o__law_draw hr rfl T.m__law_draw T.F__law_draw.kp T.b__law_draw (fun σ => passAt (takes_of rfl rfl rfl rfl) σ) (d_aC (d_v 0) (d_aC (d_op o_sub (d_v 2) d_int) d_aN)))))
    (t_cons (t_set (j := 4) sc__law_kind.nd (d_ix d_str (d_call O.o__law_draw hr rfl T.m__law_draw T.F__law_draw.kp T.b__law_draw (fun σ => passAt (takes_of rfl rfl rfl rfl) σ) (d_aC (d_v 0) (d_aC d_int d_aN)))))
    (t_cons (t_set (j := 5) sc__law_kind.nd (d_call O.o__law_kind hr rfl T.m__law_kind T.F__law_kind.kp T.b__law_kind (fun σ => passAt (takes_of rfl rfl rfl rfl) σ) (d_aC (d_v 0) (d_aC (d_v 1) (d_aC (d_v 3) d_aN)))))
    (t_one (t_ret (d_tup (d_aC (d_v 4) (d_aC (d_v 5) (d_aC (d_call O.o__law_kind hr rfl T.m__law_kind T.F__law_kind.kp T.b__law_kind (fun σ => passAt (takes_of rfl rfl rfl rfl) σ) (d_aC (d_v 0) (d_aC (d_v 1) (d_aC (d_op o_sub (d_v 2) (d_v 3)) d_aN)))) d_aN))))))))))
set_option maxHeartbeats 4000000 in
theorem ok__law_spread (T : Txt w K mg f fd cv cu cl tb) (O : Oks P w K mg base f fd n) : FnOk P w K mg base (L2.CX P w) (n + 1) (f ._law_spread) (fd ._law_spread) ["pool", "many", "most", "total"] (rdF ⟨K, mg, W0⟩ (tab (n + 1) ._law_spread)) :=
  fn_ok (N := nl__law_spread) (g := b__law_spread (tab n)) T.F__law_spread sc__law_spread fun cdv A outer s H E hr =>
    (t_cons (t_set (j := 4) sc__law_spread.nd (d_lst d_aN))
    (t_cons (t_for (passes_of rfl) rfl (w_rng1 rfl T.n_range (d_v 1)) (g_nm (j := 5) sc__law_spread.nd) (t_one (t_expr (d_m (T := .lst) PySem.F.plainAttrs_list PySem.F.slot_list_append PySem.F.type_list_append (by decide) m_append (d_v 4) (d_aC (d_op o_add d_int (d_call O.o__law_draw hr rfl T.m__law_draw T.F__law_draw.kp T.b__law_draw (fun σ => passAt (takes_of rfl rfl rfl rfl) σ) (d_aC (d_v 0) (d_aC (d_callB (c_min2 rfl) rfl T.n_min boot_min_ (d_aC (d_v 2) (d_aC (d_op o_add (d_op o_sub (d_op o_sub (d_op o_add (d_v 3) d_int) (d_callB (c_sum rfl) rfl T.n_sum boot_sum_ (d_aC (d_v 4) d_aN))) (d_v 1)) (d_v 5)) d_aN))) d_aN)))) d_aN)))))
    (t_one (t_ret (d_v 4)))))
set_option maxHeartbeats 4000000 in
theorem ok__law_sizes (T : Txt w K mg f fd cv cu cl tb) (O : Oks P w K mg base f fd n) : FnOk P w K mg base (L2.CX P w) (n + 1) (f ._law_sizes) (fd ._law_sizes) ["pool"] (rdF ⟨K, mg, W0⟩ (tab (n + 1) ._law_sizes)) :=
  fn_ok (N := nl__law_sizes) (g := b__law_sizes (tab n)) T.F__law_sizes sc__law_sizes fun cdv A outer s H E hr =>
    (t_cons (t_set (j := 1) sc__law_sizes.nd (d_call O.o__law_draw hr rfl T.m__law_draw T.F__law_draw.kp T.b__law_draw (fun σ => passAt (takes_of rfl rfl rfl rfl) σ) (d_aC (d_v 0) (d_aC d_int d_aN))))
    (t_cons (t_if (d_tcmp o_lt (d_v 1) d_int) (t_one (t_ret (d_call O.o__law_spread hr rfl T.m__law_spread T.F__law_spread.kp T.b__law_spread (fun σ => passAt (takes_of rfl rfl rfl rfl) σ) (d_aC (d_v 0) (d_aC (d_op o_add d_int (d_call O.o__law_draw hr rfl T.m__law_draw T.F__law_draw.kp T.b__law_draw (fun σ => passAt (takes_of rfl rfl rfl rfl) σ) (d_aC (d_v 0) (d_aC d_int d_aN)))) (d_aC d_int (d_aC d_int d_aN))))))) t_nil)
    (t_cons (t_if (d_tcmp o_lt (d_v 1) d_int) (t_one (t_ret (d_call O.o__law_spread hr rfl T.m__law_spread T.F__law_spread.kp T.b__law_spread (fun σ => passAt (takes_of rfl rfl rfl rfl) σ) (d_aC (d_v 0) (d_aC d_int (d_aC d_int (d_aC d_int d_aN))))))) t_nil)
    (t_cons (t_if (d_tcmp (o_eq hr.units) (d_v 1) d_int) (t_one (t_ret (d_call O.o__law_spread hr rfl T.m__law_spread T.F__law_spread.kp T.b__law_spread (fun σ => passAt (takes_of rfl rfl rfl rfl) σ) (d_aC (d_v 0) (d_aC (d_op o_add d_int (d_call O.o__law_draw hr rfl T.m__law_draw T.F__law_draw.kp T.b__law_draw (fun σ => passAt (takes_of rfl rfl rfl rfl) σ) (d_aC (d_v 0) (d_aC d_int d_aN)))) (d_aC d_int (d_aC d_int d_aN))))))) t_nil)
    (t_one (t_ret (d_call O.o__law_spread hr rfl T.m__law_spread T.F__law_spread.kp T.b__law_spread (fun σ => passAt (takes_of rfl rfl rfl rfl) σ) (d_aC (d_v 0) (d_aC (d_op o_sub d_int (d_call O.o__law_draw hr rfl T.m__law_draw T.F__law_draw.kp T.b__law_draw (fun σ => passAt (takes_of rfl rfl rfl rfl) σ) (d_aC (d_v 0) (d_aC d_int d_aN)))) (d_aC d_int (d_aC d_int d_aN)))))))))))
set_option maxHeartbeats 4000000 in
theorem ok__law_sequent (T : Txt w K mg f fd cv cu cl tb) (O : Oks P w K mg base f fd n) : FnOk P w K mg base (L2.CX P w) (n + 1) (f ._law_sequent) (fd ._law_sequent) ["pool"] (rdF ⟨K, mg, W0⟩ (tab (n + 1) ._law_sequent)) :=
  fn_ok (N := nl__law_sequent) (g := b__law_sequent (tab n)) T.F__law_sequent sc__law_sequent fun cdv A outer s H E hr =>
    (t_cons (t_set (j := 1) sc__law_sequent.nd (d_call O.o__law_lot hr rfl T.m__law_lot T.F__law_lot.kp T.b__law_lot (fun σ => passAt (takes_of rfl rfl rfl rfl) σ) (d_aC (d_v 0) d_aN)))
    (t_cons (t_set (j := 2) sc__law_sequent.nd (d_call O.o__law_sizes hr rfl T.m__law_sizes T.F__law_sizes.kp T.b__law_sizes (fun σ => passAt (takes_of rfl rfl rfl rfl) σ) (d_aC (d_v 0) d_aN)))
    (t_cons (t_setLc (i := 3) (own := [("size", 6)]) (g := (.one 6)) rfl sc__law_sequent.nd rfl rfl (sw_true rfl rfl rfl (by decide +kernel)) (w_any (d_v 2)) (blkOk_by (own := [("size", 6)]) (N := nl__law_sequent) (sc := defScope st__law_sequent) (by decide +kernel)) (by decide) (fun _ _ _ _ _ => (v_one sc__law_sequent.nd)) (fun _ _ _ _ _ => u_nil) (fun _ _ _ _ _ => (d_call O.o__law_kind hr rfl T.m__law_kind T.F__law_kind.kp T.b__law_kind (fun σ => passB) (d_aC (d_v 0) (d_aC (d_v 1) (d_aC (d_v 6) d_aN))))))
    (t_cons (t_set (j := 4) sc__law_sequent.nd (d_call O.o__law_draw hr rfl T.m__law_draw T.F__law_draw.kp T.b__law_draw (fun σ => passAt (takes_of rfl rfl rfl rfl) σ) (d_aC (d_v 0) (d_aC d_int d_aN))))
    (t_cons (t_if (PW.pt (d_and (d_tcmp (o_eq hr.units) (d_v 4) d_int) (d_and1 (d_tcmp o_le (d_op o_add (d_op o_sub (d_callB (c_sum rfl) rfl T.n_sum boot_sum_ (d_aC (d_v 2) d_aN)) (d_ix (d_v 2) (d_neg d_int))) (d_ix (d_v 2) d_int)) d_int)))) (t_one (t_asg (d_ix (d_v 3) d_int) (g_ix (d_v 3) (d_neg d_int)))) t_nil)
    (t_cons (t_if (d_tcmp (o_eq hr.units) (d_v 4) d_int) (t_one (t_set (j := 3) sc__law_sequent.nd (d_lst (d_aC (d_ix (d_v 1) d_int) (d_aC (d_ix (d_v 1) d_int) d_aN))))) t_nil)
    (t_cons (t_if (d_tcmp (o_eq hr.units) (d_v 4) d_int) (t_cons (t_set (j := 5) sc__law_sequent.nd (d_ix (d_m (T := .str) PySem.F.plainAttrs_str PySem.F.slot_str_split PySem.F.type_str_split (by decide) m_split (d_ix (d_v 1) d_int) (d_aC d_str d_aN)) d_int))
    (t_one (t_set (j := 3) sc__law_sequent.nd (d_lst (d_aC (d_ix (d_v 1) d_int) (d_aC (d_call O.o__law_numbered hr rfl T.m__law_numbered T.F__law_numbered.kp T.b__law_numbered (fun σ => passAt (takes_of rfl rfl rfl rfl) σ) (d_aC (d_v 0) (d_aC (d_v 5) d_aN))) d_aN)))))) t_nil)
    (t_one (t_ret (d_tup (d_aC (d_callT c_tuple rfl T.n_tuple boot_tuple_ (d_aC (d_sl (d_v 3) d_oN (d_oI (d_neg d_int))) d_aN)) (d_aC (d_ix (d_v 3) (d_neg d_int)) d_aN))))))))))))
set_option maxHeartbeats 4000000 in
theorem ok__law_heads (T : Txt w K mg f fd cv cu cl tb) (O : Oks P w K mg base f fd n) : FnOk P w K mg base (L2.CX P w) (n + 1) (f ._law_heads) (fd ._law_heads) ["line"] (rdF ⟨K, mg, W0⟩ (tab (n + 1) ._law_heads)) :=
  fn_ok (N := nl__law_heads) (g := b__law_heads (tab n)) T.F__law_heads sc__law_heads fun cdv A outer s H E hr =>
    (t_cons (t_asg (d_v 0) (g_seq rfl (g_cons (g_nm (j := 4) sc__law_heads.nd) (g_cons (g_nm (j := 5) sc__law_heads.nd) g_nil))))
    (t_cons (t_set (j := 1) sc__law_heads.nd (d_callB c_len rfl T.n_len boot_len_ (d_aC (d_v 4) d_aN)))
    (t_cons (t_set (j := 2) sc__law_heads.nd (d_lst d_aN))
    (t_cons (t_if (d_tv (d_callB (c_isi .str (by decide)) rfl T.n_isinstance boot_isinstance_ (d_aC (d_v 5) (d_aC (d_blt rfl T.n_str boot_str_ rfl) d_aN)))) (t_one (t_if (PW.pt (d_and (d_tcmp (o_eq hr.units) (d_v 1) d_int) (d_and1 (d_tcmp (o_eq hr.units) (d_ix (d_v 4) d_int) (d_v 5))))) (t_one (t_expr (d_m (T := .lst) PySem.F.plainAttrs_list PySem.F.slot_list_append PySem.F.type_list_append (by decide) m_append (d_v 2) (d_aC (d_tup (d_aC d_str (d_aC d_int (d_aC d_int d_aN)))) d_aN)))) t_nil)) (t_one (t_if (d_tcmp (o_eq hr.units) (d_ix (d_v 5) d_int) d_str) (t_one (t_setLc (i := 2) (own := [("at", 3)]) (g := (.one 3)) rfl sc__law_heads.nd rfl rfl (sw_true rfl rfl rfl (by decide +kernel)) (w_rng2 rfl T.n_range d_int (d_v 1)) (blkOk_by (own := [("at", 3)]) (N := nl__law_heads) (sc := defScope st__law_heads) (by decide +kernel)) (by decide) (fun _ _ _ _ _ => (v_one sc__law_heads.nd)) (fun _ _ _ _ _ => u_nil) (fun _ _ _ _ _ => (d_tup (d_aC d_str (d_aC (d_v 3) (d_aC d_int d_aN))))))) (t_one (t_expr (d_m (T := .lst) PySem.F.plainAttrs_list PySem.F.slot_list_append PySem.F.type_list_append (by decide) m_append (d_v 2) (d_aC (d_tup (d_aC (d_dget (u1 hr) (d_dct (.cons (k := .inr "/") pe_str d_str (.cons (k := .inr ">") pe_str d_str .nil))) (d_ix (d_v 5) d_int)) (d_aC d_int (d_aC d_int d_aN)))) d_aN)))))))
    (t_cons (t_for (passes_of rfl) rfl (w_rng1 rfl T.n_range (d_v 1)) (g_nm (j := 3) sc__law_heads.nd) (t_cons (t_set (j := 6) sc__law_heads.nd d_str)
    (t_cons (t_if (d_not (d_tv (d_callB (c_isi .str (by decide)) rfl T.n_isinstance boot_isinstance_ (d_aC (d_ix (d_v 4) (d_v 3)) (d_aC (d_blt rfl T.n_str boot_str_ rfl) d_aN))))) (t_one (t_set (j := 6) sc__law_heads.nd (d_ix (d_ix (d_v 4) (d_v 3)) d_int))) t_nil)
    (t_cons (t_if (d_tcmp (o_eq hr.units) (d_v 6) d_str) (t_one (t_set (j := 2) sc__law_heads.nd (d_op o_add (d_v 2) (d_lc (own := [("width", 7)]) (g := (.one 7)) rfl sc__law_heads.nd (w_rng2 rfl T.n_range d_int (d_op o_sub (d_v 1) (d_v 3))) (blkOk_by (own := [("width", 7)]) (N := nl__law_heads) (sc := defScope st__law_heads) (by decide +kernel)) (by decide) (fun _ _ _ _ _ => (v_one sc__law_heads.nd)) (fun _ _ _ _ _ => u_nil) (fun _ _ _ _ _ => (d_tup (d_aC d_str (d_aC (d_v 3) (d_aC (d_v 7) d_aN))))))))) t_nil)
    (t_cons (t_if (d_tcmp (o_eq hr.units) (d_v 6) d_str) (t_one (t_set (j := 2) sc__law_heads.nd (d_op o_add (d_v 2) (d_lc (own := [("width", 7)]) (g := (.one 7)) rfl sc__law_heads.nd (w_rng2 rfl T.n_range d_int (d_op o_add (d_v 3) d_int)) (blkOk_by (own := [("width", 7)]) (N := nl__law_heads) (sc := defScope st__law_heads) (by decide +kernel)) (by decide) (fun _ _ _ _ _ => (v_one sc__law_heads.nd)) (fun _ _ _ _ _ => u_nil) (fun _ _ _ _ _ => (d_tup (d_aC d_str (d_aC (d_v 3) (d_aC (d_v 7) d_aN))))))))) t_nil)
    (t_one (t_if (d_tcmp (o_eq hr.units) (d_v 6) d_str) (t_one (t_expr (d_m (T := .lst) PySem.F.plainAttrs_list PySem.F.slot_list_append PySem.F.type_list_append (by decide) m_append (d_v 2) (d_aC (d_tup (d_aC d_str (d_aC (d_v 3) (d_aC d_int d_aN)))) d_aN)))) t_nil)))))))
    (t_one (t_ret (d_v 2))))))))
set_option maxHeartbeats 4000000 in
theorem ok__law_lengths (T : Txt w K mg f fd cv cu cl tb) (O : Oks P w K mg base f fd n) : FnOk P w K mg base (L2.CX P w) (n + 1) (f ._law_lengths) (fd ._law_lengths) ["head", "many"] (rdF ⟨K, mg, W0⟩ (tab (n + 1) ._law_lengths)) :=
  fn_ok (N := nl__law_lengths) (g := b__law_lengths (tab n)) T.F__law_lengths sc__law_lengths fun cdv A outer s H E hr =>
    (t_cons (t_asg (d_v 0) (g_seq rfl (g_cons (g_nm (j := 2) sc__law_lengths.nd) (g_cons (g_nm (j := 3) sc__law_lengths.nd) (g_cons (g_nm (j := 4) sc__law_lengths.nd) g_nil)))))
    (t_cons (t_if (d_tcmp (o_eq hr.units) (d_v 2) d_str) (t_one (t_ret (d_lst d_aN))) t_nil)
    (t_cons (t_if (d_tcmp (o_eq hr.units) (d_v 2) d_str) (t_one (t_ret (d_lst (d_aC (d_v 3) (d_aC (d_op o_sub (d_v 1) (d_v 3)) d_aN))))) t_nil)
    (t_cons (t_if (PW.pt (d_or (d_tcmp (o_eq hr.units) (d_v 2) d_str) (d_or1 (d_tcmp (o_eq hr.units) (d_v 2) d_str)))) (t_one (t_ret (d_lst (d_aC (d_v 4) (d_aC (d_op o_sub (d_v 1) (d_v 4)) d_aN))))) t_nil)
    (t_one (t_ret (d_lst (d_aC (d_op o_add (d_v 1) d_int) d_aN))))))))
set_option maxHeartbeats 4000000 in
theorem ok__law_leads (T : Txt w K mg f fd cv cu cl tb) (O : Oks P w K mg base f fd n) : FnOk P w K mg base (L2.CX P w) (n + 1) (f ._law_leads) (fd ._law_leads) ["head", "parts"] (rdF ⟨K, mg, W0⟩ (tab (n + 1) ._law_leads)) :=
  fn_ok (N := nl__law_leads) (g := b__law_leads (tab n)) T.F__law_leads sc__law_leads fun cdv A outer s H E hr =>
    (t_cons (t_asg (d_v 0) (g_seq rfl (g_cons (g_nm (j := 3) sc__law_leads.nd) (g_cons (g_nm (j := 4) sc__law_leads.nd) (g_cons (g_nm (j := 5) sc__law_leads.nd) g_nil)))))
    (t_cons (t_asg (d_ix (d_v 1) d_int) (g_seq rfl (g_cons (g_nm (j := 6) sc__law_leads.nd) (g_cons (g_nm (j := 7) sc__law_leads.nd) g_nil))))
    (t_cons (t_if (d_tcmp (o_eq hr.units) (d_v 3) d_str) (t_one (t_ret (d_tup (d_aC (d_sl (d_v 6) d_oN (d_oI (d_neg d_int))) (d_aC (d_tup (d_aC d_str (d_aC (d_v 7) (d_aC (d_ix (d_v 6) (d_neg d_int)) d_aN)))) d_aN))))) t_nil)
    (t_cons (t_if (d_tcmp (o_eq hr.units) (d_v 3) d_str) (t_one (t_ret (d_tup (d_aC (d_sl (d_v 6) (d_oI d_int) d_oN) (d_aC (d_tup (d_aC d_str (d_aC (d_ix (d_v 6) d_int) (d_aC (d_v 7) d_aN)))) d_aN))))) t_nil)
    (t_cons (t_if (d_tcmp (o_eq hr.units) (d_v 3) d_str) (t_one (t_ret (d_tup (d_aC (d_op o_add (d_op o_add (d_sl (d_v 6) d_oN (d_oI (d_v 4))) (d_tup (d_aC (d_tup (d_aC d_str (d_aC (d_ix (d_v 6) (d_v 4)) (d_aC (d_ix (d_v 6) (d_op o_add (d_v 4) d_int)) d_aN)))) d_aN))) (d_sl (d_v 6) (d_oI (d_op o_add (d_v 4) d_int)) d_oN)) (d_aC (d_v 7) d_aN))))) t_nil)
    (t_cons (t_asg (d_ix (d_v 1) d_int) (g_seq rfl (g_cons (g_nm (j := 8) sc__law_leads.nd) (g_cons (g_nm (j := 9) sc__law_leads.nd) g_nil))))
    (t_cons (t_if (d_tcmp (o_eq hr.units) (d_v 3) d_str) (t_one (t_ret (d_tup (d_aC (d_op o_add (d_v 6) (d_v 8)) (d_aC (d_tup (d_aC d_str (d_aC (d_v 7) (d_aC (d_v 9) d_aN)))) d_aN))))) t_nil)
    (t_cons (t_if (d_tcmp (o_eq hr.units) (d_v 3) d_str) (t_one (t_ret (d_tup (d_aC (d_op o_add (d_op o_add (d_op o_add (d_sl (d_v 8) d_oN (d_oI (d_v 4))) (d_tup (d_aC (d_tup (d_aC d_str (d_aC (d_ix (d_v 8) (d_v 4)) (d_aC (d_v 7) d_aN)))) d_aN))) (d_v 6)) (d_sl (d_v 8) (d_oI (d_op o_add (d_v 4) d_int)) d_oN)) (d_aC (d_v 9) d_aN))))) t_nil)
    (t_cons (t_set (j := 2) sc__law_leads.nd (d_op o_sub (d_v 4) (d_v 5)))
    (t_one (t_ret (d_tup (d_aC (d_op o_add (d_op o_add (d_op o_add (d_sl (d_v 8) d_oN (d_oI (d_v 2))) (d_v 6)) (d_tup (d_aC (d_tup (d_aC d_str (d_aC (d_v 7) (d_aC (d_ix (d_v 8) (d_v 2)) d_aN)))) d_aN))) (d_sl (d_v 8) (d_oI (d_op o_add (d_v 2) d_int)) d_oN)) (d_aC (d_v 9) d_aN))))))))))))))
set_option maxHeartbeats 4000000 in
theorem ok__law_same (T : Txt w K mg f fd cv cu cl tb) (O : Oks P w K mg base f fd n) : FnOk P w K mg base (L2.CX P w) (n + 1) (f ._law_same) (fd ._law_same) ["told", "due"] (rdF ⟨K, mg, W0⟩ (tab (n + 1) ._law_same)) :=
  fn_ok (N := nl__law_same) (g := b__law_same (tab n)) T.F__law_same sc__law_same fun cdv A outer s H E hr =>
    (t_cons (t_if (d_tv (d_callB (c_isi .str (by decide)) rfl T.n_isinstance boot_isinstance_ (d_aC (d_v 1) (d_aC (d_blt rfl T.n_str boot_str_ rfl) d_aN)))) (t_one (t_ret (d_vand (d_callB (c_isi .str (by decide)) rfl T.n_isinstance boot_isinstance_ (d_aC (d_v 0) (d_aC (d_blt rfl T.n_str boot_str_ rfl) d_aN))) (d_one (d_cmp (o_eq hr.units) (d_v 0) (d_v 1)))))) t_nil)
    (t_cons (t_if (d_tv (d_callB (c_isi .int (by decide)) rfl T.n_isinstance boot_isinstance_ (d_aC (d_v 1) (d_aC (d_blt rfl T.n_int boot_int_ rfl) d_aN)))) (t_one (t_ret (d_vand (d_callB (c_isi .int (by decide)) rfl T.n_isinstance boot_isinstance_ (d_aC (d_v 0) (d_aC (d_blt rfl T.n_int boot_int_ rfl) d_aN))) (d_vand (d_vnot (d_callB (c_isi .bl (by decide)) rfl T.n_isinstance boot_isinstance_ (d_aC (d_v 0) (d_aC (d_blt rfl T.n_bool boot_bool_ rfl) d_aN)))) (d_one (d_cmp (o_eq hr.units) (d_v 0) (d_v 1))))))) t_nil)
    (t_cons (t_if (PW.pt (d_or (d_not (d_tv (d_callB (c_isi .tup (by decide)) rfl T.n_isinstance boot_isinstance_ (d_aC (d_v 0) (d_aC (d_blt rfl T.n_tuple boot_tuple_ rfl) d_aN))))) (d_or1 (d_tcmp (o_ne hr.units) (d_callB c_len rfl T.n_len boot_len_ (d_aC (d_v 0) d_aN)) (d_callB c_len rfl T.n_len boot_len_ (d_aC (d_v 1) d_aN)))))) (t_one (t_ret d_bl)) t_nil)
    (t_cons (t_for (passes_of rfl) rfl (w_rng1 rfl T.n_range (d_callB c_len rfl T.n_len boot_len_ (d_aC (d_v 1) d_aN))) (g_nm (j := 2) sc__law_same.nd) (t_one (t_if (d_not (d_tv (d_call O.o__law_same hr rfl T.m__law_same T.F__law_same.kp T.b__law_same (fun σ => passAt (takes_of rfl rfl rfl rfl) σ) (d_aC (d_ix (d_v 0) (d_v 2)) (d_aC (d_ix (d_v 1) (d_v 2)) d_aN))))) (t_one (t_ret d_bl)) t_nil)))
    (t_one (t_ret d_bl))))))
set_option maxHeartbeats 4000000 in
theorem ok__law_step_right (T : Txt w K mg f fd cv cu cl tb) (O : Oks P w K mg base f fd n) : FnOk P w K mg base (L2.CX P w) (n + 1) (f ._law_step_right) (fd ._law_step_right) ["line", "head", "told"] (rdF ⟨K, mg, W0⟩ (tab (n + 1) ._law_step_right)) :=
  fn_ok (N := nl__law_step_right) (g := b__law_step_right (tab n)) T.F__law_step_right sc__law_step_right fun cdv A outer s H E hr =>
    (t_cons (t_if (PW.pt (d_or (d_not (d_tv (d_callB (c_isi .tup (by decide)) rfl T.n_isinstance boot_isinstance_ (d_aC (d_v 2) (d_aC (d_blt rfl T.n_tuple boot_tuple_ rfl) d_aN))))) (d_or (d_tcmp (o_ne hr.units) (d_callB c_len rfl T.n_len boot_len_ (d_aC (d_v 2) d_aN)) d_int) (d_or1 (d_not (d_tv (d_call O.o__law_same hr rfl T.m__law_same T.F__law_same.kp T.b__law_same (fun σ => passAt (takes_of rfl rfl rfl rfl) σ) (d_aC (d_sl (d_v 2) d_oN (d_oI d_int)) (d_aC (d_v 1) d_aN))))))))) (t_one (t_ret d_bl)) t_nil)
    (t_cons (t_set (j := 3) sc__law_step_right.nd (d_ix (d_v 2) d_int))
    (t_cons (t_if (d_not (d_tv (d_callB (c_isi .tup (by decide)) rfl T.n_isinstance boot_isinstance_ (d_aC (d_v 3) (d_aC (d_blt rfl T.n_tuple boot_tuple_ rfl) d_aN))))) (t_one (t_ret d_bl)) t_nil)
    (t_cons (t_for (passes_of rfl) rfl (w_any (d_v 3)) (g_nm (j := 4) sc__law_step_right.nd) (t_one (t_if (PW.pt (d_or (d_not (d_tv (d_callB (c_isi .tup (by decide)) rfl T.n_isinstance boot_isinstance_ (d_aC (d_v 4) (d_aC (d_blt rfl T.n_tuple boot_tuple_ rfl) d_aN))))) (d_or (d_tcmp (o_ne hr.units) (d_callB c_len rfl T.n_len boot_len_ (d_aC (d_v 4) d_aN)) d_int) (d_or1 (d_not (d_tv (d_callB (c_isi .tup (by decide)) rfl T.n_isinstance boot_isinstance_ (d_aC (d_ix (d_v 4) d_int) (d_aC (d_blt rfl T.n_tuple boot_tuple_ rfl) d_aN))))))))) (t_one (t_ret d_bl)) t_nil)))
    (t_cons (t_if (d_tcmp (o_ne hr.units) (d_lc (own := [("part", 4)]) (g := (.one 4)) rfl sc__law_step_right.nd (w_any (d_v 3)) (blkOk_by (own := [("part", 4)]) (N := nl__law_step_right) (sc := defScope st__law_step_right) (by decide +kernel)) (by decide) (fun _ _ _ _ _ => (v_one sc__law_step_right.nd)) (fun _ _ _ _ _ => u_nil) (fun _ _ _ _ _ => (d_callB c_len rfl T.n_len boot_len_ (d_aC (d_ix (d_v 4) d_int) d_aN)))) (d_call O.o__law_lengths hr rfl T.m__law_lengths T.F__law_lengths.kp T.b__law_lengths (fun σ => passAt (takes_of rfl rfl rfl rfl) σ) (d_aC (d_v 1) (d_aC (d_callB c_len rfl T.n_len boot_len_ (d_aC (d_ix (d_v 0) d_int) d_aN)) d_aN)))) (t_one (t_ret d_bl)) t_nil)
    (t_one (t_ret (d_vor (d_cmp (o_eq hr.units) (d_callB c_len rfl T.n_len boot_len_ (d_aC (d_v 3) d_aN)) d_int) (d_one (d_call O.o__law_same hr rfl T.m__law_same T.F__law_same.kp T.b__law_same (fun σ => passAt (takes_of rfl rfl rfl rfl) σ) (d_aC (d_call O.o__law_leads hr rfl T.m__law_leads T.F__law_leads.kp T.b__law_leads (fun σ => passAt (takes_of rfl rfl rfl rfl) σ) (d_aC (d_v 1) (d_aC (d_v 3) d_aN))) (d_aC (d_v 0) d_aN))))))))))))
set_option maxHeartbeats 4000000 in
theorem ok__law_all_told (T : Txt w K mg f fd cv cu cl tb) (O : Oks P w K mg base f fd n) : FnOk P w K mg base (L2.CX P w) (n + 1) (f ._law_all_told) (fd ._law_all_told) ["line"] (rdF ⟨K, mg, W0⟩ (tab (n + 1) ._law_all_told)) :=
  fn_ok (N := nl__law_all_told) (g := b__law_all_told (tab n)) T.F__law_all_told sc__law_all_told fun cdv A outer s H E hr =>
    (t_cons (t_set (j := 1) sc__law_all_told.nd (d_call O.o_last_steps hr rfl T.m_last_steps T.F_last_steps.kp T.b_last_steps (fun σ => passAt (takes_of rfl rfl rfl rfl) σ) (d_aC (d_v 0) d_aN)))
    (t_cons (t_set (j := 2) sc__law_all_told.nd (d_call O.o__law_heads hr rfl T.m__law_heads T.F__law_heads.kp T.b__law_heads (fun σ => passAt (takes_of rfl rfl rfl rfl) σ) (d_aC (d_v 0) d_aN)))
    (t_cons (t_if (PW.pt (d_or (d_not (d_tv (d_callB (c_isi .tup (by decide)) rfl T.n_isinstance boot_isinstance_ (d_aC (d_v 1) (d_aC (d_blt rfl T.n_tuple boot_tuple_ rfl) d_aN))))) (d_or1 (d_tcmp (o_ne hr.units) (d_callB c_len rfl T.n_len boot_len_ (d_aC (d_v 1) d_aN)) (d_callB c_len rfl T.n_len boot_len_ (d_aC (d_v 2) d_aN)))))) (t_one (t_ret d_bl)) t_nil)
    (t_cons (t_for (passes_of rfl) rfl (w_rng1 rfl T.n_range (d_callB c_len rfl T.n_len boot_len_ (d_aC (d_v 2) d_aN))) (g_nm (j := 3) sc__law_all_told.nd) (t_one (t_if (d_not (d_tv (d_call O.o__law_step_right hr rfl T.m__law_step_right T.F__law_step_right.kp T.b__law_step_right (fun σ => passAt (takes_of rfl rfl rfl rfl) σ) (d_aC (d_v 0) (d_aC (d_ix (d_v 2) (d_v 3)) (d_aC (d_ix (d_v 1) (d_v 3)) d_aN)))))) (t_one (t_ret d_bl)) t_nil)))
    (t_one (t_ret d_bl))))))
set_option maxHeartbeats 4000000 in
theorem ok_law (T : Txt w K mg f fd cv cu cl tb) (O : Oks P w K mg base f fd n) : FnOk P w K mg base (L2.CX P w) (n + 1) (f .law) (fd .law) ["script"] (rdF ⟨K, mg, W0⟩ (tab (n + 1) .law)) :=
  fn_ok (N := nl_law) (g := b_law (tab n)) T.F_law sc_law fun cdv A outer s H E hr =>
    (t_cons (t_set (j := 1) sc_law.nd (d_call O.o__law_sequent hr rfl T.m__law_sequent T.F__law_sequent.kp T.b__law_sequent (fun σ => passAt (takes_of rfl rfl rfl rfl) σ) (d_aC (d_call O.o__law_pool hr rfl T.m__law_pool T.F__law_pool.kp T.b__law_pool (fun σ => passAt (takes_of rfl rfl rfl rfl) σ) (d_aC (d_v 0) (d_aC d_int d_aN))) d_aN)))
    (t_cons (t_set (j := 2) sc_law.nd (d_call O.o__law_sequent hr rfl T.m__law_sequent T.F__law_sequent.kp T.b__law_sequent (fun σ => passAt (takes_of rfl rfl rfl rfl) σ) (d_aC (d_call O.o__law_pool hr rfl T.m__law_pool T.F__law_pool.kp T.b__law_pool (fun σ => passAt (takes_of rfl rfl rfl rfl) σ) (d_aC (d_v 0) (d_aC d_int d_aN))) d_aN)))
    (t_cons (t_if (PW.pt (d_or (d_not (d_tv (d_call O.o__law_all_told hr rfl T.m__law_all_told T.F__law_all_told.kp T.b__law_all_told (fun σ => passAt (takes_of rfl rfl rfl rfl) σ) (d_aC (d_v 1) d_aN)))) (d_or1 (d_not (d_tv (d_call O.o__law_all_told hr rfl T.m__law_all_told T.F__law_all_told.kp T.b__law_all_told (fun σ => passAt (takes_of rfl rfl rfl rfl) σ) (d_aC (d_v 2) d_aN))))))) (t_one (t_ret d_bl)) t_nil)
    (t_one (t_ret (d_vor (d_cmp o_gt (d_callB c_len rfl T.n_len boot_len_ (d_aC (d_ix (d_v 1) d_int) d_aN)) d_int) (d_one (d_call O.o__law_all_told hr rfl T.m__law_all_told T.F__law_all_told.kp T.b__law_all_told (fun σ => passAt (takes_of rfl rfl rfl rfl) σ) (d_aC (d_v 1) d_aN)))))))))
theorem oks (T : Txt w K mg f fd cv cu cl tb) : ∀ n : Nat, Oks P w K mg base f fd n
  | 0 => ⟨fn_zero, fn_zero, fn_zero, fn_zero, fn_zero, fn_zero, fn_zero, fn_zero, fn_zero, fn_zero, fn_zero, fn_zero, fn_zero, fn_zero, fn_zero, fn_zero, fn_zero, fn_zero, fn_zero, fn_zero, fn_zero, fn_zero, fn_zero⟩
  | n + 1 => by
    have O := oks T n
    exact ⟨ok_goal_steps T O, ok_over_left_steps T O, ok_under_left_steps T O, ok_premise_steps T O, ok_last_steps T O, ok__law_cell T O, ok__law_mix T O, ok__law_pool T O, ok__law_draw T O, ok__law_base T O, ok__law_numbered T O, ok__law_lot T O, ok__law_kind T O, ok__law_spread T O, ok__law_sizes T O, ok__law_sequent T O, ok__law_heads T O, ok__law_lengths T O, ok__law_leads T O, ok__law_same T O, ok__law_step_right T O, ok__law_all_told T O, ok_law T O⟩
end
set_option maxHeartbeats 4000000 in
theorem all_mk (LV : Nat) {l : PySem.W.OpenLaw} {w : World} {K : PySem.W.Frag} {h : Heap} {mg : Str → Option Value} {fa : Addr} (X : K.In h) (G : h.Ns mainGlobals mg) (hfa : mg "law" = some (.ref fa))
    {f0 : Addr} {od0 an0 : Option Addr} {sl0 : Array (Option Value)} {oc0 kV0 dc0 pm0 cd0 ct0 : Value}
    {f1 : Addr} {od1 an1 : Option Addr} {sl1 : Array (Option Value)} {oc1 kV1 dc1 pm1 cd1 ct1 : Value}
    {f2 : Addr} {od2 an2 : Option Addr} {sl2 : Array (Option Value)} {oc2 kV2 dc2 pm2 cd2 ct2 : Value}
    {f3 : Addr} {od3 an3 : Option Addr} {sl3 : Array (Option Value)} {oc3 kV3 dc3 pm3 cd3 ct3 : Value}
    {f4 : Addr} {od4 an4 : Option Addr} {sl4 : Array (Option Value)} {oc4 kV4 dc4 pm4 cd4 ct4 : Value}
    {f5 : Addr} {od5 an5 : Option Addr} {sl5 : Array (Option Value)} {oc5 kV5 dc5 pm5 cd5 ct5 : Value}
    {f6 : Addr} {od6 an6 : Option Addr} {sl6 : Array (Option Value)} {oc6 kV6 dc6 pm6 cd6 ct6 : Value}
    {f7 : Addr} {od7 an7 : Option Addr} {sl7 : Array (Option Value)} {oc7 kV7 dc7 pm7 cd7 ct7 : Value}
    {f8 : Addr} {od8 an8 : Option Addr} {sl8 : Array (Option Value)} {oc8 kV8 dc8 pm8 cd8 ct8 : Value}
    {f9 : Addr} {od9 an9 : Option Addr} {sl9 : Array (Option Value)} {oc9 kV9 dc9 pm9 cd9 ct9 : Value}
    {f10 : Addr} {od10 an10 : Option Addr} {sl10 : Array (Option Value)} {oc10 kV10 dc10 pm10 cd10 ct10 : Value}
    {f11 : Addr} {od11 an11 : Option Addr} {sl11 : Array (Option Value)} {oc11 kV11 dc11 pm11 cd11 ct11 : Value}
    {f12 : Addr} {od12 an12 : Option Addr} {sl12 : Array (Option Value)} {oc12 kV12 dc12 pm12 cd12 ct12 : Value}
    {f13 : Addr} {od13 an13 : Option Addr} {sl13 : Array (Option Value)} {oc13 kV13 dc13 pm13 cd13 ct13 : Value}
    {f14 : Addr} {od14 an14 : Option Addr} {sl14 : Array (Option Value)} {oc14 kV14 dc14 pm14 cd14 ct14 : Value}
    {f15 : Addr} {od15 an15 : Option Addr} {sl15 : Array (Option Value)} {oc15 kV15 dc15 pm15 cd15 ct15 : Value}
    {f16 : Addr} {od16 an16 : Option Addr} {sl16 : Array (Option Value)} {oc16 kV16 dc16 pm16 cd16 ct16 : Value}
    {f17 : Addr} {od17 an17 : Option Addr} {sl17 : Array (Option Value)} {oc17 kV17 dc17 pm17 cd17 ct17 : Value}
    {f18 : Addr} {od18 an18 : Option Addr} {sl18 : Array (Option Value)} {oc18 kV18 dc18 pm18 cd18 ct18 : Value}
    {f19 : Addr} {od19 an19 : Option Addr} {sl19 : Array (Option Value)} {oc19 kV19 dc19 pm19 cd19 ct19 : Value}
    {f20 : Addr} {od20 an20 : Option Addr} {sl20 : Array (Option Value)} {oc20 kV20 dc20 pm20 cd20 ct20 : Value}
    {f21 : Addr} {od21 an21 : Option Addr} {sl21 : Array (Option Value)} {oc21 kV21 dc21 pm21 cd21 ct21 : Value}
    {f22 : Addr} {od22 an22 : Option Addr} {sl22 : Array (Option Value)} {oc22 kV22 dc22 pm22 cd22 ct22 : Value}
    (a0 : PySem.W.nsIn K mainGlobals "goal_steps" = some (some (.ref f0))) (l0 : K.lookup f0 = some ⟨oc0, od0, .func (PySem.W.fnOf "goal_steps" "goal_steps" (defArgs st_goal_steps) (defBody st_goal_steps) (defScope st_goal_steps) .none kV0 dc0 pm0 an0 cd0 ct0), sl0⟩) (c0 : PySem.W.codeIn K cd0 "goal_steps" = true) (k0 : PySem.W.keepIn K (.ref f0) = true)
    (a1 : PySem.W.nsIn K mainGlobals "over_left_steps" = some (some (.ref f1))) (l1 : K.lookup f1 = some ⟨oc1, od1, .func (PySem.W.fnOf "over_left_steps" "over_left_steps" (defArgs st_over_left_steps) (defBody st_over_left_steps) (defScope st_over_left_steps) .none kV1 dc1 pm1 an1 cd1 ct1), sl1⟩) (c1 : PySem.W.codeIn K cd1 "over_left_steps" = true) (k1 : PySem.W.keepIn K (.ref f1) = true)
    (a2 : PySem.W.nsIn K mainGlobals "under_left_steps" = some (some (.ref f2))) (l2 : K.lookup f2 = some ⟨oc2, od2, .func (PySem.W.fnOf "under_left_steps" "under_left_steps" (defArgs st_under_left_steps) (defBody st_under_left_steps) (defScope st_under_left_steps) .none kV2 dc2 pm2 an2 cd2 ct2), sl2⟩) (c2 : PySem.W.codeIn K cd2 "under_left_steps" = true) (k2 : PySem.W.keepIn K (.ref f2) = true)
    (a3 : PySem.W.nsIn K mainGlobals "premise_steps" = some (some (.ref f3))) (l3 : K.lookup f3 = some ⟨oc3, od3, .func (PySem.W.fnOf "premise_steps" "premise_steps" (defArgs st_premise_steps) (defBody st_premise_steps) (defScope st_premise_steps) .none kV3 dc3 pm3 an3 cd3 ct3), sl3⟩) (c3 : PySem.W.codeIn K cd3 "premise_steps" = true) (k3 : PySem.W.keepIn K (.ref f3) = true)
    (a4 : PySem.W.nsIn K mainGlobals "last_steps" = some (some (.ref f4))) (l4 : K.lookup f4 = some ⟨oc4, od4, .func (PySem.W.fnOf "last_steps" "last_steps" (defArgs st_last_steps) (defBody st_last_steps) (defScope st_last_steps) .none kV4 dc4 pm4 an4 cd4 ct4), sl4⟩) (c4 : PySem.W.codeIn K cd4 "last_steps" = true) (k4 : PySem.W.keepIn K (.ref f4) = true)
    (a5 : PySem.W.nsIn K mainGlobals "_law_cell" = some (some (.ref f5))) (l5 : K.lookup f5 = some ⟨oc5, od5, .func (PySem.W.fnOf "_law_cell" "_law_cell" (defArgs st__law_cell) (defBody st__law_cell) (defScope st__law_cell) .none kV5 dc5 pm5 an5 cd5 ct5), sl5⟩) (c5 : PySem.W.codeIn K cd5 "_law_cell" = true) (k5 : PySem.W.keepIn K (.ref f5) = true)
    (a6 : PySem.W.nsIn K mainGlobals "_law_mix" = some (some (.ref f6))) (l6 : K.lookup f6 = some ⟨oc6, od6, .func (PySem.W.fnOf "_law_mix" "_law_mix" (defArgs st__law_mix) (defBody st__law_mix) (defScope st__law_mix) .none kV6 dc6 pm6 an6 cd6 ct6), sl6⟩) (c6 : PySem.W.codeIn K cd6 "_law_mix" = true) (k6 : PySem.W.keepIn K (.ref f6) = true)
    (a7 : PySem.W.nsIn K mainGlobals "_law_pool" = some (some (.ref f7))) (l7 : K.lookup f7 = some ⟨oc7, od7, .func (PySem.W.fnOf "_law_pool" "_law_pool" (defArgs st__law_pool) (defBody st__law_pool) (defScope st__law_pool) .none kV7 dc7 pm7 an7 cd7 ct7), sl7⟩) (c7 : PySem.W.codeIn K cd7 "_law_pool" = true) (k7 : PySem.W.keepIn K (.ref f7) = true)
    (a8 : PySem.W.nsIn K mainGlobals "_law_draw" = some (some (.ref f8))) (l8 : K.lookup f8 = some ⟨oc8, od8, .func (PySem.W.fnOf "_law_draw" "_law_draw" (defArgs st__law_draw) (defBody st__law_draw) (defScope st__law_draw) .none kV8 dc8 pm8 an8 cd8 ct8), sl8⟩) (c8 : PySem.W.codeIn K cd8 "_law_draw" = true) (k8 : PySem.W.keepIn K (.ref f8) = true)
    (a9 : PySem.W.nsIn K mainGlobals "_law_base" = some (some (.ref f9))) (l9 : K.lookup f9 = some ⟨oc9, od9, .func (PySem.W.fnOf "_law_base" "_law_base" (defArgs st__law_base) (defBody st__law_base) (defScope st__law_base) .none kV9 dc9 pm9 an9 cd9 ct9), sl9⟩) (c9 : PySem.W.codeIn K cd9 "_law_base" = true) (k9 : PySem.W.keepIn K (.ref f9) = true)
    (a10 : PySem.W.nsIn K mainGlobals "_law_numbered" = some (some (.ref f10))) (l10 : K.lookup f10 = some ⟨oc10, od10, .func (PySem.W.fnOf "_law_numbered" "_law_numbered" (defArgs st__law_numbered) (defBody st__law_numbered) (defScope st__law_numbered) .none kV10 dc10 pm10 an10 cd10 ct10), sl10⟩) (c10 : PySem.W.codeIn K cd10 "_law_numbered" = true) (k10 : PySem.W.keepIn K (.ref f10) = true)
    (a11 : PySem.W.nsIn K mainGlobals "_law_lot" = some (some (.ref f11))) (l11 : K.lookup f11 = some ⟨oc11, od11, .func (PySem.W.fnOf "_law_lot" "_law_lot" (defArgs st__law_lot) (defBody st__law_lot) (defScope st__law_lot) .none kV11 dc11 pm11 an11 cd11 ct11), sl11⟩) (c11 : PySem.W.codeIn K cd11 "_law_lot" = true) (k11 : PySem.W.keepIn K (.ref f11) = true)
    (a12 : PySem.W.nsIn K mainGlobals "_law_kind" = some (some (.ref f12))) (l12 : K.lookup f12 = some ⟨oc12, od12, .func (PySem.W.fnOf "_law_kind" "_law_kind" (defArgs st__law_kind) (defBody st__law_kind) (defScope st__law_kind) .none kV12 dc12 pm12 an12 cd12 ct12), sl12⟩) (c12 : PySem.W.codeIn K cd12 "_law_kind" = true) (k12 : PySem.W.keepIn K (.ref f12) = true)
    (a13 : PySem.W.nsIn K mainGlobals "_law_spread" = some (some (.ref f13))) (l13 : K.lookup f13 = some ⟨oc13, od13, .func (PySem.W.fnOf "_law_spread" "_law_spread" (defArgs st__law_spread) (defBody st__law_spread) (defScope st__law_spread) .none kV13 dc13 pm13 an13 cd13 ct13), sl13⟩) (c13 : PySem.W.codeIn K cd13 "_law_spread" = true) (k13 : PySem.W.keepIn K (.ref f13) = true)
    (a14 : PySem.W.nsIn K mainGlobals "_law_sizes" = some (some (.ref f14))) (l14 : K.lookup f14 = some ⟨oc14, od14, .func (PySem.W.fnOf "_law_sizes" "_law_sizes" (defArgs st__law_sizes) (defBody st__law_sizes) (defScope st__law_sizes) .none kV14 dc14 pm14 an14 cd14 ct14), sl14⟩) (c14 : PySem.W.codeIn K cd14 "_law_sizes" = true) (k14 : PySem.W.keepIn K (.ref f14) = true)
    (a15 : PySem.W.nsIn K mainGlobals "_law_sequent" = some (some (.ref f15))) (l15 : K.lookup f15 = some ⟨oc15, od15, .func (PySem.W.fnOf "_law_sequent" "_law_sequent" (defArgs st__law_sequent) (defBody st__law_sequent) (defScope st__law_sequent) .none kV15 dc15 pm15 an15 cd15 ct15), sl15⟩) (c15 : PySem.W.codeIn K cd15 "_law_sequent" = true) (k15 : PySem.W.keepIn K (.ref f15) = true)
    (a16 : PySem.W.nsIn K mainGlobals "_law_heads" = some (some (.ref f16))) (l16 : K.lookup f16 = some ⟨oc16, od16, .func (PySem.W.fnOf "_law_heads" "_law_heads" (defArgs st__law_heads) (defBody st__law_heads) (defScope st__law_heads) .none kV16 dc16 pm16 an16 cd16 ct16), sl16⟩) (c16 : PySem.W.codeIn K cd16 "_law_heads" = true) (k16 : PySem.W.keepIn K (.ref f16) = true)
    (a17 : PySem.W.nsIn K mainGlobals "_law_lengths" = some (some (.ref f17))) (l17 : K.lookup f17 = some ⟨oc17, od17, .func (PySem.W.fnOf "_law_lengths" "_law_lengths" (defArgs st__law_lengths) (defBody st__law_lengths) (defScope st__law_lengths) .none kV17 dc17 pm17 an17 cd17 ct17), sl17⟩) (c17 : PySem.W.codeIn K cd17 "_law_lengths" = true) (k17 : PySem.W.keepIn K (.ref f17) = true)
    (a18 : PySem.W.nsIn K mainGlobals "_law_leads" = some (some (.ref f18))) (l18 : K.lookup f18 = some ⟨oc18, od18, .func (PySem.W.fnOf "_law_leads" "_law_leads" (defArgs st__law_leads) (defBody st__law_leads) (defScope st__law_leads) .none kV18 dc18 pm18 an18 cd18 ct18), sl18⟩) (c18 : PySem.W.codeIn K cd18 "_law_leads" = true) (k18 : PySem.W.keepIn K (.ref f18) = true)
    (a19 : PySem.W.nsIn K mainGlobals "_law_same" = some (some (.ref f19))) (l19 : K.lookup f19 = some ⟨oc19, od19, .func (PySem.W.fnOf "_law_same" "_law_same" (defArgs st__law_same) (defBody st__law_same) (defScope st__law_same) .none kV19 dc19 pm19 an19 cd19 ct19), sl19⟩) (c19 : PySem.W.codeIn K cd19 "_law_same" = true) (k19 : PySem.W.keepIn K (.ref f19) = true)
    (a20 : PySem.W.nsIn K mainGlobals "_law_step_right" = some (some (.ref f20))) (l20 : K.lookup f20 = some ⟨oc20, od20, .func (PySem.W.fnOf "_law_step_right" "_law_step_right" (defArgs st__law_step_right) (defBody st__law_step_right) (defScope st__law_step_right) .none kV20 dc20 pm20 an20 cd20 ct20), sl20⟩) (c20 : PySem.W.codeIn K cd20 "_law_step_right" = true) (k20 : PySem.W.keepIn K (.ref f20) = true)
    (a21 : PySem.W.nsIn K mainGlobals "_law_all_told" = some (some (.ref f21))) (l21 : K.lookup f21 = some ⟨oc21, od21, .func (PySem.W.fnOf "_law_all_told" "_law_all_told" (defArgs st__law_all_told) (defBody st__law_all_told) (defScope st__law_all_told) .none kV21 dc21 pm21 an21 cd21 ct21), sl21⟩) (c21 : PySem.W.codeIn K cd21 "_law_all_told" = true) (k21 : PySem.W.keepIn K (.ref f21) = true)
    (a22 : PySem.W.nsIn K mainGlobals "law" = some (some (.ref f22))) (l22 : K.lookup f22 = some ⟨oc22, od22, .func (PySem.W.fnOf "law" "law" (defArgs st_law) (defBody st_law) (defScope st_law) .none kV22 dc22 pm22 an22 cd22 ct22), sl22⟩) (c22 : PySem.W.codeIn K cd22 "law" = true) (k22 : PySem.W.keepIn K (.ref f22) = true)
    (z0 : PySem.W.nsIn K mainGlobals "isinstance" = some none) (z1 : PySem.W.nsIn K mainGlobals "str" = some none) (z2 : PySem.W.nsIn K mainGlobals "range" = some none) (z3 : PySem.W.nsIn K mainGlobals "len" = some none) (z4 : PySem.W.nsIn K mainGlobals "tuple" = some none) (z5 : PySem.W.nsIn K mainGlobals "int" = some none) (z6 : PySem.W.nsIn K mainGlobals "abs" = some none) (z7 : PySem.W.nsIn K mainGlobals "min" = some none) (z8 : PySem.W.nsIn K mainGlobals "sum" = some none) (z9 : PySem.W.nsIn K mainGlobals "bool" = some none) 
     :
    ∃ fd : FuncData, (∀ (s : Shared) (v : Value), BindsTo s fd ⟨[v], []⟩ [("script", v)]) ∧ ∀ base : Heap, K.In base → base.Ns mainGlobals mg → FnOk l.prog w K mg base (L2.CX l.prog w) LV fa fd ["script"] (rdF ⟨K, mg, W0⟩ (tab LV .law)) := by
  have e := hfa.symm.trans (PySem.W.mg_of X G a22)
  cases e
  let f : FN → Addr := fun
    | .goal_steps => f0
    | .over_left_steps => f1
    | .under_left_steps => f2
    | .premise_steps => f3
    | .last_steps => f4
    | ._law_cell => f5
    | ._law_mix => f6
    | ._law_pool => f7
    | ._law_draw => f8
    | ._law_base => f9
    | ._law_numbered => f10
    | ._law_lot => f11
    | ._law_kind => f12
    | ._law_spread => f13
    | ._law_sizes => f14
    | ._law_sequent => f15
    | ._law_heads => f16
    | ._law_lengths => f17
    | ._law_leads => f18
    | ._law_same => f19
    | ._law_step_right => f20
    | ._law_all_told => f21
    | .law => fa
  let fd : FN → FuncData := fun
    | .goal_steps => PySem.W.fnOf "goal_steps" "goal_steps" (defArgs st_goal_steps) (defBody st_goal_steps) (defScope st_goal_steps) .none kV0 dc0 pm0 an0 cd0 ct0
    | .over_left_steps => PySem.W.fnOf "over_left_steps" "over_left_steps" (defArgs st_over_left_steps) (defBody st_over_left_steps) (defScope st_over_left_steps) .none kV1 dc1 pm1 an1 cd1 ct1
    | .under_left_steps => PySem.W.fnOf "under_left_steps" "under_left_steps" (defArgs st_under_left_steps) (defBody st_under_left_steps) (defScope st_under_left_steps) .none kV2 dc2 pm2 an2 cd2 ct2
    | .premise_steps => PySem.W.fnOf "premise_steps" "premise_steps" (defArgs st_premise_steps) (defBody st_premise_steps) (defScope st_premise_steps) .none kV3 dc3 pm3 an3 cd3 ct3
    | .last_steps => PySem.W.fnOf "last_steps" "last_steps" (defArgs st_last_steps) (defBody st_last_steps) (defScope st_last_steps) .none kV4 dc4 pm4 an4 cd4 ct4
    | ._law_cell => PySem.W.fnOf "_law_cell" "_law_cell" (defArgs st__law_cell) (defBody st__law_cell) (defScope st__law_cell) .none kV5 dc5 pm5 an5 cd5 ct5
    | ._law_mix => PySem.W.fnOf "_law_mix" "_law_mix" (defArgs st__law_mix) (defBody st__law_mix) (defScope st__law_mix) .none kV6 dc6 pm6 an6 cd6 ct6
    | ._law_pool => PySem.W.fnOf "_law_pool" "_law_pool" (defArgs st__law_pool) (defBody st__law_pool) (defScope st__law_pool) .none kV7 dc7 pm7 an7 cd7 ct7
    | ._law_draw => PySem.W.fnOf "_law_draw" "_law_draw" (defArgs st__law_draw) (defBody st__law_draw) (defScope st__law_draw) .none kV8 dc8 pm8 an8 cd8 ct8
    | ._law_base => PySem.W.fnOf "_law_base" "_law_base" (defArgs st__law_base) (defBody st__law_base) (defScope st__law_base) .none kV9 dc9 pm9 an9 cd9 ct9
    | ._law_numbered => PySem.W.fnOf "_law_numbered" "_law_numbered" (defArgs st__law_numbered) (defBody st__law_numbered) (defScope st__law_numbered) .none kV10 dc10 pm10 an10 cd10 ct10
    | ._law_lot => PySem.W.fnOf "_law_lot" "_law_lot" (defArgs st__law_lot) (defBody st__law_lot) (defScope st__law_lot) .none kV11 dc11 pm11 an11 cd11 ct11
    | ._law_kind => PySem.W.fnOf "_law_kind" "_law_kind" (defArgs st__law_kind) (defBody st__law_kind) (defScope st__law_kind) .none kV12 dc12 pm12 an12 cd12 ct12
    | ._law_spread => PySem.W.fnOf "_law_spread" "_law_spread" (defArgs st__law_spread) (defBody st__law_spread) (defScope st__law_spread) .none kV13 dc13 pm13 an13 cd13 ct13
    | ._law_sizes => PySem.W.fnOf "_law_sizes" "_law_sizes" (defArgs st__law_sizes) (defBody st__law_sizes) (defScope st__law_sizes) .none kV14 dc14 pm14 an14 cd14 ct14
    | ._law_sequent => PySem.W.fnOf "_law_sequent" "_law_sequent" (defArgs st__law_sequent) (defBody st__law_sequent) (defScope st__law_sequent) .none kV15 dc15 pm15 an15 cd15 ct15
    | ._law_heads => PySem.W.fnOf "_law_heads" "_law_heads" (defArgs st__law_heads) (defBody st__law_heads) (defScope st__law_heads) .none kV16 dc16 pm16 an16 cd16 ct16
    | ._law_lengths => PySem.W.fnOf "_law_lengths" "_law_lengths" (defArgs st__law_lengths) (defBody st__law_lengths) (defScope st__law_lengths) .none kV17 dc17 pm17 an17 cd17 ct17
    | ._law_leads => PySem.W.fnOf "_law_leads" "_law_leads" (defArgs st__law_leads) (defBody st__law_leads) (defScope st__law_leads) .none kV18 dc18 pm18 an18 cd18 ct18
    | ._law_same => PySem.W.fnOf "_law_same" "_law_same" (defArgs st__law_same) (defBody st__law_same) (defScope st__law_same) .none kV19 dc19 pm19 an19 cd19 ct19
    | ._law_step_right => PySem.W.fnOf "_law_step_right" "_law_step_right" (defArgs st__law_step_right) (defBody st__law_step_right) (defScope st__law_step_right) .none kV20 dc20 pm20 an20 cd20 ct20
    | ._law_all_told => PySem.W.fnOf "_law_all_told" "_law_all_told" (defArgs st__law_all_told) (defBody st__law_all_told) (defScope st__law_all_told) .none kV21 dc21 pm21 an21 cd21 ct21
    | .law => PySem.W.fnOf "law" "law" (defArgs st_law) (defBody st_law) (defScope st_law) .none kV22 dc22 pm22 an22 cd22 ct22
  let cv : Nat → V := fun i => ([] : List V).getD i .non
  let cu : Nat → Value := fun i => ([] : List Value).getD i .none
  have F0 : Fun K "goal_steps" "goal_steps" st_goal_steps (f .goal_steps) (fd .goal_steps) := fun_mk (st := st_goal_steps) l0 c0 k0
  have b0 : Binds K (fd .goal_steps) ["premises", "goal"] [] := F0.binds (ps := ["premises", "goal"]) fun _ _ _ _ _ _ us hl => match us, hl with | [_, _], _ => rfl
  have F1 : Fun K "over_left_steps" "over_left_steps" st_over_left_steps (f .over_left_steps) (fd .over_left_steps) := fun_mk (st := st_over_left_steps) l1 c1 k1
  have b1 : Binds K (fd .over_left_steps) ["premises", "goal", "at"] [] := F1.binds (ps := ["premises", "goal", "at"]) fun _ _ _ _ _ _ us hl => match us, hl with | [_, _, _], _ => rfl
  have F2 : Fun K "under_left_steps" "under_left_steps" st_under_left_steps (f .under_left_steps) (fd .under_left_steps) := fun_mk (st := st_under_left_steps) l2 c2 k2
  have b2 : Binds K (fd .under_left_steps) ["premises", "goal", "at"] [] := F2.binds (ps := ["premises", "goal", "at"]) fun _ _ _ _ _ _ us hl => match us, hl with | [_, _, _], _ => rfl
  have F3 : Fun K "premise_steps" "premise_steps" st_premise_steps (f .premise_steps) (fd .premise_steps) := fun_mk (st := st_premise_steps) l3 c3 k3
  have b3 : Binds K (fd .premise_steps) ["premises", "goal", "at"] [] := F3.binds (ps := ["premises", "goal", "at"]) fun _ _ _ _ _ _ us hl => match us, hl with | [_, _, _], _ => rfl
  have F4 : Fun K "last_steps" "last_steps" st_last_steps (f .last_steps) (fd .last_steps) := fun_mk (st := st_last_steps) l4 c4 k4
  have b4 : Binds K (fd .last_steps) ["sequent"] [] := F4.binds (ps := ["sequent"]) fun _ _ _ _ _ _ us hl => match us, hl with | [_], _ => rfl
  have F5 : Fun K "_law_cell" "_law_cell" st__law_cell (f ._law_cell) (fd ._law_cell) := fun_mk (st := st__law_cell) l5 c5 k5
  have b5 : Binds K (fd ._law_cell) ["script", "k"] [] := F5.binds (ps := ["script", "k"]) fun _ _ _ _ _ _ us hl => match us, hl with | [_, _], _ => rfl
  have F6 : Fun K "_law_mix" "_law_mix" st__law_mix (f ._law_mix) (fd ._law_mix) := fun_mk (st := st__law_mix) l6 c6 k6
  have b6 : Binds K (fd ._law_mix) ["x"] [] := F6.binds (ps := ["x"]) fun _ _ _ _ _ _ us hl => match us, hl with | [_], _ => rfl
  have F7 : Fun K "_law_pool" "_law_pool" st__law_pool (f ._law_pool) (fd ._law_pool) := fun_mk (st := st__law_pool) l7 c7 k7
  have b7 : Binds K (fd ._law_pool) ["script", "k"] [] := F7.binds (ps := ["script", "k"]) fun _ _ _ _ _ _ us hl => match us, hl with | [_, _], _ => rfl
  have F8 : Fun K "_law_draw" "_law_draw" st__law_draw (f ._law_draw) (fd ._law_draw) := fun_mk (st := st__law_draw) l8 c8 k8
  have b8 : Binds K (fd ._law_draw) ["pool", "many"] [] := F8.binds (ps := ["pool", "many"]) fun _ _ _ _ _ _ us hl => match us, hl with | [_, _], _ => rfl
  have F9 : Fun K "_law_base" "_law_base" st__law_base (f ._law_base) (fd ._law_base) := fun_mk (st := st__law_base) l9 c9 k9
  have b9 : Binds K (fd ._law_base) ["pool"] [] := F9.binds (ps := ["pool"]) fun _ _ _ _ _ _ us hl => match us, hl with | [_], _ => rfl
  have F10 : Fun K "_law_numbered" "_law_numbered" st__law_numbered (f ._law_numbered) (fd ._law_numbered) := fun_mk (st := st__law_numbered) l10 c10 k10
  have b10 : Binds K (fd ._law_numbered) ["pool", "base"] [] := F10.binds (ps := ["pool", "base"]) fun _ _ _ _ _ _ us hl => match us, hl with | [_, _], _ => rfl
  have F11 : Fun K "_law_lot" "_law_lot" st__law_lot (f ._law_lot) (fd ._law_lot) := fun_mk (st := st__law_lot) l11 c11 k11
  have b11 : Binds K (fd ._law_lot) ["pool"] [] := F11.binds (ps := ["pool"]) fun _ _ _ _ _ _ us hl => match us, hl with | [_], _ => rfl
  have F12 : Fun K "_law_kind" "_law_kind" st__law_kind (f ._law_kind) (fd ._law_kind) := fun_mk (st := st__law_kind) l12 c12 k12
  have b12 : Binds K (fd ._law_kind) ["pool", "lot", "size"] [] := F12.binds (ps := ["pool", "lot", "size"]) fun _ _ _ _ _ _ us hl => match us, hl with | [_, _, _], _ => rfl
  have F13 : Fun K "_law_spread" "_law_spread" st__law_spread (f ._law_spread) (fd ._law_spread) := fun_mk (st := st__law_spread) l13 c13 k13
  have b13 : Binds K (fd ._law_spread) ["pool", "many", "most", "total"] [] := F13.binds (ps := ["pool", "many", "most", "total"]) fun _ _ _ _ _ _ us hl => match us, hl with | [_, _, _, _], _ => rfl
  have F14 : Fun K "_law_sizes" "_law_sizes" st__law_sizes (f ._law_sizes) (fd ._law_sizes) := fun_mk (st := st__law_sizes) l14 c14 k14
  have b14 : Binds K (fd ._law_sizes) ["pool"] [] := F14.binds (ps := ["pool"]) fun _ _ _ _ _ _ us hl => match us, hl with | [_], _ => rfl
  have F15 : Fun K "_law_sequent" "_law_sequent" st__law_sequent (f ._law_sequent) (fd ._law_sequent) := fun_mk (st := st__law_sequent) l15 c15 k15
  have b15 : Binds K (fd ._law_sequent) ["pool"] [] := F15.binds (ps := ["pool"]) fun _ _ _ _ _ _ us hl => match us, hl with | [_], _ => rfl
  have F16 : Fun K "_law_heads" "_law_heads" st__law_heads (f ._law_heads) (fd ._law_heads) := fun_mk (st := st__law_heads) l16 c16 k16
  have b16 : Binds K (fd ._law_heads) ["line"] [] := F16.binds (ps := ["line"]) fun _ _ _ _ _ _ us hl => match us, hl with | [_], _ => rfl
  have F17 : Fun K "_law_lengths" "_law_lengths" st__law_lengths (f ._law_lengths) (fd ._law_lengths) := fun_mk (st := st__law_lengths) l17 c17 k17
  have b17 : Binds K (fd ._law_lengths) ["head", "many"] [] := F17.binds (ps := ["head", "many"]) fun _ _ _ _ _ _ us hl => match us, hl with | [_, _], _ => rfl
  have F18 : Fun K "_law_leads" "_law_leads" st__law_leads (f ._law_leads) (fd ._law_leads) := fun_mk (st := st__law_leads) l18 c18 k18
  have b18 : Binds K (fd ._law_leads) ["head", "parts"] [] := F18.binds (ps := ["head", "parts"]) fun _ _ _ _ _ _ us hl => match us, hl with | [_, _], _ => rfl
  have F19 : Fun K "_law_same" "_law_same" st__law_same (f ._law_same) (fd ._law_same) := fun_mk (st := st__law_same) l19 c19 k19
  have b19 : Binds K (fd ._law_same) ["told", "due"] [] := F19.binds (ps := ["told", "due"]) fun _ _ _ _ _ _ us hl => match us, hl with | [_, _], _ => rfl
  have F20 : Fun K "_law_step_right" "_law_step_right" st__law_step_right (f ._law_step_right) (fd ._law_step_right) := fun_mk (st := st__law_step_right) l20 c20 k20
  have b20 : Binds K (fd ._law_step_right) ["line", "head", "told"] [] := F20.binds (ps := ["line", "head", "told"]) fun _ _ _ _ _ _ us hl => match us, hl with | [_, _, _], _ => rfl
  have F21 : Fun K "_law_all_told" "_law_all_told" st__law_all_told (f ._law_all_told) (fd ._law_all_told) := fun_mk (st := st__law_all_told) l21 c21 k21
  have b21 : Binds K (fd ._law_all_told) ["line"] [] := F21.binds (ps := ["line"]) fun _ _ _ _ _ _ us hl => match us, hl with | [_], _ => rfl
  have F22 : Fun K "law" "law" st_law (f .law) (fd .law) := fun_mk (st := st_law) l22 c22 k22
  have b22 : Binds K (fd .law) ["script"] [] := F22.binds (ps := ["script"]) fun _ _ _ _ _ _ us hl => match us, hl with | [_], _ => rfl
  let cl : Nat → Addr := fun i => ([] : List Addr).getD i 0
  let tb : Nat → Addr := fun i => ([] : List Addr).getD i 0
  have T : Txt w K mg f fd cv cu cl tb := ⟨F0, b0, PySem.W.mg_of X G a0, F1, b1, PySem.W.mg_of X G a1, F2, b2, PySem.W.mg_of X G a2, F3, b3, PySem.W.mg_of X G a3, F4, b4, PySem.W.mg_of X G a4, F5, b5, PySem.W.mg_of X G a5, F6, b6, PySem.W.mg_of X G a6, F7, b7, PySem.W.mg_of X G a7, F8, b8, PySem.W.mg_of X G a8, F9, b9, PySem.W.mg_of X G a9, F10, b10, PySem.W.mg_of X G a10, F11, b11, PySem.W.mg_of X G a11, F12, b12, PySem.W.mg_of X G a12, F13, b13, PySem.W.mg_of X G a13, F14, b14, PySem.W.mg_of X G a14, F15, b15, PySem.W.mg_of X G a15, F16, b16, PySem.W.mg_of X G a16, F17, b17, PySem.W.mg_of X G a17, F18, b18, PySem.W.mg_of X G a18, F19, b19, PySem.W.mg_of X G a19, F20, b20, PySem.W.mg_of X G a20, F21, b21, PySem.W.mg_of X G a21, F22, b22, PySem.W.mg_of X G a22, PySem.W.mg_none_of X G z0, PySem.W.mg_none_of X G z1, PySem.W.mg_none_of X G z2, PySem.W.mg_none_of X G z3, PySem.W.mg_none_of X G z4, PySem.W.mg_none_of X G z5, PySem.W.mg_none_of X G z6, PySem.W.mg_none_of X G z7, PySem.W.mg_none_of X G z8, PySem.W.mg_none_of X G z9⟩
  exact ⟨fd .law, fun s v => .of_eq rfl, fun base _ _ => (oks T LV).o_law⟩
theorem walk (LV : Nat) (hLV : Room LV callerA) (good : ∀ ns : List Int, ns.length ≤ 63 → ∃ S, tab LV .law [.ref 0] [.rol (ns.map D.int)] = .ok (.bl true) S) {l : PySem.W.OpenLaw} {q : Program} {loose : List Str} {XP : (Str → Option Value) → Heap → Prop} {YP : World → Heap → Prop} {d : DefRec} {K : Params → PySem.W.Frag} (hn : l.most = some 63) (hdf : d.params.defaults = [])
    (hY : ∀ (w : World) (h : Heap), YP w h → (K w.params).In h)
    (F : ∀ (w : World) (mg : Str → Option Value) (fa : Addr) (h : Heap), (K w.params).In h → h.Ns mainGlobals mg → mg d.name = some (.ref fa) →
      ∃ fd : FuncData, (∀ (s : Shared) (u : Value), BindsTo s fd ⟨[u], []⟩ [("script", u)]) ∧ ∀ base : Heap, (K w.params).In base → base.Ns mainGlobals mg → FnOk l.prog w (K w.params) mg base (L2.CX l.prog w) LV fa fd ["script"] (rdF ⟨K w.params, mg, W0⟩ (tab LV .law))) :
    PySem.W.WalkO q loose XP YP l.row.toRowW d [] (fun f vs => PySem.call f vs) :=
  L2.walk_of (n := 63) (k := LV) (x := "script") (CX := fun w => L2.CX l.prog w) (sp := fun w => rdL (K w.params) (tab LV .law)) hn (by decide) hdf hLV hY
    (fun w mg fa h KX G hm => by
      obtain ⟨fd, hb, hF⟩ := F w mg fa h KX G hm
      exact ⟨fd, hb, fun base kb gb => (hF base kb gb).imp fun vs H Q E h => rdL_F h⟩)
    (fun w H a ns hl hO hS => law_sp hO hS (good ns hl)) fun w H s e s' z => by
      obtain ⟨_, _, _, _, _, _, _, _, _, _, _, _, z⟩ := z
      exact z.elim
end Lw

open PySem PySem.W PyProof.Rows
set_option maxRecDepth 100000 in
set_option maxHeartbeats 0 in
theorem PySem.Challenge.cw_wordfractions_k10_last_steps_all_holds : PySem.Challenge.rw_wordfractions_k10_last_steps_all.Holds := by
  w_on; o_law; k_head; (case hw => w_witness2)
  k_fill
  refine Lw.walk 150 (by exact ⟨rfl, by decide, by decide⟩) Lw.good (l := PySem.Challenge.rw_wordfractions_k10_last_steps_all) rfl rfl (fun w h Y => PySem.W.kIn_of Y) ?F
  case F =>
    intro w mg fa h KX G hmg
    refine' Lw.all_mk 150 KX G hmg ?a0 ?l0 ?c0 ?k0 ?a1 ?l1 ?c1 ?k1 ?a2 ?l2 ?c2 ?k2 ?a3 ?l3 ?c3 ?k3 ?a4 ?l4 ?c4 ?k4 ?a5 ?l5 ?c5 ?k5 ?a6 ?l6 ?c6 ?k6 ?a7 ?l7 ?c7 ?k7 ?a8 ?l8 ?c8 ?k8 ?a9 ?l9 ?c9 ?k9 ?a10 ?l10 ?c10 ?k10 ?a11 ?l11 ?c11 ?k11 ?a12 ?l12 ?c12 ?k12 ?a13 ?l13 ?c13 ?k13 ?a14 ?l14 ?c14 ?k14 ?a15 ?l15 ?c15 ?k15 ?a16 ?l16 ?c16 ?k16 ?a17 ?l17 ?c17 ?k17 ?a18 ?l18 ?c18 ?k18 ?a19 ?l19 ?c19 ?k19 ?a20 ?l20 ?c20 ?k20 ?a21 ?l21 ?c21 ?k21 ?a22 ?l22 ?c22 ?k22 ?z0 ?z1 ?z2 ?z3 ?z4 ?z5 ?z6 ?z7 ?z8 ?z9
    (case a0 => k_is)
    (case l0 => k_is)
    (case c0 => k_is)
    (case k0 => k_is)
    (case a1 => k_is)
    (case l1 => k_is)
    (case c1 => k_is)
    (case k1 => k_is)
    (case a2 => k_is)
    (case l2 => k_is)
    (case c2 => k_is)
    (case k2 => k_is)
    (case a3 => k_is)
    (case l3 => k_is)
    (case c3 => k_is)
    (case k3 => k_is)
    (case a4 => k_is)
    (case l4 => k_is)
    (case c4 => k_is)
    (case k4 => k_is)
    (case a5 => k_is)
    (case l5 => k_is)
    (case c5 => k_is)
    (case k5 => k_is)
    (case a6 => k_is)
    (case l6 => k_is)
    (case c6 => k_is)
    (case k6 => k_is)
    (case a7 => k_is)
    (case l7 => k_is)
    (case c7 => k_is)
    (case k7 => k_is)
    (case a8 => k_is)
    (case l8 => k_is)
    (case c8 => k_is)
    (case k8 => k_is)
    (case a9 => k_is)
    (case l9 => k_is)
    (case c9 => k_is)
    (case k9 => k_is)
    (case a10 => k_is)
    (case l10 => k_is)
    (case c10 => k_is)
    (case k10 => k_is)
    (case a11 => k_is)
    (case l11 => k_is)
    (case c11 => k_is)
    (case k11 => k_is)
    (case a12 => k_is)
    (case l12 => k_is)
    (case c12 => k_is)
    (case k12 => k_is)
    (case a13 => k_is)
    (case l13 => k_is)
    (case c13 => k_is)
    (case k13 => k_is)
    (case a14 => k_is)
    (case l14 => k_is)
    (case c14 => k_is)
    (case k14 => k_is)
    (case a15 => k_is)
    (case l15 => k_is)
    (case c15 => k_is)
    (case k15 => k_is)
    (case a16 => k_is)
    (case l16 => k_is)
    (case c16 => k_is)
    (case k16 => k_is)
    (case a17 => k_is)
    (case l17 => k_is)
    (case c17 => k_is)
    (case k17 => k_is)
    (case a18 => k_is)
    (case l18 => k_is)
    (case c18 => k_is)
    (case k18 => k_is)
    (case a19 => k_is)
    (case l19 => k_is)
    (case c19 => k_is)
    (case k19 => k_is)
    (case a20 => k_is)
    (case l20 => k_is)
    (case c20 => k_is)
    (case k20 => k_is)
    (case a21 => k_is)
    (case l21 => k_is)
    (case c21 => k_is)
    (case k21 => k_is)
    (case a22 => k_is)
    (case l22 => k_is)
    (case c22 => k_is)
    (case k22 => k_is)
    (case z0 => k_is)
    (case z1 => k_is)
    (case z2 => k_is)
    (case z3 => k_is)
    (case z4 => k_is)
    (case z5 => k_is)
    (case z6 => k_is)
    (case z7 => k_is)
    (case z8 => k_is)
    (case z9 => k_is)
