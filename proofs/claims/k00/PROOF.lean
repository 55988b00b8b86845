import PyProof.Rows.All
import Wide.All
import OpenK.AllK
import Wide.FinOn
import HandS.ForMost
import HandS.Exc
import HandS.TryOnly
import HandS.ExcOwn
import HandS.WordsExc
import HandS.IsInst
import HandS.Zip
import HandS.Rev
import KE.DataFind
import HandS.RevTup
import PySem.Challenge.RW_wordfractions_k00_kind_measures
set_option Elab.async false
set_option linter.all false
set_option maxRecDepth 100000
namespace Dl
open PySem L2

/-! ## values without addresses of tuples; the store of what may change -/
inductive D where
  | non | bl (b : Bool) | int (i : Int) | str (x : Str) | tup (xs : List D) | ref (l : Nat) | raw (v : V)
  deriving Inhabited

inductive Cell where
  | lst (xs : List D) | rol (xs : List D) | dic (kvs : List (Key × D)) | gone
  deriving Inhabited
def Cell.mut : Cell → Bool
  | .lst _ => true
  | .dic _ => true
  | _ => false
abbrev Store := List Cell
structure Exn where
  name : Str
  fs : List (Str × D)
inductive R (α : Type) where
  | ok (a : α) (S : Store) | ex (x : Exn) (S : Store) | no
abbrev Env := List (Option D)
abbrev M (α : Type) := Store → R α
def R.bind {α β : Type} : R α → (α → Store → R β) → R β
  | .ok a S, k => k a S
  | .ex x S, _ => .ex x S
  | .no, _ => .no
@[simp] theorem R.bind_ok {α β : Type} (a : α) (S : Store) (k : α → Store → R β) : (R.ok a S).bind k = k a S := rfl
@[simp] theorem R.bind_ex {α β : Type} (x : Exn) (S : Store) (k : α → Store → R β) : (R.ex x S).bind k = .ex x S := rfl
@[simp] theorem R.bind_no {α β : Type} (k : α → Store → R β) : (R.no).bind k = .no := rfl
abbrev EX := Env → Store → R D
abbrev TX := Env → Store → R Bool
abbrev AX := Env → Store → R (List D)
inductive Out where
  | nx (ρ : Env) (S : Store) | rt (d : D) (S : Store) | bk (ρ : Env) (S : Store) | ct (ρ : Env) (S : Store) | ex (x : Exn) (ρ : Env) (S : Store) | no
abbrev SX := Env → Store → Out
/-- an expression's outcome within a statement -/
def R.out {α : Type} (ρ : Env) : R α → (α → Store → Out) → Out
  | .ok a S, k => k a S
  | .ex x S, _ => .ex x ρ S
  | .no, _ => .no
@[simp] theorem R.out_ok {α : Type} (ρ : Env) (a : α) (S : Store) (k : α → Store → Out) : (R.ok a S).out ρ k = k a S := rfl
@[simp] theorem R.out_ex {α : Type} (ρ : Env) (x : Exn) (S : Store) (k : α → Store → Out) : (R.ex (α := α) x S).out ρ k = .ex x ρ S := rfl
@[simp] theorem R.out_no {α : Type} (ρ : Env) (k : α → Store → Out) : (R.no (α := α)).out ρ k = .no := rfl

/-! ## how they stand in the heap -/
/-- a tuple without a dict of its own -/
def TupAt (K : PySem.W.Frag) (H : Hp) (a : Addr) (vs : List V) : Prop :=
  (∃ o, H a = some (.frz o (.tup vs)) ∧ o.cls = .type "tuple" ∧ o.dict = none) ∨
    ∃ (o : Obj) (its : Array Value) (n : Nat), K.lookup a = some o ∧ o.cls = .type "tuple" ∧ o.dict = none ∧ o.data = .seq its n ∧ its.size ≤ sizeLine ∧ Vals vs its.toList
theorem TupAt.sq {K : PySem.W.Frag} {H : Hp} {a : Addr} {vs : List V} (h : TupAt K H a vs) : SqT K H a vs := by
  rcases h with ⟨o, h, _⟩ | ⟨o, its, n, h1, h2, _, h3, h4, h5⟩
  · exact .inl (.inr ⟨o, h⟩)
  · exact .inr ⟨o, its, n, h1, h2, h3, h4, h5⟩
/-- a list that nobody may write -/
def RolAt (K : PySem.W.Frag) (H : Hp) (a : Addr) (vs : List V) : Prop :=
  (∃ o, H a = some (.frz o (.lst vs))) ∨
    ∃ (o : Obj) (its : Array Value) (n : Nat), K.lookup a = some o ∧ o.cls = .type "list" ∧ o.dict = none ∧ o.data = .seq its n ∧ its.size ≤ sizeLine ∧ Vals vs its.toList
theorem RolAt.sq {K : PySem.W.Frag} {H : Hp} {a : Addr} {vs : List V} (h : RolAt K H a vs) : SqL K H a vs := by
  rcases h with ⟨o, h⟩ | h
  · exact .inl (.inr ⟨o, h⟩)
  · exact .inr h
mutual
inductive RD (K : PySem.W.Frag) (m : List Addr) (H : Hp) : V → D → Prop
  | non : RD K m H .non .non
  | bl (b : Bool) : RD K m H (.bl b) (.bl b)
  | int (i : Int) : RD K m H (.int i) (.int i)
  | str {x : Str} (h : x.length ≤ 16777216) : RD K m H (.str x) (.str x)
  | tup {a : Addr} {vs : List V} {ds : List D} (h : TupAt K H a vs) (r : RDs K m H vs ds) : RD K m H (.ref a) (.tup ds)
  | ref {a : Addr} {l : Nat} (h : m[l]? = some a) : RD K m H (.ref a) (.ref l)
  | raw (v : V) : RD K m H v (.raw v)
inductive RDs (K : PySem.W.Frag) (m : List Addr) (H : Hp) : List V → List D → Prop
  | nil : RDs K m H [] []
  | cons {v : V} {d : D} {vs : List V} {ds : List D} (h : RD K m H v d) (t : RDs K m H vs ds) : RDs K m H (v :: vs) (d :: ds)
end
structure Ext (K : PySem.W.Frag) (m : List Addr) (H : Hp) (m' : List Addr) (H' : Hp) : Prop where
  pre : ∃ r, m' = m ++ r
  tup : ∀ a vs, TupAt K H a vs → TupAt K H' a vs
theorem Ext.refl {K : PySem.W.Frag} {m : List Addr} {H : Hp} : Ext K m H m H := ⟨⟨[], by simp⟩, fun _ _ h => h⟩
theorem Ext.trans {K : PySem.W.Frag} {m m1 m2 : List Addr} {H H1 H2 : Hp} (a : Ext K m H m1 H1) (b : Ext K m1 H1 m2 H2) : Ext K m H m2 H2 := by
  obtain ⟨⟨r, e⟩, t⟩ := a
  obtain ⟨⟨r', e'⟩, t'⟩ := b
  exact ⟨⟨r ++ r', by rw [e', e, List.append_assoc]⟩, fun x vs h => t' x vs (t x vs h)⟩
theorem Ext.at {K : PySem.W.Frag} {m m' : List Addr} {H H' : Hp} (e : Ext K m H m' H') {l : Nat} {a : Addr} (h : m[l]? = some a) : m'[l]? = some a := by
  obtain ⟨⟨r, e⟩, _⟩ := e
  rw [e, List.getElem?_append_left (List.getElem?_eq_some_iff.mp h).1]
  exact h
theorem Ext.len {K : PySem.W.Frag} {m m' : List Addr} {H H' : Hp} (e : Ext K m H m' H') : m.length ≤ m'.length := by
  obtain ⟨⟨r, e⟩, _⟩ := e
  rw [e, List.length_append]
  exact Nat.le_add_right _ _
section
variable {K : PySem.W.Frag} {m m' : List Addr} {H H' : Hp}
mutual
theorem RD.mono (e : Ext K m H m' H') : ∀ {v : V} {d : D}, RD K m H v d → RD K m' H' v d
  | _, _, .non => .non
  | _, _, .bl b => .bl b
  | _, _, .int i => .int i
  | _, _, .str h => .str h
  | _, _, .tup h r => .tup (e.tup _ _ h) (RDs.mono e r)
  | _, _, .ref h => .ref (e.at h)
  | _, _, .raw v => .raw v
theorem RDs.mono (e : Ext K m H m' H') : ∀ {vs : List V} {ds : List D}, RDs K m H vs ds → RDs K m' H' vs ds
  | _, _, .nil => .nil
  | _, _, .cons h t => .cons (RD.mono e h) (RDs.mono e t)
end
theorem RDs.length : ∀ {vs : List V} {ds : List D}, RDs K m H vs ds → vs.length = ds.length
  | _, _, .nil => rfl
  | _, _, .cons _ t => congrArg Nat.succ (RDs.length t)
theorem RDs.get : ∀ {vs : List V} {ds : List D} {i : Nat} {d : D}, RDs K m H vs ds → ds[i]? = some d → ∃ v, vs[i]? = some v ∧ RD K m H v d
  | _, _, _, _, .nil, e => by simp at e
  | _, _, 0, _, .cons h _, e => by simp at e; subst e; exact ⟨_, rfl, h⟩
  | _, _, i + 1, d, .cons _ t, e => by
    obtain ⟨v, h1, h2⟩ := RDs.get (i := i) (d := d) t (by simpa using e)
    exact ⟨v, by simpa using h1, h2⟩
theorem RDs.append : ∀ {vs ws : List V} {ds es : List D}, RDs K m H vs ds → RDs K m H ws es → RDs K m H (vs ++ ws) (ds ++ es)
  | _, _, _, _, .nil, s => s
  | _, _, _, _, .cons h t, s => .cons h (RDs.append t s)
theorem RDs.one {v : V} {d : D} (h : RD K m H v d) : RDs K m H [v] [d] := .cons h .nil
theorem RDs.take : ∀ {vs : List V} {ds : List D} (n : Nat), RDs K m H vs ds → RDs K m H (vs.take n) (ds.take n)
  | _, _, 0, _ => .nil
  | _, _, _ + 1, .nil => .nil
  | _, _, n + 1, .cons h t => .cons h (RDs.take n t)
theorem RDs.drop : ∀ {vs : List V} {ds : List D} (n : Nat), RDs K m H vs ds → RDs K m H (vs.drop n) (ds.drop n)
  | _, _, 0, r => r
  | _, _, _ + 1, .nil => .nil
  | _, _, n + 1, .cons _ t => RDs.drop n t
theorem RDs.set {v : V} {d : D} (h : RD K m H v d) : ∀ {vs : List V} {ds : List D} (i : Nat), RDs K m H vs ds → RDs K m H (vs.set i v) (ds.set i d)
  | _, _, _, .nil => .nil
  | _, _, 0, .cons _ t => .cons h t
  | _, _, i + 1, .cons q t => .cons q (RDs.set h i t)
theorem RDs.reverse : ∀ {vs : List V} {ds : List D}, RDs K m H vs ds → RDs K m H vs.reverse ds.reverse
  | _, _, .nil => .nil
  | _, _, .cons h t => by
    rw [List.reverse_cons, List.reverse_cons]
    exact (RDs.reverse t).append (.one h)
theorem RDs.dropLast {vs : List V} {ds : List D} (r : RDs K m H vs ds) : RDs K m H vs.dropLast ds.dropLast := by
  rw [List.dropLast_eq_take, List.dropLast_eq_take, r.length]
  exact r.take _
theorem RDs.eraseIdx : ∀ {vs : List V} {ds : List D} (i : Nat), RDs K m H vs ds → RDs K m H (vs.eraseIdx i) (ds.eraseIdx i)
  | _, _, _, .nil => .nil
  | _, _, 0, .cons _ t => t
  | _, _, i + 1, .cons q t => .cons q (RDs.eraseIdx i t)
end

def CellOk (K : PySem.W.Frag) (m : List Addr) (H : Hp) (a : Addr) : Cell → Prop
  | .lst xs => ∃ vs, H a = some (.lst vs) ∧ RDs K m H vs xs
  | .rol xs => ∃ vs, RolAt K H a vs ∧ RDs K m H vs xs
  | .dic kvs => ∃ ws : List (Key × V), H a = some (.dK ws) ∧ ws.map (·.1) = kvs.map (·.1) ∧ RDs K m H (ws.map (·.2)) (kvs.map (·.2))
  | .gone => True
structure RS (K : PySem.W.Frag) (m : List Addr) (H : Hp) (S : Store) : Prop where
  len : m.length = S.length
  at_ : ∀ {l : Nat} {a : Addr} {c : Cell}, m[l]? = some a → S[l]? = some c → CellOk K m H a c
  inj : ∀ {l l' : Nat} {a : Addr} {c c' : Cell}, m[l]? = some a → m[l']? = some a → S[l]? = some c → S[l']? = some c' → c.mut = true → c'.mut = true → l = l'
/-- a cell that is read as a list -/
def lstAt (S : Store) (l : Nat) : Option (List D) := match S[l]? with
  | some (.lst xs) => some xs
  | some (.rol xs) => some xs
  | _ => none
section
variable {K : PySem.W.Frag} {m m' : List Addr} {H H' : Hp} {S : Store}
theorem RS.addr (r : RS K m H S) {l : Nat} (h : l < S.length) : ∃ a, m[l]? = some a := by
  rw [← r.len] at h
  exact ⟨m[l], List.getElem?_eq_getElem h⟩
theorem RS.lst (r : RS K m H S) {l : Nat} {a : Addr} {xs : List D} (h : m[l]? = some a) (e : lstAt S l = some xs) : ∃ vs, SqL K H a vs ∧ RDs K m H vs xs := by
  unfold lstAt at e
  split at e
  · cases e
    obtain ⟨vs, h1, h2⟩ := r.at_ h ‹_›
    exact ⟨vs, SqL.of h1, h2⟩
  · cases e
    obtain ⟨vs, h1, h2⟩ := r.at_ h ‹_›
    exact ⟨vs, h1.sq, h2⟩
  · cases e
theorem RS.wlst (r : RS K m H S) {l : Nat} {a : Addr} {xs : List D} (h : m[l]? = some a) (e : S[l]? = some (.lst xs)) : ∃ vs, H a = some (.lst vs) ∧ RDs K m H vs xs := r.at_ h e
theorem CellOk.mono {a : Addr} {c : Cell} (e : Ext K m H m' H') (h : CellOk K m H a c) (k : c.mut = true → H' a = H a) (kr : ∀ vs, RolAt K H a vs → RolAt K H' a vs) : CellOk K m' H' a c := by
  cases c with
  | lst xs =>
    obtain ⟨vs, h1, h2⟩ := h
    exact ⟨vs, by rw [k rfl]; exact h1, h2.mono e⟩
  | rol xs =>
    obtain ⟨vs, h1, h2⟩ := h
    exact ⟨vs, kr _ h1, h2.mono e⟩
  | dic kvs =>
    obtain ⟨ws, h1, h2, h3⟩ := h
    exact ⟨ws, by rw [k rfl]; exact h1, h2, h3.mono e⟩
  | gone => trivial
/-- a cell that changes is tracked as such -/
theorem CellOk.some {a : Addr} {c : Cell} (h : CellOk K m H a c) (k : c.mut = true) : ∃ o, H a = Option.some o ∧ ∀ ob u, o ≠ .frz ob u := by
  cases c with
  | lst xs => obtain ⟨vs, h1, _⟩ := h; exact ⟨_, h1, fun _ _ z => nomatch z⟩
  | dic kvs => obtain ⟨vs, h1, _⟩ := h; exact ⟨_, h1, fun _ _ z => nomatch z⟩
  | rol xs => cases k
  | gone => cases k
/-- what stood frozen is untouched by a new object -/
theorem tup_new {p : Addr} {o : HO} (hp : H p = none) : ∀ a vs, TupAt K H a vs → TupAt K (upd H p o) a vs := fun a vs h => by
  rcases h with ⟨ob, h, d⟩ | h
  · exact .inl ⟨ob, by rw [upd_ne (ne_of_none h hp)]; exact h, d⟩
  · exact .inr h
theorem rol_new {p : Addr} {o : HO} (hp : H p = none) : ∀ a vs, RolAt K H a vs → RolAt K (upd H p o) a vs := fun a vs h => by
  rcases h with ⟨ob, h⟩ | h
  · exact .inl ⟨ob, by rw [upd_ne (ne_of_none h hp)]; exact h⟩
  · exact .inr h
theorem tup_upd {p : Addr} {o u : HO} (hp : H p = some u) (hu : ∀ ob w, u ≠ .frz ob w) : ∀ a vs, TupAt K H a vs → TupAt K (upd H p o) a vs := fun a vs h => by
  rcases h with ⟨ob, h, d⟩ | h
  · exact .inl ⟨ob, by rw [upd_ne (ne_of h hp (fun z => hu _ _ z.symm))]; exact h, d⟩
  · exact .inr h
theorem rol_upd {p : Addr} {o u : HO} (hp : H p = some u) (hu : ∀ ob w, u ≠ .frz ob w) : ∀ a vs, RolAt K H a vs → RolAt K (upd H p o) a vs := fun a vs h => by
  rcases h with ⟨ob, h⟩ | h
  · exact .inl ⟨ob, by rw [upd_ne (ne_of h hp (fun z => hu _ _ z.symm))]; exact h⟩
  · exact .inr h
/-- a new object that the store does not know -/
theorem RS.new (r : RS K m H S) {p : Addr} {o : HO} (hp : H p = none) : Ext K m H m (upd H p o) ∧ RS K m (upd H p o) S := by
  have e : Ext K m H m (upd H p o) := ⟨⟨[], by simp⟩, tup_new hp⟩
  refine ⟨e, r.len, fun {l a c} h1 h2 => (r.at_ h1 h2).mono e (fun k => ?_) (rol_new hp _), r.inj⟩
  obtain ⟨u, h, _⟩ := (r.at_ h1 h2).some k
  rw [upd_ne (ne_of_none h hp)]
/-- a new cell -/
theorem RS.push (r : RS K m H S) {p : Addr} {o : HO} {c : Cell} (hp : H p = none) (hc : ∀ m', Ext K m H m' (upd H p o) → CellOk K m' (upd H p o) p c) : Ext K m H (m ++ [p]) (upd H p o) ∧ RS K (m ++ [p]) (upd H p o) (S ++ [c]) := by
  have e : Ext K m H (m ++ [p]) (upd H p o) := ⟨⟨[p], rfl⟩, tup_new hp⟩
  have hl := r.len
  refine ⟨e, by simp [hl], fun {l a c'} h1 h2 => ?_, fun {l l' a c' c''} h1 h2 h3 h4 h5 h6 => ?_⟩
  · by_cases z : l < S.length
    · rw [List.getElem?_append_left (by omega)] at h1
      rw [List.getElem?_append_left z] at h2
      refine (r.at_ h1 h2).mono e (fun k => ?_) (rol_new hp _)
      obtain ⟨u, h, _⟩ := (r.at_ h1 h2).some k
      rw [upd_ne (ne_of_none h hp)]
    · have hz : l = S.length := by
        have := (List.getElem?_eq_some_iff.mp h2).1
        simp at this
        omega
      subst hz
      rw [List.getElem?_append_right (by omega)] at h1
      rw [List.getElem?_append_right (by omega)] at h2
      simp [hl] at h1 h2
      subst h1; subst h2
      exact hc _ e
  · have old : ∀ {i : Nat} {x : Cell}, m[i]? = some a → S[i]? = some x → x.mut = true → a ≠ p := fun {i x} q1 q2 q3 => by
      obtain ⟨u, h, _⟩ := (r.at_ q1 q2).some q3
      exact ne_of_none h hp
    have lt : ∀ {i : Nat} {x : Cell}, (S ++ [c])[i]? = some x → i < S.length ∨ i = S.length := fun {i x} q => by
      have := (List.getElem?_eq_some_iff.mp q).1
      simp at this
      omega
    have low : ∀ {i : Nat} {x : Cell}, i < S.length → (m ++ [p])[i]? = some a → (S ++ [c])[i]? = some x → m[i]? = some a ∧ S[i]? = some x := fun {i x} q q1 q2 => by
      rw [List.getElem?_append_left (by omega)] at q1
      rw [List.getElem?_append_left q] at q2
      exact ⟨q1, q2⟩
    have top : (m ++ [p])[S.length]? = some a → a = p := fun q => by
      rw [List.getElem?_append_right (by omega)] at q
      simp [hl] at q
      exact q.symm
    rcases lt h3 with z | z
    · obtain ⟨a1, a2⟩ := low z h1 h3
      rcases lt h4 with z' | z'
      · obtain ⟨b1, b2⟩ := low z' h2 h4
        exact r.inj a1 b1 a2 b2 h5 h6
      · subst z'
        exact absurd (top h2) (old a1 a2 h5)
    · subst z
      rcases lt h4 with z' | z'
      · obtain ⟨b1, b2⟩ := low z' h2 h4
        exact absurd (top h1) (old b1 b2 h6)
      · exact z'.symm
/-- a cell is written -/
theorem RS.write (r : RS K m H S) {p : Addr} {o : HO} {l : Nat} {c c' : Cell} (hl : m[l]? = some p) (hc : S[l]? = some c) (k : c.mut = true) (k' : c'.mut = true) (hn : Ext K m H m (upd H p o) → CellOk K m (upd H p o) p c') :
    Ext K m H m (upd H p o) ∧ RS K m (upd H p o) (S.set l c') := by
  obtain ⟨u, hu, hf⟩ := (r.at_ hl hc).some k
  have e : Ext K m H m (upd H p o) := ⟨⟨[], by simp⟩, tup_upd hu hf⟩
  have lS : l < S.length := (List.getElem?_eq_some_iff.mp hc).1
  have get : ∀ {i : Nat} {x : Cell}, (S.set l c')[i]? = some x → (i = l ∧ x = c') ∨ (i ≠ l ∧ S[i]? = some x) := fun {i x} q => by
    by_cases z : i = l
    · subst z
      rw [List.getElem?_set_self lS] at q
      cases q
      exact .inl ⟨rfl, rfl⟩
    · rw [List.getElem?_set_ne (Ne.symm z)] at q
      exact .inr ⟨z, q⟩
  refine ⟨e, by rw [List.length_set]; exact r.len, fun {i a x} h1 h2 => ?_, fun {i i' a x x'} h1 h2 h3 h4 h5 h6 => ?_⟩
  · rcases get h2 with ⟨rfl, rfl⟩ | ⟨z, q⟩
    · rw [hl] at h1; cases h1
      exact hn e
    · refine (r.at_ h1 q).mono e (fun kx => ?_) (rol_upd hu hf _)
      have : a ≠ p := fun za => by
        subst za
        exact z (r.inj h1 hl q hc kx k)
      rw [upd_ne this]
  · rcases get h3 with ⟨rfl, rfl⟩ | ⟨z, q⟩
    · rcases get h4 with ⟨rfl, rfl⟩ | ⟨z', q'⟩
      · rfl
      · exact r.inj h1 h2 hc q' k h6
    · rcases get h4 with ⟨rfl, rfl⟩ | ⟨z', q'⟩
      · exact r.inj h1 h2 q hc h5 k
      · exact r.inj h1 h2 q q' h5 h6
end
/-- the slots -/
structure RE (K : PySem.W.Frag) (m : List Addr) (H : Hp) (σ : St) (ρ : Env) : Prop where
  len : σ.length = ρ.length
  at_ : ∀ {i : Nat} {d : D}, ρ[i]? = some (some d) → ∃ v, σ[i]? = some (some v) ∧ RD K m H v d
section
variable {K : PySem.W.Frag} {m m' : List Addr} {H H' : Hp} {σ : St} {ρ : Env}
theorem RE.mono (e : Ext K m H m' H') (r : RE K m H σ ρ) : RE K m' H' σ ρ := ⟨r.len, fun h => let ⟨v, h1, h2⟩ := r.at_ h; ⟨v, h1, h2.mono e⟩⟩
theorem RE.set (r : RE K m H σ ρ) {v : V} {d : D} (h : RD K m H v d) (i : Nat) : RE K m H (σ.set i (some v)) (ρ.set i (some d)) := by
  refine ⟨by rw [List.length_set, List.length_set]; exact r.len, fun {j d'} e => ?_⟩
  by_cases z : i = j
  · subst z
    have hl : i < ρ.length := by have := (List.getElem?_eq_some_iff.mp e).1; rwa [List.length_set] at this
    rw [List.getElem?_set_self hl] at e
    cases e
    exact ⟨v, by rw [List.getElem?_set_self (by rw [r.len]; exact hl)], h⟩
  · rw [List.getElem?_set_ne z] at e
    obtain ⟨w, h1, h2⟩ := r.at_ e
    exact ⟨w, by rw [List.getElem?_set_ne z]; exact h1, h2⟩
def wipeD (ρ : Env) : List Nat → Env
  | [] => ρ
  | v :: vs => (wipeD ρ vs).set v none
theorem RE.none (r : RE K m H σ ρ) (i : Nat) : RE K m H (σ.set i none) (ρ.set i none) := by
  refine ⟨by rw [List.length_set, List.length_set]; exact r.len, fun {j d'} e => ?_⟩
  by_cases z : i = j
  · subst z
    have hl : i < ρ.length := by have := (List.getElem?_eq_some_iff.mp e).1; rwa [List.length_set] at this
    rw [List.getElem?_set_self hl] at e
    cases e
  · rw [List.getElem?_set_ne z] at e
    obtain ⟨w, h1, h2⟩ := r.at_ e
    exact ⟨w, by rw [List.getElem?_set_ne z]; exact h1, h2⟩
theorem RE.wipe (r : RE K m H σ ρ) : ∀ vs : List Nat, RE K m H (wipe σ vs) (wipeD ρ vs)
  | [] => r
  | v :: vs => (RE.wipe r vs).none v
end
end Dl

set_option Elab.async false
set_option linter.all false
set_option maxRecDepth 100000
namespace Dl
open PySem L2

/-! ## readings -/
structure Cq where
  K : PySem.W.Frag
  mg : Str → Option Value
  W : WX
abbrev W0 : WX := fun _ _ _ _ => False
abbrev _root_.L2.Cx.cq (X : Cx) (W : WX) : Cq := ⟨X.K, X.mg, W⟩
def RX (c : Cq) (m : List Addr) (H : Hp) (x : Exn) (cls : Value) (dd : Option Addr) : Prop :=
  c.mg x.name = some cls ∧ match x.fs with
    | [] => dd = none
    | fs => ∃ d ws, dd = some d ∧ H d = some (.xd ws) ∧ ws.map (·.1) = fs.map (·.1) ∧ RDs c.K m H (ws.map (·.2)) (fs.map (·.2))
def Post {α β : Type} (c : Cq) (rel : List Addr → Hp → β → α → Prop) (m : List Addr) (H : Hp) (σ : St) (Q : β → Hp → Prop) : R α → Prop
  | .ok a S' => ∀ b H' m', Ext c.K m H m' H' → RS c.K m' H' S' → rel m' H' b a → Q b H'
  | .ex x S' => ∀ cls dd H' m', Ext c.K m H m' H' → RS c.K m' H' S' → RX c m' H' x cls dd → c.W cls dd σ H'
  | .no => False
def PostS (c : Cq) (m : List Addr) (H : Hp) (Dn : Ends) : Out → Prop
  | .nx ρ' S' => ∀ σ' H' m', Ext c.K m H m' H' → RE c.K m' H' σ' ρ' → RS c.K m' H' S' → Dn.nx σ' H'
  | .bk ρ' S' => ∀ σ' H' m', Ext c.K m H m' H' → RE c.K m' H' σ' ρ' → RS c.K m' H' S' → Dn.bk σ' H'
  | .ct ρ' S' => ∀ σ' H' m', Ext c.K m H m' H' → RE c.K m' H' σ' ρ' → RS c.K m' H' S' → Dn.ct σ' H'
  | .rt d S' => ∀ v H' m', Ext c.K m H m' H' → RS c.K m' H' S' → RD c.K m' H' v d → Dn.rt v H'
  | .ex x ρ' S' => ∀ cls dd σ' H' m', Ext c.K m H m' H' → RE c.K m' H' σ' ρ' → RS c.K m' H' S' → RX c m' H' x cls dd → c.W cls dd σ' H'
  | .no => False
abbrev relD (c : Cq) : List Addr → Hp → V → D → Prop := fun m H v d => RD c.K m H v d
abbrev relDs (c : Cq) : List Addr → Hp → List V → List D → Prop := fun m H v d => RDs c.K m H v d
abbrev relB {α : Type} : List Addr → Hp → α → α → Prop := fun _ _ a b => a = b
def rdE (c : Cq) (f : EX) : TE := fun σ H Q => ∃ m ρ S, RE c.K m H σ ρ ∧ RS c.K m H S ∧ Post c (relD c) m H σ Q (f ρ S)
def rdT (c : Cq) (f : TX) : TT := fun σ H Q => ∃ m ρ S, RE c.K m H σ ρ ∧ RS c.K m H S ∧ Post c relB m H σ Q (f ρ S)
def rdA (c : Cq) (f : AX) : TA := fun σ H Q => ∃ m ρ S, RE c.K m H σ ρ ∧ RS c.K m H S ∧ Post c (relDs c) m H σ Q (f ρ S)
def rdO (c : Cq) (f : Env → Store → R (Option Int)) : TO := fun σ H Q => ∃ m ρ S, RE c.K m H σ ρ ∧ RS c.K m H S ∧ Post c relB m H σ Q (f ρ S)
def rdS (c : Cq) (g : SX) : TS := fun Dn σ H => ∃ m ρ S, RE c.K m H σ ρ ∧ RS c.K m H S ∧ PostS c m H Dn (g ρ S)
def rdG (c : Cq) (tg : D → SX) : TG := fun v σ H Q => ∃ m ρ S d, RE c.K m H σ ρ ∧ RS c.K m H S ∧ RD c.K m H v d ∧ PostS c m H { nx := Q, rt := fun _ _ => False } (tg d ρ S)
/-- what a def promises: the mirror's answer -/
def rdF (c : Cq) (F : List D → M D) : Sp := fun vs H Q E => ∃ m ds S, RDs c.K m H vs ds ∧ RS c.K m H S ∧ Post { c with W := fun cls dd _ H => E cls dd H } (relD c) m H [] Q (F ds S)

section
variable {α β γ δ : Type} {c : Cq} {rel : List Addr → Hp → β → α → Prop} {rel' : List Addr → Hp → δ → γ → Prop} {m m1 : List Addr} {H H1 : Hp} {σ : St} {ρ : Env} {Q Q' : β → Hp → Prop} {Q2 : δ → Hp → Prop} {Dn : Ends}
theorem Post.mono (e : Ext c.K m H m1 H1) {r : R α} (h : Post c rel m H σ Q r) : Post c rel m1 H1 σ Q r := by
  cases r with
  | ok a S => exact fun b H' m' e' => h b H' m' (e.trans e')
  | ex x S => exact fun cls dd H' m' e' => h cls dd H' m' (e.trans e')
  | no => exact h
theorem Post.imp {r : R α} (h : Post c rel m H σ Q r) (k : ∀ b H', Q b H' → Q' b H') : Post c rel m H σ Q' r := by
  cases r with
  | ok a S => exact fun b H' m' e rs rl => k _ _ (h b H' m' e rs rl)
  | ex x S => exact h
  | no => exact h
theorem Post.bind {r : R α} {k : α → Store → R γ} (h : Post c rel' m H σ Q2 (r.bind k)) :
    Post c rel m H σ (fun b H1 => ∃ m1 a S1, Ext c.K m H m1 H1 ∧ RS c.K m1 H1 S1 ∧ rel m1 H1 b a ∧ Post c rel' m1 H1 σ Q2 (k a S1)) r := by
  cases r with
  | ok a S => exact fun b H' m' e rs rl => ⟨m', a, S, e, rs, rl, Post.mono e h⟩
  | ex x S => exact h
  | no => exact h
theorem PostS.mono (e : Ext c.K m H m1 H1) {o : Out} (h : PostS c m H Dn o) : PostS c m1 H1 Dn o := by
  cases o with
  | nx ρ S => exact fun σ' H' m' e' => h σ' H' m' (e.trans e')
  | bk ρ S => exact fun σ' H' m' e' => h σ' H' m' (e.trans e')
  | ct ρ S => exact fun σ' H' m' e' => h σ' H' m' (e.trans e')
  | rt d S => exact fun σ' H' m' e' => h σ' H' m' (e.trans e')
  | ex x ρ S => exact fun cls dd σ' H' m' e' => h cls dd σ' H' m' (e.trans e')
  | no => exact h
theorem Post.out {r : R α} {k : α → Store → Out} (re : RE c.K m H σ ρ) (h : PostS c m H Dn (r.out ρ k)) :
    Post c rel m H σ (fun b H1 => ∃ m1 a S1, Ext c.K m H m1 H1 ∧ RS c.K m1 H1 S1 ∧ rel m1 H1 b a ∧ RE c.K m1 H1 σ ρ ∧ PostS c m1 H1 Dn (k a S1)) r := by
  cases r with
  | ok a S => exact fun b H' m' e rs rl => ⟨m', a, S, e, rs, rl, re.mono e, PostS.mono e h⟩
  | ex x S => exact fun cls dd H' m' e rs rx => h cls dd σ H' m' e (re.mono e) rs rx
  | no => exact h
end
section
variable {X : Cx}
theorem PEwk {e : Expr} {t t' : TE} (h : PE X e t) (k : ∀ σ H Q, t' σ H Q → t σ H Q) : PE X e t' := ⟨fun pins s σ H Q I q => h.run pins s σ H Q I (k _ _ _ q)⟩
theorem PTwk {e : Expr} {t t' : TT} (h : PT X e t) (k : ∀ σ H Q, t' σ H Q → t σ H Q) : PT X e t' := ⟨fun pins s σ H Q I q => h.run pins s σ H Q I (k _ _ _ q)⟩
theorem PWwk {e : Expr} {t t' : TT} (h : PW X e t) (k : ∀ σ H Q, t' σ H Q → t σ H Q) : PW X e t' := ⟨fun wh pins s σ H Q I q => h.run wh pins s σ H Q I (k _ _ _ q)⟩
theorem PAwk {es : List Expr} {t t' : TA} (h : PA X es t) (k : ∀ σ H Q, t' σ H Q → t σ H Q) : PA X es t' := ⟨fun pos pins s σ H Q I q => h.run pos pins s σ H Q I (k _ _ _ q)⟩
theorem POwk {e : Option Expr} {t t' : TO} (h : PO X e t) (k : ∀ σ H Q, t' σ H Q → t σ H Q) : PO X e t' := ⟨fun pins s σ H Q I q => h.run pins s σ H Q I (k _ _ _ q)⟩
theorem PSwk {e : Stmt} {t t' : TS} (h : PS X e t) (k : ∀ D σ H, t' D σ H → t D σ H) : PS X e t' := ⟨fun pins s σ H D I q => h.run pins s σ H D I (k _ _ _ q)⟩
theorem PSswk {e : List Stmt} {t t' : TS} (h : PSs X e t) (k : ∀ D σ H, t' D σ H → t D σ H) : PSs X e t' := ⟨fun pins s σ H D I q => h.run pins s σ H D I (k _ _ _ q)⟩
theorem PGwk {e : Expr} {t t' : TG} (h : PG X e t) (k : ∀ v σ H Q, t' v σ H Q → t v σ H Q) : PG X e t' := ⟨fun pins s σ H v u Q I r q => h.run pins s σ H v u Q I r (k _ _ _ _ q)⟩
theorem PIwk {tg e : Expr} {t t' : TI} (h : PI X tg e t) (k : ∀ σ H Q, t' σ H Q → t σ H Q) : PI X tg e t' := ⟨fun pins s σ H Q I q => h.run pins s σ H Q I (k _ _ _ q)⟩
end

/-! ## expressions -/
def toR {α : Type} : Option (α × Store) → R α
  | some (a, S) => .ok a S
  | none => .no
@[simp] theorem toR_some {α : Type} (a : α) (S : Store) : toR (some (a, S)) = .ok a S := rfl
@[simp] theorem toR_none {α : Type} : toR (none : Option (α × Store)) = .no := rfl
def eV (i : Nat) : EX := fun ρ S => match ρ[i]? with
  | some (some d) => .ok d S
  | _ => .no
def eC (d : D) : EX := fun _ S => .ok d S
/-- two operands, by values -/
def e2 (g : D → D → Store → Option (D × Store)) (fa fb : EX) : EX := fun ρ S => (fa ρ S).bind fun x S1 => (fb ρ S1).bind fun y S2 => toR (g x y S2)
def e1 (g : D → Store → Option (D × Store)) (fa : EX) : EX := fun ρ S => (fa ρ S).bind fun x S1 => toR (g x S1)
def aN : AX := fun _ S => .ok [] S
def aC (fa : EX) (fr : AX) : AX := fun ρ S => (fa ρ S).bind fun x S1 => (fr ρ S1).bind fun xs S2 => .ok (x :: xs) S2
def eB (g : List D → Store → Option (D × Store)) (fa : AX) : EX := fun ρ S => (fa ρ S).bind fun xs S1 => toR (g xs S1)
def eF (F : List D → M D) (fa : AX) : EX := fun ρ S => (fa ρ S).bind fun xs S1 => F xs S1
/-- a method of a built-in type -/
def eM (g : D → List D → Store → Option (D × Store)) (fo : EX) (fa : AX) : EX := fun ρ S => (fo ρ S).bind fun x S1 => (fa ρ S1).bind fun xs S2 => toR (g x xs S2)
/-- by values -/
def VPost (K : PySem.W.Frag) (m : List Addr) (H : Hp) (Q : VK) : Option (D × Store) → Prop
  | some (d, S') => ∀ v H' m', Ext K m H m' H' → RS K m' H' S' → RD K m' H' v d → Q v H'
  | none => False
theorem VPost.of {c : Cq} {m : List Addr} {H : Hp} {σ : St} {Q : VK} {o : Option (D × Store)} (h : Post c (relD c) m H σ Q (toR o)) : VPost c.K m H Q o := by
  cases o with
  | none => exact h
  | some p => exact h
def rd1 (K : PySem.W.Frag) (g : D → Store → Option (D × Store)) : V → Hp → VK → Prop := fun v H Q => ∃ m x S, RD K m H v x ∧ RS K m H S ∧ VPost K m H Q (g x S)
def rd2 (K : PySem.W.Frag) (g : D → D → Store → Option (D × Store)) : R2 := fun v u H Q => ∃ m x y S, RD K m H v x ∧ RD K m H u y ∧ RS K m H S ∧ VPost K m H Q (g x y S)
def rdC (K : PySem.W.Frag) (g : List D → Store → Option (D × Store)) : List V → Hp → VK → Prop := fun vs H Q => ∃ m xs S, RDs K m H vs xs ∧ RS K m H S ∧ VPost K m H Q (g xs S)
def rdM (K : PySem.W.Frag) (g : D → List D → Store → Option (D × Store)) : V → List V → Hp → VK → Prop := fun v vs H Q => ∃ m x xs S, RD K m H v x ∧ RDs K m H vs xs ∧ RS K m H S ∧ VPost K m H Q (g x xs S)
section
variable {X : Cx} {W : WX} {a b e : Expr} {es : List Expr} {fa fb fe : EX} {fr fx : AX} {pos p : Pos}
theorem d_v (i : Nat) {x : Str} (hN : X.N[i]? = some x := by rfl) (hv : Vis X.env.scope x := by first | exact Or.inl rfl | exact Or.inr (Or.inl rfl) | exact Or.inr (Or.inr rfl)) (hd : (x == ("__debug__" : Str)) = false := by decide)
    (hcd : (x == ("__classdict__" : Str)) = false := by decide) : PE X (.Name x pos) (rdE (X.cq W) (eV i)) := PEwk (pv i hN hv hd hcd) fun σ H Q h => by
  obtain ⟨m, ρ, S, re, rs, h⟩ := h
  unfold eV at h
  split at h
  · rename_i d e
    obtain ⟨v, h1, h2⟩ := re.at_ e
    exact ⟨v, h1, h v H m .refl rs h2⟩
  · exact h.elim
theorem d_c {v : V} {d : D} (h : PE X e (tC v)) (r : ∀ m H, RD X.K m H v d) : PE X e (rdE (X.cq W) (eC d)) := PEwk h fun σ H Q h => by
  obtain ⟨m, ρ, S, re, rs, h⟩ := h
  exact h v H m .refl rs (r m H)
theorem d_int {i j} : PE X (.Constant (.int i) j pos) (rdE (X.cq W) (eC (.int i))) := d_c pe_int fun _ _ => .int i
theorem d_bl {i j} : PE X (.Constant (.bool i) j pos) (rdE (X.cq W) (eC (.bl i))) := d_c pe_bl fun _ _ => .bl i
theorem d_non {j} : PE X (.Constant .none j pos) (rdE (X.cq W) (eC .non)) := d_c pe_non fun _ _ => .non
theorem d_str {x : Str} {j} (h : x.length ≤ 16777216 := by decide +kernel) : PE X (.Constant (.str x) j pos) (rdE (X.cq W) (eC (.str x))) := d_c pe_str fun _ _ => .str h
/-- a builtin's name as a value -/
theorem d_blt {x : Str} {v : V} {u : Value} (hg : Gl X x) (hm : X.mg x = none) (hv : bootBuiltins x = some u) (r : RelV v u) (hn : x ≠ "__name__" := by decide) (hd : (x == ("__debug__" : Str)) = false := by decide) :
    PE X (.Name x pos) (rdE (X.cq W) (eC (.raw v))) := d_c (pe_bltn hg hm hv r hn hd) fun _ _ => .raw v
/-- a module's constant -/
theorem d_glob {x : Str} {v : V} {d : D} {u : Value} (hg : Gl X x) (hm : X.mg x = some u) (r : RelV v u) (rd : ∀ m H, RD X.K m H v d) (hd : (x == ("__debug__" : Str)) = false := by decide) :
    PE X (.Name x pos) (rdE (X.cq W) (eC d)) := d_c (pe_glob hg hm r hd) rd
theorem d_2h {r : R2} (h : PE X e (tOp r (rdE (X.cq W) fa) (rdE (X.cq W) fb))) {g : D → D → Store → Option (D × Store)} (k : ∀ v u H Q, rd2 X.K g v u H Q → r v u H Q) : PE X e (rdE (X.cq W) (e2 g fa fb)) := PEwk h fun σ H Q h => by
  obtain ⟨m, ρ, S, re, rs, h⟩ := h
  exact ⟨m, ρ, S, re, rs, (Post.bind h).imp fun v H1 ⟨m1, x, S1, e, rs1, rd, h1⟩ => ⟨m1, ρ, S1, re.mono e, rs1, (Post.bind h1).imp fun u H2 ⟨m2, y, S2, e2, rs2, rd2, h2⟩ =>
    k _ _ _ _ ⟨m2, x, y, S2, rd.mono e2, rd2, rs2, VPost.of h2⟩⟩⟩
theorem d_op {op : Operator} {g : D → D → Store → Option (D × Store)} (ho : OpR X (binaryOp op) (rd2 X.K g)) (ha : PE X a (rdE (X.cq W) fa)) (hb : PE X b (rdE (X.cq W) fb)) : PE X (.BinOp a op b pos) (rdE (X.cq W) (e2 g fa fb)) :=
  d_2h (pe_op ho ha hb) fun _ _ _ _ h => h
end
end Dl

set_option Elab.async false
set_option linter.all false
set_option maxRecDepth 100000
namespace Dl
open PySem L2

/-! ## operations by values -/
def LIM : Nat := 16777216
theorem lim_eq : LIM = sizeLine := by rw [sizeLine_eq]; rfl
def catL (S : Store) (l k : Nat) : Option (D × Store) := match S[l]?, S[k]? with
    | some (.lst xs), some (.lst ys) => if xs.length + ys.length ≤ LIM then some (.ref S.length, S ++ [.lst (xs ++ ys)]) else none
    | _, _ => none
def gAdd : D → D → Store → Option (D × Store)
  | .int i, .int j, S => some (.int (i + j), S)
  | .str a, .str b, S => if a.length + b.length ≤ LIM then some (.str (a ++ b), S) else none
  | .tup (x :: xs), .tup ys, S => if (x :: xs).length + ys.length ≤ LIM then some (.tup (x :: xs ++ ys), S) else none
  | .ref l, .ref k, S => catL S l k
  | _, _, _ => none
def gSub : D → D → Store → Option (D × Store)
  | .int i, .int j, S => some (.int (i - j), S)
  | _, _, _ => none
def gMul : D → D → Store → Option (D × Store)
  | .int i, .int j, S => if (-(2 ^ 64) < i ∧ i < 2 ^ 64) ∨ (-(2 ^ 64) < j ∧ j < 2 ^ 64) then some (.int (i * j), S) else none
  | _, _, _ => none
def gFdiv : D → D → Store → Option (D × Store)
  | .int i, .int j, S => if 0 < j ∧ j < 1073741824 then some (.int (i / j), S) else none
  | _, _, _ => none
def gMod : D → D → Store → Option (D × Store)
  | .int i, .int j, S => if 0 < j then some (.int (i % j), S) else none
  | _, _, _ => none
def gPow : D → D → Store → Option (D × Store)
  | .int i, .int j, S => if 0 ≤ j ∧ j ≤ 1000000 ∧ i.natAbs < 2 ^ 64 then some (.int (i ^ j.toNat), S) else none
  | _, _, _ => none
section
variable {X : Cx}
theorem str_app_len (a b : Str) : (a ++ b).length = a.length + b.length := by
  show (a.cps ++ b.cps).size = a.cps.size + b.cps.size
  exact Array.size_append
/-- a new tuple, without a dict -/
theorem lay_tup {pins : List (Addr × Obj)} {σ : St} {H : Hp} {s : Shared} {xs : List V} {us : List Value} {Q : VK} {tk : Nat} {n : Nat} (I : Inv X pins σ H s) (hz : xs.length ≤ sizeLine) (r : Vals xs us)
    (q : ∀ o, o.cls = .type "tuple" → o.dict = none → Q (.ref s.heap.objs.size) (upd H s.heap.objs.size (.frz o (.tup xs)))) :
    EP X pins σ Q (.ref s.heap.objs.size) { s with heap := s.heap.push { cls := .type "tuple", data := .seq us.toArray n }, toks := tk } := by
  refine ⟨.ref s.heap.objs.size, _, I.laid (t' := tk) (o := .frz { cls := .type "tuple", data := .seq us.toArray n } (.tup xs)) (fun b ob q => Heap.get?_push_of_some _ q) (Nat.le_refl _) ?_, rfl, q _ rfl rfl⟩
  exact ⟨Heap.get?_push_size _ rfl, hz, us, r, _, Heap.get?_push_size _ rfl, rfl, _, rfl⟩
/-- what VPost asks, for a new tuple -/
theorem vp_tup {K : PySem.W.Frag} {m : List Addr} {H : Hp} {S : Store} {Q : VK} {p : Addr} {o : Obj} {xs : List V} {ds : List D} (rs : RS K m H S) (hp : H p = none) (hc : o.cls = .type "tuple") (hd : o.dict = none) (r : RDs K m H xs ds)
    (h : ∀ v H' m', Ext K m H m' H' → RS K m' H' S → RD K m' H' v (.tup ds) → Q v H') : Q (.ref p) (upd H p (.frz o (.tup xs))) := by
  obtain ⟨e, rs'⟩ := rs.new (o := .frz o (.tup xs)) hp
  exact h _ _ m e rs' (.tup (.inl ⟨o, upd_same, hc, hd⟩) (r.mono e))
/-- .. for a new list -/
theorem vp_lst {K : PySem.W.Frag} {m : List Addr} {H : Hp} {S : Store} {Q : VK} {p : Addr} {xs : List V} {ds : List D} (rs : RS K m H S) (hp : H p = none) (r : RDs K m H xs ds)
    (h : ∀ v H' m', Ext K m H m' H' → RS K m' H' (S ++ [.lst ds]) → RD K m' H' v (.ref S.length) → Q v H') : Q (.ref p) (upd H p (.lst xs)) := by
  obtain ⟨e, rs'⟩ := rs.push (o := .lst xs) (c := .lst ds) hp fun m' e' => ⟨xs, upd_same, r.mono e'⟩
  refine h _ _ _ e rs' (.ref ?_)
  rw [← rs.len, List.getElem?_append_right (Nat.le_refl _), Nat.sub_self]
  rfl
theorem o_add : OpR X (binaryOp .Add) (rd2 X.K gAdd) := by
  intro pins s σ H v u vv uu Q I rv ru ⟨m, x, y, S, hx, hy, rs, h⟩
  cases hx with
  | int i =>
    cases hy with
    | int j => exact op_add pins s σ H _ _ vv uu Q I rv ru ⟨i, j, rfl, rfl, h _ _ m .refl rs (.int _)⟩
    | _ => exact (show False from h).elim
  | str ha =>
    cases hy with
    | str hb =>
      change VPost X.K m H Q (ite _ _ _) at h
      split at h
      · rename_i hz
        exact op_add_str pins s σ H _ _ vv uu Q I rv ru ⟨_, _, rfl, rfl, by rw [← lim_eq]; exact hz, h _ _ m .refl rs (.str (by rw [str_app_len]; exact hz))⟩
      · exact h.elim
    | _ => exact (show False from h).elim
  | @tup a vs ds ha r =>
    cases hy with
    | @tup b ws es hb r' =>
      cases ds with
      | nil => exact (show False from h).elim
      | cons d ds =>
        change VPost X.K m H Q (ite _ _ _) at h
        split at h
        · rename_i hz
          cases rv
          cases ru
          obtain ⟨its, r1, p1, _⟩ := I.tuple ha.sq
          obtain ⟨its2, r2, p2, _⟩ := I.tuple hb.sq
          have l1 := r.length
          have l2 := r'.length
          have hne : vs ≠ [] := fun z => by rw [z] at l1; cases l1
          refine HT.cat_tup p1 p2 (fun z => hne (r1.nil_iff.mp z)) (fun z => ⟨.ref a, H, I, rfl, ?_⟩) (fun z => ?_) (by rw [← r1.length, ← r2.length, l1, l2, ← lim_eq]; exact hz)
          · have w := r2.nil_iff.mp z
            rw [w] at l2
            have w' : es = [] := List.eq_nil_of_length_eq_zero l2.symm
            subst w'
            refine h _ _ m .refl rs (.tup ha ?_)
            rw [List.append_nil]
            exact r
          · exact lay_tup (tk := s.toks) I (by rw [List.length_append, l1, l2, ← lim_eq]; exact hz) (r1.append r2) fun o hc hd => vp_tup rs (I.hok.fresh (Nat.le_refl _)) hc hd (r.append r') h
        · exact h.elim
    | _ => cases ds <;> exact (show False from h).elim
  | @ref a l ha =>
    cases hy with
    | @ref b k hb =>
      have h : VPost X.K m H Q (catL S l k) := h
      unfold catL at h
      split at h
      · rename_i xs ys e1 e2
        split at h
        · rename_i hz
          obtain ⟨vs, h1, r1⟩ := rs.wlst ha e1
          obtain ⟨ws, h2, r2⟩ := rs.wlst hb e2
          exact op_cat pins s σ H _ _ vv uu Q I rv ru ⟨a, b, vs, ws, rfl, rfl, h1, h2, by rw [r1.length, r2.length, ← lim_eq]; exact hz, fun p hp => vp_lst rs hp (r1.append r2) h⟩
        · exact h.elim
      · exact h.elim
    | _ => exact (show False from h).elim
  | _ => cases hy <;> exact (show False from h).elim
theorem o_int {op : Operator} {C : Int → Int → Prop} [∀ i j, Decidable (C i j)] {g : Int → Int → Int} {r : R2} {gg : D → D → Store → Option (D × Store)} (ho : OpR X (binaryOp op) r)
    (hr : ∀ i j H Q, C i j → Q (.int (g i j)) H → r (.int i) (.int j) H Q) (hg : ∀ x y S, gg x y S = match x, y with
      | .int i, .int j => if C i j then some (.int (g i j), S) else none
      | _, _ => none) : OpR X (binaryOp op) (rd2 X.K gg) := by
  intro pins s σ H v u vv uu Q I rv ru ⟨m, x, y, S, hx, hy, rs, h⟩
  rw [hg] at h
  cases hx with
  | int i =>
    cases hy with
    | int j =>
      by_cases hc : C i j
      · simp only [hc, if_true] at h
        exact ho pins s σ H _ _ vv uu Q I rv ru (hr i j H Q hc (h _ _ m .refl rs (.int _)))
      · simp only [hc, if_false] at h
        exact h.elim
    | _ => exact (show False from h).elim
  | _ => exact (show False from h).elim
theorem o_sub : OpR X (binaryOp .Sub) (rd2 X.K gSub) := o_int (C := fun _ _ => True) (g := fun i j => i - j) op_sub (fun i j H Q _ q => ⟨i, j, rfl, rfl, q⟩) fun x y S => by cases x <;> cases y <;> rfl
theorem o_mul : OpR X (binaryOp .Mult) (rd2 X.K gMul) := o_int (C := fun i j => (-(2 ^ 64) < i ∧ i < 2 ^ 64) ∨ (-(2 ^ 64) < j ∧ j < 2 ^ 64)) (g := fun i j => i * j) op_mul (fun i j H Q c q => ⟨i, j, rfl, rfl, c, q⟩) fun x y S => by cases x <;> cases y <;> rfl
theorem o_fdiv : OpR X (binaryOp .FloorDiv) (rd2 X.K gFdiv) := o_int (C := fun i j => 0 < j ∧ j < 1073741824) (g := fun i j => i / j) op_fdiv (fun i j H Q c q => ⟨i, j, rfl, rfl, c, q⟩) fun x y S => by cases x <;> cases y <;> rfl
theorem o_mod : OpR X (binaryOp .Mod) (rd2 X.K gMod) := o_int (C := fun i j => 0 < j) (g := fun i j => i % j) op_mod (fun i j H Q c q => ⟨i, j, rfl, rfl, c, q⟩) fun x y S => by cases x <;> cases y <;> rfl
theorem o_pow : OpR X (binaryOp .Pow) (rd2 X.K gPow) := o_int (C := fun i j => 0 ≤ j ∧ j ≤ 1000000 ∧ i.natAbs < 2 ^ 64) (g := fun i j => i ^ j.toNat) op_pow (fun i j H Q c q => ⟨i, j, rfl, rfl, c, q⟩) fun x y S => by cases x <;> cases y <;> rfl

/-! ### comparisons -/
end
end Dl

set_option Elab.async false
set_option linter.all false
set_option maxRecDepth 100000
namespace Dl
open PySem L2

/-! ## data -/
mutual
/-- no lists within -/
def D.flat : D → Bool
  | .tup xs => flats xs
  | .ref _ => false
  | .raw _ => false
  | _ => true
def flats : List D → Bool
  | [] => true
  | x :: xs => x.flat && flats xs
end
mutual
def D.dep : D → Nat
  | .tup xs => deps xs + 1
  | _ => 0
def deps : List D → Nat
  | [] => 0
  | x :: xs => max x.dep (deps xs)
end
mutual
/-- == -/
def deq : D → D → Bool
  | .non, .non => true
  | .bl a, .bl b => a == b
  | .bl a, .int j => (if a then 1 else 0) == j
  | .int i, .bl b => i == (if b then 1 else 0)
  | .int i, .int j => i == j
  | .str x, .str y => x == y
  | .tup xs, .tup ys => deqs xs ys
  | _, _ => false
def deqs : List D → List D → Bool
  | [], [] => true
  | x :: xs, y :: ys => deq x y && deqs xs ys
  | _, _ => false
end
mutual
def toPy : D → PyData
  | .non => .none
  | .bl b => .bool b
  | .int i => .int i
  | .str x => .str x
  | .tup xs => .tuple (toPys xs)
  | _ => .none
def toPys : List D → List PyData
  | [] => []
  | x :: xs => toPy x :: toPys xs
end
mutual
theorem plain_toPy : ∀ x : D, (toPy x).plain = true
  | .non => rfl
  | .bl _ => rfl
  | .int _ => rfl
  | .str _ => rfl
  | .tup xs => plains_toPys xs
  | .ref _ => rfl
  | .raw _ => rfl
theorem plains_toPys : ∀ xs : List D, PyData.plainAll (toPys xs) = true
  | [] => rfl
  | x :: xs => by
    show ((toPy x).plain && PyData.plainAll (toPys xs)) = true
    rw [plain_toPy x, plains_toPys xs] <;> rfl
end
mutual
theorem depth_toPy : ∀ x : D, (toPy x).depth = x.dep
  | .non => rfl
  | .bl _ => rfl
  | .int _ => rfl
  | .str _ => rfl
  | .tup xs => by
    show PyData.depthAll (toPys xs) + 1 = deps xs + 1
    rw [depths_toPys xs]
  | .ref _ => rfl
  | .raw _ => rfl
theorem depths_toPys : ∀ xs : List D, PyData.depthAll (toPys xs) = deps xs
  | [] => rfl
  | x :: xs => by
    show max (toPy x).depth (PyData.depthAll (toPys xs)) = max x.dep (deps xs)
    rw [depth_toPy x, depths_toPys xs]
end
mutual
theorem eqv_toPy : ∀ x y : D, x.flat = true → y.flat = true → PyData.eqv (toPy x) (toPy y) = deq x y
  | x, y, hx, hy => by
    cases x with
    | tup xs =>
      cases y with
      | tup ys =>
        show PyData.eqvAll (toPys xs) (toPys ys) = deqs xs ys
        exact eqvs_toPys xs ys hx hy
      | ref _ => cases hy
      | raw _ => cases hy
      | _ => rfl
    | ref _ => cases hx
    | raw _ => cases hx
    | _ =>
      cases y with
      | ref _ => cases hy
      | raw _ => cases hy
      | _ => rfl
theorem eqvs_toPys : ∀ xs ys : List D, flats xs = true → flats ys = true → PyData.eqvAll (toPys xs) (toPys ys) = deqs xs ys
  | [], [], _, _ => rfl
  | [], _ :: _, _, _ => rfl
  | _ :: _, [], _, _ => rfl
  | x :: xs, y :: ys, hx, hy => by
    have hx' : (x.flat && flats xs) = true := hx
    have hy' : (y.flat && flats ys) = true := hy
    rw [Bool.and_eq_true] at hx' hy'
    show (PyData.eqv (toPy x) (toPy y) && PyData.eqvAll (toPys xs) (toPys ys)) = (deq x y && deqs xs ys)
    rw [eqv_toPy x y hx'.1 hy'.1, eqvs_toPys xs ys hx'.2 hy'.2]
end
section
variable {K : PySem.W.Frag} {m : List Addr} {H : Hp}
mutual
theorem dp_of : ∀ {d : D} {v : V}, d.flat = true → RD K m H v d → Dp K H v (toPy d)
  | .non, _, _, r => by cases r; exact .non
  | .bl b, _, _, r => by cases r; exact .bl b
  | .int b, _, _, r => by cases r; exact .int b
  | .str b, _, _, r => by cases r; exact .str b
  | .tup xs, _, h, r => by
    cases r with
    | tup h1 h2 => exact .tup h1.sq (dps_of (show flats xs = true from h) h2)
theorem dps_of : ∀ {ds : List D} {vs : List V}, flats ds = true → RDs K m H vs ds → DpAll K H vs (toPys ds)
  | [], _, _, r => by cases r; exact .nil
  | d :: ds, _, h, r => by
    have h' : (d.flat && flats ds) = true := h
    rw [Bool.and_eq_true] at h'
    cases r with
    | cons h1 h2 => exact .cons (dp_of h'.1 h1) (dps_of h'.2 h2)
end
end
/-- a value as data: flat, or a list of flat ones -/
def asP (S : Store) (x : D) : Option PyData := if x.flat then some (toPy x) else match x with
  | .ref l => match lstAt S l with
    | some xs => if flats xs then some (.list (toPys xs)) else none
    | none => none
  | _ => none
theorem asP_flat {S : Store} {x : D} (h : x.flat = true) : asP S x = some (toPy x) := by unfold asP; rw [if_pos h]
theorem asP_of {K : PySem.W.Frag} {m : List Addr} {H : Hp} {S : Store} {x : D} {v : V} {p : PyData} (rs : RS K m H S) (r : RD K m H v x) (h : asP S x = some p) : Dp K H v p ∧ p.plain = true := by
  unfold asP at h
  split at h
  · rename_i hx
    cases h
    exact ⟨dp_of hx r, plain_toPy x⟩
  · split at h
    · rename_i l _
      split at h
      · rename_i xs e
        split at h
        · rename_i hf
          cases h
          cases r with
          | ref ha =>
            obtain ⟨vs, h1, h2⟩ := rs.lst ha e
            exact ⟨.lst h1 (dps_of hf h2), plains_toPys xs⟩
        · cases h
      · cases h
    · cases h
def gEqB (x y : D) (S : Store) : Option Bool := match asP S x, asP S y with
  | some p, some q => if p.depth ≤ 64 then some (PyData.eqv p q) else none
  | _, _ => none
def gEq (x y : D) (S : Store) : Option (D × Store) := (gEqB x y S).map fun b => (.bl b, S)
def gNe (x y : D) (S : Store) : Option (D × Store) := (gEqB x y S).map fun b => (.bl (!b), S)
theorem gEqB_flat {x y : D} {S : Store} (hx : x.flat = true) (hy : y.flat = true) (hd : x.dep ≤ 64) : gEqB x y S = some (deq x y) := by
  unfold gEqB
  rw [asP_flat hx, asP_flat hy]
  show (if (toPy x).depth ≤ 64 then some (PyData.eqv (toPy x) (toPy y)) else none) = _
  rw [depth_toPy, if_pos hd, eqv_toPy x y hx hy]
theorem gEq_flat {x y : D} {S : Store} (hx : x.flat = true) (hy : y.flat = true) (hd : x.dep ≤ 64) : gEq x y S = some (.bl (deq x y), S) := by unfold gEq; rw [gEqB_flat hx hy hd]; rfl
theorem gNe_flat {x y : D} {S : Store} (hx : x.flat = true) (hy : y.flat = true) (hd : x.dep ≤ 64) : gNe x y S = some (.bl (!deq x y), S) := by unfold gNe; rw [gEqB_flat hx hy hd]; rfl
@[simp] theorem gEq_int (i j : Int) (S : Store) : gEq (.int i) (.int j) S = some (.bl (i == j), S) := gEq_flat rfl rfl (Nat.zero_le _)
@[simp] theorem gEq_str (i j : Str) (S : Store) : gEq (.str i) (.str j) S = some (.bl (i == j), S) := gEq_flat rfl rfl (Nat.zero_le _)
@[simp] theorem gNe_int (i j : Int) (S : Store) : gNe (.int i) (.int j) S = some (.bl (!(i == j)), S) := gNe_flat rfl rfl (Nat.zero_le _)
@[simp] theorem gNe_str (i j : Str) (S : Store) : gNe (.str i) (.str j) S = some (.bl (!(i == j)), S) := gNe_flat rfl rfl (Nat.zero_le _)
section
variable {X : Cx}
theorem o_eqB {op : CmpOp} {f : Bool → Bool} {g : D → D → Store → Option (D × Store)} (hg : ∀ x y S, g x y S = (gEqB x y S).map fun b => (.bl (f b), S))
    (rule : ∀ {s : Shared} {a b : Value} {da db : PyData} {as bs : List Addr} {Q E : Value → Shared → Prop}, Reads s.heap a da as → Reads s.heap b db bs → da.plain = true → db.plain = true → X.A.units + min da.depth db.depth < cLine →
      Q (.bool (f (PyData.eqv da db))) s → wpAny (model X.prog X.w) X.A (compareOp op a b) Q E s) (hu : X.A.units + 64 < cLine) : OpR X (compareOp op) (rd2 X.K g) := by
  intro pins s σ H v u vv uu Q I rv ru ⟨m, x, y, S, hx, hy, rs, h⟩
  rw [hg] at h
  unfold gEqB at h
  split at h
  · rename_i p q e1 e2
    split at h
    · rename_i hd
      obtain ⟨d1, p1⟩ := asP_of rs hx e1
      obtain ⟨d2, p2⟩ := asP_of rs hy e2
      obtain ⟨as, r1⟩ := Dp.reads I _ _ _ d1 rv
      obtain ⟨bs, r2⟩ := Dp.reads I _ _ _ d2 ru
      have hm : min p.depth q.depth ≤ p.depth := Nat.min_le_left _ _
      exact rule r1 r2 p1 p2 (by omega) ⟨.bl _, H, I, rfl, h _ _ m .refl rs (.bl _)⟩
    · exact h.elim
  · exact h.elim
theorem o_eq (hu : X.A.units + 64 < cLine) : OpR X (compareOp .Eq) (rd2 X.K gEq) := o_eqB (f := fun b => b) (fun _ _ _ => rfl) PySem.SeqAt.eq_plain hu
theorem o_ne (hu : X.A.units + 64 < cLine) : OpR X (compareOp .NotEq) (rd2 X.K gNe) := o_eqB (f := fun b => !b) (fun _ _ _ => rfl) PySem.SeqAt.ne_plain hu

/-! ### order of ints and texts -/
def gLt : D → D → Store → Option (D × Store)
  | .int i, .int j, S => some (.bl (decide (i < j)), S)
  | .str a, .str b, S => some (.bl (decide (a.cps.toList < b.cps.toList)), S)
  | _, _, _ => none
def gLe : D → D → Store → Option (D × Store)
  | .int i, .int j, S => some (.bl (decide (i ≤ j)), S)
  | .str a, .str b, S => some (.bl (!decide (b.cps.toList < a.cps.toList)), S)
  | _, _, _ => none
def gGt : D → D → Store → Option (D × Store)
  | .int i, .int j, S => some (.bl (decide (j < i)), S)
  | .str a, .str b, S => some (.bl (decide (b.cps.toList < a.cps.toList)), S)
  | _, _, _ => none
def gGe : D → D → Store → Option (D × Store)
  | .int i, .int j, S => some (.bl (decide (j ≤ i)), S)
  | .str a, .str b, S => some (.bl (!decide (a.cps.toList < b.cps.toList)), S)
  | _, _, _ => none
theorem o_ord {op : CmpOp} {fi : Int → Int → Bool} {fs : Str → Str → Bool} {ri rs' : R2} {g : D → D → Store → Option (D × Store)} (hi : OpR X (compareOp op) ri) (hs : OpR X (compareOp op) rs')
    (ki : ∀ i j H Q, Q (.bl (fi i j)) H → ri (.int i) (.int j) H Q) (ks : ∀ i j H Q, Q (.bl (fs i j)) H → rs' (.str i) (.str j) H Q)
    (hg : ∀ x y S, g x y S = match x, y with
      | .int i, .int j => some (.bl (fi i j), S)
      | .str i, .str j => some (.bl (fs i j), S)
      | _, _ => none) : OpR X (compareOp op) (rd2 X.K g) := by
  intro pins s σ H v u vv uu Q I rv ru ⟨m, x, y, S, hx, hy, rs, h⟩
  rw [hg] at h
  cases hx with
  | int i =>
    cases hy with
    | int j => exact hi pins s σ H _ _ vv uu Q I rv ru (ki i j H Q (h _ _ m .refl rs (.bl _)))
    | _ => exact (show False from h).elim
  | str ha =>
    cases hy with
    | str hb => exact hs pins s σ H _ _ vv uu Q I rv ru (ks _ _ H Q (h _ _ m .refl rs (.bl _)))
    | _ => exact (show False from h).elim
  | _ => exact (show False from h).elim
theorem o_lt : OpR X (compareOp .Lt) (rd2 X.K gLt) := o_ord op_lt op_lt_str (fun i j H Q q => ⟨i, j, rfl, rfl, q⟩) (fun i j H Q q => ⟨i, j, rfl, rfl, q⟩) fun x y S => by cases x <;> cases y <;> rfl
theorem o_le : OpR X (compareOp .LtE) (rd2 X.K gLe) := o_ord op_le op_le_str (fun i j H Q q => ⟨i, j, rfl, rfl, q⟩) (fun i j H Q q => ⟨i, j, rfl, rfl, q⟩) fun x y S => by cases x <;> cases y <;> rfl
theorem o_gt : OpR X (compareOp .Gt) (rd2 X.K gGt) := o_ord op_gt op_gt_str (fun i j H Q q => ⟨i, j, rfl, rfl, q⟩) (fun i j H Q q => ⟨i, j, rfl, rfl, q⟩) fun x y S => by cases x <;> cases y <;> rfl
theorem o_ge : OpR X (compareOp .GtE) (rd2 X.K gGe) := o_ord op_ge op_ge_str (fun i j H Q q => ⟨i, j, rfl, rfl, q⟩) (fun i j H Q q => ⟨i, j, rfl, rfl, q⟩) fun x y S => by cases x <;> cases y <;> rfl

/-! ### in: a list or tuple of flat things, a sign of a text -/
def gInB : D → D → Store → Option Bool
  | .str a, .str b, _ => if a.length = 1 then some (decide (a.cps.getD 0 0 ∈ b.cps.toList)) else none
  | x, .tup ys, _ => if x.flat && flats ys && decide (x.dep ≤ 64) then some (ys.any fun y => deq y x) else none
  | x, .ref l, S => match lstAt S l with
    | some ys => if x.flat && flats ys && decide (x.dep ≤ 64) then some (ys.any fun y => deq y x) else none
    | none => none
  | _, _, _ => none
def gIn (x y : D) (S : Store) : Option (D × Store) := (gInB x y S).map fun b => (.bl b, S)
def gNin (x y : D) (S : Store) : Option (D × Store) := (gInB x y S).map fun b => (.bl (!b), S)
theorem any_toPys {x : D} (hx : x.flat = true) : ∀ {ys : List D}, flats ys = true → ((toPys ys).any fun y => PyData.eqv y (toPy x)) = ys.any fun y => deq y x
  | [], _ => rfl
  | y :: ys, h => by
    have h' : (y.flat && flats ys) = true := h
    rw [Bool.and_eq_true] at h'
    show (PyData.eqv (toPy y) (toPy x) || (toPys ys).any _) = (deq y x || ys.any _)
    rw [eqv_toPy y x h'.1 hx, any_toPys hx h'.2]
theorem sign_of {a : Str} (h : a.length = 1) : a = ⟨#[a.cps.getD 0 0]⟩ := by
  obtain ⟨⟨l⟩⟩ := a
  have h' : l.length = 1 := h
  match l, h' with
  | [c], _ => rfl
theorem o_inB {op : CmpOp} {f : Bool → Bool} {g : D → D → Store → Option (D × Store)} {rs' : R2} (hg : ∀ x y S, g x y S = (gInB x y S).map fun b => (.bl (f b), S)) (hs : OpR X (compareOp op) rs')
    (ks : ∀ (c : Nat) (z : Str) H Q, Q (.bl (f (decide (c ∈ z.cps.toList)))) H → rs' (.str ⟨#[c]⟩) (.str z) H Q)
    (rl : ∀ {s : Shared} {c x : Value} {xs : List PyData} {d : PyData} {as bs : List Addr} {Q E : Value → Shared → Prop}, Reads s.heap c (.list xs) as → Reads s.heap x d bs → PyData.plainAll xs = true → d.plain = true →
      X.A.units + 1 + min (PyData.depthAll xs) d.depth < cLine → Q (.bool (f (xs.any fun y => PyData.eqv y d))) s → wpAny (model X.prog X.w) X.A (compareOp op x c) Q E s)
    (rt : ∀ {s : Shared} {c x : Value} {xs : List PyData} {d : PyData} {as bs : List Addr} {Q E : Value → Shared → Prop}, Reads s.heap c (.tuple xs) as → Reads s.heap x d bs → PyData.plainAll xs = true → d.plain = true →
      X.A.units + 1 + min (PyData.depthAll xs) d.depth < cLine → Q (.bool (f (xs.any fun y => PyData.eqv y d))) s → wpAny (model X.prog X.w) X.A (compareOp op x c) Q E s)
    (hu : X.A.units + 65 < cLine) : OpR X (compareOp op) (rd2 X.K g) := by
  intro pins s σ H v u vv uu Q I rv ru ⟨m, x, y, S, hx, hy, rs, h⟩
  rw [hg] at h
  have room : ∀ (d : D) (ps : List PyData), d.dep ≤ 64 → X.A.units + 1 + min (PyData.depthAll ps) (toPy d).depth < cLine := fun d ps hd => by
    rw [depth_toPy]
    have hm : min (PyData.depthAll ps) d.dep ≤ d.dep := Nat.min_le_right _ _
    omega
  have seqT : ∀ {a : Addr} {vs : List V} {ys : List D} {c : Bool}, TupAt X.K H a vs → RDs X.K m H vs ys → u = .ref a → (x.flat && flats ys && decide (x.dep ≤ 64)) = true → Q (.bl (f (ys.any fun y => deq y x))) H →
      wpAny (model X.prog X.w) X.A (compareOp op vv uu) (EP X pins σ Q) X.xe s := fun {a vs ys c} ht r e hc q => by
    simp only [Bool.and_eq_true, decide_eq_true_eq] at hc
    obtain ⟨⟨h1, h2⟩, h3⟩ := hc
    subst e
    obtain ⟨as, r1⟩ := Dp.reads I _ _ _ (dp_of h1 hx) rv
    obtain ⟨bs, r2⟩ := Dp.reads I _ _ _ (Dp.tup ht.sq (dps_of h2 r)) ru
    exact rt r2 r1 (plains_toPys ys) (plain_toPy x) (room x _ h3) ⟨.bl _, H, I, rfl, by rw [any_toPys h1 h2]; exact q⟩
  have seqL : ∀ {a : Addr} {vs : List V} {ys : List D} {c : Bool}, SqL X.K H a vs → RDs X.K m H vs ys → u = .ref a → (x.flat && flats ys && decide (x.dep ≤ 64)) = true → Q (.bl (f (ys.any fun y => deq y x))) H →
      wpAny (model X.prog X.w) X.A (compareOp op vv uu) (EP X pins σ Q) X.xe s := fun {a vs ys c} ht r e hc q => by
    simp only [Bool.and_eq_true, decide_eq_true_eq] at hc
    obtain ⟨⟨h1, h2⟩, h3⟩ := hc
    subst e
    obtain ⟨as, r1⟩ := Dp.reads I _ _ _ (dp_of h1 hx) rv
    obtain ⟨bs, r2⟩ := Dp.reads I _ _ _ (Dp.lst ht (dps_of h2 r)) ru
    exact rl r2 r1 (plains_toPys ys) (plain_toPy x) (room x _ h3) ⟨.bl _, H, I, rfl, by rw [any_toPys h1 h2]; exact q⟩
  unfold gInB at h
  split at h
  · rename_i a b
    split at h
    · rename_i ha
      have e := sign_of ha
      cases hx
      cases hy
      rw [e] at rv
      exact hs pins s σ H _ _ vv uu Q I rv ru (ks _ _ H Q (h _ _ m .refl rs (.bl _)))
    · exact h.elim
  · rename_i ys _
    split at h
    · rename_i hc
      cases hy with
      | tup ht r => exact seqT (c := true) ht r rfl hc (h _ _ m .refl rs (.bl _))
    · exact h.elim
  · rename_i l
    split at h
    · rename_i ys e
      split at h
      · rename_i hc
        cases hy with
        | ref ha =>
          obtain ⟨vs, h1, h2⟩ := rs.lst ha e
          exact seqL (c := true) h1 h2 rfl hc (h _ _ m .refl rs (.bl _))
      · exact h.elim
    · exact h.elim
  · exact h.elim
theorem o_in (hu : X.A.units + 65 < cLine) : OpR X (compareOp .In) (rd2 X.K gIn) := o_inB (f := fun b => b) (fun _ _ _ => rfl) op_in_sign (fun c z H Q q => ⟨c, z, rfl, rfl, q⟩) PySem.SeqAt.in_list_data PySem.SeqAt.in_tuple_data hu
theorem o_nin (hu : X.A.units + 65 < cLine) : OpR X (compareOp .NotIn) (rd2 X.K gNin) := o_inB (f := fun b => !b) (fun _ _ _ => rfl) op_notIn_sign (fun c z H Q q => ⟨c, z, rfl, rfl, q⟩) PySem.SeqAt.notIn_list_data PySem.SeqAt.notIn_tuple_data hu
end
end Dl

set_option Elab.async false
set_option linter.all false
set_option maxRecDepth 100000
namespace Dl
open PySem L2

/-! ## items, slices -/
def gIx : D → D → Store → Option (D × Store)
  | .tup xs, .int i, S => (atI xs i).map fun d => (d, S)
  | .ref l, .int i, S => (lstAt S l).bind fun xs => (atI xs i).map fun d => (d, S)
  | .str x, .int i, S => (atI x.cps.toList i).map fun c => (.str ⟨#[c]⟩, S)
  | _, _, _ => none
def cutD {α : Type} (xs : List α) (lo hi : Option Int) : List α := (xs.drop (HT.sIx xs.length 0 lo)).take (HT.sIx xs.length xs.length hi - HT.sIx xs.length 0 lo)
def gSl : D → Option Int → Option Int → Store → Option (D × Store)
  | .tup xs, lo, hi, S => if HT.sIx xs.length 0 lo = 0 ∧ HT.sIx xs.length xs.length hi = xs.length then none else some (.tup (cutD xs lo hi), S)
  | .ref l, lo, hi, S => (lstAt S l).map fun xs => (.ref S.length, S ++ [.lst (cutD xs lo hi)])
  | .str x, lo, hi, S => some (.str (cutS x lo hi), S)
  | _, _, _, _ => none
theorem cutS_le (x : Str) (lo hi : Option Int) : (cutS x lo hi).length ≤ x.length := by
  show ((x.cps.toList.drop _).take _).toArray.size ≤ x.cps.size
  rw [List.size_toArray, List.length_take, List.length_drop, Array.length_toList]
  omega
section
variable {K : PySem.W.Frag} {m : List Addr} {H : Hp}
theorem RDs.atI {vs : List V} {ds : List D} (r : RDs K m H vs ds) {i : Int} {d : D} (h : atI ds i = some d) : ∃ v, L2.atI vs i = some v ∧ RD K m H v d := by
  unfold L2.atI at h ⊢
  rw [r.length]
  cases e : ixN ds.length i with
  | none => rw [e] at h; cases h
  | some j =>
    rw [e] at h
    exact r.get h
theorem RDs.cut {vs : List V} {ds : List D} (r : RDs K m H vs ds) (lo hi : Option Int) : RDs K m H (cutV vs lo hi) (cutD ds lo hi) := by
  unfold cutV cutD
  rw [r.length]
  exact (r.drop _).take _
end
section
variable {X : Cx}
theorem i_ix : IxR X (rd2 X.K gIx) := by
  intro value slice pins s σ H v u vv uu Q I rv ru ⟨m, x, y, S, hx, hy, rs, h⟩ hs
  cases hx with
  | @str a ha =>
    cases hy with
    | int i =>
      have h : VPost X.K m H Q ((L2.atI a.cps.toList i).map fun c => (.str ⟨#[c]⟩, S)) := h
      cases e : L2.atI a.cps.toList i with
      | none => rw [e] at h; exact h.elim
      | some c =>
        rw [e] at h
        exact ix_str value slice pins s σ H _ _ vv uu Q I rv ru ⟨a, i, c, rfl, rfl, by rw [← lim_eq]; exact ha, e, h _ _ m .refl rs (.str (by show (1 : Nat) ≤ _; decide))⟩ hs
    | _ => exact (show False from h).elim
  | @tup a vs ds ht r =>
    cases hy with
    | int i =>
      have h : VPost X.K m H Q ((L2.atI ds i).map fun c => (c, S)) := h
      cases e : L2.atI ds i with
      | none => rw [e] at h; exact h.elim
      | some d =>
        rw [e] at h
        obtain ⟨w, h1, h2⟩ := r.atI e
        exact ix_tup value slice pins s σ H _ _ vv uu Q I rv ru ⟨a, vs, i, w, rfl, rfl, ht.sq, h1, h _ _ m .refl rs h2⟩ hs
    | _ => exact (show False from h).elim
  | @ref a l hl =>
    cases hy with
    | int i =>
      have h : VPost X.K m H Q ((lstAt S l).bind fun xs => (L2.atI xs i).map fun c => (c, S)) := h
      cases e1 : lstAt S l with
      | none => rw [e1] at h; exact h.elim
      | some xs =>
        rw [e1] at h
        obtain ⟨vs, hq, r⟩ := rs.lst hl e1
        have h : VPost X.K m H Q ((L2.atI xs i).map fun c => (c, S)) := h
        cases e : L2.atI xs i with
        | none => rw [e] at h; exact h.elim
        | some d =>
          rw [e] at h
          obtain ⟨w, h1, h2⟩ := r.atI e
          exact ix_list value slice pins s σ H _ _ vv uu Q I rv ru ⟨a, vs, i, w, rfl, rfl, hq, h1, h _ _ m .refl rs h2⟩ hs
    | _ => exact (show False from h).elim
  | _ => exact (show False from h).elim
def rdSl (K : PySem.W.Frag) (g : D → Option Int → Option Int → Store → Option (D × Store)) : V → Option Int → Option Int → Hp → VK → Prop := fun v lo hi H Q => ∃ m x S, RD K m H v x ∧ RS K m H S ∧ VPost K m H Q (g x lo hi S)
theorem s_sl : SlR X (rdSl X.K gSl) := by
  intro pins s σ H v vv vl vu lo hi sl Q I rv hs pl pu ⟨m, x, S, hx, rs, h⟩
  cases hx with
  | @str a ha => exact sl_str pins s σ H _ vv vl vu lo hi sl Q I rv hs pl pu ⟨a, rfl, by rw [← lim_eq]; exact ha, h _ _ m .refl rs (.str (Nat.le_trans (cutS_le a lo hi) ha))⟩
  | @tup a vs ds ht r =>
    have h : VPost X.K m H Q (if HT.sIx ds.length 0 lo = 0 ∧ HT.sIx ds.length ds.length hi = ds.length then none else some (.tup (cutD ds lo hi), S)) := h
    split at h
    · exact h.elim
    · rename_i hw
      cases rv
      obtain ⟨its, r1, p, hz⟩ := I.tuple ht.sq
      have hlen : its.toArray.size = vs.length := by rw [List.size_toArray]; exact r1.length.symm
      refine ⟨"tuple", _, PyProof.Rows.slot_tuple_getitem.lookup, p.typeIs, ?_⟩
      refine HT.getItem_tuple_cut p hs pl pu (by rw [hlen, r.length]; exact hw) ?_ (by rw [hlen]; exact hz)
      rw [hlen]
      exact lay_tup (tk := s.toks) I (Nat.le_trans (cutV_length vs lo hi) hz) ((r1.drop (HT.sIx vs.length 0 lo)).take (HT.sIx vs.length vs.length hi - HT.sIx vs.length 0 lo)) fun o hc hd =>
        vp_tup rs (I.hok.fresh (Nat.le_refl _)) hc hd (r.cut lo hi) h
  | @ref a l hl =>
    have h : VPost X.K m H Q ((lstAt S l).map fun xs => (.ref S.length, S ++ [.lst (cutD xs lo hi)])) := h
    cases e : lstAt S l with
    | none => rw [e] at h; exact h.elim
    | some xs =>
      rw [e] at h
      obtain ⟨vs, hq, r⟩ := rs.lst hl e
      exact sl_list pins s σ H _ vv vl vu lo hi sl Q I rv hs pl pu ⟨a, vs, rfl, hq, fun p hp => vp_lst rs hp (r.cut lo hi) h⟩
  | _ => exact (show False from h).elim
/-- o[i] = v -/
def gSet : D → D → D → Store → Option Store
  | .ref l, .int k, d, S => match S[l]? with
    | some (.lst xs) => (ixN xs.length k).map fun j => S.set l (.lst (xs.set j d))
    | _ => none
  | _, _, _, _ => none
def rdSet (K : PySem.W.Frag) (g : D → D → D → Store → Option Store) : V → V → V → Hp → (Hp → Prop) → Prop := fun o i v H Q => ∃ m x y z S, RD K m H o x ∧ RD K m H i y ∧ RD K m H v z ∧ RS K m H S ∧ match g x y z S with
  | some S' => ∀ H' m', Ext K m H m' H' → RS K m' H' S' → Q H'
  | none => False
theorem p_set : PSet X (rdSet X.K gSet) := by
  intro pins s σ H o i v ov iv u Q I ro ri rv ⟨m, x, y, z, S, hx, hy, hz, rs, h⟩
  unfold gSet at h
  cases hx with
  | @ref a l hl =>
    cases hy with
    | int k =>
      simp only at h
      cases e : S[l]? with
      | none => rw [e] at h; exact h.elim
      | some c =>
        cases c with
        | lst xs =>
          rw [e] at h
          simp only at h
          cases e2 : ixN xs.length k with
          | none => rw [e2] at h; exact h.elim
          | some j =>
            rw [e2] at h
            simp only [Option.map_some] at h
            obtain ⟨vs, h1, r⟩ := rs.wlst hl e
            refine set_list pins s σ H _ _ v ov iv u Q I ro ri rv ⟨a, vs, k, j, rfl, rfl, h1, by rw [r.length]; exact e2, ?_⟩
            obtain ⟨ex, rs'⟩ := rs.write (o := .lst (vs.set j v)) (c' := .lst (xs.set j z)) hl e rfl rfl fun ex => ⟨_, upd_same, (RDs.set hz j r).mono ex⟩
            exact h _ _ ex rs'
        | _ => rw [e] at h; exact h.elim
    | _ => exact h.elim
  | _ => exact h.elim
end
section
variable {X : Cx} {W : WX} {a b e : Expr} {es : List Expr} {fa fb fe : EX} {fr fx : AX} {pos p p2 : Pos}
theorem d_ix (ha : PE X a (rdE (X.cq W) fa)) (hb : PE X b (rdE (X.cq W) fb)) (hs : PlainIx b := by exact fun _ _ => rfl) : PE X (.Subscript a b pos) (rdE (X.cq W) (e2 gIx fa fb)) :=
  d_2h (pe_ix i_ix ha hb hs) fun _ _ _ _ h => h
def oN : Env → Store → R (Option Int) := fun _ S => .ok none S
def oI (fa : EX) : Env → Store → R (Option Int) := fun ρ S => (fa ρ S).bind fun d S1 => match d with
  | .int i => .ok (some i) S1
  | _ => .no
def eSl (fa : EX) (lo hi : Env → Store → R (Option Int)) : EX := fun ρ S => (fa ρ S).bind fun x S1 => (lo ρ S1).bind fun l S2 => (hi ρ S2).bind fun h S3 => toR (gSl x l h S3)
theorem d_oN : PO X none (rdO (X.cq W) oN) := POwk po_none fun σ H Q ⟨m, ρ, S, re, rs, h⟩ => h none H m .refl rs rfl
theorem d_oI (ha : PE X a (rdE (X.cq W) fa)) : PO X (some a) (rdO (X.cq W) (oI fa)) := POwk (po_some ha) fun σ H Q ⟨m, ρ, S, re, rs, h⟩ =>
  ⟨m, ρ, S, re, rs, (Post.bind h).imp fun v H1 ⟨m1, x, S1, e, rs1, rd, h1⟩ => by
    cases rd with
    | int i => exact ⟨i, rfl, h1 _ _ m1 .refl rs1 rfl⟩
    | _ => exact h1.elim⟩
theorem d_sl {lo hi : Option Expr} {fl fh : Env → Store → R (Option Int)} (ha : PE X a (rdE (X.cq W) fa)) (hl : PO X lo (rdO (X.cq W) fl)) (hh : PO X hi (rdO (X.cq W) fh)) :
    PE X (.Subscript a (.Slice lo hi none p2) pos) (rdE (X.cq W) (eSl fa fl fh)) := PEwk (pe_slice s_sl ha hl hh) fun σ H Q ⟨m, ρ, S, re, rs, h⟩ =>
  ⟨m, ρ, S, re, rs, (Post.bind h).imp fun v H1 ⟨m1, x, S1, e, rs1, rd, h1⟩ => ⟨m1, ρ, S1, re.mono e, rs1, (Post.bind h1).imp fun lv H2 ⟨m2, l, S2, e2, rs2, el, h2⟩ => by
    subst el
    exact ⟨m2, ρ, S2, (re.mono e).mono e2, rs2, (Post.bind h2).imp fun hv H3 ⟨m3, hh', S3, e3, rs3, eh, h3⟩ => by
      subst eh
      exact ⟨m3, x, S3, (rd.mono e2).mono e3, rs3, VPost.of h3⟩⟩⟩⟩
/-! ## arguments, displays, calls of builtins -/
theorem d_aN : PA X [] (rdA (X.cq W) aN) := PAwk pa_nil fun σ H Q ⟨m, ρ, S, re, rs, h⟩ => h [] H m .refl rs .nil
theorem d_aC (he : PE X e (rdE (X.cq W) fe)) (hr : PA X es (rdA (X.cq W) fr)) (hs : starEach (e :: es) X.env = (false, eval e X.env) :: starEach es X.env := by rfl) : PA X (e :: es) (rdA (X.cq W) (aC fe fr)) :=
  PAwk (pa_cons he hr hs) fun σ H Q ⟨m, ρ, S, re, rs, h⟩ => ⟨m, ρ, S, re, rs, (Post.bind h).imp fun v H1 ⟨m1, x, S1, e, rs1, rd, h1⟩ =>
    ⟨m1, ρ, S1, re.mono e, rs1, (Post.bind h1).imp fun vs H2 ⟨m2, xs, S2, e2, rs2, rds, h2⟩ => h2 _ _ m2 .refl rs2 (.cons (rd.mono e2) rds)⟩⟩
def gTpl (xs : List D) (S : Store) : Option (D × Store) := if xs.length ≤ LIM then some (.tup xs, S) else none
def gLsd (xs : List D) (S : Store) : Option (D × Store) := if xs.length ≤ LIM then some (.ref S.length, S ++ [.lst xs]) else none
theorem d_tup {k : Nat} (h : PA X es (rdA (X.cq W) fx)) : PE X (.Tuple es k pos) (rdE (X.cq W) (eB gTpl fx)) := by
  refine ⟨fun pins s σ H Q I ⟨m, ρ, S, re, rs, hq⟩ => ?_⟩
  refine wpAny_Tuple_spliced (thn (h.run pos pins s σ H _ I ⟨m, ρ, S, re, rs, Post.bind hq⟩) fun us s1 ⟨vs, H1, I1, r, m1, xs, S1, e, rs1, rds, h1⟩ => ?_)
  have h1 := VPost.of h1
  unfold gTpl at h1
  split at h1
  · rename_i hz
    have hz' : vs.length ≤ sizeLine := by rw [← lim_eq, rds.length]; exact hz
    exact ⟨by rw [← r.length]; exact hz', lay_tup (tk := s1.toks) I1 hz' r fun o hc hd => vp_tup rs1 (I1.hok.fresh (Nat.le_refl _)) hc hd rds h1⟩
  · exact h1.elim
theorem d_lst (h : PA X es (rdA (X.cq W) fx)) : PE X (.List es pos) (rdE (X.cq W) (eB gLsd fx)) := PEwk (pe_lst h) fun σ H Q ⟨m, ρ, S, re, rs, hq⟩ =>
  ⟨m, ρ, S, re, rs, (Post.bind hq).imp fun vs H1 ⟨m1, xs, S1, e, rs1, rds, h1⟩ => by
    have h1 := VPost.of h1
    unfold gLsd at h1
    split at h1
    · rename_i hz
      exact ⟨by rw [← lim_eq, rds.length]; exact hz, fun p hp => vp_lst rs1 hp rds h1⟩
    · exact h1.elim⟩
theorem d_callB {x : Str} {id : String} {g : List D → Store → Option (D × Store)} (hc : CallR X (.builtin id) (rdC X.K g)) (hg : Gl X x) (hm : X.mg x = none) (hv : bootBuiltins x = some (.builtin id)) (ha : PA X (e :: es) (rdA (X.cq W) fx)) (hn : x ≠ "__name__" := by decide)
    (hdb : (x == ("__debug__" : Str)) = false := by decide) (he : starEach (e :: es) X.env = (false, eval e X.env) :: starEach es X.env := by rfl) (hpl : (backTo pos (starEach es X.env)).any (·.1) = false := by rfl) :
    PE X (.Call (.Name x p) (e :: es) [] pos) (rdE (X.cq W) (eB g fx)) := PEwk (pe_callB hc hg hm hv ha hn hdb he hpl) fun σ H Q ⟨m, ρ, S, re, rs, h⟩ =>
  ⟨m, ρ, S, re, rs, (Post.bind h).imp fun vs H1 ⟨m1, xs, S1, e, rs1, rd, h1⟩ => ⟨m1, xs, S1, rd, rs1, VPost.of h1⟩⟩
theorem d_callT {x : Str} {T : String} {g : List D → Store → Option (D × Store)} (hc : CallR X (.type T) (rdC X.K g)) (hg : Gl X x) (hm : X.mg x = none) (hv : bootBuiltins x = some (.type T)) (ha : PA X (e :: es) (rdA (X.cq W) fx)) (hn : x ≠ "__name__" := by decide)
    (hdb : (x == ("__debug__" : Str)) = false := by decide) (he : starEach (e :: es) X.env = (false, eval e X.env) :: starEach es X.env := by rfl) (hpl : (backTo pos (starEach es X.env)).any (·.1) = false := by rfl) :
    PE X (.Call (.Name x p) (e :: es) [] pos) (rdE (X.cq W) (eB g fx)) := PEwk (pe_callTy hc hg hm hv ha hn hdb he hpl) fun σ H Q ⟨m, ρ, S, re, rs, h⟩ =>
  ⟨m, ρ, S, re, rs, (Post.bind h).imp fun vs H1 ⟨m1, xs, S1, e, rs1, rd, h1⟩ => ⟨m1, xs, S1, rd, rs1, VPost.of h1⟩⟩
/-- a method of a built-in type -/
theorem d_bm {o : Expr} {fo : EX} {T id : String} {name : Str} {apos cpos : Pos} {g : D → List D → Store → Option (D × Store)} (pa : PlainAttrs T) (slot : Slot T name id) (hty : typeOf (.builtin id) = pure (.type "method_descriptor")) (hm : MtR X id (rdM X.K g))
    (hT : ∀ v m H x S xs S1, RD X.K m H v x → RS X.K m H S → (g x xs S1).isSome = true → tyV X.K T v H)
    (ho : PE X o (rdE (X.cq W) fo)) (ha : PA X (e :: es) (rdA (X.cq W) fx)) : True := trivial
end
end Dl

set_option Elab.async false
set_option linter.all false
set_option maxRecDepth 100000
namespace Dl
open PySem L2

/-! ## built-in functions -/
inductive Ty where
  | non | bl | int | str | tup | lst | dic
  deriving DecidableEq
def Ty.name : Ty → String
  | .non => "NoneType" | .bl => "bool" | .int => "int" | .str => "str" | .tup => "tuple" | .lst => "list" | .dic => "dict"
def tyD (S : Store) : D → Option Ty
  | .non => some .non
  | .bl _ => some .bl
  | .int _ => some .int
  | .str _ => some .str
  | .tup _ => some .tup
  | .ref l => match S[l]? with
    | some (.lst _) => some .lst
    | some (.rol _) => some .lst
    | some (.dic _) => some .dic
    | _ => none
  | .raw _ => none
def isiB (t T : Ty) : Bool := decide (t = T) || (decide (t = .bl) && decide (T = .int))
theorem kit_all (t T : Ty) (hT : T ≠ .non) : kitB t.name T.name = some (isiB t T) := by
  cases T <;> first | exact absurd rfl hT | (cases t <;> decide +kernel)
def gIsi (T : Ty) : List D → Store → Option (D × Store)
  | [x, .raw (.ty n)], S => if n = T.name then (tyD S x).map fun t => (.bl (isiB t T), S) else none
  | _, _ => none
def gLen : List D → Store → Option (D × Store)
  | [.str x], S => some (.int x.length, S)
  | [.tup xs], S => some (.int xs.length, S)
  | [.ref l], S => (lstAt S l).map fun xs => (.int xs.length, S)
  | _, _ => none
def gAbs : List D → Store → Option (D × Store)
  | [.int i], S => some (.int (if i < 0 then -i else i), S)
  | _, _ => none
def gInt : List D → Store → Option (D × Store)
  | [.int i], S => some (.int i, S)
  | [.bl b], S => some (.int (if b then 1 else 0), S)
  | [.str x], S => if x.length ≤ 640 then (PySem.intText? x).map fun n => (.int n, S) else none
  | _, _ => none
def gStr : List D → Store → Option (D × Store)
  | [.int i], S => if i.natAbs.log2 < 1920 ∧ (toString i : Str).length ≤ LIM then some (.str (toString i), S) else none
  | _, _ => none
def gMax2 : List D → Store → Option (D × Store)
  | [.int i, .int j], S => some (.int (if j > i then j else i), S)
  | _, _ => none
def gMin2 : List D → Store → Option (D × Store)
  | [.int i, .int j], S => some (.int (if j < i then j else i), S)
  | _, _ => none
/-- list(xs): a new list -/
def gList : List D → Store → Option (D × Store)
  | [.tup xs], S => some (.ref S.length, S ++ [.lst xs])
  | [.ref l], S => (lstAt S l).map fun xs => (.ref S.length, S ++ [.lst xs])
  | _, _ => none
def gTuple : List D → Store → Option (D × Store)
  | [.tup xs], S => some (.tup xs, S)
  | [.ref l], S => (lstAt S l).map fun xs => (.tup xs, S)
  | _, _ => none
/-- all, any of a list of bools -/
def bools : List D → Option (List Bool)
  | [] => some []
  | .bl b :: r => (bools r).map (b :: ·)
  | _ => none
def gAll : List D → Store → Option (D × Store)
  | [.ref l], S => ((lstAt S l).bind bools).map fun bs => (.bl (bs.all id), S)
  | _, _ => none
def gAny : List D → Store → Option (D × Store)
  | [.ref l], S => ((lstAt S l).bind bools).map fun bs => (.bl (bs.any id), S)
  | _, _ => none
section
variable {X : Cx}
theorem tyx_of {K : PySem.W.Frag} {m : List Addr} {H : Hp} {S : Store} {v : V} {x : D} {t : Ty} (r : RD K m H v x) (rs : RS K m H S) (h : tyD S x = some t) : TyX K H v (.type t.name) := by
  cases r with
  | non => cases h; exact .base .non
  | bl b => cases h; exact .base (.bl b)
  | int b => cases h; exact .base (.int b)
  | str b => cases h; exact .base (.str _)
  | tup ht _ =>
    cases h
    rcases ht with ⟨o, h, _⟩ | ⟨o, its, n, h1, h2, _⟩
    · exact .fTuple h
    · exact .kTuple h1 h2
  | @ref a l hl =>
    unfold tyD at h
    simp only at h
    split at h
    · rename_i xs e
      cases h
      obtain ⟨vs, h1, _⟩ := rs.at_ hl e
      exact .base (.lst h1)
    · rename_i xs e
      cases h
      obtain ⟨vs, h1, _⟩ := rs.at_ hl e
      rcases h1 with ⟨o, h1⟩ | ⟨o, its, n, h1, h2, _⟩
      · exact .base (.frz h1)
      · exact .kList h1 h2
    · rename_i xs e
      cases h
      obtain ⟨vs, h1, _⟩ := rs.at_ hl e
      exact .base (.dK h1)
    · cases h
  | raw v => cases h
theorem c_isi (T : Ty) (hT : T ≠ .non) : CallR X (.builtin "isinstance") (rdC X.K (gIsi T)) := by
  intro pins s σ H vs us Q I r ⟨m, xs, S, hx, rs, h⟩
  unfold gIsi at h
  split at h
  · rename_i x n
    split at h
    · rename_i hn
      subst hn
      cases hx with
      | cons h1 h2 =>
        cases h2 with
        | cons h3 h4 =>
          cases h4
          cases h3
          cases e : tyD S x with
          | none => rw [e] at h; exact h.elim
          | some t =>
            rw [e] at h
            exact call_isi pins s σ H _ us Q I r ⟨_, _, _, .type T.name, isiB t T, rfl, .ty _, tyx_of h1 rs e, kit_ty (kit_all t T hT), h _ _ m .refl rs (.bl _)⟩
    · exact h.elim
  · exact h.elim
theorem c_len : CallR X (.builtin "len") (rdC X.K gLen) := by
  intro pins s σ H vs us Q I r ⟨m, xs, S, hx, rs, h⟩
  unfold gLen at h
  split at h
  · cases hx with
    | cons h1 h2 =>
      cases h2
      cases h1 with
      | str hz => exact call_len pins s σ H _ us Q I r ⟨_, _, rfl, ⟨by rw [← lim_eq]; exact hz, rfl⟩, h _ _ m .refl rs (.int _)⟩
  · cases hx with
    | cons h1 h2 =>
      cases h2
      cases h1 with
      | tup ht rd => exact call_len pins s σ H _ us Q I r ⟨_, _, rfl, .inr ⟨_, ht.sq, rfl⟩, by rw [rd.length]; exact h _ _ m .refl rs (.int _)⟩
  · rename_i l
    cases e : lstAt S l with
    | none => rw [e] at h; exact h.elim
    | some ys =>
      rw [e] at h
      cases hx with
      | cons h1 h2 =>
        cases h2
        cases h1 with
        | ref hl =>
          obtain ⟨ws, hq, rd⟩ := rs.lst hl e
          exact call_len pins s σ H _ us Q I r ⟨_, _, rfl, .inl ⟨_, hq, rfl⟩, by rw [rd.length]; exact h _ _ m .refl rs (.int _)⟩
  · exact h.elim
theorem c_abs : CallR X (.builtin "abs") (rdC X.K gAbs) := by
  intro pins s σ H vs us Q I r ⟨m, xs, S, hx, rs, h⟩
  unfold gAbs at h
  split at h
  · cases hx with
    | cons h1 h2 =>
      cases h2
      cases h1
      exact call_abs pins s σ H _ us Q I r ⟨_, rfl, h _ _ m .refl rs (.int _)⟩
  · exact h.elim
theorem c_int : CallR X (.type "int") (rdC X.K gInt) := by
  intro pins s σ H vs us Q I r ⟨m, xs, S, hx, rs, h⟩
  unfold gInt at h
  split at h
  · cases hx with
    | cons h1 h2 =>
      cases h2
      cases h1
      exact call_int1 pins s σ H _ us Q I r (.inl ⟨_, rfl, h _ _ m .refl rs (.int _)⟩)
  · cases hx with
    | cons h1 h2 =>
      cases h2
      cases h1
      exact call_int1 pins s σ H _ us Q I r (.inr ⟨_, rfl, h _ _ m .refl rs (.int _)⟩)
  · rename_i x
    split at h
    · rename_i hz
      cases e : PySem.intText? x with
      | none => rw [e] at h; exact h.elim
      | some n =>
        rw [e] at h
        cases hx with
        | cons h1 h2 =>
          cases h2
          cases h1
          exact call_int_str pins s σ H _ us Q I r ⟨_, n, rfl, e, hz, h _ _ m .refl rs (.int _)⟩
    · exact h.elim
  · exact h.elim
theorem c_str : CallR X (.type "str") (rdC X.K gStr) := by
  intro pins s σ H vs us Q I r ⟨m, xs, S, hx, rs, h⟩
  unfold gStr at h
  split at h
  · split at h
    · rename_i hz
      cases hx with
      | cons h1 h2 =>
        cases h2
        cases h1
        exact call_str_int pins s σ H _ us Q I r ⟨_, rfl, hz.1, h _ _ m .refl rs (.str hz.2)⟩
    · exact h.elim
  · exact h.elim
theorem c_max2 (hc : X.calm = true) : CallR X (.builtin "max") (rdC X.K gMax2) := by
  intro pins s σ H vs us Q I r ⟨m, xs, S, hx, rs, h⟩
  unfold gMax2 at h
  split at h
  · cases hx with
    | cons h1 h2 =>
      cases h2 with
      | cons h2 h3 =>
        cases h3
        cases h1
        cases h2
        exact call_max2 hc pins s σ H _ us Q I r ⟨_, _, rfl, h _ _ m .refl rs (.int _)⟩
  · exact h.elim
theorem c_min2 (hc : X.calm = true) : CallR X (.builtin "min") (rdC X.K gMin2) := by
  intro pins s σ H vs us Q I r ⟨m, xs, S, hx, rs, h⟩
  unfold gMin2 at h
  split at h
  · cases hx with
    | cons h1 h2 =>
      cases h2 with
      | cons h2 h3 =>
        cases h3
        cases h1
        cases h2
        exact call_min2 hc pins s σ H _ us Q I r ⟨_, _, rfl, h _ _ m .refl rs (.int _)⟩
  · exact h.elim
theorem c_list : CallR X (.type "list") (rdC X.K gList) := by
  intro pins s σ H vs us Q I r ⟨m, xs, S, hx, rs, h⟩
  unfold gList at h
  split at h
  · cases hx with
    | cons h1 h2 =>
      cases h2
      cases h1 with
      | tup ht rd => exact call_list_of pins s σ H _ us Q I r ⟨_, _, rfl, .inr ht.sq, fun p hp => vp_lst rs hp rd h⟩
  · rename_i l
    cases e : lstAt S l with
    | none => rw [e] at h; exact h.elim
    | some ys =>
      rw [e] at h
      cases hx with
      | cons h1 h2 =>
        cases h2
        cases h1 with
        | ref hl =>
          obtain ⟨ws, hq, rd⟩ := rs.lst hl e
          exact call_list_of pins s σ H _ us Q I r ⟨_, _, rfl, .inl hq, fun p hp => vp_lst rs hp rd h⟩
  · exact h.elim
theorem c_tuple : CallR X (.type "tuple") (rdC X.K gTuple) := by
  intro pins s σ H vs us Q I r ⟨m, xs, S, hx, rs, h⟩
  unfold gTuple at h
  split at h
  · cases hx with
    | cons h1 h2 =>
      cases h2
      cases h1 with
      | tup ht rd => exact call_tupleT pins s σ H _ us Q I r ⟨_, _, rfl, ht.sq, h _ _ m .refl rs (.tup ht rd)⟩
  · rename_i l
    cases e : lstAt S l with
    | none => rw [e] at h; exact h.elim
    | some ys =>
      rw [e] at h
      cases hx with
      | cons h1 h2 =>
        cases h2
        cases h1 with
        | ref hl =>
          obtain ⟨ws, hq, rd⟩ := rs.lst hl e
          obtain ⟨u, rfl, rx⟩ := vals1 r
          cases rx
          obtain ⟨its, r', pl, hz⟩ := I.list hq
          have hlen := r'.length
          refine call_tuple_list pl.isList (fun h' kp => ?_) (by simp only [List.size_toArray] <;> omega)
          have I1 : L2.Inv X pins σ H { s with heap := h' } := I.kept (t' := s.toks) kp
          exact lay_tup (s := { s with heap := h' }) (tk := s.toks) I1 hz r' fun o hc hd => vp_tup rs (I1.hok.fresh (Nat.le_refl _)) hc hd rd h
  · exact h.elim
theorem bools_of {K : PySem.W.Frag} {m : List Addr} {H : Hp} : ∀ {xs : List D} {vs : List V} {bs : List Bool}, RDs K m H vs xs → bools xs = some bs → vs = bs.map V.bl
  | [], _, _, r, h => by cases r; cases h; rfl
  | .bl b :: r, _, bs, rr, h => by
    cases rr with
    | cons h1 h2 =>
      cases h1
      have h : (bools r).map (b :: ·) = some bs := h
      cases e : bools r with
      | none => rw [e] at h; cases h
      | some cs =>
        rw [e] at h
        cases h
        rw [bools_of h2 e]
        rfl
  | .non :: _, _, _, _, h => nomatch h
  | .int _ :: _, _, _, _, h => nomatch h
  | .str _ :: _, _, _, _, h => nomatch h
  | .tup _ :: _, _, _, _, h => nomatch h
  | .ref _ :: _, _, _, _, h => nomatch h
  | .raw _ :: _, _, _, _, h => nomatch h
theorem c_all (hc : X.calm = true) : CallR X (.builtin "all") (rdC X.K gAll) := by
  intro pins s σ H vs us Q I r ⟨m, xs, S, hx, rs, h⟩
  unfold gAll at h
  split at h
  · rename_i l
    cases e : lstAt S l with
    | none => rw [e] at h; exact h.elim
    | some ys =>
      rw [e] at h
      simp only [Option.bind_some] at h
      cases e2 : bools ys with
      | none => rw [e2] at h; exact h.elim
      | some bs =>
        rw [e2] at h
        cases hx with
        | cons h1 h2 =>
          cases h2
          cases h1 with
          | ref hl =>
            obtain ⟨ws, hq, rd⟩ := rs.lst hl e
            have ew := bools_of rd e2
            subst ew
            exact cr_all hc pins s σ H _ us Q I r ⟨_, bs, rfl, hq, h _ _ m .refl rs (.bl _)⟩
  · exact h.elim
theorem c_any (hc : X.calm = true) : CallR X (.builtin "any") (rdC X.K gAny) := by
  intro pins s σ H vs us Q I r ⟨m, xs, S, hx, rs, h⟩
  unfold gAny at h
  split at h
  · rename_i l
    cases e : lstAt S l with
    | none => rw [e] at h; exact h.elim
    | some ys =>
      rw [e] at h
      simp only [Option.bind_some] at h
      cases e2 : bools ys with
      | none => rw [e2] at h; exact h.elim
      | some bs =>
        rw [e2] at h
        cases hx with
        | cons h1 h2 =>
          cases h2
          cases h1 with
          | ref hl =>
            obtain ⟨ws, hq, rd⟩ := rs.lst hl e
            have ew := bools_of rd e2
            subst ew
            exact cr_any hc pins s σ H _ us Q I r ⟨_, bs, rfl, hq, h _ _ m .refl rs (.bl _)⟩
  · exact h.elim
end

/-! ## methods of built-in types -/
def eMt (T : Ty) (g : D → List D → Store → Option (D × Store)) (fo : EX) (fa : AX) : EX := fun ρ S => (fo ρ S).bind fun x S1 => if tyD S1 x = some T then (fa ρ S1).bind fun xs S2 => toR (g x xs S2) else .no
section
variable {X : Cx} {W : WX} {o e : Expr} {es : List Expr} {fo fe : EX} {fx : AX} {apos cpos : Pos} {name : Str} {id : String} {T : Ty} {g : D → List D → Store → Option (D × Store)}
theorem ty_is {pins : List (Addr × Obj)} {σ : St} {H : Hp} {s : Shared} {m : List Addr} {S : Store} {v : V} {x : D} {u : Value} (I : L2.Inv X pins σ H s) (r : RelV v u) (rd : RD X.K m H v x) (rs : RS X.K m H S) (h : tyD S x = some T) (hT : T = .str ∨ T = .tup ∨ T = .lst ∨ T = .dic) :
    s.TypeIs u T.name ∧ ∀ a, u = .ref a → ∃ ob, s.heap.get? a = some ob ∧ ob.dict = none := by
  cases rd with
  | non => cases h; rcases hT with z | z | z | z <;> cases z
  | bl b => cases h; rcases hT with z | z | z | z <;> cases z
  | int b => cases h; rcases hT with z | z | z | z <;> cases z
  | str b =>
    cases h
    obtain ⟨t, rfl⟩ := r
    exact ⟨typeIs_str _ _ _, fun _ e => nomatch e⟩
  | @tup a _ _ ht _ =>
    cases h
    cases r
    rcases ht with ⟨ob, h, hc, hd⟩ | ⟨ob, its, n, h1, h2, h3, _⟩
    · obtain ⟨e, _⟩ := (show ObjOk X.prog X.w H s.heap a (.frz ob _) from I.hok a _ h)
      exact ⟨⟨ob, e, hc⟩, fun b eb => by cases eb; exact ⟨ob, e, hd⟩⟩
    · exact ⟨⟨ob, I.kIn a ob h1, h2⟩, fun b eb => by cases eb; exact ⟨ob, I.kIn _ ob h1, h3⟩⟩
  | @ref a l hl =>
    cases r
    unfold tyD at h
    simp only at h
    split at h
    · rename_i xs e
      cases h
      obtain ⟨vs, h1, _⟩ := rs.at_ hl e
      exact tyV_is (T := "list") (x := .ref a) I rfl (.inl ⟨rfl, _, SqL.of h1⟩)
    · rename_i xs e
      cases h
      obtain ⟨vs, h1, _⟩ := rs.at_ hl e
      exact tyV_is (T := "list") (x := .ref a) I rfl (.inl ⟨rfl, _, h1.sq⟩)
    · rename_i xs e
      cases h
      obtain ⟨vs, h1, _⟩ := rs.at_ hl e
      exact tyV_is (T := "dict") (x := .ref a) I rfl (.inr (.inr (.inl ⟨rfl, .inl ⟨_, h1⟩⟩)))
    · cases h
  | raw v => cases h
theorem d_m0 (pa : PlainAttrs T.name) (slot : Slot T.name name id) (hty : typeOf (.builtin id) = pure (.type "method_descriptor")) (hT : T = .str ∨ T = .tup ∨ T = .lst ∨ T = .dic) (hm : MtR X id (rdM X.K g)) (ho : PE X o (rdE (X.cq W) fo))
    (hbase : attributeBase o name X.env (eval o X.env) = eval o X.env := by rfl) (hline : (apos.endLine == cpos.line) = true := by rfl) : PE X (.Call (.Attribute o name apos) [] [] cpos) (rdE (X.cq W) (eMt T g fo aN)) := by
  refine ⟨fun pins s σ H Q I ⟨m, ρ, S, re, rs, h⟩ => ?_⟩
  refine wpAny_Call_method0_late hbase hline (thn (ho.run pins s σ H _ I ⟨m, ρ, S, re, rs, Post.bind h⟩) fun v s1 ⟨x, H1, I1, r1, m1, d, S1, e1, rs1, rd1, h1⟩ => ?_)
  split at h1
  · rename_i ht
    obtain ⟨q1, q2⟩ := ty_is I1 r1 rd1 rs1 ht hT
    exact ⟨T.name, id, pa, slot, hty, q1, q2, Calls.callWith_builtin rfl (PySem.evalArgs_none (hm pins s1 σ H1 x [] v [] Q I1 r1 .nil ⟨m1, d, [], S1, rd1, .nil, rs1, VPost.of h1⟩))⟩
  · exact h1.elim
theorem d_m (pa : PlainAttrs T.name) (slot : Slot T.name name id) (hty : typeOf (.builtin id) = pure (.type "method_descriptor")) (hT : T = .str ∨ T = .tup ∨ T = .lst ∨ T = .dic) (hm : MtR X id (rdM X.K g)) (ho : PE X o (rdE (X.cq W) fo)) (ha : PA X (e :: es) (rdA (X.cq W) fx))
    (hbase : attributeBase o name X.env (eval o X.env) = eval o X.env := by rfl)
    (hfew : ((backTo cpos (starEach (e :: es) X.env)).all (fun x => !x.1) && (backToKw cpos (keywordEach [] X.env)).all (fun x => x.1.isSome)
      && decide ((e :: es).length + ([] : List Keyword).length + (if ([] : List Keyword).isEmpty then 0 else 1) < 30)) = true := by rfl)
    (hline : (apos.endLine == cpos.line) = true := by rfl) (hs : starEach (e :: es) X.env = (false, eval e X.env) :: starEach es X.env := by rfl) (hplain : (backTo cpos (starEach es X.env)).any (·.1) = false := by rfl) :
    PE X (.Call (.Attribute o name apos) (e :: es) [] cpos) (rdE (X.cq W) (eMt T g fo fx)) := by
  refine ⟨fun pins s σ H Q I ⟨m, ρ, S, re, rs, h⟩ => ?_⟩
  refine wpAny_Call_method_late hbase hfew hline rfl (thn (ho.run pins s σ H _ I ⟨m, ρ, S, re, rs, Post.bind h⟩) fun v s1 ⟨x, H1, I1, r1, m1, d, S1, e1, rs1, rd1, h1⟩ => ?_)
  split at h1
  · rename_i ht
    obtain ⟨q1, q2⟩ := ty_is I1 r1 rd1 rs1 ht hT
    refine ⟨T.name, id, pa, slot, hty, q1, q2, ?_⟩
    have hA := ha.run cpos pins s1 σ H1 _ I1 ⟨m1, ρ, S1, re.mono e1, rs1, Post.bind h1⟩
    rw [hs] at hA ⊢
    refine Calls.callWith_builtin (by show (false || (backTo cpos (starEach es X.env)).any (·.1)) = false; rw [hplain] <;> rfl) (Calls.evalArgs_plain ?_)
    exact thn hA fun us s2 ⟨vs, H2, I2, r2, m2, xs, S2, e2, rs2, rd2, h2⟩ => hm pins s2 σ H2 x vs v us Q I2 r1 r2 ⟨m2, d, xs, S2, rd1.mono e2, rd2, rs2, VPost.of h2⟩
  · exact h1.elim
end
/-- xs.append(y) -/
def gAppend : D → List D → Store → Option (D × Store)
  | .ref l, [d], S => match S[l]? with
    | some (.lst xs) => if xs.length < LIM then some (.non, S.set l (.lst (xs ++ [d]))) else none
    | _ => none
  | _, _, _ => none
def gPop : D → List D → Store → Option (D × Store)
  | .ref l, [], S => match S[l]? with
    | some (.lst xs) => (xs[xs.length - 1]?).map fun d => (d, S.set l (.lst xs.dropLast))
    | _ => none
  | _, _, _ => none
/-- s.partition(c), c one sign -/
def partL (c : Nat) (xs : List Nat) : List Nat × List Nat × List Nat := if c ∈ xs then (xs.takeWhile (· != c), [c], (xs.dropWhile (· != c)).drop 1) else (xs, [], [])
def gPart : D → List D → Store → Option (D × Store)
  | .str a, [.str b], S => if b.length = 1 then
      let p := partL (b.cps.getD 0 0) a.cps.toList
      some (.tup [.str ⟨p.1.toArray⟩, .str ⟨p.2.1.toArray⟩, .str ⟨p.2.2.toArray⟩], S) else none
  | _, _, _ => none
/-- t.count(x), l.count(x) -/
def gCountT : D → List D → Store → Option (D × Store)
  | .tup xs, [d], S => if d.flat && flats xs && decide (d.dep ≤ 64) then some (.int (xs.countP fun y => deq y d : Nat), S) else none
  | _, _, _ => none
theorem takeWhile_at {c : Nat} : ∀ {l : List Nat} {i : Nat}, l[i]? = some c → (∀ k, k < i → l[k]? ≠ some c) → l.takeWhile (· != c) = l.take i
  | [], i, h, _ => by simp at h
  | k :: r, 0, h, _ => by
    have e : k = c := by simpa using h
    subst e
    rw [List.takeWhile_cons_of_neg (by simp)]
    rfl
  | k :: r, i + 1, h, hn => by
    have h1 : k ≠ c := fun e => hn 0 (by omega) (by simp [e])
    rw [List.takeWhile_cons_of_pos (by simp [h1]), takeWhile_at (l := r) (i := i) (by simpa using h) fun j hj => by have := hn (j + 1) (by omega); simpa using this]
    rfl
theorem dropWhile_at {c : Nat} : ∀ {l : List Nat} {i : Nat}, l[i]? = some c → (∀ k, k < i → l[k]? ≠ some c) → l.dropWhile (· != c) = c :: l.drop (i + 1)
  | [], i, h, _ => by simp at h
  | k :: r, 0, h, _ => by
    have e : k = c := by simpa using h
    subst e
    rw [List.dropWhile_cons_of_neg (by simp)]
    rfl
  | k :: r, i + 1, h, hn => by
    have h1 : k ≠ c := fun e => hn 0 (by omega) (by simp [e])
    rw [List.dropWhile_cons_of_pos (by simp [h1]), dropWhile_at (l := r) (i := i) (by simpa using h) fun j hj => by have := hn (j + 1) (by omega); simpa using this]
    rfl
theorem part_one (x : Str) (c : Nat) : Txt.partition x ⟨#[c]⟩ = (⟨(partL c x.cps.toList).1.toArray⟩, ⟨(partL c x.cps.toList).2.1.toArray⟩, ⟨(partL c x.cps.toList).2.2.toArray⟩) := by
  unfold Txt.partition
  rcases StrLaws.occ_head x ⟨#[c]⟩ 1 (Nat.le_refl 1) with ⟨h0, hn⟩ | ⟨i, r, h0, hi, hn⟩
  · have hfree : c ∉ x.cps.toList := fun hm => by
      obtain ⟨j, hj⟩ := List.getElem?_of_mem hm
      exact hn j ((StrLaws.subAt_one x c j).mpr hj)
    rw [h0]
    unfold partL
    rw [if_neg hfree]
    rfl
  · rw [h0]
    have hm := (StrLaws.subAt_one x c i).mp hi
    have hn' : ∀ k, k < i → x.cps.toList[k]? ≠ some c := fun k hk e => hn k hk ((StrLaws.subAt_one x c k).mpr e)
    have hmem : c ∈ x.cps.toList := List.mem_of_getElem? hm
    unfold partL
    rw [if_pos hmem, takeWhile_at hm hn', dropWhile_at hm hn']
    have hl : x.cps.toList.length = x.cps.size := Array.length_toList
    refine Prod.ext ?_ (Prod.ext rfl ?_)
    · apply congrArg Str.mk
      apply Array.toList_inj.mp
      show (x.cps.extract 0 i).toList = _
      simp
    · apply congrArg Str.mk
      apply Array.toList_inj.mp
      show (x.cps.extract (i + 1) x.cps.size).toList = _
      rw [Array.toList_extract]
      simp [List.extract_eq_take_drop]
      rw [← hl, ← List.length_drop]
      exact List.take_length
theorem partL_le (c : Nat) (xs : List Nat) : (partL c xs).1.length ≤ xs.length ∧ (partL c xs).2.1.length ≤ 1 ∧ (partL c xs).2.2.length ≤ xs.length := by
  unfold partL
  split
  · refine ⟨(List.takeWhile_sublist _).length_le, Nat.le_refl _, ?_⟩
    exact Nat.le_trans (List.drop_sublist _ _).length_le (List.dropWhile_sublist _).length_le
  · exact ⟨Nat.le_refl _, Nat.zero_le _, Nat.zero_le _⟩
section
variable {X : Cx}
theorem m_append : MtR X "list.append" (rdM X.K gAppend) := by
  intro pins s σ H v vs vv us Q I rv rvs ⟨m, x, xs, S, hx, hxs, rs, h⟩
  unfold gAppend at h
  split at h
  · rename_i l d
    split at h
    · rename_i ys e
      split at h
      · rename_i hz
        cases hx with
        | ref hl =>
          cases hxs with
          | cons h1 h2 =>
            cases h2
            obtain ⟨ws, hw, rw'⟩ := rs.wlst hl e
            refine mt_append pins s σ H _ _ vv us Q I rv rvs ⟨_, ws, _, rfl, rfl, hw, by rw [rw'.length, ← lim_eq]; exact hz, ?_⟩
            obtain ⟨ex, rs'⟩ := rs.write (o := .lst (ws ++ [_])) (c' := .lst (ys ++ [d])) hl e rfl rfl fun ex => ⟨_, upd_same, (rw'.mono ex).append (.one (h1.mono ex))⟩
            exact h _ _ m ex rs' .non
      · exact h.elim
    · exact h.elim
  · exact h.elim
theorem m_pop : MtR X "list.pop" (rdM X.K gPop) := by
  intro pins s σ H v vs vv us Q I rv rvs ⟨m, x, xs, S, hx, hxs, rs, h⟩
  unfold gPop at h
  split at h
  · rename_i l
    split at h
    · rename_i ys e
      cases hx with
      | ref hl =>
        cases hxs
        obtain ⟨ws, hw, rw'⟩ := rs.wlst hl e
        cases e2 : ys[ys.length - 1]? with
        | none => rw [e2] at h; exact h.elim
        | some d =>
          rw [e2] at h
          obtain ⟨w, e3, rd⟩ := rw'.get e2
          refine mt_pop pins s σ H _ _ vv us Q I rv rvs ⟨_, ws, w, rfl, rfl, hw, by rw [rw'.length]; exact e3, ?_⟩
          obtain ⟨ex, rs'⟩ := rs.write (o := .lst ws.dropLast) (c' := .lst ys.dropLast) hl e rfl rfl fun ex => ⟨_, upd_same, (rw'.mono ex).dropLast⟩
          exact h _ _ m ex rs' (rd.mono ex)
    · exact h.elim
  · exact h.elim
theorem m_part : MtR X "str.partition" (rdM X.K gPart) := by
  intro pins s σ H v vs vv us Q I rv rvs ⟨m, x, xs, S, hx, hxs, rs, h⟩
  unfold gPart at h
  split at h
  · rename_i a b
    split at h
    · rename_i hb
      cases hx with
      | str ha =>
        cases hxs with
        | cons h1 h2 =>
          cases h2
          cases h1 with
          | str hb2 =>
            obtain ⟨t, rfl⟩ := rv
            cases rvs with
            | cons r1 rs1 =>
              cases rs1
              obtain ⟨u, rfl⟩ := r1
              have hz : a.length ≤ sizeLine := by rw [← lim_eq]; exact ha
              refine call_meets F.slot_str_partition (typeIs_str _ _ _) F.entry_str_partition (F.args_str_partition_2 _ _) (meets_str_partition a b t u (by rw [hb]; rfl) hz) ?_
              have hp := part_one a (b.cps.getD 0 0)
              rw [← sign_of hb] at hp
              obtain ⟨l1, l2, l3⟩ := partL_le (b.cps.getD 0 0) a.cps.toList
              have la : a.cps.toList.length = a.length := by simp [Str.length]
              have go : ∀ {x y z : Str} {t u v : Tok} {k : Nat}, (x, y, z) = (⟨(partL (b.cps.getD 0 0) a.cps.toList).1.toArray⟩, ⟨(partL (b.cps.getD 0 0) a.cps.toList).2.1.toArray⟩, (⟨(partL (b.cps.getD 0 0) a.cps.toList).2.2.toArray⟩ : Str)) →
                  EP X pins σ Q (.ref s.heap.objs.size) { s with toks := k, heap := s.heap.push { cls := .type "tuple", data := .seq [Value.str x t, .str y u, .str z v].toArray } } := fun {x y z t u v k} e => by
                injection e with e1 e2
                injection e2 with e2 e3
                subst e1 e2 e3
                refine lay_tup (xs := [.str ⟨(partL (b.cps.getD 0 0) a.cps.toList).1.toArray⟩, .str ⟨(partL (b.cps.getD 0 0) a.cps.toList).2.1.toArray⟩, .str ⟨(partL (b.cps.getD 0 0) a.cps.toList).2.2.toArray⟩]) (tk := k) I (by show 3 ≤ sizeLine; decide) (.cons ⟨t, rfl⟩ (.cons ⟨u, rfl⟩ (.cons ⟨v, rfl⟩ .nil))) fun o hc hd => ?_
                have la' : a.cps.toList.length ≤ 16777216 := by rw [la]; exact ha
                exact vp_tup rs (I.hok.fresh (Nat.le_refl _)) hc hd (.cons (.str (by show (List.toArray _).size ≤ _; rw [List.size_toArray]; omega)) (.cons (.str (by show (List.toArray _).size ≤ _; rw [List.size_toArray]; omega)) (.cons (.str (by show (List.toArray _).size ≤ _; rw [List.size_toArray]; omega)) .nil))) h
              unfold Txt.partition at hp
              revert hp
              cases Builtin.Str.occurrences a b 0 a.length 1 with
              | nil => intro hp; exact go hp
              | cons i r => intro hp; exact go hp
    · exact h.elim
  · exact h.elim
theorem m_countT (hu : X.A.units + 65 < cLine) : MtR X "tuple.count" (rdM X.K gCountT) := by
  intro pins s σ H v vs vv us Q I rv rvs ⟨m, x, xs, S, hx, hxs, rs, h⟩
  unfold gCountT at h
  split at h
  · rename_i ys d
    split at h
    · rename_i hc
      simp only [Bool.and_eq_true, decide_eq_true_eq] at hc
      obtain ⟨⟨c1, c2⟩, c3⟩ := hc
      cases hx with
      | tup ht r =>
        cases hxs with
        | cons h1 h2 =>
          cases h2
          cases rv
          obtain ⟨u, rfl, ru⟩ := rvs.one
          obtain ⟨its, r', p, hz⟩ := I.tuple ht.sq
          obtain ⟨as, q1⟩ := Dp.readsAll I _ _ _ (dps_of c2 r) r'
          obtain ⟨bs, q2⟩ := Dp.reads I _ _ _ (dp_of c1 h1) ru
          have hm : min (PyData.depthAll (toPys ys)) (toPy d).depth ≤ (toPy d).depth := Nat.min_le_right _ _
          rw [depth_toPy] at hm
          refine PySem.SeqAt.count_tuple_data (vs := its.toArray) p (by simpa using q1) q2 (plains_toPys ys) (plain_toPy d) (by rw [depth_toPy]; omega) ?_
          have e : ((toPys ys).countP fun y => PyData.eqv y (toPy d)) = ys.countP fun y => deq y d := by
            clear h r r' q1 hm rvs
            induction ys with
            | nil => rfl
            | cons y ys ih =>
              have c2' : (y.flat && flats ys) = true := c2
              rw [Bool.and_eq_true] at c2'
              show ((toPy y :: toPys ys).countP _) = _
              rw [List.countP_cons, List.countP_cons, ih c2'.2, eqv_toPy y d c2'.1 c1]
          rw [e]
          exact ⟨.int _, H, I.tok _, ⟨_, rfl⟩, h _ _ m .refl rs (.int _)⟩
    · exact h.elim
  · exact h.elim
end
end Dl

set_option Elab.async false
set_option linter.all false
set_option maxRecDepth 100000
namespace Dl
open PySem PySem.Spec PyProof.Rows L2

/-! ## tests -/
def truD (S : Store) : D → Option Bool
  | .non => some false
  | .bl b => some b
  | .int i => some (i != 0)
  | .str x => some ((x.length : Int) != 0)
  | .tup xs => some (!xs.isEmpty)
  | .ref l => match S[l]? with
    | some (.lst xs) => some (!xs.isEmpty)
    | some (.rol xs) => some (!xs.isEmpty)
    | some (.dic kvs) => some (!kvs.isEmpty)
    | _ => none
  | .raw _ => none
def toT (S : Store) : Option Bool → R Bool
  | some b => .ok b S
  | none => .no
/-- an expression's truth -/
def tV (f : EX) : TX := fun ρ S => (f ρ S).bind fun d S1 => toT S1 (truD S1 d)
/-- an expression that is a bool -/
def tE (f : EX) : TX := fun ρ S => (f ρ S).bind fun d S1 => match d with
  | .bl b => .ok b S1
  | _ => .no
def tA (f g : TX) : TX := fun ρ S => (f ρ S).bind fun b S1 => if b then g ρ S1 else .ok false S1
def tO (f g : TX) : TX := fun ρ S => (f ρ S).bind fun b S1 => if b then .ok true S1 else g ρ S1
def tN (f : TX) : TX := fun ρ S => (f ρ S).bind fun b S1 => .ok (!b) S1
def eIf (t : TX) (f g : EX) : EX := fun ρ S => (t ρ S).bind fun b S1 => if b then f ρ S1 else g ρ S1
def eAnd (f g : EX) : EX := fun ρ S => (f ρ S).bind fun d S1 => (toT S1 (truD S1 d)).bind fun b S2 => if b then g ρ S2 else .ok d S2
def eOr (f g : EX) : EX := fun ρ S => (f ρ S).bind fun d S1 => (toT S1 (truD S1 d)).bind fun b S2 => if b then .ok d S2 else g ρ S2
def eNot (f : EX) : EX := fun ρ S => (f ρ S).bind fun d S1 => (toT S1 (truD S1 d)).bind fun b S2 => .ok (.bl (!b)) S2
/-- a < b < c -/
def eCh (g g' : D → D → Store → Option (D × Store)) (fa fb fc : EX) : EX := fun ρ S => (fa ρ S).bind fun x S1 => (fb ρ S1).bind fun y S2 => (toR (g x y S2)).bind fun z S3 => match z with
  | .bl true => (fc ρ S3).bind fun w S4 => toR (g' y w S4)
  | .bl false => .ok (.bl false) S3
  | _ => .no
section
variable {X : Cx} {W : WX} {a b c e : Expr} {rest : List Expr} {fa fb fc f g : EX} {ta tb : TX} {pos : Pos}
theorem tru_of {K : PySem.W.Frag} {m : List Addr} {H : Hp} {S : Store} {v : V} {x : D} {k : Bool} (r : RD K m H v x) (rs : RS K m H S) (h : truD S x = some k) : TruV K v H k := by
  cases r with
  | non => cases h; exact rfl
  | bl b => cases h; exact rfl
  | int b => cases h; exact rfl
  | str hz => cases h; exact ⟨by rw [← lim_eq]; exact hz, rfl⟩
  | @tup a vs ds ht r =>
    cases h
    refine .inr (.inl ⟨vs, ht.sq, ?_⟩)
    cases r <;> rfl
  | @ref a l hl =>
    unfold truD at h
    simp only at h
    split at h
    · rename_i xs e1
      cases h
      obtain ⟨vs, h1, r⟩ := rs.at_ hl e1
      refine .inl ⟨vs, SqL.of h1, ?_⟩
      cases r <;> rfl
    · rename_i xs e1
      cases h
      obtain ⟨vs, h1, r⟩ := rs.at_ hl e1
      refine .inl ⟨vs, h1.sq, ?_⟩
      cases r <;> rfl
    · rename_i kvs e1
      cases h
      obtain ⟨ws, h1, h2, r⟩ := rs.at_ hl e1
      refine .inr (.inr ⟨ws, h1, ?_⟩)
      cases kvs <;> cases ws <;> simp at h2 <;> rfl
    · cases h
  | raw v => cases h
theorem d_tv (ha : PE X a (rdE (X.cq W) fa)) (he : ∀ whole, isTrue a X.env whole = (do let v ← whole; standAt a.pos; holding [v] (truthy v)) := by exact fun _ => rfl) : PT X a (rdT (X.cq W) (tV fa)) :=
  PTwk (pt_truth ha he) fun σ H Q ⟨m, ρ, S, re, rs, h⟩ => ⟨m, ρ, S, re, rs, (Post.bind h).imp fun v H1 ⟨m1, x, S1, e1, rs1, rd, h1⟩ => by
    cases e : truD S1 x with
    | none => rw [e] at h1; exact h1.elim
    | some k =>
      rw [e] at h1
      exact ⟨k, tru_of rd rs1 e, h1 _ _ m1 .refl rs1 rfl⟩⟩
theorem d_te {t : TE} (h : PT X e (tTest t)) (k : ∀ σ H Q, rdE (X.cq W) f σ H Q → t σ H Q) : PT X e (rdT (X.cq W) (tE f)) :=
  PTwk h fun σ H Q ⟨m, ρ, S, re, rs, h⟩ => k _ _ _ ⟨m, ρ, S, re, rs, (Post.bind h).imp fun v H1 ⟨m1, x, S1, e1, rs1, rd, h1⟩ => by
    cases rd with
    | bl b => exact ⟨b, rfl, h1 _ _ m1 .refl rs1 rfl⟩
    | _ => exact h1.elim⟩
theorem k2 {r : R2} {g : D → D → Store → Option (D × Store)} (k : ∀ v u H Q, rd2 X.K g v u H Q → r v u H Q) : ∀ σ H Q, rdE (X.cq W) (e2 g fa fb) σ H Q → tOp r (rdE (X.cq W) fa) (rdE (X.cq W) fb) σ H Q := fun σ H Q ⟨m, ρ, S, re, rs, h⟩ =>
  ⟨m, ρ, S, re, rs, (Post.bind h).imp fun v H1 ⟨m1, x, S1, e, rs1, rd, h1⟩ => ⟨m1, ρ, S1, re.mono e, rs1, (Post.bind h1).imp fun u H2 ⟨m2, y, S2, e2, rs2, rd2, h2⟩ =>
    k _ _ _ _ ⟨m2, x, y, S2, rd.mono e2, rd2, rs2, VPost.of h2⟩⟩⟩
/-- a == b and its like: as a value, as a test -/
theorem d_cmp {op : CmpOp} {g : D → D → Store → Option (D × Store)} (ho : OpR X (compareOp op) (rd2 X.K g)) (ha : PE X a (rdE (X.cq W) fa)) (hb : PE X b (rdE (X.cq W) fb)) (hm : behindInMarks op b = false := by first | exact nomark _ | rfl) :
    PE X (.Compare a [op] [b] pos) (rdE (X.cq W) (e2 g fa fb)) := PEwk (pe_cmpR ho ha hb hm) (k2 fun _ _ _ _ h => h)
theorem d_tcmp {op : CmpOp} {g : D → D → Store → Option (D × Store)} (ho : OpR X (compareOp op) (rd2 X.K g)) (ha : PE X a (rdE (X.cq W) fa)) (hb : PE X b (rdE (X.cq W) fb)) (hm : behindInMarks op b = false := by first | exact nomark _ | rfl) :
    PT X (.Compare a [op] [b] pos) (rdT (X.cq W) (tE (e2 g fa fb))) := d_te (pt_cmpR ho ha hb hm) (k2 fun _ _ _ _ h => h)
theorem kCh {r r' : R2} {g g' : D → D → Store → Option (D × Store)} (k : ∀ v u H Q, rd2 X.K g v u H Q → r v u H Q) (k' : ∀ v u H Q, rd2 X.K g' v u H Q → r' v u H Q) :
    ∀ σ H Q, rdE (X.cq W) (eCh g g' fa fb fc) σ H Q → tChain r r' (rdE (X.cq W) fa) (rdE (X.cq W) fb) (rdE (X.cq W) fc) σ H Q := fun σ H Q ⟨m, ρ, S, re, rs, h⟩ =>
  ⟨m, ρ, S, re, rs, (Post.bind h).imp fun v H1 ⟨m1, x, S1, e, rs1, rd, h1⟩ => ⟨m1, ρ, S1, re.mono e, rs1, (Post.bind h1).imp fun u H2 ⟨m2, y, S2, e2, rs2, rd2, h2⟩ => by
    refine k _ _ _ _ ⟨m2, x, y, S2, rd.mono e2, rd2, rs2, ?_⟩
    cases eg : g x y S2 with
    | none => rw [eg] at h2; exact h2.elim
    | some p =>
      obtain ⟨z, S3⟩ := p
      rw [eg] at h2
      intro vz H3 m3 e3 rs3 rdz
      have h2 : Post _ _ m2 H2 σ Q (match z with
        | .bl true => (fc ρ S3).bind fun w S4 => toR (g' y w S4)
        | .bl false => .ok (.bl false) S3
        | _ => .no) := h2
      cases rdz with
      | bl k =>
        refine ⟨k, rfl, ?_⟩
        cases k with
        | true =>
          rw [if_pos rfl]
          have h3 := Post.mono e3 h2
          exact ⟨m3, ρ, S3, ((re.mono e).mono e2).mono e3, rs3, (Post.bind h3).imp fun w H4 ⟨m4, dw, S4, e4, rs4, rdw, h4⟩ => k' _ _ _ _ ⟨m4, y, dw, S4, (rd2.mono e3).mono e4, rdw, rs4, VPost.of h4⟩⟩
        | false =>
          rw [if_neg Bool.false_ne_true]
          exact h2 _ _ m3 e3 rs3 (.bl false)
      | _ => exact h2.elim⟩⟩
theorem d_ch {op op' : CmpOp} {g g' : D → D → Store → Option (D × Store)} (ho : OpR X (compareOp op) (rd2 X.K g)) (ho' : OpR X (compareOp op') (rd2 X.K g')) (ha : PE X a (rdE (X.cq W) fa)) (hb : PE X b (rdE (X.cq W) fb)) (hc : PE X c (rdE (X.cq W) fc))
    (hm : lastMarks [op, op'] [b, c] = false := by with_unfolding_all rfl) : PE X (.Compare a [op, op'] [b, c] pos) (rdE (X.cq W) (eCh g g' fa fb fc)) := PEwk (pe_chain ho ho' ha hb hc hm) (kCh (fun _ _ _ _ h => h) fun _ _ _ _ h => h)
theorem d_tch {op op' : CmpOp} {g g' : D → D → Store → Option (D × Store)} (ho : OpR X (compareOp op) (rd2 X.K g)) (ho' : OpR X (compareOp op') (rd2 X.K g')) (ha : PE X a (rdE (X.cq W) fa)) (hb : PE X b (rdE (X.cq W) fb)) (hc : PE X c (rdE (X.cq W) fc))
    (hm : lastMarks [op, op'] [b, c] = false := by with_unfolding_all rfl) : PT X (.Compare a [op, op'] [b, c] pos) (rdT (X.cq W) (tE (eCh g g' fa fb fc))) := d_te (pt_chain ho ho' ha hb hc hm) (kCh (fun _ _ _ _ h => h) fun _ _ _ _ h => h)
theorem d_and1 (ha : PT X a (rdT (X.cq W) ta)) : PW X (.BoolOp .And [a] pos) (rdT (X.cq W) ta) := pw_and1 ha
theorem d_or1 (ha : PT X a (rdT (X.cq W) ta)) : PW X (.BoolOp .Or [a] pos) (rdT (X.cq W) ta) := pw_or1 ha
theorem d_and (ha : PT X a (rdT (X.cq W) ta)) (hb : PW X (.BoolOp .And (b :: rest) pos) (rdT (X.cq W) tb)) : PW X (.BoolOp .And (a :: b :: rest) pos) (rdT (X.cq W) (tA ta tb)) :=
  PWwk (pw_and ha hb) fun σ H Q ⟨m, ρ, S, re, rs, h⟩ => ⟨m, ρ, S, re, rs, (Post.bind (rel := relB) h).imp fun k H1 ⟨m1, k', S1, e1, rs1, ek, h1⟩ => by
    subst ek
    cases k with
    | true => rw [if_pos rfl]; exact ⟨m1, ρ, S1, re.mono e1, rs1, h1⟩
    | false => rw [if_neg Bool.false_ne_true]; exact h1 _ _ m1 .refl rs1 rfl⟩
theorem d_or (ha : PT X a (rdT (X.cq W) ta)) (hb : PW X (.BoolOp .Or (b :: rest) pos) (rdT (X.cq W) tb)) : PW X (.BoolOp .Or (a :: b :: rest) pos) (rdT (X.cq W) (tO ta tb)) :=
  PWwk (pw_or ha hb) fun σ H Q ⟨m, ρ, S, re, rs, h⟩ => ⟨m, ρ, S, re, rs, (Post.bind (rel := relB) h).imp fun k H1 ⟨m1, k', S1, e1, rs1, ek, h1⟩ => by
    subst ek
    cases k with
    | true => rw [if_pos rfl]; exact h1 _ _ m1 .refl rs1 rfl
    | false => rw [if_neg Bool.false_ne_true]; exact ⟨m1, ρ, S1, re.mono e1, rs1, h1⟩⟩
theorem d_not (ha : PT X a (rdT (X.cq W) ta)) : PT X (.UnaryOp .Not a pos) (rdT (X.cq W) (tN ta)) :=
  PTwk (pt_not ha) fun σ H Q ⟨m, ρ, S, re, rs, h⟩ => ⟨m, ρ, S, re, rs, (Post.bind (rel := relB) h).imp fun k H1 ⟨m1, k', S1, e1, rs1, ek, h1⟩ => by
    subst ek
    exact h1 _ _ m1 .refl rs1 rfl⟩
theorem d_if {t : Expr} (ht : PT X t (rdT (X.cq W) ta)) (ha : PE X a (rdE (X.cq W) fa)) (hb : PE X b (rdE (X.cq W) fb)) : PE X (.IfExp t a b pos) (rdE (X.cq W) (eIf ta fa fb)) :=
  PEwk (pe_ifExp ht ha hb) fun σ H Q ⟨m, ρ, S, re, rs, h⟩ => ⟨m, ρ, S, re, rs, (Post.bind (rel := relB) h).imp fun k H1 ⟨m1, k', S1, e1, rs1, ek, h1⟩ => by
    subst ek
    cases k with
    | true => rw [if_pos rfl]; exact ⟨m1, ρ, S1, re.mono e1, rs1, h1⟩
    | false => rw [if_neg Bool.false_ne_true]; exact ⟨m1, ρ, S1, re.mono e1, rs1, h1⟩⟩
end
/-! .. as values, by truth -/
section
variable {X : Cx} {W : WX} {a b : Expr} {rest : List Expr} {fa fb : EX} {pos : Pos} {op : BoolOp}
theorem d_one (ha : PE X a (rdE (X.cq W) fa)) : PE X (.BoolOp op [a] pos) (rdE (X.cq W) fa) := pe_one ha
theorem d_vand (ha : PE X a (rdE (X.cq W) fa)) (hb : PE X (.BoolOp .And (b :: rest) pos) (rdE (X.cq W) fb)) : PE X (.BoolOp .And (a :: b :: rest) pos) (rdE (X.cq W) (eAnd fa fb)) := by
  refine ⟨fun pins s σ H Q I ⟨m, ρ, S, re, rs, h⟩ => ?_⟩
  refine BoolOp_and (thn (ha.run pins s σ H _ I ⟨m, ρ, S, re, rs, Post.bind h⟩) fun v s1 ⟨x, H1, I1, r1, m1, d, S1, e1, rs1, rd1, h1⟩ => ?_)
  cases e : truD S1 d with
  | none => rw [e] at h1; exact h1.elim
  | some k =>
    rw [e] at h1
    have h1 : Post (X.cq W) (relD (X.cq W)) m1 H1 σ Q (if k then fb ρ S1 else .ok d S1) := h1
    refine thn (tru_ok pins s1 σ H1 x v (fun c H2 => c = k ∧ H2 = H1) I1 r1 ⟨k, tru_of rd1 rs1 e, rfl, rfl⟩) fun c s2 hc => ?_
    obtain ⟨H2, I2, e1', e2⟩ := hc
    rw [e2] at I2
    subst e1'
    cases c with
    | true =>
      rw [if_pos rfl] at h1
      exact hb.run pins s2 σ H1 Q I2 ⟨m1, ρ, S1, re.mono e1, rs1, h1⟩
    | false =>
      rw [if_neg Bool.false_ne_true] at h1
      exact ⟨x, H1, I2, r1, h1 _ _ m1 .refl rs1 rd1⟩
theorem d_vor (ha : PE X a (rdE (X.cq W) fa)) (hb : PE X (.BoolOp .Or (b :: rest) pos) (rdE (X.cq W) fb)) : PE X (.BoolOp .Or (a :: b :: rest) pos) (rdE (X.cq W) (eOr fa fb)) := by
  refine ⟨fun pins s σ H Q I ⟨m, ρ, S, re, rs, h⟩ => ?_⟩
  refine BoolOp_or (thn (ha.run pins s σ H _ I ⟨m, ρ, S, re, rs, Post.bind h⟩) fun v s1 ⟨x, H1, I1, r1, m1, d, S1, e1, rs1, rd1, h1⟩ => ?_)
  cases e : truD S1 d with
  | none => rw [e] at h1; exact h1.elim
  | some k =>
    rw [e] at h1
    have h1 : Post (X.cq W) (relD (X.cq W)) m1 H1 σ Q (if k then .ok d S1 else fb ρ S1) := h1
    refine thn (tru_ok pins s1 σ H1 x v (fun c H2 => c = k ∧ H2 = H1) I1 r1 ⟨k, tru_of rd1 rs1 e, rfl, rfl⟩) fun c s2 hc => ?_
    obtain ⟨H2, I2, e1', e2⟩ := hc
    rw [e2] at I2
    subst e1'
    cases c with
    | false =>
      rw [if_neg Bool.false_ne_true] at h1
      exact hb.run pins s2 σ H1 Q I2 ⟨m1, ρ, S1, re.mono e1, rs1, h1⟩
    | true =>
      rw [if_pos rfl] at h1
      exact ⟨x, H1, I2, r1, h1 _ _ m1 .refl rs1 rd1⟩
theorem d_vnot (ha : PE X a (rdE (X.cq W) fa)) : PE X (.UnaryOp .Not a pos) (rdE (X.cq W) (eNot fa)) := by
  refine ⟨fun pins s σ H Q I ⟨m, ρ, S, re, rs, h⟩ => ?_⟩
  refine UnaryOp_ (thn (ha.run pins s σ H _ I ⟨m, ρ, S, re, rs, Post.bind h⟩) fun v s1 ⟨x, H1, I1, r1, m1, d, S1, e1, rs1, rd1, h1⟩ => ?_)
  cases e : truD S1 d with
  | none => rw [e] at h1; exact h1.elim
  | some k =>
    rw [e] at h1
    exact not_of (thn (tru_ok pins s1 σ H1 x v (fun c H2 => c = k ∧ H2 = H1) I1 r1 ⟨k, tru_of rd1 rs1 e, rfl, rfl⟩) fun c s2 ⟨H2, I2, e1', e2⟩ => by
      subst e1' e2
      exact ⟨.bl (!c), H2, I2, rfl, h1 _ _ m1 .refl rs1 (.bl _)⟩)
end
/-! a call of a def -/
section
variable {X : Cx} {W : WX} {e : Expr} {es : List Expr} {fx : AX} {pos p : Pos} {CX : CXT} {k : Nat} {f : Addr} {fd : FuncData} {ps : List Str} {x : Str} {F : List D → M D}
theorem d_call (G : FnOk X.prog X.w X.K X.mg X.base CX k f fd ps (rdF ⟨X.K, X.mg, W0⟩ F)) (hr : Room k X.A) (hg : Gl X x) (hm : X.mg x = some (.ref f)) (hk : PySem.W.keepIn X.K (.ref f) = true) (hb : Binds X.K fd ps []) (hx : ∀ σ, PassesAt CX X σ (WE W σ))
    (ha : PA X (e :: es) (rdA (X.cq W) fx)) (hdb : (x == ("__debug__" : Str)) = false := by decide) (he : starEach (e :: es) X.env = (false, eval e X.env) :: starEach es X.env := by rfl) (hpl : (backTo pos (starEach es X.env)).any (·.1) = false := by rfl) :
    PE X (.Call (.Name x p) (e :: es) [] pos) (rdE (X.cq W) (eF F fx)) := PEwk (pe_callS G hr hg hm hk hb hx ha hdb he hpl) fun σ H Q ⟨m, ρ, S, re, rs, h⟩ =>
  ⟨m, ρ, S, re, rs, (Post.bind h).imp fun vs H1 ⟨m1, xs, S1, e1, rs1, rds, h1⟩ => ⟨m1, xs, S1, rds, rs1, by
    cases er : F xs S1 with
    | ok d S2 => rw [er] at h1; exact h1
    | ex ex S2 => rw [er] at h1; exact h1
    | no => rw [er] at h1; exact h1⟩⟩
end
end Dl

set_option Elab.async false
set_option linter.all false
set_option maxRecDepth 100000
namespace Dl
open PySem PySem.Spec PyProof.Rows L2

/-! ## statements -/
def sP : SX := fun ρ S => .nx ρ S
def Out.seq (o : Out) (h : SX) : Out := match o with
  | .nx ρ' S' => h ρ' S'
  | o => o
def sQ (g h : SX) : SX := fun ρ S => (g ρ S).seq h
def sBk : SX := fun ρ S => .bk ρ S
def sCt : SX := fun ρ S => .ct ρ S
def sNo : SX := fun _ _ => .no
def sE (f : EX) : SX := fun ρ S => (f ρ S).out ρ fun _ S1 => .nx ρ S1
def sR (f : EX) : SX := fun ρ S => (f ρ S).out ρ fun d S1 => .rt d S1
def sIf (t : TX) (g h : SX) : SX := fun ρ S => (t ρ S).out ρ fun b S1 => if b then g ρ S1 else h ρ S1
/-- name = .. -/
def nm (i : Nat) : D → SX := fun d ρ S => .nx (ρ.set i (some d)) S
def tgO : Out → Out
  | .nx ρ S => .nx ρ S
  | .ex x ρ S => .ex x ρ S
  | _ => .no
def sA (f : EX) (tg : D → SX) : SX := fun ρ S => (f ρ S).out ρ fun d S1 => tgO (tg d ρ S1)
def sN (j : Nat) (f : EX) : SX := fun ρ S => (f ρ S).out ρ fun d S1 => .nx (ρ.set j (some d)) S1
/-- o[i] = .. -/
def tgIx (fo fi : EX) : D → SX := fun d ρ S => (fo ρ S).out ρ fun o S1 => (fi ρ S1).out ρ fun i S2 => match gSet o i d S2 with
  | some S3 => .nx ρ S3
  | none => .no
/-- several targets -/
def tgL : List (D → SX) → List D → SX
  | [], [] => sP
  | t :: ts, d :: ds => fun ρ S => match t d ρ S with
    | .nx ρ' S' => tgL ts ds ρ' S'
    | .ex x ρ' S' => .ex x ρ' S'
    | _ => .no
  | _, _ => sNo
def tgT (ts : List (D → SX)) : D → SX := fun d => match d with
  | .tup ds => if ds.length = ts.length then tgL ts ds else sNo
  | _ => sNo
section
variable {X : Cx} {W : WX} {st : Stmt} {rest : List Stmt} {g h : SX} {e o i : Expr} {f fo fi : EX} {t : Expr} {ft : TX} {pos : Pos} {a b : List Stmt}
theorem t_nil : PSs X [] (rdS (X.cq W) sP) := PSswk pss_nil fun Dn σ H ⟨m, ρ, S, re, rs, h⟩ => h σ H m .refl re rs
theorem seq_post {c : Cq} {m : List Addr} {H : Hp} {Dn : Ends} {o : Out} {h : SX} (q : PostS c m H Dn (o.seq h)) : PostS c m H { Dn with nx := rdS c h Dn } o := by
  cases o with
  | nx ρ' S' => exact fun σ' H' m' e re rs => ⟨m', ρ', S', re, rs, PostS.mono e q⟩
  | _ => exact q
theorem t_cons (h1 : PS X st (rdS (X.cq W) g)) (h2 : PSs X rest (rdS (X.cq W) h)) : PSs X (st :: rest) (rdS (X.cq W) (sQ g h)) := PSswk (pss_cons h1 h2) fun Dn σ H ⟨m, ρ, S, re, rs, q⟩ =>
  ⟨m, ρ, S, re, rs, seq_post q⟩
theorem t_one (h1 : PS X st (rdS (X.cq W) g)) : PSs X [st] (rdS (X.cq W) g) := pss_one h1
theorem t_pass : PS X (.Pass pos) (rdS (X.cq W) sP) := PSwk ps_pass fun Dn σ H ⟨m, ρ, S, re, rs, h⟩ => h σ H m .refl re rs
theorem t_break : PS X (.Break pos) (rdS (X.cq W) sBk) := PSwk ps_break fun Dn σ H ⟨m, ρ, S, re, rs, h⟩ => h σ H m .refl re rs
theorem t_continue : PS X (.Continue pos) (rdS (X.cq W) sCt) := PSwk ps_continue fun Dn σ H ⟨m, ρ, S, re, rs, h⟩ => h σ H m .refl re rs
theorem t_never : PS X st (rdS (X.cq W) sNo) := PSwk ps_never fun Dn σ H ⟨m, ρ, S, re, rs, h⟩ => h
theorem t_doc {x j pos pos'} : PS X (.Expr (.Constant (.str x) j pos) pos') (rdS (X.cq W) sP) := PSwk ps_doc fun Dn σ H ⟨m, ρ, S, re, rs, h⟩ => h σ H m .refl re rs
theorem t_expr (he : PE X e (rdE (X.cq W) f)) (hs : swapsWith e none pos.line X.env = pure false := by rfl) : PS X (.Expr e pos) (rdS (X.cq W) (sE f)) := PSwk (ps_expr he hs) fun Dn σ H ⟨m, ρ, S, re, rs, q⟩ =>
  ⟨m, ρ, S, re, rs, (Post.out re q).imp fun v H1 ⟨m1, d, S1, e1, rs1, rd, re1, q1⟩ => q1 σ H1 m1 .refl re1 rs1⟩
theorem t_ret (he : PE X e (rdE (X.cq W) f)) : PS X (.Return (some e) pos) (rdS (X.cq W) (sR f)) := PSwk (ps_ret he) fun Dn σ H ⟨m, ρ, S, re, rs, q⟩ =>
  ⟨m, ρ, S, re, rs, (Post.out re q).imp fun v H1 ⟨m1, d, S1, e1, rs1, rd, re1, q1⟩ => q1 v H1 m1 .refl rs1 rd⟩
theorem t_retN : PS X (.Return none pos) (rdS (X.cq W) (sR (eC .non))) := PSwk ps_retN fun Dn σ H ⟨m, ρ, S, re, rs, q⟩ => q .non H m .refl rs .non
theorem t_if (ht : PT X t (rdT (X.cq W) ft)) (ha : PSs X a (rdS (X.cq W) g)) (hb : PSs X b (rdS (X.cq W) h)) : PS X (.If t a b pos) (rdS (X.cq W) (sIf ft g h)) := PSwk (ps_if ht ha hb) fun Dn σ H ⟨m, ρ, S, re, rs, q⟩ =>
  ⟨m, ρ, S, re, rs, (Post.out (rel := relB) re q).imp fun k H1 ⟨m1, k', S1, e1, rs1, ek, re1, q1⟩ => by
    subst ek
    cases k with
    | true => rw [if_pos rfl]; exact ⟨m1, ρ, S1, re1, rs1, q1⟩
    | false => rw [if_neg Bool.false_ne_true]; exact ⟨m1, ρ, S1, re1, rs1, q1⟩⟩
/-! ### targets -/
theorem g_nm {j : Nat} {x : Str} (hN : X.N.Nodup) (hi : X.N[j]? = some x := by rfl) (hx : Loc X.env.scope x := by first | exact .inl rfl | exact .inr rfl) (hf : X.fn x = true ∨ X.env.scope.names.lookup x = some .local := by first | exact .inl rfl | exact .inr rfl) :
    PG X (.Name x pos) (rdG (X.cq W) (nm j)) := PGwk (pg_name hN hi hx hf) fun v σ H Q ⟨m, ρ, S, d, re, rs, rd, q⟩ => q _ H m .refl (re.set rd j) rs
def rdGs (c : Cq) (tg : List D → SX) : TGs := fun vs σ H Q => ∃ m ρ S ds, RE c.K m H σ ρ ∧ RS c.K m H S ∧ RDs c.K m H vs ds ∧ PostS c m H { nx := Q, rt := fun _ _ => False } (tg ds ρ S)
theorem g_nil : PGs X [] (rdGs (X.cq W) (tgL [])) := ⟨fun pins s σ H vs us Q I r ⟨m, ρ, S, ds, re, rs, rd, q⟩ => pgs_nil.run pins s σ H vs us Q I r (by
  cases rd with
  | nil => exact ⟨rfl, q σ H m .refl re rs⟩
  | cons _ _ => exact q.elim)⟩
theorem g_cons {es : List Expr} {tg : D → SX} {ts : List (D → SX)} (h1 : PG X e (rdG (X.cq W) tg)) (h2 : PGs X es (rdGs (X.cq W) (tgL ts)))
    (hs : (assignEach (e :: es) X.env).map (·.2) = assign e X.env :: (assignEach es X.env).map (·.2) := by rfl) : PGs X (e :: es) (rdGs (X.cq W) (tgL (tg :: ts))) := ⟨fun pins s σ H vs us Q I r ⟨m, ρ, S, ds, re, rs, rd, q⟩ =>
  (pgs_cons h1 h2 hs).run pins s σ H vs us Q I r (by
    cases rd with
    | nil => exact q.elim
    | @cons v d vs ds hd hds =>
      refine ⟨v, vs, rfl, m, ρ, S, d, re, rs, hd, ?_⟩
      have q : PostS (X.cq W) m H { nx := Q, rt := fun _ _ => False } (match tg d ρ S with
        | .nx ρ' S' => tgL ts ds ρ' S'
        | .ex x ρ' S' => .ex x ρ' S'
        | _ => .no) := q
      cases eo : tg d ρ S with
      | nx ρ' S' =>
        rw [eo] at q
        exact fun σ' H' m' e' re' rs' => ⟨m', ρ', S', ds, re', rs', hds.mono e', PostS.mono e' q⟩
      | ex x ρ' S' => rw [eo] at q; exact q
      | _ => rw [eo] at q; exact q.elim)⟩
theorem g_tup {es : List Expr} {k : Nat} {ts : List (D → SX)} (hc : X.calm = true) (h : PGs X es (rdGs (X.cq W) (tgL ts))) (hl : ts.length = es.length := by rfl)
    (hn : (assignEach es X.env).length = es.length := by rfl) (hst : (assignEach es X.env).findIdx? (·.1) = none := by rfl) : PG X (.Tuple es k pos) (rdG (X.cq W) (tgT ts)) := PGwk (pg_tup hc h hn hst) fun v σ H Q ⟨m, ρ, S, d, re, rs, rd, q⟩ => by
  cases rd with
  | @tup a vs ds ht r =>
    have q : PostS (X.cq W) m H { nx := Q, rt := fun _ _ => False } ((if ds.length = ts.length then tgL ts ds else sNo) ρ S) := q
    by_cases hz : ds.length = ts.length
    · rw [if_pos hz] at q
      exact ⟨a, vs, rfl, ht.sq, by rw [r.length, hz, hl], m, ρ, S, ds, re, rs, r, q⟩
    · rw [if_neg hz] at q
      exact q.elim
  | _ => exact q.elim
theorem g_ix (ho : PE X o (rdE (X.cq W) fo)) (hi : PE X i (rdE (X.cq W) fi))
    (ha : ∀ v, assign (.Subscript o i pos) X.env v = (do
      let ov ← holding [v] (eval o X.env)
      let iv ← holding [v, ov] (eval i X.env)
      standAt pos
      holding [v, ov, iv] (setItem ov iv v)
      release [v, ov, iv] []) := by intro _; rfl) : PG X (.Subscript o i pos) (rdG (X.cq W) (tgIx fo fi)) := PGwk (pg_sub ho hi p_set ha) fun v σ H Q ⟨m, ρ, S, d, re, rs, rd, q⟩ =>
  ⟨m, ρ, S, re, rs, (Post.out re q).imp fun vo H1 ⟨m1, x, S1, e1, rs1, rx, re1, q1⟩ => ⟨m1, ρ, S1, re1, rs1, (Post.out re1 q1).imp fun vi H2 ⟨m2, y, S2, e2, rs2, ry, re2, q2⟩ => by
    refine ⟨m2, x, y, d, S2, rx.mono e2, ry, (rd.mono e1).mono e2, rs2, ?_⟩
    cases eg : gSet x y d S2 with
    | none => rw [eg] at q2; exact q2.elim
    | some S3 =>
      rw [eg] at q2
      exact fun H3 m3 e3 rs3 => q2 σ H3 m3 e3 (re2.mono e3) rs3⟩⟩
/-- target = value -/
theorem t_asg {tg : Expr} {G : D → SX} (he : PE X e (rdE (X.cq W) f)) (hg : PG X tg (rdG (X.cq W) G)) (hs : swapsWithSole [tg] e pos.line X.env = pure false := by rfl) (hw : swappedStores [tg] e X.env = pure none := by rfl)
    (h1 : (assignEach [tg] X.env).map (·.2) = [assign tg X.env] := by rfl) : PS X (.Assign [tg] e pos) (rdS (X.cq W) (sA f G)) := PSwk (ps_asg he hg hs hw h1) fun Dn σ H ⟨m, ρ, S, re, rs, q⟩ =>
  ⟨m, ρ, S, re, rs, (Post.out re q).imp fun v H1 ⟨m1, d, S1, e1, rs1, rd, re1, q1⟩ => ⟨m1, ρ, S1, d, re1, rs1, rd, by
    cases eo : G d ρ S1 with
    | nx ρ' S' => rw [eo] at q1; exact q1
    | ex x ρ' S' => rw [eo] at q1; exact q1
    | _ => rw [eo] at q1; exact q1.elim⟩⟩
theorem t_set {j : Nat} {x : Str} {pos' : Pos} (hN : X.N.Nodup) (he : PE X e (rdE (X.cq W) f)) (hi : X.N[j]? = some x := by rfl) (hx : Loc X.env.scope x := by first | exact .inl rfl | exact .inr rfl) (hs : swapsWith e (some (.Name x pos')) pos.line X.env = pure false := by rfl)
    (hf : X.fn x = true ∨ X.env.scope.names.lookup x = some .local := by first | exact .inl rfl | exact .inr rfl) : PS X (.Assign [.Name x pos'] e pos) (rdS (X.cq W) (sN j f)) := PSwk (ps_set hN hi hx he hs hf) fun Dn σ H ⟨m, ρ, S, re, rs, q⟩ =>
  ⟨m, ρ, S, re, rs, (Post.out re q).imp fun v H1 ⟨m1, d, S1, e1, rs1, rd, re1, q1⟩ => q1 _ H1 m1 .refl (re1.set rd j) rs1⟩
end
end Dl

set_option Elab.async false
set_option linter.all false
set_option maxRecDepth 100000
namespace Dl
open PySem PySem.Spec PyProof.Rows L2

/-! ## what is walked -/
/-- lists that must stand as they are while they are walked -/
abbrev Chk := List (Nat × List D)
def chkOk (k : Chk) (S : Store) : Prop := ∀ p ∈ k, lstAt S p.1 = some p.2
/-- the items, and what must stand -/
abbrev IX := Env → Store → R (List D × Chk)
def ItOk (K : PySem.W.Frag) (m0 : List Addr) (H0 : Hp) (J : It) (xs : List D) (k : Chk) : Prop :=
  ∀ (i : Nat) (m : List Addr) (H : Hp) (S : Store), Ext K m0 H0 m H → RS K m H S → chkOk k S →
    (∀ d, xs[i]? = some d → J.go i H ∧ ∀ x H', J.yld i H x H' → ∃ m', Ext K m H m' H' ∧ RS K m' H' S ∧ RD K m' H' x d) ∧ (xs.length ≤ i → J.stop i H)
def PostI (c : Cq) (m : List Addr) (H : Hp) (σ : L2.St) (R' : It → Hp → Prop) : R (List D × Chk) → Prop
  | .ok p S' => ∀ J H' m', Ext c.K m H m' H' → RS c.K m' H' S' → ItOk c.K m' H' J p.1 p.2 → R' J H'
  | .ex x S' => ∀ cls dd H' m', Ext c.K m H m' H' → RS c.K m' H' S' → RX c m' H' x cls dd → c.W cls dd σ H'
  | .no => False
theorem PostI.mono {c : Cq} {m m1 : List Addr} {H H1 : Hp} {σ : L2.St} {R' : It → Hp → Prop} {r : R (List D × Chk)} (e : Ext c.K m H m1 H1) (h : PostI c m H σ R' r) : PostI c m1 H1 σ R' r := by
  cases r with
  | ok p S2 => exact fun J H2 m2 e2 => h J H2 m2 (e.trans e2)
  | ex x S2 => exact fun cls dd H2 m2 e2 => h cls dd H2 m2 (e.trans e2)
  | no => exact h
def rdI (c : Cq) (src : IX) : TI := fun σ H R' => ∃ m ρ S, RE c.K m H σ ρ ∧ RS c.K m H S ∧ PostI c m H σ R' (src ρ S)
def iL (f : EX) : IX := fun ρ S => (f ρ S).bind fun d S1 => match d with
  | .ref l => match lstAt S1 l with
    | some xs => .ok (xs, [(l, xs)]) S1
    | none => .no
  | _ => .no
def iT (f : EX) : IX := fun ρ S => (f ρ S).bind fun d S1 => match d with
  | .tup xs => .ok (xs, []) S1
  | _ => .no
def iS (f : EX) : IX := fun ρ S => (f ρ S).bind fun d S1 => match d with
  | .str x => .ok (x.cps.toList.map fun c => .str ⟨#[c]⟩, []) S1
  | _ => .no
def rng (lo : Int) (n : Nat) : List D := (List.range n).map fun i => .int (lo + (i : Nat))
def iR1 (f : EX) : IX := fun ρ S => (f ρ S).bind fun d S1 => match d with
  | .int j => if -(2 ^ 62) ≤ j ∧ j < 2 ^ 62 then .ok (rng 0 j.toNat, []) S1 else .no
  | _ => .no
def iR2 (f g : EX) : IX := fun ρ S => (f ρ S).bind fun d S1 => (g ρ S1).bind fun e S2 => match d, e with
  | .int i, .int j => if -(2 ^ 62) ≤ i ∧ i < 2 ^ 62 ∧ -(2 ^ 62) ≤ j ∧ j < 2 ^ 62 then .ok (rng i (j - i).toNat, []) S2 else .no
  | _, _ => .no
/-- reversed(..) of a list or a tuple -/
def iV (f : EX) : IX := fun ρ S => (f ρ S).bind fun d S1 => match d with
  | .ref l => match lstAt S1 l with
    | some xs => .ok (xs.reverse, [(l, xs)]) S1
    | none => .no
  | .tup xs => .ok (xs.reverse, []) S1
  | _ => .no
section
variable {X : Cx} {W : WX} {tg e a b : Expr} {f g : EX} {pos p : Pos}
theorem it_list {K : PySem.W.Frag} {m : List Addr} {H : Hp} {a : Addr} {l : Nat} {xs : List D} (h : m[l]? = some a) : ItOk K m H (Itl K a) xs [(l, xs)] := by
  intro i m' H' S e rs hk
  have q := hk (l, xs) (by simp)
  obtain ⟨vs, h1, r⟩ := rs.lst (e.at h) q
  refine ⟨fun d hd => ?_, fun hl => ⟨vs, h1, by rw [r.length]; exact hl⟩⟩
  obtain ⟨v, h2, rd⟩ := r.get hd
  refine ⟨⟨vs, v, h1, h2⟩, fun x H'' y => ?_⟩
  obtain ⟨eH, y⟩ := y
  subst eH
  have z := y vs h1
  rw [h2] at z
  cases z
  exact ⟨m', .refl, rs, rd⟩
theorem it_tup {K : PySem.W.Frag} {m : List Addr} {H : Hp} {a : Addr} {vs : List V} {xs : List D} (h : TupAt K H a vs) (r : RDs K m H vs xs) : ItOk K m H (Itt K a) xs [] := by
  intro i m' H' S e rs hk
  have h1 := (e.tup _ _ h).sq
  have r := r.mono e
  refine ⟨fun d hd => ?_, fun hl => ⟨vs, h1, by rw [r.length]; exact hl⟩⟩
  obtain ⟨v, h2, rd⟩ := r.get hd
  refine ⟨⟨vs, v, h1, h2⟩, fun x H'' y => ?_⟩
  obtain ⟨eH, y⟩ := y
  subst eH
  have z := y vs h1
  rw [h2] at z
  cases z
  exact ⟨m', .refl, rs, rd⟩
theorem it_rng {K : PySem.W.Frag} {m : List Addr} {H : Hp} {lo : Int} {n : Nat} : ItOk K m H (Itr lo n) (rng lo n) [] := by
  intro i m' H' S e rs hk
  unfold rng
  refine ⟨fun d hd => ?_, fun hl => by rw [List.length_map, List.length_range] at hl; exact hl⟩
  have hi : i < n := by have := (List.getElem?_eq_some_iff.mp hd).1; rwa [List.length_map, List.length_range] at this
  rw [List.getElem?_map, List.getElem?_range hi] at hd
  cases hd
  refine ⟨hi, fun x H'' y => ?_⟩
  obtain ⟨eH, y⟩ := y
  subst eH y
  exact ⟨m', .refl, rs, .int _⟩
theorem it_str {K : PySem.W.Frag} {m : List Addr} {H : Hp} {x : Str} : ItOk K m H (Its x) (x.cps.toList.map fun c => .str ⟨#[c]⟩) [] := by
  intro i m' H' S e rs hk
  refine ⟨fun d hd => ?_, fun hl => by rw [List.length_map, Array.length_toList] at hl; exact hl⟩
  rw [List.getElem?_map] at hd
  cases hc : x.cps.toList[i]? with
  | none => rw [hc] at hd; cases hd
  | some c =>
    rw [hc] at hd
    cases hd
    have hi : i < x.cps.size := by have := (List.getElem?_eq_some_iff.mp hc).1; rwa [Array.length_toList] at this
    refine ⟨hi, fun v H'' y => ?_⟩
    obtain ⟨eH, c', e1, y⟩ := y
    subst eH y
    rw [← Array.getElem?_toList, hc] at e1
    cases e1
    exact ⟨m', .refl, rs, .str (by show (1 : Nat) ≤ _; decide)⟩
theorem get_rev {α : Type} {xs : List α} {i : Nat} {d : α} (h : xs.reverse[i]? = some d) : i < xs.length ∧ xs[xs.length - 1 - i]? = some d := by
  have hi : i < xs.length := by have := (List.getElem?_eq_some_iff.mp h).1; rwa [List.length_reverse] at this
  rw [List.getElem?_reverse hi] at h
  exact ⟨hi, h⟩
theorem it_rev {K : PySem.W.Frag} {m : List Addr} {H : Hp} {a : Addr} {l : Nat} {xs : List D} (h : m[l]? = some a) : ItOk K m H (Itv K a xs.length) xs.reverse [(l, xs)] := by
  intro i m' H' S e rs hk
  have q := hk (l, xs) (by simp)
  obtain ⟨vs, h1, r⟩ := rs.lst (e.at h) q
  refine ⟨fun d hd => ?_, fun hl => by rw [List.length_reverse] at hl; exact hl⟩
  obtain ⟨hi, hd⟩ := get_rev hd
  obtain ⟨v, h2, rd⟩ := r.get hd
  refine ⟨⟨hi, vs, v, h1, h2⟩, fun x H'' y => ?_⟩
  obtain ⟨eH, y⟩ := y
  subst eH
  have z := y vs h1
  rw [h2] at z
  cases z
  exact ⟨m', .refl, rs, rd⟩
theorem it_revT {K : PySem.W.Frag} {m : List Addr} {H : Hp} {a : Addr} {vs : List V} {xs : List D} (h : TupAt K H a vs) (r : RDs K m H vs xs) : ItOk K m H (RT.ItvT K a xs.length) xs.reverse [] := by
  intro i m' H' S e rs hk
  have h1 := (e.tup _ _ h).sq
  have r := r.mono e
  refine ⟨fun d hd => ?_, fun hl => by rw [List.length_reverse] at hl; exact hl⟩
  obtain ⟨hi, hd⟩ := get_rev hd
  obtain ⟨v, h2, rd⟩ := r.get hd
  refine ⟨⟨hi, vs, v, h1, h2⟩, fun x H'' y => ?_⟩
  obtain ⟨eH, y⟩ := y
  subst eH
  have z := y vs h1
  rw [h2] at z
  cases z
  exact ⟨m', .refl, rs, rd⟩
/-- from an expression's outcome to what is walked -/
theorem src_bind {α : Type} {β : Type} {c : Cq} {rel : List Addr → Hp → β → α → Prop} {m : List Addr} {H : Hp} {σ : L2.St} {R' : It → Hp → Prop} {r : R α} {k : α → Store → R (List D × Chk)} (h : PostI c m H σ R' (r.bind k)) :
    Post c rel m H σ (fun b H1 => ∃ m1 a S1, Ext c.K m H m1 H1 ∧ RS c.K m1 H1 S1 ∧ rel m1 H1 b a ∧ PostI c m1 H1 σ R' (k a S1)) r := by
  cases r with
  | ok a S => exact fun b H' m' e rs rl => ⟨m', a, S, e, rs, rl, PostI.mono e h⟩
  | ex x S => exact h
  | no => exact h
theorem w_list (he : PE X e (rdE (X.cq W) f)) : PI X tg e (rdI (X.cq W) (iL f)) := PIwk (pi_list he) fun σ H R' ⟨m, ρ, S, re, rs, q⟩ =>
  ⟨m, ρ, S, re, rs, (src_bind (rel := relD (X.cq W)) q).imp fun v H1 ⟨m1, d, S1, e1, rs1, rd, q1⟩ => by
    cases rd with
    | @ref a l hl =>
      simp only at q1
      cases el : lstAt S1 l with
      | none => rw [el] at q1; exact q1.elim
      | some xs =>
        rw [el] at q1
        obtain ⟨vs, h1, r⟩ := rs1.lst hl el
        exact ⟨a, rfl, ⟨vs, h1⟩, q1 _ _ m1 .refl rs1 (it_list hl)⟩
    | _ => exact q1.elim⟩
theorem w_tup (he : PE X e (rdE (X.cq W) f)) : PI X tg e (rdI (X.cq W) (iT f)) := PIwk (pi_tup he) fun σ H R' ⟨m, ρ, S, re, rs, q⟩ =>
  ⟨m, ρ, S, re, rs, (src_bind (rel := relD (X.cq W)) q).imp fun v H1 ⟨m1, d, S1, e1, rs1, rd, q1⟩ => by
    cases rd with
    | @tup a vs ds ht r => exact ⟨a, rfl, ⟨vs, ht.sq⟩, q1 _ _ m1 .refl rs1 (it_tup ht r)⟩
    | _ => exact q1.elim⟩
theorem w_str (he : PE X e (rdE (X.cq W) f)) : PI X tg e (rdI (X.cq W) (iS f)) := PIwk (pi_str he) fun σ H R' ⟨m, ρ, S, re, rs, q⟩ =>
  ⟨m, ρ, S, re, rs, (src_bind (rel := relD (X.cq W)) q).imp fun v H1 ⟨m1, d, S1, e1, rs1, rd, q1⟩ => by
    cases rd with
    | str h => exact ⟨_, rfl, q1 _ _ m1 .refl rs1 it_str⟩
    | _ => exact q1.elim⟩
theorem w_rng1 (hg : Gl X "range") (hm : X.mg "range" = none) (ha : PE X a (rdE (X.cq W) f)) (hs : starEach [a] X.env = [(false, eval a X.env)] := by rfl) (hs2 : starEach [a] X.env = (false, eval a X.env) :: starEach [] X.env := by rfl) : PI X tg (.Call (.Name "range" p) [a] [] pos) (rdI (X.cq W) (iR1 f)) :=
  PIwk (pi_range1 hg hm (pa_cons ha pa_nil hs2) hs) fun σ H R' ⟨m, ρ, S, re, rs, q⟩ => ⟨m, ρ, S, re, rs, (src_bind (rel := relD (X.cq W)) q).imp fun v H1 ⟨m1, d, S1, e1, rs1, rd, q1⟩ => by
    cases rd with
    | int j =>
      simp only at q1
      split at q1
      · rename_i hz
        exact ⟨j, rfl, hz.1, hz.2, q1 _ _ m1 .refl rs1 it_rng⟩
      · exact q1.elim
    | _ => exact q1.elim⟩
theorem w_rng2 (hg : Gl X "range") (hm : X.mg "range" = none) (ha : PE X a (rdE (X.cq W) f)) (hb : PE X b (rdE (X.cq W) g)) (hs : starEach [a, b] X.env = [(false, eval a X.env), (false, eval b X.env)] := by rfl) (hs2 : starEach [b] X.env = [(false, eval b X.env)] := by rfl) (hs4 : starEach [b] X.env = (false, eval b X.env) :: starEach [] X.env := by rfl)
    (hs3 : starEach [a, b] X.env = (false, eval a X.env) :: starEach [b] X.env := by rfl) : PI X tg (.Call (.Name "range" p) [a, b] [] pos) (rdI (X.cq W) (iR2 f g)) :=
  PIwk (pi_range2 hg hm (pa_cons ha (pa_cons hb pa_nil hs4) hs3) hs hs2) fun σ H R' ⟨m, ρ, S, re, rs, q⟩ => ⟨m, ρ, S, re, rs, (src_bind (rel := relD (X.cq W)) q).imp fun v H1 ⟨m1, d, S1, e1, rs1, rd, q1⟩ =>
    ⟨m1, ρ, S1, re.mono e1, rs1, (src_bind (rel := relD (X.cq W)) q1).imp fun u H2 ⟨m2, d2, S2, e2, rs2, rd2, q2⟩ => by
      cases rd with
      | int i =>
        cases rd2 with
        | int j =>
          simp only at q2
          split at q2
          · rename_i hz
            exact ⟨i, j, rfl, hz, q2 _ _ m2 .refl rs2 it_rng⟩
          · exact q2.elim
        | _ => exact q2.elim
      | _ => cases rd2 <;> exact q2.elim⟩⟩
theorem w_rev (hg : Gl X "reversed") (hm : X.mg "reversed" = none) (ha : PE X a (rdE (X.cq W) f)) (hs : starEach [a] X.env = (false, eval a X.env) :: starEach [] X.env := by rfl) : PI X tg (.Call (.Name "reversed" p) [a] [] pos) (rdI (X.cq W) (iV f)) :=
  PIwk (RT.pi_revA hg hm ha hs) fun σ H R' ⟨m, ρ, S, re, rs, q⟩ => ⟨m, ρ, S, re, rs, (src_bind (rel := relD (X.cq W)) q).imp fun v H1 ⟨m1, d, S1, e1, rs1, rd, q1⟩ => by
    cases rd with
    | @ref a l hl =>
      simp only at q1
      cases el : lstAt S1 l with
      | none => rw [el] at q1; exact q1.elim
      | some xs =>
        rw [el] at q1
        obtain ⟨vs, h1, r⟩ := rs1.lst hl el
        exact ⟨a, vs, rfl, .inl ⟨h1, by rw [r.length]; exact q1 _ _ m1 .refl rs1 (it_rev hl)⟩⟩
    | @tup a vs ds ht r => exact ⟨a, vs, rfl, .inr ⟨ht.sq, by rw [r.length]; exact q1 _ _ m1 .refl rs1 (it_revT ht r)⟩⟩
    | _ => exact q1.elim⟩
end

/-! ## for, while -/
open Classical in
noncomputable def runF (tg : D → SX) (body : SX) (k : Chk) : List D → Env → Store → Out
  | [], ρ, S => if chkOk k S then .nx ρ S else .no
  | d :: ds, ρ, S => if chkOk k S then (match tgO (tg d ρ S) with
    | .nx ρ1 S1 => match body ρ1 S1 with
      | .nx ρ2 S2 => runF tg body k ds ρ2 S2
      | .ct ρ2 S2 => runF tg body k ds ρ2 S2
      | .bk ρ2 S2 => .nx ρ2 S2
      | o => o
    | o => o) else .no
noncomputable def sF (src : IX) (tg : D → SX) (body : SX) : SX := fun ρ S => (src ρ S).out ρ fun p S1 => runF tg body p.2 p.1 ρ S1
def runW (t : TX) (body : SX) : Nat → Env → Store → Out
  | 0, _, _ => .no
  | n + 1, ρ, S => (t ρ S).out ρ fun b S1 => if b then (match body ρ S1 with
      | .nx ρ2 S2 => runW t body n ρ2 S2
      | .ct ρ2 S2 => runW t body n ρ2 S2
      | .bk ρ2 S2 => .nx ρ2 S2
      | o => o) else .nx ρ S1
def sW (n : Nat) (t : TX) (body : SX) : SX := fun ρ S => runW t body n ρ S
section
variable {X : Cx} {W : WX} {tg iter t : Expr} {body : List Stmt} {src : IX} {G : D → SX} {g : SX} {ft : TX} {pos : Pos}
theorem t_for (hp : PassesOwn (model X.prog X.w) X.A X.env X.xe) (hc : X.calm = true) (hi : PI X tg iter (rdI (X.cq W) src)) (hg : PG X tg (rdG (X.cq W) G)) (hb : PSs X body (rdS (X.cq W) g))
    (hs : ∀ x, foldedSetIterable iter X.env x = pure x := by intro _; rfl) : PS X (.For tg iter body [] pos) (rdS (X.cq W) (sF src G g)) := PSwk (ps_for hp hc hi hg hb hs) fun Dn σ H ⟨m, ρ, S, re, rs, q⟩ => by
  refine ⟨m, ρ, S, re, rs, ?_⟩
  have q : PostS (X.cq W) m H Dn ((src ρ S).out ρ fun p S1 => runF G g p.2 p.1 ρ S1) := q
  cases es : src ρ S with
  | no => rw [es] at q; exact q.elim
  | ex x S' => rw [es] at q; exact fun cls dd H' m' e rs' rx => q cls dd σ H' m' e (re.mono e) rs' rx
  | ok p S' =>
    obtain ⟨xs, k⟩ := p
    rw [es] at q
    have q : PostS (X.cq W) m H Dn (runF G g k xs ρ S') := q
    intro J H1 m1 e1 rs1 it
    refine ⟨fun i n σ' H' => ∃ mm ρ' S', Ext X.K m1 H1 mm H' ∧ RE X.K mm H' σ' ρ' ∧ RS X.K mm H' S' ∧ n = xs.length - i ∧ i ≤ xs.length ∧ PostS (X.cq W) mm H' Dn (runF G g k (xs.drop i) ρ' S'),
      ⟨xs.length, m1, ρ, S', .refl, re.mono e1, rs1, by simp, Nat.zero_le _, by simpa using PostS.mono e1 q⟩, ?_⟩
    rintro i n σ' H' ⟨mm, ρ', S', e2, re2, rs2, rfl, hi, q2⟩
    by_cases hlt : i < xs.length
    · rw [List.drop_eq_getElem_cons hlt] at q2
      unfold runF at q2
      split at q2
      · rename_i hk
        obtain ⟨go, yl⟩ := (it i mm H' S' e2 rs2 hk).1 xs[i] (List.getElem?_eq_getElem hlt)
        refine .inr ⟨go, fun σ3 H3 => ∃ mm ρ' S', Ext X.K m1 H1 mm H3 ∧ RE X.K mm H3 σ3 ρ' ∧ RS X.K mm H3 S' ∧ PostS (X.cq W) mm H3 Dn (runF G g k (xs.drop (i + 1)) ρ' S'), fun σ3 H3 ⟨mm3, ρ3, S3, e3, re3, rs3, q3⟩ => ⟨xs.length - (i + 1), by omega, mm3, ρ3, S3, e3, re3, rs3, rfl, hlt, q3⟩, fun x H4 y => ?_⟩
        obtain ⟨m4, e4, rs4, rd4⟩ := yl x H4 y
        have q2 := PostS.mono e4 q2
        refine ⟨m4, ρ', S', xs[i], re2.mono e4, rs4, rd4, ?_⟩
        cases eo : G xs[i] ρ' S' with
        | nx ρ5 S5 =>
          rw [eo] at q2
          intro σ5 H5 m5 e5 re5 rs5
          have q2 : PostS (X.cq W) m5 H5 Dn (match g ρ5 S5 with
            | .nx ρ2 S2 => runF G g k (xs.drop (i + 1)) ρ2 S2
            | .ct ρ2 S2 => runF G g k (xs.drop (i + 1)) ρ2 S2
            | .bk ρ2 S2 => .nx ρ2 S2
            | o => o) := PostS.mono e5 q2
          refine ⟨m5, ρ5, S5, re5, rs5, ?_⟩
          have e15 : Ext X.K m1 H1 m5 H5 := (e2.trans e4).trans e5
          cases eb : g ρ5 S5 with
          | nx ρ6 S6 => rw [eb] at q2; exact fun σ6 H6 m6 e6 re6 rs6 => ⟨m6, ρ6, S6, e15.trans e6, re6, rs6, PostS.mono e6 q2⟩
          | ct ρ6 S6 => rw [eb] at q2; exact fun σ6 H6 m6 e6 re6 rs6 => ⟨m6, ρ6, S6, e15.trans e6, re6, rs6, PostS.mono e6 q2⟩
          | bk ρ6 S6 => rw [eb] at q2; exact q2
          | rt d S6 => rw [eb] at q2; exact q2
          | ex x ρ6 S6 => rw [eb] at q2; exact q2
          | no => rw [eb] at q2; exact q2
        | ex x ρ5 S5 => rw [eo] at q2; exact q2
        | _ => rw [eo] at q2; exact q2.elim
      · exact q2.elim
    · have hz : i = xs.length := by omega
      subst hz
      rw [List.drop_length] at q2
      unfold runF at q2
      split at q2
      · rename_i hk
        exact .inl ⟨(it xs.length mm H' S' e2 rs2 hk).2 (Nat.le_refl _), q2 σ' H' mm .refl re2 rs2⟩
      · exact q2.elim
theorem t_while (n : Nat) (hp : PassesOwn (model X.prog X.w) X.A X.env X.xe) (ht : PT X t (rdT (X.cq W) ft)) (hb : PSs X body (rdS (X.cq W) g)) : PS X (.While t body [] pos) (rdS (X.cq W) (sW n ft g)) := PSwk (ps_while hp ht hb) fun Dn σ H ⟨m, ρ, S, re, rs, q⟩ => by
  refine ⟨fun i σ' H' => ∃ mm ρ' S', RE X.K mm H' σ' ρ' ∧ RS X.K mm H' S' ∧ PostS (X.cq W) mm H' Dn (runW ft g i ρ' S'), ⟨n, m, ρ, S, re, rs, q⟩, ?_⟩
  rintro i σ' H' ⟨mm, ρ', S', re', rs', q'⟩
  cases i with
  | zero => exact q'.elim
  | succ i =>
    refine ⟨mm, ρ', S', re', rs', (Post.out (rel := relB) re' q').imp fun b H1 ⟨m1, b', S1, e1, rs1, eb, re1, q1⟩ => ?_⟩
    subst eb
    cases b with
    | false => rw [if_neg Bool.false_ne_true] at q1 ⊢; exact q1 σ' H1 m1 .refl re1 rs1
    | true =>
      rw [if_pos rfl] at q1 ⊢
      refine ⟨fun σ3 H3 => ∃ mm ρ' S', RE X.K mm H3 σ3 ρ' ∧ RS X.K mm H3 S' ∧ PostS (X.cq W) mm H3 Dn (runW ft g i ρ' S'), fun σ3 H3 h => ⟨i, Nat.lt_succ_self _, h⟩, m1, ρ', S1, re1, rs1, ?_⟩
      cases eb : g ρ' S1 with
      | nx ρ6 S6 => rw [eb] at q1; exact fun σ6 H6 m6 e6 re6 rs6 => ⟨m6, ρ6, S6, re6, rs6, PostS.mono e6 q1⟩
      | ct ρ6 S6 => rw [eb] at q1; exact fun σ6 H6 m6 e6 re6 rs6 => ⟨m6, ρ6, S6, re6, rs6, PostS.mono e6 q1⟩
      | bk ρ6 S6 => rw [eb] at q1; exact q1
      | rt d S6 => rw [eb] at q1; exact q1
      | ex x ρ6 S6 => rw [eb] at q1; exact q1
      | no => rw [eb] at q1; exact q1
end
end Dl

set_option Elab.async false
set_option linter.all false
set_option maxRecDepth 100000
namespace Dl
open PySem PySem.Spec PyProof.Rows L2

/-! ## list comprehensions: the target is names -/
/-- the slots of a comprehension's target: one name, or several -/
inductive Cg where
  | one (j : Nat) | many (js : List Nat)
def setsD (ρ : Env) : List Nat → List D → Env
  | j :: js, d :: ds => setsD (ρ.set j (some d)) js ds
  | _, _ => ρ
def Cg.put : Cg → D → Env → Option Env
  | .one j, d, ρ => some (ρ.set j (some d))
  | .many js, .tup ds, ρ => if ds.length = js.length then some (setsD ρ js ds) else none
  | _, _, _ => none
def Cg.slots : Cg → List Nat
  | .one j => [j]
  | .many js => js
def gNs : List Nat → TGs
  | [] => gNil
  | j :: js => gCons (gName j) (gNs js)
def Cg.tg (K : PySem.W.Frag) : Cg → TG
  | .one j => gName j
  | .many js => L2.gTup K js.length (gNs js)
open Classical in
noncomputable def runC (l : Nat) (ρ : Env) (g : Cg) (ft : TX) (fe : EX) (k : Chk) : List D → Store → R D
  | [], S => if chkOk k S then .ok (.ref l) S else .no
  | d :: ds, S => if chkOk k S then (match g.put d ρ with
    | some ρ1 => match ft ρ1 S with
      | .ok true S2 => match fe ρ1 S2 with
        | .ok e S3 => match S3[l]? with
          | some (.lst acc) => if acc.length < LIM then runC l ρ g ft fe k ds (S3.set l (.lst (acc ++ [e]))) else .no
          | _ => .no
        | _ => .no
      | .ok false S2 => runC l ρ g ft fe k ds S2
      | _ => .no
    | none => .no) else .no
/-- [elt for .. in .. if ..] -/
noncomputable def eLc (vs : List Nat) (src : IX) (g : Cg) (ft : TX) (fe : EX) : EX := fun ρ S => (src ρ S).bind fun p S1 => runC S1.length (wipeD ρ vs) g ft fe p.2 p.1 (S1 ++ [.lst []])
def tYesD : TX := fun _ S => .ok true S
section
theorem wipe_get {σ : L2.St} : ∀ {vs : List Nat} {i : Nat}, i ∈ vs → i < σ.length → (wipe σ vs)[i]? = some none
  | v :: vs, i, h, hl => by
    unfold wipe
    by_cases e : v = i
    · subst e
      exact List.getElem?_set_self (by rw [wipe_length]; exact hl)
    · rw [List.getElem?_set_ne e]
      rcases List.mem_cons.mp h with z | z
      · exact absurd z.symm e
      · exact wipe_get z hl
theorem wipe_out {σ : L2.St} : ∀ {vs : List Nat} {i : Nat}, i ∉ vs → (wipe σ vs)[i]? = σ[i]?
  | [], _, _ => rfl
  | v :: vs, i, h => by
    unfold wipe
    have e : v ≠ i := fun z => h (by simp [z])
    rw [List.getElem?_set_ne e]
    exact wipe_out fun z => h (List.mem_cons_of_mem _ z)
/-- slots among vs do not count -/
theorem wipe_same {σ σ' : L2.St} {vs : List Nat} (hl : σ'.length = σ.length) (h : ∀ i, i ∉ vs → σ'[i]? = σ[i]?) : wipe σ' vs = wipe σ vs := by
  apply List.ext_getElem?
  intro i
  by_cases hi : i ∈ vs
  · by_cases hz : i < σ.length
    · rw [wipe_get hi hz, wipe_get hi (by omega)]
    · rw [List.getElem?_eq_none (by rw [wipe_length]; omega), List.getElem?_eq_none (by rw [wipe_length]; omega)]
  · rw [wipe_out hi, wipe_out hi, h i hi]
def setsV (σ : L2.St) : List Nat → List V → L2.St
  | j :: js, v :: vs => setsV (σ.set j (some v)) js vs
  | _, _ => σ
theorem setsV_length : ∀ {js : List Nat} {ws : List V} {σ : L2.St}, (setsV σ js ws).length = σ.length
  | [], _, _ => rfl
  | _ :: _, [], _ => rfl
  | j :: js, w :: ws, σ => by
    show (setsV (σ.set j (some w)) js ws).length = _
    rw [setsV_length, List.length_set]
theorem setsV_out : ∀ {js : List Nat} {ws : List V} {σ : L2.St} {i : Nat}, i ∉ js → (setsV σ js ws)[i]? = σ[i]?
  | [], _, _, _, _ => rfl
  | _ :: _, [], _, _, _ => rfl
  | j :: js, w :: ws, σ, i, h => by
    show (setsV (σ.set j (some w)) js ws)[i]? = _
    rw [setsV_out fun z => h (List.mem_cons_of_mem _ z), List.getElem?_set_ne fun z => h (by simp [z])]
theorem RE.sets {K : PySem.W.Frag} {m : List Addr} {H : Hp} : ∀ {js : List Nat} {ws : List V} {ds : List D} {σ : L2.St} {ρ : Env}, RE K m H σ ρ → RDs K m H ws ds → RE K m H (setsV σ js ws) (setsD ρ js ds)
  | [], _, _, _, _, re, .nil => re
  | [], _, _, _, _, re, .cons _ _ => re
  | _ :: _, _, _, _, _, re, .nil => re
  | j :: js, _, _, _, _, re, .cons h t => by
    have q := RE.sets (js := js) (re.set h j) t
    exact q
theorem gNs_of {js : List Nat} : ∀ {ws : List V} {σ : L2.St} {H : Hp} {Q : L2.St → Hp → Prop}, ws.length = js.length → Q (setsV σ js ws) H → gNs js ws σ H Q := by
  induction js with
  | nil =>
    intro ws σ H Q hl q
    cases ws with
    | nil => exact ⟨rfl, q⟩
    | cons _ _ => cases hl
  | cons j js ih =>
    intro ws σ H Q hl q
    cases ws with
    | nil => cases hl
    | cons w ws => exact ⟨w, ws, rfl, ih (Nat.succ.inj hl) q⟩
theorem cg_of {K : PySem.W.Frag} {m : List Addr} {H : Hp} {g : Cg} {v : V} {d : D} {σ : L2.St} {ρ ρ1 : Env} {vs : List Nat} (hs : ∀ j ∈ g.slots, j ∈ vs) (re : RE K m H σ ρ) (rd : RD K m H v d) (hp : g.put d ρ = some ρ1) {Q : L2.St → Hp → Prop}
    (q : ∀ σ1, RE K m H σ1 ρ1 → wipe σ1 vs = wipe σ vs → Q σ1 H) : g.tg K v σ H Q := by
  cases g with
  | one j =>
    cases hp
    refine q _ (re.set rd j) (wipe_same (List.length_set ..) fun i hi => List.getElem?_set_ne fun z => hi (hs i ?_))
    rw [z]
    exact List.mem_singleton.mpr rfl
  | many js =>
    cases rd with
    | @tup a ws ds ht r =>
      have hp : (if ds.length = js.length then some (setsD ρ js ds) else none) = some ρ1 := hp
      split at hp
      · rename_i hz
        cases hp
        refine ⟨a, ws, rfl, ht.sq, by rw [r.length]; exact hz, gNs_of (by rw [r.length]; exact hz) (q _ (re.sets r) (wipe_same setsV_length fun i hi => setsV_out fun z => hi (hs i z)))⟩
      · cases hp
    | _ => cases hp
variable {X : Cx} {W : WX}
theorem lc_read {src : IX} {g : Cg} {ft : TX} {fe : EX} {vs : List Nat} (hs : ∀ j ∈ g.slots, j ∈ vs) (σ : L2.St) (H : Hp) (Q : VK) (h : rdE (X.cq W) (eLc vs src g ft fe) σ H Q) :
    tLc (rdI (X.cq W) src) (g.tg X.K) (rdT (X.cq W0) ft) (rdE (X.cq W0) fe) vs σ H Q := by
  obtain ⟨m, ρ, S, re, rs, h⟩ := h
  refine ⟨m, ρ, S, re, rs, ?_⟩
  have h : Post (X.cq W) (relD (X.cq W)) m H σ Q ((src ρ S).bind fun p S1 => runC S1.length (wipeD ρ vs) g ft fe p.2 p.1 (S1 ++ [.lst []])) := h
  cases es : src ρ S with
  | no => rw [es] at h; exact h.elim
  | ex x S' => rw [es] at h; exact h
  | ok p S' =>
    obtain ⟨xs, k⟩ := p
    rw [es] at h
    intro J H1 m1 e1 rs1 it D hD
    have h : Post (X.cq W) (relD (X.cq W)) m1 H1 σ Q (runC S'.length (wipeD ρ vs) g ft fe k xs (S' ++ [.lst []])) := Post.mono e1 h
    obtain ⟨e2, rs2⟩ := rs1.push (o := .lst []) (c := .lst []) hD fun m' e' => ⟨[], upd_same, .nil⟩
    have hl : (m1 ++ [D])[S'.length]? = some D := by
      rw [← rs1.len, List.getElem?_append_right (Nat.le_refl _), Nat.sub_self]
      rfl
    have re0 := re.mono e1
    refine ⟨fun i n H' => ∃ mm S2, Ext X.K m1 H1 mm H' ∧ RS X.K mm H' S2 ∧ mm[S'.length]? = some D ∧ n = xs.length - i ∧ i ≤ xs.length ∧ Post (X.cq W) (relD (X.cq W)) mm H' σ Q (runC S'.length (wipeD ρ vs) g ft fe k (xs.drop i) S2),
      ⟨xs.length, m1 ++ [D], S' ++ [.lst []], e2, rs2, hl, by simp, Nat.zero_le _, by simpa using Post.mono e2 h⟩, ?_⟩
    rintro i n H' ⟨mm, S2, e3, rs3, hl3, rfl, hi, h3⟩
    by_cases hlt : i < xs.length
    · rw [List.drop_eq_getElem_cons hlt] at h3
      unfold runC at h3
      split at h3
      · rename_i hk
        obtain ⟨go, yl⟩ := (it i mm H' S2 e3 rs3 hk).1 xs[i] (List.getElem?_eq_getElem hlt)
        refine .inr ⟨go, fun H3 => ∃ mm S3, Ext X.K m1 H1 mm H3 ∧ RS X.K mm H3 S3 ∧ mm[S'.length]? = some D ∧ Post (X.cq W) (relD (X.cq W)) mm H3 σ Q (runC S'.length (wipeD ρ vs) g ft fe k (xs.drop (i + 1)) S3),
          fun H3 ⟨mm3, S3, a1, a2, a3, a4⟩ => ⟨xs.length - (i + 1), by omega, mm3, S3, a1, a2, a3, rfl, hlt, a4⟩, fun x H4 y => ?_⟩
        obtain ⟨m4, e4, rs4, rd4⟩ := yl x H4 y
        have h3 := Post.mono e4 h3
        cases hp : g.put xs[i] (wipeD ρ vs) with
        | none => rw [hp] at h3; exact h3.elim
        | some ρ1 =>
          rw [hp] at h3
          simp only at h3
          have re4 : RE X.K m4 H4 (wipe σ vs) (wipeD ρ vs) := ((re0.mono e3).mono e4).wipe vs
          refine cg_of hs re4 rd4 hp fun σ1 re1 hw => ⟨by rw [hw]; exact wipe_same (wipe_length σ vs) fun i hi => wipe_out hi, m4, ρ1, S2, re1, rs4, ?_⟩
          cases et : ft ρ1 S2 with
          | no => rw [et] at h3; exact h3.elim
          | ex x S5 => rw [et] at h3; exact h3.elim
          | ok b S5 =>
            rw [et] at h3
            intro b' H5 m5 e5 rs5 eb
            subst eb
            have h3 := Post.mono (c := X.cq W) e5 h3
            have e15 := (e3.trans e4).trans e5
            cases b' with
            | false =>
              rw [if_neg Bool.false_ne_true]
              exact ⟨m5, S5, e15, rs5, e5.at (e4.at hl3), h3⟩
            | true =>
              rw [if_pos rfl]
              simp only at h3
              refine ⟨m5, ρ1, S5, re1.mono e5, rs5, ?_⟩
              cases ee : fe ρ1 S5 with
              | no => rw [ee] at h3; exact h3.elim
              | ex x S6 => rw [ee] at h3; exact h3.elim
              | ok d S6 =>
                rw [ee] at h3
                simp only at h3
                intro v H6 m6 e6 rs6 rd6
                have h3 := Post.mono (c := X.cq W) e6 h3
                have hl6 := e6.at (e5.at (e4.at hl3))
                split at h3
                · rename_i acc ea
                  split at h3
                  · rename_i hz
                    obtain ⟨ws, hw, rw'⟩ := rs6.wlst hl6 ea
                    obtain ⟨e7, rs7⟩ := rs6.write (o := .lst (ws ++ [v])) (c' := .lst (acc ++ [d])) hl6 ea rfl rfl fun ex => ⟨_, upd_same, (rw'.mono ex).append (.one (rd6.mono ex))⟩
                    exact ⟨ws, hw, by rw [rw'.length, ← lim_eq]; exact hz, m6, _, (e15.trans e6).trans e7, rs7, hl6, Post.mono (c := X.cq W) e7 h3⟩
                  · exact h3.elim
                · exact h3.elim
      · exact h3.elim
    · have hz : i = xs.length := by omega
      subst hz
      rw [List.drop_length] at h3
      unfold runC at h3
      split at h3
      · rename_i hk
        exact .inl ⟨(it xs.length mm H' S2 e3 rs3 hk).2 (Nat.le_refl _), h3 _ _ mm .refl rs3 (.ref hl3)⟩
      · exact h3.elim
variable {elt tg iter : Expr} {ifs : List Expr} {scope : Scope} {own : List (Str × Nat)} {pos : Pos} {src : IX} {g : Cg} {ft : TX} {fe : EX}
theorem d_lc (hc : X.calm = true) (hN : X.N.Nodup) (hi : PI X tg iter (rdI (X.cq W) src)) (ok : BlkOk X.N X.env.scope scope own) (hsl : ∀ j ∈ g.slots, j ∈ own.map (·.2))
    (hg : ∀ (s : Shared) (H : Hp) (C : Addr) (cl : List (Str × Addr)) (fp : List Addr), PG (X.blk s H scope (compEnvC scope cl C X.env) fp) tg (g.tg X.K)) (ht : ∀ (s : Shared) (H : Hp) (C : Addr) (cl : List (Str × Addr)) (fp : List Addr), PTs (X.blk s H scope (compEnvC scope cl C X.env) fp) ifs (rdT (X.cq W0) ft))
    (he : ∀ (s : Shared) (H : Hp) (C : Addr) (cl : List (Str × Addr)) (fp : List Addr), PE (X.blk s H scope (compEnvC scope cl C X.env) fp) elt (rdE (X.cq W0) fe)) (hs : ∀ x, foldedSetIterable iter X.env x = pure x := by intro _; rfl) :
    PE X (.ListComp elt [⟨tg, iter, ifs, 0⟩] scope pos) (rdE (X.cq W) (eLc (own.map (·.2)) src g ft fe)) := PEwk (pe_lc hc hN hi ok hg ht he hs) (lc_read hsl)
theorem t_setLc {i : Nat} {y : Str} {py spos : Pos} (hc : X.calm = true) (hN : X.N.Nodup) (hy : X.N[i]? = some y) (hyl : X.env.scope.names.lookup y = some .local)
    (hsw : swapsWith (.ListComp elt [⟨tg, iter, ifs, 0⟩] scope pos) (some (.Name y py)) spos.line X.env = pure true) (hi : PI X tg iter (rdI (X.cq W) src)) (ok : BlkOk X.N X.env.scope scope own) (hsl : ∀ j ∈ g.slots, j ∈ own.map (·.2))
    (hg : ∀ (s : Shared) (H : Hp) (C : Addr) (cl : List (Str × Addr)) (fp : List Addr), PG (X.blk s H scope (compEnvC scope cl C X.env) fp) tg (g.tg X.K)) (ht : ∀ (s : Shared) (H : Hp) (C : Addr) (cl : List (Str × Addr)) (fp : List Addr), PTs (X.blk s H scope (compEnvC scope cl C X.env) fp) ifs (rdT (X.cq W0) ft))
    (he : ∀ (s : Shared) (H : Hp) (C : Addr) (cl : List (Str × Addr)) (fp : List Addr), PE (X.blk s H scope (compEnvC scope cl C X.env) fp) elt (rdE (X.cq W0) fe)) (hs : ∀ x, foldedSetIterable iter X.env x = pure x := by intro _; rfl) :
    PS X (.Assign [.Name y py] (.ListComp elt [⟨tg, iter, ifs, 0⟩] scope pos) spos) (rdS (X.cq W) (sN i (eLc (own.map (·.2)) src g ft fe))) := PSwk (ps_setLc (i := i) hc hN hy hyl hsw hi ok hg ht he hs) fun Dn σ H ⟨m, ρ, S, re, rs, q⟩ =>
  lc_read hsl σ H _ ⟨m, ρ, S, re, rs, (Post.out (rel := relD (X.cq W)) re q).imp fun v H1 ⟨m1, d, S1, e1, rs1, rd, re1, q1⟩ => q1 _ H1 m1 .refl (re1.set rd i) rs1⟩
theorem u_nil : PTs X [] (rdT (X.cq W) tYesD) := ⟨fun pins s σ H Q I ⟨m, ρ, S, re, rs, h⟩ => pts_nil.run pins s σ H Q I (h _ H m .refl rs rfl)⟩
theorem u_one {c : Expr} (h : PT X c (rdT (X.cq W) ft)) : PTs X [c] (rdT (X.cq W) ft) := pts_one h
theorem v_one {j : Nat} {x : Str} (hN : X.N.Nodup) (hi : X.N[j]? = some x := by rfl) (hx : Loc X.env.scope x := by first | exact .inl rfl | exact .inr rfl) (hf : X.fn x = true ∨ X.env.scope.names.lookup x = some .local := by first | exact .inl rfl | exact .inr rfl) :
    PG X (.Name x pos) ((Cg.one j).tg X.K) := pg_name hN hi hx hf
theorem v_nil : PGs X [] (gNs []) := pgs_nil
theorem v_cons {j : Nat} {js : List Nat} {e : Expr} {es : List Expr} (h1 : PG X e (gName j)) (h2 : PGs X es (gNs js)) (hs : (assignEach (e :: es) X.env).map (·.2) = assign e X.env :: (assignEach es X.env).map (·.2) := by rfl) : PGs X (e :: es) (gNs (j :: js)) := pgs_cons h1 h2 hs
theorem v_many {js : List Nat} {es : List Expr} {k : Nat} (hc : X.calm = true) (h : PGs X es (gNs js)) (hn : (assignEach es X.env).length = js.length := by rfl) (hst : (assignEach es X.env).findIdx? (·.1) = none := by rfl) :
    PG X (.Tuple es k pos) ((Cg.many js).tg X.K) := pg_tup hc h hn hst
end
end Dl

set_option Elab.async false
set_option linter.all false
set_option maxRecDepth 100000
namespace Dl
open PySem PySem.Spec PyProof.Rows L2

/-! ## what a def leaves: new cells that nobody knows are forgotten -/
mutual
def D.wf (n : Nat) : D → Bool
  | .tup xs => wfs n xs
  | .ref l => decide (l < n)
  | _ => true
def wfs (n : Nat) : List D → Bool
  | [] => true
  | x :: xs => x.wf n && wfs n xs
end
def Cell.wf (n : Nat) : Cell → Bool
  | .lst xs => wfs n xs
  | .rol xs => wfs n xs
  | .dic kvs => wfs n (kvs.map (·.2))
  | .gone => true
def SWf (n : Nat) (S : Store) : Bool := S.all (Cell.wf n)
def newCell (n : Nat) : Option Cell → Option Cell
  | some (.lst xs) => if wfs n xs then some (.lst xs) else none
  | some (.dic kvs) => if wfs n (kvs.map (·.2)) then some (.dic kvs) else none
  | _ => none
def cmp (n : Nat) (d : D) (S' : Store) : R D :=
  if SWf n (S'.take n) then
    if d.wf n then .ok d (S'.take n)
    else match d with
      | .ref l => match newCell n (S'[l]?) with
        | some c => .ok (.ref n) (S'.take n ++ [c])
        | none => .ok d S'
      | _ => .ok d S'
  else .ok d S'
def runB (np ns : Nat) (g : SX) (ds : List D) (S : Store) : R D := if ds.length = np then (match g (ds.map some ++ List.replicate (ns - np) none) S with
  | .rt d S' => cmp S.length d S'
  | .nx _ S' => cmp S.length .non S'
  | .ex x _ S' => .ex x S'
  | _ => .no) else .no
section
variable {K : PySem.W.Frag} {m r : List Addr} {H : Hp}
mutual
theorem RD.low : ∀ {v : V} {d : D}, RD K (m ++ r) H v d → d.wf m.length = true → RD K m H v d
  | _, _, .non, _ => .non
  | _, _, .bl b, _ => .bl b
  | _, _, .int b, _ => .int b
  | _, _, .str h, _ => .str h
  | _, _, .tup h t, w => .tup h (RDs.low t w)
  | _, _, .ref h, w => .ref (by
      have w' := of_decide_eq_true w
      rwa [List.getElem?_append_left w'] at h)
  | _, _, .raw v, _ => .raw v
theorem RDs.low : ∀ {vs : List V} {ds : List D}, RDs K (m ++ r) H vs ds → wfs m.length ds = true → RDs K m H vs ds
  | _, _, .nil, _ => .nil
  | _, _, .cons h t, w => by
    have w' := Bool.and_eq_true_iff.mp w
    exact .cons (RD.low h w'.1) (RDs.low t w'.2)
end
theorem CellOk.low {a : Addr} {c : Cell} (h : CellOk K (m ++ r) H a c) (w : c.wf m.length = true) : CellOk K m H a c := by
  cases c with
  | lst xs => obtain ⟨vs, h1, h2⟩ := h; exact ⟨vs, h1, h2.low w⟩
  | rol xs => obtain ⟨vs, h1, h2⟩ := h; exact ⟨vs, h1, h2.low w⟩
  | dic kvs => obtain ⟨vs, h1, h2, h3⟩ := h; exact ⟨vs, h1, h2, h3.low w⟩
  | gone => trivial
theorem RS.low {S : Store} (h : RS K (m ++ r) H S) (w : SWf m.length (S.take m.length) = true) : RS K m H (S.take m.length) := by
  have hl := h.len
  rw [List.length_append] at hl
  have gm : ∀ {l : Nat} {a : Addr}, m[l]? = some a → (m ++ r)[l]? = some a := fun {l a} e => by
    rw [List.getElem?_append_left (List.getElem?_eq_some_iff.mp e).1]
    exact e
  have gS : ∀ {l : Nat} {c : Cell}, (S.take m.length)[l]? = some c → S[l]? = some c := fun {l c} e => by
    have z := (List.getElem?_eq_some_iff.mp e).1
    rw [List.length_take] at z
    rwa [List.getElem?_take_of_lt (by omega)] at e
  refine ⟨by rw [List.length_take]; omega, fun {l a c} h1 h2 => (h.at_ (gm h1) (gS h2)).low (List.all_eq_true.mp w c (List.mem_of_getElem? h2)), fun h1 h2 h3 h4 h5 h6 => h.inj (gm h1) (gm h2) (gS h3) (gS h4) h5 h6⟩
theorem newCell_mut {n : Nat} {o : Option Cell} {c : Cell} (h : newCell n o = some c) : o = some c ∧ c.wf n = true := by
  unfold newCell at h
  split at h
  · split at h
    · cases h; exact ⟨rfl, ‹_›⟩
    · cases h
  · split at h
    · cases h; exact ⟨rfl, ‹_›⟩
    · cases h
  · cases h
/-- new at the end -/
theorem RS.last {S : Store} {l : Nat} {a : Addr} {c : Cell} (h : RS K (m ++ r) H S) (w : SWf m.length (S.take m.length) = true) (hn : m.length ≤ l) (hl : (m ++ r)[l]? = some a) (hc : S[l]? = some c) (wc : c.wf m.length = true) :
    RS K (m ++ [a]) H (S.take m.length ++ [c]) := by
  have b := h.low w
  have hlen := b.len
  have e : Ext K m H (m ++ [a]) H := ⟨⟨[a], rfl⟩, fun _ _ h => h⟩
  have split1 : ∀ {i : Nat} {x : Addr}, (m ++ [a])[i]? = some x → m[i]? = some x ∨ (i = m.length ∧ x = a) := fun {i x} q => by
    by_cases z : i < m.length
    · rw [List.getElem?_append_left z] at q
      exact .inl q
    · have := (List.getElem?_eq_some_iff.mp q).1
      simp at this
      have e : i = m.length := by omega
      subst e
      rw [List.getElem?_append_right (Nat.le_refl _)] at q
      simp at q
      exact .inr ⟨rfl, q.symm⟩
  have split2 : ∀ {i : Nat} {x : Cell}, (S.take m.length ++ [c])[i]? = some x → (i < m.length ∧ (S.take m.length)[i]? = some x) ∨ (i = m.length ∧ x = c) := fun {i x} q => by
    by_cases z : i < m.length
    · rw [List.getElem?_append_left (by rw [← hlen]; exact z)] at q
      exact .inl ⟨z, q⟩
    · have := (List.getElem?_eq_some_iff.mp q).1
      rw [List.length_append, ← hlen] at this
      simp at this
      have e : i = m.length := by omega
      subst e
      rw [List.getElem?_append_right (by rw [← hlen]; exact Nat.le_refl _), ← hlen] at q
      simp at q
      exact .inr ⟨rfl, q.symm⟩
  have gm : ∀ {l : Nat} {a : Addr}, m[l]? = some a → (m ++ r)[l]? = some a := fun {l a} e => by
    rw [List.getElem?_append_left (List.getElem?_eq_some_iff.mp e).1]
    exact e
  have gS : ∀ {l : Nat} {c : Cell}, (S.take m.length)[l]? = some c → S[l]? = some c := fun {l c} e => by
    have z := (List.getElem?_eq_some_iff.mp e).1
    rw [List.length_take] at z
    rwa [List.getElem?_take_of_lt (by omega)] at e
  have lt : ∀ {i : Nat} {x : Addr}, m[i]? = some x → i < m.length := fun {i x} q => (List.getElem?_eq_some_iff.mp q).1
  refine ⟨by rw [List.length_append, List.length_append, ← hlen]; rfl, fun {i x y} h1 h2 => ?_, fun {i i' x y y'} h1 h2 h3 h4 h5 h6 => ?_⟩
  · rcases split1 h1 with q1 | ⟨q1, rfl⟩
    · rcases split2 h2 with ⟨z, q2⟩ | ⟨q2, rfl⟩
      · exact (b.at_ q1 q2).mono e (fun _ => rfl) fun _ z => z
      · exact absurd (lt q1) (by omega)
    · rcases split2 h2 with ⟨z, q2⟩ | ⟨q2, rfl⟩
      · exact absurd z (by omega)
      · exact ((h.at_ hl hc).low wc).mono e (fun _ => rfl) fun _ z => z
  · rcases split1 h1 with q1 | ⟨q1, e1⟩
    · rcases split2 h3 with ⟨z, q3⟩ | ⟨q3, _⟩
      · rcases split1 h2 with q2 | ⟨q2, e2⟩
        · rcases split2 h4 with ⟨z', q4⟩ | ⟨q4, _⟩
          · exact b.inj q1 q2 q3 q4 h5 h6
          · exact absurd (lt q2) (by omega)
        · rcases split2 h4 with ⟨z', q4⟩ | ⟨q4, e4⟩
          · exact absurd z' (by omega)
          · subst e2 e4
            have := h.inj (gm q1) hl (gS q3) hc h5 h6
            have := lt q1
            omega
      · exact absurd (lt q1) (by omega)
    · rcases split2 h3 with ⟨z, q3⟩ | ⟨q3, e3⟩
      · exact absurd z (by omega)
      · rcases split1 h2 with q2 | ⟨q2, e2⟩
        · rcases split2 h4 with ⟨z', q4⟩ | ⟨q4, _⟩
          · subst e1 e3
            have := h.inj hl (gm q2) hc (gS q4) h5 h6
            have := lt q2
            omega
          · exact absurd (lt q2) (by omega)
        · omega
end
theorem cmp_post {c : Cq} {m m' : List Addr} {H H' : Hp} {v : V} {d : D} {S S' : Store} {Q : VK} {σ : L2.St} (hm : m.length = S.length) (e : Ext c.K m H m' H') (rs : RS c.K m' H' S') (rd : RD c.K m' H' v d) (h : Post c (relD c) m H σ Q (cmp S.length d S')) : Q v H' := by
  obtain ⟨⟨r, rfl⟩, et⟩ := e
  rw [← hm] at h
  unfold cmp at h
  have e0 : Ext c.K m H m H' := ⟨⟨[], by simp⟩, et⟩
  have same : Post c (relD c) m H σ Q (.ok d S') → Q v H' := fun h => h v H' _ ⟨⟨r, rfl⟩, et⟩ rs rd
  split at h
  · rename_i w
    split at h
    · rename_i wd
      exact h v H' m e0 (rs.low w) (rd.low wd)
    · rename_i wd
      split at h
      · rename_i l
        split at h
        · rename_i cl hc
          obtain ⟨q1, q2⟩ := newCell_mut hc
          cases rd with
          | @ref a _ hl =>
            have hn : m.length ≤ l := by
              have := mt (fun z => decide_eq_true z) (show ¬ (D.ref l).wf m.length = true from wd)
              omega
            refine h _ H' (m ++ [a]) ⟨⟨[a], rfl⟩, et⟩ (rs.last w hn hl q1 q2) (.ref ?_)
            rw [List.getElem?_append_right (Nat.le_refl _), Nat.sub_self]
            rfl
        · exact same h
      · exact same h
  · exact same h
theorem re_start {K : PySem.W.Frag} {m : List Addr} {H : Hp} {N : List Str} {vs : List V} {ds : List D} (r : RDs K m H vs ds) : RE K m H (L2.start N vs) (ds.map some ++ List.replicate (N.length - ds.length) none) := by
  unfold L2.start
  have hl := r.length
  refine ⟨by simp [hl], fun {i d} h => ?_⟩
  by_cases z : i < ds.length
  · rw [List.getElem?_append_left (by simpa using z), List.getElem?_map] at h
    cases e : ds[i]? with
    | none => rw [e] at h; cases h
    | some d' =>
      rw [e] at h
      cases h
      obtain ⟨v, h1, h2⟩ := r.get e
      refine ⟨v, ?_, h2⟩
      rw [List.getElem?_append_left (by simp [hl]; exact z), List.getElem?_map, h1]
      rfl
  · rw [List.getElem?_append_right (by simpa using z), List.getElem?_replicate] at h
    split at h <;> cases h
theorem passB {X : Cx} {σ : L2.St} : PassesAt (L2.CX X.prog X.w) X σ (WE W0 σ) := fun _ _ _ _ _ _ h => by
  obtain ⟨_, _, _, _, _, _, _, _, _, _, _, _, z⟩ := h
  exact z.elim
section
variable {P : Program} {w : World} {K : PySem.W.Frag} {mg : Str → Option Value} {base : Heap}
/-- a def of the text keeps its mirror's promise -/
theorem fn_ok {x qual : Str} {st : Stmt} {f : Addr} {fd : FuncData} {N ps : List Str} {k : Nat} {g : SX} (F : Fun K x qual st f fd) (S : FnScope N ps (defScope st))
    (hbody : ∀ (cdv : Value) (A : Around) (outer : List PySem.Env) (s : Shared) (H : Hp) (E : XK), Room k (A.deeper (envOfC qual (defScope st) s.heap.objs.size f cdv)) →
      PSs (cxOf (L2.CX P w) P w K mg base N qual (defScope st) f cdv A outer s H E) (defBody st) (rdS ⟨K, mg, fun c d _ H => E c d H⟩ g)) :
    FnOk P w K mg base (L2.CX P w) (k + 1) f fd ps (rdF ⟨K, mg, W0⟩ (runB ps.length N.length g)) := by
  refine F.okX S (fun vs H Q E h => ?_) fun cdv A outer s H vs Q E hr h => ⟨_, hbody cdv A outer s H E hr, ?_⟩
  · obtain ⟨m, ds, S, r, rs, h⟩ := h
    rw [r.length]
    unfold runB at h
    split at h
    · assumption
    · exact h.elim
  · obtain ⟨m, ds, S, r, rs, h⟩ := h
    unfold runB at h
    split at h
    · rename_i hl
      refine ⟨m, ds.map some ++ List.replicate (N.length - ps.length) none, S, by rw [← hl]; exact re_start r, rs, ?_⟩
      cases eg : g (ds.map some ++ List.replicate (N.length - ps.length) none) S with
      | rt d S' => rw [eg] at h; exact fun v H' m' e rs' rd => cmp_post (σ := []) rs.len e rs' rd h
      | nx ρ' S' => rw [eg] at h; exact fun σ' H' m' e re' rs' => cmp_post (σ := []) rs.len e rs' .non h
      | ex xx ρ' S' => rw [eg] at h; exact fun cls dd σ' H' m' e re' rs' rx => h cls dd H' m' e rs' rx
      | _ => rw [eg] at h; exact h.elim
    · exact h.elim
/-- none is called with no calls left -/
theorem fn_zero {f : Addr} {fd : FuncData} {ps : List Str} : FnOk P w K mg base (L2.CX P w) 0 f fd ps (rdF ⟨K, mg, W0⟩ fun _ _ => .no) :=
  ⟨fun vs H Q E ⟨m, ds, S, r, rs, h⟩ => h.elim, fun A outer s H args us vs Q E _ _ _ _ ⟨m, ds, S, r, rs, h⟩ => h.elim⟩
end
/-- a promise without exceptions -/
def rdL (K : PySem.W.Frag) (F : List D → M D) : Sp := fun vs H Q _ => ∃ m ds S d S', RDs K m H vs ds ∧ RS K m H S ∧ F ds S = .ok d S' ∧ ∀ v H' m', Ext K m H m' H' → RS K m' H' S' → RD K m' H' v d → Q v H'
theorem rdL_F {K : PySem.W.Frag} {mg : Str → Option Value} {F : List D → M D} {vs : List V} {H : Hp} {Q : VK} {E : XK} (h : rdL K F vs H Q E) : rdF ⟨K, mg, W0⟩ F vs H Q E := by
  obtain ⟨m, ds, S, d, S', r, rs, e, k⟩ := h
  exact ⟨m, ds, S, r, rs, by rw [e]; exact k⟩
/-- THE END: a script's ints, True -/
theorem law_sp {K : PySem.W.Frag} {F : List D → M D} {H : Hp} {a : Addr} {ns : List Int} (hO : Only H) (hS : SqL K H a (ns.map V.int)) (h : ∃ S, F [.ref 0] [.rol (ns.map D.int)] = .ok (.bl true) S) :
    rdL K F [.ref a] H (fun v _ => v = .bl true) fun _ _ _ => False := by
  obtain ⟨S, h⟩ := h
  have rds : ∀ ns : List Int, RDs K [a] H (ns.map V.int) (ns.map D.int) := fun ns => by
    induction ns with
    | nil => exact .nil
    | cons n ns ih => exact .cons (.int n) ih
  have hR : RolAt K H a (ns.map V.int) := by
    rcases hS with hS | hS
    · rcases hS with hS | hS
      · rcases hO a with z | ⟨o, xs, z⟩
        · rw [z] at hS; cases hS
        · rw [z] at hS; cases hS
      · exact .inl hS
    · exact .inr hS
  refine ⟨[a], [.ref 0], [.rol (ns.map D.int)], .bl true, S, .cons (.ref rfl) .nil, ⟨rfl, fun {l a' c} h1 h2 => ?_, fun {l l' a' c c'} h1 h2 h3 h4 h5 h6 => ?_⟩, ?_⟩
  · cases l with
    | zero =>
      simp at h1 h2
      subst h1 h2
      exact ⟨_, hR, rds ns⟩
    | succ l => simp at h1
  · cases l with
    | zero => simp at h3; subst h3; cases h5
    | succ l => simp at h3
  · exact ⟨h, fun v H' m' e rs rd => by cases rd; rfl⟩
end Dl

set_option Elab.async false
set_option linter.all false
set_option maxRecDepth 100000
set_option maxHeartbeats 1000000
namespace Dl
open PySem PySem.Spec PyProof.Rows L2 RT
/-! ## list(reversed(xs)) -/
section
variable {prog : Program} {w : World} {A : Around} {E : Value → Shared → Prop} {s : Shared}
theorem extend_rev {it l S : Addr} {items : Array Value} {res : Value} {c₀ : Nat} {R : Result → Shared → Prop} (hh : A.handled = none) (hit : s.heap.IsRevIter it l ((items.size : Int) - 1)) (hl : s.heap.IsList l items) (hne : l ≠ it) (hn : items.size ≤ sizeLine)
    (hSi : S ≠ it) (hSl : S ≠ l) (hS : s.heap.get? S = some { cls := .type "list", data := .seq #[] c₀ })
    (hR : ∀ h' tk acc c', (∀ b o, b ≠ it → b ≠ S → s.heap.get? b = some o → h'.get? b = some o) → h'.get? S = some { cls := .type "list", dict := none, data := .seq acc c', slots := #[] } →
      ItemsOf (fun i v => items[items.size - 1 - i]? = some v) acc items.size → R (.ok (.ret res)) { s with heap := h', toks := tk }) :
    wpAny (model prog w) A.in1 (Builtin.List.listExtendWith (.ref S) (.ref it) res)
      (fun fin s' => match fin with | .done f => R (.ok f) s' | .again c' => c'.quiet = true ∧ codeAny (model prog w) A c' R s') (fun e s' => R (.error e) s') s := by
  have W := (Walks.listRev (prog := prog) (w := w) (A := A.in1) hh it l hne items).toS
  have hSf : S ∉ [it, l] := by simp only [List.mem_cons, List.not_mem_nil, or_false, not_or]; exact ⟨hSi, hSl⟩
  have hT : s.TypeIs (.ref it) "list_reverseiterator" := hit.typeIs
  have h1 : Builtin.List.listSameRef (.ref S) (.ref it) = false := by simp [Builtin.List.listSameRef, hSi]
  unfold Builtin.List.listExtendWith
  refine wpAny_bind (wpAny_typeOf hT ?_)
  rw [if_neg (by rw [h1]; decide)]
  refine wpAny_bind (wpAny_pyIter_revIter hit ?_)
  refine wpAny_bind (wpAny_holding ?_)
  unfold Builtin.List.listLengthHint
  refine wpAny_bind (wpAny_specialOf hT nolen_lri ?_)
  show wpAny _ A.in1 (specialOf (Value.ref it) (Str.ofString "__length_hint__") >>= _) _ _ _
  refine wpAny_bind (wpAny_specialOf hT hint_lri ?_)
  generalize hid : ("list_reverseiterator.__length_hint__" : String) = id0
  wp_delta
  rw [show splitId id0 = some ("list_reverseiterator", "__length_hint__") from by subst hid; decide +kernel]
  subst hid
  refine wpAny_bind (wpAny_isInstance (b := true) hT (by rw [isSubtype_type]; kernel_rfl) ?_)
  refine wpAny_pure ?_
  rw [if_neg (by decide)]
  have e0 : ((items.size : Nat) : Int) - 1 - ((0 : Nat) : Int) = (items.size : Int) - 1 := by omega
  refine wpAny_pure ⟨plainId_quiet F.plain_extend_loop _, codeAny_extend_loopS W hn _ hSf _ items.size 0 _ _ _ rfl (Nat.zero_le _) ⟨Nat.zero_le _, by rw [e0]; exact hit, hl⟩ hS (ItemsOf.nil _) fun s' acc' c' hm hS' hacc => ?_⟩
  rw [Moved.eq_with hm]
  refine hR s'.heap s'.toks acc' c' (fun b o hb hb2 e => hm.heap b o (fun hmem => ?_) e) hS' hacc
  rcases List.mem_cons.mp hmem with e' | hmem
  · exact hb2 e'
  · exact hb (List.mem_singleton.mp hmem)
theorem list_init_rev {it l S : Addr} {items : Array Value} {R : Result → Shared → Prop} (hh : A.handled = none) (hit : s.heap.IsRevIter it l ((items.size : Int) - 1)) (hl : s.heap.IsList l items) (hne : l ≠ it) (hn : items.size ≤ sizeLine)
    (hSi : S ≠ it) (hSl : S ≠ l) (hS : s.heap.get? S = some { cls := .type "list", data := .seq #[] })
    (hR : ∀ h' tk acc c', (∀ b o, b ≠ it → b ≠ S → s.heap.get? b = some o → h'.get? b = some o) → h'.get? S = some { cls := .type "list", dict := none, data := .seq acc c', slots := #[] } →
      ItemsOf (fun i v => items[items.size - 1 - i]? = some v) acc items.size → R (.ok (.ret .none)) { s with heap := h', toks := tk }) :
    wpAny (model prog w) A.in1 (Builtin.«list.__init__» ⟨[.ref S, .ref it], []⟩)
      (fun fin s' => match fin with | .done f => R (.ok f) s' | .again c' => c'.quiet = true ∧ codeAny (model prog w) A c' R s') (fun e s' => R (.error e) s') s := by
  show wpAny _ _ (do let old ← Builtin.List.listItems (.ref S); Builtin.List.listUpdate (.ref S) (fun _ => #[]); letGo old.toList.reverse; Builtin.List.listExtendWith (.ref S) (.ref it) .none) _ _ s
  refine wpAny_bind ?_
  unfold Builtin.List.listItems
  refine wpAny_bind (wpAny_seqItems hS rfl (wpAny_pure ?_))
  show wpAny _ _ (updateSeq S (fun _ => #[]) >>= fun _ => letGo (#[] : Array Value).toList.reverse >>= fun _ => Builtin.List.listExtendWith (.ref S) (.ref it) .none) _ _ s
  refine wpAny_bind (wpAny_updateSeq hS rfl ?_)
  have hS₂ := Heap.get?_update_self (Obj.mapSeq (fun _ => (#[] : Array Value))) hS rfl
  have oth : ∀ b o, b ≠ S → s.heap.get? b = some o → (s.heap.update S (Obj.mapSeq (fun _ => (#[] : Array Value)))).get? b = some o :=
    fun b o hb e => (Heap.get?_update_other _ _ (Ne.symm hb)).trans e
  refine wpAny_bind (wpAny_letGo ?_)
  obtain ⟨ol, hol, hcl, hdl⟩ := id hl
  refine extend_rev hh (hit.at fun o e => oth it o (Ne.symm hSi) e) ⟨ol, oth l _ (Ne.symm hSl) hol, hcl, hdl⟩ hne hn hSi hSl hS₂ fun h' tk acc' c' hk hS' hacc => ?_
  exact hR h' tk acc' c' (fun b o hb hb2 e => hk b o hb hb2 (oth b o hb2 e)) hS' hacc
theorem call_list_rev {it l : Addr} {items : Array Value} {Q : Value → Shared → Prop} (hh : A.handled = none) (hit : s.heap.IsRevIter it l ((items.size : Int) - 1)) (hl : s.heap.IsList l items) (hne : l ≠ it) (hn : items.size ≤ sizeLine)
    (hQ : ∀ h' tk acc' c', (∀ b o, b ≠ it → s.heap.get? b = some o → h'.get? b = some o) →
      h'.get? s.heap.objs.size = some { cls := .type "list", dict := none, data := .seq acc' c', slots := #[] } → ItemsOf (fun i v => items[items.size - 1 - i]? = some v) acc' items.size → Q (.ref s.heap.objs.size) { s with heap := h', toks := tk }) :
    wpAny (model prog w) A (call (.type "list") [.ref it]) Q E s := by
  refine callType_codes (Q₁ := fun obj s₁ => obj = .ref s.heap.objs.size ∧ s₁ = { s with heap := s.heap.push { cls := .type "list", data := .seq #[] } }) F.called_list (F.typeCall_list_1 _) F.entry_list_init
    (code_list_new _ ⟨rfl, rfl⟩) fun obj s₁ h₁ => ?_
  obtain ⟨rfl, rfl⟩ := h₁
  have hS : (s.heap.push { cls := .type "list", data := .seq #[] }).get? s.heap.objs.size = some { cls := .type "list", data := .seq #[] } := Heap.get?_push_size _ rfl
  obtain ⟨oi, hoi, _⟩ := id hit
  obtain ⟨ol, hol, _⟩ := id hl
  refine ⟨⟨_, hS, rfl⟩, F.args_list_init_2 _ _, list_init_rev (A := A.in1) hh (hit.at fun o e => Heap.get?_push_of_some _ e) (hl.push _) hne hn (Nat.ne_of_gt (Heap.lt_size hoi)) (Nat.ne_of_gt (Heap.lt_size hol)) hS fun h' tk acc' c' hk hS' hacc => ?_⟩
  exact ⟨rfl, hQ h' tk acc' c' (fun b o hb e => hk b o hb (Nat.ne_of_lt (Heap.lt_size e)) (Heap.get?_push_of_some _ e)) hS' hacc⟩
end
def gListRev : D → Store → Option (D × Store)
  | .ref l, S => (lstAt S l).map fun xs => (.ref S.length, S ++ [.lst xs.reverse])
  | _, _ => none
section
variable {X : Cx} {W : WX} {e : Expr} {f : EX} {p p2 pos pos2 : Pos}
theorem d_listRev (hc : X.calm = true) (hg : Gl X "list") (hm : X.mg "list" = none) (hg2 : Gl X "reversed") (hm2 : X.mg "reversed" = none) (he : PE X e (rdE (X.cq W) f))
    (hs : starEach [e] X.env = (false, eval e X.env) :: starEach [] X.env := by rfl)
    (hs2 : starEach [.Call (.Name "reversed" p2) [e] [] pos2] X.env = (false, eval (.Call (.Name "reversed" p2) [e] [] pos2) X.env) :: starEach [] X.env := by rfl) :
    PE X (.Call (.Name "list" p) [.Call (.Name "reversed" p2) [e] [] pos2] [] pos) (rdE (X.cq W) (e1 gListRev f)) := by
  refine ⟨fun pins s σ H Q I ⟨m, ρ, S, re, rs, h⟩ => ?_⟩
  refine Call_ (ld_blt I hg hm boot_list (PyProof.Rows.callWith_type1 (args_cons (Call_ (ld_blt I hg2 hm2 PyProof.Rows.boot_reversed (PyProof.Rows.callWith_type1 (args_cons (thn (he.run pins s σ H _ I ⟨m, ρ, S, re, rs, Post.bind h⟩) fun u s1 ⟨v, H1, I1, r1, q1⟩ => args_nil ?_) hs) hs rfl))) hs2) hs2 rfl))
  obtain ⟨m1, d, S1, e1, rs1, rd1, q⟩ := q1
  have q := VPost.of q
  cases rd1 with
  | @ref a l hla =>
    have q : VPost X.K m1 H1 Q ((lstAt S1 l).map fun xs => (.ref S1.length, S1 ++ [.lst xs.reverse])) := q
    cases el : lstAt S1 l with
    | none => rw [el] at q; exact q.elim
    | some xs =>
      rw [el] at q
      obtain ⟨vs, hq, rds⟩ := rs1.lst hla el
      obtain rfl : u = Value.ref a := r1
      obtain ⟨its, rv, p', hz⟩ := I1.list hq
      refine call_reversed_list p'.isList (args_nil ?_)
      have k0 : ∀ b o, s1.heap.get? b = some o → (s1.heap.push (revObj a ((its.toArray.size : Int) - 1))).get? b = some o := fun b o e => Heap.get?_push_of_some _ e
      have I2 : L2.Inv X pins σ H1 { s1 with heap := s1.heap.push (revObj a ((its.toArray.size : Int) - 1)) } := I1.kept (t' := s1.toks) k0
      obtain ⟨f0, f1, f2, f3, f4, f5⟩ := I1.fpOk (H' := H1) (b := s1.heap.objs.size) (Nat.le_refl _) (I1.hok.fresh (Nat.le_refl _))
      have hl := p'.isList
      obtain ⟨ol, hol, _⟩ := id hl
      have hne : a ≠ s1.heap.objs.size := Nat.ne_of_lt (Heap.lt_size hol)
      have hn : its.toArray.size ≤ sizeLine := by rw [List.size_toArray, ← rv.length]; exact hz
      have ksz : (s1.heap.push (revObj a ((its.toArray.size : Int) - 1))).objs.size = s1.heap.objs.size + 1 := Heap.size_push _ _
      refine call_list_rev (s := { s1 with heap := s1.heap.push (revObj a ((its.toArray.size : Int) - 1)) }) (I1.ok.hd hc) ⟨_, Heap.get?_push_size _ rfl, rfl, rfl⟩ (hl.push _) hne hn fun h' tk acc c' hk hS' hi => ?_
      have hfr : H1 (s1.heap.push (revObj a ((its.toArray.size : Int) - 1))).objs.size = none := I2.hok.fresh (Nat.le_refl _)
      refine ⟨.ref (s1.heap.push (revObj a ((its.toArray.size : Int) - 1))).objs.size, upd H1 _ (.lst vs.reverse), ?_, rfl, vp_lst rs1 hfr rds.reverse q⟩
      have I3 : L2.Inv X pins σ H1 { s1 with heap := h', toks := tk } := I2.turned (t' := tk) (fun b o hb e => hk b o hb e) f0 f1 f3 f4 f5
      obtain ⟨g0, g1, g2, g3, g4, g5⟩ := I2.fpOk (H' := H1) (b := (s1.heap.push (revObj a ((its.toArray.size : Int) - 1))).objs.size) (Nat.le_refl _) hfr
      have hS'' : h'.get? (s1.heap.push (revObj a ((its.toArray.size : Int) - 1))).objs.size = some { cls := .type "list", dict := none, data := .seq acc c', slots := #[] } := hS'
      generalize (s1.heap.push (revObj a ((its.toArray.size : Int) - 1))).objs.size = p0 at *
      refine L2.Inv.step (s := { s1 with heap := h', toks := tk }) (g' := s1.gens) (t' := tk) (d' := s1.drawn) (h' := h') (ch := [p0]) I3 (fun b hb => ?_) (fun b o _ _ _ q _ => q) (fun b o _ _ _ q _ => ⟨o.slots, q⟩) (fun b o hb q n => ?_) (fun b o _ q => ⟨o, q⟩) (fun b ws q => by rw [upd_ne (ne_of_none q hfr)]; exact q)
        (fun b o u q => by rw [upd_ne (ne_of_none q hfr)]; exact q) (fun b ps q => ⟨#[], by rw [upd_ne (ne_of_none q hfr), q]; simp⟩) (fun m hm => hm) (fun b u q => ?_) I1.bare
      · have e : b = p0 := by simpa using hb
        subst e
        exact ⟨g3, g1, g4, g5⟩
      · rw [upd_ne (fun z => hb (by simp [z]))]
        exact n
      · by_cases hb : b = p0
        · subst hb
          rw [upd_same] at q
          cases q
          refine ⟨by rw [List.length_reverse]; exact hz, acc.toList, c', RT.vals_rev rv hi, ?_⟩
          rw [Array.toArray_toList]
          exact hS''
        · rw [upd_ne hb] at q
          exact (I3.hok b u q).stay (fun c v _ r => r) (fun c r => by rw [upd_ne (ne_of_none r hfr)]; exact r) fun c ws r => by rw [upd_ne (ne_of_none r hfr)]; exact r
  | _ => exact q.elim
end
end Dl

set_option Elab.async false
set_option linter.all false
set_option maxRecDepth 100000
namespace Dl
open PySem PySem.Spec PyProof.Rows L2
/-! ## a walk over whatever stands there: a list, a tuple, a text -/
def iA (f : EX) : IX := fun ρ S => (f ρ S).bind fun d S1 => match d with
  | .ref l => match lstAt S1 l with
    | some xs => .ok (xs, [(l, xs)]) S1
    | none => .no
  | .tup xs => .ok (xs, []) S1
  | .str x => .ok (x.cps.toList.map fun c => .str ⟨#[c]⟩, []) S1
  | _ => .no
section
variable {X : Cx} {W : WX} {tg e : Expr} {f : EX}
theorem w_any (he : PE X e (rdE (X.cq W) f)) : PI X tg e (rdI (X.cq W) (iA f)) := by
  refine ⟨fun pins s σ H R' I ⟨m, ρ, S, re, rs, q⟩ => thn (he.run pins s σ H _ I ⟨m, ρ, S, re, rs, src_bind q⟩) fun v s1 ⟨x, H1, I1, r1, m1, d, S1, e1, rs1, rd, q1⟩ => ?_⟩
  cases rd with
  | @ref a l hl =>
    simp only at q1
    cases el : lstAt S1 l with
    | none => rw [el] at q1; exact q1.elim
    | some xs =>
      rw [el] at q1
      obtain ⟨vs, hq, r⟩ := rs1.lst hl el
      cases r1
      obtain ⟨its, rv, p, hz⟩ := I1.list hq
      refine wpAny_pyIter_list p.isList ?_
      refine ⟨s1.heap.objs.size, [s1.heap.objs.size], _, _, H1, rfl, I1.kept (t' := s1.toks) fun b o e => Heap.get?_push_of_some _ e, turn_list a _, ⟨_, Heap.get?_push_size _ rfl, rfl, rfl⟩, fun b hb => ?_, q1 _ _ m1 .refl rs1 (it_list hl)⟩
      have e : b = s1.heap.objs.size := by simpa using hb
      subst e
      exact I1.fpOk (Nat.le_refl _) (I1.hok.fresh (Nat.le_refl _))
  | @tup a vs ds ht r =>
    cases r1
    obtain ⟨its, rv, p, hz⟩ := I1.tuple ht.sq
    refine wpAny_pyIter_tuple (show s1.heap.IsTuple a its.toArray from p) ?_
    refine ⟨s1.heap.objs.size, [s1.heap.objs.size], _, _, H1, rfl, I1.kept (t' := s1.toks) fun b o e => Heap.get?_push_of_some _ e, turn_tuple a _, ⟨_, Heap.get?_push_size _ rfl, rfl, rfl⟩, fun b hb => ?_, q1 _ _ m1 .refl rs1 (it_tup ht r)⟩
    have e : b = s1.heap.objs.size := by simpa using hb
    subst e
    exact I1.fpOk (Nat.le_refl _) (I1.hok.fresh (Nat.le_refl _))
  | @str x h =>
    obtain ⟨t, rfl⟩ := r1
    have q : (fun J H' => R' J H') (Its x) H1 := q1 _ _ m1 .refl rs1 it_str
    cases ha : x.cps.all (· < 128)
    · exact wpAny_pyIter_wide ha (pi_one (tk := s1.toks) I1 _ (turn_str _ x t "str_iterator" (.inr rfl)) ⟨_, Heap.get?_push_size _ rfl, rfl, rfl⟩ q)
    · exact wpAny_pyIter_ascii ha (pi_one (tk := s1.toks) I1 _ (turn_str _ x t "str_ascii_iterator" (.inl rfl)) ⟨_, Heap.get?_push_size _ rfl, rfl, rfl⟩ q)
  | _ => exact q1.elim
end
theorem r65 {k : Nat} {A : Around} (r : Room k A) : A.units + 65 < cLine := by have := r.un; omega
end Dl

set_option Elab.async false
set_option linter.all false
set_option maxRecDepth 100000
namespace Dl
open PySem L2
/-! ## the mirror, evaluated from the outside in -/
def kE (ρ : Env) : R D → Out
  | .ok _ S => .nx ρ S
  | .ex x S => .ex x ρ S
  | .no => .no
def kR (ρ : Env) : R D → Out
  | .ok d S => .rt d S
  | .ex x S => .ex x ρ S
  | .no => .no
def kIf (g h : SX) (ρ : Env) : R Bool → Out
  | .ok b S => if b then g ρ S else h ρ S
  | .ex x S => .ex x ρ S
  | .no => .no
def kN (j : Nat) (ρ : Env) : R D → Out
  | .ok d S => .nx (ρ.set j (some d)) S
  | .ex x S => .ex x ρ S
  | .no => .no
def kA (tg : D → SX) (ρ : Env) : R D → Out
  | .ok d S => tgO (tg d ρ S)
  | .ex x S => .ex x ρ S
  | .no => .no
def kIx3 (ρ : Env) : Option Store → Out
  | some S => .nx ρ S
  | none => .no
def kIx2 (o d : D) (ρ : Env) : R D → Out
  | .ok i S => kIx3 ρ (gSet o i d S)
  | .ex x S => .ex x ρ S
  | .no => .no
def kIx1 (f : EX) (d : D) (ρ : Env) : R D → Out
  | .ok o S => kIx2 o d ρ (f ρ S)
  | .ex x S => .ex x ρ S
  | .no => .no
def kE1 (g : D → Store → Option (D × Store)) : R D → R D
  | .ok x S => toR (g x S)
  | .ex x S => .ex x S
  | .no => .no
def kE2 (g : D → D → Store → Option (D × Store)) (x : D) : R D → R D
  | .ok y S => toR (g x y S)
  | .ex x S => .ex x S
  | .no => .no
def kE21 (g : D → D → Store → Option (D × Store)) (fb : EX) (ρ : Env) : R D → R D
  | .ok x S => kE2 g x (fb ρ S)
  | .ex x S => .ex x S
  | .no => .no
def kB (g : List D → Store → Option (D × Store)) : R (List D) → R D
  | .ok xs S => toR (g xs S)
  | .ex x S => .ex x S
  | .no => .no
def kF (F : List D → M D) : R (List D) → R D
  | .ok xs S => F xs S
  | .ex x S => .ex x S
  | .no => .no
def kC (x : D) : R (List D) → R (List D)
  | .ok xs S => .ok (x :: xs) S
  | .ex x S => .ex x S
  | .no => .no
def kC1 (fr : AX) (ρ : Env) : R D → R (List D)
  | .ok x S => kC x (fr ρ S)
  | .ex x S => .ex x S
  | .no => .no
def kM (g : D → List D → Store → Option (D × Store)) (x : D) : R (List D) → R D
  | .ok xs S => toR (g x xs S)
  | .ex x S => .ex x S
  | .no => .no
def kM2 (g : D → List D → Store → Option (D × Store)) (fx : AX) (ρ : Env) (x : D) (S : Store) (T : Ty) : Option Ty → R D
  | some T' => if T' = T then kM g x (fx ρ S) else .no
  | none => .no
def kM1 (g : D → List D → Store → Option (D × Store)) (fx : AX) (ρ : Env) (T : Ty) : R D → R D
  | .ok x S => kM2 g fx ρ x S T (tyD S x)
  | .ex x S => .ex x S
  | .no => .no
def kS3 (x : D) (l : Option Int) : R (Option Int) → R D
  | .ok h S => toR (gSl x l h S)
  | .ex x S => .ex x S
  | .no => .no
def kS2 (x : D) (hi : Env → Store → R (Option Int)) (ρ : Env) : R (Option Int) → R D
  | .ok l S => kS3 x l (hi ρ S)
  | .ex x S => .ex x S
  | .no => .no
def kS1 (lo hi : Env → Store → R (Option Int)) (ρ : Env) : R D → R D
  | .ok x S => kS2 x hi ρ (lo ρ S)
  | .ex x S => .ex x S
  | .no => .no
def kO : R D → R (Option Int)
  | .ok d S => match d with
    | .int i => .ok (some i) S
    | _ => .no
  | .ex x S => .ex x S
  | .no => .no
def kV : R D → R Bool
  | .ok d S => toT S (truD S d)
  | .ex x S => .ex x S
  | .no => .no
def kT : R D → R Bool
  | .ok d S => match d with
    | .bl b => .ok b S
    | _ => .no
  | .ex x S => .ex x S
  | .no => .no
def kAn (u : TX) (ρ : Env) : R Bool → R Bool
  | .ok b S => if b then u ρ S else .ok false S
  | .ex x S => .ex x S
  | .no => .no
def kOr (u : TX) (ρ : Env) : R Bool → R Bool
  | .ok b S => if b then .ok true S else u ρ S
  | .ex x S => .ex x S
  | .no => .no
def kNo : R Bool → R Bool
  | .ok b S => .ok (!b) S
  | .ex x S => .ex x S
  | .no => .no
def kIfE (fa fb : EX) (ρ : Env) : R Bool → R D
  | .ok b S => if b then fa ρ S else fb ρ S
  | .ex x S => .ex x S
  | .no => .no
def kVa2 (fb : EX) (d : D) (ρ : Env) : R Bool → R D
  | .ok b S => if b then fb ρ S else .ok d S
  | .ex x S => .ex x S
  | .no => .no
def kVa (fb : EX) (ρ : Env) : R D → R D
  | .ok d S => kVa2 fb d ρ (toT S (truD S d))
  | .ex x S => .ex x S
  | .no => .no
def kVo2 (fb : EX) (d : D) (ρ : Env) : R Bool → R D
  | .ok b S => if b then .ok d S else fb ρ S
  | .ex x S => .ex x S
  | .no => .no
def kVo (fb : EX) (ρ : Env) : R D → R D
  | .ok d S => kVo2 fb d ρ (toT S (truD S d))
  | .ex x S => .ex x S
  | .no => .no
def kVn2 : R Bool → R D
  | .ok b S => .ok (.bl (!b)) S
  | .ex x S => .ex x S
  | .no => .no
def kVn : R D → R D
  | .ok d S => kVn2 (toT S (truD S d))
  | .ex x S => .ex x S
  | .no => .no
def kH3 (g' : D → D → Store → Option (D × Store)) (y : D) : R D → R D
  | .ok w S => toR (g' y w S)
  | .ex x S => .ex x S
  | .no => .no
def kH2 (g' : D → D → Store → Option (D × Store)) (fc : EX) (y : D) (ρ : Env) : R D → R D
  | .ok z S => match z with
    | .bl b => if b then kH3 g' y (fc ρ S) else .ok (.bl false) S
    | _ => .no
  | .ex x S => .ex x S
  | .no => .no
def kH1 (g g' : D → D → Store → Option (D × Store)) (fc : EX) (x : D) (ρ : Env) : R D → R D
  | .ok y S => kH2 g' fc y ρ (toR (g x y S))
  | .ex x S => .ex x S
  | .no => .no
def kH (g g' : D → D → Store → Option (D × Store)) (fb fc : EX) (ρ : Env) : R D → R D
  | .ok x S => kH1 g g' fc x ρ (fb ρ S)
  | .ex x S => .ex x S
  | .no => .no
theorem seq_nx {h : SX} {ρ : Env} {S : Store} : (Out.nx ρ S).seq h = h ρ S := rfl
theorem seq_rt {h : SX} {d : D} {S : Store} : (Out.rt d S).seq h = .rt d S := rfl
theorem seq_bk {h : SX} {ρ : Env} {S : Store} : (Out.bk ρ S).seq h = .bk ρ S := rfl
theorem seq_ct {h : SX} {ρ : Env} {S : Store} : (Out.ct ρ S).seq h = .ct ρ S := rfl
theorem seq_ex {h : SX} {x : Exn} {ρ : Env} {S : Store} : (Out.ex x ρ S).seq h = .ex x ρ S := rfl
section
variable {ρ : Env} {S : Store} {g h : SX} {f fa fb fc fo : EX} {t u : TX} {fx fr : AX} {i j : Nat} {d x y : D} {tg : D → SX}
theorem sQ_ : sQ g h ρ S = (g ρ S).seq h := rfl
theorem sP_ : sP ρ S = .nx ρ S := rfl
theorem sE_ : sE f ρ S = kE ρ (f ρ S) := by show (f ρ S).out ρ _ = _; cases f ρ S <;> rfl
theorem sR_ : sR f ρ S = kR ρ (f ρ S) := by show (f ρ S).out ρ _ = _; cases f ρ S <;> rfl
theorem sIf_ : sIf t g h ρ S = kIf g h ρ (t ρ S) := by show (t ρ S).out ρ _ = _; cases t ρ S <;> rfl
theorem sN_ : sN j f ρ S = kN j ρ (f ρ S) := by show (f ρ S).out ρ _ = _; cases f ρ S <;> rfl
theorem sA_ : sA f tg ρ S = kA tg ρ (f ρ S) := by show (f ρ S).out ρ _ = _; cases f ρ S <;> rfl
theorem tgO_nx : tgO (.nx ρ S) = .nx ρ S := rfl
theorem nm_ : nm i d ρ S = .nx (ρ.set i (some d)) S := rfl
theorem tgIx_ : tgIx fo f d ρ S = kIx1 f d ρ (fo ρ S) := by
  show (fo ρ S).out ρ _ = _
  cases fo ρ S with
  | ok o S1 =>
    show (f ρ S1).out ρ _ = kIx2 o d ρ (f ρ S1)
    cases f ρ S1 with
    | ok i S2 =>
      show (match gSet o i d S2 with | some S3 => Out.nx ρ S3 | none => .no) = kIx3 ρ (gSet o i d S2)
      cases gSet o i d S2 <;> rfl
    | _ => rfl
  | _ => rfl
theorem eC_ : eC d ρ S = .ok d S := rfl
theorem eV0 {r : Env} : eV 0 (some d :: r) S = .ok d S := rfl
theorem eV1 {a : Option D} {r : Env} {n : Nat} : eV (n + 1) (a :: r) S = eV n r S := rfl
theorem e1_ {g : D → Store → Option (D × Store)} : e1 g fa ρ S = kE1 g (fa ρ S) := by show (fa ρ S).bind _ = _; cases fa ρ S <;> rfl
theorem e2_ {g : D → D → Store → Option (D × Store)} : e2 g fa fb ρ S = kE21 g fb ρ (fa ρ S) := by
  show (fa ρ S).bind _ = _
  cases fa ρ S with
  | ok x S1 =>
    show (fb ρ S1).bind _ = kE2 g x (fb ρ S1)
    cases fb ρ S1 <;> rfl
  | _ => rfl
theorem eB_ {g : List D → Store → Option (D × Store)} : eB g fx ρ S = kB g (fx ρ S) := by show (fx ρ S).bind _ = _; cases fx ρ S <;> rfl
theorem eF_ {F : List D → M D} : eF F fx ρ S = kF F (fx ρ S) := by show (fx ρ S).bind _ = _; cases fx ρ S <;> rfl
theorem aN_ : aN ρ S = .ok [] S := rfl
theorem aC_ : aC fa fr ρ S = kC1 fr ρ (fa ρ S) := by
  show (fa ρ S).bind _ = _
  cases fa ρ S with
  | ok x S1 =>
    show (fr ρ S1).bind _ = kC x (fr ρ S1)
    cases fr ρ S1 <;> rfl
  | _ => rfl
theorem eMt_ {T : Ty} {g : D → List D → Store → Option (D × Store)} : eMt T g fo fx ρ S = kM1 g fx ρ T (fo ρ S) := by
  show (fo ρ S).bind _ = _
  cases fo ρ S with
  | ok x S1 =>
    show (if tyD S1 x = some T then (fx ρ S1).bind fun xs S2 => toR (g x xs S2) else .no) = kM2 g fx ρ x S1 T (tyD S1 x)
    have q : (fx ρ S1).bind (fun xs S2 => toR (g x xs S2)) = kM g x (fx ρ S1) := by cases fx ρ S1 <;> rfl
    cases tyD S1 x with
    | none => rw [if_neg (fun z => nomatch z)]; rfl
    | some T' =>
      show _ = if T' = T then _ else _
      by_cases e : T' = T
      · rw [if_pos (by rw [e]), if_pos e, q]
      · rw [if_neg (fun z => e (Option.some.inj z)), if_neg e]
  | _ => rfl
theorem eSl_ {lo hi : Env → Store → R (Option Int)} : eSl fa lo hi ρ S = kS1 lo hi ρ (fa ρ S) := by
  show (fa ρ S).bind _ = _
  cases fa ρ S with
  | ok x S1 =>
    show (lo ρ S1).bind _ = kS2 x hi ρ (lo ρ S1)
    cases lo ρ S1 with
    | ok l S2 =>
      show (hi ρ S2).bind _ = kS3 x l (hi ρ S2)
      cases hi ρ S2 <;> rfl
    | _ => rfl
  | _ => rfl
theorem oN_ : oN ρ S = .ok none S := rfl
theorem oI_ : oI fa ρ S = kO (fa ρ S) := by show (fa ρ S).bind _ = _; cases fa ρ S <;> rfl
theorem tV_ : tV f ρ S = kV (f ρ S) := by show (f ρ S).bind _ = _; cases f ρ S <;> rfl
theorem tE_ : tE f ρ S = kT (f ρ S) := by show (f ρ S).bind _ = _; cases f ρ S <;> rfl
theorem tA_ : tA t u ρ S = kAn u ρ (t ρ S) := by show (t ρ S).bind _ = _; cases t ρ S <;> rfl
theorem tO_ : tO t u ρ S = kOr u ρ (t ρ S) := by show (t ρ S).bind _ = _; cases t ρ S <;> rfl
theorem tN_ : tN t ρ S = kNo (t ρ S) := by show (t ρ S).bind _ = _; cases t ρ S <;> rfl
theorem eIf_ : eIf t fa fb ρ S = kIfE fa fb ρ (t ρ S) := by show (t ρ S).bind _ = _; cases t ρ S <;> rfl
theorem eAnd_ : eAnd fa fb ρ S = kVa fb ρ (fa ρ S) := by
  show (fa ρ S).bind _ = _
  cases fa ρ S with
  | ok d S1 =>
    show (toT S1 (truD S1 d)).bind _ = kVa2 fb d ρ (toT S1 (truD S1 d))
    cases toT S1 (truD S1 d) <;> rfl
  | _ => rfl
theorem eOr_ : eOr fa fb ρ S = kVo fb ρ (fa ρ S) := by
  show (fa ρ S).bind _ = _
  cases fa ρ S with
  | ok d S1 =>
    show (toT S1 (truD S1 d)).bind _ = kVo2 fb d ρ (toT S1 (truD S1 d))
    cases toT S1 (truD S1 d) <;> rfl
  | _ => rfl
theorem eNot_ : eNot fa ρ S = kVn (fa ρ S) := by
  show (fa ρ S).bind _ = _
  cases fa ρ S with
  | ok d S1 =>
    show (toT S1 (truD S1 d)).bind _ = kVn2 (toT S1 (truD S1 d))
    cases toT S1 (truD S1 d) <;> rfl
  | _ => rfl
theorem eCh_ {g g' : D → D → Store → Option (D × Store)} : eCh g g' fa fb fc ρ S = kH g g' fb fc ρ (fa ρ S) := by
  show (fa ρ S).bind _ = _
  cases fa ρ S with
  | ok x S1 =>
    show (fb ρ S1).bind _ = kH1 g g' fc x ρ (fb ρ S1)
    cases fb ρ S1 with
    | ok y S2 =>
      show (toR (g x y S2)).bind _ = kH2 g' fc y ρ (toR (g x y S2))
      cases toR (g x y S2) with
      | ok z S3 =>
        cases z with
        | bl b =>
          cases b with
          | true =>
            show (fc ρ S3).bind _ = kH3 g' y (fc ρ S3)
            cases fc ρ S3 <;> rfl
          | false => rfl
        | _ => rfl
      | _ => rfl
    | _ => rfl
  | _ => rfl
/-! ### what goes on with an outcome -/
theorem kE_ : kE ρ (.ok d S) = .nx ρ S := rfl
theorem kR_ : kR ρ (.ok d S) = .rt d S := rfl
theorem kIf_t : kIf g h ρ (.ok true S) = g ρ S := rfl
theorem kIf_f : kIf g h ρ (.ok false S) = h ρ S := rfl
theorem kN_ : kN j ρ (.ok d S) = .nx (ρ.set j (some d)) S := rfl
theorem kA_ : kA tg ρ (.ok d S) = tgO (tg d ρ S) := rfl
theorem kIx1_ : kIx1 f d ρ (.ok x S) = kIx2 x d ρ (f ρ S) := rfl
theorem kIx2_ : kIx2 x d ρ (.ok y S) = kIx3 ρ (gSet x y d S) := rfl
theorem kIx3_ : kIx3 ρ (some S) = .nx ρ S := rfl
theorem kE1_ {g : D → Store → Option (D × Store)} : kE1 g (.ok x S) = toR (g x S) := rfl
theorem kE21_ {g : D → D → Store → Option (D × Store)} : kE21 g fb ρ (.ok x S) = kE2 g x (fb ρ S) := rfl
theorem kE2_ {g : D → D → Store → Option (D × Store)} : kE2 g x (.ok y S) = toR (g x y S) := rfl
theorem kB_ {g : List D → Store → Option (D × Store)} {xs : List D} : kB g (.ok xs S) = toR (g xs S) := rfl
theorem kF_ {F : List D → M D} {xs : List D} : kF F (.ok xs S) = F xs S := rfl
theorem kC1_ : kC1 fr ρ (.ok x S) = kC x (fr ρ S) := rfl
theorem kC_ {xs : List D} : kC x (.ok xs S) = .ok (x :: xs) S := rfl
theorem kM1_ {T : Ty} {g : D → List D → Store → Option (D × Store)} : kM1 g fx ρ T (.ok x S) = kM2 g fx ρ x S T (tyD S x) := rfl
theorem kM2_ {T : Ty} {g : D → List D → Store → Option (D × Store)} : kM2 g fx ρ x S T (some T) = kM g x (fx ρ S) := if_pos rfl
theorem kM_ {g : D → List D → Store → Option (D × Store)} {xs : List D} : kM g x (.ok xs S) = toR (g x xs S) := rfl
theorem kS1_ {lo hi : Env → Store → R (Option Int)} : kS1 lo hi ρ (.ok x S) = kS2 x hi ρ (lo ρ S) := rfl
theorem kS2_ {hi : Env → Store → R (Option Int)} {l : Option Int} : kS2 x hi ρ (.ok l S) = kS3 x l (hi ρ S) := rfl
theorem kS3_ {l h : Option Int} : kS3 x l (.ok h S) = toR (gSl x l h S) := rfl
theorem kO_ {i : Int} : kO (.ok (.int i) S) = .ok (some i) S := rfl
theorem kV_ : kV (.ok d S) = toT S (truD S d) := rfl
theorem kT_ {b : Bool} : kT (.ok (.bl b) S) = .ok b S := rfl
theorem kAn_t : kAn u ρ (.ok true S) = u ρ S := rfl
theorem kAn_f : kAn u ρ (.ok false S) = .ok false S := rfl
theorem kOr_t : kOr u ρ (.ok true S) = .ok true S := rfl
theorem kOr_f : kOr u ρ (.ok false S) = u ρ S := rfl
theorem kNo_ {b : Bool} : kNo (.ok b S) = .ok (!b) S := rfl
theorem kIfE_t : kIfE fa fb ρ (.ok true S) = fa ρ S := rfl
theorem kIfE_f : kIfE fa fb ρ (.ok false S) = fb ρ S := rfl
theorem kVa_ : kVa fb ρ (.ok d S) = kVa2 fb d ρ (toT S (truD S d)) := rfl
theorem kVa2_t : kVa2 fb d ρ (.ok true S) = fb ρ S := rfl
theorem kVa2_f : kVa2 fb d ρ (.ok false S) = .ok d S := rfl
theorem kVo_ : kVo fb ρ (.ok d S) = kVo2 fb d ρ (toT S (truD S d)) := rfl
theorem kVo2_t : kVo2 fb d ρ (.ok true S) = .ok d S := rfl
theorem kVo2_f : kVo2 fb d ρ (.ok false S) = fb ρ S := rfl
theorem kVn_ : kVn (.ok d S) = kVn2 (toT S (truD S d)) := rfl
theorem kVn2_ {b : Bool} : kVn2 (.ok b S) = .ok (.bl (!b)) S := rfl
theorem kH_ {g g' : D → D → Store → Option (D × Store)} : kH g g' fb fc ρ (.ok x S) = kH1 g g' fc x ρ (fb ρ S) := rfl
theorem kH1_ {g g' : D → D → Store → Option (D × Store)} : kH1 g g' fc x ρ (.ok y S) = kH2 g' fc y ρ (toR (g x y S)) := rfl
theorem kH2_t {g' : D → D → Store → Option (D × Store)} : kH2 g' fc y ρ (.ok (.bl true) S) = kH3 g' y (fc ρ S) := rfl
theorem kH2_f {g' : D → D → Store → Option (D × Store)} : kH2 g' fc y ρ (.ok (.bl false) S) = .ok (.bl false) S := rfl
theorem kH3_ {g' : D → D → Store → Option (D × Store)} : kH3 g' y (.ok x S) = toR (g' y x S) := rfl
theorem toT_some {b : Bool} : toT S (some b) = .ok b S := rfl
theorem truD_bl {b : Bool} : truD S (.bl b) = some b := rfl
theorem truD_int {b : Int} : truD S (.int b) = some (b != 0) := rfl
theorem truD_tup {xs : List D} : truD S (.tup xs) = some (!xs.isEmpty) := rfl
theorem tyD_str {a : Str} : tyD S (.str a) = some .str := rfl
theorem tyD_tup {a : List D} : tyD S (.tup a) = some .tup := rfl
theorem tyD_int {a : Int} : tyD S (.int a) = some .int := rfl
theorem tyD_bl {a : Bool} : tyD S (.bl a) = some .bl := rfl
theorem tyD_non : tyD S .non = some .non := rfl
theorem tyD_lst {l : Nat} {xs : List D} (h : S[l]? = some (.lst xs)) : tyD S (.ref l) = some .lst := by unfold tyD; simp only [h]
theorem lstAt_lst {l : Nat} {xs : List D} (h : S[l]? = some (.lst xs)) : lstAt S l = some xs := by unfold lstAt; rw [h]
theorem gAdd_int {a b : Int} : gAdd (.int a) (.int b) S = some (.int (a + b), S) := rfl
theorem gAdd_str {a b : Str} (h : a.length + b.length ≤ 16777216) : gAdd (.str a) (.str b) S = some (.str (a ++ b), S) := if_pos h
theorem gAdd_tup {xs ys : List D} (h0 : 0 < xs.length) (h : xs.length + ys.length ≤ 16777216) : gAdd (.tup xs) (.tup ys) S = some (.tup (xs ++ ys), S) := by
  cases xs with
  | nil => exact absurd h0 (Nat.lt_irrefl _)
  | cons x xs => exact if_pos h
theorem gAdd_lst {l k : Nat} {xs ys : List D} (h1 : S[l]? = some (.lst xs)) (h2 : S[k]? = some (.lst ys)) (h : xs.length + ys.length ≤ 16777216) : gAdd (.ref l) (.ref k) S = some (.ref S.length, S ++ [.lst (xs ++ ys)]) := by
  show catL S l k = _
  unfold catL
  rw [h1, h2]
  exact if_pos h
theorem gSub_int {a b : Int} : Dl.gSub (.int a) (.int b) S = some (.int (a - b), S) := rfl
theorem gMul_l {a b : Int} (h0 : 0 ≤ a) (h1 : a < 18446744073709551616) : gMul (.int a) (.int b) S = some (.int (a * b), S) := if_pos (.inl ⟨by omega, by omega⟩)
theorem gMul_r {a b : Int} (h0 : 0 ≤ b) (h1 : b < 18446744073709551616) : gMul (.int a) (.int b) S = some (.int (a * b), S) := if_pos (.inr ⟨by omega, by omega⟩)
theorem gFdiv_int {a b : Int} (h0 : 0 < b) (h1 : b < 1073741824) : gFdiv (.int a) (.int b) S = some (.int (a / b), S) := if_pos ⟨h0, h1⟩
theorem gMod_int {a b : Int} (h0 : 0 < b) : gMod (.int a) (.int b) S = some (.int (a % b), S) := if_pos h0
theorem gLt_int {a b : Int} : gLt (.int a) (.int b) S = some (.bl (decide (a < b)), S) := rfl
theorem gLe_int {a b : Int} : gLe (.int a) (.int b) S = some (.bl (decide (a ≤ b)), S) := rfl
theorem gGt_int {a b : Int} : gGt (.int a) (.int b) S = some (.bl (decide (b < a)), S) := rfl
theorem gGe_int {a b : Int} : gGe (.int a) (.int b) S = some (.bl (decide (b ≤ a)), S) := rfl
theorem gInt_int {a : Int} : gInt [.int a] S = some (.int a, S) := rfl
theorem gAbs_int {a : Int} : gAbs [.int a] S = some (.int (if a < 0 then -a else a), S) := rfl
theorem gLen_tup {xs : List D} : gLen [.tup xs] S = some (.int xs.length, S) := rfl
theorem gLen_str {x : Str} : gLen [.str x] S = some (.int x.length, S) := rfl
theorem gLen_lst {l : Nat} {xs : List D} (h : lstAt S l = some xs) : gLen [.ref l] S = some (.int xs.length, S) := by show Option.map _ (lstAt S l) = _; rw [h]; rfl
theorem gTpl_ {xs : List D} (h : xs.length ≤ 16777216) : gTpl xs S = some (.tup xs, S) := if_pos h
theorem gLsd_ {xs : List D} (h : xs.length ≤ 16777216) : gLsd xs S = some (.ref S.length, S ++ [.lst xs]) := if_pos h
theorem gIx_tup {xs : List D} {k : Int} (h : atI xs k = some d) : gIx (.tup xs) (.int k) S = some (d, S) := by show Option.map _ (atI xs k) = _; rw [h]; rfl
theorem gIx_lst {l : Nat} {xs : List D} {k : Int} (h : lstAt S l = some xs) (h2 : atI xs k = some d) : gIx (.ref l) (.int k) S = some (d, S) := by
  show (lstAt S l).bind (fun xs => (atI xs k).map fun d => (d, S)) = _
  rw [h]
  show Option.map _ (atI xs k) = _
  rw [h2]
  rfl
theorem gIx_str {x : Str} {k : Int} {c : Nat} (h : atI x.cps.toList k = some c) : gIx (.str x) (.int k) S = some (.str ⟨#[c]⟩, S) := by show Option.map _ (atI x.cps.toList k) = _; rw [h]; rfl
theorem gSet_lst {l : Nat} {xs : List D} {k : Int} {m : Nat} (h : S[l]? = some (.lst xs)) (h2 : ixN xs.length k = some m) : gSet (.ref l) (.int k) d S = some (S.set l (.lst (xs.set m d))) := by
  show (match S[l]? with | some (.lst xs) => (ixN xs.length k).map fun j => S.set l (.lst (xs.set j d)) | _ => none) = _
  rw [h]
  show Option.map _ (ixN xs.length k) = _
  rw [h2]
  rfl
theorem gAppend_ {l : Nat} {xs : List D} (h : S[l]? = some (.lst xs)) (hz : xs.length < 16777216) : gAppend (.ref l) [d] S = some (.non, S.set l (.lst (xs ++ [d]))) := by
  show (match S[l]? with | some (.lst xs) => if xs.length < LIM then some (D.non, S.set l (.lst (xs ++ [d]))) else none | _ => none) = _
  rw [h]
  exact if_pos hz
theorem tgT_ {ts : List (D → SX)} {ds : List D} (h : ds.length = ts.length) : tgT ts (.tup ds) ρ S = tgL ts ds ρ S := by
  show (if ds.length = ts.length then tgL ts ds else sNo) ρ S = _
  rw [if_pos h]
theorem tgL0 : tgL [] [] ρ S = .nx ρ S := rfl
theorem tgL1 {ts : List (D → SX)} {ds : List D} {j : Nat} : tgL (nm j :: ts) (d :: ds) ρ S = tgL ts ds (ρ.set j (some d)) S := rfl
/-! ### what a def leaves -/
theorem runB_rt {np ns : Nat} {ds : List D} {S' : Store} (h : ds.length = np) (hg : g (ds.map some ++ List.replicate (ns - np) none) S = .rt d S') : runB np ns g ds S = cmp S.length d S' := by
  unfold runB
  rw [if_pos h, hg]
theorem runB_nx {np ns : Nat} {ds : List D} {ρ' : Env} {S' : Store} (h : ds.length = np) (hg : g (ds.map some ++ List.replicate (ns - np) none) S = .nx ρ' S') : runB np ns g ds S = cmp S.length D.non S' := by
  unfold runB
  rw [if_pos h, hg]
theorem cmp_same {n : Nat} (h : S.length = n) (w : d.wf n = true) : cmp n d S = .ok d S := by
  unfold cmp
  rw [← h, List.take_length]
  split
  · rw [if_pos (by rw [h]; exact w)]
  · rfl
theorem cmp_more {n : Nat} {T : Store} (h : S.length = n) (wS : SWf n S = true) (w : d.wf n = true) : cmp n d (S ++ T) = .ok d S := by
  unfold cmp
  rw [← h, List.take_left' rfl]
  rw [if_pos (by rw [h]; exact wS), if_pos (by rw [h]; exact w)]
theorem cmp_new {n l : Nat} {T : Store} {xs : List D} (h : S.length = n) (wS : SWf n S = true) (hl : n ≤ l) (hx : (S ++ T)[l]? = some (.lst xs)) (w : wfs n xs = true) : cmp n (.ref l) (S ++ T) = .ok (.ref n) (S ++ [.lst xs]) := by
  unfold cmp
  have e : (S ++ T).take n = S := by rw [← h]; exact List.take_left' rfl
  rw [e, if_pos wS, if_neg (show ¬ (D.ref l).wf n = true from fun z => by
    have z' : l < n := of_decide_eq_true z
    omega)]
  simp only [hx, newCell, w, if_true]
mutual
theorem wf_flat {n : Nat} : ∀ {d : D}, d.flat = true → d.wf n = true
  | .non, _ => rfl
  | .bl _, _ => rfl
  | .int _, _ => rfl
  | .str _, _ => rfl
  | .tup xs, h => wfs_flat (show flats xs = true from h)
  | .ref _, h => nomatch h
  | .raw _, _ => rfl
theorem wfs_flat {n : Nat} : ∀ {ds : List D}, flats ds = true → wfs n ds = true
  | [], _ => rfl
  | d :: ds, h => by
    have h' : (d.flat && flats ds) = true := h
    rw [Bool.and_eq_true] at h'
    show (d.wf n && wfs n ds) = true
    rw [wf_flat h'.1, wfs_flat h'.2]
    rfl
end
/-- all cells hold flat data -/
def Cell.flat : Cell → Bool
  | .lst xs => flats xs
  | .rol xs => flats xs
  | .dic kvs => flats (kvs.map (·.2))
  | .gone => true
def SFlat (S : Store) : Prop := ∀ c ∈ S, Cell.flat c = true
theorem SFlat.wf {n : Nat} (h : SFlat S) : SWf n S = true := by
  refine List.all_eq_true.mpr fun c hc => ?_
  have q := h c hc
  cases c with
  | lst xs => exact wfs_flat q
  | rol xs => exact wfs_flat q
  | dic kvs => exact wfs_flat q
  | gone => rfl
theorem SFlat.set {c : Cell} (h : SFlat S) (hc : c.flat = true) : SFlat (S.set i c) := fun x hx => by
  rcases List.mem_or_eq_of_mem_set hx with q | q
  · exact h x q
  · rw [q]; exact hc
theorem SFlat.push {c : Cell} (h : SFlat S) (hc : c.flat = true) : SFlat (S ++ [c]) := fun x hx => by
  rcases List.mem_append.mp hx with q | q
  · exact h x q
  · rw [List.mem_singleton.mp q]; exact hc
end
end Dl

set_option Elab.async false
set_option linter.all false
set_option maxRecDepth 100000
namespace Dl
open PySem L2
/-! ## tools -/
theorem set_self {S : Store} {p : Nat} {c : Cell} (h : S[p]? = some c) : S.set p c = S := by
  apply List.ext_getElem?
  intro i
  by_cases e : p = i
  · subst e
    rw [List.getElem?_set_self (List.getElem?_eq_some_iff.mp h).1, h]
  · rw [List.getElem?_set_ne e]
theorem get_lt {α : Type} {S : List α} {p : Nat} {c : α} (h : S[p]? = some c) : p < S.length := (List.getElem?_eq_some_iff.mp h).1
theorem get_set {S : Store} {p : Nat} {c d : Cell} (h : S[p]? = some c) : (S.set p d)[p]? = some d := List.getElem?_set_self (get_lt h)
theorem get_app {α : Type} {S T : List α} {p : Nat} {c : α} (h : S[p]? = some c) : (S ++ T)[p]? = some c := by
  rw [List.getElem?_append_left (get_lt h)]
  exact h
theorem set_app {S T : Store} {p : Nat} {c d : Cell} (h : S[p]? = some c) : (S ++ T).set p d = S.set p d ++ T := List.set_append_left _ _ (get_lt h)
theorem get_end {S : Store} {c : Cell} : (S ++ [c])[S.length]? = some c := by rw [List.getElem?_append_right (Nat.le_refl _), Nat.sub_self]; rfl
theorem set_end {S : Store} {c d : Cell} : (S ++ [c]).set S.length d = S ++ [d] := by rw [List.set_append_right _ _ (Nat.le_refl _), Nat.sub_self]; rfl
theorem atI_of {α : Type} {xs : List α} {k : Int} {v : α} (h0 : 0 ≤ k) (h : xs[k.toNat]? = some v) : atI xs k = some v := by
  have e : k = ((k.toNat : Nat) : Int) := by omega
  rw [e]
  exact atI_nat h
theorem atI_in {α : Type} {xs : List α} {k : Int} (h0 : 0 ≤ k) (h1 : k < xs.length) : ∃ v, atI xs k = some v ∧ v ∈ xs := by
  have hk : k.toNat < xs.length := by omega
  exact ⟨xs[k.toNat], atI_of h0 (List.getElem?_eq_getElem hk), List.getElem_mem hk⟩
theorem chk_nil {S : Store} : chkOk [] S := fun _ h => nomatch h
theorem chk_one {S : Store} {l : Nat} {xs : List D} (h : lstAt S l = some xs) : chkOk [(l, xs)] S := fun p hp => by rw [List.mem_singleton.mp hp]; exact h
section
variable {tg : D → SX} {body : SX} {k : Chk} {d : D} {ds : List D} {ρ ρ1 ρ2 : Env} {S S1 S2 : Store}
theorem runF_nil (h : chkOk k S) : runF tg body k [] ρ S = .nx ρ S := by unfold runF; rw [if_pos h]
theorem runF_cons (h : chkOk k S) (ht : tg d ρ S = .nx ρ1 S1) (hb : body ρ1 S1 = .nx ρ2 S2) : runF tg body k (d :: ds) ρ S = runF tg body k ds ρ2 S2 := by
  rw [runF, if_pos h, ht]
  show (match body ρ1 S1 with | .nx ρ2 S2 => runF tg body k ds ρ2 S2 | .ct ρ2 S2 => runF tg body k ds ρ2 S2 | .bk ρ2 S2 => .nx ρ2 S2 | o => o) = _
  rw [hb]
theorem sF_ok {src : IX} {p : List D × Chk} {S' : Store} (h : src ρ S = .ok p S') : sF src tg body ρ S = runF tg body p.2 p.1 ρ S' := by
  show (src ρ S).out ρ _ = _
  rw [h]
  rfl
theorem iR1_ok {f : EX} {j : Int} {S' : Store} (h : f ρ S = .ok (.int j) S') (h0 : 0 ≤ j) (h1 : j < 1000000000) : iR1 f ρ S = .ok (rng 0 j.toNat, []) S' := by
  show (f ρ S).bind _ = _
  rw [h]
  exact if_pos ⟨by omega, by omega⟩
theorem iA_lst {f : EX} {l : Nat} {S' : Store} {xs : List D} (h : f ρ S = .ok (.ref l) S') (hl : lstAt S' l = some xs) : iA f ρ S = .ok (xs, [(l, xs)]) S' := by
  show (f ρ S).bind _ = _
  rw [h]
  show (match lstAt S' l with | some xs => R.ok (xs, [(l, xs)]) S' | none => .no) = _
  rw [hl]
theorem iA_tup {f : EX} {S' : Store} {xs : List D} (h : f ρ S = .ok (.tup xs) S') : iA f ρ S = .ok (xs, []) S' := by
  show (f ρ S).bind _ = _
  rw [h]
  rfl
theorem iA_str {f : EX} {S' : Store} {x : Str} (h : f ρ S = .ok (.str x) S') : iA f ρ S = .ok (x.cps.toList.map fun c => .str ⟨#[c]⟩, []) S' := by
  show (f ρ S).bind _ = _
  rw [h]
  rfl
/-- over a range -/
theorem rng_succ (n : Nat) (lo : Int) : rng lo (n + 1) = .int lo :: rng (lo + 1) n := by
  unfold rng
  rw [List.range_succ_eq_map, List.map_cons, List.map_map]
  congr 1
  · simp
  · apply List.map_congr_left
    intro i _
    show D.int (lo + ((i + 1 : Nat) : Int)) = .int (lo + 1 + (i : Nat))
    congr 1
    omega
theorem rng_length (n : Nat) (lo : Int) : (rng lo n).length = n := by unfold rng; rw [List.length_map, List.length_range]
/-- a comprehension over items that leaves the store as it is: the items' values -/
theorem runC_map {l : Nat} {g : Cg} {ft : TX} {fe : EX} (val : D → D) (keep : D → Bool) : ∀ (ds acc : List D) (T : Store), SFlat T → l = T.length → acc.length + ds.length ≤ 1000000 → (∀ S, chkOk k T → chkOk k (T ++ S)) → chkOk k T →
    (∀ d ∈ ds, ∃ ρ1, g.put d ρ = some ρ1 ∧ ∀ a, ft ρ1 (T ++ [.lst a]) = .ok (keep d) (T ++ [.lst a]) ∧ (keep d = true → fe ρ1 (T ++ [.lst a]) = .ok (val d) (T ++ [.lst a]))) →
    runC l ρ g ft fe k ds (T ++ [.lst acc]) = .ok (.ref l) (T ++ [.lst (acc ++ (ds.filter keep).map val)])
  | [], acc, T, hT, hl, hz, hk, hk0, _ => by
    unfold runC
    rw [if_pos (hk _ hk0)]
    simp
  | d :: ds, acc, T, hT, hl, hz, hk, hk0, hd => by
    obtain ⟨ρ1, h1, h2⟩ := hd d (List.mem_cons_self ..)
    obtain ⟨h3, h4⟩ := h2 acc
    have hz' : acc.length + (ds.length + 1) ≤ 1000000 := hz
    unfold runC
    rw [if_pos (hk _ hk0)]
    simp only [h1, h3]
    cases hkd : keep d with
    | false =>
      simp only
      rw [runC_map val keep ds acc T hT hl (by omega) hk hk0 fun x hx => hd x (List.mem_cons_of_mem _ hx), List.filter_cons_of_neg (by rw [hkd]; exact Bool.false_ne_true)]
    | true =>
      have h4' := h4 hkd
      subst hl
      simp only [h4', get_end]
      rw [if_pos (show acc.length < LIM by show acc.length < 16777216; omega), set_end, runC_map val keep ds (acc ++ [val d]) T hT rfl (by rw [List.length_append]; simp only [List.length_singleton]; omega) hk hk0 fun x hx => hd x (List.mem_cons_of_mem _ hx),
        List.filter_cons_of_pos hkd, List.map_cons, List.append_assoc]
      rfl
theorem eLc_ok {vs : List Nat} {src : IX} {g : Cg} {ft : TX} {fe : EX} {p : List D × Chk} {S' : Store} (h : src ρ S = .ok p S') : eLc vs src g ft fe ρ S = runC S'.length (wipeD ρ vs) g ft fe p.2 p.1 (S' ++ [.lst []]) := by
  show (src ρ S).bind _ = _
  rw [h]
  rfl
end
end Dl

set_option Elab.async false
set_option linter.all false
set_option maxRecDepth 100000
namespace Lw
open PySem L2 Dl
/-! ## the mirror of the text, def by def -/
inductive FN where
  | size_of | signs_of | atoms_of | count_of | base_of | atom_number | _law_cell | _law_mix | _law_pool | _law_draw | _law_numbered | _law_fresh | _law_lot | _law_row | _law_bracket | _law_is_integer | _law_same_texts | _law_measured | _law_apart | law
noncomputable def b_size_of (F : FN → List D → M D) : SX := (sQ (sIf (tV (eB (gIsi .str) (aC (eV 0) (aC (eC (.raw (.ty "str"))) aN)))) (sR (eC (.int 1))) sP)
  (sR (e2 gAdd (eF (F .size_of) (aC (e2 gIx (eV 0) (eC (.int 1))) aN)) (eF (F .size_of) (aC (e2 gIx (eV 0) (eC (.int 2))) aN)))))
noncomputable def b_signs_of (F : FN → List D → M D) : SX := (sR (e2 gSub (eF (F .size_of) (aC (eV 0) aN)) (eC (.int 1))))
noncomputable def b_atoms_of (F : FN → List D → M D) : SX := (sQ (sIf (tV (eB (gIsi .str) (aC (eV 0) (aC (eC (.raw (.ty "str"))) aN)))) (sR (eB gTpl (aC (eV 0) aN))) sP)
  (sR (e2 gAdd (eF (F .atoms_of) (aC (e2 gIx (eV 0) (eC (.int 1))) aN)) (eF (F .atoms_of) (aC (e2 gIx (eV 0) (eC (.int 2))) aN)))))
noncomputable def b_count_of (F : FN → List D → M D) : SX := (sR (eMt .tup gCountT (eF (F .atoms_of) (aC (eV 0) aN)) (aC (eV 1) aN)))
noncomputable def b_base_of (F : FN → List D → M D) : SX := (sR (e2 gIx (eMt .str gPart (eV 0) (aC (eC (.str ".")) aN)) (eC (.int 0))))
noncomputable def b_atom_number (F : FN → List D → M D) : SX := (sQ (sN 1 (e2 gIx (eMt .str gPart (eV 0) (aC (eC (.str ".")) aN)) (eC (.int 2))))
  (sQ (sIf (tE (e2 gEq (eV 1) (eC (.str "")))) (sR (eC (.int 0))) sP)
  (sR (eB gInt (aC (eV 1) aN)))))
noncomputable def b__law_cell (F : FN → List D → M D) : SX := (sQ (sIf (tE (e2 gLt (eV 1) (eB gLen (aC (eV 0) aN)))) (sR (eB gInt (aC (e2 gIx (eV 0) (eV 1)) aN))) sP)
  (sR (eC (.int 0))))
noncomputable def b__law_mix (F : FN → List D → M D) : SX := (sQ (sN 0 (e2 gMod (eB gInt (aC (e2 gAdd (e2 gAdd (e2 gMul (eV 0) (eV 0)) (e2 gMul (eC (.int 3)) (eV 0))) (eC (.int 7919))) aN)) (eC (.int 1000003))))
  (sR (e2 gMod (eB gInt (aC (e2 gAdd (e2 gAdd (e2 gMul (eV 0) (eV 0)) (e2 gMul (eC (.int 5)) (eV 0))) (eC (.int 104729))) aN)) (eC (.int 998244353)))))
noncomputable def b__law_pool (F : FN → List D → M D) : SX := (sQ (sN 2 (eF (F ._law_cell) (aC (eV 0) (aC (eV 1) aN))))
  (sQ (sIf (tE (e2 gGe (eV 2) (e2 gPow (eC (.int 10)) (eC (.int 18))))) (sR (eB gLsd (aC (e2 gSub (eV 2) (e2 gPow (eC (.int 10)) (eC (.int 18)))) (aC (e2 gMul (eC (.int 40009)) (e2 gAdd (eV 1) (eC (.int 1)))) (aC (eC (.int 0)) aN))))) sP)
  (sR (eB gLsd (aC (eC (.int 0)) (aC (e2 gAdd (e2 gMod (eB gInt (aC (eB gAbs (aC (eV 2) aN)) aN)) (eC (.int 2000000011))) (e2 gMul (eC (.int 7919)) (eV 1))) (aC (eC (.int 0)) aN)))))))
noncomputable def b__law_draw (F : FN → List D → M D) : SX := (sQ (sIf (tE (e2 gGt (e2 gIx (eV 0) (eC (.int 0))) (eC (.int 0)))) (sQ (sN 2 (e2 gMod (eB gInt (aC (e2 gIx (eV 0) (eC (.int 0))) aN)) (eV 1)))
  (sQ (sA (e2 gFdiv (e2 gIx (eV 0) (eC (.int 0))) (eV 1)) (tgIx (eV 0) (eC (.int 0))))
  (sR (eV 2)))) sP)
  (sQ (sA (e2 gAdd (e2 gIx (eV 0) (eC (.int 2))) (eC (.int 1))) (tgIx (eV 0) (eC (.int 2))))
  (sR (e2 gMod (eB gInt (aC (e2 gFdiv (eF (F ._law_mix) (aC (e2 gAdd (e2 gIx (eV 0) (eC (.int 1))) (e2 gMul (eC (.int 7368787)) (e2 gIx (eV 0) (eC (.int 2))))) aN)) (eC (.int 8))) aN)) (eV 1)))))
noncomputable def b__law_numbered (F : FN → List D → M D) : SX := (sQ (sIf (tE (e2 gEq (eV 1) (eC (.int 0)))) (sR (eB gTpl (aC (eV 0) (aC (eV 0) (aC (eC (.int 0)) aN))))) sP)
  (sR (eB gTpl (aC (e2 gAdd (e2 gAdd (eV 0) (eC (.str "."))) (eB gStr (aC (eV 1) aN))) (aC (eV 0) (aC (eV 1) aN))))))
noncomputable def b__law_fresh (F : FN → List D → M D) : SX := (sQ (sN 1 (eC (.str "abcdefghijklmnopqrstuvwxyz")))
  (sQ (sN 2 (e2 gIx (eV 1) (eF (F ._law_draw) (aC (eV 0) (aC (eC (.int 26)) aN)))))
  (sQ (sF (iR1 (e2 gIx (eB gLsd (aC (eC (.int 0)) (aC (eC (.int 0)) (aC (eC (.int 1)) (aC (eC (.int 7)) (aC (eC (.int 0)) (aC (eC (.int 2)) (aC (eC (.int 3)) (aC (eC (.int 5)) (aC (eC (.int 4)) (aC (eC (.int 6)) aN))))))))))) (eF (F ._law_draw) (aC (eV 0) (aC (eC (.int 10)) aN))))) (nm 3) (sN 2 (e2 gAdd (eV 2) (e2 gIx (e2 gAdd (eV 1) (eC (.str "0123456789"))) (eF (F ._law_draw) (aC (eV 0) (aC (eC (.int 36)) aN)))))))
  (sQ (sN 4 (eF (F ._law_draw) (aC (eV 0) (aC (eC (.int 4)) aN))))
  (sQ (sIf (tE (e2 gEq (eV 4) (eC (.int 2)))) (sR (eF (F ._law_numbered) (aC (eV 2) (aC (e2 gAdd (eC (.int 1)) (eF (F ._law_draw) (aC (eV 0) (aC (eC (.int 20)) aN)))) aN)))) sP)
  (sQ (sIf (tE (e2 gEq (eV 4) (eC (.int 3)))) (sR (eF (F ._law_numbered) (aC (eV 2) (aC (e2 gAdd (eC (.int 1)) (eF (F ._law_draw) (aC (eV 0) (aC (eC (.int 999999)) aN)))) aN)))) sP)
  (sR (eF (F ._law_numbered) (aC (eV 2) (aC (eC (.int 0)) aN))))))))))
noncomputable def b__law_lot (F : FN → List D → M D) : SX := (sQ (sN 1 (eB gLsd (aC (eF (F ._law_fresh) (aC (eV 0) aN)) (aC (eF (F ._law_fresh) (aC (eV 0) aN)) (aC (eF (F ._law_fresh) (aC (eV 0) aN)) aN)))))
  (sQ (sN 2 (e2 gIx (e2 gIx (eV 1) (eC (.int 0))) (eC (.int 1))))
  (sQ (sN 3 (e2 gIx (e2 gIx (eV 1) (eC (.int 0))) (eC (.int 2))))
  (sQ (sIf (tA (tE (e2 gGt (eV 3) (eC (.int 0)))) (tE (e2 gEq (eF (F ._law_draw) (aC (eV 0) (aC (eC (.int 2)) aN))) (eC (.int 0))))) (sE (eMt .lst gAppend (eV 1) (aC (eF (F ._law_numbered) (aC (eV 2) (aC (eC (.int 0)) aN))) aN))) (sE (eMt .lst gAppend (eV 1) (aC (eF (F ._law_numbered) (aC (eV 2) (aC (e2 gAdd (e2 gMod (eB gInt (aC (eV 3) aN)) (eC (.int 999999))) (eC (.int 1))) aN))) aN))))
  (sR (eV 1))))))
noncomputable def b__law_row (F : FN → List D → M D) : SX := (sQ (sN 2 (e2 gAdd (eC (.int 1)) (eF (F ._law_draw) (aC (eV 0) (aC (eC (.int 8)) aN)))))
  (sQ (sIf (tE (e2 gEq (eF (F ._law_draw) (aC (eV 0) (aC (eC (.int 8)) aN))) (eC (.int 7)))) (sN 2 (e2 gIx (eB gLsd (aC (eC (.int 40)) (aC (eC (.int 39)) (aC (e2 gAdd (eC (.int 9)) (eF (F ._law_draw) (aC (eV 0) (aC (eC (.int 32)) aN)))) aN)))) (eF (F ._law_draw) (aC (eV 0) (aC (eC (.int 3)) aN))))) sP)
  (sQ (sN 3 (eB gLsd aN))
  (sQ (sF (iR1 (eV 2)) (nm 4) (sQ (sN 5 (eF (F ._law_draw) (aC (eV 0) (aC (eC (.int 6)) aN))))
  (sIf (tE (e2 gLt (eV 5) (eC (.int 4)))) (sE (eMt .lst gAppend (eV 3) (aC (e2 gIx (eV 1) (eV 5)) aN))) (sIf (tE (e2 gEq (eV 5) (eC (.int 4)))) (sE (eMt .lst gAppend (eV 3) (aC (e2 gIx (eV 1) (eC (.int 0))) aN))) (sE (eMt .lst gAppend (eV 3) (aC (eF (F ._law_fresh) (aC (eV 0) aN)) aN)))))))
  (sR (eV 3))))))
noncomputable def b__law_bracket (F : FN → List D → M D) : SX := (sQ (sIf (tE (e2 gEq (eB gLen (aC (eV 1) aN)) (eC (.int 1)))) (sR (e2 gIx (eV 1) (eC (.int 0)))) sP)
  (sQ (sN 3 (e2 gAdd (eC (.int 1)) (eF (F ._law_draw) (aC (eV 0) (aC (e2 gSub (eB gLen (aC (eV 1) aN)) (eC (.int 1))) aN)))))
  (sQ (sIf (tE (e2 gEq (eV 2) (eC (.int 1)))) (sN 3 (eC (.int 1))) sP)
  (sQ (sIf (tE (e2 gEq (eV 2) (eC (.int 2)))) (sN 3 (e2 gSub (eB gLen (aC (eV 1) aN)) (eC (.int 1)))) sP)
  (sQ (sN 4 (e2 gIx (eC (.str "/>*")) (eF (F ._law_draw) (aC (eV 0) (aC (eC (.int 3)) aN)))))
  (sQ (sN 5 (eF (F ._law_bracket) (aC (eV 0) (aC (eSl (eV 1) oN (oI (eV 3))) (aC (eV 2) aN)))))
  (sR (eB gTpl (aC (eV 4) (aC (eV 5) (aC (eF (F ._law_bracket) (aC (eV 0) (aC (eSl (eV 1) (oI (eV 3)) oN) (aC (eV 2) aN)))) aN)))))))))))
noncomputable def b__law_is_integer (F : FN → List D → M D) : SX := (sR (eAnd (eB (gIsi .int) (aC (eV 0) (aC (eC (.raw (.ty "int"))) aN))) (eNot (eB (gIsi .bl) (aC (eV 0) (aC (eC (.raw (.ty "bool"))) aN))))))
noncomputable def b__law_same_texts (F : FN → List D → M D) : SX := (sQ (sIf (tO (tN (tV (eB (gIsi .tup) (aC (eV 0) (aC (eC (.raw (.ty "tuple"))) aN))))) (tE (e2 gNe (eB gLen (aC (eV 0) aN)) (eB gLen (aC (eV 1) aN))))) (sR (eC (.bl false))) sP)
  (sQ (sF (iR1 (eB gLen (aC (eV 1) aN))) (nm 2) (sIf (tO (tN (tV (eB (gIsi .str) (aC (e2 gIx (eV 0) (eV 2)) (aC (eC (.raw (.ty "str"))) aN))))) (tE (e2 gNe (e2 gIx (eV 0) (eV 2)) (e2 gIx (eV 1) (eV 2))))) (sR (eC (.bl false))) sP))
  (sR (eC (.bl true)))))
noncomputable def b__law_measured (F : FN → List D → M D) : SX := (sQ (sIf (tN (tV (eF (F ._law_same_texts) (aC (eF (F .atoms_of) (aC (eV 0) aN)) (aC (eV 1) aN))))) (sR (eC (.bl false))) sP)
  (sQ (sN 3 (eF (F .size_of) (aC (eV 0) aN)))
  (sQ (sN 4 (eF (F .signs_of) (aC (eV 0) aN)))
  (sQ (sIf (tO (tN (tV (eF (F ._law_is_integer) (aC (eV 3) aN)))) (tE (e2 gNe (eV 3) (eB gLen (aC (eV 1) aN))))) (sR (eC (.bl false))) sP)
  (sQ (sIf (tO (tN (tV (eF (F ._law_is_integer) (aC (eV 4) aN)))) (tE (e2 gNe (eV 4) (e2 gSub (eB gLen (aC (eV 1) aN)) (eC (.int 1)))))) (sR (eC (.bl false))) sP)
  (sQ (sF (iA (eV 2)) (nm 5) (sQ (sN 6 (eF (F .count_of) (aC (eV 0) (aC (eV 5) aN))))
  (sIf (tO (tN (tV (eF (F ._law_is_integer) (aC (eV 6) aN)))) (tE (e2 gNe (eV 6) (eB gLen (aC (eLc [7] (iA (eV 1)) (.one 7) (tE (e2 gEq (eV 7) (eV 5))) (eV 7)) aN))))) (sR (eC (.bl false))) sP)))
  (sR (eC (.bl true)))))))))
noncomputable def b__law_apart (F : FN → List D → M D) : SX := (sQ (sF (iA (eV 0)) (tgT [(nm 1), (nm 2), (nm 3)]) (sQ (sN 4 (eF (F .base_of) (aC (eV 1) aN)))
  (sQ (sN 5 (eF (F .atom_number) (aC (eV 1) aN)))
  (sQ (sIf (tO (tN (tV (eB (gIsi .str) (aC (eV 4) (aC (eC (.raw (.ty "str"))) aN))))) (tE (e2 gNe (eV 4) (eV 2)))) (sR (eC (.bl false))) sP)
  (sIf (tO (tN (tV (eF (F ._law_is_integer) (aC (eV 5) aN)))) (tE (e2 gNe (eV 5) (eV 3)))) (sR (eC (.bl false))) sP)))))
  (sR (eC (.bl true))))
noncomputable def b_law (F : FN → List D → M D) : SX := (sQ (sN 1 (eF (F ._law_pool) (aC (eV 0) (aC (eC (.int 0)) aN))))
  (sQ (sN 2 (eF (F ._law_lot) (aC (eV 1) aN)))
  (sQ (sN 3 (eF (F ._law_row) (aC (eV 1) (aC (eV 2) aN))))
  (sQ (sN 4 (eB gLsd (aC (e2 gIx (eF (F ._law_fresh) (aC (eV 1) aN)) (eC (.int 0))) aN)))
  (sQ (sF (iA (eV 2)) (tgT [(nm 11), (nm 12), (nm 13)]) (sN 4 (e2 gAdd (eV 4) (eB gLsd (aC (eV 11) (aC (eV 12) (aC (e2 gIx (eF (F ._law_numbered) (aC (eV 12) (aC (e2 gAdd (e2 gMod (eB gInt (aC (eV 13) aN)) (eC (.int 999999))) (eC (.int 1))) aN))) (eC (.int 0))) (aC (eSl (eV 12) oN (oI (eC (.int 1)))) aN))))))))
  (sQ (sN 5 (eLc [14] (iA (eV 3)) (.one 14) tYesD (e2 gIx (eV 14) (eC (.int 0)))))
  (sQ (sN 6 (e1 gListRev (eV 5)))
  (sQ (sN 7 (eF (F ._law_pool) (aC (eV 0) (aC (eC (.int 1)) aN))))
  (sQ (sN 8 (eF (F ._law_bracket) (aC (eV 7) (aC (eV 5) (aC (eF (F ._law_draw) (aC (eV 7) (aC (eC (.int 8)) aN))) aN)))))
  (sQ (sN 7 (eF (F ._law_pool) (aC (eV 0) (aC (eC (.int 2)) aN))))
  (sQ (sN 9 (eF (F ._law_bracket) (aC (eV 7) (aC (eV 6) (aC (eF (F ._law_draw) (aC (eV 7) (aC (eC (.int 8)) aN))) aN)))))
  (sQ (sIf (tO (tN (tV (eF (F ._law_measured) (aC (eV 8) (aC (eV 5) (aC (eV 4) aN)))))) (tN (tV (eF (F ._law_measured) (aC (eV 9) (aC (eV 6) (aC (eV 4) aN))))))) (sR (eC (.bl false))) sP)
  (sQ (sN 10 (eB gLsd (aC (eB gTpl (aC (eC (.str "a")) (aC (eC (.str "a")) (aC (eC (.int 0)) aN)))) (aC (eB gTpl (aC (eC (.str "z9999999.999999")) (aC (eC (.str "z9999999")) (aC (eC (.int 999999)) aN)))) (aC (eB gTpl (aC (eC (.str "n1.1")) (aC (eC (.str "n1")) (aC (eC (.int 1)) aN)))) (aC (eB gTpl (aC (eC (.str "a00.10")) (aC (eC (.str "a00")) (aC (eC (.int 10)) aN)))) aN))))))
  (sR (eAnd (eF (F ._law_apart) (aC (e2 gAdd (e2 gAdd (eV 3) (eV 2)) (eV 10)) aN)) (eF (F ._law_measured) (aC (eV 8) (aC (eV 5) (aC (eV 4) aN)))))))))))))))))))
noncomputable def tab : Nat → FN → List D → M D
  | 0, _ => fun _ _ => .no
  | n + 1, .size_of => runB 1 1 (b_size_of (tab n))
  | n + 1, .signs_of => runB 1 1 (b_signs_of (tab n))
  | n + 1, .atoms_of => runB 1 1 (b_atoms_of (tab n))
  | n + 1, .count_of => runB 2 2 (b_count_of (tab n))
  | n + 1, .base_of => runB 1 1 (b_base_of (tab n))
  | n + 1, .atom_number => runB 1 2 (b_atom_number (tab n))
  | n + 1, ._law_cell => runB 2 2 (b__law_cell (tab n))
  | n + 1, ._law_mix => runB 1 1 (b__law_mix (tab n))
  | n + 1, ._law_pool => runB 2 3 (b__law_pool (tab n))
  | n + 1, ._law_draw => runB 2 3 (b__law_draw (tab n))
  | n + 1, ._law_numbered => runB 2 2 (b__law_numbered (tab n))
  | n + 1, ._law_fresh => runB 1 5 (b__law_fresh (tab n))
  | n + 1, ._law_lot => runB 1 4 (b__law_lot (tab n))
  | n + 1, ._law_row => runB 2 6 (b__law_row (tab n))
  | n + 1, ._law_bracket => runB 3 6 (b__law_bracket (tab n))
  | n + 1, ._law_is_integer => runB 1 1 (b__law_is_integer (tab n))
  | n + 1, ._law_same_texts => runB 2 3 (b__law_same_texts (tab n))
  | n + 1, ._law_measured => runB 3 8 (b__law_measured (tab n))
  | n + 1, ._law_apart => runB 1 6 (b__law_apart (tab n))
  | n + 1, .law => runB 1 15 (b_law (tab n))
end Lw

set_option Elab.async false
set_option linter.all false
set_option maxRecDepth 100000
namespace Lw
open PySem L2 Dl
local macro_rules | `(tactic| walk_at "ev") => `(tactic| simp (disch := first | omega | assumption | (simp only [List.length_cons, List.length_nil]; omega)) only [sQ_, sP_, sE_, sR_, sIf_, sN_, sA_, tgO_nx, nm_, tgIx_, eC_, eV0, eV1, e1_, e2_, eB_, eF_, aN_, aC_, eMt_, eSl_, oN_, oI_, tV_, tE_, tA_, tO_, tN_, eIf_, eAnd_, eOr_, eNot_, eCh_,
  seq_nx, seq_rt, seq_bk, seq_ct, seq_ex, toR_some, toR_none, toT_some, truD_bl, truD_int, truD_tup, tyD_str, tyD_tup, tyD_int, tyD_bl, tyD_non,
  kE_, kR_, kIf_t, kIf_f, kN_, kA_, kIx1_, kIx2_, kIx3_, kE1_, kE21_, kE2_, kB_, kF_, kC1_, kC_, kM1_, kM2_, kM_, kS1_, kS2_, kS3_, kO_, kV_, kT_, kAn_t, kAn_f, kOr_t, kOr_f, kNo_, kIfE_t, kIfE_f, kVa_, kVa2_t, kVa2_f, kVo_, kVo2_t, kVo2_f, kVn_, kVn2_, kH_, kH1_, kH2_t, kH2_f, kH3_,
  List.getElem?_cons_zero, List.getElem?_cons_succ, List.set_cons_zero, List.set_cons_succ, gAdd_int, gAdd_str, gSub_int, gMul_l, gMul_r, gFdiv_int, gMod_int, gLt_int, gLe_int, gGt_int, gGe_int, gInt_int, gAbs_int, gLen_tup, gLen_str, gTpl_, gLsd_,
  Bool.false_eq_true, if_true, if_false, reduceIte, Option.map_some, Option.bind_some, gEq_int, gNe_int, gEq_str, gNe_str, Bool.not_true, Bool.not_false, decide_true, decide_false, List.length_singleton, List.length_cons, List.length_nil, List.map_cons, List.map_nil, Nat.sub_self, List.replicate_zero, List.append_nil, List.cons_append, List.nil_append, List.replicate_succ, Nat.reduceSub, Nat.reduceAdd, Nat.add_zero, Nat.zero_add, tgT_, tgL0, tgL1])
local macro_rules | `(tactic| walk_at "evs") => `(tactic| simp (disch := first | omega | assumption | (simp only [List.length_cons, List.length_nil]; omega)) only [sQ_, sP_, sE_, sR_, sIf_, sN_, sA_, tgO_nx, nm_, tgIx_, eC_, eV0, eV1, e1_, e2_, eB_, eF_, aN_, aC_, eMt_, eSl_, oN_, oI_, tV_, tE_, tA_, tO_, tN_, eIf_, eAnd_, eOr_, eNot_, eCh_,
  seq_nx, seq_rt, seq_bk, seq_ct, seq_ex, toR_some, toR_none, toT_some, truD_bl, truD_int, truD_tup, tyD_str, tyD_tup, tyD_int, tyD_bl, tyD_non,
  kE_, kR_, kIf_t, kIf_f, kN_, kA_, kIx1_, kIx2_, kIx3_, kE1_, kE21_, kE2_, kB_, kF_, kC1_, kC_, kM1_, kM2_, kM_, kS1_, kS2_, kS3_, kO_, kV_, kT_, kAn_t, kAn_f, kOr_t, kOr_f, kNo_, kIfE_t, kIfE_f, kVa_, kVa2_t, kVa2_f, kVo_, kVo2_t, kVo2_f, kVn_, kVn2_, kH_, kH1_, kH2_t, kH2_f, kH3_,
  List.getElem?_cons_zero, List.getElem?_cons_succ, List.set_cons_zero, List.set_cons_succ, gAdd_int, gAdd_str, gSub_int, gMul_l, gMul_r, gFdiv_int, gMod_int, gLt_int, gLe_int, gGt_int, gGe_int, gInt_int, gAbs_int, gLen_tup, gLen_str, gTpl_, gLsd_,
  Bool.false_eq_true, if_true, if_false, reduceIte, Option.map_some, Option.bind_some, gEq_int, gNe_int, gEq_str, gNe_str, Bool.not_true, Bool.not_false, decide_true, decide_false, List.length_singleton, List.length_cons, List.length_nil, List.map_cons, List.map_nil, Nat.sub_self, List.replicate_zero, List.append_nil, List.cons_append, List.nil_append, List.replicate_succ, Nat.reduceSub, Nat.reduceAdd, Nat.add_zero, Nat.zero_add, tgT_, tgL0, tgL1, *])
def mixZ (x : Int) : Int :=
  let y := (x * x + 3 * x + 7919) % 1000003
  (y * y + 5 * y + 104729) % 998244353
theorem mix_spec (n : Nat) (x : Int) (h0 : 0 ≤ x) (h1 : x < 18446744073709551616) (S : Store) : tab (n + 1) ._law_mix [.int x] S = .ok (.int (mixZ x)) S := by
  refine (runB_rt (g := b__law_mix (tab n)) rfl (d := .int (mixZ x)) (S' := S) ?_).trans (cmp_same rfl rfl)
  unfold b__law_mix
  have b1 : 0 ≤ (x * x + 3 * x + 7919) % 1000003 := Int.emod_nonneg _ (by decide)
  have b2 : (x * x + 3 * x + 7919) % 1000003 < 1000003 := Int.emod_lt_of_pos _ (by decide)
  walk_at "ev"
  rfl

def Pool (N : Nat) (P : List D) : Prop := ∃ a b c : Int, P = [.int a, .int b, .int c] ∧ 0 ≤ b ∧ b ≤ 10000000000 ∧ 0 ≤ c ∧ c ≤ N
theorem Pool.flat {N : Nat} {P : List D} (h : Pool N P) : flats P = true := by obtain ⟨a, b, c, rfl, _⟩ := h; rfl
theorem Pool.mono {N M : Nat} {P : List D} (h : Pool N P) (l : N ≤ M) : Pool M P := by obtain ⟨a, b, c, e, h1, h2, h3, h4⟩ := h; exact ⟨a, b, c, e, h1, h2, h3, by omega⟩
theorem draw_spec (n : Nat) {N p : Nat} {many : Int} {S : Store} {P : List D} (h : S[p]? = some (.lst P)) (hp : Pool N P) (hN : N ≤ 1000000) (h0 : 0 < many) (h1 : many < 1073741824) :
    ∃ d P', Pool (N + 1) P' ∧ 0 ≤ d ∧ d < many ∧ tab (n + 2) ._law_draw [.ref p, .int many] S = .ok (.int d) (S.set p (.lst P')) := by
  obtain ⟨a, b, c, rfl, b0, b1, c0, c1⟩ := hp
  have hl : p < S.length := (List.getElem?_eq_some_iff.mp h).1
  have e0 : gIx (.ref p) (.int 0) S = some (.int a, S) := gIx_lst (lstAt_lst h) rfl
  have e1 : gIx (.ref p) (.int 1) S = some (.int b, S) := gIx_lst (lstAt_lst h) rfl
  have e2 : gIx (.ref p) (.int 2) S = some (.int c, S) := gIx_lst (lstAt_lst h) rfl
  by_cases ha : 0 < a
  · refine ⟨a % many, [.int (a / many), .int b, .int c], ⟨_, _, _, rfl, b0, b1, c0, by omega⟩, Int.emod_nonneg _ (by omega), Int.emod_lt_of_pos _ h0, ?_⟩
    refine (runB_rt (g := b__law_draw (tab (n + 1))) rfl (d := .int (a % many)) (S' := S.set p (.lst [.int (a / many), .int b, .int c])) ?_).trans (cmp_same (by rw [List.length_set]) rfl)
    have es : gSet (.ref p) (.int 0) (.int (a / many)) S = some (S.set p (.lst [.int (a / many), .int b, .int c])) := gSet_lst (m := 0) h rfl
    unfold b__law_draw
    walk_at "evs"

  · have hs : ∀ k : Int, gSet (.ref p) (.int 2) (.int k) S = some (S.set p (.lst [.int a, .int b, .int k])) := fun k => gSet_lst (m := 2) h rfl
    have h' : (S.set p (.lst [.int a, .int b, .int (c + 1)]))[p]? = some (.lst [.int a, .int b, .int (c + 1)]) := List.getElem?_set_self hl
    have f1 : gIx (.ref p) (.int 1) (S.set p (.lst [.int a, .int b, .int (c + 1)])) = some (.int b, S.set p (.lst [.int a, .int b, .int (c + 1)])) := gIx_lst (lstAt_lst h') rfl
    have f2 : gIx (.ref p) (.int 2) (S.set p (.lst [.int a, .int b, .int (c + 1)])) = some (.int (c + 1), S.set p (.lst [.int a, .int b, .int (c + 1)])) := gIx_lst (lstAt_lst h') rfl
    have em := mix_spec n (b + 7368787 * (c + 1)) (by omega) (by omega) (S.set p (.lst [.int a, .int b, .int (c + 1)]))
    refine ⟨mixZ (b + 7368787 * (c + 1)) / 8 % many, [.int a, .int b, .int (c + 1)], ⟨_, _, _, rfl, b0, b1, by omega, by omega⟩, Int.emod_nonneg _ (by omega), Int.emod_lt_of_pos _ h0, ?_⟩
    refine (runB_rt (g := b__law_draw (tab (n + 1))) rfl (d := .int (mixZ (b + 7368787 * (c + 1)) / 8 % many)) (S' := S.set p (.lst [.int a, .int b, .int (c + 1)])) ?_).trans (cmp_same (by rw [List.length_set]) rfl)
    unfold b__law_draw
    have ha' : decide (0 < a) = false := decide_eq_false ha
    walk_at "evs"

end Lw

set_option Elab.async false
set_option linter.all false
set_option maxRecDepth 100000
namespace Lw
open PySem L2 Dl
local macro_rules | `(tactic| walk_at "ev") => `(tactic| simp (disch := first | omega | assumption | (simp only [List.length_cons, List.length_nil]; omega)) only [sQ_, sP_, sE_, sR_, sIf_, sN_, sA_, tgO_nx, nm_, tgIx_, eC_, eV0, eV1, e1_, e2_, eB_, eF_, aN_, aC_, eMt_, eSl_, oN_, oI_, tV_, tE_, tA_, tO_, tN_, eIf_, eAnd_, eOr_, eNot_, eCh_,
  seq_nx, seq_rt, seq_bk, seq_ct, seq_ex, toR_some, toR_none, toT_some, truD_bl, truD_int, truD_tup, tyD_str, tyD_tup, tyD_int, tyD_bl, tyD_non,
  kE_, kR_, kIf_t, kIf_f, kN_, kA_, kIx1_, kIx2_, kIx3_, kE1_, kE21_, kE2_, kB_, kF_, kC1_, kC_, kM1_, kM2_, kM_, kS1_, kS2_, kS3_, kO_, kV_, kT_, kAn_t, kAn_f, kOr_t, kOr_f, kNo_, kIfE_t, kIfE_f, kVa_, kVa2_t, kVa2_f, kVo_, kVo2_t, kVo2_f, kVn_, kVn2_, kH_, kH1_, kH2_t, kH2_f, kH3_,
  List.getElem?_cons_zero, List.getElem?_cons_succ, List.set_cons_zero, List.set_cons_succ, gAdd_int, gAdd_str, gSub_int, gMul_l, gMul_r, gFdiv_int, gMod_int, gLt_int, gLe_int, gGt_int, gGe_int, gInt_int, gAbs_int, gLen_tup, gLen_str, gTpl_, gLsd_,
  Bool.false_eq_true, if_true, if_false, reduceIte, Option.map_some, Option.bind_some, gEq_int, gNe_int, gEq_str, gNe_str, Bool.not_true, Bool.not_false, decide_true, decide_false, List.length_singleton, List.length_cons, List.length_nil, List.map_cons, List.map_nil, Nat.sub_self, List.replicate_zero, List.append_nil, List.cons_append, List.nil_append, List.replicate_succ, Nat.reduceSub, Nat.reduceAdd, Nat.add_zero, Nat.zero_add, tgT_, tgL0, tgL1])
local macro_rules | `(tactic| walk_at "evs") => `(tactic| simp (disch := first | omega | assumption | (simp only [List.length_cons, List.length_nil]; omega)) only [sQ_, sP_, sE_, sR_, sIf_, sN_, sA_, tgO_nx, nm_, tgIx_, eC_, eV0, eV1, e1_, e2_, eB_, eF_, aN_, aC_, eMt_, eSl_, oN_, oI_, tV_, tE_, tA_, tO_, tN_, eIf_, eAnd_, eOr_, eNot_, eCh_,
  seq_nx, seq_rt, seq_bk, seq_ct, seq_ex, toR_some, toR_none, toT_some, truD_bl, truD_int, truD_tup, tyD_str, tyD_tup, tyD_int, tyD_bl, tyD_non,
  kE_, kR_, kIf_t, kIf_f, kN_, kA_, kIx1_, kIx2_, kIx3_, kE1_, kE21_, kE2_, kB_, kF_, kC1_, kC_, kM1_, kM2_, kM_, kS1_, kS2_, kS3_, kO_, kV_, kT_, kAn_t, kAn_f, kOr_t, kOr_f, kNo_, kIfE_t, kIfE_f, kVa_, kVa2_t, kVa2_f, kVo_, kVo2_t, kVo2_f, kVn_, kVn2_, kH_, kH1_, kH2_t, kH2_f, kH3_,
  List.getElem?_cons_zero, List.getElem?_cons_succ, List.set_cons_zero, List.set_cons_succ, gAdd_int, gAdd_str, gSub_int, gMul_l, gMul_r, gFdiv_int, gMod_int, gLt_int, gLe_int, gGt_int, gGe_int, gInt_int, gAbs_int, gLen_tup, gLen_str, gTpl_, gLsd_,
  Bool.false_eq_true, if_true, if_false, reduceIte, Option.map_some, Option.bind_some, gEq_int, gNe_int, gEq_str, gNe_str, Bool.not_true, Bool.not_false, decide_true, decide_false, List.length_singleton, List.length_cons, List.length_nil, List.map_cons, List.map_nil, Nat.sub_self, List.replicate_zero, List.append_nil, List.cons_append, List.nil_append, List.replicate_succ, Nat.reduceSub, Nat.reduceAdd, Nat.add_zero, Nat.zero_add, tgT_, tgL0, tgL1, *])

/-! ## atoms -/
def Base (b : Str) : Prop := 46 ∉ b.cps.toList ∧ b.length ≤ 8
def atT (b : Str) (m : Int) : Str := if m = 0 then b else b ++ "." ++ (toString m : Str)
def atD (b : Str) (m : Int) : D := .tup [.str (atT b m), .str b, .int m]
theorem dot_ : ("." : Str) = ⟨#[46]⟩ := by decide +kernel
theorem app_list (a b : Str) : (a ++ b).cps.toList = a.cps.toList ++ b.cps.toList := Array.toList_append
theorem app_len (a b : Str) : (a ++ b).length = a.length + b.length := str_app_len a b
theorem dot_len : ("." : Str).length = 1 := by decide +kernel
theorem num_len {m : Int} (h0 : 0 ≤ m) (h1 : m ≤ 999999) : (toString m : Str).length ≤ 6 := PyProof.Rows.toString_length_le h0 (by decide) (by omega)
theorem log_small {m : Int} (h0 : 0 ≤ m) (h1 : m ≤ 999999) : m.natAbs.log2 < 1920 := by
  by_cases e : m.natAbs = 0
  · rw [e]; decide
  · have : m.natAbs.log2 < 20 := (Nat.log2_lt e).mpr (by omega)
    omega
theorem gStr_ {m : Int} {S : Store} (h0 : 0 ≤ m) (h1 : m ≤ 999999) : gStr [.int m] S = some (.str (toString m), S) := if_pos ⟨log_small h0 h1, by have := num_len h0 h1; show _ ≤ 16777216; omega⟩
theorem numbered_spec (n : Nat) {b : Str} {m : Int} (hb : b.length ≤ 8) (h0 : 0 ≤ m) (h1 : m ≤ 999999) (S : Store) : tab (n + 1) ._law_numbered [.str b, .int m] S = .ok (atD b m) S := by
  refine (runB_rt (g := b__law_numbered (tab n)) rfl (d := atD b m) (S' := S) ?_).trans (cmp_same rfl rfl)
  unfold b__law_numbered atD atT
  by_cases e : m = 0
  · subst e
    walk_at "ev"
    simp only [beq_self_eq_true, kIf_t]
    walk_at "ev"
  · have e' : (m == 0) = false := beq_eq_false_iff_ne.mpr e
    have l1 := num_len h0 h1
    have l2 := app_len b "."
    have l3 := dot_len
    have s1 := gStr_ (S := S) h0 h1
    rw [if_neg e]
    walk_at "ev"
    simp only [e', kIf_f]
    walk_at "ev"
    rw [s1]
    walk_at "ev"
/-! ## a fresh atom -/
theorem small_len : ("abcdefghijklmnopqrstuvwxyz" : Str).length = 26 := by decide +kernel
theorem small36_len : (("abcdefghijklmnopqrstuvwxyz" : Str) ++ ("0123456789" : Str)).cps.toList.length = 36 := by decide +kernel
theorem small26_len : ("abcdefghijklmnopqrstuvwxyz" : Str).cps.toList.length = 26 := by decide +kernel
theorem dig_len : ("0123456789" : Str).length = 10 := by decide +kernel
theorem small_dot : ∀ c ∈ ("abcdefghijklmnopqrstuvwxyz" : Str).cps.toList, c ≠ 46 := by decide +kernel
theorem small36_dot : ∀ c ∈ (("abcdefghijklmnopqrstuvwxyz" : Str) ++ ("0123456789" : Str)).cps.toList, c ≠ 46 := by decide +kernel
theorem base_one {c : Nat} (h : c ≠ 46) : 46 ∉ (⟨#[c]⟩ : Str).cps.toList ∧ (⟨#[c]⟩ : Str).length = 1 := ⟨by show 46 ∉ [c]; simp [Ne.symm h], rfl⟩
/-- the loop that writes a base -/
theorem fresh_loop (n : Nat) {p : Nat} : ∀ (r : Nat) (lo : Int) {N : Nat} {T : Store} {P : List D} {b : Str} {x : Option D} (h : T[p]? = some (Cell.lst P)) (hp : Pool N P) (hN : N + r ≤ 1000000) (hb : 46 ∉ b.cps.toList) (hl : b.length + r ≤ 8),
    ∃ b' P' x', Base b' ∧ Pool (N + r) P' ∧ runF (nm 3) (sN 2 (Dl.e2 gAdd (eV 2) (Dl.e2 gIx (Dl.e2 gAdd (eV 1) (eC (.str "0123456789"))) (eF (tab (n + 2) ._law_draw) (aC (eV 0) (aC (eC (.int 36)) aN)))))) [] (rng lo r)
      [some (.ref p), some (.str "abcdefghijklmnopqrstuvwxyz"), some (.str b), x, none] T = .nx [some (.ref p), some (.str "abcdefghijklmnopqrstuvwxyz"), some (.str b'), x', none] (T.set p (Cell.lst P'))
  | 0, lo, N, T, P, b, x, h, hp, hN, hb, hl => ⟨b, P, x, ⟨hb, hl⟩, hp, by rw [set_self h]; exact runF_nil chk_nil⟩
  | r + 1, lo, N, T, P, b, x, h, hp, hN, hb, hl => by
    obtain ⟨d, P1, hp1, d0, d1, e1⟩ := draw_spec n h hp (by omega) (many := 36) (by decide) (by decide)
    obtain ⟨c, hc, hm⟩ := atI_in (xs := (("abcdefghijklmnopqrstuvwxyz" : Str) ++ ("0123456789" : Str)).cps.toList) d0 (by rw [small36_len]; exact d1)
    obtain ⟨c1, c2⟩ := base_one (small36_dot c hm)
    have gx : gIx (.str (("abcdefghijklmnopqrstuvwxyz" : Str) ++ ("0123456789" : Str))) (.int d) (T.set p (Cell.lst P1)) = some (.str ⟨#[c]⟩, T.set p (Cell.lst P1)) := gIx_str hc
    have l1 := small_len
    have l2 := dig_len
    obtain ⟨b', P', x', q1, q2, q3⟩ := fresh_loop n r (lo + 1) (b := b ++ ⟨#[c]⟩) (x := some (.int lo)) (get_set h (d := .lst P1)) hp1 (by omega) (by rw [app_list]; simp only [List.mem_append, not_or]; exact ⟨hb, c1⟩) (by rw [app_len, c2]; omega)
    refine ⟨b', P', x', q1, by rw [show N + (r + 1) = N + 1 + r by omega]; exact q2, ?_⟩
    rw [rng_succ, runF_cons chk_nil (ρ1 := [some (.ref p), some (.str "abcdefghijklmnopqrstuvwxyz"), some (.str b), some (.int lo), none]) (S1 := T) (ρ2 := [some (.ref p), some (.str "abcdefghijklmnopqrstuvwxyz"), some (.str (b ++ ⟨#[c]⟩)), some (.int lo), none]) (S2 := T.set p (Cell.lst P1)) rfl ?_, q3, List.set_set]
    walk_at "ev"
    rw [e1]
    walk_at "ev"
    rw [gx]
    walk_at "ev"
theorem seven : ∀ x ∈ [D.int 0, .int 0, .int 1, .int 7, .int 0, .int 2, .int 3, .int 5, .int 4, .int 6], ∃ k : Int, x = .int k ∧ 0 ≤ k ∧ k ≤ 7 := by
  intro x hx
  simp only [List.mem_cons, List.not_mem_nil, or_false] at hx
  rcases hx with h | h | h | h | h | h | h | h | h | h <;> exact ⟨_, h, by decide, by decide⟩
theorem fresh_spec (n : Nat) {N p : Nat} {T : Store} {P : List D} (h : T[p]? = some (Cell.lst P)) (hp : Pool N P) (hN : N + 20 ≤ 1000000) (hT : SFlat T) :
    ∃ b m P', Pool (N + 20) P' ∧ Base b ∧ 0 ≤ m ∧ m ≤ 999999 ∧ tab (n + 3) ._law_fresh [.ref p] T = .ok (atD b m) (T.set p (Cell.lst P')) := by
  obtain ⟨d1, P1, hp1, a1, b1, e1⟩ := draw_spec n h hp (by omega) (many := 26) (by decide) (by decide)
  obtain ⟨c, hc, hm⟩ := atI_in (xs := ("abcdefghijklmnopqrstuvwxyz" : Str).cps.toList) a1 (by rw [small26_len]; exact b1)
  obtain ⟨c1, c2⟩ := base_one (small_dot c hm)
  have g1 : gIx (.str "abcdefghijklmnopqrstuvwxyz") (.int d1) (T.set p (Cell.lst P1)) = some (.str ⟨#[c]⟩, T.set p (Cell.lst P1)) := gIx_str hc
  have h1 : (T.set p (Cell.lst P1))[p]? = some (Cell.lst P1) := get_set h
  generalize hL : [D.int 0, .int 0, .int 1, .int 7, .int 0, .int 2, .int 3, .int 5, .int 4, .int 6] = L
  have L7 : ∀ x ∈ L, ∃ k : Int, x = .int k ∧ 0 ≤ k ∧ k ≤ 7 := by rw [← hL]; exact seven
  have Ll : L.length = 10 := by rw [← hL]; rfl
  have Lf : flats L = true := by rw [← hL]; rfl
  obtain ⟨d2, P2, hp2, a2, b2, e2⟩ := draw_spec n (get_app h1 (T := [Cell.lst L])) hp1 (by omega) (many := 10) (by decide) (by decide)
  obtain ⟨x, hx, hxm⟩ := atI_in (xs := L) a2 (by rw [Ll]; exact b2)
  obtain ⟨r, rfl, r0, r7⟩ := L7 x hxm
  have s2 : (T.set p (Cell.lst P1) ++ [Cell.lst L]).set p (Cell.lst P2) = T.set p (Cell.lst P2) ++ [Cell.lst L] := by rw [set_app h1, List.set_set]
  rw [s2] at e2
  have tl : (T.set p (Cell.lst P1)).length = (T.set p (Cell.lst P2)).length := by rw [List.length_set, List.length_set]
  have g2 : gIx (.ref (T.set p (Cell.lst P1)).length) (.int d2) (T.set p (Cell.lst P2) ++ [Cell.lst L]) = some (.int r, T.set p (Cell.lst P2) ++ [Cell.lst L]) := gIx_lst (lstAt_lst (by rw [tl]; exact get_end)) hx
  have h2 : (T.set p (Cell.lst P2) ++ [Cell.lst L])[p]? = some (Cell.lst P2) := get_app (get_set h)
  obtain ⟨b, P3, x3, hb, hp3, e3⟩ := fresh_loop n r.toNat 0 (b := ⟨#[c]⟩) (x := none) h2 hp2 (by omega) c1 (by rw [c2]; omega)
  have s3 : (T.set p (Cell.lst P2) ++ [Cell.lst L]).set p (Cell.lst P3) = T.set p (Cell.lst P3) ++ [Cell.lst L] := by rw [set_app (get_set h), List.set_set]
  rw [s3] at e3
  have h3 : (T.set p (Cell.lst P3) ++ [Cell.lst L])[p]? = some (Cell.lst P3) := get_app (get_set h)
  obtain ⟨w, P4, hp4, w0, w4, e4⟩ := draw_spec n h3 hp3 (by omega) (many := 4) (by decide) (by decide)
  have st : ∀ Q, (T.set p (Cell.lst P3) ++ [Cell.lst L]).set p (Cell.lst Q) = T.set p (Cell.lst Q) ++ [Cell.lst L] := fun Q => by rw [set_app (get_set h), List.set_set]
  rw [st] at e4
  have h4 : (T.set p (Cell.lst P4) ++ [Cell.lst L])[p]? = some (Cell.lst P4) := get_app (get_set h)
  have st4 : ∀ Q, (T.set p (Cell.lst P4) ++ [Cell.lst L]).set p (Cell.lst Q) = T.set p (Cell.lst Q) ++ [Cell.lst L] := fun Q => by rw [set_app (get_set h), List.set_set]
  have fin : ∀ {m : Int} {Q : List D}, Pool (N + 20) Q → b__law_fresh (tab (n + 2)) [some (.ref p), none, none, none, none] T = .rt (atD b m) (T.set p (Cell.lst Q) ++ [Cell.lst L]) →
      tab (n + 3) ._law_fresh [.ref p] T = .ok (atD b m) (T.set p (Cell.lst Q)) := fun {m Q} hq e =>
    (runB_rt (np := 1) (ns := 5) (ds := [.ref p]) (g := b__law_fresh (tab (n + 2))) rfl e).trans (cmp_more (by rw [List.length_set]) (SFlat.wf (hT.set hq.flat)) rfl)
  have start : ∀ o, (kIf (sR (eF (tab (n + 2) ._law_numbered) (aC (eV 2) (aC (Dl.e2 gAdd (eC (.int 1)) (eF (tab (n + 2) ._law_draw) (aC (eV 0) (aC (eC (.int 20)) aN)))) aN)))) sP [some (.ref p), some (.str "abcdefghijklmnopqrstuvwxyz"), some (.str b), x3, some (.int w)] (.ok (w == 2) (T.set p (Cell.lst P4) ++ [Cell.lst L]))).seq
      (sQ (sIf (tE (Dl.e2 gEq (eV 4) (eC (.int 3)))) (sR (eF (tab (n + 2) ._law_numbered) (aC (eV 2) (aC (Dl.e2 gAdd (eC (.int 1)) (eF (tab (n + 2) ._law_draw) (aC (eV 0) (aC (eC (.int 999999)) aN)))) aN)))) sP)
        (sR (eF (tab (n + 2) ._law_numbered) (aC (eV 2) (aC (eC (.int 0)) aN))))) = o → b__law_fresh (tab (n + 2)) [some (.ref p), none, none, none, none] T = o := by
    intro o ho
    rw [← ho]
    unfold b__law_fresh
    walk_at "ev"
    rw [e1]
    walk_at "ev"
    rw [g1]
    walk_at "ev"
    have i1 : iR1 (Dl.e2 gIx (eB gLsd (aC (eC (.int 0)) (aC (eC (.int 0)) (aC (eC (.int 1)) (aC (eC (.int 7)) (aC (eC (.int 0)) (aC (eC (.int 2)) (aC (eC (.int 3)) (aC (eC (.int 5)) (aC (eC (.int 4)) (aC (eC (.int 6)) aN))))))))))) (eF (tab (n + 2) ._law_draw) (aC (eV 0) (aC (eC (.int 10)) aN))))
        [some (.ref p), some (.str "abcdefghijklmnopqrstuvwxyz"), some (.str ⟨#[c]⟩), none, none] (T.set p (Cell.lst P1)) = .ok (rng 0 r.toNat, []) (T.set p (Cell.lst P2) ++ [Cell.lst L]) := by
      refine iR1_ok ?_ r0 (by omega)
      walk_at "ev"
      rw [hL, e2]
      walk_at "ev"
      rw [g2]
      walk_at "ev"
    rw [sF_ok i1]
    show (runF _ _ [] (rng 0 r.toNat) _ _).seq _ = _
    rw [e3]
    walk_at "ev"
    rw [e4]
    walk_at "ev"
  by_cases hw2 : w = 2
  · obtain ⟨m, P5, hp5, m0, m1, e5⟩ := draw_spec n h4 hp4 (by omega) (many := 20) (by decide) (by decide)
    rw [st4] at e5
    have q5 : Pool (N + 20) P5 := hp5.mono (by omega)
    refine ⟨b, 1 + m, P5, q5, hb, by omega, by omega, fin q5 (start _ ?_)⟩
    subst hw2
    have en := numbered_spec (n + 1) hb.2 (m := 1 + m) (by omega) (by omega) (T.set p (Cell.lst P5) ++ [Cell.lst L])
    simp only [beq_self_eq_true, kIf_t]
    walk_at "ev"
    rw [e5]
    walk_at "ev"
    rw [en]
    walk_at "ev"
  · have e2' : (w == 2) = false := beq_eq_false_iff_ne.mpr hw2
    by_cases hw3 : w = 3
    · obtain ⟨m, P5, hp5, m0, m1, e5⟩ := draw_spec n h4 hp4 (by omega) (many := 999999) (by decide) (by decide)
      rw [st4] at e5
      have q5 : Pool (N + 20) P5 := hp5.mono (by omega)
      refine ⟨b, 1 + m, P5, q5, hb, by omega, by omega, fin q5 (start _ ?_)⟩
      subst hw3
      have en := numbered_spec (n + 1) hb.2 (m := 1 + m) (by omega) (by omega) (T.set p (Cell.lst P5) ++ [Cell.lst L])
      simp only [e2', kIf_f]
      walk_at "ev"
      simp only [beq_self_eq_true, kIf_t]
      walk_at "ev"
      rw [e5]
      walk_at "ev"
      rw [en]
      walk_at "ev"
    · have e3' : (w == 3) = false := beq_eq_false_iff_ne.mpr hw3
      have q5 : Pool (N + 20) P4 := hp4.mono (by omega)
      refine ⟨b, 0, P4, q5, hb, by omega, by omega, fin q5 (start _ ?_)⟩
      have en := numbered_spec (n + 1) hb.2 (m := 0) (by omega) (by omega) (T.set p (Cell.lst P4) ++ [Cell.lst L])
      simp only [e2', kIf_f]
      walk_at "ev"
      simp only [e3', kIf_f]
      walk_at "ev"
      rw [en]
      walk_at "ev"
end Lw

set_option Elab.async false
set_option linter.all false
set_option maxRecDepth 100000
namespace Lw
open PySem L2 Dl
local macro_rules | `(tactic| walk_at "ev") => `(tactic| simp (disch := first | omega | assumption | (simp only [List.length_cons, List.length_nil]; omega)) only [sQ_, sP_, sE_, sR_, sIf_, sN_, sA_, tgO_nx, nm_, tgIx_, eC_, eV0, eV1, e1_, e2_, eB_, eF_, aN_, aC_, eMt_, eSl_, oN_, oI_, tV_, tE_, tA_, tO_, tN_, eIf_, eAnd_, eOr_, eNot_, eCh_,
  seq_nx, seq_rt, seq_bk, seq_ct, seq_ex, toR_some, toR_none, toT_some, truD_bl, truD_int, truD_tup, tyD_str, tyD_tup, tyD_int, tyD_bl, tyD_non,
  kE_, kR_, kIf_t, kIf_f, kN_, kA_, kIx1_, kIx2_, kIx3_, kE1_, kE21_, kE2_, kB_, kF_, kC1_, kC_, kM1_, kM2_, kM_, kS1_, kS2_, kS3_, kO_, kV_, kT_, kAn_t, kAn_f, kOr_t, kOr_f, kNo_, kIfE_t, kIfE_f, kVa_, kVa2_t, kVa2_f, kVo_, kVo2_t, kVo2_f, kVn_, kVn2_, kH_, kH1_, kH2_t, kH2_f, kH3_,
  List.getElem?_cons_zero, List.getElem?_cons_succ, List.set_cons_zero, List.set_cons_succ, gAdd_int, gAdd_str, gSub_int, gMul_l, gMul_r, gFdiv_int, gMod_int, gLt_int, gLe_int, gGt_int, gGe_int, gInt_int, gAbs_int, gLen_tup, gLen_str, gTpl_, gLsd_,
  Bool.false_eq_true, if_true, if_false, reduceIte, Option.map_some, Option.bind_some, gEq_int, gNe_int, gEq_str, gNe_str, Bool.not_true, Bool.not_false, decide_true, decide_false, List.length_singleton, List.length_cons, List.length_nil, List.map_cons, List.map_nil, Nat.sub_self, List.replicate_zero, List.append_nil, List.cons_append, List.nil_append, List.replicate_succ, Nat.reduceSub, Nat.reduceAdd, Nat.add_zero, Nat.zero_add, tgT_, tgL0, tgL1])
local macro_rules | `(tactic| walk_at "evs") => `(tactic| simp (disch := first | omega | assumption | (simp only [List.length_cons, List.length_nil]; omega)) only [sQ_, sP_, sE_, sR_, sIf_, sN_, sA_, tgO_nx, nm_, tgIx_, eC_, eV0, eV1, e1_, e2_, eB_, eF_, aN_, aC_, eMt_, eSl_, oN_, oI_, tV_, tE_, tA_, tO_, tN_, eIf_, eAnd_, eOr_, eNot_, eCh_,
  seq_nx, seq_rt, seq_bk, seq_ct, seq_ex, toR_some, toR_none, toT_some, truD_bl, truD_int, truD_tup, tyD_str, tyD_tup, tyD_int, tyD_bl, tyD_non,
  kE_, kR_, kIf_t, kIf_f, kN_, kA_, kIx1_, kIx2_, kIx3_, kE1_, kE21_, kE2_, kB_, kF_, kC1_, kC_, kM1_, kM2_, kM_, kS1_, kS2_, kS3_, kO_, kV_, kT_, kAn_t, kAn_f, kOr_t, kOr_f, kNo_, kIfE_t, kIfE_f, kVa_, kVa2_t, kVa2_f, kVo_, kVo2_t, kVo2_f, kVn_, kVn2_, kH_, kH1_, kH2_t, kH2_f, kH3_,
  List.getElem?_cons_zero, List.getElem?_cons_succ, List.set_cons_zero, List.set_cons_succ, gAdd_int, gAdd_str, gSub_int, gMul_l, gMul_r, gFdiv_int, gMod_int, gLt_int, gLe_int, gGt_int, gGe_int, gInt_int, gAbs_int, gLen_tup, gLen_str, gTpl_, gLsd_,
  Bool.false_eq_true, if_true, if_false, reduceIte, Option.map_some, Option.bind_some, gEq_int, gNe_int, gEq_str, gNe_str, Bool.not_true, Bool.not_false, decide_true, decide_false, List.length_singleton, List.length_cons, List.length_nil, List.map_cons, List.map_nil, Nat.sub_self, List.replicate_zero, List.append_nil, List.cons_append, List.nil_append, List.replicate_succ, Nat.reduceSub, Nat.reduceAdd, Nat.add_zero, Nat.zero_add, tgT_, tgL0, tgL1, *])
/-! ## the lot -/
def AtomsL (A : List D) : Prop := ∀ d ∈ A, ∃ b m, d = atD b m ∧ Base b ∧ 0 ≤ m ∧ m ≤ 999999
theorem AtomsL.flat : ∀ {A : List D}, AtomsL A → flats A = true
  | [], _ => rfl
  | d :: A, h => by
    obtain ⟨b, m, rfl, _⟩ := h d (List.mem_cons_self ..)
    show (true && flats A) = true
    rw [AtomsL.flat (A := A) fun x hx => h x (List.mem_cons_of_mem _ hx)]
    rfl
theorem AtomsL.append {A B : List D} (a : AtomsL A) (b : AtomsL B) : AtomsL (A ++ B) := fun d hd => (List.mem_append.mp hd).elim (a d) (b d)
theorem AtomsL.one {b : Str} {m : Int} (hb : Base b) (h0 : 0 ≤ m) (h1 : m ≤ 999999) : AtomsL [atD b m] := fun d hd => ⟨b, m, List.mem_singleton.mp hd, hb, h0, h1⟩
theorem get_end' {S : Store} {c : Cell} {l : Nat} (h : l = S.length) : (S ++ [c])[l]? = some c := by rw [h]; exact get_end
theorem set_end' {S : Store} {c d : Cell} {l : Nat} (h : l = S.length) : (S ++ [c]).set l d = S ++ [d] := by rw [h]; exact set_end
theorem lot_spec (n : Nat) {N p : Nat} {T : Store} {P : List D} (h : T[p]? = some (.lst P)) (hp : Pool N P) (hN : N + 100 ≤ 1000000) (hT : SFlat T) :
    ∃ A P', Pool (N + 100) P' ∧ AtomsL A ∧ A.length = 4 ∧ tab (n + 4) ._law_lot [.ref p] T = .ok (.ref T.length) (T.set p (Cell.lst P') ++ [Cell.lst A]) := by
  obtain ⟨b1, m1, P1, hp1, hb1, i1, j1, e1⟩ := fresh_spec n h hp (by omega) hT
  obtain ⟨b2, m2, P2, hp2, hb2, i2, j2, e2⟩ := fresh_spec n (get_set h (d := .lst P1)) hp1 (by omega) (hT.set hp1.flat)
  rw [List.set_set] at e2
  obtain ⟨b3, m3, P3, hp3, hb3, i3, j3, e3⟩ := fresh_spec n (get_set h (d := .lst P2)) hp2 (by omega) (hT.set hp2.flat)
  rw [List.set_set] at e3
  have tl : T.length = (T.set p (Cell.lst P3)).length := by rw [List.length_set]
  have tls : ∀ Q, T.length = (T.set p (Cell.lst Q)).length := fun Q => by rw [List.length_set]
  have g0 : ∀ Q, gIx (.ref T.length) (.int 0) (T.set p (Cell.lst Q) ++ [Cell.lst [atD b1 m1, atD b2 m2, atD b3 m3]]) = some (atD b1 m1, T.set p (Cell.lst Q) ++ [Cell.lst [atD b1 m1, atD b2 m2, atD b3 m3]]) := fun Q => gIx_lst (lstAt_lst (get_end' (tls Q))) rfl
  have gb : ∀ (S : Store), gIx (atD b1 m1) (.int 1) S = some (.str b1, S) := fun S => gIx_tup rfl
  have gm : ∀ (S : Store), gIx (atD b1 m1) (.int 2) S = some (.int m1, S) := fun S => gIx_tup rfl
  have ga : ∀ Q d, gAppend (.ref T.length) [d] (T.set p (Cell.lst Q) ++ [Cell.lst [atD b1 m1, atD b2 m2, atD b3 m3]]) = some (.non, T.set p (Cell.lst Q) ++ [Cell.lst [atD b1 m1, atD b2 m2, atD b3 m3, d]]) := fun Q d => by
    rw [gAppend_ (get_end' (tls Q)) (by show 3 < 16777216; decide), set_end' (tls Q)]
    rfl
  have ty : ∀ Q, tyD (T.set p (Cell.lst Q) ++ [Cell.lst [atD b1 m1, atD b2 m2, atD b3 m3]]) (.ref T.length) = some .lst := fun Q => tyD_lst (get_end' (tls Q))
  have gl : gLsd [atD b1 m1, atD b2 m2, atD b3 m3] (T.set p (Cell.lst P3)) = some (.ref T.length, T.set p (Cell.lst P3) ++ [Cell.lst [atD b1 m1, atD b2 m2, atD b3 m3]]) := by
    rw [gLsd_ (by show 3 ≤ 16777216; decide), ← tl]
  have fin : ∀ {m : Int} {Q : List D}, Pool (N + 100) Q → 0 ≤ m → m ≤ 999999 → b__law_lot (tab (n + 3)) [some (.ref p), none, none, none] T = .rt (.ref T.length) (T.set p (Cell.lst Q) ++ [Cell.lst [atD b1 m1, atD b2 m2, atD b3 m3, atD b1 m]]) →
      ∃ A P', Pool (N + 100) P' ∧ AtomsL A ∧ A.length = 4 ∧ tab (n + 4) ._law_lot [.ref p] T = .ok (.ref T.length) (T.set p (Cell.lst P') ++ [Cell.lst A]) := fun {m Q} hq h0 h1 e =>
    ⟨[atD b1 m1, atD b2 m2, atD b3 m3, atD b1 m], Q, hq, (AtomsL.one hb1 i1 j1).append ((AtomsL.one hb2 i2 j2).append ((AtomsL.one hb3 i3 j3).append (AtomsL.one hb1 h0 h1))), rfl,
      (runB_rt (np := 1) (ns := 4) (ds := [.ref p]) (g := b__law_lot (tab (n + 3))) rfl e).trans (cmp_new (by rw [List.length_set]) (SFlat.wf (hT.set hq.flat)) (Nat.le_refl _) (get_end' (tls Q)) rfl)⟩
  have en0 : ∀ S, tab (n + 3) ._law_numbered [.str b1, .int 0] S = .ok (atD b1 0) S := fun S => numbered_spec (n + 2) hb1.2 (by decide) (by decide) S
  have k0 : 0 ≤ m1 % 999999 := Int.emod_nonneg _ (by decide)
  have k1 : m1 % 999999 < 999999 := Int.emod_lt_of_pos _ (by decide)
  have en1 : ∀ S, tab (n + 3) ._law_numbered [.str b1, .int (m1 % 999999 + 1)] S = .ok (atD b1 (m1 % 999999 + 1)) S := fun S => numbered_spec (n + 2) hb1.2 (by omega) (by omega) S
  by_cases hm : 0 < m1
  · obtain ⟨d, P4, hp4, d0, d1, e4⟩ := draw_spec (n + 1) (get_app (get_set h (d := .lst P3)) (T := [Cell.lst [atD b1 m1, atD b2 m2, atD b3 m3]])) hp3 (by omega) (many := 2) (by decide) (by decide)
    rw [set_app (get_set h), List.set_set] at e4
    have hm' : decide (0 < m1) = true := decide_eq_true hm
    by_cases hd : d = 0
    · subst hd
      refine fin (m := 0) (Q := P4) (hp4.mono (by omega)) (by decide) (by decide) ?_
      unfold b__law_lot
      walk_at "ev"
      rw [e1]
      walk_at "ev"
      rw [e2]
      walk_at "ev"
      rw [e3]
      walk_at "ev"
      rw [← tl]
      rw [g0]
      walk_at "ev"
      rw [gb]
      walk_at "ev"
      rw [g0]
      walk_at "ev"
      rw [gm]
      walk_at "ev"
      rw [hm']
      walk_at "ev"
      rw [e4]
      walk_at "ev"
      simp only [beq_self_eq_true, kIf_t]
      walk_at "ev"
      rw [ty]
      walk_at "ev"
      rw [en0]
      walk_at "ev"
      rw [ga]
      walk_at "ev"
    · have hd' : (d == 0) = false := beq_eq_false_iff_ne.mpr hd
      refine fin (m := m1 % 999999 + 1) (Q := P4) (hp4.mono (by omega)) (by omega) (by omega) ?_
      unfold b__law_lot
      walk_at "ev"
      rw [e1]
      walk_at "ev"
      rw [e2]
      walk_at "ev"
      rw [e3]
      walk_at "ev"
      rw [← tl]
      rw [g0]
      walk_at "ev"
      rw [gb]
      walk_at "ev"
      rw [g0]
      walk_at "ev"
      rw [gm]
      walk_at "ev"
      rw [hm']
      walk_at "ev"
      rw [e4]
      walk_at "ev"
      rw [hd']
      walk_at "ev"
      rw [ty]
      walk_at "ev"
      rw [en1]
      walk_at "ev"
      rw [ga]
      walk_at "ev"
  · have hm' : decide (0 < m1) = false := decide_eq_false hm
    refine fin (m := m1 % 999999 + 1) (Q := P3) (hp3.mono (by omega)) (by omega) (by omega) ?_
    unfold b__law_lot
    walk_at "ev"
    rw [e1]
    walk_at "ev"
    rw [e2]
    walk_at "ev"
    rw [e3]
    walk_at "ev"
    rw [← tl]
    rw [g0]
    walk_at "ev"
    rw [gb]
    walk_at "ev"
    rw [g0]
    walk_at "ev"
    rw [gm]
    walk_at "ev"
    rw [hm']
    walk_at "ev"
    rw [ty]
    walk_at "ev"
    rw [en1]
    walk_at "ev"
    rw [ga]
    walk_at "ev"
/-! ## the row -/
theorem comm3 {T : Store} {p w : Nat} {a b c d : Cell} (h : p ≠ w) : (((T.set p a).set w b).set p c).set w d = (T.set p c).set w d := by
  rw [List.set_comm _ _ (Ne.symm h) , List.set_set, List.set_set]
theorem row_loop (n : Nat) {p l w : Nat} {many : D} {A : List D} (hA : AtomsL A) (hA4 : A.length = 4) (hpl : p ≠ l) (hpw : p ≠ w) (hlw : l ≠ w) : ∀ (r : Nat) (lo : Int) {N : Nat} {T : Store} {P R : List D} {x y : Option D}
    (h : T[p]? = some (Cell.lst P)) (hl : T[l]? = some (Cell.lst A)) (hw : T[w]? = some (Cell.lst R)) (hp : Pool N P) (hN : N + 30 * r ≤ 900000) (hT : SFlat T) (hR : AtomsL R) (hz : R.length + r ≤ 1000),
    ∃ P' R' x' y', Pool (N + 30 * r) P' ∧ AtomsL R' ∧ R'.length = R.length + r ∧ runF (nm 4) (sQ (sN 5 (eF (tab (n + 3) ._law_draw) (aC (eV 0) (aC (eC (.int 6)) aN))))
      (sIf (tE (Dl.e2 gLt (eV 5) (eC (.int 4)))) (sE (eMt .lst gAppend (eV 3) (aC (Dl.e2 gIx (eV 1) (eV 5)) aN))) (sIf (tE (Dl.e2 gEq (eV 5) (eC (.int 4)))) (sE (eMt .lst gAppend (eV 3) (aC (Dl.e2 gIx (eV 1) (eC (.int 0))) aN))) (sE (eMt .lst gAppend (eV 3) (aC (eF (tab (n + 3) ._law_fresh) (aC (eV 0) aN)) aN))))))
      [] (rng lo r) [some (.ref p), some (.ref l), some many, some (.ref w), x, y] T = .nx [some (.ref p), some (.ref l), some many, some (.ref w), x', y'] ((T.set p (Cell.lst P')).set w (Cell.lst R'))
  | 0, lo, N, T, P, R, x, y, h, hl, hw, hp, hN, hT, hR, hz => ⟨P, R, x, y, hp, hR, rfl, by rw [set_self h, set_self hw]; exact runF_nil chk_nil⟩
  | r + 1, lo, N, T, P, R, x, y, h, hl, hw, hp, hN, hT, hR, hz => by
    obtain ⟨d, P1, hp1, d0, d6, e1⟩ := draw_spec (n + 1) h hp (by omega) (many := 6) (by decide) (by decide)
    have wq : ∀ Q, (T.set p (Cell.lst Q))[w]? = some (Cell.lst R) := fun Q => by rw [List.getElem?_set_ne hpw]; exact hw
    have lq : ∀ Q, (T.set p (Cell.lst Q))[l]? = some (Cell.lst A) := fun Q => by rw [List.getElem?_set_ne hpl]; exact hl
    have ga : ∀ Q a, gAppend (.ref w) [a] (T.set p (Cell.lst Q)) = some (.non, (T.set p (Cell.lst Q)).set w (Cell.lst (R ++ [a]))) := fun Q a => gAppend_ (wq Q) (by omega)
    have ty : ∀ Q, tyD (T.set p (Cell.lst Q)) (.ref w) = some .lst := fun Q => tyD_lst (wq Q)
    -- one turn
    have turn : ∃ Q a, Pool (N + 30) Q ∧ AtomsL [a] ∧ (sQ (sN 5 (eF (tab (n + 3) ._law_draw) (aC (eV 0) (aC (eC (.int 6)) aN))))
      (sIf (tE (Dl.e2 gLt (eV 5) (eC (.int 4)))) (sE (eMt .lst gAppend (eV 3) (aC (Dl.e2 gIx (eV 1) (eV 5)) aN))) (sIf (tE (Dl.e2 gEq (eV 5) (eC (.int 4)))) (sE (eMt .lst gAppend (eV 3) (aC (Dl.e2 gIx (eV 1) (eC (.int 0))) aN))) (sE (eMt .lst gAppend (eV 3) (aC (eF (tab (n + 3) ._law_fresh) (aC (eV 0) aN)) aN)))))) 
      [some (.ref p), some (.ref l), some many, some (.ref w), some (.int lo), y] T = .nx [some (.ref p), some (.ref l), some many, some (.ref w), some (.int lo), some (.int d)] ((T.set p (Cell.lst Q)).set w (Cell.lst (R ++ [a]))) := by
      by_cases c4 : d < 4
      · obtain ⟨a, ha, hm⟩ := atI_in (xs := A) d0 (by rw [hA4]; exact c4)
        have hd : decide (d < 4) = true := decide_eq_true c4
        have gi : gIx (.ref l) (.int d) (T.set p (Cell.lst P1)) = some (a, T.set p (Cell.lst P1)) := gIx_lst (lstAt_lst (lq P1)) ha
        refine ⟨P1, a, hp1.mono (by omega), fun z hz => by rw [List.mem_singleton.mp hz]; exact hA a hm, ?_⟩
        walk_at "ev"
        rw [e1]
        walk_at "ev"
        rw [hd]
        walk_at "ev"
        rw [ty]
        walk_at "ev"
        rw [gi]
        walk_at "ev"
        rw [ga]
        walk_at "ev"
      · have hd : decide (d < 4) = false := decide_eq_false c4
        by_cases c5 : d = 4
        · obtain ⟨a, ha, hm⟩ := atI_in (xs := A) (k := 0) (by decide) (by rw [hA4]; decide)
          have gi : gIx (.ref l) (.int 0) (T.set p (Cell.lst P1)) = some (a, T.set p (Cell.lst P1)) := gIx_lst (lstAt_lst (lq P1)) ha
          have hd5 : (d == 4) = true := beq_iff_eq.mpr c5
          refine ⟨P1, a, hp1.mono (by omega), fun z hz => by rw [List.mem_singleton.mp hz]; exact hA a hm, ?_⟩
          walk_at "ev"
          rw [e1]
          walk_at "ev"
          rw [hd]
          walk_at "ev"
          rw [hd5]
          walk_at "ev"
          rw [ty]
          walk_at "ev"
          rw [gi]
          walk_at "ev"
          rw [ga]
          walk_at "ev"
        · have hd5 : (d == 4) = false := beq_eq_false_iff_ne.mpr c5
          obtain ⟨b, m, P2, hp2, hb, m0, m1, e2⟩ := fresh_spec n (get_set h (d := .lst P1)) hp1 (by omega) (hT.set hp1.flat)
          rw [List.set_set] at e2
          refine ⟨P2, atD b m, hp2.mono (by omega), AtomsL.one hb m0 m1, ?_⟩
          walk_at "ev"
          rw [e1]
          walk_at "ev"
          rw [hd]
          walk_at "ev"
          rw [hd5]
          walk_at "ev"
          rw [ty]
          walk_at "ev"
          rw [e2]
          walk_at "ev"
          rw [ga]
          walk_at "ev"
    obtain ⟨Q, a, hq, ha, et⟩ := turn
    have hR' : AtomsL (R ++ [a]) := hR.append ha
    have h2 : ((T.set p (Cell.lst Q)).set w (Cell.lst (R ++ [a])))[p]? = some (Cell.lst Q) := by rw [List.getElem?_set_ne (Ne.symm hpw)]; exact get_set h
    have l2 : ((T.set p (Cell.lst Q)).set w (Cell.lst (R ++ [a])))[l]? = some (Cell.lst A) := by rw [List.getElem?_set_ne (Ne.symm hlw)]; exact lq Q
    have w2 : ((T.set p (Cell.lst Q)).set w (Cell.lst (R ++ [a])))[w]? = some (Cell.lst (R ++ [a])) := get_set (wq Q)
    obtain ⟨P', R', x', y', q1, q2, q3, q4⟩ := row_loop n hA hA4 hpl hpw hlw r (lo + 1) (x := some (.int lo)) (y := some (.int d)) h2 l2 w2 hq (by omega) ((hT.set (c := Cell.lst Q) hq.flat).set (c := Cell.lst (R ++ [a])) hR'.flat) hR' (by rw [List.length_append, List.length_singleton]; omega)
    refine ⟨P', R', x', y', by rw [show N + 30 * (r + 1) = N + 30 + 30 * r by omega]; exact q1, q2, by rw [q3, List.length_append, List.length_singleton]; omega, ?_⟩
    rw [rng_succ, runF_cons chk_nil (d := .int lo) (ρ1 := [some (.ref p), some (.ref l), some many, some (.ref w), some (.int lo), y]) (S1 := T) rfl et, q4, comm3 hpw]
end Lw

set_option Elab.async false
set_option linter.all false
set_option maxRecDepth 100000
namespace Lw
open PySem L2 Dl
local macro_rules | `(tactic| walk_at "ev") => `(tactic| simp (disch := first | omega | assumption | (simp only [List.length_cons, List.length_nil]; omega)) only [sQ_, sP_, sE_, sR_, sIf_, sN_, sA_, tgO_nx, nm_, tgIx_, eC_, eV0, eV1, e1_, e2_, eB_, eF_, aN_, aC_, eMt_, eSl_, oN_, oI_, tV_, tE_, tA_, tO_, tN_, eIf_, eAnd_, eOr_, eNot_, eCh_,
  seq_nx, seq_rt, seq_bk, seq_ct, seq_ex, toR_some, toR_none, toT_some, truD_bl, truD_int, truD_tup, tyD_str, tyD_tup, tyD_int, tyD_bl, tyD_non,
  kE_, kR_, kIf_t, kIf_f, kN_, kA_, kIx1_, kIx2_, kIx3_, kE1_, kE21_, kE2_, kB_, kF_, kC1_, kC_, kM1_, kM2_, kM_, kS1_, kS2_, kS3_, kO_, kV_, kT_, kAn_t, kAn_f, kOr_t, kOr_f, kNo_, kIfE_t, kIfE_f, kVa_, kVa2_t, kVa2_f, kVo_, kVo2_t, kVo2_f, kVn_, kVn2_, kH_, kH1_, kH2_t, kH2_f, kH3_,
  List.getElem?_cons_zero, List.getElem?_cons_succ, List.set_cons_zero, List.set_cons_succ, gAdd_int, gAdd_str, gSub_int, gMul_l, gMul_r, gFdiv_int, gMod_int, gLt_int, gLe_int, gGt_int, gGe_int, gInt_int, gAbs_int, gLen_tup, gLen_str, gTpl_, gLsd_,
  Bool.false_eq_true, if_true, if_false, reduceIte, Option.map_some, Option.bind_some, gEq_int, gNe_int, gEq_str, gNe_str, Bool.not_true, Bool.not_false, decide_true, decide_false, List.length_singleton, List.length_cons, List.length_nil, List.map_cons, List.map_nil, Nat.sub_self, List.replicate_zero, List.append_nil, List.cons_append, List.nil_append, List.replicate_succ, Nat.reduceSub, Nat.reduceAdd, Nat.add_zero, Nat.zero_add, tgT_, tgL0, tgL1])
local macro_rules | `(tactic| walk_at "evs") => `(tactic| simp (disch := first | omega | assumption | (simp only [List.length_cons, List.length_nil]; omega)) only [sQ_, sP_, sE_, sR_, sIf_, sN_, sA_, tgO_nx, nm_, tgIx_, eC_, eV0, eV1, e1_, e2_, eB_, eF_, aN_, aC_, eMt_, eSl_, oN_, oI_, tV_, tE_, tA_, tO_, tN_, eIf_, eAnd_, eOr_, eNot_, eCh_,
  seq_nx, seq_rt, seq_bk, seq_ct, seq_ex, toR_some, toR_none, toT_some, truD_bl, truD_int, truD_tup, tyD_str, tyD_tup, tyD_int, tyD_bl, tyD_non,
  kE_, kR_, kIf_t, kIf_f, kN_, kA_, kIx1_, kIx2_, kIx3_, kE1_, kE21_, kE2_, kB_, kF_, kC1_, kC_, kM1_, kM2_, kM_, kS1_, kS2_, kS3_, kO_, kV_, kT_, kAn_t, kAn_f, kOr_t, kOr_f, kNo_, kIfE_t, kIfE_f, kVa_, kVa2_t, kVa2_f, kVo_, kVo2_t, kVo2_f, kVn_, kVn2_, kH_, kH1_, kH2_t, kH2_f, kH3_,
  List.getElem?_cons_zero, List.getElem?_cons_succ, List.set_cons_zero, List.set_cons_succ, gAdd_int, gAdd_str, gSub_int, gMul_l, gMul_r, gFdiv_int, gMod_int, gLt_int, gLe_int, gGt_int, gGe_int, gInt_int, gAbs_int, gLen_tup, gLen_str, gTpl_, gLsd_,
  Bool.false_eq_true, if_true, if_false, reduceIte, Option.map_some, Option.bind_some, gEq_int, gNe_int, gEq_str, gNe_str, Bool.not_true, Bool.not_false, decide_true, decide_false, List.length_singleton, List.length_cons, List.length_nil, List.map_cons, List.map_nil, Nat.sub_self, List.replicate_zero, List.append_nil, List.cons_append, List.nil_append, List.replicate_succ, Nat.reduceSub, Nat.reduceAdd, Nat.add_zero, Nat.zero_add, tgT_, tgL0, tgL1, *])
/-! ## the row, whole -/
theorem list_set_app2 {T G : Store} {p : Nat} {c d : Cell} (h : T[p]? = some c) : (T ++ G ++ [e]).set p d = T.set p d ++ (G ++ [e]) := by
  rw [List.append_assoc, set_app h]
noncomputable def rowTail (n : Nat) : SX := (sQ (sN 3 (eB gLsd aN))
  (sQ (sF (iR1 (eV 2)) (nm 4) (sQ (sN 5 (eF (tab (n + 3) ._law_draw) (aC (eV 0) (aC (eC (.int 6)) aN))))
  (sIf (tE (Dl.e2 gLt (eV 5) (eC (.int 4)))) (sE (eMt .lst gAppend (eV 3) (aC (Dl.e2 gIx (eV 1) (eV 5)) aN))) (sIf (tE (Dl.e2 gEq (eV 5) (eC (.int 4)))) (sE (eMt .lst gAppend (eV 3) (aC (Dl.e2 gIx (eV 1) (eC (.int 0))) aN))) (sE (eMt .lst gAppend (eV 3) (aC (eF (tab (n + 3) ._law_fresh) (aC (eV 0) aN)) aN)))))))
  (sR (eV 3))))
theorem row_tail (n : Nat) {p l N : Nat} {m : Int} {T G : Store} {P A : List D} (hA : AtomsL A) (hA4 : A.length = 4) (hpl : p ≠ l) (h : T[p]? = some (Cell.lst P)) (hl : T[l]? = some (Cell.lst A)) (hp : Pool N P) (hN : N ≤ 800000) (hT : SFlat T) (hG : SFlat G) (m0 : 1 ≤ m) (m1 : m ≤ 40) :
    ∃ P' R, Pool (N + 1200) P' ∧ AtomsL R ∧ R.length = m.toNat ∧ rowTail n [some (.ref p), some (.ref l), some (.int m), none, none, none] (T ++ G) = .rt (.ref (T ++ G).length) (T.set p (Cell.lst P') ++ (G ++ [Cell.lst R])) := by
  have lp := get_lt h
  have ll := get_lt hl
  have hw : (T ++ G ++ [Cell.lst []])[(T ++ G).length]? = some (Cell.lst []) := get_end
  obtain ⟨P', R, x', y', q1, q2, q3, q4⟩ := row_loop n hA hA4 hpl (w := (T ++ G).length) (many := .int m) (by rw [List.length_append]; omega) (by rw [List.length_append]; omega) m.toNat 0 (N := N) (P := P) (x := none) (y := none) (get_app (get_app h)) (get_app (get_app hl)) hw hp (by omega) (by
      intro c hc
      rcases List.mem_append.mp hc with q | q
      · rcases List.mem_append.mp q with q | q
        · exact hT c q
        · exact hG c q
      · rw [List.mem_singleton.mp q]; rfl) (fun d hd => nomatch hd) (by show 0 + _ ≤ _; omega)
  refine ⟨P', R, q1.mono (by omega), q2, by rw [q3]; show 0 + _ = _; omega, ?_⟩
  unfold rowTail
  walk_at "ev"
  rw [sF_ok (iR1_ok (j := m) rfl (by omega) (by omega)), q4]
  walk_at "ev"
  rw [list_set_app2 h, ← List.append_assoc, set_end' (by rw [List.length_append, List.length_append, List.length_set]), List.append_assoc]
theorem row_spec (n : Nat) {p l N : Nat} {T : Store} {P A : List D} (hA : AtomsL A) (hA4 : A.length = 4) (hpl : p ≠ l) (h : T[p]? = some (Cell.lst P)) (hl : T[l]? = some (Cell.lst A)) (hp : Pool N P) (hN : N ≤ 700000) (hT : SFlat T) :
    ∃ P' R, Pool (N + 1300) P' ∧ AtomsL R ∧ 1 ≤ R.length ∧ R.length ≤ 40 ∧ tab (n + 4) ._law_row [.ref p, .ref l] T = .ok (.ref T.length) (T.set p (Cell.lst P') ++ [Cell.lst R]) := by
  obtain ⟨d1, P1, hp1, a0, a1, e1⟩ := draw_spec (n + 1) h hp (by omega) (many := 8) (by decide) (by decide)
  obtain ⟨d2, P2, hp2, b0, b1, e2⟩ := draw_spec (n + 1) (get_set h (d := .lst P1)) hp1 (by omega) (many := 8) (by decide) (by decide)
  rw [List.set_set] at e2
  have lq : ∀ Q, (T.set p (Cell.lst Q))[l]? = some (Cell.lst A) := fun Q => by rw [List.getElem?_set_ne hpl]; exact hl
  by_cases hd : d2 = 7
  · subst hd
    obtain ⟨d3, P3, hp3, c0, c1, e3⟩ := draw_spec (n + 1) (get_set h (d := .lst P2)) hp2 (by omega) (many := 32) (by decide) (by decide)
    rw [List.set_set] at e3
    obtain ⟨d4, P4, hp4, f0, f1, e4⟩ := draw_spec (n + 1) (get_app (get_set h (d := .lst P3)) (T := [Cell.lst [.int 40, .int 39, .int (9 + d3)]])) hp3 (by omega) (many := 3) (by decide) (by decide)
    rw [set_app (get_set h), List.set_set] at e4
    obtain ⟨v, hv, m0, m1⟩ : ∃ v : Int, atI [D.int 40, .int 39, .int (9 + d3)] d4 = some (.int v) ∧ 1 ≤ v ∧ v ≤ 40 := by
      obtain ⟨v, hv, hm⟩ := atI_in (xs := [D.int 40, .int 39, .int (9 + d3)]) f0 f1
      rcases List.mem_cons.mp hm with q | hm
      · exact ⟨40, by rw [hv, q], by decide, by decide⟩
      rcases List.mem_cons.mp hm with q | hm
      · exact ⟨39, by rw [hv, q], by decide, by decide⟩
      · exact ⟨9 + d3, by rw [hv, List.mem_singleton.mp hm], by omega, by omega⟩
    have tl : T.length = (T.set p (Cell.lst P3)).length := by rw [List.length_set]
    have gv : gIx (.ref (T.set p (Cell.lst P3)).length) (.int d4) (T.set p (Cell.lst P4) ++ [Cell.lst [.int 40, .int 39, .int (9 + d3)]]) = some (.int v, T.set p (Cell.lst P4) ++ [Cell.lst [.int 40, .int 39, .int (9 + d3)]]) :=
      gIx_lst (lstAt_lst (get_end' (by rw [List.length_set, List.length_set]))) hv
    obtain ⟨P', R, q1, q2, q3, q4⟩ := row_tail n (m := v) hA hA4 hpl (get_set h (d := .lst P4)) (lq P4) hp4 (by omega) (hT.set (c := Cell.lst P4) hp4.flat) (G := [Cell.lst [.int 40, .int 39, .int (9 + d3)]]) (fun c hc => by rw [List.mem_singleton.mp hc]; rfl) m0 m1
    rw [List.set_set] at q4
    have hb : b__law_row (tab (n + 3)) [some (.ref p), some (.ref l), none, none, none, none] T = .rt (.ref (T.set p (Cell.lst P4) ++ [Cell.lst [.int 40, .int 39, .int (9 + d3)]]).length) (T.set p (Cell.lst P') ++ ([Cell.lst [.int 40, .int 39, .int (9 + d3)]] ++ [Cell.lst R])) := by
      unfold b__law_row
      change sQ _ (sQ _ (rowTail n)) _ _ = _
      walk_at "ev"
      rw [e1]
      walk_at "ev"
      rw [e2]
      walk_at "ev"
      simp only [beq_self_eq_true, kIf_t]
      walk_at "ev"
      rw [e3]
      walk_at "ev"
      rw [e4]
      walk_at "ev"
      rw [gv]
      walk_at "ev"
      exact q4
    exact ⟨P', R, q1.mono (by omega), q2, by omega, by omega, (runB_rt (np := 2) (ns := 6) (ds := [.ref p, .ref l]) (g := b__law_row (tab (n + 3))) rfl hb).trans (cmp_new (by rw [List.length_set]) (SFlat.wf (hT.set (c := Cell.lst P') q1.flat)) (by rw [List.length_append, List.length_set]; omega) (by rw [← List.append_assoc]; exact get_end' (by rw [List.length_append, List.length_append, List.length_set, List.length_set])) (wfs_flat q2.flat))⟩
  · have hd' : (d2 == 7) = false := beq_eq_false_iff_ne.mpr hd
    obtain ⟨P', R, q1, q2, q3, q4⟩ := row_tail n (m := 1 + d1) hA hA4 hpl (get_set h (d := .lst P2)) (lq P2) hp2 (by omega) (hT.set (c := Cell.lst P2) hp2.flat) (G := []) (fun c hc => nomatch hc) (by omega) (by omega)
    rw [List.set_set, List.append_nil] at q4
    have hb : b__law_row (tab (n + 3)) [some (.ref p), some (.ref l), none, none, none, none] T = .rt (.ref (T.set p (Cell.lst P2)).length) (T.set p (Cell.lst P') ++ ([] ++ [Cell.lst R])) := by
      unfold b__law_row
      change sQ _ (sQ _ (rowTail n)) _ _ = _
      walk_at "ev"
      rw [e1]
      walk_at "ev"
      rw [e2]
      walk_at "ev"
      rw [hd']
      walk_at "ev"
      exact q4
    exact ⟨P', R, q1.mono (by omega), q2, by omega, by omega, (runB_rt (np := 2) (ns := 6) (ds := [.ref p, .ref l]) (g := b__law_row (tab (n + 3))) rfl hb).trans (cmp_new (by rw [List.length_set]) (SFlat.wf (hT.set (c := Cell.lst P') q1.flat)) (by rw [List.length_set]; omega) (by exact get_end' (by rw [List.length_set, List.length_set])) (wfs_flat q2.flat))⟩
end Lw

set_option Elab.async false
set_option linter.all false
set_option maxRecDepth 100000
namespace Lw
open PySem L2 Dl
local macro_rules | `(tactic| walk_at "ev") => `(tactic| simp (disch := first | omega | assumption | (simp only [List.length_cons, List.length_nil]; omega)) only [sQ_, sP_, sE_, sR_, sIf_, sN_, sA_, tgO_nx, nm_, tgIx_, eC_, eV0, eV1, e1_, e2_, eB_, eF_, aN_, aC_, eMt_, eSl_, oN_, oI_, tV_, tE_, tA_, tO_, tN_, eIf_, eAnd_, eOr_, eNot_, eCh_,
  seq_nx, seq_rt, seq_bk, seq_ct, seq_ex, toR_some, toR_none, toT_some, truD_bl, truD_int, truD_tup, tyD_str, tyD_tup, tyD_int, tyD_bl, tyD_non,
  kE_, kR_, kIf_t, kIf_f, kN_, kA_, kIx1_, kIx2_, kIx3_, kE1_, kE21_, kE2_, kB_, kF_, kC1_, kC_, kM1_, kM2_, kM_, kS1_, kS2_, kS3_, kO_, kV_, kT_, kAn_t, kAn_f, kOr_t, kOr_f, kNo_, kIfE_t, kIfE_f, kVa_, kVa2_t, kVa2_f, kVo_, kVo2_t, kVo2_f, kVn_, kVn2_, kH_, kH1_, kH2_t, kH2_f, kH3_,
  List.getElem?_cons_zero, List.getElem?_cons_succ, List.set_cons_zero, List.set_cons_succ, gAdd_int, gAdd_str, gSub_int, gMul_l, gMul_r, gFdiv_int, gMod_int, gLt_int, gLe_int, gGt_int, gGe_int, gInt_int, gAbs_int, gLen_tup, gLen_str, gTpl_, gLsd_,
  Bool.false_eq_true, if_true, if_false, reduceIte, Option.map_some, Option.bind_some, gEq_int, gNe_int, gEq_str, gNe_str, Bool.not_true, Bool.not_false, decide_true, decide_false, List.length_singleton, List.length_cons, List.length_nil, List.map_cons, List.map_nil, Nat.sub_self, List.replicate_zero, List.append_nil, List.cons_append, List.nil_append, List.replicate_succ, Nat.reduceSub, Nat.reduceAdd, Nat.add_zero, Nat.zero_add, tgT_, tgL0, tgL1])
local macro_rules | `(tactic| walk_at "evs") => `(tactic| simp (disch := first | omega | assumption | (simp only [List.length_cons, List.length_nil]; omega)) only [sQ_, sP_, sE_, sR_, sIf_, sN_, sA_, tgO_nx, nm_, tgIx_, eC_, eV0, eV1, e1_, e2_, eB_, eF_, aN_, aC_, eMt_, eSl_, oN_, oI_, tV_, tE_, tA_, tO_, tN_, eIf_, eAnd_, eOr_, eNot_, eCh_,
  seq_nx, seq_rt, seq_bk, seq_ct, seq_ex, toR_some, toR_none, toT_some, truD_bl, truD_int, truD_tup, tyD_str, tyD_tup, tyD_int, tyD_bl, tyD_non,
  kE_, kR_, kIf_t, kIf_f, kN_, kA_, kIx1_, kIx2_, kIx3_, kE1_, kE21_, kE2_, kB_, kF_, kC1_, kC_, kM1_, kM2_, kM_, kS1_, kS2_, kS3_, kO_, kV_, kT_, kAn_t, kAn_f, kOr_t, kOr_f, kNo_, kIfE_t, kIfE_f, kVa_, kVa2_t, kVa2_f, kVo_, kVo2_t, kVo2_f, kVn_, kVn2_, kH_, kH1_, kH2_t, kH2_f, kH3_,
  List.getElem?_cons_zero, List.getElem?_cons_succ, List.set_cons_zero, List.set_cons_succ, gAdd_int, gAdd_str, gSub_int, gMul_l, gMul_r, gFdiv_int, gMod_int, gLt_int, gLe_int, gGt_int, gGe_int, gInt_int, gAbs_int, gLen_tup, gLen_str, gTpl_, gLsd_,
  Bool.false_eq_true, if_true, if_false, reduceIte, Option.map_some, Option.bind_some, gEq_int, gNe_int, gEq_str, gNe_str, Bool.not_true, Bool.not_false, decide_true, decide_false, List.length_singleton, List.length_cons, List.length_nil, List.map_cons, List.map_nil, Nat.sub_self, List.replicate_zero, List.append_nil, List.cons_append, List.nil_append, List.replicate_succ, Nat.reduceSub, Nat.reduceAdd, Nat.add_zero, Nat.zero_add, tgT_, tgL0, tgL1, *])
theorem isi_ss {t : Str} {S : Store} : gIsi .str [.str t, .raw (.ty "str")] S = some (.bl true, S) := by unfold gIsi; exact if_pos rfl
theorem isi_st {t : List D} {S : Store} : gIsi .str [.tup t, .raw (.ty "str")] S = some (.bl false, S) := by unfold gIsi; exact if_pos rfl
theorem isi_tt {t : List D} {S : Store} : gIsi .tup [.tup t, .raw (.ty "tuple")] S = some (.bl true, S) := by unfold gIsi; exact if_pos rfl
theorem isi_ii {t : Int} {S : Store} : gIsi .int [.int t, .raw (.ty "int")] S = some (.bl true, S) := by unfold gIsi; exact if_pos rfl
theorem isi_bi {t : Int} {S : Store} : gIsi .bl [.int t, .raw (.ty "bool")] S = some (.bl false, S) := by unfold gIsi; exact if_pos rfl
/-! ## kinds -/
inductive IsK : D → List Str → Prop
  | leaf (t : Str) : IsK (.str t) [t]
  | node (s : Str) {a b : D} {xs ys : List Str} : IsK a xs → IsK b ys → IsK (.tup [.str s, a, b]) (xs ++ ys)
theorem IsK.flat {d : D} {xs : List Str} (h : IsK d xs) : d.flat = true := by
  induction h with
  | leaf t => rfl
  | node s ha hb ia ib => show (true && (D.flat _ && (D.flat _ && true))) = true; rw [ia, ib]; rfl
theorem IsK.pos {d : D} {xs : List Str} (h : IsK d xs) : 1 ≤ xs.length := by
  induction h with
  | leaf t => exact Nat.le_refl _
  | node s ha hb ia ib => rw [List.length_append]; omega
def sts (xs : List Str) : List D := xs.map D.str
theorem strs_flat : ∀ xs : List Str, flats (sts xs) = true
  | [] => rfl
  | x :: xs => by show (true && flats (sts xs)) = true; rw [strs_flat xs]; rfl
theorem strs_len (xs : List Str) : (sts xs).length = xs.length := List.length_map ..
theorem cut_lo {xs : List Str} {k : Nat} (h : k ≤ xs.length) : cutD (sts xs) none (some (k : Int)) = sts (xs.take k) := by
  unfold cutD
  rw [HT.sIx_none, HT.sIx_nat, strs_len, List.drop_zero, Nat.sub_zero, Nat.min_eq_left h]
  exact (List.map_take ..).symm
theorem cut_hi {xs : List Str} {k : Nat} (h : k ≤ xs.length) : cutD (sts xs) (some (k : Int)) none = sts (xs.drop k) := by
  unfold cutD
  rw [HT.sIx_none, HT.sIx_nat, strs_len, Nat.min_eq_left h]
  unfold sts
  rw [← List.map_drop]
  exact List.take_of_length_le (by rw [List.length_map, List.length_drop]; omega)
theorem gSl_l {l : Nat} {xs : List D} {lo hi : Option Int} {S : Store} (h : lstAt S l = some xs) : gSl (.ref l) lo hi S = some (.ref S.length, S ++ [Cell.lst (cutD xs lo hi)]) := by
  show Option.map _ (lstAt S l) = _
  rw [h]
  rfl
theorem signs3 {d : Int} (h0 : 0 ≤ d) (h1 : d < 3) (S : Store) : ∃ s : Str, gIx (.str "/>*") (.int d) S = some (.str s, S) := by
  obtain ⟨v, hv, _⟩ := atI_in (xs := ("/>*" : Str).cps.toList) h0 (by show d < ((3 : Nat) : Int); omega)
  exact ⟨_, gIx_str hv⟩
theorem bracket_spec (n : Nat) {w : Int} : ∀ (L : Nat) (xs : List Str) {p t N : Nat} {T : Store} {P : List D}, xs.length ≤ L → 1 ≤ xs.length → p ≠ t → T[p]? = some (Cell.lst P) → T[t]? = some (Cell.lst (sts xs)) → Pool N P → N + 4 * xs.length ≤ 900000 → xs.length ≤ 1000 → SFlat T →
    ∃ K P', Pool (N + 2 * (xs.length - 1)) P' ∧ IsK K xs ∧ tab (n + L + 3) ._law_bracket [.ref p, .ref t, .int w] T = .ok K (T.set p (Cell.lst P'))
  | 0, xs, p, t, N, T, P, hL, h1, _, _, _, _, _, _, _ => by omega
  | L + 1, xs, p, t, N, T, P, hL, h1, hpt, h, ht, hp, hN, hX, hT => by
    have ep : ∀ (ρ : D) S', runB 3 6 (b__law_bracket (tab (n + L + 3))) [.ref p, .ref t, .int w] T = S' → tab (n + (L + 1) + 3) ._law_bracket [.ref p, .ref t, .int w] T = S' := fun _ _ e => e
    have gl : gLen [.ref t] T = some (.int xs.length, T) := by rw [gLen_lst (lstAt_lst ht), strs_len]
    by_cases h2 : xs.length = 1
    · obtain ⟨x, rfl⟩ := List.length_eq_one_iff.mp h2
      refine ⟨.str x, P, hp.mono (by omega), .leaf x, ep .non _ ?_⟩
      rw [set_self h]
      refine (runB_rt (np := 3) (ns := 6) (ds := [.ref p, .ref t, .int w]) (g := b__law_bracket (tab (n + L + 3))) (d := .str x) (S' := T) rfl ?_).trans (cmp_same rfl rfl)
      unfold b__law_bracket
      walk_at "ev"
      rw [gl]
      walk_at "ev"
      simp only [show (((1 : Nat) : Int) == 1) = true from rfl, kIf_t]
      walk_at "ev"
      rw [gIx_lst (lstAt_lst ht) (d := .str x) rfl]
      walk_at "ev"
    · have hb1 : (((xs.length : Nat) : Int) == 1) = false := beq_eq_false_iff_ne.mpr (by omega)
      obtain ⟨d1, P1, hp1, a0, a1, e1⟩ := draw_spec (n + L + 1) h hp (by omega) (many := (xs.length : Int) - 1) (by omega) (by omega)
      have tq : ∀ Q, (T.set p (Cell.lst Q))[t]? = some (Cell.lst (sts xs)) := fun Q => by rw [List.getElem?_set_ne hpt]; exact ht
      have gl' : ∀ Q, gLen [.ref t] (T.set p (Cell.lst Q)) = some (.int xs.length, (T.set p (Cell.lst Q))) := fun Q => by rw [gLen_lst (lstAt_lst (tq Q)), strs_len]
      obtain ⟨d2, P2, hp2, b0, b1, e2⟩ := draw_spec (n + L + 1) (get_set h (d := .lst P1)) hp1 (by omega) (many := 3) (by decide) (by decide)
      rw [List.set_set] at e2
      obtain ⟨s, hs⟩ := signs3 b0 b1 (T.set p (Cell.lst P2))
      -- the tail, with the cut at k
      have tail : ∀ k : Nat, 1 ≤ k → k < xs.length → ∃ K P', Pool (N + 2 * (xs.length - 1)) P' ∧ IsK K xs ∧ ∃ G, (sQ (sN 5 (eF (tab (n + L + 3) ._law_bracket) (aC (eV 0) (aC (eSl (eV 1) oN (oI (eV 3))) (aC (eV 2) aN)))))
  (sR (eB gTpl (aC (eV 4) (aC (eV 5) (aC (eF (tab (n + L + 3) ._law_bracket) (aC (eV 0) (aC (eSl (eV 1) (oI (eV 3)) oN) (aC (eV 2) aN)))) aN)))))) [some (.ref p), some (.ref t), some (.int w), some (.int k), some (.str s), none] (T.set p (Cell.lst P2)) = .rt K (T.set p (Cell.lst P') ++ G) := fun k k1 k2 => by
        have lt : (xs.take k).length = k := by rw [List.length_take]; omega
        have ld : (xs.drop k).length = xs.length - k := List.length_drop ..
        have s1 := gSl_l (lo := none) (hi := some (k : Int)) (lstAt_lst (tq P2))
        rw [cut_lo (by omega)] at s1
        have t1 : (T.set p (Cell.lst P2) ++ [Cell.lst (sts (xs.take k))])[(T.set p (Cell.lst P2)).length]? = some (Cell.lst (sts (xs.take k))) := get_end
        have pl := get_lt h
        obtain ⟨K1, P3, hp3, hk1, e3⟩ := bracket_spec n (w := w) L (xs.take k) (t := (T.set p (Cell.lst P2)).length) (by omega) (by omega) (by rw [List.length_set]; omega) (get_app (get_set h)) t1 hp2 (by omega) (by omega) ((hT.set (c := Cell.lst P2) hp2.flat).push (c := Cell.lst (sts (xs.take k))) (strs_flat _))
        rw [set_app (get_set h), List.set_set] at e3
        have s2 := gSl_l (lo := some (k : Int)) (hi := none) (lstAt_lst (get_app (tq P3) (T := [Cell.lst (sts (xs.take k))])))
        rw [cut_hi (by omega)] at s2
        have t2 : (T.set p (Cell.lst P3) ++ [Cell.lst (sts (xs.take k))] ++ [Cell.lst (sts (xs.drop k))])[(T.set p (Cell.lst P3) ++ [Cell.lst (sts (xs.take k))]).length]? = some (Cell.lst (sts (xs.drop k))) := get_end
        obtain ⟨K2, P4, hp4, hk2, e4⟩ := bracket_spec n (w := w) L (xs.drop k) (t := (T.set p (Cell.lst P3) ++ [Cell.lst (sts (xs.take k))]).length) (by omega) (by omega) (by rw [List.length_append, List.length_set]; omega) (get_app (get_app (get_set h))) t2 hp3 (by omega) (by omega) (((hT.set (c := Cell.lst P3) hp3.flat).push (c := Cell.lst (sts (xs.take k))) (strs_flat _)).push (c := Cell.lst (sts (xs.drop k))) (strs_flat _))
        rw [List.append_assoc, set_app (get_set h), List.set_set] at e4
        rw [List.append_assoc] at s2
        refine ⟨.tup [.str s, K1, K2], P4, hp4.mono (by omega), by have q := IsK.node s hk1 hk2; rwa [List.take_append_drop] at q, [Cell.lst (sts (xs.take k)), Cell.lst (sts (xs.drop k))], ?_⟩
        walk_at "ev"
        rw [s1]
        walk_at "ev"
        rw [e3]
        walk_at "ev"
        rw [s2]
        walk_at "ev"
        rw [List.cons_append, List.nil_append] at e4
        rw [e4]
        walk_at "ev"
      have gs1 : ∀ S, Dl.gSub (.int (xs.length : Int)) (.int 1) S = some (.int ((xs.length : Int) - 1), S) := fun S => rfl
      have fin : ∀ k : Nat, 1 ≤ k → k < xs.length → (∀ K P' G, (sQ (sN 5 (eF (tab (n + L + 3) ._law_bracket) (aC (eV 0) (aC (eSl (eV 1) oN (oI (eV 3))) (aC (eV 2) aN)))))
  (sR (eB gTpl (aC (eV 4) (aC (eV 5) (aC (eF (tab (n + L + 3) ._law_bracket) (aC (eV 0) (aC (eSl (eV 1) (oI (eV 3)) oN) (aC (eV 2) aN)))) aN)))))) [some (.ref p), some (.ref t), some (.int w), some (.int k), some (.str s), none] (T.set p (Cell.lst P2)) = .rt K (T.set p (Cell.lst P') ++ G) → b__law_bracket (tab (n + L + 3)) [some (.ref p), some (.ref t), some (.int w), none, none, none] T = .rt K (T.set p (Cell.lst P') ++ G)) →
          ∃ K P', Pool (N + 2 * (xs.length - 1)) P' ∧ IsK K xs ∧ tab (n + (L + 1) + 3) ._law_bracket [.ref p, .ref t, .int w] T = .ok K (T.set p (Cell.lst P')) := fun k k1 k2 go => by
        obtain ⟨K, P', q1, q2, G, q3⟩ := tail k k1 k2
        exact ⟨K, P', q1, q2, ep .non _ ((runB_rt (np := 3) (ns := 6) (ds := [.ref p, .ref t, .int w]) (g := b__law_bracket (tab (n + L + 3))) (d := K) rfl (go K P' G q3)).trans (cmp_more (by rw [List.length_set]) (SFlat.wf (hT.set (c := Cell.lst P') q1.flat)) (wf_flat q2.flat)))⟩
      by_cases w1 : w = 1
      · subst w1
        refine fin 1 (by omega) (by omega) fun K P' G q => ?_
        unfold b__law_bracket
        generalize (sQ (sN 5 (eF (tab (n + L + 3) ._law_bracket) (aC (eV 0) (aC (eSl (eV 1) oN (oI (eV 3))) (aC (eV 2) aN))))) _) = X at q ⊢
        walk_at "ev"
        rw [gl]
        walk_at "ev"
        rw [hb1]
        walk_at "ev"
        rw [gl]
        walk_at "ev"
        rw [e1]
        walk_at "ev"
        simp only [show ((1 : Int) == 1) = true from rfl, show ((1 : Int) == 2) = false from rfl, kIf_t]
        walk_at "ev"
        simp only [show ((1 : Int) == 2) = false from rfl, kIf_f]
        walk_at "ev"
        rw [e2]
        walk_at "ev"
        rw [hs]
        walk_at "ev"
        exact q
      · have w1' : (w == 1) = false := beq_eq_false_iff_ne.mpr w1
        by_cases w2 : w = 2
        · subst w2
          refine fin (xs.length - 1) (by omega) (by omega) fun K P' G q => ?_
          rw [show (((xs.length - 1 : Nat) : Nat) : Int) = (xs.length : Int) - 1 by omega] at q
          unfold b__law_bracket
          generalize (sQ (sN 5 (eF (tab (n + L + 3) ._law_bracket) (aC (eV 0) (aC (eSl (eV 1) oN (oI (eV 3))) (aC (eV 2) aN))))) _) = X at q ⊢
          walk_at "ev"
          rw [gl]
          walk_at "ev"
          rw [hb1]
          walk_at "ev"
          rw [gl]
          walk_at "ev"
          rw [e1]
          walk_at "ev"
          simp only [show ((2 : Int) == 1) = false from rfl, show ((2 : Int) == 2) = true from rfl, kIf_t, kIf_f]
          walk_at "ev"
          simp only [show ((2 : Int) == 2) = true from rfl, kIf_t]
          walk_at "ev"
          rw [gl']
          walk_at "ev"
          rw [e2]
          walk_at "ev"
          rw [hs]
          walk_at "ev"
          exact q
        · have w2' : (w == 2) = false := beq_eq_false_iff_ne.mpr w2
          refine fin (1 + d1).toNat (by omega) (by omega) fun K P' G q => ?_
          rw [show ((1 + d1).toNat : Int) = 1 + d1 by omega] at q
          unfold b__law_bracket
          generalize (sQ (sN 5 (eF (tab (n + L + 3) ._law_bracket) (aC (eV 0) (aC (eSl (eV 1) oN (oI (eV 3))) (aC (eV 2) aN))))) _) = X at q ⊢
          walk_at "ev"
          rw [gl]
          walk_at "ev"
          rw [hb1]
          walk_at "ev"
          rw [gl]
          walk_at "ev"
          rw [e1]
          walk_at "ev"
          rw [w1']
          walk_at "ev"
          rw [w2']
          walk_at "ev"
          rw [e2]
          walk_at "ev"
          rw [hs]
          walk_at "ev"
          exact q
end Lw

set_option Elab.async false
set_option linter.all false
set_option maxRecDepth 100000
namespace Lw
open PySem L2 Dl
local macro_rules | `(tactic| walk_at "ev") => `(tactic| simp (disch := first | omega | assumption | (simp only [List.length_cons, List.length_nil]; omega)) only [sQ_, sP_, sE_, sR_, sIf_, sN_, sA_, tgO_nx, nm_, tgIx_, eC_, eV0, eV1, e1_, e2_, eB_, eF_, aN_, aC_, eMt_, eSl_, oN_, oI_, tV_, tE_, tA_, tO_, tN_, eIf_, eAnd_, eOr_, eNot_, eCh_,
  seq_nx, seq_rt, seq_bk, seq_ct, seq_ex, toR_some, toR_none, toT_some, truD_bl, truD_int, truD_tup, tyD_str, tyD_tup, tyD_int, tyD_bl, tyD_non,
  kE_, kR_, kIf_t, kIf_f, kN_, kA_, kIx1_, kIx2_, kIx3_, kE1_, kE21_, kE2_, kB_, kF_, kC1_, kC_, kM1_, kM2_, kM_, kS1_, kS2_, kS3_, kO_, kV_, kT_, kAn_t, kAn_f, kOr_t, kOr_f, kNo_, kIfE_t, kIfE_f, kVa_, kVa2_t, kVa2_f, kVo_, kVo2_t, kVo2_f, kVn_, kVn2_, kH_, kH1_, kH2_t, kH2_f, kH3_,
  List.getElem?_cons_zero, List.getElem?_cons_succ, List.set_cons_zero, List.set_cons_succ, gAdd_int, gAdd_str, gSub_int, gMul_l, gMul_r, gFdiv_int, gMod_int, gLt_int, gLe_int, gGt_int, gGe_int, gInt_int, gAbs_int, gLen_tup, gLen_str, gTpl_, gLsd_,
  Bool.false_eq_true, if_true, if_false, reduceIte, Option.map_some, Option.bind_some, gEq_int, gNe_int, gEq_str, gNe_str, Bool.not_true, Bool.not_false, decide_true, decide_false, List.length_singleton, List.length_cons, List.length_nil, List.map_cons, List.map_nil, Nat.sub_self, List.replicate_zero, List.append_nil, List.cons_append, List.nil_append, List.replicate_succ, Nat.reduceSub, Nat.reduceAdd, Nat.add_zero, Nat.zero_add, tgT_, tgL0, tgL1])
local macro_rules | `(tactic| walk_at "evs") => `(tactic| simp (disch := first | omega | assumption | (simp only [List.length_cons, List.length_nil]; omega)) only [sQ_, sP_, sE_, sR_, sIf_, sN_, sA_, tgO_nx, nm_, tgIx_, eC_, eV0, eV1, e1_, e2_, eB_, eF_, aN_, aC_, eMt_, eSl_, oN_, oI_, tV_, tE_, tA_, tO_, tN_, eIf_, eAnd_, eOr_, eNot_, eCh_,
  seq_nx, seq_rt, seq_bk, seq_ct, seq_ex, toR_some, toR_none, toT_some, truD_bl, truD_int, truD_tup, tyD_str, tyD_tup, tyD_int, tyD_bl, tyD_non,
  kE_, kR_, kIf_t, kIf_f, kN_, kA_, kIx1_, kIx2_, kIx3_, kE1_, kE21_, kE2_, kB_, kF_, kC1_, kC_, kM1_, kM2_, kM_, kS1_, kS2_, kS3_, kO_, kV_, kT_, kAn_t, kAn_f, kOr_t, kOr_f, kNo_, kIfE_t, kIfE_f, kVa_, kVa2_t, kVa2_f, kVo_, kVo2_t, kVo2_f, kVn_, kVn2_, kH_, kH1_, kH2_t, kH2_f, kH3_,
  List.getElem?_cons_zero, List.getElem?_cons_succ, List.set_cons_zero, List.set_cons_succ, gAdd_int, gAdd_str, gSub_int, gMul_l, gMul_r, gFdiv_int, gMod_int, gLt_int, gLe_int, gGt_int, gGe_int, gInt_int, gAbs_int, gLen_tup, gLen_str, gTpl_, gLsd_,
  Bool.false_eq_true, if_true, if_false, reduceIte, Option.map_some, Option.bind_some, gEq_int, gNe_int, gEq_str, gNe_str, Bool.not_true, Bool.not_false, decide_true, decide_false, List.length_singleton, List.length_cons, List.length_nil, List.map_cons, List.map_nil, Nat.sub_self, List.replicate_zero, List.append_nil, List.cons_append, List.nil_append, List.replicate_succ, Nat.reduceSub, Nat.reduceAdd, Nat.add_zero, Nat.zero_add, tgT_, tgL0, tgL1, *])
/-! ## what the measures tell of a kind -/
theorem ix1 {s a b : D} {S : Store} : gIx (.tup [s, a, b]) (.int 1) S = some (a, S) := rfl
theorem ix2 {s a b : D} {S : Store} : gIx (.tup [s, a, b]) (.int 2) S = some (b, S) := rfl
theorem sts_app (xs ys : List Str) : sts (xs ++ ys) = sts xs ++ sts ys := List.map_append ..
theorem size_spec {K : D} {xs : List Str} (h : IsK K xs) : ∀ (j : Nat) (S : Store), xs.length ≤ j → tab j .size_of [K] S = .ok (.int xs.length) S := by
  induction h with
  | leaf t =>
    intro j S hj
    obtain ⟨i, rfl⟩ : ∃ i, j = i + 1 := ⟨j - 1, by simp only [List.length_singleton] at hj; omega⟩
    refine (runB_rt (np := 1) (ns := 1) (ds := [.str t]) (g := b_size_of (tab i)) (d := .int 1) (S' := S) rfl ?_).trans (cmp_same rfl rfl)
    unfold b_size_of
    walk_at "ev"
    rw [isi_ss]
    walk_at "ev"
  | @node s a b xs ys ha hb ia ib =>
    intro j S hj
    rw [List.length_append] at hj
    have pa := ha.pos
    have pb := hb.pos
    obtain ⟨i, rfl⟩ : ∃ i, j = i + 1 := ⟨j - 1, by omega⟩
    refine (runB_rt (np := 1) (ns := 1) (ds := [.tup [.str s, a, b]]) (g := b_size_of (tab i)) (d := .int ((xs ++ ys).length : Nat)) (S' := S) rfl ?_).trans (cmp_same rfl rfl)
    unfold b_size_of
    walk_at "ev"
    rw [isi_st]
    walk_at "ev"
    rw [ix1]
    walk_at "ev"
    rw [ia i S (by omega)]
    walk_at "ev"
    rw [ix2]
    walk_at "ev"
    rw [ib i S (by omega)]
    walk_at "ev"
    rw [List.length_append]
    rfl
theorem signs_spec {K : D} {xs : List Str} (h : IsK K xs) (j : Nat) (S : Store) (hj : xs.length ≤ j) : tab (j + 1) .signs_of [K] S = .ok (.int ((xs.length : Int) - 1)) S := by
  refine (runB_rt (np := 1) (ns := 1) (ds := [K]) (g := b_signs_of (tab j)) (d := .int ((xs.length : Int) - 1)) (S' := S) rfl ?_).trans (cmp_same rfl rfl)
  unfold b_signs_of
  walk_at "ev"
  rw [size_spec h j S hj]
  walk_at "ev"
theorem atoms_spec {K : D} {xs : List Str} (h : IsK K xs) : ∀ (j : Nat) (S : Store), xs.length ≤ j → xs.length ≤ 1000000 → tab j .atoms_of [K] S = .ok (.tup (sts xs)) S := by
  induction h with
  | leaf t =>
    intro j S hj _
    obtain ⟨i, rfl⟩ : ∃ i, j = i + 1 := ⟨j - 1, by simp only [List.length_singleton] at hj; omega⟩
    refine (runB_rt (np := 1) (ns := 1) (ds := [.str t]) (g := b_atoms_of (tab i)) (d := .tup [.str t]) (S' := S) rfl ?_).trans (cmp_same rfl rfl)
    unfold b_atoms_of
    walk_at "ev"
    rw [isi_ss]
    walk_at "ev"
  | @node s a b xs ys ha hb ia ib =>
    intro j S hj hz
    rw [List.length_append] at hj hz
    have pa := ha.pos
    have pb := hb.pos
    obtain ⟨i, rfl⟩ : ∃ i, j = i + 1 := ⟨j - 1, by omega⟩
    refine (runB_rt (np := 1) (ns := 1) (ds := [.tup [.str s, a, b]]) (g := b_atoms_of (tab i)) (d := .tup (sts (xs ++ ys))) (S' := S) rfl ?_).trans (cmp_same rfl (wfs_flat (strs_flat _)))
    unfold b_atoms_of
    walk_at "ev"
    rw [isi_st]
    walk_at "ev"
    rw [ix1]
    walk_at "ev"
    rw [ia i S (by omega) (by omega)]
    walk_at "ev"
    rw [ix2]
    walk_at "ev"
    rw [ib i S (by omega) (by omega)]
    walk_at "ev"
    rw [gAdd_tup (by rw [strs_len]; omega) (by rw [strs_len, strs_len]; omega), sts_app]
    walk_at "ev"
theorem count_spec {K : D} {xs : List Str} (h : IsK K xs) (a : Str) (j : Nat) (S : Store) (hj : xs.length ≤ j) (hz : xs.length ≤ 1000000) : tab (j + 1) .count_of [K, .str a] S = .ok (.int ((sts xs).countP fun y => deq y (.str a) : Nat)) S := by
  refine (runB_rt (np := 2) (ns := 2) (ds := [K, .str a]) (g := b_count_of (tab j)) (d := .int ((sts xs).countP fun y => deq y (.str a) : Nat)) (S' := S) rfl ?_).trans (cmp_same rfl rfl)
  unfold b_count_of
  walk_at "ev"
  rw [atoms_spec h j S hj hz]
  walk_at "ev"
  rw [show gCountT (.tup (sts xs)) [.str a] S = some (.int ((sts xs).countP fun y => deq y (.str a) : Nat), S) by
    show (if (true && flats (sts xs) && decide (D.dep (.str a) ≤ 64)) = true then _ else none) = _
    rw [strs_flat]
    rfl]
  walk_at "ev"
theorem integer_spec (j : Nat) (m : Int) (S : Store) : tab (j + 1) ._law_is_integer [.int m] S = .ok (.bl true) S := by
  refine (runB_rt (np := 1) (ns := 1) (ds := [.int m]) (g := b__law_is_integer (tab j)) (d := .bl true) (S' := S) rfl ?_).trans (cmp_same rfl rfl)
  unfold b__law_is_integer
  walk_at "ev"
  rw [isi_ii]
  walk_at "ev"
  rw [isi_bi]
  walk_at "ev"
theorem same_loop {xs : List Str} {t : Nat} {T : Store} (ht : T[t]? = some (Cell.lst (sts xs))) : ∀ (r k : Nat) (x : Option D), k + r = xs.length → ∃ y, runF (nm 2) (sIf (tO (tN (tV (eB (gIsi .str) (aC (Dl.e2 gIx (eV 0) (eV 2)) (aC (eC (.raw (.ty "str"))) aN))))) (tE (Dl.e2 gNe (Dl.e2 gIx (eV 0) (eV 2)) (Dl.e2 gIx (eV 1) (eV 2))))) (sR (eC (.bl false))) sP) []
    (rng (k : Int) r) [some (.tup (sts xs)), some (.ref t), x] T = .nx [some (.tup (sts xs)), some (.ref t), y] T
  | 0, k, x, _ => ⟨x, runF_nil chk_nil⟩
  | r + 1, k, x, h => by
    obtain ⟨y, q⟩ := same_loop ht r (k + 1) (some (.int k)) (by omega)
    refine ⟨y, ?_⟩
    have hk : (sts xs)[k]? = some (.str xs[k]) := by
      show (xs.map D.str)[k]? = _
      rw [List.getElem?_map, List.getElem?_eq_getElem (by omega)]
      rfl
    have g0 : gIx (.tup (sts xs)) (.int k) T = some (.str xs[k], T) := gIx_tup (atI_nat hk)
    have g1 : gIx (.ref t) (.int k) T = some (.str xs[k], T) := gIx_lst (lstAt_lst ht) (atI_nat hk)
    rw [rng_succ, runF_cons chk_nil (d := .int (k : Int)) (ρ1 := [some (.tup (sts xs)), some (.ref t), some (.int k)]) (S1 := T) (ρ2 := [some (.tup (sts xs)), some (.ref t), some (.int k)]) (S2 := T) rfl ?_]
    · exact q
    · walk_at "ev"
      rw [g0]
      walk_at "ev"
      rw [isi_ss]
      walk_at "ev"
      rw [g0]
      walk_at "ev"
      rw [g1]
      walk_at "ev"
      simp only [beq_self_eq_true, Bool.not_true, kIf_f]
      walk_at "ev"
theorem same_spec {xs : List Str} {t : Nat} {T : Store} (j : Nat) (ht : T[t]? = some (Cell.lst (sts xs))) (hz : xs.length ≤ 1000000) : tab (j + 1) ._law_same_texts [.tup (sts xs), .ref t] T = .ok (.bl true) T := by
  refine (runB_rt (np := 2) (ns := 3) (ds := [.tup (sts xs), .ref t]) (g := b__law_same_texts (tab j)) (d := .bl true) (S' := T) rfl ?_).trans (cmp_same rfl rfl)
  have gl : gLen [.ref t] T = some (.int xs.length, T) := by rw [gLen_lst (lstAt_lst ht), strs_len]
  obtain ⟨y, q⟩ := same_loop ht xs.length 0 none (by omega)
  unfold b__law_same_texts
  walk_at "ev"
  rw [isi_tt]
  walk_at "ev"
  rw [gl]
  walk_at "ev"
  rw [strs_len]
  simp only [beq_self_eq_true, Bool.not_true, kIf_f]
  walk_at "ev"
  rw [sF_ok (iR1_ok (j := (xs.length : Int)) (S' := T) (by walk_at "ev"; rw [gl]; walk_at "ev") (by omega) (by omega))]
  rw [Int.toNat_natCast]
  rw [show ((0 : Nat) : Int) = (0 : Int) from rfl] at q
  rw [q]
  walk_at "ev"
end Lw

set_option Elab.async false
set_option linter.all false
set_option maxRecDepth 100000
namespace Lw
open PySem L2 Dl
local macro_rules | `(tactic| walk_at "ev") => `(tactic| simp (disch := first | omega | assumption | (simp only [List.length_cons, List.length_nil]; omega)) only [sQ_, sP_, sE_, sR_, sIf_, sN_, sA_, tgO_nx, nm_, tgIx_, eC_, eV0, eV1, e1_, e2_, eB_, eF_, aN_, aC_, eMt_, eSl_, oN_, oI_, tV_, tE_, tA_, tO_, tN_, eIf_, eAnd_, eOr_, eNot_, eCh_,
  seq_nx, seq_rt, seq_bk, seq_ct, seq_ex, toR_some, toR_none, toT_some, truD_bl, truD_int, truD_tup, tyD_str, tyD_tup, tyD_int, tyD_bl, tyD_non,
  kE_, kR_, kIf_t, kIf_f, kN_, kA_, kIx1_, kIx2_, kIx3_, kE1_, kE21_, kE2_, kB_, kF_, kC1_, kC_, kM1_, kM2_, kM_, kS1_, kS2_, kS3_, kO_, kV_, kT_, kAn_t, kAn_f, kOr_t, kOr_f, kNo_, kIfE_t, kIfE_f, kVa_, kVa2_t, kVa2_f, kVo_, kVo2_t, kVo2_f, kVn_, kVn2_, kH_, kH1_, kH2_t, kH2_f, kH3_,
  List.getElem?_cons_zero, List.getElem?_cons_succ, List.set_cons_zero, List.set_cons_succ, gAdd_int, gAdd_str, gSub_int, gMul_l, gMul_r, gFdiv_int, gMod_int, gLt_int, gLe_int, gGt_int, gGe_int, gInt_int, gAbs_int, gLen_tup, gLen_str, gTpl_, gLsd_,
  Bool.false_eq_true, if_true, if_false, reduceIte, Option.map_some, Option.bind_some, gEq_int, gNe_int, gEq_str, gNe_str, Bool.not_true, Bool.not_false, decide_true, decide_false, List.length_singleton, List.length_cons, List.length_nil, List.map_cons, List.map_nil, Nat.sub_self, List.replicate_zero, List.append_nil, List.cons_append, List.nil_append, List.replicate_succ, Nat.reduceSub, Nat.reduceAdd, Nat.add_zero, Nat.zero_add, tgT_, tgL0, tgL1])
local macro_rules | `(tactic| walk_at "evs") => `(tactic| simp (disch := first | omega | assumption | (simp only [List.length_cons, List.length_nil]; omega)) only [sQ_, sP_, sE_, sR_, sIf_, sN_, sA_, tgO_nx, nm_, tgIx_, eC_, eV0, eV1, e1_, e2_, eB_, eF_, aN_, aC_, eMt_, eSl_, oN_, oI_, tV_, tE_, tA_, tO_, tN_, eIf_, eAnd_, eOr_, eNot_, eCh_,
  seq_nx, seq_rt, seq_bk, seq_ct, seq_ex, toR_some, toR_none, toT_some, truD_bl, truD_int, truD_tup, tyD_str, tyD_tup, tyD_int, tyD_bl, tyD_non,
  kE_, kR_, kIf_t, kIf_f, kN_, kA_, kIx1_, kIx2_, kIx3_, kE1_, kE21_, kE2_, kB_, kF_, kC1_, kC_, kM1_, kM2_, kM_, kS1_, kS2_, kS3_, kO_, kV_, kT_, kAn_t, kAn_f, kOr_t, kOr_f, kNo_, kIfE_t, kIfE_f, kVa_, kVa2_t, kVa2_f, kVo_, kVo2_t, kVo2_f, kVn_, kVn2_, kH_, kH1_, kH2_t, kH2_f, kH3_,
  List.getElem?_cons_zero, List.getElem?_cons_succ, List.set_cons_zero, List.set_cons_succ, gAdd_int, gAdd_str, gSub_int, gMul_l, gMul_r, gFdiv_int, gMod_int, gLt_int, gLe_int, gGt_int, gGe_int, gInt_int, gAbs_int, gLen_tup, gLen_str, gTpl_, gLsd_,
  Bool.false_eq_true, if_true, if_false, reduceIte, Option.map_some, Option.bind_some, gEq_int, gNe_int, gEq_str, gNe_str, Bool.not_true, Bool.not_false, decide_true, decide_false, List.length_singleton, List.length_cons, List.length_nil, List.map_cons, List.map_nil, Nat.sub_self, List.replicate_zero, List.append_nil, List.cons_append, List.nil_append, List.replicate_succ, Nat.reduceSub, Nat.reduceAdd, Nat.add_zero, Nat.zero_add, tgT_, tgL0, tgL1, *])
/-! ## measured -/
theorem chk_app {k : Chk} {T : Store} (S : Store) (h : chkOk k T) : chkOk k (T ++ S) := fun p hp => by
  have q := h p hp
  unfold lstAt at q ⊢
  cases e : T[p.1]? with
  | none => rw [e] at q; exact nomatch q
  | some c => rw [get_app e]; rw [e] at q; exact q
theorem SFlat.app {S T : Store} (h : SFlat S) (g : SFlat T) : SFlat (S ++ T) := fun x hx => (List.mem_append.mp hx).elim (h x) (g x)
theorem flats_filter {p : D → Bool} : ∀ {xs : List D}, flats xs = true → flats (xs.filter p) = true
  | [], _ => rfl
  | x :: xs, h => by
    have h' : (x.flat && flats xs) = true := h
    rw [Bool.and_eq_true] at h'
    rw [List.filter_cons]
    split
    · show (x.flat && flats _) = true
      rw [h'.1, flats_filter h'.2]
      rfl
    · exact flats_filter h'.2
theorem comp_spec {xs : List Str} {a : Str} {t : Nat} {T : Store} {v0 v2 v3 v4 v6 v7 : Option D} (ht : T[t]? = some (Cell.lst (sts xs))) (hT : SFlat T) (hz : xs.length ≤ 1000000) :
    eLc [7] (iA (eV 1)) (.one 7) (tE (Dl.e2 gEq (eV 7) (eV 5))) (eV 7) [v0, some (.ref t), v2, v3, v4, some (.str a), v6, v7] T = .ok (.ref T.length) (T ++ [Cell.lst ((sts xs).filter fun y => deq y (.str a))]) := by
  rw [eLc_ok (iA_lst (S' := T) (by walk_at "ev") (lstAt_lst ht))]
  have q := runC_map (ρ := wipeD [v0, some (.ref t), v2, v3, v4, some (.str a), v6, v7] [7]) (g := .one 7) (ft := tE (Dl.e2 gEq (eV 7) (eV 5))) (fe := eV 7) (l := T.length) (k := [(t, sts xs)]) id (fun y => deq y (.str a)) (sts xs) [] T hT rfl (by rw [strs_len]; show 0 + _ ≤ _; omega) (fun S => chk_app S) (chk_one (lstAt_lst ht)) (fun d hd => by
    obtain ⟨x, _, rfl⟩ := List.mem_map.mp hd
    refine ⟨_, rfl, fun b => ⟨?_, fun _ => rfl⟩⟩
    show tE (Dl.e2 gEq (eV 7) (eV 5)) [v0, some (.ref t), v2, v3, v4, some (.str a), v6, some (.str x)] _ = _
    walk_at "ev"
    rfl)
  rw [List.nil_append, List.map_id] at q
  exact q
theorem measured_loop (j : Nat) {K : D} {xs A0 : List Str} {t q : Nat} {T : Store} (h : IsK K xs) (hj : xs.length ≤ j) (hz : xs.length ≤ 1000000) (ht : T[t]? = some (Cell.lst (sts xs))) (hq : T[q]? = some (Cell.lst (sts A0))) {s g : D} : ∀ (A : List Str) (G : Store) (x y : Option D), SFlat (T ++ G) → ∃ x' y' G', runF (nm 5) (sQ (sN 6 (eF (tab (j + 1) .count_of) (aC (eV 0) (aC (eV 5) aN))))
  (sIf (tO (tN (tV (eF (tab (j + 1) ._law_is_integer) (aC (eV 6) aN)))) (tE (Dl.e2 gNe (eV 6) (eB gLen (aC (eLc [7] (iA (eV 1)) (.one 7) (tE (Dl.e2 gEq (eV 7) (eV 5))) (eV 7)) aN))))) (sR (eC (.bl false))) sP)) [(q, sts A0)] (sts A) [some K, some (.ref t), some (.ref q), some s, some g, x, y, none] (T ++ G) = .nx [some K, some (.ref t), some (.ref q), some s, some g, x', y', none] (T ++ G')
  | [], G, x, y, _ => ⟨x, y, G, runF_nil (chk_one (lstAt_lst (get_app hq)))⟩
  | a :: A, G, x, y, hG => by
    have hf : flats ((sts xs).filter fun y => deq y (.str a)) = true := flats_filter (strs_flat xs)
    obtain ⟨x', y', G', e⟩ := measured_loop j h hj hz ht hq (s := s) (g := g) A (G ++ [Cell.lst ((sts xs).filter fun y => deq y (.str a))]) (some (.str a)) (some (.int ((sts xs).countP fun y => deq y (.str a) : Nat))) (by rw [← List.append_assoc]; exact hG.push hf)
    refine ⟨x', y', G', ?_⟩
    have c := comp_spec (v0 := some K) (v2 := some (.ref q)) (v3 := some s) (v4 := some g) (v6 := some (.int ((sts xs).countP fun y => deq y (.str a) : Nat))) (v7 := none) (a := a) (get_app ht (T := G)) hG hz
    have gl : gLen [.ref (T ++ G).length] (T ++ G ++ [Cell.lst ((sts xs).filter fun y => deq y (.str a))]) = some (.int ((sts xs).countP fun y => deq y (.str a) : Nat), T ++ G ++ [Cell.lst ((sts xs).filter fun y => deq y (.str a))]) := by
      rw [gLen_lst (lstAt_lst get_end), List.countP_eq_length_filter]
    show runF _ _ _ (.str a :: sts A) _ _ = _
    rw [runF_cons (chk_one (lstAt_lst (get_app hq))) (d := .str a) (ρ1 := [some K, some (.ref t), some (.ref q), some s, some g, some (.str a), y, none]) (S1 := T ++ G) (ρ2 := [some K, some (.ref t), some (.ref q), some s, some g, some (.str a), some (.int ((sts xs).countP fun y => deq y (.str a) : Nat)), none]) (S2 := T ++ (G ++ [Cell.lst ((sts xs).filter fun y => deq y (.str a))])) rfl ?_]
    · exact e
    · rw [← List.append_assoc]
      walk_at "ev"
      rw [count_spec h a j _ hj hz]
      walk_at "ev"
      rw [integer_spec]
      walk_at "ev"
      rw [c]
      walk_at "ev"
      rw [gl]
      walk_at "ev"
      simp only [beq_self_eq_true, Bool.not_true, kIf_f]
      walk_at "ev"
theorem measured_spec (j : Nat) {K : D} {xs A : List Str} {t q : Nat} {T : Store} (h : IsK K xs) (hj : xs.length ≤ j) (hz : xs.length ≤ 1000000) (ht : T[t]? = some (Cell.lst (sts xs))) (hq : T[q]? = some (Cell.lst (sts A))) (hT : SFlat T) :
    tab (j + 2) ._law_measured [K, .ref t, .ref q] T = .ok (.bl true) T := by
  obtain ⟨x', y', G', e⟩ := measured_loop j h hj hz ht hq (s := .int xs.length) (g := .int ((xs.length : Int) - 1)) A [] none none (by rw [List.append_nil]; exact hT)
  rw [List.append_nil] at e
  refine (runB_rt (np := 3) (ns := 8) (ds := [K, .ref t, .ref q]) (g := b__law_measured (tab (j + 1))) (d := .bl true) (S' := T ++ G') rfl ?_).trans (cmp_more rfl (SFlat.wf hT) rfl)
  have gl : gLen [.ref t] T = some (.int xs.length, T) := by rw [gLen_lst (lstAt_lst ht), strs_len]
  unfold b__law_measured
  walk_at "ev"
  rw [atoms_spec h (j + 1) T (by omega) hz]
  walk_at "ev"
  rw [same_spec j ht hz]
  walk_at "ev"
  rw [size_spec h (j + 1) T (by omega)]
  walk_at "ev"
  rw [signs_spec h j T hj]
  walk_at "ev"
  rw [integer_spec]
  walk_at "ev"
  rw [gl]
  walk_at "ev"
  simp only [beq_self_eq_true, Bool.not_true, kIf_f]
  walk_at "ev"
  rw [integer_spec]
  walk_at "ev"
  rw [gl]
  walk_at "ev"
  simp only [beq_self_eq_true, Bool.not_true, kIf_f]
  walk_at "ev"
  rw [sF_ok (iA_lst (S' := T) (xs := sts A) (by walk_at "ev") (lstAt_lst hq))]
  rw [e]
  walk_at "ev"
end Lw

set_option Elab.async false
set_option linter.all false
set_option maxRecDepth 100000
namespace Lw
open PySem L2 Dl
local macro_rules | `(tactic| walk_at "ev") => `(tactic| simp (disch := first | omega | assumption | (simp only [List.length_cons, List.length_nil]; omega)) only [sQ_, sP_, sE_, sR_, sIf_, sN_, sA_, tgO_nx, nm_, tgIx_, eC_, eV0, eV1, e1_, e2_, eB_, eF_, aN_, aC_, eMt_, eSl_, oN_, oI_, tV_, tE_, tA_, tO_, tN_, eIf_, eAnd_, eOr_, eNot_, eCh_,
  seq_nx, seq_rt, seq_bk, seq_ct, seq_ex, toR_some, toR_none, toT_some, truD_bl, truD_int, truD_tup, tyD_str, tyD_tup, tyD_int, tyD_bl, tyD_non,
  kE_, kR_, kIf_t, kIf_f, kN_, kA_, kIx1_, kIx2_, kIx3_, kE1_, kE21_, kE2_, kB_, kF_, kC1_, kC_, kM1_, kM2_, kM_, kS1_, kS2_, kS3_, kO_, kV_, kT_, kAn_t, kAn_f, kOr_t, kOr_f, kNo_, kIfE_t, kIfE_f, kVa_, kVa2_t, kVa2_f, kVo_, kVo2_t, kVo2_f, kVn_, kVn2_, kH_, kH1_, kH2_t, kH2_f, kH3_,
  List.getElem?_cons_zero, List.getElem?_cons_succ, List.set_cons_zero, List.set_cons_succ, gAdd_int, gAdd_str, gSub_int, gMul_l, gMul_r, gFdiv_int, gMod_int, gLt_int, gLe_int, gGt_int, gGe_int, gInt_int, gAbs_int, gLen_tup, gLen_str, gTpl_, gLsd_,
  Bool.false_eq_true, if_true, if_false, reduceIte, Option.map_some, Option.bind_some, gEq_int, gNe_int, gEq_str, gNe_str, Bool.not_true, Bool.not_false, decide_true, decide_false, List.length_singleton, List.length_cons, List.length_nil, List.map_cons, List.map_nil, Nat.sub_self, List.replicate_zero, List.append_nil, List.cons_append, List.nil_append, List.replicate_succ, Nat.reduceSub, Nat.reduceAdd, Nat.add_zero, Nat.zero_add, tgT_, tgL0, tgL1])
local macro_rules | `(tactic| walk_at "evs") => `(tactic| simp (disch := first | omega | assumption | (simp only [List.length_cons, List.length_nil]; omega)) only [sQ_, sP_, sE_, sR_, sIf_, sN_, sA_, tgO_nx, nm_, tgIx_, eC_, eV0, eV1, e1_, e2_, eB_, eF_, aN_, aC_, eMt_, eSl_, oN_, oI_, tV_, tE_, tA_, tO_, tN_, eIf_, eAnd_, eOr_, eNot_, eCh_,
  seq_nx, seq_rt, seq_bk, seq_ct, seq_ex, toR_some, toR_none, toT_some, truD_bl, truD_int, truD_tup, tyD_str, tyD_tup, tyD_int, tyD_bl, tyD_non,
  kE_, kR_, kIf_t, kIf_f, kN_, kA_, kIx1_, kIx2_, kIx3_, kE1_, kE21_, kE2_, kB_, kF_, kC1_, kC_, kM1_, kM2_, kM_, kS1_, kS2_, kS3_, kO_, kV_, kT_, kAn_t, kAn_f, kOr_t, kOr_f, kNo_, kIfE_t, kIfE_f, kVa_, kVa2_t, kVa2_f, kVo_, kVo2_t, kVo2_f, kVn_, kVn2_, kH_, kH1_, kH2_t, kH2_f, kH3_,
  List.getElem?_cons_zero, List.getElem?_cons_succ, List.set_cons_zero, List.set_cons_succ, gAdd_int, gAdd_str, gSub_int, gMul_l, gMul_r, gFdiv_int, gMod_int, gLt_int, gLe_int, gGt_int, gGe_int, gInt_int, gAbs_int, gLen_tup, gLen_str, gTpl_, gLsd_,
  Bool.false_eq_true, if_true, if_false, reduceIte, Option.map_some, Option.bind_some, gEq_int, gNe_int, gEq_str, gNe_str, Bool.not_true, Bool.not_false, decide_true, decide_false, List.length_singleton, List.length_cons, List.length_nil, List.map_cons, List.map_nil, Nat.sub_self, List.replicate_zero, List.append_nil, List.cons_append, List.nil_append, List.replicate_succ, Nat.reduceSub, Nat.reduceAdd, Nat.add_zero, Nat.zero_add, tgT_, tgL0, tgL1, *])
/-! ## base and number of an atom -/
theorem partL_free {c : Nat} {xs : List Nat} (h : c ∉ xs) : partL c xs = (xs, [], []) := if_neg h
theorem partL_at {c : Nat} {xs ys : List Nat} (h : c ∉ xs) : partL c (xs ++ c :: ys) = (xs, [c], ys) := by
  have hp : ∀ x ∈ xs, (x != c) = true := fun x hx => bne_iff_ne.mpr fun e => h (e ▸ hx)
  have hn : (c != c) = false := bne_self_eq_false c
  unfold partL
  rw [if_pos (List.mem_append.mpr (.inr (List.mem_cons_self ..))), List.takeWhile_append_of_pos hp, List.dropWhile_append_of_pos hp, List.takeWhile_cons_of_neg (by rw [hn]; exact Bool.false_ne_true), List.dropWhile_cons_of_neg (by rw [hn]; exact Bool.false_ne_true), List.append_nil]
  rfl
theorem str_back (x : Str) : (⟨x.cps.toList.toArray⟩ : Str) = x := by cases x with | mk a => show (⟨a.toList.toArray⟩ : Str) = _; rw [Array.toArray_toList]
theorem dot_list : ("." : Str).cps.toList = [46] := by decide +kernel
theorem part_atom {b : Str} {m : Int} (hb : Base b) (S : Store) : gPart (.str (atT b m)) [.str "."] S = some (.tup [.str b, .str ⟨(if m = 0 then [] else [46]).toArray⟩, .str (if m = 0 then ⟨#[]⟩ else (toString m : Str))], S) := by
  show (if ("." : Str).length = 1 then _ else none) = _
  rw [if_pos dot_len, show ("." : Str).cps.getD 0 0 = 46 by decide +kernel]
  unfold atT
  by_cases e : m = 0
  · rw [if_pos e, if_pos e, if_pos e, partL_free hb.1]
    show some (D.tup [.str ⟨b.cps.toList.toArray⟩, _, _], S) = _
    rw [str_back]
  · rw [if_neg e, if_neg e, if_neg e, app_list, app_list, dot_list, List.append_assoc, List.singleton_append, partL_at hb.1]
    show some (D.tup [.str ⟨b.cps.toList.toArray⟩, _, .str ⟨_⟩], S) = _
    rw [str_back]
theorem base_spec (j : Nat) {b : Str} {m : Int} (hb : Base b) (S : Store) : tab (j + 1) .base_of [.str (atT b m)] S = .ok (.str b) S := by
  refine (runB_rt (np := 1) (ns := 1) (ds := [.str (atT b m)]) (g := b_base_of (tab j)) (d := .str b) (S' := S) rfl ?_).trans (cmp_same rfl rfl)
  unfold b_base_of
  walk_at "ev"
  rw [part_atom hb]
  walk_at "ev"
  rw [show ∀ x y z : D, gIx (.tup [x, y, z]) (.int 0) S = some (x, S) from fun _ _ _ => rfl]
  walk_at "ev"
theorem num_ne {m : Int} (h0 : 0 < m) (h1 : m ≤ 999999) : ((toString m : Str) == "") = false := by
  refine beq_eq_false_iff_ne.mpr fun e => ?_
  have q := PySem.W.KIN.num_reads (n := m) (by omega) (by omega)
  have q' : PySem.intText? (toString m : Str) = some m := q
  rw [e, show PySem.intText? "" = none by decide +kernel] at q'
  exact nomatch q'
theorem number_spec (j : Nat) {b : Str} {m : Int} (hb : Base b) (h0 : 0 ≤ m) (h1 : m ≤ 999999) (S : Store) : tab (j + 1) .atom_number [.str (atT b m)] S = .ok (.int m) S := by
  refine (runB_rt (np := 1) (ns := 2) (ds := [.str (atT b m)]) (g := b_atom_number (tab j)) (d := .int m) (S' := S) rfl ?_).trans (cmp_same rfl rfl)
  unfold b_atom_number
  walk_at "ev"
  rw [part_atom hb]
  walk_at "ev"
  rw [show ∀ x y z : D, gIx (.tup [x, y, z]) (.int 2) S = some (z, S) from fun _ _ _ => rfl]
  walk_at "ev"
  by_cases e : m = 0
  · subst e
    rw [if_pos rfl]
    rw [show ((⟨#[]⟩ : Str) == "") = true by decide +kernel]
    walk_at "ev"
  · rw [if_neg e, num_ne (by omega) h1]
    walk_at "ev"
    rw [show gInt [.str (toString m : Str)] S = some (.int m, S) by
      show (if (toString m : Str).length ≤ 640 then (PySem.intText? (toString m : Str)).map _ else none) = _
      have l := num_len h0 h1
      rw [if_pos (by omega), show PySem.intText? (toString m : Str) = some m from PySem.W.KIN.num_reads (n := m) (by omega) (by omega)]
      rfl]
    walk_at "ev"
/-! ## apart -/
theorem apart_loop (j : Nat) {l : Nat} {A0 : List D} {T : Store} (hl : T[l]? = some (Cell.lst A0)) : ∀ (A : List D) (x y z u v : Option D), AtomsL A → ∃ x' y' z' u' v', runF (tgT [(nm 1), (nm 2), (nm 3)]) (sQ (sN 4 (eF (tab (j + 1) .base_of) (aC (eV 1) aN)))
  (sQ (sN 5 (eF (tab (j + 1) .atom_number) (aC (eV 1) aN)))
  (sQ (sIf (tO (tN (tV (eB (gIsi .str) (aC (eV 4) (aC (eC (.raw (.ty "str"))) aN))))) (tE (Dl.e2 gNe (eV 4) (eV 2)))) (sR (eC (.bl false))) sP)
  (sIf (tO (tN (tV (eF (tab (j + 1) ._law_is_integer) (aC (eV 5) aN)))) (tE (Dl.e2 gNe (eV 5) (eV 3)))) (sR (eC (.bl false))) sP)))) [(l, A0)] A [some (.ref l), x, y, z, u, v] T = .nx [some (.ref l), x', y', z', u', v'] T
  | [], x, y, z, u, v, _ => ⟨x, y, z, u, v, runF_nil (chk_one (lstAt_lst hl))⟩
  | d :: A, x, y, z, u, v, h => by
    obtain ⟨b, m, rfl, hb, h0, h1⟩ := h d (List.mem_cons_self ..)
    obtain ⟨x', y', z', u', v', q⟩ := apart_loop j hl A (some (.str (atT b m))) (some (.str b)) (some (.int m)) (some (.str b)) (some (.int m)) fun x hx => h x (List.mem_cons_of_mem _ hx)
    refine ⟨x', y', z', u', v', ?_⟩
    rw [runF_cons (chk_one (lstAt_lst hl)) (d := atD b m) (ρ1 := [some (.ref l), some (.str (atT b m)), some (.str b), some (.int m), u, v]) (S1 := T) (ρ2 := [some (.ref l), some (.str (atT b m)), some (.str b), some (.int m), some (.str b), some (.int m)]) (S2 := T) (by unfold atD; rw [tgT_ rfl]; rfl) ?_]
    · exact q
    · walk_at "ev"
      rw [base_spec j hb]
      walk_at "ev"
      rw [number_spec j hb h0 h1]
      walk_at "ev"
      rw [isi_ss]
      walk_at "ev"
      simp only [beq_self_eq_true, Bool.not_true, kIf_f]
      walk_at "ev"
      rw [integer_spec]
      walk_at "ev"
      simp only [beq_self_eq_true, Bool.not_true, kIf_f]
      walk_at "ev"
theorem apart_spec (j : Nat) {l : Nat} {A : List D} {T : Store} (hl : T[l]? = some (Cell.lst A)) (h : AtomsL A) : tab (j + 2) ._law_apart [.ref l] T = .ok (.bl true) T := by
  obtain ⟨x', y', z', u', v', q⟩ := apart_loop j hl A none none none none none h
  refine (runB_rt (np := 1) (ns := 6) (ds := [.ref l]) (g := b__law_apart (tab (j + 1))) (d := .bl true) (S' := T) rfl ?_).trans (cmp_same rfl rfl)
  unfold b__law_apart
  walk_at "ev"
  rw [sF_ok (iA_lst (S' := T) (xs := A) (by walk_at "ev") (lstAt_lst hl))]
  rw [q]
  walk_at "ev"
end Lw

set_option Elab.async false
set_option linter.all false
set_option maxRecDepth 100000
namespace Lw
open PySem L2 Dl
local macro_rules | `(tactic| walk_at "ev") => `(tactic| simp (disch := first | omega | assumption | (simp only [List.length_cons, List.length_nil]; omega)) only [sQ_, sP_, sE_, sR_, sIf_, sN_, sA_, tgO_nx, nm_, tgIx_, eC_, eV0, eV1, e1_, e2_, eB_, eF_, aN_, aC_, eMt_, eSl_, oN_, oI_, tV_, tE_, tA_, tO_, tN_, eIf_, eAnd_, eOr_, eNot_, eCh_,
  seq_nx, seq_rt, seq_bk, seq_ct, seq_ex, toR_some, toR_none, toT_some, truD_bl, truD_int, truD_tup, tyD_str, tyD_tup, tyD_int, tyD_bl, tyD_non,
  kE_, kR_, kIf_t, kIf_f, kN_, kA_, kIx1_, kIx2_, kIx3_, kE1_, kE21_, kE2_, kB_, kF_, kC1_, kC_, kM1_, kM2_, kM_, kS1_, kS2_, kS3_, kO_, kV_, kT_, kAn_t, kAn_f, kOr_t, kOr_f, kNo_, kIfE_t, kIfE_f, kVa_, kVa2_t, kVa2_f, kVo_, kVo2_t, kVo2_f, kVn_, kVn2_, kH_, kH1_, kH2_t, kH2_f, kH3_,
  List.getElem?_cons_zero, List.getElem?_cons_succ, List.set_cons_zero, List.set_cons_succ, gAdd_int, gAdd_str, gSub_int, gMul_l, gMul_r, gFdiv_int, gMod_int, gLt_int, gLe_int, gGt_int, gGe_int, gInt_int, gAbs_int, gLen_tup, gLen_str, gTpl_, gLsd_,
  Bool.false_eq_true, if_true, if_false, reduceIte, Option.map_some, Option.bind_some, gEq_int, gNe_int, gEq_str, gNe_str, Bool.not_true, Bool.not_false, decide_true, decide_false, List.length_singleton, List.length_cons, List.length_nil, List.map_cons, List.map_nil, Nat.sub_self, List.replicate_zero, List.append_nil, List.cons_append, List.nil_append, List.replicate_succ, Nat.reduceSub, Nat.reduceAdd, Nat.add_zero, Nat.zero_add, tgT_, tgL0, tgL1])
local macro_rules | `(tactic| walk_at "evs") => `(tactic| simp (disch := first | omega | assumption | (simp only [List.length_cons, List.length_nil]; omega)) only [sQ_, sP_, sE_, sR_, sIf_, sN_, sA_, tgO_nx, nm_, tgIx_, eC_, eV0, eV1, e1_, e2_, eB_, eF_, aN_, aC_, eMt_, eSl_, oN_, oI_, tV_, tE_, tA_, tO_, tN_, eIf_, eAnd_, eOr_, eNot_, eCh_,
  seq_nx, seq_rt, seq_bk, seq_ct, seq_ex, toR_some, toR_none, toT_some, truD_bl, truD_int, truD_tup, tyD_str, tyD_tup, tyD_int, tyD_bl, tyD_non,
  kE_, kR_, kIf_t, kIf_f, kN_, kA_, kIx1_, kIx2_, kIx3_, kE1_, kE21_, kE2_, kB_, kF_, kC1_, kC_, kM1_, kM2_, kM_, kS1_, kS2_, kS3_, kO_, kV_, kT_, kAn_t, kAn_f, kOr_t, kOr_f, kNo_, kIfE_t, kIfE_f, kVa_, kVa2_t, kVa2_f, kVo_, kVo2_t, kVo2_f, kVn_, kVn2_, kH_, kH1_, kH2_t, kH2_f, kH3_,
  List.getElem?_cons_zero, List.getElem?_cons_succ, List.set_cons_zero, List.set_cons_succ, gAdd_int, gAdd_str, gSub_int, gMul_l, gMul_r, gFdiv_int, gMod_int, gLt_int, gLe_int, gGt_int, gGe_int, gInt_int, gAbs_int, gLen_tup, gLen_str, gTpl_, gLsd_,
  Bool.false_eq_true, if_true, if_false, reduceIte, Option.map_some, Option.bind_some, gEq_int, gNe_int, gEq_str, gNe_str, Bool.not_true, Bool.not_false, decide_true, decide_false, List.length_singleton, List.length_cons, List.length_nil, List.map_cons, List.map_nil, Nat.sub_self, List.replicate_zero, List.append_nil, List.cons_append, List.nil_append, List.replicate_succ, Nat.reduceSub, Nat.reduceAdd, Nat.add_zero, Nat.zero_add, tgT_, tgL0, tgL1, *])
/-! ## pools -/
theorem lstAt_rol {S : Store} {l : Nat} {xs : List D} (h : S[l]? = some (.rol xs)) : lstAt S l = some xs := by unfold lstAt; rw [h]
theorem cell_spec (j : Nat) {ns : List Int} {T : Store} (h : T[0]? = some (Cell.rol (ns.map D.int))) (k : Nat) : ∃ c : Int, tab (j + 1) ._law_cell [.ref 0, .int k] T = .ok (.int c) T := by
  have gl : gLen [.ref 0] T = some (.int ns.length, T) := by rw [gLen_lst (lstAt_rol h), List.length_map]
  by_cases hk : k < ns.length
  · refine ⟨ns[k], (runB_rt (np := 2) (ns := 2) (ds := [.ref 0, .int k]) (g := b__law_cell (tab j)) (d := .int ns[k]) (S' := T) rfl ?_).trans (cmp_same rfl rfl)⟩
    have g0 : gIx (.ref 0) (.int k) T = some (.int ns[k], T) := gIx_lst (lstAt_rol h) (atI_nat (by rw [List.getElem?_map, List.getElem?_eq_getElem hk]; rfl))
    unfold b__law_cell
    walk_at "ev"
    rw [gl]
    walk_at "ev"
    rw [decide_eq_true (show (k : Int) < (ns.length : Int) by omega)]
    walk_at "ev"
    rw [g0]
    walk_at "ev"
  · refine ⟨0, (runB_rt (np := 2) (ns := 2) (ds := [.ref 0, .int k]) (g := b__law_cell (tab j)) (d := .int 0) (S' := T) rfl ?_).trans (cmp_same rfl rfl)⟩
    unfold b__law_cell
    walk_at "ev"
    rw [gl]
    walk_at "ev"
    rw [decide_eq_false (show ¬ (k : Int) < (ns.length : Int) by omega)]
    walk_at "ev"
theorem pow_ {S : Store} : gPow (.int 10) (.int 18) S = some (.int 1000000000000000000, S) := by
  show (if (0 : Int) ≤ 18 ∧ (18 : Int) ≤ 1000000 ∧ (10 : Int).natAbs < 2 ^ 64 then _ else none) = _
  rw [if_pos (by decide)]
  rfl
theorem pool_spec (j : Nat) {ns : List Int} {T : Store} (h : T[0]? = some (Cell.rol (ns.map D.int))) (hT : SFlat T) (k : Nat) (hk : k ≤ 100) : ∃ P, Pool 0 P ∧ tab (j + 2) ._law_pool [.ref 0, .int k] T = .ok (.ref T.length) (T ++ [Cell.lst P]) := by
  obtain ⟨c, hc⟩ := cell_spec j h k
  have fin : ∀ P, Pool 0 P → b__law_pool (tab (j + 1)) [some (.ref 0), some (.int k), none] T = .rt (.ref T.length) (T ++ [Cell.lst P]) → ∃ P, Pool 0 P ∧ tab (j + 2) ._law_pool [.ref 0, .int k] T = .ok (.ref T.length) (T ++ [Cell.lst P]) := fun P hp e =>
    ⟨P, hp, (runB_rt (np := 2) (ns := 3) (ds := [.ref 0, .int k]) (g := b__law_pool (tab (j + 1))) rfl e).trans (cmp_new rfl (SFlat.wf hT) (Nat.le_refl _) get_end (wfs_flat hp.flat))⟩
  by_cases hb : (1000000000000000000 : Int) ≤ c
  · refine fin [.int (c - 1000000000000000000), .int (40009 * ((k : Int) + 1)), .int 0] ⟨_, _, _, rfl, by omega, by omega, by decide, by decide⟩ ?_
    unfold b__law_pool
    walk_at "ev"
    rw [hc]
    walk_at "ev"
    rw [pow_]
    walk_at "ev"
    rw [decide_eq_true hb]
    walk_at "ev"
    rw [pow_]
    walk_at "ev"
  · have m0 := Int.emod_nonneg (if c < 0 then -c else c) (show (2000000011 : Int) ≠ 0 by decide)
    have m1 := Int.emod_lt_of_pos (if c < 0 then -c else c) (show (0 : Int) < 2000000011 by decide)
    refine fin [.int 0, .int ((if c < 0 then -c else c) % 2000000011 + 7919 * (k : Int)), .int 0] ⟨_, _, _, rfl, by omega, by omega, by decide, by decide⟩ ?_
    unfold b__law_pool
    walk_at "ev"
    rw [hc]
    walk_at "ev"
    rw [pow_]
    walk_at "ev"
    rw [decide_eq_false hb]
    walk_at "ev"
/-! ## what is asked -/
theorem ask_loop (j : Nat) {lt : Nat} {A0 : List D} {T : Store} {v0 v1 v3 v5 v6 v7 v8 v9 v10 v14 : Option D} (hl : T[lt]? = some (Cell.lst A0)) : ∀ (A : List D) (Q : List Str) (G : Store) (l : Nat) (x y z : Option D), AtomsL A → (T ++ G)[l]? = some (Cell.lst (sts Q)) → SFlat (T ++ G) → Q.length + 4 * A.length ≤ 1000000 →
    ∃ l' Q' G' x' y' z', (T ++ G')[l']? = some (Cell.lst (sts Q')) ∧ SFlat (T ++ G') ∧ runF (tgT [(nm 11), (nm 12), (nm 13)]) (sN 4 (Dl.e2 gAdd (eV 4) (eB gLsd (aC (eV 11) (aC (eV 12) (aC (Dl.e2 gIx (eF (tab (j + 1) ._law_numbered) (aC (eV 12) (aC (Dl.e2 gAdd (Dl.e2 gMod (eB gInt (aC (eV 13) aN)) (eC (.int 999999))) (eC (.int 1))) aN))) (eC (.int 0))) (aC (eSl (eV 12) oN (oI (eC (.int 1)))) aN)))))))
      [(lt, A0)] A [v0, v1, some (.ref lt), v3, some (.ref l), v5, v6, v7, v8, v9, v10, x, y, z, v14] (T ++ G) = .nx [v0, v1, some (.ref lt), v3, some (.ref l'), v5, v6, v7, v8, v9, v10, x', y', z', v14] (T ++ G')
  | [], Q, G, l, x, y, z, _, h1, h2, _ => ⟨l, Q, G, x, y, z, h1, h2, runF_nil (chk_one (lstAt_lst (get_app hl)))⟩
  | d :: A, Q, G, l, x, y, z, hA, h1, h2, hz => by
    obtain ⟨b, m, rfl, hb, m0, m1⟩ := hA d (List.mem_cons_self ..)
    have k0 : 0 ≤ m % 999999 := Int.emod_nonneg _ (by decide)
    have k1 : m % 999999 < 999999 := Int.emod_lt_of_pos _ (by decide)
    have hz' : Q.length + 4 * (A.length + 1) ≤ 1000000 := hz
    let Q1 : List Str := [atT b m, b, atT b (m % 999999 + 1), cutS b none (some 1)]
    have gs : T ++ (G ++ [Cell.lst (sts Q1), Cell.lst (sts (Q ++ Q1))]) = T ++ G ++ [Cell.lst (sts Q1)] ++ [Cell.lst (sts (Q ++ Q1))] := by simp
    have hn : (T ++ (G ++ [Cell.lst (sts Q1), Cell.lst (sts (Q ++ Q1))]))[(T ++ G ++ [Cell.lst (sts Q1)]).length]? = some (Cell.lst (sts (Q ++ Q1))) := by rw [gs]; exact get_end
    obtain ⟨l', Q', G', x', y', z', q1, q2, q3⟩ := ask_loop j hl A (Q ++ Q1) (G ++ [Cell.lst (sts Q1), Cell.lst (sts (Q ++ Q1))]) (v0 := v0) (v1 := v1) (v3 := v3) (v5 := v5) (v6 := v6) (v7 := v7) (v8 := v8) (v9 := v9) (v10 := v10) (v14 := v14) _ (some (.str (atT b m))) (some (.str b)) (some (.int m)) (fun x hx => hA x (List.mem_cons_of_mem _ hx)) hn (by rw [gs]; exact (h2.push (c := Cell.lst (sts Q1)) (strs_flat _)).push (c := Cell.lst (sts (Q ++ Q1))) (strs_flat _)) (by rw [List.length_append]; show _ + 4 + _ ≤ _; omega)
    refine ⟨l', Q', G', x', y', z', q1, q2, ?_⟩
    have e1 := numbered_spec j hb.2 (m := m % 999999 + 1) (by omega) (by omega) (T ++ G)
    have ga : gAdd (.ref l) (.ref (T ++ G).length) (T ++ G ++ [Cell.lst (sts Q1)]) = some (.ref (T ++ G ++ [Cell.lst (sts Q1)]).length, T ++ G ++ [Cell.lst (sts Q1)] ++ [Cell.lst (sts (Q ++ Q1))]) := by
      rw [gAdd_lst (get_app h1) get_end (by rw [strs_len, strs_len]; show _ + 4 ≤ _; omega), sts_app]
    rw [runF_cons (chk_one (lstAt_lst (get_app hl))) (d := atD b m) (ρ1 := [v0, v1, some (.ref lt), v3, some (.ref l), v5, v6, v7, v8, v9, v10, some (.str (atT b m)), some (.str b), some (.int m), v14]) (S1 := T ++ G) (ρ2 := [v0, v1, some (.ref lt), v3, some (.ref (T ++ G ++ [Cell.lst (sts Q1)]).length), v5, v6, v7, v8, v9, v10, some (.str (atT b m)), some (.str b), some (.int m), v14]) (S2 := T ++ (G ++ [Cell.lst (sts Q1), Cell.lst (sts (Q ++ Q1))])) (by unfold atD; rw [tgT_ rfl]; rfl) ?_]
    · exact q3
    · rw [gs]
      walk_at "ev"
      rw [e1]
      walk_at "ev"
      rw [show ∀ b m (S : Store), gIx (atD b m) (.int 0) S = some (.str (atT b m), S) from fun _ _ _ => rfl]
      walk_at "ev"
      rw [show ∀ (S : Store), gSl (.str b) none (some 1) S = some (.str (cutS b none (some 1)), S) from fun _ => rfl]
      walk_at "ev"
      show kN 4 _ (toR (gAdd (.ref l) (.ref (T ++ G).length) (T ++ G ++ [Cell.lst (sts Q1)]))) = _
      rw [ga]
      walk_at "ev"
end Lw

set_option Elab.async false
set_option linter.all false
set_option maxRecDepth 100000
namespace Lw
open PySem L2 Dl
local macro_rules | `(tactic| walk_at "ev") => `(tactic| simp (disch := first | omega | assumption | (simp only [List.length_cons, List.length_nil]; omega)) only [sQ_, sP_, sE_, sR_, sIf_, sN_, sA_, tgO_nx, nm_, tgIx_, eC_, eV0, eV1, e1_, e2_, eB_, eF_, aN_, aC_, eMt_, eSl_, oN_, oI_, tV_, tE_, tA_, tO_, tN_, eIf_, eAnd_, eOr_, eNot_, eCh_,
  seq_nx, seq_rt, seq_bk, seq_ct, seq_ex, toR_some, toR_none, toT_some, truD_bl, truD_int, truD_tup, tyD_str, tyD_tup, tyD_int, tyD_bl, tyD_non,
  kE_, kR_, kIf_t, kIf_f, kN_, kA_, kIx1_, kIx2_, kIx3_, kE1_, kE21_, kE2_, kB_, kF_, kC1_, kC_, kM1_, kM2_, kM_, kS1_, kS2_, kS3_, kO_, kV_, kT_, kAn_t, kAn_f, kOr_t, kOr_f, kNo_, kIfE_t, kIfE_f, kVa_, kVa2_t, kVa2_f, kVo_, kVo2_t, kVo2_f, kVn_, kVn2_, kH_, kH1_, kH2_t, kH2_f, kH3_,
  List.getElem?_cons_zero, List.getElem?_cons_succ, List.set_cons_zero, List.set_cons_succ, gAdd_int, gAdd_str, gSub_int, gMul_l, gMul_r, gFdiv_int, gMod_int, gLt_int, gLe_int, gGt_int, gGe_int, gInt_int, gAbs_int, gLen_tup, gLen_str, gTpl_, gLsd_,
  Bool.false_eq_true, if_true, if_false, reduceIte, Option.map_some, Option.bind_some, gEq_int, gNe_int, gEq_str, gNe_str, Bool.not_true, Bool.not_false, decide_true, decide_false, List.length_singleton, List.length_cons, List.length_nil, List.map_cons, List.map_nil, Nat.sub_self, List.replicate_zero, List.append_nil, List.cons_append, List.nil_append, List.replicate_succ, Nat.reduceSub, Nat.reduceAdd, Nat.add_zero, Nat.zero_add, tgT_, tgL0, tgL1])
local macro_rules | `(tactic| walk_at "evs") => `(tactic| simp (disch := first | omega | assumption | (simp only [List.length_cons, List.length_nil]; omega)) only [sQ_, sP_, sE_, sR_, sIf_, sN_, sA_, tgO_nx, nm_, tgIx_, eC_, eV0, eV1, e1_, e2_, eB_, eF_, aN_, aC_, eMt_, eSl_, oN_, oI_, tV_, tE_, tA_, tO_, tN_, eIf_, eAnd_, eOr_, eNot_, eCh_,
  seq_nx, seq_rt, seq_bk, seq_ct, seq_ex, toR_some, toR_none, toT_some, truD_bl, truD_int, truD_tup, tyD_str, tyD_tup, tyD_int, tyD_bl, tyD_non,
  kE_, kR_, kIf_t, kIf_f, kN_, kA_, kIx1_, kIx2_, kIx3_, kE1_, kE21_, kE2_, kB_, kF_, kC1_, kC_, kM1_, kM2_, kM_, kS1_, kS2_, kS3_, kO_, kV_, kT_, kAn_t, kAn_f, kOr_t, kOr_f, kNo_, kIfE_t, kIfE_f, kVa_, kVa2_t, kVa2_f, kVo_, kVo2_t, kVo2_f, kVn_, kVn2_, kH_, kH1_, kH2_t, kH2_f, kH3_,
  List.getElem?_cons_zero, List.getElem?_cons_succ, List.set_cons_zero, List.set_cons_succ, gAdd_int, gAdd_str, gSub_int, gMul_l, gMul_r, gFdiv_int, gMod_int, gLt_int, gLe_int, gGt_int, gGe_int, gInt_int, gAbs_int, gLen_tup, gLen_str, gTpl_, gLsd_,
  Bool.false_eq_true, if_true, if_false, reduceIte, Option.map_some, Option.bind_some, gEq_int, gNe_int, gEq_str, gNe_str, Bool.not_true, Bool.not_false, decide_true, decide_false, List.length_singleton, List.length_cons, List.length_nil, List.map_cons, List.map_nil, Nat.sub_self, List.replicate_zero, List.append_nil, List.cons_append, List.nil_append, List.replicate_succ, Nat.reduceSub, Nat.reduceAdd, Nat.add_zero, Nat.zero_add, tgT_, tgL0, tgL1, *])
/-! ## the law -/
theorem cmp_bl {n : Nat} {b : Bool} {S : Store} : ∃ T, cmp n (.bl b) S = .ok (.bl b) T := by
  unfold cmp
  split
  · exact ⟨_, if_pos rfl⟩
  · exact ⟨_, rfl⟩
/-- texts of a row -/
theorem texts_of : ∀ {R : List D}, AtomsL R → ∃ xs : List Str, xs.length = R.length ∧ (R.map fun d => match d with | .tup (x :: _) => x | d => d) = sts xs
  | [], _ => ⟨[], rfl, rfl⟩
  | d :: R, h => by
    obtain ⟨b, m, rfl, _⟩ := h d (List.mem_cons_self ..)
    obtain ⟨xs, h1, h2⟩ := texts_of (R := R) fun x hx => h x (List.mem_cons_of_mem _ hx)
    exact ⟨atT b m :: xs, by rw [List.length_cons, List.length_cons, h1], by rw [List.map_cons, h2]; rfl⟩
theorem texts_spec {R : List D} (h : AtomsL R) (hz : R.length ≤ 1000000) : ∃ xs : List Str, xs.length = R.length ∧ ∀ {l : Nat} {T : Store} {v0 v1 v2 v4 v5 v6 v7 v8 v9 v10 v11 v12 v13 v14 : Option D}, T[l]? = some (Cell.lst R) → SFlat T →
    eLc [14] (iA (eV 3)) (.one 14) tYesD (Dl.e2 gIx (eV 14) (eC (.int 0))) [v0, v1, v2, some (.ref l), v4, v5, v6, v7, v8, v9, v10, v11, v12, v13, v14] T = .ok (.ref T.length) (T ++ [Cell.lst (sts xs)]) := by
  obtain ⟨xs, h1, h2⟩ := texts_of h
  refine ⟨xs, h1, fun {l T v0 v1 v2 v4 v5 v6 v7 v8 v9 v10 v11 v12 v13 v14} hl hT => ?_⟩
  rw [eLc_ok (iA_lst (S' := T) (by walk_at "ev") (lstAt_lst hl))]
  have q := runC_map (ρ := wipeD [v0, v1, v2, some (.ref l), v4, v5, v6, v7, v8, v9, v10, v11, v12, v13, v14] [14]) (g := .one 14) (ft := tYesD) (fe := Dl.e2 gIx (eV 14) (eC (.int 0))) (l := T.length) (k := [(l, R)]) (fun d => match d with | .tup (x :: _) => x | d => d) (fun _ => true) R [] T hT rfl (by show 0 + _ ≤ _; omega) (fun S => chk_app S) (chk_one (lstAt_lst hl)) (fun d hd => by
    obtain ⟨b, m, rfl, _⟩ := h d hd
    refine ⟨_, rfl, fun a => ⟨rfl, fun _ => ?_⟩⟩
    show Dl.e2 gIx (eV 14) (eC (.int 0)) [v0, v1, v2, some (.ref l), v4, v5, v6, v7, v8, v9, v10, v11, v12, v13, some (atD b m)] _ = _
    walk_at "ev"
    rfl)
  rw [List.nil_append, List.filter_eq_self.mpr (fun _ _ => rfl), h2] at q
  exact q
theorem sts_rev (xs : List Str) : (sts xs).reverse = sts xs.reverse := (List.map_reverse ..).symm
def plainL : List D := [.tup [.str "a", .str "a", .int 0], .tup [.str "z9999999.999999", .str "z9999999", .int 999999], .tup [.str "n1.1", .str "n1", .int 1], .tup [.str "a00.10", .str "a00", .int 10]]
theorem atD_lit {t b : Str} {m : Int} (h : t = atT b m) : D.tup [.str t, .str b, .int m] = atD b m := by rw [h]; rfl
theorem plain_atoms : AtomsL plainL := by
  intro d hd
  rcases List.mem_cons.mp hd with q | hd
  · exact ⟨"a", 0, q.trans (atD_lit (by decide +kernel)), ⟨by decide +kernel, by decide +kernel⟩, by decide, by decide⟩
  rcases List.mem_cons.mp hd with q | hd
  · exact ⟨"z9999999", 999999, q.trans (atD_lit (by decide +kernel)), ⟨by decide +kernel, by decide +kernel⟩, by decide, by decide⟩
  rcases List.mem_cons.mp hd with q | hd
  · exact ⟨"n1", 1, q.trans (atD_lit (by decide +kernel)), ⟨by decide +kernel, by decide +kernel⟩, by decide, by decide⟩
  · exact ⟨"a00", 10, (List.mem_singleton.mp hd).trans (atD_lit (by decide +kernel)), ⟨by decide +kernel, by decide +kernel⟩, by decide, by decide⟩
local macro_rules | `(tactic| walk_at "lw") => `(tactic| simp (disch := first | omega | assumption | (simp only [List.length_cons, List.length_nil]; omega)) only [sQ_, sP_, sE_, sR_, sIf_, sN_, sA_, tgO_nx, nm_, tgIx_, eC_, eV0, eV1, e1_, e2_, eB_, eF_, aN_, aC_, eMt_, eSl_, oN_, oI_, tV_, tE_, tA_, tO_, tN_, eIf_, eAnd_, eOr_, eNot_, eCh_,
  seq_nx, seq_rt, seq_bk, seq_ct, seq_ex, toR_some, toR_none, toT_some, truD_bl, truD_int, truD_tup, tyD_str, tyD_tup, tyD_int, tyD_bl, tyD_non,
  kE_, kR_, kIf_t, kIf_f, kN_, kA_, kIx1_, kIx2_, kIx3_, kE1_, kE21_, kE2_, kB_, kF_, kC1_, kC_, kM1_, kM2_, kM_, kS1_, kS2_, kS3_, kO_, kV_, kT_, kAn_t, kAn_f, kOr_t, kOr_f, kNo_, kIfE_t, kIfE_f, kVa_, kVa2_t, kVa2_f, kVo_, kVo2_t, kVo2_f, kVn_, kVn2_, kH_, kH1_, kH2_t, kH2_f, kH3_,
  List.getElem?_cons_zero, List.getElem?_cons_succ, List.set_cons_zero, List.set_cons_succ, gAdd_int, gAdd_str, gSub_int, gMul_l, gMul_r, gFdiv_int, gMod_int, gLt_int, gLe_int, gGt_int, gGe_int, gInt_int, gAbs_int, gLen_tup, gLen_str, gTpl_,
  Bool.false_eq_true, if_true, if_false, reduceIte, Option.map_some, Option.bind_some, gEq_int, gNe_int, gEq_str, gNe_str, Bool.not_true, Bool.not_false, decide_true, decide_false, List.length_singleton, List.length_cons, List.length_nil, List.map_cons, List.map_nil, Nat.sub_self, List.replicate_zero, List.append_nil, List.cons_append, List.nil_append, List.replicate_succ, Nat.reduceSub, Nat.reduceAdd, Nat.add_zero, Nat.zero_add, tgT_, tgL0, tgL1])
theorem set_keep {S : Store} {p q : Nat} {c d : Cell} (h : S[q]? = some c) (n : p ≠ q) : (S.set p d)[q]? = some c := by rw [List.getElem?_set_ne n]; exact h
theorem ne_end {S : Store} {p : Nat} {c : Cell} (h : S[p]? = some c) : p ≠ S.length := Nat.ne_of_lt (get_lt h)
theorem seq_step {a b : SX} {ρ ρ' : Dl.Env} {S S' : Store} {o : Dl.Out} (h1 : a ρ S = .nx ρ' S') (h2 : b ρ' S' = o) : sQ a b ρ S = o := by rw [sQ_, h1]; exact h2
theorem good_at (M : Nat) (hM : 79 ≤ M) (ns : List Int) : ∃ S, tab (M + 1) .law [.ref 0] [.rol (ns.map D.int)] = .ok (.bl true) S := by
  have h0 : ([Cell.rol (ns.map D.int)] : Store)[0]? = some (Cell.rol (ns.map D.int)) := rfl
  have f0 : SFlat [Cell.rol (ns.map D.int)] := fun c hc => by
    rw [List.mem_singleton.mp hc]
    show flats (ns.map D.int) = true
    clear hc h0
    induction ns with
    | nil => rfl
    | cons n ns ih => exact ih
  generalize ([Cell.rol (ns.map D.int)] : Store) = U0 at h0 f0 ⊢
  -- the pool
  obtain ⟨pp, U1, P, r1, p1, n1, hp, f1, e1⟩ : ∃ p U P, U[0]? = some (Cell.rol (ns.map D.int)) ∧ U[p]? = some (Cell.lst P) ∧ p ≠ 0 ∧ Pool 0 P ∧ SFlat U ∧ tab M ._law_pool [.ref 0, .int 0] U0 = .ok (.ref p) U := by
    obtain ⟨P, hp, e⟩ := pool_spec (M - 2) h0 f0 0 (by decide)
    rw [show M - 2 + 2 = M by omega] at e
    exact ⟨_, _, P, get_app h0, get_end, Ne.symm (ne_end h0), hp, f0.push hp.flat, e⟩
  -- the lot
  obtain ⟨lt, U2, P2, A, r2, p2, l2, nl2, nl0, hp2, hA, hA4, f2, e2⟩ : ∃ l U P A, U[0]? = some (Cell.rol (ns.map D.int)) ∧ U[pp]? = some (Cell.lst P) ∧ U[l]? = some (Cell.lst A) ∧ pp ≠ l ∧ 0 ≠ l ∧ Pool 100 P ∧ AtomsL A ∧ A.length = 4 ∧ SFlat U ∧ tab M ._law_lot [.ref pp] U1 = .ok (.ref l) U := by
    obtain ⟨A, P', q1, q2, q3, q4⟩ := lot_spec (M - 4) p1 hp (by decide) f1
    rw [show M - 4 + 4 = M by omega] at q4
    exact ⟨_, _, P', A, get_app (set_keep r1 n1), get_app (get_set p1), get_end' (by rw [List.length_set]), ne_end p1, ne_end r1, q1, q2, q3, (f1.set (c := Cell.lst P') q1.flat).push q2.flat, q4⟩
  -- the row
  obtain ⟨rw_, U3, P3, R, r3, p3, l3, w3, hp3, hR, hR1, hR2, f3, nw, e3⟩ : ∃ l U P R, U[0]? = some (Cell.rol (ns.map D.int)) ∧ U[pp]? = some (Cell.lst P) ∧ U[lt]? = some (Cell.lst A) ∧ U[l]? = some (Cell.lst R) ∧ Pool 1400 P ∧ AtomsL R ∧ 1 ≤ R.length ∧ R.length ≤ 40 ∧ SFlat U ∧ pp ≠ l ∧ tab M ._law_row [.ref pp, .ref lt] U2 = .ok (.ref l) U := by
    obtain ⟨P', R, q1, q2, q3, q4, q5⟩ := row_spec (M - 4) hA hA4 nl2 p2 l2 hp2 (by decide) f2
    rw [show M - 4 + 4 = M by omega] at q5
    exact ⟨_, _, P', R, get_app (set_keep r2 n1), get_app (get_set p2), get_app (set_keep l2 nl2), get_end' (by rw [List.length_set]), q1, q2, q3, q4, (f2.set (c := Cell.lst P') q1.flat).push q2.flat, ne_end p2, q5⟩
  -- one fresh atom
  obtain ⟨b, m, U4, P4, r4, p4, l4, w4, hp4, hb, f4, e4⟩ : ∃ b m U P, U[0]? = some (Cell.rol (ns.map D.int)) ∧ U[pp]? = some (Cell.lst P) ∧ U[lt]? = some (Cell.lst A) ∧ U[rw_]? = some (Cell.lst R) ∧ Pool 1420 P ∧ Base b ∧ SFlat U ∧ tab M ._law_fresh [.ref pp] U3 = .ok (atD b m) U := by
    obtain ⟨b, m, P', q1, q2, q3, q4, q5⟩ := fresh_spec (M - 3) p3 hp3 (by decide) f3
    rw [show M - 3 + 3 = M by omega] at q5
    exact ⟨b, m, _, P', set_keep r3 n1, get_set p3, set_keep l3 nl2, set_keep w3 nw, q1, q2, f3.set (c := Cell.lst P') q1.flat, q5⟩
  -- what is asked
  obtain ⟨qa, U5, r5, l5, w5, q5, f5, e5⟩ : ∃ l U, U[0]? = some (Cell.rol (ns.map D.int)) ∧ U[lt]? = some (Cell.lst A) ∧ U[rw_]? = some (Cell.lst R) ∧ U[l]? = some (Cell.lst (sts [atT b m])) ∧ SFlat U ∧ gLsd [.str (atT b m)] U4 = some (.ref l, U) :=
    ⟨_, _, get_app r4, get_app l4, get_app w4, get_end, f4.push (c := Cell.lst (sts [atT b m])) rfl, gLsd_ (by show 1 ≤ 16777216; decide)⟩
  obtain ⟨qb, Q, U6, x, y, z, r6, l6, w6, q6, f6, e6⟩ : ∃ l Q U x y z, U[0]? = some (Cell.rol (ns.map D.int)) ∧ U[lt]? = some (Cell.lst A) ∧ U[rw_]? = some (Cell.lst R) ∧ U[l]? = some (Cell.lst (sts Q)) ∧ SFlat U ∧ sF (iA (eV 2)) (tgT [(nm 11), (nm 12), (nm 13)]) (sN 4 (Dl.e2 gAdd (eV 4) (eB gLsd (aC (eV 11) (aC (eV 12) (aC (Dl.e2 gIx (eF (tab M ._law_numbered) (aC (eV 12) (aC (Dl.e2 gAdd (Dl.e2 gMod (eB gInt (aC (eV 13) aN)) (eC (.int 999999))) (eC (.int 1))) aN))) (eC (.int 0))) (aC (eSl (eV 12) oN (oI (eC (.int 1)))) aN)))))))
      [some (.ref 0), some (.ref pp), some (.ref lt), some (.ref rw_), some (.ref qa), none, none, none, none, none, none, none, none, none, none] U5 = .nx [some (.ref 0), some (.ref pp), some (.ref lt), some (.ref rw_), some (.ref l), none, none, none, none, none, none, x, y, z, none] U := by
    obtain ⟨l', Q', G', x', y', z', s1, s2, s3⟩ := ask_loop (M - 1) l5 (v0 := some (.ref 0)) (v1 := some (.ref pp)) (v3 := some (.ref rw_)) (v5 := none) (v6 := none) (v7 := none) (v8 := none) (v9 := none) (v10 := none) (v14 := none) A [atT b m] [] qa none none none hA (by rw [List.append_nil]; exact q5) (by rw [List.append_nil]; exact f5) (by rw [hA4]; show 1 + 4 * 4 ≤ 1000000; decide)
    refine ⟨l', Q', _, x', y', z', get_app r5, get_app l5, get_app w5, s1, s2, ?_⟩
    rw [List.append_nil, show M - 1 + 1 = M by omega] at s3
    rw [sF_ok (iA_lst (S' := U5) (by walk_at "ev") (lstAt_lst l5))]
    exact s3
  -- the texts, and back
  obtain ⟨xs, hx, tx⟩ := texts_spec hR (by omega)
  obtain ⟨ta, U7, r7, l7, w7, q7, t7, f7, e7⟩ : ∃ l U, U[0]? = some (Cell.rol (ns.map D.int)) ∧ U[lt]? = some (Cell.lst A) ∧ U[rw_]? = some (Cell.lst R) ∧ U[qb]? = some (Cell.lst (sts Q)) ∧ U[l]? = some (Cell.lst (sts xs)) ∧ SFlat U ∧
      ∀ {v0 v1 v2 v4 v5 v6 v7 v8 v9 v10 v11 v12 v13 v14 : Option D}, eLc [14] (iA (eV 3)) (.one 14) tYesD (Dl.e2 gIx (eV 14) (eC (.int 0))) [v0, v1, v2, some (.ref rw_), v4, v5, v6, v7, v8, v9, v10, v11, v12, v13, v14] U6 = .ok (.ref l) U :=
    ⟨_, _, get_app r6, get_app l6, get_app w6, get_app q6, get_end, f6.push (c := Cell.lst (sts xs)) (strs_flat _), tx w6 f6⟩
  obtain ⟨ba, U8, r8, l8, w8, q8, t8, b8, f8, e8⟩ : ∃ l U, U[0]? = some (Cell.rol (ns.map D.int)) ∧ U[lt]? = some (Cell.lst A) ∧ U[rw_]? = some (Cell.lst R) ∧ U[qb]? = some (Cell.lst (sts Q)) ∧ U[ta]? = some (Cell.lst (sts xs)) ∧ U[l]? = some (Cell.lst (sts xs.reverse)) ∧ SFlat U ∧ gListRev (.ref ta) U7 = some (.ref l, U) :=
    ⟨_, _, get_app r7, get_app l7, get_app w7, get_app q7, get_app t7, get_end, f7.push (c := Cell.lst (sts xs.reverse)) (strs_flat _), by
      show (lstAt U7 ta).map _ = _
      rw [lstAt_lst t7]
      show some (_, U7 ++ [Cell.lst (sts xs).reverse]) = _
      rw [sts_rev]⟩
  have hv : xs.reverse.length = xs.length := List.length_reverse ..
  -- the first kind
  obtain ⟨s1, U9, P9, r9, l9, w9, q9, t9, b9, s9, ns1, hp9, f9, e9⟩ : ∃ p U P, U[0]? = some (Cell.rol (ns.map D.int)) ∧ U[lt]? = some (Cell.lst A) ∧ U[rw_]? = some (Cell.lst R) ∧ U[qb]? = some (Cell.lst (sts Q)) ∧ U[ta]? = some (Cell.lst (sts xs)) ∧ U[ba]? = some (Cell.lst (sts xs.reverse)) ∧ U[p]? = some (Cell.lst P) ∧ (p ≠ 0 ∧ p ≠ lt ∧ p ≠ rw_ ∧ p ≠ qb ∧ p ≠ ta ∧ p ≠ ba) ∧ Pool 0 P ∧ SFlat U ∧ tab M ._law_pool [.ref 0, .int 1] U8 = .ok (.ref p) U := by
    obtain ⟨P, hp, e⟩ := pool_spec (M - 2) r8 f8 1 (by decide)
    rw [show M - 2 + 2 = M by omega] at e
    exact ⟨_, _, P, get_app r8, get_app l8, get_app w8, get_app q8, get_app t8, get_app b8, get_end, ⟨Ne.symm (ne_end r8), Ne.symm (ne_end l8), Ne.symm (ne_end w8), Ne.symm (ne_end q8), Ne.symm (ne_end t8), Ne.symm (ne_end b8)⟩, hp, f8.push hp.flat, e⟩
  obtain ⟨n0, n2, n3, n4, n5, n6⟩ := ns1
  obtain ⟨d1, Pa, hpa, da0, da1, ea⟩ := draw_spec (M - 2) s9 hp9 (by decide) (many := 8) (by decide) (by decide)
  rw [show M - 2 + 2 = M by omega] at ea
  obtain ⟨K1, Ub, Pb, rb, lb, wb, qb_, tb, bb, hk1, fb, eb⟩ : ∃ K U P, U[0]? = some (Cell.rol (ns.map D.int)) ∧ U[lt]? = some (Cell.lst A) ∧ U[rw_]? = some (Cell.lst R) ∧ U[qb]? = some (Cell.lst (sts Q)) ∧ U[ta]? = some (Cell.lst (sts xs)) ∧ U[ba]? = some (Cell.lst (sts xs.reverse)) ∧ IsK K xs ∧ SFlat U ∧ tab M ._law_bracket [.ref s1, .ref ta, .int d1] (U9.set s1 (Cell.lst Pa)) = .ok K U := by
    obtain ⟨K, P', q1, q2, q3⟩ := bracket_spec (M - 43) (w := d1) 40 xs (by omega) (by omega) n5 (get_set s9) (set_keep t9 n5) hpa (by omega) (by omega) (f9.set (c := Cell.lst Pa) hpa.flat)
    rw [List.set_set, show M - 43 + 40 + 3 = M by omega] at q3
    exact ⟨K, _, P', set_keep r9 n0, set_keep l9 n2, set_keep w9 n3, set_keep q9 n4, set_keep t9 n5, set_keep b9 n6, q2, f9.set (c := Cell.lst P') q1.flat, q3⟩
  -- the second kind
  obtain ⟨s2, Uc, Pc, rc, lc, wc, qc, tc, bc, sc, ns2, hpc, fc, ec⟩ : ∃ p U P, U[0]? = some (Cell.rol (ns.map D.int)) ∧ U[lt]? = some (Cell.lst A) ∧ U[rw_]? = some (Cell.lst R) ∧ U[qb]? = some (Cell.lst (sts Q)) ∧ U[ta]? = some (Cell.lst (sts xs)) ∧ U[ba]? = some (Cell.lst (sts xs.reverse)) ∧ U[p]? = some (Cell.lst P) ∧ (p ≠ 0 ∧ p ≠ lt ∧ p ≠ rw_ ∧ p ≠ qb ∧ p ≠ ta ∧ p ≠ ba) ∧ Pool 0 P ∧ SFlat U ∧ tab M ._law_pool [.ref 0, .int 2] Ub = .ok (.ref p) U := by
    obtain ⟨P, hp, e⟩ := pool_spec (M - 2) rb fb 2 (by decide)
    rw [show M - 2 + 2 = M by omega] at e
    exact ⟨_, _, P, get_app rb, get_app lb, get_app wb, get_app qb_, get_app tb, get_app bb, get_end, ⟨Ne.symm (ne_end rb), Ne.symm (ne_end lb), Ne.symm (ne_end wb), Ne.symm (ne_end qb_), Ne.symm (ne_end tb), Ne.symm (ne_end bb)⟩, hp, fb.push hp.flat, e⟩
  obtain ⟨o0, o2, o3, o4, o5, o6⟩ := ns2
  obtain ⟨d2, Pd, hpd, dd0, dd1, ed⟩ := draw_spec (M - 2) sc hpc (by decide) (many := 8) (by decide) (by decide)
  rw [show M - 2 + 2 = M by omega] at ed
  obtain ⟨K2, Ue, Pe, re, le_, we, qe, te, be, hk2, fe, ee⟩ : ∃ K U P, U[0]? = some (Cell.rol (ns.map D.int)) ∧ U[lt]? = some (Cell.lst A) ∧ U[rw_]? = some (Cell.lst R) ∧ U[qb]? = some (Cell.lst (sts Q)) ∧ U[ta]? = some (Cell.lst (sts xs)) ∧ U[ba]? = some (Cell.lst (sts xs.reverse)) ∧ IsK K xs.reverse ∧ SFlat U ∧ tab M ._law_bracket [.ref s2, .ref ba, .int d2] (Uc.set s2 (Cell.lst Pd)) = .ok K U := by
    obtain ⟨K, P', q1, q2, q3⟩ := bracket_spec (M - 43) (w := d2) 40 xs.reverse (by omega) (by omega) o6 (get_set sc) (set_keep bc o6) hpd (by omega) (by omega) (fc.set (c := Cell.lst Pd) hpd.flat)
    rw [List.set_set, show M - 43 + 40 + 3 = M by omega] at q3
    exact ⟨K, _, P', set_keep rc o0, set_keep lc o2, set_keep wc o3, set_keep qc o4, set_keep tc o5, set_keep bc o6, q2, fc.set (c := Cell.lst P') q1.flat, q3⟩
  -- measured
  have m1 := measured_spec (M - 2) hk1 (by omega) (by omega) te qe fe
  rw [show M - 2 + 2 = M by omega] at m1
  have m2 := measured_spec (M - 2) hk2 (by omega) (by omega) be qe fe
  rw [show M - 2 + 2 = M by omega] at m2
  obtain ⟨pa, Uf, lf, wf, qf, tf, pf, ff, ef⟩ : ∃ l U, U[lt]? = some (Cell.lst A) ∧ U[rw_]? = some (Cell.lst R) ∧ U[qb]? = some (Cell.lst (sts Q)) ∧ U[ta]? = some (Cell.lst (sts xs)) ∧ U[l]? = some (Cell.lst plainL) ∧ SFlat U ∧ gLsd plainL Ue = some (.ref l, U) :=
    ⟨_, _, get_app le_, get_app we, get_app qe, get_app te, get_end, fe.push (c := Cell.lst plainL) plain_atoms.flat, gLsd_ (by show 4 ≤ 16777216; decide)⟩
  obtain ⟨g1, Ug, qg, tg, pg, gg, fg, eg⟩ : ∃ l U, U[qb]? = some (Cell.lst (sts Q)) ∧ U[ta]? = some (Cell.lst (sts xs)) ∧ U[pa]? = some (Cell.lst plainL) ∧ U[l]? = some (Cell.lst (R ++ A)) ∧ SFlat U ∧ gAdd (.ref rw_) (.ref lt) Uf = some (.ref l, U) :=
    ⟨_, _, get_app qf, get_app tf, get_app pf, get_end, ff.push (c := Cell.lst (R ++ A)) (hR.append hA).flat, gAdd_lst wf lf (by omega)⟩
  obtain ⟨g2, Uh, qh, th, gh, fh, eh⟩ : ∃ l U, U[qb]? = some (Cell.lst (sts Q)) ∧ U[ta]? = some (Cell.lst (sts xs)) ∧ U[l]? = some (Cell.lst (R ++ A ++ plainL)) ∧ SFlat U ∧ gAdd (.ref g1) (.ref pa) Ug = some (.ref l, U) :=
    ⟨_, _, get_app qg, get_app tg, get_end, fg.push (c := Cell.lst (R ++ A ++ plainL)) ((hR.append hA).append plain_atoms).flat, gAdd_lst gg pg (by rw [List.length_append]; show _ + 4 ≤ _; omega)⟩
  have ap := apart_spec (M - 2) gh ((hR.append hA).append plain_atoms)
  rw [show M - 2 + 2 = M by omega] at ap
  have m3 := measured_spec (M - 2) hk1 (by omega) (by omega) th qh fh
  rw [show M - 2 + 2 = M by omega] at m3
  obtain ⟨Sf, cf⟩ := cmp_bl (n := U0.length) (b := true) (S := Uh)
  refine ⟨Sf, (runB_rt (np := 1) (ns := 15) (ds := [.ref 0]) (g := b_law (tab M)) (d := .bl true) (S' := Uh) rfl ?_).trans cf⟩
  have at0 : ∀ b m (S : Store), gIx (atD b m) (.int 0) S = some (.str (atT b m), S) := fun _ _ _ => rfl
  generalize tab M = F at *
  unfold b_law
  refine seq_step (ρ' := [some (.ref 0), some (.ref pp), none, none, none, none, none, none, none, none, none, none, none, none, none]) (S' := U1) ?_ ?_
  · walk_at "lw"
    rw [e1]
    walk_at "lw"
  refine seq_step (ρ' := [some (.ref 0), some (.ref pp), some (.ref lt), none, none, none, none, none, none, none, none, none, none, none, none]) (S' := U2) ?_ ?_
  · walk_at "lw"
    rw [e2]
    walk_at "lw"
  refine seq_step (ρ' := [some (.ref 0), some (.ref pp), some (.ref lt), some (.ref rw_), none, none, none, none, none, none, none, none, none, none, none]) (S' := U3) ?_ ?_
  · walk_at "lw"
    rw [e3]
    walk_at "lw"
  refine seq_step (ρ' := [some (.ref 0), some (.ref pp), some (.ref lt), some (.ref rw_), some (.ref qa), none, none, none, none, none, none, none, none, none, none]) (S' := U5) ?_ ?_
  · walk_at "lw"
    rw [e4]
    walk_at "lw"
    rw [at0]
    walk_at "lw"
    rw [e5]
    walk_at "lw"
  refine seq_step (ρ' := [some (.ref 0), some (.ref pp), some (.ref lt), some (.ref rw_), some (.ref qb), none, none, none, none, none, none, x, y, z, none]) (S' := U6) e6 ?_
  refine seq_step (ρ' := [some (.ref 0), some (.ref pp), some (.ref lt), some (.ref rw_), some (.ref qb), some (.ref ta), none, none, none, none, none, x, y, z, none]) (S' := U7) ?_ ?_
  · walk_at "lw"
    rw [e7]
    walk_at "lw"
  refine seq_step (ρ' := [some (.ref 0), some (.ref pp), some (.ref lt), some (.ref rw_), some (.ref qb), some (.ref ta), some (.ref ba), none, none, none, none, x, y, z, none]) (S' := U8) ?_ ?_
  · walk_at "lw"
    rw [e8]
    walk_at "lw"
  refine seq_step (ρ' := [some (.ref 0), some (.ref pp), some (.ref lt), some (.ref rw_), some (.ref qb), some (.ref ta), some (.ref ba), some (.ref s1), none, none, none, x, y, z, none]) (S' := U9) ?_ ?_
  · walk_at "lw"
    rw [e9]
    walk_at "lw"
  refine seq_step (ρ' := [some (.ref 0), some (.ref pp), some (.ref lt), some (.ref rw_), some (.ref qb), some (.ref ta), some (.ref ba), some (.ref s1), some (K1), none, none, x, y, z, none]) (S' := Ub) ?_ ?_
  · walk_at "lw"
    rw [ea]
    walk_at "lw"
    rw [eb]
    walk_at "lw"
  refine seq_step (ρ' := [some (.ref 0), some (.ref pp), some (.ref lt), some (.ref rw_), some (.ref qb), some (.ref ta), some (.ref ba), some (.ref s2), some (K1), none, none, x, y, z, none]) (S' := Uc) ?_ ?_
  · walk_at "lw"
    rw [ec]
    walk_at "lw"
  refine seq_step (ρ' := [some (.ref 0), some (.ref pp), some (.ref lt), some (.ref rw_), some (.ref qb), some (.ref ta), some (.ref ba), some (.ref s2), some (K1), some (K2), none, x, y, z, none]) (S' := Ue) ?_ ?_
  · walk_at "lw"
    rw [ed]
    walk_at "lw"
    rw [ee]
    walk_at "lw"
  refine seq_step (ρ' := [some (.ref 0), some (.ref pp), some (.ref lt), some (.ref rw_), some (.ref qb), some (.ref ta), some (.ref ba), some (.ref s2), some (K1), some (K2), none, x, y, z, none]) (S' := Ue) ?_ ?_
  · walk_at "lw"
    rw [m1]
    walk_at "lw"
    rw [m2]
    walk_at "lw"
  unfold plainL at ef
  refine seq_step (ρ' := [some (.ref 0), some (.ref pp), some (.ref lt), some (.ref rw_), some (.ref qb), some (.ref ta), some (.ref ba), some (.ref s2), some (K1), some (K2), some (.ref pa), x, y, z, none]) (S' := Uf) ?_ ?_
  · walk_at "lw"
    rw [ef]
    walk_at "lw"
  walk_at "lw"
  rw [eg]
  walk_at "lw"
  rw [eh]
  walk_at "lw"
  rw [ap]
  walk_at "lw"
  rw [m3]
  walk_at "lw"
theorem good : ∀ ns : List Int, ns.length ≤ 63 → ∃ S, tab 80 .law [.ref 0] [.rol (ns.map D.int)] = .ok (.bl true) S := fun ns _ => good_at 79 (Nat.le_refl _) ns
end Lw

set_option Elab.async false
set_option linter.all false
set_option maxRecDepth 100000
namespace Lw
open PySem L2 Dl
/-! ## the text by places -/
def topS (i : Nat) : Stmt := PySem.Challenge.pw_wordfractions_k00_kind_measures.main.body.getD i (.Pass ⟨0, 0, 0, 0⟩)
abbrev st_size_of : Stmt := topS 1
abbrev nl_size_of : List Str := ["kind"]
abbrev st_signs_of : Stmt := topS 2
abbrev nl_signs_of : List Str := ["kind"]
abbrev st_atoms_of : Stmt := topS 3
abbrev nl_atoms_of : List Str := ["kind"]
abbrev st_count_of : Stmt := topS 4
abbrev nl_count_of : List Str := ["kind", "atom"]
abbrev st_base_of : Stmt := topS 5
abbrev nl_base_of : List Str := ["atom"]
abbrev st_atom_number : Stmt := topS 6
abbrev nl_atom_number : List Str := ["atom", "number"]
abbrev st__law_cell : Stmt := topS 8
abbrev nl__law_cell : List Str := ["script", "k"]
abbrev st__law_mix : Stmt := topS 9
abbrev nl__law_mix : List Str := ["x"]
abbrev st__law_pool : Stmt := topS 10
abbrev nl__law_pool : List Str := ["script", "k", "cell"]
abbrev st__law_draw : Stmt := topS 11
abbrev nl__law_draw : List Str := ["pool", "many", "digit"]
abbrev st__law_numbered : Stmt := topS 12
abbrev nl__law_numbered : List Str := ["base", "number"]
abbrev st__law_fresh : Stmt := topS 13
abbrev nl__law_fresh : List Str := ["pool", "small", "base", "k", "way"]
abbrev st__law_lot : Stmt := topS 14
abbrev nl__law_lot : List Str := ["pool", "lot", "base", "number"]
abbrev st__law_row : Stmt := topS 15
abbrev nl__law_row : List Str := ["pool", "lot", "many", "row", "k", "pick"]
abbrev st__law_bracket : Stmt := topS 16
abbrev nl__law_bracket : List Str := ["pool", "texts", "way", "left", "sign", "first"]
abbrev st__law_is_integer : Stmt := topS 17
abbrev nl__law_is_integer : List Str := ["told"]
abbrev st__law_same_texts : Stmt := topS 18
abbrev nl__law_same_texts : List Str := ["told", "due", "k"]
abbrev st__law_measured : Stmt := topS 19
abbrev nl__law_measured : List Str := ["kind", "texts", "asked", "size", "signs", "atom", "many", "text"]
abbrev st__law_apart : Stmt := topS 20
abbrev nl__law_apart : List Str := ["atoms", "text", "base", "number", "told", "many"]
abbrev st_law : Stmt := topS 21
abbrev nl_law : List Str := ["script", "pool", "lot", "row", "asked", "texts", "back", "shape", "first", "second", "plain", "text", "base", "number", "atom"]
theorem sc_size_of : FnScope nl_size_of ["kind"] (defScope st_size_of) := ⟨rfl, rfl, rfl, by decide +kernel, rfl, by decide +kernel, by decide +kernel⟩
theorem sc_signs_of : FnScope nl_signs_of ["kind"] (defScope st_signs_of) := ⟨rfl, rfl, rfl, by decide +kernel, rfl, by decide +kernel, by decide +kernel⟩
theorem sc_atoms_of : FnScope nl_atoms_of ["kind"] (defScope st_atoms_of) := ⟨rfl, rfl, rfl, by decide +kernel, rfl, by decide +kernel, by decide +kernel⟩
theorem sc_count_of : FnScope nl_count_of ["kind", "atom"] (defScope st_count_of) := ⟨rfl, rfl, rfl, by decide +kernel, rfl, by decide +kernel, by decide +kernel⟩
theorem sc_base_of : FnScope nl_base_of ["atom"] (defScope st_base_of) := ⟨rfl, rfl, rfl, by decide +kernel, rfl, by decide +kernel, by decide +kernel⟩
theorem sc_atom_number : FnScope nl_atom_number ["atom"] (defScope st_atom_number) := ⟨rfl, rfl, rfl, by decide +kernel, rfl, by decide +kernel, by decide +kernel⟩
theorem sc__law_cell : FnScope nl__law_cell ["script", "k"] (defScope st__law_cell) := ⟨rfl, rfl, rfl, by decide +kernel, rfl, by decide +kernel, by decide +kernel⟩
theorem sc__law_mix : FnScope nl__law_mix ["x"] (defScope st__law_mix) := ⟨rfl, rfl, rfl, by decide +kernel, rfl, by decide +kernel, by decide +kernel⟩
theorem sc__law_pool : FnScope nl__law_pool ["script", "k"] (defScope st__law_pool) := ⟨rfl, rfl, rfl, by decide +kernel, rfl, by decide +kernel, by decide +kernel⟩
theorem sc__law_draw : FnScope nl__law_draw ["pool", "many"] (defScope st__law_draw) := ⟨rfl, rfl, rfl, by decide +kernel, rfl, by decide +kernel, by decide +kernel⟩
theorem sc__law_numbered : FnScope nl__law_numbered ["base", "number"] (defScope st__law_numbered) := ⟨rfl, rfl, rfl, by decide +kernel, rfl, by decide +kernel, by decide +kernel⟩
theorem sc__law_fresh : FnScope nl__law_fresh ["pool"] (defScope st__law_fresh) := ⟨rfl, rfl, rfl, by decide +kernel, rfl, by decide +kernel, by decide +kernel⟩
theorem sc__law_lot : FnScope nl__law_lot ["pool"] (defScope st__law_lot) := ⟨rfl, rfl, rfl, by decide +kernel, rfl, by decide +kernel, by decide +kernel⟩
theorem sc__law_row : FnScope nl__law_row ["pool", "lot"] (defScope st__law_row) := ⟨rfl, rfl, rfl, by decide +kernel, rfl, by decide +kernel, by decide +kernel⟩
theorem sc__law_bracket : FnScope nl__law_bracket ["pool", "texts", "way"] (defScope st__law_bracket) := ⟨rfl, rfl, rfl, by decide +kernel, rfl, by decide +kernel, by decide +kernel⟩
theorem sc__law_is_integer : FnScope nl__law_is_integer ["told"] (defScope st__law_is_integer) := ⟨rfl, rfl, rfl, by decide +kernel, rfl, by decide +kernel, by decide +kernel⟩
theorem sc__law_same_texts : FnScope nl__law_same_texts ["told", "due"] (defScope st__law_same_texts) := ⟨rfl, rfl, rfl, by decide +kernel, rfl, by decide +kernel, by decide +kernel⟩
theorem sc__law_measured : FnScope nl__law_measured ["kind", "texts", "asked"] (defScope st__law_measured) := ⟨rfl, rfl, rfl, by decide +kernel, rfl, by decide +kernel, by decide +kernel⟩
theorem sc__law_apart : FnScope nl__law_apart ["atoms"] (defScope st__law_apart) := ⟨rfl, rfl, rfl, by decide +kernel, rfl, by decide +kernel, by decide +kernel⟩
theorem sc_law : FnScope nl_law ["script"] (defScope st_law) := ⟨rfl, rfl, rfl, by decide +kernel, rfl, by decide +kernel, by decide +kernel⟩
theorem boot_isinstance_ : bootBuiltins "isinstance" = some (.builtin "isinstance") := by decide +kernel
theorem boot_str_ : bootBuiltins "str" = some (.type "str") := by decide +kernel
theorem boot_int_ : bootBuiltins "int" = some (.type "int") := by decide +kernel
theorem boot_len_ : bootBuiltins "len" = some (.builtin "len") := by decide +kernel
theorem boot_abs_ : bootBuiltins "abs" = some (.builtin "abs") := by decide +kernel
theorem boot_bool_ : bootBuiltins "bool" = some (.type "bool") := by decide +kernel
theorem boot_tuple_ : bootBuiltins "tuple" = some (.type "tuple") := by decide +kernel
theorem boot_list_ : bootBuiltins "list" = some (.type "list") := by decide +kernel
/-- a module's constant -/
structure Kon (K : PySem.W.Frag) (mg : Str → Option Value) (x : Str) (d : D) (v : V) (u : Value) : Prop where
  m : mg x = some u
  r : RelV v u
  d : ∀ m H, RD K m H v d
structure Txt (K : PySem.W.Frag) (mg : Str → Option Value) (f : FN → Addr) (fd : FN → FuncData) (cv : Nat → V) (cu : Nat → Value) : Prop where
  F_size_of : Fun K "size_of" "size_of" st_size_of (f .size_of) (fd .size_of)
  b_size_of : Binds K (fd .size_of) ["kind"] []
  m_size_of : mg "size_of" = some (.ref (f .size_of))
  F_signs_of : Fun K "signs_of" "signs_of" st_signs_of (f .signs_of) (fd .signs_of)
  b_signs_of : Binds K (fd .signs_of) ["kind"] []
  m_signs_of : mg "signs_of" = some (.ref (f .signs_of))
  F_atoms_of : Fun K "atoms_of" "atoms_of" st_atoms_of (f .atoms_of) (fd .atoms_of)
  b_atoms_of : Binds K (fd .atoms_of) ["kind"] []
  m_atoms_of : mg "atoms_of" = some (.ref (f .atoms_of))
  F_count_of : Fun K "count_of" "count_of" st_count_of (f .count_of) (fd .count_of)
  b_count_of : Binds K (fd .count_of) ["kind", "atom"] []
  m_count_of : mg "count_of" = some (.ref (f .count_of))
  F_base_of : Fun K "base_of" "base_of" st_base_of (f .base_of) (fd .base_of)
  b_base_of : Binds K (fd .base_of) ["atom"] []
  m_base_of : mg "base_of" = some (.ref (f .base_of))
  F_atom_number : Fun K "atom_number" "atom_number" st_atom_number (f .atom_number) (fd .atom_number)
  b_atom_number : Binds K (fd .atom_number) ["atom"] []
  m_atom_number : mg "atom_number" = some (.ref (f .atom_number))
  F__law_cell : Fun K "_law_cell" "_law_cell" st__law_cell (f ._law_cell) (fd ._law_cell)
  b__law_cell : Binds K (fd ._law_cell) ["script", "k"] []
  m__law_cell : mg "_law_cell" = some (.ref (f ._law_cell))
  F__law_mix : Fun K "_law_mix" "_law_mix" st__law_mix (f ._law_mix) (fd ._law_mix)
  b__law_mix : Binds K (fd ._law_mix) ["x"] []
  m__law_mix : mg "_law_mix" = some (.ref (f ._law_mix))
  F__law_pool : Fun K "_law_pool" "_law_pool" st__law_pool (f ._law_pool) (fd ._law_pool)
  b__law_pool : Binds K (fd ._law_pool) ["script", "k"] []
  m__law_pool : mg "_law_pool" = some (.ref (f ._law_pool))
  F__law_draw : Fun K "_law_draw" "_law_draw" st__law_draw (f ._law_draw) (fd ._law_draw)
  b__law_draw : Binds K (fd ._law_draw) ["pool", "many"] []
  m__law_draw : mg "_law_draw" = some (.ref (f ._law_draw))
  F__law_numbered : Fun K "_law_numbered" "_law_numbered" st__law_numbered (f ._law_numbered) (fd ._law_numbered)
  b__law_numbered : Binds K (fd ._law_numbered) ["base", "number"] []
  m__law_numbered : mg "_law_numbered" = some (.ref (f ._law_numbered))
  F__law_fresh : Fun K "_law_fresh" "_law_fresh" st__law_fresh (f ._law_fresh) (fd ._law_fresh)
  b__law_fresh : Binds K (fd ._law_fresh) ["pool"] []
  m__law_fresh : mg "_law_fresh" = some (.ref (f ._law_fresh))
  F__law_lot : Fun K "_law_lot" "_law_lot" st__law_lot (f ._law_lot) (fd ._law_lot)
  b__law_lot : Binds K (fd ._law_lot) ["pool"] []
  m__law_lot : mg "_law_lot" = some (.ref (f ._law_lot))
  F__law_row : Fun K "_law_row" "_law_row" st__law_row (f ._law_row) (fd ._law_row)
  b__law_row : Binds K (fd ._law_row) ["pool", "lot"] []
  m__law_row : mg "_law_row" = some (.ref (f ._law_row))
  F__law_bracket : Fun K "_law_bracket" "_law_bracket" st__law_bracket (f ._law_bracket) (fd ._law_bracket)
  b__law_bracket : Binds K (fd ._law_bracket) ["pool", "texts", "way"] []
  m__law_bracket : mg "_law_bracket" = some (.ref (f ._law_bracket))
  F__law_is_integer : Fun K "_law_is_integer" "_law_is_integer" st__law_is_integer (f ._law_is_integer) (fd ._law_is_integer)
  b__law_is_integer : Binds K (fd ._law_is_integer) ["told"] []
  m__law_is_integer : mg "_law_is_integer" = some (.ref (f ._law_is_integer))
  F__law_same_texts : Fun K "_law_same_texts" "_law_same_texts" st__law_same_texts (f ._law_same_texts) (fd ._law_same_texts)
  b__law_same_texts : Binds K (fd ._law_same_texts) ["told", "due"] []
  m__law_same_texts : mg "_law_same_texts" = some (.ref (f ._law_same_texts))
  F__law_measured : Fun K "_law_measured" "_law_measured" st__law_measured (f ._law_measured) (fd ._law_measured)
  b__law_measured : Binds K (fd ._law_measured) ["kind", "texts", "asked"] []
  m__law_measured : mg "_law_measured" = some (.ref (f ._law_measured))
  F__law_apart : Fun K "_law_apart" "_law_apart" st__law_apart (f ._law_apart) (fd ._law_apart)
  b__law_apart : Binds K (fd ._law_apart) ["atoms"] []
  m__law_apart : mg "_law_apart" = some (.ref (f ._law_apart))
  F_law : Fun K "law" "law" st_law (f .law) (fd .law)
  b_law : Binds K (fd .law) ["script"] []
  m_law : mg "law" = some (.ref (f .law))
  n_isinstance : mg "isinstance" = none
  n_str : mg "str" = none
  n_int : mg "int" = none
  n_len : mg "len" = none
  n_abs : mg "abs" = none
  n_range : mg "range" = none
  n_bool : mg "bool" = none
  n_tuple : mg "tuple" = none
  n_list : mg "list" = none
  n_reversed : mg "reversed" = none
structure Oks (P : Program) (w : World) (K : PySem.W.Frag) (mg : Str → Option Value) (base : Heap) (f : FN → Addr) (fd : FN → FuncData) (n : Nat) : Prop where
  o_size_of : FnOk P w K mg base (L2.CX P w) n (f .size_of) (fd .size_of) ["kind"] (rdF ⟨K, mg, W0⟩ (tab n .size_of))
  o_signs_of : FnOk P w K mg base (L2.CX P w) n (f .signs_of) (fd .signs_of) ["kind"] (rdF ⟨K, mg, W0⟩ (tab n .signs_of))
  o_atoms_of : FnOk P w K mg base (L2.CX P w) n (f .atoms_of) (fd .atoms_of) ["kind"] (rdF ⟨K, mg, W0⟩ (tab n .atoms_of))
  o_count_of : FnOk P w K mg base (L2.CX P w) n (f .count_of) (fd .count_of) ["kind", "atom"] (rdF ⟨K, mg, W0⟩ (tab n .count_of))
  o_base_of : FnOk P w K mg base (L2.CX P w) n (f .base_of) (fd .base_of) ["atom"] (rdF ⟨K, mg, W0⟩ (tab n .base_of))
  o_atom_number : FnOk P w K mg base (L2.CX P w) n (f .atom_number) (fd .atom_number) ["atom"] (rdF ⟨K, mg, W0⟩ (tab n .atom_number))
  o__law_cell : FnOk P w K mg base (L2.CX P w) n (f ._law_cell) (fd ._law_cell) ["script", "k"] (rdF ⟨K, mg, W0⟩ (tab n ._law_cell))
  o__law_mix : FnOk P w K mg base (L2.CX P w) n (f ._law_mix) (fd ._law_mix) ["x"] (rdF ⟨K, mg, W0⟩ (tab n ._law_mix))
  o__law_pool : FnOk P w K mg base (L2.CX P w) n (f ._law_pool) (fd ._law_pool) ["script", "k"] (rdF ⟨K, mg, W0⟩ (tab n ._law_pool))
  o__law_draw : FnOk P w K mg base (L2.CX P w) n (f ._law_draw) (fd ._law_draw) ["pool", "many"] (rdF ⟨K, mg, W0⟩ (tab n ._law_draw))
  o__law_numbered : FnOk P w K mg base (L2.CX P w) n (f ._law_numbered) (fd ._law_numbered) ["base", "number"] (rdF ⟨K, mg, W0⟩ (tab n ._law_numbered))
  o__law_fresh : FnOk P w K mg base (L2.CX P w) n (f ._law_fresh) (fd ._law_fresh) ["pool"] (rdF ⟨K, mg, W0⟩ (tab n ._law_fresh))
  o__law_lot : FnOk P w K mg base (L2.CX P w) n (f ._law_lot) (fd ._law_lot) ["pool"] (rdF ⟨K, mg, W0⟩ (tab n ._law_lot))
  o__law_row : FnOk P w K mg base (L2.CX P w) n (f ._law_row) (fd ._law_row) ["pool", "lot"] (rdF ⟨K, mg, W0⟩ (tab n ._law_row))
  o__law_bracket : FnOk P w K mg base (L2.CX P w) n (f ._law_bracket) (fd ._law_bracket) ["pool", "texts", "way"] (rdF ⟨K, mg, W0⟩ (tab n ._law_bracket))
  o__law_is_integer : FnOk P w K mg base (L2.CX P w) n (f ._law_is_integer) (fd ._law_is_integer) ["told"] (rdF ⟨K, mg, W0⟩ (tab n ._law_is_integer))
  o__law_same_texts : FnOk P w K mg base (L2.CX P w) n (f ._law_same_texts) (fd ._law_same_texts) ["told", "due"] (rdF ⟨K, mg, W0⟩ (tab n ._law_same_texts))
  o__law_measured : FnOk P w K mg base (L2.CX P w) n (f ._law_measured) (fd ._law_measured) ["kind", "texts", "asked"] (rdF ⟨K, mg, W0⟩ (tab n ._law_measured))
  o__law_apart : FnOk P w K mg base (L2.CX P w) n (f ._law_apart) (fd ._law_apart) ["atoms"] (rdF ⟨K, mg, W0⟩ (tab n ._law_apart))
  o_law : FnOk P w K mg base (L2.CX P w) n (f .law) (fd .law) ["script"] (rdF ⟨K, mg, W0⟩ (tab n .law))
section
variable {P : Program} {w : World} {K : PySem.W.Frag} {mg : Str → Option Value} {base : Heap} {f : FN → Addr} {fd : FN → FuncData} {cv : Nat → V} {cu : Nat → Value} {n : Nat}
set_option maxHeartbeats 4000000 in
theorem ok_size_of (T : Txt K mg f fd cv cu) (O : Oks P w K mg base f fd n) : FnOk P w K mg base (L2.CX P w) (n + 1) (f .size_of) (fd .size_of) ["kind"] (rdF ⟨K, mg, W0⟩ (tab (n + 1) .size_of)) :=
  fn_ok (N := nl_size_of) (g := b_size_of (tab n)) T.F_size_of sc_size_of fun cdv A outer s H E hr =>
    (t_cons (t_if (d_tv (d_callB (c_isi .str (by decide)) rfl T.n_isinstance boot_isinstance_ (d_aC (d_v 0) (d_aC (d_blt rfl T.n_str boot_str_ rfl) d_aN)))) (t_one (t_ret d_int)) t_nil)
    (t_one (t_ret (d_op o_add (d_call O.o_size_of hr rfl T.m_size_of T.F_size_of.kp T.b_size_of (fun σ => passAt (takes_of rfl rfl rfl rfl) σ) (d_aC (d_ix (d_v 0) d_int) d_aN)) (d_call O.o_size_of hr rfl T.m_size_of T.F_size_of.kp T.b_size_of (fun σ => passAt (takes_of rfl rfl rfl rfl) σ) (d_aC (d_ix (d_v 0) d_int) d_aN))))))
set_option maxHeartbeats 4000000 in
theorem ok_signs_of (T : Txt K mg f fd cv cu) (O : Oks P w K mg base f fd n) : FnOk P w K mg base (L2.CX P w) (n + 1) (f .signs_of) (fd .signs_of) ["kind"] (rdF ⟨K, mg, W0⟩ (tab (n + 1) .signs_of)) :=
  fn_ok (N := nl_signs_of) (g := b_signs_of (tab n)) T.F_signs_of sc_signs_of fun cdv A outer s H E hr =>
    (t_one (t_ret (d_op o_sub (d_call O.o_size_of hr rfl T.m_size_of T.F_size_of.kp T.b_size_of (fun σ => passAt (takes_of rfl rfl rfl rfl) σ) (d_aC (d_v 0) d_aN)) d_int)))
set_option maxHeartbeats 4000000 in
theorem ok_atoms_of (T : Txt K mg f fd cv cu) (O : Oks P w K mg base f fd n) : FnOk P w K mg base (L2.CX P w) (n + 1) (f .atoms_of) (fd .atoms_of) ["kind"] (rdF ⟨K, mg, W0⟩ (tab (n + 1) .atoms_of)) :=
  fn_ok (N := nl_atoms_of) (g := b_atoms_of (tab n)) T.F_atoms_of sc_atoms_of fun cdv A outer s H E hr =>
    (t_cons (t_if (d_tv (d_callB (c_isi .str (by decide)) rfl T.n_isinstance boot_isinstance_ (d_aC (d_v 0) (d_aC (d_blt rfl T.n_str boot_str_ rfl) d_aN)))) (t_one (t_ret (d_tup (d_aC (d_v 0) d_aN)))) t_nil)
    (t_one (t_ret (d_op o_add (d_call O.o_atoms_of hr rfl T.m_atoms_of T.F_atoms_of.kp T.b_atoms_of (fun σ => passAt (takes_of rfl rfl rfl rfl) σ) (d_aC (d_ix (d_v 0) d_int) d_aN)) (d_call O.o_atoms_of hr rfl T.m_atoms_of T.F_atoms_of.kp T.b_atoms_of (fun σ => passAt (takes_of rfl rfl rfl rfl) σ) (d_aC (d_ix (d_v 0) d_int) d_aN))))))
set_option maxHeartbeats 4000000 in
theorem ok_count_of (T : Txt K mg f fd cv cu) (O : Oks P w K mg base f fd n) : FnOk P w K mg base (L2.CX P w) (n + 1) (f .count_of) (fd .count_of) ["kind", "atom"] (rdF ⟨K, mg, W0⟩ (tab (n + 1) .count_of)) :=
  fn_ok (N := nl_count_of) (g := b_count_of (tab n)) T.F_count_of sc_count_of fun cdv A outer s H E hr =>
    (t_one (t_ret (d_m (T := .tup) PySem.F.plainAttrs_tuple PySem.F.slot_tuple_count PySem.F.type_tuple_count (by decide) (m_countT (r65 hr)) (d_call O.o_atoms_of hr rfl T.m_atoms_of T.F_atoms_of.kp T.b_atoms_of (fun σ => passAt (takes_of rfl rfl rfl rfl) σ) (d_aC (d_v 0) d_aN)) (d_aC (d_v 1) d_aN))))
set_option maxHeartbeats 4000000 in
theorem ok_base_of (T : Txt K mg f fd cv cu) (O : Oks P w K mg base f fd n) : FnOk P w K mg base (L2.CX P w) (n + 1) (f .base_of) (fd .base_of) ["atom"] (rdF ⟨K, mg, W0⟩ (tab (n + 1) .base_of)) :=
  fn_ok (N := nl_base_of) (g := b_base_of (tab n)) T.F_base_of sc_base_of fun cdv A outer s H E hr =>
    (t_one (t_ret (d_ix (d_m (T := .str) PySem.F.plainAttrs_str PySem.F.slot_str_partition PySem.F.type_str_partition (by decide) m_part (d_v 0) (d_aC d_str d_aN)) d_int)))
set_option maxHeartbeats 4000000 in
theorem ok_atom_number (T : Txt K mg f fd cv cu) (O : Oks P w K mg base f fd n) : FnOk P w K mg base (L2.CX P w) (n + 1) (f .atom_number) (fd .atom_number) ["atom"] (rdF ⟨K, mg, W0⟩ (tab (n + 1) .atom_number)) :=
  fn_ok (N := nl_atom_number) (g := b_atom_number (tab n)) T.F_atom_number sc_atom_number fun cdv A outer s H E hr =>
    (t_cons (t_set (j := 1) sc_atom_number.nd (d_ix (d_m (T := .str) PySem.F.plainAttrs_str PySem.F.slot_str_partition PySem.F.type_str_partition (by decide) m_part (d_v 0) (d_aC d_str d_aN)) d_int))
    (t_cons (t_if (d_tcmp (o_eq hr.units) (d_v 1) d_str) (t_one (t_ret d_int)) t_nil)
    (t_one (t_ret (d_callT c_int rfl T.n_int boot_int_ (d_aC (d_v 1) d_aN))))))
set_option maxHeartbeats 4000000 in
theorem ok__law_cell (T : Txt K mg f fd cv cu) (O : Oks P w K mg base f fd n) : FnOk P w K mg base (L2.CX P w) (n + 1) (f ._law_cell) (fd ._law_cell) ["script", "k"] (rdF ⟨K, mg, W0⟩ (tab (n + 1) ._law_cell)) :=
  fn_ok (N := nl__law_cell) (g := b__law_cell (tab n)) T.F__law_cell sc__law_cell fun cdv A outer s H E hr =>
    (t_cons (t_if (d_tcmp o_lt (d_v 1) (d_callB c_len rfl T.n_len boot_len_ (d_aC (d_v 0) d_aN))) (t_one (t_ret (d_callT c_int rfl T.n_int boot_int_ (d_aC (d_ix (d_v 0) (d_v 1)) d_aN)))) t_nil)
    (t_one (t_ret d_int)))
set_option maxHeartbeats 4000000 in
theorem ok__law_mix (T : Txt K mg f fd cv cu) (O : Oks P w K mg base f fd n) : FnOk P w K mg base (L2.CX P w) (n + 1) (f ._law_mix) (fd ._law_mix) ["x"] (rdF ⟨K, mg, W0⟩ (tab (n + 1) ._law_mix)) :=
  fn_ok (N := nl__law_mix) (g := b__law_mix (tab n)) T.F__law_mix sc__law_mix fun cdv A outer s H E hr =>
    (t_cons (t_set (j := 0) sc__law_mix.nd (d_op o_mod (d_callT c_int rfl T.n_int boot_int_ (d_aC (d_op o_add (d_op o_add (d_op o_mul (d_v 0) (d_v 0)) (d_op o_mul d_int (d_v 0))) d_int) d_aN)) d_int))
    (t_one (t_ret (d_op o_mod (d_callT c_int rfl T.n_int boot_int_ (d_aC (d_op o_add (d_op o_add (d_op o_mul (d_v 0) (d_v 0)) (d_op o_mul d_int (d_v 0))) d_int) d_aN)) d_int))))
set_option maxHeartbeats 4000000 in
theorem ok__law_pool (T : Txt K mg f fd cv cu) (O : Oks P w K mg base f fd n) : FnOk P w K mg base (L2.CX P w) (n + 1) (f ._law_pool) (fd ._law_pool) ["script", "k"] (rdF ⟨K, mg, W0⟩ (tab (n + 1) ._law_pool)) :=
  fn_ok (N := nl__law_pool) (g := b__law_pool (tab n)) T.F__law_pool sc__law_pool fun cdv A outer s H E hr =>
    (t_cons (t_set (j := 2) sc__law_pool.nd (d_call O.o__law_cell hr rfl T.m__law_cell T.F__law_cell.kp T.b__law_cell (fun σ => passAt (takes_of rfl rfl rfl rfl) σ) (d_aC (d_v 0) (d_aC (d_v 1) d_aN))))
    (t_cons (t_if (d_tcmp o_ge (d_v 2) (d_op o_pow d_int d_int)) (t_one (t_ret (d_lst (d_aC (d_op o_sub (d_v 2) (d_op o_pow d_int d_int)) (d_aC (d_op o_mul d_int (d_op o_add (d_v 1) d_int)) (d_aC d_int d_aN)))))) t_nil)
    (t_one (t_ret (d_lst (d_aC d_int (d_aC (d_op o_add (d_op o_mod (d_callT c_int rfl T.n_int boot_int_ (d_aC (d_callB c_abs rfl T.n_abs boot_abs_ (d_aC (d_v 2) d_aN)) d_aN)) d_int) (d_op o_mul d_int (d_v 1))) (d_aC d_int d_aN))))))))
set_option maxHeartbeats 4000000 in
theorem ok__law_draw (T : Txt K mg f fd cv cu) (O : Oks P w K mg base f fd n) : FnOk P w K mg base (L2.CX P w) (n + 1) (f ._law_draw) (fd ._law_draw) ["pool", "many"] (rdF ⟨K, mg, W0⟩ (tab (n + 1) ._law_draw)) :=
  fn_ok (N := nl__law_draw) (g := b__law_draw (tab n)) T.F__law_draw sc__law_draw fun cdv A outer s H E hr =>
    (t_cons (t_if (d_tcmp o_gt (d_ix (d_v 0) d_int) d_int) (t_cons (t_set (j := 2) sc__law_draw.nd (d_op o_mod (d_callT c_int rfl T.n_int boot_int_ (d_aC (d_ix (d_v 0) d_int) d_aN)) (d_v 1)))
    (t_cons (t_asg (d_op o_fdiv (d_ix (d_v 0) d_int) (d_v 1)) (g_ix (d_v 0) d_int))
    (t_one (t_ret (d_v 2))))) t_nil)
    (t_cons (t_asg (d_op o_add (d_ix (d_v 0) d_int) d_int) (g_ix (d_v 0) d_int))
    (t_one (t_ret (d_op o_mod (d_callT c_int rfl T.n_int boot_int_ (d_aC (d_op o_fdiv (d_call O.o__law_mix hr rfl T.m__law_mix T.F__law_mix.kp T.b__law_mix (fun σ => passAt (takes_of rfl rfl rfl rfl) σ) (d_aC (d_op o_add (d_ix (d_v 0) d_int) (d_op o_mul d_int (d_ix (d_v 0) d_int))) d_aN)) d_int) d_aN)) (d_v 1))))))
set_option maxHeartbeats 4000000 in
theorem ok__law_numbered (T : Txt K mg f fd cv cu) (O : Oks P w K mg base f fd n) : FnOk P w K mg base (L2.CX P w) (n + 1) (f ._law_numbered) (fd ._law_numbered) ["base", "number"] (rdF ⟨K, mg, W0⟩ (tab (n + 1) ._law_numbered)) :=
  fn_ok (N := nl__law_numbered) (g := b__law_numbered (tab n)) T.F__law_numbered sc__law_numbered fun cdv A outer s H E hr =>
    (t_cons (t_if (d_tcmp (o_eq hr.units) (d_v 1) d_int) (t_one (t_ret (d_tup (d_aC (d_v 0) (d_aC (d_v 0) (d_aC d_int d_aN)))))) t_nil)
    (t_one (t_ret (d_tup (d_aC (d_op o_add (d_op o_add (d_v 0) d_str) (d_callT c_str rfl T.n_str boot_str_ (d_aC (d_v 1) d_aN))) (d_aC (d_v 0) (d_aC (d_v 1) d_aN)))))))
set_option maxHeartbeats 4000000 in
theorem ok__law_fresh (T : Txt K mg f fd cv cu) (O : Oks P w K mg base f fd n) : FnOk P w K mg base (L2.CX P w) (n + 1) (f ._law_fresh) (fd ._law_fresh) ["pool"] (rdF ⟨K, mg, W0⟩ (tab (n + 1) ._law_fresh)) :=
  fn_ok (N := nl__law_fresh) (g := b__law_fresh (tab n)) T.F__law_fresh sc__law_fresh fun cdv A outer s H E hr =>
    (t_cons (t_set (j := 1) sc__law_fresh.nd d_str)
    (t_cons (t_set (j := 2) sc__law_fresh.nd (d_ix (d_v 1) (d_call O.o__law_draw hr rfl T.m__law_draw T.F__law_draw.kp T.b__law_draw (fun σ => passAt (takes_of rfl rfl rfl rfl) σ) (d_aC (d_v 0) (d_aC d_int d_aN)))))
    (t_cons (t_for (passes_of rfl) rfl (w_rng1 rfl T.n_range (d_ix (d_lst (d_aC d_int (d_aC d_int (d_aC d_int (d_aC d_int (d_aC d_int (d_aC d_int (d_aC d_int (d_aC d_int (d_aC d_int (d_aC d_int d_aN))))))))))) (d_call O.o__law_draw hr rfl T.m__law_draw T.F__law_draw.kp T.b__law_draw (fun σ => passAt (takes_of rfl rfl rfl rfl) σ) (d_aC (d_v 0) (d_aC d_int d_aN))))) (g_nm (j := 3) sc__law_fresh.nd) (t_one (t_set (j := 2) sc__law_fresh.nd (d_op o_add (d_v 2) (d_ix (d_op o_add (d_v 1) d_str) (d_call O.o__law_draw hr rfl T.m__law_draw T.F__law_draw.kp T.b__law_draw (fun σ => passAt (takes_of rfl rfl rfl rfl) σ) (d_aC (d_v 0) (d_aC d_int d_aN))))))))
    (t_cons (t_set (j := 4) sc__law_fresh.nd (d_call O.o__law_draw hr rfl T.m__law_draw T.F__law_draw.kp T.b__law_draw (fun σ => passAt (takes_of rfl rfl rfl rfl) σ) (d_aC (d_v 0) (d_aC d_int d_aN))))
    (t_cons (t_if (d_tcmp (o_eq hr.units) (d_v 4) d_int) (t_one (t_ret (d_call O.o__law_numbered hr rfl T.m__law_numbered T.F__law_numbered.kp T.b__law_numbered (fun σ => passAt (takes_of rfl rfl rfl rfl) σ) (d_aC (d_v 2) (d_aC (d_op o_add d_int (d_call O.o__law_draw hr rfl T.m__law_draw T.F__law_draw.kp T.b__law_draw (fun σ => passAt (takes_of rfl rfl rfl rfl) σ) (d_aC (d_v 0) (d_aC d_int d_aN)))) d_aN))))) t_nil)
    (t_cons (t_if (d_tcmp (o_eq hr.units) (d_v 4) d_int) (t_one (t_ret (d_call O.o__law_numbered hr rfl T.m__law_numbered T.F__law_numbered.kp T.b__law_numbered (fun σ => passAt (takes_of rfl rfl rfl rfl) σ) (d_aC (d_v 2) (d_aC (d_op o_add d_int (d_call O.o__law_draw hr rfl T.m__law_draw T.F__law_draw.kp T.b__law_draw (fun σ => passAt (takes_of rfl rfl rfl rfl) σ) (d_aC (d_v 0) (d_aC d_int d_aN)))) d_aN))))) t_nil)
    (t_one (t_ret (d_call O.o__law_numbered hr rfl T.m__law_numbered T.F__law_numbered.kp T.b__law_numbered (fun σ => passAt (takes_of rfl rfl rfl rfl) σ) (d_aC (d_v 2) (d_aC d_int d_aN)))))))))))
set_option maxHeartbeats 4000000 in
theorem ok__law_lot (T : Txt K mg f fd cv cu) (O : Oks P w K mg base f fd n) : FnOk P w K mg base (L2.CX P w) (n + 1) (f ._law_lot) (fd ._law_lot) ["pool"] (rdF ⟨K, mg, W0⟩ (tab (n + 1) ._law_lot)) :=
  fn_ok (N := nl__law_lot) (g := b__law_lot (tab n)) T.F__law_lot sc__law_lot fun cdv A outer s H E hr =>
    (t_cons (t_set (j := 1) sc__law_lot.nd (d_lst (d_aC (d_call O.o__law_fresh hr rfl T.m__law_fresh T.F__law_fresh.kp T.b__law_fresh (fun σ => passAt (takes_of rfl rfl rfl rfl) σ) (d_aC (d_v 0) d_aN)) (d_aC (d_call O.o__law_fresh hr rfl T.m__law_fresh T.F__law_fresh.kp T.b__law_fresh (fun σ => passAt (takes_of rfl rfl rfl rfl) σ) (d_aC (d_v 0) d_aN)) (d_aC (d_call O.o__law_fresh hr rfl T.m__law_fresh T.F__law_fresh.kp T.b__law_fresh (fun σ => passAt (takes_of rfl rfl rfl rfl) σ) (d_aC (d_v 0) d_aN)) d_aN)))))
    (t_cons (t_set (j := 2) sc__law_lot.nd (d_ix (d_ix (d_v 1) d_int) d_int))
    (t_cons (t_set (j := 3) sc__law_lot.nd (d_ix (d_ix (d_v 1) d_int) d_int))
    (t_cons (t_if (PW.pt (d_and (d_tcmp o_gt (d_v 3) d_int) (d_and1 (d_tcmp (o_eq hr.units) (d_call O.o__law_draw hr rfl T.m__law_draw T.F__law_draw.kp T.b__law_draw (fun σ => passAt (takes_of rfl rfl rfl rfl) σ) (d_aC (d_v 0) (d_aC d_int d_aN))) d_int)))) (t_one (t_expr (d_m (T := .lst) PySem.F.plainAttrs_list PySem.F.slot_list_append PySem.F.type_list_append (by decide) m_append (d_v 1) (d_aC (d_call O.o__law_numbered hr rfl T.m__law_numbered T.F__law_numbered.kp T.b__law_numbered (fun σ => passAt (takes_of rfl rfl rfl rfl) σ) (d_aC (d_v 2) (d_aC d_int d_aN))) d_aN)))) (t_one (t_expr (d_m (T := .lst) PySem.F.plainAttrs_list PySem.F.slot_list_append PySem.F.type_list_append (by decide) m_append (d_v 1) (d_aC (d_call O.o__law_numbered hr rfl T.m__law_numbered T.F__law_numbered.kp T.b__law_numbered (fun σ => passAt (takes_of rfl rfl rfl rfl) σ) (d_aC (d_v 2) (d_aC (d_op o_add (d_op o_mod (d_callT c_int rfl T.n_int boot_int_ (d_aC (d_v 3) d_aN)) d_int) d_int) d_aN))) d_aN)))))
    (t_one (t_ret (d_v 1)))))))
set_option maxHeartbeats 4000000 in
theorem ok__law_row (T : Txt K mg f fd cv cu) (O : Oks P w K mg base f fd n) : FnOk P w K mg base (L2.CX P w) (n + 1) (f ._law_row) (fd ._law_row) ["pool", "lot"] (rdF ⟨K, mg, W0⟩ (tab (n + 1) ._law_row)) :=
  fn_ok (N := nl__law_row) (g := b__law_row (tab n)) T.F__law_row sc__law_row fun cdv A outer s H E hr =>
    (t_cons (t_set (j := 2) sc__law_row.nd (d_op o_add d_int (d_call O.o__law_draw hr rfl T.m__law_draw T.F__law_draw.kp T.b__law_draw (fun σ => passAt (takes_of rfl rfl rfl rfl) σ) (d_aC (d_v 0) (d_aC d_int d_aN)))))
    (t_cons (t_if (d_tcmp (o_eq hr.units) (d_call O.o__law_draw hr rfl T.m__law_draw T.F__law_draw.kp T.b__law_draw (fun σ => passAt (takes_of rfl rfl rfl rfl) σ) (d_aC (d_v 0) (d_aC d_int d_aN))) d_int) (t_one (t_set (j := 2) sc__law_row.nd (d_ix (d_lst (d_aC d_int (d_aC d_int (d_aC (d_op o_add d_int (d_call O.o__law_draw hr rfl T.m__law_draw T.F__law_draw.kp T.b__law_draw (fun σ => passAt (takes_of rfl rfl rfl rfl) σ) (d_aC (d_v 0) (d_aC d_int d_aN)))) d_aN)))) (d_call O.o__law_draw hr rfl T.m__law_draw T.F__law_draw.kp T.b__law_draw (fun σ => passAt (takes_of rfl rfl rfl rfl) σ) (d_aC (d_v 0) (d_aC d_int d_aN)))))) t_nil)
    (t_cons (t_set (j := 3) sc__law_row.nd (d_lst d_aN))
    (t_cons (t_for (passes_of rfl) rfl (w_rng1 rfl T.n_range (d_v 2)) (g_nm (j := 4) sc__law_row.nd) (t_cons (t_set (j := 5) sc__law_row.nd (d_call O.o__law_draw hr rfl T.m__law_draw T.F__law_draw.kp T.b__law_draw (fun σ => passAt (takes_of rfl rfl rfl rfl) σ) (d_aC (d_v 0) (d_aC d_int d_aN))))
    (t_one (t_if (d_tcmp o_lt (d_v 5) d_int) (t_one (t_expr (d_m (T := .lst) PySem.F.plainAttrs_list PySem.F.slot_list_append PySem.F.type_list_append (by decide) m_append (d_v 3) (d_aC (d_ix (d_v 1) (d_v 5)) d_aN)))) (t_one (t_if (d_tcmp (o_eq hr.units) (d_v 5) d_int) (t_one (t_expr (d_m (T := .lst) PySem.F.plainAttrs_list PySem.F.slot_list_append PySem.F.type_list_append (by decide) m_append (d_v 3) (d_aC (d_ix (d_v 1) d_int) d_aN)))) (t_one (t_expr (d_m (T := .lst) PySem.F.plainAttrs_list PySem.F.slot_list_append PySem.F.type_list_append (by decide) m_append (d_v 3) (d_aC (d_call O.o__law_fresh hr rfl T.m__law_fresh T.F__law_fresh.kp T.b__law_fresh (fun σ => passAt (takes_of rfl rfl rfl rfl) σ) (d_aC (d_v 0) d_aN)) d_aN))))))))))
    (t_one (t_ret (d_v 3)))))))
set_option maxHeartbeats 4000000 in
theorem ok__law_bracket (T : Txt K mg f fd cv cu) (O : Oks P w K mg base f fd n) : FnOk P w K mg base (L2.CX P w) (n + 1) (f ._law_bracket) (fd ._law_bracket) ["pool", "texts", "way"] (rdF ⟨K, mg, W0⟩ (tab (n + 1) ._law_bracket)) :=
  fn_ok (N := nl__law_bracket) (g := b__law_bracket (tab n)) T.F__law_bracket sc__law_bracket fun cdv A outer s H E hr =>
    (t_cons (t_if (d_tcmp (o_eq hr.units) (d_callB c_len rfl T.n_len boot_len_ (d_aC (d_v 1) d_aN)) d_int) (t_one (t_ret (d_ix (d_v 1) d_int))) t_nil)
    (t_cons (t_set (j := 3) sc__law_bracket.nd (d_op o_add d_int (d_call O.o__law_draw hr rfl T.m__law_draw T.F__law_draw.kp T.b__law_draw (fun σ => passAt (takes_of rfl rfl rfl rfl) σ) (d_aC (d_v 0) (d_aC (d_op o_sub (d_callB c_len rfl T.n_len boot_len_ (d_aC (d_v 1) d_aN)) d_int) d_aN)))))
    (t_cons (t_if (d_tcmp (o_eq hr.units) (d_v 2) d_int) (t_one (t_set (j := 3) sc__law_bracket.nd d_int)) t_nil)
    (t_cons (t_if (d_tcmp (o_eq hr.units) (d_v 2) d_int) (t_one (t_set (j := 3) sc__law_bracket.nd (d_op o_sub (d_callB c_len rfl T.n_len boot_len_ (d_aC (d_v 1) d_aN)) d_int))) t_nil)
    (t_cons (t_set (j := 4) sc__law_bracket.nd (d_ix d_str (d_call O.o__law_draw hr rfl T.m__law_draw T.F__law_draw.kp T.b__law_draw (fun σ => passAt (takes_of rfl rfl rfl rfl) σ) (d_aC (d_v 0) (d_aC d_int d_aN)))))
    (t_cons (t_set (j := 5) sc__law_bracket.nd (d_call O.o__law_bracket hr rfl T.m__law_bracket T.F__law_bracket.kp T.b__law_bracket (fun σ => passAt (takes_of rfl rfl rfl rfl) σ) (d_aC (d_v 0) (d_aC (d_sl (d_v 1) d_oN (d_oI (d_v 3))) (d_aC (d_v 2) d_aN)))))
    (t_one (t_ret (d_tup (d_aC (d_v 4) (d_aC (d_v 5) (d_aC (d_call O.o__law_bracket hr rfl T.m__law_bracket T.F__law_bracket.kp T.b__law_bracket (fun σ => passAt (takes_of rfl rfl rfl rfl) σ) (d_aC (d_v 0) (d_aC (d_sl (d_v 1) (d_oI (d_v 3)) d_oN) (d_aC (d_v 2) d_aN)))) d_aN))))))))))))
set_option maxHeartbeats 4000000 in
theorem ok__law_is_integer (T : Txt K mg f fd cv cu) (O : Oks P w K mg base f fd n) : FnOk P w K mg base (L2.CX P w) (n + 1) (f ._law_is_integer) (fd ._law_is_integer) ["told"] (rdF ⟨K, mg, W0⟩ (tab (n + 1) ._law_is_integer)) :=
  fn_ok (N := nl__law_is_integer) (g := b__law_is_integer (tab n)) T.F__law_is_integer sc__law_is_integer fun cdv A outer s H E hr =>
    (t_one (t_ret (d_vand (d_callB (c_isi .int (by decide)) rfl T.n_isinstance boot_isinstance_ (d_aC (d_v 0) (d_aC (d_blt rfl T.n_int boot_int_ rfl) d_aN))) (d_one (d_vnot (d_callB (c_isi .bl (by decide)) rfl T.n_isinstance boot_isinstance_ (d_aC (d_v 0) (d_aC (d_blt rfl T.n_bool boot_bool_ rfl) d_aN))))))))
set_option maxHeartbeats 4000000 in
theorem ok__law_same_texts (T : Txt K mg f fd cv cu) (O : Oks P w K mg base f fd n) : FnOk P w K mg base (L2.CX P w) (n + 1) (f ._law_same_texts) (fd ._law_same_texts) ["told", "due"] (rdF ⟨K, mg, W0⟩ (tab (n + 1) ._law_same_texts)) :=
  fn_ok (N := nl__law_same_texts) (g := b__law_same_texts (tab n)) T.F__law_same_texts sc__law_same_texts fun cdv A outer s H E hr =>
    (t_cons (t_if (PW.pt (d_or (d_not (d_tv (d_callB (c_isi .tup (by decide)) rfl T.n_isinstance boot_isinstance_ (d_aC (d_v 0) (d_aC (d_blt rfl T.n_tuple boot_tuple_ rfl) d_aN))))) (d_or1 (d_tcmp (o_ne hr.units) (d_callB c_len rfl T.n_len boot_len_ (d_aC (d_v 0) d_aN)) (d_callB c_len rfl T.n_len boot_len_ (d_aC (d_v 1) d_aN)))))) (t_one (t_ret d_bl)) t_nil)
    (t_cons (t_for (passes_of rfl) rfl (w_rng1 rfl T.n_range (d_callB c_len rfl T.n_len boot_len_ (d_aC (d_v 1) d_aN))) (g_nm (j := 2) sc__law_same_texts.nd) (t_one (t_if (PW.pt (d_or (d_not (d_tv (d_callB (c_isi .str (by decide)) rfl T.n_isinstance boot_isinstance_ (d_aC (d_ix (d_v 0) (d_v 2)) (d_aC (d_blt rfl T.n_str boot_str_ rfl) d_aN))))) (d_or1 (d_tcmp (o_ne hr.units) (d_ix (d_v 0) (d_v 2)) (d_ix (d_v 1) (d_v 2)))))) (t_one (t_ret d_bl)) t_nil)))
    (t_one (t_ret d_bl))))
set_option maxHeartbeats 4000000 in
theorem ok__law_measured (T : Txt K mg f fd cv cu) (O : Oks P w K mg base f fd n) : FnOk P w K mg base (L2.CX P w) (n + 1) (f ._law_measured) (fd ._law_measured) ["kind", "texts", "asked"] (rdF ⟨K, mg, W0⟩ (tab (n + 1) ._law_measured)) :=
  fn_ok (N := nl__law_measured) (g := b__law_measured (tab n)) T.F__law_measured sc__law_measured fun cdv A outer s H E hr =>
    (t_cons (t_if (d_not (d_tv (d_call O.o__law_same_texts hr rfl T.m__law_same_texts T.F__law_same_texts.kp T.b__law_same_texts (fun σ => passAt (takes_of rfl rfl rfl rfl) σ) (d_aC (d_call O.o_atoms_of hr rfl T.m_atoms_of T.F_atoms_of.kp T.b_atoms_of (fun σ => passAt (takes_of rfl rfl rfl rfl) σ) (d_aC (d_v 0) d_aN)) (d_aC (d_v 1) d_aN))))) (t_one (t_ret d_bl)) t_nil)
    (t_cons (t_set (j := 3) sc__law_measured.nd (d_call O.o_size_of hr rfl T.m_size_of T.F_size_of.kp T.b_size_of (fun σ => passAt (takes_of rfl rfl rfl rfl) σ) (d_aC (d_v 0) d_aN)))
    (t_cons (t_set (j := 4) sc__law_measured.nd (d_call O.o_signs_of hr rfl T.m_signs_of T.F_signs_of.kp T.b_signs_of (fun σ => passAt (takes_of rfl rfl rfl rfl) σ) (d_aC (d_v 0) d_aN)))
    (t_cons (t_if (PW.pt (d_or (d_not (d_tv (d_call O.o__law_is_integer hr rfl T.m__law_is_integer T.F__law_is_integer.kp T.b__law_is_integer (fun σ => passAt (takes_of rfl rfl rfl rfl) σ) (d_aC (d_v 3) d_aN)))) (d_or1 (d_tcmp (o_ne hr.units) (d_v 3) (d_callB c_len rfl T.n_len boot_len_ (d_aC (d_v 1) d_aN)))))) (t_one (t_ret d_bl)) t_nil)
    (t_cons (t_if (PW.pt (d_or (d_not (d_tv (d_call O.o__law_is_integer hr rfl T.m__law_is_integer T.F__law_is_integer.kp T.b__law_is_integer (fun σ => passAt (takes_of rfl rfl rfl rfl) σ) (d_aC (d_v 4) d_aN)))) (d_or1 (d_tcmp (o_ne hr.units) (d_v 4) (d_op o_sub (d_callB c_len rfl T.n_len boot_len_ (d_aC (d_v 1) d_aN)) d_int))))) (t_one (t_ret d_bl)) t_nil)
    (t_cons (t_for (passes_of rfl) rfl (w_any (d_v 2)) (g_nm (j := 5) sc__law_measured.nd) (t_cons (t_set (j := 6) sc__law_measured.nd (d_call O.o_count_of hr rfl T.m_count_of T.F_count_of.kp T.b_count_of (fun σ => passAt (takes_of rfl rfl rfl rfl) σ) (d_aC (d_v 0) (d_aC (d_v 5) d_aN))))
    (t_one (t_if (PW.pt (d_or (d_not (d_tv (d_call O.o__law_is_integer hr rfl T.m__law_is_integer T.F__law_is_integer.kp T.b__law_is_integer (fun σ => passAt (takes_of rfl rfl rfl rfl) σ) (d_aC (d_v 6) d_aN)))) (d_or1 (d_tcmp (o_ne hr.units) (d_v 6) (d_callB c_len rfl T.n_len boot_len_ (d_aC (d_lc (own := [("text", 7)]) (g := (.one 7)) rfl sc__law_measured.nd (w_any (d_v 1)) (blkOk_by (own := [("text", 7)]) (N := nl__law_measured) (sc := defScope st__law_measured) (by decide +kernel)) (by decide) (fun _ _ _ _ _ => (v_one sc__law_measured.nd)) (fun _ _ _ _ _ => (u_one (d_tcmp (o_eq hr.units) (d_v 7) (d_v 5)))) (fun _ _ _ _ _ => (d_v 7))) d_aN)))))) (t_one (t_ret d_bl)) t_nil))))
    (t_one (t_ret d_bl))))))))
set_option maxHeartbeats 4000000 in
theorem ok__law_apart (T : Txt K mg f fd cv cu) (O : Oks P w K mg base f fd n) : FnOk P w K mg base (L2.CX P w) (n + 1) (f ._law_apart) (fd ._law_apart) ["atoms"] (rdF ⟨K, mg, W0⟩ (tab (n + 1) ._law_apart)) :=
  fn_ok (N := nl__law_apart) (g := b__law_apart (tab n)) T.F__law_apart sc__law_apart fun cdv A outer s H E hr =>
    (t_cons (t_for (passes_of rfl) rfl (w_any (d_v 0)) (g_tup rfl (g_cons (g_nm (j := 1) sc__law_apart.nd) (g_cons (g_nm (j := 2) sc__law_apart.nd) (g_cons (g_nm (j := 3) sc__law_apart.nd) g_nil)))) (t_cons (t_set (j := 4) sc__law_apart.nd (d_call O.o_base_of hr rfl T.m_base_of T.F_base_of.kp T.b_base_of (fun σ => passAt (takes_of rfl rfl rfl rfl) σ) (d_aC (d_v 1) d_aN)))
    (t_cons (t_set (j := 5) sc__law_apart.nd (d_call O.o_atom_number hr rfl T.m_atom_number T.F_atom_number.kp T.b_atom_number (fun σ => passAt (takes_of rfl rfl rfl rfl) σ) (d_aC (d_v 1) d_aN)))
    (t_cons (t_if (PW.pt (d_or (d_not (d_tv (d_callB (c_isi .str (by decide)) rfl T.n_isinstance boot_isinstance_ (d_aC (d_v 4) (d_aC (d_blt rfl T.n_str boot_str_ rfl) d_aN))))) (d_or1 (d_tcmp (o_ne hr.units) (d_v 4) (d_v 2))))) (t_one (t_ret d_bl)) t_nil)
    (t_one (t_if (PW.pt (d_or (d_not (d_tv (d_call O.o__law_is_integer hr rfl T.m__law_is_integer T.F__law_is_integer.kp T.b__law_is_integer (fun σ => passAt (takes_of rfl rfl rfl rfl) σ) (d_aC (d_v 5) d_aN)))) (d_or1 (d_tcmp (o_ne hr.units) (d_v 5) (d_v 3))))) (t_one (t_ret d_bl)) t_nil))))))
    (t_one (t_ret d_bl)))
set_option maxHeartbeats 4000000 in
theorem ok_law (T : Txt K mg f fd cv cu) (O : Oks P w K mg base f fd n) : FnOk P w K mg base (L2.CX P w) (n + 1) (f .law) (fd .law) ["script"] (rdF ⟨K, mg, W0⟩ (tab (n + 1) .law)) :=
  fn_ok (N := nl_law) (g := b_law (tab n)) T.F_law sc_law fun cdv A outer s H E hr =>
    (t_cons (t_set (j := 1) sc_law.nd (d_call O.o__law_pool hr rfl T.m__law_pool T.F__law_pool.kp T.b__law_pool (fun σ => passAt (takes_of rfl rfl rfl rfl) σ) (d_aC (d_v 0) (d_aC d_int d_aN))))
    (t_cons (t_set (j := 2) sc_law.nd (d_call O.o__law_lot hr rfl T.m__law_lot T.F__law_lot.kp T.b__law_lot (fun σ => passAt (takes_of rfl rfl rfl rfl) σ) (d_aC (d_v 1) d_aN)))
    (t_cons (t_set (j := 3) sc_law.nd (d_call O.o__law_row hr rfl T.m__law_row T.F__law_row.kp T.b__law_row (fun σ => passAt (takes_of rfl rfl rfl rfl) σ) (d_aC (d_v 1) (d_aC (d_v 2) d_aN))))
    (t_cons (t_set (j := 4) sc_law.nd (d_lst (d_aC (d_ix (d_call O.o__law_fresh hr rfl T.m__law_fresh T.F__law_fresh.kp T.b__law_fresh (fun σ => passAt (takes_of rfl rfl rfl rfl) σ) (d_aC (d_v 1) d_aN)) d_int) d_aN)))
    (t_cons (t_for (passes_of rfl) rfl (w_any (d_v 2)) (g_tup rfl (g_cons (g_nm (j := 11) sc_law.nd) (g_cons (g_nm (j := 12) sc_law.nd) (g_cons (g_nm (j := 13) sc_law.nd) g_nil)))) (t_one (t_set (j := 4) sc_law.nd (d_op o_add (d_v 4) (d_lst (d_aC (d_v 11) (d_aC (d_v 12) (d_aC (d_ix (d_call O.o__law_numbered hr rfl T.m__law_numbered T.F__law_numbered.kp T.b__law_numbered (fun σ => passAt (takes_of rfl rfl rfl rfl) σ) (d_aC (d_v 12) (d_aC (d_op o_add (d_op o_mod (d_callT c_int rfl T.n_int boot_int_ (d_aC (d_v 13) d_aN)) d_int) d_int) d_aN))) d_int) (d_aC (d_sl (d_v 12) d_oN (d_oI d_int)) d_aN)))))))))
    (t_cons (t_setLc (i := 5) (own := [("atom", 14)]) (g := (.one 14)) rfl sc_law.nd rfl rfl (sw_true rfl rfl rfl (by decide +kernel)) (w_any (d_v 3)) (blkOk_by (own := [("atom", 14)]) (N := nl_law) (sc := defScope st_law) (by decide +kernel)) (by decide) (fun _ _ _ _ _ => (v_one sc_law.nd)) (fun _ _ _ _ _ => u_nil) (fun _ _ _ _ _ => (d_ix (d_v 14) d_int)))
    (t_cons (t_set (j := 6) sc_law.nd (d_listRev rfl rfl T.n_list rfl T.n_reversed (d_v 5)))
    (t_cons (t_set (j := 7) sc_law.nd (d_call O.o__law_pool hr rfl T.m__law_pool T.F__law_pool.kp T.b__law_pool (fun σ => passAt (takes_of rfl rfl rfl rfl) σ) (d_aC (d_v 0) (d_aC d_int d_aN))))
    (t_cons (t_set (j := 8) sc_law.nd (d_call O.o__law_bracket hr rfl T.m__law_bracket T.F__law_bracket.kp T.b__law_bracket (fun σ => passAt (takes_of rfl rfl rfl rfl) σ) (d_aC (d_v 7) (d_aC (d_v 5) (d_aC (d_call O.o__law_draw hr rfl T.m__law_draw T.F__law_draw.kp T.b__law_draw (fun σ => passAt (takes_of rfl rfl rfl rfl) σ) (d_aC (d_v 7) (d_aC d_int d_aN))) d_aN)))))
    (t_cons (t_set (j := 7) sc_law.nd (d_call O.o__law_pool hr rfl T.m__law_pool T.F__law_pool.kp T.b__law_pool (fun σ => passAt (takes_of rfl rfl rfl rfl) σ) (d_aC (d_v 0) (d_aC d_int d_aN))))
    (t_cons (t_set (j := 9) sc_law.nd (d_call O.o__law_bracket hr rfl T.m__law_bracket T.F__law_bracket.kp T.b__law_bracket (fun σ => passAt (takes_of rfl rfl rfl rfl) σ) (d_aC (d_v 7) (d_aC (d_v 6) (d_aC (d_call O.o__law_draw hr rfl T.m__law_draw T.F__law_draw.kp T.b__law_draw (fun σ => passAt (takes_of rfl rfl rfl rfl) σ) (d_aC (d_v 7) (d_aC d_int d_aN))) d_aN)))))
    (t_cons (t_if (PW.pt (d_or (d_not (d_tv (d_call O.o__law_measured hr rfl T.m__law_measured T.F__law_measured.kp T.b__law_measured (fun σ => passAt (takes_of rfl rfl rfl rfl) σ) (d_aC (d_v 8) (d_aC (d_v 5) (d_aC (d_v 4) d_aN)))))) (d_or1 (d_not (d_tv (d_call O.o__law_measured hr rfl T.m__law_measured T.F__law_measured.kp T.b__law_measured (fun σ => passAt (takes_of rfl rfl rfl rfl) σ) (d_aC (d_v 9) (d_aC (d_v 6) (d_aC (d_v 4) d_aN))))))))) (t_one (t_ret d_bl)) t_nil)
    (t_cons (t_set (j := 10) sc_law.nd (d_lst (d_aC (d_tup (d_aC d_str (d_aC d_str (d_aC d_int d_aN)))) (d_aC (d_tup (d_aC d_str (d_aC d_str (d_aC d_int d_aN)))) (d_aC (d_tup (d_aC d_str (d_aC d_str (d_aC d_int d_aN)))) (d_aC (d_tup (d_aC d_str (d_aC d_str (d_aC d_int d_aN)))) d_aN))))))
    (t_one (t_ret (d_vand (d_call O.o__law_apart hr rfl T.m__law_apart T.F__law_apart.kp T.b__law_apart (fun σ => passAt (takes_of rfl rfl rfl rfl) σ) (d_aC (d_op o_add (d_op o_add (d_v 3) (d_v 2)) (d_v 10)) d_aN)) (d_one (d_call O.o__law_measured hr rfl T.m__law_measured T.F__law_measured.kp T.b__law_measured (fun σ => passAt (takes_of rfl rfl rfl rfl) σ) (d_aC (d_v 8) (d_aC (d_v 5) (d_aC (d_v 4) d_aN)))))))))))))))))))))
theorem oks (T : Txt K mg f fd cv cu) : ∀ n : Nat, Oks P w K mg base f fd n
  | 0 => ⟨fn_zero, fn_zero, fn_zero, fn_zero, fn_zero, fn_zero, fn_zero, fn_zero, fn_zero, fn_zero, fn_zero, fn_zero, fn_zero, fn_zero, fn_zero, fn_zero, fn_zero, fn_zero, fn_zero, fn_zero⟩
  | n + 1 => by
    have O := oks T n
    exact ⟨ok_size_of T O, ok_signs_of T O, ok_atoms_of T O, ok_count_of T O, ok_base_of T O, ok_atom_number T O, ok__law_cell T O, ok__law_mix T O, ok__law_pool T O, ok__law_draw T O, ok__law_numbered T O, ok__law_fresh T O, ok__law_lot T O, ok__law_row T O, ok__law_bracket T O, ok__law_is_integer T O, ok__law_same_texts T O, ok__law_measured T O, ok__law_apart T O, ok_law T O⟩
end
set_option maxHeartbeats 4000000 in
theorem all_mk (LV : Nat) {l : PySem.W.OpenLaw} {w : World} {K : PySem.W.Frag} {h : Heap} {mg : Str → Option Value} {fa : Addr} (X : K.In h) (G : h.Ns mainGlobals mg) (hfa : mg "law" = some (.ref fa))
    {f0 : Addr} {od0 an0 : Option Addr} {sl0 : Array (Option Value)} {oc0 kV0 dc0 pm0 cd0 ct0 : Value}
    {f1 : Addr} {od1 an1 : Option Addr} {sl1 : Array (Option Value)} {oc1 kV1 dc1 pm1 cd1 ct1 : Value}
    {f2 : Addr} {od2 an2 : Option Addr} {sl2 : Array (Option Value)} {oc2 kV2 dc2 pm2 cd2 ct2 : Value}
    {f3 : Addr} {od3 an3 : Option Addr} {sl3 : Array (Option Value)} {oc3 kV3 dc3 pm3 cd3 ct3 : Value}
    {f4 : Addr} {od4 an4 : Option Addr} {sl4 : Array (Option Value)} {oc4 kV4 dc4 pm4 cd4 ct4 : Value}
    {f5 : Addr} {od5 an5 : Option Addr} {sl5 : Array (Option Value)} {oc5 kV5 dc5 pm5 cd5 ct5 : Value}
    {f6 : Addr} {od6 an6 : Option Addr} {sl6 : Array (Option Value)} {oc6 kV6 dc6 pm6 cd6 ct6 : Value}
    {f7 : Addr} {od7 an7 : Option Addr} {sl7 : Array (Option Value)} {oc7 kV7 dc7 pm7 cd7 ct7 : Value}
    {f8 : Addr} {od8 an8 : Option Addr} {sl8 : Array (Option Value)} {oc8 kV8 dc8 pm8 cd8 ct8 : Value}
    {f9 : Addr} {od9 an9 : Option Addr} {sl9 : Array (Option Value)} {oc9 kV9 dc9 pm9 cd9 ct9 : Value}
    {f10 : Addr} {od10 an10 : Option Addr} {sl10 : Array (Option Value)} {oc10 kV10 dc10 pm10 cd10 ct10 : Value}
    {f11 : Addr} {od11 an11 : Option Addr} {sl11 : Array (Option Value)} {oc11 kV11 dc11 pm11 cd11 ct11 : Value}
    {f12 : Addr} {od12 an12 : Option Addr} {sl12 : Array (Option Value)} {oc12 kV12 dc12 pm12 cd12 ct12 : Value}
    {f13 : Addr} {od13 an13 : Option Addr} {sl13 : Array (Option Value)} {oc13 kV13 dc13 pm13 cd13 ct13 : Value}
    {f14 : Addr} {od14 an14 : Option Addr} {sl14 : Array (Option Value)} {oc14 kV14 dc14 pm14 cd14 ct14 : Value}
    {f15 : Addr} {od15 an15 : Option Addr} {sl15 : Array (Option Value)} {oc15 kV15 dc15 pm15 cd15 ct15 : Value}
    {f16 : Addr} {od16 an16 : Option Addr} {sl16 : Array (Option Value)} {oc16 kV16 dc16 pm16 cd16 ct16 : Value}
    {f17 : Addr} {od17 an17 : Option Addr} {sl17 : Array (Option Value)} {oc17 kV17 dc17 pm17 cd17 ct17 : Value}
    {f18 : Addr} {od18 an18 : Option Addr} {sl18 : Array (Option Value)} {oc18 kV18 dc18 pm18 cd18 ct18 : Value}
    {f19 : Addr} {od19 an19 : Option Addr} {sl19 : Array (Option Value)} {oc19 kV19 dc19 pm19 cd19 ct19 : Value}
    (a0 : PySem.W.nsIn K mainGlobals "size_of" = some (some (.ref f0))) (l0 : K.lookup f0 = some ⟨oc0, od0, .func (PySem.W.fnOf "size_of" "size_of" (defArgs st_size_of) (defBody st_size_of) (defScope st_size_of) .none kV0 dc0 pm0 an0 cd0 ct0), sl0⟩) (c0 : PySem.W.codeIn K cd0 "size_of" = true) (k0 : PySem.W.keepIn K (.ref f0) = true)
    (a1 : PySem.W.nsIn K mainGlobals "signs_of" = some (some (.ref f1))) (l1 : K.lookup f1 = some ⟨oc1, od1, .func (PySem.W.fnOf "signs_of" "signs_of" (defArgs st_signs_of) (defBody st_signs_of) (defScope st_signs_of) .none kV1 dc1 pm1 an1 cd1 ct1), sl1⟩) (c1 : PySem.W.codeIn K cd1 "signs_of" = true) (k1 : PySem.W.keepIn K (.ref f1) = true)
    (a2 : PySem.W.nsIn K mainGlobals "atoms_of" = some (some (.ref f2))) (l2 : K.lookup f2 = some ⟨oc2, od2, .func (PySem.W.fnOf "atoms_of" "atoms_of" (defArgs st_atoms_of) (defBody st_atoms_of) (defScope st_atoms_of) .none kV2 dc2 pm2 an2 cd2 ct2), sl2⟩) (c2 : PySem.W.codeIn K cd2 "atoms_of" = true) (k2 : PySem.W.keepIn K (.ref f2) = true)
    (a3 : PySem.W.nsIn K mainGlobals "count_of" = some (some (.ref f3))) (l3 : K.lookup f3 = some ⟨oc3, od3, .func (PySem.W.fnOf "count_of" "count_of" (defArgs st_count_of) (defBody st_count_of) (defScope st_count_of) .none kV3 dc3 pm3 an3 cd3 ct3), sl3⟩) (c3 : PySem.W.codeIn K cd3 "count_of" = true) (k3 : PySem.W.keepIn K (.ref f3) = true)
    (a4 : PySem.W.nsIn K mainGlobals "base_of" = some (some (.ref f4))) (l4 : K.lookup f4 = some ⟨oc4, od4, .func (PySem.W.fnOf "base_of" "base_of" (defArgs st_base_of) (defBody st_base_of) (defScope st_base_of) .none kV4 dc4 pm4 an4 cd4 ct4), sl4⟩) (c4 : PySem.W.codeIn K cd4 "base_of" = true) (k4 : PySem.W.keepIn K (.ref f4) = true)
    (a5 : PySem.W.nsIn K mainGlobals "atom_number" = some (some (.ref f5))) (l5 : K.lookup f5 = some ⟨oc5, od5, .func (PySem.W.fnOf "atom_number" "atom_number" (defArgs st_atom_number) (defBody st_atom_number) (defScope st_atom_number) .none kV5 dc5 pm5 an5 cd5 ct5), sl5⟩) (c5 : PySem.W.codeIn K cd5 "atom_number" = true) (k5 : PySem.W.keepIn K (.ref f5) = true)
    (a6 : PySem.W.nsIn K mainGlobals "_law_cell" = some (some (.ref f6))) (l6 : K.lookup f6 = some ⟨oc6, od6, .func (PySem.W.fnOf "_law_cell" "_law_cell" (defArgs st__law_cell) (defBody st__law_cell) (defScope st__law_cell) .none kV6 dc6 pm6 an6 cd6 ct6), sl6⟩) (c6 : PySem.W.codeIn K cd6 "_law_cell" = true) (k6 : PySem.W.keepIn K (.ref f6) = true)
    (a7 : PySem.W.nsIn K mainGlobals "_law_mix" = some (some (.ref f7))) (l7 : K.lookup f7 = some ⟨oc7, od7, .func (PySem.W.fnOf "_law_mix" "_law_mix" (defArgs st__law_mix) (defBody st__law_mix) (defScope st__law_mix) .none kV7 dc7 pm7 an7 cd7 ct7), sl7⟩) (c7 : PySem.W.codeIn K cd7 "_law_mix" = true) (k7 : PySem.W.keepIn K (.ref f7) = true)
    (a8 : PySem.W.nsIn K mainGlobals "_law_pool" = some (some (.ref f8))) (l8 : K.lookup f8 = some ⟨oc8, od8, .func (PySem.W.fnOf "_law_pool" "_law_pool" (defArgs st__law_pool) (defBody st__law_pool) (defScope st__law_pool) .none kV8 dc8 pm8 an8 cd8 ct8), sl8⟩) (c8 : PySem.W.codeIn K cd8 "_law_pool" = true) (k8 : PySem.W.keepIn K (.ref f8) = true)
    (a9 : PySem.W.nsIn K mainGlobals "_law_draw" = some (some (.ref f9))) (l9 : K.lookup f9 = some ⟨oc9, od9, .func (PySem.W.fnOf "_law_draw" "_law_draw" (defArgs st__law_draw) (defBody st__law_draw) (defScope st__law_draw) .none kV9 dc9 pm9 an9 cd9 ct9), sl9⟩) (c9 : PySem.W.codeIn K cd9 "_law_draw" = true) (k9 : PySem.W.keepIn K (.ref f9) = true)
    (a10 : PySem.W.nsIn K mainGlobals "_law_numbered" = some (some (.ref f10))) (l10 : K.lookup f10 = some ⟨oc10, od10, .func (PySem.W.fnOf "_law_numbered" "_law_numbered" (defArgs st__law_numbered) (defBody st__law_numbered) (defScope st__law_numbered) .none kV10 dc10 pm10 an10 cd10 ct10), sl10⟩) (c10 : PySem.W.codeIn K cd10 "_law_numbered" = true) (k10 : PySem.W.keepIn K (.ref f10) = true)
    (a11 : PySem.W.nsIn K mainGlobals "_law_fresh" = some (some (.ref f11))) (l11 : K.lookup f11 = some ⟨oc11, od11, .func (PySem.W.fnOf "_law_fresh" "_law_fresh" (defArgs st__law_fresh) (defBody st__law_fresh) (defScope st__law_fresh) .none kV11 dc11 pm11 an11 cd11 ct11), sl11⟩) (c11 : PySem.W.codeIn K cd11 "_law_fresh" = true) (k11 : PySem.W.keepIn K (.ref f11) = true)
    (a12 : PySem.W.nsIn K mainGlobals "_law_lot" = some (some (.ref f12))) (l12 : K.lookup f12 = some ⟨oc12, od12, .func (PySem.W.fnOf "_law_lot" "_law_lot" (defArgs st__law_lot) (defBody st__law_lot) (defScope st__law_lot) .none kV12 dc12 pm12 an12 cd12 ct12), sl12⟩) (c12 : PySem.W.codeIn K cd12 "_law_lot" = true) (k12 : PySem.W.keepIn K (.ref f12) = true)
    (a13 : PySem.W.nsIn K mainGlobals "_law_row" = some (some (.ref f13))) (l13 : K.lookup f13 = some ⟨oc13, od13, .func (PySem.W.fnOf "_law_row" "_law_row" (defArgs st__law_row) (defBody st__law_row) (defScope st__law_row) .none kV13 dc13 pm13 an13 cd13 ct13), sl13⟩) (c13 : PySem.W.codeIn K cd13 "_law_row" = true) (k13 : PySem.W.keepIn K (.ref f13) = true)
    (a14 : PySem.W.nsIn K mainGlobals "_law_bracket" = some (some (.ref f14))) (l14 : K.lookup f14 = some ⟨oc14, od14, .func (PySem.W.fnOf "_law_bracket" "_law_bracket" (defArgs st__law_bracket) (defBody st__law_bracket) (defScope st__law_bracket) .none kV14 dc14 pm14 an14 cd14 ct14), sl14⟩) (c14 : PySem.W.codeIn K cd14 "_law_bracket" = true) (k14 : PySem.W.keepIn K (.ref f14) = true)
    (a15 : PySem.W.nsIn K mainGlobals "_law_is_integer" = some (some (.ref f15))) (l15 : K.lookup f15 = some ⟨oc15, od15, .func (PySem.W.fnOf "_law_is_integer" "_law_is_integer" (defArgs st__law_is_integer) (defBody st__law_is_integer) (defScope st__law_is_integer) .none kV15 dc15 pm15 an15 cd15 ct15), sl15⟩) (c15 : PySem.W.codeIn K cd15 "_law_is_integer" = true) (k15 : PySem.W.keepIn K (.ref f15) = true)
    (a16 : PySem.W.nsIn K mainGlobals "_law_same_texts" = some (some (.ref f16))) (l16 : K.lookup f16 = some ⟨oc16, od16, .func (PySem.W.fnOf "_law_same_texts" "_law_same_texts" (defArgs st__law_same_texts) (defBody st__law_same_texts) (defScope st__law_same_texts) .none kV16 dc16 pm16 an16 cd16 ct16), sl16⟩) (c16 : PySem.W.codeIn K cd16 "_law_same_texts" = true) (k16 : PySem.W.keepIn K (.ref f16) = true)
    (a17 : PySem.W.nsIn K mainGlobals "_law_measured" = some (some (.ref f17))) (l17 : K.lookup f17 = some ⟨oc17, od17, .func (PySem.W.fnOf "_law_measured" "_law_measured" (defArgs st__law_measured) (defBody st__law_measured) (defScope st__law_measured) .none kV17 dc17 pm17 an17 cd17 ct17), sl17⟩) (c17 : PySem.W.codeIn K cd17 "_law_measured" = true) (k17 : PySem.W.keepIn K (.ref f17) = true)
    (a18 : PySem.W.nsIn K mainGlobals "_law_apart" = some (some (.ref f18))) (l18 : K.lookup f18 = some ⟨oc18, od18, .func (PySem.W.fnOf "_law_apart" "_law_apart" (defArgs st__law_apart) (defBody st__law_apart) (defScope st__law_apart) .none kV18 dc18 pm18 an18 cd18 ct18), sl18⟩) (c18 : PySem.W.codeIn K cd18 "_law_apart" = true) (k18 : PySem.W.keepIn K (.ref f18) = true)
    (a19 : PySem.W.nsIn K mainGlobals "law" = some (some (.ref f19))) (l19 : K.lookup f19 = some ⟨oc19, od19, .func (PySem.W.fnOf "law" "law" (defArgs st_law) (defBody st_law) (defScope st_law) .none kV19 dc19 pm19 an19 cd19 ct19), sl19⟩) (c19 : PySem.W.codeIn K cd19 "law" = true) (k19 : PySem.W.keepIn K (.ref f19) = true)
    (z0 : PySem.W.nsIn K mainGlobals "isinstance" = some none) (z1 : PySem.W.nsIn K mainGlobals "str" = some none) (z2 : PySem.W.nsIn K mainGlobals "int" = some none) (z3 : PySem.W.nsIn K mainGlobals "len" = some none) (z4 : PySem.W.nsIn K mainGlobals "abs" = some none) (z5 : PySem.W.nsIn K mainGlobals "range" = some none) (z6 : PySem.W.nsIn K mainGlobals "bool" = some none) (z7 : PySem.W.nsIn K mainGlobals "tuple" = some none) (z8 : PySem.W.nsIn K mainGlobals "list" = some none) (z9 : PySem.W.nsIn K mainGlobals "reversed" = some none)  :
    ∃ fd : FuncData, (∀ (s : Shared) (v : Value), BindsTo s fd ⟨[v], []⟩ [("script", v)]) ∧ ∀ base : Heap, K.In base → base.Ns mainGlobals mg → FnOk l.prog w K mg base (L2.CX l.prog w) LV fa fd ["script"] (rdF ⟨K, mg, W0⟩ (tab LV .law)) := by
  have e := hfa.symm.trans (PySem.W.mg_of X G a19)
  cases e
  let f : FN → Addr := fun
    | .size_of => f0
    | .signs_of => f1
    | .atoms_of => f2
    | .count_of => f3
    | .base_of => f4
    | .atom_number => f5
    | ._law_cell => f6
    | ._law_mix => f7
    | ._law_pool => f8
    | ._law_draw => f9
    | ._law_numbered => f10
    | ._law_fresh => f11
    | ._law_lot => f12
    | ._law_row => f13
    | ._law_bracket => f14
    | ._law_is_integer => f15
    | ._law_same_texts => f16
    | ._law_measured => f17
    | ._law_apart => f18
    | .law => fa
  let fd : FN → FuncData := fun
    | .size_of => PySem.W.fnOf "size_of" "size_of" (defArgs st_size_of) (defBody st_size_of) (defScope st_size_of) .none kV0 dc0 pm0 an0 cd0 ct0
    | .signs_of => PySem.W.fnOf "signs_of" "signs_of" (defArgs st_signs_of) (defBody st_signs_of) (defScope st_signs_of) .none kV1 dc1 pm1 an1 cd1 ct1
    | .atoms_of => PySem.W.fnOf "atoms_of" "atoms_of" (defArgs st_atoms_of) (defBody st_atoms_of) (defScope st_atoms_of) .none kV2 dc2 pm2 an2 cd2 ct2
    | .count_of => PySem.W.fnOf "count_of" "count_of" (defArgs st_count_of) (defBody st_count_of) (defScope st_count_of) .none kV3 dc3 pm3 an3 cd3 ct3
    | .base_of => PySem.W.fnOf "base_of" "base_of" (defArgs st_base_of) (defBody st_base_of) (defScope st_base_of) .none kV4 dc4 pm4 an4 cd4 ct4
    | .atom_number => PySem.W.fnOf "atom_number" "atom_number" (defArgs st_atom_number) (defBody st_atom_number) (defScope st_atom_number) .none kV5 dc5 pm5 an5 cd5 ct5
    | ._law_cell => PySem.W.fnOf "_law_cell" "_law_cell" (defArgs st__law_cell) (defBody st__law_cell) (defScope st__law_cell) .none kV6 dc6 pm6 an6 cd6 ct6
    | ._law_mix => PySem.W.fnOf "_law_mix" "_law_mix" (defArgs st__law_mix) (defBody st__law_mix) (defScope st__law_mix) .none kV7 dc7 pm7 an7 cd7 ct7
    | ._law_pool => PySem.W.fnOf "_law_pool" "_law_pool" (defArgs st__law_pool) (defBody st__law_pool) (defScope st__law_pool) .none kV8 dc8 pm8 an8 cd8 ct8
    | ._law_draw => PySem.W.fnOf "_law_draw" "_law_draw" (defArgs st__law_draw) (defBody st__law_draw) (defScope st__law_draw) .none kV9 dc9 pm9 an9 cd9 ct9
    | ._law_numbered => PySem.W.fnOf "_law_numbered" "_law_numbered" (defArgs st__law_numbered) (defBody st__law_numbered) (defScope st__law_numbered) .none kV10 dc10 pm10 an10 cd10 ct10
    | ._law_fresh => PySem.W.fnOf "_law_fresh" "_law_fresh" (defArgs st__law_fresh) (defBody st__law_fresh) (defScope st__law_fresh) .none kV11 dc11 pm11 an11 cd11 ct11
    | ._law_lot => PySem.W.fnOf "_law_lot" "_law_lot" (defArgs st__law_lot) (defBody st__law_lot) (defScope st__law_lot) .none kV12 dc12 pm12 an12 cd12 ct12
    | ._law_row => PySem.W.fnOf "_law_row" "_law_row" (defArgs st__law_row) (defBody st__law_row) (defScope st__law_row) .none kV13 dc13 pm13 an13 cd13 ct13
    | ._law_bracket => PySem.W.fnOf "_law_bracket" "_law_bracket" (defArgs st__law_bracket) (defBody st__law_bracket) (defScope st__law_bracket) .none kV14 dc14 pm14 an14 cd14 ct14
    | ._law_is_integer => PySem.W.fnOf "_law_is_integer" "_law_is_integer" (defArgs st__law_is_integer) (defBody st__law_is_integer) (defScope st__law_is_integer) .none kV15 dc15 pm15 an15 cd15 ct15
    | ._law_same_texts => PySem.W.fnOf "_law_same_texts" "_law_same_texts" (defArgs st__law_same_texts) (defBody st__law_same_texts) (defScope st__law_same_texts) .none kV16 dc16 pm16 an16 cd16 ct16
    | ._law_measured => PySem.W.fnOf "_law_measured" "_law_measured" (defArgs st__law_measured) (defBody st__law_measured) (defScope st__law_measured) .none kV17 dc17 pm17 an17 cd17 ct17
    | ._law_apart => PySem.W.fnOf "_law_apart" "_law_apart" (defArgs st__law_apart) (defBody st__law_apart) (defScope st__law_apart) .none kV18 dc18 pm18 an18 cd18 ct18
    | .law => PySem.W.fnOf "law" "law" (defArgs st_law) (defBody st_law) (defScope st_law) .none kV19 dc19 pm19 an19 cd19 ct19
  let cv : Nat → V := fun i => ([] : List V).getD i .non
  let cu : Nat → Value := fun i => ([] : List Value).getD i .none
  have F0 : Fun K "size_of" "size_of" st_size_of (f .size_of) (fd .size_of) := fun_mk (st := st_size_of) l0 c0 k0
  have b0 : Binds K (fd .size_of) ["kind"] [] := F0.binds (ps := ["kind"]) fun _ _ _ _ _ _ us hl => match us, hl with | [_], _ => rfl
  have F1 : Fun K "signs_of" "signs_of" st_signs_of (f .signs_of) (fd .signs_of) := fun_mk (st := st_signs_of) l1 c1 k1
  have b1 : Binds K (fd .signs_of) ["kind"] [] := F1.binds (ps := ["kind"]) fun _ _ _ _ _ _ us hl => match us, hl with | [_], _ => rfl
  have F2 : Fun K "atoms_of" "atoms_of" st_atoms_of (f .atoms_of) (fd .atoms_of) := fun_mk (st := st_atoms_of) l2 c2 k2
  have b2 : Binds K (fd .atoms_of) ["kind"] [] := F2.binds (ps := ["kind"]) fun _ _ _ _ _ _ us hl => match us, hl with | [_], _ => rfl
  have F3 : Fun K "count_of" "count_of" st_count_of (f .count_of) (fd .count_of) := fun_mk (st := st_count_of) l3 c3 k3
  have b3 : Binds K (fd .count_of) ["kind", "atom"] [] := F3.binds (ps := ["kind", "atom"]) fun _ _ _ _ _ _ us hl => match us, hl with | [_, _], _ => rfl
  have F4 : Fun K "base_of" "base_of" st_base_of (f .base_of) (fd .base_of) := fun_mk (st := st_base_of) l4 c4 k4
  have b4 : Binds K (fd .base_of) ["atom"] [] := F4.binds (ps := ["atom"]) fun _ _ _ _ _ _ us hl => match us, hl with | [_], _ => rfl
  have F5 : Fun K "atom_number" "atom_number" st_atom_number (f .atom_number) (fd .atom_number) := fun_mk (st := st_atom_number) l5 c5 k5
  have b5 : Binds K (fd .atom_number) ["atom"] [] := F5.binds (ps := ["atom"]) fun _ _ _ _ _ _ us hl => match us, hl with | [_], _ => rfl
  have F6 : Fun K "_law_cell" "_law_cell" st__law_cell (f ._law_cell) (fd ._law_cell) := fun_mk (st := st__law_cell) l6 c6 k6
  have b6 : Binds K (fd ._law_cell) ["script", "k"] [] := F6.binds (ps := ["script", "k"]) fun _ _ _ _ _ _ us hl => match us, hl with | [_, _], _ => rfl
  have F7 : Fun K "_law_mix" "_law_mix" st__law_mix (f ._law_mix) (fd ._law_mix) := fun_mk (st := st__law_mix) l7 c7 k7
  have b7 : Binds K (fd ._law_mix) ["x"] [] := F7.binds (ps := ["x"]) fun _ _ _ _ _ _ us hl => match us, hl with | [_], _ => rfl
  have F8 : Fun K "_law_pool" "_law_pool" st__law_pool (f ._law_pool) (fd ._law_pool) := fun_mk (st := st__law_pool) l8 c8 k8
  have b8 : Binds K (fd ._law_pool) ["script", "k"] [] := F8.binds (ps := ["script", "k"]) fun _ _ _ _ _ _ us hl => match us, hl with | [_, _], _ => rfl
  have F9 : Fun K "_law_draw" "_law_draw" st__law_draw (f ._law_draw) (fd ._law_draw) := fun_mk (st := st__law_draw) l9 c9 k9
  have b9 : Binds K (fd ._law_draw) ["pool", "many"] [] := F9.binds (ps := ["pool", "many"]) fun _ _ _ _ _ _ us hl => match us, hl with | [_, _], _ => rfl
  have F10 : Fun K "_law_numbered" "_law_numbered" st__law_numbered (f ._law_numbered) (fd ._law_numbered) := fun_mk (st := st__law_numbered) l10 c10 k10
  have b10 : Binds K (fd ._law_numbered) ["base", "number"] [] := F10.binds (ps := ["base", "number"]) fun _ _ _ _ _ _ us hl => match us, hl with | [_, _], _ => rfl
  have F11 : Fun K "_law_fresh" "_law_fresh" st__law_fresh (f ._law_fresh) (fd ._law_fresh) := fun_mk (st := st__law_fresh) l11 c11 k11
  have b11 : Binds K (fd ._law_fresh) ["pool"] [] := F11.binds (ps := ["pool"]) fun _ _ _ _ _ _ us hl => match us, hl with | [_], _ => rfl
  have F12 : Fun K "_law_lot" "_law_lot" st__law_lot (f ._law_lot) (fd ._law_lot) := fun_mk (st := st__law_lot) l12 c12 k12
  have b12 : Binds K (fd ._law_lot) ["pool"] [] := F12.binds (ps := ["pool"]) fun _ _ _ _ _ _ us hl => match us, hl with | [_], _ => rfl
  have F13 : Fun K "_law_row" "_law_row" st__law_row (f ._law_row) (fd ._law_row) := fun_mk (st := st__law_row) l13 c13 k13
  have b13 : Binds K (fd ._law_row) ["pool", "lot"] [] := F13.binds (ps := ["pool", "lot"]) fun _ _ _ _ _ _ us hl => match us, hl with | [_, _], _ => rfl
  have F14 : Fun K "_law_bracket" "_law_bracket" st__law_bracket (f ._law_bracket) (fd ._law_bracket) := fun_mk (st := st__law_bracket) l14 c14 k14
  have b14 : Binds K (fd ._law_bracket) ["pool", "texts", "way"] [] := F14.binds (ps := ["pool", "texts", "way"]) fun _ _ _ _ _ _ us hl => match us, hl with | [_, _, _], _ => rfl
  have F15 : Fun K "_law_is_integer" "_law_is_integer" st__law_is_integer (f ._law_is_integer) (fd ._law_is_integer) := fun_mk (st := st__law_is_integer) l15 c15 k15
  have b15 : Binds K (fd ._law_is_integer) ["told"] [] := F15.binds (ps := ["told"]) fun _ _ _ _ _ _ us hl => match us, hl with | [_], _ => rfl
  have F16 : Fun K "_law_same_texts" "_law_same_texts" st__law_same_texts (f ._law_same_texts) (fd ._law_same_texts) := fun_mk (st := st__law_same_texts) l16 c16 k16
  have b16 : Binds K (fd ._law_same_texts) ["told", "due"] [] := F16.binds (ps := ["told", "due"]) fun _ _ _ _ _ _ us hl => match us, hl with | [_, _], _ => rfl
  have F17 : Fun K "_law_measured" "_law_measured" st__law_measured (f ._law_measured) (fd ._law_measured) := fun_mk (st := st__law_measured) l17 c17 k17
  have b17 : Binds K (fd ._law_measured) ["kind", "texts", "asked"] [] := F17.binds (ps := ["kind", "texts", "asked"]) fun _ _ _ _ _ _ us hl => match us, hl with | [_, _, _], _ => rfl
  have F18 : Fun K "_law_apart" "_law_apart" st__law_apart (f ._law_apart) (fd ._law_apart) := fun_mk (st := st__law_apart) l18 c18 k18
  have b18 : Binds K (fd ._law_apart) ["atoms"] [] := F18.binds (ps := ["atoms"]) fun _ _ _ _ _ _ us hl => match us, hl with | [_], _ => rfl
  have F19 : Fun K "law" "law" st_law (f .law) (fd .law) := fun_mk (st := st_law) l19 c19 k19
  have b19 : Binds K (fd .law) ["script"] [] := F19.binds (ps := ["script"]) fun _ _ _ _ _ _ us hl => match us, hl with | [_], _ => rfl
  have T : Txt K mg f fd cv cu := ⟨F0, b0, PySem.W.mg_of X G a0, F1, b1, PySem.W.mg_of X G a1, F2, b2, PySem.W.mg_of X G a2, F3, b3, PySem.W.mg_of X G a3, F4, b4, PySem.W.mg_of X G a4, F5, b5, PySem.W.mg_of X G a5, F6, b6, PySem.W.mg_of X G a6, F7, b7, PySem.W.mg_of X G a7, F8, b8, PySem.W.mg_of X G a8, F9, b9, PySem.W.mg_of X G a9, F10, b10, PySem.W.mg_of X G a10, F11, b11, PySem.W.mg_of X G a11, F12, b12, PySem.W.mg_of X G a12, F13, b13, PySem.W.mg_of X G a13, F14, b14, PySem.W.mg_of X G a14, F15, b15, PySem.W.mg_of X G a15, F16, b16, PySem.W.mg_of X G a16, F17, b17, PySem.W.mg_of X G a17, F18, b18, PySem.W.mg_of X G a18, F19, b19, PySem.W.mg_of X G a19, PySem.W.mg_none_of X G z0, PySem.W.mg_none_of X G z1, PySem.W.mg_none_of X G z2, PySem.W.mg_none_of X G z3, PySem.W.mg_none_of X G z4, PySem.W.mg_none_of X G z5, PySem.W.mg_none_of X G z6, PySem.W.mg_none_of X G z7, PySem.W.mg_none_of X G z8, PySem.W.mg_none_of X G z9⟩
  exact ⟨fd .law, fun s v => .of_eq rfl, fun base _ _ => (oks T LV).o_law⟩
theorem walk (LV : Nat) (hLV : Room LV callerA) (good : ∀ ns : List Int, ns.length ≤ 63 → ∃ S, tab LV .law [.ref 0] [.rol (ns.map D.int)] = .ok (.bl true) S) {l : PySem.W.OpenLaw} {q : Program} {loose : List Str} {XP : (Str → Option Value) → Heap → Prop} {YP : World → Heap → Prop} {d : DefRec} {K : Params → PySem.W.Frag} (hn : l.most = some 63) (hdf : d.params.defaults = [])
    (hY : ∀ (w : World) (h : Heap), YP w h → (K w.params).In h)
    (F : ∀ (w : World) (mg : Str → Option Value) (fa : Addr) (h : Heap), (K w.params).In h → h.Ns mainGlobals mg → mg d.name = some (.ref fa) →
      ∃ fd : FuncData, (∀ (s : Shared) (u : Value), BindsTo s fd ⟨[u], []⟩ [("script", u)]) ∧ ∀ base : Heap, (K w.params).In base → base.Ns mainGlobals mg → FnOk l.prog w (K w.params) mg base (L2.CX l.prog w) LV fa fd ["script"] (rdF ⟨K w.params, mg, W0⟩ (tab LV .law))) :
    PySem.W.WalkO q loose XP YP l.row.toRowW d [] (fun f vs => PySem.call f vs) :=
  L2.walk_of (n := 63) (k := LV) (x := "script") (CX := fun w => L2.CX l.prog w) (sp := fun w => rdL (K w.params) (tab LV .law)) hn (by decide) hdf hLV hY
    (fun w mg fa h KX G hm => by
      obtain ⟨fd, hb, hF⟩ := F w mg fa h KX G hm
      exact ⟨fd, hb, fun base kb gb => (hF base kb gb).imp fun vs H Q E h => rdL_F h⟩)
    (fun w H a ns hl hO hS => law_sp hO hS (good ns hl)) fun w H s e s' z => by
      obtain ⟨_, _, _, _, _, _, _, _, _, _, _, _, z⟩ := z
      exact z.elim
end Lw

open PySem PySem.W PyProof.Rows
set_option maxRecDepth 100000 in
set_option maxHeartbeats 0 in
theorem PySem.Challenge.cw_wordfractions_k00_kind_measures_holds : PySem.Challenge.rw_wordfractions_k00_kind_measures.Holds := by
  w_on; o_law; k_head; (case hw => w_witness2)
  k_fill
  refine Lw.walk 80 (by exact ⟨rfl, by decide, by decide⟩) Lw.good (l := PySem.Challenge.rw_wordfractions_k00_kind_measures) rfl rfl (fun w h Y => PySem.W.kIn_of Y) ?F
  case F =>
    intro w mg fa h KX G hmg
    refine' Lw.all_mk 80 KX G hmg ?a0 ?l0 ?c0 ?k0 ?a1 ?l1 ?c1 ?k1 ?a2 ?l2 ?c2 ?k2 ?a3 ?l3 ?c3 ?k3 ?a4 ?l4 ?c4 ?k4 ?a5 ?l5 ?c5 ?k5 ?a6 ?l6 ?c6 ?k6 ?a7 ?l7 ?c7 ?k7 ?a8 ?l8 ?c8 ?k8 ?a9 ?l9 ?c9 ?k9 ?a10 ?l10 ?c10 ?k10 ?a11 ?l11 ?c11 ?k11 ?a12 ?l12 ?c12 ?k12 ?a13 ?l13 ?c13 ?k13 ?a14 ?l14 ?c14 ?k14 ?a15 ?l15 ?c15 ?k15 ?a16 ?l16 ?c16 ?k16 ?a17 ?l17 ?c17 ?k17 ?a18 ?l18 ?c18 ?k18 ?a19 ?l19 ?c19 ?k19 ?z0 ?z1 ?z2 ?z3 ?z4 ?z5 ?z6 ?z7 ?z8 ?z9
    (case a0 => k_is)
    (case l0 => k_is)
    (case c0 => k_is)
    (case k0 => k_is)
    (case a1 => k_is)
    (case l1 => k_is)
    (case c1 => k_is)
    (case k1 => k_is)
    (case a2 => k_is)
    (case l2 => k_is)
    (case c2 => k_is)
    (case k2 => k_is)
    (case a3 => k_is)
    (case l3 => k_is)
    (case c3 => k_is)
    (case k3 => k_is)
    (case a4 => k_is)
    (case l4 => k_is)
    (case c4 => k_is)
    (case k4 => k_is)
    (case a5 => k_is)
    (case l5 => k_is)
    (case c5 => k_is)
    (case k5 => k_is)
    (case a6 => k_is)
    (case l6 => k_is)
    (case c6 => k_is)
    (case k6 => k_is)
    (case a7 => k_is)
    (case l7 => k_is)
    (case c7 => k_is)
    (case k7 => k_is)
    (case a8 => k_is)
    (case l8 => k_is)
    (case c8 => k_is)
    (case k8 => k_is)
    (case a9 => k_is)
    (case l9 => k_is)
    (case c9 => k_is)
    (case k9 => k_is)
    (case a10 => k_is)
    (case l10 => k_is)
    (case c10 => k_is)
    (case k10 => k_is)
    (case a11 => k_is)
    (case l11 => k_is)
    (case c11 => k_is)
    (case k11 => k_is)
    (case a12 => k_is)
    (case l12 => k_is)
    (case c12 => k_is)
    (case k12 => k_is)
    (case a13 => k_is)
    (case l13 => k_is)
    (case c13 => k_is)
    (case k13 => k_is)
    (case a14 => k_is)
    (case l14 => k_is)
    (case c14 => k_is)
    (case k14 => k_is)
    (case a15 => k_is)
    (case l15 => k_is)
    (case c15 => k_is)
    (case k15 => k_is)
    (case a16 => k_is)
    (case l16 => k_is)
    (case c16 => k_is)
    (case k16 => k_is)
    (case a17 => k_is)
    (case l17 => k_is)
    (case c17 => k_is)
    (case k17 => k_is)
    (case a18 => k_is)
    (case l18 => k_is)
    (case c18 => k_is)
    (case k18 => k_is)
    (case a19 => k_is)
    (case l19 => k_is)
    (case c19 => k_is)
    (case k19 => k_is)
    (case z0 => k_is)
    (case z1 => k_is)
    (case z2 => k_is)
    (case z3 => k_is)
    (case z4 => k_is)
    (case z5 => k_is)
    (case z6 => k_is)
    (case z7 => k_is)
    (case z8 => k_is)
    (case z9 => k_is)
