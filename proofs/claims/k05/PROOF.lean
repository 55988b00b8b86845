import PyProof.Rows.All
import Wide.All
import OpenK.AllK
import Wide.FinOn
import HandS.ForMost
import HandS.Exc
import HandS.TryOnly
import HandS.ExcOwn
import HandS.WordsExc
import HandS.IsInst
import HandS.Zip
import HandS.Rev
import KE.DataFind
import HandS.RevTup
import HandS.ExcIs
import HandS.More
import PySem.Challenge.RW_wordfractions_k05_mirror_and_substitute
set_option Elab.async false
set_option linter.all false
set_option maxRecDepth 100000
namespace Dl
open PySem L2

/-! ## values without addresses of tuples; the store of what may change -/
inductive D where
  | non | bl (b : Bool) | int (i : Int) | str (x : Str) | tup (xs : List D) | ref (l : Nat) | raw (v : V)
  deriving Inhabited

inductive Cell where
  | lst (xs : List D) | rol (xs : List D) | dic (kvs : List (Key × D)) | gone
  deriving Inhabited
def Cell.mut : Cell → Bool
  | .lst _ => true
  | .dic _ => true
  | _ => false
abbrev Store := List Cell
structure Exn where
  name : Str
  fs : List (Str × D)
inductive R (α : Type) where
  | ok (a : α) (S : Store) | ex (x : Exn) (S : Store) | no
abbrev Env := List (Option D)
abbrev M (α : Type) := Store → R α
def R.bind {α β : Type} : R α → (α → Store → R β) → R β
  | .ok a S, k => k a S
  | .ex x S, _ => .ex x S
  | .no, _ => .no
@[simp] theorem R.bind_ok {α β : Type} (a : α) (S : Store) (k : α → Store → R β) : (R.ok a S).bind k = k a S := rfl
@[simp] theorem R.bind_ex {α β : Type} (x : Exn) (S : Store) (k : α → Store → R β) : (R.ex x S).bind k = .ex x S := rfl
@[simp] theorem R.bind_no {α β : Type} (k : α → Store → R β) : (R.no).bind k = .no := rfl
abbrev EX := Env → Store → R D
abbrev TX := Env → Store → R Bool
abbrev AX := Env → Store → R (List D)
inductive Out where
  | nx (ρ : Env) (S : Store) | rt (d : D) (S : Store) | bk (ρ : Env) (S : Store) | ct (ρ : Env) (S : Store) | ex (x : Exn) (ρ : Env) (S : Store) | no
abbrev SX := Env → Store → Out
/-- an expression's outcome within a statement -/
def R.out {α : Type} (ρ : Env) : R α → (α → Store → Out) → Out
  | .ok a S, k => k a S
  | .ex x S, _ => .ex x ρ S
  | .no, _ => .no
@[simp] theorem R.out_ok {α : Type} (ρ : Env) (a : α) (S : Store) (k : α → Store → Out) : (R.ok a S).out ρ k = k a S := rfl
@[simp] theorem R.out_ex {α : Type} (ρ : Env) (x : Exn) (S : Store) (k : α → Store → Out) : (R.ex (α := α) x S).out ρ k = .ex x ρ S := rfl
@[simp] theorem R.out_no {α : Type} (ρ : Env) (k : α → Store → Out) : (R.no (α := α)).out ρ k = .no := rfl

/-! ## how they stand in the heap -/
/-- a tuple without a dict of its own -/
def TupAt (K : PySem.W.Frag) (H : Hp) (a : Addr) (vs : List V) : Prop :=
  (∃ o, H a = some (.frz o (.tup vs)) ∧ o.cls = .type "tuple" ∧ o.dict = none) ∨
    ∃ (o : Obj) (its : Array Value) (n : Nat), K.lookup a = some o ∧ o.cls = .type "tuple" ∧ o.dict = none ∧ o.data = .seq its n ∧ its.size ≤ sizeLine ∧ Vals vs its.toList
theorem TupAt.sq {K : PySem.W.Frag} {H : Hp} {a : Addr} {vs : List V} (h : TupAt K H a vs) : SqT K H a vs := by
  rcases h with ⟨o, h, _⟩ | ⟨o, its, n, h1, h2, _, h3, h4, h5⟩
  · exact .inl (.inr ⟨o, h⟩)
  · exact .inr ⟨o, its, n, h1, h2, h3, h4, h5⟩
/-- a list that nobody may write -/
def RolAt (K : PySem.W.Frag) (H : Hp) (a : Addr) (vs : List V) : Prop :=
  (∃ o, H a = some (.frz o (.lst vs))) ∨
    ∃ (o : Obj) (its : Array Value) (n : Nat), K.lookup a = some o ∧ o.cls = .type "list" ∧ o.dict = none ∧ o.data = .seq its n ∧ its.size ≤ sizeLine ∧ Vals vs its.toList
theorem RolAt.sq {K : PySem.W.Frag} {H : Hp} {a : Addr} {vs : List V} (h : RolAt K H a vs) : SqL K H a vs := by
  rcases h with ⟨o, h⟩ | h
  · exact .inl (.inr ⟨o, h⟩)
  · exact .inr h
mutual
inductive RD (K : PySem.W.Frag) (m : List Addr) (H : Hp) : V → D → Prop
  | non : RD K m H .non .non
  | bl (b : Bool) : RD K m H (.bl b) (.bl b)
  | int (i : Int) : RD K m H (.int i) (.int i)
  | str {x : Str} (h : x.length ≤ 16777216) : RD K m H (.str x) (.str x)
  | tup {a : Addr} {vs : List V} {ds : List D} (h : TupAt K H a vs) (r : RDs K m H vs ds) : RD K m H (.ref a) (.tup ds)
  | ref {a : Addr} {l : Nat} (h : m[l]? = some a) : RD K m H (.ref a) (.ref l)
  | raw (v : V) : RD K m H v (.raw v)
inductive RDs (K : PySem.W.Frag) (m : List Addr) (H : Hp) : List V → List D → Prop
  | nil : RDs K m H [] []
  | cons {v : V} {d : D} {vs : List V} {ds : List D} (h : RD K m H v d) (t : RDs K m H vs ds) : RDs K m H (v :: vs) (d :: ds)
end
structure Ext (K : PySem.W.Frag) (m : List Addr) (H : Hp) (m' : List Addr) (H' : Hp) : Prop where
  pre : ∃ r, m' = m ++ r
  tup : ∀ a vs, TupAt K H a vs → TupAt K H' a vs
theorem Ext.refl {K : PySem.W.Frag} {m : List Addr} {H : Hp} : Ext K m H m H := ⟨⟨[], by simp⟩, fun _ _ h => h⟩
theorem Ext.trans {K : PySem.W.Frag} {m m1 m2 : List Addr} {H H1 H2 : Hp} (a : Ext K m H m1 H1) (b : Ext K m1 H1 m2 H2) : Ext K m H m2 H2 := by
  obtain ⟨⟨r, e⟩, t⟩ := a
  obtain ⟨⟨r', e'⟩, t'⟩ := b
  exact ⟨⟨r ++ r', by rw [e', e, List.append_assoc]⟩, fun x vs h => t' x vs (t x vs h)⟩
theorem Ext.at {K : PySem.W.Frag} {m m' : List Addr} {H H' : Hp} (e : Ext K m H m' H') {l : Nat} {a : Addr} (h : m[l]? = some a) : m'[l]? = some a := by
  obtain ⟨⟨r, e⟩, _⟩ := e
  rw [e, List.getElem?_append_left (List.getElem?_eq_some_iff.mp h).1]
  exact h
theorem Ext.len {K : PySem.W.Frag} {m m' : List Addr} {H H' : Hp} (e : Ext K m H m' H') : m.length ≤ m'.length := by
  obtain ⟨⟨r, e⟩, _⟩ := e
  rw [e, List.length_append]
  exact Nat.le_add_right _ _
section
variable {K : PySem.W.Frag} {m m' : List Addr} {H H' : Hp}
mutual
theorem RD.mono (e : Ext K m H m' H') : ∀ {v : V} {d : D}, RD K m H v d → RD K m' H' v d
  | _, _, .non => .non
  | _, _, .bl b => .bl b
  | _, _, .int i => .int i
  | _, _, .str h => .str h
  | _, _, .tup h r => .tup (e.tup _ _ h) (RDs.mono e r)
  | _, _, .ref h => .ref (e.at h)
  | _, _, .raw v => .raw v
theorem RDs.mono (e : Ext K m H m' H') : ∀ {vs : List V} {ds : List D}, RDs K m H vs ds → RDs K m' H' vs ds
  | _, _, .nil => .nil
  | _, _, .cons h t => .cons (RD.mono e h) (RDs.mono e t)
end
theorem RDs.length : ∀ {vs : List V} {ds : List D}, RDs K m H vs ds → vs.length = ds.length
  | _, _, .nil => rfl
  | _, _, .cons _ t => congrArg Nat.succ (RDs.length t)
theorem RDs.get : ∀ {vs : List V} {ds : List D} {i : Nat} {d : D}, RDs K m H vs ds → ds[i]? = some d → ∃ v, vs[i]? = some v ∧ RD K m H v d
  | _, _, _, _, .nil, e => by simp at e
  | _, _, 0, _, .cons h _, e => by simp at e; subst e; exact ⟨_, rfl, h⟩
  | _, _, i + 1, d, .cons _ t, e => by
    obtain ⟨v, h1, h2⟩ := RDs.get (i := i) (d := d) t (by simpa using e)
    exact ⟨v, by simpa using h1, h2⟩
theorem RDs.append : ∀ {vs ws : List V} {ds es : List D}, RDs K m H vs ds → RDs K m H ws es → RDs K m H (vs ++ ws) (ds ++ es)
  | _, _, _, _, .nil, s => s
  | _, _, _, _, .cons h t, s => .cons h (RDs.append t s)
theorem RDs.one {v : V} {d : D} (h : RD K m H v d) : RDs K m H [v] [d] := .cons h .nil
theorem RDs.take : ∀ {vs : List V} {ds : List D} (n : Nat), RDs K m H vs ds → RDs K m H (vs.take n) (ds.take n)
  | _, _, 0, _ => .nil
  | _, _, _ + 1, .nil => .nil
  | _, _, n + 1, .cons h t => .cons h (RDs.take n t)
theorem RDs.drop : ∀ {vs : List V} {ds : List D} (n : Nat), RDs K m H vs ds → RDs K m H (vs.drop n) (ds.drop n)
  | _, _, 0, r => r
  | _, _, _ + 1, .nil => .nil
  | _, _, n + 1, .cons _ t => RDs.drop n t
theorem RDs.set {v : V} {d : D} (h : RD K m H v d) : ∀ {vs : List V} {ds : List D} (i : Nat), RDs K m H vs ds → RDs K m H (vs.set i v) (ds.set i d)
  | _, _, _, .nil => .nil
  | _, _, 0, .cons _ t => .cons h t
  | _, _, i + 1, .cons q t => .cons q (RDs.set h i t)
theorem RDs.reverse : ∀ {vs : List V} {ds : List D}, RDs K m H vs ds → RDs K m H vs.reverse ds.reverse
  | _, _, .nil => .nil
  | _, _, .cons h t => by
    rw [List.reverse_cons, List.reverse_cons]
    exact (RDs.reverse t).append (.one h)
theorem RDs.dropLast {vs : List V} {ds : List D} (r : RDs K m H vs ds) : RDs K m H vs.dropLast ds.dropLast := by
  rw [List.dropLast_eq_take, List.dropLast_eq_take, r.length]
  exact r.take _
theorem RDs.eraseIdx : ∀ {vs : List V} {ds : List D} (i : Nat), RDs K m H vs ds → RDs K m H (vs.eraseIdx i) (ds.eraseIdx i)
  | _, _, _, .nil => .nil
  | _, _, 0, .cons _ t => t
  | _, _, i + 1, .cons q t => .cons q (RDs.eraseIdx i t)
end

def CellOk (K : PySem.W.Frag) (m : List Addr) (H : Hp) (a : Addr) : Cell → Prop
  | .lst xs => ∃ vs, H a = some (.lst vs) ∧ RDs K m H vs xs
  | .rol xs => ∃ vs, RolAt K H a vs ∧ RDs K m H vs xs
  | .dic kvs => ∃ ws : List (Key × V), H a = some (.dK ws) ∧ ws.map (·.1) = kvs.map (·.1) ∧ RDs K m H (ws.map (·.2)) (kvs.map (·.2))
  | .gone => True
structure RS (K : PySem.W.Frag) (m : List Addr) (H : Hp) (S : Store) : Prop where
  len : m.length = S.length
  at_ : ∀ {l : Nat} {a : Addr} {c : Cell}, m[l]? = some a → S[l]? = some c → CellOk K m H a c
  inj : ∀ {l l' : Nat} {a : Addr} {c c' : Cell}, m[l]? = some a → m[l']? = some a → S[l]? = some c → S[l']? = some c' → c.mut = true → c'.mut = true → l = l'
/-- a cell that is read as a list -/
def lstAt (S : Store) (l : Nat) : Option (List D) := match S[l]? with
  | some (.lst xs) => some xs
  | some (.rol xs) => some xs
  | _ => none
section
variable {K : PySem.W.Frag} {m m' : List Addr} {H H' : Hp} {S : Store}
theorem RS.addr (r : RS K m H S) {l : Nat} (h : l < S.length) : ∃ a, m[l]? = some a := by
  rw [← r.len] at h
  exact ⟨m[l], List.getElem?_eq_getElem h⟩
theorem RS.lst (r : RS K m H S) {l : Nat} {a : Addr} {xs : List D} (h : m[l]? = some a) (e : lstAt S l = some xs) : ∃ vs, SqL K H a vs ∧ RDs K m H vs xs := by
  unfold lstAt at e
  split at e
  · cases e
    obtain ⟨vs, h1, h2⟩ := r.at_ h ‹_›
    exact ⟨vs, SqL.of h1, h2⟩
  · cases e
    obtain ⟨vs, h1, h2⟩ := r.at_ h ‹_›
    exact ⟨vs, h1.sq, h2⟩
  · cases e
theorem RS.wlst (r : RS K m H S) {l : Nat} {a : Addr} {xs : List D} (h : m[l]? = some a) (e : S[l]? = some (.lst xs)) : ∃ vs, H a = some (.lst vs) ∧ RDs K m H vs xs := r.at_ h e
theorem CellOk.mono {a : Addr} {c : Cell} (e : Ext K m H m' H') (h : CellOk K m H a c) (k : c.mut = true → H' a = H a) (kr : ∀ vs, RolAt K H a vs → RolAt K H' a vs) : CellOk K m' H' a c := by
  cases c with
  | lst xs =>
    obtain ⟨vs, h1, h2⟩ := h
    exact ⟨vs, by rw [k rfl]; exact h1, h2.mono e⟩
  | rol xs =>
    obtain ⟨vs, h1, h2⟩ := h
    exact ⟨vs, kr _ h1, h2.mono e⟩
  | dic kvs =>
    obtain ⟨ws, h1, h2, h3⟩ := h
    exact ⟨ws, by rw [k rfl]; exact h1, h2, h3.mono e⟩
  | gone => trivial
/-- a cell that changes is tracked as such -/
theorem CellOk.some {a : Addr} {c : Cell} (h : CellOk K m H a c) (k : c.mut = true) : ∃ o, H a = Option.some o ∧ ∀ ob u, o ≠ .frz ob u := by
  cases c with
  | lst xs => obtain ⟨vs, h1, _⟩ := h; exact ⟨_, h1, fun _ _ z => nomatch z⟩
  | dic kvs => obtain ⟨vs, h1, _⟩ := h; exact ⟨_, h1, fun _ _ z => nomatch z⟩
  | rol xs => cases k
  | gone => cases k
/-- what stood frozen is untouched by a new object -/
theorem tup_new {p : Addr} {o : HO} (hp : H p = none) : ∀ a vs, TupAt K H a vs → TupAt K (upd H p o) a vs := fun a vs h => by
  rcases h with ⟨ob, h, d⟩ | h
  · exact .inl ⟨ob, by rw [upd_ne (ne_of_none h hp)]; exact h, d⟩
  · exact .inr h
theorem rol_new {p : Addr} {o : HO} (hp : H p = none) : ∀ a vs, RolAt K H a vs → RolAt K (upd H p o) a vs := fun a vs h => by
  rcases h with ⟨ob, h⟩ | h
  · exact .inl ⟨ob, by rw [upd_ne (ne_of_none h hp)]; exact h⟩
  · exact .inr h
theorem tup_upd {p : Addr} {o u : HO} (hp : H p = some u) (hu : ∀ ob w, u ≠ .frz ob w) : ∀ a vs, TupAt K H a vs → TupAt K (upd H p o) a vs := fun a vs h => by
  rcases h with ⟨ob, h, d⟩ | h
  · exact .inl ⟨ob, by rw [upd_ne (ne_of h hp (fun z => hu _ _ z.symm))]; exact h, d⟩
  · exact .inr h
theorem rol_upd {p : Addr} {o u : HO} (hp : H p = some u) (hu : ∀ ob w, u ≠ .frz ob w) : ∀ a vs, RolAt K H a vs → RolAt K (upd H p o) a vs := fun a vs h => by
  rcases h with ⟨ob, h⟩ | h
  · exact .inl ⟨ob, by rw [upd_ne (ne_of h hp (fun z => hu _ _ z.symm))]; exact h⟩
  · exact .inr h
/-- a new object that the store does not know -/
theorem RS.new (r : RS K m H S) {p : Addr} {o : HO} (hp : H p = none) : Ext K m H m (upd H p o) ∧ RS K m (upd H p o) S := by
  have e : Ext K m H m (upd H p o) := ⟨⟨[], by simp⟩, tup_new hp⟩
  refine ⟨e, r.len, fun {l a c} h1 h2 => (r.at_ h1 h2).mono e (fun k => ?_) (rol_new hp _), r.inj⟩
  obtain ⟨u, h, _⟩ := (r.at_ h1 h2).some k
  rw [upd_ne (ne_of_none h hp)]
/-- a new cell -/
theorem RS.push (r : RS K m H S) {p : Addr} {o : HO} {c : Cell} (hp : H p = none) (hc : ∀ m', Ext K m H m' (upd H p o) → CellOk K m' (upd H p o) p c) : Ext K m H (m ++ [p]) (upd H p o) ∧ RS K (m ++ [p]) (upd H p o) (S ++ [c]) := by
  have e : Ext K m H (m ++ [p]) (upd H p o) := ⟨⟨[p], rfl⟩, tup_new hp⟩
  have hl := r.len
  refine ⟨e, by simp [hl], fun {l a c'} h1 h2 => ?_, fun {l l' a c' c''} h1 h2 h3 h4 h5 h6 => ?_⟩
  · by_cases z : l < S.length
    · rw [List.getElem?_append_left (by omega)] at h1
      rw [List.getElem?_append_left z] at h2
      refine (r.at_ h1 h2).mono e (fun k => ?_) (rol_new hp _)
      obtain ⟨u, h, _⟩ := (r.at_ h1 h2).some k
      rw [upd_ne (ne_of_none h hp)]
    · have hz : l = S.length := by
        have := (List.getElem?_eq_some_iff.mp h2).1
        simp at this
        omega
      subst hz
      rw [List.getElem?_append_right (by omega)] at h1
      rw [List.getElem?_append_right (by omega)] at h2
      simp [hl] at h1 h2
      subst h1; subst h2
      exact hc _ e
  · have old : ∀ {i : Nat} {x : Cell}, m[i]? = some a → S[i]? = some x → x.mut = true → a ≠ p := fun {i x} q1 q2 q3 => by
      obtain ⟨u, h, _⟩ := (r.at_ q1 q2).some q3
      exact ne_of_none h hp
    have lt : ∀ {i : Nat} {x : Cell}, (S ++ [c])[i]? = some x → i < S.length ∨ i = S.length := fun {i x} q => by
      have := (List.getElem?_eq_some_iff.mp q).1
      simp at this
      omega
    have low : ∀ {i : Nat} {x : Cell}, i < S.length → (m ++ [p])[i]? = some a → (S ++ [c])[i]? = some x → m[i]? = some a ∧ S[i]? = some x := fun {i x} q q1 q2 => by
      rw [List.getElem?_append_left (by omega)] at q1
      rw [List.getElem?_append_left q] at q2
      exact ⟨q1, q2⟩
    have top : (m ++ [p])[S.length]? = some a → a = p := fun q => by
      rw [List.getElem?_append_right (by omega)] at q
      simp [hl] at q
      exact q.symm
    rcases lt h3 with z | z
    · obtain ⟨a1, a2⟩ := low z h1 h3
      rcases lt h4 with z' | z'
      · obtain ⟨b1, b2⟩ := low z' h2 h4
        exact r.inj a1 b1 a2 b2 h5 h6
      · subst z'
        exact absurd (top h2) (old a1 a2 h5)
    · subst z
      rcases lt h4 with z' | z'
      · obtain ⟨b1, b2⟩ := low z' h2 h4
        exact absurd (top h1) (old b1 b2 h6)
      · exact z'.symm
/-- a cell is written -/
theorem RS.write (r : RS K m H S) {p : Addr} {o : HO} {l : Nat} {c c' : Cell} (hl : m[l]? = some p) (hc : S[l]? = some c) (k : c.mut = true) (k' : c'.mut = true) (hn : Ext K m H m (upd H p o) → CellOk K m (upd H p o) p c') :
    Ext K m H m (upd H p o) ∧ RS K m (upd H p o) (S.set l c') := by
  obtain ⟨u, hu, hf⟩ := (r.at_ hl hc).some k
  have e : Ext K m H m (upd H p o) := ⟨⟨[], by simp⟩, tup_upd hu hf⟩
  have lS : l < S.length := (List.getElem?_eq_some_iff.mp hc).1
  have get : ∀ {i : Nat} {x : Cell}, (S.set l c')[i]? = some x → (i = l ∧ x = c') ∨ (i ≠ l ∧ S[i]? = some x) := fun {i x} q => by
    by_cases z : i = l
    · subst z
      rw [List.getElem?_set_self lS] at q
      cases q
      exact .inl ⟨rfl, rfl⟩
    · rw [List.getElem?_set_ne (Ne.symm z)] at q
      exact .inr ⟨z, q⟩
  refine ⟨e, by rw [List.length_set]; exact r.len, fun {i a x} h1 h2 => ?_, fun {i i' a x x'} h1 h2 h3 h4 h5 h6 => ?_⟩
  · rcases get h2 with ⟨rfl, rfl⟩ | ⟨z, q⟩
    · rw [hl] at h1; cases h1
      exact hn e
    · refine (r.at_ h1 q).mono e (fun kx => ?_) (rol_upd hu hf _)
      have : a ≠ p := fun za => by
        subst za
        exact z (r.inj h1 hl q hc kx k)
      rw [upd_ne this]
  · rcases get h3 with ⟨rfl, rfl⟩ | ⟨z, q⟩
    · rcases get h4 with ⟨rfl, rfl⟩ | ⟨z', q'⟩
      · rfl
      · exact r.inj h1 h2 hc q' k h6
    · rcases get h4 with ⟨rfl, rfl⟩ | ⟨z', q'⟩
      · exact r.inj h1 h2 q hc h5 k
      · exact r.inj h1 h2 q q' h5 h6
end
/-- the slots -/
structure RE (K : PySem.W.Frag) (m : List Addr) (H : Hp) (σ : St) (ρ : Env) : Prop where
  len : σ.length = ρ.length
  at_ : ∀ {i : Nat} {d : D}, ρ[i]? = some (some d) → ∃ v, σ[i]? = some (some v) ∧ RD K m H v d
section
variable {K : PySem.W.Frag} {m m' : List Addr} {H H' : Hp} {σ : St} {ρ : Env}
theorem RE.mono (e : Ext K m H m' H') (r : RE K m H σ ρ) : RE K m' H' σ ρ := ⟨r.len, fun h => let ⟨v, h1, h2⟩ := r.at_ h; ⟨v, h1, h2.mono e⟩⟩
theorem RE.set (r : RE K m H σ ρ) {v : V} {d : D} (h : RD K m H v d) (i : Nat) : RE K m H (σ.set i (some v)) (ρ.set i (some d)) := by
  refine ⟨by rw [List.length_set, List.length_set]; exact r.len, fun {j d'} e => ?_⟩
  by_cases z : i = j
  · subst z
    have hl : i < ρ.length := by have := (List.getElem?_eq_some_iff.mp e).1; rwa [List.length_set] at this
    rw [List.getElem?_set_self hl] at e
    cases e
    exact ⟨v, by rw [List.getElem?_set_self (by rw [r.len]; exact hl)], h⟩
  · rw [List.getElem?_set_ne z] at e
    obtain ⟨w, h1, h2⟩ := r.at_ e
    exact ⟨w, by rw [List.getElem?_set_ne z]; exact h1, h2⟩
def wipeD (ρ : Env) : List Nat → Env
  | [] => ρ
  | v :: vs => (wipeD ρ vs).set v none
theorem RE.none (r : RE K m H σ ρ) (i : Nat) : RE K m H (σ.set i none) (ρ.set i none) := by
  refine ⟨by rw [List.length_set, List.length_set]; exact r.len, fun {j d'} e => ?_⟩
  by_cases z : i = j
  · subst z
    have hl : i < ρ.length := by have := (List.getElem?_eq_some_iff.mp e).1; rwa [List.length_set] at this
    rw [List.getElem?_set_self hl] at e
    cases e
  · rw [List.getElem?_set_ne z] at e
    obtain ⟨w, h1, h2⟩ := r.at_ e
    exact ⟨w, by rw [List.getElem?_set_ne z]; exact h1, h2⟩
theorem RE.wipe (r : RE K m H σ ρ) : ∀ vs : List Nat, RE K m H (wipe σ vs) (wipeD ρ vs)
  | [] => r
  | v :: vs => (RE.wipe r vs).none v
end
end Dl

set_option Elab.async false
set_option linter.all false
set_option maxRecDepth 100000
namespace Dl
open PySem L2

/-! ## readings -/
structure Cq where
  K : PySem.W.Frag
  mg : Str → Option Value
  W : WX
abbrev W0 : WX := fun _ _ _ _ => False
abbrev _root_.L2.Cx.cq (X : Cx) (W : WX) : Cq := ⟨X.K, X.mg, W⟩
def RX (c : Cq) (m : List Addr) (H : Hp) (x : Exn) (cls : Value) (dd : Option Addr) : Prop :=
  c.mg x.name = some cls ∧ match x.fs with
    | [] => dd = none
    | fs => ∃ d ws, dd = some d ∧ H d = some (.xd ws) ∧ ws.map (·.1) = fs.map (·.1) ∧ RDs c.K m H (ws.map (·.2)) (fs.map (·.2))
def Post {α β : Type} (c : Cq) (rel : List Addr → Hp → β → α → Prop) (m : List Addr) (H : Hp) (σ : St) (Q : β → Hp → Prop) : R α → Prop
  | .ok a S' => ∀ b H' m', Ext c.K m H m' H' → RS c.K m' H' S' → rel m' H' b a → Q b H'
  | .ex x S' => ∀ cls dd H' m', Ext c.K m H m' H' → RS c.K m' H' S' → RX c m' H' x cls dd → c.W cls dd σ H'
  | .no => False
def PostS (c : Cq) (m : List Addr) (H : Hp) (Dn : Ends) : Out → Prop
  | .nx ρ' S' => ∀ σ' H' m', Ext c.K m H m' H' → RE c.K m' H' σ' ρ' → RS c.K m' H' S' → Dn.nx σ' H'
  | .bk ρ' S' => ∀ σ' H' m', Ext c.K m H m' H' → RE c.K m' H' σ' ρ' → RS c.K m' H' S' → Dn.bk σ' H'
  | .ct ρ' S' => ∀ σ' H' m', Ext c.K m H m' H' → RE c.K m' H' σ' ρ' → RS c.K m' H' S' → Dn.ct σ' H'
  | .rt d S' => ∀ v H' m', Ext c.K m H m' H' → RS c.K m' H' S' → RD c.K m' H' v d → Dn.rt v H'
  | .ex x ρ' S' => ∀ cls dd σ' H' m', Ext c.K m H m' H' → RE c.K m' H' σ' ρ' → RS c.K m' H' S' → RX c m' H' x cls dd → c.W cls dd σ' H'
  | .no => False
abbrev relD (c : Cq) : List Addr → Hp → V → D → Prop := fun m H v d => RD c.K m H v d
abbrev relDs (c : Cq) : List Addr → Hp → List V → List D → Prop := fun m H v d => RDs c.K m H v d
abbrev relB {α : Type} : List Addr → Hp → α → α → Prop := fun _ _ a b => a = b
def rdE (c : Cq) (f : EX) : TE := fun σ H Q => ∃ m ρ S, RE c.K m H σ ρ ∧ RS c.K m H S ∧ Post c (relD c) m H σ Q (f ρ S)
def rdT (c : Cq) (f : TX) : TT := fun σ H Q => ∃ m ρ S, RE c.K m H σ ρ ∧ RS c.K m H S ∧ Post c relB m H σ Q (f ρ S)
def rdA (c : Cq) (f : AX) : TA := fun σ H Q => ∃ m ρ S, RE c.K m H σ ρ ∧ RS c.K m H S ∧ Post c (relDs c) m H σ Q (f ρ S)
def rdO (c : Cq) (f : Env → Store → R (Option Int)) : TO := fun σ H Q => ∃ m ρ S, RE c.K m H σ ρ ∧ RS c.K m H S ∧ Post c relB m H σ Q (f ρ S)
def rdS (c : Cq) (g : SX) : TS := fun Dn σ H => ∃ m ρ S, RE c.K m H σ ρ ∧ RS c.K m H S ∧ PostS c m H Dn (g ρ S)
def rdG (c : Cq) (tg : D → SX) : TG := fun v σ H Q => ∃ m ρ S d, RE c.K m H σ ρ ∧ RS c.K m H S ∧ RD c.K m H v d ∧ PostS c m H { nx := Q, rt := fun _ _ => False } (tg d ρ S)
/-- what a def promises: the mirror's answer -/
def rdF (c : Cq) (F : List D → M D) : Sp := fun vs H Q E => ∃ m ds S, RDs c.K m H vs ds ∧ RS c.K m H S ∧ Post { c with W := fun cls dd _ H => E cls dd H } (relD c) m H [] Q (F ds S)

section
variable {α β γ δ : Type} {c : Cq} {rel : List Addr → Hp → β → α → Prop} {rel' : List Addr → Hp → δ → γ → Prop} {m m1 : List Addr} {H H1 : Hp} {σ : St} {ρ : Env} {Q Q' : β → Hp → Prop} {Q2 : δ → Hp → Prop} {Dn : Ends}
theorem Post.mono (e : Ext c.K m H m1 H1) {r : R α} (h : Post c rel m H σ Q r) : Post c rel m1 H1 σ Q r := by
  cases r with
  | ok a S => exact fun b H' m' e' => h b H' m' (e.trans e')
  | ex x S => exact fun cls dd H' m' e' => h cls dd H' m' (e.trans e')
  | no => exact h
theorem Post.imp {r : R α} (h : Post c rel m H σ Q r) (k : ∀ b H', Q b H' → Q' b H') : Post c rel m H σ Q' r := by
  cases r with
  | ok a S => exact fun b H' m' e rs rl => k _ _ (h b H' m' e rs rl)
  | ex x S => exact h
  | no => exact h
theorem Post.bind {r : R α} {k : α → Store → R γ} (h : Post c rel' m H σ Q2 (r.bind k)) :
    Post c rel m H σ (fun b H1 => ∃ m1 a S1, Ext c.K m H m1 H1 ∧ RS c.K m1 H1 S1 ∧ rel m1 H1 b a ∧ Post c rel' m1 H1 σ Q2 (k a S1)) r := by
  cases r with
  | ok a S => exact fun b H' m' e rs rl => ⟨m', a, S, e, rs, rl, Post.mono e h⟩
  | ex x S => exact h
  | no => exact h
theorem PostS.mono (e : Ext c.K m H m1 H1) {o : Out} (h : PostS c m H Dn o) : PostS c m1 H1 Dn o := by
  cases o with
  | nx ρ S => exact fun σ' H' m' e' => h σ' H' m' (e.trans e')
  | bk ρ S => exact fun σ' H' m' e' => h σ' H' m' (e.trans e')
  | ct ρ S => exact fun σ' H' m' e' => h σ' H' m' (e.trans e')
  | rt d S => exact fun σ' H' m' e' => h σ' H' m' (e.trans e')
  | ex x ρ S => exact fun cls dd σ' H' m' e' => h cls dd σ' H' m' (e.trans e')
  | no => exact h
theorem Post.out {r : R α} {k : α → Store → Out} (re : RE c.K m H σ ρ) (h : PostS c m H Dn (r.out ρ k)) :
    Post c rel m H σ (fun b H1 => ∃ m1 a S1, Ext c.K m H m1 H1 ∧ RS c.K m1 H1 S1 ∧ rel m1 H1 b a ∧ RE c.K m1 H1 σ ρ ∧ PostS c m1 H1 Dn (k a S1)) r := by
  cases r with
  | ok a S => exact fun b H' m' e rs rl => ⟨m', a, S, e, rs, rl, re.mono e, PostS.mono e h⟩
  | ex x S => exact fun cls dd H' m' e rs rx => h cls dd σ H' m' e (re.mono e) rs rx
  | no => exact h
end
section
variable {X : Cx}
theorem PEwk {e : Expr} {t t' : TE} (h : PE X e t) (k : ∀ σ H Q, t' σ H Q → t σ H Q) : PE X e t' := ⟨fun pins s σ H Q I q => h.run pins s σ H Q I (k _ _ _ q)⟩
theorem PTwk {e : Expr} {t t' : TT} (h : PT X e t) (k : ∀ σ H Q, t' σ H Q → t σ H Q) : PT X e t' := ⟨fun pins s σ H Q I q => h.run pins s σ H Q I (k _ _ _ q)⟩
theorem PWwk {e : Expr} {t t' : TT} (h : PW X e t) (k : ∀ σ H Q, t' σ H Q → t σ H Q) : PW X e t' := ⟨fun wh pins s σ H Q I q => h.run wh pins s σ H Q I (k _ _ _ q)⟩
theorem PAwk {es : List Expr} {t t' : TA} (h : PA X es t) (k : ∀ σ H Q, t' σ H Q → t σ H Q) : PA X es t' := ⟨fun pos pins s σ H Q I q => h.run pos pins s σ H Q I (k _ _ _ q)⟩
theorem POwk {e : Option Expr} {t t' : TO} (h : PO X e t) (k : ∀ σ H Q, t' σ H Q → t σ H Q) : PO X e t' := ⟨fun pins s σ H Q I q => h.run pins s σ H Q I (k _ _ _ q)⟩
theorem PSwk {e : Stmt} {t t' : TS} (h : PS X e t) (k : ∀ D σ H, t' D σ H → t D σ H) : PS X e t' := ⟨fun pins s σ H D I q => h.run pins s σ H D I (k _ _ _ q)⟩
theorem PSswk {e : List Stmt} {t t' : TS} (h : PSs X e t) (k : ∀ D σ H, t' D σ H → t D σ H) : PSs X e t' := ⟨fun pins s σ H D I q => h.run pins s σ H D I (k _ _ _ q)⟩
theorem PGwk {e : Expr} {t t' : TG} (h : PG X e t) (k : ∀ v σ H Q, t' v σ H Q → t v σ H Q) : PG X e t' := ⟨fun pins s σ H v u Q I r q => h.run pins s σ H v u Q I r (k _ _ _ _ q)⟩
theorem PIwk {tg e : Expr} {t t' : TI} (h : PI X tg e t) (k : ∀ σ H Q, t' σ H Q → t σ H Q) : PI X tg e t' := ⟨fun pins s σ H Q I q => h.run pins s σ H Q I (k _ _ _ q)⟩
end

/-! ## expressions -/
def toR {α : Type} : Option (α × Store) → R α
  | some (a, S) => .ok a S
  | none => .no
@[simp] theorem toR_some {α : Type} (a : α) (S : Store) : toR (some (a, S)) = .ok a S := rfl
@[simp] theorem toR_none {α : Type} : toR (none : Option (α × Store)) = .no := rfl
def eV (i : Nat) : EX := fun ρ S => match ρ[i]? with
  | some (some d) => .ok d S
  | _ => .no
def eC (d : D) : EX := fun _ S => .ok d S
/-- two operands, by values -/
def e2 (g : D → D → Store → Option (D × Store)) (fa fb : EX) : EX := fun ρ S => (fa ρ S).bind fun x S1 => (fb ρ S1).bind fun y S2 => toR (g x y S2)
def e1 (g : D → Store → Option (D × Store)) (fa : EX) : EX := fun ρ S => (fa ρ S).bind fun x S1 => toR (g x S1)
def aN : AX := fun _ S => .ok [] S
def aC (fa : EX) (fr : AX) : AX := fun ρ S => (fa ρ S).bind fun x S1 => (fr ρ S1).bind fun xs S2 => .ok (x :: xs) S2
def eB (g : List D → Store → Option (D × Store)) (fa : AX) : EX := fun ρ S => (fa ρ S).bind fun xs S1 => toR (g xs S1)
def eF (F : List D → M D) (fa : AX) : EX := fun ρ S => (fa ρ S).bind fun xs S1 => F xs S1
/-- a method of a built-in type -/
def eM (g : D → List D → Store → Option (D × Store)) (fo : EX) (fa : AX) : EX := fun ρ S => (fo ρ S).bind fun x S1 => (fa ρ S1).bind fun xs S2 => toR (g x xs S2)
/-- by values -/
def VPost (K : PySem.W.Frag) (m : List Addr) (H : Hp) (Q : VK) : Option (D × Store) → Prop
  | some (d, S') => ∀ v H' m', Ext K m H m' H' → RS K m' H' S' → RD K m' H' v d → Q v H'
  | none => False
theorem VPost.of {c : Cq} {m : List Addr} {H : Hp} {σ : St} {Q : VK} {o : Option (D × Store)} (h : Post c (relD c) m H σ Q (toR o)) : VPost c.K m H Q o := by
  cases o with
  | none => exact h
  | some p => exact h
def rd1 (K : PySem.W.Frag) (g : D → Store → Option (D × Store)) : V → Hp → VK → Prop := fun v H Q => ∃ m x S, RD K m H v x ∧ RS K m H S ∧ VPost K m H Q (g x S)
def rd2 (K : PySem.W.Frag) (g : D → D → Store → Option (D × Store)) : R2 := fun v u H Q => ∃ m x y S, RD K m H v x ∧ RD K m H u y ∧ RS K m H S ∧ VPost K m H Q (g x y S)
def rdC (K : PySem.W.Frag) (g : List D → Store → Option (D × Store)) : List V → Hp → VK → Prop := fun vs H Q => ∃ m xs S, RDs K m H vs xs ∧ RS K m H S ∧ VPost K m H Q (g xs S)
def rdM (K : PySem.W.Frag) (g : D → List D → Store → Option (D × Store)) : V → List V → Hp → VK → Prop := fun v vs H Q => ∃ m x xs S, RD K m H v x ∧ RDs K m H vs xs ∧ RS K m H S ∧ VPost K m H Q (g x xs S)
section
variable {X : Cx} {W : WX} {a b e : Expr} {es : List Expr} {fa fb fe : EX} {fr fx : AX} {pos p : Pos}
theorem d_v (i : Nat) {x : Str} (hN : X.N[i]? = some x := by rfl) (hv : Vis X.env.scope x := by first | exact Or.inl rfl | exact Or.inr (Or.inl rfl) | exact Or.inr (Or.inr rfl)) (hd : (x == ("__debug__" : Str)) = false := by decide)
    (hcd : (x == ("__classdict__" : Str)) = false := by decide) : PE X (.Name x pos) (rdE (X.cq W) (eV i)) := PEwk (pv i hN hv hd hcd) fun σ H Q h => by
  obtain ⟨m, ρ, S, re, rs, h⟩ := h
  unfold eV at h
  split at h
  · rename_i d e
    obtain ⟨v, h1, h2⟩ := re.at_ e
    exact ⟨v, h1, h v H m .refl rs h2⟩
  · exact h.elim
theorem d_c {v : V} {d : D} (h : PE X e (tC v)) (r : ∀ m H, RD X.K m H v d) : PE X e (rdE (X.cq W) (eC d)) := PEwk h fun σ H Q h => by
  obtain ⟨m, ρ, S, re, rs, h⟩ := h
  exact h v H m .refl rs (r m H)
theorem d_int {i j} : PE X (.Constant (.int i) j pos) (rdE (X.cq W) (eC (.int i))) := d_c pe_int fun _ _ => .int i
theorem d_bl {i j} : PE X (.Constant (.bool i) j pos) (rdE (X.cq W) (eC (.bl i))) := d_c pe_bl fun _ _ => .bl i
theorem d_non {j} : PE X (.Constant .none j pos) (rdE (X.cq W) (eC .non)) := d_c pe_non fun _ _ => .non
theorem d_str {x : Str} {j} (h : x.length ≤ 16777216 := by decide +kernel) : PE X (.Constant (.str x) j pos) (rdE (X.cq W) (eC (.str x))) := d_c pe_str fun _ _ => .str h
/-- a builtin's name as a value -/
theorem d_blt {x : Str} {v : V} {u : Value} (hg : Gl X x) (hm : X.mg x = none) (hv : bootBuiltins x = some u) (r : RelV v u) (hn : x ≠ "__name__" := by decide) (hd : (x == ("__debug__" : Str)) = false := by decide) :
    PE X (.Name x pos) (rdE (X.cq W) (eC (.raw v))) := d_c (pe_bltn hg hm hv r hn hd) fun _ _ => .raw v
/-- a module's constant -/
theorem d_glob {x : Str} {v : V} {d : D} {u : Value} (hg : Gl X x) (hm : X.mg x = some u) (r : RelV v u) (rd : ∀ m H, RD X.K m H v d) (hd : (x == ("__debug__" : Str)) = false := by decide) :
    PE X (.Name x pos) (rdE (X.cq W) (eC d)) := d_c (pe_glob hg hm r hd) rd
theorem d_2h {r : R2} (h : PE X e (tOp r (rdE (X.cq W) fa) (rdE (X.cq W) fb))) {g : D → D → Store → Option (D × Store)} (k : ∀ v u H Q, rd2 X.K g v u H Q → r v u H Q) : PE X e (rdE (X.cq W) (e2 g fa fb)) := PEwk h fun σ H Q h => by
  obtain ⟨m, ρ, S, re, rs, h⟩ := h
  exact ⟨m, ρ, S, re, rs, (Post.bind h).imp fun v H1 ⟨m1, x, S1, e, rs1, rd, h1⟩ => ⟨m1, ρ, S1, re.mono e, rs1, (Post.bind h1).imp fun u H2 ⟨m2, y, S2, e2, rs2, rd2, h2⟩ =>
    k _ _ _ _ ⟨m2, x, y, S2, rd.mono e2, rd2, rs2, VPost.of h2⟩⟩⟩
theorem d_op {op : Operator} {g : D → D → Store → Option (D × Store)} (ho : OpR X (binaryOp op) (rd2 X.K g)) (ha : PE X a (rdE (X.cq W) fa)) (hb : PE X b (rdE (X.cq W) fb)) : PE X (.BinOp a op b pos) (rdE (X.cq W) (e2 g fa fb)) :=
  d_2h (pe_op ho ha hb) fun _ _ _ _ h => h
end
end Dl

set_option Elab.async false
set_option linter.all false
set_option maxRecDepth 100000
namespace Dl
open PySem L2

/-! ## operations by values -/
def LIM : Nat := 16777216
theorem lim_eq : LIM = sizeLine := by rw [sizeLine_eq]; rfl
def catL (S : Store) (l k : Nat) : Option (D × Store) := match S[l]?, S[k]? with
    | some (.lst xs), some (.lst ys) => if xs.length + ys.length ≤ LIM then some (.ref S.length, S ++ [.lst (xs ++ ys)]) else none
    | _, _ => none
def gAdd : D → D → Store → Option (D × Store)
  | .int i, .int j, S => some (.int (i + j), S)
  | .str a, .str b, S => if a.length + b.length ≤ LIM then some (.str (a ++ b), S) else none
  | .tup (x :: xs), .tup ys, S => if (x :: xs).length + ys.length ≤ LIM then some (.tup (x :: xs ++ ys), S) else none
  | .ref l, .ref k, S => catL S l k
  | _, _, _ => none
def gSub : D → D → Store → Option (D × Store)
  | .int i, .int j, S => some (.int (i - j), S)
  | _, _, _ => none
def gMul : D → D → Store → Option (D × Store)
  | .int i, .int j, S => if (-(2 ^ 64) < i ∧ i < 2 ^ 64) ∨ (-(2 ^ 64) < j ∧ j < 2 ^ 64) then some (.int (i * j), S) else none
  | _, _, _ => none
def gFdiv : D → D → Store → Option (D × Store)
  | .int i, .int j, S => if 0 < j ∧ j < 1073741824 then some (.int (i / j), S) else none
  | _, _, _ => none
def gMod : D → D → Store → Option (D × Store)
  | .int i, .int j, S => if 0 < j then some (.int (i % j), S) else none
  | _, _, _ => none
def gPow : D → D → Store → Option (D × Store)
  | .int i, .int j, S => if 0 ≤ j ∧ j ≤ 1000000 ∧ i.natAbs < 2 ^ 64 then some (.int (i ^ j.toNat), S) else none
  | _, _, _ => none
section
variable {X : Cx}
theorem str_app_len (a b : Str) : (a ++ b).length = a.length + b.length := by
  show (a.cps ++ b.cps).size = a.cps.size + b.cps.size
  exact Array.size_append
/-- a new tuple, without a dict -/
theorem lay_tup {pins : List (Addr × Obj)} {σ : St} {H : Hp} {s : Shared} {xs : List V} {us : List Value} {Q : VK} {tk : Nat} {n : Nat} (I : Inv X pins σ H s) (hz : xs.length ≤ sizeLine) (r : Vals xs us)
    (q : ∀ o, o.cls = .type "tuple" → o.dict = none → Q (.ref s.heap.objs.size) (upd H s.heap.objs.size (.frz o (.tup xs)))) :
    EP X pins σ Q (.ref s.heap.objs.size) { s with heap := s.heap.push { cls := .type "tuple", data := .seq us.toArray n }, toks := tk } := by
  refine ⟨.ref s.heap.objs.size, _, I.laid (t' := tk) (o := .frz { cls := .type "tuple", data := .seq us.toArray n } (.tup xs)) (fun b ob q => Heap.get?_push_of_some _ q) (Nat.le_refl _) ?_, rfl, q _ rfl rfl⟩
  exact ⟨Heap.get?_push_size _ rfl, hz, us, r, _, Heap.get?_push_size _ rfl, rfl, _, rfl⟩
/-- what VPost asks, for a new tuple -/
theorem vp_tup {K : PySem.W.Frag} {m : List Addr} {H : Hp} {S : Store} {Q : VK} {p : Addr} {o : Obj} {xs : List V} {ds : List D} (rs : RS K m H S) (hp : H p = none) (hc : o.cls = .type "tuple") (hd : o.dict = none) (r : RDs K m H xs ds)
    (h : ∀ v H' m', Ext K m H m' H' → RS K m' H' S → RD K m' H' v (.tup ds) → Q v H') : Q (.ref p) (upd H p (.frz o (.tup xs))) := by
  obtain ⟨e, rs'⟩ := rs.new (o := .frz o (.tup xs)) hp
  exact h _ _ m e rs' (.tup (.inl ⟨o, upd_same, hc, hd⟩) (r.mono e))
/-- .. for a new list -/
theorem vp_lst {K : PySem.W.Frag} {m : List Addr} {H : Hp} {S : Store} {Q : VK} {p : Addr} {xs : List V} {ds : List D} (rs : RS K m H S) (hp : H p = none) (r : RDs K m H xs ds)
    (h : ∀ v H' m', Ext K m H m' H' → RS K m' H' (S ++ [.lst ds]) → RD K m' H' v (.ref S.length) → Q v H') : Q (.ref p) (upd H p (.lst xs)) := by
  obtain ⟨e, rs'⟩ := rs.push (o := .lst xs) (c := .lst ds) hp fun m' e' => ⟨xs, upd_same, r.mono e'⟩
  refine h _ _ _ e rs' (.ref ?_)
  rw [← rs.len, List.getElem?_append_right (Nat.le_refl _), Nat.sub_self]
  rfl
theorem o_add : OpR X (binaryOp .Add) (rd2 X.K gAdd) := by
  intro pins s σ H v u vv uu Q I rv ru ⟨m, x, y, S, hx, hy, rs, h⟩
  cases hx with
  | int i =>
    cases hy with
    | int j => exact op_add pins s σ H _ _ vv uu Q I rv ru ⟨i, j, rfl, rfl, h _ _ m .refl rs (.int _)⟩
    | _ => exact (show False from h).elim
  | str ha =>
    cases hy with
    | str hb =>
      change VPost X.K m H Q (ite _ _ _) at h
      split at h
      · rename_i hz
        exact op_add_str pins s σ H _ _ vv uu Q I rv ru ⟨_, _, rfl, rfl, by rw [← lim_eq]; exact hz, h _ _ m .refl rs (.str (by rw [str_app_len]; exact hz))⟩
      · exact h.elim
    | _ => exact (show False from h).elim
  | @tup a vs ds ha r =>
    cases hy with
    | @tup b ws es hb r' =>
      cases ds with
      | nil => exact (show False from h).elim
      | cons d ds =>
        change VPost X.K m H Q (ite _ _ _) at h
        split at h
        · rename_i hz
          cases rv
          cases ru
          obtain ⟨its, r1, p1, _⟩ := I.tuple ha.sq
          obtain ⟨its2, r2, p2, _⟩ := I.tuple hb.sq
          have l1 := r.length
          have l2 := r'.length
          have hne : vs ≠ [] := fun z => by rw [z] at l1; cases l1
          refine HT.cat_tup p1 p2 (fun z => hne (r1.nil_iff.mp z)) (fun z => ⟨.ref a, H, I, rfl, ?_⟩) (fun z => ?_) (by rw [← r1.length, ← r2.length, l1, l2, ← lim_eq]; exact hz)
          · have w := r2.nil_iff.mp z
            rw [w] at l2
            have w' : es = [] := List.eq_nil_of_length_eq_zero l2.symm
            subst w'
            refine h _ _ m .refl rs (.tup ha ?_)
            rw [List.append_nil]
            exact r
          · exact lay_tup (tk := s.toks) I (by rw [List.length_append, l1, l2, ← lim_eq]; exact hz) (r1.append r2) fun o hc hd => vp_tup rs (I.hok.fresh (Nat.le_refl _)) hc hd (r.append r') h
        · exact h.elim
    | _ => cases ds <;> exact (show False from h).elim
  | @ref a l ha =>
    cases hy with
    | @ref b k hb =>
      have h : VPost X.K m H Q (catL S l k) := h
      unfold catL at h
      split at h
      · rename_i xs ys e1 e2
        split at h
        · rename_i hz
          obtain ⟨vs, h1, r1⟩ := rs.wlst ha e1
          obtain ⟨ws, h2, r2⟩ := rs.wlst hb e2
          exact op_cat pins s σ H _ _ vv uu Q I rv ru ⟨a, b, vs, ws, rfl, rfl, h1, h2, by rw [r1.length, r2.length, ← lim_eq]; exact hz, fun p hp => vp_lst rs hp (r1.append r2) h⟩
        · exact h.elim
      · exact h.elim
    | _ => exact (show False from h).elim
  | _ => cases hy <;> exact (show False from h).elim
theorem o_int {op : Operator} {C : Int → Int → Prop} [∀ i j, Decidable (C i j)] {g : Int → Int → Int} {r : R2} {gg : D → D → Store → Option (D × Store)} (ho : OpR X (binaryOp op) r)
    (hr : ∀ i j H Q, C i j → Q (.int (g i j)) H → r (.int i) (.int j) H Q) (hg : ∀ x y S, gg x y S = match x, y with
      | .int i, .int j => if C i j then some (.int (g i j), S) else none
      | _, _ => none) : OpR X (binaryOp op) (rd2 X.K gg) := by
  intro pins s σ H v u vv uu Q I rv ru ⟨m, x, y, S, hx, hy, rs, h⟩
  rw [hg] at h
  cases hx with
  | int i =>
    cases hy with
    | int j =>
      by_cases hc : C i j
      · simp only [hc, if_true] at h
        exact ho pins s σ H _ _ vv uu Q I rv ru (hr i j H Q hc (h _ _ m .refl rs (.int _)))
      · simp only [hc, if_false] at h
        exact h.elim
    | _ => exact (show False from h).elim
  | _ => exact (show False from h).elim
theorem o_sub : OpR X (binaryOp .Sub) (rd2 X.K gSub) := o_int (C := fun _ _ => True) (g := fun i j => i - j) op_sub (fun i j H Q _ q => ⟨i, j, rfl, rfl, q⟩) fun x y S => by cases x <;> cases y <;> rfl
theorem o_mul : OpR X (binaryOp .Mult) (rd2 X.K gMul) := o_int (C := fun i j => (-(2 ^ 64) < i ∧ i < 2 ^ 64) ∨ (-(2 ^ 64) < j ∧ j < 2 ^ 64)) (g := fun i j => i * j) op_mul (fun i j H Q c q => ⟨i, j, rfl, rfl, c, q⟩) fun x y S => by cases x <;> cases y <;> rfl
theorem o_fdiv : OpR X (binaryOp .FloorDiv) (rd2 X.K gFdiv) := o_int (C := fun i j => 0 < j ∧ j < 1073741824) (g := fun i j => i / j) op_fdiv (fun i j H Q c q => ⟨i, j, rfl, rfl, c, q⟩) fun x y S => by cases x <;> cases y <;> rfl
theorem o_mod : OpR X (binaryOp .Mod) (rd2 X.K gMod) := o_int (C := fun i j => 0 < j) (g := fun i j => i % j) op_mod (fun i j H Q c q => ⟨i, j, rfl, rfl, c, q⟩) fun x y S => by cases x <;> cases y <;> rfl
theorem o_pow : OpR X (binaryOp .Pow) (rd2 X.K gPow) := o_int (C := fun i j => 0 ≤ j ∧ j ≤ 1000000 ∧ i.natAbs < 2 ^ 64) (g := fun i j => i ^ j.toNat) op_pow (fun i j H Q c q => ⟨i, j, rfl, rfl, c, q⟩) fun x y S => by cases x <;> cases y <;> rfl

/-! ### comparisons -/
end
end Dl

set_option Elab.async false
set_option linter.all false
set_option maxRecDepth 100000
namespace Dl
open PySem L2

/-! ## data -/
mutual
/-- no lists within -/
def D.flat : D → Bool
  | .tup xs => flats xs
  | .ref _ => false
  | .raw _ => false
  | _ => true
def flats : List D → Bool
  | [] => true
  | x :: xs => x.flat && flats xs
end
mutual
def D.dep : D → Nat
  | .tup xs => deps xs + 1
  | _ => 0
def deps : List D → Nat
  | [] => 0
  | x :: xs => max x.dep (deps xs)
end
mutual
/-- == -/
def deq : D → D → Bool
  | .non, .non => true
  | .bl a, .bl b => a == b
  | .bl a, .int j => (if a then 1 else 0) == j
  | .int i, .bl b => i == (if b then 1 else 0)
  | .int i, .int j => i == j
  | .str x, .str y => x == y
  | .tup xs, .tup ys => deqs xs ys
  | _, _ => false
def deqs : List D → List D → Bool
  | [], [] => true
  | x :: xs, y :: ys => deq x y && deqs xs ys
  | _, _ => false
end
mutual
def toPy : D → PyData
  | .non => .none
  | .bl b => .bool b
  | .int i => .int i
  | .str x => .str x
  | .tup xs => .tuple (toPys xs)
  | _ => .none
def toPys : List D → List PyData
  | [] => []
  | x :: xs => toPy x :: toPys xs
end
mutual
theorem plain_toPy : ∀ x : D, (toPy x).plain = true
  | .non => rfl
  | .bl _ => rfl
  | .int _ => rfl
  | .str _ => rfl
  | .tup xs => plains_toPys xs
  | .ref _ => rfl
  | .raw _ => rfl
theorem plains_toPys : ∀ xs : List D, PyData.plainAll (toPys xs) = true
  | [] => rfl
  | x :: xs => by
    show ((toPy x).plain && PyData.plainAll (toPys xs)) = true
    rw [plain_toPy x, plains_toPys xs] <;> rfl
end
mutual
theorem depth_toPy : ∀ x : D, (toPy x).depth = x.dep
  | .non => rfl
  | .bl _ => rfl
  | .int _ => rfl
  | .str _ => rfl
  | .tup xs => by
    show PyData.depthAll (toPys xs) + 1 = deps xs + 1
    rw [depths_toPys xs]
  | .ref _ => rfl
  | .raw _ => rfl
theorem depths_toPys : ∀ xs : List D, PyData.depthAll (toPys xs) = deps xs
  | [] => rfl
  | x :: xs => by
    show max (toPy x).depth (PyData.depthAll (toPys xs)) = max x.dep (deps xs)
    rw [depth_toPy x, depths_toPys xs]
end
mutual
theorem eqv_toPy : ∀ x y : D, x.flat = true → y.flat = true → PyData.eqv (toPy x) (toPy y) = deq x y
  | x, y, hx, hy => by
    cases x with
    | tup xs =>
      cases y with
      | tup ys =>
        show PyData.eqvAll (toPys xs) (toPys ys) = deqs xs ys
        exact eqvs_toPys xs ys hx hy
      | ref _ => cases hy
      | raw _ => cases hy
      | _ => rfl
    | ref _ => cases hx
    | raw _ => cases hx
    | _ =>
      cases y with
      | ref _ => cases hy
      | raw _ => cases hy
      | _ => rfl
theorem eqvs_toPys : ∀ xs ys : List D, flats xs = true → flats ys = true → PyData.eqvAll (toPys xs) (toPys ys) = deqs xs ys
  | [], [], _, _ => rfl
  | [], _ :: _, _, _ => rfl
  | _ :: _, [], _, _ => rfl
  | x :: xs, y :: ys, hx, hy => by
    have hx' : (x.flat && flats xs) = true := hx
    have hy' : (y.flat && flats ys) = true := hy
    rw [Bool.and_eq_true] at hx' hy'
    show (PyData.eqv (toPy x) (toPy y) && PyData.eqvAll (toPys xs) (toPys ys)) = (deq x y && deqs xs ys)
    rw [eqv_toPy x y hx'.1 hy'.1, eqvs_toPys xs ys hx'.2 hy'.2]
end
section
variable {K : PySem.W.Frag} {m : List Addr} {H : Hp}
mutual
theorem dp_of : ∀ {d : D} {v : V}, d.flat = true → RD K m H v d → Dp K H v (toPy d)
  | .non, _, _, r => by cases r; exact .non
  | .bl b, _, _, r => by cases r; exact .bl b
  | .int b, _, _, r => by cases r; exact .int b
  | .str b, _, _, r => by cases r; exact .str b
  | .tup xs, _, h, r => by
    cases r with
    | tup h1 h2 => exact .tup h1.sq (dps_of (show flats xs = true from h) h2)
theorem dps_of : ∀ {ds : List D} {vs : List V}, flats ds = true → RDs K m H vs ds → DpAll K H vs (toPys ds)
  | [], _, _, r => by cases r; exact .nil
  | d :: ds, _, h, r => by
    have h' : (d.flat && flats ds) = true := h
    rw [Bool.and_eq_true] at h'
    cases r with
    | cons h1 h2 => exact .cons (dp_of h'.1 h1) (dps_of h'.2 h2)
end
end
/-- a value as data: flat, or a list of flat ones -/
def asP (S : Store) (x : D) : Option PyData := if x.flat then some (toPy x) else match x with
  | .ref l => match lstAt S l with
    | some xs => if flats xs then some (.list (toPys xs)) else none
    | none => none
  | _ => none
theorem asP_flat {S : Store} {x : D} (h : x.flat = true) : asP S x = some (toPy x) := by unfold asP; rw [if_pos h]
theorem asP_of {K : PySem.W.Frag} {m : List Addr} {H : Hp} {S : Store} {x : D} {v : V} {p : PyData} (rs : RS K m H S) (r : RD K m H v x) (h : asP S x = some p) : Dp K H v p ∧ p.plain = true := by
  unfold asP at h
  split at h
  · rename_i hx
    cases h
    exact ⟨dp_of hx r, plain_toPy x⟩
  · split at h
    · rename_i l _
      split at h
      · rename_i xs e
        split at h
        · rename_i hf
          cases h
          cases r with
          | ref ha =>
            obtain ⟨vs, h1, h2⟩ := rs.lst ha e
            exact ⟨.lst h1 (dps_of hf h2), plains_toPys xs⟩
        · cases h
      · cases h
    · cases h
def gEqB (x y : D) (S : Store) : Option Bool := match asP S x, asP S y with
  | some p, some q => if p.depth ≤ 64 then some (PyData.eqv p q) else none
  | _, _ => none
def gEq (x y : D) (S : Store) : Option (D × Store) := (gEqB x y S).map fun b => (.bl b, S)
def gNe (x y : D) (S : Store) : Option (D × Store) := (gEqB x y S).map fun b => (.bl (!b), S)
theorem gEqB_flat {x y : D} {S : Store} (hx : x.flat = true) (hy : y.flat = true) (hd : x.dep ≤ 64) : gEqB x y S = some (deq x y) := by
  unfold gEqB
  rw [asP_flat hx, asP_flat hy]
  show (if (toPy x).depth ≤ 64 then some (PyData.eqv (toPy x) (toPy y)) else none) = _
  rw [depth_toPy, if_pos hd, eqv_toPy x y hx hy]
theorem gEq_flat {x y : D} {S : Store} (hx : x.flat = true) (hy : y.flat = true) (hd : x.dep ≤ 64) : gEq x y S = some (.bl (deq x y), S) := by unfold gEq; rw [gEqB_flat hx hy hd]; rfl
theorem gNe_flat {x y : D} {S : Store} (hx : x.flat = true) (hy : y.flat = true) (hd : x.dep ≤ 64) : gNe x y S = some (.bl (!deq x y), S) := by unfold gNe; rw [gEqB_flat hx hy hd]; rfl
@[simp] theorem gEq_int (i j : Int) (S : Store) : gEq (.int i) (.int j) S = some (.bl (i == j), S) := gEq_flat rfl rfl (Nat.zero_le _)
@[simp] theorem gEq_str (i j : Str) (S : Store) : gEq (.str i) (.str j) S = some (.bl (i == j), S) := gEq_flat rfl rfl (Nat.zero_le _)
@[simp] theorem gNe_int (i j : Int) (S : Store) : gNe (.int i) (.int j) S = some (.bl (!(i == j)), S) := gNe_flat rfl rfl (Nat.zero_le _)
@[simp] theorem gNe_str (i j : Str) (S : Store) : gNe (.str i) (.str j) S = some (.bl (!(i == j)), S) := gNe_flat rfl rfl (Nat.zero_le _)
section
variable {X : Cx}
theorem o_eqB {op : CmpOp} {f : Bool → Bool} {g : D → D → Store → Option (D × Store)} (hg : ∀ x y S, g x y S = (gEqB x y S).map fun b => (.bl (f b), S))
    (rule : ∀ {s : Shared} {a b : Value} {da db : PyData} {as bs : List Addr} {Q E : Value → Shared → Prop}, Reads s.heap a da as → Reads s.heap b db bs → da.plain = true → db.plain = true → X.A.units + min da.depth db.depth < cLine →
      Q (.bool (f (PyData.eqv da db))) s → wpAny (model X.prog X.w) X.A (compareOp op a b) Q E s) (hu : X.A.units + 64 < cLine) : OpR X (compareOp op) (rd2 X.K g) := by
  intro pins s σ H v u vv uu Q I rv ru ⟨m, x, y, S, hx, hy, rs, h⟩
  rw [hg] at h
  unfold gEqB at h
  split at h
  · rename_i p q e1 e2
    split at h
    · rename_i hd
      obtain ⟨d1, p1⟩ := asP_of rs hx e1
      obtain ⟨d2, p2⟩ := asP_of rs hy e2
      obtain ⟨as, r1⟩ := Dp.reads I _ _ _ d1 rv
      obtain ⟨bs, r2⟩ := Dp.reads I _ _ _ d2 ru
      have hm : min p.depth q.depth ≤ p.depth := Nat.min_le_left _ _
      exact rule r1 r2 p1 p2 (by omega) ⟨.bl _, H, I, rfl, h _ _ m .refl rs (.bl _)⟩
    · exact h.elim
  · exact h.elim
theorem o_eq (hu : X.A.units + 64 < cLine) : OpR X (compareOp .Eq) (rd2 X.K gEq) := o_eqB (f := fun b => b) (fun _ _ _ => rfl) PySem.SeqAt.eq_plain hu
theorem o_ne (hu : X.A.units + 64 < cLine) : OpR X (compareOp .NotEq) (rd2 X.K gNe) := o_eqB (f := fun b => !b) (fun _ _ _ => rfl) PySem.SeqAt.ne_plain hu

/-! ### order of ints and texts -/
def gLt : D → D → Store → Option (D × Store)
  | .int i, .int j, S => some (.bl (decide (i < j)), S)
  | .str a, .str b, S => some (.bl (decide (a.cps.toList < b.cps.toList)), S)
  | _, _, _ => none
def gLe : D → D → Store → Option (D × Store)
  | .int i, .int j, S => some (.bl (decide (i ≤ j)), S)
  | .str a, .str b, S => some (.bl (!decide (b.cps.toList < a.cps.toList)), S)
  | _, _, _ => none
def gGt : D → D → Store → Option (D × Store)
  | .int i, .int j, S => some (.bl (decide (j < i)), S)
  | .str a, .str b, S => some (.bl (decide (b.cps.toList < a.cps.toList)), S)
  | _, _, _ => none
def gGe : D → D → Store → Option (D × Store)
  | .int i, .int j, S => some (.bl (decide (j ≤ i)), S)
  | .str a, .str b, S => some (.bl (!decide (a.cps.toList < b.cps.toList)), S)
  | _, _, _ => none
theorem o_ord {op : CmpOp} {fi : Int → Int → Bool} {fs : Str → Str → Bool} {ri rs' : R2} {g : D → D → Store → Option (D × Store)} (hi : OpR X (compareOp op) ri) (hs : OpR X (compareOp op) rs')
    (ki : ∀ i j H Q, Q (.bl (fi i j)) H → ri (.int i) (.int j) H Q) (ks : ∀ i j H Q, Q (.bl (fs i j)) H → rs' (.str i) (.str j) H Q)
    (hg : ∀ x y S, g x y S = match x, y with
      | .int i, .int j => some (.bl (fi i j), S)
      | .str i, .str j => some (.bl (fs i j), S)
      | _, _ => none) : OpR X (compareOp op) (rd2 X.K g) := by
  intro pins s σ H v u vv uu Q I rv ru ⟨m, x, y, S, hx, hy, rs, h⟩
  rw [hg] at h
  cases hx with
  | int i =>
    cases hy with
    | int j => exact hi pins s σ H _ _ vv uu Q I rv ru (ki i j H Q (h _ _ m .refl rs (.bl _)))
    | _ => exact (show False from h).elim
  | str ha =>
    cases hy with
    | str hb => exact hs pins s σ H _ _ vv uu Q I rv ru (ks _ _ H Q (h _ _ m .refl rs (.bl _)))
    | _ => exact (show False from h).elim
  | _ => exact (show False from h).elim
theorem o_lt : OpR X (compareOp .Lt) (rd2 X.K gLt) := o_ord op_lt op_lt_str (fun i j H Q q => ⟨i, j, rfl, rfl, q⟩) (fun i j H Q q => ⟨i, j, rfl, rfl, q⟩) fun x y S => by cases x <;> cases y <;> rfl
theorem o_le : OpR X (compareOp .LtE) (rd2 X.K gLe) := o_ord op_le op_le_str (fun i j H Q q => ⟨i, j, rfl, rfl, q⟩) (fun i j H Q q => ⟨i, j, rfl, rfl, q⟩) fun x y S => by cases x <;> cases y <;> rfl
theorem o_gt : OpR X (compareOp .Gt) (rd2 X.K gGt) := o_ord op_gt op_gt_str (fun i j H Q q => ⟨i, j, rfl, rfl, q⟩) (fun i j H Q q => ⟨i, j, rfl, rfl, q⟩) fun x y S => by cases x <;> cases y <;> rfl
theorem o_ge : OpR X (compareOp .GtE) (rd2 X.K gGe) := o_ord op_ge op_ge_str (fun i j H Q q => ⟨i, j, rfl, rfl, q⟩) (fun i j H Q q => ⟨i, j, rfl, rfl, q⟩) fun x y S => by cases x <;> cases y <;> rfl

/-! ### in: a list or tuple of flat things, a sign of a text -/
def gInB : D → D → Store → Option Bool
  | .str a, .str b, _ => if a.length = 1 then some (decide (a.cps.getD 0 0 ∈ b.cps.toList)) else none
  | x, .tup ys, _ => if x.flat && flats ys && decide (x.dep ≤ 64) then some (ys.any fun y => deq y x) else none
  | x, .ref l, S => match lstAt S l with
    | some ys => if x.flat && flats ys && decide (x.dep ≤ 64) then some (ys.any fun y => deq y x) else none
    | none => none
  | _, _, _ => none
def gIn (x y : D) (S : Store) : Option (D × Store) := (gInB x y S).map fun b => (.bl b, S)
def gNin (x y : D) (S : Store) : Option (D × Store) := (gInB x y S).map fun b => (.bl (!b), S)
theorem any_toPys {x : D} (hx : x.flat = true) : ∀ {ys : List D}, flats ys = true → ((toPys ys).any fun y => PyData.eqv y (toPy x)) = ys.any fun y => deq y x
  | [], _ => rfl
  | y :: ys, h => by
    have h' : (y.flat && flats ys) = true := h
    rw [Bool.and_eq_true] at h'
    show (PyData.eqv (toPy y) (toPy x) || (toPys ys).any _) = (deq y x || ys.any _)
    rw [eqv_toPy y x h'.1 hx, any_toPys hx h'.2]
theorem sign_of {a : Str} (h : a.length = 1) : a = ⟨#[a.cps.getD 0 0]⟩ := by
  obtain ⟨⟨l⟩⟩ := a
  have h' : l.length = 1 := h
  match l, h' with
  | [c], _ => rfl
theorem o_inB {op : CmpOp} {f : Bool → Bool} {g : D → D → Store → Option (D × Store)} {rs' : R2} (hg : ∀ x y S, g x y S = (gInB x y S).map fun b => (.bl (f b), S)) (hs : OpR X (compareOp op) rs')
    (ks : ∀ (c : Nat) (z : Str) H Q, Q (.bl (f (decide (c ∈ z.cps.toList)))) H → rs' (.str ⟨#[c]⟩) (.str z) H Q)
    (rl : ∀ {s : Shared} {c x : Value} {xs : List PyData} {d : PyData} {as bs : List Addr} {Q E : Value → Shared → Prop}, Reads s.heap c (.list xs) as → Reads s.heap x d bs → PyData.plainAll xs = true → d.plain = true →
      X.A.units + 1 + min (PyData.depthAll xs) d.depth < cLine → Q (.bool (f (xs.any fun y => PyData.eqv y d))) s → wpAny (model X.prog X.w) X.A (compareOp op x c) Q E s)
    (rt : ∀ {s : Shared} {c x : Value} {xs : List PyData} {d : PyData} {as bs : List Addr} {Q E : Value → Shared → Prop}, Reads s.heap c (.tuple xs) as → Reads s.heap x d bs → PyData.plainAll xs = true → d.plain = true →
      X.A.units + 1 + min (PyData.depthAll xs) d.depth < cLine → Q (.bool (f (xs.any fun y => PyData.eqv y d))) s → wpAny (model X.prog X.w) X.A (compareOp op x c) Q E s)
    (hu : X.A.units + 65 < cLine) : OpR X (compareOp op) (rd2 X.K g) := by
  intro pins s σ H v u vv uu Q I rv ru ⟨m, x, y, S, hx, hy, rs, h⟩
  rw [hg] at h
  have room : ∀ (d : D) (ps : List PyData), d.dep ≤ 64 → X.A.units + 1 + min (PyData.depthAll ps) (toPy d).depth < cLine := fun d ps hd => by
    rw [depth_toPy]
    have hm : min (PyData.depthAll ps) d.dep ≤ d.dep := Nat.min_le_right _ _
    omega
  have seqT : ∀ {a : Addr} {vs : List V} {ys : List D} {c : Bool}, TupAt X.K H a vs → RDs X.K m H vs ys → u = .ref a → (x.flat && flats ys && decide (x.dep ≤ 64)) = true → Q (.bl (f (ys.any fun y => deq y x))) H →
      wpAny (model X.prog X.w) X.A (compareOp op vv uu) (EP X pins σ Q) X.xe s := fun {a vs ys c} ht r e hc q => by
    simp only [Bool.and_eq_true, decide_eq_true_eq] at hc
    obtain ⟨⟨h1, h2⟩, h3⟩ := hc
    subst e
    obtain ⟨as, r1⟩ := Dp.reads I _ _ _ (dp_of h1 hx) rv
    obtain ⟨bs, r2⟩ := Dp.reads I _ _ _ (Dp.tup ht.sq (dps_of h2 r)) ru
    exact rt r2 r1 (plains_toPys ys) (plain_toPy x) (room x _ h3) ⟨.bl _, H, I, rfl, by rw [any_toPys h1 h2]; exact q⟩
  have seqL : ∀ {a : Addr} {vs : List V} {ys : List D} {c : Bool}, SqL X.K H a vs → RDs X.K m H vs ys → u = .ref a → (x.flat && flats ys && decide (x.dep ≤ 64)) = true → Q (.bl (f (ys.any fun y => deq y x))) H →
      wpAny (model X.prog X.w) X.A (compareOp op vv uu) (EP X pins σ Q) X.xe s := fun {a vs ys c} ht r e hc q => by
    simp only [Bool.and_eq_true, decide_eq_true_eq] at hc
    obtain ⟨⟨h1, h2⟩, h3⟩ := hc
    subst e
    obtain ⟨as, r1⟩ := Dp.reads I _ _ _ (dp_of h1 hx) rv
    obtain ⟨bs, r2⟩ := Dp.reads I _ _ _ (Dp.lst ht (dps_of h2 r)) ru
    exact rl r2 r1 (plains_toPys ys) (plain_toPy x) (room x _ h3) ⟨.bl _, H, I, rfl, by rw [any_toPys h1 h2]; exact q⟩
  unfold gInB at h
  split at h
  · rename_i a b
    split at h
    · rename_i ha
      have e := sign_of ha
      cases hx
      cases hy
      rw [e] at rv
      exact hs pins s σ H _ _ vv uu Q I rv ru (ks _ _ H Q (h _ _ m .refl rs (.bl _)))
    · exact h.elim
  · rename_i ys _
    split at h
    · rename_i hc
      cases hy with
      | tup ht r => exact seqT (c := true) ht r rfl hc (h _ _ m .refl rs (.bl _))
    · exact h.elim
  · rename_i l
    split at h
    · rename_i ys e
      split at h
      · rename_i hc
        cases hy with
        | ref ha =>
          obtain ⟨vs, h1, h2⟩ := rs.lst ha e
          exact seqL (c := true) h1 h2 rfl hc (h _ _ m .refl rs (.bl _))
      · exact h.elim
    · exact h.elim
  · exact h.elim
theorem o_in (hu : X.A.units + 65 < cLine) : OpR X (compareOp .In) (rd2 X.K gIn) := o_inB (f := fun b => b) (fun _ _ _ => rfl) op_in_sign (fun c z H Q q => ⟨c, z, rfl, rfl, q⟩) PySem.SeqAt.in_list_data PySem.SeqAt.in_tuple_data hu
theorem o_nin (hu : X.A.units + 65 < cLine) : OpR X (compareOp .NotIn) (rd2 X.K gNin) := o_inB (f := fun b => !b) (fun _ _ _ => rfl) op_notIn_sign (fun c z H Q q => ⟨c, z, rfl, rfl, q⟩) PySem.SeqAt.notIn_list_data PySem.SeqAt.notIn_tuple_data hu
end
end Dl

set_option Elab.async false
set_option linter.all false
set_option maxRecDepth 100000
namespace Dl
open PySem L2

/-! ## items, slices -/
def gIx : D → D → Store → Option (D × Store)
  | .tup xs, .int i, S => (atI xs i).map fun d => (d, S)
  | .ref l, .int i, S => (lstAt S l).bind fun xs => (atI xs i).map fun d => (d, S)
  | .str x, .int i, S => (atI x.cps.toList i).map fun c => (.str ⟨#[c]⟩, S)
  | _, _, _ => none
def cutD {α : Type} (xs : List α) (lo hi : Option Int) : List α := (xs.drop (HT.sIx xs.length 0 lo)).take (HT.sIx xs.length xs.length hi - HT.sIx xs.length 0 lo)
def gSl : D → Option Int → Option Int → Store → Option (D × Store)
  | .tup xs, lo, hi, S => if HT.sIx xs.length 0 lo = 0 ∧ HT.sIx xs.length xs.length hi = xs.length then none else some (.tup (cutD xs lo hi), S)
  | .ref l, lo, hi, S => (lstAt S l).map fun xs => (.ref S.length, S ++ [.lst (cutD xs lo hi)])
  | .str x, lo, hi, S => some (.str (cutS x lo hi), S)
  | _, _, _, _ => none
theorem cutS_le (x : Str) (lo hi : Option Int) : (cutS x lo hi).length ≤ x.length := by
  show ((x.cps.toList.drop _).take _).toArray.size ≤ x.cps.size
  rw [List.size_toArray, List.length_take, List.length_drop, Array.length_toList]
  omega
section
variable {K : PySem.W.Frag} {m : List Addr} {H : Hp}
theorem RDs.atI {vs : List V} {ds : List D} (r : RDs K m H vs ds) {i : Int} {d : D} (h : atI ds i = some d) : ∃ v, L2.atI vs i = some v ∧ RD K m H v d := by
  unfold L2.atI at h ⊢
  rw [r.length]
  cases e : ixN ds.length i with
  | none => rw [e] at h; cases h
  | some j =>
    rw [e] at h
    exact r.get h
theorem RDs.cut {vs : List V} {ds : List D} (r : RDs K m H vs ds) (lo hi : Option Int) : RDs K m H (cutV vs lo hi) (cutD ds lo hi) := by
  unfold cutV cutD
  rw [r.length]
  exact (r.drop _).take _
end
section
variable {X : Cx}
theorem i_ix : IxR X (rd2 X.K gIx) := by
  intro value slice pins s σ H v u vv uu Q I rv ru ⟨m, x, y, S, hx, hy, rs, h⟩ hs
  cases hx with
  | @str a ha =>
    cases hy with
    | int i =>
      have h : VPost X.K m H Q ((L2.atI a.cps.toList i).map fun c => (.str ⟨#[c]⟩, S)) := h
      cases e : L2.atI a.cps.toList i with
      | none => rw [e] at h; exact h.elim
      | some c =>
        rw [e] at h
        exact ix_str value slice pins s σ H _ _ vv uu Q I rv ru ⟨a, i, c, rfl, rfl, by rw [← lim_eq]; exact ha, e, h _ _ m .refl rs (.str (by show (1 : Nat) ≤ _; decide))⟩ hs
    | _ => exact (show False from h).elim
  | @tup a vs ds ht r =>
    cases hy with
    | int i =>
      have h : VPost X.K m H Q ((L2.atI ds i).map fun c => (c, S)) := h
      cases e : L2.atI ds i with
      | none => rw [e] at h; exact h.elim
      | some d =>
        rw [e] at h
        obtain ⟨w, h1, h2⟩ := r.atI e
        exact ix_tup value slice pins s σ H _ _ vv uu Q I rv ru ⟨a, vs, i, w, rfl, rfl, ht.sq, h1, h _ _ m .refl rs h2⟩ hs
    | _ => exact (show False from h).elim
  | @ref a l hl =>
    cases hy with
    | int i =>
      have h : VPost X.K m H Q ((lstAt S l).bind fun xs => (L2.atI xs i).map fun c => (c, S)) := h
      cases e1 : lstAt S l with
      | none => rw [e1] at h; exact h.elim
      | some xs =>
        rw [e1] at h
        obtain ⟨vs, hq, r⟩ := rs.lst hl e1
        have h : VPost X.K m H Q ((L2.atI xs i).map fun c => (c, S)) := h
        cases e : L2.atI xs i with
        | none => rw [e] at h; exact h.elim
        | some d =>
          rw [e] at h
          obtain ⟨w, h1, h2⟩ := r.atI e
          exact ix_list value slice pins s σ H _ _ vv uu Q I rv ru ⟨a, vs, i, w, rfl, rfl, hq, h1, h _ _ m .refl rs h2⟩ hs
    | _ => exact (show False from h).elim
  | _ => exact (show False from h).elim
def rdSl (K : PySem.W.Frag) (g : D → Option Int → Option Int → Store → Option (D × Store)) : V → Option Int → Option Int → Hp → VK → Prop := fun v lo hi H Q => ∃ m x S, RD K m H v x ∧ RS K m H S ∧ VPost K m H Q (g x lo hi S)
theorem s_sl : SlR X (rdSl X.K gSl) := by
  intro pins s σ H v vv vl vu lo hi sl Q I rv hs pl pu ⟨m, x, S, hx, rs, h⟩
  cases hx with
  | @str a ha => exact sl_str pins s σ H _ vv vl vu lo hi sl Q I rv hs pl pu ⟨a, rfl, by rw [← lim_eq]; exact ha, h _ _ m .refl rs (.str (Nat.le_trans (cutS_le a lo hi) ha))⟩
  | @tup a vs ds ht r =>
    have h : VPost X.K m H Q (if HT.sIx ds.length 0 lo = 0 ∧ HT.sIx ds.length ds.length hi = ds.length then none else some (.tup (cutD ds lo hi), S)) := h
    split at h
    · exact h.elim
    · rename_i hw
      cases rv
      obtain ⟨its, r1, p, hz⟩ := I.tuple ht.sq
      have hlen : its.toArray.size = vs.length := by rw [List.size_toArray]; exact r1.length.symm
      refine ⟨"tuple", _, PyProof.Rows.slot_tuple_getitem.lookup, p.typeIs, ?_⟩
      refine HT.getItem_tuple_cut p hs pl pu (by rw [hlen, r.length]; exact hw) ?_ (by rw [hlen]; exact hz)
      rw [hlen]
      exact lay_tup (tk := s.toks) I (Nat.le_trans (cutV_length vs lo hi) hz) ((r1.drop (HT.sIx vs.length 0 lo)).take (HT.sIx vs.length vs.length hi - HT.sIx vs.length 0 lo)) fun o hc hd =>
        vp_tup rs (I.hok.fresh (Nat.le_refl _)) hc hd (r.cut lo hi) h
  | @ref a l hl =>
    have h : VPost X.K m H Q ((lstAt S l).map fun xs => (.ref S.length, S ++ [.lst (cutD xs lo hi)])) := h
    cases e : lstAt S l with
    | none => rw [e] at h; exact h.elim
    | some xs =>
      rw [e] at h
      obtain ⟨vs, hq, r⟩ := rs.lst hl e
      exact sl_list pins s σ H _ vv vl vu lo hi sl Q I rv hs pl pu ⟨a, vs, rfl, hq, fun p hp => vp_lst rs hp (r.cut lo hi) h⟩
  | _ => exact (show False from h).elim
/-- o[i] = v -/
def gSet : D → D → D → Store → Option Store
  | .ref l, .int k, d, S => match S[l]? with
    | some (.lst xs) => (ixN xs.length k).map fun j => S.set l (.lst (xs.set j d))
    | _ => none
  | _, _, _, _ => none
def rdSet (K : PySem.W.Frag) (g : D → D → D → Store → Option Store) : V → V → V → Hp → (Hp → Prop) → Prop := fun o i v H Q => ∃ m x y z S, RD K m H o x ∧ RD K m H i y ∧ RD K m H v z ∧ RS K m H S ∧ match g x y z S with
  | some S' => ∀ H' m', Ext K m H m' H' → RS K m' H' S' → Q H'
  | none => False
theorem p_set : PSet X (rdSet X.K gSet) := by
  intro pins s σ H o i v ov iv u Q I ro ri rv ⟨m, x, y, z, S, hx, hy, hz, rs, h⟩
  unfold gSet at h
  cases hx with
  | @ref a l hl =>
    cases hy with
    | int k =>
      simp only at h
      cases e : S[l]? with
      | none => rw [e] at h; exact h.elim
      | some c =>
        cases c with
        | lst xs =>
          rw [e] at h
          simp only at h
          cases e2 : ixN xs.length k with
          | none => rw [e2] at h; exact h.elim
          | some j =>
            rw [e2] at h
            simp only [Option.map_some] at h
            obtain ⟨vs, h1, r⟩ := rs.wlst hl e
            refine set_list pins s σ H _ _ v ov iv u Q I ro ri rv ⟨a, vs, k, j, rfl, rfl, h1, by rw [r.length]; exact e2, ?_⟩
            obtain ⟨ex, rs'⟩ := rs.write (o := .lst (vs.set j v)) (c' := .lst (xs.set j z)) hl e rfl rfl fun ex => ⟨_, upd_same, (RDs.set hz j r).mono ex⟩
            exact h _ _ ex rs'
        | _ => rw [e] at h; exact h.elim
    | _ => exact h.elim
  | _ => exact h.elim
end
section
variable {X : Cx} {W : WX} {a b e : Expr} {es : List Expr} {fa fb fe : EX} {fr fx : AX} {pos p p2 : Pos}
theorem d_ix (ha : PE X a (rdE (X.cq W) fa)) (hb : PE X b (rdE (X.cq W) fb)) (hs : PlainIx b := by exact fun _ _ => rfl) : PE X (.Subscript a b pos) (rdE (X.cq W) (e2 gIx fa fb)) :=
  d_2h (pe_ix i_ix ha hb hs) fun _ _ _ _ h => h
def oN : Env → Store → R (Option Int) := fun _ S => .ok none S
def oI (fa : EX) : Env → Store → R (Option Int) := fun ρ S => (fa ρ S).bind fun d S1 => match d with
  | .int i => .ok (some i) S1
  | _ => .no
def eSl (fa : EX) (lo hi : Env → Store → R (Option Int)) : EX := fun ρ S => (fa ρ S).bind fun x S1 => (lo ρ S1).bind fun l S2 => (hi ρ S2).bind fun h S3 => toR (gSl x l h S3)
theorem d_oN : PO X none (rdO (X.cq W) oN) := POwk po_none fun σ H Q ⟨m, ρ, S, re, rs, h⟩ => h none H m .refl rs rfl
theorem d_oI (ha : PE X a (rdE (X.cq W) fa)) : PO X (some a) (rdO (X.cq W) (oI fa)) := POwk (po_some ha) fun σ H Q ⟨m, ρ, S, re, rs, h⟩ =>
  ⟨m, ρ, S, re, rs, (Post.bind h).imp fun v H1 ⟨m1, x, S1, e, rs1, rd, h1⟩ => by
    cases rd with
    | int i => exact ⟨i, rfl, h1 _ _ m1 .refl rs1 rfl⟩
    | _ => exact h1.elim⟩
theorem d_sl {lo hi : Option Expr} {fl fh : Env → Store → R (Option Int)} (ha : PE X a (rdE (X.cq W) fa)) (hl : PO X lo (rdO (X.cq W) fl)) (hh : PO X hi (rdO (X.cq W) fh)) :
    PE X (.Subscript a (.Slice lo hi none p2) pos) (rdE (X.cq W) (eSl fa fl fh)) := PEwk (pe_slice s_sl ha hl hh) fun σ H Q ⟨m, ρ, S, re, rs, h⟩ =>
  ⟨m, ρ, S, re, rs, (Post.bind h).imp fun v H1 ⟨m1, x, S1, e, rs1, rd, h1⟩ => ⟨m1, ρ, S1, re.mono e, rs1, (Post.bind h1).imp fun lv H2 ⟨m2, l, S2, e2, rs2, el, h2⟩ => by
    subst el
    exact ⟨m2, ρ, S2, (re.mono e).mono e2, rs2, (Post.bind h2).imp fun hv H3 ⟨m3, hh', S3, e3, rs3, eh, h3⟩ => by
      subst eh
      exact ⟨m3, x, S3, (rd.mono e2).mono e3, rs3, VPost.of h3⟩⟩⟩⟩
/-! ## arguments, displays, calls of builtins -/
theorem d_aN : PA X [] (rdA (X.cq W) aN) := PAwk pa_nil fun σ H Q ⟨m, ρ, S, re, rs, h⟩ => h [] H m .refl rs .nil
theorem d_aC (he : PE X e (rdE (X.cq W) fe)) (hr : PA X es (rdA (X.cq W) fr)) (hs : starEach (e :: es) X.env = (false, eval e X.env) :: starEach es X.env := by rfl) : PA X (e :: es) (rdA (X.cq W) (aC fe fr)) :=
  PAwk (pa_cons he hr hs) fun σ H Q ⟨m, ρ, S, re, rs, h⟩ => ⟨m, ρ, S, re, rs, (Post.bind h).imp fun v H1 ⟨m1, x, S1, e, rs1, rd, h1⟩ =>
    ⟨m1, ρ, S1, re.mono e, rs1, (Post.bind h1).imp fun vs H2 ⟨m2, xs, S2, e2, rs2, rds, h2⟩ => h2 _ _ m2 .refl rs2 (.cons (rd.mono e2) rds)⟩⟩
def gTpl (xs : List D) (S : Store) : Option (D × Store) := if xs.length ≤ LIM then some (.tup xs, S) else none
def gLsd (xs : List D) (S : Store) : Option (D × Store) := if xs.length ≤ LIM then some (.ref S.length, S ++ [.lst xs]) else none
theorem d_tup {k : Nat} (h : PA X es (rdA (X.cq W) fx)) : PE X (.Tuple es k pos) (rdE (X.cq W) (eB gTpl fx)) := by
  refine ⟨fun pins s σ H Q I ⟨m, ρ, S, re, rs, hq⟩ => ?_⟩
  refine wpAny_Tuple_spliced (thn (h.run pos pins s σ H _ I ⟨m, ρ, S, re, rs, Post.bind hq⟩) fun us s1 ⟨vs, H1, I1, r, m1, xs, S1, e, rs1, rds, h1⟩ => ?_)
  have h1 := VPost.of h1
  unfold gTpl at h1
  split at h1
  · rename_i hz
    have hz' : vs.length ≤ sizeLine := by rw [← lim_eq, rds.length]; exact hz
    exact ⟨by rw [← r.length]; exact hz', lay_tup (tk := s1.toks) I1 hz' r fun o hc hd => vp_tup rs1 (I1.hok.fresh (Nat.le_refl _)) hc hd rds h1⟩
  · exact h1.elim
theorem d_lst (h : PA X es (rdA (X.cq W) fx)) : PE X (.List es pos) (rdE (X.cq W) (eB gLsd fx)) := PEwk (pe_lst h) fun σ H Q ⟨m, ρ, S, re, rs, hq⟩ =>
  ⟨m, ρ, S, re, rs, (Post.bind hq).imp fun vs H1 ⟨m1, xs, S1, e, rs1, rds, h1⟩ => by
    have h1 := VPost.of h1
    unfold gLsd at h1
    split at h1
    · rename_i hz
      exact ⟨by rw [← lim_eq, rds.length]; exact hz, fun p hp => vp_lst rs1 hp rds h1⟩
    · exact h1.elim⟩
theorem d_callB {x : Str} {id : String} {g : List D → Store → Option (D × Store)} (hc : CallR X (.builtin id) (rdC X.K g)) (hg : Gl X x) (hm : X.mg x = none) (hv : bootBuiltins x = some (.builtin id)) (ha : PA X (e :: es) (rdA (X.cq W) fx)) (hn : x ≠ "__name__" := by decide)
    (hdb : (x == ("__debug__" : Str)) = false := by decide) (he : starEach (e :: es) X.env = (false, eval e X.env) :: starEach es X.env := by rfl) (hpl : (backTo pos (starEach es X.env)).any (·.1) = false := by rfl) :
    PE X (.Call (.Name x p) (e :: es) [] pos) (rdE (X.cq W) (eB g fx)) := PEwk (pe_callB hc hg hm hv ha hn hdb he hpl) fun σ H Q ⟨m, ρ, S, re, rs, h⟩ =>
  ⟨m, ρ, S, re, rs, (Post.bind h).imp fun vs H1 ⟨m1, xs, S1, e, rs1, rd, h1⟩ => ⟨m1, xs, S1, rd, rs1, VPost.of h1⟩⟩
theorem d_callT {x : Str} {T : String} {g : List D → Store → Option (D × Store)} (hc : CallR X (.type T) (rdC X.K g)) (hg : Gl X x) (hm : X.mg x = none) (hv : bootBuiltins x = some (.type T)) (ha : PA X (e :: es) (rdA (X.cq W) fx)) (hn : x ≠ "__name__" := by decide)
    (hdb : (x == ("__debug__" : Str)) = false := by decide) (he : starEach (e :: es) X.env = (false, eval e X.env) :: starEach es X.env := by rfl) (hpl : (backTo pos (starEach es X.env)).any (·.1) = false := by rfl) :
    PE X (.Call (.Name x p) (e :: es) [] pos) (rdE (X.cq W) (eB g fx)) := PEwk (pe_callTy hc hg hm hv ha hn hdb he hpl) fun σ H Q ⟨m, ρ, S, re, rs, h⟩ =>
  ⟨m, ρ, S, re, rs, (Post.bind h).imp fun vs H1 ⟨m1, xs, S1, e, rs1, rd, h1⟩ => ⟨m1, xs, S1, rd, rs1, VPost.of h1⟩⟩
/-- a method of a built-in type -/
theorem d_bm {o : Expr} {fo : EX} {T id : String} {name : Str} {apos cpos : Pos} {g : D → List D → Store → Option (D × Store)} (pa : PlainAttrs T) (slot : Slot T name id) (hty : typeOf (.builtin id) = pure (.type "method_descriptor")) (hm : MtR X id (rdM X.K g))
    (hT : ∀ v m H x S xs S1, RD X.K m H v x → RS X.K m H S → (g x xs S1).isSome = true → tyV X.K T v H)
    (ho : PE X o (rdE (X.cq W) fo)) (ha : PA X (e :: es) (rdA (X.cq W) fx)) : True := trivial
end
end Dl

set_option Elab.async false
set_option linter.all false
set_option maxRecDepth 100000
namespace Dl
open PySem L2

/-! ## built-in functions -/
inductive Ty where
  | non | bl | int | str | tup | lst | dic
  deriving DecidableEq
def Ty.name : Ty → String
  | .non => "NoneType" | .bl => "bool" | .int => "int" | .str => "str" | .tup => "tuple" | .lst => "list" | .dic => "dict"
def tyD (S : Store) : D → Option Ty
  | .non => some .non
  | .bl _ => some .bl
  | .int _ => some .int
  | .str _ => some .str
  | .tup _ => some .tup
  | .ref l => match S[l]? with
    | some (.lst _) => some .lst
    | some (.rol _) => some .lst
    | some (.dic _) => some .dic
    | _ => none
  | .raw _ => none
def isiB (t T : Ty) : Bool := decide (t = T) || (decide (t = .bl) && decide (T = .int))
theorem kit_all (t T : Ty) (hT : T ≠ .non) : kitB t.name T.name = some (isiB t T) := by
  cases T <;> first | exact absurd rfl hT | (cases t <;> decide +kernel)
def gIsi (T : Ty) : List D → Store → Option (D × Store)
  | [x, .raw (.ty n)], S => if n = T.name then (tyD S x).map fun t => (.bl (isiB t T), S) else none
  | _, _ => none
def gLen : List D → Store → Option (D × Store)
  | [.str x], S => some (.int x.length, S)
  | [.tup xs], S => some (.int xs.length, S)
  | [.ref l], S => (lstAt S l).map fun xs => (.int xs.length, S)
  | _, _ => none
def gAbs : List D → Store → Option (D × Store)
  | [.int i], S => some (.int (if i < 0 then -i else i), S)
  | _, _ => none
def gInt : List D → Store → Option (D × Store)
  | [.int i], S => some (.int i, S)
  | [.bl b], S => some (.int (if b then 1 else 0), S)
  | [.str x], S => if x.length ≤ 640 then (PySem.intText? x).map fun n => (.int n, S) else none
  | _, _ => none
def gStr : List D → Store → Option (D × Store)
  | [.int i], S => if i.natAbs.log2 < 1920 ∧ (toString i : Str).length ≤ LIM then some (.str (toString i), S) else none
  | _, _ => none
def gMax2 : List D → Store → Option (D × Store)
  | [.int i, .int j], S => some (.int (if j > i then j else i), S)
  | _, _ => none
def gMin2 : List D → Store → Option (D × Store)
  | [.int i, .int j], S => some (.int (if j < i then j else i), S)
  | _, _ => none
/-- list(xs): a new list -/
def gList : List D → Store → Option (D × Store)
  | [.tup xs], S => some (.ref S.length, S ++ [.lst xs])
  | [.ref l], S => (lstAt S l).map fun xs => (.ref S.length, S ++ [.lst xs])
  | _, _ => none
def gTuple : List D → Store → Option (D × Store)
  | [.tup xs], S => some (.tup xs, S)
  | [.ref l], S => (lstAt S l).map fun xs => (.tup xs, S)
  | _, _ => none
/-- all, any of a list of bools -/
def bools : List D → Option (List Bool)
  | [] => some []
  | .bl b :: r => (bools r).map (b :: ·)
  | _ => none
def gAll : List D → Store → Option (D × Store)
  | [.ref l], S => ((lstAt S l).bind bools).map fun bs => (.bl (bs.all id), S)
  | _, _ => none
def gAny : List D → Store → Option (D × Store)
  | [.ref l], S => ((lstAt S l).bind bools).map fun bs => (.bl (bs.any id), S)
  | _, _ => none
section
variable {X : Cx}
theorem tyx_of {K : PySem.W.Frag} {m : List Addr} {H : Hp} {S : Store} {v : V} {x : D} {t : Ty} (r : RD K m H v x) (rs : RS K m H S) (h : tyD S x = some t) : TyX K H v (.type t.name) := by
  cases r with
  | non => cases h; exact .base .non
  | bl b => cases h; exact .base (.bl b)
  | int b => cases h; exact .base (.int b)
  | str b => cases h; exact .base (.str _)
  | tup ht _ =>
    cases h
    rcases ht with ⟨o, h, _⟩ | ⟨o, its, n, h1, h2, _⟩
    · exact .fTuple h
    · exact .kTuple h1 h2
  | @ref a l hl =>
    unfold tyD at h
    simp only at h
    split at h
    · rename_i xs e
      cases h
      obtain ⟨vs, h1, _⟩ := rs.at_ hl e
      exact .base (.lst h1)
    · rename_i xs e
      cases h
      obtain ⟨vs, h1, _⟩ := rs.at_ hl e
      rcases h1 with ⟨o, h1⟩ | ⟨o, its, n, h1, h2, _⟩
      · exact .base (.frz h1)
      · exact .kList h1 h2
    · rename_i xs e
      cases h
      obtain ⟨vs, h1, _⟩ := rs.at_ hl e
      exact .base (.dK h1)
    · cases h
  | raw v => cases h
theorem c_isi (T : Ty) (hT : T ≠ .non) : CallR X (.builtin "isinstance") (rdC X.K (gIsi T)) := by
  intro pins s σ H vs us Q I r ⟨m, xs, S, hx, rs, h⟩
  unfold gIsi at h
  split at h
  · rename_i x n
    split at h
    · rename_i hn
      subst hn
      cases hx with
      | cons h1 h2 =>
        cases h2 with
        | cons h3 h4 =>
          cases h4
          cases h3
          cases e : tyD S x with
          | none => rw [e] at h; exact h.elim
          | some t =>
            rw [e] at h
            exact call_isi pins s σ H _ us Q I r ⟨_, _, _, .type T.name, isiB t T, rfl, .ty _, tyx_of h1 rs e, kit_ty (kit_all t T hT), h _ _ m .refl rs (.bl _)⟩
    · exact h.elim
  · exact h.elim
theorem c_len : CallR X (.builtin "len") (rdC X.K gLen) := by
  intro pins s σ H vs us Q I r ⟨m, xs, S, hx, rs, h⟩
  unfold gLen at h
  split at h
  · cases hx with
    | cons h1 h2 =>
      cases h2
      cases h1 with
      | str hz => exact call_len pins s σ H _ us Q I r ⟨_, _, rfl, ⟨by rw [← lim_eq]; exact hz, rfl⟩, h _ _ m .refl rs (.int _)⟩
  · cases hx with
    | cons h1 h2 =>
      cases h2
      cases h1 with
      | tup ht rd => exact call_len pins s σ H _ us Q I r ⟨_, _, rfl, .inr ⟨_, ht.sq, rfl⟩, by rw [rd.length]; exact h _ _ m .refl rs (.int _)⟩
  · rename_i l
    cases e : lstAt S l with
    | none => rw [e] at h; exact h.elim
    | some ys =>
      rw [e] at h
      cases hx with
      | cons h1 h2 =>
        cases h2
        cases h1 with
        | ref hl =>
          obtain ⟨ws, hq, rd⟩ := rs.lst hl e
          exact call_len pins s σ H _ us Q I r ⟨_, _, rfl, .inl ⟨_, hq, rfl⟩, by rw [rd.length]; exact h _ _ m .refl rs (.int _)⟩
  · exact h.elim
theorem c_abs : CallR X (.builtin "abs") (rdC X.K gAbs) := by
  intro pins s σ H vs us Q I r ⟨m, xs, S, hx, rs, h⟩
  unfold gAbs at h
  split at h
  · cases hx with
    | cons h1 h2 =>
      cases h2
      cases h1
      exact call_abs pins s σ H _ us Q I r ⟨_, rfl, h _ _ m .refl rs (.int _)⟩
  · exact h.elim
theorem c_int : CallR X (.type "int") (rdC X.K gInt) := by
  intro pins s σ H vs us Q I r ⟨m, xs, S, hx, rs, h⟩
  unfold gInt at h
  split at h
  · cases hx with
    | cons h1 h2 =>
      cases h2
      cases h1
      exact call_int1 pins s σ H _ us Q I r (.inl ⟨_, rfl, h _ _ m .refl rs (.int _)⟩)
  · cases hx with
    | cons h1 h2 =>
      cases h2
      cases h1
      exact call_int1 pins s σ H _ us Q I r (.inr ⟨_, rfl, h _ _ m .refl rs (.int _)⟩)
  · rename_i x
    split at h
    · rename_i hz
      cases e : PySem.intText? x with
      | none => rw [e] at h; exact h.elim
      | some n =>
        rw [e] at h
        cases hx with
        | cons h1 h2 =>
          cases h2
          cases h1
          exact call_int_str pins s σ H _ us Q I r ⟨_, n, rfl, e, hz, h _ _ m .refl rs (.int _)⟩
    · exact h.elim
  · exact h.elim
theorem c_str : CallR X (.type "str") (rdC X.K gStr) := by
  intro pins s σ H vs us Q I r ⟨m, xs, S, hx, rs, h⟩
  unfold gStr at h
  split at h
  · split at h
    · rename_i hz
      cases hx with
      | cons h1 h2 =>
        cases h2
        cases h1
        exact call_str_int pins s σ H _ us Q I r ⟨_, rfl, hz.1, h _ _ m .refl rs (.str hz.2)⟩
    · exact h.elim
  · exact h.elim
theorem c_max2 (hc : X.calm = true) : CallR X (.builtin "max") (rdC X.K gMax2) := by
  intro pins s σ H vs us Q I r ⟨m, xs, S, hx, rs, h⟩
  unfold gMax2 at h
  split at h
  · cases hx with
    | cons h1 h2 =>
      cases h2 with
      | cons h2 h3 =>
        cases h3
        cases h1
        cases h2
        exact call_max2 hc pins s σ H _ us Q I r ⟨_, _, rfl, h _ _ m .refl rs (.int _)⟩
  · exact h.elim
theorem c_min2 (hc : X.calm = true) : CallR X (.builtin "min") (rdC X.K gMin2) := by
  intro pins s σ H vs us Q I r ⟨m, xs, S, hx, rs, h⟩
  unfold gMin2 at h
  split at h
  · cases hx with
    | cons h1 h2 =>
      cases h2 with
      | cons h2 h3 =>
        cases h3
        cases h1
        cases h2
        exact call_min2 hc pins s σ H _ us Q I r ⟨_, _, rfl, h _ _ m .refl rs (.int _)⟩
  · exact h.elim
theorem c_list : CallR X (.type "list") (rdC X.K gList) := by
  intro pins s σ H vs us Q I r ⟨m, xs, S, hx, rs, h⟩
  unfold gList at h
  split at h
  · cases hx with
    | cons h1 h2 =>
      cases h2
      cases h1 with
      | tup ht rd => exact call_list_of pins s σ H _ us Q I r ⟨_, _, rfl, .inr ht.sq, fun p hp => vp_lst rs hp rd h⟩
  · rename_i l
    cases e : lstAt S l with
    | none => rw [e] at h; exact h.elim
    | some ys =>
      rw [e] at h
      cases hx with
      | cons h1 h2 =>
        cases h2
        cases h1 with
        | ref hl =>
          obtain ⟨ws, hq, rd⟩ := rs.lst hl e
          exact call_list_of pins s σ H _ us Q I r ⟨_, _, rfl, .inl hq, fun p hp => vp_lst rs hp rd h⟩
  · exact h.elim
theorem c_tuple : CallR X (.type "tuple") (rdC X.K gTuple) := by
  intro pins s σ H vs us Q I r ⟨m, xs, S, hx, rs, h⟩
  unfold gTuple at h
  split at h
  · cases hx with
    | cons h1 h2 =>
      cases h2
      cases h1 with
      | tup ht rd => exact call_tupleT pins s σ H _ us Q I r ⟨_, _, rfl, ht.sq, h _ _ m .refl rs (.tup ht rd)⟩
  · rename_i l
    cases e : lstAt S l with
    | none => rw [e] at h; exact h.elim
    | some ys =>
      rw [e] at h
      cases hx with
      | cons h1 h2 =>
        cases h2
        cases h1 with
        | ref hl =>
          obtain ⟨ws, hq, rd⟩ := rs.lst hl e
          obtain ⟨u, rfl, rx⟩ := vals1 r
          cases rx
          obtain ⟨its, r', pl, hz⟩ := I.list hq
          have hlen := r'.length
          refine call_tuple_list pl.isList (fun h' kp => ?_) (by simp only [List.size_toArray] <;> omega)
          have I1 : L2.Inv X pins σ H { s with heap := h' } := I.kept (t' := s.toks) kp
          exact lay_tup (s := { s with heap := h' }) (tk := s.toks) I1 hz r' fun o hc hd => vp_tup rs (I1.hok.fresh (Nat.le_refl _)) hc hd rd h
  · exact h.elim
theorem bools_of {K : PySem.W.Frag} {m : List Addr} {H : Hp} : ∀ {xs : List D} {vs : List V} {bs : List Bool}, RDs K m H vs xs → bools xs = some bs → vs = bs.map V.bl
  | [], _, _, r, h => by cases r; cases h; rfl
  | .bl b :: r, _, bs, rr, h => by
    cases rr with
    | cons h1 h2 =>
      cases h1
      have h : (bools r).map (b :: ·) = some bs := h
      cases e : bools r with
      | none => rw [e] at h; cases h
      | some cs =>
        rw [e] at h
        cases h
        rw [bools_of h2 e]
        rfl
  | .non :: _, _, _, _, h => nomatch h
  | .int _ :: _, _, _, _, h => nomatch h
  | .str _ :: _, _, _, _, h => nomatch h
  | .tup _ :: _, _, _, _, h => nomatch h
  | .ref _ :: _, _, _, _, h => nomatch h
  | .raw _ :: _, _, _, _, h => nomatch h
theorem c_all (hc : X.calm = true) : CallR X (.builtin "all") (rdC X.K gAll) := by
  intro pins s σ H vs us Q I r ⟨m, xs, S, hx, rs, h⟩
  unfold gAll at h
  split at h
  · rename_i l
    cases e : lstAt S l with
    | none => rw [e] at h; exact h.elim
    | some ys =>
      rw [e] at h
      simp only [Option.bind_some] at h
      cases e2 : bools ys with
      | none => rw [e2] at h; exact h.elim
      | some bs =>
        rw [e2] at h
        cases hx with
        | cons h1 h2 =>
          cases h2
          cases h1 with
          | ref hl =>
            obtain ⟨ws, hq, rd⟩ := rs.lst hl e
            have ew := bools_of rd e2
            subst ew
            exact cr_all hc pins s σ H _ us Q I r ⟨_, bs, rfl, hq, h _ _ m .refl rs (.bl _)⟩
  · exact h.elim
theorem c_any (hc : X.calm = true) : CallR X (.builtin "any") (rdC X.K gAny) := by
  intro pins s σ H vs us Q I r ⟨m, xs, S, hx, rs, h⟩
  unfold gAny at h
  split at h
  · rename_i l
    cases e : lstAt S l with
    | none => rw [e] at h; exact h.elim
    | some ys =>
      rw [e] at h
      simp only [Option.bind_some] at h
      cases e2 : bools ys with
      | none => rw [e2] at h; exact h.elim
      | some bs =>
        rw [e2] at h
        cases hx with
        | cons h1 h2 =>
          cases h2
          cases h1 with
          | ref hl =>
            obtain ⟨ws, hq, rd⟩ := rs.lst hl e
            have ew := bools_of rd e2
            subst ew
            exact cr_any hc pins s σ H _ us Q I r ⟨_, bs, rfl, hq, h _ _ m .refl rs (.bl _)⟩
  · exact h.elim
end

/-! ## methods of built-in types -/
def eMt (T : Ty) (g : D → List D → Store → Option (D × Store)) (fo : EX) (fa : AX) : EX := fun ρ S => (fo ρ S).bind fun x S1 => if tyD S1 x = some T then (fa ρ S1).bind fun xs S2 => toR (g x xs S2) else .no
section
variable {X : Cx} {W : WX} {o e : Expr} {es : List Expr} {fo fe : EX} {fx : AX} {apos cpos : Pos} {name : Str} {id : String} {T : Ty} {g : D → List D → Store → Option (D × Store)}
theorem ty_is {pins : List (Addr × Obj)} {σ : St} {H : Hp} {s : Shared} {m : List Addr} {S : Store} {v : V} {x : D} {u : Value} (I : L2.Inv X pins σ H s) (r : RelV v u) (rd : RD X.K m H v x) (rs : RS X.K m H S) (h : tyD S x = some T) (hT : T = .str ∨ T = .tup ∨ T = .lst ∨ T = .dic) :
    s.TypeIs u T.name ∧ ∀ a, u = .ref a → ∃ ob, s.heap.get? a = some ob ∧ ob.dict = none := by
  cases rd with
  | non => cases h; rcases hT with z | z | z | z <;> cases z
  | bl b => cases h; rcases hT with z | z | z | z <;> cases z
  | int b => cases h; rcases hT with z | z | z | z <;> cases z
  | str b =>
    cases h
    obtain ⟨t, rfl⟩ := r
    exact ⟨typeIs_str _ _ _, fun _ e => nomatch e⟩
  | @tup a _ _ ht _ =>
    cases h
    cases r
    rcases ht with ⟨ob, h, hc, hd⟩ | ⟨ob, its, n, h1, h2, h3, _⟩
    · obtain ⟨e, _⟩ := (show ObjOk X.prog X.w H s.heap a (.frz ob _) from I.hok a _ h)
      exact ⟨⟨ob, e, hc⟩, fun b eb => by cases eb; exact ⟨ob, e, hd⟩⟩
    · exact ⟨⟨ob, I.kIn a ob h1, h2⟩, fun b eb => by cases eb; exact ⟨ob, I.kIn _ ob h1, h3⟩⟩
  | @ref a l hl =>
    cases r
    unfold tyD at h
    simp only at h
    split at h
    · rename_i xs e
      cases h
      obtain ⟨vs, h1, _⟩ := rs.at_ hl e
      exact tyV_is (T := "list") (x := .ref a) I rfl (.inl ⟨rfl, _, SqL.of h1⟩)
    · rename_i xs e
      cases h
      obtain ⟨vs, h1, _⟩ := rs.at_ hl e
      exact tyV_is (T := "list") (x := .ref a) I rfl (.inl ⟨rfl, _, h1.sq⟩)
    · rename_i xs e
      cases h
      obtain ⟨vs, h1, _⟩ := rs.at_ hl e
      exact tyV_is (T := "dict") (x := .ref a) I rfl (.inr (.inr (.inl ⟨rfl, .inl ⟨_, h1⟩⟩)))
    · cases h
  | raw v => cases h
theorem d_m0 (pa : PlainAttrs T.name) (slot : Slot T.name name id) (hty : typeOf (.builtin id) = pure (.type "method_descriptor")) (hT : T = .str ∨ T = .tup ∨ T = .lst ∨ T = .dic) (hm : MtR X id (rdM X.K g)) (ho : PE X o (rdE (X.cq W) fo))
    (hbase : attributeBase o name X.env (eval o X.env) = eval o X.env := by rfl) (hline : (apos.endLine == cpos.line) = true := by rfl) : PE X (.Call (.Attribute o name apos) [] [] cpos) (rdE (X.cq W) (eMt T g fo aN)) := by
  refine ⟨fun pins s σ H Q I ⟨m, ρ, S, re, rs, h⟩ => ?_⟩
  refine wpAny_Call_method0_late hbase hline (thn (ho.run pins s σ H _ I ⟨m, ρ, S, re, rs, Post.bind h⟩) fun v s1 ⟨x, H1, I1, r1, m1, d, S1, e1, rs1, rd1, h1⟩ => ?_)
  split at h1
  · rename_i ht
    obtain ⟨q1, q2⟩ := ty_is I1 r1 rd1 rs1 ht hT
    exact ⟨T.name, id, pa, slot, hty, q1, q2, Calls.callWith_builtin rfl (PySem.evalArgs_none (hm pins s1 σ H1 x [] v [] Q I1 r1 .nil ⟨m1, d, [], S1, rd1, .nil, rs1, VPost.of h1⟩))⟩
  · exact h1.elim
theorem d_m (pa : PlainAttrs T.name) (slot : Slot T.name name id) (hty : typeOf (.builtin id) = pure (.type "method_descriptor")) (hT : T = .str ∨ T = .tup ∨ T = .lst ∨ T = .dic) (hm : MtR X id (rdM X.K g)) (ho : PE X o (rdE (X.cq W) fo)) (ha : PA X (e :: es) (rdA (X.cq W) fx))
    (hbase : attributeBase o name X.env (eval o X.env) = eval o X.env := by rfl)
    (hfew : ((backTo cpos (starEach (e :: es) X.env)).all (fun x => !x.1) && (backToKw cpos (keywordEach [] X.env)).all (fun x => x.1.isSome)
      && decide ((e :: es).length + ([] : List Keyword).length + (if ([] : List Keyword).isEmpty then 0 else 1) < 30)) = true := by rfl)
    (hline : (apos.endLine == cpos.line) = true := by rfl) (hs : starEach (e :: es) X.env = (false, eval e X.env) :: starEach es X.env := by rfl) (hplain : (backTo cpos (starEach es X.env)).any (·.1) = false := by rfl) :
    PE X (.Call (.Attribute o name apos) (e :: es) [] cpos) (rdE (X.cq W) (eMt T g fo fx)) := by
  refine ⟨fun pins s σ H Q I ⟨m, ρ, S, re, rs, h⟩ => ?_⟩
  refine wpAny_Call_method_late hbase hfew hline rfl (thn (ho.run pins s σ H _ I ⟨m, ρ, S, re, rs, Post.bind h⟩) fun v s1 ⟨x, H1, I1, r1, m1, d, S1, e1, rs1, rd1, h1⟩ => ?_)
  split at h1
  · rename_i ht
    obtain ⟨q1, q2⟩ := ty_is I1 r1 rd1 rs1 ht hT
    refine ⟨T.name, id, pa, slot, hty, q1, q2, ?_⟩
    have hA := ha.run cpos pins s1 σ H1 _ I1 ⟨m1, ρ, S1, re.mono e1, rs1, Post.bind h1⟩
    rw [hs] at hA ⊢
    refine Calls.callWith_builtin (by show (false || (backTo cpos (starEach es X.env)).any (·.1)) = false; rw [hplain] <;> rfl) (Calls.evalArgs_plain ?_)
    exact thn hA fun us s2 ⟨vs, H2, I2, r2, m2, xs, S2, e2, rs2, rd2, h2⟩ => hm pins s2 σ H2 x vs v us Q I2 r1 r2 ⟨m2, d, xs, S2, rd1.mono e2, rd2, rs2, VPost.of h2⟩
  · exact h1.elim
end
/-- xs.append(y) -/
def gAppend : D → List D → Store → Option (D × Store)
  | .ref l, [d], S => match S[l]? with
    | some (.lst xs) => if xs.length < LIM then some (.non, S.set l (.lst (xs ++ [d]))) else none
    | _ => none
  | _, _, _ => none
def gPop : D → List D → Store → Option (D × Store)
  | .ref l, [], S => match S[l]? with
    | some (.lst xs) => (xs[xs.length - 1]?).map fun d => (d, S.set l (.lst xs.dropLast))
    | _ => none
  | _, _, _ => none
/-- s.partition(c), c one sign -/
def partL (c : Nat) (xs : List Nat) : List Nat × List Nat × List Nat := if c ∈ xs then (xs.takeWhile (· != c), [c], (xs.dropWhile (· != c)).drop 1) else (xs, [], [])
def gPart : D → List D → Store → Option (D × Store)
  | .str a, [.str b], S => if b.length = 1 then
      let p := partL (b.cps.getD 0 0) a.cps.toList
      some (.tup [.str ⟨p.1.toArray⟩, .str ⟨p.2.1.toArray⟩, .str ⟨p.2.2.toArray⟩], S) else none
  | _, _, _ => none
/-- t.count(x), l.count(x) -/
def gCountT : D → List D → Store → Option (D × Store)
  | .tup xs, [d], S => if d.flat && flats xs && decide (d.dep ≤ 64) then some (.int (xs.countP fun y => deq y d : Nat), S) else none
  | _, _, _ => none
theorem takeWhile_at {c : Nat} : ∀ {l : List Nat} {i : Nat}, l[i]? = some c → (∀ k, k < i → l[k]? ≠ some c) → l.takeWhile (· != c) = l.take i
  | [], i, h, _ => by simp at h
  | k :: r, 0, h, _ => by
    have e : k = c := by simpa using h
    subst e
    rw [List.takeWhile_cons_of_neg (by simp)]
    rfl
  | k :: r, i + 1, h, hn => by
    have h1 : k ≠ c := fun e => hn 0 (by omega) (by simp [e])
    rw [List.takeWhile_cons_of_pos (by simp [h1]), takeWhile_at (l := r) (i := i) (by simpa using h) fun j hj => by have := hn (j + 1) (by omega); simpa using this]
    rfl
theorem dropWhile_at {c : Nat} : ∀ {l : List Nat} {i : Nat}, l[i]? = some c → (∀ k, k < i → l[k]? ≠ some c) → l.dropWhile (· != c) = c :: l.drop (i + 1)
  | [], i, h, _ => by simp at h
  | k :: r, 0, h, _ => by
    have e : k = c := by simpa using h
    subst e
    rw [List.dropWhile_cons_of_neg (by simp)]
    rfl
  | k :: r, i + 1, h, hn => by
    have h1 : k ≠ c := fun e => hn 0 (by omega) (by simp [e])
    rw [List.dropWhile_cons_of_pos (by simp [h1]), dropWhile_at (l := r) (i := i) (by simpa using h) fun j hj => by have := hn (j + 1) (by omega); simpa using this]
    rfl
theorem part_one (x : Str) (c : Nat) : Txt.partition x ⟨#[c]⟩ = (⟨(partL c x.cps.toList).1.toArray⟩, ⟨(partL c x.cps.toList).2.1.toArray⟩, ⟨(partL c x.cps.toList).2.2.toArray⟩) := by
  unfold Txt.partition
  rcases StrLaws.occ_head x ⟨#[c]⟩ 1 (Nat.le_refl 1) with ⟨h0, hn⟩ | ⟨i, r, h0, hi, hn⟩
  · have hfree : c ∉ x.cps.toList := fun hm => by
      obtain ⟨j, hj⟩ := List.getElem?_of_mem hm
      exact hn j ((StrLaws.subAt_one x c j).mpr hj)
    rw [h0]
    unfold partL
    rw [if_neg hfree]
    rfl
  · rw [h0]
    have hm := (StrLaws.subAt_one x c i).mp hi
    have hn' : ∀ k, k < i → x.cps.toList[k]? ≠ some c := fun k hk e => hn k hk ((StrLaws.subAt_one x c k).mpr e)
    have hmem : c ∈ x.cps.toList := List.mem_of_getElem? hm
    unfold partL
    rw [if_pos hmem, takeWhile_at hm hn', dropWhile_at hm hn']
    have hl : x.cps.toList.length = x.cps.size := Array.length_toList
    refine Prod.ext ?_ (Prod.ext rfl ?_)
    · apply congrArg Str.mk
      apply Array.toList_inj.mp
      show (x.cps.extract 0 i).toList = _
      simp
    · apply congrArg Str.mk
      apply Array.toList_inj.mp
      show (x.cps.extract (i + 1) x.cps.size).toList = _
      rw [Array.toList_extract]
      simp [List.extract_eq_take_drop]
      rw [← hl, ← List.length_drop]
      exact List.take_length
theorem partL_le (c : Nat) (xs : List Nat) : (partL c xs).1.length ≤ xs.length ∧ (partL c xs).2.1.length ≤ 1 ∧ (partL c xs).2.2.length ≤ xs.length := by
  unfold partL
  split
  · refine ⟨(List.takeWhile_sublist _).length_le, Nat.le_refl _, ?_⟩
    exact Nat.le_trans (List.drop_sublist _ _).length_le (List.dropWhile_sublist _).length_le
  · exact ⟨Nat.le_refl _, Nat.zero_le _, Nat.zero_le _⟩
section
variable {X : Cx}
theorem m_append : MtR X "list.append" (rdM X.K gAppend) := by
  intro pins s σ H v vs vv us Q I rv rvs ⟨m, x, xs, S, hx, hxs, rs, h⟩
  unfold gAppend at h
  split at h
  · rename_i l d
    split at h
    · rename_i ys e
      split at h
      · rename_i hz
        cases hx with
        | ref hl =>
          cases hxs with
          | cons h1 h2 =>
            cases h2
            obtain ⟨ws, hw, rw'⟩ := rs.wlst hl e
            refine mt_append pins s σ H _ _ vv us Q I rv rvs ⟨_, ws, _, rfl, rfl, hw, by rw [rw'.length, ← lim_eq]; exact hz, ?_⟩
            obtain ⟨ex, rs'⟩ := rs.write (o := .lst (ws ++ [_])) (c' := .lst (ys ++ [d])) hl e rfl rfl fun ex => ⟨_, upd_same, (rw'.mono ex).append (.one (h1.mono ex))⟩
            exact h _ _ m ex rs' .non
      · exact h.elim
    · exact h.elim
  · exact h.elim
theorem m_pop : MtR X "list.pop" (rdM X.K gPop) := by
  intro pins s σ H v vs vv us Q I rv rvs ⟨m, x, xs, S, hx, hxs, rs, h⟩
  unfold gPop at h
  split at h
  · rename_i l
    split at h
    · rename_i ys e
      cases hx with
      | ref hl =>
        cases hxs
        obtain ⟨ws, hw, rw'⟩ := rs.wlst hl e
        cases e2 : ys[ys.length - 1]? with
        | none => rw [e2] at h; exact h.elim
        | some d =>
          rw [e2] at h
          obtain ⟨w, e3, rd⟩ := rw'.get e2
          refine mt_pop pins s σ H _ _ vv us Q I rv rvs ⟨_, ws, w, rfl, rfl, hw, by rw [rw'.length]; exact e3, ?_⟩
          obtain ⟨ex, rs'⟩ := rs.write (o := .lst ws.dropLast) (c' := .lst ys.dropLast) hl e rfl rfl fun ex => ⟨_, upd_same, (rw'.mono ex).dropLast⟩
          exact h _ _ m ex rs' (rd.mono ex)
    · exact h.elim
  · exact h.elim
theorem m_part : MtR X "str.partition" (rdM X.K gPart) := by
  intro pins s σ H v vs vv us Q I rv rvs ⟨m, x, xs, S, hx, hxs, rs, h⟩
  unfold gPart at h
  split at h
  · rename_i a b
    split at h
    · rename_i hb
      cases hx with
      | str ha =>
        cases hxs with
        | cons h1 h2 =>
          cases h2
          cases h1 with
          | str hb2 =>
            obtain ⟨t, rfl⟩ := rv
            cases rvs with
            | cons r1 rs1 =>
              cases rs1
              obtain ⟨u, rfl⟩ := r1
              have hz : a.length ≤ sizeLine := by rw [← lim_eq]; exact ha
              refine call_meets F.slot_str_partition (typeIs_str _ _ _) F.entry_str_partition (F.args_str_partition_2 _ _) (meets_str_partition a b t u (by rw [hb]; rfl) hz) ?_
              have hp := part_one a (b.cps.getD 0 0)
              rw [← sign_of hb] at hp
              obtain ⟨l1, l2, l3⟩ := partL_le (b.cps.getD 0 0) a.cps.toList
              have la : a.cps.toList.length = a.length := by simp [Str.length]
              have go : ∀ {x y z : Str} {t u v : Tok} {k : Nat}, (x, y, z) = (⟨(partL (b.cps.getD 0 0) a.cps.toList).1.toArray⟩, ⟨(partL (b.cps.getD 0 0) a.cps.toList).2.1.toArray⟩, (⟨(partL (b.cps.getD 0 0) a.cps.toList).2.2.toArray⟩ : Str)) →
                  EP X pins σ Q (.ref s.heap.objs.size) { s with toks := k, heap := s.heap.push { cls := .type "tuple", data := .seq [Value.str x t, .str y u, .str z v].toArray } } := fun {x y z t u v k} e => by
                injection e with e1 e2
                injection e2 with e2 e3
                subst e1 e2 e3
                refine lay_tup (xs := [.str ⟨(partL (b.cps.getD 0 0) a.cps.toList).1.toArray⟩, .str ⟨(partL (b.cps.getD 0 0) a.cps.toList).2.1.toArray⟩, .str ⟨(partL (b.cps.getD 0 0) a.cps.toList).2.2.toArray⟩]) (tk := k) I (by show 3 ≤ sizeLine; decide) (.cons ⟨t, rfl⟩ (.cons ⟨u, rfl⟩ (.cons ⟨v, rfl⟩ .nil))) fun o hc hd => ?_
                have la' : a.cps.toList.length ≤ 16777216 := by rw [la]; exact ha
                exact vp_tup rs (I.hok.fresh (Nat.le_refl _)) hc hd (.cons (.str (by show (List.toArray _).size ≤ _; rw [List.size_toArray]; omega)) (.cons (.str (by show (List.toArray _).size ≤ _; rw [List.size_toArray]; omega)) (.cons (.str (by show (List.toArray _).size ≤ _; rw [List.size_toArray]; omega)) .nil))) h
              unfold Txt.partition at hp
              revert hp
              cases Builtin.Str.occurrences a b 0 a.length 1 with
              | nil => intro hp; exact go hp
              | cons i r => intro hp; exact go hp
    · exact h.elim
  · exact h.elim
theorem m_countT (hu : X.A.units + 65 < cLine) : MtR X "tuple.count" (rdM X.K gCountT) := by
  intro pins s σ H v vs vv us Q I rv rvs ⟨m, x, xs, S, hx, hxs, rs, h⟩
  unfold gCountT at h
  split at h
  · rename_i ys d
    split at h
    · rename_i hc
      simp only [Bool.and_eq_true, decide_eq_true_eq] at hc
      obtain ⟨⟨c1, c2⟩, c3⟩ := hc
      cases hx with
      | tup ht r =>
        cases hxs with
        | cons h1 h2 =>
          cases h2
          cases rv
          obtain ⟨u, rfl, ru⟩ := rvs.one
          obtain ⟨its, r', p, hz⟩ := I.tuple ht.sq
          obtain ⟨as, q1⟩ := Dp.readsAll I _ _ _ (dps_of c2 r) r'
          obtain ⟨bs, q2⟩ := Dp.reads I _ _ _ (dp_of c1 h1) ru
          have hm : min (PyData.depthAll (toPys ys)) (toPy d).depth ≤ (toPy d).depth := Nat.min_le_right _ _
          rw [depth_toPy] at hm
          refine PySem.SeqAt.count_tuple_data (vs := its.toArray) p (by simpa using q1) q2 (plains_toPys ys) (plain_toPy d) (by rw [depth_toPy]; omega) ?_
          have e : ((toPys ys).countP fun y => PyData.eqv y (toPy d)) = ys.countP fun y => deq y d := by
            clear h r r' q1 hm rvs
            induction ys with
            | nil => rfl
            | cons y ys ih =>
              have c2' : (y.flat && flats ys) = true := c2
              rw [Bool.and_eq_true] at c2'
              show ((toPy y :: toPys ys).countP _) = _
              rw [List.countP_cons, List.countP_cons, ih c2'.2, eqv_toPy y d c2'.1 c1]
          rw [e]
          exact ⟨.int _, H, I.tok _, ⟨_, rfl⟩, h _ _ m .refl rs (.int _)⟩
    · exact h.elim
  · exact h.elim
end
end Dl

set_option Elab.async false
set_option linter.all false
set_option maxRecDepth 100000
namespace Dl
open PySem PySem.Spec PyProof.Rows L2

/-! ## tests -/
def truD (S : Store) : D → Option Bool
  | .non => some false
  | .bl b => some b
  | .int i => some (i != 0)
  | .str x => some ((x.length : Int) != 0)
  | .tup xs => some (!xs.isEmpty)
  | .ref l => match S[l]? with
    | some (.lst xs) => some (!xs.isEmpty)
    | some (.rol xs) => some (!xs.isEmpty)
    | some (.dic kvs) => some (!kvs.isEmpty)
    | _ => none
  | .raw _ => none
def toT (S : Store) : Option Bool → R Bool
  | some b => .ok b S
  | none => .no
/-- an expression's truth -/
def tV (f : EX) : TX := fun ρ S => (f ρ S).bind fun d S1 => toT S1 (truD S1 d)
/-- an expression that is a bool -/
def tE (f : EX) : TX := fun ρ S => (f ρ S).bind fun d S1 => match d with
  | .bl b => .ok b S1
  | _ => .no
def tA (f g : TX) : TX := fun ρ S => (f ρ S).bind fun b S1 => if b then g ρ S1 else .ok false S1
def tO (f g : TX) : TX := fun ρ S => (f ρ S).bind fun b S1 => if b then .ok true S1 else g ρ S1
def tN (f : TX) : TX := fun ρ S => (f ρ S).bind fun b S1 => .ok (!b) S1
def eIf (t : TX) (f g : EX) : EX := fun ρ S => (t ρ S).bind fun b S1 => if b then f ρ S1 else g ρ S1
def eAnd (f g : EX) : EX := fun ρ S => (f ρ S).bind fun d S1 => (toT S1 (truD S1 d)).bind fun b S2 => if b then g ρ S2 else .ok d S2
def eOr (f g : EX) : EX := fun ρ S => (f ρ S).bind fun d S1 => (toT S1 (truD S1 d)).bind fun b S2 => if b then .ok d S2 else g ρ S2
def eNot (f : EX) : EX := fun ρ S => (f ρ S).bind fun d S1 => (toT S1 (truD S1 d)).bind fun b S2 => .ok (.bl (!b)) S2
/-- a < b < c -/
def eCh (g g' : D → D → Store → Option (D × Store)) (fa fb fc : EX) : EX := fun ρ S => (fa ρ S).bind fun x S1 => (fb ρ S1).bind fun y S2 => (toR (g x y S2)).bind fun z S3 => match z with
  | .bl true => (fc ρ S3).bind fun w S4 => toR (g' y w S4)
  | .bl false => .ok (.bl false) S3
  | _ => .no
section
variable {X : Cx} {W : WX} {a b c e : Expr} {rest : List Expr} {fa fb fc f g : EX} {ta tb : TX} {pos : Pos}
theorem tru_of {K : PySem.W.Frag} {m : List Addr} {H : Hp} {S : Store} {v : V} {x : D} {k : Bool} (r : RD K m H v x) (rs : RS K m H S) (h : truD S x = some k) : TruV K v H k := by
  cases r with
  | non => cases h; exact rfl
  | bl b => cases h; exact rfl
  | int b => cases h; exact rfl
  | str hz => cases h; exact ⟨by rw [← lim_eq]; exact hz, rfl⟩
  | @tup a vs ds ht r =>
    cases h
    refine .inr (.inl ⟨vs, ht.sq, ?_⟩)
    cases r <;> rfl
  | @ref a l hl =>
    unfold truD at h
    simp only at h
    split at h
    · rename_i xs e1
      cases h
      obtain ⟨vs, h1, r⟩ := rs.at_ hl e1
      refine .inl ⟨vs, SqL.of h1, ?_⟩
      cases r <;> rfl
    · rename_i xs e1
      cases h
      obtain ⟨vs, h1, r⟩ := rs.at_ hl e1
      refine .inl ⟨vs, h1.sq, ?_⟩
      cases r <;> rfl
    · rename_i kvs e1
      cases h
      obtain ⟨ws, h1, h2, r⟩ := rs.at_ hl e1
      refine .inr (.inr ⟨ws, h1, ?_⟩)
      cases kvs <;> cases ws <;> simp at h2 <;> rfl
    · cases h
  | raw v => cases h
theorem d_tv (ha : PE X a (rdE (X.cq W) fa)) (he : ∀ whole, isTrue a X.env whole = (do let v ← whole; standAt a.pos; holding [v] (truthy v)) := by exact fun _ => rfl) : PT X a (rdT (X.cq W) (tV fa)) :=
  PTwk (pt_truth ha he) fun σ H Q ⟨m, ρ, S, re, rs, h⟩ => ⟨m, ρ, S, re, rs, (Post.bind h).imp fun v H1 ⟨m1, x, S1, e1, rs1, rd, h1⟩ => by
    cases e : truD S1 x with
    | none => rw [e] at h1; exact h1.elim
    | some k =>
      rw [e] at h1
      exact ⟨k, tru_of rd rs1 e, h1 _ _ m1 .refl rs1 rfl⟩⟩
theorem d_te {t : TE} (h : PT X e (tTest t)) (k : ∀ σ H Q, rdE (X.cq W) f σ H Q → t σ H Q) : PT X e (rdT (X.cq W) (tE f)) :=
  PTwk h fun σ H Q ⟨m, ρ, S, re, rs, h⟩ => k _ _ _ ⟨m, ρ, S, re, rs, (Post.bind h).imp fun v H1 ⟨m1, x, S1, e1, rs1, rd, h1⟩ => by
    cases rd with
    | bl b => exact ⟨b, rfl, h1 _ _ m1 .refl rs1 rfl⟩
    | _ => exact h1.elim⟩
theorem k2 {r : R2} {g : D → D → Store → Option (D × Store)} (k : ∀ v u H Q, rd2 X.K g v u H Q → r v u H Q) : ∀ σ H Q, rdE (X.cq W) (e2 g fa fb) σ H Q → tOp r (rdE (X.cq W) fa) (rdE (X.cq W) fb) σ H Q := fun σ H Q ⟨m, ρ, S, re, rs, h⟩ =>
  ⟨m, ρ, S, re, rs, (Post.bind h).imp fun v H1 ⟨m1, x, S1, e, rs1, rd, h1⟩ => ⟨m1, ρ, S1, re.mono e, rs1, (Post.bind h1).imp fun u H2 ⟨m2, y, S2, e2, rs2, rd2, h2⟩ =>
    k _ _ _ _ ⟨m2, x, y, S2, rd.mono e2, rd2, rs2, VPost.of h2⟩⟩⟩
/-- a == b and its like: as a value, as a test -/
theorem d_cmp {op : CmpOp} {g : D → D → Store → Option (D × Store)} (ho : OpR X (compareOp op) (rd2 X.K g)) (ha : PE X a (rdE (X.cq W) fa)) (hb : PE X b (rdE (X.cq W) fb)) (hm : behindInMarks op b = false := by first | exact nomark _ | rfl) :
    PE X (.Compare a [op] [b] pos) (rdE (X.cq W) (e2 g fa fb)) := PEwk (pe_cmpR ho ha hb hm) (k2 fun _ _ _ _ h => h)
theorem d_tcmp {op : CmpOp} {g : D → D → Store → Option (D × Store)} (ho : OpR X (compareOp op) (rd2 X.K g)) (ha : PE X a (rdE (X.cq W) fa)) (hb : PE X b (rdE (X.cq W) fb)) (hm : behindInMarks op b = false := by first | exact nomark _ | rfl) :
    PT X (.Compare a [op] [b] pos) (rdT (X.cq W) (tE (e2 g fa fb))) := d_te (pt_cmpR ho ha hb hm) (k2 fun _ _ _ _ h => h)
theorem kCh {r r' : R2} {g g' : D → D → Store → Option (D × Store)} (k : ∀ v u H Q, rd2 X.K g v u H Q → r v u H Q) (k' : ∀ v u H Q, rd2 X.K g' v u H Q → r' v u H Q) :
    ∀ σ H Q, rdE (X.cq W) (eCh g g' fa fb fc) σ H Q → tChain r r' (rdE (X.cq W) fa) (rdE (X.cq W) fb) (rdE (X.cq W) fc) σ H Q := fun σ H Q ⟨m, ρ, S, re, rs, h⟩ =>
  ⟨m, ρ, S, re, rs, (Post.bind h).imp fun v H1 ⟨m1, x, S1, e, rs1, rd, h1⟩ => ⟨m1, ρ, S1, re.mono e, rs1, (Post.bind h1).imp fun u H2 ⟨m2, y, S2, e2, rs2, rd2, h2⟩ => by
    refine k _ _ _ _ ⟨m2, x, y, S2, rd.mono e2, rd2, rs2, ?_⟩
    cases eg : g x y S2 with
    | none => rw [eg] at h2; exact h2.elim
    | some p =>
      obtain ⟨z, S3⟩ := p
      rw [eg] at h2
      intro vz H3 m3 e3 rs3 rdz
      have h2 : Post _ _ m2 H2 σ Q (match z with
        | .bl true => (fc ρ S3).bind fun w S4 => toR (g' y w S4)
        | .bl false => .ok (.bl false) S3
        | _ => .no) := h2
      cases rdz with
      | bl k =>
        refine ⟨k, rfl, ?_⟩
        cases k with
        | true =>
          rw [if_pos rfl]
          have h3 := Post.mono e3 h2
          exact ⟨m3, ρ, S3, ((re.mono e).mono e2).mono e3, rs3, (Post.bind h3).imp fun w H4 ⟨m4, dw, S4, e4, rs4, rdw, h4⟩ => k' _ _ _ _ ⟨m4, y, dw, S4, (rd2.mono e3).mono e4, rdw, rs4, VPost.of h4⟩⟩
        | false =>
          rw [if_neg Bool.false_ne_true]
          exact h2 _ _ m3 e3 rs3 (.bl false)
      | _ => exact h2.elim⟩⟩
theorem d_ch {op op' : CmpOp} {g g' : D → D → Store → Option (D × Store)} (ho : OpR X (compareOp op) (rd2 X.K g)) (ho' : OpR X (compareOp op') (rd2 X.K g')) (ha : PE X a (rdE (X.cq W) fa)) (hb : PE X b (rdE (X.cq W) fb)) (hc : PE X c (rdE (X.cq W) fc))
    (hm : lastMarks [op, op'] [b, c] = false := by with_unfolding_all rfl) : PE X (.Compare a [op, op'] [b, c] pos) (rdE (X.cq W) (eCh g g' fa fb fc)) := PEwk (pe_chain ho ho' ha hb hc hm) (kCh (fun _ _ _ _ h => h) fun _ _ _ _ h => h)
theorem d_tch {op op' : CmpOp} {g g' : D → D → Store → Option (D × Store)} (ho : OpR X (compareOp op) (rd2 X.K g)) (ho' : OpR X (compareOp op') (rd2 X.K g')) (ha : PE X a (rdE (X.cq W) fa)) (hb : PE X b (rdE (X.cq W) fb)) (hc : PE X c (rdE (X.cq W) fc))
    (hm : lastMarks [op, op'] [b, c] = false := by with_unfolding_all rfl) : PT X (.Compare a [op, op'] [b, c] pos) (rdT (X.cq W) (tE (eCh g g' fa fb fc))) := d_te (pt_chain ho ho' ha hb hc hm) (kCh (fun _ _ _ _ h => h) fun _ _ _ _ h => h)
theorem d_and1 (ha : PT X a (rdT (X.cq W) ta)) : PW X (.BoolOp .And [a] pos) (rdT (X.cq W) ta) := pw_and1 ha
theorem d_or1 (ha : PT X a (rdT (X.cq W) ta)) : PW X (.BoolOp .Or [a] pos) (rdT (X.cq W) ta) := pw_or1 ha
theorem d_and (ha : PT X a (rdT (X.cq W) ta)) (hb : PW X (.BoolOp .And (b :: rest) pos) (rdT (X.cq W) tb)) : PW X (.BoolOp .And (a :: b :: rest) pos) (rdT (X.cq W) (tA ta tb)) :=
  PWwk (pw_and ha hb) fun σ H Q ⟨m, ρ, S, re, rs, h⟩ => ⟨m, ρ, S, re, rs, (Post.bind (rel := relB) h).imp fun k H1 ⟨m1, k', S1, e1, rs1, ek, h1⟩ => by
    subst ek
    cases k with
    | true => rw [if_pos rfl]; exact ⟨m1, ρ, S1, re.mono e1, rs1, h1⟩
    | false => rw [if_neg Bool.false_ne_true]; exact h1 _ _ m1 .refl rs1 rfl⟩
theorem d_or (ha : PT X a (rdT (X.cq W) ta)) (hb : PW X (.BoolOp .Or (b :: rest) pos) (rdT (X.cq W) tb)) : PW X (.BoolOp .Or (a :: b :: rest) pos) (rdT (X.cq W) (tO ta tb)) :=
  PWwk (pw_or ha hb) fun σ H Q ⟨m, ρ, S, re, rs, h⟩ => ⟨m, ρ, S, re, rs, (Post.bind (rel := relB) h).imp fun k H1 ⟨m1, k', S1, e1, rs1, ek, h1⟩ => by
    subst ek
    cases k with
    | true => rw [if_pos rfl]; exact h1 _ _ m1 .refl rs1 rfl
    | false => rw [if_neg Bool.false_ne_true]; exact ⟨m1, ρ, S1, re.mono e1, rs1, h1⟩⟩
theorem d_not (ha : PT X a (rdT (X.cq W) ta)) : PT X (.UnaryOp .Not a pos) (rdT (X.cq W) (tN ta)) :=
  PTwk (pt_not ha) fun σ H Q ⟨m, ρ, S, re, rs, h⟩ => ⟨m, ρ, S, re, rs, (Post.bind (rel := relB) h).imp fun k H1 ⟨m1, k', S1, e1, rs1, ek, h1⟩ => by
    subst ek
    exact h1 _ _ m1 .refl rs1 rfl⟩
theorem d_if {t : Expr} (ht : PT X t (rdT (X.cq W) ta)) (ha : PE X a (rdE (X.cq W) fa)) (hb : PE X b (rdE (X.cq W) fb)) : PE X (.IfExp t a b pos) (rdE (X.cq W) (eIf ta fa fb)) :=
  PEwk (pe_ifExp ht ha hb) fun σ H Q ⟨m, ρ, S, re, rs, h⟩ => ⟨m, ρ, S, re, rs, (Post.bind (rel := relB) h).imp fun k H1 ⟨m1, k', S1, e1, rs1, ek, h1⟩ => by
    subst ek
    cases k with
    | true => rw [if_pos rfl]; exact ⟨m1, ρ, S1, re.mono e1, rs1, h1⟩
    | false => rw [if_neg Bool.false_ne_true]; exact ⟨m1, ρ, S1, re.mono e1, rs1, h1⟩⟩
end
/-! .. as values, by truth -/
section
variable {X : Cx} {W : WX} {a b : Expr} {rest : List Expr} {fa fb : EX} {pos : Pos} {op : BoolOp}
theorem d_one (ha : PE X a (rdE (X.cq W) fa)) : PE X (.BoolOp op [a] pos) (rdE (X.cq W) fa) := pe_one ha
theorem d_vand (ha : PE X a (rdE (X.cq W) fa)) (hb : PE X (.BoolOp .And (b :: rest) pos) (rdE (X.cq W) fb)) : PE X (.BoolOp .And (a :: b :: rest) pos) (rdE (X.cq W) (eAnd fa fb)) := by
  refine ⟨fun pins s σ H Q I ⟨m, ρ, S, re, rs, h⟩ => ?_⟩
  refine BoolOp_and (thn (ha.run pins s σ H _ I ⟨m, ρ, S, re, rs, Post.bind h⟩) fun v s1 ⟨x, H1, I1, r1, m1, d, S1, e1, rs1, rd1, h1⟩ => ?_)
  cases e : truD S1 d with
  | none => rw [e] at h1; exact h1.elim
  | some k =>
    rw [e] at h1
    have h1 : Post (X.cq W) (relD (X.cq W)) m1 H1 σ Q (if k then fb ρ S1 else .ok d S1) := h1
    refine thn (tru_ok pins s1 σ H1 x v (fun c H2 => c = k ∧ H2 = H1) I1 r1 ⟨k, tru_of rd1 rs1 e, rfl, rfl⟩) fun c s2 hc => ?_
    obtain ⟨H2, I2, e1', e2⟩ := hc
    rw [e2] at I2
    subst e1'
    cases c with
    | true =>
      rw [if_pos rfl] at h1
      exact hb.run pins s2 σ H1 Q I2 ⟨m1, ρ, S1, re.mono e1, rs1, h1⟩
    | false =>
      rw [if_neg Bool.false_ne_true] at h1
      exact ⟨x, H1, I2, r1, h1 _ _ m1 .refl rs1 rd1⟩
theorem d_vor (ha : PE X a (rdE (X.cq W) fa)) (hb : PE X (.BoolOp .Or (b :: rest) pos) (rdE (X.cq W) fb)) : PE X (.BoolOp .Or (a :: b :: rest) pos) (rdE (X.cq W) (eOr fa fb)) := by
  refine ⟨fun pins s σ H Q I ⟨m, ρ, S, re, rs, h⟩ => ?_⟩
  refine BoolOp_or (thn (ha.run pins s σ H _ I ⟨m, ρ, S, re, rs, Post.bind h⟩) fun v s1 ⟨x, H1, I1, r1, m1, d, S1, e1, rs1, rd1, h1⟩ => ?_)
  cases e : truD S1 d with
  | none => rw [e] at h1; exact h1.elim
  | some k =>
    rw [e] at h1
    have h1 : Post (X.cq W) (relD (X.cq W)) m1 H1 σ Q (if k then .ok d S1 else fb ρ S1) := h1
    refine thn (tru_ok pins s1 σ H1 x v (fun c H2 => c = k ∧ H2 = H1) I1 r1 ⟨k, tru_of rd1 rs1 e, rfl, rfl⟩) fun c s2 hc => ?_
    obtain ⟨H2, I2, e1', e2⟩ := hc
    rw [e2] at I2
    subst e1'
    cases c with
    | false =>
      rw [if_neg Bool.false_ne_true] at h1
      exact hb.run pins s2 σ H1 Q I2 ⟨m1, ρ, S1, re.mono e1, rs1, h1⟩
    | true =>
      rw [if_pos rfl] at h1
      exact ⟨x, H1, I2, r1, h1 _ _ m1 .refl rs1 rd1⟩
theorem d_vnot (ha : PE X a (rdE (X.cq W) fa)) : PE X (.UnaryOp .Not a pos) (rdE (X.cq W) (eNot fa)) := by
  refine ⟨fun pins s σ H Q I ⟨m, ρ, S, re, rs, h⟩ => ?_⟩
  refine UnaryOp_ (thn (ha.run pins s σ H _ I ⟨m, ρ, S, re, rs, Post.bind h⟩) fun v s1 ⟨x, H1, I1, r1, m1, d, S1, e1, rs1, rd1, h1⟩ => ?_)
  cases e : truD S1 d with
  | none => rw [e] at h1; exact h1.elim
  | some k =>
    rw [e] at h1
    exact not_of (thn (tru_ok pins s1 σ H1 x v (fun c H2 => c = k ∧ H2 = H1) I1 r1 ⟨k, tru_of rd1 rs1 e, rfl, rfl⟩) fun c s2 ⟨H2, I2, e1', e2⟩ => by
      subst e1' e2
      exact ⟨.bl (!c), H2, I2, rfl, h1 _ _ m1 .refl rs1 (.bl _)⟩)
end
/-! a call of a def -/
section
variable {X : Cx} {W : WX} {e : Expr} {es : List Expr} {fx : AX} {pos p : Pos} {CX : CXT} {k : Nat} {f : Addr} {fd : FuncData} {ps : List Str} {x : Str} {F : List D → M D}
theorem d_call (G : FnOk X.prog X.w X.K X.mg X.base CX k f fd ps (rdF ⟨X.K, X.mg, W0⟩ F)) (hr : Room k X.A) (hg : Gl X x) (hm : X.mg x = some (.ref f)) (hk : PySem.W.keepIn X.K (.ref f) = true) (hb : Binds X.K fd ps []) (hx : ∀ σ, PassesAt CX X σ (WE W σ))
    (ha : PA X (e :: es) (rdA (X.cq W) fx)) (hdb : (x == ("__debug__" : Str)) = false := by decide) (he : starEach (e :: es) X.env = (false, eval e X.env) :: starEach es X.env := by rfl) (hpl : (backTo pos (starEach es X.env)).any (·.1) = false := by rfl) :
    PE X (.Call (.Name x p) (e :: es) [] pos) (rdE (X.cq W) (eF F fx)) := PEwk (pe_callS G hr hg hm hk hb hx ha hdb he hpl) fun σ H Q ⟨m, ρ, S, re, rs, h⟩ =>
  ⟨m, ρ, S, re, rs, (Post.bind h).imp fun vs H1 ⟨m1, xs, S1, e1, rs1, rds, h1⟩ => ⟨m1, xs, S1, rds, rs1, by
    cases er : F xs S1 with
    | ok d S2 => rw [er] at h1; exact h1
    | ex ex S2 => rw [er] at h1; exact h1
    | no => rw [er] at h1; exact h1⟩⟩
end
end Dl

set_option Elab.async false
set_option linter.all false
set_option maxRecDepth 100000
namespace Dl
open PySem PySem.Spec PyProof.Rows L2

/-! ## statements -/
def sP : SX := fun ρ S => .nx ρ S
def Out.seq (o : Out) (h : SX) : Out := match o with
  | .nx ρ' S' => h ρ' S'
  | o => o
def sQ (g h : SX) : SX := fun ρ S => (g ρ S).seq h
def sBk : SX := fun ρ S => .bk ρ S
def sCt : SX := fun ρ S => .ct ρ S
def sNo : SX := fun _ _ => .no
def sE (f : EX) : SX := fun ρ S => (f ρ S).out ρ fun _ S1 => .nx ρ S1
def sR (f : EX) : SX := fun ρ S => (f ρ S).out ρ fun d S1 => .rt d S1
def sIf (t : TX) (g h : SX) : SX := fun ρ S => (t ρ S).out ρ fun b S1 => if b then g ρ S1 else h ρ S1
/-- name = .. -/
def nm (i : Nat) : D → SX := fun d ρ S => .nx (ρ.set i (some d)) S
def tgO : Out → Out
  | .nx ρ S => .nx ρ S
  | .ex x ρ S => .ex x ρ S
  | _ => .no
def sA (f : EX) (tg : D → SX) : SX := fun ρ S => (f ρ S).out ρ fun d S1 => tgO (tg d ρ S1)
def sN (j : Nat) (f : EX) : SX := fun ρ S => (f ρ S).out ρ fun d S1 => .nx (ρ.set j (some d)) S1
/-- o[i] = .. -/
def tgIx (fo fi : EX) : D → SX := fun d ρ S => (fo ρ S).out ρ fun o S1 => (fi ρ S1).out ρ fun i S2 => match gSet o i d S2 with
  | some S3 => .nx ρ S3
  | none => .no
/-- several targets -/
def tgL : List (D → SX) → List D → SX
  | [], [] => sP
  | t :: ts, d :: ds => fun ρ S => match t d ρ S with
    | .nx ρ' S' => tgL ts ds ρ' S'
    | .ex x ρ' S' => .ex x ρ' S'
    | _ => .no
  | _, _ => sNo
def tgT (ts : List (D → SX)) : D → SX := fun d => match d with
  | .tup ds => if ds.length = ts.length then tgL ts ds else sNo
  | _ => sNo
section
variable {X : Cx} {W : WX} {st : Stmt} {rest : List Stmt} {g h : SX} {e o i : Expr} {f fo fi : EX} {t : Expr} {ft : TX} {pos : Pos} {a b : List Stmt}
theorem t_nil : PSs X [] (rdS (X.cq W) sP) := PSswk pss_nil fun Dn σ H ⟨m, ρ, S, re, rs, h⟩ => h σ H m .refl re rs
theorem seq_post {c : Cq} {m : List Addr} {H : Hp} {Dn : Ends} {o : Out} {h : SX} (q : PostS c m H Dn (o.seq h)) : PostS c m H { Dn with nx := rdS c h Dn } o := by
  cases o with
  | nx ρ' S' => exact fun σ' H' m' e re rs => ⟨m', ρ', S', re, rs, PostS.mono e q⟩
  | _ => exact q
theorem t_cons (h1 : PS X st (rdS (X.cq W) g)) (h2 : PSs X rest (rdS (X.cq W) h)) : PSs X (st :: rest) (rdS (X.cq W) (sQ g h)) := PSswk (pss_cons h1 h2) fun Dn σ H ⟨m, ρ, S, re, rs, q⟩ =>
  ⟨m, ρ, S, re, rs, seq_post q⟩
theorem t_one (h1 : PS X st (rdS (X.cq W) g)) : PSs X [st] (rdS (X.cq W) g) := pss_one h1
theorem t_pass : PS X (.Pass pos) (rdS (X.cq W) sP) := PSwk ps_pass fun Dn σ H ⟨m, ρ, S, re, rs, h⟩ => h σ H m .refl re rs
theorem t_break : PS X (.Break pos) (rdS (X.cq W) sBk) := PSwk ps_break fun Dn σ H ⟨m, ρ, S, re, rs, h⟩ => h σ H m .refl re rs
theorem t_continue : PS X (.Continue pos) (rdS (X.cq W) sCt) := PSwk ps_continue fun Dn σ H ⟨m, ρ, S, re, rs, h⟩ => h σ H m .refl re rs
theorem t_never : PS X st (rdS (X.cq W) sNo) := PSwk ps_never fun Dn σ H ⟨m, ρ, S, re, rs, h⟩ => h
theorem t_doc {x j pos pos'} : PS X (.Expr (.Constant (.str x) j pos) pos') (rdS (X.cq W) sP) := PSwk ps_doc fun Dn σ H ⟨m, ρ, S, re, rs, h⟩ => h σ H m .refl re rs
theorem t_expr (he : PE X e (rdE (X.cq W) f)) (hs : swapsWith e none pos.line X.env = pure false := by rfl) : PS X (.Expr e pos) (rdS (X.cq W) (sE f)) := PSwk (ps_expr he hs) fun Dn σ H ⟨m, ρ, S, re, rs, q⟩ =>
  ⟨m, ρ, S, re, rs, (Post.out re q).imp fun v H1 ⟨m1, d, S1, e1, rs1, rd, re1, q1⟩ => q1 σ H1 m1 .refl re1 rs1⟩
theorem t_ret (he : PE X e (rdE (X.cq W) f)) : PS X (.Return (some e) pos) (rdS (X.cq W) (sR f)) := PSwk (ps_ret he) fun Dn σ H ⟨m, ρ, S, re, rs, q⟩ =>
  ⟨m, ρ, S, re, rs, (Post.out re q).imp fun v H1 ⟨m1, d, S1, e1, rs1, rd, re1, q1⟩ => q1 v H1 m1 .refl rs1 rd⟩
theorem t_retN : PS X (.Return none pos) (rdS (X.cq W) (sR (eC .non))) := PSwk ps_retN fun Dn σ H ⟨m, ρ, S, re, rs, q⟩ => q .non H m .refl rs .non
theorem t_if (ht : PT X t (rdT (X.cq W) ft)) (ha : PSs X a (rdS (X.cq W) g)) (hb : PSs X b (rdS (X.cq W) h)) : PS X (.If t a b pos) (rdS (X.cq W) (sIf ft g h)) := PSwk (ps_if ht ha hb) fun Dn σ H ⟨m, ρ, S, re, rs, q⟩ =>
  ⟨m, ρ, S, re, rs, (Post.out (rel := relB) re q).imp fun k H1 ⟨m1, k', S1, e1, rs1, ek, re1, q1⟩ => by
    subst ek
    cases k with
    | true => rw [if_pos rfl]; exact ⟨m1, ρ, S1, re1, rs1, q1⟩
    | false => rw [if_neg Bool.false_ne_true]; exact ⟨m1, ρ, S1, re1, rs1, q1⟩⟩
/-! ### targets -/
theorem g_nm {j : Nat} {x : Str} (hN : X.N.Nodup) (hi : X.N[j]? = some x := by rfl) (hx : Loc X.env.scope x := by first | exact .inl rfl | exact .inr rfl) (hf : X.fn x = true ∨ X.env.scope.names.lookup x = some .local := by first | exact .inl rfl | exact .inr rfl) :
    PG X (.Name x pos) (rdG (X.cq W) (nm j)) := PGwk (pg_name hN hi hx hf) fun v σ H Q ⟨m, ρ, S, d, re, rs, rd, q⟩ => q _ H m .refl (re.set rd j) rs
def rdGs (c : Cq) (tg : List D → SX) : TGs := fun vs σ H Q => ∃ m ρ S ds, RE c.K m H σ ρ ∧ RS c.K m H S ∧ RDs c.K m H vs ds ∧ PostS c m H { nx := Q, rt := fun _ _ => False } (tg ds ρ S)
theorem g_nil : PGs X [] (rdGs (X.cq W) (tgL [])) := ⟨fun pins s σ H vs us Q I r ⟨m, ρ, S, ds, re, rs, rd, q⟩ => pgs_nil.run pins s σ H vs us Q I r (by
  cases rd with
  | nil => exact ⟨rfl, q σ H m .refl re rs⟩
  | cons _ _ => exact q.elim)⟩
theorem g_cons {es : List Expr} {tg : D → SX} {ts : List (D → SX)} (h1 : PG X e (rdG (X.cq W) tg)) (h2 : PGs X es (rdGs (X.cq W) (tgL ts)))
    (hs : (assignEach (e :: es) X.env).map (·.2) = assign e X.env :: (assignEach es X.env).map (·.2) := by rfl) : PGs X (e :: es) (rdGs (X.cq W) (tgL (tg :: ts))) := ⟨fun pins s σ H vs us Q I r ⟨m, ρ, S, ds, re, rs, rd, q⟩ =>
  (pgs_cons h1 h2 hs).run pins s σ H vs us Q I r (by
    cases rd with
    | nil => exact q.elim
    | @cons v d vs ds hd hds =>
      refine ⟨v, vs, rfl, m, ρ, S, d, re, rs, hd, ?_⟩
      have q : PostS (X.cq W) m H { nx := Q, rt := fun _ _ => False } (match tg d ρ S with
        | .nx ρ' S' => tgL ts ds ρ' S'
        | .ex x ρ' S' => .ex x ρ' S'
        | _ => .no) := q
      cases eo : tg d ρ S with
      | nx ρ' S' =>
        rw [eo] at q
        exact fun σ' H' m' e' re' rs' => ⟨m', ρ', S', ds, re', rs', hds.mono e', PostS.mono e' q⟩
      | ex x ρ' S' => rw [eo] at q; exact q
      | _ => rw [eo] at q; exact q.elim)⟩
theorem g_tup {es : List Expr} {k : Nat} {ts : List (D → SX)} (hc : X.calm = true) (h : PGs X es (rdGs (X.cq W) (tgL ts))) (hl : ts.length = es.length := by rfl)
    (hn : (assignEach es X.env).length = es.length := by rfl) (hst : (assignEach es X.env).findIdx? (·.1) = none := by rfl) : PG X (.Tuple es k pos) (rdG (X.cq W) (tgT ts)) := PGwk (pg_tup hc h hn hst) fun v σ H Q ⟨m, ρ, S, d, re, rs, rd, q⟩ => by
  cases rd with
  | @tup a vs ds ht r =>
    have q : PostS (X.cq W) m H { nx := Q, rt := fun _ _ => False } ((if ds.length = ts.length then tgL ts ds else sNo) ρ S) := q
    by_cases hz : ds.length = ts.length
    · rw [if_pos hz] at q
      exact ⟨a, vs, rfl, ht.sq, by rw [r.length, hz, hl], m, ρ, S, ds, re, rs, r, q⟩
    · rw [if_neg hz] at q
      exact q.elim
  | _ => exact q.elim
theorem g_ix (ho : PE X o (rdE (X.cq W) fo)) (hi : PE X i (rdE (X.cq W) fi))
    (ha : ∀ v, assign (.Subscript o i pos) X.env v = (do
      let ov ← holding [v] (eval o X.env)
      let iv ← holding [v, ov] (eval i X.env)
      standAt pos
      holding [v, ov, iv] (setItem ov iv v)
      release [v, ov, iv] []) := by intro _; rfl) : PG X (.Subscript o i pos) (rdG (X.cq W) (tgIx fo fi)) := PGwk (pg_sub ho hi p_set ha) fun v σ H Q ⟨m, ρ, S, d, re, rs, rd, q⟩ =>
  ⟨m, ρ, S, re, rs, (Post.out re q).imp fun vo H1 ⟨m1, x, S1, e1, rs1, rx, re1, q1⟩ => ⟨m1, ρ, S1, re1, rs1, (Post.out re1 q1).imp fun vi H2 ⟨m2, y, S2, e2, rs2, ry, re2, q2⟩ => by
    refine ⟨m2, x, y, d, S2, rx.mono e2, ry, (rd.mono e1).mono e2, rs2, ?_⟩
    cases eg : gSet x y d S2 with
    | none => rw [eg] at q2; exact q2.elim
    | some S3 =>
      rw [eg] at q2
      exact fun H3 m3 e3 rs3 => q2 σ H3 m3 e3 (re2.mono e3) rs3⟩⟩
/-- target = value -/
theorem t_asg {tg : Expr} {G : D → SX} (he : PE X e (rdE (X.cq W) f)) (hg : PG X tg (rdG (X.cq W) G)) (hs : swapsWithSole [tg] e pos.line X.env = pure false := by rfl) (hw : swappedStores [tg] e X.env = pure none := by rfl)
    (h1 : (assignEach [tg] X.env).map (·.2) = [assign tg X.env] := by rfl) : PS X (.Assign [tg] e pos) (rdS (X.cq W) (sA f G)) := PSwk (ps_asg he hg hs hw h1) fun Dn σ H ⟨m, ρ, S, re, rs, q⟩ =>
  ⟨m, ρ, S, re, rs, (Post.out re q).imp fun v H1 ⟨m1, d, S1, e1, rs1, rd, re1, q1⟩ => ⟨m1, ρ, S1, d, re1, rs1, rd, by
    cases eo : G d ρ S1 with
    | nx ρ' S' => rw [eo] at q1; exact q1
    | ex x ρ' S' => rw [eo] at q1; exact q1
    | _ => rw [eo] at q1; exact q1.elim⟩⟩
theorem t_set {j : Nat} {x : Str} {pos' : Pos} (hN : X.N.Nodup) (he : PE X e (rdE (X.cq W) f)) (hi : X.N[j]? = some x := by rfl) (hx : Loc X.env.scope x := by first | exact .inl rfl | exact .inr rfl) (hs : swapsWith e (some (.Name x pos')) pos.line X.env = pure false := by rfl)
    (hf : X.fn x = true ∨ X.env.scope.names.lookup x = some .local := by first | exact .inl rfl | exact .inr rfl) : PS X (.Assign [.Name x pos'] e pos) (rdS (X.cq W) (sN j f)) := PSwk (ps_set hN hi hx he hs hf) fun Dn σ H ⟨m, ρ, S, re, rs, q⟩ =>
  ⟨m, ρ, S, re, rs, (Post.out re q).imp fun v H1 ⟨m1, d, S1, e1, rs1, rd, re1, q1⟩ => q1 _ H1 m1 .refl (re1.set rd j) rs1⟩
end
end Dl

set_option Elab.async false
set_option linter.all false
set_option maxRecDepth 100000
namespace Dl
open PySem PySem.Spec PyProof.Rows L2

/-! ## what is walked -/
/-- lists that must stand as they are while they are walked -/
abbrev Chk := List (Nat × List D)
def chkOk (k : Chk) (S : Store) : Prop := ∀ p ∈ k, lstAt S p.1 = some p.2
/-- the items, and what must stand -/
abbrev IX := Env → Store → R (List D × Chk)
def ItOk (K : PySem.W.Frag) (m0 : List Addr) (H0 : Hp) (J : It) (xs : List D) (k : Chk) : Prop :=
  ∀ (i : Nat) (m : List Addr) (H : Hp) (S : Store), Ext K m0 H0 m H → RS K m H S → chkOk k S →
    (∀ d, xs[i]? = some d → J.go i H ∧ ∀ x H', J.yld i H x H' → ∃ m', Ext K m H m' H' ∧ RS K m' H' S ∧ RD K m' H' x d) ∧ (xs.length ≤ i → J.stop i H)
def PostI (c : Cq) (m : List Addr) (H : Hp) (σ : L2.St) (R' : It → Hp → Prop) : R (List D × Chk) → Prop
  | .ok p S' => ∀ J H' m', Ext c.K m H m' H' → RS c.K m' H' S' → ItOk c.K m' H' J p.1 p.2 → R' J H'
  | .ex x S' => ∀ cls dd H' m', Ext c.K m H m' H' → RS c.K m' H' S' → RX c m' H' x cls dd → c.W cls dd σ H'
  | .no => False
theorem PostI.mono {c : Cq} {m m1 : List Addr} {H H1 : Hp} {σ : L2.St} {R' : It → Hp → Prop} {r : R (List D × Chk)} (e : Ext c.K m H m1 H1) (h : PostI c m H σ R' r) : PostI c m1 H1 σ R' r := by
  cases r with
  | ok p S2 => exact fun J H2 m2 e2 => h J H2 m2 (e.trans e2)
  | ex x S2 => exact fun cls dd H2 m2 e2 => h cls dd H2 m2 (e.trans e2)
  | no => exact h
def rdI (c : Cq) (src : IX) : TI := fun σ H R' => ∃ m ρ S, RE c.K m H σ ρ ∧ RS c.K m H S ∧ PostI c m H σ R' (src ρ S)
def iL (f : EX) : IX := fun ρ S => (f ρ S).bind fun d S1 => match d with
  | .ref l => match lstAt S1 l with
    | some xs => .ok (xs, [(l, xs)]) S1
    | none => .no
  | _ => .no
def iT (f : EX) : IX := fun ρ S => (f ρ S).bind fun d S1 => match d with
  | .tup xs => .ok (xs, []) S1
  | _ => .no
def iS (f : EX) : IX := fun ρ S => (f ρ S).bind fun d S1 => match d with
  | .str x => .ok (x.cps.toList.map fun c => .str ⟨#[c]⟩, []) S1
  | _ => .no
def rng (lo : Int) (n : Nat) : List D := (List.range n).map fun i => .int (lo + (i : Nat))
def iR1 (f : EX) : IX := fun ρ S => (f ρ S).bind fun d S1 => match d with
  | .int j => if -(2 ^ 62) ≤ j ∧ j < 2 ^ 62 then .ok (rng 0 j.toNat, []) S1 else .no
  | _ => .no
def iR2 (f g : EX) : IX := fun ρ S => (f ρ S).bind fun d S1 => (g ρ S1).bind fun e S2 => match d, e with
  | .int i, .int j => if -(2 ^ 62) ≤ i ∧ i < 2 ^ 62 ∧ -(2 ^ 62) ≤ j ∧ j < 2 ^ 62 then .ok (rng i (j - i).toNat, []) S2 else .no
  | _, _ => .no
/-- reversed(..) of a list or a tuple -/
def iV (f : EX) : IX := fun ρ S => (f ρ S).bind fun d S1 => match d with
  | .ref l => match lstAt S1 l with
    | some xs => .ok (xs.reverse, [(l, xs)]) S1
    | none => .no
  | .tup xs => .ok (xs.reverse, []) S1
  | _ => .no
section
variable {X : Cx} {W : WX} {tg e a b : Expr} {f g : EX} {pos p : Pos}
theorem it_list {K : PySem.W.Frag} {m : List Addr} {H : Hp} {a : Addr} {l : Nat} {xs : List D} (h : m[l]? = some a) : ItOk K m H (Itl K a) xs [(l, xs)] := by
  intro i m' H' S e rs hk
  have q := hk (l, xs) (by simp)
  obtain ⟨vs, h1, r⟩ := rs.lst (e.at h) q
  refine ⟨fun d hd => ?_, fun hl => ⟨vs, h1, by rw [r.length]; exact hl⟩⟩
  obtain ⟨v, h2, rd⟩ := r.get hd
  refine ⟨⟨vs, v, h1, h2⟩, fun x H'' y => ?_⟩
  obtain ⟨eH, y⟩ := y
  subst eH
  have z := y vs h1
  rw [h2] at z
  cases z
  exact ⟨m', .refl, rs, rd⟩
theorem it_tup {K : PySem.W.Frag} {m : List Addr} {H : Hp} {a : Addr} {vs : List V} {xs : List D} (h : TupAt K H a vs) (r : RDs K m H vs xs) : ItOk K m H (Itt K a) xs [] := by
  intro i m' H' S e rs hk
  have h1 := (e.tup _ _ h).sq
  have r := r.mono e
  refine ⟨fun d hd => ?_, fun hl => ⟨vs, h1, by rw [r.length]; exact hl⟩⟩
  obtain ⟨v, h2, rd⟩ := r.get hd
  refine ⟨⟨vs, v, h1, h2⟩, fun x H'' y => ?_⟩
  obtain ⟨eH, y⟩ := y
  subst eH
  have z := y vs h1
  rw [h2] at z
  cases z
  exact ⟨m', .refl, rs, rd⟩
theorem it_rng {K : PySem.W.Frag} {m : List Addr} {H : Hp} {lo : Int} {n : Nat} : ItOk K m H (Itr lo n) (rng lo n) [] := by
  intro i m' H' S e rs hk
  unfold rng
  refine ⟨fun d hd => ?_, fun hl => by rw [List.length_map, List.length_range] at hl; exact hl⟩
  have hi : i < n := by have := (List.getElem?_eq_some_iff.mp hd).1; rwa [List.length_map, List.length_range] at this
  rw [List.getElem?_map, List.getElem?_range hi] at hd
  cases hd
  refine ⟨hi, fun x H'' y => ?_⟩
  obtain ⟨eH, y⟩ := y
  subst eH y
  exact ⟨m', .refl, rs, .int _⟩
theorem it_str {K : PySem.W.Frag} {m : List Addr} {H : Hp} {x : Str} : ItOk K m H (Its x) (x.cps.toList.map fun c => .str ⟨#[c]⟩) [] := by
  intro i m' H' S e rs hk
  refine ⟨fun d hd => ?_, fun hl => by rw [List.length_map, Array.length_toList] at hl; exact hl⟩
  rw [List.getElem?_map] at hd
  cases hc : x.cps.toList[i]? with
  | none => rw [hc] at hd; cases hd
  | some c =>
    rw [hc] at hd
    cases hd
    have hi : i < x.cps.size := by have := (List.getElem?_eq_some_iff.mp hc).1; rwa [Array.length_toList] at this
    refine ⟨hi, fun v H'' y => ?_⟩
    obtain ⟨eH, c', e1, y⟩ := y
    subst eH y
    rw [← Array.getElem?_toList, hc] at e1
    cases e1
    exact ⟨m', .refl, rs, .str (by show (1 : Nat) ≤ _; decide)⟩
theorem get_rev {α : Type} {xs : List α} {i : Nat} {d : α} (h : xs.reverse[i]? = some d) : i < xs.length ∧ xs[xs.length - 1 - i]? = some d := by
  have hi : i < xs.length := by have := (List.getElem?_eq_some_iff.mp h).1; rwa [List.length_reverse] at this
  rw [List.getElem?_reverse hi] at h
  exact ⟨hi, h⟩
theorem it_rev {K : PySem.W.Frag} {m : List Addr} {H : Hp} {a : Addr} {l : Nat} {xs : List D} (h : m[l]? = some a) : ItOk K m H (Itv K a xs.length) xs.reverse [(l, xs)] := by
  intro i m' H' S e rs hk
  have q := hk (l, xs) (by simp)
  obtain ⟨vs, h1, r⟩ := rs.lst (e.at h) q
  refine ⟨fun d hd => ?_, fun hl => by rw [List.length_reverse] at hl; exact hl⟩
  obtain ⟨hi, hd⟩ := get_rev hd
  obtain ⟨v, h2, rd⟩ := r.get hd
  refine ⟨⟨hi, vs, v, h1, h2⟩, fun x H'' y => ?_⟩
  obtain ⟨eH, y⟩ := y
  subst eH
  have z := y vs h1
  rw [h2] at z
  cases z
  exact ⟨m', .refl, rs, rd⟩
theorem it_revT {K : PySem.W.Frag} {m : List Addr} {H : Hp} {a : Addr} {vs : List V} {xs : List D} (h : TupAt K H a vs) (r : RDs K m H vs xs) : ItOk K m H (RT.ItvT K a xs.length) xs.reverse [] := by
  intro i m' H' S e rs hk
  have h1 := (e.tup _ _ h).sq
  have r := r.mono e
  refine ⟨fun d hd => ?_, fun hl => by rw [List.length_reverse] at hl; exact hl⟩
  obtain ⟨hi, hd⟩ := get_rev hd
  obtain ⟨v, h2, rd⟩ := r.get hd
  refine ⟨⟨hi, vs, v, h1, h2⟩, fun x H'' y => ?_⟩
  obtain ⟨eH, y⟩ := y
  subst eH
  have z := y vs h1
  rw [h2] at z
  cases z
  exact ⟨m', .refl, rs, rd⟩
/-- from an expression's outcome to what is walked -/
theorem src_bind {α : Type} {β : Type} {c : Cq} {rel : List Addr → Hp → β → α → Prop} {m : List Addr} {H : Hp} {σ : L2.St} {R' : It → Hp → Prop} {r : R α} {k : α → Store → R (List D × Chk)} (h : PostI c m H σ R' (r.bind k)) :
    Post c rel m H σ (fun b H1 => ∃ m1 a S1, Ext c.K m H m1 H1 ∧ RS c.K m1 H1 S1 ∧ rel m1 H1 b a ∧ PostI c m1 H1 σ R' (k a S1)) r := by
  cases r with
  | ok a S => exact fun b H' m' e rs rl => ⟨m', a, S, e, rs, rl, PostI.mono e h⟩
  | ex x S => exact h
  | no => exact h
theorem w_list (he : PE X e (rdE (X.cq W) f)) : PI X tg e (rdI (X.cq W) (iL f)) := PIwk (pi_list he) fun σ H R' ⟨m, ρ, S, re, rs, q⟩ =>
  ⟨m, ρ, S, re, rs, (src_bind (rel := relD (X.cq W)) q).imp fun v H1 ⟨m1, d, S1, e1, rs1, rd, q1⟩ => by
    cases rd with
    | @ref a l hl =>
      simp only at q1
      cases el : lstAt S1 l with
      | none => rw [el] at q1; exact q1.elim
      | some xs =>
        rw [el] at q1
        obtain ⟨vs, h1, r⟩ := rs1.lst hl el
        exact ⟨a, rfl, ⟨vs, h1⟩, q1 _ _ m1 .refl rs1 (it_list hl)⟩
    | _ => exact q1.elim⟩
theorem w_tup (he : PE X e (rdE (X.cq W) f)) : PI X tg e (rdI (X.cq W) (iT f)) := PIwk (pi_tup he) fun σ H R' ⟨m, ρ, S, re, rs, q⟩ =>
  ⟨m, ρ, S, re, rs, (src_bind (rel := relD (X.cq W)) q).imp fun v H1 ⟨m1, d, S1, e1, rs1, rd, q1⟩ => by
    cases rd with
    | @tup a vs ds ht r => exact ⟨a, rfl, ⟨vs, ht.sq⟩, q1 _ _ m1 .refl rs1 (it_tup ht r)⟩
    | _ => exact q1.elim⟩
theorem w_str (he : PE X e (rdE (X.cq W) f)) : PI X tg e (rdI (X.cq W) (iS f)) := PIwk (pi_str he) fun σ H R' ⟨m, ρ, S, re, rs, q⟩ =>
  ⟨m, ρ, S, re, rs, (src_bind (rel := relD (X.cq W)) q).imp fun v H1 ⟨m1, d, S1, e1, rs1, rd, q1⟩ => by
    cases rd with
    | str h => exact ⟨_, rfl, q1 _ _ m1 .refl rs1 it_str⟩
    | _ => exact q1.elim⟩
theorem w_rng1 (hg : Gl X "range") (hm : X.mg "range" = none) (ha : PE X a (rdE (X.cq W) f)) (hs : starEach [a] X.env = [(false, eval a X.env)] := by rfl) (hs2 : starEach [a] X.env = (false, eval a X.env) :: starEach [] X.env := by rfl) : PI X tg (.Call (.Name "range" p) [a] [] pos) (rdI (X.cq W) (iR1 f)) :=
  PIwk (pi_range1 hg hm (pa_cons ha pa_nil hs2) hs) fun σ H R' ⟨m, ρ, S, re, rs, q⟩ => ⟨m, ρ, S, re, rs, (src_bind (rel := relD (X.cq W)) q).imp fun v H1 ⟨m1, d, S1, e1, rs1, rd, q1⟩ => by
    cases rd with
    | int j =>
      simp only at q1
      split at q1
      · rename_i hz
        exact ⟨j, rfl, hz.1, hz.2, q1 _ _ m1 .refl rs1 it_rng⟩
      · exact q1.elim
    | _ => exact q1.elim⟩
theorem w_rng2 (hg : Gl X "range") (hm : X.mg "range" = none) (ha : PE X a (rdE (X.cq W) f)) (hb : PE X b (rdE (X.cq W) g)) (hs : starEach [a, b] X.env = [(false, eval a X.env), (false, eval b X.env)] := by rfl) (hs2 : starEach [b] X.env = [(false, eval b X.env)] := by rfl) (hs4 : starEach [b] X.env = (false, eval b X.env) :: starEach [] X.env := by rfl)
    (hs3 : starEach [a, b] X.env = (false, eval a X.env) :: starEach [b] X.env := by rfl) : PI X tg (.Call (.Name "range" p) [a, b] [] pos) (rdI (X.cq W) (iR2 f g)) :=
  PIwk (pi_range2 hg hm (pa_cons ha (pa_cons hb pa_nil hs4) hs3) hs hs2) fun σ H R' ⟨m, ρ, S, re, rs, q⟩ => ⟨m, ρ, S, re, rs, (src_bind (rel := relD (X.cq W)) q).imp fun v H1 ⟨m1, d, S1, e1, rs1, rd, q1⟩ =>
    ⟨m1, ρ, S1, re.mono e1, rs1, (src_bind (rel := relD (X.cq W)) q1).imp fun u H2 ⟨m2, d2, S2, e2, rs2, rd2, q2⟩ => by
      cases rd with
      | int i =>
        cases rd2 with
        | int j =>
          simp only at q2
          split at q2
          · rename_i hz
            exact ⟨i, j, rfl, hz, q2 _ _ m2 .refl rs2 it_rng⟩
          · exact q2.elim
        | _ => exact q2.elim
      | _ => cases rd2 <;> exact q2.elim⟩⟩
theorem w_rev (hg : Gl X "reversed") (hm : X.mg "reversed" = none) (ha : PE X a (rdE (X.cq W) f)) (hs : starEach [a] X.env = (false, eval a X.env) :: starEach [] X.env := by rfl) : PI X tg (.Call (.Name "reversed" p) [a] [] pos) (rdI (X.cq W) (iV f)) :=
  PIwk (RT.pi_revA hg hm ha hs) fun σ H R' ⟨m, ρ, S, re, rs, q⟩ => ⟨m, ρ, S, re, rs, (src_bind (rel := relD (X.cq W)) q).imp fun v H1 ⟨m1, d, S1, e1, rs1, rd, q1⟩ => by
    cases rd with
    | @ref a l hl =>
      simp only at q1
      cases el : lstAt S1 l with
      | none => rw [el] at q1; exact q1.elim
      | some xs =>
        rw [el] at q1
        obtain ⟨vs, h1, r⟩ := rs1.lst hl el
        exact ⟨a, vs, rfl, .inl ⟨h1, by rw [r.length]; exact q1 _ _ m1 .refl rs1 (it_rev hl)⟩⟩
    | @tup a vs ds ht r => exact ⟨a, vs, rfl, .inr ⟨ht.sq, by rw [r.length]; exact q1 _ _ m1 .refl rs1 (it_revT ht r)⟩⟩
    | _ => exact q1.elim⟩
end

/-! ## for, while -/
open Classical in
noncomputable def runF (tg : D → SX) (body : SX) (k : Chk) : List D → Env → Store → Out
  | [], ρ, S => if chkOk k S then .nx ρ S else .no
  | d :: ds, ρ, S => if chkOk k S then (match tgO (tg d ρ S) with
    | .nx ρ1 S1 => match body ρ1 S1 with
      | .nx ρ2 S2 => runF tg body k ds ρ2 S2
      | .ct ρ2 S2 => runF tg body k ds ρ2 S2
      | .bk ρ2 S2 => .nx ρ2 S2
      | o => o
    | o => o) else .no
noncomputable def sF (src : IX) (tg : D → SX) (body : SX) : SX := fun ρ S => (src ρ S).out ρ fun p S1 => runF tg body p.2 p.1 ρ S1
def runW (t : TX) (body : SX) : Nat → Env → Store → Out
  | 0, _, _ => .no
  | n + 1, ρ, S => (t ρ S).out ρ fun b S1 => if b then (match body ρ S1 with
      | .nx ρ2 S2 => runW t body n ρ2 S2
      | .ct ρ2 S2 => runW t body n ρ2 S2
      | .bk ρ2 S2 => .nx ρ2 S2
      | o => o) else .nx ρ S1
def sW (n : Nat) (t : TX) (body : SX) : SX := fun ρ S => runW t body n ρ S
section
variable {X : Cx} {W : WX} {tg iter t : Expr} {body : List Stmt} {src : IX} {G : D → SX} {g : SX} {ft : TX} {pos : Pos}
theorem t_for (hp : PassesOwn (model X.prog X.w) X.A X.env X.xe) (hc : X.calm = true) (hi : PI X tg iter (rdI (X.cq W) src)) (hg : PG X tg (rdG (X.cq W) G)) (hb : PSs X body (rdS (X.cq W) g))
    (hs : ∀ x, foldedSetIterable iter X.env x = pure x := by intro _; rfl) : PS X (.For tg iter body [] pos) (rdS (X.cq W) (sF src G g)) := PSwk (ps_for hp hc hi hg hb hs) fun Dn σ H ⟨m, ρ, S, re, rs, q⟩ => by
  refine ⟨m, ρ, S, re, rs, ?_⟩
  have q : PostS (X.cq W) m H Dn ((src ρ S).out ρ fun p S1 => runF G g p.2 p.1 ρ S1) := q
  cases es : src ρ S with
  | no => rw [es] at q; exact q.elim
  | ex x S' => rw [es] at q; exact fun cls dd H' m' e rs' rx => q cls dd σ H' m' e (re.mono e) rs' rx
  | ok p S' =>
    obtain ⟨xs, k⟩ := p
    rw [es] at q
    have q : PostS (X.cq W) m H Dn (runF G g k xs ρ S') := q
    intro J H1 m1 e1 rs1 it
    refine ⟨fun i n σ' H' => ∃ mm ρ' S', Ext X.K m1 H1 mm H' ∧ RE X.K mm H' σ' ρ' ∧ RS X.K mm H' S' ∧ n = xs.length - i ∧ i ≤ xs.length ∧ PostS (X.cq W) mm H' Dn (runF G g k (xs.drop i) ρ' S'),
      ⟨xs.length, m1, ρ, S', .refl, re.mono e1, rs1, by simp, Nat.zero_le _, by simpa using PostS.mono e1 q⟩, ?_⟩
    rintro i n σ' H' ⟨mm, ρ', S', e2, re2, rs2, rfl, hi, q2⟩
    by_cases hlt : i < xs.length
    · rw [List.drop_eq_getElem_cons hlt] at q2
      unfold runF at q2
      split at q2
      · rename_i hk
        obtain ⟨go, yl⟩ := (it i mm H' S' e2 rs2 hk).1 xs[i] (List.getElem?_eq_getElem hlt)
        refine .inr ⟨go, fun σ3 H3 => ∃ mm ρ' S', Ext X.K m1 H1 mm H3 ∧ RE X.K mm H3 σ3 ρ' ∧ RS X.K mm H3 S' ∧ PostS (X.cq W) mm H3 Dn (runF G g k (xs.drop (i + 1)) ρ' S'), fun σ3 H3 ⟨mm3, ρ3, S3, e3, re3, rs3, q3⟩ => ⟨xs.length - (i + 1), by omega, mm3, ρ3, S3, e3, re3, rs3, rfl, hlt, q3⟩, fun x H4 y => ?_⟩
        obtain ⟨m4, e4, rs4, rd4⟩ := yl x H4 y
        have q2 := PostS.mono e4 q2
        refine ⟨m4, ρ', S', xs[i], re2.mono e4, rs4, rd4, ?_⟩
        cases eo : G xs[i] ρ' S' with
        | nx ρ5 S5 =>
          rw [eo] at q2
          intro σ5 H5 m5 e5 re5 rs5
          have q2 : PostS (X.cq W) m5 H5 Dn (match g ρ5 S5 with
            | .nx ρ2 S2 => runF G g k (xs.drop (i + 1)) ρ2 S2
            | .ct ρ2 S2 => runF G g k (xs.drop (i + 1)) ρ2 S2
            | .bk ρ2 S2 => .nx ρ2 S2
            | o => o) := PostS.mono e5 q2
          refine ⟨m5, ρ5, S5, re5, rs5, ?_⟩
          have e15 : Ext X.K m1 H1 m5 H5 := (e2.trans e4).trans e5
          cases eb : g ρ5 S5 with
          | nx ρ6 S6 => rw [eb] at q2; exact fun σ6 H6 m6 e6 re6 rs6 => ⟨m6, ρ6, S6, e15.trans e6, re6, rs6, PostS.mono e6 q2⟩
          | ct ρ6 S6 => rw [eb] at q2; exact fun σ6 H6 m6 e6 re6 rs6 => ⟨m6, ρ6, S6, e15.trans e6, re6, rs6, PostS.mono e6 q2⟩
          | bk ρ6 S6 => rw [eb] at q2; exact q2
          | rt d S6 => rw [eb] at q2; exact q2
          | ex x ρ6 S6 => rw [eb] at q2; exact q2
          | no => rw [eb] at q2; exact q2
        | ex x ρ5 S5 => rw [eo] at q2; exact q2
        | _ => rw [eo] at q2; exact q2.elim
      · exact q2.elim
    · have hz : i = xs.length := by omega
      subst hz
      rw [List.drop_length] at q2
      unfold runF at q2
      split at q2
      · rename_i hk
        exact .inl ⟨(it xs.length mm H' S' e2 rs2 hk).2 (Nat.le_refl _), q2 σ' H' mm .refl re2 rs2⟩
      · exact q2.elim
theorem t_while (n : Nat) (hp : PassesOwn (model X.prog X.w) X.A X.env X.xe) (ht : PT X t (rdT (X.cq W) ft)) (hb : PSs X body (rdS (X.cq W) g)) : PS X (.While t body [] pos) (rdS (X.cq W) (sW n ft g)) := PSwk (ps_while hp ht hb) fun Dn σ H ⟨m, ρ, S, re, rs, q⟩ => by
  refine ⟨fun i σ' H' => ∃ mm ρ' S', RE X.K mm H' σ' ρ' ∧ RS X.K mm H' S' ∧ PostS (X.cq W) mm H' Dn (runW ft g i ρ' S'), ⟨n, m, ρ, S, re, rs, q⟩, ?_⟩
  rintro i σ' H' ⟨mm, ρ', S', re', rs', q'⟩
  cases i with
  | zero => exact q'.elim
  | succ i =>
    refine ⟨mm, ρ', S', re', rs', (Post.out (rel := relB) re' q').imp fun b H1 ⟨m1, b', S1, e1, rs1, eb, re1, q1⟩ => ?_⟩
    subst eb
    cases b with
    | false => rw [if_neg Bool.false_ne_true] at q1 ⊢; exact q1 σ' H1 m1 .refl re1 rs1
    | true =>
      rw [if_pos rfl] at q1 ⊢
      refine ⟨fun σ3 H3 => ∃ mm ρ' S', RE X.K mm H3 σ3 ρ' ∧ RS X.K mm H3 S' ∧ PostS (X.cq W) mm H3 Dn (runW ft g i ρ' S'), fun σ3 H3 h => ⟨i, Nat.lt_succ_self _, h⟩, m1, ρ', S1, re1, rs1, ?_⟩
      cases eb : g ρ' S1 with
      | nx ρ6 S6 => rw [eb] at q1; exact fun σ6 H6 m6 e6 re6 rs6 => ⟨m6, ρ6, S6, re6, rs6, PostS.mono e6 q1⟩
      | ct ρ6 S6 => rw [eb] at q1; exact fun σ6 H6 m6 e6 re6 rs6 => ⟨m6, ρ6, S6, re6, rs6, PostS.mono e6 q1⟩
      | bk ρ6 S6 => rw [eb] at q1; exact q1
      | rt d S6 => rw [eb] at q1; exact q1
      | ex x ρ6 S6 => rw [eb] at q1; exact q1
      | no => rw [eb] at q1; exact q1
end
end Dl

set_option Elab.async false
set_option linter.all false
set_option maxRecDepth 100000
namespace Dl
open PySem PySem.Spec PyProof.Rows L2

/-! ## list comprehensions: the target is names -/
/-- the slots of a comprehension's target: one name, or several -/
inductive Cg where
  | one (j : Nat) | many (js : List Nat)
def setsD (ρ : Env) : List Nat → List D → Env
  | j :: js, d :: ds => setsD (ρ.set j (some d)) js ds
  | _, _ => ρ
def Cg.put : Cg → D → Env → Option Env
  | .one j, d, ρ => some (ρ.set j (some d))
  | .many js, .tup ds, ρ => if ds.length = js.length then some (setsD ρ js ds) else none
  | _, _, _ => none
def Cg.slots : Cg → List Nat
  | .one j => [j]
  | .many js => js
def gNs : List Nat → TGs
  | [] => gNil
  | j :: js => gCons (gName j) (gNs js)
def Cg.tg (K : PySem.W.Frag) : Cg → TG
  | .one j => gName j
  | .many js => L2.gTup K js.length (gNs js)
open Classical in
noncomputable def runC (l : Nat) (ρ : Env) (g : Cg) (ft : TX) (fe : EX) (k : Chk) : List D → Store → R D
  | [], S => if chkOk k S then .ok (.ref l) S else .no
  | d :: ds, S => if chkOk k S then (match g.put d ρ with
    | some ρ1 => match ft ρ1 S with
      | .ok true S2 => match fe ρ1 S2 with
        | .ok e S3 => match S3[l]? with
          | some (.lst acc) => if acc.length < LIM then runC l ρ g ft fe k ds (S3.set l (.lst (acc ++ [e]))) else .no
          | _ => .no
        | _ => .no
      | .ok false S2 => runC l ρ g ft fe k ds S2
      | _ => .no
    | none => .no) else .no
/-- [elt for .. in .. if ..] -/
noncomputable def eLc (vs : List Nat) (src : IX) (g : Cg) (ft : TX) (fe : EX) : EX := fun ρ S => (src ρ S).bind fun p S1 => runC S1.length (wipeD ρ vs) g ft fe p.2 p.1 (S1 ++ [.lst []])
def tYesD : TX := fun _ S => .ok true S
section
theorem wipe_get {σ : L2.St} : ∀ {vs : List Nat} {i : Nat}, i ∈ vs → i < σ.length → (wipe σ vs)[i]? = some none
  | v :: vs, i, h, hl => by
    unfold wipe
    by_cases e : v = i
    · subst e
      exact List.getElem?_set_self (by rw [wipe_length]; exact hl)
    · rw [List.getElem?_set_ne e]
      rcases List.mem_cons.mp h with z | z
      · exact absurd z.symm e
      · exact wipe_get z hl
theorem wipe_out {σ : L2.St} : ∀ {vs : List Nat} {i : Nat}, i ∉ vs → (wipe σ vs)[i]? = σ[i]?
  | [], _, _ => rfl
  | v :: vs, i, h => by
    unfold wipe
    have e : v ≠ i := fun z => h (by simp [z])
    rw [List.getElem?_set_ne e]
    exact wipe_out fun z => h (List.mem_cons_of_mem _ z)
/-- slots among vs do not count -/
theorem wipe_same {σ σ' : L2.St} {vs : List Nat} (hl : σ'.length = σ.length) (h : ∀ i, i ∉ vs → σ'[i]? = σ[i]?) : wipe σ' vs = wipe σ vs := by
  apply List.ext_getElem?
  intro i
  by_cases hi : i ∈ vs
  · by_cases hz : i < σ.length
    · rw [wipe_get hi hz, wipe_get hi (by omega)]
    · rw [List.getElem?_eq_none (by rw [wipe_length]; omega), List.getElem?_eq_none (by rw [wipe_length]; omega)]
  · rw [wipe_out hi, wipe_out hi, h i hi]
def setsV (σ : L2.St) : List Nat → List V → L2.St
  | j :: js, v :: vs => setsV (σ.set j (some v)) js vs
  | _, _ => σ
theorem setsV_length : ∀ {js : List Nat} {ws : List V} {σ : L2.St}, (setsV σ js ws).length = σ.length
  | [], _, _ => rfl
  | _ :: _, [], _ => rfl
  | j :: js, w :: ws, σ => by
    show (setsV (σ.set j (some w)) js ws).length = _
    rw [setsV_length, List.length_set]
theorem setsV_out : ∀ {js : List Nat} {ws : List V} {σ : L2.St} {i : Nat}, i ∉ js → (setsV σ js ws)[i]? = σ[i]?
  | [], _, _, _, _ => rfl
  | _ :: _, [], _, _, _ => rfl
  | j :: js, w :: ws, σ, i, h => by
    show (setsV (σ.set j (some w)) js ws)[i]? = _
    rw [setsV_out fun z => h (List.mem_cons_of_mem _ z), List.getElem?_set_ne fun z => h (by simp [z])]
theorem RE.sets {K : PySem.W.Frag} {m : List Addr} {H : Hp} : ∀ {js : List Nat} {ws : List V} {ds : List D} {σ : L2.St} {ρ : Env}, RE K m H σ ρ → RDs K m H ws ds → RE K m H (setsV σ js ws) (setsD ρ js ds)
  | [], _, _, _, _, re, .nil => re
  | [], _, _, _, _, re, .cons _ _ => re
  | _ :: _, _, _, _, _, re, .nil => re
  | j :: js, _, _, _, _, re, .cons h t => by
    have q := RE.sets (js := js) (re.set h j) t
    exact q
theorem gNs_of {js : List Nat} : ∀ {ws : List V} {σ : L2.St} {H : Hp} {Q : L2.St → Hp → Prop}, ws.length = js.length → Q (setsV σ js ws) H → gNs js ws σ H Q := by
  induction js with
  | nil =>
    intro ws σ H Q hl q
    cases ws with
    | nil => exact ⟨rfl, q⟩
    | cons _ _ => cases hl
  | cons j js ih =>
    intro ws σ H Q hl q
    cases ws with
    | nil => cases hl
    | cons w ws => exact ⟨w, ws, rfl, ih (Nat.succ.inj hl) q⟩
theorem cg_of {K : PySem.W.Frag} {m : List Addr} {H : Hp} {g : Cg} {v : V} {d : D} {σ : L2.St} {ρ ρ1 : Env} {vs : List Nat} (hs : ∀ j ∈ g.slots, j ∈ vs) (re : RE K m H σ ρ) (rd : RD K m H v d) (hp : g.put d ρ = some ρ1) {Q : L2.St → Hp → Prop}
    (q : ∀ σ1, RE K m H σ1 ρ1 → wipe σ1 vs = wipe σ vs → Q σ1 H) : g.tg K v σ H Q := by
  cases g with
  | one j =>
    cases hp
    refine q _ (re.set rd j) (wipe_same (List.length_set ..) fun i hi => List.getElem?_set_ne fun z => hi (hs i ?_))
    rw [z]
    exact List.mem_singleton.mpr rfl
  | many js =>
    cases rd with
    | @tup a ws ds ht r =>
      have hp : (if ds.length = js.length then some (setsD ρ js ds) else none) = some ρ1 := hp
      split at hp
      · rename_i hz
        cases hp
        refine ⟨a, ws, rfl, ht.sq, by rw [r.length]; exact hz, gNs_of (by rw [r.length]; exact hz) (q _ (re.sets r) (wipe_same setsV_length fun i hi => setsV_out fun z => hi (hs i z)))⟩
      · cases hp
    | _ => cases hp
variable {X : Cx} {W : WX}
theorem lc_read {src : IX} {g : Cg} {ft : TX} {fe : EX} {vs : List Nat} (hs : ∀ j ∈ g.slots, j ∈ vs) (σ : L2.St) (H : Hp) (Q : VK) (h : rdE (X.cq W) (eLc vs src g ft fe) σ H Q) :
    tLc (rdI (X.cq W) src) (g.tg X.K) (rdT (X.cq W0) ft) (rdE (X.cq W0) fe) vs σ H Q := by
  obtain ⟨m, ρ, S, re, rs, h⟩ := h
  refine ⟨m, ρ, S, re, rs, ?_⟩
  have h : Post (X.cq W) (relD (X.cq W)) m H σ Q ((src ρ S).bind fun p S1 => runC S1.length (wipeD ρ vs) g ft fe p.2 p.1 (S1 ++ [.lst []])) := h
  cases es : src ρ S with
  | no => rw [es] at h; exact h.elim
  | ex x S' => rw [es] at h; exact h
  | ok p S' =>
    obtain ⟨xs, k⟩ := p
    rw [es] at h
    intro J H1 m1 e1 rs1 it D hD
    have h : Post (X.cq W) (relD (X.cq W)) m1 H1 σ Q (runC S'.length (wipeD ρ vs) g ft fe k xs (S' ++ [.lst []])) := Post.mono e1 h
    obtain ⟨e2, rs2⟩ := rs1.push (o := .lst []) (c := .lst []) hD fun m' e' => ⟨[], upd_same, .nil⟩
    have hl : (m1 ++ [D])[S'.length]? = some D := by
      rw [← rs1.len, List.getElem?_append_right (Nat.le_refl _), Nat.sub_self]
      rfl
    have re0 := re.mono e1
    refine ⟨fun i n H' => ∃ mm S2, Ext X.K m1 H1 mm H' ∧ RS X.K mm H' S2 ∧ mm[S'.length]? = some D ∧ n = xs.length - i ∧ i ≤ xs.length ∧ Post (X.cq W) (relD (X.cq W)) mm H' σ Q (runC S'.length (wipeD ρ vs) g ft fe k (xs.drop i) S2),
      ⟨xs.length, m1 ++ [D], S' ++ [.lst []], e2, rs2, hl, by simp, Nat.zero_le _, by simpa using Post.mono e2 h⟩, ?_⟩
    rintro i n H' ⟨mm, S2, e3, rs3, hl3, rfl, hi, h3⟩
    by_cases hlt : i < xs.length
    · rw [List.drop_eq_getElem_cons hlt] at h3
      unfold runC at h3
      split at h3
      · rename_i hk
        obtain ⟨go, yl⟩ := (it i mm H' S2 e3 rs3 hk).1 xs[i] (List.getElem?_eq_getElem hlt)
        refine .inr ⟨go, fun H3 => ∃ mm S3, Ext X.K m1 H1 mm H3 ∧ RS X.K mm H3 S3 ∧ mm[S'.length]? = some D ∧ Post (X.cq W) (relD (X.cq W)) mm H3 σ Q (runC S'.length (wipeD ρ vs) g ft fe k (xs.drop (i + 1)) S3),
          fun H3 ⟨mm3, S3, a1, a2, a3, a4⟩ => ⟨xs.length - (i + 1), by omega, mm3, S3, a1, a2, a3, rfl, hlt, a4⟩, fun x H4 y => ?_⟩
        obtain ⟨m4, e4, rs4, rd4⟩ := yl x H4 y
        have h3 := Post.mono e4 h3
        cases hp : g.put xs[i] (wipeD ρ vs) with
        | none => rw [hp] at h3; exact h3.elim
        | some ρ1 =>
          rw [hp] at h3
          simp only at h3
          have re4 : RE X.K m4 H4 (wipe σ vs) (wipeD ρ vs) := ((re0.mono e3).mono e4).wipe vs
          refine cg_of hs re4 rd4 hp fun σ1 re1 hw => ⟨by rw [hw]; exact wipe_same (wipe_length σ vs) fun i hi => wipe_out hi, m4, ρ1, S2, re1, rs4, ?_⟩
          cases et : ft ρ1 S2 with
          | no => rw [et] at h3; exact h3.elim
          | ex x S5 => rw [et] at h3; exact h3.elim
          | ok b S5 =>
            rw [et] at h3
            intro b' H5 m5 e5 rs5 eb
            subst eb
            have h3 := Post.mono (c := X.cq W) e5 h3
            have e15 := (e3.trans e4).trans e5
            cases b' with
            | false =>
              rw [if_neg Bool.false_ne_true]
              exact ⟨m5, S5, e15, rs5, e5.at (e4.at hl3), h3⟩
            | true =>
              rw [if_pos rfl]
              simp only at h3
              refine ⟨m5, ρ1, S5, re1.mono e5, rs5, ?_⟩
              cases ee : fe ρ1 S5 with
              | no => rw [ee] at h3; exact h3.elim
              | ex x S6 => rw [ee] at h3; exact h3.elim
              | ok d S6 =>
                rw [ee] at h3
                simp only at h3
                intro v H6 m6 e6 rs6 rd6
                have h3 := Post.mono (c := X.cq W) e6 h3
                have hl6 := e6.at (e5.at (e4.at hl3))
                split at h3
                · rename_i acc ea
                  split at h3
                  · rename_i hz
                    obtain ⟨ws, hw, rw'⟩ := rs6.wlst hl6 ea
                    obtain ⟨e7, rs7⟩ := rs6.write (o := .lst (ws ++ [v])) (c' := .lst (acc ++ [d])) hl6 ea rfl rfl fun ex => ⟨_, upd_same, (rw'.mono ex).append (.one (rd6.mono ex))⟩
                    exact ⟨ws, hw, by rw [rw'.length, ← lim_eq]; exact hz, m6, _, (e15.trans e6).trans e7, rs7, hl6, Post.mono (c := X.cq W) e7 h3⟩
                  · exact h3.elim
                · exact h3.elim
      · exact h3.elim
    · have hz : i = xs.length := by omega
      subst hz
      rw [List.drop_length] at h3
      unfold runC at h3
      split at h3
      · rename_i hk
        exact .inl ⟨(it xs.length mm H' S2 e3 rs3 hk).2 (Nat.le_refl _), h3 _ _ mm .refl rs3 (.ref hl3)⟩
      · exact h3.elim
variable {elt tg iter : Expr} {ifs : List Expr} {scope : Scope} {own : List (Str × Nat)} {pos : Pos} {src : IX} {g : Cg} {ft : TX} {fe : EX}
theorem d_lc (hc : X.calm = true) (hN : X.N.Nodup) (hi : PI X tg iter (rdI (X.cq W) src)) (ok : BlkOk X.N X.env.scope scope own) (hsl : ∀ j ∈ g.slots, j ∈ own.map (·.2))
    (hg : ∀ (s : Shared) (H : Hp) (C : Addr) (cl : List (Str × Addr)) (fp : List Addr), PG (X.blk s H scope (compEnvC scope cl C X.env) fp) tg (g.tg X.K)) (ht : ∀ (s : Shared) (H : Hp) (C : Addr) (cl : List (Str × Addr)) (fp : List Addr), PTs (X.blk s H scope (compEnvC scope cl C X.env) fp) ifs (rdT (X.cq W0) ft))
    (he : ∀ (s : Shared) (H : Hp) (C : Addr) (cl : List (Str × Addr)) (fp : List Addr), PE (X.blk s H scope (compEnvC scope cl C X.env) fp) elt (rdE (X.cq W0) fe)) (hs : ∀ x, foldedSetIterable iter X.env x = pure x := by intro _; rfl) :
    PE X (.ListComp elt [⟨tg, iter, ifs, 0⟩] scope pos) (rdE (X.cq W) (eLc (own.map (·.2)) src g ft fe)) := PEwk (pe_lc hc hN hi ok hg ht he hs) (lc_read hsl)
theorem t_setLc {i : Nat} {y : Str} {py spos : Pos} (hc : X.calm = true) (hN : X.N.Nodup) (hy : X.N[i]? = some y) (hyl : X.env.scope.names.lookup y = some .local)
    (hsw : swapsWith (.ListComp elt [⟨tg, iter, ifs, 0⟩] scope pos) (some (.Name y py)) spos.line X.env = pure true) (hi : PI X tg iter (rdI (X.cq W) src)) (ok : BlkOk X.N X.env.scope scope own) (hsl : ∀ j ∈ g.slots, j ∈ own.map (·.2))
    (hg : ∀ (s : Shared) (H : Hp) (C : Addr) (cl : List (Str × Addr)) (fp : List Addr), PG (X.blk s H scope (compEnvC scope cl C X.env) fp) tg (g.tg X.K)) (ht : ∀ (s : Shared) (H : Hp) (C : Addr) (cl : List (Str × Addr)) (fp : List Addr), PTs (X.blk s H scope (compEnvC scope cl C X.env) fp) ifs (rdT (X.cq W0) ft))
    (he : ∀ (s : Shared) (H : Hp) (C : Addr) (cl : List (Str × Addr)) (fp : List Addr), PE (X.blk s H scope (compEnvC scope cl C X.env) fp) elt (rdE (X.cq W0) fe)) (hs : ∀ x, foldedSetIterable iter X.env x = pure x := by intro _; rfl) :
    PS X (.Assign [.Name y py] (.ListComp elt [⟨tg, iter, ifs, 0⟩] scope pos) spos) (rdS (X.cq W) (sN i (eLc (own.map (·.2)) src g ft fe))) := PSwk (ps_setLc (i := i) hc hN hy hyl hsw hi ok hg ht he hs) fun Dn σ H ⟨m, ρ, S, re, rs, q⟩ =>
  lc_read hsl σ H _ ⟨m, ρ, S, re, rs, (Post.out (rel := relD (X.cq W)) re q).imp fun v H1 ⟨m1, d, S1, e1, rs1, rd, re1, q1⟩ => q1 _ H1 m1 .refl (re1.set rd i) rs1⟩
theorem u_nil : PTs X [] (rdT (X.cq W) tYesD) := ⟨fun pins s σ H Q I ⟨m, ρ, S, re, rs, h⟩ => pts_nil.run pins s σ H Q I (h _ H m .refl rs rfl)⟩
theorem u_one {c : Expr} (h : PT X c (rdT (X.cq W) ft)) : PTs X [c] (rdT (X.cq W) ft) := pts_one h
theorem v_one {j : Nat} {x : Str} (hN : X.N.Nodup) (hi : X.N[j]? = some x := by rfl) (hx : Loc X.env.scope x := by first | exact .inl rfl | exact .inr rfl) (hf : X.fn x = true ∨ X.env.scope.names.lookup x = some .local := by first | exact .inl rfl | exact .inr rfl) :
    PG X (.Name x pos) ((Cg.one j).tg X.K) := pg_name hN hi hx hf
theorem v_nil : PGs X [] (gNs []) := pgs_nil
theorem v_cons {j : Nat} {js : List Nat} {e : Expr} {es : List Expr} (h1 : PG X e (gName j)) (h2 : PGs X es (gNs js)) (hs : (assignEach (e :: es) X.env).map (·.2) = assign e X.env :: (assignEach es X.env).map (·.2) := by rfl) : PGs X (e :: es) (gNs (j :: js)) := pgs_cons h1 h2 hs
theorem v_many {js : List Nat} {es : List Expr} {k : Nat} (hc : X.calm = true) (h : PGs X es (gNs js)) (hn : (assignEach es X.env).length = js.length := by rfl) (hst : (assignEach es X.env).findIdx? (·.1) = none := by rfl) :
    PG X (.Tuple es k pos) ((Cg.many js).tg X.K) := pg_tup hc h hn hst
end
end Dl

set_option Elab.async false
set_option linter.all false
set_option maxRecDepth 100000
namespace Dl
open PySem PySem.Spec PyProof.Rows L2

/-! ## what a def leaves: new cells that nobody knows are forgotten -/
mutual
def D.wf (n : Nat) : D → Bool
  | .tup xs => wfs n xs
  | .ref l => decide (l < n)
  | _ => true
def wfs (n : Nat) : List D → Bool
  | [] => true
  | x :: xs => x.wf n && wfs n xs
end
def Cell.wf (n : Nat) : Cell → Bool
  | .lst xs => wfs n xs
  | .rol xs => wfs n xs
  | .dic kvs => wfs n (kvs.map (·.2))
  | .gone => true
def SWf (n : Nat) (S : Store) : Bool := S.all (Cell.wf n)
def newCell (n : Nat) : Option Cell → Option Cell
  | some (.lst xs) => if wfs n xs then some (.lst xs) else none
  | some (.dic kvs) => if wfs n (kvs.map (·.2)) then some (.dic kvs) else none
  | _ => none
def cmp (n : Nat) (d : D) (S' : Store) : R D :=
  if SWf n (S'.take n) then
    if d.wf n then .ok d (S'.take n)
    else match d with
      | .ref l => match newCell n (S'[l]?) with
        | some c => .ok (.ref n) (S'.take n ++ [c])
        | none => .ok d S'
      | _ => .ok d S'
  else .ok d S'
def runB (np ns : Nat) (g : SX) (ds : List D) (S : Store) : R D := if ds.length = np then (match g (ds.map some ++ List.replicate (ns - np) none) S with
  | .rt d S' => cmp S.length d S'
  | .nx _ S' => cmp S.length .non S'
  | .ex x _ S' => .ex x S'
  | _ => .no) else .no
section
variable {K : PySem.W.Frag} {m r : List Addr} {H : Hp}
mutual
theorem RD.low : ∀ {v : V} {d : D}, RD K (m ++ r) H v d → d.wf m.length = true → RD K m H v d
  | _, _, .non, _ => .non
  | _, _, .bl b, _ => .bl b
  | _, _, .int b, _ => .int b
  | _, _, .str h, _ => .str h
  | _, _, .tup h t, w => .tup h (RDs.low t w)
  | _, _, .ref h, w => .ref (by
      have w' := of_decide_eq_true w
      rwa [List.getElem?_append_left w'] at h)
  | _, _, .raw v, _ => .raw v
theorem RDs.low : ∀ {vs : List V} {ds : List D}, RDs K (m ++ r) H vs ds → wfs m.length ds = true → RDs K m H vs ds
  | _, _, .nil, _ => .nil
  | _, _, .cons h t, w => by
    have w' := Bool.and_eq_true_iff.mp w
    exact .cons (RD.low h w'.1) (RDs.low t w'.2)
end
theorem CellOk.low {a : Addr} {c : Cell} (h : CellOk K (m ++ r) H a c) (w : c.wf m.length = true) : CellOk K m H a c := by
  cases c with
  | lst xs => obtain ⟨vs, h1, h2⟩ := h; exact ⟨vs, h1, h2.low w⟩
  | rol xs => obtain ⟨vs, h1, h2⟩ := h; exact ⟨vs, h1, h2.low w⟩
  | dic kvs => obtain ⟨vs, h1, h2, h3⟩ := h; exact ⟨vs, h1, h2, h3.low w⟩
  | gone => trivial
theorem RS.low {S : Store} (h : RS K (m ++ r) H S) (w : SWf m.length (S.take m.length) = true) : RS K m H (S.take m.length) := by
  have hl := h.len
  rw [List.length_append] at hl
  have gm : ∀ {l : Nat} {a : Addr}, m[l]? = some a → (m ++ r)[l]? = some a := fun {l a} e => by
    rw [List.getElem?_append_left (List.getElem?_eq_some_iff.mp e).1]
    exact e
  have gS : ∀ {l : Nat} {c : Cell}, (S.take m.length)[l]? = some c → S[l]? = some c := fun {l c} e => by
    have z := (List.getElem?_eq_some_iff.mp e).1
    rw [List.length_take] at z
    rwa [List.getElem?_take_of_lt (by omega)] at e
  refine ⟨by rw [List.length_take]; omega, fun {l a c} h1 h2 => (h.at_ (gm h1) (gS h2)).low (List.all_eq_true.mp w c (List.mem_of_getElem? h2)), fun h1 h2 h3 h4 h5 h6 => h.inj (gm h1) (gm h2) (gS h3) (gS h4) h5 h6⟩
theorem newCell_mut {n : Nat} {o : Option Cell} {c : Cell} (h : newCell n o = some c) : o = some c ∧ c.wf n = true := by
  unfold newCell at h
  split at h
  · split at h
    · cases h; exact ⟨rfl, ‹_›⟩
    · cases h
  · split at h
    · cases h; exact ⟨rfl, ‹_›⟩
    · cases h
  · cases h
/-- new at the end -/
theorem RS.last {S : Store} {l : Nat} {a : Addr} {c : Cell} (h : RS K (m ++ r) H S) (w : SWf m.length (S.take m.length) = true) (hn : m.length ≤ l) (hl : (m ++ r)[l]? = some a) (hc : S[l]? = some c) (wc : c.wf m.length = true) :
    RS K (m ++ [a]) H (S.take m.length ++ [c]) := by
  have b := h.low w
  have hlen := b.len
  have e : Ext K m H (m ++ [a]) H := ⟨⟨[a], rfl⟩, fun _ _ h => h⟩
  have split1 : ∀ {i : Nat} {x : Addr}, (m ++ [a])[i]? = some x → m[i]? = some x ∨ (i = m.length ∧ x = a) := fun {i x} q => by
    by_cases z : i < m.length
    · rw [List.getElem?_append_left z] at q
      exact .inl q
    · have := (List.getElem?_eq_some_iff.mp q).1
      simp at this
      have e : i = m.length := by omega
      subst e
      rw [List.getElem?_append_right (Nat.le_refl _)] at q
      simp at q
      exact .inr ⟨rfl, q.symm⟩
  have split2 : ∀ {i : Nat} {x : Cell}, (S.take m.length ++ [c])[i]? = some x → (i < m.length ∧ (S.take m.length)[i]? = some x) ∨ (i = m.length ∧ x = c) := fun {i x} q => by
    by_cases z : i < m.length
    · rw [List.getElem?_append_left (by rw [← hlen]; exact z)] at q
      exact .inl ⟨z, q⟩
    · have := (List.getElem?_eq_some_iff.mp q).1
      rw [List.length_append, ← hlen] at this
      simp at this
      have e : i = m.length := by omega
      subst e
      rw [List.getElem?_append_right (by rw [← hlen]; exact Nat.le_refl _), ← hlen] at q
      simp at q
      exact .inr ⟨rfl, q.symm⟩
  have gm : ∀ {l : Nat} {a : Addr}, m[l]? = some a → (m ++ r)[l]? = some a := fun {l a} e => by
    rw [List.getElem?_append_left (List.getElem?_eq_some_iff.mp e).1]
    exact e
  have gS : ∀ {l : Nat} {c : Cell}, (S.take m.length)[l]? = some c → S[l]? = some c := fun {l c} e => by
    have z := (List.getElem?_eq_some_iff.mp e).1
    rw [List.length_take] at z
    rwa [List.getElem?_take_of_lt (by omega)] at e
  have lt : ∀ {i : Nat} {x : Addr}, m[i]? = some x → i < m.length := fun {i x} q => (List.getElem?_eq_some_iff.mp q).1
  refine ⟨by rw [List.length_append, List.length_append, ← hlen]; rfl, fun {i x y} h1 h2 => ?_, fun {i i' x y y'} h1 h2 h3 h4 h5 h6 => ?_⟩
  · rcases split1 h1 with q1 | ⟨q1, rfl⟩
    · rcases split2 h2 with ⟨z, q2⟩ | ⟨q2, rfl⟩
      · exact (b.at_ q1 q2).mono e (fun _ => rfl) fun _ z => z
      · exact absurd (lt q1) (by omega)
    · rcases split2 h2 with ⟨z, q2⟩ | ⟨q2, rfl⟩
      · exact absurd z (by omega)
      · exact ((h.at_ hl hc).low wc).mono e (fun _ => rfl) fun _ z => z
  · rcases split1 h1 with q1 | ⟨q1, e1⟩
    · rcases split2 h3 with ⟨z, q3⟩ | ⟨q3, _⟩
      · rcases split1 h2 with q2 | ⟨q2, e2⟩
        · rcases split2 h4 with ⟨z', q4⟩ | ⟨q4, _⟩
          · exact b.inj q1 q2 q3 q4 h5 h6
          · exact absurd (lt q2) (by omega)
        · rcases split2 h4 with ⟨z', q4⟩ | ⟨q4, e4⟩
          · exact absurd z' (by omega)
          · subst e2 e4
            have := h.inj (gm q1) hl (gS q3) hc h5 h6
            have := lt q1
            omega
      · exact absurd (lt q1) (by omega)
    · rcases split2 h3 with ⟨z, q3⟩ | ⟨q3, e3⟩
      · exact absurd z (by omega)
      · rcases split1 h2 with q2 | ⟨q2, e2⟩
        · rcases split2 h4 with ⟨z', q4⟩ | ⟨q4, _⟩
          · subst e1 e3
            have := h.inj hl (gm q2) hc (gS q4) h5 h6
            have := lt q2
            omega
          · exact absurd (lt q2) (by omega)
        · omega
end
theorem cmp_post {c : Cq} {m m' : List Addr} {H H' : Hp} {v : V} {d : D} {S S' : Store} {Q : VK} {σ : L2.St} (hm : m.length = S.length) (e : Ext c.K m H m' H') (rs : RS c.K m' H' S') (rd : RD c.K m' H' v d) (h : Post c (relD c) m H σ Q (cmp S.length d S')) : Q v H' := by
  obtain ⟨⟨r, rfl⟩, et⟩ := e
  rw [← hm] at h
  unfold cmp at h
  have e0 : Ext c.K m H m H' := ⟨⟨[], by simp⟩, et⟩
  have same : Post c (relD c) m H σ Q (.ok d S') → Q v H' := fun h => h v H' _ ⟨⟨r, rfl⟩, et⟩ rs rd
  split at h
  · rename_i w
    split at h
    · rename_i wd
      exact h v H' m e0 (rs.low w) (rd.low wd)
    · rename_i wd
      split at h
      · rename_i l
        split at h
        · rename_i cl hc
          obtain ⟨q1, q2⟩ := newCell_mut hc
          cases rd with
          | @ref a _ hl =>
            have hn : m.length ≤ l := by
              have := mt (fun z => decide_eq_true z) (show ¬ (D.ref l).wf m.length = true from wd)
              omega
            refine h _ H' (m ++ [a]) ⟨⟨[a], rfl⟩, et⟩ (rs.last w hn hl q1 q2) (.ref ?_)
            rw [List.getElem?_append_right (Nat.le_refl _), Nat.sub_self]
            rfl
        · exact same h
      · exact same h
  · exact same h
theorem re_start {K : PySem.W.Frag} {m : List Addr} {H : Hp} {N : List Str} {vs : List V} {ds : List D} (r : RDs K m H vs ds) : RE K m H (L2.start N vs) (ds.map some ++ List.replicate (N.length - ds.length) none) := by
  unfold L2.start
  have hl := r.length
  refine ⟨by simp [hl], fun {i d} h => ?_⟩
  by_cases z : i < ds.length
  · rw [List.getElem?_append_left (by simpa using z), List.getElem?_map] at h
    cases e : ds[i]? with
    | none => rw [e] at h; cases h
    | some d' =>
      rw [e] at h
      cases h
      obtain ⟨v, h1, h2⟩ := r.get e
      refine ⟨v, ?_, h2⟩
      rw [List.getElem?_append_left (by simp [hl]; exact z), List.getElem?_map, h1]
      rfl
  · rw [List.getElem?_append_right (by simpa using z), List.getElem?_replicate] at h
    split at h <;> cases h
theorem passB {X : Cx} {σ : L2.St} : PassesAt (L2.CX X.prog X.w) X σ (WE W0 σ) := fun _ _ _ _ _ _ h => by
  obtain ⟨_, _, _, _, _, _, _, _, _, _, _, _, z⟩ := h
  exact z.elim
section
variable {P : Program} {w : World} {K : PySem.W.Frag} {mg : Str → Option Value} {base : Heap}
/-- a def of the text keeps its mirror's promise -/
theorem fn_ok {x qual : Str} {st : Stmt} {f : Addr} {fd : FuncData} {N ps : List Str} {k : Nat} {g : SX} (F : Fun K x qual st f fd) (S : FnScope N ps (defScope st))
    (hbody : ∀ (cdv : Value) (A : Around) (outer : List PySem.Env) (s : Shared) (H : Hp) (E : XK), Room k (A.deeper (envOfC qual (defScope st) s.heap.objs.size f cdv)) →
      PSs (cxOf (L2.CX P w) P w K mg base N qual (defScope st) f cdv A outer s H E) (defBody st) (rdS ⟨K, mg, fun c d _ H => E c d H⟩ g)) :
    FnOk P w K mg base (L2.CX P w) (k + 1) f fd ps (rdF ⟨K, mg, W0⟩ (runB ps.length N.length g)) := by
  refine F.okX S (fun vs H Q E h => ?_) fun cdv A outer s H vs Q E hr h => ⟨_, hbody cdv A outer s H E hr, ?_⟩
  · obtain ⟨m, ds, S, r, rs, h⟩ := h
    rw [r.length]
    unfold runB at h
    split at h
    · assumption
    · exact h.elim
  · obtain ⟨m, ds, S, r, rs, h⟩ := h
    unfold runB at h
    split at h
    · rename_i hl
      refine ⟨m, ds.map some ++ List.replicate (N.length - ps.length) none, S, by rw [← hl]; exact re_start r, rs, ?_⟩
      cases eg : g (ds.map some ++ List.replicate (N.length - ps.length) none) S with
      | rt d S' => rw [eg] at h; exact fun v H' m' e rs' rd => cmp_post (σ := []) rs.len e rs' rd h
      | nx ρ' S' => rw [eg] at h; exact fun σ' H' m' e re' rs' => cmp_post (σ := []) rs.len e rs' .non h
      | ex xx ρ' S' => rw [eg] at h; exact fun cls dd σ' H' m' e re' rs' rx => h cls dd H' m' e rs' rx
      | _ => rw [eg] at h; exact h.elim
    · exact h.elim
/-- none is called with no calls left -/
theorem fn_zero {f : Addr} {fd : FuncData} {ps : List Str} : FnOk P w K mg base (L2.CX P w) 0 f fd ps (rdF ⟨K, mg, W0⟩ fun _ _ => .no) :=
  ⟨fun vs H Q E ⟨m, ds, S, r, rs, h⟩ => h.elim, fun A outer s H args us vs Q E _ _ _ _ ⟨m, ds, S, r, rs, h⟩ => h.elim⟩
end
/-- a promise without exceptions -/
def rdL (K : PySem.W.Frag) (F : List D → M D) : Sp := fun vs H Q _ => ∃ m ds S d S', RDs K m H vs ds ∧ RS K m H S ∧ F ds S = .ok d S' ∧ ∀ v H' m', Ext K m H m' H' → RS K m' H' S' → RD K m' H' v d → Q v H'
theorem rdL_F {K : PySem.W.Frag} {mg : Str → Option Value} {F : List D → M D} {vs : List V} {H : Hp} {Q : VK} {E : XK} (h : rdL K F vs H Q E) : rdF ⟨K, mg, W0⟩ F vs H Q E := by
  obtain ⟨m, ds, S, d, S', r, rs, e, k⟩ := h
  exact ⟨m, ds, S, r, rs, by rw [e]; exact k⟩
/-- THE END: a script's ints, True -/
theorem law_sp {K : PySem.W.Frag} {F : List D → M D} {H : Hp} {a : Addr} {ns : List Int} (hO : Only H) (hS : SqL K H a (ns.map V.int)) (h : ∃ S, F [.ref 0] [.rol (ns.map D.int)] = .ok (.bl true) S) :
    rdL K F [.ref a] H (fun v _ => v = .bl true) fun _ _ _ => False := by
  obtain ⟨S, h⟩ := h
  have rds : ∀ ns : List Int, RDs K [a] H (ns.map V.int) (ns.map D.int) := fun ns => by
    induction ns with
    | nil => exact .nil
    | cons n ns ih => exact .cons (.int n) ih
  have hR : RolAt K H a (ns.map V.int) := by
    rcases hS with hS | hS
    · rcases hS with hS | hS
      · rcases hO a with z | ⟨o, xs, z⟩
        · rw [z] at hS; cases hS
        · rw [z] at hS; cases hS
      · exact .inl hS
    · exact .inr hS
  refine ⟨[a], [.ref 0], [.rol (ns.map D.int)], .bl true, S, .cons (.ref rfl) .nil, ⟨rfl, fun {l a' c} h1 h2 => ?_, fun {l l' a' c c'} h1 h2 h3 h4 h5 h6 => ?_⟩, ?_⟩
  · cases l with
    | zero =>
      simp at h1 h2
      subst h1 h2
      exact ⟨_, hR, rds ns⟩
    | succ l => simp at h1
  · cases l with
    | zero => simp at h3; subst h3; cases h5
    | succ l => simp at h3
  · exact ⟨h, fun v H' m' e rs rd => by cases rd; rfl⟩
end Dl

set_option Elab.async false
set_option linter.all false
set_option maxRecDepth 100000
set_option maxHeartbeats 1000000
namespace Dl
open PySem PySem.Spec PyProof.Rows L2 RT
/-! ## list(reversed(xs)) -/
section
variable {prog : Program} {w : World} {A : Around} {E : Value → Shared → Prop} {s : Shared}
theorem extend_rev {it l S : Addr} {items : Array Value} {res : Value} {c₀ : Nat} {R : Result → Shared → Prop} (hh : A.handled = none) (hit : s.heap.IsRevIter it l ((items.size : Int) - 1)) (hl : s.heap.IsList l items) (hne : l ≠ it) (hn : items.size ≤ sizeLine)
    (hSi : S ≠ it) (hSl : S ≠ l) (hS : s.heap.get? S = some { cls := .type "list", data := .seq #[] c₀ })
    (hR : ∀ h' tk acc c', (∀ b o, b ≠ it → b ≠ S → s.heap.get? b = some o → h'.get? b = some o) → h'.get? S = some { cls := .type "list", dict := none, data := .seq acc c', slots := #[] } →
      ItemsOf (fun i v => items[items.size - 1 - i]? = some v) acc items.size → R (.ok (.ret res)) { s with heap := h', toks := tk }) :
    wpAny (model prog w) A.in1 (Builtin.List.listExtendWith (.ref S) (.ref it) res)
      (fun fin s' => match fin with | .done f => R (.ok f) s' | .again c' => c'.quiet = true ∧ codeAny (model prog w) A c' R s') (fun e s' => R (.error e) s') s := by
  have W := (Walks.listRev (prog := prog) (w := w) (A := A.in1) hh it l hne items).toS
  have hSf : S ∉ [it, l] := by simp only [List.mem_cons, List.not_mem_nil, or_false, not_or]; exact ⟨hSi, hSl⟩
  have hT : s.TypeIs (.ref it) "list_reverseiterator" := hit.typeIs
  have h1 : Builtin.List.listSameRef (.ref S) (.ref it) = false := by simp [Builtin.List.listSameRef, hSi]
  unfold Builtin.List.listExtendWith
  refine wpAny_bind (wpAny_typeOf hT ?_)
  rw [if_neg (by rw [h1]; decide)]
  refine wpAny_bind (wpAny_pyIter_revIter hit ?_)
  refine wpAny_bind (wpAny_holding ?_)
  unfold Builtin.List.listLengthHint
  refine wpAny_bind (wpAny_specialOf hT nolen_lri ?_)
  show wpAny _ A.in1 (specialOf (Value.ref it) (Str.ofString "__length_hint__") >>= _) _ _ _
  refine wpAny_bind (wpAny_specialOf hT hint_lri ?_)
  generalize hid : ("list_reverseiterator.__length_hint__" : String) = id0
  wp_delta
  rw [show splitId id0 = some ("list_reverseiterator", "__length_hint__") from by subst hid; decide +kernel]
  subst hid
  refine wpAny_bind (wpAny_isInstance (b := true) hT (by rw [isSubtype_type]; kernel_rfl) ?_)
  refine wpAny_pure ?_
  rw [if_neg (by decide)]
  have e0 : ((items.size : Nat) : Int) - 1 - ((0 : Nat) : Int) = (items.size : Int) - 1 := by omega
  refine wpAny_pure ⟨plainId_quiet F.plain_extend_loop _, codeAny_extend_loopS W hn _ hSf _ items.size 0 _ _ _ rfl (Nat.zero_le _) ⟨Nat.zero_le _, by rw [e0]; exact hit, hl⟩ hS (ItemsOf.nil _) fun s' acc' c' hm hS' hacc => ?_⟩
  rw [Moved.eq_with hm]
  refine hR s'.heap s'.toks acc' c' (fun b o hb hb2 e => hm.heap b o (fun hmem => ?_) e) hS' hacc
  rcases List.mem_cons.mp hmem with e' | hmem
  · exact hb2 e'
  · exact hb (List.mem_singleton.mp hmem)
theorem list_init_rev {it l S : Addr} {items : Array Value} {R : Result → Shared → Prop} (hh : A.handled = none) (hit : s.heap.IsRevIter it l ((items.size : Int) - 1)) (hl : s.heap.IsList l items) (hne : l ≠ it) (hn : items.size ≤ sizeLine)
    (hSi : S ≠ it) (hSl : S ≠ l) (hS : s.heap.get? S = some { cls := .type "list", data := .seq #[] })
    (hR : ∀ h' tk acc c', (∀ b o, b ≠ it → b ≠ S → s.heap.get? b = some o → h'.get? b = some o) → h'.get? S = some { cls := .type "list", dict := none, data := .seq acc c', slots := #[] } →
      ItemsOf (fun i v => items[items.size - 1 - i]? = some v) acc items.size → R (.ok (.ret .none)) { s with heap := h', toks := tk }) :
    wpAny (model prog w) A.in1 (Builtin.«list.__init__» ⟨[.ref S, .ref it], []⟩)
      (fun fin s' => match fin with | .done f => R (.ok f) s' | .again c' => c'.quiet = true ∧ codeAny (model prog w) A c' R s') (fun e s' => R (.error e) s') s := by
  show wpAny _ _ (do let old ← Builtin.List.listItems (.ref S); Builtin.List.listUpdate (.ref S) (fun _ => #[]); letGo old.toList.reverse; Builtin.List.listExtendWith (.ref S) (.ref it) .none) _ _ s
  refine wpAny_bind ?_
  unfold Builtin.List.listItems
  refine wpAny_bind (wpAny_seqItems hS rfl (wpAny_pure ?_))
  show wpAny _ _ (updateSeq S (fun _ => #[]) >>= fun _ => letGo (#[] : Array Value).toList.reverse >>= fun _ => Builtin.List.listExtendWith (.ref S) (.ref it) .none) _ _ s
  refine wpAny_bind (wpAny_updateSeq hS rfl ?_)
  have hS₂ := Heap.get?_update_self (Obj.mapSeq (fun _ => (#[] : Array Value))) hS rfl
  have oth : ∀ b o, b ≠ S → s.heap.get? b = some o → (s.heap.update S (Obj.mapSeq (fun _ => (#[] : Array Value)))).get? b = some o :=
    fun b o hb e => (Heap.get?_update_other _ _ (Ne.symm hb)).trans e
  refine wpAny_bind (wpAny_letGo ?_)
  obtain ⟨ol, hol, hcl, hdl⟩ := id hl
  refine extend_rev hh (hit.at fun o e => oth it o (Ne.symm hSi) e) ⟨ol, oth l _ (Ne.symm hSl) hol, hcl, hdl⟩ hne hn hSi hSl hS₂ fun h' tk acc' c' hk hS' hacc => ?_
  exact hR h' tk acc' c' (fun b o hb hb2 e => hk b o hb hb2 (oth b o hb2 e)) hS' hacc
theorem call_list_rev {it l : Addr} {items : Array Value} {Q : Value → Shared → Prop} (hh : A.handled = none) (hit : s.heap.IsRevIter it l ((items.size : Int) - 1)) (hl : s.heap.IsList l items) (hne : l ≠ it) (hn : items.size ≤ sizeLine)
    (hQ : ∀ h' tk acc' c', (∀ b o, b ≠ it → s.heap.get? b = some o → h'.get? b = some o) →
      h'.get? s.heap.objs.size = some { cls := .type "list", dict := none, data := .seq acc' c', slots := #[] } → ItemsOf (fun i v => items[items.size - 1 - i]? = some v) acc' items.size → Q (.ref s.heap.objs.size) { s with heap := h', toks := tk }) :
    wpAny (model prog w) A (call (.type "list") [.ref it]) Q E s := by
  refine callType_codes (Q₁ := fun obj s₁ => obj = .ref s.heap.objs.size ∧ s₁ = { s with heap := s.heap.push { cls := .type "list", data := .seq #[] } }) F.called_list (F.typeCall_list_1 _) F.entry_list_init
    (code_list_new _ ⟨rfl, rfl⟩) fun obj s₁ h₁ => ?_
  obtain ⟨rfl, rfl⟩ := h₁
  have hS : (s.heap.push { cls := .type "list", data := .seq #[] }).get? s.heap.objs.size = some { cls := .type "list", data := .seq #[] } := Heap.get?_push_size _ rfl
  obtain ⟨oi, hoi, _⟩ := id hit
  obtain ⟨ol, hol, _⟩ := id hl
  refine ⟨⟨_, hS, rfl⟩, F.args_list_init_2 _ _, list_init_rev (A := A.in1) hh (hit.at fun o e => Heap.get?_push_of_some _ e) (hl.push _) hne hn (Nat.ne_of_gt (Heap.lt_size hoi)) (Nat.ne_of_gt (Heap.lt_size hol)) hS fun h' tk acc' c' hk hS' hacc => ?_⟩
  exact ⟨rfl, hQ h' tk acc' c' (fun b o hb e => hk b o hb (Nat.ne_of_lt (Heap.lt_size e)) (Heap.get?_push_of_some _ e)) hS' hacc⟩
end
def gListRev : D → Store → Option (D × Store)
  | .ref l, S => (lstAt S l).map fun xs => (.ref S.length, S ++ [.lst xs.reverse])
  | _, _ => none
section
variable {X : Cx} {W : WX} {e : Expr} {f : EX} {p p2 pos pos2 : Pos}
theorem d_listRev (hc : X.calm = true) (hg : Gl X "list") (hm : X.mg "list" = none) (hg2 : Gl X "reversed") (hm2 : X.mg "reversed" = none) (he : PE X e (rdE (X.cq W) f))
    (hs : starEach [e] X.env = (false, eval e X.env) :: starEach [] X.env := by rfl)
    (hs2 : starEach [.Call (.Name "reversed" p2) [e] [] pos2] X.env = (false, eval (.Call (.Name "reversed" p2) [e] [] pos2) X.env) :: starEach [] X.env := by rfl) :
    PE X (.Call (.Name "list" p) [.Call (.Name "reversed" p2) [e] [] pos2] [] pos) (rdE (X.cq W) (e1 gListRev f)) := by
  refine ⟨fun pins s σ H Q I ⟨m, ρ, S, re, rs, h⟩ => ?_⟩
  refine Call_ (ld_blt I hg hm boot_list (PyProof.Rows.callWith_type1 (args_cons (Call_ (ld_blt I hg2 hm2 PyProof.Rows.boot_reversed (PyProof.Rows.callWith_type1 (args_cons (thn (he.run pins s σ H _ I ⟨m, ρ, S, re, rs, Post.bind h⟩) fun u s1 ⟨v, H1, I1, r1, q1⟩ => args_nil ?_) hs) hs rfl))) hs2) hs2 rfl))
  obtain ⟨m1, d, S1, e1, rs1, rd1, q⟩ := q1
  have q := VPost.of q
  cases rd1 with
  | @ref a l hla =>
    have q : VPost X.K m1 H1 Q ((lstAt S1 l).map fun xs => (.ref S1.length, S1 ++ [.lst xs.reverse])) := q
    cases el : lstAt S1 l with
    | none => rw [el] at q; exact q.elim
    | some xs =>
      rw [el] at q
      obtain ⟨vs, hq, rds⟩ := rs1.lst hla el
      obtain rfl : u = Value.ref a := r1
      obtain ⟨its, rv, p', hz⟩ := I1.list hq
      refine call_reversed_list p'.isList (args_nil ?_)
      have k0 : ∀ b o, s1.heap.get? b = some o → (s1.heap.push (revObj a ((its.toArray.size : Int) - 1))).get? b = some o := fun b o e => Heap.get?_push_of_some _ e
      have I2 : L2.Inv X pins σ H1 { s1 with heap := s1.heap.push (revObj a ((its.toArray.size : Int) - 1)) } := I1.kept (t' := s1.toks) k0
      obtain ⟨f0, f1, f2, f3, f4, f5⟩ := I1.fpOk (H' := H1) (b := s1.heap.objs.size) (Nat.le_refl _) (I1.hok.fresh (Nat.le_refl _))
      have hl := p'.isList
      obtain ⟨ol, hol, _⟩ := id hl
      have hne : a ≠ s1.heap.objs.size := Nat.ne_of_lt (Heap.lt_size hol)
      have hn : its.toArray.size ≤ sizeLine := by rw [List.size_toArray, ← rv.length]; exact hz
      have ksz : (s1.heap.push (revObj a ((its.toArray.size : Int) - 1))).objs.size = s1.heap.objs.size + 1 := Heap.size_push _ _
      refine call_list_rev (s := { s1 with heap := s1.heap.push (revObj a ((its.toArray.size : Int) - 1)) }) (I1.ok.hd hc) ⟨_, Heap.get?_push_size _ rfl, rfl, rfl⟩ (hl.push _) hne hn fun h' tk acc c' hk hS' hi => ?_
      have hfr : H1 (s1.heap.push (revObj a ((its.toArray.size : Int) - 1))).objs.size = none := I2.hok.fresh (Nat.le_refl _)
      refine ⟨.ref (s1.heap.push (revObj a ((its.toArray.size : Int) - 1))).objs.size, upd H1 _ (.lst vs.reverse), ?_, rfl, vp_lst rs1 hfr rds.reverse q⟩
      have I3 : L2.Inv X pins σ H1 { s1 with heap := h', toks := tk } := I2.turned (t' := tk) (fun b o hb e => hk b o hb e) f0 f1 f3 f4 f5
      obtain ⟨g0, g1, g2, g3, g4, g5⟩ := I2.fpOk (H' := H1) (b := (s1.heap.push (revObj a ((its.toArray.size : Int) - 1))).objs.size) (Nat.le_refl _) hfr
      have hS'' : h'.get? (s1.heap.push (revObj a ((its.toArray.size : Int) - 1))).objs.size = some { cls := .type "list", dict := none, data := .seq acc c', slots := #[] } := hS'
      generalize (s1.heap.push (revObj a ((its.toArray.size : Int) - 1))).objs.size = p0 at *
      refine L2.Inv.step (s := { s1 with heap := h', toks := tk }) (g' := s1.gens) (t' := tk) (d' := s1.drawn) (h' := h') (ch := [p0]) I3 (fun b hb => ?_) (fun b o _ _ _ q _ => q) (fun b o _ _ _ q _ => ⟨o.slots, q⟩) (fun b o hb q n => ?_) (fun b o _ q => ⟨o, q⟩) (fun b ws q => by rw [upd_ne (ne_of_none q hfr)]; exact q)
        (fun b o u q => by rw [upd_ne (ne_of_none q hfr)]; exact q) (fun b ps q => ⟨#[], by rw [upd_ne (ne_of_none q hfr), q]; simp⟩) (fun m hm => hm) (fun b u q => ?_) I1.bare
      · have e : b = p0 := by simpa using hb
        subst e
        exact ⟨g3, g1, g4, g5⟩
      · rw [upd_ne (fun z => hb (by simp [z]))]
        exact n
      · by_cases hb : b = p0
        · subst hb
          rw [upd_same] at q
          cases q
          refine ⟨by rw [List.length_reverse]; exact hz, acc.toList, c', RT.vals_rev rv hi, ?_⟩
          rw [Array.toArray_toList]
          exact hS''
        · rw [upd_ne hb] at q
          exact (I3.hok b u q).stay (fun c v _ r => r) (fun c r => by rw [upd_ne (ne_of_none r hfr)]; exact r) fun c ws r => by rw [upd_ne (ne_of_none r hfr)]; exact r
  | _ => exact q.elim
end
end Dl

set_option Elab.async false
set_option linter.all false
set_option maxRecDepth 100000
namespace Dl
open PySem PySem.Spec PyProof.Rows L2
/-! ## a walk over whatever stands there: a list, a tuple, a text -/
def iA (f : EX) : IX := fun ρ S => (f ρ S).bind fun d S1 => match d with
  | .ref l => match lstAt S1 l with
    | some xs => .ok (xs, [(l, xs)]) S1
    | none => .no
  | .tup xs => .ok (xs, []) S1
  | .str x => .ok (x.cps.toList.map fun c => .str ⟨#[c]⟩, []) S1
  | _ => .no
section
variable {X : Cx} {W : WX} {tg e : Expr} {f : EX}
theorem w_any (he : PE X e (rdE (X.cq W) f)) : PI X tg e (rdI (X.cq W) (iA f)) := by
  refine ⟨fun pins s σ H R' I ⟨m, ρ, S, re, rs, q⟩ => thn (he.run pins s σ H _ I ⟨m, ρ, S, re, rs, src_bind q⟩) fun v s1 ⟨x, H1, I1, r1, m1, d, S1, e1, rs1, rd, q1⟩ => ?_⟩
  cases rd with
  | @ref a l hl =>
    simp only at q1
    cases el : lstAt S1 l with
    | none => rw [el] at q1; exact q1.elim
    | some xs =>
      rw [el] at q1
      obtain ⟨vs, hq, r⟩ := rs1.lst hl el
      cases r1
      obtain ⟨its, rv, p, hz⟩ := I1.list hq
      refine wpAny_pyIter_list p.isList ?_
      refine ⟨s1.heap.objs.size, [s1.heap.objs.size], _, _, H1, rfl, I1.kept (t' := s1.toks) fun b o e => Heap.get?_push_of_some _ e, turn_list a _, ⟨_, Heap.get?_push_size _ rfl, rfl, rfl⟩, fun b hb => ?_, q1 _ _ m1 .refl rs1 (it_list hl)⟩
      have e : b = s1.heap.objs.size := by simpa using hb
      subst e
      exact I1.fpOk (Nat.le_refl _) (I1.hok.fresh (Nat.le_refl _))
  | @tup a vs ds ht r =>
    cases r1
    obtain ⟨its, rv, p, hz⟩ := I1.tuple ht.sq
    refine wpAny_pyIter_tuple (show s1.heap.IsTuple a its.toArray from p) ?_
    refine ⟨s1.heap.objs.size, [s1.heap.objs.size], _, _, H1, rfl, I1.kept (t' := s1.toks) fun b o e => Heap.get?_push_of_some _ e, turn_tuple a _, ⟨_, Heap.get?_push_size _ rfl, rfl, rfl⟩, fun b hb => ?_, q1 _ _ m1 .refl rs1 (it_tup ht r)⟩
    have e : b = s1.heap.objs.size := by simpa using hb
    subst e
    exact I1.fpOk (Nat.le_refl _) (I1.hok.fresh (Nat.le_refl _))
  | @str x h =>
    obtain ⟨t, rfl⟩ := r1
    have q : (fun J H' => R' J H') (Its x) H1 := q1 _ _ m1 .refl rs1 it_str
    cases ha : x.cps.all (· < 128)
    · exact wpAny_pyIter_wide ha (pi_one (tk := s1.toks) I1 _ (turn_str _ x t "str_iterator" (.inr rfl)) ⟨_, Heap.get?_push_size _ rfl, rfl, rfl⟩ q)
    · exact wpAny_pyIter_ascii ha (pi_one (tk := s1.toks) I1 _ (turn_str _ x t "str_ascii_iterator" (.inl rfl)) ⟨_, Heap.get?_push_size _ rfl, rfl, rfl⟩ q)
  | _ => exact q1.elim
end
theorem r65 {k : Nat} {A : Around} (r : Room k A) : A.units + 65 < cLine := by have := r.un; omega
end Dl

set_option Elab.async false
set_option linter.all false
set_option maxRecDepth 100000
namespace Dl
open PySem L2
/-! ## the mirror, evaluated from the outside in -/
def kE (ρ : Env) : R D → Out
  | .ok _ S => .nx ρ S
  | .ex x S => .ex x ρ S
  | .no => .no
def kR (ρ : Env) : R D → Out
  | .ok d S => .rt d S
  | .ex x S => .ex x ρ S
  | .no => .no
def kIf (g h : SX) (ρ : Env) : R Bool → Out
  | .ok b S => if b then g ρ S else h ρ S
  | .ex x S => .ex x ρ S
  | .no => .no
def kN (j : Nat) (ρ : Env) : R D → Out
  | .ok d S => .nx (ρ.set j (some d)) S
  | .ex x S => .ex x ρ S
  | .no => .no
def kA (tg : D → SX) (ρ : Env) : R D → Out
  | .ok d S => tgO (tg d ρ S)
  | .ex x S => .ex x ρ S
  | .no => .no
def kIx3 (ρ : Env) : Option Store → Out
  | some S => .nx ρ S
  | none => .no
def kIx2 (o d : D) (ρ : Env) : R D → Out
  | .ok i S => kIx3 ρ (gSet o i d S)
  | .ex x S => .ex x ρ S
  | .no => .no
def kIx1 (f : EX) (d : D) (ρ : Env) : R D → Out
  | .ok o S => kIx2 o d ρ (f ρ S)
  | .ex x S => .ex x ρ S
  | .no => .no
def kE1 (g : D → Store → Option (D × Store)) : R D → R D
  | .ok x S => toR (g x S)
  | .ex x S => .ex x S
  | .no => .no
def kE2 (g : D → D → Store → Option (D × Store)) (x : D) : R D → R D
  | .ok y S => toR (g x y S)
  | .ex x S => .ex x S
  | .no => .no
def kE21 (g : D → D → Store → Option (D × Store)) (fb : EX) (ρ : Env) : R D → R D
  | .ok x S => kE2 g x (fb ρ S)
  | .ex x S => .ex x S
  | .no => .no
def kB (g : List D → Store → Option (D × Store)) : R (List D) → R D
  | .ok xs S => toR (g xs S)
  | .ex x S => .ex x S
  | .no => .no
def kF (F : List D → M D) : R (List D) → R D
  | .ok xs S => F xs S
  | .ex x S => .ex x S
  | .no => .no
def kC (x : D) : R (List D) → R (List D)
  | .ok xs S => .ok (x :: xs) S
  | .ex x S => .ex x S
  | .no => .no
def kC1 (fr : AX) (ρ : Env) : R D → R (List D)
  | .ok x S => kC x (fr ρ S)
  | .ex x S => .ex x S
  | .no => .no
def kM (g : D → List D → Store → Option (D × Store)) (x : D) : R (List D) → R D
  | .ok xs S => toR (g x xs S)
  | .ex x S => .ex x S
  | .no => .no
def kM2 (g : D → List D → Store → Option (D × Store)) (fx : AX) (ρ : Env) (x : D) (S : Store) (T : Ty) : Option Ty → R D
  | some T' => if T' = T then kM g x (fx ρ S) else .no
  | none => .no
def kM1 (g : D → List D → Store → Option (D × Store)) (fx : AX) (ρ : Env) (T : Ty) : R D → R D
  | .ok x S => kM2 g fx ρ x S T (tyD S x)
  | .ex x S => .ex x S
  | .no => .no
def kS3 (x : D) (l : Option Int) : R (Option Int) → R D
  | .ok h S => toR (gSl x l h S)
  | .ex x S => .ex x S
  | .no => .no
def kS2 (x : D) (hi : Env → Store → R (Option Int)) (ρ : Env) : R (Option Int) → R D
  | .ok l S => kS3 x l (hi ρ S)
  | .ex x S => .ex x S
  | .no => .no
def kS1 (lo hi : Env → Store → R (Option Int)) (ρ : Env) : R D → R D
  | .ok x S => kS2 x hi ρ (lo ρ S)
  | .ex x S => .ex x S
  | .no => .no
def kO : R D → R (Option Int)
  | .ok d S => match d with
    | .int i => .ok (some i) S
    | _ => .no
  | .ex x S => .ex x S
  | .no => .no
def kV : R D → R Bool
  | .ok d S => toT S (truD S d)
  | .ex x S => .ex x S
  | .no => .no
def kT : R D → R Bool
  | .ok d S => match d with
    | .bl b => .ok b S
    | _ => .no
  | .ex x S => .ex x S
  | .no => .no
def kAn (u : TX) (ρ : Env) : R Bool → R Bool
  | .ok b S => if b then u ρ S else .ok false S
  | .ex x S => .ex x S
  | .no => .no
def kOr (u : TX) (ρ : Env) : R Bool → R Bool
  | .ok b S => if b then .ok true S else u ρ S
  | .ex x S => .ex x S
  | .no => .no
def kNo : R Bool → R Bool
  | .ok b S => .ok (!b) S
  | .ex x S => .ex x S
  | .no => .no
def kIfE (fa fb : EX) (ρ : Env) : R Bool → R D
  | .ok b S => if b then fa ρ S else fb ρ S
  | .ex x S => .ex x S
  | .no => .no
def kVa2 (fb : EX) (d : D) (ρ : Env) : R Bool → R D
  | .ok b S => if b then fb ρ S else .ok d S
  | .ex x S => .ex x S
  | .no => .no
def kVa (fb : EX) (ρ : Env) : R D → R D
  | .ok d S => kVa2 fb d ρ (toT S (truD S d))
  | .ex x S => .ex x S
  | .no => .no
def kVo2 (fb : EX) (d : D) (ρ : Env) : R Bool → R D
  | .ok b S => if b then .ok d S else fb ρ S
  | .ex x S => .ex x S
  | .no => .no
def kVo (fb : EX) (ρ : Env) : R D → R D
  | .ok d S => kVo2 fb d ρ (toT S (truD S d))
  | .ex x S => .ex x S
  | .no => .no
def kVn2 : R Bool → R D
  | .ok b S => .ok (.bl (!b)) S
  | .ex x S => .ex x S
  | .no => .no
def kVn : R D → R D
  | .ok d S => kVn2 (toT S (truD S d))
  | .ex x S => .ex x S
  | .no => .no
def kH3 (g' : D → D → Store → Option (D × Store)) (y : D) : R D → R D
  | .ok w S => toR (g' y w S)
  | .ex x S => .ex x S
  | .no => .no
def kH2 (g' : D → D → Store → Option (D × Store)) (fc : EX) (y : D) (ρ : Env) : R D → R D
  | .ok z S => match z with
    | .bl b => if b then kH3 g' y (fc ρ S) else .ok (.bl false) S
    | _ => .no
  | .ex x S => .ex x S
  | .no => .no
def kH1 (g g' : D → D → Store → Option (D × Store)) (fc : EX) (x : D) (ρ : Env) : R D → R D
  | .ok y S => kH2 g' fc y ρ (toR (g x y S))
  | .ex x S => .ex x S
  | .no => .no
def kH (g g' : D → D → Store → Option (D × Store)) (fb fc : EX) (ρ : Env) : R D → R D
  | .ok x S => kH1 g g' fc x ρ (fb ρ S)
  | .ex x S => .ex x S
  | .no => .no
theorem seq_nx {h : SX} {ρ : Env} {S : Store} : (Out.nx ρ S).seq h = h ρ S := rfl
theorem seq_rt {h : SX} {d : D} {S : Store} : (Out.rt d S).seq h = .rt d S := rfl
theorem seq_bk {h : SX} {ρ : Env} {S : Store} : (Out.bk ρ S).seq h = .bk ρ S := rfl
theorem seq_ct {h : SX} {ρ : Env} {S : Store} : (Out.ct ρ S).seq h = .ct ρ S := rfl
theorem seq_ex {h : SX} {x : Exn} {ρ : Env} {S : Store} : (Out.ex x ρ S).seq h = .ex x ρ S := rfl
section
variable {ρ : Env} {S : Store} {g h : SX} {f fa fb fc fo : EX} {t u : TX} {fx fr : AX} {i j : Nat} {d x y : D} {tg : D → SX}
theorem sQ_ : sQ g h ρ S = (g ρ S).seq h := rfl
theorem sP_ : sP ρ S = .nx ρ S := rfl
theorem sE_ : sE f ρ S = kE ρ (f ρ S) := by show (f ρ S).out ρ _ = _; cases f ρ S <;> rfl
theorem sR_ : sR f ρ S = kR ρ (f ρ S) := by show (f ρ S).out ρ _ = _; cases f ρ S <;> rfl
theorem sIf_ : sIf t g h ρ S = kIf g h ρ (t ρ S) := by show (t ρ S).out ρ _ = _; cases t ρ S <;> rfl
theorem sN_ : sN j f ρ S = kN j ρ (f ρ S) := by show (f ρ S).out ρ _ = _; cases f ρ S <;> rfl
theorem sA_ : sA f tg ρ S = kA tg ρ (f ρ S) := by show (f ρ S).out ρ _ = _; cases f ρ S <;> rfl
theorem tgO_nx : tgO (.nx ρ S) = .nx ρ S := rfl
theorem nm_ : nm i d ρ S = .nx (ρ.set i (some d)) S := rfl
theorem tgIx_ : tgIx fo f d ρ S = kIx1 f d ρ (fo ρ S) := by
  show (fo ρ S).out ρ _ = _
  cases fo ρ S with
  | ok o S1 =>
    show (f ρ S1).out ρ _ = kIx2 o d ρ (f ρ S1)
    cases f ρ S1 with
    | ok i S2 =>
      show (match gSet o i d S2 with | some S3 => Out.nx ρ S3 | none => .no) = kIx3 ρ (gSet o i d S2)
      cases gSet o i d S2 <;> rfl
    | _ => rfl
  | _ => rfl
theorem eC_ : eC d ρ S = .ok d S := rfl
theorem eV0 {r : Env} : eV 0 (some d :: r) S = .ok d S := rfl
theorem eV1 {a : Option D} {r : Env} {n : Nat} : eV (n + 1) (a :: r) S = eV n r S := rfl
theorem e1_ {g : D → Store → Option (D × Store)} : e1 g fa ρ S = kE1 g (fa ρ S) := by show (fa ρ S).bind _ = _; cases fa ρ S <;> rfl
theorem e2_ {g : D → D → Store → Option (D × Store)} : e2 g fa fb ρ S = kE21 g fb ρ (fa ρ S) := by
  show (fa ρ S).bind _ = _
  cases fa ρ S with
  | ok x S1 =>
    show (fb ρ S1).bind _ = kE2 g x (fb ρ S1)
    cases fb ρ S1 <;> rfl
  | _ => rfl
theorem eB_ {g : List D → Store → Option (D × Store)} : eB g fx ρ S = kB g (fx ρ S) := by show (fx ρ S).bind _ = _; cases fx ρ S <;> rfl
theorem eF_ {F : List D → M D} : eF F fx ρ S = kF F (fx ρ S) := by show (fx ρ S).bind _ = _; cases fx ρ S <;> rfl
theorem aN_ : aN ρ S = .ok [] S := rfl
theorem aC_ : aC fa fr ρ S = kC1 fr ρ (fa ρ S) := by
  show (fa ρ S).bind _ = _
  cases fa ρ S with
  | ok x S1 =>
    show (fr ρ S1).bind _ = kC x (fr ρ S1)
    cases fr ρ S1 <;> rfl
  | _ => rfl
theorem eMt_ {T : Ty} {g : D → List D → Store → Option (D × Store)} : eMt T g fo fx ρ S = kM1 g fx ρ T (fo ρ S) := by
  show (fo ρ S).bind _ = _
  cases fo ρ S with
  | ok x S1 =>
    show (if tyD S1 x = some T then (fx ρ S1).bind fun xs S2 => toR (g x xs S2) else .no) = kM2 g fx ρ x S1 T (tyD S1 x)
    have q : (fx ρ S1).bind (fun xs S2 => toR (g x xs S2)) = kM g x (fx ρ S1) := by cases fx ρ S1 <;> rfl
    cases tyD S1 x with
    | none => rw [if_neg (fun z => nomatch z)]; rfl
    | some T' =>
      show _ = if T' = T then _ else _
      by_cases e : T' = T
      · rw [if_pos (by rw [e]), if_pos e, q]
      · rw [if_neg (fun z => e (Option.some.inj z)), if_neg e]
  | _ => rfl
theorem eSl_ {lo hi : Env → Store → R (Option Int)} : eSl fa lo hi ρ S = kS1 lo hi ρ (fa ρ S) := by
  show (fa ρ S).bind _ = _
  cases fa ρ S with
  | ok x S1 =>
    show (lo ρ S1).bind _ = kS2 x hi ρ (lo ρ S1)
    cases lo ρ S1 with
    | ok l S2 =>
      show (hi ρ S2).bind _ = kS3 x l (hi ρ S2)
      cases hi ρ S2 <;> rfl
    | _ => rfl
  | _ => rfl
theorem oN_ : oN ρ S = .ok none S := rfl
theorem oI_ : oI fa ρ S = kO (fa ρ S) := by show (fa ρ S).bind _ = _; cases fa ρ S <;> rfl
theorem tV_ : tV f ρ S = kV (f ρ S) := by show (f ρ S).bind _ = _; cases f ρ S <;> rfl
theorem tE_ : tE f ρ S = kT (f ρ S) := by show (f ρ S).bind _ = _; cases f ρ S <;> rfl
theorem tA_ : tA t u ρ S = kAn u ρ (t ρ S) := by show (t ρ S).bind _ = _; cases t ρ S <;> rfl
theorem tO_ : tO t u ρ S = kOr u ρ (t ρ S) := by show (t ρ S).bind _ = _; cases t ρ S <;> rfl
theorem tN_ : tN t ρ S = kNo (t ρ S) := by show (t ρ S).bind _ = _; cases t ρ S <;> rfl
theorem eIf_ : eIf t fa fb ρ S = kIfE fa fb ρ (t ρ S) := by show (t ρ S).bind _ = _; cases t ρ S <;> rfl
theorem eAnd_ : eAnd fa fb ρ S = kVa fb ρ (fa ρ S) := by
  show (fa ρ S).bind _ = _
  cases fa ρ S with
  | ok d S1 =>
    show (toT S1 (truD S1 d)).bind _ = kVa2 fb d ρ (toT S1 (truD S1 d))
    cases toT S1 (truD S1 d) <;> rfl
  | _ => rfl
theorem eOr_ : eOr fa fb ρ S = kVo fb ρ (fa ρ S) := by
  show (fa ρ S).bind _ = _
  cases fa ρ S with
  | ok d S1 =>
    show (toT S1 (truD S1 d)).bind _ = kVo2 fb d ρ (toT S1 (truD S1 d))
    cases toT S1 (truD S1 d) <;> rfl
  | _ => rfl
theorem eNot_ : eNot fa ρ S = kVn (fa ρ S) := by
  show (fa ρ S).bind _ = _
  cases fa ρ S with
  | ok d S1 =>
    show (toT S1 (truD S1 d)).bind _ = kVn2 (toT S1 (truD S1 d))
    cases toT S1 (truD S1 d) <;> rfl
  | _ => rfl
theorem eCh_ {g g' : D → D → Store → Option (D × Store)} : eCh g g' fa fb fc ρ S = kH g g' fb fc ρ (fa ρ S) := by
  show (fa ρ S).bind _ = _
  cases fa ρ S with
  | ok x S1 =>
    show (fb ρ S1).bind _ = kH1 g g' fc x ρ (fb ρ S1)
    cases fb ρ S1 with
    | ok y S2 =>
      show (toR (g x y S2)).bind _ = kH2 g' fc y ρ (toR (g x y S2))
      cases toR (g x y S2) with
      | ok z S3 =>
        cases z with
        | bl b =>
          cases b with
          | true =>
            show (fc ρ S3).bind _ = kH3 g' y (fc ρ S3)
            cases fc ρ S3 <;> rfl
          | false => rfl
        | _ => rfl
      | _ => rfl
    | _ => rfl
  | _ => rfl
/-! ### what goes on with an outcome -/
theorem kE_ : kE ρ (.ok d S) = .nx ρ S := rfl
theorem kR_ : kR ρ (.ok d S) = .rt d S := rfl
theorem kIf_t : kIf g h ρ (.ok true S) = g ρ S := rfl
theorem kIf_f : kIf g h ρ (.ok false S) = h ρ S := rfl
theorem kN_ : kN j ρ (.ok d S) = .nx (ρ.set j (some d)) S := rfl
theorem kA_ : kA tg ρ (.ok d S) = tgO (tg d ρ S) := rfl
theorem kIx1_ : kIx1 f d ρ (.ok x S) = kIx2 x d ρ (f ρ S) := rfl
theorem kIx2_ : kIx2 x d ρ (.ok y S) = kIx3 ρ (gSet x y d S) := rfl
theorem kIx3_ : kIx3 ρ (some S) = .nx ρ S := rfl
theorem kE1_ {g : D → Store → Option (D × Store)} : kE1 g (.ok x S) = toR (g x S) := rfl
theorem kE21_ {g : D → D → Store → Option (D × Store)} : kE21 g fb ρ (.ok x S) = kE2 g x (fb ρ S) := rfl
theorem kE2_ {g : D → D → Store → Option (D × Store)} : kE2 g x (.ok y S) = toR (g x y S) := rfl
theorem kB_ {g : List D → Store → Option (D × Store)} {xs : List D} : kB g (.ok xs S) = toR (g xs S) := rfl
theorem kF_ {F : List D → M D} {xs : List D} : kF F (.ok xs S) = F xs S := rfl
theorem kC1_ : kC1 fr ρ (.ok x S) = kC x (fr ρ S) := rfl
theorem kC_ {xs : List D} : kC x (.ok xs S) = .ok (x :: xs) S := rfl
theorem kM1_ {T : Ty} {g : D → List D → Store → Option (D × Store)} : kM1 g fx ρ T (.ok x S) = kM2 g fx ρ x S T (tyD S x) := rfl
theorem kM2_ {T : Ty} {g : D → List D → Store → Option (D × Store)} : kM2 g fx ρ x S T (some T) = kM g x (fx ρ S) := if_pos rfl
theorem kM_ {g : D → List D → Store → Option (D × Store)} {xs : List D} : kM g x (.ok xs S) = toR (g x xs S) := rfl
theorem kS1_ {lo hi : Env → Store → R (Option Int)} : kS1 lo hi ρ (.ok x S) = kS2 x hi ρ (lo ρ S) := rfl
theorem kS2_ {hi : Env → Store → R (Option Int)} {l : Option Int} : kS2 x hi ρ (.ok l S) = kS3 x l (hi ρ S) := rfl
theorem kS3_ {l h : Option Int} : kS3 x l (.ok h S) = toR (gSl x l h S) := rfl
theorem kO_ {i : Int} : kO (.ok (.int i) S) = .ok (some i) S := rfl
theorem kV_ : kV (.ok d S) = toT S (truD S d) := rfl
theorem kT_ {b : Bool} : kT (.ok (.bl b) S) = .ok b S := rfl
theorem kAn_t : kAn u ρ (.ok true S) = u ρ S := rfl
theorem kAn_f : kAn u ρ (.ok false S) = .ok false S := rfl
theorem kOr_t : kOr u ρ (.ok true S) = .ok true S := rfl
theorem kOr_f : kOr u ρ (.ok false S) = u ρ S := rfl
theorem kNo_ {b : Bool} : kNo (.ok b S) = .ok (!b) S := rfl
theorem kIfE_t : kIfE fa fb ρ (.ok true S) = fa ρ S := rfl
theorem kIfE_f : kIfE fa fb ρ (.ok false S) = fb ρ S := rfl
theorem kVa_ : kVa fb ρ (.ok d S) = kVa2 fb d ρ (toT S (truD S d)) := rfl
theorem kVa2_t : kVa2 fb d ρ (.ok true S) = fb ρ S := rfl
theorem kVa2_f : kVa2 fb d ρ (.ok false S) = .ok d S := rfl
theorem kVo_ : kVo fb ρ (.ok d S) = kVo2 fb d ρ (toT S (truD S d)) := rfl
theorem kVo2_t : kVo2 fb d ρ (.ok true S) = .ok d S := rfl
theorem kVo2_f : kVo2 fb d ρ (.ok false S) = fb ρ S := rfl
theorem kVn_ : kVn (.ok d S) = kVn2 (toT S (truD S d)) := rfl
theorem kVn2_ {b : Bool} : kVn2 (.ok b S) = .ok (.bl (!b)) S := rfl
theorem kH_ {g g' : D → D → Store → Option (D × Store)} : kH g g' fb fc ρ (.ok x S) = kH1 g g' fc x ρ (fb ρ S) := rfl
theorem kH1_ {g g' : D → D → Store → Option (D × Store)} : kH1 g g' fc x ρ (.ok y S) = kH2 g' fc y ρ (toR (g x y S)) := rfl
theorem kH2_t {g' : D → D → Store → Option (D × Store)} : kH2 g' fc y ρ (.ok (.bl true) S) = kH3 g' y (fc ρ S) := rfl
theorem kH2_f {g' : D → D → Store → Option (D × Store)} : kH2 g' fc y ρ (.ok (.bl false) S) = .ok (.bl false) S := rfl
theorem kH3_ {g' : D → D → Store → Option (D × Store)} : kH3 g' y (.ok x S) = toR (g' y x S) := rfl
theorem toT_some {b : Bool} : toT S (some b) = .ok b S := rfl
theorem truD_bl {b : Bool} : truD S (.bl b) = some b := rfl
theorem truD_int {b : Int} : truD S (.int b) = some (b != 0) := rfl
theorem truD_tup {xs : List D} : truD S (.tup xs) = some (!xs.isEmpty) := rfl
theorem tyD_str {a : Str} : tyD S (.str a) = some .str := rfl
theorem tyD_tup {a : List D} : tyD S (.tup a) = some .tup := rfl
theorem tyD_int {a : Int} : tyD S (.int a) = some .int := rfl
theorem tyD_bl {a : Bool} : tyD S (.bl a) = some .bl := rfl
theorem tyD_non : tyD S .non = some .non := rfl
theorem tyD_lst {l : Nat} {xs : List D} (h : S[l]? = some (.lst xs)) : tyD S (.ref l) = some .lst := by unfold tyD; simp only [h]
theorem lstAt_lst {l : Nat} {xs : List D} (h : S[l]? = some (.lst xs)) : lstAt S l = some xs := by unfold lstAt; rw [h]
theorem gAdd_int {a b : Int} : gAdd (.int a) (.int b) S = some (.int (a + b), S) := rfl
theorem gAdd_str {a b : Str} (h : a.length + b.length ≤ 16777216) : gAdd (.str a) (.str b) S = some (.str (a ++ b), S) := if_pos h
theorem gAdd_tup {xs ys : List D} (h0 : 0 < xs.length) (h : xs.length + ys.length ≤ 16777216) : gAdd (.tup xs) (.tup ys) S = some (.tup (xs ++ ys), S) := by
  cases xs with
  | nil => exact absurd h0 (Nat.lt_irrefl _)
  | cons x xs => exact if_pos h
theorem gAdd_lst {l k : Nat} {xs ys : List D} (h1 : S[l]? = some (.lst xs)) (h2 : S[k]? = some (.lst ys)) (h : xs.length + ys.length ≤ 16777216) : gAdd (.ref l) (.ref k) S = some (.ref S.length, S ++ [.lst (xs ++ ys)]) := by
  show catL S l k = _
  unfold catL
  rw [h1, h2]
  exact if_pos h
theorem gSub_int {a b : Int} : Dl.gSub (.int a) (.int b) S = some (.int (a - b), S) := rfl
theorem gMul_l {a b : Int} (h0 : 0 ≤ a) (h1 : a < 18446744073709551616) : gMul (.int a) (.int b) S = some (.int (a * b), S) := if_pos (.inl ⟨by omega, by omega⟩)
theorem gMul_r {a b : Int} (h0 : 0 ≤ b) (h1 : b < 18446744073709551616) : gMul (.int a) (.int b) S = some (.int (a * b), S) := if_pos (.inr ⟨by omega, by omega⟩)
theorem gFdiv_int {a b : Int} (h0 : 0 < b) (h1 : b < 1073741824) : gFdiv (.int a) (.int b) S = some (.int (a / b), S) := if_pos ⟨h0, h1⟩
theorem gMod_int {a b : Int} (h0 : 0 < b) : gMod (.int a) (.int b) S = some (.int (a % b), S) := if_pos h0
theorem gLt_int {a b : Int} : gLt (.int a) (.int b) S = some (.bl (decide (a < b)), S) := rfl
theorem gLe_int {a b : Int} : gLe (.int a) (.int b) S = some (.bl (decide (a ≤ b)), S) := rfl
theorem gGt_int {a b : Int} : gGt (.int a) (.int b) S = some (.bl (decide (b < a)), S) := rfl
theorem gGe_int {a b : Int} : gGe (.int a) (.int b) S = some (.bl (decide (b ≤ a)), S) := rfl
theorem gInt_int {a : Int} : gInt [.int a] S = some (.int a, S) := rfl
theorem gAbs_int {a : Int} : gAbs [.int a] S = some (.int (if a < 0 then -a else a), S) := rfl
theorem gLen_tup {xs : List D} : gLen [.tup xs] S = some (.int xs.length, S) := rfl
theorem gLen_str {x : Str} : gLen [.str x] S = some (.int x.length, S) := rfl
theorem gLen_lst {l : Nat} {xs : List D} (h : lstAt S l = some xs) : gLen [.ref l] S = some (.int xs.length, S) := by show Option.map _ (lstAt S l) = _; rw [h]; rfl
theorem gTpl_ {xs : List D} (h : xs.length ≤ 16777216) : gTpl xs S = some (.tup xs, S) := if_pos h
theorem gLsd_ {xs : List D} (h : xs.length ≤ 16777216) : gLsd xs S = some (.ref S.length, S ++ [.lst xs]) := if_pos h
theorem gIx_tup {xs : List D} {k : Int} (h : atI xs k = some d) : gIx (.tup xs) (.int k) S = some (d, S) := by show Option.map _ (atI xs k) = _; rw [h]; rfl
theorem gIx_lst {l : Nat} {xs : List D} {k : Int} (h : lstAt S l = some xs) (h2 : atI xs k = some d) : gIx (.ref l) (.int k) S = some (d, S) := by
  show (lstAt S l).bind (fun xs => (atI xs k).map fun d => (d, S)) = _
  rw [h]
  show Option.map _ (atI xs k) = _
  rw [h2]
  rfl
theorem gIx_str {x : Str} {k : Int} {c : Nat} (h : atI x.cps.toList k = some c) : gIx (.str x) (.int k) S = some (.str ⟨#[c]⟩, S) := by show Option.map _ (atI x.cps.toList k) = _; rw [h]; rfl
theorem gSet_lst {l : Nat} {xs : List D} {k : Int} {m : Nat} (h : S[l]? = some (.lst xs)) (h2 : ixN xs.length k = some m) : gSet (.ref l) (.int k) d S = some (S.set l (.lst (xs.set m d))) := by
  show (match S[l]? with | some (.lst xs) => (ixN xs.length k).map fun j => S.set l (.lst (xs.set j d)) | _ => none) = _
  rw [h]
  show Option.map _ (ixN xs.length k) = _
  rw [h2]
  rfl
theorem gAppend_ {l : Nat} {xs : List D} (h : S[l]? = some (.lst xs)) (hz : xs.length < 16777216) : gAppend (.ref l) [d] S = some (.non, S.set l (.lst (xs ++ [d]))) := by
  show (match S[l]? with | some (.lst xs) => if xs.length < LIM then some (D.non, S.set l (.lst (xs ++ [d]))) else none | _ => none) = _
  rw [h]
  exact if_pos hz
theorem tgT_ {ts : List (D → SX)} {ds : List D} (h : ds.length = ts.length) : tgT ts (.tup ds) ρ S = tgL ts ds ρ S := by
  show (if ds.length = ts.length then tgL ts ds else sNo) ρ S = _
  rw [if_pos h]
theorem tgL0 : tgL [] [] ρ S = .nx ρ S := rfl
theorem tgL1 {ts : List (D → SX)} {ds : List D} {j : Nat} : tgL (nm j :: ts) (d :: ds) ρ S = tgL ts ds (ρ.set j (some d)) S := rfl
/-! ### what a def leaves -/
theorem runB_rt {np ns : Nat} {ds : List D} {S' : Store} (h : ds.length = np) (hg : g (ds.map some ++ List.replicate (ns - np) none) S = .rt d S') : runB np ns g ds S = cmp S.length d S' := by
  unfold runB
  rw [if_pos h, hg]
theorem runB_nx {np ns : Nat} {ds : List D} {ρ' : Env} {S' : Store} (h : ds.length = np) (hg : g (ds.map some ++ List.replicate (ns - np) none) S = .nx ρ' S') : runB np ns g ds S = cmp S.length D.non S' := by
  unfold runB
  rw [if_pos h, hg]
theorem cmp_same {n : Nat} (h : S.length = n) (w : d.wf n = true) : cmp n d S = .ok d S := by
  unfold cmp
  rw [← h, List.take_length]
  split
  · rw [if_pos (by rw [h]; exact w)]
  · rfl
theorem cmp_more {n : Nat} {T : Store} (h : S.length = n) (wS : SWf n S = true) (w : d.wf n = true) : cmp n d (S ++ T) = .ok d S := by
  unfold cmp
  rw [← h, List.take_left' rfl]
  rw [if_pos (by rw [h]; exact wS), if_pos (by rw [h]; exact w)]
theorem cmp_new {n l : Nat} {T : Store} {xs : List D} (h : S.length = n) (wS : SWf n S = true) (hl : n ≤ l) (hx : (S ++ T)[l]? = some (.lst xs)) (w : wfs n xs = true) : cmp n (.ref l) (S ++ T) = .ok (.ref n) (S ++ [.lst xs]) := by
  unfold cmp
  have e : (S ++ T).take n = S := by rw [← h]; exact List.take_left' rfl
  rw [e, if_pos wS, if_neg (show ¬ (D.ref l).wf n = true from fun z => by
    have z' : l < n := of_decide_eq_true z
    omega)]
  simp only [hx, newCell, w, if_true]
mutual
theorem wf_flat {n : Nat} : ∀ {d : D}, d.flat = true → d.wf n = true
  | .non, _ => rfl
  | .bl _, _ => rfl
  | .int _, _ => rfl
  | .str _, _ => rfl
  | .tup xs, h => wfs_flat (show flats xs = true from h)
  | .ref _, h => nomatch h
  | .raw _, _ => rfl
theorem wfs_flat {n : Nat} : ∀ {ds : List D}, flats ds = true → wfs n ds = true
  | [], _ => rfl
  | d :: ds, h => by
    have h' : (d.flat && flats ds) = true := h
    rw [Bool.and_eq_true] at h'
    show (d.wf n && wfs n ds) = true
    rw [wf_flat h'.1, wfs_flat h'.2]
    rfl
end
/-- all cells hold flat data -/
def Cell.flat : Cell → Bool
  | .lst xs => flats xs
  | .rol xs => flats xs
  | .dic kvs => flats (kvs.map (·.2))
  | .gone => true
def SFlat (S : Store) : Prop := ∀ c ∈ S, Cell.flat c = true
theorem SFlat.wf {n : Nat} (h : SFlat S) : SWf n S = true := by
  refine List.all_eq_true.mpr fun c hc => ?_
  have q := h c hc
  cases c with
  | lst xs => exact wfs_flat q
  | rol xs => exact wfs_flat q
  | dic kvs => exact wfs_flat q
  | gone => rfl
theorem SFlat.set {c : Cell} (h : SFlat S) (hc : c.flat = true) : SFlat (S.set i c) := fun x hx => by
  rcases List.mem_or_eq_of_mem_set hx with q | q
  · exact h x q
  · rw [q]; exact hc
theorem SFlat.push {c : Cell} (h : SFlat S) (hc : c.flat = true) : SFlat (S ++ [c]) := fun x hx => by
  rcases List.mem_append.mp hx with q | q
  · exact h x q
  · rw [List.mem_singleton.mp q]; exact hc
end
end Dl

set_option Elab.async false
set_option linter.all false
set_option maxRecDepth 100000
namespace Dl
open PySem L2
/-! ## tools -/
theorem set_self {S : Store} {p : Nat} {c : Cell} (h : S[p]? = some c) : S.set p c = S := by
  apply List.ext_getElem?
  intro i
  by_cases e : p = i
  · subst e
    rw [List.getElem?_set_self (List.getElem?_eq_some_iff.mp h).1, h]
  · rw [List.getElem?_set_ne e]
theorem get_lt {α : Type} {S : List α} {p : Nat} {c : α} (h : S[p]? = some c) : p < S.length := (List.getElem?_eq_some_iff.mp h).1
theorem get_set {S : Store} {p : Nat} {c d : Cell} (h : S[p]? = some c) : (S.set p d)[p]? = some d := List.getElem?_set_self (get_lt h)
theorem get_app {α : Type} {S T : List α} {p : Nat} {c : α} (h : S[p]? = some c) : (S ++ T)[p]? = some c := by
  rw [List.getElem?_append_left (get_lt h)]
  exact h
theorem set_app {S T : Store} {p : Nat} {c d : Cell} (h : S[p]? = some c) : (S ++ T).set p d = S.set p d ++ T := List.set_append_left _ _ (get_lt h)
theorem get_end {S : Store} {c : Cell} : (S ++ [c])[S.length]? = some c := by rw [List.getElem?_append_right (Nat.le_refl _), Nat.sub_self]; rfl
theorem set_end {S : Store} {c d : Cell} : (S ++ [c]).set S.length d = S ++ [d] := by rw [List.set_append_right _ _ (Nat.le_refl _), Nat.sub_self]; rfl
theorem atI_of {α : Type} {xs : List α} {k : Int} {v : α} (h0 : 0 ≤ k) (h : xs[k.toNat]? = some v) : atI xs k = some v := by
  have e : k = ((k.toNat : Nat) : Int) := by omega
  rw [e]
  exact atI_nat h
theorem atI_in {α : Type} {xs : List α} {k : Int} (h0 : 0 ≤ k) (h1 : k < xs.length) : ∃ v, atI xs k = some v ∧ v ∈ xs := by
  have hk : k.toNat < xs.length := by omega
  exact ⟨xs[k.toNat], atI_of h0 (List.getElem?_eq_getElem hk), List.getElem_mem hk⟩
theorem chk_nil {S : Store} : chkOk [] S := fun _ h => nomatch h
theorem chk_one {S : Store} {l : Nat} {xs : List D} (h : lstAt S l = some xs) : chkOk [(l, xs)] S := fun p hp => by rw [List.mem_singleton.mp hp]; exact h
section
variable {tg : D → SX} {body : SX} {k : Chk} {d : D} {ds : List D} {ρ ρ1 ρ2 : Env} {S S1 S2 : Store}
theorem runF_nil (h : chkOk k S) : runF tg body k [] ρ S = .nx ρ S := by unfold runF; rw [if_pos h]
theorem runF_cons (h : chkOk k S) (ht : tg d ρ S = .nx ρ1 S1) (hb : body ρ1 S1 = .nx ρ2 S2) : runF tg body k (d :: ds) ρ S = runF tg body k ds ρ2 S2 := by
  rw [runF, if_pos h, ht]
  show (match body ρ1 S1 with | .nx ρ2 S2 => runF tg body k ds ρ2 S2 | .ct ρ2 S2 => runF tg body k ds ρ2 S2 | .bk ρ2 S2 => .nx ρ2 S2 | o => o) = _
  rw [hb]
theorem sF_ok {src : IX} {p : List D × Chk} {S' : Store} (h : src ρ S = .ok p S') : sF src tg body ρ S = runF tg body p.2 p.1 ρ S' := by
  show (src ρ S).out ρ _ = _
  rw [h]
  rfl
theorem iR1_ok {f : EX} {j : Int} {S' : Store} (h : f ρ S = .ok (.int j) S') (h0 : 0 ≤ j) (h1 : j < 1000000000) : iR1 f ρ S = .ok (rng 0 j.toNat, []) S' := by
  show (f ρ S).bind _ = _
  rw [h]
  exact if_pos ⟨by omega, by omega⟩
theorem iA_lst {f : EX} {l : Nat} {S' : Store} {xs : List D} (h : f ρ S = .ok (.ref l) S') (hl : lstAt S' l = some xs) : iA f ρ S = .ok (xs, [(l, xs)]) S' := by
  show (f ρ S).bind _ = _
  rw [h]
  show (match lstAt S' l with | some xs => R.ok (xs, [(l, xs)]) S' | none => .no) = _
  rw [hl]
theorem iA_tup {f : EX} {S' : Store} {xs : List D} (h : f ρ S = .ok (.tup xs) S') : iA f ρ S = .ok (xs, []) S' := by
  show (f ρ S).bind _ = _
  rw [h]
  rfl
theorem iA_str {f : EX} {S' : Store} {x : Str} (h : f ρ S = .ok (.str x) S') : iA f ρ S = .ok (x.cps.toList.map fun c => .str ⟨#[c]⟩, []) S' := by
  show (f ρ S).bind _ = _
  rw [h]
  rfl
/-- over a range -/
theorem rng_succ (n : Nat) (lo : Int) : rng lo (n + 1) = .int lo :: rng (lo + 1) n := by
  unfold rng
  rw [List.range_succ_eq_map, List.map_cons, List.map_map]
  congr 1
  · simp
  · apply List.map_congr_left
    intro i _
    show D.int (lo + ((i + 1 : Nat) : Int)) = .int (lo + 1 + (i : Nat))
    congr 1
    omega
theorem rng_length (n : Nat) (lo : Int) : (rng lo n).length = n := by unfold rng; rw [List.length_map, List.length_range]
/-- a comprehension over items that leaves the store as it is: the items' values -/
theorem runC_map {l : Nat} {g : Cg} {ft : TX} {fe : EX} (val : D → D) (keep : D → Bool) : ∀ (ds acc : List D) (T : Store), SFlat T → l = T.length → acc.length + ds.length ≤ 1000000 → (∀ S, chkOk k T → chkOk k (T ++ S)) → chkOk k T →
    (∀ d ∈ ds, ∃ ρ1, g.put d ρ = some ρ1 ∧ ∀ a, ft ρ1 (T ++ [.lst a]) = .ok (keep d) (T ++ [.lst a]) ∧ (keep d = true → fe ρ1 (T ++ [.lst a]) = .ok (val d) (T ++ [.lst a]))) →
    runC l ρ g ft fe k ds (T ++ [.lst acc]) = .ok (.ref l) (T ++ [.lst (acc ++ (ds.filter keep).map val)])
  | [], acc, T, hT, hl, hz, hk, hk0, _ => by
    unfold runC
    rw [if_pos (hk _ hk0)]
    simp
  | d :: ds, acc, T, hT, hl, hz, hk, hk0, hd => by
    obtain ⟨ρ1, h1, h2⟩ := hd d (List.mem_cons_self ..)
    obtain ⟨h3, h4⟩ := h2 acc
    have hz' : acc.length + (ds.length + 1) ≤ 1000000 := hz
    unfold runC
    rw [if_pos (hk _ hk0)]
    simp only [h1, h3]
    cases hkd : keep d with
    | false =>
      simp only
      rw [runC_map val keep ds acc T hT hl (by omega) hk hk0 fun x hx => hd x (List.mem_cons_of_mem _ hx), List.filter_cons_of_neg (by rw [hkd]; exact Bool.false_ne_true)]
    | true =>
      have h4' := h4 hkd
      subst hl
      simp only [h4', get_end]
      rw [if_pos (show acc.length < LIM by show acc.length < 16777216; omega), set_end, runC_map val keep ds (acc ++ [val d]) T hT rfl (by rw [List.length_append]; simp only [List.length_singleton]; omega) hk hk0 fun x hx => hd x (List.mem_cons_of_mem _ hx),
        List.filter_cons_of_pos hkd, List.map_cons, List.append_assoc]
      rfl
theorem eLc_ok {vs : List Nat} {src : IX} {g : Cg} {ft : TX} {fe : EX} {p : List D × Chk} {S' : Store} (h : src ρ S = .ok p S') : eLc vs src g ft fe ρ S = runC S'.length (wipeD ρ vs) g ft fe p.2 p.1 (S' ++ [.lst []]) := by
  show (src ρ S).bind _ = _
  rw [h]
  rfl
end
end Dl

set_option Elab.async false
set_option linter.all false
set_option maxRecDepth 100000
namespace Dl
open PySem L2
/-! ## exceptions -/
def sX (x : Str) : SX := fun ρ S => .ex ⟨x, []⟩ ρ S
/-- what the written part says of an own error class without own __init__ -/
structure XCls (K : PySem.W.Frag) (mg : Str → Option Value) (x : Str) (bm : List Value) (nid : String) (C : Addr) : Prop where
  m : mg x = some (.ref C)
  q : PySem.W.excIn K C bm nid = true
  k : PySem.W.keepIn K (.ref C) = true
  s : PySem.W.subIn K (.ref C) (.type "BaseException") = some true
  t : PySem.W.typeIn K (.ref C) = some (.type "type")
section
variable {X : Cx} {W : WX} {C : Addr} {bm : List Value} {B nid iid : String}
theorem t_raise {x m : Str} {j : Nat} {p p2 pos pos2 : Pos} (hc : X.calm = true) (tk : Takes X W) (F : ExcBaseFacts B nid iid bm) (T : XCls X.K X.mg x bm nid C) (hg : Gl X x) (hdb : (x == ("__debug__" : Str)) = false := by decide) :
    PS X (.Raise (some (.Call (.Name x p) [.Constant (.str m) j p2] [] pos)) none pos2) (rdS (X.cq W) (sX x)) :=
  PSwk (ps_raise hc tk (pmk_own F T.q T.m T.k (raises_own T.s T.t) hg hdb)) fun Dn σ H ⟨m, ρ, S, re, rs, h⟩ => h (.ref C) none σ H m .refl re rs ⟨T.m, rfl⟩
end
/-- a slot laid bare -/
def clr (i : Nat) : Out → Out
  | .nx ρ S => .nx (ρ.set i none) S
  | .bk ρ S => .bk (ρ.set i none) S
  | .ct ρ S => .ct (ρ.set i none) S
  | .rt d S => .rt d S
  | _ => .no
abbrev Tab := List (Str × Bool × (Addr → SX))
/-- try: g; except .. as slot i: by the table -/
def sTry (i : Nat) (L : Tab) (g : SX) : SX := fun ρ S => match g ρ S with
  | .ex x ρ1 S1 => match x.fs, L.lookup x.name with
    | [], some (true, su) => clr i (su 0 (ρ1.set i (some (.raw (.ref 0)))) S1)
    | [], some (false, _) => .ex x ρ1 S1
    | _, _ => .no
  | o => o
theorem re_unset {K : PySem.W.Frag} {m : List Addr} {H : Hp} {σ : St} {ρ : Env} (r : RE K m H σ ρ) (i : Nat) : RE K m H (σ.set i none) (ρ.set i none) := by
  refine ⟨by rw [List.length_set, List.length_set]; exact r.len, fun {j d'} e => ?_⟩
  by_cases z : i = j
  · subst z
    rw [List.getElem?_set] at e
    split at e
    · split at e
      · cases e
      · cases e
    · exact absurd rfl (by assumption)
  · rw [List.getElem?_set_ne z] at e
    obtain ⟨v, h1, h2⟩ := r.at_ e
    exact ⟨v, by rw [List.getElem?_set_ne z]; exact h1, h2⟩
structure TryEnt (X : Cx) (W : WX) (c : Value) (i : Nat) (suite : List Stmt) (p : Str × Bool × (Addr → SX)) : Prop where
  cls : ∃ C, X.mg p.1 = some (.ref C) ∧ PySem.W.exmOne X.K (.ref C) c = some p.2.1 ∧
    (p.2.1 = true → ∀ (a : Addr) (oe : Obj) (pn : List (Addr × Obj)), Zc (.ref C) none oe → (∃ vs, oe.data = .fields vs) → PSs (X.suite a ((a, oe) :: pn)) suite (rdS ((X.suite a ((a, oe) :: pn)).cq W0) (p.2.2 a)))
  sim : p.2.1 = true → ∀ (a : Addr) (ρ : Env) (S : Store), clr i (p.2.2 a (ρ.set i (some (.raw (.ref a)))) S) = clr i (p.2.2 0 (ρ.set i (some (.raw (.ref 0)))) S)
inductive Ents (X : Cx) (W : WX) (c : Value) (i : Nat) (suite : List Stmt) : Tab → Prop
  | nil : Ents X W c i suite []
  | cons {p : Str × Bool × (Addr → SX)} {L : Tab} (h : TryEnt X W c i suite p) (t : Ents X W c i suite L) : Ents X W c i suite (p :: L)
theorem Ents.all {X : Cx} {W : WX} {c : Value} {i : Nat} {suite : List Stmt} : ∀ {L : Tab}, Ents X W c i suite L → ∀ p ∈ L, TryEnt X W c i suite p
  | _, .cons h t, p, hp => by
    rcases List.mem_cons.mp hp with rfl | hp
    · exact h
    · exact t.all p hp
theorem ent_t {X : Cx} {W : WX} {c : Value} {i : Nat} {suite : List Stmt} {R : Str} {su : Addr → SX} {C : Addr} (m : X.mg R = some (.ref C)) (x : PySem.W.exmOne X.K (.ref C) c = some true)
    (h : ∀ (a : Addr) (oe : Obj) (pn : List (Addr × Obj)), Zc (.ref C) none oe → (∃ vs, oe.data = .fields vs) → PSs (X.suite a ((a, oe) :: pn)) suite (rdS ((X.suite a ((a, oe) :: pn)).cq W0) (su a)))
    (s : ∀ (a : Addr) (ρ : Env) (S : Store), clr i (su a (ρ.set i (some (.raw (.ref a)))) S) = clr i (su 0 (ρ.set i (some (.raw (.ref 0)))) S)) : TryEnt X W c i suite (R, true, su) := ⟨⟨C, m, x, fun _ => h⟩, fun _ => s⟩
theorem ent_f {X : Cx} {W : WX} {c : Value} {i : Nat} {suite : List Stmt} {R : Str} {su : Addr → SX} {C : Addr} (m : X.mg R = some (.ref C)) (x : PySem.W.exmOne X.K (.ref C) c = some false) : TryEnt X W c i suite (R, false, su) :=
  ⟨⟨C, m, x, fun h => nomatch h⟩, fun h => nomatch h⟩
theorem lookup_mem {α : Type} {x : Str} {v : α} : ∀ {L : List (Str × α)}, L.lookup x = some v → (x, v) ∈ L
  | (y, w) :: L, h => by
    rw [List.lookup_cons] at h
    cases e : x == y with
    | true => rw [e] at h; cases h; rw [show x = y from LawfulBEq.eq_of_beq e]; exact List.mem_cons_self ..
    | false => rw [e] at h; exact List.mem_cons_of_mem _ (lookup_mem h)
section
variable {X : Cx} {W : WX} {x n : Str} {c : Value} {i : Nat} {body suite : List Stmt} {b₀ : Stmt} {np pos pos' : Pos} {g : SX} {L : Tab}
theorem t_try (hs : X.stack = X.env :: X.outer) (hf : X.env.frame = some X.env.locals) (hN : X.N.Nodup) (hi : X.N[i]? = some n) (hln : X.env.kindOf n = some .local) (hc : Names X x c) (tk : Takes X W)
    (hb : ∀ (W : WX) (pn : List (Addr × Obj)) (xe : Value → Shared → Prop), Takes (X.tr pn xe) W → PassesOwn (model X.prog X.w) X.A X.env xe → PSs (X.tr pn xe) body (rdS ((X.tr pn xe).cq W) g))
    (hLs : Ents X W c i (b₀ :: suite) L) :
    PS X (.Try body [.ExceptHandler (some (.Name x np)) (some n) (b₀ :: suite) pos'] [] [] pos) (rdS (X.cq W) (sTry i L g)) := by
  have hL := hLs.all
  refine PSwk (ps_try_as (tb := fun W' => rdS ⟨X.K, X.mg, W'⟩ g) (ts := fun a cls d => fun D σ H => d = none ∧ ∃ p ∈ L, X.mg p.1 = some cls ∧ p.2.1 = true ∧ rdS ⟨X.K, X.mg, W0⟩ (p.2.2 a) D σ H) hs hf hN hi hln hc tk hb fun a oe cls d pn hz hv => ⟨fun pins s σ H D I ⟨hd, p, hp, hm, ht, q⟩ => ?_⟩) fun Dn σ H ⟨m, ρ, S, re, rs, h⟩ => ⟨m, ρ, S, re, rs, ?_⟩
  · obtain ⟨C, h1, h2, h3⟩ := (hL p hp).cls
    rw [h1] at hm
    cases hm
    subst hd
    exact (h3 ht a oe pn hz hv).run pins s σ H D I q
  · have h : PostS (X.cq W) m H Dn (match g ρ S with
      | .ex x ρ1 S1 => match x.fs, L.lookup x.name with
        | [], some (true, su) => clr i (su 0 (ρ1.set i (some (.raw (.ref 0)))) S1)
        | [], some (false, _) => .ex x ρ1 S1
        | _, _ => .no
      | o => o) := h
    cases e : g ρ S with
    | ex z ρ1 S1 =>
      rw [e] at h
      simp only at h
      intro cls dd σ1 H1 m1 ex1 re1 rs1 rx
      obtain ⟨rx1, rx2⟩ := rx
      split at h
      · rename_i su efs el
        have hm := lookup_mem el
        obtain ⟨C, h1, h2, h3⟩ := (hL _ hm).cls
        have sim := (hL _ hm).sim rfl
        rw [efs] at rx2
        have h1' : X.mg z.name = some (.ref C) := h1
        have rx1' : X.mg z.name = some cls := rx1
        rw [h1'] at rx1'
        cases rx1'
        refine ⟨true, h2, fun _ a ha => ⟨rx2, _, hm, h1, rfl, ?_⟩, (fun q => nomatch q)⟩
        refine ⟨m1, ρ1.set i (some (.raw (.ref a))), S1, re1.set (.raw _) i, rs1, ?_⟩
        rw [← sim a ρ1 S1] at h
        have h := PostS.mono (c := X.cq W) (m1 := m1) (H1 := H1) ex1 h
        revert h
        show PostS (X.cq W) m1 H1 Dn (clr i (su a _ S1)) → PostS _ m1 H1 _ (su a _ S1)
        cases su a (ρ1.set i (some (.raw (.ref a)))) S1 with
        | nx ρ' S' => exact fun h σ' H' m' e re rs => h _ H' m' e (re_unset re i) rs
        | bk ρ' S' => exact fun h σ' H' m' e re rs => h _ H' m' e (re_unset re i) rs
        | ct ρ' S' => exact fun h σ' H' m' e re rs => h _ H' m' e (re_unset re i) rs
        | rt d S' => exact fun h => h
        | ex x ρ' S' => exact fun h => h.elim
        | no => exact fun h => h.elim
      · rename_i su efs el
        have hm := lookup_mem el
        obtain ⟨C, h1, h2, h3⟩ := (hL _ hm).cls
        have h1' : X.mg z.name = some (.ref C) := h1
        have rx1' : X.mg z.name = some cls := rx1
        rw [h1'] at rx1'
        cases rx1'
        exact ⟨false, h2, (fun q => nomatch q), fun _ => h (.ref C) dd σ1 H1 m1 ex1 re1 rs1 ⟨h1', rx2⟩⟩
      · exact h.elim
    | nx ρ1 S1 => rw [e] at h; exact h
    | bk ρ1 S1 => rw [e] at h; exact h
    | ct ρ1 S1 => rw [e] at h; exact h
    | rt d S1 => rw [e] at h; exact h
    | no => rw [e] at h; exact h
end
/-- isinstance's answers, from what k_is finds -/
theorem kit_t {K : PySem.W.Frag} {R C : Addr} (hd : PySem.W.hasDictIn K C = true) (ht : PySem.W.typeIn K (.ref C) = some (.type "type")) (h : PySem.W.subIn K (.ref R) (.ref C) = some true) : PySem.W.kitOne K (.ref R) (.ref C) = some true := by
  obtain ⟨cd, hc, _⟩ := PySem.W.any_some hd
  have e2 : ((PySem.W.clsIn K C).isSome && PySem.W.typeIn K (.ref C) == some (.type "type")) = true := by rw [hc, ht] <;> rfl
  show (if (Value.ref R == Value.ref C) = true then some true else if ((PySem.W.clsIn K C).isSome && PySem.W.typeIn K (.ref C) == some (.type "type")) = true then PySem.W.subIn K (.ref R) (.ref C) else none) = some true
  by_cases e : (Value.ref R == Value.ref C) = true
  · rw [if_pos e]
  · rw [if_neg e, if_pos e2]; exact h
theorem kit_f {K : PySem.W.Frag} {R C : Addr} (hd : PySem.W.hasDictIn K C = true) (ht : PySem.W.typeIn K (.ref C) = some (.type "type")) (h : PySem.W.subIn K (.ref R) (.ref C) = some false) (hn : (Value.ref R == Value.ref C) = false) : PySem.W.kitOne K (.ref R) (.ref C) = some false := by
  obtain ⟨cd, hc, _⟩ := PySem.W.any_some hd
  have e2 : ((PySem.W.clsIn K C).isSome && PySem.W.typeIn K (.ref C) == some (.type "type")) = true := by rw [hc, ht] <;> rfl
  show (if (Value.ref R == Value.ref C) = true then some true else if ((PySem.W.clsIn K C).isSome && PySem.W.typeIn K (.ref C) == some (.type "type")) = true then PySem.W.subIn K (.ref R) (.ref C) else none) = some false
  rw [hn, if_neg Bool.false_ne_true, if_pos e2]
  exact h
theorem kit_b {K : PySem.W.Frag} {R : Addr} {T : String} {b : Bool} (hm : PySem.W.kitMeta T = true) (h : PySem.W.subIn K (.ref R) (.type T) = some b) : PySem.W.kitOne K (.ref R) (.type T) = some b := by
  show (if (Value.ref R == Value.type T) = true then some true else if PySem.W.kitMeta T = true then PySem.W.subIn K (.ref R) (.type T) else none) = some b
  rw [show (Value.ref R == Value.type T) = false from rfl, if_neg Bool.false_ne_true, if_pos hm]
  exact h
/-! ### isinstance of the error that the suite holds -/
def eIs (i : Nat) (a : Addr) (b : Bool) : EX := fun ρ S => match ρ[i]? with
  | some (some (.raw (.ref a'))) => if a' = a then .ok (.bl b) S else .no
  | _ => .no
def gIsE (a : Addr) (cv : V) (b : Bool) : List D → Store → Option (D × Store)
  | [.raw x, .raw y], S => if x = .ref a ∧ y = cv then some (.bl b, S) else none
  | _, _ => none
section
variable {X : Cx} {C : Addr} {a : Addr} {oe : Obj} {pn : List (Addr × Obj)} {cv : V} {cu : Value} {b : Bool}
theorem c_isE (E : ExcC X.K C) (hz : Zc (.ref C) none oe) (hf : ∃ vs, oe.data = .fields vs) (hk : PySem.W.kitOne X.K (.ref C) cu = some b) (hr : ∀ u, RelV cv u → u = cu) :
    CallR (X.suite a ((a, oe) :: pn)) (.builtin "isinstance") (rdC X.K (gIsE a cv b)) := by
  intro pins s σ H vs us Q I r ⟨m, xs, S, hx, rs, h⟩
  unfold gIsE at h
  split at h
  · rename_i x y
    split at h
    · rename_i hc
      obtain ⟨rfl, rfl⟩ := hc
      cases hx with
      | cons h1 h2 =>
        cases h2 with
        | cons h3 h4 =>
          cases h4
          cases h1 with
          | raw =>
            cases h3 with
            | raw => exact call_isE E hz hf pins s σ H _ us Q I r ⟨_, cu, b, rfl, hr, hk, h _ _ m .refl rs (.bl b)⟩
    · exact h.elim
  · exact h.elim
theorem d_isE {i : Nat} {e1 e2 : Expr} {p pos : Pos} (E : ExcC X.K C) (hz : Zc (.ref C) none oe) (hf : ∃ vs, oe.data = .fields vs) (hk : PySem.W.kitOne X.K (.ref C) cu = some b) (hr : ∀ u, RelV cv u → u = cu)
    (hg : Gl (X.suite a ((a, oe) :: pn)) "isinstance") (hm : X.mg "isinstance" = none) (hv : bootBuiltins "isinstance" = some (.builtin "isinstance"))
    (ha : PA (X.suite a ((a, oe) :: pn)) [e1, e2] (rdA ((X.suite a ((a, oe) :: pn)).cq W0) (aC (eV i) (aC (eC (.raw cv)) aN))))
    (he : starEach (e1 :: [e2]) X.env = (false, eval e1 X.env) :: starEach [e2] X.env := by rfl) (hpl : (backTo pos (starEach [e2] X.env)).any (·.1) = false := by rfl) :
    PE (X.suite a ((a, oe) :: pn)) (.Call (.Name "isinstance" p) [e1, e2] [] pos) (rdE ((X.suite a ((a, oe) :: pn)).cq W0) (eIs i a b)) := by
  refine PEwk (d_callB (c_isE (a := a) (pn := pn) E hz hf hk hr) hg hm hv ha (by decide) (by decide) he hpl) fun σ H Q ⟨m, ρ, S, re, rs, h⟩ => ⟨m, ρ, S, re, rs, ?_⟩
  unfold eIs at h
  split at h
  · rename_i a' e
    split at h
    · rename_i ea
      subst ea
      have e' : eB (gIsE a' cv b) (aC (eV i) (aC (eC (.raw cv)) aN)) ρ S = .ok (.bl b) S := by
        show (R.bind (R.bind (eV i ρ S) _) _) = _
        unfold eV
        rw [e]
        show toR (if V.ref a' = .ref a' ∧ cv = cv then some (D.bl b, S) else none) = _
        rw [if_pos ⟨rfl, rfl⟩]
        rfl
      rw [e']
      exact h
    · exact h.elim
  · exact h.elim
end
/-! ### the answer does not hang on the address -/
structure OffA (i : Nat) (a : Addr) (ρ ρ' : Env) : Prop where
  l : ρ.length = ρ'.length
  h : (ρ[i]? = some (some (.raw (.ref a))) ∧ ρ'[i]? = some (some (.raw (.ref 0)))) ∨ (ρ[i]? = none ∧ ρ'[i]? = none)
  o : ∀ j, j ≠ i → ρ[j]? = ρ'[j]?
def SimE (i : Nat) (a : Addr) {α : Type} (f f' : Env → Store → R α) : Prop := ∀ ρ ρ' S, OffA i a ρ ρ' → f ρ S = f' ρ' S
/-- outcomes alike but for slot i -/
def OutA (i : Nat) (a : Addr) : Out → Out → Prop
  | .nx ρ S, .nx ρ' S' => OffA i a ρ ρ' ∧ S = S'
  | .bk ρ S, .bk ρ' S' => OffA i a ρ ρ' ∧ S = S'
  | .ct ρ S, .ct ρ' S' => OffA i a ρ ρ' ∧ S = S'
  | .rt d S, .rt d' S' => d = d' ∧ S = S'
  | .ex _ _ _, .ex _ _ _ => True
  | .no, .no => True
  | _, _ => False
def SimS (i : Nat) (a : Addr) (g g' : SX) : Prop := ∀ ρ ρ' S, OffA i a ρ ρ' → OutA i a (g ρ S) (g' ρ' S)
section
variable {i j : Nat} {a : Addr} {f f' h h' : EX} {r r' : AX} {g g' k k' : SX}
theorem OffA.set {ρ ρ' : Env} (o : OffA i a ρ ρ') {d : Option D} (hj : j ≠ i) : OffA i a (ρ.set j d) (ρ'.set j d) :=
  ⟨by rw [List.length_set, List.length_set, o.l], by rw [List.getElem?_set_ne hj, List.getElem?_set_ne hj]; exact o.h, fun k hk => by
    by_cases e : j = k
    · subst e
      rw [List.getElem?_set, List.getElem?_set, o.l, if_pos rfl, if_pos rfl]
    · rw [List.getElem?_set_ne e, List.getElem?_set_ne e, o.o k hk]⟩
theorem m_eC {d : D} : SimE i a (eC d) (eC d) := fun _ _ _ _ => rfl
theorem m_eV (hj : j ≠ i) : SimE i a (eV j) (eV j) := fun ρ ρ' S o => by unfold eV; rw [o.o j hj]
theorem m_eIs {b : Bool} : SimE i a (eIs i a b) (eIs i 0 b) := fun ρ ρ' S o => by
  unfold eIs
  rcases o.h with ⟨e1, e2⟩ | ⟨e1, e2⟩
  · rw [e1, e2]; simp
  · rw [e1, e2]
theorem m_aN : SimE i a aN aN := fun _ _ _ _ => rfl
theorem m_aC (h1 : SimE i a f f') (h2 : SimE i a r r') : SimE i a (aC f r) (aC f' r') := fun ρ ρ' S o => by
  unfold aC
  rw [h1 ρ ρ' S o]
  congr 1
  funext x S1
  rw [h2 ρ ρ' S1 o]
theorem m_eB {q : List D → Store → Option (D × Store)} (h2 : SimE i a r r') : SimE i a (eB q r) (eB q r') := fun ρ ρ' S o => by
  unfold eB
  rw [h2 ρ ρ' S o]
theorem m_e2 {q : D → D → Store → Option (D × Store)} (h1 : SimE i a f f') (h2 : SimE i a h h') : SimE i a (Dl.e2 q f h) (Dl.e2 q f' h') := fun ρ ρ' S o => by
  unfold Dl.e2
  rw [h1 ρ ρ' S o]
  congr 1
  funext x S1
  rw [h2 ρ ρ' S1 o]
theorem m_eAnd (h1 : SimE i a f f') (h2 : SimE i a h h') : SimE i a (eAnd f h) (eAnd f' h') := fun ρ ρ' S o => by
  unfold eAnd
  rw [h1 ρ ρ' S o]
  congr 1
  funext x S1
  congr 1
  funext b S2
  rw [h2 ρ ρ' S2 o]
theorem m_eOr (h1 : SimE i a f f') (h2 : SimE i a h h') : SimE i a (eOr f h) (eOr f' h') := fun ρ ρ' S o => by
  unfold eOr
  rw [h1 ρ ρ' S o]
  congr 1
  funext x S1
  congr 1
  funext b S2
  rw [h2 ρ ρ' S2 o]
theorem m_eNot (h1 : SimE i a f f') : SimE i a (eNot f) (eNot f') := fun ρ ρ' S o => by
  unfold eNot
  rw [h1 ρ ρ' S o]
theorem m_sN (hj : j ≠ i) (h1 : SimE i a f f') : SimS i a (sN j f) (sN j f') := fun ρ ρ' S o => by
  unfold sN
  rw [h1 ρ ρ' S o]
  cases f' ρ' S with
  | ok d S1 => exact ⟨o.set hj, rfl⟩
  | ex x S1 => exact True.intro
  | no => exact True.intro
theorem m_sQ (h1 : SimS i a g g') (h2 : SimS i a k k') : SimS i a (sQ g k) (sQ g' k') := fun ρ ρ' S o => by
  have q := h1 ρ ρ' S o
  show OutA i a ((g ρ S).seq k) ((g' ρ' S).seq k')
  revert q
  cases g ρ S <;> cases g' ρ' S <;> intro q <;> first | exact q.elim | skip
  · obtain ⟨q1, rfl⟩ := q
    exact h2 _ _ _ q1
  all_goals exact q
theorem m_sR (h1 : SimE i a f f') : SimS i a (sR f) (sR f') := fun ρ ρ' S o => by
  unfold sR
  rw [h1 ρ ρ' S o]
  cases f' ρ' S with
  | ok d S1 => exact ⟨rfl, rfl⟩
  | ex x S1 => exact True.intro
  | no => exact True.intro
theorem set_off {ρ ρ' : Env} (o : OffA i a ρ ρ') : ρ.set i none = ρ'.set i none := by
  apply List.ext_getElem?
  intro k
  by_cases e : i = k
  · subst e
    rw [List.getElem?_set, List.getElem?_set, o.l, if_pos rfl, if_pos rfl]
  · rw [List.getElem?_set_ne e, List.getElem?_set_ne e, o.o k (Ne.symm e)]
theorem m_clr {o o' : Out} (q : OutA i a o o') : clr i o = clr i o' := by
  cases o <;> cases o' <;> first | exact q.elim | skip
  · obtain ⟨q1, rfl⟩ := q; show Out.nx _ _ = Out.nx _ _; rw [set_off q1]
  · obtain ⟨rfl, rfl⟩ := q; rfl
  · obtain ⟨q1, rfl⟩ := q; show Out.bk _ _ = Out.bk _ _; rw [set_off q1]
  · obtain ⟨q1, rfl⟩ := q; show Out.ct _ _ = Out.ct _ _; rw [set_off q1]
  · rfl
  · rfl
/-- the table's last field -/
theorem m_sim {su : Addr → SX} (h : ∀ a, SimS i a (su a) (su 0)) : ∀ (a : Addr) (ρ : Env) (S : Store), clr i (su a (ρ.set i (some (.raw (.ref a)))) S) = clr i (su 0 (ρ.set i (some (.raw (.ref 0)))) S) := fun a ρ S => by
  by_cases hl : i < ρ.length
  · exact m_clr (h a _ _ S ⟨by rw [List.length_set, List.length_set], Or.inl ⟨List.getElem?_set_self hl, List.getElem?_set_self hl⟩, fun j hj => by rw [List.getElem?_set_ne (Ne.symm hj), List.getElem?_set_ne (Ne.symm hj)]⟩)
  · have e : ∀ d, ρ.set i d = ρ := fun d => List.set_eq_of_length_le (by omega)
    rw [e, e]
    exact m_clr (h a ρ ρ S ⟨rfl, Or.inr ⟨List.getElem?_eq_none (by omega), List.getElem?_eq_none (by omega)⟩, fun j _ => rfl⟩)
end
end Dl

set_option Elab.async false
set_option linter.all false
set_option maxRecDepth 100000
namespace Dl
open PySem L2
/-! ## more methods -/
def gSplit : D → List D → Store → Option (D × Store)
  | .str a, [.str b], S => if b.length ≠ 0 ∧ a.length + 2 ≤ LIM ∧ ((Txt.split a b).all fun p => decide (p.length ≤ LIM)) = true then some (.ref S.length, S ++ [.lst ((Txt.split a b).map .str)]) else none
  | _, _, _ => none
def gCountS : D → List D → Store → Option (D × Store)
  | .str a, [.str b], S => some (.int (Txt.count a b), S)
  | _, _, _ => none
def gInsert : D → List D → Store → Option (D × Store)
  | .ref l, [.int i, d], S => match S[l]? with
    | some (.lst xs) => if xs.length < LIM ∧ 0 ≤ i ∧ i < 2 ^ 63 then some (.non, S.set l (.lst (xs.take i.toNat ++ [d] ++ xs.drop i.toNat))) else none
    | _ => none
  | _, _, _ => none
/-- a module's own table -/
def gTab (L : List (Str × D)) : D → D → Store → Option (D × Store)
  | _, .str s, S => (L.lookup s).map fun d => (d, S)
  | _, _, _ => none
section
variable {X : Cx}
theorem strs_rd {K : PySem.W.Frag} {m : List Addr} {H : Hp} : ∀ {xs : List Str}, (xs.all fun p => decide (p.length ≤ LIM)) = true → RDs K m H (xs.map V.str) (xs.map D.str)
  | [], _ => .nil
  | x :: xs, h => by
    rw [List.all_cons, Bool.and_eq_true] at h
    exact .cons (.str (of_decide_eq_true h.1)) (strs_rd h.2)
theorem m_split : MtR X "str.split" (rdM X.K gSplit) := by
  intro pins s σ H v vs vv us Q I rv rvs ⟨m, x, xs, S, hx, hxs, rs, h⟩
  unfold gSplit at h
  split at h
  · rename_i a b
    split at h
    · rename_i hc
      obtain ⟨h1, h2, h3⟩ := hc
      cases hx with
      | str ha =>
        cases hxs with
        | cons g1 g2 =>
          cases g2
          cases g1 with
          | str hb =>
            exact mt_split pins s σ H _ _ vv us Q I rv rvs ⟨a, b, rfl, rfl, by simpa using h1, by rw [← lim_eq]; exact h2, fun p hp => vp_lst rs hp (strs_rd h3) h⟩
    · exact h.elim
  · exact h.elim
theorem m_countS : MtR X "str.count" (rdM X.K gCountS) := by
  intro pins s σ H v vs vv us Q I rv rvs ⟨m, x, xs, S, hx, hxs, rs, h⟩
  unfold gCountS at h
  split at h
  · rename_i a b
    cases hx with
    | str ha =>
      cases hxs with
      | cons g1 g2 =>
        cases g2
        cases g1 with
        | str hb => exact mt_count pins s σ H _ _ vv us Q I rv rvs ⟨a, b, rfl, rfl, h _ _ m .refl rs (.int _)⟩
  · exact h.elim
theorem rds_take {K : PySem.W.Frag} {m : List Addr} {H : Hp} : ∀ {vs : List V} {ds : List D}, RDs K m H vs ds → ∀ n : Nat, RDs K m H (vs.take n) (ds.take n)
  | _, _, .nil, n => by rw [List.take_nil, List.take_nil]; exact .nil
  | _, _, .cons h t, 0 => .nil
  | _, _, .cons h t, n + 1 => .cons h (rds_take t n)
theorem rds_drop {K : PySem.W.Frag} {m : List Addr} {H : Hp} : ∀ {vs : List V} {ds : List D}, RDs K m H vs ds → ∀ n : Nat, RDs K m H (vs.drop n) (ds.drop n)
  | _, _, .nil, n => by rw [List.drop_nil, List.drop_nil]; exact .nil
  | _, _, .cons h t, 0 => .cons h t
  | _, _, .cons h t, n + 1 => rds_drop t n
theorem m_insert : MtR X "list.insert" (rdM X.K gInsert) := by
  intro pins s σ H v vs vv us Q I rv rvs ⟨m, x, xs, S, hx, hxs, rs, h⟩
  unfold gInsert at h
  split at h
  · rename_i l i d
    split at h
    · rename_i ys e
      split at h
      · rename_i hc
        obtain ⟨hz, h0, h1⟩ := hc
        cases hx with
        | ref hl =>
          cases hxs with
          | cons g1 g2 =>
            cases g1 with
            | int =>
              cases g2 with
              | cons g3 g4 =>
                cases g4
                obtain ⟨ws, hw, rw'⟩ := rs.wlst hl e
                refine mt_insert pins s σ H _ _ vv us Q I rv rvs ⟨_, ws, i, _, rfl, rfl, hw, by rw [rw'.length, ← lim_eq]; exact hz, h0, h1, ?_⟩
                obtain ⟨ex, rs'⟩ := rs.write (o := .lst (ws.take i.toNat ++ [_] ++ ws.drop i.toNat)) (c' := .lst (ys.take i.toNat ++ [d] ++ ys.drop i.toNat)) hl e rfl rfl fun ex => ⟨_, upd_same, ((rds_take (rw'.mono ex) _).append (.one (g3.mono ex))).append (rds_drop (rw'.mono ex) _)⟩
                exact h _ _ m ex rs' .non
      · exact h.elim
    · exact h.elim
  · exact h.elim
/-- what the written part says of such a table -/
structure TabK (K : PySem.W.Frag) (w : World) (p : Addr) (L : List (Str × D)) : Prop where
  at_ : ∀ q ∈ L, ∃ v, KDct K w p q.1 v ∧ ∀ m H, RD K m H v q.2
variable {W : WX} {a b : Expr} {fa fb : EX} {pos p1 : Pos}
/-- D[e], D a module's table -/
def eTab (L : List (Str × D)) (fb : EX) : EX := fun ρ S => (fb ρ S).bind fun y S1 => toR (gTab L .non y S1)
theorem d_tab {x : Str} {p : Addr} {L : List (Str × D)} (T : TabK X.K X.w p L) (hg : Gl X x) (hm : X.mg x = some (.ref p)) (hb : PE X b (rdE (X.cq W) fb)) (hd : (x == ("__debug__" : Str)) = false := by decide) (hs : PlainIx b := by exact fun _ _ => rfl) :
    PE X (.Subscript (.Name x p1) b pos) (rdE (X.cq W) (eTab L fb)) := by
  refine PEwk (pe_ix ix_kdict (pe_glob (v := .ref p) hg hm rfl hd) hb hs) fun σ H Q ⟨m, ρ, S, re, rs, h⟩ => ?_
  refine ⟨m, ρ, S, re, rs, (Post.bind h).imp fun u H2 ⟨m2, y, S2, e2, rs2, rd2', h2⟩ => ?_⟩
  replace h2 : VPost X.K m2 H2 Q (gTab L .non y S2) := VPost.of h2
  unfold gTab at h2
  split at h2
  · rename_i s
    cases e : L.lookup s with
    | none => rw [e] at h2; exact h2.elim
    | some d =>
      rw [e] at h2
      cases rd2' with
      | str hs =>
        obtain ⟨z, g1, g2⟩ := T.at_ _ (lookup_mem e)
        exact ⟨p, s, z, rfl, rfl, g1, h2 _ _ m2 .refl rs2 (g2 m2 H2)⟩
  · exact h2.elim
/-! ## a, b = a tuple or a list -/
def tgU (ts : List (D → SX)) : D → SX := fun d => match d with
  | .tup ds => if ds.length = ts.length then tgL ts ds else sNo
  | .ref l => fun ρ S => match lstAt S l with
    | some ds => if ds.length = ts.length then tgL ts ds ρ S else .no
    | none => .no
  | _ => sNo
theorem g_seq {es : List Expr} {k : Nat} {ts : List (D → SX)} (hc : X.calm = true) (h : PGs X es (rdGs (X.cq W) (tgL ts))) (hl : ts.length = es.length := by rfl)
    (hn : (assignEach es X.env).length = es.length := by rfl) (hst : (assignEach es X.env).findIdx? (·.1) = none := by rfl) : PG X (.Tuple es k pos) (rdG (X.cq W) (tgU ts)) := ⟨fun pins s σ H v u Q I r ⟨m, ρ, S, d, re, rs, rd, q⟩ => by
  cases d with
  | tup ds => exact (g_tup (pos := pos) (k := k) hc h hl hn hst).run pins s σ H v u Q I r ⟨m, ρ, S, _, re, rs, rd, q⟩
  | ref l =>
    have q : PostS (X.cq W) m H { nx := Q, rt := fun _ _ => False } (match lstAt S l with
      | some ds => if ds.length = ts.length then tgL ts ds ρ S else .no
      | none => .no) := q
    cases e : lstAt S l with
    | none => rw [e] at q; exact q.elim
    | some ds =>
      rw [e] at q
      by_cases hz : ds.length = ts.length
      · simp only [if_pos hz] at q
        cases rd with
        | ref hm =>
          obtain ⟨vs, h1, h2⟩ := rs.lst hm e
          exact (pg_lst (k := k) (pos := pos) hc h hn hst).run pins s σ H _ u Q I r ⟨_, vs, rfl, h1, by rw [h2.length, hz, hl], m, ρ, S, ds, re, rs, h2, q⟩
      · simp only [if_neg hz] at q
        exact q.elim
  | _ => exact q.elim⟩
end
end Dl

set_option Elab.async false
set_option linter.all false
set_option maxRecDepth 100000
namespace Lw
open PySem L2 Dl
/-! ## the mirror of the text, def by def -/
inductive FN where
  | size_of | atoms_of | count_of | mirror_kind | put_kind | substitute_kind | _law_cell | _law_mix | _law_pool | _law_draw | _law_atom | _law_lot | _law_place | _law_bracket | _law_sized | _law_texts | _law_is_atom | _law_is_kind | _law_row | _law_last_row | _law_mirrored | _law_replaced | law
def k_MOST : D := .int 40
def k_MIRRORED : List (Str × D) := [("/", .str ">"), (">", .str "/"), ("*", .str "*")]
noncomputable def b_size_of (F : FN → List D → M D) : SX := (sQ (sIf (tV (eB (gIsi .str) (aC (eV 0) (aC (eC (.raw (.ty "str"))) aN)))) (sR (eC (.int 1))) sP)
  (sR (e2 gAdd (eF (F .size_of) (aC (e2 gIx (eV 0) (eC (.int 1))) aN)) (eF (F .size_of) (aC (e2 gIx (eV 0) (eC (.int 2))) aN)))))
noncomputable def b_atoms_of (F : FN → List D → M D) : SX := (sQ (sIf (tV (eB (gIsi .str) (aC (eV 0) (aC (eC (.raw (.ty "str"))) aN)))) (sR (eB gTpl (aC (eV 0) aN))) sP)
  (sR (e2 gAdd (eF (F .atoms_of) (aC (e2 gIx (eV 0) (eC (.int 1))) aN)) (eF (F .atoms_of) (aC (e2 gIx (eV 0) (eC (.int 2))) aN)))))
noncomputable def b_count_of (F : FN → List D → M D) : SX := (sR (eMt .tup gCountT (eF (F .atoms_of) (aC (eV 0) aN)) (aC (eV 1) aN)))
noncomputable def b_mirror_kind (F : FN → List D → M D) : SX := (sQ (sIf (tV (eB (gIsi .str) (aC (eV 0) (aC (eC (.raw (.ty "str"))) aN)))) (sR (eV 0)) sP)
  (sQ (sA (eV 0) (tgU [(nm 1), (nm 2), (nm 3)]))
  (sR (eB gTpl (aC (eTab k_MIRRORED (eV 1)) (aC (eF (F .mirror_kind) (aC (eV 3) aN)) (aC (eF (F .mirror_kind) (aC (eV 2) aN)) aN)))))))
noncomputable def b_put_kind (F : FN → List D → M D) : SX := (sQ (sIf (tV (eB (gIsi .str) (aC (eV 0) (aC (eC (.raw (.ty "str"))) aN)))) (sQ (sIf (tE (e2 gEq (eV 0) (eV 1))) (sR (eV 2)) sP)
  (sR (eV 0))) sP)
  (sQ (sA (eV 0) (tgU [(nm 3), (nm 4), (nm 5)]))
  (sR (eB gTpl (aC (eV 3) (aC (eF (F .put_kind) (aC (eV 4) (aC (eV 1) (aC (eV 2) aN)))) (aC (eF (F .put_kind) (aC (eV 5) (aC (eV 1) (aC (eV 2) aN)))) aN)))))))
noncomputable def b_substitute_kind (F : FN → List D → M D) : SX := (sQ (sIf (tE (e2 gGt (e2 gAdd (eF (F .size_of) (aC (eV 0) aN)) (e2 gMul (eF (F .count_of) (aC (eV 0) (aC (eV 1) aN))) (e2 gSub (eF (F .size_of) (aC (eV 2) aN)) (eC (.int 1))))) (eC k_MOST))) (sX "SizeError") sP)
  (sR (eF (F .put_kind) (aC (eV 0) (aC (eV 1) (aC (eV 2) aN))))))
noncomputable def b__law_cell (F : FN → List D → M D) : SX := (sQ (sIf (tE (e2 gLt (eV 1) (eB gLen (aC (eV 0) aN)))) (sR (eB gInt (aC (e2 gIx (eV 0) (eV 1)) aN))) sP)
  (sR (eC (.int 0))))
noncomputable def b__law_mix (F : FN → List D → M D) : SX := (sQ (sN 0 (e2 gMod (eB gInt (aC (e2 gAdd (e2 gAdd (e2 gMul (eV 0) (eV 0)) (e2 gMul (eC (.int 3)) (eV 0))) (eC (.int 7919))) aN)) (eC (.int 1000003))))
  (sR (e2 gMod (eB gInt (aC (e2 gAdd (e2 gAdd (e2 gMul (eV 0) (eV 0)) (e2 gMul (eC (.int 5)) (eV 0))) (eC (.int 104729))) aN)) (eC (.int 998244353)))))
noncomputable def b__law_pool (F : FN → List D → M D) : SX := (sQ (sN 2 (eF (F ._law_cell) (aC (eV 0) (aC (eV 1) aN))))
  (sQ (sIf (tE (e2 gGe (eV 2) (e2 gPow (eC (.int 10)) (eC (.int 18))))) (sR (eB gLsd (aC (e2 gSub (eV 2) (e2 gPow (eC (.int 10)) (eC (.int 18)))) (aC (e2 gMul (eC (.int 40009)) (e2 gAdd (eV 1) (eC (.int 1)))) (aC (eC (.int 0)) aN))))) sP)
  (sR (eB gLsd (aC (eC (.int 0)) (aC (e2 gAdd (e2 gMod (eB gInt (aC (eB gAbs (aC (eV 2) aN)) aN)) (eC (.int 2000000011))) (e2 gMul (eC (.int 7919)) (eV 1))) (aC (eC (.int 0)) aN)))))))
noncomputable def b__law_draw (F : FN → List D → M D) : SX := (sQ (sIf (tE (e2 gGt (e2 gIx (eV 0) (eC (.int 0))) (eC (.int 0)))) (sQ (sN 2 (e2 gMod (eB gInt (aC (e2 gIx (eV 0) (eC (.int 0))) aN)) (eV 1)))
  (sQ (sA (e2 gFdiv (e2 gIx (eV 0) (eC (.int 0))) (eV 1)) (tgIx (eV 0) (eC (.int 0))))
  (sR (eV 2)))) sP)
  (sQ (sA (e2 gAdd (e2 gIx (eV 0) (eC (.int 2))) (eC (.int 1))) (tgIx (eV 0) (eC (.int 2))))
  (sR (e2 gMod (eB gInt (aC (e2 gFdiv (eF (F ._law_mix) (aC (e2 gAdd (e2 gIx (eV 0) (eC (.int 1))) (e2 gMul (eC (.int 7368787)) (e2 gIx (eV 0) (eC (.int 2))))) aN)) (eC (.int 8))) aN)) (eV 1)))))
noncomputable def b__law_atom (F : FN → List D → M D) : SX := (sQ (sN 1 (eC (.str "abcdefghijklmnopqrstuvwxyz0123456789")))
  (sQ (sN 2 (e2 gIx (eV 1) (eF (F ._law_draw) (aC (eV 0) (aC (eC (.int 26)) aN)))))
  (sQ (sF (iR1 (e2 gIx (eB gLsd (aC (eC (.int 0)) (aC (eC (.int 0)) (aC (eC (.int 1)) (aC (eC (.int 7)) (aC (eC (.int 0)) (aC (eC (.int 2)) (aC (eC (.int 3)) (aC (eC (.int 5)) (aC (eC (.int 4)) (aC (eC (.int 6)) aN))))))))))) (eF (F ._law_draw) (aC (eV 0) (aC (eC (.int 10)) aN))))) (nm 3) (sN 2 (e2 gAdd (eV 2) (e2 gIx (eV 1) (eF (F ._law_draw) (aC (eV 0) (aC (eC (.int 36)) aN)))))))
  (sQ (sN 4 (eF (F ._law_draw) (aC (eV 0) (aC (eC (.int 4)) aN))))
  (sQ (sIf (tE (e2 gEq (eV 4) (eC (.int 2)))) (sR (e2 gAdd (e2 gAdd (eV 2) (eC (.str "."))) (eB gStr (aC (e2 gAdd (eC (.int 1)) (eF (F ._law_draw) (aC (eV 0) (aC (eC (.int 20)) aN)))) aN)))) sP)
  (sQ (sIf (tE (e2 gEq (eV 4) (eC (.int 3)))) (sR (e2 gAdd (e2 gAdd (eV 2) (eC (.str "."))) (eB gStr (aC (e2 gAdd (eC (.int 1)) (eF (F ._law_draw) (aC (eV 0) (aC (eC (.int 999999)) aN)))) aN)))) sP)
  (sR (eV 2))))))))
noncomputable def b__law_lot (F : FN → List D → M D) : SX := (sQ (sN 1 (eF (F ._law_atom) (aC (eV 0) aN)))
  (sQ (sN 2 (e2 gAdd (eMt .str gSplit (eV 1) (aC (eC (.str ".")) aN)) (eB gLsd (aC (eC (.str "0")) aN))))
  (sQ (sN 3 (e2 gIx (eV 2) (eC (.int 0))))
  (sQ (sN 4 (eB gInt (aC (e2 gIx (eV 2) (eC (.int 1))) aN)))
  (sQ (sN 5 (e2 gAdd (e2 gAdd (eV 3) (eC (.str "."))) (eB gStr (aC (e2 gAdd (e2 gMod (eV 4) (eC (.int 999999))) (eC (.int 1))) aN))))
  (sQ (sIf (tA (tE (e2 gGt (eV 4) (eC (.int 0)))) (tE (e2 gEq (eF (F ._law_draw) (aC (eV 0) (aC (eC (.int 2)) aN))) (eC (.int 0))))) (sN 5 (eV 3)) sP)
  (sQ (sN 6 (e2 gAdd (eSl (eV 3) oN (oI (eC (.int 7)))) (e2 gIx (eC (.str "abcdefghijklmnopqrstuvwxyz0123456789")) (eF (F ._law_draw) (aC (eV 0) (aC (eC (.int 36)) aN))))))
  (sQ (sIf (tE (e2 gEq (eF (F ._law_draw) (aC (eV 0) (aC (eC (.int 2)) aN))) (eC (.int 1)))) (sN 6 (e2 gAdd (e2 gAdd (eV 6) (eC (.str "."))) (eB gStr (aC (e2 gAdd (eC (.int 1)) (eF (F ._law_draw) (aC (eV 0) (aC (eC (.int 20)) aN)))) aN)))) sP)
  (sR (eB gLsd (aC (eV 1) (aC (eV 5) (aC (eV 6) (aC (eF (F ._law_atom) (aC (eV 0) aN)) aN))))))))))))))
noncomputable def b__law_place (F : FN → List D → M D) : SX := (sQ (sN 2 (eF (F ._law_draw) (aC (eV 0) (aC (eC (.int 7)) aN))))
  (sQ (sIf (tE (e2 gLt (eV 2) (eC (.int 4)))) (sR (e2 gIx (eV 1) (eV 2))) sP)
  (sQ (sIf (tE (e2 gLt (eV 2) (eC (.int 6)))) (sR (e2 gIx (eV 1) (eC (.int 0)))) sP)
  (sR (eF (F ._law_atom) (aC (eV 0) aN))))))
noncomputable def b__law_bracket (F : FN → List D → M D) : SX := (sQ (sIf (tE (e2 gEq (eB gLen (aC (eV 1) aN)) (eC (.int 1)))) (sR (e2 gIx (eV 1) (eC (.int 0)))) sP)
  (sQ (sN 2 (e2 gAdd (eC (.int 1)) (eF (F ._law_draw) (aC (eV 0) (aC (e2 gSub (eB gLen (aC (eV 1) aN)) (eC (.int 1))) aN)))))
  (sQ (sN 3 (e2 gIx (eC (.str "/>*")) (eF (F ._law_draw) (aC (eV 0) (aC (eC (.int 3)) aN)))))
  (sQ (sN 4 (eF (F ._law_bracket) (aC (eV 0) (aC (eSl (eV 1) oN (oI (eV 2))) aN))))
  (sR (eB gTpl (aC (eV 3) (aC (eV 4) (aC (eF (F ._law_bracket) (aC (eV 0) (aC (eSl (eV 1) (oI (eV 2)) oN) aN))) aN)))))))))
noncomputable def b__law_sized (F : FN → List D → M D) : SX := (sQ (sN 2 (e2 gAdd (eC (.int 1)) (eF (F ._law_draw) (aC (eV 0) (aC (eC (.int 4)) aN)))))
  (sQ (sN 3 (e2 gAdd (eC (.int 38)) (eF (F ._law_draw) (aC (eV 0) (aC (eC (.int 7)) aN)))))
  (sQ (sN 4 (e2 gAdd (eC (.int 1)) (e2 gFdiv (eB gMax2 (aC (eC (.int 0)) (aC (e2 gAdd (e2 gSub (eV 3) (eC (.int 41))) (eV 2)) aN))) (eV 2))))
  (sQ (sN 5 (eB gMin2 (aC (eC (.int 40)) (aC (e2 gFdiv (eV 3) (eV 2)) aN))))
  (sQ (sN 6 (e2 gAdd (eV 4) (eF (F ._law_draw) (aC (eV 0) (aC (e2 gAdd (e2 gSub (eV 5) (eV 4)) (eC (.int 1))) aN)))))
  (sQ (sN 7 (eB gLsd aN))
  (sQ (sF (iR1 (e2 gSub (eV 3) (e2 gMul (eV 2) (eV 6)))) (nm 8) (sQ (sN 9 (eF (F ._law_place) (aC (eV 0) (aC (eV 1) aN))))
  (sQ (sIf (tE (e2 gEq (eV 9) (e2 gIx (eV 1) (eC (.int 0))))) (sN 9 (e2 gIx (eV 1) (eC (.int 1)))) sP)
  (sE (eMt .lst gAppend (eV 7) (aC (eV 9) aN))))))
  (sQ (sF (iR1 (eV 2)) (nm 8) (sE (eMt .lst gInsert (eV 7) (aC (eF (F ._law_draw) (aC (eV 0) (aC (e2 gAdd (eB gLen (aC (eV 7) aN)) (eC (.int 1))) aN))) (aC (e2 gIx (eV 1) (eC (.int 0))) aN)))))
  (sR (eB gLsd (aC (eV 7) (aC (eLc [8] (iR1 (eV 6)) (.one 8) tYesD (eF (F ._law_place) (aC (eV 0) (aC (eV 1) aN)))) aN))))))))))))
noncomputable def b__law_texts (F : FN → List D → M D) : SX := (sQ (sN 2 (eF (F ._law_draw) (aC (eV 0) (aC (eC (.int 8)) aN))))
  (sQ (sIf (tE (e2 gGt (eV 2) (eC (.int 5)))) (sR (eF (F ._law_sized) (aC (eV 0) (aC (eV 1) aN)))) sP)
  (sQ (sN 3 (e2 gAdd (eC (.int 1)) (eF (F ._law_draw) (aC (eV 0) (aC (eC (.int 8)) aN)))))
  (sQ (sN 4 (e2 gAdd (eC (.int 1)) (eF (F ._law_draw) (aC (eV 0) (aC (eC (.int 5)) aN)))))
  (sQ (sIf (tE (e2 gEq (eV 2) (eC (.int 5)))) (sQ (sN 3 (e2 gAdd (eC (.int 9)) (eF (F ._law_draw) (aC (eV 0) (aC (eC (.int 32)) aN)))))
  (sN 4 (e2 gAdd (eC (.int 1)) (eF (F ._law_draw) (aC (eV 0) (aC (eC (.int 40)) aN)))))) sP)
  (sQ (sN 5 (eLc [6] (iR1 (eV 3)) (.one 6) tYesD (eF (F ._law_place) (aC (eV 0) (aC (eV 1) aN)))))
  (sR (eB gLsd (aC (eV 5) (aC (eLc [6] (iR1 (eV 4)) (.one 6) tYesD (eF (F ._law_place) (aC (eV 0) (aC (eV 1) aN)))) aN))))))))))
noncomputable def b__law_is_atom (F : FN → List D → M D) : SX := (sQ (sIf (tO (tN (tV (eB (gIsi .str) (aC (eV 0) (aC (eC (.raw (.ty "str"))) aN))))) (tE (e2 gEq (eV 0) (eC (.str ""))))) (sR (eC (.bl false))) sP)
  (sQ (sN 1 (e2 gIx (eMt .str gSplit (eV 0) (aC (eC (.str ".")) aN)) (eC (.int 0))))
  (sQ (sIf (tO (tE (e2 gEq (eB gLen (aC (eV 1) aN)) (eC (.int 0)))) (tO (tE (e2 gGt (eB gLen (aC (eV 1) aN)) (eC (.int 8)))) (tE (e2 gNin (e2 gIx (eV 1) (eC (.int 0))) (eC (.str "abcdefghijklmnopqrstuvwxyz")))))) (sR (eC (.bl false))) sP)
  (sQ (sIf (tE (e2 gGt (eB gLen (aC (eLc [3] (iA (eV 1)) (.one 3) (tE (e2 gNin (eV 3) (eC (.str "abcdefghijklmnopqrstuvwxyz0123456789")))) (eV 3)) aN)) (eC (.int 0)))) (sR (eC (.bl false))) sP)
  (sQ (sIf (tE (e2 gEq (eV 0) (eV 1))) (sR (eC (.bl true))) sP)
  (sQ (sN 2 (eSl (eV 0) (oI (e2 gAdd (eB gLen (aC (eV 1) aN)) (eC (.int 1)))) oN))
  (sQ (sIf (tO (tE (e2 gNe (eMt .str gCountS (eV 0) (aC (eC (.str ".")) aN)) (eC (.int 1)))) (tO (tE (e2 gEq (eB gLen (aC (eV 2) aN)) (eC (.int 0)))) (tO (tE (e2 gGt (eB gLen (aC (eV 2) aN)) (eC (.int 6)))) (tE (e2 gEq (e2 gIx (eV 2) (eC (.int 0))) (eC (.str "0"))))))) (sR (eC (.bl false))) sP)
  (sR (e2 gEq (eB gLen (aC (eLc [3] (iA (eV 2)) (.one 3) (tE (e2 gNin (eV 3) (eC (.str "0123456789")))) (eV 3)) aN)) (eC (.int 0)))))))))))
noncomputable def b__law_is_kind (F : FN → List D → M D) : SX := (sQ (sIf (tV (eB (gIsi .str) (aC (eV 0) (aC (eC (.raw (.ty "str"))) aN)))) (sR (eF (F ._law_is_atom) (aC (eV 0) aN))) sP)
  (sQ (sIf (tO (tN (tV (eB (gIsi .tup) (aC (eV 0) (aC (eC (.raw (.ty "tuple"))) aN))))) (tO (tE (e2 gNe (eB gLen (aC (eV 0) aN)) (eC (.int 3)))) (tE (e2 gLe (eV 1) (eC (.int 0)))))) (sR (eC (.bl false))) sP)
  (sQ (sIf (tO (tN (tV (eB (gIsi .str) (aC (e2 gIx (eV 0) (eC (.int 0))) (aC (eC (.raw (.ty "str"))) aN))))) (tE (e2 gNin (e2 gIx (eV 0) (eC (.int 0))) (eB gLsd (aC (eC (.str "/")) (aC (eC (.str ">")) (aC (eC (.str "*")) aN))))))) (sR (eC (.bl false))) sP)
  (sR (eAnd (eF (F ._law_is_kind) (aC (e2 gIx (eV 0) (eC (.int 1))) (aC (e2 gSub (eV 1) (eC (.int 1))) aN))) (eF (F ._law_is_kind) (aC (e2 gIx (eV 0) (eC (.int 2))) (aC (e2 gSub (eV 1) (eC (.int 1))) aN))))))))
noncomputable def b__law_row (F : FN → List D → M D) : SX := (sQ (sIf (tV (eB (gIsi .str) (aC (eV 0) (aC (eC (.raw (.ty "str"))) aN)))) (sR (eB gLsd (aC (eV 0) aN))) sP)
  (sR (e2 gAdd (e2 gAdd (eB gLsd (aC (e2 gIx (eV 0) (eC (.int 0))) aN)) (eF (F ._law_row) (aC (e2 gIx (eV 0) (eC (.int 1))) aN))) (eF (F ._law_row) (aC (e2 gIx (eV 0) (eC (.int 2))) aN)))))
noncomputable def b__law_last_row (F : FN → List D → M D) : SX := (sQ (sIf (tV (eB (gIsi .str) (aC (eV 0) (aC (eC (.raw (.ty "str"))) aN)))) (sR (eB gLsd (aC (eV 0) aN))) sP)
  (sR (e2 gAdd (e2 gAdd (eF (F ._law_last_row) (aC (e2 gIx (eV 0) (eC (.int 1))) aN)) (eF (F ._law_last_row) (aC (e2 gIx (eV 0) (eC (.int 2))) aN))) (eB gLsd (aC (e2 gIx (eV 0) (eC (.int 0))) aN)))))
noncomputable def b__law_mirrored (F : FN → List D → M D) : SX := (sQ (sN 1 (eB gLsd aN))
  (sQ (sF (iV (eF (F ._law_last_row) (aC (eV 0) aN))) (nm 2) (sIf (tE (e2 gEq (eV 2) (eC (.str "/")))) (sE (eMt .lst gAppend (eV 1) (aC (eC (.str ">")) aN))) (sIf (tE (e2 gEq (eV 2) (eC (.str ">")))) (sE (eMt .lst gAppend (eV 1) (aC (eC (.str "/")) aN))) (sE (eMt .lst gAppend (eV 1) (aC (eV 2) aN))))))
  (sQ (sN 3 (eF (F .mirror_kind) (aC (eV 0) aN)))
  (sR (eAnd (eF (F ._law_is_kind) (aC (eV 3) (aC (eC (.int 40)) aN))) (eAnd (e2 gEq (eF (F ._law_row) (aC (eV 3) aN)) (eV 1)) (e2 gEq (eF (F .mirror_kind) (aC (eV 3) aN)) (eV 0))))))))
noncomputable def b__law_replaced (F : FN → List D → M D) : SX := (sQ (sN 3 (eC .non))
  (sQ (sN 4 (eC (.str "")))
  (sQ (sN 5 (eC (.bl false)))
  (sQ (sTry 6 [("SizeError", true, fun a => (sQ (sN 4 (eC (.str "SizeError")))
  (sQ (sN 5 (eAnd (eIs 6 a true) (eIs 6 a true)))
  (sN 5 (eAnd (eV 5) (eAnd (eNot (eIs 6 a false)) (eNot (eIs 6 a false))))))))] (sN 3 (eF (F .substitute_kind) (aC (eV 0) (aC (eV 1) (aC (eV 2) aN))))))
  (sQ (sN 7 (eB gLsd aN))
  (sQ (sF (iA (eF (F ._law_row) (aC (eV 0) aN))) (nm 8) (sIf (tE (e2 gEq (eV 8) (eV 1))) (sN 7 (e2 gAdd (eV 7) (eF (F ._law_row) (aC (eV 2) aN)))) (sE (eMt .lst gAppend (eV 7) (aC (eV 8) aN)))))
  (sQ (sIf (tE (e2 gGt (eB gLen (aC (eLc [8] (iA (eV 7)) (.one 8) (tE (e2 gNin (eV 8) (eB gLsd (aC (eC (.str "/")) (aC (eC (.str ">")) (aC (eC (.str "*")) aN)))))) (eV 8)) aN)) (eC (.int 40)))) (sR (eAnd (e2 gEq (eV 4) (eC (.str "SizeError"))) (eV 5))) sP)
  (sR (eAnd (e2 gEq (eV 4) (eC (.str ""))) (eAnd (eF (F ._law_is_kind) (aC (eV 3) (aC (eC (.int 40)) aN))) (e2 gEq (eF (F ._law_row) (aC (eV 3) aN)) (eV 7))))))))))))
noncomputable def b_law (F : FN → List D → M D) : SX := (sQ (sN 1 (eF (F ._law_pool) (aC (eV 0) (aC (eC (.int 0)) aN))))
  (sQ (sN 2 (eF (F ._law_lot) (aC (eV 1) aN)))
  (sQ (sA (eF (F ._law_texts) (aC (eV 1) (aC (eV 2) aN))) (tgU [(nm 6), (nm 7)]))
  (sQ (sN 3 (e2 gIx (eB gLsd (aC (e2 gIx (eV 2) (eC (.int 0))) (aC (e2 gIx (eV 2) (eC (.int 0))) (aC (e2 gIx (eV 2) (eC (.int 0))) (aC (e2 gIx (e2 gAdd (eSl (eV 2) (oI (eC (.int 1))) oN) (eB gLsd (aC (eF (F ._law_atom) (aC (eV 1) aN)) aN))) (eF (F ._law_draw) (aC (eV 1) (aC (eC (.int 4)) aN)))) aN))))) (eF (F ._law_draw) (aC (eV 1) (aC (eC (.int 4)) aN)))))
  (sQ (sN 4 (eF (F ._law_bracket) (aC (eF (F ._law_pool) (aC (eV 0) (aC (eC (.int 1)) aN))) (aC (eV 6) aN))))
  (sQ (sN 5 (eF (F ._law_bracket) (aC (eF (F ._law_pool) (aC (eV 0) (aC (eC (.int 2)) aN))) (aC (eV 7) aN))))
  (sQ (sIf (tO (tN (tV (eF (F ._law_mirrored) (aC (eV 4) aN)))) (tN (tV (eF (F ._law_mirrored) (aC (eV 5) aN))))) (sR (eC (.bl false))) sP)
  (sQ (sIf (tO (tN (tV (eF (F ._law_replaced) (aC (eV 4) (aC (eV 3) (aC (eV 5) aN)))))) (tN (tV (eF (F ._law_replaced) (aC (eV 5) (aC (eV 3) (aC (eV 4) aN))))))) (sR (eC (.bl false))) sP)
  (sR (eAnd (eF (F ._law_replaced) (aC (eV 4) (aC (e2 gIx (eV 2) (eC (.int 1))) (aC (eV 5) aN)))) (eAnd (eF (F ._law_replaced) (aC (eV 4) (aC (eV 3) (aC (eV 5) aN)))) (eF (F ._law_mirrored) (aC (eV 4) aN)))))))))))))
noncomputable def tab : Nat → FN → List D → M D
  | 0, _ => fun _ _ => .no
  | n + 1, .size_of => runB 1 1 (b_size_of (tab n))
  | n + 1, .atoms_of => runB 1 1 (b_atoms_of (tab n))
  | n + 1, .count_of => runB 2 2 (b_count_of (tab n))
  | n + 1, .mirror_kind => runB 1 4 (b_mirror_kind (tab n))
  | n + 1, .put_kind => runB 3 6 (b_put_kind (tab n))
  | n + 1, .substitute_kind => runB 3 3 (b_substitute_kind (tab n))
  | n + 1, ._law_cell => runB 2 2 (b__law_cell (tab n))
  | n + 1, ._law_mix => runB 1 1 (b__law_mix (tab n))
  | n + 1, ._law_pool => runB 2 3 (b__law_pool (tab n))
  | n + 1, ._law_draw => runB 2 3 (b__law_draw (tab n))
  | n + 1, ._law_atom => runB 1 5 (b__law_atom (tab n))
  | n + 1, ._law_lot => runB 1 7 (b__law_lot (tab n))
  | n + 1, ._law_place => runB 2 3 (b__law_place (tab n))
  | n + 1, ._law_bracket => runB 2 5 (b__law_bracket (tab n))
  | n + 1, ._law_sized => runB 2 10 (b__law_sized (tab n))
  | n + 1, ._law_texts => runB 2 7 (b__law_texts (tab n))
  | n + 1, ._law_is_atom => runB 1 4 (b__law_is_atom (tab n))
  | n + 1, ._law_is_kind => runB 2 2 (b__law_is_kind (tab n))
  | n + 1, ._law_row => runB 1 1 (b__law_row (tab n))
  | n + 1, ._law_last_row => runB 1 1 (b__law_last_row (tab n))
  | n + 1, ._law_mirrored => runB 1 4 (b__law_mirrored (tab n))
  | n + 1, ._law_replaced => runB 3 9 (b__law_replaced (tab n))
  | n + 1, .law => runB 1 8 (b_law (tab n))
end Lw

set_option Elab.async false
set_option linter.all false
set_option maxRecDepth 100000
namespace Lw
open PySem L2 Dl
local macro_rules | `(tactic| walk_at "ev") => `(tactic| simp (disch := first | omega | assumption | (simp only [List.length_cons, List.length_nil]; omega)) only [sQ_, sP_, sE_, sR_, sIf_, sN_, sA_, tgO_nx, nm_, tgIx_, eC_, eV0, eV1, e1_, e2_, eB_, eF_, aN_, aC_, eMt_, eSl_, oN_, oI_, tV_, tE_, tA_, tO_, tN_, eIf_, eAnd_, eOr_, eNot_, eCh_,
  seq_nx, seq_rt, seq_bk, seq_ct, seq_ex, toR_some, toR_none, toT_some, truD_bl, truD_int, truD_tup, tyD_str, tyD_tup, tyD_int, tyD_bl, tyD_non,
  kE_, kR_, kIf_t, kIf_f, kN_, kA_, kIx1_, kIx2_, kIx3_, kE1_, kE21_, kE2_, kB_, kF_, kC1_, kC_, kM1_, kM2_, kM_, kS1_, kS2_, kS3_, kO_, kV_, kT_, kAn_t, kAn_f, kOr_t, kOr_f, kNo_, kIfE_t, kIfE_f, kVa_, kVa2_t, kVa2_f, kVo_, kVo2_t, kVo2_f, kVn_, kVn2_, kH_, kH1_, kH2_t, kH2_f, kH3_,
  List.getElem?_cons_zero, List.getElem?_cons_succ, List.set_cons_zero, List.set_cons_succ, gAdd_int, gAdd_str, gSub_int, gMul_l, gMul_r, gFdiv_int, gMod_int, gLt_int, gLe_int, gGt_int, gGe_int, gInt_int, gAbs_int, gLen_tup, gLen_str, gTpl_, gLsd_,
  Bool.false_eq_true, if_true, if_false, reduceIte, Option.map_some, Option.bind_some, gEq_int, gNe_int, gEq_str, gNe_str, Bool.not_true, Bool.not_false, decide_true, decide_false, List.length_singleton, List.length_cons, List.length_nil, List.map_cons, List.map_nil, Nat.sub_self, List.replicate_zero, List.append_nil, List.cons_append, List.nil_append, List.replicate_succ, Nat.reduceSub, Nat.reduceAdd, Nat.add_zero, Nat.zero_add, tgT_, tgL0, tgL1])
local macro_rules | `(tactic| walk_at "evs") => `(tactic| simp (disch := first | omega | assumption | (simp only [List.length_cons, List.length_nil]; omega)) only [sQ_, sP_, sE_, sR_, sIf_, sN_, sA_, tgO_nx, nm_, tgIx_, eC_, eV0, eV1, e1_, e2_, eB_, eF_, aN_, aC_, eMt_, eSl_, oN_, oI_, tV_, tE_, tA_, tO_, tN_, eIf_, eAnd_, eOr_, eNot_, eCh_,
  seq_nx, seq_rt, seq_bk, seq_ct, seq_ex, toR_some, toR_none, toT_some, truD_bl, truD_int, truD_tup, tyD_str, tyD_tup, tyD_int, tyD_bl, tyD_non,
  kE_, kR_, kIf_t, kIf_f, kN_, kA_, kIx1_, kIx2_, kIx3_, kE1_, kE21_, kE2_, kB_, kF_, kC1_, kC_, kM1_, kM2_, kM_, kS1_, kS2_, kS3_, kO_, kV_, kT_, kAn_t, kAn_f, kOr_t, kOr_f, kNo_, kIfE_t, kIfE_f, kVa_, kVa2_t, kVa2_f, kVo_, kVo2_t, kVo2_f, kVn_, kVn2_, kH_, kH1_, kH2_t, kH2_f, kH3_,
  List.getElem?_cons_zero, List.getElem?_cons_succ, List.set_cons_zero, List.set_cons_succ, gAdd_int, gAdd_str, gSub_int, gMul_l, gMul_r, gFdiv_int, gMod_int, gLt_int, gLe_int, gGt_int, gGe_int, gInt_int, gAbs_int, gLen_tup, gLen_str, gTpl_, gLsd_,
  Bool.false_eq_true, if_true, if_false, reduceIte, Option.map_some, Option.bind_some, gEq_int, gNe_int, gEq_str, gNe_str, Bool.not_true, Bool.not_false, decide_true, decide_false, List.length_singleton, List.length_cons, List.length_nil, List.map_cons, List.map_nil, Nat.sub_self, List.replicate_zero, List.append_nil, List.cons_append, List.nil_append, List.replicate_succ, Nat.reduceSub, Nat.reduceAdd, Nat.add_zero, Nat.zero_add, tgT_, tgL0, tgL1, *])
def mixZ (x : Int) : Int :=
  let y := (x * x + 3 * x + 7919) % 1000003
  (y * y + 5 * y + 104729) % 998244353
theorem mix_spec (n : Nat) (x : Int) (h0 : 0 ≤ x) (h1 : x < 18446744073709551616) (S : Store) : tab (n + 1) ._law_mix [.int x] S = .ok (.int (mixZ x)) S := by
  refine (runB_rt (g := b__law_mix (tab n)) rfl (d := .int (mixZ x)) (S' := S) ?_).trans (cmp_same rfl rfl)
  unfold b__law_mix
  have b1 : 0 ≤ (x * x + 3 * x + 7919) % 1000003 := Int.emod_nonneg _ (by decide)
  have b2 : (x * x + 3 * x + 7919) % 1000003 < 1000003 := Int.emod_lt_of_pos _ (by decide)
  walk_at "ev"
  rfl

def Pool (N : Nat) (P : List D) : Prop := ∃ a b c : Int, P = [.int a, .int b, .int c] ∧ 0 ≤ b ∧ b ≤ 10000000000 ∧ 0 ≤ c ∧ c ≤ N
theorem Pool.flat {N : Nat} {P : List D} (h : Pool N P) : flats P = true := by obtain ⟨a, b, c, rfl, _⟩ := h; rfl
theorem Pool.mono {N M : Nat} {P : List D} (h : Pool N P) (l : N ≤ M) : Pool M P := by obtain ⟨a, b, c, e, h1, h2, h3, h4⟩ := h; exact ⟨a, b, c, e, h1, h2, h3, by omega⟩
theorem draw_spec (n : Nat) {N p : Nat} {many : Int} {S : Store} {P : List D} (h : S[p]? = some (.lst P)) (hp : Pool N P) (hN : N ≤ 1000000) (h0 : 0 < many) (h1 : many < 1073741824) :
    ∃ d P', Pool (N + 1) P' ∧ 0 ≤ d ∧ d < many ∧ tab (n + 2) ._law_draw [.ref p, .int many] S = .ok (.int d) (S.set p (.lst P')) := by
  obtain ⟨a, b, c, rfl, b0, b1, c0, c1⟩ := hp
  have hl : p < S.length := (List.getElem?_eq_some_iff.mp h).1
  have e0 : gIx (.ref p) (.int 0) S = some (.int a, S) := gIx_lst (lstAt_lst h) rfl
  have e1 : gIx (.ref p) (.int 1) S = some (.int b, S) := gIx_lst (lstAt_lst h) rfl
  have e2 : gIx (.ref p) (.int 2) S = some (.int c, S) := gIx_lst (lstAt_lst h) rfl
  by_cases ha : 0 < a
  · refine ⟨a % many, [.int (a / many), .int b, .int c], ⟨_, _, _, rfl, b0, b1, c0, by omega⟩, Int.emod_nonneg _ (by omega), Int.emod_lt_of_pos _ h0, ?_⟩
    refine (runB_rt (g := b__law_draw (tab (n + 1))) rfl (d := .int (a % many)) (S' := S.set p (.lst [.int (a / many), .int b, .int c])) ?_).trans (cmp_same (by rw [List.length_set]) rfl)
    have es : gSet (.ref p) (.int 0) (.int (a / many)) S = some (S.set p (.lst [.int (a / many), .int b, .int c])) := gSet_lst (m := 0) h rfl
    unfold b__law_draw
    walk_at "evs"

  · have hs : ∀ k : Int, gSet (.ref p) (.int 2) (.int k) S = some (S.set p (.lst [.int a, .int b, .int k])) := fun k => gSet_lst (m := 2) h rfl
    have h' : (S.set p (.lst [.int a, .int b, .int (c + 1)]))[p]? = some (.lst [.int a, .int b, .int (c + 1)]) := List.getElem?_set_self hl
    have f1 : gIx (.ref p) (.int 1) (S.set p (.lst [.int a, .int b, .int (c + 1)])) = some (.int b, S.set p (.lst [.int a, .int b, .int (c + 1)])) := gIx_lst (lstAt_lst h') rfl
    have f2 : gIx (.ref p) (.int 2) (S.set p (.lst [.int a, .int b, .int (c + 1)])) = some (.int (c + 1), S.set p (.lst [.int a, .int b, .int (c + 1)])) := gIx_lst (lstAt_lst h') rfl
    have em := mix_spec n (b + 7368787 * (c + 1)) (by omega) (by omega) (S.set p (.lst [.int a, .int b, .int (c + 1)]))
    refine ⟨mixZ (b + 7368787 * (c + 1)) / 8 % many, [.int a, .int b, .int (c + 1)], ⟨_, _, _, rfl, b0, b1, by omega, by omega⟩, Int.emod_nonneg _ (by omega), Int.emod_lt_of_pos _ h0, ?_⟩
    refine (runB_rt (g := b__law_draw (tab (n + 1))) rfl (d := .int (mixZ (b + 7368787 * (c + 1)) / 8 % many)) (S' := S.set p (.lst [.int a, .int b, .int (c + 1)])) ?_).trans (cmp_same (by rw [List.length_set]) rfl)
    unfold b__law_draw
    have ha' : decide (0 < a) = false := decide_eq_false ha
    walk_at "evs"

end Lw

set_option Elab.async false
set_option linter.all false
set_option maxRecDepth 100000
namespace Lw
open PySem L2 Dl
/-! ## tools of this law -/
theorem tgU_ {ts : List (D → SX)} {ds : List D} {ρ : Dl.Env} {S : Store} (h : ds.length = ts.length) : tgU ts (.tup ds) ρ S = tgL ts ds ρ S := by
  show (if ds.length = ts.length then tgL ts ds else sNo) ρ S = _
  rw [if_pos h]
theorem tgU_l {ts : List (D → SX)} {ds : List D} {ρ : Dl.Env} {S : Store} {l : Nat} (hl : lstAt S l = some ds) (h : ds.length = ts.length) : tgU ts (.ref l) ρ S = tgL ts ds ρ S := by
  show (match lstAt S l with
    | some ds => if ds.length = ts.length then tgL ts ds ρ S else .no
    | none => .no) = _
  rw [hl]
  exact if_pos h
noncomputable def kTab (L : List (Str × D)) : Dl.R D → Dl.R D
  | .ok y S => toR (gTab L .non y S)
  | .ex x S => .ex x S
  | .no => .no
theorem eTab_ {L : List (Str × D)} {f : EX} {ρ : Dl.Env} {S : Store} : eTab L f ρ S = kTab L (f ρ S) := by show (f ρ S).bind _ = _; cases f ρ S <;> rfl
theorem kTab_ {L : List (Str × D)} {y : D} {S : Store} : kTab L (.ok y S) = toR (gTab L .non y S) := rfl
theorem sX_ {x : Str} {ρ : Dl.Env} {S : Store} : sX x ρ S = .ex ⟨x, []⟩ ρ S := rfl
local macro_rules | `(tactic| walk_at "ev") => `(tactic| simp (disch := first | omega | assumption | (simp only [List.length_cons, List.length_nil]; omega)) only [sQ_, sP_, sE_, sR_, sIf_, sN_, sA_, tgO_nx, nm_, tgIx_, eC_, eV0, eV1, e1_, e2_, eB_, eF_, aN_, aC_, eMt_, eSl_, oN_, oI_, tV_, tE_, tA_, tO_, tN_, eIf_, eAnd_, eOr_, eNot_, eCh_,
  seq_nx, seq_rt, seq_bk, seq_ct, seq_ex, toR_some, toR_none, toT_some, truD_bl, truD_int, truD_tup, tyD_str, tyD_tup, tyD_int, tyD_bl, tyD_non,
  kE_, kR_, kIf_t, kIf_f, kN_, kA_, kIx1_, kIx2_, kIx3_, kE1_, kE21_, kE2_, kB_, kF_, kC1_, kC_, kM1_, kM2_, kM_, kS1_, kS2_, kS3_, kO_, kV_, kT_, kAn_t, kAn_f, kOr_t, kOr_f, kNo_, kIfE_t, kIfE_f, kVa_, kVa2_t, kVa2_f, kVo_, kVo2_t, kVo2_f, kVn_, kVn2_, kH_, kH1_, kH2_t, kH2_f, kH3_,
  List.getElem?_cons_zero, List.getElem?_cons_succ, List.set_cons_zero, List.set_cons_succ, gAdd_int, gAdd_str, gSub_int, gMul_l, gMul_r, gFdiv_int, gMod_int, gLt_int, gLe_int, gGt_int, gGe_int, gInt_int, gAbs_int, gLen_tup, gLen_str, gTpl_, gLsd_,
  Bool.false_eq_true, if_true, if_false, reduceIte, Option.map_some, Option.bind_some, gEq_int, gNe_int, gEq_str, gNe_str, Bool.not_true, Bool.not_false, decide_true, decide_false, List.length_singleton, List.length_cons, List.length_nil, List.map_cons, List.map_nil, Nat.sub_self, List.replicate_zero, List.append_nil, List.cons_append, List.nil_append, List.replicate_succ, Nat.reduceSub, Nat.reduceAdd, Nat.add_zero, Nat.zero_add, tgT_, tgU_, tgL0, tgL1, eTab_, kTab_, sX_])
local macro_rules | `(tactic| walk_at "evs") => `(tactic| simp (disch := first | omega | assumption | (simp only [List.length_cons, List.length_nil]; omega)) only [sQ_, sP_, sE_, sR_, sIf_, sN_, sA_, tgO_nx, nm_, tgIx_, eC_, eV0, eV1, e1_, e2_, eB_, eF_, aN_, aC_, eMt_, eSl_, oN_, oI_, tV_, tE_, tA_, tO_, tN_, eIf_, eAnd_, eOr_, eNot_, eCh_,
  seq_nx, seq_rt, seq_bk, seq_ct, seq_ex, toR_some, toR_none, toT_some, truD_bl, truD_int, truD_tup, tyD_str, tyD_tup, tyD_int, tyD_bl, tyD_non,
  kE_, kR_, kIf_t, kIf_f, kN_, kA_, kIx1_, kIx2_, kIx3_, kE1_, kE21_, kE2_, kB_, kF_, kC1_, kC_, kM1_, kM2_, kM_, kS1_, kS2_, kS3_, kO_, kV_, kT_, kAn_t, kAn_f, kOr_t, kOr_f, kNo_, kIfE_t, kIfE_f, kVa_, kVa2_t, kVa2_f, kVo_, kVo2_t, kVo2_f, kVn_, kVn2_, kH_, kH1_, kH2_t, kH2_f, kH3_,
  List.getElem?_cons_zero, List.getElem?_cons_succ, List.set_cons_zero, List.set_cons_succ, gAdd_int, gAdd_str, gSub_int, gMul_l, gMul_r, gFdiv_int, gMod_int, gLt_int, gLe_int, gGt_int, gGe_int, gInt_int, gAbs_int, gLen_tup, gLen_str, gTpl_, gLsd_,
  Bool.false_eq_true, if_true, if_false, reduceIte, Option.map_some, Option.bind_some, gEq_int, gNe_int, gEq_str, gNe_str, Bool.not_true, Bool.not_false, decide_true, decide_false, List.length_singleton, List.length_cons, List.length_nil, List.map_cons, List.map_nil, Nat.sub_self, List.replicate_zero, List.append_nil, List.cons_append, List.nil_append, List.replicate_succ, Nat.reduceSub, Nat.reduceAdd, Nat.add_zero, Nat.zero_add, tgT_, tgU_, tgL0, tgL1, eTab_, kTab_, sX_, *])
/-! ### stores -/
mutual
theorem wf_mono {n m : Nat} (h : n ≤ m) : ∀ {d : D}, d.wf n = true → d.wf m = true
  | .non, _ => rfl
  | .bl _, _ => rfl
  | .int _, _ => rfl
  | .str _, _ => rfl
  | .tup xs, q => wfs_mono h (show wfs n xs = true from q)
  | .ref l, q => by
    have q' : l < n := of_decide_eq_true q
    exact decide_eq_true (by omega)
  | .raw _, _ => rfl
theorem wfs_mono {n m : Nat} (h : n ≤ m) : ∀ {ds : List D}, wfs n ds = true → wfs m ds = true
  | [], _ => rfl
  | d :: ds, q => by
    have q' : (d.wf n && wfs n ds) = true := q
    rw [Bool.and_eq_true] at q'
    show (d.wf m && wfs m ds) = true
    rw [wf_mono h q'.1, wfs_mono h q'.2]
    rfl
end
theorem cwf_mono {n m : Nat} (h : n ≤ m) {c : Cell} (q : Cell.wf n c = true) : Cell.wf m c = true := by
  cases c with
  | lst xs => exact wfs_mono h q
  | rol xs => exact wfs_mono h q
  | dic kvs => exact wfs_mono h q
  | gone => rfl
theorem cwf_flat {n : Nat} {c : Cell} (q : Cell.flat c = true) : Cell.wf n c = true := by
  cases c with
  | lst xs => exact wfs_flat q
  | rol xs => exact wfs_flat q
  | dic kvs => exact wfs_flat q
  | gone => rfl
/-- no cell holds an address beyond the store -/
def SOK (S : Store) : Prop := ∀ c ∈ S, Cell.wf S.length c = true
theorem SOK.wf {S : Store} {n : Nat} (h : SOK S) (e : S.length = n) : SWf n S = true := by
  subst e
  exact List.all_eq_true.mpr h
theorem SOK.set {S : Store} {i : Nat} {c : Cell} (h : SOK S) (hc : Cell.flat c = true) : SOK (S.set i c) := fun x hx => by
  rw [List.length_set]
  rcases List.mem_or_eq_of_mem_set hx with q | q
  · exact h x q
  · rw [q]; exact cwf_flat hc
theorem SOK.push {S : Store} {c : Cell} (h : SOK S) (hc : Cell.wf S.length c = true) : SOK (S ++ [c]) := fun x hx => by
  have l : S.length ≤ (S ++ [c]).length := by rw [List.length_append]; omega
  rcases List.mem_append.mp hx with q | q
  · exact cwf_mono l (h x q)
  · rw [List.mem_singleton.mp q]; exact cwf_mono l hc
theorem SOK.pushF {S : Store} {c : Cell} (h : SOK S) (hc : Cell.flat c = true) : SOK (S ++ [c]) := h.push (cwf_flat hc)
theorem get_end' {S : Store} {c : Cell} {l : Nat} (h : l = S.length) : (S ++ [c])[l]? = some c := by rw [h]; exact get_end
theorem set_end' {S : Store} {c d : Cell} {l : Nat} (h : l = S.length) : (S ++ [c]).set l d = S ++ [d] := by rw [h]; exact set_end
theorem set_keep {S : Store} {p q : Nat} {c d : Cell} (h : S[q]? = some c) (n : p ≠ q) : (S.set p d)[q]? = some c := by rw [List.getElem?_set_ne n]; exact h
theorem ne_end {S : Store} {p : Nat} {c : Cell} (h : S[p]? = some c) : p ≠ S.length := Nat.ne_of_lt (get_lt h)
theorem chk_app {k : Chk} {T : Store} (S : Store) (h : chkOk k T) : chkOk k (T ++ S) := fun p hp => by
  have q := h p hp
  unfold lstAt at q ⊢
  cases e : T[p.1]? with
  | none => rw [e] at q; exact nomatch q
  | some c => rw [get_app e]; rw [e] at q; exact q
theorem lstAt_app {T : Store} (S : Store) {l : Nat} {xs : List D} (h : lstAt T l = some xs) : lstAt (T ++ S) l = some xs := chk_app (k := [(l, xs)]) S (chk_one h) _ (List.mem_singleton.mpr rfl)
theorem lstAt_lt {T : Store} {l : Nat} {xs : List D} (h : lstAt T l = some xs) : l < T.length := by
  unfold lstAt at h
  cases e : T[l]? with
  | none => rw [e] at h; exact nomatch h
  | some c => exact get_lt e
theorem seq_step {a b : SX} {ρ ρ' : Dl.Env} {S S' : Store} {o : Dl.Out} (h1 : a ρ S = .nx ρ' S') (h2 : b ρ' S' = o) : sQ a b ρ S = o := by rw [sQ_, h1]; exact h2
theorem isi_ss {t : Str} {S : Store} : gIsi .str [.str t, .raw (.ty "str")] S = some (.bl true, S) := by unfold gIsi; exact if_pos rfl
theorem isi_st {t : List D} {S : Store} : gIsi .str [.tup t, .raw (.ty "str")] S = some (.bl false, S) := by unfold gIsi; exact if_pos rfl
theorem isi_tt {t : List D} {S : Store} : gIsi .tup [.tup t, .raw (.ty "tuple")] S = some (.bl true, S) := by unfold gIsi; exact if_pos rfl
theorem runC_all {k : Chk} {ρ : Dl.Env} {l : Nat} {g : Cg} {ft : TX} {fe : EX} (val : D → D) (keep : D → Bool) : ∀ (ds acc : List D) (T : Store), l = T.length → acc.length + ds.length ≤ 1000000 → (∀ S, chkOk k T → chkOk k (T ++ S)) → chkOk k T →
    (∀ d ∈ ds, ∃ ρ1, g.put d ρ = some ρ1 ∧ ∀ a, ft ρ1 (T ++ [Cell.lst a]) = .ok (keep d) (T ++ [Cell.lst a]) ∧ (keep d = true → fe ρ1 (T ++ [Cell.lst a]) = .ok (val d) (T ++ [Cell.lst a]))) →
    runC l ρ g ft fe k ds (T ++ [Cell.lst acc]) = .ok (.ref l) (T ++ [Cell.lst (acc ++ (ds.filter keep).map val)])
  | [], acc, T, hl, hz, hk, hk0, _ => by
    unfold runC
    rw [if_pos (hk _ hk0)]
    simp
  | d :: ds, acc, T, hl, hz, hk, hk0, hd => by
    obtain ⟨ρ1, h1, h2⟩ := hd d (List.mem_cons_self ..)
    obtain ⟨h3, h4⟩ := h2 acc
    have hz' : acc.length + (ds.length + 1) ≤ 1000000 := hz
    unfold runC
    rw [if_pos (hk _ hk0)]
    simp only [h1, h3]
    cases hkd : keep d with
    | false =>
      simp only
      rw [runC_all val keep ds acc T hl (by omega) hk hk0 fun x hx => hd x (List.mem_cons_of_mem _ hx), List.filter_cons_of_neg (by rw [hkd]; exact Bool.false_ne_true)]
    | true =>
      have h4' := h4 hkd
      subst hl
      simp only [h4', get_end]
      rw [if_pos (show acc.length < LIM by show acc.length < 16777216; omega), set_end, runC_all val keep ds (acc ++ [val d]) T rfl (by rw [List.length_append]; simp only [List.length_singleton]; omega) hk hk0 fun x hx => hd x (List.mem_cons_of_mem _ hx),
        List.filter_cons_of_pos hkd, List.map_cons, List.append_assoc]
      rfl
/-! ### == of lists -/
theorem deps_str : ∀ xs : List Str, deps (xs.map D.str) = 0
  | [] => rfl
  | x :: xs => by show max 0 (deps (xs.map D.str)) = 0; rw [deps_str xs]; rfl
def sts (xs : List Str) : List D := xs.map D.str
theorem sts_flat : ∀ xs : List Str, flats (sts xs) = true
  | [] => rfl
  | x :: xs => by show (true && flats (sts xs)) = true; rw [sts_flat xs]; rfl
theorem sts_len (xs : List Str) : (sts xs).length = xs.length := List.length_map ..
theorem sts_app (xs ys : List Str) : sts (xs ++ ys) = sts xs ++ sts ys := List.map_append ..
theorem sts_deqs : ∀ xs : List Str, deqs (sts xs) (sts xs) = true
  | [] => rfl
  | x :: xs => by show ((x == x) && deqs (sts xs) (sts xs)) = true; rw [sts_deqs xs, beq_self_eq_true]; rfl
theorem asP_lst {S : Store} {l : Nat} {xs : List D} (h : lstAt S l = some xs) (hf : flats xs = true) : asP S (.ref l) = some (.list (toPys xs)) := by
  unfold asP
  rw [if_neg (show ¬ (D.ref l).flat = true from Bool.false_ne_true)]
  simp only [h, hf, if_true]
theorem gEq_sts {S : Store} {l r : Nat} {xs : List Str} (h1 : lstAt S l = some (sts xs)) (h2 : lstAt S r = some (sts xs)) : gEq (.ref l) (.ref r) S = some (.bl true, S) := by
  unfold gEq gEqB
  rw [asP_lst h1 (sts_flat xs), asP_lst h2 (sts_flat xs)]
  have e : (PyData.list (toPys (sts xs))).depth ≤ 64 := by
    have q := depth_toPy (.tup (sts xs))
    have q' : PyData.depthAll (toPys (sts xs)) + 1 = deps (sts xs) + 1 := q
    show PyData.depthAll (toPys (sts xs)) + 1 ≤ 64
    rw [q', show deps (sts xs) = 0 from deps_str xs]
    decide
  show Option.map _ (if (PyData.list (toPys (sts xs))).depth ≤ 64 then some (PyData.eqv (.list (toPys (sts xs))) (.list (toPys (sts xs)))) else none) = _
  rw [if_pos e]
  show some (D.bl (PyData.eqvAll (toPys (sts xs)) (toPys (sts xs))), S) = _
  rw [eqvs_toPys (sts xs) (sts xs) (sts_flat xs) (sts_flat xs), sts_deqs]
/-! ## pools -/
theorem lstAt_rol {S : Store} {l : Nat} {xs : List D} (h : S[l]? = some (.rol xs)) : lstAt S l = some xs := by unfold lstAt; rw [h]
theorem cell_spec (j : Nat) {ns : List Int} {T : Store} (h : T[0]? = some (Cell.rol (ns.map D.int))) (k : Nat) : ∃ c : Int, tab (j + 1) ._law_cell [.ref 0, .int k] T = .ok (.int c) T := by
  have gl : gLen [.ref 0] T = some (.int ns.length, T) := by rw [gLen_lst (lstAt_rol h), List.length_map]
  by_cases hk : k < ns.length
  · refine ⟨ns[k], (runB_rt (np := 2) (ns := 2) (ds := [.ref 0, .int k]) (g := b__law_cell (tab j)) (d := .int ns[k]) (S' := T) rfl ?_).trans (cmp_same rfl rfl)⟩
    have g0 : gIx (.ref 0) (.int k) T = some (.int ns[k], T) := gIx_lst (lstAt_rol h) (atI_nat (by rw [List.getElem?_map, List.getElem?_eq_getElem hk]; rfl))
    unfold b__law_cell
    walk_at "ev"
    rw [gl]
    walk_at "ev"
    rw [decide_eq_true (show (k : Int) < (ns.length : Int) by omega)]
    walk_at "ev"
    rw [g0]
    walk_at "ev"
  · refine ⟨0, (runB_rt (np := 2) (ns := 2) (ds := [.ref 0, .int k]) (g := b__law_cell (tab j)) (d := .int 0) (S' := T) rfl ?_).trans (cmp_same rfl rfl)⟩
    unfold b__law_cell
    walk_at "ev"
    rw [gl]
    walk_at "ev"
    rw [decide_eq_false (show ¬ (k : Int) < (ns.length : Int) by omega)]
    walk_at "ev"
theorem pow_ {S : Store} : gPow (.int 10) (.int 18) S = some (.int 1000000000000000000, S) := by
  show (if (0 : Int) ≤ 18 ∧ (18 : Int) ≤ 1000000 ∧ (10 : Int).natAbs < 2 ^ 64 then _ else none) = _
  rw [if_pos (by decide)]
  rfl
theorem pool_spec (j : Nat) {ns : List Int} {T : Store} (h : T[0]? = some (Cell.rol (ns.map D.int))) (hT : SOK T) (k : Nat) (hk : k ≤ 100) : ∃ P, Pool 0 P ∧ tab (j + 2) ._law_pool [.ref 0, .int k] T = .ok (.ref T.length) (T ++ [Cell.lst P]) := by
  obtain ⟨c, hc⟩ := cell_spec j h k
  have fin : ∀ P, Pool 0 P → b__law_pool (tab (j + 1)) [some (.ref 0), some (.int k), none] T = .rt (.ref T.length) (T ++ [Cell.lst P]) → ∃ P, Pool 0 P ∧ tab (j + 2) ._law_pool [.ref 0, .int k] T = .ok (.ref T.length) (T ++ [Cell.lst P]) := fun P hp e =>
    ⟨P, hp, (runB_rt (np := 2) (ns := 3) (ds := [.ref 0, .int k]) (g := b__law_pool (tab (j + 1))) rfl e).trans (cmp_new rfl (hT.wf rfl) (Nat.le_refl _) get_end (wfs_flat hp.flat))⟩
  by_cases hb : (1000000000000000000 : Int) ≤ c
  · refine fin [.int (c - 1000000000000000000), .int (40009 * ((k : Int) + 1)), .int 0] ⟨_, _, _, rfl, by omega, by omega, by decide, by decide⟩ ?_
    unfold b__law_pool
    walk_at "ev"
    rw [hc]
    walk_at "ev"
    rw [pow_]
    walk_at "ev"
    rw [decide_eq_true hb]
    walk_at "ev"
    rw [pow_]
    walk_at "ev"
  · have m0 := Int.emod_nonneg (if c < 0 then -c else c) (show (2000000011 : Int) ≠ 0 by decide)
    have m1 := Int.emod_lt_of_pos (if c < 0 then -c else c) (show (0 : Int) < 2000000011 by decide)
    refine fin [.int 0, .int ((if c < 0 then -c else c) % 2000000011 + 7919 * (k : Int)), .int 0] ⟨_, _, _, rfl, by omega, by omega, by decide, by decide⟩ ?_
    unfold b__law_pool
    walk_at "ev"
    rw [hc]
    walk_at "ev"
    rw [pow_]
    walk_at "ev"
    rw [decide_eq_false hb]
    walk_at "ev"
end Lw

set_option Elab.async false
set_option linter.all false
set_option maxRecDepth 100000
namespace Lw
open PySem L2 Dl
local macro_rules | `(tactic| walk_at "ev") => `(tactic| simp (disch := first | omega | assumption | (simp only [List.length_cons, List.length_nil]; omega) | (simp only [List.length_cons, List.length_nil])) only [sQ_, sP_, sE_, sR_, sIf_, sN_, sA_, tgO_nx, nm_, tgIx_, eC_, eV0, eV1, e1_, e2_, eB_, eF_, aN_, aC_, eMt_, eSl_, oN_, oI_, tV_, tE_, tA_, tO_, tN_, eIf_, eAnd_, eOr_, eNot_, eCh_,
  seq_nx, seq_rt, seq_bk, seq_ct, seq_ex, toR_some, toR_none, toT_some, truD_bl, truD_int, truD_tup, tyD_str, tyD_tup, tyD_int, tyD_bl, tyD_non,
  kE_, kR_, kIf_t, kIf_f, kN_, kA_, kIx1_, kIx2_, kIx3_, kE1_, kE21_, kE2_, kB_, kF_, kC1_, kC_, kM1_, kM2_, kM_, kS1_, kS2_, kS3_, kO_, kV_, kT_, kAn_t, kAn_f, kOr_t, kOr_f, kNo_, kIfE_t, kIfE_f, kVa_, kVa2_t, kVa2_f, kVo_, kVo2_t, kVo2_f, kVn_, kVn2_, kH_, kH1_, kH2_t, kH2_f, kH3_,
  List.getElem?_cons_zero, List.getElem?_cons_succ, List.set_cons_zero, List.set_cons_succ, gAdd_int, gAdd_str, gSub_int, gMul_l, gMul_r, gFdiv_int, gMod_int, gLt_int, gLe_int, gGt_int, gGe_int, gInt_int, gAbs_int, gLen_tup, gLen_str, gTpl_, gLsd_,
  Bool.false_eq_true, if_true, if_false, reduceIte, Option.map_some, Option.bind_some, gEq_int, gNe_int, gEq_str, gNe_str, Bool.not_true, Bool.not_false, decide_true, decide_false, List.length_singleton, List.length_cons, List.length_nil, List.map_cons, List.map_nil, Nat.sub_self, List.replicate_zero, List.append_nil, List.cons_append, List.nil_append, List.replicate_succ, Nat.reduceSub, Nat.reduceAdd, Nat.add_zero, Nat.zero_add, tgT_, tgU_, tgL0, tgL1, eTab_, kTab_, sX_])
local macro_rules | `(tactic| walk_at "evs") => `(tactic| simp (disch := first | omega | assumption | (simp only [List.length_cons, List.length_nil]; omega) | (simp only [List.length_cons, List.length_nil])) only [sQ_, sP_, sE_, sR_, sIf_, sN_, sA_, tgO_nx, nm_, tgIx_, eC_, eV0, eV1, e1_, e2_, eB_, eF_, aN_, aC_, eMt_, eSl_, oN_, oI_, tV_, tE_, tA_, tO_, tN_, eIf_, eAnd_, eOr_, eNot_, eCh_,
  seq_nx, seq_rt, seq_bk, seq_ct, seq_ex, toR_some, toR_none, toT_some, truD_bl, truD_int, truD_tup, tyD_str, tyD_tup, tyD_int, tyD_bl, tyD_non,
  kE_, kR_, kIf_t, kIf_f, kN_, kA_, kIx1_, kIx2_, kIx3_, kE1_, kE21_, kE2_, kB_, kF_, kC1_, kC_, kM1_, kM2_, kM_, kS1_, kS2_, kS3_, kO_, kV_, kT_, kAn_t, kAn_f, kOr_t, kOr_f, kNo_, kIfE_t, kIfE_f, kVa_, kVa2_t, kVa2_f, kVo_, kVo2_t, kVo2_f, kVn_, kVn2_, kH_, kH1_, kH2_t, kH2_f, kH3_,
  List.getElem?_cons_zero, List.getElem?_cons_succ, List.set_cons_zero, List.set_cons_succ, gAdd_int, gAdd_str, gSub_int, gMul_l, gMul_r, gFdiv_int, gMod_int, gLt_int, gLe_int, gGt_int, gGe_int, gInt_int, gAbs_int, gLen_tup, gLen_str, gTpl_, gLsd_,
  Bool.false_eq_true, if_true, if_false, reduceIte, Option.map_some, Option.bind_some, gEq_int, gNe_int, gEq_str, gNe_str, Bool.not_true, Bool.not_false, decide_true, decide_false, List.length_singleton, List.length_cons, List.length_nil, List.map_cons, List.map_nil, Nat.sub_self, List.replicate_zero, List.append_nil, List.cons_append, List.nil_append, List.replicate_succ, Nat.reduceSub, Nat.reduceAdd, Nat.add_zero, Nat.zero_add, tgT_, tgU_, tgL0, tgL1, eTab_, kTab_, sX_, *])
/-! ## kinds as trees -/
def Sg (s : Str) : Prop := s = "/" ∨ s = ">" ∨ s = "*"
inductive KT where
  | leaf (t : Str) | node (s : Str) (a b : KT)
def sw (s : Str) : Str := if s = "/" then ">" else if s = ">" then "/" else s
namespace KT
def d : KT → D
  | leaf t => .str t
  | node s a b => .tup [.str s, a.d, b.d]
def at_ : KT → List Str
  | leaf t => [t]
  | node _ a b => a.at_ ++ b.at_
def mir : KT → KT
  | leaf t => leaf t
  | node s a b => node (sw s) b.mir a.mir
def put : KT → Str → KT → KT
  | leaf t, x, o => if t = x then o else leaf t
  | node s a b, x, o => node s (a.put x o) (b.put x o)
def row : KT → List Str
  | leaf t => [t]
  | node s a b => [s] ++ a.row ++ b.row
def last : KT → List Str
  | leaf t => [t]
  | node s a b => a.last ++ b.last ++ [s]
def ok (P : Str → Prop) : KT → Prop
  | leaf t => P t
  | node s a b => Sg s ∧ a.ok P ∧ b.ok P
theorem flat : ∀ k : KT, k.d.flat = true
  | leaf t => rfl
  | node s a b => by show (true && (a.d.flat && (b.d.flat && true))) = true; rw [flat a, flat b]; rfl
theorem pos : ∀ k : KT, 1 ≤ k.at_.length
  | leaf t => Nat.le_refl _
  | node s a b => by
    have := pos a
    show 1 ≤ (a.at_ ++ b.at_).length
    rw [List.length_append]; omega
theorem dep : ∀ k : KT, k.d.dep + 1 ≤ k.at_.length
  | leaf t => Nat.le_refl _
  | node s a b => by
    have ha := dep a
    have hb := dep b
    have pa := pos a
    have pb := pos b
    show max 0 (max a.d.dep (max b.d.dep 0)) + 1 + 1 ≤ (a.at_ ++ b.at_).length
    rw [List.length_append]; omega
theorem len_node {s : Str} {a b : KT} : (node s a b).at_.length = a.at_.length + b.at_.length := List.length_append ..
end KT
theorem ix0 {s a b : D} {S : Store} : gIx (.tup [s, a, b]) (.int 0) S = some (s, S) := rfl
theorem ix1 {s a b : D} {S : Store} : gIx (.tup [s, a, b]) (.int 1) S = some (a, S) := rfl
theorem ix2 {s a b : D} {S : Store} : gIx (.tup [s, a, b]) (.int 2) S = some (b, S) := rfl
theorem size_spec : ∀ (k : KT) (j : Nat) (S : Store), k.at_.length ≤ j → tab j .size_of [k.d] S = .ok (.int k.at_.length) S
  | .leaf t, j, S, hj => by
    obtain ⟨i, rfl⟩ : ∃ i, j = i + 1 := ⟨j - 1, by have := KT.pos (.leaf t); omega⟩
    refine (runB_rt (np := 1) (ns := 1) (ds := [.str t]) (g := b_size_of (tab i)) (d := .int 1) (S' := S) rfl ?_).trans (cmp_same rfl rfl)
    unfold b_size_of
    walk_at "ev"
    rw [isi_ss]
    walk_at "ev"
  | .node s a b, j, S, hj => by
    have hl := KT.len_node (s := s) (a := a) (b := b)
    have pa := a.pos
    have pb := b.pos
    obtain ⟨i, rfl⟩ : ∃ i, j = i + 1 := ⟨j - 1, by omega⟩
    refine (runB_rt (np := 1) (ns := 1) (ds := [.tup [.str s, a.d, b.d]]) (g := b_size_of (tab i)) (d := .int ((KT.node s a b).at_.length : Nat)) (S' := S) rfl ?_).trans (cmp_same rfl rfl)
    unfold b_size_of
    walk_at "ev"
    rw [isi_st]
    walk_at "ev"
    rw [ix1]
    walk_at "ev"
    rw [size_spec a i S (by omega)]
    walk_at "ev"
    rw [ix2]
    walk_at "ev"
    rw [size_spec b i S (by omega)]
    walk_at "ev"
    rw [hl]
    rfl
theorem atoms_spec : ∀ (k : KT) (j : Nat) (S : Store), k.at_.length ≤ j → k.at_.length ≤ 1000000 → tab j .atoms_of [k.d] S = .ok (.tup (sts k.at_)) S
  | .leaf t, j, S, hj, _ => by
    obtain ⟨i, rfl⟩ : ∃ i, j = i + 1 := ⟨j - 1, by have := KT.pos (.leaf t); omega⟩
    refine (runB_rt (np := 1) (ns := 1) (ds := [.str t]) (g := b_atoms_of (tab i)) (d := .tup [.str t]) (S' := S) rfl ?_).trans (cmp_same rfl rfl)
    unfold b_atoms_of
    walk_at "ev"
    rw [isi_ss]
    walk_at "ev"
  | .node s a b, j, S, hj, hz => by
    have hl := KT.len_node (s := s) (a := a) (b := b)
    have pa := a.pos
    have pb := b.pos
    obtain ⟨i, rfl⟩ : ∃ i, j = i + 1 := ⟨j - 1, by omega⟩
    refine (runB_rt (np := 1) (ns := 1) (ds := [.tup [.str s, a.d, b.d]]) (g := b_atoms_of (tab i)) (d := .tup (sts (KT.node s a b).at_)) (S' := S) rfl ?_).trans (cmp_same rfl (wfs_flat (sts_flat _)))
    unfold b_atoms_of
    walk_at "ev"
    rw [isi_st]
    walk_at "ev"
    rw [ix1]
    walk_at "ev"
    rw [atoms_spec a i S (by omega) (by omega)]
    walk_at "ev"
    rw [ix2]
    walk_at "ev"
    rw [atoms_spec b i S (by omega) (by omega)]
    walk_at "ev"
    rw [gAdd_tup (by rw [sts_len]; omega) (by rw [sts_len, sts_len]; omega), ← sts_app]
    walk_at "ev"
    rfl
theorem count_spec (k : KT) (a : Str) (j : Nat) (S : Store) (hj : k.at_.length ≤ j) (hz : k.at_.length ≤ 1000000) : tab (j + 1) .count_of [k.d, .str a] S = .ok (.int ((sts k.at_).countP fun y => deq y (.str a) : Nat)) S := by
  refine (runB_rt (np := 2) (ns := 2) (ds := [k.d, .str a]) (g := b_count_of (tab j)) (d := .int ((sts k.at_).countP fun y => deq y (.str a) : Nat)) (S' := S) rfl ?_).trans (cmp_same rfl rfl)
  unfold b_count_of
  walk_at "ev"
  rw [atoms_spec k j S hj hz]
  walk_at "ev"
  rw [show gCountT (.tup (sts k.at_)) [.str a] S = some (.int ((sts k.at_).countP fun y => deq y (.str a) : Nat), S) by
    show (if (true && flats (sts k.at_) && decide (D.dep (.str a) ≤ 64)) = true then _ else none) = _
    rw [sts_flat]
    rfl]
  walk_at "ev"
theorem tab_sw {s : Str} (h : Sg s) (S : Store) : gTab k_MIRRORED .non (.str s) S = some (.str (sw s), S) := by
  rcases h with rfl | rfl | rfl <;> rfl
theorem mirror_spec {P : Str → Prop} : ∀ (k : KT) (j : Nat) (S : Store), k.ok P → k.at_.length ≤ j → tab j .mirror_kind [k.d] S = .ok k.mir.d S
  | .leaf t, j, S, _, hj => by
    obtain ⟨i, rfl⟩ : ∃ i, j = i + 1 := ⟨j - 1, by have := KT.pos (.leaf t); omega⟩
    refine (runB_rt (np := 1) (ns := 4) (ds := [.str t]) (g := b_mirror_kind (tab i)) (d := .str t) (S' := S) rfl ?_).trans (cmp_same rfl rfl)
    unfold b_mirror_kind
    walk_at "ev"
    rw [isi_ss]
    walk_at "ev"
  | .node s a b, j, S, ho, hj => by
    obtain ⟨hs, oa, ob⟩ := ho
    have hl := KT.len_node (s := s) (a := a) (b := b)
    have pa := a.pos
    have pb := b.pos
    obtain ⟨i, rfl⟩ : ∃ i, j = i + 1 := ⟨j - 1, by omega⟩
    refine (runB_rt (np := 1) (ns := 4) (ds := [.tup [.str s, a.d, b.d]]) (g := b_mirror_kind (tab i)) (d := (KT.node s a b).mir.d) (S' := S) rfl ?_).trans (cmp_same rfl (wf_flat (KT.flat _)))
    unfold b_mirror_kind
    walk_at "ev"
    rw [isi_st]
    walk_at "ev"
    rw [tab_sw hs]
    walk_at "ev"
    rw [mirror_spec b i S ob (by omega)]
    walk_at "ev"
    rw [mirror_spec a i S oa (by omega)]
    walk_at "ev"
    rfl
theorem put_spec (x : Str) (o : KT) : ∀ (k : KT) (j : Nat) (S : Store), k.at_.length ≤ j → tab j .put_kind [k.d, .str x, o.d] S = .ok (k.put x o).d S
  | .leaf t, j, S, hj => by
    obtain ⟨i, rfl⟩ : ∃ i, j = i + 1 := ⟨j - 1, by have := KT.pos (.leaf t); omega⟩
    refine (runB_rt (np := 3) (ns := 6) (ds := [.str t, .str x, o.d]) (g := b_put_kind (tab i)) (d := ((KT.leaf t).put x o).d) (S' := S) rfl ?_).trans (cmp_same rfl (wf_flat (KT.flat _)))
    unfold b_put_kind
    walk_at "ev"
    rw [isi_ss]
    walk_at "ev"
    by_cases e : t = x
    · subst e
      simp only [beq_self_eq_true, kIf_t]
      walk_at "ev"
      show Out.rt _ _ = Out.rt (if t = t then o else KT.leaf t).d _
      rw [if_pos rfl]
    · rw [beq_eq_false_iff_ne.mpr e]
      walk_at "ev"
      show Out.rt _ _ = Out.rt (if t = x then o else KT.leaf t).d _
      rw [if_neg e]
      rfl
  | .node s a b, j, S, hj => by
    have hl := KT.len_node (s := s) (a := a) (b := b)
    have pa := a.pos
    have pb := b.pos
    obtain ⟨i, rfl⟩ : ∃ i, j = i + 1 := ⟨j - 1, by omega⟩
    refine (runB_rt (np := 3) (ns := 6) (ds := [.tup [.str s, a.d, b.d], .str x, o.d]) (g := b_put_kind (tab i)) (d := ((KT.node s a b).put x o).d) (S' := S) rfl ?_).trans (cmp_same rfl (wf_flat (KT.flat _)))
    unfold b_put_kind
    walk_at "ev"
    rw [isi_st]
    walk_at "ev"
    rw [put_spec x o a i S (by omega)]
    walk_at "ev"
    rw [put_spec x o b i S (by omega)]
    walk_at "ev"
    rfl
/-! ### rows: a new list -/
theorem row_spec : ∀ (k : KT) (j : Nat) (S : Store), SOK S → k.at_.length ≤ j → k.row.length ≤ 1000000 → tab j ._law_row [k.d] S = .ok (.ref S.length) (S ++ [Cell.lst (sts k.row)])
  | .leaf t, j, S, hS, hj, _ => by
    obtain ⟨i, rfl⟩ : ∃ i, j = i + 1 := ⟨j - 1, by have := KT.pos (.leaf t); omega⟩
    refine (runB_rt (np := 1) (ns := 1) (ds := [.str t]) (g := b__law_row (tab i)) (d := .ref S.length) (S' := S ++ [Cell.lst [.str t]]) rfl ?_).trans (cmp_new rfl (hS.wf rfl) (Nat.le_refl _) get_end rfl)
    unfold b__law_row
    walk_at "ev"
    rw [isi_ss]
    walk_at "ev"
  | .node s a b, j, S, hS, hj, hz => by
    have hl := KT.len_node (s := s) (a := a) (b := b)
    have pa := a.pos
    have pb := b.pos
    have hr : (KT.node s a b).row.length = 1 + a.row.length + b.row.length := by show ([s] ++ a.row ++ b.row).length = _; rw [List.length_append, List.length_append]; rfl
    obtain ⟨i, rfl⟩ : ∃ i, j = i + 1 := ⟨j - 1, by omega⟩
    have S1 : SOK (S ++ [Cell.lst [.str s]]) := hS.pushF rfl
    have S2 := S1.pushF (c := Cell.lst (sts a.row)) (sts_flat _)
    have S3 := S2.pushF (c := Cell.lst (sts ([s] ++ a.row))) (sts_flat _)
    have e1 := row_spec a i _ S1 (by omega) (by omega)
    have e2 : gAdd (.ref S.length) (.ref (S ++ [Cell.lst [.str s]]).length) (S ++ [Cell.lst [.str s]] ++ [Cell.lst (sts a.row)]) = some (.ref (S ++ [Cell.lst [.str s]] ++ [Cell.lst (sts a.row)]).length, S ++ [Cell.lst [.str s]] ++ [Cell.lst (sts a.row)] ++ [Cell.lst (sts ([s] ++ a.row))]) := by
      have q := gAdd_lst (S := S ++ [Cell.lst [.str s]] ++ [Cell.lst (sts a.row)]) (l := S.length) (k := (S ++ [Cell.lst [.str s]]).length) (xs := sts [s]) (ys := sts a.row) (get_app get_end) get_end (by rw [sts_len, sts_len]; show 1 + _ ≤ _; omega)
      rw [← sts_app] at q
      exact q
    have e3 := row_spec b i _ S3 (by omega) (by omega)
    have e4 : gAdd (.ref (S ++ [Cell.lst [.str s]] ++ [Cell.lst (sts a.row)]).length) (.ref (S ++ [Cell.lst [.str s]] ++ [Cell.lst (sts a.row)] ++ [Cell.lst (sts ([s] ++ a.row))]).length) (S ++ [Cell.lst [.str s]] ++ [Cell.lst (sts a.row)] ++ [Cell.lst (sts ([s] ++ a.row))] ++ [Cell.lst (sts b.row)]) =
        some (.ref (S ++ [Cell.lst [.str s]] ++ [Cell.lst (sts a.row)] ++ [Cell.lst (sts ([s] ++ a.row))] ++ [Cell.lst (sts b.row)]).length, S ++ [Cell.lst [.str s]] ++ [Cell.lst (sts a.row)] ++ [Cell.lst (sts ([s] ++ a.row))] ++ [Cell.lst (sts b.row)] ++ [Cell.lst (sts (KT.node s a b).row)]) := by
      rw [gAdd_lst (get_app get_end) get_end (by rw [sts_len, sts_len, List.length_append]; show 1 + _ + _ ≤ _; omega), ← sts_app]
      rfl
    generalize hG1 : S ++ [Cell.lst [.str s]] = G1 at e1 e2 e3 e4
    generalize hG2 : G1 ++ [Cell.lst (sts a.row)] = G2 at e1 e2 e3 e4
    generalize hG3 : G2 ++ [Cell.lst (sts ([s] ++ a.row))] = G3 at e2 e3 e4
    generalize hG4 : G3 ++ [Cell.lst (sts b.row)] = G4 at e3 e4
    refine (runB_rt (np := 1) (ns := 1) (ds := [.tup [.str s, a.d, b.d]]) (g := b__law_row (tab i)) (d := .ref G4.length) (S' := G4 ++ [Cell.lst (sts (KT.node s a b).row)]) rfl ?_).trans ?_
    · unfold b__law_row
      walk_at "ev"
      rw [isi_st]
      walk_at "ev"
      rw [ix0]
      walk_at "ev"
      rw [hG1]
      rw [ix1]
      walk_at "ev"
      rw [e1]
      walk_at "ev"
      rw [e2]
      walk_at "ev"
      rw [ix2]
      walk_at "ev"
      rw [e3]
      walk_at "ev"
      rw [e4]
      walk_at "ev"
    · have eG : G4 ++ [Cell.lst (sts (KT.node s a b).row)] = S ++ ([Cell.lst [.str s], Cell.lst (sts a.row), Cell.lst (sts ([s] ++ a.row)), Cell.lst (sts b.row)] ++ [Cell.lst (sts (KT.node s a b).row)]) := by
        rw [← hG4, ← hG3, ← hG2, ← hG1]; simp
      have hlen : S.length ≤ G4.length := by rw [← hG4, ← hG3, ← hG2, ← hG1]; simp only [List.length_append]; omega
      have hx : (G4 ++ [Cell.lst (sts (KT.node s a b).row)])[G4.length]? = some (Cell.lst (sts (KT.node s a b).row)) := get_end
      rw [eG] at hx ⊢
      exact cmp_new rfl (hS.wf rfl) hlen hx (wfs_flat (sts_flat _))
end Lw

set_option Elab.async false
set_option linter.all false
set_option maxRecDepth 100000
namespace Lw
open PySem L2 Dl
local macro_rules | `(tactic| walk_at "ev") => `(tactic| simp (disch := first | omega | assumption | (simp only [List.length_cons, List.length_nil]; omega) | (simp only [List.length_cons, List.length_nil])) only [sQ_, sP_, sE_, sR_, sIf_, sN_, sA_, tgO_nx, nm_, tgIx_, eC_, eV0, eV1, e1_, e2_, eB_, eF_, aN_, aC_, eMt_, eSl_, oN_, oI_, tV_, tE_, tA_, tO_, tN_, eIf_, eAnd_, eOr_, eNot_, eCh_,
  seq_nx, seq_rt, seq_bk, seq_ct, seq_ex, toR_some, toR_none, toT_some, truD_bl, truD_int, truD_tup, tyD_str, tyD_tup, tyD_int, tyD_bl, tyD_non,
  kE_, kR_, kIf_t, kIf_f, kN_, kA_, kIx1_, kIx2_, kIx3_, kE1_, kE21_, kE2_, kB_, kF_, kC1_, kC_, kM1_, kM2_, kM_, kS1_, kS2_, kS3_, kO_, kV_, kT_, kAn_t, kAn_f, kOr_t, kOr_f, kNo_, kIfE_t, kIfE_f, kVa_, kVa2_t, kVa2_f, kVo_, kVo2_t, kVo2_f, kVn_, kVn2_, kH_, kH1_, kH2_t, kH2_f, kH3_,
  List.getElem?_cons_zero, List.getElem?_cons_succ, List.set_cons_zero, List.set_cons_succ, gAdd_int, gAdd_str, gSub_int, gMul_l, gMul_r, gFdiv_int, gMod_int, gLt_int, gLe_int, gGt_int, gGe_int, gInt_int, gAbs_int, gLen_tup, gLen_str, gTpl_, gLsd_,
  Bool.false_eq_true, if_true, if_false, reduceIte, Option.map_some, Option.bind_some, gEq_int, gNe_int, gEq_str, gNe_str, Bool.not_true, Bool.not_false, decide_true, decide_false, List.length_singleton, List.length_cons, List.length_nil, List.map_cons, List.map_nil, Nat.sub_self, List.replicate_zero, List.append_nil, List.cons_append, List.nil_append, List.replicate_succ, Nat.reduceSub, Nat.reduceAdd, Nat.add_zero, Nat.zero_add, tgT_, tgU_, tgL0, tgL1, eTab_, kTab_, sX_])
local macro_rules | `(tactic| walk_at "evs") => `(tactic| simp (disch := first | omega | assumption | (simp only [List.length_cons, List.length_nil]; omega) | (simp only [List.length_cons, List.length_nil])) only [sQ_, sP_, sE_, sR_, sIf_, sN_, sA_, tgO_nx, nm_, tgIx_, eC_, eV0, eV1, e1_, e2_, eB_, eF_, aN_, aC_, eMt_, eSl_, oN_, oI_, tV_, tE_, tA_, tO_, tN_, eIf_, eAnd_, eOr_, eNot_, eCh_,
  seq_nx, seq_rt, seq_bk, seq_ct, seq_ex, toR_some, toR_none, toT_some, truD_bl, truD_int, truD_tup, tyD_str, tyD_tup, tyD_int, tyD_bl, tyD_non,
  kE_, kR_, kIf_t, kIf_f, kN_, kA_, kIx1_, kIx2_, kIx3_, kE1_, kE21_, kE2_, kB_, kF_, kC1_, kC_, kM1_, kM2_, kM_, kS1_, kS2_, kS3_, kO_, kV_, kT_, kAn_t, kAn_f, kOr_t, kOr_f, kNo_, kIfE_t, kIfE_f, kVa_, kVa2_t, kVa2_f, kVo_, kVo2_t, kVo2_f, kVn_, kVn2_, kH_, kH1_, kH2_t, kH2_f, kH3_,
  List.getElem?_cons_zero, List.getElem?_cons_succ, List.set_cons_zero, List.set_cons_succ, gAdd_int, gAdd_str, gSub_int, gMul_l, gMul_r, gFdiv_int, gMod_int, gLt_int, gLe_int, gGt_int, gGe_int, gInt_int, gAbs_int, gLen_tup, gLen_str, gTpl_, gLsd_,
  Bool.false_eq_true, if_true, if_false, reduceIte, Option.map_some, Option.bind_some, gEq_int, gNe_int, gEq_str, gNe_str, Bool.not_true, Bool.not_false, decide_true, decide_false, List.length_singleton, List.length_cons, List.length_nil, List.map_cons, List.map_nil, Nat.sub_self, List.replicate_zero, List.append_nil, List.cons_append, List.nil_append, List.replicate_succ, Nat.reduceSub, Nat.reduceAdd, Nat.add_zero, Nat.zero_add, tgT_, tgU_, tgL0, tgL1, eTab_, kTab_, sX_, *])
theorem last_spec : ∀ (k : KT) (j : Nat) (S : Store), SOK S → k.at_.length ≤ j → k.last.length ≤ 1000000 → tab j ._law_last_row [k.d] S = .ok (.ref S.length) (S ++ [Cell.lst (sts k.last)])
  | .leaf t, j, S, hS, hj, _ => by
    obtain ⟨i, rfl⟩ : ∃ i, j = i + 1 := ⟨j - 1, by have := KT.pos (.leaf t); omega⟩
    refine (runB_rt (np := 1) (ns := 1) (ds := [.str t]) (g := b__law_last_row (tab i)) (d := .ref S.length) (S' := S ++ [Cell.lst [.str t]]) rfl ?_).trans (cmp_new rfl (hS.wf rfl) (Nat.le_refl _) get_end rfl)
    unfold b__law_last_row
    walk_at "ev"
    rw [isi_ss]
    walk_at "ev"
  | .node s a b, j, S, hS, hj, hz => by
    have hl := KT.len_node (s := s) (a := a) (b := b)
    have pa := a.pos
    have pb := b.pos
    have hr : (KT.node s a b).last.length = a.last.length + b.last.length + 1 := by show (a.last ++ b.last ++ [s]).length = _; rw [List.length_append, List.length_append]; rfl
    obtain ⟨i, rfl⟩ : ∃ i, j = i + 1 := ⟨j - 1, by omega⟩
    have S1 := hS.pushF (c := Cell.lst (sts a.last)) (sts_flat _)
    have e1 := last_spec a i _ hS (by omega) (by omega)
    have e2 := last_spec b i _ S1 (by omega) (by omega)
    have e3 := gAdd_lst (S := S ++ [Cell.lst (sts a.last)] ++ [Cell.lst (sts b.last)]) (l := S.length) (k := (S ++ [Cell.lst (sts a.last)]).length) (xs := sts a.last) (ys := sts b.last) (get_app get_end) get_end (by rw [sts_len, sts_len]; omega)
    rw [← sts_app] at e3
    have e4 := gAdd_lst (S := S ++ [Cell.lst (sts a.last)] ++ [Cell.lst (sts b.last)] ++ [Cell.lst (sts (a.last ++ b.last))] ++ [Cell.lst [.str s]]) (l := (S ++ [Cell.lst (sts a.last)] ++ [Cell.lst (sts b.last)]).length) (k := (S ++ [Cell.lst (sts a.last)] ++ [Cell.lst (sts b.last)] ++ [Cell.lst (sts (a.last ++ b.last))]).length) (xs := sts (a.last ++ b.last)) (ys := sts [s]) (get_app get_end) get_end (by rw [sts_len, sts_len, List.length_append]; show _ + 1 ≤ _; omega)
    rw [← sts_app] at e4
    generalize hG1 : S ++ [Cell.lst (sts a.last)] = G1 at e1 e2 e3 e4
    generalize hG2 : G1 ++ [Cell.lst (sts b.last)] = G2 at e2 e3 e4
    generalize hG3 : G2 ++ [Cell.lst (sts (a.last ++ b.last))] = G3 at e3 e4
    generalize hG4 : G3 ++ [Cell.lst [.str s]] = G4 at e4
    refine (runB_rt (np := 1) (ns := 1) (ds := [.tup [.str s, a.d, b.d]]) (g := b__law_last_row (tab i)) (d := .ref G4.length) (S' := G4 ++ [Cell.lst (sts (KT.node s a b).last)]) rfl ?_).trans ?_
    · unfold b__law_last_row
      walk_at "ev"
      rw [isi_st]
      walk_at "ev"
      rw [ix1]
      walk_at "ev"
      rw [e1]
      walk_at "ev"
      rw [ix2]
      walk_at "ev"
      rw [e2]
      walk_at "ev"
      rw [e3]
      walk_at "ev"
      rw [ix0]
      walk_at "ev"
      rw [hG4, e4]
      walk_at "ev"
      rfl
    · have eG : G4 ++ [Cell.lst (sts (KT.node s a b).last)] = S ++ ([Cell.lst (sts a.last), Cell.lst (sts b.last), Cell.lst (sts (a.last ++ b.last)), Cell.lst [.str s]] ++ [Cell.lst (sts (KT.node s a b).last)]) := by
        rw [← hG4, ← hG3, ← hG2, ← hG1]; simp
      have hlen : S.length ≤ G4.length := by rw [← hG4, ← hG3, ← hG2, ← hG1]; simp only [List.length_append]; omega
      have hx : (G4 ++ [Cell.lst (sts (KT.node s a b).last)])[G4.length]? = some (Cell.lst (sts (KT.node s a b).last)) := get_end
      rw [eG] at hx ⊢
      exact cmp_new rfl (hS.wf rfl) hlen hx (wfs_flat (sts_flat _))
/-! ## is it a kind -/
def GoodT (t : Str) : Prop := (∀ (j : Nat) (S : Store), SOK S → tab (j + 1) ._law_is_atom [.str t] S = .ok (.bl true) S) ∧ ¬ Sg t ∧ t.length ≤ 100
theorem sg_any {s : Str} (h : Sg s) : (([D.str "/", .str ">", .str "*"] : List D).any fun y => deq y (.str s)) = true := by
  rcases h with rfl | rfl | rfl <;> decide +kernel
theorem nin_of {S : Store} {l : Nat} {t : Str} (h : lstAt S l = some [D.str "/", .str ">", .str "*"]) : gNin (.str t) (.ref l) S = some (.bl (!(([D.str "/", .str ">", .str "*"] : List D).any fun y => deq y (.str t))), S) := by
  have e : gInB (.str t) (.ref l) S = some (([D.str "/", .str ">", .str "*"] : List D).any fun y => deq y (.str t)) := by
    show (match lstAt S l with
      | some ys => if (D.str t).flat && flats ys && decide ((D.str t).dep ≤ 64) then some (ys.any fun y => deq y (.str t)) else none
      | none => none) = _
    rw [h]
    rfl
  unfold gNin
  rw [e]
  rfl
theorem is_kind_spec : ∀ (k : KT) (j : Nat) (n : Int) (S : Store), SOK S → k.ok GoodT → k.at_.length ≤ j → (k.at_.length : Int) ≤ n + 1 → tab (j + 1) ._law_is_kind [k.d, .int n] S = .ok (.bl true) S
  | .leaf t, j, n, S, hS, hk, hj, hn => by
    obtain ⟨i, rfl⟩ : ∃ i, j = i + 1 := ⟨j - 1, by have := KT.pos (.leaf t); omega⟩
    refine (runB_rt (np := 2) (ns := 2) (ds := [.str t, .int n]) (g := b__law_is_kind (tab (i + 1))) (d := .bl true) (S' := S) rfl ?_).trans (cmp_same rfl rfl)
    have e := hk.1 i S hS
    unfold b__law_is_kind
    walk_at "ev"
    rw [isi_ss]
    walk_at "ev"
    rw [e]
    walk_at "ev"
  | .node s a b, j, n, S, hS, hk, hj, hn => by
    obtain ⟨hs, ka, kb⟩ := hk
    have hl := KT.len_node (s := s) (a := a) (b := b)
    have pa := a.pos
    have pb := b.pos
    obtain ⟨i, rfl⟩ : ∃ i, j = i + 1 := ⟨j - 1, by omega⟩
    have S1 := hS.pushF (c := Cell.lst [D.str "/", .str ">", .str "*"]) rfl
    have e1 := is_kind_spec a i (n - 1) _ S1 ka (by omega) (by omega)
    have e2 := is_kind_spec b i (n - 1) _ S1 kb (by omega) (by omega)
    refine (runB_rt (np := 2) (ns := 2) (ds := [.tup [.str s, a.d, b.d], .int n]) (g := b__law_is_kind (tab (i + 1))) (d := .bl true) (S' := S ++ [Cell.lst [D.str "/", .str ">", .str "*"]]) rfl ?_).trans (cmp_more rfl (hS.wf rfl) rfl)
    have hd : decide (n ≤ 0) = false := decide_eq_false (by omega)
    have en := nin_of (t := s) (lstAt_lst (get_end (S := S) (c := Cell.lst [D.str "/", .str ">", .str "*"])))
    rw [sg_any hs] at en
    unfold b__law_is_kind
    walk_at "ev"
    rw [isi_st]
    walk_at "ev"
    rw [isi_tt]
    walk_at "ev"
    simp only [show (((3 : Nat) : Int) == 3) = true from rfl, Bool.not_true]
    walk_at "ev"
    rw [hd]
    walk_at "ev"
    rw [ix0]
    walk_at "ev"
    rw [isi_ss]
    walk_at "ev"
    rw [ix0]
    walk_at "ev"
    rw [en]
    walk_at "ev"
    rw [ix1]
    walk_at "ev"
    rw [e1]
    walk_at "ev"
    rw [ix2]
    walk_at "ev"
    rw [e2]
    walk_at "ev"
/-! ## substitute -/
def cnt (x : Str) (xs : List Str) : Nat := (sts xs).countP fun y => deq y (.str x)
theorem subst_ok (k o : KT) (x : Str) (j : Nat) (S : Store) (hj : k.at_.length ≤ j) (ho : o.at_.length ≤ j) (hz : k.at_.length ≤ 1000) (hz2 : o.at_.length ≤ 1000) (hm : (k.at_.length : Int) + (cnt x k.at_ : Int) * ((o.at_.length : Int) - 1) ≤ 40) :
    tab (j + 2) .substitute_kind [k.d, .str x, o.d] S = .ok (k.put x o).d S := by
  refine (runB_rt (np := 3) (ns := 3) (ds := [k.d, .str x, o.d]) (g := b_substitute_kind (tab (j + 1))) (d := (k.put x o).d) (S' := S) rfl ?_).trans (cmp_same rfl (wf_flat (KT.flat _)))
  have e1 := size_spec k (j + 1) S (by omega)
  have e2 := count_spec k x j S hj (by omega)
  have e3 := size_spec o (j + 1) S (by omega)
  have e4 := put_spec x o k (j + 1) S (by omega)
  have po := o.pos
  have gm : ∀ a b : Int, 0 ≤ b → b ≤ 1000000 → gMul (.int a) (.int b) S = some (.int (a * b), S) := fun a b h0 h1 => gMul_r h0 (by omega)
  have hd : decide ((40 : Int) < (k.at_.length : Int) + (cnt x k.at_ : Int) * ((o.at_.length : Int) - 1)) = false := decide_eq_false (by omega)
  unfold cnt at hd
  unfold b_substitute_kind k_MOST
  walk_at "ev"
  rw [e1]
  walk_at "ev"
  rw [e2]
  walk_at "ev"
  rw [e3]
  walk_at "ev"
  rw [hd]
  walk_at "ev"
  rw [e4]
  walk_at "ev"
theorem subst_no (k o : KT) (x : Str) (j : Nat) (S : Store) (hj : k.at_.length ≤ j) (ho : o.at_.length ≤ j) (hz : k.at_.length ≤ 1000) (hz2 : o.at_.length ≤ 1000) (hm : 40 < (k.at_.length : Int) + (cnt x k.at_ : Int) * ((o.at_.length : Int) - 1)) :
    tab (j + 2) .substitute_kind [k.d, .str x, o.d] S = .ex ⟨"SizeError", []⟩ S := by
  have e1 := size_spec k (j + 1) S (by omega)
  have e2 := count_spec k x j S hj (by omega)
  have e3 := size_spec o (j + 1) S (by omega)
  have po := o.pos
  have hd : decide ((40 : Int) < (k.at_.length : Int) + (cnt x k.at_ : Int) * ((o.at_.length : Int) - 1)) = true := decide_eq_true hm
  unfold cnt at hd
  have e : b_substitute_kind (tab (j + 1)) [some k.d, some (.str x), some o.d] S = .ex ⟨"SizeError", []⟩ [some k.d, some (.str x), some o.d] S := by
    unfold b_substitute_kind k_MOST
    walk_at "ev"
    rw [e1]
    walk_at "ev"
    rw [e2]
    walk_at "ev"
    rw [e3]
    walk_at "ev"
    rw [hd]
    walk_at "ev"
  show runB 3 3 (b_substitute_kind (tab (j + 1))) [k.d, .str x, o.d] S = _
  unfold runB
  rw [if_pos (show [k.d, D.str x, o.d].length = 3 from rfl)]
  show (match b_substitute_kind (tab (j + 1)) [some k.d, some (.str x), some o.d] S with
    | .rt d S' => cmp S.length d S'
    | .nx _ S' => cmp S.length .non S'
    | .ex x _ S' => .ex x S'
    | _ => .no) = _
  rw [e]
/-! ## plain facts -/
namespace KT
theorem row_len : ∀ k : KT, k.row.length + 1 = 2 * k.at_.length
  | leaf t => rfl
  | node s a b => by
    have ha := row_len a
    have hb := row_len b
    show ([s] ++ a.row ++ b.row).length + 1 = 2 * (a.at_ ++ b.at_).length
    rw [List.length_append, List.length_append, List.length_append]
    simp only [List.length_singleton]
    omega
theorem last_len : ∀ k : KT, k.last.length + 1 = 2 * k.at_.length
  | leaf t => rfl
  | node s a b => by
    have ha := last_len a
    have hb := last_len b
    show (a.last ++ b.last ++ [s]).length + 1 = 2 * (a.at_ ++ b.at_).length
    rw [List.length_append, List.length_append, List.length_append]
    simp only [List.length_singleton]
    omega
theorem mir_len : ∀ k : KT, k.mir.at_.length = k.at_.length
  | leaf t => rfl
  | node s a b => by
    show (b.mir.at_ ++ a.mir.at_).length = (a.at_ ++ b.at_).length
    rw [List.length_append, List.length_append, mir_len a, mir_len b]
    omega
theorem mir_ok {P : Str → Prop} : ∀ k : KT, k.ok P → k.mir.ok P
  | leaf t, h => h
  | node s a b, ⟨hs, ha, hb⟩ => ⟨by rcases hs with rfl | rfl | rfl <;> simp [sw, Sg] <;> decide +kernel, mir_ok b hb, mir_ok a ha⟩
theorem mir_mir {P : Str → Prop} : ∀ k : KT, k.ok P → k.mir.mir = k
  | leaf t, _ => rfl
  | node s a b, ⟨hs, ha, hb⟩ => by
    show node (sw (sw s)) a.mir.mir b.mir.mir = _
    rw [mir_mir a ha, mir_mir b hb, show sw (sw s) = s by rcases hs with rfl | rfl | rfl <;> decide +kernel]
theorem mir_row {P : Str → Prop} (hP : ∀ t, P t → ¬ Sg t) : ∀ k : KT, k.ok P → k.mir.row = (k.last.reverse).map sw
  | leaf t, h => by
    have n := hP t h
    show [t] = [sw t]
    unfold sw
    rw [if_neg fun e => n (.inl e), if_neg fun e => n (.inr (.inl e))]
  | node s a b, ⟨hs, ha, hb⟩ => by
    show [sw s] ++ b.mir.row ++ a.mir.row = ((a.last ++ b.last ++ [s]).reverse).map sw
    rw [mir_row hP a ha, mir_row hP b hb]
    simp
theorem put_ok {P : Str → Prop} {x : Str} {o : KT} (ho : o.ok P) : ∀ k : KT, k.ok P → (k.put x o).ok P
  | leaf t, h => by
    show KT.ok P (if t = x then o else leaf t)
    split
    · exact ho
    · exact h
  | node s a b, ⟨hs, ha, hb⟩ => ⟨hs, put_ok ho a ha, put_ok ho b hb⟩
theorem put_row {P : Str → Prop} (hP : ∀ t, P t → ¬ Sg t) {x : Str} {o : KT} (hx : P x) : ∀ k : KT, k.ok P → (k.put x o).row = k.row.flatMap fun t => if t = x then o.row else [t]
  | leaf t, h => by
    show (if t = x then o else leaf t).row = [t].flatMap _
    rw [List.flatMap_singleton]
    split <;> rfl
  | node s a b, ⟨hs, ha, hb⟩ => by
    show [s] ++ (a.put x o).row ++ (b.put x o).row = ([s] ++ a.row ++ b.row).flatMap _
    have e : s ≠ x := fun e => hP x hx (e ▸ hs)
    rw [put_row hP hx a ha, put_row hP hx b hb, List.flatMap_append, List.flatMap_append, List.flatMap_singleton, if_neg e]
theorem put_len {x : Str} {o : KT} : ∀ k : KT, ((k.put x o).at_.length : Int) = (k.at_.length : Int) + (cnt x k.at_ : Int) * ((o.at_.length : Int) - 1)
  | leaf t => by
    show ((if t = x then o else leaf t).at_.length : Int) = ((1 : Nat) : Int) + ((([D.str t].countP fun y => deq y (.str x) : Nat)) : Int) * _
    rw [List.countP_singleton]
    show _ = _ + ((if (t == x) = true then 1 else 0 : Nat) : Int) * _
    by_cases e : t = x
    · rw [if_pos e, if_pos (by rw [e]; exact beq_self_eq_true x)]; omega
    · rw [if_neg e, if_neg (by rw [beq_eq_false_iff_ne.mpr e]; exact Bool.false_ne_true)]
      show ((1 : Nat) : Int) = _
      omega
  | node s a b => by
    show (((a.put x o).at_ ++ (b.put x o).at_).length : Int) = (((a.at_ ++ b.at_).length : Nat) : Int) + ((cnt x (a.at_ ++ b.at_) : Nat) : Int) * _
    have hc : cnt x (a.at_ ++ b.at_) = cnt x a.at_ + cnt x b.at_ := by unfold cnt; rw [sts_app, List.countP_append]
    rw [hc, List.length_append, List.length_append]
    have ha := put_len (x := x) (o := o) a
    have hb := put_len (x := x) (o := o) b
    push_cast
    rw [ha, hb, Int.add_mul]
    omega
/-- what is no sign in a row: as many as atoms -/
theorem row_cnt {P : Str → Prop} (hP : ∀ t, P t → ¬ Sg t) {q : D → Bool} (hq : ∀ s, Sg s → q (.str s) = false) (hq2 : ∀ t, P t → q (.str t) = true) : ∀ k : KT, k.ok P → ((sts k.row).filter q).length = k.at_.length
  | leaf t, h => by
    show ([D.str t].filter q).length = 1
    rw [List.filter_cons_of_pos (hq2 t h)]
    rfl
  | node s a b, ⟨hs, ha, hb⟩ => by
    show ((sts ([s] ++ a.row ++ b.row)).filter q).length = (a.at_ ++ b.at_).length
    rw [sts_app, sts_app, List.filter_append, List.filter_append, List.length_append, List.length_append, List.length_append, row_cnt hP hq hq2 a ha, row_cnt hP hq hq2 b hb]
    show ([D.str s].filter q).length + _ + _ = _
    rw [List.filter_cons_of_neg (by rw [hq s hs]; exact Bool.false_ne_true)]
    show 0 + _ + _ = _
    omega
end KT
end Lw

set_option Elab.async false
set_option linter.all false
set_option maxRecDepth 100000
namespace Lw
open PySem L2 Dl
local macro_rules | `(tactic| walk_at "ev") => `(tactic| simp (disch := first | omega | assumption | (simp only [List.length_cons, List.length_nil]; omega) | (simp only [List.length_cons, List.length_nil])) only [sQ_, sP_, sE_, sR_, sIf_, sN_, sA_, tgO_nx, nm_, tgIx_, eC_, eV0, eV1, e1_, e2_, eB_, eF_, aN_, aC_, eMt_, eSl_, oN_, oI_, tV_, tE_, tA_, tO_, tN_, eIf_, eAnd_, eOr_, eNot_, eCh_,
  seq_nx, seq_rt, seq_bk, seq_ct, seq_ex, toR_some, toR_none, toT_some, truD_bl, truD_int, truD_tup, tyD_str, tyD_tup, tyD_int, tyD_bl, tyD_non,
  kE_, kR_, kIf_t, kIf_f, kN_, kA_, kIx1_, kIx2_, kIx3_, kE1_, kE21_, kE2_, kB_, kF_, kC1_, kC_, kM1_, kM2_, kM_, kS1_, kS2_, kS3_, kO_, kV_, kT_, kAn_t, kAn_f, kOr_t, kOr_f, kNo_, kIfE_t, kIfE_f, kVa_, kVa2_t, kVa2_f, kVo_, kVo2_t, kVo2_f, kVn_, kVn2_, kH_, kH1_, kH2_t, kH2_f, kH3_,
  List.getElem?_cons_zero, List.getElem?_cons_succ, List.set_cons_zero, List.set_cons_succ, gAdd_int, gAdd_str, gSub_int, gMul_l, gMul_r, gFdiv_int, gMod_int, gLt_int, gLe_int, gGt_int, gGe_int, gInt_int, gAbs_int, gLen_tup, gLen_str, gTpl_, gLsd_,
  Bool.false_eq_true, if_true, if_false, reduceIte, Option.map_some, Option.bind_some, gEq_int, gNe_int, gEq_str, gNe_str, Bool.not_true, Bool.not_false, decide_true, decide_false, List.length_singleton, List.length_cons, List.length_nil, List.map_cons, List.map_nil, Nat.sub_self, List.replicate_zero, List.append_nil, List.cons_append, List.nil_append, List.replicate_succ, Nat.reduceSub, Nat.reduceAdd, Nat.add_zero, Nat.zero_add, tgT_, tgU_, tgL0, tgL1, eTab_, kTab_, sX_])
local macro_rules | `(tactic| walk_at "evs") => `(tactic| simp (disch := first | omega | assumption | (simp only [List.length_cons, List.length_nil]; omega) | (simp only [List.length_cons, List.length_nil])) only [sQ_, sP_, sE_, sR_, sIf_, sN_, sA_, tgO_nx, nm_, tgIx_, eC_, eV0, eV1, e1_, e2_, eB_, eF_, aN_, aC_, eMt_, eSl_, oN_, oI_, tV_, tE_, tA_, tO_, tN_, eIf_, eAnd_, eOr_, eNot_, eCh_,
  seq_nx, seq_rt, seq_bk, seq_ct, seq_ex, toR_some, toR_none, toT_some, truD_bl, truD_int, truD_tup, tyD_str, tyD_tup, tyD_int, tyD_bl, tyD_non,
  kE_, kR_, kIf_t, kIf_f, kN_, kA_, kIx1_, kIx2_, kIx3_, kE1_, kE21_, kE2_, kB_, kF_, kC1_, kC_, kM1_, kM2_, kM_, kS1_, kS2_, kS3_, kO_, kV_, kT_, kAn_t, kAn_f, kOr_t, kOr_f, kNo_, kIfE_t, kIfE_f, kVa_, kVa2_t, kVa2_f, kVo_, kVo2_t, kVo2_f, kVn_, kVn2_, kH_, kH1_, kH2_t, kH2_f, kH3_,
  List.getElem?_cons_zero, List.getElem?_cons_succ, List.set_cons_zero, List.set_cons_succ, gAdd_int, gAdd_str, gSub_int, gMul_l, gMul_r, gFdiv_int, gMod_int, gLt_int, gLe_int, gGt_int, gGe_int, gInt_int, gAbs_int, gLen_tup, gLen_str, gTpl_, gLsd_,
  Bool.false_eq_true, if_true, if_false, reduceIte, Option.map_some, Option.bind_some, gEq_int, gNe_int, gEq_str, gNe_str, Bool.not_true, Bool.not_false, decide_true, decide_false, List.length_singleton, List.length_cons, List.length_nil, List.map_cons, List.map_nil, Nat.sub_self, List.replicate_zero, List.append_nil, List.cons_append, List.nil_append, List.replicate_succ, Nat.reduceSub, Nat.reduceAdd, Nat.add_zero, Nat.zero_add, tgT_, tgU_, tgL0, tgL1, eTab_, kTab_, sX_, *])
/-! ## mirrored -/
theorem iV_lst {f : EX} {l : Nat} {ρ : Dl.Env} {S S' : Store} {xs : List D} (h : f ρ S = .ok (.ref l) S') (hl : lstAt S' l = some xs) : iV f ρ S = .ok (xs.reverse, [(l, xs)]) S' := by
  show (f ρ S).bind _ = _
  rw [h]
  show (match lstAt S' l with | some xs => Dl.R.ok (xs.reverse, [(l, xs)]) S' | none => .no) = _
  rw [hl]
theorem sts_rev (xs : List Str) : (sts xs).reverse = sts xs.reverse := (List.map_reverse ..).symm
theorem deq_self : ∀ k : KT, deq k.d k.d = true
  | .leaf t => beq_self_eq_true t
  | .node s a b => by
    show ((s == s) && (deq a.d a.d && (deq b.d b.d && true))) = true
    rw [beq_self_eq_true, deq_self a, deq_self b]
    rfl
theorem mloop {l l2 : Nat} {kd : D} {xs : List D} (hne : l ≠ l2) : ∀ (es R : List Str) (T : Store) (x : Option D), T[l]? = some (Cell.lst (sts R)) → lstAt T l2 = some xs → R.length + es.length ≤ 1000000 →
    ∃ x', runF (nm 2) (sIf (tE (Dl.e2 gEq (eV 2) (eC (.str "/")))) (sE (eMt .lst gAppend (eV 1) (aC (eC (.str ">")) aN))) (sIf (tE (Dl.e2 gEq (eV 2) (eC (.str ">")))) (sE (eMt .lst gAppend (eV 1) (aC (eC (.str "/")) aN))) (sE (eMt .lst gAppend (eV 1) (aC (eV 2) aN)))))
      [(l2, xs)] (sts es) [some kd, some (.ref l), x, none] T = .nx [some kd, some (.ref l), x', none] (T.set l (Cell.lst (sts (R ++ es.map sw))))
  | [], R, T, x, hl, h2, _ => ⟨x, by rw [List.map_nil, List.append_nil, set_self hl]; exact runF_nil (chk_one h2)⟩
  | e :: es, R, T, x, hl, h2, hz => by
    have hz' : R.length + (es.length + 1) ≤ 1000000 := hz
    have l2' : lstAt (T.set l (Cell.lst (sts (R ++ [sw e])))) l2 = some xs := by
      unfold lstAt
      rw [List.getElem?_set_ne hne]
      exact h2
    obtain ⟨x', q⟩ := mloop hne es (R ++ [sw e]) _ (some (.str e)) (get_set hl (d := Cell.lst (sts (R ++ [sw e])))) l2' (by rw [List.length_append]; show _ + 1 + _ ≤ _; omega)
    refine ⟨x', ?_⟩
    rw [List.set_set] at q
    have ty := tyD_lst hl
    have ga : ∀ d, gAppend (.ref l) [.str d] T = some (.non, T.set l (Cell.lst (sts (R ++ [d])))) := fun d => by
      rw [gAppend_ hl (by rw [sts_len]; omega), sts_app]
      rfl
    show runF _ _ _ (.str e :: sts es) _ _ = _
    rw [List.map_cons, List.append_cons, runF_cons (chk_one h2) (d := .str e) (ρ1 := [some kd, some (.ref l), some (.str e), none]) (S1 := T) (ρ2 := [some kd, some (.ref l), some (.str e), none]) (S2 := T.set l (Cell.lst (sts (R ++ [sw e])))) rfl ?_]
    · exact q
    · by_cases e1 : e = "/"
      · subst e1
        walk_at "ev"
        simp only [beq_self_eq_true, kIf_t]
        walk_at "ev"
        rw [ty]
        walk_at "ev"
        rw [ga]
        walk_at "ev"
        rfl
      · by_cases e2 : e = ">"
        · subst e2
          walk_at "ev"
          rw [show ((">" : Str) == "/") = false by decide +kernel]
          walk_at "ev"
          simp only [beq_self_eq_true, kIf_t]
          walk_at "ev"
          rw [ty]
          walk_at "ev"
          rw [ga]
          walk_at "ev"
          rfl
        · walk_at "ev"
          rw [beq_eq_false_iff_ne.mpr e1]
          walk_at "ev"
          rw [beq_eq_false_iff_ne.mpr e2]
          walk_at "ev"
          rw [ty]
          walk_at "ev"
          rw [ga]
          walk_at "ev"
          rw [show sw e = e by unfold sw; rw [if_neg e1, if_neg e2]]
theorem mirrored_spec (k : KT) (hk : k.ok GoodT) (hl : k.at_.length ≤ 40) (j : Nat) (hj : 41 ≤ j) (S : Store) (hS : SOK S) : tab (j + 2) ._law_mirrored [k.d] S = .ok (.bl true) S := by
  have hP : ∀ t, GoodT t → ¬ Sg t := fun t h => h.2.1
  have ll := k.last_len
  have S1 : SOK (S ++ [Cell.lst []]) := hS.pushF rfl
  have e1 := last_spec k (j + 1) _ S1 (by omega) (by omega)
  have g0 : (S ++ [Cell.lst []] ++ [Cell.lst (sts k.last)])[S.length]? = some (Cell.lst (sts [])) := get_app get_end
  have g2 : lstAt (S ++ [Cell.lst []] ++ [Cell.lst (sts k.last)]) (S ++ [Cell.lst []]).length = some (sts k.last) := lstAt_lst get_end
  obtain ⟨x', e2⟩ := mloop (kd := k.d) (l := S.length) (l2 := (S ++ [Cell.lst []]).length) (xs := sts k.last) (by rw [List.length_append, List.length_singleton]; omega) k.last.reverse [] _ none g0 g2 (by rw [List.length_reverse]; show 0 + _ ≤ _; omega)
  have S2 : SOK (S ++ [Cell.lst []] ++ [Cell.lst (sts k.last)]) := S1.pushF (sts_flat _)
  rw [List.nil_append] at e2
  have em : k.last.reverse.map sw = k.mir.row := (KT.mir_row hP k hk).symm
  rw [em] at e2
  have S3 := S2.set (i := S.length) (c := Cell.lst (sts k.mir.row)) (sts_flat _)
  have g3 : lstAt ((S ++ [Cell.lst []] ++ [Cell.lst (sts k.last)]).set S.length (Cell.lst (sts k.mir.row))) S.length = some (sts k.mir.row) := lstAt_lst (get_set g0)
  have eS : ∃ G, (S ++ [Cell.lst []] ++ [Cell.lst (sts k.last)]).set S.length (Cell.lst (sts k.mir.row)) = S ++ G := ⟨[Cell.lst (sts k.mir.row), Cell.lst (sts k.last)], by rw [List.append_assoc, List.set_append_right _ _ (Nat.le_refl _), Nat.sub_self]; rfl⟩
  generalize hT : (S ++ [Cell.lst []] ++ [Cell.lst (sts k.last)]).set S.length (Cell.lst (sts k.mir.row)) = T at *
  obtain ⟨G, eS⟩ := eS
  have e3 := mirror_spec k (j + 1) T hk (by omega)
  have ml := k.mir_len
  have rl := k.mir.row_len
  have e4 := is_kind_spec k.mir j 40 T S3 (KT.mir_ok k hk) (by omega) (by omega)
  have e5 := row_spec k.mir (j + 1) T S3 (by omega) (by omega)
  have e6 := gEq_sts (S := T ++ [Cell.lst (sts k.mir.row)]) (l := T.length) (r := S.length) (xs := k.mir.row) (lstAt_lst get_end) (lstAt_app _ g3)
  have e7 := mirror_spec k.mir (j + 1) (T ++ [Cell.lst (sts k.mir.row)]) (KT.mir_ok k hk) (by omega)
  rw [KT.mir_mir k hk] at e7
  have kd := k.dep
  have e8 : gEq k.d k.d (T ++ [Cell.lst (sts k.mir.row)]) = some (.bl true, T ++ [Cell.lst (sts k.mir.row)]) := by rw [gEq_flat k.flat k.flat (by omega), deq_self]
  refine (runB_rt (np := 1) (ns := 4) (ds := [k.d]) (g := b__law_mirrored (tab (j + 1))) (d := .bl true) (S' := S ++ (G ++ [Cell.lst (sts k.mir.row)])) rfl ?_).trans (cmp_more rfl (hS.wf rfl) rfl)
  rw [← List.append_assoc, ← eS]
  unfold b__law_mirrored
  refine seq_step (ρ' := [some k.d, some (.ref S.length), none, none]) (S' := S ++ [Cell.lst []]) (by walk_at "ev") ?_
  refine seq_step (ρ' := [some k.d, some (.ref S.length), x', none]) (S' := T) ?_ ?_
  · rw [sF_ok (iV_lst (l := (S ++ [Cell.lst []]).length) (S' := S ++ [Cell.lst []] ++ [Cell.lst (sts k.last)]) (by walk_at "ev"; exact e1) g2)]
    rw [sts_rev]
    exact e2
  refine seq_step (ρ' := [some k.d, some (.ref S.length), x', some k.mir.d]) (S' := T) (by walk_at "ev"; rw [e3]; walk_at "ev") ?_
  walk_at "ev"
  rw [e4]
  walk_at "ev"
  rw [e5]
  walk_at "ev"
  rw [e6]
  walk_at "ev"
  rw [e7]
  walk_at "ev"
  rw [e8]
  walk_at "ev"
end Lw

set_option Elab.async false
set_option linter.all false
set_option maxRecDepth 100000
namespace Lw
open PySem L2 Dl
local macro_rules | `(tactic| walk_at "ev") => `(tactic| simp (disch := first | omega | assumption | (simp only [List.length_cons, List.length_nil]; omega) | (simp only [List.length_cons, List.length_nil])) only [sQ_, sP_, sE_, sR_, sIf_, sN_, sA_, tgO_nx, nm_, tgIx_, eC_, eV0, eV1, e1_, e2_, eB_, eF_, aN_, aC_, eMt_, eSl_, oN_, oI_, tV_, tE_, tA_, tO_, tN_, eIf_, eAnd_, eOr_, eNot_, eCh_,
  seq_nx, seq_rt, seq_bk, seq_ct, seq_ex, toR_some, toR_none, toT_some, truD_bl, truD_int, truD_tup, tyD_str, tyD_tup, tyD_int, tyD_bl, tyD_non,
  kE_, kR_, kIf_t, kIf_f, kN_, kA_, kIx1_, kIx2_, kIx3_, kE1_, kE21_, kE2_, kB_, kF_, kC1_, kC_, kM1_, kM2_, kM_, kS1_, kS2_, kS3_, kO_, kV_, kT_, kAn_t, kAn_f, kOr_t, kOr_f, kNo_, kIfE_t, kIfE_f, kVa_, kVa2_t, kVa2_f, kVo_, kVo2_t, kVo2_f, kVn_, kVn2_, kH_, kH1_, kH2_t, kH2_f, kH3_,
  List.getElem?_cons_zero, List.getElem?_cons_succ, List.set_cons_zero, List.set_cons_succ, gAdd_int, gAdd_str, gSub_int, gMul_l, gMul_r, gFdiv_int, gMod_int, gLt_int, gLe_int, gGt_int, gGe_int, gInt_int, gAbs_int, gLen_tup, gLen_str, gTpl_, gLsd_,
  Bool.false_eq_true, if_true, if_false, reduceIte, Option.map_some, Option.bind_some, gEq_int, gNe_int, gEq_str, gNe_str, Bool.not_true, Bool.not_false, decide_true, decide_false, List.length_singleton, List.length_cons, List.length_nil, List.map_cons, List.map_nil, Nat.sub_self, List.replicate_zero, List.append_nil, List.cons_append, List.nil_append, List.replicate_succ, Nat.reduceSub, Nat.reduceAdd, Nat.add_zero, Nat.zero_add, tgT_, tgU_, tgL0, tgL1, eTab_, kTab_, sX_])
local macro_rules | `(tactic| walk_at "evs") => `(tactic| simp (disch := first | omega | assumption | (simp only [List.length_cons, List.length_nil]; omega) | (simp only [List.length_cons, List.length_nil])) only [sQ_, sP_, sE_, sR_, sIf_, sN_, sA_, tgO_nx, nm_, tgIx_, eC_, eV0, eV1, e1_, e2_, eB_, eF_, aN_, aC_, eMt_, eSl_, oN_, oI_, tV_, tE_, tA_, tO_, tN_, eIf_, eAnd_, eOr_, eNot_, eCh_,
  seq_nx, seq_rt, seq_bk, seq_ct, seq_ex, toR_some, toR_none, toT_some, truD_bl, truD_int, truD_tup, tyD_str, tyD_tup, tyD_int, tyD_bl, tyD_non,
  kE_, kR_, kIf_t, kIf_f, kN_, kA_, kIx1_, kIx2_, kIx3_, kE1_, kE21_, kE2_, kB_, kF_, kC1_, kC_, kM1_, kM2_, kM_, kS1_, kS2_, kS3_, kO_, kV_, kT_, kAn_t, kAn_f, kOr_t, kOr_f, kNo_, kIfE_t, kIfE_f, kVa_, kVa2_t, kVa2_f, kVo_, kVo2_t, kVo2_f, kVn_, kVn2_, kH_, kH1_, kH2_t, kH2_f, kH3_,
  List.getElem?_cons_zero, List.getElem?_cons_succ, List.set_cons_zero, List.set_cons_succ, gAdd_int, gAdd_str, gSub_int, gMul_l, gMul_r, gFdiv_int, gMod_int, gLt_int, gLe_int, gGt_int, gGe_int, gInt_int, gAbs_int, gLen_tup, gLen_str, gTpl_, gLsd_,
  Bool.false_eq_true, if_true, if_false, reduceIte, Option.map_some, Option.bind_some, gEq_int, gNe_int, gEq_str, gNe_str, Bool.not_true, Bool.not_false, decide_true, decide_false, List.length_singleton, List.length_cons, List.length_nil, List.map_cons, List.map_nil, Nat.sub_self, List.replicate_zero, List.append_nil, List.cons_append, List.nil_append, List.replicate_succ, Nat.reduceSub, Nat.reduceAdd, Nat.add_zero, Nat.zero_add, tgT_, tgU_, tgL0, tgL1, eTab_, kTab_, sX_, *])
/-! ## replaced -/
theorem sTry_nx {i : Nat} {L : Tab} {g : SX} {ρ ρ' : Dl.Env} {S S' : Store} (h : g ρ S = .nx ρ' S') : sTry i L g ρ S = .nx ρ' S' := by
  unfold sTry
  rw [h]
theorem sTry_ex {i : Nat} {L : Tab} {g : SX} {ρ ρ' : Dl.Env} {S S' : Store} {x : Str} {su : Addr → SX} (h : g ρ S = .ex ⟨x, []⟩ ρ' S') (hl : L.lookup x = some (true, su)) : sTry i L g ρ S = clr i (su 0 (ρ'.set i (some (.raw (.ref 0)))) S') := by
  unfold sTry
  rw [h]
  simp only [hl]
theorem set_off {S G : Store} {l : Nat} {c : Cell} (h : S.length ≤ l) : (S ++ G).set l c = S ++ G.set (l - S.length) c := List.set_append_right _ _ h
theorem rloop (j : Nat) {S : Store} {l2 : Nat} {kd : D} {o : KT} {x : Str} {xs : List D} {v3 v4 v5 v6 : Option D} (hj : o.at_.length ≤ j) (ho : o.row.length ≤ 1000) : ∀ (es R : List Str) (G : Store) (l : Nat) (y : Option D), (S ++ G)[l]? = some (Cell.lst (sts R)) → S.length ≤ l → lstAt (S ++ G) l2 = some xs → l ≠ l2 → SOK (S ++ G) → R.length + 1001 * es.length ≤ 1000000 →
    ∃ l' G' y', (S ++ G')[l']? = some (Cell.lst (sts (R ++ es.flatMap fun t => if t = x then o.row else [t]))) ∧ SOK (S ++ G') ∧ runF (nm 8) (sIf (tE (Dl.e2 gEq (eV 8) (eV 1))) (sN 7 (Dl.e2 gAdd (eV 7) (eF (tab j ._law_row) (aC (eV 2) aN)))) (sE (eMt .lst gAppend (eV 7) (aC (eV 8) aN))))
      [(l2, xs)] (sts es) [some kd, some (.str x), some o.d, v3, v4, v5, v6, some (.ref l), y] (S ++ G) = .nx [some kd, some (.str x), some o.d, v3, v4, v5, v6, some (.ref l'), y'] (S ++ G')
  | [], R, G, l, y, hl, hS, h2, hne, hok, hz => ⟨l, G, y, by rw [List.flatMap_nil, List.append_nil]; exact hl, hok, runF_nil (chk_one h2)⟩
  | e :: es, R, G, l, y, hl, hS, h2, hne, hok, hz => by
    have hz' : R.length + 1001 * (es.length + 1) ≤ 1000000 := hz
    have eS : sts (e :: es) = .str e :: sts es := rfl
    rw [eS, List.flatMap_cons]
    by_cases he : e = x
    · subst he
      rw [if_pos rfl, ← List.append_assoc]
      have e1 := row_spec o j _ hok hj (by omega)
      have hok1 := hok.pushF (c := Cell.lst (sts o.row)) (sts_flat _)
      have hok2 := hok1.pushF (c := Cell.lst (sts (R ++ o.row))) (sts_flat _)
      have e2 := gAdd_lst (S := S ++ G ++ [Cell.lst (sts o.row)]) (l := l) (k := (S ++ G).length) (xs := sts R) (ys := sts o.row) (get_app hl) get_end (by rw [sts_len, sts_len]; omega)
      rw [← sts_app] at e2
      have eG : S ++ G ++ [Cell.lst (sts o.row)] ++ [Cell.lst (sts (R ++ o.row))] = S ++ (G ++ [Cell.lst (sts o.row), Cell.lst (sts (R ++ o.row))]) := by simp
      have lt2 := lstAt_lt h2
      have g1 : (S ++ (G ++ [Cell.lst (sts o.row), Cell.lst (sts (R ++ o.row))]))[(S ++ G ++ [Cell.lst (sts o.row)]).length]? = some (Cell.lst (sts (R ++ o.row))) := by rw [← eG]; exact get_end
      obtain ⟨l', G', y', q1, q2, q3⟩ := rloop j (x := e) (kd := kd) (v3 := v3) (v4 := v4) (v5 := v5) (v6 := v6) hj ho es (R ++ o.row) (G ++ [Cell.lst (sts o.row), Cell.lst (sts (R ++ o.row))]) _ (some (.str e)) g1 (by simp only [List.length_append]; omega) (by rw [← eG]; exact lstAt_app _ (lstAt_app _ h2)) (by simp only [List.length_append, List.length_singleton] at *; omega) (by rw [← eG]; exact hok2) (by rw [List.length_append]; omega)
      refine ⟨l', G', y', q1, q2, ?_⟩
      rw [runF_cons (chk_one h2) (d := .str e) (ρ1 := [some kd, some (.str e), some o.d, v3, v4, v5, v6, some (.ref l), some (.str e)]) (S1 := S ++ G) (ρ2 := [some kd, some (.str e), some o.d, v3, v4, v5, v6, some (.ref (S ++ G ++ [Cell.lst (sts o.row)]).length), some (.str e)]) (S2 := S ++ (G ++ [Cell.lst (sts o.row), Cell.lst (sts (R ++ o.row))])) rfl ?_]
      · exact q3
      · rw [← eG]
        walk_at "ev"
        simp only [beq_self_eq_true, kIf_t]
        walk_at "ev"
        rw [e1]
        walk_at "ev"
        rw [e2]
        walk_at "ev"
    · rw [if_neg he, ← List.append_assoc]
      have hok1 := hok.set (i := l) (c := Cell.lst (sts (R ++ [e]))) (sts_flat _)
      have g1 := get_set hl (d := Cell.lst (sts (R ++ [e])))
      have g2 : lstAt ((S ++ G).set l (Cell.lst (sts (R ++ [e])))) l2 = some xs := by
        unfold lstAt
        rw [List.getElem?_set_ne hne]
        exact h2
      have ga : gAppend (.ref l) [.str e] (S ++ G) = some (.non, (S ++ G).set l (Cell.lst (sts (R ++ [e])))) := by
        rw [gAppend_ hl (by rw [sts_len]; omega), sts_app]
        rfl
      have ty := tyD_lst hl
      rw [set_off hS] at hok1 g1 g2 ga
      obtain ⟨l', G', y', q1, q2, q3⟩ := rloop j (x := x) (kd := kd) (v3 := v3) (v4 := v4) (v5 := v5) (v6 := v6) hj ho es (R ++ [e]) _ l (some (.str e)) g1 hS g2 hne hok1 (by rw [List.length_append]; show _ + 1 + _ ≤ _; omega)
      refine ⟨l', G', y', q1, q2, ?_⟩
      rw [runF_cons (chk_one h2) (d := .str e) (ρ1 := [some kd, some (.str x), some o.d, v3, v4, v5, v6, some (.ref l), some (.str e)]) (S1 := S ++ G) (ρ2 := [some kd, some (.str x), some o.d, v3, v4, v5, v6, some (.ref l), some (.str e)]) (S2 := S ++ G.set (l - S.length) (Cell.lst (sts (R ++ [e])))) rfl ?_]
      · exact q3
      · walk_at "ev"
        rw [beq_eq_false_iff_ne.mpr he]
        walk_at "ev"
        rw [ty]
        walk_at "ev"
        rw [ga]
        walk_at "ev"
/-- a comprehension whose test lays a list each time -/
theorem runC_grow {k : Chk} {ρ : Dl.Env} {l : Nat} {g : Cg} {ft : TX} {fe : EX} {c : Cell} (keep : D → Bool) {T : Store} (hl : l = T.length) (hk : ∀ S, chkOk k (T ++ S)) : ∀ (ds acc : List D) (G : Store), acc.length + ds.length ≤ 1000000 →
    (∀ d ∈ ds, ∃ ρ1, g.put d ρ = some ρ1 ∧ ∀ S, ft ρ1 S = .ok (keep d) (S ++ [c]) ∧ fe ρ1 S = .ok d S) →
    ∃ G', (∀ y ∈ G', y ∈ G ∨ y = c) ∧ runC l ρ g ft fe k ds (T ++ [Cell.lst acc] ++ G) = .ok (.ref l) (T ++ [Cell.lst (acc ++ ds.filter keep)] ++ G')
  | [], acc, G, hz, _ => ⟨G, fun y h => .inl h, by
    unfold runC
    rw [if_pos (by rw [List.append_assoc]; exact hk _)]
    simp⟩
  | d :: ds, acc, G, hz, hd => by
    obtain ⟨ρ1, h1, h2⟩ := hd d (List.mem_cons_self ..)
    have hz' : acc.length + (ds.length + 1) ≤ 1000000 := hz
    obtain ⟨h3, _⟩ := h2 (T ++ [Cell.lst acc] ++ G)
    obtain ⟨_, h4⟩ := h2 (T ++ [Cell.lst acc] ++ G ++ [c])
    subst hl
    cases hkd : keep d with
    | false =>
      obtain ⟨G', qm, q⟩ := runC_grow (c := c) (k := k) (ρ := ρ) (g := g) (ft := ft) (fe := fe) keep (T := T) rfl hk ds acc (G ++ [c]) (by omega) fun x hx => hd x (List.mem_cons_of_mem _ hx)
      refine ⟨G', fun y h => (qm y h).elim (fun h => (List.mem_append.mp h).imp id fun h => List.mem_singleton.mp h) .inr, ?_⟩
      rw [hkd] at h3
      unfold runC
      rw [if_pos (by rw [List.append_assoc]; exact hk _)]
      simp only [h1, h3]
      rw [List.append_assoc _ G [c], q, List.filter_cons_of_neg (by rw [hkd]; exact Bool.false_ne_true)]
    | true =>
      obtain ⟨G', qm, q⟩ := runC_grow (c := c) (k := k) (ρ := ρ) (g := g) (ft := ft) (fe := fe) keep (T := T) rfl hk ds (acc ++ [d]) (G ++ [c]) (by rw [List.length_append]; simp only [List.length_singleton]; omega) fun x hx => hd x (List.mem_cons_of_mem _ hx)
      refine ⟨G', fun y h => (qm y h).elim (fun h => (List.mem_append.mp h).imp id fun h => List.mem_singleton.mp h) .inr, ?_⟩
      rw [hkd] at h3
      have gg : (T ++ [Cell.lst acc] ++ G ++ [c])[T.length]? = some (Cell.lst acc) := get_app (get_app get_end)
      have gs : (T ++ [Cell.lst acc] ++ G ++ [c]).set T.length (Cell.lst (acc ++ [d])) = T ++ [Cell.lst (acc ++ [d])] ++ (G ++ [c]) := by
        rw [set_app (get_app get_end), set_app get_end, set_end, List.append_assoc]
      unfold runC
      rw [if_pos (by rw [List.append_assoc]; exact hk _)]
      simp only [h1, h3, h4, gg]
      rw [if_pos (show acc.length < LIM by show acc.length < 16777216; omega), gs, q, List.filter_cons_of_pos hkd, List.append_assoc acc [d]]
      rfl
def isSg : D → Bool := fun d => match d with
  | .str t => !(([D.str "/", .str ">", .str "*"] : List D).any fun y => deq y (.str t))
  | _ => false
theorem isSg_f (s : Str) (h : Sg s) : isSg (.str s) = false := by show (!_) = false; rw [sg_any h]; rfl
theorem isSg_t (t : Str) (h : ¬ Sg t) : isSg (.str t) = true := by
  show (!((D.str "/" :: [D.str ">", .str "*"]).any fun y => deq y (.str t))) = true
  have e : ((D.str "/" :: [D.str ">", .str "*"]).any fun y => deq y (.str t)) = ((("/" : Str) == t) || ((">" : Str) == t) || ((("*" : Str) == t) || false)) := by
    show ((("/" : Str) == t) || ((((">" : Str) == t)) || ((("*" : Str) == t) || false))) = _
    rw [Bool.or_assoc]
  rw [e, beq_eq_false_iff_ne.mpr fun e => h (.inl e.symm), beq_eq_false_iff_ne.mpr fun e => h (.inr (.inl e.symm)), beq_eq_false_iff_ne.mpr fun e => h (.inr (.inr e.symm))]
  rfl
theorem signs_comp {l : Nat} {xs : List Str} {T : Store} {v0 v1 v2 v3 v4 v5 v6 v8 : Option D} (hl : lstAt T l = some (sts xs)) (hz : xs.length ≤ 100000) : ∃ G', (∀ y ∈ G', Cell.flat y = true) ∧ eLc [8] (iA (eV 7)) (.one 8) (tE (Dl.e2 gNin (eV 8) (eB gLsd (aC (eC (.str "/")) (aC (eC (.str ">")) (aC (eC (.str "*")) aN)))))) (eV 8) [v0, v1, v2, v3, v4, v5, v6, some (.ref l), v8] T = .ok (.ref T.length) (T ++ [Cell.lst ((sts xs).filter isSg)] ++ G') := by
  rw [eLc_ok (iA_lst (S' := T) (by walk_at "ev") hl)]
  obtain ⟨G', qm, q⟩ := runC_grow (k := [(l, sts xs)]) (ρ := wipeD [v0, v1, v2, v3, v4, v5, v6, some (.ref l), v8] [8]) (l := T.length) (g := .one 8) (ft := tE (Dl.e2 gNin (eV 8) (eB gLsd (aC (eC (.str "/")) (aC (eC (.str ">")) (aC (eC (.str "*")) aN)))))) (fe := eV 8) (c := Cell.lst [D.str "/", .str ">", .str "*"]) isSg (T := T) rfl (fun S => chk_app S (chk_one hl)) (sts xs) [] [] (by rw [sts_len]; show 0 + _ ≤ _; omega) (fun d hd => by
    obtain ⟨t, _, rfl⟩ := List.mem_map.mp hd
    refine ⟨_, rfl, fun S => ⟨?_, rfl⟩⟩
    have en := nin_of (t := t) (lstAt_lst (get_end (S := S) (c := Cell.lst [D.str "/", .str ">", .str "*"])))
    show tE (Dl.e2 gNin (eV 8) (eB gLsd (aC (eC (.str "/")) (aC (eC (.str ">")) (aC (eC (.str "*")) aN))))) [v0, v1, v2, v3, v4, v5, v6, some (.ref l), some (.str t)] S = _
    walk_at "ev"
    rw [en]
    walk_at "ev"
    rfl)
  rw [List.append_nil, List.nil_append] at q
  exact ⟨G', fun y h => (qm y h).elim (fun h => nomatch h) (fun h => by rw [h]; rfl), q⟩
theorem SOK.app {S G : Store} (h : SOK S) (hg : ∀ y ∈ G, Cell.flat y = true) : SOK (S ++ G) := fun x hx => by
  rcases List.mem_append.mp hx with q | q
  · exact cwf_mono (by rw [List.length_append]; omega) (h x q)
  · exact cwf_flat (hg x q)
theorem replaced_spec (k o : KT) (x : Str) (hk : k.ok GoodT) (ho : o.ok GoodT) (hx : GoodT x) (hl : k.at_.length ≤ 40) (hlo : o.at_.length ≤ 40) (j : Nat) (hj : 41 ≤ j) (S : Store) (hS : SOK S) : tab (j + 3) ._law_replaced [k.d, .str x, o.d] S = .ok (.bl true) S := by
  have hP : ∀ t, GoodT t → ¬ Sg t := fun t h => h.2.1
  have rl := k.row_len
  have ol := o.row_len
  have S1 : SOK (S ++ [Cell.lst []]) := hS.pushF rfl
  have e1 := row_spec k (j + 2) _ S1 (by omega) (by omega)
  have S2 := S1.pushF (c := Cell.lst (sts k.row)) (sts_flat _)
  have g0 : (S ++ ([Cell.lst []] ++ [Cell.lst (sts k.row)]))[S.length]? = some (Cell.lst (sts [])) := by rw [← List.append_assoc]; exact get_app get_end
  have g2 : lstAt (S ++ [Cell.lst []] ++ [Cell.lst (sts k.row)]) (S ++ [Cell.lst []]).length = some (sts k.row) := lstAt_lst get_end
  have main : ∀ (v3 v4 v5 v6 : Option D), ∃ l' G' y' G2, lstAt (S ++ G') l' = some (sts (k.put x o).row) ∧ SOK (S ++ G') ∧ sF (iA (eF (tab (j + 2) ._law_row) (aC (eV 0) aN))) (nm 8) (sIf (tE (Dl.e2 gEq (eV 8) (eV 1))) (sN 7 (Dl.e2 gAdd (eV 7) (eF (tab (j + 2) ._law_row) (aC (eV 2) aN)))) (sE (eMt .lst gAppend (eV 7) (aC (eV 8) aN))))
      [some k.d, some (.str x), some o.d, v3, v4, v5, v6, some (.ref S.length), none] (S ++ [Cell.lst []]) = .nx [some k.d, some (.str x), some o.d, v3, v4, v5, v6, some (.ref l'), y'] (S ++ G') ∧ (∀ y ∈ G2, Cell.flat y = true) ∧ eLc [8] (iA (eV 7)) (.one 8) (tE (Dl.e2 gNin (eV 8) (eB gLsd (aC (eC (.str "/")) (aC (eC (.str ">")) (aC (eC (.str "*")) aN)))))) (eV 8) [some k.d, some (.str x), some o.d, v3, v4, v5, v6, some (.ref l'), y'] (S ++ G') = .ok (.ref (S ++ G').length) (S ++ G' ++ [Cell.lst ((sts (k.put x o).row).filter isSg)] ++ G2) := fun v3 v4 v5 v6 => by
    have g2' := g2
    rw [List.append_assoc] at g2'
    obtain ⟨l', G', y', q1, q2, q3⟩ := rloop (j + 2) (S := S) (l2 := (S ++ [Cell.lst []]).length) (kd := k.d) (o := o) (x := x) (xs := sts k.row) (v3 := v3) (v4 := v4) (v5 := v5) (v6 := v6) (by omega) (by omega) k.row [] ([Cell.lst []] ++ [Cell.lst (sts k.row)]) S.length none g0 (Nat.le_refl _) g2' (by rw [List.length_append, List.length_singleton]; omega) (by rw [← List.append_assoc]; exact S2) (by show 0 + _ ≤ _; omega)
    rw [List.nil_append, ← KT.put_row hP hx k hk] at q1
    have pz : (k.put x o).row.length ≤ 100000 := by
      rw [KT.put_row hP hx k hk]
      have b : ∀ es : List Str, (es.flatMap fun t => if t = x then o.row else [t]).length ≤ 1000 * es.length := fun es => by
        induction es with
        | nil => exact Nat.zero_le _
        | cons e es ih =>
          rw [List.flatMap_cons, List.length_append]
          have : (if e = x then o.row else [e]).length ≤ 1000 := by
            split
            · omega
            · show 1 ≤ 1000; omega
          show _ ≤ 1000 * (es.length + 1)
          omega
      have := b k.row
      omega
    obtain ⟨G2, q5, q4⟩ := signs_comp (v0 := some k.d) (v1 := some (.str x)) (v2 := some o.d) (v3 := v3) (v4 := v4) (v5 := v5) (v6 := v6) (v8 := y') (lstAt_lst q1) pz
    refine ⟨l', G', y', G2, lstAt_lst q1, q2, ?_, q5, q4⟩
    rw [sF_ok (iA_lst (l := (S ++ [Cell.lst []]).length) (S' := S ++ [Cell.lst []] ++ [Cell.lst (sts k.row)]) (by walk_at "ev"; exact e1) g2)]
    rw [List.append_assoc S] at g2 ⊢
    exact q3
  have cn := KT.row_cnt hP isSg_f (fun t h => isSg_t t (hP t h)) (k.put x o) (KT.put_ok ho k hk)
  have pl := KT.put_len (x := x) (o := o) k
  have fin : ∀ G, b__law_replaced (tab (j + 2)) [some k.d, some (.str x), some o.d, none, none, none, none, none, none] S = .rt (.bl true) (S ++ G) → tab (j + 3) ._law_replaced [k.d, .str x, o.d] S = .ok (.bl true) S := fun G e =>
    (runB_rt (np := 3) (ns := 9) (ds := [k.d, .str x, o.d]) (g := b__law_replaced (tab (j + 2))) rfl e).trans (cmp_more rfl (hS.wf rfl) rfl)
  by_cases hm : 40 < (k.at_.length : Int) + (cnt x k.at_ : Int) * ((o.at_.length : Int) - 1)
  · have es := subst_no k o x j S (by omega) (by omega) (by omega) (by omega) hm
    obtain ⟨l', G', y', G2, m1, m2, m3, m5, m4⟩ := main (some .non) (some (.str "SizeError")) (some (.bl true)) none
    have gl : gLen [.ref (S ++ G').length] (S ++ G' ++ [Cell.lst ((sts (k.put x o).row).filter isSg)] ++ G2) = some (.int (k.put x o).at_.length, S ++ G' ++ [Cell.lst ((sts (k.put x o).row).filter isSg)] ++ G2) := by
      rw [gLen_lst (lstAt_lst (get_app get_end)), cn]
    refine fin (G' ++ [Cell.lst ((sts (k.put x o).row).filter isSg)] ++ G2) ?_
    rw [← List.append_assoc, ← List.append_assoc]
    unfold b__law_replaced
    refine seq_step (ρ' := [some k.d, some (.str x), some o.d, some .non, none, none, none, none, none]) (S' := S) (by walk_at "ev") ?_
    refine seq_step (ρ' := [some k.d, some (.str x), some o.d, some .non, some (.str ""), none, none, none, none]) (S' := S) (by walk_at "ev") ?_
    refine seq_step (ρ' := [some k.d, some (.str x), some o.d, some .non, some (.str ""), some (.bl false), none, none, none]) (S' := S) (by walk_at "ev") ?_
    refine seq_step (ρ' := [some k.d, some (.str x), some o.d, some .non, some (.str "SizeError"), some (.bl true), none, none, none]) (S' := S) ?_ ?_
    · rw [sTry_ex (x := "SizeError") (ρ' := [some k.d, some (.str x), some o.d, some .non, some (.str ""), some (.bl false), none, none, none]) (S' := S) (by
        show sN 3 (eF (tab (j + 2) .substitute_kind) (aC (eV 0) (aC (eV 1) (aC (eV 2) aN)))) _ _ = _
        rw [sN_]
        walk_at "ev"
        rw [es]
        rfl) (List.lookup_cons_self)]
      rfl
    refine seq_step (ρ' := [some k.d, some (.str x), some o.d, some .non, some (.str "SizeError"), some (.bl true), none, some (.ref S.length), none]) (S' := S ++ [Cell.lst []]) (by walk_at "ev") ?_
    refine seq_step m3 ?_
    walk_at "ev"
    rw [m4]
    walk_at "ev"
    rw [gl]
    walk_at "ev"
    rw [decide_eq_true (show (40 : Int) < ((k.put x o).at_.length : Int) by omega)]
    walk_at "ev"
    simp only [beq_self_eq_true]
    walk_at "ev"
  · have es := subst_ok k o x j S (by omega) (by omega) (by omega) (by omega) (by omega)
    obtain ⟨l', G', y', G2, m1, m2, m3, m5, m4⟩ := main (some (k.put x o).d) (some (.str "")) (some (.bl false)) none
    have gl : gLen [.ref (S ++ G').length] (S ++ G' ++ [Cell.lst ((sts (k.put x o).row).filter isSg)] ++ G2) = some (.int (k.put x o).at_.length, S ++ G' ++ [Cell.lst ((sts (k.put x o).row).filter isSg)] ++ G2) := by
      rw [gLen_lst (lstAt_lst (get_app get_end)), cn]
    have ff : flats ((sts (k.put x o).row).filter isSg) = true := by
      have : ∀ xs : List Str, flats ((sts xs).filter isSg) = true := fun xs => by
        induction xs with
        | nil => rfl
        | cons t xs ih =>
          show flats ((D.str t :: sts xs).filter isSg) = true
          rw [List.filter_cons]
          split
          · show (true && flats _) = true
            rw [ih]; rfl
          · exact ih
      exact this _
    have U1 : SOK (S ++ G' ++ [Cell.lst ((sts (k.put x o).row).filter isSg)] ++ G2) := (m2.pushF (c := Cell.lst ((sts (k.put x o).row).filter isSg)) ff).app m5
    have pr := (k.put x o).row_len
    have i1 := is_kind_spec (k.put x o) (j + 1) 40 _ U1 (KT.put_ok ho k hk) (by omega) (by omega)
    have i2 := row_spec (k.put x o) (j + 2) _ U1 (by omega) (by omega)
    have i3 := gEq_sts (S := S ++ G' ++ [Cell.lst ((sts (k.put x o).row).filter isSg)] ++ G2 ++ [Cell.lst (sts (k.put x o).row)]) (l := (S ++ G' ++ [Cell.lst ((sts (k.put x o).row).filter isSg)] ++ G2).length) (r := l') (xs := (k.put x o).row) (lstAt_lst get_end) (lstAt_app _ (lstAt_app _ (lstAt_app _ m1)))
    refine fin (G' ++ [Cell.lst ((sts (k.put x o).row).filter isSg)] ++ G2 ++ [Cell.lst (sts (k.put x o).row)]) ?_
    rw [← List.append_assoc, ← List.append_assoc, ← List.append_assoc]
    unfold b__law_replaced
    refine seq_step (ρ' := [some k.d, some (.str x), some o.d, some .non, none, none, none, none, none]) (S' := S) (by walk_at "ev") ?_
    refine seq_step (ρ' := [some k.d, some (.str x), some o.d, some .non, some (.str ""), none, none, none, none]) (S' := S) (by walk_at "ev") ?_
    refine seq_step (ρ' := [some k.d, some (.str x), some o.d, some .non, some (.str ""), some (.bl false), none, none, none]) (S' := S) (by walk_at "ev") ?_
    refine seq_step (ρ' := [some k.d, some (.str x), some o.d, some (k.put x o).d, some (.str ""), some (.bl false), none, none, none]) (S' := S) ?_ ?_
    · refine sTry_nx ?_
      rw [sN_]
      walk_at "ev"
      rw [es]
      walk_at "ev"
    refine seq_step (ρ' := [some k.d, some (.str x), some o.d, some (k.put x o).d, some (.str ""), some (.bl false), none, some (.ref S.length), none]) (S' := S ++ [Cell.lst []]) (by walk_at "ev") ?_
    refine seq_step m3 ?_
    walk_at "ev"
    rw [m4]
    walk_at "ev"
    rw [gl]
    walk_at "ev"
    rw [decide_eq_false (show ¬ (40 : Int) < ((k.put x o).at_.length : Int) by omega)]
    walk_at "ev"
    simp only [beq_self_eq_true]
    walk_at "ev"
    rw [i1]
    walk_at "ev"
    rw [i2]
    walk_at "ev"
    rw [i3]
    walk_at "ev"
end Lw

set_option Elab.async false
set_option linter.all false
set_option maxRecDepth 100000
namespace Lw
open PySem L2 Dl
local macro_rules | `(tactic| walk_at "ev") => `(tactic| simp (disch := first | omega | assumption | (simp only [List.length_cons, List.length_nil]; omega) | (simp only [List.length_cons, List.length_nil])) only [sQ_, sP_, sE_, sR_, sIf_, sN_, sA_, tgO_nx, nm_, tgIx_, eC_, eV0, eV1, e1_, e2_, eB_, eF_, aN_, aC_, eMt_, eSl_, oN_, oI_, tV_, tE_, tA_, tO_, tN_, eIf_, eAnd_, eOr_, eNot_, eCh_,
  seq_nx, seq_rt, seq_bk, seq_ct, seq_ex, toR_some, toR_none, toT_some, truD_bl, truD_int, truD_tup, tyD_str, tyD_tup, tyD_int, tyD_bl, tyD_non,
  kE_, kR_, kIf_t, kIf_f, kN_, kA_, kIx1_, kIx2_, kIx3_, kE1_, kE21_, kE2_, kB_, kF_, kC1_, kC_, kM1_, kM2_, kM_, kS1_, kS2_, kS3_, kO_, kV_, kT_, kAn_t, kAn_f, kOr_t, kOr_f, kNo_, kIfE_t, kIfE_f, kVa_, kVa2_t, kVa2_f, kVo_, kVo2_t, kVo2_f, kVn_, kVn2_, kH_, kH1_, kH2_t, kH2_f, kH3_,
  List.getElem?_cons_zero, List.getElem?_cons_succ, List.set_cons_zero, List.set_cons_succ, gAdd_int, gAdd_str, gSub_int, gMul_l, gMul_r, gFdiv_int, gMod_int, gLt_int, gLe_int, gGt_int, gGe_int, gInt_int, gAbs_int, gLen_tup, gLen_str, gTpl_, gLsd_,
  Bool.false_eq_true, if_true, if_false, reduceIte, Option.map_some, Option.bind_some, gEq_int, gNe_int, gEq_str, gNe_str, Bool.not_true, Bool.not_false, decide_true, decide_false, List.length_singleton, List.length_cons, List.length_nil, List.map_cons, List.map_nil, Nat.sub_self, List.replicate_zero, List.append_nil, List.cons_append, List.nil_append, List.replicate_succ, Nat.reduceSub, Nat.reduceAdd, Nat.add_zero, Nat.zero_add, tgT_, tgU_, tgL0, tgL1, eTab_, kTab_, sX_])
local macro_rules | `(tactic| walk_at "evs") => `(tactic| simp (disch := first | omega | assumption | (simp only [List.length_cons, List.length_nil]; omega) | (simp only [List.length_cons, List.length_nil])) only [sQ_, sP_, sE_, sR_, sIf_, sN_, sA_, tgO_nx, nm_, tgIx_, eC_, eV0, eV1, e1_, e2_, eB_, eF_, aN_, aC_, eMt_, eSl_, oN_, oI_, tV_, tE_, tA_, tO_, tN_, eIf_, eAnd_, eOr_, eNot_, eCh_,
  seq_nx, seq_rt, seq_bk, seq_ct, seq_ex, toR_some, toR_none, toT_some, truD_bl, truD_int, truD_tup, tyD_str, tyD_tup, tyD_int, tyD_bl, tyD_non,
  kE_, kR_, kIf_t, kIf_f, kN_, kA_, kIx1_, kIx2_, kIx3_, kE1_, kE21_, kE2_, kB_, kF_, kC1_, kC_, kM1_, kM2_, kM_, kS1_, kS2_, kS3_, kO_, kV_, kT_, kAn_t, kAn_f, kOr_t, kOr_f, kNo_, kIfE_t, kIfE_f, kVa_, kVa2_t, kVa2_f, kVo_, kVo2_t, kVo2_f, kVn_, kVn2_, kH_, kH1_, kH2_t, kH2_f, kH3_,
  List.getElem?_cons_zero, List.getElem?_cons_succ, List.set_cons_zero, List.set_cons_succ, gAdd_int, gAdd_str, gSub_int, gMul_l, gMul_r, gFdiv_int, gMod_int, gLt_int, gLe_int, gGt_int, gGe_int, gInt_int, gAbs_int, gLen_tup, gLen_str, gTpl_, gLsd_,
  Bool.false_eq_true, if_true, if_false, reduceIte, Option.map_some, Option.bind_some, gEq_int, gNe_int, gEq_str, gNe_str, Bool.not_true, Bool.not_false, decide_true, decide_false, List.length_singleton, List.length_cons, List.length_nil, List.map_cons, List.map_nil, Nat.sub_self, List.replicate_zero, List.append_nil, List.cons_append, List.nil_append, List.replicate_succ, Nat.reduceSub, Nat.reduceAdd, Nat.add_zero, Nat.zero_add, tgT_, tgU_, tgL0, tgL1, eTab_, kTab_, sX_, *])
/-! ## atoms -/
def SM : List Nat := ("abcdefghijklmnopqrstuvwxyz0123456789" : Str).cps.toList
structure Base (b : Str) : Prop where
  all : ∀ c ∈ b.cps.toList, c ∈ SM
  fst : ∃ c, b.cps.toList[0]? = some c ∧ c ∈ ("abcdefghijklmnopqrstuvwxyz" : Str).cps.toList
  len : b.length ≤ 8
theorem sm_dot : ∀ c ∈ SM, c ≠ 46 := by decide +kernel
theorem Base.dot {b : Str} (h : Base b) : 46 ∉ b.cps.toList := fun q => sm_dot 46 (h.all 46 q) rfl
theorem Base.ne {b : Str} (h : Base b) : 1 ≤ b.length := by
  obtain ⟨c, hc, _⟩ := h.fst
  have q := (List.getElem?_eq_some_iff.mp hc).1
  show 1 ≤ b.cps.size
  rw [← Array.length_toList]; omega
def atT (b : Str) (m : Int) : Str := if m = 0 then b else b ++ "." ++ (toString m : Str)
theorem dot_ : ("." : Str) = ⟨#[46]⟩ := by decide +kernel
theorem dot_list : ("." : Str).cps.toList = [46] := by decide +kernel
theorem app_list (a b : Str) : (a ++ b).cps.toList = a.cps.toList ++ b.cps.toList := Array.toList_append
theorem app_len (a b : Str) : (a ++ b).length = a.length + b.length := str_app_len a b
theorem dot_len : ("." : Str).length = 1 := by decide +kernel
theorem len_list (a : Str) : a.cps.toList.length = a.length := Array.length_toList
theorem num_len {m : Int} (h0 : 0 ≤ m) (h1 : m ≤ 999999) : (toString m : Str).length ≤ 6 := PyProof.Rows.toString_length_le h0 (by decide) (by omega)
theorem log_small {m : Int} (h0 : 0 ≤ m) (h1 : m ≤ 999999) : m.natAbs.log2 < 1920 := by
  by_cases e : m.natAbs = 0
  · rw [e]; decide
  · have : m.natAbs.log2 < 20 := (Nat.log2_lt e).mpr (by omega)
    omega
theorem gStr_ {m : Int} {S : Store} (h0 : 0 ≤ m) (h1 : m ≤ 999999) : gStr [.int m] S = some (.str (toString m), S) := if_pos ⟨log_small h0 h1, by have := num_len h0 h1; show _ ≤ 16777216; omega⟩
theorem digs (n : Nat) : ∀ c ∈ (Nat.toDigits 10 n).map Char.toNat, c ∈ ("0123456789" : Str).cps.toList := by
  induction n using Nat.strongRecOn with
  | _ n ih =>
    have one : ∀ d : Nat, d < 10 → (Nat.digitChar d).toNat ∈ ("0123456789" : Str).cps.toList := by decide +kernel
    by_cases h : n < 10
    · rw [Nat.toDigits_of_lt_base h]
      intro c hc
      rw [List.mem_singleton.mp hc]
      exact one n h
    · have hm : n % 10 < 10 := Nat.mod_lt n (by decide)
      have t : Nat.toDigits 10 (n / 10) ++ Nat.toDigits 10 (n % 10) = Nat.toDigits 10 (10 * (n / 10) + n % 10) := Nat.toDigits_append_toDigits (by decide) (by omega) hm
      rw [Nat.div_add_mod] at t
      rw [← t, List.map_append, Nat.toDigits_of_lt_base hm]
      intro c hc
      rcases List.mem_append.mp hc with q | q
      · exact ih (n / 10) (by omega) c q
      · rw [List.mem_singleton.mp q]
        exact one _ hm
theorem dig_head (n : Nat) (h0 : 0 < n) : ∃ c, ((Nat.toDigits 10 n).map Char.toNat)[0]? = some c ∧ c ≠ 48 := by
  induction n using Nat.strongRecOn with
  | _ n ih =>
    have one : ∀ d : Nat, d < 10 → 0 < d → (Nat.digitChar d).toNat ≠ 48 := by decide +kernel
    by_cases h : n < 10
    · rw [Nat.toDigits_of_lt_base h]
      exact ⟨_, rfl, one n h h0⟩
    · have hm : n % 10 < 10 := Nat.mod_lt n (by decide)
      have t : Nat.toDigits 10 (n / 10) ++ Nat.toDigits 10 (n % 10) = Nat.toDigits 10 (10 * (n / 10) + n % 10) := Nat.toDigits_append_toDigits (by decide) (by omega) hm
      rw [Nat.div_add_mod] at t
      rw [← t, List.map_append]
      obtain ⟨c, h1, h2⟩ := ih (n / 10) (by omega) (by omega)
      exact ⟨c, by rw [List.getElem?_append_left (List.getElem?_eq_some_iff.mp h1).1]; exact h1, h2⟩
theorem num_list {m : Int} (h0 : 0 ≤ m) : (toString m : Str).cps.toList = (Nat.toDigits 10 m.toNat).map Char.toNat := by
  obtain ⟨n, rfl⟩ := Int.eq_ofNat_of_zero_le h0
  exact PySem.W.KIN.signs_num n
theorem num_dig {m : Int} (h0 : 0 ≤ m) : ∀ c ∈ (toString m : Str).cps.toList, c ∈ ("0123456789" : Str).cps.toList := by rw [num_list h0]; exact digs _
theorem dig_dot : ∀ c ∈ ("0123456789" : Str).cps.toList, c ≠ 46 := by decide +kernel
theorem num_dot {m : Int} (h0 : 0 ≤ m) : 46 ∉ (toString m : Str).cps.toList := fun q => dig_dot 46 (num_dig h0 46 q) rfl
/-- its split at the dot -/
theorem ext_list {a b : Str} (h : a.cps.toList = b.cps.toList) : a = b := by
  cases a; cases b
  exact congrArg Str.mk (Array.toList_inj.mp h)
theorem split_atom {b : Str} {m : Int} (hb : Base b) (h0 : 0 ≤ m) : Txt.split (atT b m) "." = if m = 0 then [b] else [b, (toString m : Str)] := by
  unfold atT
  by_cases e : m = 0
  · rw [if_pos e, if_pos e]
    have q := TL.split_join (y := ".") (s := 46) (S := []) dot_list (by decide +kernel) (parts := [b]) (by simp) (fun p hp => by rw [List.mem_singleton.mp hp]; exact hb.dot)
    rw [show Txt.join "." [b] = b from rfl] at q
    exact q
  · rw [if_neg e, if_neg e]
    have q := TL.split_join (y := ".") (s := 46) (S := []) dot_list (by decide +kernel) (parts := [b, (toString m : Str)]) (by simp) (fun p hp => by
      rcases List.mem_cons.mp hp with rfl | hp
      · exact hb.dot
      · rw [List.mem_singleton.mp hp]; exact num_dot h0)
    rw [show Txt.join "." [b, (toString m : Str)] = b ++ "." ++ (toString m : Str) from ext_list (by
      rw [TL.join_eq]
      have t := TL.tl_join "." [b, (toString m : Str)]
      rw [show (Str.join "." [b, (toString m : Str)]).cps.toList = _ from t, app_list, app_list, dot_list]
      show b.cps.toList ++ (("." : Str).cps.toList ++ (toString m : Str).cps.toList) = _
      rw [dot_list, List.append_assoc])] at q
    exact q
theorem count_atom {b : Str} {m : Int} (hb : Base b) (h0 : 0 < m) : Txt.count (atT b m) "." = 1 := by
  unfold atT
  rw [if_neg (by omega), dot_, PyProof.Rows.count_cnt, app_list, app_list, PyProof.Rows.cnt_append, PyProof.Rows.cnt_append, PyProof.Rows.cnt_none _ _ hb.dot, PyProof.Rows.cnt_none _ _ (num_dot (by omega))]
  show 0 + PyProof.Rows.cnt 46 [46] + 0 = 1
  rw [PyProof.Rows.cnt_cons, PyProof.Rows.cnt_nil]
  simp
theorem nin_str {c : Nat} {s : Str} {S : Store} : gNin (.str ⟨#[c]⟩) (.str s) S = some (.bl (!decide (c ∈ s.cps.toList)), S) := by
  have e : gInB (.str ⟨#[c]⟩) (.str s) S = some (decide (c ∈ s.cps.toList)) := rfl
  unfold gNin
  rw [e]
  rfl
theorem atT_len {b : Str} {m : Int} (hb : Base b) (h0 : 0 ≤ m) (h1 : m ≤ 999999) : (atT b m).length ≤ 15 := by
  unfold atT
  have l1 := num_len h0 h1
  have l2 := hb.len
  have l3 := dot_len
  by_cases e : m = 0
  · rw [if_pos e]; omega
  · rw [if_neg e, app_len, app_len]; omega
theorem str_back (x : Str) : (⟨x.cps.toList.toArray⟩ : Str) = x := by cases x with | mk a => show (⟨a.toList.toArray⟩ : Str) = _; rw [Array.toArray_toList]
theorem chars_comp {x : Str} {s : Str} (hx : ∀ c ∈ x.cps.toList, c ∈ s.cps.toList) (hz : x.length ≤ 1000) {i : Nat} {v0 v1 v2 v3 : Option D} {T : Store} (hi : ([v0, v1, v2, v3] : Dl.Env)[i]? = some (some (.str x))) :
    eLc [3] (iA (eV i)) (.one 3) (tE (Dl.e2 gNin (eV 3) (eC (.str s)))) (eV 3) [v0, v1, v2, v3] T = .ok (.ref T.length) (T ++ [Cell.lst []]) := by
  rw [eLc_ok (iA_str (S' := T) (x := x) (by unfold eV; rw [hi]))]
  have q := runC_all (k := []) (ρ := wipeD [v0, v1, v2, v3] [3]) (l := T.length) (g := .one 3) (ft := tE (Dl.e2 gNin (eV 3) (eC (.str s)))) (fe := eV 3) id (fun d => match d with | .str y => !decide (y.cps.getD 0 0 ∈ s.cps.toList) | _ => true) (x.cps.toList.map fun c => D.str ⟨#[c]⟩) [] T rfl (by rw [List.length_map, len_list]; show 0 + _ ≤ _; omega) (fun S => chk_app S) chk_nil (fun d hd => by
    obtain ⟨c, hc, rfl⟩ := List.mem_map.mp hd
    refine ⟨_, rfl, fun a => ⟨?_, fun _ => rfl⟩⟩
    show tE (Dl.e2 gNin (eV 3) (eC (.str s))) [v0, v1, v2, some (.str ⟨#[c]⟩)] _ = _
    walk_at "ev"
    rw [nin_str]
    walk_at "ev"
    rfl)
  rw [List.filter_eq_nil_iff.mpr (fun d hd => by
    obtain ⟨c, hc, rfl⟩ := List.mem_map.mp hd
    show ¬ (!decide (c ∈ s.cps.toList)) = true
    rw [decide_eq_true (hx c hc)]
    exact Bool.false_ne_true)] at q
  exact q
theorem gSplit_ {t : Str} {ps : List Str} {S : Store} (h : Txt.split t "." = ps) (hl : t.length ≤ 100) (hp : ∀ p ∈ ps, p.length ≤ 100) : gSplit (.str t) [.str "."] S = some (.ref S.length, S ++ [Cell.lst (sts ps)]) := by
  show (if ("." : Str).length ≠ 0 ∧ t.length + 2 ≤ LIM ∧ ((Txt.split t ".").all fun p => decide (p.length ≤ LIM)) = true then some (D.ref S.length, S ++ [Cell.lst ((Txt.split t ".").map .str)]) else none) = _
  rw [h, if_pos ⟨by rw [dot_len]; decide, by show _ ≤ 16777216; omega, List.all_eq_true.mpr fun p q => decide_eq_true (by have := hp p q; show _ ≤ 16777216; omega)⟩]
  rfl
theorem fst_str {x : Str} {c : Nat} {S : Store} (h : x.cps.toList[0]? = some c) : gIx (.str x) (.int 0) S = some (.str ⟨#[c]⟩, S) := gIx_str (atI_nat (j := 0) h)
theorem is_atom_spec {b : Str} {m : Int} (hb : Base b) (h0 : 0 ≤ m) (h1 : m ≤ 999999) (j : Nat) (S : Store) (hS : SOK S) : tab (j + 1) ._law_is_atom [.str (atT b m)] S = .ok (.bl true) S := by
  have tl := atT_len hb h0 h1
  have bl := hb.len
  have bn := hb.ne
  have nl := num_len h0 h1
  obtain ⟨c, hc, hcm⟩ := hb.fst
  have hne : (atT b m == "") = false := beq_eq_false_iff_ne.mpr fun e => by
    have l : (atT b m).length = 0 := by rw [e]; decide +kernel
    unfold atT at l
    by_cases e0 : m = 0
    · rw [if_pos e0] at l; omega
    · rw [if_neg e0, app_len, app_len] at l; omega
  -- the split, its first
  obtain ⟨ps, hps, hp0, hpl⟩ : ∃ ps : List Str, Txt.split (atT b m) "." = ps ∧ (sts ps)[0]? = some (D.str b) ∧ ∀ p ∈ ps, p.length ≤ 100 := by
    rw [split_atom hb h0]
    by_cases e : m = 0
    · rw [if_pos e]; exact ⟨_, rfl, rfl, fun p hp => by rw [List.mem_singleton.mp hp]; omega⟩
    · rw [if_neg e]
      exact ⟨_, rfl, rfl, fun p hp => by
        rcases List.mem_cons.mp hp with rfl | hp
        · omega
        · rw [List.mem_singleton.mp hp]; omega⟩
  have s1 := gSplit_ (S := S) hps (by omega) hpl
  have i1 : gIx (.ref S.length) (.int 0) (S ++ [Cell.lst (sts ps)]) = some (.str b, S ++ [Cell.lst (sts ps)]) := gIx_lst (lstAt_lst get_end) (atI_nat (j := 0) hp0)
  have c1 := chars_comp (x := b) (s := "abcdefghijklmnopqrstuvwxyz0123456789") hb.all (by omega) (i := 1) (v0 := some (.str (atT b m))) (v1 := some (.str b)) (v2 := none) (v3 := none) (T := S ++ [Cell.lst (sts ps)]) rfl
  have g1 : gLen [.ref (S ++ [Cell.lst (sts ps)]).length] (S ++ [Cell.lst (sts ps)] ++ [Cell.lst []]) = some (.int 0, S ++ [Cell.lst (sts ps)] ++ [Cell.lst []]) := by rw [gLen_lst (lstAt_lst get_end)]; rfl
  have d1 : ((b.length : Int) == 0) = false := beq_eq_false_iff_ne.mpr (by omega)
  have d2 : decide ((8 : Int) < (b.length : Int)) = false := decide_eq_false (by omega)
  have fin : ∀ G, b__law_is_atom (tab j) [some (.str (atT b m)), none, none, none] S = .rt (.bl true) (S ++ G) → tab (j + 1) ._law_is_atom [.str (atT b m)] S = .ok (.bl true) S := fun G e =>
    (runB_rt (np := 1) (ns := 4) (ds := [.str (atT b m)]) (g := b__law_is_atom (tab j)) rfl e).trans (cmp_more rfl (hS.wf rfl) rfl)
  by_cases e : m = 0
  · have hte : atT b m = b := by unfold atT; rw [if_pos e]
    refine fin ([Cell.lst (sts ps)] ++ [Cell.lst []]) ?_
    rw [← List.append_assoc]
    unfold b__law_is_atom
    walk_at "ev"
    rw [isi_ss]
    walk_at "ev"
    rw [hne]
    walk_at "ev"
    rw [s1]
    walk_at "ev"
    rw [i1]
    walk_at "ev"
    rw [d1]
    walk_at "ev"
    rw [d2]
    walk_at "ev"
    rw [fst_str hc]
    walk_at "ev"
    rw [nin_str, decide_eq_true hcm]
    walk_at "ev"
    rw [c1]
    walk_at "ev"
    rw [g1]
    walk_at "ev"
    rw [decide_eq_false (show ¬ (0 : Int) < 0 by omega)]
    walk_at "ev"
    rw [hte]
    simp only [beq_self_eq_true]
    walk_at "ev"
  · have hte : atT b m = b ++ "." ++ (toString m : Str) := by unfold atT; rw [if_neg e]
    have hnb : (atT b m == b) = false := beq_eq_false_iff_ne.mpr fun q => by
      have l : (atT b m).length = b.length := by rw [q]
      rw [hte, app_len, app_len, dot_len] at l
      omega
    have nn : 1 ≤ (toString m : Str).length := by
      obtain ⟨c2, q, _⟩ := dig_head m.toNat (by omega)
      rw [← num_list h0] at q
      have := (List.getElem?_eq_some_iff.mp q).1
      rw [len_list] at this
      omega
    obtain ⟨c2, hc2, hn2⟩ := dig_head m.toNat (by omega)
    rw [← num_list h0] at hc2
    have s2 : ∀ S, gSl (.str (atT b m)) (some ((b.length : Int) + 1)) none S = some (.str (toString m : Str), S) := fun S => by
      show some (D.str (cutS (atT b m) (some ((b.length : Int) + 1)) none), S) = _
      have q : cutS (atT b m) (some ((b.length : Int) + 1)) none = (toString m : Str) := ext_list (by
        show ((atT b m).cps.toList.drop (HT.sIx (atT b m).length 0 (some ((b.length : Int) + 1)))).take (HT.sIx (atT b m).length (atT b m).length none - HT.sIx (atT b m).length 0 (some ((b.length : Int) + 1))) = _
        have ex : ((b.length : Int) + 1) = ((b.length + 1 : Nat) : Int) := by omega
        rw [ex, HT.sIx_none, HT.sIx_nat]
        have lt : (atT b m).length = b.length + 1 + (toString m : Str).length := by rw [hte, app_len, app_len, dot_len]
        rw [Nat.min_eq_left (by omega), lt, hte, app_list, app_list, dot_list]
        have lb : (b.cps.toList ++ [46]).length = b.length + 1 := by rw [List.length_append, len_list]; rfl
        rw [← lb, List.drop_left' rfl]
        exact List.take_of_length_le (by rw [len_list]; omega))
      rw [q]
    have c3 := chars_comp (x := (toString m : Str)) (s := "0123456789") (num_dig h0) (by omega) (i := 2) (v0 := some (.str (atT b m))) (v1 := some (.str b)) (v2 := some (.str (toString m : Str))) (v3 := none) (T := S ++ [Cell.lst (sts ps)] ++ [Cell.lst []]) rfl
    have g3 : gLen [.ref (S ++ [Cell.lst (sts ps)] ++ [Cell.lst []]).length] (S ++ [Cell.lst (sts ps)] ++ [Cell.lst []] ++ [Cell.lst []]) = some (.int 0, S ++ [Cell.lst (sts ps)] ++ [Cell.lst []] ++ [Cell.lst []]) := by rw [gLen_lst (lstAt_lst get_end)]; rfl
    have ct : ∀ S, gCountS (.str (atT b m)) [.str "."] S = some (.int 1, S) := fun S => by
      show some (D.int (Txt.count (atT b m) "."), S) = _
      rw [count_atom hb (by omega)]
    refine fin ([Cell.lst (sts ps)] ++ [Cell.lst []] ++ [Cell.lst []]) ?_
    rw [← List.append_assoc, ← List.append_assoc]
    unfold b__law_is_atom
    walk_at "ev"
    rw [isi_ss]
    walk_at "ev"
    rw [hne]
    walk_at "ev"
    rw [s1]
    walk_at "ev"
    rw [i1]
    walk_at "ev"
    rw [d1]
    walk_at "ev"
    rw [d2]
    walk_at "ev"
    rw [fst_str hc]
    walk_at "ev"
    rw [nin_str, decide_eq_true hcm]
    walk_at "ev"
    rw [c1]
    walk_at "ev"
    rw [g1]
    walk_at "ev"
    rw [decide_eq_false (show ¬ (0 : Int) < 0 by omega)]
    walk_at "ev"
    rw [hnb]
    walk_at "ev"
    rw [s2]
    walk_at "ev"
    rw [ct]
    walk_at "ev"
    simp only [beq_self_eq_true, Bool.not_true]
    walk_at "ev"
    rw [beq_eq_false_iff_ne.mpr (show (((toString m : Str).length : Nat) : Int) ≠ 0 by omega)]
    walk_at "ev"
    rw [decide_eq_false (show ¬ (6 : Int) < (((toString m : Str).length : Nat) : Int) by omega)]
    walk_at "ev"
    rw [fst_str hc2]
    walk_at "ev"
    rw [show ((⟨#[c2]⟩ : Str) == "0") = false from beq_eq_false_iff_ne.mpr fun q => hn2 (by
      have q' : (⟨#[c2]⟩ : Str).cps.toList = ("0" : Str).cps.toList := by rw [q]
      rw [show ("0" : Str).cps.toList = [48] by decide +kernel] at q'
      exact List.head_eq_of_cons_eq q')]
    walk_at "ev"
    rw [c3]
    walk_at "ev"
    rw [g3]
    walk_at "ev"
    rfl
theorem good_at {b : Str} {m : Int} (hb : Base b) (h0 : 0 ≤ m) (h1 : m ≤ 999999) : GoodT (atT b m) := by
  refine ⟨fun j S hS => is_atom_spec hb h0 h1 j S hS, fun hs => ?_, by have := atT_len hb h0 h1; omega⟩
  obtain ⟨c, hc, hcm⟩ := hb.fst
  have h : (atT b m).cps.toList[0]? = some c := by
    unfold atT
    split
    · exact hc
    · rw [app_list, app_list, List.append_assoc, List.getElem?_append_left (List.getElem?_eq_some_iff.mp hc).1]
      exact hc
  rcases hs with q | q | q
  · rw [q, show ("/" : Str).cps.toList = [47] by decide +kernel] at h
    cases h
    exact absurd hcm (by decide +kernel)
  · rw [q, show (">" : Str).cps.toList = [62] by decide +kernel] at h
    cases h
    exact absurd hcm (by decide +kernel)
  · rw [q, show ("*" : Str).cps.toList = [42] by decide +kernel] at h
    cases h
    exact absurd hcm (by decide +kernel)
end Lw

set_option Elab.async false
set_option linter.all false
set_option maxRecDepth 100000
namespace Lw
open PySem L2 Dl
local macro_rules | `(tactic| walk_at "ev") => `(tactic| simp (disch := first | omega | assumption | (simp only [List.length_cons, List.length_nil]; omega) | (simp only [List.length_cons, List.length_nil])) only [sQ_, sP_, sE_, sR_, sIf_, sN_, sA_, tgO_nx, nm_, tgIx_, eC_, eV0, eV1, e1_, e2_, eB_, eF_, aN_, aC_, eMt_, eSl_, oN_, oI_, tV_, tE_, tA_, tO_, tN_, eIf_, eAnd_, eOr_, eNot_, eCh_,
  seq_nx, seq_rt, seq_bk, seq_ct, seq_ex, toR_some, toR_none, toT_some, truD_bl, truD_int, truD_tup, tyD_str, tyD_tup, tyD_int, tyD_bl, tyD_non,
  kE_, kR_, kIf_t, kIf_f, kN_, kA_, kIx1_, kIx2_, kIx3_, kE1_, kE21_, kE2_, kB_, kF_, kC1_, kC_, kM1_, kM2_, kM_, kS1_, kS2_, kS3_, kO_, kV_, kT_, kAn_t, kAn_f, kOr_t, kOr_f, kNo_, kIfE_t, kIfE_f, kVa_, kVa2_t, kVa2_f, kVo_, kVo2_t, kVo2_f, kVn_, kVn2_, kH_, kH1_, kH2_t, kH2_f, kH3_,
  List.getElem?_cons_zero, List.getElem?_cons_succ, List.set_cons_zero, List.set_cons_succ, gAdd_int, gAdd_str, gSub_int, gMul_l, gMul_r, gFdiv_int, gMod_int, gLt_int, gLe_int, gGt_int, gGe_int, gInt_int, gAbs_int, gLen_tup, gLen_str, gTpl_, gLsd_,
  Bool.false_eq_true, if_true, if_false, reduceIte, Option.map_some, Option.bind_some, gEq_int, gNe_int, gEq_str, gNe_str, Bool.not_true, Bool.not_false, decide_true, decide_false, List.length_singleton, List.length_cons, List.length_nil, List.map_cons, List.map_nil, Nat.sub_self, List.replicate_zero, List.append_nil, List.cons_append, List.nil_append, List.replicate_succ, Nat.reduceSub, Nat.reduceAdd, Nat.add_zero, Nat.zero_add, tgT_, tgU_, tgL0, tgL1, eTab_, kTab_, sX_])
local macro_rules | `(tactic| walk_at "evs") => `(tactic| simp (disch := first | omega | assumption | (simp only [List.length_cons, List.length_nil]; omega) | (simp only [List.length_cons, List.length_nil])) only [sQ_, sP_, sE_, sR_, sIf_, sN_, sA_, tgO_nx, nm_, tgIx_, eC_, eV0, eV1, e1_, e2_, eB_, eF_, aN_, aC_, eMt_, eSl_, oN_, oI_, tV_, tE_, tA_, tO_, tN_, eIf_, eAnd_, eOr_, eNot_, eCh_,
  seq_nx, seq_rt, seq_bk, seq_ct, seq_ex, toR_some, toR_none, toT_some, truD_bl, truD_int, truD_tup, tyD_str, tyD_tup, tyD_int, tyD_bl, tyD_non,
  kE_, kR_, kIf_t, kIf_f, kN_, kA_, kIx1_, kIx2_, kIx3_, kE1_, kE21_, kE2_, kB_, kF_, kC1_, kC_, kM1_, kM2_, kM_, kS1_, kS2_, kS3_, kO_, kV_, kT_, kAn_t, kAn_f, kOr_t, kOr_f, kNo_, kIfE_t, kIfE_f, kVa_, kVa2_t, kVa2_f, kVo_, kVo2_t, kVo2_f, kVn_, kVn2_, kH_, kH1_, kH2_t, kH2_f, kH3_,
  List.getElem?_cons_zero, List.getElem?_cons_succ, List.set_cons_zero, List.set_cons_succ, gAdd_int, gAdd_str, gSub_int, gMul_l, gMul_r, gFdiv_int, gMod_int, gLt_int, gLe_int, gGt_int, gGe_int, gInt_int, gAbs_int, gLen_tup, gLen_str, gTpl_, gLsd_,
  Bool.false_eq_true, if_true, if_false, reduceIte, Option.map_some, Option.bind_some, gEq_int, gNe_int, gEq_str, gNe_str, Bool.not_true, Bool.not_false, decide_true, decide_false, List.length_singleton, List.length_cons, List.length_nil, List.map_cons, List.map_nil, Nat.sub_self, List.replicate_zero, List.append_nil, List.cons_append, List.nil_append, List.replicate_succ, Nat.reduceSub, Nat.reduceAdd, Nat.add_zero, Nat.zero_add, tgT_, tgU_, tgL0, tgL1, eTab_, kTab_, sX_, *])
/-! ## an atom drawn -/
theorem sm_len : ("abcdefghijklmnopqrstuvwxyz0123456789" : Str).cps.toList.length = 36 := by decide +kernel
theorem small_at : ∀ i : Nat, i < 26 → ∃ c, ("abcdefghijklmnopqrstuvwxyz0123456789" : Str).cps.toList[i]? = some c ∧ c ∈ ("abcdefghijklmnopqrstuvwxyz" : Str).cps.toList ∧ c ∈ SM := by
  have h : ∀ i : Nat, i < 26 → (("abcdefghijklmnopqrstuvwxyz0123456789" : Str).cps.toList[i]?.any fun c => decide (c ∈ ("abcdefghijklmnopqrstuvwxyz" : Str).cps.toList) && decide (c ∈ SM)) = true := by decide +kernel
  intro i hi
  have q := h i hi
  cases e : ("abcdefghijklmnopqrstuvwxyz0123456789" : Str).cps.toList[i]? with
  | none => rw [e] at q; exact nomatch q
  | some c =>
    rw [e] at q
    have q' : (decide (c ∈ ("abcdefghijklmnopqrstuvwxyz" : Str).cps.toList) && decide (c ∈ SM)) = true := q
    rw [Bool.and_eq_true] at q'
    exact ⟨c, rfl, of_decide_eq_true q'.1, of_decide_eq_true q'.2⟩
theorem atom_loop (n : Nat) {p : Nat} : ∀ (r : Nat) (lo : Int) {N : Nat} {T : Store} {P : List D} {b : Str} {x : Option D} (h : T[p]? = some (Cell.lst P)) (hp : Pool N P) (hN : N + r ≤ 1000000) (ha : ∀ c ∈ b.cps.toList, c ∈ SM) (hf : ∃ c, b.cps.toList[0]? = some c ∧ c ∈ ("abcdefghijklmnopqrstuvwxyz" : Str).cps.toList) (hl : b.length + r ≤ 8),
    ∃ b' P' x', Base b' ∧ Pool (N + r) P' ∧ runF (nm 3) (sN 2 (Dl.e2 gAdd (eV 2) (Dl.e2 gIx (eV 1) (eF (tab (n + 2) ._law_draw) (aC (eV 0) (aC (eC (.int 36)) aN)))))) [] (rng lo r)
      [some (.ref p), some (.str "abcdefghijklmnopqrstuvwxyz0123456789"), some (.str b), x, none] T = .nx [some (.ref p), some (.str "abcdefghijklmnopqrstuvwxyz0123456789"), some (.str b'), x', none] (T.set p (Cell.lst P'))
  | 0, lo, N, T, P, b, x, h, hp, hN, ha, hf, hl => ⟨b, P, x, ⟨ha, hf, hl⟩, hp, by rw [set_self h]; exact runF_nil chk_nil⟩
  | r + 1, lo, N, T, P, b, x, h, hp, hN, ha, hf, hl => by
    obtain ⟨d, P1, hp1, d0, d1, e1⟩ := draw_spec n h hp (by omega) (many := 36) (by decide) (by decide)
    obtain ⟨c, hc, hm⟩ := atI_in (xs := ("abcdefghijklmnopqrstuvwxyz0123456789" : Str).cps.toList) d0 (by rw [sm_len]; exact d1)
    have gx : gIx (.str "abcdefghijklmnopqrstuvwxyz0123456789") (.int d) (T.set p (Cell.lst P1)) = some (.str ⟨#[c]⟩, T.set p (Cell.lst P1)) := gIx_str hc
    have c2 : (⟨#[c]⟩ : Str).length = 1 := rfl
    obtain ⟨b', P', x', q1, q2, q3⟩ := atom_loop n r (lo + 1) (b := b ++ ⟨#[c]⟩) (x := some (.int lo)) (get_set h (d := .lst P1)) hp1 (by omega) (by
      rw [app_list]
      intro y hy
      rcases List.mem_append.mp hy with q | q
      · exact ha y q
      · rw [List.mem_singleton.mp (show y ∈ [c] from q)]; exact hm) (by
      obtain ⟨f, hf1, hf2⟩ := hf
      exact ⟨f, by rw [app_list, List.getElem?_append_left (List.getElem?_eq_some_iff.mp hf1).1]; exact hf1, hf2⟩) (by rw [app_len, c2]; omega)
    refine ⟨b', P', x', q1, by rw [show N + (r + 1) = N + 1 + r by omega]; exact q2, ?_⟩
    rw [rng_succ, runF_cons chk_nil (ρ1 := [some (.ref p), some (.str "abcdefghijklmnopqrstuvwxyz0123456789"), some (.str b), some (.int lo), none]) (S1 := T) (ρ2 := [some (.ref p), some (.str "abcdefghijklmnopqrstuvwxyz0123456789"), some (.str (b ++ ⟨#[c]⟩)), some (.int lo), none]) (S2 := T.set p (Cell.lst P1)) rfl ?_, q3, List.set_set]
    walk_at "ev"
    rw [e1]
    walk_at "ev"
    rw [gx]
    walk_at "ev"
theorem seven : ∀ x ∈ [D.int 0, .int 0, .int 1, .int 7, .int 0, .int 2, .int 3, .int 5, .int 4, .int 6], ∃ k : Int, x = .int k ∧ 0 ≤ k ∧ k ≤ 7 := by
  intro x hx
  simp only [List.mem_cons, List.not_mem_nil, or_false] at hx
  rcases hx with h | h | h | h | h | h | h | h | h | h <;> exact ⟨_, h, by decide, by decide⟩
theorem dotted {b : Str} {m : Int} (hb : Base b) (h0 : 0 < m) (h1 : m ≤ 999999) : gStr [.int m] S = some (.str (toString m), S) ∧ gAdd (.str b) (.str ".") S = some (.str (b ++ "."), S) ∧ gAdd (.str (b ++ ".")) (.str (toString m)) S = some (.str (atT b m), S) := by
  have l1 := num_len (by omega) h1
  have l2 := app_len b "."
  have l3 := dot_len
  have l4 := hb.len
  refine ⟨gStr_ (by omega) h1, gAdd_str (by omega), ?_⟩
  rw [gAdd_str (by omega)]
  unfold atT
  rw [if_neg (by omega)]
theorem atom_spec (n : Nat) {N p : Nat} {T : Store} {P : List D} (h : T[p]? = some (Cell.lst P)) (hp : Pool N P) (hN : N + 20 ≤ 1000000) (hT : SOK T) :
    ∃ b m P', Pool (N + 20) P' ∧ Base b ∧ 0 ≤ m ∧ m ≤ 999999 ∧ tab (n + 3) ._law_atom [.ref p] T = .ok (.str (atT b m)) (T.set p (Cell.lst P')) := by
  obtain ⟨d1, P1, hp1, a1, b1, e1⟩ := draw_spec n h hp (by omega) (many := 26) (by decide) (by decide)
  obtain ⟨c, hc, hcs, hcm⟩ := small_at d1.toNat (by omega)
  have g1 : gIx (.str "abcdefghijklmnopqrstuvwxyz0123456789") (.int d1) (T.set p (Cell.lst P1)) = some (.str ⟨#[c]⟩, T.set p (Cell.lst P1)) := gIx_str (atI_of a1 hc)
  have h1 : (T.set p (Cell.lst P1))[p]? = some (Cell.lst P1) := get_set h
  generalize hL : [D.int 0, .int 0, .int 1, .int 7, .int 0, .int 2, .int 3, .int 5, .int 4, .int 6] = L
  have L7 : ∀ x ∈ L, ∃ k : Int, x = .int k ∧ 0 ≤ k ∧ k ≤ 7 := by rw [← hL]; exact seven
  have Ll : L.length = 10 := by rw [← hL]; rfl
  obtain ⟨d2, P2, hp2, a2, b2, e2⟩ := draw_spec n (get_app h1 (T := [Cell.lst L])) hp1 (by omega) (many := 10) (by decide) (by decide)
  obtain ⟨x, hx, hxm⟩ := atI_in (xs := L) a2 (by rw [Ll]; exact b2)
  obtain ⟨r, rfl, r0, r7⟩ := L7 x hxm
  have s2 : (T.set p (Cell.lst P1) ++ [Cell.lst L]).set p (Cell.lst P2) = T.set p (Cell.lst P2) ++ [Cell.lst L] := by rw [set_app h1, List.set_set]
  rw [s2] at e2
  have tl : (T.set p (Cell.lst P1)).length = (T.set p (Cell.lst P2)).length := by rw [List.length_set, List.length_set]
  have g2 : gIx (.ref (T.set p (Cell.lst P1)).length) (.int d2) (T.set p (Cell.lst P2) ++ [Cell.lst L]) = some (.int r, T.set p (Cell.lst P2) ++ [Cell.lst L]) := gIx_lst (lstAt_lst (by rw [tl]; exact get_end)) hx
  have h2 : (T.set p (Cell.lst P2) ++ [Cell.lst L])[p]? = some (Cell.lst P2) := get_app (get_set h)
  obtain ⟨b, P3, x3, hb, hp3, e3⟩ := atom_loop n r.toNat 0 (b := ⟨#[c]⟩) (x := none) h2 hp2 (by omega) (fun y hy => by rw [List.mem_singleton.mp (show y ∈ [c] from hy)]; exact hcm) ⟨c, rfl, hcs⟩ (by show 1 + _ ≤ 8; omega)
  have s3 : (T.set p (Cell.lst P2) ++ [Cell.lst L]).set p (Cell.lst P3) = T.set p (Cell.lst P3) ++ [Cell.lst L] := by rw [set_app (get_set h), List.set_set]
  rw [s3] at e3
  have h3 : (T.set p (Cell.lst P3) ++ [Cell.lst L])[p]? = some (Cell.lst P3) := get_app (get_set h)
  obtain ⟨w, P4, hp4, w0, w4, e4⟩ := draw_spec n h3 hp3 (by omega) (many := 4) (by decide) (by decide)
  have st : ∀ Q, (T.set p (Cell.lst P3) ++ [Cell.lst L]).set p (Cell.lst Q) = T.set p (Cell.lst Q) ++ [Cell.lst L] := fun Q => by rw [set_app (get_set h), List.set_set]
  rw [st] at e4
  have h4 : (T.set p (Cell.lst P4) ++ [Cell.lst L])[p]? = some (Cell.lst P4) := get_app (get_set h)
  have st4 : ∀ Q, (T.set p (Cell.lst P4) ++ [Cell.lst L]).set p (Cell.lst Q) = T.set p (Cell.lst Q) ++ [Cell.lst L] := fun Q => by rw [set_app (get_set h), List.set_set]
  have fin : ∀ {m : Int} {Q : List D}, Pool (N + 20) Q → b__law_atom (tab (n + 2)) [some (.ref p), none, none, none, none] T = .rt (.str (atT b m)) (T.set p (Cell.lst Q) ++ [Cell.lst L]) →
      tab (n + 3) ._law_atom [.ref p] T = .ok (.str (atT b m)) (T.set p (Cell.lst Q)) := fun {m Q} hq e =>
    (runB_rt (np := 1) (ns := 5) (ds := [.ref p]) (g := b__law_atom (tab (n + 2))) rfl e).trans (cmp_more (by rw [List.length_set]) ((hT.set (c := Cell.lst Q) hq.flat).wf (by rw [List.length_set])) rfl)
  have start : ∀ o, (sQ (sIf (tE (Dl.e2 gEq (eV 4) (eC (.int 2)))) (sR (Dl.e2 gAdd (Dl.e2 gAdd (eV 2) (eC (.str "."))) (eB gStr (aC (Dl.e2 gAdd (eC (.int 1)) (eF (tab (n + 2) ._law_draw) (aC (eV 0) (aC (eC (.int 20)) aN)))) aN)))) sP)
      (sQ (sIf (tE (Dl.e2 gEq (eV 4) (eC (.int 3)))) (sR (Dl.e2 gAdd (Dl.e2 gAdd (eV 2) (eC (.str "."))) (eB gStr (aC (Dl.e2 gAdd (eC (.int 1)) (eF (tab (n + 2) ._law_draw) (aC (eV 0) (aC (eC (.int 999999)) aN)))) aN)))) sP)
        (sR (eV 2)))) [some (.ref p), some (.str "abcdefghijklmnopqrstuvwxyz0123456789"), some (.str b), x3, some (.int w)] (T.set p (Cell.lst P4) ++ [Cell.lst L]) = o → b__law_atom (tab (n + 2)) [some (.ref p), none, none, none, none] T = o := by
    intro o ho
    unfold b__law_atom
    refine seq_step (ρ' := [some (.ref p), some (.str "abcdefghijklmnopqrstuvwxyz0123456789"), none, none, none]) (S' := T) (by walk_at "ev") ?_
    refine seq_step (ρ' := [some (.ref p), some (.str "abcdefghijklmnopqrstuvwxyz0123456789"), some (.str ⟨#[c]⟩), none, none]) (S' := T.set p (Cell.lst P1)) (by walk_at "ev"; rw [e1]; walk_at "ev"; rw [g1]; walk_at "ev") ?_
    refine seq_step (ρ' := [some (.ref p), some (.str "abcdefghijklmnopqrstuvwxyz0123456789"), some (.str b), x3, none]) (S' := T.set p (Cell.lst P3) ++ [Cell.lst L]) ?_ ?_
    · have i1 : iR1 (Dl.e2 gIx (eB gLsd (aC (eC (.int 0)) (aC (eC (.int 0)) (aC (eC (.int 1)) (aC (eC (.int 7)) (aC (eC (.int 0)) (aC (eC (.int 2)) (aC (eC (.int 3)) (aC (eC (.int 5)) (aC (eC (.int 4)) (aC (eC (.int 6)) aN))))))))))) (eF (tab (n + 2) ._law_draw) (aC (eV 0) (aC (eC (.int 10)) aN))))
          [some (.ref p), some (.str "abcdefghijklmnopqrstuvwxyz0123456789"), some (.str ⟨#[c]⟩), none, none] (T.set p (Cell.lst P1)) = .ok (rng 0 r.toNat, []) (T.set p (Cell.lst P2) ++ [Cell.lst L]) := by
        refine iR1_ok ?_ r0 (by omega)
        walk_at "ev"
        rw [hL, e2]
        walk_at "ev"
        rw [g2]
        walk_at "ev"
      rw [sF_ok i1]
      exact e3
    refine seq_step (ρ' := [some (.ref p), some (.str "abcdefghijklmnopqrstuvwxyz0123456789"), some (.str b), x3, some (.int w)]) (S' := T.set p (Cell.lst P4) ++ [Cell.lst L]) (by walk_at "ev"; rw [e4]; walk_at "ev") ?_
    exact ho
  by_cases hw2 : w = 2
  · obtain ⟨m, P5, hp5, m0, m1, e5⟩ := draw_spec n h4 hp4 (by omega) (many := 20) (by decide) (by decide)
    rw [st4] at e5
    have q5 : Pool (N + 20) P5 := hp5.mono (by omega)
    refine ⟨b, 1 + m, P5, q5, hb, by omega, by omega, fin q5 (start _ ?_)⟩
    subst hw2
    obtain ⟨t1, t2, t3⟩ := dotted hb (m := 1 + m) (by omega) (by omega) (S := T.set p (Cell.lst P5) ++ [Cell.lst L])
    obtain ⟨_, t4, _⟩ := dotted hb (m := 1 + m) (by omega) (by omega) (S := T.set p (Cell.lst P4) ++ [Cell.lst L])
    have l2 := app_len b "."
    have l3 := dot_len
    have l4 := hb.len
    walk_at "ev"
    simp only [beq_self_eq_true, kIf_t]
    walk_at "ev"
    rw [e5]
    walk_at "ev"
    rw [t1]
    walk_at "ev"
    rw [t3]
    walk_at "ev"
  · have e2' : (w == 2) = false := beq_eq_false_iff_ne.mpr hw2
    by_cases hw3 : w = 3
    · obtain ⟨m, P5, hp5, m0, m1, e5⟩ := draw_spec n h4 hp4 (by omega) (many := 999999) (by decide) (by decide)
      rw [st4] at e5
      have q5 : Pool (N + 20) P5 := hp5.mono (by omega)
      refine ⟨b, 1 + m, P5, q5, hb, by omega, by omega, fin q5 (start _ ?_)⟩
      subst hw3
      obtain ⟨t1, t2, t3⟩ := dotted hb (m := 1 + m) (by omega) (by omega) (S := T.set p (Cell.lst P5) ++ [Cell.lst L])
      have l2 := app_len b "."
      have l3 := dot_len
      have l4 := hb.len
      walk_at "ev"
      rw [e2']
      walk_at "ev"
      simp only [beq_self_eq_true, kIf_t]
      walk_at "ev"
      rw [e5]
      walk_at "ev"
      rw [t1]
      walk_at "ev"
      rw [t3]
      walk_at "ev"
    · have e3' : (w == 3) = false := beq_eq_false_iff_ne.mpr hw3
      have q5 : Pool (N + 20) P4 := hp4.mono (by omega)
      refine ⟨b, 0, P4, q5, hb, by omega, by omega, fin q5 (start _ ?_)⟩
      walk_at "ev"
      rw [e2']
      walk_at "ev"
      rw [e3']
      walk_at "ev"
      rfl
/-! ## the lot: four atoms -/
def AtS (t : Str) : Prop := ∃ b m, t = atT b m ∧ Base b ∧ 0 ≤ m ∧ m ≤ 999999
theorem AtS.good {t : Str} (h : AtS t) : GoodT t := by obtain ⟨b, m, rfl, hb, h0, h1⟩ := h; exact good_at hb h0 h1
theorem base_at {b : Str} (hb : Base b) : AtS b := ⟨b, 0, by unfold atT; rw [if_pos rfl], hb, by decide, by decide⟩
theorem near_base {b : Str} (hb : Base b) {c : Nat} (hc : c ∈ SM) : Base (cutS b none (some 7) ++ ⟨#[c]⟩) := by
  have e : (cutS b none (some 7)).cps.toList = b.cps.toList.take 7 := by
    show ((b.cps.toList.drop (HT.sIx b.length 0 none)).take (HT.sIx b.length b.length (some ((7 : Nat) : Int)) - HT.sIx b.length 0 none)) = _
    rw [HT.sIx_none, HT.sIx_nat, List.drop_zero, Nat.sub_zero, ← len_list]
    by_cases h : 7 ≤ b.cps.toList.length
    · rw [Nat.min_eq_left h]
    · rw [Nat.min_eq_right (by omega), List.take_of_length_le (Nat.le_refl _), List.take_of_length_le (by omega)]
  obtain ⟨f, hf1, hf2⟩ := hb.fst
  refine ⟨fun y hy => ?_, ⟨f, ?_, hf2⟩, ?_⟩
  · rw [app_list, e] at hy
    rcases List.mem_append.mp hy with q | q
    · exact hb.all y (List.mem_of_mem_take q)
    · rw [List.mem_singleton.mp (show y ∈ [c] from q)]; exact hc
  · have l := (List.getElem?_eq_some_iff.mp hf1).1
    rw [app_list, e, List.getElem?_append_left (by rw [List.length_take]; omega), List.getElem?_take_of_lt (by decide)]
    exact hf1
  · rw [app_len, ← len_list, e, List.length_take]
    show _ + 1 ≤ 8
    omega
theorem nodot {b : Str} (hb : Base b) : atT b 0 = b := by unfold atT; rw [if_pos rfl]
theorem int_num {m : Int} (h0 : 0 ≤ m) (h1 : m ≤ 999999) (S : Store) : gInt [.str (toString m : Str)] S = some (.int m, S) := by
  show (if (toString m : Str).length ≤ 640 then (PySem.intText? (toString m : Str)).map _ else none) = _
  have l := num_len h0 h1
  rw [if_pos (by omega), show PySem.intText? (toString m : Str) = some m from PySem.W.KIN.num_reads (n := m) (by omega) (by omega)]
  rfl
theorem lot_spec (n : Nat) {N p : Nat} {T : Store} {P : List D} (h : T[p]? = some (Cell.lst P)) (hp : Pool N P) (hN : N + 100 ≤ 1000000) (hT : SOK T) :
    ∃ ts P', Pool (N + 100) P' ∧ ts.length = 4 ∧ (∀ t ∈ ts, AtS t) ∧ tab (n + 4) ._law_lot [.ref p] T = .ok (.ref T.length) (T.set p (Cell.lst P') ++ [Cell.lst (sts ts)]) := by
  obtain ⟨b, m, P1, hp1, hb, m0, m1, e1⟩ := atom_spec n h hp (by omega) hT
  have h1 : (T.set p (Cell.lst P1))[p]? = some (Cell.lst P1) := get_set h
  have T1 := hT.set (i := p) (c := Cell.lst P1) hp1.flat
  have tl := atT_len hb m0 m1
  have bl := hb.len
  have nl := num_len m0 m1
  -- parts
  obtain ⟨ps, hps, hp0, hp1', hpl⟩ : ∃ ps : List Str, Txt.split (atT b m) "." = ps ∧ (sts (ps ++ [("0" : Str)]))[0]? = some (D.str b) ∧ (sts (ps ++ [("0" : Str)]))[1]? = some (D.str (toString m : Str)) ∧ ps.length ≤ 2 ∧ ∀ p ∈ ps, p.length ≤ 100 := by
    rw [split_atom hb m0]
    by_cases e : m = 0
    · rw [if_pos e]
      subst e
      exact ⟨_, rfl, rfl, rfl, by show 1 ≤ 2; decide, fun p hp => by rw [List.mem_singleton.mp hp]; omega⟩
    · rw [if_neg e]
      exact ⟨_, rfl, rfl, rfl, Nat.le_refl 2, fun p hp => by
        rcases List.mem_cons.mp hp with rfl | hp
        · omega
        · rw [List.mem_singleton.mp hp]; omega⟩
  obtain ⟨hpl, hpl2⟩ := hpl
  have s1 := gSplit_ (S := T.set p (Cell.lst P1)) hps (by omega) hpl2
  have s2 := gAdd_lst (S := T.set p (Cell.lst P1) ++ [Cell.lst (sts ps)] ++ [Cell.lst [.str "0"]]) (l := (T.set p (Cell.lst P1)).length) (k := (T.set p (Cell.lst P1) ++ [Cell.lst (sts ps)]).length) (xs := sts ps) (ys := sts [("0" : Str)]) (get_app get_end) get_end (by rw [sts_len, sts_len]; show _ + 1 ≤ _; omega)
  rw [← sts_app] at s2
  have eG : T.set p (Cell.lst P1) ++ [Cell.lst (sts ps)] ++ [Cell.lst [.str "0"]] ++ [Cell.lst (sts (ps ++ [("0" : Str)]))] = T.set p (Cell.lst P1) ++ [Cell.lst (sts ps), Cell.lst [.str "0"], Cell.lst (sts (ps ++ [("0" : Str)]))] := by simp
  have hl : (T.set p (Cell.lst P1) ++ [Cell.lst (sts ps), Cell.lst [.str "0"], Cell.lst (sts (ps ++ [("0" : Str)]))])[(T.set p (Cell.lst P1) ++ [Cell.lst (sts ps)] ++ [Cell.lst [.str "0"]]).length]? = some (Cell.lst (sts (ps ++ [("0" : Str)]))) := by rw [← eG]; exact get_end
  have Gf : ∀ y ∈ [Cell.lst (sts ps), Cell.lst [.str "0"], Cell.lst (sts (ps ++ [("0" : Str)]))], Cell.flat y = true := fun y hy => by
    rcases List.mem_cons.mp hy with rfl | hy
    · exact sts_flat _
    rcases List.mem_cons.mp hy with rfl | hy
    · rfl
    · rw [List.mem_singleton.mp hy]; exact sts_flat _
  rw [eG] at s2
  generalize hA : (T.set p (Cell.lst P1) ++ [Cell.lst (sts ps)] ++ [Cell.lst [.str "0"]]).length = la at *
  generalize hG : [Cell.lst (sts ps), Cell.lst [.str "0"], Cell.lst (sts (ps ++ [("0" : Str)]))] = G at *
  have st : ∀ Q R, (T.set p (Cell.lst Q) ++ G).set p (Cell.lst R) = T.set p (Cell.lst R) ++ G := fun Q R => by rw [set_app (get_set h), List.set_set]
  have hg : ∀ Q, (T.set p (Cell.lst Q) ++ G)[p]? = some (Cell.lst Q) := fun Q => get_app (get_set h)
  have k0 : 0 ≤ m % 999999 := Int.emod_nonneg _ (by decide)
  have k1 : m % 999999 < 999999 := Int.emod_lt_of_pos _ (by decide)
  have l2 := app_len b "."
  have l3 := dot_len
  obtain ⟨t1, t2, t3⟩ := dotted hb (m := m % 999999 + 1) (by omega) (by omega) (S := T.set p (Cell.lst P1) ++ G)
  -- the twin
  obtain ⟨tw, P2, hp2, htw, e2⟩ : ∃ tw P2, Pool (N + 21) P2 ∧ AtS tw ∧ sIf (tA (tE (Dl.e2 gGt (eV 4) (eC (.int 0)))) (tE (Dl.e2 gEq (eF (tab (n + 3) ._law_draw) (aC (eV 0) (aC (eC (.int 2)) aN))) (eC (.int 0))))) (sN 5 (eV 3)) sP
      [some (.ref p), some (.str (atT b m)), some (.ref la), some (.str b), some (.int m), some (.str (atT b (m % 999999 + 1))), none] (T.set p (Cell.lst P1) ++ G) = .nx [some (.ref p), some (.str (atT b m)), some (.ref la), some (.str b), some (.int m), some (.str tw), none] (T.set p (Cell.lst P2) ++ G) := by
    by_cases hm : 0 < m
    · obtain ⟨d, Q, hq, d0, d1, e⟩ := draw_spec (n + 1) (hg P1) hp1 (by omega) (many := 2) (by decide) (by decide)
      rw [st] at e
      by_cases hd : d = 0
      · subst hd
        refine ⟨b, Q, hq, base_at hb, ?_⟩
        walk_at "ev"
        rw [decide_eq_true hm]
        walk_at "ev"
        rw [e]
        walk_at "ev"
        simp only [beq_self_eq_true, kIf_t]
        walk_at "ev"
      · refine ⟨atT b (m % 999999 + 1), Q, hq, ⟨b, m % 999999 + 1, rfl, hb, by omega, by omega⟩, ?_⟩
        walk_at "ev"
        rw [decide_eq_true hm]
        walk_at "ev"
        rw [e]
        walk_at "ev"
        rw [beq_eq_false_iff_ne.mpr hd]
        walk_at "ev"
    · refine ⟨atT b (m % 999999 + 1), P1, hp1.mono (by omega), ⟨b, m % 999999 + 1, rfl, hb, by omega, by omega⟩, ?_⟩
      walk_at "ev"
      rw [decide_eq_false hm]
      walk_at "ev"
  -- near
  obtain ⟨d3, P3, hp3, a3, b3, e3⟩ := draw_spec (n + 1) (hg P2) hp2 (by omega) (many := 36) (by decide) (by decide)
  rw [st] at e3
  obtain ⟨c, hc, hcm⟩ := atI_in (xs := ("abcdefghijklmnopqrstuvwxyz0123456789" : Str).cps.toList) a3 (by rw [sm_len]; exact b3)
  have hnb := near_base hb hcm
  have cl : (cutS b none (some 7)).length ≤ b.length := cutS_le ..
  have c1 : (⟨#[c]⟩ : Str).length = 1 := rfl
  have gc : gIx (.str "abcdefghijklmnopqrstuvwxyz0123456789") (.int d3) (T.set p (Cell.lst P3) ++ G) = some (.str ⟨#[c]⟩, T.set p (Cell.lst P3) ++ G) := gIx_str hc
  have gs : gSl (.str b) none (some 7) (T.set p (Cell.lst P2) ++ G) = some (.str (cutS b none (some 7)), T.set p (Cell.lst P2) ++ G) := rfl
  generalize hnr : cutS b none (some 7) ++ (⟨#[c]⟩ : Str) = nb at *
  obtain ⟨d4, P4, hp4, a4, b4, e4⟩ := draw_spec (n + 1) (hg P3) hp3 (by omega) (many := 2) (by decide) (by decide)
  rw [st] at e4
  obtain ⟨nr, P5, hp5, hnr2, e5⟩ : ∃ nr P5, Pool (N + 24) P5 ∧ AtS nr ∧ sIf (tE (Dl.e2 gEq (eF (tab (n + 3) ._law_draw) (aC (eV 0) (aC (eC (.int 2)) aN))) (eC (.int 1)))) (sN 6 (Dl.e2 gAdd (Dl.e2 gAdd (eV 6) (eC (.str "."))) (eB gStr (aC (Dl.e2 gAdd (eC (.int 1)) (eF (tab (n + 3) ._law_draw) (aC (eV 0) (aC (eC (.int 20)) aN)))) aN)))) sP
      [some (.ref p), some (.str (atT b m)), some (.ref la), some (.str b), some (.int m), some (.str tw), some (.str nb)] (T.set p (Cell.lst P3) ++ G) = .nx [some (.ref p), some (.str (atT b m)), some (.ref la), some (.str b), some (.int m), some (.str tw), some (.str nr)] (T.set p (Cell.lst P5) ++ G) := by
    by_cases hd : d4 = 1
    · subst hd
      obtain ⟨d5, P5, hp5, a5, b5, e5⟩ := draw_spec (n + 1) (hg P4) hp4 (by omega) (many := 20) (by decide) (by decide)
      rw [st] at e5
      obtain ⟨u1, u2, u3⟩ := dotted hnb (m := 1 + d5) (by omega) (by omega) (S := T.set p (Cell.lst P5) ++ G)
      refine ⟨_, P5, hp5, ⟨nb, 1 + d5, rfl, hnb, by omega, by omega⟩, ?_⟩
      have l5 := app_len nb "."
      have l6 := hnb.len
      walk_at "ev"
      rw [e4]
      walk_at "ev"
      simp only [beq_self_eq_true, kIf_t]
      walk_at "ev"
      rw [e5]
      walk_at "ev"
      rw [u1]
      walk_at "ev"
      rw [u3]
      walk_at "ev"
    · refine ⟨nb, P4, hp4.mono (by omega), base_at hnb, ?_⟩
      walk_at "ev"
      rw [e4]
      walk_at "ev"
      rw [beq_eq_false_iff_ne.mpr hd]
      walk_at "ev"
  -- the last
  obtain ⟨b6, m6, P6, hp6, hb6, m60, m61, e6⟩ := atom_spec n (hg P5) hp5 (by omega) ((hT.set (i := p) (c := Cell.lst P5) hp5.flat).app Gf)
  rw [st] at e6
  refine ⟨[atT b m, tw, nr, atT b6 m6], P6, hp6.mono (by omega), rfl, fun t ht => ?_, ?_⟩
  · rcases List.mem_cons.mp ht with rfl | ht
    · exact ⟨b, m, rfl, hb, m0, m1⟩
    rcases List.mem_cons.mp ht with rfl | ht
    · exact htw
    rcases List.mem_cons.mp ht with rfl | ht
    · exact hnr2
    · exact ⟨b6, m6, List.mem_singleton.mp ht, hb6, m60, m61⟩
  have b0 : gIx (.ref la) (.int 0) (T.set p (Cell.lst P1) ++ G) = some (.str b, T.set p (Cell.lst P1) ++ G) := gIx_lst (lstAt_lst hl) (atI_nat (j := 0) hp0)
  have b1 : gIx (.ref la) (.int 1) (T.set p (Cell.lst P1) ++ G) = some (.str (toString m : Str), T.set p (Cell.lst P1) ++ G) := gIx_lst (lstAt_lst hl) (atI_nat (j := 1) hp1')
  have hb_ : b__law_lot (tab (n + 3)) [some (.ref p), none, none, none, none, none, none] T = .rt (.ref (T.set p (Cell.lst P6) ++ G).length) (T.set p (Cell.lst P6) ++ (G ++ [Cell.lst (sts [atT b m, tw, nr, atT b6 m6])])) := by
    unfold b__law_lot
    refine seq_step (ρ' := [some (.ref p), some (.str (atT b m)), none, none, none, none, none]) (S' := T.set p (Cell.lst P1)) (by walk_at "ev"; rw [e1]; walk_at "ev") ?_
    refine seq_step (ρ' := [some (.ref p), some (.str (atT b m)), some (.ref la), none, none, none, none]) (S' := T.set p (Cell.lst P1) ++ G) (by
      walk_at "ev"
      rw [s1]
      walk_at "ev"
      rw [s2]
      walk_at "ev") ?_
    refine seq_step (ρ' := [some (.ref p), some (.str (atT b m)), some (.ref la), some (.str b), none, none, none]) (S' := T.set p (Cell.lst P1) ++ G) (by walk_at "ev"; rw [b0]; walk_at "ev") ?_
    refine seq_step (ρ' := [some (.ref p), some (.str (atT b m)), some (.ref la), some (.str b), some (.int m), none, none]) (S' := T.set p (Cell.lst P1) ++ G) (by walk_at "ev"; rw [b1]; walk_at "ev"; rw [int_num m0 m1]; walk_at "ev") ?_
    refine seq_step (ρ' := [some (.ref p), some (.str (atT b m)), some (.ref la), some (.str b), some (.int m), some (.str (atT b (m % 999999 + 1))), none]) (S' := T.set p (Cell.lst P1) ++ G) (by walk_at "ev"; rw [t1]; walk_at "ev"; rw [t3]; walk_at "ev") ?_
    refine seq_step e2 ?_
    refine seq_step (ρ' := [some (.ref p), some (.str (atT b m)), some (.ref la), some (.str b), some (.int m), some (.str tw), some (.str nb)]) (S' := T.set p (Cell.lst P3) ++ G) (by
      walk_at "ev"
      rw [gs]
      walk_at "ev"
      rw [e3]
      walk_at "ev"
      rw [gc]
      walk_at "ev"
      rw [hnr]) ?_
    refine seq_step e5 ?_
    walk_at "ev"
    rw [e6]
    walk_at "ev"
    rw [List.append_assoc]
    rfl
  exact (runB_rt (np := 1) (ns := 7) (ds := [.ref p]) (g := b__law_lot (tab (n + 3))) rfl hb_).trans (cmp_new (by rw [List.length_set]) ((hT.set (c := Cell.lst P6) hp6.flat).wf (by rw [List.length_set])) (by rw [List.length_append, List.length_set]; omega) (by rw [← List.append_assoc]; exact get_end) (wfs_flat (sts_flat _)))
end Lw

set_option Elab.async false
set_option linter.all false
set_option maxRecDepth 100000
namespace Lw
open PySem L2 Dl
local macro_rules | `(tactic| walk_at "ev") => `(tactic| simp (disch := first | omega | assumption | (simp only [List.length_cons, List.length_nil]; omega) | (simp only [List.length_cons, List.length_nil])) only [sQ_, sP_, sE_, sR_, sIf_, sN_, sA_, tgO_nx, nm_, tgIx_, eC_, eV0, eV1, e1_, e2_, eB_, eF_, aN_, aC_, eMt_, eSl_, oN_, oI_, tV_, tE_, tA_, tO_, tN_, eIf_, eAnd_, eOr_, eNot_, eCh_,
  seq_nx, seq_rt, seq_bk, seq_ct, seq_ex, toR_some, toR_none, toT_some, truD_bl, truD_int, truD_tup, tyD_str, tyD_tup, tyD_int, tyD_bl, tyD_non,
  kE_, kR_, kIf_t, kIf_f, kN_, kA_, kIx1_, kIx2_, kIx3_, kE1_, kE21_, kE2_, kB_, kF_, kC1_, kC_, kM1_, kM2_, kM_, kS1_, kS2_, kS3_, kO_, kV_, kT_, kAn_t, kAn_f, kOr_t, kOr_f, kNo_, kIfE_t, kIfE_f, kVa_, kVa2_t, kVa2_f, kVo_, kVo2_t, kVo2_f, kVn_, kVn2_, kH_, kH1_, kH2_t, kH2_f, kH3_,
  List.getElem?_cons_zero, List.getElem?_cons_succ, List.set_cons_zero, List.set_cons_succ, gAdd_int, gAdd_str, gSub_int, gMul_l, gMul_r, gFdiv_int, gMod_int, gLt_int, gLe_int, gGt_int, gGe_int, gInt_int, gAbs_int, gLen_tup, gLen_str, gTpl_, gLsd_,
  Bool.false_eq_true, if_true, if_false, reduceIte, Option.map_some, Option.bind_some, gEq_int, gNe_int, gEq_str, gNe_str, Bool.not_true, Bool.not_false, decide_true, decide_false, List.length_singleton, List.length_cons, List.length_nil, List.map_cons, List.map_nil, Nat.sub_self, List.replicate_zero, List.append_nil, List.cons_append, List.nil_append, List.replicate_succ, Nat.reduceSub, Nat.reduceAdd, Nat.add_zero, Nat.zero_add, tgT_, tgU_, tgL0, tgL1, eTab_, kTab_, sX_])
local macro_rules | `(tactic| walk_at "evs") => `(tactic| simp (disch := first | omega | assumption | (simp only [List.length_cons, List.length_nil]; omega) | (simp only [List.length_cons, List.length_nil])) only [sQ_, sP_, sE_, sR_, sIf_, sN_, sA_, tgO_nx, nm_, tgIx_, eC_, eV0, eV1, e1_, e2_, eB_, eF_, aN_, aC_, eMt_, eSl_, oN_, oI_, tV_, tE_, tA_, tO_, tN_, eIf_, eAnd_, eOr_, eNot_, eCh_,
  seq_nx, seq_rt, seq_bk, seq_ct, seq_ex, toR_some, toR_none, toT_some, truD_bl, truD_int, truD_tup, tyD_str, tyD_tup, tyD_int, tyD_bl, tyD_non,
  kE_, kR_, kIf_t, kIf_f, kN_, kA_, kIx1_, kIx2_, kIx3_, kE1_, kE21_, kE2_, kB_, kF_, kC1_, kC_, kM1_, kM2_, kM_, kS1_, kS2_, kS3_, kO_, kV_, kT_, kAn_t, kAn_f, kOr_t, kOr_f, kNo_, kIfE_t, kIfE_f, kVa_, kVa2_t, kVa2_f, kVo_, kVo2_t, kVo2_f, kVn_, kVn2_, kH_, kH1_, kH2_t, kH2_f, kH3_,
  List.getElem?_cons_zero, List.getElem?_cons_succ, List.set_cons_zero, List.set_cons_succ, gAdd_int, gAdd_str, gSub_int, gMul_l, gMul_r, gFdiv_int, gMod_int, gLt_int, gLe_int, gGt_int, gGe_int, gInt_int, gAbs_int, gLen_tup, gLen_str, gTpl_, gLsd_,
  Bool.false_eq_true, if_true, if_false, reduceIte, Option.map_some, Option.bind_some, gEq_int, gNe_int, gEq_str, gNe_str, Bool.not_true, Bool.not_false, decide_true, decide_false, List.length_singleton, List.length_cons, List.length_nil, List.map_cons, List.map_nil, Nat.sub_self, List.replicate_zero, List.append_nil, List.cons_append, List.nil_append, List.replicate_succ, Nat.reduceSub, Nat.reduceAdd, Nat.add_zero, Nat.zero_add, tgT_, tgU_, tgL0, tgL1, eTab_, kTab_, sX_, *])
/-! ## places -/
theorem place_spec (n : Nat) {N p lt : Nat} {T : Store} {P : List D} {ts : List Str} (h : T[p]? = some (Cell.lst P)) (hl : T[lt]? = some (Cell.lst (sts ts))) (hts : ts.length = 4) (hA : ∀ t ∈ ts, AtS t) (hpl : p ≠ lt) (hp : Pool N P) (hN : N + 30 ≤ 1000000) (hT : SOK T) :
    ∃ t P', Pool (N + 30) P' ∧ AtS t ∧ tab (n + 4) ._law_place [.ref p, .ref lt] T = .ok (.str t) (T.set p (Cell.lst P')) := by
  obtain ⟨d, P1, hp1, a1, b1, e1⟩ := draw_spec (n + 1) h hp (by omega) (many := 7) (by decide) (by decide)
  have h1 : (T.set p (Cell.lst P1))[p]? = some (Cell.lst P1) := get_set h
  have l1 : (T.set p (Cell.lst P1))[lt]? = some (Cell.lst (sts ts)) := set_keep hl hpl
  have at_ : ∀ k : Int, 0 ≤ k → k < 4 → ∃ t, AtS t ∧ gIx (.ref lt) (.int k) (T.set p (Cell.lst P1)) = some (.str t, T.set p (Cell.lst P1)) := fun k k0 k1 => by
    obtain ⟨v, hv, hm⟩ := atI_in (xs := sts ts) k0 (by rw [sts_len]; omega)
    obtain ⟨t, ht, rfl⟩ := List.mem_map.mp hm
    exact ⟨t, hA t ht, gIx_lst (lstAt_lst l1) hv⟩
  by_cases h4 : d < 4
  · obtain ⟨t, ht, g⟩ := at_ d a1 h4
    refine ⟨t, P1, hp1.mono (by omega), ht, (runB_rt (np := 2) (ns := 3) (ds := [.ref p, .ref lt]) (g := b__law_place (tab (n + 3))) (d := .str t) (S' := T.set p (Cell.lst P1)) rfl ?_).trans (cmp_same (by rw [List.length_set]) rfl)⟩
    unfold b__law_place
    walk_at "ev"
    rw [e1]
    walk_at "ev"
    rw [decide_eq_true h4]
    walk_at "ev"
    rw [g]
    walk_at "ev"
  · by_cases h6 : d < 6
    · obtain ⟨t, ht, g⟩ := at_ 0 (by decide) (by decide)
      refine ⟨t, P1, hp1.mono (by omega), ht, (runB_rt (np := 2) (ns := 3) (ds := [.ref p, .ref lt]) (g := b__law_place (tab (n + 3))) (d := .str t) (S' := T.set p (Cell.lst P1)) rfl ?_).trans (cmp_same (by rw [List.length_set]) rfl)⟩
      unfold b__law_place
      walk_at "ev"
      rw [e1]
      walk_at "ev"
      rw [decide_eq_false h4]
      walk_at "ev"
      rw [decide_eq_true h6]
      walk_at "ev"
      rw [g]
      walk_at "ev"
    · obtain ⟨b, m, P2, hp2, hb, m0, m1, e2⟩ := atom_spec n h1 hp1 (by omega) (hT.set (i := p) (c := Cell.lst P1) hp1.flat)
      rw [List.set_set] at e2
      refine ⟨atT b m, P2, hp2.mono (by omega), ⟨b, m, rfl, hb, m0, m1⟩, (runB_rt (np := 2) (ns := 3) (ds := [.ref p, .ref lt]) (g := b__law_place (tab (n + 3))) (d := .str (atT b m)) (S' := T.set p (Cell.lst P2)) rfl ?_).trans (cmp_same (by rw [List.length_set]) rfl)⟩
      unfold b__law_place
      walk_at "ev"
      rw [e1]
      walk_at "ev"
      rw [decide_eq_false h4]
      walk_at "ev"
      rw [decide_eq_false h6]
      walk_at "ev"
      rw [e2]
      walk_at "ev"
theorem places_comp (n : Nat) {p lt : Nat} {ts : List Str} {ρ : Dl.Env} {g : Cg} (hts : ts.length = 4) (hA : ∀ t ∈ ts, AtS t) (hpl : p ≠ lt) (hput : ∀ d, ∃ ρ1, g.put d ρ = some ρ1 ∧ ρ1[0]? = some (some (.ref p)) ∧ ρ1[1]? = some (some (.ref lt))) : ∀ (ds : List D) (acc : List Str) (T : Store) (P : List D) (N : Nat), T[p]? = some (Cell.lst P) → T[lt]? = some (Cell.lst (sts ts)) → Pool N P → N + 30 * ds.length ≤ 900000 → acc.length + ds.length ≤ 100000 → SOK T →
    ∃ P' xs, Pool (N + 30 * ds.length) P' ∧ xs.length = ds.length ∧ (∀ t ∈ xs, AtS t) ∧ runC T.length ρ g tYesD (eF (tab (n + 4) ._law_place) (aC (eV 0) (aC (eV 1) aN))) [] ds (T ++ [Cell.lst (sts acc)]) = .ok (.ref T.length) (T.set p (Cell.lst P') ++ [Cell.lst (sts (acc ++ xs))])
  | [], acc, T, P, N, h, hl, hp, hN, hz, hT => ⟨P, [], hp, rfl, (fun _ h => nomatch h), by
    unfold runC
    rw [if_pos chk_nil, set_self h, List.append_nil]⟩
  | d :: ds, acc, T, P, N, h, hl, hp, hN, hz, hT => by
    have hN' : N + 30 * (ds.length + 1) ≤ 900000 := hN
    have hz' : acc.length + (ds.length + 1) ≤ 100000 := hz
    obtain ⟨t, P1, hp1, ht, e1⟩ := place_spec n (get_app h (T := [Cell.lst (sts acc)])) (get_app hl) hts hA hpl hp (by omega) (hT.pushF (c := Cell.lst (sts acc)) (sts_flat _))
    rw [set_app h] at e1
    have T1 := hT.set (i := p) (c := Cell.lst P1) hp1.flat
    obtain ⟨P', xs, q1, q2, q3, q4⟩ := places_comp n hts hA hpl hput ds (acc ++ [t]) (T.set p (Cell.lst P1)) P1 (N + 30) (get_set h) (set_keep hl hpl) hp1 (by omega) (by rw [List.length_append]; simp only [List.length_singleton]; omega) T1
    rw [List.set_set, List.length_set] at q4
    obtain ⟨ρ1, hr, r0, r1⟩ := hput d
    refine ⟨P', t :: xs, by rw [show N + 30 * (d :: ds).length = N + 30 + 30 * ds.length by rw [List.length_cons]; omega]; exact q1, by rw [List.length_cons, q2, List.length_cons], fun y hy => (List.mem_cons.mp hy).elim (fun e => e ▸ ht) (q3 y), ?_⟩
    have ef : eF (tab (n + 4) ._law_place) (aC (eV 0) (aC (eV 1) aN)) ρ1 (T ++ [Cell.lst (sts acc)]) = .ok (.str t) (T.set p (Cell.lst P1) ++ [Cell.lst (sts acc)]) := by
      unfold eF aC eV aN
      rw [r0, r1]
      exact e1
    have ge : (T.set p (Cell.lst P1) ++ [Cell.lst (sts acc)])[T.length]? = some (Cell.lst (sts acc)) := get_end' (by rw [List.length_set])
    have se : (T.set p (Cell.lst P1) ++ [Cell.lst (sts acc)]).set T.length (Cell.lst (sts acc ++ [.str t])) = T.set p (Cell.lst P1) ++ [Cell.lst (sts (acc ++ [t]))] := by rw [set_end' (by rw [List.length_set]), sts_app]; rfl
    unfold runC
    rw [if_pos chk_nil]
    simp only [hr, tYesD, ef, ge]
    rw [if_pos (show (sts acc).length < LIM by rw [sts_len]; show acc.length < 16777216; omega), se, q4, List.append_assoc acc [t] xs]
    rfl
/-! ## brackets -/
theorem gSl_l {l : Nat} {xs : List D} {lo hi : Option Int} {S : Store} (h : lstAt S l = some xs) : gSl (.ref l) lo hi S = some (.ref S.length, S ++ [Cell.lst (cutD xs lo hi)]) := by
  show Option.map _ (lstAt S l) = _
  rw [h]
  rfl
theorem cut_lo {xs : List Str} {k : Nat} (h : k ≤ xs.length) : cutD (sts xs) none (some (k : Int)) = sts (xs.take k) := by
  unfold cutD
  rw [HT.sIx_none, HT.sIx_nat, sts_len, List.drop_zero, Nat.sub_zero, Nat.min_eq_left h]
  exact (List.map_take ..).symm
theorem cut_hi {xs : List Str} {k : Nat} (h : k ≤ xs.length) : cutD (sts xs) (some (k : Int)) none = sts (xs.drop k) := by
  unfold cutD
  rw [HT.sIx_none, HT.sIx_nat, sts_len, Nat.min_eq_left h]
  unfold sts
  rw [← List.map_drop]
  exact List.take_of_length_le (by rw [List.length_map, List.length_drop]; omega)
theorem signs3 {d : Int} (h0 : 0 ≤ d) (h1 : d < 3) (S : Store) : ∃ s : Str, Sg s ∧ gIx (.str "/>*") (.int d) S = some (.str s, S) := by
  have h : d = 0 ∨ d = 1 ∨ d = 2 := by omega
  rcases h with rfl | rfl | rfl
  · exact ⟨"/", .inl rfl, (gIx_str (c := 47) (by decide +kernel)).trans (by rw [show (⟨#[47]⟩ : Str) = "/" by decide +kernel])⟩
  · exact ⟨">", .inr (.inl rfl), (gIx_str (c := 62) (by decide +kernel)).trans (by rw [show (⟨#[62]⟩ : Str) = ">" by decide +kernel])⟩
  · exact ⟨"*", .inr (.inr rfl), (gIx_str (c := 42) (by decide +kernel)).trans (by rw [show (⟨#[42]⟩ : Str) = "*" by decide +kernel])⟩
theorem bracket_spec (n : Nat) : ∀ (L : Nat) (xs : List Str) {p t N : Nat} {T : Store} {P : List D}, xs.length ≤ L → 1 ≤ xs.length → (∀ x ∈ xs, AtS x) → p ≠ t → T[p]? = some (Cell.lst P) → T[t]? = some (Cell.lst (sts xs)) → Pool N P → N + 4 * xs.length ≤ 900000 → xs.length ≤ 1000 → SOK T →
    ∃ K P', Pool (N + 2 * (xs.length - 1)) P' ∧ KT.at_ K = xs ∧ KT.ok AtS K ∧ tab (n + L + 3) ._law_bracket [.ref p, .ref t] T = .ok K.d (T.set p (Cell.lst P'))
  | 0, xs, p, t, N, T, P, hL, h1, _, _, _, _, _, _, _, _ => by omega
  | L + 1, xs, p, t, N, T, P, hL, h1, hA, hpt, h, ht, hp, hN, hX, hT => by
    have ep : ∀ S', runB 2 5 (b__law_bracket (tab (n + L + 3))) [.ref p, .ref t] T = S' → tab (n + (L + 1) + 3) ._law_bracket [.ref p, .ref t] T = S' := fun _ e => e
    have gl : gLen [.ref t] T = some (.int xs.length, T) := by rw [gLen_lst (lstAt_lst ht), sts_len]
    by_cases h2 : xs.length = 1
    · obtain ⟨x, rfl⟩ := List.length_eq_one_iff.mp h2
      refine ⟨.leaf x, P, hp.mono (by omega), rfl, hA x (List.mem_singleton.mpr rfl), ep _ ?_⟩
      rw [set_self h]
      refine (runB_rt (np := 2) (ns := 5) (ds := [.ref p, .ref t]) (g := b__law_bracket (tab (n + L + 3))) (d := .str x) (S' := T) rfl ?_).trans (cmp_same rfl rfl)
      unfold b__law_bracket
      walk_at "ev"
      rw [gl]
      walk_at "ev"
      simp only [show (((1 : Nat) : Int) == 1) = true from rfl, kIf_t]
      walk_at "ev"
      rw [gIx_lst (lstAt_lst ht) (d := .str x) rfl]
      walk_at "ev"
    · have hb1 : (((xs.length : Nat) : Int) == 1) = false := beq_eq_false_iff_ne.mpr (by omega)
      obtain ⟨d1, P1, hp1, a0, a1, e1⟩ := draw_spec (n + L + 1) h hp (by omega) (many := (xs.length : Int) - 1) (by omega) (by omega)
      have tq : ∀ Q, (T.set p (Cell.lst Q))[t]? = some (Cell.lst (sts xs)) := fun Q => by rw [List.getElem?_set_ne hpt]; exact ht
      obtain ⟨d2, P2, hp2, b0, b1, e2⟩ := draw_spec (n + L + 1) (get_set h (d := .lst P1)) hp1 (by omega) (many := 3) (by decide) (by decide)
      rw [List.set_set] at e2
      obtain ⟨s, hsg, hs⟩ := signs3 b0 b1 (T.set p (Cell.lst P2))
      obtain ⟨k, hk⟩ : ∃ k : Nat, (1 + d1 : Int) = (k : Int) := ⟨(1 + d1).toNat, by omega⟩
      have lt : (xs.take k).length = k := by rw [List.length_take]; omega
      have ld : (xs.drop k).length = xs.length - k := List.length_drop ..
      have s1 := gSl_l (lo := none) (hi := some (k : Int)) (lstAt_lst (tq P2))
      rw [cut_lo (by omega)] at s1
      have t1 : (T.set p (Cell.lst P2) ++ [Cell.lst (sts (xs.take k))])[(T.set p (Cell.lst P2)).length]? = some (Cell.lst (sts (xs.take k))) := get_end
      have pl := get_lt h
      have W2 := (hT.set (i := p) (c := Cell.lst P2) hp2.flat).pushF (c := Cell.lst (sts (xs.take k))) (sts_flat _)
      obtain ⟨K1, P3, hp3, hk1, ok1, e3⟩ := bracket_spec n L (xs.take k) (t := (T.set p (Cell.lst P2)).length) (by omega) (by omega) (fun x hx => hA x (List.mem_of_mem_take hx)) (by rw [List.length_set]; omega) (get_app (get_set h)) t1 hp2 (by omega) (by omega) W2
      rw [set_app (get_set h), List.set_set] at e3
      have s2 := gSl_l (lo := some (k : Int)) (hi := none) (lstAt_lst (get_app (tq P3) (T := [Cell.lst (sts (xs.take k))])))
      rw [cut_hi (by omega)] at s2
      have t2 : (T.set p (Cell.lst P3) ++ [Cell.lst (sts (xs.take k))] ++ [Cell.lst (sts (xs.drop k))])[(T.set p (Cell.lst P3) ++ [Cell.lst (sts (xs.take k))]).length]? = some (Cell.lst (sts (xs.drop k))) := get_end
      have W3 := ((hT.set (i := p) (c := Cell.lst P3) hp3.flat).pushF (c := Cell.lst (sts (xs.take k))) (sts_flat _)).pushF (c := Cell.lst (sts (xs.drop k))) (sts_flat _)
      obtain ⟨K2, P4, hp4, hk2, ok2, e4⟩ := bracket_spec n L (xs.drop k) (t := (T.set p (Cell.lst P3) ++ [Cell.lst (sts (xs.take k))]).length) (by omega) (by omega) (fun x hx => hA x (List.mem_of_mem_drop hx)) (by rw [List.length_append, List.length_set]; omega) (get_app (get_app (get_set h))) t2 hp3 (by omega) (by omega) W3
      rw [List.append_assoc, set_app (get_set h), List.set_set] at e4
      rw [List.append_assoc] at s2
      refine ⟨.node s K1 K2, P4, hp4.mono (by omega), by show K1.at_ ++ K2.at_ = xs; rw [hk1, hk2, List.take_append_drop], ⟨hsg, ok1, ok2⟩, ep _ ?_⟩
      refine (runB_rt (np := 2) (ns := 5) (ds := [.ref p, .ref t]) (g := b__law_bracket (tab (n + L + 3))) (d := (KT.node s K1 K2).d) (S' := T.set p (Cell.lst P4) ++ ([Cell.lst (sts (xs.take k))] ++ [Cell.lst (sts (xs.drop k))])) rfl ?_).trans (cmp_more (by rw [List.length_set]) ((hT.set (i := p) (c := Cell.lst P4) hp4.flat).wf (by rw [List.length_set])) (wf_flat (KT.flat _)))
      unfold b__law_bracket
      refine seq_step (ρ' := [some (.ref p), some (.ref t), none, none, none]) (S' := T) (by walk_at "ev"; rw [gl]; walk_at "ev"; rw [hb1]; walk_at "ev") ?_
      refine seq_step (ρ' := [some (.ref p), some (.ref t), some (.int k), none, none]) (S' := T.set p (Cell.lst P1)) (by walk_at "ev"; rw [gl]; walk_at "ev"; rw [e1]; walk_at "ev"; rw [hk]) ?_
      refine seq_step (ρ' := [some (.ref p), some (.ref t), some (.int k), some (.str s), none]) (S' := T.set p (Cell.lst P2)) (by walk_at "ev"; rw [e2]; walk_at "ev"; rw [hs]; walk_at "ev") ?_
      refine seq_step (ρ' := [some (.ref p), some (.ref t), some (.int k), some (.str s), some K1.d]) (S' := T.set p (Cell.lst P3) ++ [Cell.lst (sts (xs.take k))]) (by walk_at "ev"; rw [s1]; walk_at "ev"; rw [e3]; walk_at "ev") ?_
      walk_at "ev"
      rw [s2]
      walk_at "ev"
      rw [List.cons_append, List.nil_append] at e4
      rw [e4]
      walk_at "ev"
      rfl
end Lw

set_option Elab.async false
set_option linter.all false
set_option maxRecDepth 100000
namespace Lw
open PySem L2 Dl
local macro_rules | `(tactic| walk_at "ev") => `(tactic| simp (disch := first | omega | assumption | (simp only [List.length_cons, List.length_nil]; omega) | (simp only [List.length_cons, List.length_nil])) only [sQ_, sP_, sE_, sR_, sIf_, sN_, sA_, tgO_nx, nm_, tgIx_, eC_, eV0, eV1, e1_, e2_, eB_, eF_, aN_, aC_, eMt_, eSl_, oN_, oI_, tV_, tE_, tA_, tO_, tN_, eIf_, eAnd_, eOr_, eNot_, eCh_,
  seq_nx, seq_rt, seq_bk, seq_ct, seq_ex, toR_some, toR_none, toT_some, truD_bl, truD_int, truD_tup, tyD_str, tyD_tup, tyD_int, tyD_bl, tyD_non,
  kE_, kR_, kIf_t, kIf_f, kN_, kA_, kIx1_, kIx2_, kIx3_, kE1_, kE21_, kE2_, kB_, kF_, kC1_, kC_, kM1_, kM2_, kM_, kS1_, kS2_, kS3_, kO_, kV_, kT_, kAn_t, kAn_f, kOr_t, kOr_f, kNo_, kIfE_t, kIfE_f, kVa_, kVa2_t, kVa2_f, kVo_, kVo2_t, kVo2_f, kVn_, kVn2_, kH_, kH1_, kH2_t, kH2_f, kH3_,
  List.getElem?_cons_zero, List.getElem?_cons_succ, List.set_cons_zero, List.set_cons_succ, gAdd_int, gAdd_str, gSub_int, gMul_l, gMul_r, gFdiv_int, gMod_int, gLt_int, gLe_int, gGt_int, gGe_int, gInt_int, gAbs_int, gLen_tup, gLen_str, gTpl_, gLsd_,
  Bool.false_eq_true, if_true, if_false, reduceIte, Option.map_some, Option.bind_some, gEq_int, gNe_int, gEq_str, gNe_str, Bool.not_true, Bool.not_false, decide_true, decide_false, List.length_singleton, List.length_cons, List.length_nil, List.map_cons, List.map_nil, Nat.sub_self, List.replicate_zero, List.append_nil, List.cons_append, List.nil_append, List.replicate_succ, Nat.reduceSub, Nat.reduceAdd, Nat.add_zero, Nat.zero_add, tgT_, tgU_, tgL0, tgL1, eTab_, kTab_, sX_])
local macro_rules | `(tactic| walk_at "evs") => `(tactic| simp (disch := first | omega | assumption | (simp only [List.length_cons, List.length_nil]; omega) | (simp only [List.length_cons, List.length_nil])) only [sQ_, sP_, sE_, sR_, sIf_, sN_, sA_, tgO_nx, nm_, tgIx_, eC_, eV0, eV1, e1_, e2_, eB_, eF_, aN_, aC_, eMt_, eSl_, oN_, oI_, tV_, tE_, tA_, tO_, tN_, eIf_, eAnd_, eOr_, eNot_, eCh_,
  seq_nx, seq_rt, seq_bk, seq_ct, seq_ex, toR_some, toR_none, toT_some, truD_bl, truD_int, truD_tup, tyD_str, tyD_tup, tyD_int, tyD_bl, tyD_non,
  kE_, kR_, kIf_t, kIf_f, kN_, kA_, kIx1_, kIx2_, kIx3_, kE1_, kE21_, kE2_, kB_, kF_, kC1_, kC_, kM1_, kM2_, kM_, kS1_, kS2_, kS3_, kO_, kV_, kT_, kAn_t, kAn_f, kOr_t, kOr_f, kNo_, kIfE_t, kIfE_f, kVa_, kVa2_t, kVa2_f, kVo_, kVo2_t, kVo2_f, kVn_, kVn2_, kH_, kH1_, kH2_t, kH2_f, kH3_,
  List.getElem?_cons_zero, List.getElem?_cons_succ, List.set_cons_zero, List.set_cons_succ, gAdd_int, gAdd_str, gSub_int, gMul_l, gMul_r, gFdiv_int, gMod_int, gLt_int, gLe_int, gGt_int, gGe_int, gInt_int, gAbs_int, gLen_tup, gLen_str, gTpl_, gLsd_,
  Bool.false_eq_true, if_true, if_false, reduceIte, Option.map_some, Option.bind_some, gEq_int, gNe_int, gEq_str, gNe_str, Bool.not_true, Bool.not_false, decide_true, decide_false, List.length_singleton, List.length_cons, List.length_nil, List.map_cons, List.map_nil, Nat.sub_self, List.replicate_zero, List.append_nil, List.cons_append, List.nil_append, List.replicate_succ, Nat.reduceSub, Nat.reduceAdd, Nat.add_zero, Nat.zero_add, tgT_, tgU_, tgL0, tgL1, eTab_, kTab_, sX_, *])
/-! ## the two rows of texts -/
theorem cmp_keep {n l : Nat} {S G : Store} {xs : List D} (h : S.length = n) (wS : SWf n S = true) (hl : n ≤ l) (hx : (S ++ G)[l]? = some (.lst xs)) (w : wfs n xs = false) : cmp n (.ref l) (S ++ G) = .ok (.ref l) (S ++ G) := by
  unfold cmp
  have e : (S ++ G).take n = S := by rw [← h]; exact List.take_left' rfl
  rw [e, if_pos wS, if_neg (show ¬ (D.ref l).wf n = true from fun z => by
    have z' : l < n := of_decide_eq_true z
    omega)]
  simp only [hx, newCell, w, Bool.false_eq_true, if_false]
structure Two (T : Store) (p N : Nat) (r : Nat) (U : Store) (xs ys : List Str) : Prop where
  u : ∃ P G, Pool N P ∧ U = T.set p (Cell.lst P) ++ G
  ok : SOK U
  at_ : ∃ a b, U[r]? = some (Cell.lst [.ref a, .ref b]) ∧ U[a]? = some (Cell.lst (sts xs)) ∧ U[b]? = some (Cell.lst (sts ys)) ∧ T.length ≤ a ∧ T.length ≤ b
  r : T.length ≤ r
  x1 : 1 ≤ xs.length
  x2 : xs.length ≤ 40
  y1 : 1 ≤ ys.length
  y2 : ys.length ≤ 40
  xa : ∀ t ∈ xs, AtS t
  ya : ∀ t ∈ ys, AtS t
theorem Two.mono {T : Store} {p N M r : Nat} {U : Store} {xs ys : List Str} (h : Two T p N r U xs ys) (l : N ≤ M) : Two T p M r U xs ys :=
  { h with u := by obtain ⟨P, G, q, e⟩ := h.u; exact ⟨P, G, q.mono l, e⟩ }
theorem Two.set {T : Store} {p N r : Nat} {U : Store} {xs ys : List Str} {P : List D} (h : Two (T.set p (Cell.lst P)) p N r U xs ys) : Two T p N r U xs ys :=
  { h with
    u := by obtain ⟨Q, G, q, e⟩ := h.u; exact ⟨Q, G, q, by rw [e, List.set_set]⟩
    at_ := by have q := h.at_; rw [List.length_set] at q; exact q
    r := by have q := h.r; rw [List.length_set] at q; exact q }
/-- two rows laid at the end -/
theorem two_mk {T : Store} {p N : Nat} {P : List D} {xs ys : List Str} (hT : SOK T) (hp : Pool N P) (x1 : 1 ≤ xs.length) (x2 : xs.length ≤ 40) (y1 : 1 ≤ ys.length) (y2 : ys.length ≤ 40) (xa : ∀ t ∈ xs, AtS t) (ya : ∀ t ∈ ys, AtS t) :
    Two T p N (T.length + 2) (T.set p (Cell.lst P) ++ [Cell.lst (sts xs)] ++ [Cell.lst (sts ys)] ++ [Cell.lst [.ref T.length, .ref (T.length + 1)]]) xs ys := by
  have l1 : (T.set p (Cell.lst P) ++ [Cell.lst (sts xs)]).length = T.length + 1 := by rw [List.length_append, List.length_set]; rfl
  have l2 : (T.set p (Cell.lst P) ++ [Cell.lst (sts xs)] ++ [Cell.lst (sts ys)]).length = T.length + 2 := by rw [List.length_append, l1]; rfl
  have k1 : SOK (T.set p (Cell.lst P) ++ [Cell.lst (sts xs)] ++ [Cell.lst (sts ys)]) := ((hT.set (i := p) (c := Cell.lst P) hp.flat).pushF (c := Cell.lst (sts xs)) (sts_flat _)).pushF (c := Cell.lst (sts ys)) (sts_flat _)
  refine ⟨⟨P, [Cell.lst (sts xs)] ++ ([Cell.lst (sts ys)] ++ [Cell.lst [.ref T.length, .ref (T.length + 1)]]), hp, by rw [← List.append_assoc, ← List.append_assoc]⟩, k1.push ?_, ⟨T.length, T.length + 1, get_end' l2.symm, get_app (get_app (get_end' (by rw [List.length_set]))), get_app (get_end' l1.symm), Nat.le_refl _, Nat.le_succ _⟩, by omega, x1, x2, y1, y2, xa, ya⟩
  rw [l2]
  show (decide (T.length < T.length + 2) && (decide (T.length + 1 < T.length + 2) && true)) = true
  rw [decide_eq_true (by omega), decide_eq_true (by omega)]
  rfl
theorem two_cmp {T : Store} {p N r : Nat} {U : Store} {xs ys : List Str} (h : Two T p N r U xs ys) (hT : SOK T) : cmp T.length (.ref r) U = .ok (.ref r) U := by
  obtain ⟨P, G, hp, rfl⟩ := h.u
  obtain ⟨a, b, h1, _, _, ha, _⟩ := h.at_
  exact cmp_keep (by rw [List.length_set]) ((hT.set (i := p) (c := Cell.lst P) hp.flat).wf (by rw [List.length_set])) h.r h1 (by
    show (decide (a < T.length) && _) = false
    rw [decide_eq_false (by omega)]
    rfl)
theorem sloop1 (n : Nat) {p lt w : Nat} {ts : List Str} {v2 v3 v4 v5 v6 : Option D} (hts : ts.length = 4) (hA : ∀ t ∈ ts, AtS t) (hpl : p ≠ lt) : ∀ (r : Nat) (lo : Int) (N : Nat) (T : Store) (P : List D) (R : List Str) (x y : Option D), w = T.length → T[p]? = some (Cell.lst P) → T[lt]? = some (Cell.lst (sts ts)) → Pool N P → N + 30 * r ≤ 900000 → SOK T → (∀ t ∈ R, AtS t) → R.length + r ≤ 1000 →
    ∃ P' R' x' y', Pool (N + 30 * r) P' ∧ R'.length = R.length + r ∧ (∀ t ∈ R', AtS t) ∧ runF (nm 8) (sQ (sN 9 (eF (tab (n + 4) ._law_place) (aC (eV 0) (aC (eV 1) aN))))
  (sQ (sIf (tE (Dl.e2 gEq (eV 9) (Dl.e2 gIx (eV 1) (eC (.int 0))))) (sN 9 (Dl.e2 gIx (eV 1) (eC (.int 1)))) sP)
  (sE (eMt .lst gAppend (eV 7) (aC (eV 9) aN))))) [] (rng lo r) [some (.ref p), some (.ref lt), v2, v3, v4, v5, v6, some (.ref w), x, y] (T ++ [Cell.lst (sts R)]) = .nx [some (.ref p), some (.ref lt), v2, v3, v4, v5, v6, some (.ref w), x', y'] (T.set p (Cell.lst P') ++ [Cell.lst (sts R')])
  | 0, lo, N, T, P, R, x, y, hw, h, hl, hp, hN, hT, hR, hz => ⟨P, R, x, y, hp, rfl, hR, by rw [set_self h]; exact runF_nil chk_nil⟩
  | r + 1, lo, N, T, P, R, x, y, hw, h, hl, hp, hN, hT, hR, hz => by
    obtain ⟨t, P1, hp1, ht, e1⟩ := place_spec n (get_app h (T := [Cell.lst (sts R)])) (get_app hl) hts hA hpl hp (by omega) (hT.pushF (c := Cell.lst (sts R)) (sts_flat _))
    rw [set_app h] at e1
    have hw' : w = (T.set p (Cell.lst P1)).length := by rw [List.length_set]; exact hw
    have l1 : (T.set p (Cell.lst P1) ++ [Cell.lst (sts R)])[lt]? = some (Cell.lst (sts ts)) := get_app (set_keep hl hpl)
    obtain ⟨t0, t1, tr, rfl⟩ : ∃ t0 t1 tr, ts = t0 :: t1 :: tr := by
      match ts, hts with
      | [a, b, c, d], _ => exact ⟨a, b, [c, d], rfl⟩
    have g0 : gIx (.ref lt) (.int 0) (T.set p (Cell.lst P1) ++ [Cell.lst (sts R)]) = some (.str t0, T.set p (Cell.lst P1) ++ [Cell.lst (sts R)]) := gIx_lst (lstAt_lst l1) (atI_nat (j := 0) rfl)
    have g1 : gIx (.ref lt) (.int 1) (T.set p (Cell.lst P1) ++ [Cell.lst (sts R)]) = some (.str t1, T.set p (Cell.lst P1) ++ [Cell.lst (sts R)]) := gIx_lst (lstAt_lst l1) (atI_nat (j := 1) rfl)
    have gw : (T.set p (Cell.lst P1) ++ [Cell.lst (sts R)])[w]? = some (Cell.lst (sts R)) := get_end' hw'
    have ga : ∀ t, gAppend (.ref w) [.str t] (T.set p (Cell.lst P1) ++ [Cell.lst (sts R)]) = some (.non, T.set p (Cell.lst P1) ++ [Cell.lst (sts (R ++ [t]))]) := fun t => by
      rw [gAppend_ gw (by rw [sts_len]; omega), set_end' hw', sts_app]
      rfl
    have ty := tyD_lst gw
    obtain ⟨t', ht', et⟩ : ∃ t', AtS t' ∧ (sQ (sN 9 (eF (tab (n + 4) ._law_place) (aC (eV 0) (aC (eV 1) aN))))
        (sQ (sIf (tE (Dl.e2 gEq (eV 9) (Dl.e2 gIx (eV 1) (eC (.int 0))))) (sN 9 (Dl.e2 gIx (eV 1) (eC (.int 1)))) sP)
        (sE (eMt .lst gAppend (eV 7) (aC (eV 9) aN))))) [some (.ref p), some (.ref lt), v2, v3, v4, v5, v6, some (.ref w), some (.int lo), y] (T ++ [Cell.lst (sts R)]) = .nx [some (.ref p), some (.ref lt), v2, v3, v4, v5, v6, some (.ref w), some (.int lo), some (.str t')] (T.set p (Cell.lst P1) ++ [Cell.lst (sts (R ++ [t']))]) := by
      by_cases he : t = t0
      · subst he
        refine ⟨t1, hA _ (List.mem_cons_of_mem _ (List.mem_cons_self ..)), ?_⟩
        walk_at "ev"
        rw [e1]
        walk_at "ev"
        rw [g0]
        walk_at "ev"
        simp only [beq_self_eq_true, kIf_t]
        walk_at "ev"
        rw [g1]
        walk_at "ev"
        rw [ty]
        walk_at "ev"
        rw [ga]
        walk_at "ev"
      · refine ⟨t, ht, ?_⟩
        walk_at "ev"
        rw [e1]
        walk_at "ev"
        rw [g0]
        walk_at "ev"
        rw [beq_eq_false_iff_ne.mpr he]
        walk_at "ev"
        rw [ty]
        walk_at "ev"
        rw [ga]
        walk_at "ev"
    obtain ⟨P', R', x', y', q1, q2, q3, q4⟩ := sloop1 n hts hA hpl (v2 := v2) (v3 := v3) (v4 := v4) (v5 := v5) (v6 := v6) r (lo + 1) (N + 30) (T.set p (Cell.lst P1)) P1 (R ++ [t']) (some (.int lo)) (some (.str t')) hw' (get_set h) (set_keep hl hpl) hp1 (by omega) (hT.set hp1.flat) (fun z hz => (List.mem_append.mp hz).elim (hR z) fun q => List.mem_singleton.mp q ▸ ht') (by rw [List.length_append]; simp only [List.length_singleton]; omega)
    refine ⟨P', R', x', y', by rw [show N + 30 * (r + 1) = N + 30 + 30 * r by omega]; exact q1, by rw [q2, List.length_append]; simp only [List.length_singleton]; omega, q3, ?_⟩
    rw [List.set_set] at q4
    rw [rng_succ, runF_cons chk_nil (d := .int lo) (ρ1 := [some (.ref p), some (.ref lt), v2, v3, v4, v5, v6, some (.ref w), some (.int lo), y]) (S1 := T ++ [Cell.lst (sts R)]) rfl et, q4]
theorem sloop2 (n : Nat) {p lt w : Nat} {ts : List Str} {v2 v3 v4 v5 v6 y : Option D} (hts : ts.length = 4) (hA : ∀ t ∈ ts, AtS t) (hpl : p ≠ lt) : ∀ (r : Nat) (lo : Int) (N : Nat) (T : Store) (P : List D) (R : List Str) (x : Option D), w = T.length → T[p]? = some (Cell.lst P) → T[lt]? = some (Cell.lst (sts ts)) → Pool N P → N + r ≤ 900000 → (∀ t ∈ R, AtS t) → R.length + r ≤ 1000 →
    ∃ P' R' x', Pool (N + r) P' ∧ R'.length = R.length + r ∧ (∀ t ∈ R', AtS t) ∧ runF (nm 8) (sE (eMt .lst gInsert (eV 7) (aC (eF (tab (n + 4) ._law_draw) (aC (eV 0) (aC (Dl.e2 gAdd (eB gLen (aC (eV 7) aN)) (eC (.int 1))) aN))) (aC (Dl.e2 gIx (eV 1) (eC (.int 0))) aN))))
      [] (rng lo r) [some (.ref p), some (.ref lt), v2, v3, v4, v5, v6, some (.ref w), x, y] (T ++ [Cell.lst (sts R)]) = .nx [some (.ref p), some (.ref lt), v2, v3, v4, v5, v6, some (.ref w), x', y] (T.set p (Cell.lst P') ++ [Cell.lst (sts R')])
  | 0, lo, N, T, P, R, x, hw, h, hl, hp, hN, hR, hz => ⟨P, R, x, hp, rfl, hR, by rw [set_self h]; exact runF_nil chk_nil⟩
  | r + 1, lo, N, T, P, R, x, hw, h, hl, hp, hN, hR, hz => by
    have gw0 : (T ++ [Cell.lst (sts R)])[w]? = some (Cell.lst (sts R)) := get_end' hw
    have gl : gLen [.ref w] (T ++ [Cell.lst (sts R)]) = some (.int R.length, T ++ [Cell.lst (sts R)]) := by rw [gLen_lst (lstAt_lst gw0), sts_len]
    obtain ⟨d, P1, hp1, a1, b1, e1⟩ := draw_spec (n + 2) (get_app h (T := [Cell.lst (sts R)])) hp (by omega) (many := (R.length : Int) + 1) (by omega) (by omega)
    rw [set_app h] at e1
    have hw' : w = (T.set p (Cell.lst P1)).length := by rw [List.length_set]; exact hw
    have l1 : (T.set p (Cell.lst P1) ++ [Cell.lst (sts R)])[lt]? = some (Cell.lst (sts ts)) := get_app (set_keep hl hpl)
    obtain ⟨t0, tr, rfl⟩ : ∃ t0 tr, ts = t0 :: tr := by
      match ts, hts with
      | [a, b, c, d], _ => exact ⟨a, [b, c, d], rfl⟩
    have g0 : gIx (.ref lt) (.int 0) (T.set p (Cell.lst P1) ++ [Cell.lst (sts R)]) = some (.str t0, T.set p (Cell.lst P1) ++ [Cell.lst (sts R)]) := gIx_lst (lstAt_lst l1) (atI_nat (j := 0) rfl)
    have gw : (T.set p (Cell.lst P1) ++ [Cell.lst (sts R)])[w]? = some (Cell.lst (sts R)) := get_end' hw'
    have gi : gInsert (.ref w) [.int d, D.str t0] (T.set p (Cell.lst P1) ++ [Cell.lst (sts R)]) = some (.non, T.set p (Cell.lst P1) ++ [Cell.lst (sts (R.take d.toNat ++ [t0] ++ R.drop d.toNat))]) := by
      show (match (T.set p (Cell.lst P1) ++ [Cell.lst (sts R)])[w]? with
        | some (.lst xs) => if xs.length < LIM ∧ 0 ≤ d ∧ d < 2 ^ 63 then some (D.non, (T.set p (Cell.lst P1) ++ [Cell.lst (sts R)]).set w (.lst (xs.take d.toNat ++ [D.str t0] ++ xs.drop d.toNat))) else none
        | _ => none) = _
      rw [gw]
      show (if (sts R).length < LIM ∧ 0 ≤ d ∧ d < 2 ^ 63 then some (D.non, (T.set p (Cell.lst P1) ++ [Cell.lst (sts R)]).set w (.lst ((sts R).take d.toNat ++ [D.str t0] ++ (sts R).drop d.toNat))) else none) = _
      rw [if_pos ⟨by rw [sts_len]; show _ < 16777216; omega, a1, by omega⟩, set_end' hw', sts_app, sts_app]
      unfold sts
      rw [List.map_take, List.map_drop]
      rfl
    have ty0 : tyD (T ++ [Cell.lst (sts R)]) (.ref w) = some .lst := tyD_lst gw0
    have ty := tyD_lst gw
    have lR : (R.take d.toNat ++ [t0] ++ R.drop d.toNat).length = R.length + 1 := by
      rw [List.length_append, List.length_append, List.length_take, List.length_drop]
      simp only [List.length_singleton]
      omega
    obtain ⟨P', R', x', q1, q2, q3, q4⟩ := sloop2 n hts hA hpl (v2 := v2) (v3 := v3) (v4 := v4) (v5 := v5) (v6 := v6) (y := y) r (lo + 1) (N + 1) (T.set p (Cell.lst P1)) P1 (R.take d.toNat ++ [t0] ++ R.drop d.toNat) (some (.int lo)) hw' (get_set h) (set_keep hl hpl) hp1 (by omega) (fun z hz => by
      rcases List.mem_append.mp hz with q | q
      · rcases List.mem_append.mp q with q | q
        · exact hR z (List.mem_of_mem_take q)
        · rw [List.mem_singleton.mp q]; exact hA _ (List.mem_cons_self ..)
      · exact hR z (List.mem_of_mem_drop q)) (by rw [lR]; omega)
    refine ⟨P', R', x', by rw [show N + (r + 1) = N + 1 + r by omega]; exact q1, by rw [q2, lR]; omega, q3, ?_⟩
    rw [List.set_set] at q4
    rw [rng_succ, runF_cons chk_nil (d := .int lo) (ρ1 := [some (.ref p), some (.ref lt), v2, v3, v4, v5, v6, some (.ref w), some (.int lo), y]) (S1 := T ++ [Cell.lst (sts R)]) (ρ2 := [some (.ref p), some (.ref lt), v2, v3, v4, v5, v6, some (.ref w), some (.int lo), y]) (S2 := T.set p (Cell.lst P1) ++ [Cell.lst (sts (R.take d.toNat ++ [t0] ++ R.drop d.toNat))]) rfl ?_, q4]
    walk_at "ev"
    rw [ty0]
    walk_at "ev"
    rw [gl]
    walk_at "ev"
    rw [e1]
    walk_at "ev"
    rw [g0]
    walk_at "ev"
    rw [gi]
    walk_at "ev"
end Lw

set_option Elab.async false
set_option linter.all false
set_option maxRecDepth 100000
namespace Lw
open PySem L2 Dl
local macro_rules | `(tactic| walk_at "ev") => `(tactic| simp (disch := first | omega | assumption | (simp only [List.length_cons, List.length_nil]; omega) | (simp only [List.length_cons, List.length_nil])) only [sQ_, sP_, sE_, sR_, sIf_, sN_, sA_, tgO_nx, nm_, tgIx_, eC_, eV0, eV1, e1_, e2_, eB_, eF_, aN_, aC_, eMt_, eSl_, oN_, oI_, tV_, tE_, tA_, tO_, tN_, eIf_, eAnd_, eOr_, eNot_, eCh_,
  seq_nx, seq_rt, seq_bk, seq_ct, seq_ex, toR_some, toR_none, toT_some, truD_bl, truD_int, truD_tup, tyD_str, tyD_tup, tyD_int, tyD_bl, tyD_non,
  kE_, kR_, kIf_t, kIf_f, kN_, kA_, kIx1_, kIx2_, kIx3_, kE1_, kE21_, kE2_, kB_, kF_, kC1_, kC_, kM1_, kM2_, kM_, kS1_, kS2_, kS3_, kO_, kV_, kT_, kAn_t, kAn_f, kOr_t, kOr_f, kNo_, kIfE_t, kIfE_f, kVa_, kVa2_t, kVa2_f, kVo_, kVo2_t, kVo2_f, kVn_, kVn2_, kH_, kH1_, kH2_t, kH2_f, kH3_,
  List.getElem?_cons_zero, List.getElem?_cons_succ, List.set_cons_zero, List.set_cons_succ, gAdd_int, gAdd_str, gSub_int, gMul_l, gMul_r, gFdiv_int, gMod_int, gLt_int, gLe_int, gGt_int, gGe_int, gInt_int, gAbs_int, gLen_tup, gLen_str, gTpl_, gLsd_,
  Bool.false_eq_true, if_true, if_false, reduceIte, Option.map_some, Option.bind_some, gEq_int, gNe_int, gEq_str, gNe_str, Bool.not_true, Bool.not_false, decide_true, decide_false, List.length_singleton, List.length_cons, List.length_nil, List.map_cons, List.map_nil, Nat.sub_self, List.replicate_zero, List.append_nil, List.cons_append, List.nil_append, List.replicate_succ, Nat.reduceSub, Nat.reduceAdd, Nat.add_zero, Nat.zero_add, tgT_, tgU_, tgL0, tgL1, eTab_, kTab_, sX_])
local macro_rules | `(tactic| walk_at "evs") => `(tactic| simp (disch := first | omega | assumption | (simp only [List.length_cons, List.length_nil]; omega) | (simp only [List.length_cons, List.length_nil])) only [sQ_, sP_, sE_, sR_, sIf_, sN_, sA_, tgO_nx, nm_, tgIx_, eC_, eV0, eV1, e1_, e2_, eB_, eF_, aN_, aC_, eMt_, eSl_, oN_, oI_, tV_, tE_, tA_, tO_, tN_, eIf_, eAnd_, eOr_, eNot_, eCh_,
  seq_nx, seq_rt, seq_bk, seq_ct, seq_ex, toR_some, toR_none, toT_some, truD_bl, truD_int, truD_tup, tyD_str, tyD_tup, tyD_int, tyD_bl, tyD_non,
  kE_, kR_, kIf_t, kIf_f, kN_, kA_, kIx1_, kIx2_, kIx3_, kE1_, kE21_, kE2_, kB_, kF_, kC1_, kC_, kM1_, kM2_, kM_, kS1_, kS2_, kS3_, kO_, kV_, kT_, kAn_t, kAn_f, kOr_t, kOr_f, kNo_, kIfE_t, kIfE_f, kVa_, kVa2_t, kVa2_f, kVo_, kVo2_t, kVo2_f, kVn_, kVn2_, kH_, kH1_, kH2_t, kH2_f, kH3_,
  List.getElem?_cons_zero, List.getElem?_cons_succ, List.set_cons_zero, List.set_cons_succ, gAdd_int, gAdd_str, gSub_int, gMul_l, gMul_r, gFdiv_int, gMod_int, gLt_int, gLe_int, gGt_int, gGe_int, gInt_int, gAbs_int, gLen_tup, gLen_str, gTpl_, gLsd_,
  Bool.false_eq_true, if_true, if_false, reduceIte, Option.map_some, Option.bind_some, gEq_int, gNe_int, gEq_str, gNe_str, Bool.not_true, Bool.not_false, decide_true, decide_false, List.length_singleton, List.length_cons, List.length_nil, List.map_cons, List.map_nil, Nat.sub_self, List.replicate_zero, List.append_nil, List.cons_append, List.nil_append, List.replicate_succ, Nat.reduceSub, Nat.reduceAdd, Nat.add_zero, Nat.zero_add, tgT_, tgU_, tgL0, tgL1, eTab_, kTab_, sX_, *])
theorem sized_int {pl tt : Int} (p0 : 1 ≤ pl) (p1 : pl ≤ 4) (t0 : 38 ≤ tt) (t1 : tt ≤ 44) : ∃ le mo : Int, 1 + (if tt - 41 + pl > 0 then tt - 41 + pl else 0) / pl = le ∧ (if tt / pl < 40 then tt / pl else 40) = mo ∧ 1 ≤ le ∧ le ≤ mo ∧ mo ≤ 40 ∧ ∀ z, le ≤ z → z ≤ mo → 0 ≤ tt - pl * z ∧ tt - pl * z + pl ≤ 40 := by
  refine ⟨_, _, rfl, rfl, ?_⟩
  have h : pl = 1 ∨ pl = 2 ∨ pl = 3 ∨ pl = 4 := by omega
  rcases h with rfl | rfl | rfl | rfl
  · split <;> split <;> refine ⟨by omega, by omega, by omega, fun z _ _ => ⟨by omega, by omega⟩⟩
  · split <;> split <;> refine ⟨by omega, by omega, by omega, fun z _ _ => ⟨by omega, by omega⟩⟩
  · split <;> split <;> refine ⟨by omega, by omega, by omega, fun z _ _ => ⟨by omega, by omega⟩⟩
  · split <;> split <;> refine ⟨by omega, by omega, by omega, fun z _ _ => ⟨by omega, by omega⟩⟩
theorem sized_spec (n : Nat) {N p lt : Nat} {T : Store} {P : List D} {ts : List Str} (h : T[p]? = some (Cell.lst P)) (hl : T[lt]? = some (Cell.lst (sts ts))) (hts : ts.length = 4) (hA : ∀ t ∈ ts, AtS t) (hpl : p ≠ lt) (hp : Pool N P) (hN : N ≤ 100000) (hT : SOK T) :
    ∃ r U xs ys, Two T p (N + 6000) r U xs ys ∧ tab (n + 5) ._law_sized [.ref p, .ref lt] T = .ok (.ref r) U := by
  obtain ⟨d1, P1, hp1, a1, b1, e1⟩ := draw_spec (n + 2) h hp (by omega) (many := 4) (by decide) (by decide)
  obtain ⟨d2, P2, hp2, a2, b2, e2⟩ := draw_spec (n + 2) (get_set h (d := .lst P1)) hp1 (by omega) (many := 7) (by decide) (by decide)
  rw [List.set_set] at e2
  obtain ⟨le, mo, hle, hmo, le1, lm, mo40, hz⟩ := sized_int (pl := 1 + d1) (tt := 38 + d2) (by omega) (by omega) (by omega) (by omega)
  obtain ⟨d3, P3, hp3, a3, b3, e3⟩ := draw_spec (n + 2) (get_set h (d := .lst P2)) hp2 (by omega) (many := mo - le + 1) (by omega) (by omega)
  rw [List.set_set] at e3
  obtain ⟨z0, z1⟩ := hz (le + d3) (by omega) (by omega)
  generalize hpv : (1 + d1 : Int) = pl at *
  generalize htv : (38 + d2 : Int) = tt at *
  generalize hzv : (le + d3 : Int) = sz at *
  have p4 : 1 ≤ pl ∧ pl ≤ 4 := by omega
  have h3 : (T.set p (Cell.lst P3))[p]? = some (Cell.lst P3) := get_set h
  have T3 := hT.set (i := p) (c := Cell.lst P3) hp3.flat
  obtain ⟨P4, R4, x4, y4, hp4, r4, ra4, e4⟩ := sloop1 n (w := T.length) (v2 := some (.int pl)) (v3 := some (.int tt)) (v4 := some (.int le)) (v5 := some (.int mo)) (v6 := some (.int sz)) hts hA hpl (tt - pl * sz).toNat 0 _ (T.set p (Cell.lst P3)) P3 [] none none (by rw [List.length_set]) h3 (set_keep hl hpl) hp3 (by omega) T3 (fun _ h => nomatch h) (by show 0 + _ ≤ _; omega)
  rw [List.set_set] at e4
  obtain ⟨P5, R5, x5, hp5, r5, ra5, e5⟩ := sloop2 n (w := T.length) (v2 := some (.int pl)) (v3 := some (.int tt)) (v4 := some (.int le)) (v5 := some (.int mo)) (v6 := some (.int sz)) (y := y4) hts hA hpl pl.toNat 0 _ (T.set p (Cell.lst P4)) P4 R4 x4 (by rw [List.length_set]) (get_set h) (set_keep hl hpl) hp4 (by omega) ra4 (by rw [r4]; show 0 + _ + _ ≤ _; omega)
  rw [List.set_set] at e5
  have T5 := hT.set (i := p) (c := Cell.lst P5) hp5.flat
  have lw : (T.set p (Cell.lst P5) ++ [Cell.lst (sts R5)]).length = T.length + 1 := by rw [List.length_append, List.length_set]; rfl
  obtain ⟨P6, ys, hp6, y6, ya, e6⟩ := places_comp n (ρ := wipeD [some (.ref p), some (.ref lt), some (.int pl), some (.int tt), some (.int le), some (.int mo), some (.int sz), some (.ref T.length), x5, y4] [8]) (g := .one 8) hts hA hpl (fun d => ⟨_, rfl, rfl, rfl⟩) (rng 0 sz.toNat) [] (T.set p (Cell.lst P5) ++ [Cell.lst (sts R5)]) P5 _ (get_app (get_set h)) (get_app (set_keep hl hpl)) hp5 (by rw [rng_length]; omega) (by rw [rng_length]; show 0 + _ ≤ _; omega) (T5.pushF (c := Cell.lst (sts R5)) (sts_flat _))
  rw [rng_length] at hp6 y6
  rw [set_app (get_set h), List.set_set, lw, List.nil_append] at e6
  have lr : R4.length = (tt - pl * sz).toNat := by rw [r4]; show 0 + _ = _; omega
  have tw := two_mk (p := p) (N := N + 6000) (xs := R5) (ys := ys) hT (hp6.mono (by omega)) (by omega) (by omega) (by omega) (by omega) ra5 ya
  refine ⟨_, _, R5, ys, tw, (runB_rt (np := 2) (ns := 10) (ds := [.ref p, .ref lt]) (g := b__law_sized (tab (n + 4))) rfl ?_).trans (two_cmp tw hT)⟩
  have mm : ∀ S, gMul (.int pl) (.int sz) S = some (.int (pl * sz), S) := fun S => gMul_l (by omega) (by omega)
  show b__law_sized (tab (n + 4)) [some (.ref p), some (.ref lt), none, none, none, none, none, none, none, none] T = _
  unfold b__law_sized
  refine seq_step (ρ' := [some (.ref p), some (.ref lt), some (.int pl), none, none, none, none, none, none, none]) (S' := T.set p (Cell.lst P1)) (by walk_at "ev"; rw [e1]; walk_at "ev"; rw [hpv]) ?_
  refine seq_step (ρ' := [some (.ref p), some (.ref lt), some (.int pl), some (.int tt), none, none, none, none, none, none]) (S' := T.set p (Cell.lst P2)) (by walk_at "ev"; rw [e2]; walk_at "ev"; rw [htv]) ?_
  refine seq_step (ρ' := [some (.ref p), some (.ref lt), some (.int pl), some (.int tt), some (.int le), none, none, none, none, none]) (S' := T.set p (Cell.lst P2)) (by
    walk_at "ev"
    rw [show gMax2 [.int 0, .int (tt - 41 + pl)] (T.set p (Cell.lst P2)) = some (.int (if tt - 41 + pl > 0 then tt - 41 + pl else 0), T.set p (Cell.lst P2)) from rfl]
    walk_at "ev"
    rw [hle]) ?_
  refine seq_step (ρ' := [some (.ref p), some (.ref lt), some (.int pl), some (.int tt), some (.int le), some (.int mo), none, none, none, none]) (S' := T.set p (Cell.lst P2)) (by
    walk_at "ev"
    rw [show gMin2 [.int 40, .int (tt / pl)] (T.set p (Cell.lst P2)) = some (.int (if tt / pl < 40 then tt / pl else 40), T.set p (Cell.lst P2)) from rfl, hmo]
    walk_at "ev") ?_
  refine seq_step (ρ' := [some (.ref p), some (.ref lt), some (.int pl), some (.int tt), some (.int le), some (.int mo), some (.int sz), none, none, none]) (S' := T.set p (Cell.lst P3)) (by walk_at "ev"; rw [e3]; walk_at "ev"; rw [hzv]) ?_
  refine seq_step (ρ' := [some (.ref p), some (.ref lt), some (.int pl), some (.int tt), some (.int le), some (.int mo), some (.int sz), some (.ref T.length), none, none]) (S' := T.set p (Cell.lst P3) ++ [Cell.lst []]) (by walk_at "ev"; rw [List.length_set]) ?_
  refine seq_step (ρ' := [some (.ref p), some (.ref lt), some (.int pl), some (.int tt), some (.int le), some (.int mo), some (.int sz), some (.ref T.length), x4, y4]) (S' := T.set p (Cell.lst P4) ++ [Cell.lst (sts R4)]) (by
    rw [sF_ok (iR1_ok (j := tt - pl * sz) (S' := T.set p (Cell.lst P3) ++ [Cell.lst []]) (by walk_at "ev") (by omega) (by omega))]
    exact e4) ?_
  refine seq_step (ρ' := [some (.ref p), some (.ref lt), some (.int pl), some (.int tt), some (.int le), some (.int mo), some (.int sz), some (.ref T.length), x5, y4]) (S' := T.set p (Cell.lst P5) ++ [Cell.lst (sts R5)]) (by
    rw [sF_ok (iR1_ok (j := pl) (S' := T.set p (Cell.lst P4) ++ [Cell.lst (sts R4)]) (by walk_at "ev") (by omega) (by omega))]
    exact e5) ?_
  have ec : eLc [8] (iR1 (eV 6)) (.one 8) tYesD (eF (tab (n + 4) ._law_place) (aC (eV 0) (aC (eV 1) aN))) [some (.ref p), some (.ref lt), some (.int pl), some (.int tt), some (.int le), some (.int mo), some (.int sz), some (.ref T.length), x5, y4] (T.set p (Cell.lst P5) ++ [Cell.lst (sts R5)]) = .ok (.ref (T.length + 1)) (T.set p (Cell.lst P6) ++ [Cell.lst (sts R5)] ++ [Cell.lst (sts ys)]) := by
    rw [eLc_ok (iR1_ok (j := sz) (S' := T.set p (Cell.lst P5) ++ [Cell.lst (sts R5)]) (by walk_at "ev") (by omega) (by omega)), lw]
    exact e6
  have l6 : (T.set p (Cell.lst P6) ++ [Cell.lst (sts R5)] ++ [Cell.lst (sts ys)]).length = T.length + 2 := by rw [List.length_append, List.length_append, List.length_set]; rfl
  walk_at "ev"
  rw [ec]
  walk_at "ev"
  rw [l6]
theorem two_rows (n : Nat) {N p lt : Nat} {T : Store} {P : List D} {ts : List Str} {v2 v6 : Option D} {ma sz : Int} (h : T[p]? = some (Cell.lst P)) (hl : T[lt]? = some (Cell.lst (sts ts))) (hts : ts.length = 4) (hA : ∀ t ∈ ts, AtS t) (hpl : p ≠ lt) (hp : Pool N P) (hN : N ≤ 100000) (hT : SOK T) (m0 : 1 ≤ ma) (m1 : ma ≤ 40) (s0 : 1 ≤ sz) (s1 : sz ≤ 40) :
    ∃ r U xs ys, Two T p (N + 3000) r U xs ys ∧ sQ (sN 5 (eLc [6] (iR1 (eV 3)) (.one 6) tYesD (eF (tab (n + 4) ._law_place) (aC (eV 0) (aC (eV 1) aN)))))
  (sR (eB gLsd (aC (eV 5) (aC (eLc [6] (iR1 (eV 4)) (.one 6) tYesD (eF (tab (n + 4) ._law_place) (aC (eV 0) (aC (eV 1) aN)))) aN)))) [some (.ref p), some (.ref lt), v2, some (.int ma), some (.int sz), none, v6] T = .rt (.ref r) U := by
  obtain ⟨P1, xs, hp1, x1, xa, e1⟩ := places_comp n (ρ := wipeD [some (.ref p), some (.ref lt), v2, some (.int ma), some (.int sz), none, v6] [6]) (g := .one 6) hts hA hpl (fun d => ⟨_, rfl, rfl, rfl⟩) (rng 0 ma.toNat) [] T P _ h hl hp (by rw [rng_length]; omega) (by rw [rng_length]; show 0 + _ ≤ _; omega) hT
  rw [rng_length] at hp1 x1
  rw [List.nil_append] at e1
  have T1 := hT.set (i := p) (c := Cell.lst P1) hp1.flat
  obtain ⟨P2, ys, hp2, y1, ya, e2⟩ := places_comp n (ρ := wipeD [some (.ref p), some (.ref lt), v2, some (.int ma), some (.int sz), some (.ref T.length), v6] [6]) (g := .one 6) hts hA hpl (fun d => ⟨_, rfl, rfl, rfl⟩) (rng 0 sz.toNat) [] (T.set p (Cell.lst P1) ++ [Cell.lst (sts xs)]) P1 _ (get_app (get_set h)) (get_app (set_keep hl hpl)) hp1 (by rw [rng_length]; omega) (by rw [rng_length]; show 0 + _ ≤ _; omega) (T1.pushF (c := Cell.lst (sts xs)) (sts_flat _))
  rw [rng_length] at hp2 y1
  have lw : (T.set p (Cell.lst P1) ++ [Cell.lst (sts xs)]).length = T.length + 1 := by rw [List.length_append, List.length_set]; rfl
  rw [set_app (get_set h), List.set_set, lw, List.nil_append] at e2
  have tw := two_mk (p := p) (N := N + 3000) (xs := xs) (ys := ys) hT (hp2.mono (by omega)) (by omega) (by omega) (by omega) (by omega) xa ya
  refine ⟨_, _, xs, ys, tw, ?_⟩
  have ec1 : eLc [6] (iR1 (eV 3)) (.one 6) tYesD (eF (tab (n + 4) ._law_place) (aC (eV 0) (aC (eV 1) aN))) [some (.ref p), some (.ref lt), v2, some (.int ma), some (.int sz), none, v6] T = .ok (.ref T.length) (T.set p (Cell.lst P1) ++ [Cell.lst (sts xs)]) := by
    rw [eLc_ok (iR1_ok (j := ma) (S' := T) (by walk_at "ev") (by omega) (by omega))]
    exact e1
  have ec2 : eLc [6] (iR1 (eV 4)) (.one 6) tYesD (eF (tab (n + 4) ._law_place) (aC (eV 0) (aC (eV 1) aN))) [some (.ref p), some (.ref lt), v2, some (.int ma), some (.int sz), some (.ref T.length), v6] (T.set p (Cell.lst P1) ++ [Cell.lst (sts xs)]) = .ok (.ref (T.length + 1)) (T.set p (Cell.lst P2) ++ [Cell.lst (sts xs)] ++ [Cell.lst (sts ys)]) := by
    rw [eLc_ok (iR1_ok (j := sz) (S' := T.set p (Cell.lst P1) ++ [Cell.lst (sts xs)]) (by walk_at "ev") (by omega) (by omega)), lw]
    exact e2
  have l6 : (T.set p (Cell.lst P2) ++ [Cell.lst (sts xs)] ++ [Cell.lst (sts ys)]).length = T.length + 2 := by rw [List.length_append, List.length_append, List.length_set]; rfl
  refine seq_step (ρ' := [some (.ref p), some (.ref lt), v2, some (.int ma), some (.int sz), some (.ref T.length), v6]) (S' := T.set p (Cell.lst P1) ++ [Cell.lst (sts xs)]) (by walk_at "ev"; rw [ec1]; walk_at "ev") ?_
  walk_at "ev"
  rw [ec2]
  walk_at "ev"
  rw [l6]
theorem texts_spec (n : Nat) {N p lt : Nat} {T : Store} {P : List D} {ts : List Str} (h : T[p]? = some (Cell.lst P)) (hl : T[lt]? = some (Cell.lst (sts ts))) (hts : ts.length = 4) (hA : ∀ t ∈ ts, AtS t) (hpl : p ≠ lt) (hp : Pool N P) (hN : N ≤ 90000) (hT : SOK T) :
    ∃ r U xs ys, Two T p (N + 7000) r U xs ys ∧ tab (n + 6) ._law_texts [.ref p, .ref lt] T = .ok (.ref r) U := by
  obtain ⟨d1, P1, hp1, a1, b1, e1⟩ := draw_spec (n + 3) h hp (by omega) (many := 8) (by decide) (by decide)
  have h1 : (T.set p (Cell.lst P1))[p]? = some (Cell.lst P1) := get_set h
  have T1 := hT.set (i := p) (c := Cell.lst P1) hp1.flat
  have fin : ∀ r U xs ys, Two T p (N + 7000) r U xs ys → b__law_texts (tab (n + 5)) [some (.ref p), some (.ref lt), none, none, none, none, none] T = .rt (.ref r) U → ∃ r U xs ys, Two T p (N + 7000) r U xs ys ∧ tab (n + 6) ._law_texts [.ref p, .ref lt] T = .ok (.ref r) U := fun r U xs ys tw e =>
    ⟨r, U, xs, ys, tw, (runB_rt (np := 2) (ns := 7) (ds := [.ref p, .ref lt]) (g := b__law_texts (tab (n + 5))) rfl e).trans (two_cmp tw hT)⟩
  by_cases h5 : 5 < d1
  · obtain ⟨r, U, xs, ys, tw, es⟩ := sized_spec n h1 (set_keep hl hpl) hts hA hpl hp1 (by omega) T1
    refine fin r U xs ys (tw.set.mono (by omega)) ?_
    unfold b__law_texts
    refine seq_step (ρ' := [some (.ref p), some (.ref lt), some (.int d1), none, none, none, none]) (S' := T.set p (Cell.lst P1)) (by walk_at "ev"; rw [e1]; walk_at "ev") ?_
    rw [sQ_]
    walk_at "ev"
    rw [decide_eq_true h5]
    walk_at "ev"
    rw [es]
    walk_at "ev"
  · obtain ⟨d2, P2, hp2, a2, b2, e2⟩ := draw_spec (n + 3) h1 hp1 (by omega) (many := 8) (by decide) (by decide)
    rw [List.set_set] at e2
    obtain ⟨d3, P3, hp3, a3, b3, e3⟩ := draw_spec (n + 3) (get_set h (d := .lst P2)) hp2 (by omega) (many := 5) (by decide) (by decide)
    rw [List.set_set] at e3
    obtain ⟨ma, sz, P4, hp4, m0, m1, s0, s1, e4⟩ : ∃ ma sz P4, Pool (N + 6) P4 ∧ 1 ≤ ma ∧ ma ≤ 40 ∧ 1 ≤ sz ∧ sz ≤ 40 ∧ sIf (tE (Dl.e2 gEq (eV 2) (eC (.int 5)))) (sQ (sN 3 (Dl.e2 gAdd (eC (.int 9)) (eF (tab (n + 5) ._law_draw) (aC (eV 0) (aC (eC (.int 32)) aN)))))
        (sN 4 (Dl.e2 gAdd (eC (.int 1)) (eF (tab (n + 5) ._law_draw) (aC (eV 0) (aC (eC (.int 40)) aN)))))) sP [some (.ref p), some (.ref lt), some (.int d1), some (.int (1 + d2)), some (.int (1 + d3)), none, none] (T.set p (Cell.lst P3)) = .nx [some (.ref p), some (.ref lt), some (.int d1), some (.int ma), some (.int sz), none, none] (T.set p (Cell.lst P4)) := by
      by_cases hd : d1 = 5
      · obtain ⟨d4, P4, hp4, a4, b4, e4⟩ := draw_spec (n + 3) (get_set h (d := .lst P3)) hp3 (by omega) (many := 32) (by decide) (by decide)
        rw [List.set_set] at e4
        obtain ⟨d5, P5, hp5, a5, b5, e5⟩ := draw_spec (n + 3) (get_set h (d := .lst P4)) hp4 (by omega) (many := 40) (by decide) (by decide)
        rw [List.set_set] at e5
        subst hd
        refine ⟨9 + d4, 1 + d5, P5, hp5.mono (by omega), by omega, by omega, by omega, by omega, ?_⟩
        walk_at "ev"
        simp only [beq_self_eq_true, kIf_t]
        walk_at "ev"
        rw [e4]
        walk_at "ev"
        rw [e5]
        walk_at "ev"
      · refine ⟨1 + d2, 1 + d3, P3, hp3.mono (by omega), by omega, by omega, by omega, by omega, ?_⟩
        walk_at "ev"
        rw [beq_eq_false_iff_ne.mpr hd]
        walk_at "ev"
    obtain ⟨r, U, xs, ys, tw, er⟩ := two_rows (n + 1) (v2 := some (.int d1)) (v6 := none) (ma := ma) (sz := sz) (get_set h (d := .lst P4)) (set_keep hl hpl) hts hA hpl hp4 (by omega) (hT.set (i := p) (c := Cell.lst P4) hp4.flat) m0 m1 s0 s1
    refine fin r U xs ys (tw.set.mono (by omega)) ?_
    unfold b__law_texts
    refine seq_step (ρ' := [some (.ref p), some (.ref lt), some (.int d1), none, none, none, none]) (S' := T.set p (Cell.lst P1)) (by walk_at "ev"; rw [e1]; walk_at "ev") ?_
    refine seq_step (ρ' := [some (.ref p), some (.ref lt), some (.int d1), none, none, none, none]) (S' := T.set p (Cell.lst P1)) (by walk_at "ev"; rw [decide_eq_false h5]; walk_at "ev") ?_
    refine seq_step (ρ' := [some (.ref p), some (.ref lt), some (.int d1), some (.int (1 + d2)), none, none, none]) (S' := T.set p (Cell.lst P2)) (by walk_at "ev"; rw [e2]; walk_at "ev") ?_
    refine seq_step (ρ' := [some (.ref p), some (.ref lt), some (.int d1), some (.int (1 + d2)), some (.int (1 + d3)), none, none]) (S' := T.set p (Cell.lst P3)) (by walk_at "ev"; rw [e3]; walk_at "ev") ?_
    refine seq_step e4 ?_
    exact er
end Lw

set_option Elab.async false
set_option linter.all false
set_option maxRecDepth 100000
namespace Lw
open PySem L2 Dl
local macro_rules | `(tactic| walk_at "ev") => `(tactic| simp (disch := first | omega | assumption | (simp only [List.length_cons, List.length_nil]; omega) | (simp only [List.length_cons, List.length_nil])) only [sQ_, sP_, sE_, sR_, sIf_, sN_, sA_, tgO_nx, nm_, tgIx_, eC_, eV0, eV1, e1_, e2_, eB_, eF_, aN_, aC_, eMt_, eSl_, oN_, oI_, tV_, tE_, tA_, tO_, tN_, eIf_, eAnd_, eOr_, eNot_, eCh_,
  seq_nx, seq_rt, seq_bk, seq_ct, seq_ex, toR_some, toR_none, toT_some, truD_bl, truD_int, truD_tup, tyD_str, tyD_tup, tyD_int, tyD_bl, tyD_non,
  kE_, kR_, kIf_t, kIf_f, kN_, kA_, kIx1_, kIx2_, kIx3_, kE1_, kE21_, kE2_, kB_, kF_, kC1_, kC_, kM1_, kM2_, kM_, kS1_, kS2_, kS3_, kO_, kV_, kT_, kAn_t, kAn_f, kOr_t, kOr_f, kNo_, kIfE_t, kIfE_f, kVa_, kVa2_t, kVa2_f, kVo_, kVo2_t, kVo2_f, kVn_, kVn2_, kH_, kH1_, kH2_t, kH2_f, kH3_,
  List.getElem?_cons_zero, List.getElem?_cons_succ, List.set_cons_zero, List.set_cons_succ, gAdd_int, gAdd_str, gSub_int, gMul_l, gMul_r, gFdiv_int, gMod_int, gLt_int, gLe_int, gGt_int, gGe_int, gInt_int, gAbs_int, gLen_tup, gLen_str, gTpl_, gLsd_,
  Bool.false_eq_true, if_true, if_false, reduceIte, Option.map_some, Option.bind_some, gEq_int, gNe_int, gEq_str, gNe_str, Bool.not_true, Bool.not_false, decide_true, decide_false, List.length_singleton, List.length_cons, List.length_nil, List.map_cons, List.map_nil, Nat.sub_self, List.replicate_zero, List.append_nil, List.cons_append, List.nil_append, List.replicate_succ, Nat.reduceSub, Nat.reduceAdd, Nat.add_zero, Nat.zero_add, tgT_, tgU_, tgL0, tgL1, eTab_, kTab_, sX_])
local macro_rules | `(tactic| walk_at "evs") => `(tactic| simp (disch := first | omega | assumption | (simp only [List.length_cons, List.length_nil]; omega) | (simp only [List.length_cons, List.length_nil])) only [sQ_, sP_, sE_, sR_, sIf_, sN_, sA_, tgO_nx, nm_, tgIx_, eC_, eV0, eV1, e1_, e2_, eB_, eF_, aN_, aC_, eMt_, eSl_, oN_, oI_, tV_, tE_, tA_, tO_, tN_, eIf_, eAnd_, eOr_, eNot_, eCh_,
  seq_nx, seq_rt, seq_bk, seq_ct, seq_ex, toR_some, toR_none, toT_some, truD_bl, truD_int, truD_tup, tyD_str, tyD_tup, tyD_int, tyD_bl, tyD_non,
  kE_, kR_, kIf_t, kIf_f, kN_, kA_, kIx1_, kIx2_, kIx3_, kE1_, kE21_, kE2_, kB_, kF_, kC1_, kC_, kM1_, kM2_, kM_, kS1_, kS2_, kS3_, kO_, kV_, kT_, kAn_t, kAn_f, kOr_t, kOr_f, kNo_, kIfE_t, kIfE_f, kVa_, kVa2_t, kVa2_f, kVo_, kVo2_t, kVo2_f, kVn_, kVn2_, kH_, kH1_, kH2_t, kH2_f, kH3_,
  List.getElem?_cons_zero, List.getElem?_cons_succ, List.set_cons_zero, List.set_cons_succ, gAdd_int, gAdd_str, gSub_int, gMul_l, gMul_r, gFdiv_int, gMod_int, gLt_int, gLe_int, gGt_int, gGe_int, gInt_int, gAbs_int, gLen_tup, gLen_str, gTpl_, gLsd_,
  Bool.false_eq_true, if_true, if_false, reduceIte, Option.map_some, Option.bind_some, gEq_int, gNe_int, gEq_str, gNe_str, Bool.not_true, Bool.not_false, decide_true, decide_false, List.length_singleton, List.length_cons, List.length_nil, List.map_cons, List.map_nil, Nat.sub_self, List.replicate_zero, List.append_nil, List.cons_append, List.nil_append, List.replicate_succ, Nat.reduceSub, Nat.reduceAdd, Nat.add_zero, Nat.zero_add, tgT_, tgU_, tgL0, tgL1, eTab_, kTab_, sX_, *])
/-! ## the law -/
theorem ok_imp {P Q : Str → Prop} (h : ∀ t, P t → Q t) : ∀ k : KT, k.ok P → k.ok Q
  | .leaf t, q => h t q
  | .node s a b, ⟨q1, q2, q3⟩ => ⟨q1, ok_imp h a q2, ok_imp h b q3⟩
theorem cmp_bl {n : Nat} {b : Bool} {S : Store} : ∃ T, cmp n (.bl b) S = .ok (.bl b) T := by
  unfold cmp
  split
  · exact ⟨_, if_pos rfl⟩
  · exact ⟨_, rfl⟩
theorem law_at (M : Nat) (hM : 79 ≤ M) (ns : List Int) : ∃ S, tab (M + 1) .law [.ref 0] [.rol (ns.map D.int)] = .ok (.bl true) S := by
  have h0 : ([Cell.rol (ns.map D.int)] : Store)[0]? = some (Cell.rol (ns.map D.int)) := rfl
  have f0 : SOK [Cell.rol (ns.map D.int)] := fun c hc => by
    rw [List.mem_singleton.mp hc]
    refine cwf_flat ?_
    show flats (ns.map D.int) = true
    clear hc h0
    induction ns with
    | nil => rfl
    | cons n ns ih => exact ih
  generalize ([Cell.rol (ns.map D.int)] : Store) = U0 at h0 f0 ⊢
  -- the pool
  obtain ⟨p, U1, P, r1, p1, n1, hp, f1, e1⟩ : ∃ p U P, U[0]? = some (Cell.rol (ns.map D.int)) ∧ U[p]? = some (Cell.lst P) ∧ p ≠ 0 ∧ Pool 0 P ∧ SOK U ∧ tab M ._law_pool [.ref 0, .int 0] U0 = .ok (.ref p) U := by
    obtain ⟨P, hp, e⟩ := pool_spec (M - 2) h0 f0 0 (by decide)
    rw [show M - 2 + 2 = M by omega] at e
    exact ⟨_, _, P, get_app h0, get_end, Ne.symm (ne_end h0), hp, f0.pushF hp.flat, e⟩
  -- the lot
  obtain ⟨lt, U2, P2, ts, r2, p2, l2, nl, hp2, h4, hA, f2, e2⟩ : ∃ l U P ts, U[0]? = some (Cell.rol (ns.map D.int)) ∧ U[p]? = some (Cell.lst P) ∧ U[l]? = some (Cell.lst (sts ts)) ∧ p ≠ l ∧ Pool 100 P ∧ ts.length = 4 ∧ (∀ t ∈ ts, AtS t) ∧ SOK U ∧ tab M ._law_lot [.ref p] U1 = .ok (.ref l) U := by
    obtain ⟨ts, P', q1, q2, q3, q4⟩ := lot_spec (M - 4) p1 hp (by decide) f1
    rw [show M - 4 + 4 = M by omega] at q4
    exact ⟨_, _, P', ts, get_app (set_keep r1 n1), get_app (get_set p1), get_end' (by rw [List.length_set]), ne_end p1, q1, q2, q3, (f1.set (i := p) (c := Cell.lst P') q1.flat).pushF (sts_flat _), q4⟩
  -- the texts
  obtain ⟨r, a, b, U3, P3, xs, ys, r3, p3, l3, rr3, a3, b3, hp3, x1, x2, y1, y2, xa, ya, na, nb, f3, e3⟩ : ∃ r a b U P xs ys, U[0]? = some (Cell.rol (ns.map D.int)) ∧ U[p]? = some (Cell.lst P) ∧ U[lt]? = some (Cell.lst (sts ts)) ∧ U[r]? = some (Cell.lst [.ref a, .ref b]) ∧ U[a]? = some (Cell.lst (sts xs)) ∧ U[b]? = some (Cell.lst (sts ys)) ∧ Pool 7100 P ∧ 1 ≤ xs.length ∧ xs.length ≤ 40 ∧ 1 ≤ ys.length ∧ ys.length ≤ 40 ∧ (∀ t ∈ xs, AtS t) ∧ (∀ t ∈ ys, AtS t) ∧ p ≠ a ∧ p ≠ b ∧ SOK U ∧ tab M ._law_texts [.ref p, .ref lt] U2 = .ok (.ref r) U := by
    obtain ⟨r, U, xs, ys, tw, e⟩ := texts_spec (M - 6) p2 l2 h4 hA nl hp2 (by decide) f2
    rw [show M - 6 + 6 = M by omega] at e
    obtain ⟨P', G, hp', hU⟩ := tw.u
    obtain ⟨a, b, g1, g2, g3, g4, g5⟩ := tw.at_
    have lp := get_lt p2
    exact ⟨r, a, b, U, P', xs, ys, by rw [hU]; exact get_app (set_keep r2 n1), by rw [hU]; exact get_app (get_set p2), by rw [hU]; exact get_app (set_keep l2 nl), g1, g2, g3, hp', tw.x1, tw.x2, tw.y1, tw.y2, tw.xa, tw.ya, by omega, by omega, tw.ok, e⟩
  obtain ⟨t0, t1, tr, rfl⟩ : ∃ t0 t1 tr, ts = t0 :: t1 :: tr := by
    match ts, h4 with
    | [a, b, c, d], _ => exact ⟨a, b, [c, d], rfl⟩
  have q0 : ∀ {U : Store}, U[lt]? = some (Cell.lst (sts (t0 :: t1 :: tr))) → gIx (.ref lt) (.int 0) U = some (.str t0, U) := fun h => gIx_lst (lstAt_lst h) (atI_nat (j := 0) rfl)
  have q1 : ∀ {U : Store}, U[lt]? = some (Cell.lst (sts (t0 :: t1 :: tr))) → gIx (.ref lt) (.int 1) U = some (.str t1, U) := fun h => gIx_lst (lstAt_lst h) (atI_nat (j := 1) rfl)
  -- the atom
  obtain ⟨x, U4, r4, l4, a4, b4, hx, f4, e4⟩ : ∃ x U, U[0]? = some (Cell.rol (ns.map D.int)) ∧ U[lt]? = some (Cell.lst (sts (t0 :: t1 :: tr))) ∧ U[a]? = some (Cell.lst (sts xs)) ∧ U[b]? = some (Cell.lst (sts ys)) ∧ AtS x ∧ SOK U ∧
      sN 3 (Dl.e2 gIx (eB gLsd (aC (Dl.e2 gIx (eV 2) (eC (.int 0))) (aC (Dl.e2 gIx (eV 2) (eC (.int 0))) (aC (Dl.e2 gIx (eV 2) (eC (.int 0))) (aC (Dl.e2 gIx (Dl.e2 gAdd (eSl (eV 2) (oI (eC (.int 1))) oN) (eB gLsd (aC (eF (tab M ._law_atom) (aC (eV 1) aN)) aN))) (eF (tab M ._law_draw) (aC (eV 1) (aC (eC (.int 4)) aN)))) aN))))) (eF (tab M ._law_draw) (aC (eV 1) (aC (eC (.int 4)) aN))))
      [some (.ref 0), some (.ref p), some (.ref lt), none, none, none, some (.ref a), some (.ref b)] U3 = .nx [some (.ref 0), some (.ref p), some (.ref lt), some (.str x), none, none, some (.ref a), some (.ref b)] U := by
    have s1 := gSl_l (lo := some ((1 : Nat) : Int)) (hi := none) (lstAt_lst l3)
    rw [cut_hi (by rw [h4]; decide)] at s1
    generalize hdr : (t0 :: t1 :: tr).drop 1 = dr at s1
    have ld : dr.length = 3 := by rw [← hdr, List.length_drop, h4]
    have hdA : ∀ t ∈ dr, AtS t := fun t ht => hA t (List.mem_of_mem_drop (hdr ▸ ht))
    have f31 := f3.pushF (c := Cell.lst (sts dr)) (sts_flat _)
    obtain ⟨b5, m5, P5, hp5, hb5, m50, m51, e5⟩ := atom_spec (M - 3) (get_app p3 (T := [Cell.lst (sts dr)])) hp3 (by decide) f31
    rw [show M - 3 + 3 = M by omega, set_app p3] at e5
    have g6 : (U3.set p (Cell.lst P5) ++ [Cell.lst (sts dr)] ++ [Cell.lst [.str (atT b5 m5)]])[U3.length]? = some (Cell.lst (sts dr)) := get_app (get_end' (by rw [List.length_set]))
    have s2 := gAdd_lst (l := U3.length) (k := (U3.set p (Cell.lst P5) ++ [Cell.lst (sts dr)]).length) (xs := sts dr) (ys := sts [atT b5 m5]) g6 get_end (by rw [sts_len, sts_len]; show _ + 1 ≤ _; omega)
    rw [← sts_app] at s2
    generalize hla : (U3.set p (Cell.lst P5) ++ [Cell.lst (sts dr)] ++ [Cell.lst [.str (atT b5 m5)]]).length = la at s2
    have eG : U3.set p (Cell.lst P5) ++ [Cell.lst (sts dr)] ++ [Cell.lst [.str (atT b5 m5)]] ++ [Cell.lst (sts (dr ++ [atT b5 m5]))] = U3.set p (Cell.lst P5) ++ [Cell.lst (sts dr), Cell.lst [.str (atT b5 m5)], Cell.lst (sts (dr ++ [atT b5 m5]))] := by simp
    have gla : ∀ Q, (U3.set p (Cell.lst Q) ++ [Cell.lst (sts dr), Cell.lst [.str (atT b5 m5)], Cell.lst (sts (dr ++ [atT b5 m5]))])[la]? = some (Cell.lst (sts (dr ++ [atT b5 m5]))) := fun Q => by
      have e : U3.set p (Cell.lst Q) ++ [Cell.lst (sts dr), Cell.lst [.str (atT b5 m5)], Cell.lst (sts (dr ++ [atT b5 m5]))] = U3.set p (Cell.lst Q) ++ [Cell.lst (sts dr)] ++ [Cell.lst [.str (atT b5 m5)]] ++ [Cell.lst (sts (dr ++ [atT b5 m5]))] := by simp
      rw [e]
      exact get_end' (by rw [← hla]; simp only [List.length_append, List.length_set])
    rw [eG] at s2
    obtain ⟨d6, P6, hp6, a6, b6, e6⟩ := draw_spec (M - 2) (get_app (get_set p3) (T := [Cell.lst (sts dr), Cell.lst [.str (atT b5 m5)], Cell.lst (sts (dr ++ [atT b5 m5]))])) hp5 (by omega) (many := 4) (by decide) (by decide)
    rw [show M - 2 + 2 = M by omega, set_app (get_set p3), List.set_set] at e6
    obtain ⟨v, hv, hvm⟩ := atI_in (xs := sts (dr ++ [atT b5 m5])) a6 (by rw [sts_len, List.length_append, ld]; exact b6)
    obtain ⟨t, ht, rfl⟩ := List.mem_map.mp hvm
    have htA : AtS t := (List.mem_append.mp ht).elim (hdA t) fun q => List.mem_singleton.mp q ▸ ⟨b5, m5, rfl, hb5, m50, m51⟩
    have g7 := gIx_lst (lstAt_lst (gla P6)) hv
    have Gf : ∀ y ∈ [Cell.lst (sts dr), Cell.lst [.str (atT b5 m5)], Cell.lst (sts (dr ++ [atT b5 m5]))], Cell.flat y = true := fun y hy => by
      rcases List.mem_cons.mp hy with rfl | hy
      · exact sts_flat _
      rcases List.mem_cons.mp hy with rfl | hy
      · rfl
      · rw [List.mem_singleton.mp hy]; exact sts_flat _
    generalize hG : [Cell.lst (sts dr), Cell.lst [.str (atT b5 m5)], Cell.lst (sts (dr ++ [atT b5 m5]))] = G at *
    have ty0 : SOK (U3.set p (Cell.lst P6) ++ G) := (f3.set (i := p) (c := Cell.lst P6) hp6.flat).app Gf
    obtain ⟨d8, P8, hp8, a8, b8, e8⟩ := draw_spec (M - 2) (get_app (get_app (get_set p3)) : (U3.set p (Cell.lst P6) ++ G ++ [Cell.lst (sts [t0, t0, t0, t])])[p]? = some (Cell.lst P6)) hp6 (by omega) (many := 4) (by decide) (by decide)
    rw [show M - 2 + 2 = M by omega, set_app (get_app (get_set p3)), set_app (get_set p3), List.set_set] at e8
    obtain ⟨w, hw, hwm⟩ := atI_in (xs := sts [t0, t0, t0, t]) a8 b8
    obtain ⟨x, hx, rfl⟩ := List.mem_map.mp hwm
    have hxA : AtS x := by
      have h0 := hA t0 (List.mem_cons_self ..)
      rcases List.mem_cons.mp hx with rfl | hx
      · exact h0
      rcases List.mem_cons.mp hx with rfl | hx
      · exact h0
      rcases List.mem_cons.mp hx with rfl | hx
      · exact h0
      · exact List.mem_singleton.mp hx ▸ htA
    have g9 : gIx (.ref (U3.set p (Cell.lst P6) ++ G).length) (.int d8) (U3.set p (Cell.lst P8) ++ G ++ [Cell.lst (sts [t0, t0, t0, t])]) = some (.str x, U3.set p (Cell.lst P8) ++ G ++ [Cell.lst (sts [t0, t0, t0, t])]) := gIx_lst (lstAt_lst (get_end' (by simp only [List.length_append, List.length_set]))) hw
    have f8 : SOK (U3.set p (Cell.lst P8) ++ G ++ [Cell.lst (sts [t0, t0, t0, t])]) := ((f3.set (i := p) (c := Cell.lst P8) hp8.flat).app Gf).pushF (sts_flat _)
    have kp : ∀ {i : Nat} {c : Cell}, p ≠ i → U3[i]? = some c → (U3.set p (Cell.lst P8) ++ G ++ [Cell.lst (sts [t0, t0, t0, t])])[i]? = some c := fun hn h => get_app (get_app (set_keep h hn))
    refine ⟨x, _, kp n1 r3, kp nl l3, kp na a3, kp nb b3, hxA, f8, ?_⟩
    walk_at "ev"
    rw [q0 l3]
    walk_at "ev"
    rw [q0 l3]
    walk_at "ev"
    rw [q0 l3]
    walk_at "ev"
    rw [show gSl (.ref lt) (some 1) none U3 = some (.ref U3.length, U3 ++ [Cell.lst (sts dr)]) from s1]
    walk_at "ev"
    rw [e5]
    walk_at "ev"
    rw [s2]
    walk_at "ev"
    rw [e6]
    walk_at "ev"
    rw [g7]
    walk_at "ev"
    rw [show tab M ._law_draw [.ref p, .int 4] (U3.set p (Cell.lst P6) ++ G ++ [Cell.lst [.str t0, .str t0, .str t0, .str t]]) = _ from e8]
    walk_at "ev"
    rw [g9]
    walk_at "ev"
  -- the first kind
  obtain ⟨K, U5, r5, l5, a5, b5, kx, ko, f5, e5, e5'⟩ : ∃ K U, U[0]? = some (Cell.rol (ns.map D.int)) ∧ U[lt]? = some (Cell.lst (sts (t0 :: t1 :: tr))) ∧ U[a]? = some (Cell.lst (sts xs)) ∧ U[b]? = some (Cell.lst (sts ys)) ∧ KT.at_ K = xs ∧ KT.ok AtS K ∧ SOK U ∧ ∃ q V, tab M ._law_pool [.ref 0, .int 1] U4 = .ok (.ref q) V ∧ tab M ._law_bracket [.ref q, .ref a] V = .ok K.d U := by
    obtain ⟨Q, hq, e⟩ := pool_spec (M - 2) r4 f4 1 (by decide)
    rw [show M - 2 + 2 = M by omega] at e
    obtain ⟨K, Q', q1, q2, q3, q4⟩ := bracket_spec (M - 43) 40 xs (by omega) x1 xa (Ne.symm (ne_end a4)) get_end (get_app a4) hq (by omega) (by omega) (f4.pushF hq.flat)
    rw [show M - 43 + 40 + 3 = M by omega, set_end] at q4
    exact ⟨K, _, get_app r4, get_app l4, get_app a4, get_app b4, q2, q3, f4.pushF (c := Cell.lst Q') q1.flat, _, _, e, q4⟩
  obtain ⟨V5, e5, e5'⟩ := e5'
  -- the second
  obtain ⟨O, U6, l6, oy, oo, f6, q6, V6, e6, e6'⟩ : ∃ K U, U[lt]? = some (Cell.lst (sts (t0 :: t1 :: tr))) ∧ KT.at_ K = ys ∧ KT.ok AtS K ∧ SOK U ∧ ∃ q V, tab M ._law_pool [.ref 0, .int 2] U5 = .ok (.ref q) V ∧ tab M ._law_bracket [.ref q, .ref b] V = .ok K.d U := by
    obtain ⟨Q, hq, e⟩ := pool_spec (M - 2) r5 f5 2 (by decide)
    rw [show M - 2 + 2 = M by omega] at e
    obtain ⟨K, Q', q1, q2, q3, q4⟩ := bracket_spec (M - 43) 40 ys (by omega) y1 ya (Ne.symm (ne_end b5)) get_end (get_app b5) hq (by omega) (by omega) (f5.pushF hq.flat)
    rw [show M - 43 + 40 + 3 = M by omega, set_end] at q4
    exact ⟨K, _, get_app l5, q2, q3, f5.pushF (c := Cell.lst Q') q1.flat, _, _, e, q4⟩
  have gK := ok_imp (fun t h => AtS.good h) K ko
  have gO := ok_imp (fun t h => AtS.good h) O oo
  have kl : K.at_.length ≤ 40 := by rw [kx]; exact x2
  have ol : O.at_.length ≤ 40 := by rw [oy]; exact y2
  have t1A : AtS t1 := hA t1 (List.mem_cons_of_mem _ (List.mem_cons_self ..))
  have m1 := mirrored_spec K gK kl (M - 2) (by omega) U6 f6
  have m2 := mirrored_spec O gO ol (M - 2) (by omega) U6 f6
  have c1 := replaced_spec K O x gK gO hx.good kl ol (M - 3) (by omega) U6 f6
  have c2 := replaced_spec O K x gO gK hx.good ol kl (M - 3) (by omega) U6 f6
  have c3 := replaced_spec K O t1 gK gO t1A.good kl ol (M - 3) (by omega) U6 f6
  rw [show M - 2 + 2 = M by omega] at m1 m2
  rw [show M - 3 + 3 = M by omega] at c1 c2 c3
  have g1 := q1 l6
  obtain ⟨Sf, cf⟩ := cmp_bl (n := U0.length) (b := true) (S := U6)
  refine ⟨Sf, (runB_rt (np := 1) (ns := 8) (ds := [.ref 0]) (g := b_law (tab M)) (d := .bl true) (S' := U6) rfl ?_).trans cf⟩
  clear q1 q0
  show b_law (tab M) [some (.ref 0), none, none, none, none, none, none, none] U0 = _
  generalize tab M = F at *
  unfold b_law
  refine seq_step (ρ' := [some (.ref 0), some (.ref p), none, none, none, none, none, none]) (S' := U1) (by walk_at "ev"; rw [e1]; walk_at "ev") ?_
  refine seq_step (ρ' := [some (.ref 0), some (.ref p), some (.ref lt), none, none, none, none, none]) (S' := U2) (by walk_at "ev"; rw [e2]; walk_at "ev") ?_
  refine seq_step (ρ' := [some (.ref 0), some (.ref p), some (.ref lt), none, none, none, some (.ref a), some (.ref b)]) (S' := U3) (by
    walk_at "ev"
    rw [e3]
    walk_at "ev"
    rw [tgU_l (lstAt_lst rr3) rfl]
    walk_at "ev") ?_
  refine seq_step e4 ?_
  refine seq_step (ρ' := [some (.ref 0), some (.ref p), some (.ref lt), some (.str x), some K.d, none, some (.ref a), some (.ref b)]) (S' := U5) (by walk_at "ev"; rw [e5]; walk_at "ev"; rw [e5']; walk_at "ev") ?_
  refine seq_step (ρ' := [some (.ref 0), some (.ref p), some (.ref lt), some (.str x), some K.d, some O.d, some (.ref a), some (.ref b)]) (S' := U6) (by walk_at "ev"; rw [e6]; walk_at "ev"; rw [e6']; walk_at "ev") ?_
  refine seq_step (ρ' := [some (.ref 0), some (.ref p), some (.ref lt), some (.str x), some K.d, some O.d, some (.ref a), some (.ref b)]) (S' := U6) (by walk_at "ev"; rw [m1]; walk_at "ev"; rw [m2]; walk_at "ev") ?_
  refine seq_step (ρ' := [some (.ref 0), some (.ref p), some (.ref lt), some (.str x), some K.d, some O.d, some (.ref a), some (.ref b)]) (S' := U6) (by walk_at "ev"; rw [c1]; walk_at "ev"; rw [c2]; walk_at "ev") ?_
  walk_at "ev"
  rw [g1]
  walk_at "ev"
  rw [c3]
  walk_at "ev"
  rw [c1]
  walk_at "ev"
  rw [m1]
  walk_at "ev"
theorem good : ∀ ns : List Int, ns.length ≤ 63 → ∃ S, tab 80 .law [.ref 0] [.rol (ns.map D.int)] = .ok (.bl true) S := fun ns _ => law_at 79 (Nat.le_refl _) ns
end Lw

set_option Elab.async false
set_option linter.all false
set_option maxRecDepth 100000
namespace Lw
open PySem L2 Dl
/-! ## the text by places -/
def topS (i : Nat) : Stmt := PySem.Challenge.pw_wordfractions_k05_mirror_and_substitute.main.body.getD i (.Pass ⟨0, 0, 0, 0⟩)
abbrev st_size_of : Stmt := topS 8
abbrev nl_size_of : List Str := ["kind"]
abbrev st_atoms_of : Stmt := topS 9
abbrev nl_atoms_of : List Str := ["kind"]
abbrev st_count_of : Stmt := topS 10
abbrev nl_count_of : List Str := ["kind", "atom"]
abbrev st_mirror_kind : Stmt := topS 11
abbrev nl_mirror_kind : List Str := ["kind", "sign", "first", "second"]
abbrev st_put_kind : Stmt := topS 12
abbrev nl_put_kind : List Str := ["kind", "atom", "other", "sign", "first", "second"]
abbrev st_substitute_kind : Stmt := topS 13
abbrev nl_substitute_kind : List Str := ["kind", "atom", "other"]
abbrev st__law_cell : Stmt := topS 15
abbrev nl__law_cell : List Str := ["script", "k"]
abbrev st__law_mix : Stmt := topS 16
abbrev nl__law_mix : List Str := ["x"]
abbrev st__law_pool : Stmt := topS 17
abbrev nl__law_pool : List Str := ["script", "k", "cell"]
abbrev st__law_draw : Stmt := topS 18
abbrev nl__law_draw : List Str := ["pool", "many", "digit"]
abbrev st__law_atom : Stmt := topS 19
abbrev nl__law_atom : List Str := ["pool", "signs", "base", "k", "way"]
abbrev st__law_lot : Stmt := topS 20
abbrev nl__law_lot : List Str := ["pool", "first", "parts", "base", "number", "twin", "near"]
abbrev st__law_place : Stmt := topS 21
abbrev nl__law_place : List Str := ["pool", "lot", "pick"]
abbrev st__law_bracket : Stmt := topS 22
abbrev nl__law_bracket : List Str := ["pool", "texts", "left", "sign", "first"]
abbrev st__law_sized : Stmt := topS 23
abbrev nl__law_sized : List Str := ["pool", "lot", "places", "total", "least", "most", "size", "texts", "k", "text"]
abbrev st__law_texts : Stmt := topS 24
abbrev nl__law_texts : List Str := ["pool", "lot", "way", "many", "size", "texts", "k"]
abbrev st__law_is_atom : Stmt := topS 25
abbrev nl__law_is_atom : List Str := ["told", "base", "tail", "c"]
abbrev st__law_is_kind : Stmt := topS 26
abbrev nl__law_is_kind : List Str := ["told", "depth"]
abbrev st__law_row : Stmt := topS 27
abbrev nl__law_row : List Str := ["kind"]
abbrev st__law_last_row : Stmt := topS 28
abbrev nl__law_last_row : List Str := ["kind"]
abbrev st__law_mirrored : Stmt := topS 29
abbrev nl__law_mirrored : List Str := ["kind", "row", "entry", "told"]
abbrev st__law_replaced : Stmt := topS 30
abbrev nl__law_replaced : List Str := ["kind", "atom", "other", "told", "word", "kin", "beyond", "row", "entry"]
abbrev st_law : Stmt := topS 31
abbrev nl_law : List Str := ["script", "pool", "lot", "atom", "kind", "other", "texts", "others"]
theorem sc_size_of : FnScope nl_size_of ["kind"] (defScope st_size_of) := ⟨rfl, rfl, rfl, by decide +kernel, rfl, by decide +kernel, by decide +kernel⟩
theorem sc_atoms_of : FnScope nl_atoms_of ["kind"] (defScope st_atoms_of) := ⟨rfl, rfl, rfl, by decide +kernel, rfl, by decide +kernel, by decide +kernel⟩
theorem sc_count_of : FnScope nl_count_of ["kind", "atom"] (defScope st_count_of) := ⟨rfl, rfl, rfl, by decide +kernel, rfl, by decide +kernel, by decide +kernel⟩
theorem sc_mirror_kind : FnScope nl_mirror_kind ["kind"] (defScope st_mirror_kind) := ⟨rfl, rfl, rfl, by decide +kernel, rfl, by decide +kernel, by decide +kernel⟩
theorem sc_put_kind : FnScope nl_put_kind ["kind", "atom", "other"] (defScope st_put_kind) := ⟨rfl, rfl, rfl, by decide +kernel, rfl, by decide +kernel, by decide +kernel⟩
theorem sc_substitute_kind : FnScope nl_substitute_kind ["kind", "atom", "other"] (defScope st_substitute_kind) := ⟨rfl, rfl, rfl, by decide +kernel, rfl, by decide +kernel, by decide +kernel⟩
theorem sc__law_cell : FnScope nl__law_cell ["script", "k"] (defScope st__law_cell) := ⟨rfl, rfl, rfl, by decide +kernel, rfl, by decide +kernel, by decide +kernel⟩
theorem sc__law_mix : FnScope nl__law_mix ["x"] (defScope st__law_mix) := ⟨rfl, rfl, rfl, by decide +kernel, rfl, by decide +kernel, by decide +kernel⟩
theorem sc__law_pool : FnScope nl__law_pool ["script", "k"] (defScope st__law_pool) := ⟨rfl, rfl, rfl, by decide +kernel, rfl, by decide +kernel, by decide +kernel⟩
theorem sc__law_draw : FnScope nl__law_draw ["pool", "many"] (defScope st__law_draw) := ⟨rfl, rfl, rfl, by decide +kernel, rfl, by decide +kernel, by decide +kernel⟩
theorem sc__law_atom : FnScope nl__law_atom ["pool"] (defScope st__law_atom) := ⟨rfl, rfl, rfl, by decide +kernel, rfl, by decide +kernel, by decide +kernel⟩
theorem sc__law_lot : FnScope nl__law_lot ["pool"] (defScope st__law_lot) := ⟨rfl, rfl, rfl, by decide +kernel, rfl, by decide +kernel, by decide +kernel⟩
theorem sc__law_place : FnScope nl__law_place ["pool", "lot"] (defScope st__law_place) := ⟨rfl, rfl, rfl, by decide +kernel, rfl, by decide +kernel, by decide +kernel⟩
theorem sc__law_bracket : FnScope nl__law_bracket ["pool", "texts"] (defScope st__law_bracket) := ⟨rfl, rfl, rfl, by decide +kernel, rfl, by decide +kernel, by decide +kernel⟩
theorem sc__law_sized : FnScope nl__law_sized ["pool", "lot"] (defScope st__law_sized) := ⟨rfl, rfl, rfl, by decide +kernel, rfl, by decide +kernel, by decide +kernel⟩
theorem sc__law_texts : FnScope nl__law_texts ["pool", "lot"] (defScope st__law_texts) := ⟨rfl, rfl, rfl, by decide +kernel, rfl, by decide +kernel, by decide +kernel⟩
theorem sc__law_is_atom : FnScope nl__law_is_atom ["told"] (defScope st__law_is_atom) := ⟨rfl, rfl, rfl, by decide +kernel, rfl, by decide +kernel, by decide +kernel⟩
theorem sc__law_is_kind : FnScope nl__law_is_kind ["told", "depth"] (defScope st__law_is_kind) := ⟨rfl, rfl, rfl, by decide +kernel, rfl, by decide +kernel, by decide +kernel⟩
theorem sc__law_row : FnScope nl__law_row ["kind"] (defScope st__law_row) := ⟨rfl, rfl, rfl, by decide +kernel, rfl, by decide +kernel, by decide +kernel⟩
theorem sc__law_last_row : FnScope nl__law_last_row ["kind"] (defScope st__law_last_row) := ⟨rfl, rfl, rfl, by decide +kernel, rfl, by decide +kernel, by decide +kernel⟩
theorem sc__law_mirrored : FnScope nl__law_mirrored ["kind"] (defScope st__law_mirrored) := ⟨rfl, rfl, rfl, by decide +kernel, rfl, by decide +kernel, by decide +kernel⟩
theorem sc__law_replaced : FnScope nl__law_replaced ["kind", "atom", "other"] (defScope st__law_replaced) := ⟨rfl, rfl, rfl, by decide +kernel, rfl, by decide +kernel, by decide +kernel⟩
theorem sc_law : FnScope nl_law ["script"] (defScope st_law) := ⟨rfl, rfl, rfl, by decide +kernel, rfl, by decide +kernel, by decide +kernel⟩
theorem boot_isinstance_ : bootBuiltins "isinstance" = some (.builtin "isinstance") := by decide +kernel
theorem boot_str_ : bootBuiltins "str" = some (.type "str") := by decide +kernel
theorem boot_len_ : bootBuiltins "len" = some (.builtin "len") := by decide +kernel
theorem boot_int_ : bootBuiltins "int" = some (.type "int") := by decide +kernel
theorem boot_abs_ : bootBuiltins "abs" = some (.builtin "abs") := by decide +kernel
theorem boot_max_ : bootBuiltins "max" = some (.builtin "max") := by decide +kernel
theorem boot_min_ : bootBuiltins "min" = some (.builtin "min") := by decide +kernel
theorem boot_tuple_ : bootBuiltins "tuple" = some (.type "tuple") := by decide +kernel
theorem boot_ValueError_ : bootBuiltins "ValueError" = some (.type "ValueError") := by decide +kernel
/-- a module's constant -/
structure Kon (K : PySem.W.Frag) (mg : Str → Option Value) (x : Str) (d : D) (v : V) (u : Value) : Prop where
  m : mg x = some u
  r : RelV v u
  d : ∀ m H, RD K m H v d
structure Txt (w : World) (K : PySem.W.Frag) (mg : Str → Option Value) (f : FN → Addr) (fd : FN → FuncData) (cv : Nat → V) (cu : Nat → Value) (cl : Nat → Addr) (tb : Nat → Addr) : Prop where
  F_size_of : Fun K "size_of" "size_of" st_size_of (f .size_of) (fd .size_of)
  b_size_of : Binds K (fd .size_of) ["kind"] []
  m_size_of : mg "size_of" = some (.ref (f .size_of))
  F_atoms_of : Fun K "atoms_of" "atoms_of" st_atoms_of (f .atoms_of) (fd .atoms_of)
  b_atoms_of : Binds K (fd .atoms_of) ["kind"] []
  m_atoms_of : mg "atoms_of" = some (.ref (f .atoms_of))
  F_count_of : Fun K "count_of" "count_of" st_count_of (f .count_of) (fd .count_of)
  b_count_of : Binds K (fd .count_of) ["kind", "atom"] []
  m_count_of : mg "count_of" = some (.ref (f .count_of))
  F_mirror_kind : Fun K "mirror_kind" "mirror_kind" st_mirror_kind (f .mirror_kind) (fd .mirror_kind)
  b_mirror_kind : Binds K (fd .mirror_kind) ["kind"] []
  m_mirror_kind : mg "mirror_kind" = some (.ref (f .mirror_kind))
  F_put_kind : Fun K "put_kind" "put_kind" st_put_kind (f .put_kind) (fd .put_kind)
  b_put_kind : Binds K (fd .put_kind) ["kind", "atom", "other"] []
  m_put_kind : mg "put_kind" = some (.ref (f .put_kind))
  F_substitute_kind : Fun K "substitute_kind" "substitute_kind" st_substitute_kind (f .substitute_kind) (fd .substitute_kind)
  b_substitute_kind : Binds K (fd .substitute_kind) ["kind", "atom", "other"] []
  m_substitute_kind : mg "substitute_kind" = some (.ref (f .substitute_kind))
  F__law_cell : Fun K "_law_cell" "_law_cell" st__law_cell (f ._law_cell) (fd ._law_cell)
  b__law_cell : Binds K (fd ._law_cell) ["script", "k"] []
  m__law_cell : mg "_law_cell" = some (.ref (f ._law_cell))
  F__law_mix : Fun K "_law_mix" "_law_mix" st__law_mix (f ._law_mix) (fd ._law_mix)
  b__law_mix : Binds K (fd ._law_mix) ["x"] []
  m__law_mix : mg "_law_mix" = some (.ref (f ._law_mix))
  F__law_pool : Fun K "_law_pool" "_law_pool" st__law_pool (f ._law_pool) (fd ._law_pool)
  b__law_pool : Binds K (fd ._law_pool) ["script", "k"] []
  m__law_pool : mg "_law_pool" = some (.ref (f ._law_pool))
  F__law_draw : Fun K "_law_draw" "_law_draw" st__law_draw (f ._law_draw) (fd ._law_draw)
  b__law_draw : Binds K (fd ._law_draw) ["pool", "many"] []
  m__law_draw : mg "_law_draw" = some (.ref (f ._law_draw))
  F__law_atom : Fun K "_law_atom" "_law_atom" st__law_atom (f ._law_atom) (fd ._law_atom)
  b__law_atom : Binds K (fd ._law_atom) ["pool"] []
  m__law_atom : mg "_law_atom" = some (.ref (f ._law_atom))
  F__law_lot : Fun K "_law_lot" "_law_lot" st__law_lot (f ._law_lot) (fd ._law_lot)
  b__law_lot : Binds K (fd ._law_lot) ["pool"] []
  m__law_lot : mg "_law_lot" = some (.ref (f ._law_lot))
  F__law_place : Fun K "_law_place" "_law_place" st__law_place (f ._law_place) (fd ._law_place)
  b__law_place : Binds K (fd ._law_place) ["pool", "lot"] []
  m__law_place : mg "_law_place" = some (.ref (f ._law_place))
  F__law_bracket : Fun K "_law_bracket" "_law_bracket" st__law_bracket (f ._law_bracket) (fd ._law_bracket)
  b__law_bracket : Binds K (fd ._law_bracket) ["pool", "texts"] []
  m__law_bracket : mg "_law_bracket" = some (.ref (f ._law_bracket))
  F__law_sized : Fun K "_law_sized" "_law_sized" st__law_sized (f ._law_sized) (fd ._law_sized)
  b__law_sized : Binds K (fd ._law_sized) ["pool", "lot"] []
  m__law_sized : mg "_law_sized" = some (.ref (f ._law_sized))
  F__law_texts : Fun K "_law_texts" "_law_texts" st__law_texts (f ._law_texts) (fd ._law_texts)
  b__law_texts : Binds K (fd ._law_texts) ["pool", "lot"] []
  m__law_texts : mg "_law_texts" = some (.ref (f ._law_texts))
  F__law_is_atom : Fun K "_law_is_atom" "_law_is_atom" st__law_is_atom (f ._law_is_atom) (fd ._law_is_atom)
  b__law_is_atom : Binds K (fd ._law_is_atom) ["told"] []
  m__law_is_atom : mg "_law_is_atom" = some (.ref (f ._law_is_atom))
  F__law_is_kind : Fun K "_law_is_kind" "_law_is_kind" st__law_is_kind (f ._law_is_kind) (fd ._law_is_kind)
  b__law_is_kind : Binds K (fd ._law_is_kind) ["told", "depth"] []
  m__law_is_kind : mg "_law_is_kind" = some (.ref (f ._law_is_kind))
  F__law_row : Fun K "_law_row" "_law_row" st__law_row (f ._law_row) (fd ._law_row)
  b__law_row : Binds K (fd ._law_row) ["kind"] []
  m__law_row : mg "_law_row" = some (.ref (f ._law_row))
  F__law_last_row : Fun K "_law_last_row" "_law_last_row" st__law_last_row (f ._law_last_row) (fd ._law_last_row)
  b__law_last_row : Binds K (fd ._law_last_row) ["kind"] []
  m__law_last_row : mg "_law_last_row" = some (.ref (f ._law_last_row))
  F__law_mirrored : Fun K "_law_mirrored" "_law_mirrored" st__law_mirrored (f ._law_mirrored) (fd ._law_mirrored)
  b__law_mirrored : Binds K (fd ._law_mirrored) ["kind"] []
  m__law_mirrored : mg "_law_mirrored" = some (.ref (f ._law_mirrored))
  F__law_replaced : Fun K "_law_replaced" "_law_replaced" st__law_replaced (f ._law_replaced) (fd ._law_replaced)
  b__law_replaced : Binds K (fd ._law_replaced) ["kind", "atom", "other"] []
  m__law_replaced : mg "_law_replaced" = some (.ref (f ._law_replaced))
  F_law : Fun K "law" "law" st_law (f .law) (fd .law)
  b_law : Binds K (fd .law) ["script"] []
  m_law : mg "law" = some (.ref (f .law))
  n_isinstance : mg "isinstance" = none
  n_str : mg "str" = none
  n_len : mg "len" = none
  n_int : mg "int" = none
  n_abs : mg "abs" = none
  n_range : mg "range" = none
  n_max : mg "max" = none
  n_min : mg "min" = none
  n_tuple : mg "tuple" = none
  n_reversed : mg "reversed" = none
  n_ValueError : mg "ValueError" = none
  c_MOST : Kon K mg "MOST" k_MOST (cv 0) (cu 0)
  gm_SizeError : mg "SizeError" = some (.ref (cl 0))
  gm_WordsError : mg "WordsError" = some (.ref (cl 1))
  gm_FitError : mg "FitError" = some (.ref (cl 2))
  gm_KindError : mg "KindError" = some (.ref (cl 3))
  e_SizeError : XCls K mg "SizeError" [.type "ValueError", .type "Exception", .type "BaseException", .type "object"] "ValueError.__new__" (cl 0)
  x_SizeError_SizeError : PySem.W.exmOne K (.ref (cl 0)) (.ref (cl 0)) = some true
  q_SizeError : ExcC K (cl 0)
  i_SizeError_WordsError : PySem.W.kitOne K (.ref (cl 0)) (.ref (cl 1)) = some true
  i_SizeError_ValueError : PySem.W.kitOne K (.ref (cl 0)) (.type "ValueError") = some true
  i_SizeError_FitError : PySem.W.kitOne K (.ref (cl 0)) (.ref (cl 2)) = some false
  i_SizeError_KindError : PySem.W.kitOne K (.ref (cl 0)) (.ref (cl 3)) = some false
  tm_MIRRORED : mg "MIRRORED" = some (.ref (tb 0))
  t_MIRRORED : TabK K w (tb 0) k_MIRRORED
structure Oks (P : Program) (w : World) (K : PySem.W.Frag) (mg : Str → Option Value) (base : Heap) (f : FN → Addr) (fd : FN → FuncData) (n : Nat) : Prop where
  o_size_of : FnOk P w K mg base (L2.CX P w) n (f .size_of) (fd .size_of) ["kind"] (rdF ⟨K, mg, W0⟩ (tab n .size_of))
  o_atoms_of : FnOk P w K mg base (L2.CX P w) n (f .atoms_of) (fd .atoms_of) ["kind"] (rdF ⟨K, mg, W0⟩ (tab n .atoms_of))
  o_count_of : FnOk P w K mg base (L2.CX P w) n (f .count_of) (fd .count_of) ["kind", "atom"] (rdF ⟨K, mg, W0⟩ (tab n .count_of))
  o_mirror_kind : FnOk P w K mg base (L2.CX P w) n (f .mirror_kind) (fd .mirror_kind) ["kind"] (rdF ⟨K, mg, W0⟩ (tab n .mirror_kind))
  o_put_kind : FnOk P w K mg base (L2.CX P w) n (f .put_kind) (fd .put_kind) ["kind", "atom", "other"] (rdF ⟨K, mg, W0⟩ (tab n .put_kind))
  o_substitute_kind : FnOk P w K mg base (L2.CX P w) n (f .substitute_kind) (fd .substitute_kind) ["kind", "atom", "other"] (rdF ⟨K, mg, W0⟩ (tab n .substitute_kind))
  o__law_cell : FnOk P w K mg base (L2.CX P w) n (f ._law_cell) (fd ._law_cell) ["script", "k"] (rdF ⟨K, mg, W0⟩ (tab n ._law_cell))
  o__law_mix : FnOk P w K mg base (L2.CX P w) n (f ._law_mix) (fd ._law_mix) ["x"] (rdF ⟨K, mg, W0⟩ (tab n ._law_mix))
  o__law_pool : FnOk P w K mg base (L2.CX P w) n (f ._law_pool) (fd ._law_pool) ["script", "k"] (rdF ⟨K, mg, W0⟩ (tab n ._law_pool))
  o__law_draw : FnOk P w K mg base (L2.CX P w) n (f ._law_draw) (fd ._law_draw) ["pool", "many"] (rdF ⟨K, mg, W0⟩ (tab n ._law_draw))
  o__law_atom : FnOk P w K mg base (L2.CX P w) n (f ._law_atom) (fd ._law_atom) ["pool"] (rdF ⟨K, mg, W0⟩ (tab n ._law_atom))
  o__law_lot : FnOk P w K mg base (L2.CX P w) n (f ._law_lot) (fd ._law_lot) ["pool"] (rdF ⟨K, mg, W0⟩ (tab n ._law_lot))
  o__law_place : FnOk P w K mg base (L2.CX P w) n (f ._law_place) (fd ._law_place) ["pool", "lot"] (rdF ⟨K, mg, W0⟩ (tab n ._law_place))
  o__law_bracket : FnOk P w K mg base (L2.CX P w) n (f ._law_bracket) (fd ._law_bracket) ["pool", "texts"] (rdF ⟨K, mg, W0⟩ (tab n ._law_bracket))
  o__law_sized : FnOk P w K mg base (L2.CX P w) n (f ._law_sized) (fd ._law_sized) ["pool", "lot"] (rdF ⟨K, mg, W0⟩ (tab n ._law_sized))
  o__law_texts : FnOk P w K mg base (L2.CX P w) n (f ._law_texts) (fd ._law_texts) ["pool", "lot"] (rdF ⟨K, mg, W0⟩ (tab n ._law_texts))
  o__law_is_atom : FnOk P w K mg base (L2.CX P w) n (f ._law_is_atom) (fd ._law_is_atom) ["told"] (rdF ⟨K, mg, W0⟩ (tab n ._law_is_atom))
  o__law_is_kind : FnOk P w K mg base (L2.CX P w) n (f ._law_is_kind) (fd ._law_is_kind) ["told", "depth"] (rdF ⟨K, mg, W0⟩ (tab n ._law_is_kind))
  o__law_row : FnOk P w K mg base (L2.CX P w) n (f ._law_row) (fd ._law_row) ["kind"] (rdF ⟨K, mg, W0⟩ (tab n ._law_row))
  o__law_last_row : FnOk P w K mg base (L2.CX P w) n (f ._law_last_row) (fd ._law_last_row) ["kind"] (rdF ⟨K, mg, W0⟩ (tab n ._law_last_row))
  o__law_mirrored : FnOk P w K mg base (L2.CX P w) n (f ._law_mirrored) (fd ._law_mirrored) ["kind"] (rdF ⟨K, mg, W0⟩ (tab n ._law_mirrored))
  o__law_replaced : FnOk P w K mg base (L2.CX P w) n (f ._law_replaced) (fd ._law_replaced) ["kind", "atom", "other"] (rdF ⟨K, mg, W0⟩ (tab n ._law_replaced))
  o_law : FnOk P w K mg base (L2.CX P w) n (f .law) (fd .law) ["script"] (rdF ⟨K, mg, W0⟩ (tab n .law))
section
variable {P : Program} {w : World} {K : PySem.W.Frag} {mg : Str → Option Value} {base : Heap} {f : FN → Addr} {fd : FN → FuncData} {cv : Nat → V} {cu : Nat → Value} {cl tb : Nat → Addr} {n : Nat}
set_option maxHeartbeats 4000000 in
theorem ok_size_of (T : Txt w K mg f fd cv cu cl tb) (O : Oks P w K mg base f fd n) : FnOk P w K mg base (L2.CX P w) (n + 1) (f .size_of) (fd .size_of) ["kind"] (rdF ⟨K, mg, W0⟩ (tab (n + 1) .size_of)) :=
  fn_ok (N := nl_size_of) (g := b_size_of (tab n)) T.F_size_of sc_size_of fun cdv A outer s H E hr =>
    (t_cons (t_if (d_tv (d_callB (c_isi .str (by decide)) rfl T.n_isinstance boot_isinstance_ (d_aC (d_v 0) (d_aC (d_blt rfl T.n_str boot_str_ rfl) d_aN)))) (t_one (t_ret d_int)) t_nil)
    (t_one (t_ret (d_op o_add (d_call O.o_size_of hr rfl T.m_size_of T.F_size_of.kp T.b_size_of (fun σ => passAt (takes_of rfl rfl rfl rfl) σ) (d_aC (d_ix (d_v 0) d_int) d_aN)) (d_call O.o_size_of hr rfl T.m_size_of T.F_size_of.kp T.b_size_of (fun σ => passAt (takes_of rfl rfl rfl rfl) σ) (d_aC (d_ix (d_v 0) d_int) d_aN))))))
set_option maxHeartbeats 4000000 in
theorem ok_atoms_of (T : Txt w K mg f fd cv cu cl tb) (O : Oks P w K mg base f fd n) : FnOk P w K mg base (L2.CX P w) (n + 1) (f .atoms_of) (fd .atoms_of) ["kind"] (rdF ⟨K, mg, W0⟩ (tab (n + 1) .atoms_of)) :=
  fn_ok (N := nl_atoms_of) (g := b_atoms_of (tab n)) T.F_atoms_of sc_atoms_of fun cdv A outer s H E hr =>
    (t_cons (t_if (d_tv (d_callB (c_isi .str (by decide)) rfl T.n_isinstance boot_isinstance_ (d_aC (d_v 0) (d_aC (d_blt rfl T.n_str boot_str_ rfl) d_aN)))) (t_one (t_ret (d_tup (d_aC (d_v 0) d_aN)))) t_nil)
    (t_one (t_ret (d_op o_add (d_call O.o_atoms_of hr rfl T.m_atoms_of T.F_atoms_of.kp T.b_atoms_of (fun σ => passAt (takes_of rfl rfl rfl rfl) σ) (d_aC (d_ix (d_v 0) d_int) d_aN)) (d_call O.o_atoms_of hr rfl T.m_atoms_of T.F_atoms_of.kp T.b_atoms_of (fun σ => passAt (takes_of rfl rfl rfl rfl) σ) (d_aC (d_ix (d_v 0) d_int) d_aN))))))
set_option maxHeartbeats 4000000 in
theorem ok_count_of (T : Txt w K mg f fd cv cu cl tb) (O : Oks P w K mg base f fd n) : FnOk P w K mg base (L2.CX P w) (n + 1) (f .count_of) (fd .count_of) ["kind", "atom"] (rdF ⟨K, mg, W0⟩ (tab (n + 1) .count_of)) :=
  fn_ok (N := nl_count_of) (g := b_count_of (tab n)) T.F_count_of sc_count_of fun cdv A outer s H E hr =>
    (t_one (t_ret (d_m (T := .tup) PySem.F.plainAttrs_tuple PySem.F.slot_tuple_count PySem.F.type_tuple_count (by decide) (m_countT (r65 hr)) (d_call O.o_atoms_of hr rfl T.m_atoms_of T.F_atoms_of.kp T.b_atoms_of (fun σ => passAt (takes_of rfl rfl rfl rfl) σ) (d_aC (d_v 0) d_aN)) (d_aC (d_v 1) d_aN))))
set_option maxHeartbeats 4000000 in
theorem ok_mirror_kind (T : Txt w K mg f fd cv cu cl tb) (O : Oks P w K mg base f fd n) : FnOk P w K mg base (L2.CX P w) (n + 1) (f .mirror_kind) (fd .mirror_kind) ["kind"] (rdF ⟨K, mg, W0⟩ (tab (n + 1) .mirror_kind)) :=
  fn_ok (N := nl_mirror_kind) (g := b_mirror_kind (tab n)) T.F_mirror_kind sc_mirror_kind fun cdv A outer s H E hr =>
    (t_cons (t_if (d_tv (d_callB (c_isi .str (by decide)) rfl T.n_isinstance boot_isinstance_ (d_aC (d_v 0) (d_aC (d_blt rfl T.n_str boot_str_ rfl) d_aN)))) (t_one (t_ret (d_v 0))) t_nil)
    (t_cons (t_asg (d_v 0) (g_seq rfl (g_cons (g_nm (j := 1) sc_mirror_kind.nd) (g_cons (g_nm (j := 2) sc_mirror_kind.nd) (g_cons (g_nm (j := 3) sc_mirror_kind.nd) g_nil)))))
    (t_one (t_ret (d_tup (d_aC (d_tab T.t_MIRRORED rfl T.tm_MIRRORED (d_v 1)) (d_aC (d_call O.o_mirror_kind hr rfl T.m_mirror_kind T.F_mirror_kind.kp T.b_mirror_kind (fun σ => passAt (takes_of rfl rfl rfl rfl) σ) (d_aC (d_v 3) d_aN)) (d_aC (d_call O.o_mirror_kind hr rfl T.m_mirror_kind T.F_mirror_kind.kp T.b_mirror_kind (fun σ => passAt (takes_of rfl rfl rfl rfl) σ) (d_aC (d_v 2) d_aN)) d_aN))))))))
set_option maxHeartbeats 4000000 in
theorem ok_put_kind (T : Txt w K mg f fd cv cu cl tb) (O : Oks P w K mg base f fd n) : FnOk P w K mg base (L2.CX P w) (n + 1) (f .put_kind) (fd .put_kind) ["kind", "atom", "other"] (rdF ⟨K, mg, W0⟩ (tab (n + 1) .put_kind)) :=
  fn_ok (N := nl_put_kind) (g := b_put_kind (tab n)) T.F_put_kind sc_put_kind fun cdv A outer s H E hr =>
    (t_cons (t_if (d_tv (d_callB (c_isi .str (by decide)) rfl T.n_isinstance boot_isinstance_ (d_aC (d_v 0) (d_aC (d_blt rfl T.n_str boot_str_ rfl) d_aN)))) (t_cons (t_if (d_tcmp (o_eq hr.units) (d_v 0) (d_v 1)) (t_one (t_ret (d_v 2))) t_nil)
    (t_one (t_ret (d_v 0)))) t_nil)
    (t_cons (t_asg (d_v 0) (g_seq rfl (g_cons (g_nm (j := 3) sc_put_kind.nd) (g_cons (g_nm (j := 4) sc_put_kind.nd) (g_cons (g_nm (j := 5) sc_put_kind.nd) g_nil)))))
    (t_one (t_ret (d_tup (d_aC (d_v 3) (d_aC (d_call O.o_put_kind hr rfl T.m_put_kind T.F_put_kind.kp T.b_put_kind (fun σ => passAt (takes_of rfl rfl rfl rfl) σ) (d_aC (d_v 4) (d_aC (d_v 1) (d_aC (d_v 2) d_aN)))) (d_aC (d_call O.o_put_kind hr rfl T.m_put_kind T.F_put_kind.kp T.b_put_kind (fun σ => passAt (takes_of rfl rfl rfl rfl) σ) (d_aC (d_v 5) (d_aC (d_v 1) (d_aC (d_v 2) d_aN)))) d_aN))))))))
set_option maxHeartbeats 4000000 in
theorem ok_substitute_kind (T : Txt w K mg f fd cv cu cl tb) (O : Oks P w K mg base f fd n) : FnOk P w K mg base (L2.CX P w) (n + 1) (f .substitute_kind) (fd .substitute_kind) ["kind", "atom", "other"] (rdF ⟨K, mg, W0⟩ (tab (n + 1) .substitute_kind)) :=
  fn_ok (N := nl_substitute_kind) (g := b_substitute_kind (tab n)) T.F_substitute_kind sc_substitute_kind fun cdv A outer s H E hr =>
    (t_cons (t_if (d_tcmp o_gt (d_op o_add (d_call O.o_size_of hr rfl T.m_size_of T.F_size_of.kp T.b_size_of (fun σ => passAt (takes_of rfl rfl rfl rfl) σ) (d_aC (d_v 0) d_aN)) (d_op o_mul (d_call O.o_count_of hr rfl T.m_count_of T.F_count_of.kp T.b_count_of (fun σ => passAt (takes_of rfl rfl rfl rfl) σ) (d_aC (d_v 0) (d_aC (d_v 1) d_aN))) (d_op o_sub (d_call O.o_size_of hr rfl T.m_size_of T.F_size_of.kp T.b_size_of (fun σ => passAt (takes_of rfl rfl rfl rfl) σ) (d_aC (d_v 2) d_aN)) d_int))) (d_glob rfl T.c_MOST.m T.c_MOST.r T.c_MOST.d)) (t_one (t_raise rfl (takes_of rfl rfl rfl rfl) PySem.F.excBase_ValueError T.e_SizeError rfl)) t_nil)
    (t_one (t_ret (d_call O.o_put_kind hr rfl T.m_put_kind T.F_put_kind.kp T.b_put_kind (fun σ => passAt (takes_of rfl rfl rfl rfl) σ) (d_aC (d_v 0) (d_aC (d_v 1) (d_aC (d_v 2) d_aN)))))))
set_option maxHeartbeats 4000000 in
theorem ok__law_cell (T : Txt w K mg f fd cv cu cl tb) (O : Oks P w K mg base f fd n) : FnOk P w K mg base (L2.CX P w) (n + 1) (f ._law_cell) (fd ._law_cell) ["script", "k"] (rdF ⟨K, mg, W0⟩ (tab (n + 1) ._law_cell)) :=
  fn_ok (N := nl__law_cell) (g := b__law_cell (tab n)) T.F__law_cell sc__law_cell fun cdv A outer s H E hr =>
    (t_cons (t_if (d_tcmp o_lt (d_v 1) (d_callB c_len rfl T.n_len boot_len_ (d_aC (d_v 0) d_aN))) (t_one (t_ret (d_callT c_int rfl T.n_int boot_int_ (d_aC (d_ix (d_v 0) (d_v 1)) d_aN)))) t_nil)
    (t_one (t_ret d_int)))
set_option maxHeartbeats 4000000 in
theorem ok__law_mix (T : Txt w K mg f fd cv cu cl tb) (O : Oks P w K mg base f fd n) : FnOk P w K mg base (L2.CX P w) (n + 1) (f ._law_mix) (fd ._law_mix) ["x"] (rdF ⟨K, mg, W0⟩ (tab (n + 1) ._law_mix)) :=
  fn_ok (N := nl__law_mix) (g := b__law_mix (tab n)) T.F__law_mix sc__law_mix fun cdv A outer s H E hr =>
    (t_cons (t_set (j := 0) sc__law_mix.nd (d_op o_mod (d_callT c_int rfl T.n_int boot_int_ (d_aC (d_op o_add (d_op o_add (d_op o_mul (d_v 0) (d_v 0)) (d_op o_mul d_int (d_v 0))) d_int) d_aN)) d_int))
    (t_one (t_ret (d_op o_mod (d_callT c_int rfl T.n_int boot_int_ (d_aC (d_op o_add (d_op o_add (d_op o_mul (d_v 0) (d_v 0)) (d_op o_mul d_int (d_v 0))) d_int) d_aN)) d_int))))
set_option maxHeartbeats 4000000 in
theorem ok__law_pool (T : Txt w K mg f fd cv cu cl tb) (O : Oks P w K mg base f fd n) : FnOk P w K mg base (L2.CX P w) (n + 1) (f ._law_pool) (fd ._law_pool) ["script", "k"] (rdF ⟨K, mg, W0⟩ (tab (n + 1) ._law_pool)) :=
  fn_ok (N := nl__law_pool) (g := b__law_pool (tab n)) T.F__law_pool sc__law_pool fun cdv A outer s H E hr =>
    (t_cons (t_set (j := 2) sc__law_pool.nd (d_call O.o__law_cell hr rfl T.m__law_cell T.F__law_cell.kp T.b__law_cell (fun σ => passAt (takes_of rfl rfl rfl rfl) σ) (d_aC (d_v 0) (d_aC (d_v 1) d_aN))))
    (t_cons (t_if (d_tcmp o_ge (d_v 2) (d_op o_pow d_int d_int)) (t_one (t_ret (d_lst (d_aC (d_op o_sub (d_v 2) (d_op o_pow d_int d_int)) (d_aC (d_op o_mul d_int (d_op o_add (d_v 1) d_int)) (d_aC d_int d_aN)))))) t_nil)
    (t_one (t_ret (d_lst (d_aC d_int (d_aC (d_op o_add (d_op o_mod (d_callT c_int rfl T.n_int boot_int_ (d_aC (d_callB c_abs rfl T.n_abs boot_abs_ (d_aC (d_v 2) d_aN)) d_aN)) d_int) (d_op o_mul d_int (d_v 1))) (d_aC d_int d_aN))))))))
set_option maxHeartbeats 4000000 in
theorem ok__law_draw (T : Txt w K mg f fd cv cu cl tb) (O : Oks P w K mg base f fd n) : FnOk P w K mg base (L2.CX P w) (n + 1) (f ._law_draw) (fd ._law_draw) ["pool", "many"] (rdF ⟨K, mg, W0⟩ (tab (n + 1) ._law_draw)) :=
  fn_ok (N := nl__law_draw) (g := b__law_draw (tab n)) T.F__law_draw sc__law_draw fun cdv A outer s H E hr =>
    (t_cons (t_if (d_tcmp o_gt (d_ix (d_v 0) d_int) d_int) (t_cons (t_set (j := 2) sc__law_draw.nd (d_op o_mod (d_callT c_int rfl T.n_int boot_int_ (d_aC (d_ix (d_v 0) d_int) d_aN)) (d_v 1)))
    (t_cons (t_asg (d_op o_fdiv (d_ix (d_v 0) d_int) (d_v 1)) (g_ix (d_v 0) d_int))
    (t_one (t_ret (d_v 2))))) t_nil)
    (t_cons (t_asg (d_op o_add (d_ix (d_v 0) d_int) d_int) (g_ix (d_v 0) d_int))
    (t_one (t_ret (d_op o_mod (d_callT c_int rfl T.n_int boot_int_ (d_aC (d_op o_fdiv (d_call O.o__law_mix hr rfl T.m__law_mix T.F__law_mix.kp T.b__law_mix (fun σ => passAt (takes_of rfl rfl rfl rfl) σ) (d_aC (d_op o_add (d_ix (d_v 0) d_int) (d_op o_mul d_int (d_ix (d_v 0) d_int))) d_aN)) d_int) d_aN)) (d_v 1))))))
set_option maxHeartbeats 4000000 in
theorem ok__law_atom (T : Txt w K mg f fd cv cu cl tb) (O : Oks P w K mg base f fd n) : FnOk P w K mg base (L2.CX P w) (n + 1) (f ._law_atom) (fd ._law_atom) ["pool"] (rdF ⟨K, mg, W0⟩ (tab (n + 1) ._law_atom)) :=
  fn_ok (N := nl__law_atom) (g := b__law_atom (tab n)) T.F__law_atom sc__law_atom fun cdv A outer s H E hr =>
    (t_cons (t_set (j := 1) sc__law_atom.nd d_str)
    (t_cons (t_set (j := 2) sc__law_atom.nd (d_ix (d_v 1) (d_call O.o__law_draw hr rfl T.m__law_draw T.F__law_draw.kp T.b__law_draw (fun σ => passAt (takes_of rfl rfl rfl rfl) σ) (d_aC (d_v 0) (d_aC d_int d_aN)))))
    (t_cons (t_for (passes_of rfl) rfl (w_rng1 rfl T.n_range (d_ix (d_lst (d_aC d_int (d_aC d_int (d_aC d_int (d_aC d_int (d_aC d_int (d_aC d_int (d_aC d_int (d_aC d_int (d_aC d_int (d_aC d_int d_aN))))))))))) (d_call O.o__law_draw hr rfl T.m__law_draw T.F__law_draw.kp T.b__law_draw (fun σ => passAt (takes_of rfl rfl rfl rfl) σ) (d_aC (d_v 0) (d_aC d_int d_aN))))) (g_nm (j := 3) sc__law_atom.nd) (t_one (t_set (j := 2) sc__law_atom.nd (d_op o_add (d_v 2) (d_ix (d_v 1) (d_call O.o__law_draw hr rfl T.m__law_draw T.F__law_draw.kp T.b__law_draw (fun σ => passAt (takes_of rfl rfl rfl rfl) σ) (d_aC (d_v 0) (d_aC d_int d_aN))))))))
    (t_cons (t_set (j := 4) sc__law_atom.nd (d_call O.o__law_draw hr rfl T.m__law_draw T.F__law_draw.kp T.b__law_draw (fun σ => passAt (takes_of rfl rfl rfl rfl) σ) (d_aC (d_v 0) (d_aC d_int d_aN))))
    (t_cons (t_if (d_tcmp (o_eq hr.units) (d_v 4) d_int) (t_one (t_ret (d_op o_add (d_op o_add (d_v 2) d_str) (d_callT c_str rfl T.n_str boot_str_ (d_aC (d_op o_add d_int (d_call O.o__law_draw hr rfl T.m__law_draw T.F__law_draw.kp T.b__law_draw (fun σ => passAt (takes_of rfl rfl rfl rfl) σ) (d_aC (d_v 0) (d_aC d_int d_aN)))) d_aN))))) t_nil)
    (t_cons (t_if (d_tcmp (o_eq hr.units) (d_v 4) d_int) (t_one (t_ret (d_op o_add (d_op o_add (d_v 2) d_str) (d_callT c_str rfl T.n_str boot_str_ (d_aC (d_op o_add d_int (d_call O.o__law_draw hr rfl T.m__law_draw T.F__law_draw.kp T.b__law_draw (fun σ => passAt (takes_of rfl rfl rfl rfl) σ) (d_aC (d_v 0) (d_aC d_int d_aN)))) d_aN))))) t_nil)
    (t_one (t_ret (d_v 2)))))))))
set_option maxHeartbeats 4000000 in
theorem ok__law_lot (T : Txt w K mg f fd cv cu cl tb) (O : Oks P w K mg base f fd n) : FnOk P w K mg base (L2.CX P w) (n + 1) (f ._law_lot) (fd ._law_lot) ["pool"] (rdF ⟨K, mg, W0⟩ (tab (n + 1) ._law_lot)) :=
  fn_ok (N := nl__law_lot) (g := b__law_lot (tab n)) T.F__law_lot sc__law_lot fun cdv A outer s H E hr =>
    (t_cons (t_set (j := 1) sc__law_lot.nd (d_call O.o__law_atom hr rfl T.m__law_atom T.F__law_atom.kp T.b__law_atom (fun σ => passAt (takes_of rfl rfl rfl rfl) σ) (d_aC (d_v 0) d_aN)))
    (t_cons (t_set (j := 2) sc__law_lot.nd (d_op o_add (d_m (T := .str) PySem.F.plainAttrs_str PySem.F.slot_str_split PySem.F.type_str_split (by decide) m_split (d_v 1) (d_aC d_str d_aN)) (d_lst (d_aC d_str d_aN))))
    (t_cons (t_set (j := 3) sc__law_lot.nd (d_ix (d_v 2) d_int))
    (t_cons (t_set (j := 4) sc__law_lot.nd (d_callT c_int rfl T.n_int boot_int_ (d_aC (d_ix (d_v 2) d_int) d_aN)))
    (t_cons (t_set (j := 5) sc__law_lot.nd (d_op o_add (d_op o_add (d_v 3) d_str) (d_callT c_str rfl T.n_str boot_str_ (d_aC (d_op o_add (d_op o_mod (d_v 4) d_int) d_int) d_aN))))
    (t_cons (t_if (PW.pt (d_and (d_tcmp o_gt (d_v 4) d_int) (d_and1 (d_tcmp (o_eq hr.units) (d_call O.o__law_draw hr rfl T.m__law_draw T.F__law_draw.kp T.b__law_draw (fun σ => passAt (takes_of rfl rfl rfl rfl) σ) (d_aC (d_v 0) (d_aC d_int d_aN))) d_int)))) (t_one (t_set (j := 5) sc__law_lot.nd (d_v 3))) t_nil)
    (t_cons (t_set (j := 6) sc__law_lot.nd (d_op o_add (d_sl (d_v 3) d_oN (d_oI d_int)) (d_ix d_str (d_call O.o__law_draw hr rfl T.m__law_draw T.F__law_draw.kp T.b__law_draw (fun σ => passAt (takes_of rfl rfl rfl rfl) σ) (d_aC (d_v 0) (d_aC d_int d_aN))))))
    (t_cons (t_if (d_tcmp (o_eq hr.units) (d_call O.o__law_draw hr rfl T.m__law_draw T.F__law_draw.kp T.b__law_draw (fun σ => passAt (takes_of rfl rfl rfl rfl) σ) (d_aC (d_v 0) (d_aC d_int d_aN))) d_int) (t_one (t_set (j := 6) sc__law_lot.nd (d_op o_add (d_op o_add (d_v 6) d_str) (d_callT c_str rfl T.n_str boot_str_ (d_aC (d_op o_add d_int (d_call O.o__law_draw hr rfl T.m__law_draw T.F__law_draw.kp T.b__law_draw (fun σ => passAt (takes_of rfl rfl rfl rfl) σ) (d_aC (d_v 0) (d_aC d_int d_aN)))) d_aN))))) t_nil)
    (t_one (t_ret (d_lst (d_aC (d_v 1) (d_aC (d_v 5) (d_aC (d_v 6) (d_aC (d_call O.o__law_atom hr rfl T.m__law_atom T.F__law_atom.kp T.b__law_atom (fun σ => passAt (takes_of rfl rfl rfl rfl) σ) (d_aC (d_v 0) d_aN)) d_aN)))))))))))))))
set_option maxHeartbeats 4000000 in
theorem ok__law_place (T : Txt w K mg f fd cv cu cl tb) (O : Oks P w K mg base f fd n) : FnOk P w K mg base (L2.CX P w) (n + 1) (f ._law_place) (fd ._law_place) ["pool", "lot"] (rdF ⟨K, mg, W0⟩ (tab (n + 1) ._law_place)) :=
  fn_ok (N := nl__law_place) (g := b__law_place (tab n)) T.F__law_place sc__law_place fun cdv A outer s H E hr =>
    (t_cons (t_set (j := 2) sc__law_place.nd (d_call O.o__law_draw hr rfl T.m__law_draw T.F__law_draw.kp T.b__law_draw (fun σ => passAt (takes_of rfl rfl rfl rfl) σ) (d_aC (d_v 0) (d_aC d_int d_aN))))
    (t_cons (t_if (d_tcmp o_lt (d_v 2) d_int) (t_one (t_ret (d_ix (d_v 1) (d_v 2)))) t_nil)
    (t_cons (t_if (d_tcmp o_lt (d_v 2) d_int) (t_one (t_ret (d_ix (d_v 1) d_int))) t_nil)
    (t_one (t_ret (d_call O.o__law_atom hr rfl T.m__law_atom T.F__law_atom.kp T.b__law_atom (fun σ => passAt (takes_of rfl rfl rfl rfl) σ) (d_aC (d_v 0) d_aN)))))))
set_option maxHeartbeats 4000000 in
theorem ok__law_bracket (T : Txt w K mg f fd cv cu cl tb) (O : Oks P w K mg base f fd n) : FnOk P w K mg base (L2.CX P w) (n + 1) (f ._law_bracket) (fd ._law_bracket) ["pool", "texts"] (rdF ⟨K, mg, W0⟩ (tab (n + 1) ._law_bracket)) :=
  fn_ok (N := nl__law_bracket) (g := b__law_bracket (tab n)) T.F__law_bracket sc__law_bracket fun cdv A outer s H E hr =>
    (t_cons (t_if (d_tcmp (o_eq hr.units) (d_callB c_len rfl T.n_len boot_len_ (d_aC (d_v 1) d_aN)) d_int) (t_one (t_ret (d_ix (d_v 1) d_int))) t_nil)
    (t_cons (t_set (j := 2) sc__law_bracket.nd (d_op o_add d_int (d_call O.o__law_draw hr rfl T.m__law_draw T.F__law_draw.kp T.b__law_draw (fun σ => passAt (takes_of rfl rfl rfl rfl) σ) (d_aC (d_v 0) (d_aC (d_op o_sub (d_callB c_len rfl T.n_len boot_len_ (d_aC (d_v 1) d_aN)) d_int) d_aN)))))
    (t_cons (t_set (j := 3) sc__law_bracket.nd (d_ix d_str (d_call O.o__law_draw hr rfl T.m__law_draw T.F__law_draw.kp T.b__law_draw (fun σ => passAt (takes_of rfl rfl rfl rfl) σ) (d_aC (d_v 0) (d_aC d_int d_aN)))))
    (t_cons (t_set (j := 4) sc__law_bracket.nd (d_call O.o__law_bracket hr rfl T.m__law_bracket T.F__law_bracket.kp T.b__law_bracket (fun σ => passAt (takes_of rfl rfl rfl rfl) σ) (d_aC (d_v 0) (d_aC (d_sl (d_v 1) d_oN (d_oI (d_v 2))) d_aN))))
    (t_one (t_ret (d_tup (d_aC (d_v 3) (d_aC (d_v 4) (d_aC (d_call O.o__law_bracket hr rfl T.m__law_bracket T.F__law_bracket.kp T.b__law_bracket (fun σ => passAt (takes_of rfl rfl rfl rfl) σ) (d_aC (d_v 0) (d_aC (d_sl (d_v 1) (d_oI (d_v 2)) d_oN) d_aN))) d_aN))))))))))
set_option maxHeartbeats 4000000 in
theorem ok__law_sized (T : Txt w K mg f fd cv cu cl tb) (O : Oks P w K mg base f fd n) : FnOk P w K mg base (L2.CX P w) (n + 1) (f ._law_sized) (fd ._law_sized) ["pool", "lot"] (rdF ⟨K, mg, W0⟩ (tab (n + 1) ._law_sized)) :=
  fn_ok (N := nl__law_sized) (g := b__law_sized (tab n)) T.F__law_sized sc__law_sized fun cdv A outer s H E hr =>
    (t_cons (t_set (j := 2) sc__law_sized.nd (d_op o_add d_int (d_call O.o__law_draw hr rfl T.m__law_draw T.F__law_draw.kp T.b__law_draw (fun σ => passAt (takes_of rfl rfl rfl rfl) σ) (d_aC (d_v 0) (d_aC d_int d_aN)))))
    (t_cons (t_set (j := 3) sc__law_sized.nd (d_op o_add d_int (d_call O.o__law_draw hr rfl T.m__law_draw T.F__law_draw.kp T.b__law_draw (fun σ => passAt (takes_of rfl rfl rfl rfl) σ) (d_aC (d_v 0) (d_aC d_int d_aN)))))
    (t_cons (t_set (j := 4) sc__law_sized.nd (d_op o_add d_int (d_op o_fdiv (d_callB (c_max2 rfl) rfl T.n_max boot_max_ (d_aC d_int (d_aC (d_op o_add (d_op o_sub (d_v 3) d_int) (d_v 2)) d_aN))) (d_v 2))))
    (t_cons (t_set (j := 5) sc__law_sized.nd (d_callB (c_min2 rfl) rfl T.n_min boot_min_ (d_aC d_int (d_aC (d_op o_fdiv (d_v 3) (d_v 2)) d_aN))))
    (t_cons (t_set (j := 6) sc__law_sized.nd (d_op o_add (d_v 4) (d_call O.o__law_draw hr rfl T.m__law_draw T.F__law_draw.kp T.b__law_draw (fun σ => passAt (takes_of rfl rfl rfl rfl) σ) (d_aC (d_v 0) (d_aC (d_op o_add (d_op o_sub (d_v 5) (d_v 4)) d_int) d_aN)))))
    (t_cons (t_set (j := 7) sc__law_sized.nd (d_lst d_aN))
    (t_cons (t_for (passes_of rfl) rfl (w_rng1 rfl T.n_range (d_op o_sub (d_v 3) (d_op o_mul (d_v 2) (d_v 6)))) (g_nm (j := 8) sc__law_sized.nd) (t_cons (t_set (j := 9) sc__law_sized.nd (d_call O.o__law_place hr rfl T.m__law_place T.F__law_place.kp T.b__law_place (fun σ => passAt (takes_of rfl rfl rfl rfl) σ) (d_aC (d_v 0) (d_aC (d_v 1) d_aN))))
    (t_cons (t_if (d_tcmp (o_eq hr.units) (d_v 9) (d_ix (d_v 1) d_int)) (t_one (t_set (j := 9) sc__law_sized.nd (d_ix (d_v 1) d_int))) t_nil)
    (t_one (t_expr (d_m (T := .lst) PySem.F.plainAttrs_list PySem.F.slot_list_append PySem.F.type_list_append (by decide) m_append (d_v 7) (d_aC (d_v 9) d_aN)))))))
    (t_cons (t_for (passes_of rfl) rfl (w_rng1 rfl T.n_range (d_v 2)) (g_nm (j := 8) sc__law_sized.nd) (t_one (t_expr (d_m (T := .lst) PySem.F.plainAttrs_list PySem.F.slot_list_insert PySem.F.type_list_insert (by decide) m_insert (d_v 7) (d_aC (d_call O.o__law_draw hr rfl T.m__law_draw T.F__law_draw.kp T.b__law_draw (fun σ => passAt (takes_of rfl rfl rfl rfl) σ) (d_aC (d_v 0) (d_aC (d_op o_add (d_callB c_len rfl T.n_len boot_len_ (d_aC (d_v 7) d_aN)) d_int) d_aN))) (d_aC (d_ix (d_v 1) d_int) d_aN))))))
    (t_one (t_ret (d_lst (d_aC (d_v 7) (d_aC (d_lc (own := [("k", 8)]) (g := (.one 8)) rfl sc__law_sized.nd (w_rng1 rfl T.n_range (d_v 6)) (blkOk_by (own := [("k", 8)]) (N := nl__law_sized) (sc := defScope st__law_sized) (by decide +kernel)) (by decide) (fun _ _ _ _ _ => (v_one sc__law_sized.nd)) (fun _ _ _ _ _ => u_nil) (fun _ _ _ _ _ => (d_call O.o__law_place hr rfl T.m__law_place T.F__law_place.kp T.b__law_place (fun σ => passB) (d_aC (d_v 0) (d_aC (d_v 1) d_aN))))) d_aN)))))))))))))
set_option maxHeartbeats 4000000 in
theorem ok__law_texts (T : Txt w K mg f fd cv cu cl tb) (O : Oks P w K mg base f fd n) : FnOk P w K mg base (L2.CX P w) (n + 1) (f ._law_texts) (fd ._law_texts) ["pool", "lot"] (rdF ⟨K, mg, W0⟩ (tab (n + 1) ._law_texts)) :=
  fn_ok (N := nl__law_texts) (g := b__law_texts (tab n)) T.F__law_texts sc__law_texts fun cdv A outer s H E hr =>
    (t_cons (t_set (j := 2) sc__law_texts.nd (d_call O.o__law_draw hr rfl T.m__law_draw T.F__law_draw.kp T.b__law_draw (fun σ => passAt (takes_of rfl rfl rfl rfl) σ) (d_aC (d_v 0) (d_aC d_int d_aN))))
    (t_cons (t_if (d_tcmp o_gt (d_v 2) d_int) (t_one (t_ret (d_call O.o__law_sized hr rfl T.m__law_sized T.F__law_sized.kp T.b__law_sized (fun σ => passAt (takes_of rfl rfl rfl rfl) σ) (d_aC (d_v 0) (d_aC (d_v 1) d_aN))))) t_nil)
    (t_cons (t_set (j := 3) sc__law_texts.nd (d_op o_add d_int (d_call O.o__law_draw hr rfl T.m__law_draw T.F__law_draw.kp T.b__law_draw (fun σ => passAt (takes_of rfl rfl rfl rfl) σ) (d_aC (d_v 0) (d_aC d_int d_aN)))))
    (t_cons (t_set (j := 4) sc__law_texts.nd (d_op o_add d_int (d_call O.o__law_draw hr rfl T.m__law_draw T.F__law_draw.kp T.b__law_draw (fun σ => passAt (takes_of rfl rfl rfl rfl) σ) (d_aC (d_v 0) (d_aC d_int d_aN)))))
    (t_cons (t_if (d_tcmp (o_eq hr.units) (d_v 2) d_int) (t_cons (t_set (j := 3) sc__law_texts.nd (d_op o_add d_int (d_call O.o__law_draw hr rfl T.m__law_draw T.F__law_draw.kp T.b__law_draw (fun σ => passAt (takes_of rfl rfl rfl rfl) σ) (d_aC (d_v 0) (d_aC d_int d_aN)))))
    (t_one (t_set (j := 4) sc__law_texts.nd (d_op o_add d_int (d_call O.o__law_draw hr rfl T.m__law_draw T.F__law_draw.kp T.b__law_draw (fun σ => passAt (takes_of rfl rfl rfl rfl) σ) (d_aC (d_v 0) (d_aC d_int d_aN))))))) t_nil)
    (t_cons (t_setLc (i := 5) (own := [("k", 6)]) (g := (.one 6)) rfl sc__law_texts.nd rfl rfl (sw_true rfl rfl rfl (by decide +kernel)) (w_rng1 rfl T.n_range (d_v 3)) (blkOk_by (own := [("k", 6)]) (N := nl__law_texts) (sc := defScope st__law_texts) (by decide +kernel)) (by decide) (fun _ _ _ _ _ => (v_one sc__law_texts.nd)) (fun _ _ _ _ _ => u_nil) (fun _ _ _ _ _ => (d_call O.o__law_place hr rfl T.m__law_place T.F__law_place.kp T.b__law_place (fun σ => passB) (d_aC (d_v 0) (d_aC (d_v 1) d_aN)))))
    (t_one (t_ret (d_lst (d_aC (d_v 5) (d_aC (d_lc (own := [("k", 6)]) (g := (.one 6)) rfl sc__law_texts.nd (w_rng1 rfl T.n_range (d_v 4)) (blkOk_by (own := [("k", 6)]) (N := nl__law_texts) (sc := defScope st__law_texts) (by decide +kernel)) (by decide) (fun _ _ _ _ _ => (v_one sc__law_texts.nd)) (fun _ _ _ _ _ => u_nil) (fun _ _ _ _ _ => (d_call O.o__law_place hr rfl T.m__law_place T.F__law_place.kp T.b__law_place (fun σ => passB) (d_aC (d_v 0) (d_aC (d_v 1) d_aN))))) d_aN)))))))))))
set_option maxHeartbeats 4000000 in
theorem ok__law_is_atom (T : Txt w K mg f fd cv cu cl tb) (O : Oks P w K mg base f fd n) : FnOk P w K mg base (L2.CX P w) (n + 1) (f ._law_is_atom) (fd ._law_is_atom) ["told"] (rdF ⟨K, mg, W0⟩ (tab (n + 1) ._law_is_atom)) :=
  fn_ok (N := nl__law_is_atom) (g := b__law_is_atom (tab n)) T.F__law_is_atom sc__law_is_atom fun cdv A outer s H E hr =>
    (t_cons (t_if (PW.pt (d_or (d_not (d_tv (d_callB (c_isi .str (by decide)) rfl T.n_isinstance boot_isinstance_ (d_aC (d_v 0) (d_aC (d_blt rfl T.n_str boot_str_ rfl) d_aN))))) (d_or1 (d_tcmp (o_eq hr.units) (d_v 0) d_str)))) (t_one (t_ret d_bl)) t_nil)
    (t_cons (t_set (j := 1) sc__law_is_atom.nd (d_ix (d_m (T := .str) PySem.F.plainAttrs_str PySem.F.slot_str_split PySem.F.type_str_split (by decide) m_split (d_v 0) (d_aC d_str d_aN)) d_int))
    (t_cons (t_if (PW.pt (d_or (d_tcmp (o_eq hr.units) (d_callB c_len rfl T.n_len boot_len_ (d_aC (d_v 1) d_aN)) d_int) (d_or (d_tcmp o_gt (d_callB c_len rfl T.n_len boot_len_ (d_aC (d_v 1) d_aN)) d_int) (d_or1 (d_tcmp (o_nin (r65 hr)) (d_ix (d_v 1) d_int) d_str))))) (t_one (t_ret d_bl)) t_nil)
    (t_cons (t_if (d_tcmp o_gt (d_callB c_len rfl T.n_len boot_len_ (d_aC (d_lc (own := [("c", 3)]) (g := (.one 3)) rfl sc__law_is_atom.nd (w_any (d_v 1)) (blkOk_by (own := [("c", 3)]) (N := nl__law_is_atom) (sc := defScope st__law_is_atom) (by decide +kernel)) (by decide) (fun _ _ _ _ _ => (v_one sc__law_is_atom.nd)) (fun _ _ _ _ _ => (u_one (d_tcmp (o_nin (r65 hr)) (d_v 3) d_str))) (fun _ _ _ _ _ => (d_v 3))) d_aN)) d_int) (t_one (t_ret d_bl)) t_nil)
    (t_cons (t_if (d_tcmp (o_eq hr.units) (d_v 0) (d_v 1)) (t_one (t_ret d_bl)) t_nil)
    (t_cons (t_set (j := 2) sc__law_is_atom.nd (d_sl (d_v 0) (d_oI (d_op o_add (d_callB c_len rfl T.n_len boot_len_ (d_aC (d_v 1) d_aN)) d_int)) d_oN))
    (t_cons (t_if (PW.pt (d_or (d_tcmp (o_ne hr.units) (d_m (T := .str) PySem.F.plainAttrs_str PySem.F.slot_str_count PySem.F.type_str_count (by decide) m_countS (d_v 0) (d_aC d_str d_aN)) d_int) (d_or (d_tcmp (o_eq hr.units) (d_callB c_len rfl T.n_len boot_len_ (d_aC (d_v 2) d_aN)) d_int) (d_or (d_tcmp o_gt (d_callB c_len rfl T.n_len boot_len_ (d_aC (d_v 2) d_aN)) d_int) (d_or1 (d_tcmp (o_eq hr.units) (d_ix (d_v 2) d_int) d_str)))))) (t_one (t_ret d_bl)) t_nil)
    (t_one (t_ret (d_cmp (o_eq hr.units) (d_callB c_len rfl T.n_len boot_len_ (d_aC (d_lc (own := [("c", 3)]) (g := (.one 3)) rfl sc__law_is_atom.nd (w_any (d_v 2)) (blkOk_by (own := [("c", 3)]) (N := nl__law_is_atom) (sc := defScope st__law_is_atom) (by decide +kernel)) (by decide) (fun _ _ _ _ _ => (v_one sc__law_is_atom.nd)) (fun _ _ _ _ _ => (u_one (d_tcmp (o_nin (r65 hr)) (d_v 3) d_str))) (fun _ _ _ _ _ => (d_v 3))) d_aN)) d_int))))))))))
set_option maxHeartbeats 4000000 in
theorem ok__law_is_kind (T : Txt w K mg f fd cv cu cl tb) (O : Oks P w K mg base f fd n) : FnOk P w K mg base (L2.CX P w) (n + 1) (f ._law_is_kind) (fd ._law_is_kind) ["told", "depth"] (rdF ⟨K, mg, W0⟩ (tab (n + 1) ._law_is_kind)) :=
  fn_ok (N := nl__law_is_kind) (g := b__law_is_kind (tab n)) T.F__law_is_kind sc__law_is_kind fun cdv A outer s H E hr =>
    (t_cons (t_if (d_tv (d_callB (c_isi .str (by decide)) rfl T.n_isinstance boot_isinstance_ (d_aC (d_v 0) (d_aC (d_blt rfl T.n_str boot_str_ rfl) d_aN)))) (t_one (t_ret (d_call O.o__law_is_atom hr rfl T.m__law_is_atom T.F__law_is_atom.kp T.b__law_is_atom (fun σ => passAt (takes_of rfl rfl rfl rfl) σ) (d_aC (d_v 0) d_aN)))) t_nil)
    (t_cons (t_if (PW.pt (d_or (d_not (d_tv (d_callB (c_isi .tup (by decide)) rfl T.n_isinstance boot_isinstance_ (d_aC (d_v 0) (d_aC (d_blt rfl T.n_tuple boot_tuple_ rfl) d_aN))))) (d_or (d_tcmp (o_ne hr.units) (d_callB c_len rfl T.n_len boot_len_ (d_aC (d_v 0) d_aN)) d_int) (d_or1 (d_tcmp o_le (d_v 1) d_int))))) (t_one (t_ret d_bl)) t_nil)
    (t_cons (t_if (PW.pt (d_or (d_not (d_tv (d_callB (c_isi .str (by decide)) rfl T.n_isinstance boot_isinstance_ (d_aC (d_ix (d_v 0) d_int) (d_aC (d_blt rfl T.n_str boot_str_ rfl) d_aN))))) (d_or1 (d_tcmp (o_nin (r65 hr)) (d_ix (d_v 0) d_int) (d_lst (d_aC d_str (d_aC d_str (d_aC d_str d_aN)))))))) (t_one (t_ret d_bl)) t_nil)
    (t_one (t_ret (d_vand (d_call O.o__law_is_kind hr rfl T.m__law_is_kind T.F__law_is_kind.kp T.b__law_is_kind (fun σ => passAt (takes_of rfl rfl rfl rfl) σ) (d_aC (d_ix (d_v 0) d_int) (d_aC (d_op o_sub (d_v 1) d_int) d_aN))) (d_one (d_call O.o__law_is_kind hr rfl T.m__law_is_kind T.F__law_is_kind.kp T.b__law_is_kind (fun σ => passAt (takes_of rfl rfl rfl rfl) σ) (d_aC (d_ix (d_v 0) d_int) (d_aC (d_op o_sub (d_v 1) d_int) d_aN))))))))))
set_option maxHeartbeats 4000000 in
theorem ok__law_row (T : Txt w K mg f fd cv cu cl tb) (O : Oks P w K mg base f fd n) : FnOk P w K mg base (L2.CX P w) (n + 1) (f ._law_row) (fd ._law_row) ["kind"] (rdF ⟨K, mg, W0⟩ (tab (n + 1) ._law_row)) :=
  fn_ok (N := nl__law_row) (g := b__law_row (tab n)) T.F__law_row sc__law_row fun cdv A outer s H E hr =>
    (t_cons (t_if (d_tv (d_callB (c_isi .str (by decide)) rfl T.n_isinstance boot_isinstance_ (d_aC (d_v 0) (d_aC (d_blt rfl T.n_str boot_str_ rfl) d_aN)))) (t_one (t_ret (d_lst (d_aC (d_v 0) d_aN)))) t_nil)
    (t_one (t_ret (d_op o_add (d_op o_add (d_lst (d_aC (d_ix (d_v 0) d_int) d_aN)) (d_call O.o__law_row hr rfl T.m__law_row T.F__law_row.kp T.b__law_row (fun σ => passAt (takes_of rfl rfl rfl rfl) σ) (d_aC (d_ix (d_v 0) d_int) d_aN))) (d_call O.o__law_row hr rfl T.m__law_row T.F__law_row.kp T.b__law_row (fun σ => passAt (takes_of rfl rfl rfl rfl) σ) (d_aC (d_ix (d_v 0) d_int) d_aN))))))
set_option maxHeartbeats 4000000 in
theorem ok__law_last_row (T : Txt w K mg f fd cv cu cl tb) (O : Oks P w K mg base f fd n) : FnOk P w K mg base (L2.CX P w) (n + 1) (f ._law_last_row) (fd ._law_last_row) ["kind"] (rdF ⟨K, mg, W0⟩ (tab (n + 1) ._law_last_row)) :=
  fn_ok (N := nl__law_last_row) (g := b__law_last_row (tab n)) T.F__law_last_row sc__law_last_row fun cdv A outer s H E hr =>
    (t_cons (t_if (d_tv (d_callB (c_isi .str (by decide)) rfl T.n_isinstance boot_isinstance_ (d_aC (d_v 0) (d_aC (d_blt rfl T.n_str boot_str_ rfl) d_aN)))) (t_one (t_ret (d_lst (d_aC (d_v 0) d_aN)))) t_nil)
    (t_one (t_ret (d_op o_add (d_op o_add (d_call O.o__law_last_row hr rfl T.m__law_last_row T.F__law_last_row.kp T.b__law_last_row (fun σ => passAt (takes_of rfl rfl rfl rfl) σ) (d_aC (d_ix (d_v 0) d_int) d_aN)) (d_call O.o__law_last_row hr rfl T.m__law_last_row T.F__law_last_row.kp T.b__law_last_row (fun σ => passAt (takes_of rfl rfl rfl rfl) σ) (d_aC (d_ix (d_v 0) d_int) d_aN))) (d_lst (d_aC (d_ix (d_v 0) d_int) d_aN))))))
set_option maxHeartbeats 4000000 in
theorem ok__law_mirrored (T : Txt w K mg f fd cv cu cl tb) (O : Oks P w K mg base f fd n) : FnOk P w K mg base (L2.CX P w) (n + 1) (f ._law_mirrored) (fd ._law_mirrored) ["kind"] (rdF ⟨K, mg, W0⟩ (tab (n + 1) ._law_mirrored)) :=
  fn_ok (N := nl__law_mirrored) (g := b__law_mirrored (tab n)) T.F__law_mirrored sc__law_mirrored fun cdv A outer s H E hr =>
    (t_cons (t_set (j := 1) sc__law_mirrored.nd (d_lst d_aN))
    (t_cons (t_for (passes_of rfl) rfl (w_rev rfl T.n_reversed (d_call O.o__law_last_row hr rfl T.m__law_last_row T.F__law_last_row.kp T.b__law_last_row (fun σ => passAt (takes_of rfl rfl rfl rfl) σ) (d_aC (d_v 0) d_aN))) (g_nm (j := 2) sc__law_mirrored.nd) (t_one (t_if (d_tcmp (o_eq hr.units) (d_v 2) d_str) (t_one (t_expr (d_m (T := .lst) PySem.F.plainAttrs_list PySem.F.slot_list_append PySem.F.type_list_append (by decide) m_append (d_v 1) (d_aC d_str d_aN)))) (t_one (t_if (d_tcmp (o_eq hr.units) (d_v 2) d_str) (t_one (t_expr (d_m (T := .lst) PySem.F.plainAttrs_list PySem.F.slot_list_append PySem.F.type_list_append (by decide) m_append (d_v 1) (d_aC d_str d_aN)))) (t_one (t_expr (d_m (T := .lst) PySem.F.plainAttrs_list PySem.F.slot_list_append PySem.F.type_list_append (by decide) m_append (d_v 1) (d_aC (d_v 2) d_aN)))))))))
    (t_cons (t_set (j := 3) sc__law_mirrored.nd (d_call O.o_mirror_kind hr rfl T.m_mirror_kind T.F_mirror_kind.kp T.b_mirror_kind (fun σ => passAt (takes_of rfl rfl rfl rfl) σ) (d_aC (d_v 0) d_aN)))
    (t_one (t_ret (d_vand (d_call O.o__law_is_kind hr rfl T.m__law_is_kind T.F__law_is_kind.kp T.b__law_is_kind (fun σ => passAt (takes_of rfl rfl rfl rfl) σ) (d_aC (d_v 3) (d_aC d_int d_aN))) (d_vand (d_cmp (o_eq hr.units) (d_call O.o__law_row hr rfl T.m__law_row T.F__law_row.kp T.b__law_row (fun σ => passAt (takes_of rfl rfl rfl rfl) σ) (d_aC (d_v 3) d_aN)) (d_v 1)) (d_one (d_cmp (o_eq hr.units) (d_call O.o_mirror_kind hr rfl T.m_mirror_kind T.F_mirror_kind.kp T.b_mirror_kind (fun σ => passAt (takes_of rfl rfl rfl rfl) σ) (d_aC (d_v 3) d_aN)) (d_v 0))))))))))
set_option maxHeartbeats 4000000 in
theorem ok__law_replaced (T : Txt w K mg f fd cv cu cl tb) (O : Oks P w K mg base f fd n) : FnOk P w K mg base (L2.CX P w) (n + 1) (f ._law_replaced) (fd ._law_replaced) ["kind", "atom", "other"] (rdF ⟨K, mg, W0⟩ (tab (n + 1) ._law_replaced)) :=
  fn_ok (N := nl__law_replaced) (g := b__law_replaced (tab n)) T.F__law_replaced sc__law_replaced fun cdv A outer s H E hr =>
    (t_cons (t_set (j := 3) sc__law_replaced.nd d_non)
    (t_cons (t_set (j := 4) sc__law_replaced.nd d_str)
    (t_cons (t_set (j := 5) sc__law_replaced.nd d_bl)
    (t_cons (t_try (i := 6) rfl rfl sc__law_replaced.nd rfl rfl ⟨rfl, by decide, Or.inl T.gm_SizeError⟩ (takes_of rfl rfl rfl rfl) (fun W pn xe tk po => (t_one (t_set (j := 3) sc__law_replaced.nd (d_call O.o_substitute_kind hr rfl T.m_substitute_kind T.F_substitute_kind.kp T.b_substitute_kind (fun σ => passAt tk σ) (d_aC (d_v 0) (d_aC (d_v 1) (d_aC (d_v 2) d_aN))))))) (.cons (ent_t (su := fun a => (sQ (sN 4 (eC (.str "SizeError")))
  (sQ (sN 5 (eAnd (eIs 6 a true) (eIs 6 a true)))
  (sN 5 (eAnd (eV 5) (eAnd (eNot (eIs 6 a false)) (eNot (eIs 6 a false)))))))) T.gm_SizeError T.x_SizeError_SizeError (fun a oe pn hz hv => (t_cons (t_set (j := 4) sc__law_replaced.nd d_str)
    (t_cons (t_set (j := 5) sc__law_replaced.nd (d_vand (d_isE (X := cxOf (L2.CX P w) P w K mg base nl__law_replaced "_law_replaced" (defScope st__law_replaced) (f ._law_replaced) cdv A outer s H E) (a := a) (oe := oe) (pn := pn) (cv := (.ref (cl 1))) (cu := (.ref (cl 1))) T.q_SizeError hz hv T.i_SizeError_WordsError (fun _ r => r) rfl T.n_isinstance boot_isinstance_ (d_aC (d_v 6) (d_aC (d_glob (v := .ref (cl 1)) rfl T.gm_WordsError rfl (fun _ _ => .raw _)) d_aN))) (d_one (d_isE (X := cxOf (L2.CX P w) P w K mg base nl__law_replaced "_law_replaced" (defScope st__law_replaced) (f ._law_replaced) cdv A outer s H E) (a := a) (oe := oe) (pn := pn) (cv := (.ty "ValueError")) (cu := (.type "ValueError")) T.q_SizeError hz hv T.i_SizeError_ValueError (fun _ r => r) rfl T.n_isinstance boot_isinstance_ (d_aC (d_v 6) (d_aC (d_blt rfl T.n_ValueError boot_ValueError_ rfl) d_aN))))))
    (t_one (t_set (j := 5) sc__law_replaced.nd (d_vand (d_v 5) (d_vand (d_vnot (d_isE (X := cxOf (L2.CX P w) P w K mg base nl__law_replaced "_law_replaced" (defScope st__law_replaced) (f ._law_replaced) cdv A outer s H E) (a := a) (oe := oe) (pn := pn) (cv := (.ref (cl 2))) (cu := (.ref (cl 2))) T.q_SizeError hz hv T.i_SizeError_FitError (fun _ r => r) rfl T.n_isinstance boot_isinstance_ (d_aC (d_v 6) (d_aC (d_glob (v := .ref (cl 2)) rfl T.gm_FitError rfl (fun _ _ => .raw _)) d_aN)))) (d_one (d_vnot (d_isE (X := cxOf (L2.CX P w) P w K mg base nl__law_replaced "_law_replaced" (defScope st__law_replaced) (f ._law_replaced) cdv A outer s H E) (a := a) (oe := oe) (pn := pn) (cv := (.ref (cl 3))) (cu := (.ref (cl 3))) T.q_SizeError hz hv T.i_SizeError_KindError (fun _ r => r) rfl T.n_isinstance boot_isinstance_ (d_aC (d_v 6) (d_aC (d_glob (v := .ref (cl 3)) rfl T.gm_KindError rfl (fun _ _ => .raw _)) d_aN)))))))))))) (m_sim (fun a => (by repeat (first | exact m_eC | exact m_eIs | exact m_aN | exact m_eV (by decide) | apply m_sQ | apply m_sN (by decide) | apply m_sR | apply m_eB | apply m_aC | apply m_e2 | apply m_eAnd | apply m_eOr | apply m_eNot))))) .nil))
    (t_cons (t_set (j := 7) sc__law_replaced.nd (d_lst d_aN))
    (t_cons (t_for (passes_of rfl) rfl (w_any (d_call O.o__law_row hr rfl T.m__law_row T.F__law_row.kp T.b__law_row (fun σ => passAt (takes_of rfl rfl rfl rfl) σ) (d_aC (d_v 0) d_aN))) (g_nm (j := 8) sc__law_replaced.nd) (t_one (t_if (d_tcmp (o_eq hr.units) (d_v 8) (d_v 1)) (t_one (t_set (j := 7) sc__law_replaced.nd (d_op o_add (d_v 7) (d_call O.o__law_row hr rfl T.m__law_row T.F__law_row.kp T.b__law_row (fun σ => passAt (takes_of rfl rfl rfl rfl) σ) (d_aC (d_v 2) d_aN))))) (t_one (t_expr (d_m (T := .lst) PySem.F.plainAttrs_list PySem.F.slot_list_append PySem.F.type_list_append (by decide) m_append (d_v 7) (d_aC (d_v 8) d_aN)))))))
    (t_cons (t_if (d_tcmp o_gt (d_callB c_len rfl T.n_len boot_len_ (d_aC (d_lc (own := [("entry", 8)]) (g := (.one 8)) rfl sc__law_replaced.nd (w_any (d_v 7)) (blkOk_by (own := [("entry", 8)]) (N := nl__law_replaced) (sc := defScope st__law_replaced) (by decide +kernel)) (by decide) (fun _ _ _ _ _ => (v_one sc__law_replaced.nd)) (fun _ _ _ _ _ => (u_one (d_tcmp (o_nin (r65 hr)) (d_v 8) (d_lst (d_aC d_str (d_aC d_str (d_aC d_str d_aN))))))) (fun _ _ _ _ _ => (d_v 8))) d_aN)) d_int) (t_one (t_ret (d_vand (d_cmp (o_eq hr.units) (d_v 4) d_str) (d_one (d_v 5))))) t_nil)
    (t_one (t_ret (d_vand (d_cmp (o_eq hr.units) (d_v 4) d_str) (d_vand (d_call O.o__law_is_kind hr rfl T.m__law_is_kind T.F__law_is_kind.kp T.b__law_is_kind (fun σ => passAt (takes_of rfl rfl rfl rfl) σ) (d_aC (d_v 3) (d_aC d_int d_aN))) (d_one (d_cmp (o_eq hr.units) (d_call O.o__law_row hr rfl T.m__law_row T.F__law_row.kp T.b__law_row (fun σ => passAt (takes_of rfl rfl rfl rfl) σ) (d_aC (d_v 3) d_aN)) (d_v 7))))))))))))))
set_option maxHeartbeats 4000000 in
theorem ok_law (T : Txt w K mg f fd cv cu cl tb) (O : Oks P w K mg base f fd n) : FnOk P w K mg base (L2.CX P w) (n + 1) (f .law) (fd .law) ["script"] (rdF ⟨K, mg, W0⟩ (tab (n + 1) .law)) :=
  fn_ok (N := nl_law) (g := b_law (tab n)) T.F_law sc_law fun cdv A outer s H E hr =>
    (t_cons (t_set (j := 1) sc_law.nd (d_call O.o__law_pool hr rfl T.m__law_pool T.F__law_pool.kp T.b__law_pool (fun σ => passAt (takes_of rfl rfl rfl rfl) σ) (d_aC (d_v 0) (d_aC d_int d_aN))))
    (t_cons (t_set (j := 2) sc_law.nd (d_call O.o__law_lot hr rfl T.m__law_lot T.F__law_lot.kp T.b__law_lot (fun σ => passAt (takes_of rfl rfl rfl rfl) σ) (d_aC (d_v 1) d_aN)))
    (t_cons (t_asg (d_call O.o__law_texts hr rfl T.m__law_texts T.F__law_texts.kp T.b__law_texts (fun σ => passAt (takes_of rfl rfl rfl rfl) σ) (d_aC (d_v 1) (d_aC (d_v 2) d_aN))) (g_seq rfl (g_cons (g_nm (j := 6) sc_law.nd) (g_cons (g_nm (j := 7) sc_law.nd) g_nil))))
    (t_cons (t_set (j := 3) sc_law.nd (d_ix (d_lst (d_aC (d_ix (d_v 2) d_int) (d_aC (d_ix (d_v 2) d_int) (d_aC (d_ix (d_v 2) d_int) (d_aC (d_ix (d_op o_add (d_sl (d_v 2) (d_oI d_int) d_oN) (d_lst (d_aC (d_call O.o__law_atom hr rfl T.m__law_atom T.F__law_atom.kp T.b__law_atom (fun σ => passAt (takes_of rfl rfl rfl rfl) σ) (d_aC (d_v 1) d_aN)) d_aN))) (d_call O.o__law_draw hr rfl T.m__law_draw T.F__law_draw.kp T.b__law_draw (fun σ => passAt (takes_of rfl rfl rfl rfl) σ) (d_aC (d_v 1) (d_aC d_int d_aN)))) d_aN))))) (d_call O.o__law_draw hr rfl T.m__law_draw T.F__law_draw.kp T.b__law_draw (fun σ => passAt (takes_of rfl rfl rfl rfl) σ) (d_aC (d_v 1) (d_aC d_int d_aN)))))
    (t_cons (t_set (j := 4) sc_law.nd (d_call O.o__law_bracket hr rfl T.m__law_bracket T.F__law_bracket.kp T.b__law_bracket (fun σ => passAt (takes_of rfl rfl rfl rfl) σ) (d_aC (d_call O.o__law_pool hr rfl T.m__law_pool T.F__law_pool.kp T.b__law_pool (fun σ => passAt (takes_of rfl rfl rfl rfl) σ) (d_aC (d_v 0) (d_aC d_int d_aN))) (d_aC (d_v 6) d_aN))))
    (t_cons (t_set (j := 5) sc_law.nd (d_call O.o__law_bracket hr rfl T.m__law_bracket T.F__law_bracket.kp T.b__law_bracket (fun σ => passAt (takes_of rfl rfl rfl rfl) σ) (d_aC (d_call O.o__law_pool hr rfl T.m__law_pool T.F__law_pool.kp T.b__law_pool (fun σ => passAt (takes_of rfl rfl rfl rfl) σ) (d_aC (d_v 0) (d_aC d_int d_aN))) (d_aC (d_v 7) d_aN))))
    (t_cons (t_if (PW.pt (d_or (d_not (d_tv (d_call O.o__law_mirrored hr rfl T.m__law_mirrored T.F__law_mirrored.kp T.b__law_mirrored (fun σ => passAt (takes_of rfl rfl rfl rfl) σ) (d_aC (d_v 4) d_aN)))) (d_or1 (d_not (d_tv (d_call O.o__law_mirrored hr rfl T.m__law_mirrored T.F__law_mirrored.kp T.b__law_mirrored (fun σ => passAt (takes_of rfl rfl rfl rfl) σ) (d_aC (d_v 5) d_aN))))))) (t_one (t_ret d_bl)) t_nil)
    (t_cons (t_if (PW.pt (d_or (d_not (d_tv (d_call O.o__law_replaced hr rfl T.m__law_replaced T.F__law_replaced.kp T.b__law_replaced (fun σ => passAt (takes_of rfl rfl rfl rfl) σ) (d_aC (d_v 4) (d_aC (d_v 3) (d_aC (d_v 5) d_aN)))))) (d_or1 (d_not (d_tv (d_call O.o__law_replaced hr rfl T.m__law_replaced T.F__law_replaced.kp T.b__law_replaced (fun σ => passAt (takes_of rfl rfl rfl rfl) σ) (d_aC (d_v 5) (d_aC (d_v 3) (d_aC (d_v 4) d_aN))))))))) (t_one (t_ret d_bl)) t_nil)
    (t_one (t_ret (d_vand (d_call O.o__law_replaced hr rfl T.m__law_replaced T.F__law_replaced.kp T.b__law_replaced (fun σ => passAt (takes_of rfl rfl rfl rfl) σ) (d_aC (d_v 4) (d_aC (d_ix (d_v 2) d_int) (d_aC (d_v 5) d_aN)))) (d_vand (d_call O.o__law_replaced hr rfl T.m__law_replaced T.F__law_replaced.kp T.b__law_replaced (fun σ => passAt (takes_of rfl rfl rfl rfl) σ) (d_aC (d_v 4) (d_aC (d_v 3) (d_aC (d_v 5) d_aN)))) (d_one (d_call O.o__law_mirrored hr rfl T.m__law_mirrored T.F__law_mirrored.kp T.b__law_mirrored (fun σ => passAt (takes_of rfl rfl rfl rfl) σ) (d_aC (d_v 4) d_aN)))))))))))))))
theorem oks (T : Txt w K mg f fd cv cu cl tb) : ∀ n : Nat, Oks P w K mg base f fd n
  | 0 => ⟨fn_zero, fn_zero, fn_zero, fn_zero, fn_zero, fn_zero, fn_zero, fn_zero, fn_zero, fn_zero, fn_zero, fn_zero, fn_zero, fn_zero, fn_zero, fn_zero, fn_zero, fn_zero, fn_zero, fn_zero, fn_zero, fn_zero, fn_zero⟩
  | n + 1 => by
    have O := oks T n
    exact ⟨ok_size_of T O, ok_atoms_of T O, ok_count_of T O, ok_mirror_kind T O, ok_put_kind T O, ok_substitute_kind T O, ok__law_cell T O, ok__law_mix T O, ok__law_pool T O, ok__law_draw T O, ok__law_atom T O, ok__law_lot T O, ok__law_place T O, ok__law_bracket T O, ok__law_sized T O, ok__law_texts T O, ok__law_is_atom T O, ok__law_is_kind T O, ok__law_row T O, ok__law_last_row T O, ok__law_mirrored T O, ok__law_replaced T O, ok_law T O⟩
end
set_option maxHeartbeats 4000000 in
theorem all_mk (LV : Nat) {l : PySem.W.OpenLaw} {w : World} {K : PySem.W.Frag} {h : Heap} {mg : Str → Option Value} {fa : Addr} (X : K.In h) (G : h.Ns mainGlobals mg) (hfa : mg "law" = some (.ref fa))
    {f0 : Addr} {od0 an0 : Option Addr} {sl0 : Array (Option Value)} {oc0 kV0 dc0 pm0 cd0 ct0 : Value}
    {f1 : Addr} {od1 an1 : Option Addr} {sl1 : Array (Option Value)} {oc1 kV1 dc1 pm1 cd1 ct1 : Value}
    {f2 : Addr} {od2 an2 : Option Addr} {sl2 : Array (Option Value)} {oc2 kV2 dc2 pm2 cd2 ct2 : Value}
    {f3 : Addr} {od3 an3 : Option Addr} {sl3 : Array (Option Value)} {oc3 kV3 dc3 pm3 cd3 ct3 : Value}
    {f4 : Addr} {od4 an4 : Option Addr} {sl4 : Array (Option Value)} {oc4 kV4 dc4 pm4 cd4 ct4 : Value}
    {f5 : Addr} {od5 an5 : Option Addr} {sl5 : Array (Option Value)} {oc5 kV5 dc5 pm5 cd5 ct5 : Value}
    {f6 : Addr} {od6 an6 : Option Addr} {sl6 : Array (Option Value)} {oc6 kV6 dc6 pm6 cd6 ct6 : Value}
    {f7 : Addr} {od7 an7 : Option Addr} {sl7 : Array (Option Value)} {oc7 kV7 dc7 pm7 cd7 ct7 : Value}
    {f8 : Addr} {od8 an8 : Option Addr} {sl8 : Array (Option Value)} {oc8 kV8 dc8 pm8 cd8 ct8 : Value}
    {f9 : Addr} {od9 an9 : Option Addr} {sl9 : Array (Option Value)} {oc9 kV9 dc9 pm9 cd9 ct9 : Value}
    {f10 : Addr} {od10 an10 : Option Addr} {sl10 : Array (Option Value)} {oc10 kV10 dc10 pm10 cd10 ct10 : Value}
    {f11 : Addr} {od11 an11 : Option Addr} {sl11 : Array (Option Value)} {oc11 kV11 dc11 pm11 cd11 ct11 : Value}
    {f12 : Addr} {od12 an12 : Option Addr} {sl12 : Array (Option Value)} {oc12 kV12 dc12 pm12 cd12 ct12 : Value}
    {f13 : Addr} {od13 an13 : Option Addr} {sl13 : Array (Option Value)} {oc13 kV13 dc13 pm13 cd13 ct13 : Value}
    {f14 : Addr} {od14 an14 : Option Addr} {sl14 : Array (Option Value)} {oc14 kV14 dc14 pm14 cd14 ct14 : Value}
    {f15 : Addr} {od15 an15 : Option Addr} {sl15 : Array (Option Value)} {oc15 kV15 dc15 pm15 cd15 ct15 : Value}
    {f16 : Addr} {od16 an16 : Option Addr} {sl16 : Array (Option Value)} {oc16 kV16 dc16 pm16 cd16 ct16 : Value}
    {f17 : Addr} {od17 an17 : Option Addr} {sl17 : Array (Option Value)} {oc17 kV17 dc17 pm17 cd17 ct17 : Value}
    {f18 : Addr} {od18 an18 : Option Addr} {sl18 : Array (Option Value)} {oc18 kV18 dc18 pm18 cd18 ct18 : Value}
    {f19 : Addr} {od19 an19 : Option Addr} {sl19 : Array (Option Value)} {oc19 kV19 dc19 pm19 cd19 ct19 : Value}
    {f20 : Addr} {od20 an20 : Option Addr} {sl20 : Array (Option Value)} {oc20 kV20 dc20 pm20 cd20 ct20 : Value}
    {f21 : Addr} {od21 an21 : Option Addr} {sl21 : Array (Option Value)} {oc21 kV21 dc21 pm21 cd21 ct21 : Value}
    {f22 : Addr} {od22 an22 : Option Addr} {sl22 : Array (Option Value)} {oc22 kV22 dc22 pm22 cd22 ct22 : Value}
    (a0 : PySem.W.nsIn K mainGlobals "size_of" = some (some (.ref f0))) (l0 : K.lookup f0 = some ⟨oc0, od0, .func (PySem.W.fnOf "size_of" "size_of" (defArgs st_size_of) (defBody st_size_of) (defScope st_size_of) .none kV0 dc0 pm0 an0 cd0 ct0), sl0⟩) (c0 : PySem.W.codeIn K cd0 "size_of" = true) (k0 : PySem.W.keepIn K (.ref f0) = true)
    (a1 : PySem.W.nsIn K mainGlobals "atoms_of" = some (some (.ref f1))) (l1 : K.lookup f1 = some ⟨oc1, od1, .func (PySem.W.fnOf "atoms_of" "atoms_of" (defArgs st_atoms_of) (defBody st_atoms_of) (defScope st_atoms_of) .none kV1 dc1 pm1 an1 cd1 ct1), sl1⟩) (c1 : PySem.W.codeIn K cd1 "atoms_of" = true) (k1 : PySem.W.keepIn K (.ref f1) = true)
    (a2 : PySem.W.nsIn K mainGlobals "count_of" = some (some (.ref f2))) (l2 : K.lookup f2 = some ⟨oc2, od2, .func (PySem.W.fnOf "count_of" "count_of" (defArgs st_count_of) (defBody st_count_of) (defScope st_count_of) .none kV2 dc2 pm2 an2 cd2 ct2), sl2⟩) (c2 : PySem.W.codeIn K cd2 "count_of" = true) (k2 : PySem.W.keepIn K (.ref f2) = true)
    (a3 : PySem.W.nsIn K mainGlobals "mirror_kind" = some (some (.ref f3))) (l3 : K.lookup f3 = some ⟨oc3, od3, .func (PySem.W.fnOf "mirror_kind" "mirror_kind" (defArgs st_mirror_kind) (defBody st_mirror_kind) (defScope st_mirror_kind) .none kV3 dc3 pm3 an3 cd3 ct3), sl3⟩) (c3 : PySem.W.codeIn K cd3 "mirror_kind" = true) (k3 : PySem.W.keepIn K (.ref f3) = true)
    (a4 : PySem.W.nsIn K mainGlobals "put_kind" = some (some (.ref f4))) (l4 : K.lookup f4 = some ⟨oc4, od4, .func (PySem.W.fnOf "put_kind" "put_kind" (defArgs st_put_kind) (defBody st_put_kind) (defScope st_put_kind) .none kV4 dc4 pm4 an4 cd4 ct4), sl4⟩) (c4 : PySem.W.codeIn K cd4 "put_kind" = true) (k4 : PySem.W.keepIn K (.ref f4) = true)
    (a5 : PySem.W.nsIn K mainGlobals "substitute_kind" = some (some (.ref f5))) (l5 : K.lookup f5 = some ⟨oc5, od5, .func (PySem.W.fnOf "substitute_kind" "substitute_kind" (defArgs st_substitute_kind) (defBody st_substitute_kind) (defScope st_substitute_kind) .none kV5 dc5 pm5 an5 cd5 ct5), sl5⟩) (c5 : PySem.W.codeIn K cd5 "substitute_kind" = true) (k5 : PySem.W.keepIn K (.ref f5) = true)
    (a6 : PySem.W.nsIn K mainGlobals "_law_cell" = some (some (.ref f6))) (l6 : K.lookup f6 = some ⟨oc6, od6, .func (PySem.W.fnOf "_law_cell" "_law_cell" (defArgs st__law_cell) (defBody st__law_cell) (defScope st__law_cell) .none kV6 dc6 pm6 an6 cd6 ct6), sl6⟩) (c6 : PySem.W.codeIn K cd6 "_law_cell" = true) (k6 : PySem.W.keepIn K (.ref f6) = true)
    (a7 : PySem.W.nsIn K mainGlobals "_law_mix" = some (some (.ref f7))) (l7 : K.lookup f7 = some ⟨oc7, od7, .func (PySem.W.fnOf "_law_mix" "_law_mix" (defArgs st__law_mix) (defBody st__law_mix) (defScope st__law_mix) .none kV7 dc7 pm7 an7 cd7 ct7), sl7⟩) (c7 : PySem.W.codeIn K cd7 "_law_mix" = true) (k7 : PySem.W.keepIn K (.ref f7) = true)
    (a8 : PySem.W.nsIn K mainGlobals "_law_pool" = some (some (.ref f8))) (l8 : K.lookup f8 = some ⟨oc8, od8, .func (PySem.W.fnOf "_law_pool" "_law_pool" (defArgs st__law_pool) (defBody st__law_pool) (defScope st__law_pool) .none kV8 dc8 pm8 an8 cd8 ct8), sl8⟩) (c8 : PySem.W.codeIn K cd8 "_law_pool" = true) (k8 : PySem.W.keepIn K (.ref f8) = true)
    (a9 : PySem.W.nsIn K mainGlobals "_law_draw" = some (some (.ref f9))) (l9 : K.lookup f9 = some ⟨oc9, od9, .func (PySem.W.fnOf "_law_draw" "_law_draw" (defArgs st__law_draw) (defBody st__law_draw) (defScope st__law_draw) .none kV9 dc9 pm9 an9 cd9 ct9), sl9⟩) (c9 : PySem.W.codeIn K cd9 "_law_draw" = true) (k9 : PySem.W.keepIn K (.ref f9) = true)
    (a10 : PySem.W.nsIn K mainGlobals "_law_atom" = some (some (.ref f10))) (l10 : K.lookup f10 = some ⟨oc10, od10, .func (PySem.W.fnOf "_law_atom" "_law_atom" (defArgs st__law_atom) (defBody st__law_atom) (defScope st__law_atom) .none kV10 dc10 pm10 an10 cd10 ct10), sl10⟩) (c10 : PySem.W.codeIn K cd10 "_law_atom" = true) (k10 : PySem.W.keepIn K (.ref f10) = true)
    (a11 : PySem.W.nsIn K mainGlobals "_law_lot" = some (some (.ref f11))) (l11 : K.lookup f11 = some ⟨oc11, od11, .func (PySem.W.fnOf "_law_lot" "_law_lot" (defArgs st__law_lot) (defBody st__law_lot) (defScope st__law_lot) .none kV11 dc11 pm11 an11 cd11 ct11), sl11⟩) (c11 : PySem.W.codeIn K cd11 "_law_lot" = true) (k11 : PySem.W.keepIn K (.ref f11) = true)
    (a12 : PySem.W.nsIn K mainGlobals "_law_place" = some (some (.ref f12))) (l12 : K.lookup f12 = some ⟨oc12, od12, .func (PySem.W.fnOf "_law_place" "_law_place" (defArgs st__law_place) (defBody st__law_place) (defScope st__law_place) .none kV12 dc12 pm12 an12 cd12 ct12), sl12⟩) (c12 : PySem.W.codeIn K cd12 "_law_place" = true) (k12 : PySem.W.keepIn K (.ref f12) = true)
    (a13 : PySem.W.nsIn K mainGlobals "_law_bracket" = some (some (.ref f13))) (l13 : K.lookup f13 = some ⟨oc13, od13, .func (PySem.W.fnOf "_law_bracket" "_law_bracket" (defArgs st__law_bracket) (defBody st__law_bracket) (defScope st__law_bracket) .none kV13 dc13 pm13 an13 cd13 ct13), sl13⟩) (c13 : PySem.W.codeIn K cd13 "_law_bracket" = true) (k13 : PySem.W.keepIn K (.ref f13) = true)
    (a14 : PySem.W.nsIn K mainGlobals "_law_sized" = some (some (.ref f14))) (l14 : K.lookup f14 = some ⟨oc14, od14, .func (PySem.W.fnOf "_law_sized" "_law_sized" (defArgs st__law_sized) (defBody st__law_sized) (defScope st__law_sized) .none kV14 dc14 pm14 an14 cd14 ct14), sl14⟩) (c14 : PySem.W.codeIn K cd14 "_law_sized" = true) (k14 : PySem.W.keepIn K (.ref f14) = true)
    (a15 : PySem.W.nsIn K mainGlobals "_law_texts" = some (some (.ref f15))) (l15 : K.lookup f15 = some ⟨oc15, od15, .func (PySem.W.fnOf "_law_texts" "_law_texts" (defArgs st__law_texts) (defBody st__law_texts) (defScope st__law_texts) .none kV15 dc15 pm15 an15 cd15 ct15), sl15⟩) (c15 : PySem.W.codeIn K cd15 "_law_texts" = true) (k15 : PySem.W.keepIn K (.ref f15) = true)
    (a16 : PySem.W.nsIn K mainGlobals "_law_is_atom" = some (some (.ref f16))) (l16 : K.lookup f16 = some ⟨oc16, od16, .func (PySem.W.fnOf "_law_is_atom" "_law_is_atom" (defArgs st__law_is_atom) (defBody st__law_is_atom) (defScope st__law_is_atom) .none kV16 dc16 pm16 an16 cd16 ct16), sl16⟩) (c16 : PySem.W.codeIn K cd16 "_law_is_atom" = true) (k16 : PySem.W.keepIn K (.ref f16) = true)
    (a17 : PySem.W.nsIn K mainGlobals "_law_is_kind" = some (some (.ref f17))) (l17 : K.lookup f17 = some ⟨oc17, od17, .func (PySem.W.fnOf "_law_is_kind" "_law_is_kind" (defArgs st__law_is_kind) (defBody st__law_is_kind) (defScope st__law_is_kind) .none kV17 dc17 pm17 an17 cd17 ct17), sl17⟩) (c17 : PySem.W.codeIn K cd17 "_law_is_kind" = true) (k17 : PySem.W.keepIn K (.ref f17) = true)
    (a18 : PySem.W.nsIn K mainGlobals "_law_row" = some (some (.ref f18))) (l18 : K.lookup f18 = some ⟨oc18, od18, .func (PySem.W.fnOf "_law_row" "_law_row" (defArgs st__law_row) (defBody st__law_row) (defScope st__law_row) .none kV18 dc18 pm18 an18 cd18 ct18), sl18⟩) (c18 : PySem.W.codeIn K cd18 "_law_row" = true) (k18 : PySem.W.keepIn K (.ref f18) = true)
    (a19 : PySem.W.nsIn K mainGlobals "_law_last_row" = some (some (.ref f19))) (l19 : K.lookup f19 = some ⟨oc19, od19, .func (PySem.W.fnOf "_law_last_row" "_law_last_row" (defArgs st__law_last_row) (defBody st__law_last_row) (defScope st__law_last_row) .none kV19 dc19 pm19 an19 cd19 ct19), sl19⟩) (c19 : PySem.W.codeIn K cd19 "_law_last_row" = true) (k19 : PySem.W.keepIn K (.ref f19) = true)
    (a20 : PySem.W.nsIn K mainGlobals "_law_mirrored" = some (some (.ref f20))) (l20 : K.lookup f20 = some ⟨oc20, od20, .func (PySem.W.fnOf "_law_mirrored" "_law_mirrored" (defArgs st__law_mirrored) (defBody st__law_mirrored) (defScope st__law_mirrored) .none kV20 dc20 pm20 an20 cd20 ct20), sl20⟩) (c20 : PySem.W.codeIn K cd20 "_law_mirrored" = true) (k20 : PySem.W.keepIn K (.ref f20) = true)
    (a21 : PySem.W.nsIn K mainGlobals "_law_replaced" = some (some (.ref f21))) (l21 : K.lookup f21 = some ⟨oc21, od21, .func (PySem.W.fnOf "_law_replaced" "_law_replaced" (defArgs st__law_replaced) (defBody st__law_replaced) (defScope st__law_replaced) .none kV21 dc21 pm21 an21 cd21 ct21), sl21⟩) (c21 : PySem.W.codeIn K cd21 "_law_replaced" = true) (k21 : PySem.W.keepIn K (.ref f21) = true)
    (a22 : PySem.W.nsIn K mainGlobals "law" = some (some (.ref f22))) (l22 : K.lookup f22 = some ⟨oc22, od22, .func (PySem.W.fnOf "law" "law" (defArgs st_law) (defBody st_law) (defScope st_law) .none kV22 dc22 pm22 an22 cd22 ct22), sl22⟩) (c22 : PySem.W.codeIn K cd22 "law" = true) (k22 : PySem.W.keepIn K (.ref f22) = true)
    (z0 : PySem.W.nsIn K mainGlobals "isinstance" = some none) (z1 : PySem.W.nsIn K mainGlobals "str" = some none) (z2 : PySem.W.nsIn K mainGlobals "len" = some none) (z3 : PySem.W.nsIn K mainGlobals "int" = some none) (z4 : PySem.W.nsIn K mainGlobals "abs" = some none) (z5 : PySem.W.nsIn K mainGlobals "range" = some none) (z6 : PySem.W.nsIn K mainGlobals "max" = some none) (z7 : PySem.W.nsIn K mainGlobals "min" = some none) (z8 : PySem.W.nsIn K mainGlobals "tuple" = some none) (z9 : PySem.W.nsIn K mainGlobals "reversed" = some none) (z10 : PySem.W.nsIn K mainGlobals "ValueError" = some none) {kt0 : Tok} (y0 : PySem.W.nsIn K mainGlobals "MOST" = some (some (.int 40 kt0)))
    {xc0 : Addr} (u0 : PySem.W.nsIn K mainGlobals "SizeError" = some (some (.ref xc0)))
    {xc1 : Addr} (u1 : PySem.W.nsIn K mainGlobals "WordsError" = some (some (.ref xc1)))
    {xc2 : Addr} (u2 : PySem.W.nsIn K mainGlobals "FitError" = some (some (.ref xc2)))
    {xc3 : Addr} (u3 : PySem.W.nsIn K mainGlobals "KindError" = some (some (.ref xc3)))
    (ve0 : PySem.W.excIn K xc0 [.type "ValueError", .type "Exception", .type "BaseException", .type "object"] "ValueError.__new__" = true)
    (vk0 : PySem.W.keepIn K (.ref xc0) = true)
    (vs0 : PySem.W.subIn K (.ref xc0) (.type "BaseException") = some true)
    (vt0 : PySem.W.typeIn K (.ref xc0) = some (.type "type"))
    (hs0 : PySem.W.subIn K (.ref xc0) (.type "BaseException") = some true)
    (hd0 : PySem.W.hasDictIn K xc0 = true)
    (ht0 : PySem.W.typeIn K (.ref xc0) = some (.type "type"))
    (hd1 : PySem.W.hasDictIn K xc1 = true)
    (ht1 : PySem.W.typeIn K (.ref xc1) = some (.type "type"))
    (hd2 : PySem.W.hasDictIn K xc2 = true)
    (ht2 : PySem.W.typeIn K (.ref xc2) = some (.type "type"))
    (hd3 : PySem.W.hasDictIn K xc3 = true)
    (ht3 : PySem.W.typeIn K (.ref xc3) = some (.type "type"))
    (vx0 : PySem.W.subIn K (.ref xc0) (.ref xc0) = some true)
    (qhg0 : PySem.W.findIn K (.ref xc0) "__getattribute__" = some (some (.builtin "BaseException.__getattribute__")))
    (qhk0 : PySem.W.findIn K (.ref xc0) "__getattr__" = some none)
    (qhs0 : PySem.W.subIn K (.ref xc0) (.type "BaseException") = some true)
    (qhd0 : PySem.W.hasDictIn K xc0 = true)
    (qha0 : PySem.W.findIn K (.ref xc0) "__class__" = some (some (.builtin "object.__class__")))
    (qhm0 : PySem.W.mroIn K xc0 (.type "object") = some true)
    (qhn : PySem.W.specialIn K (.builtin "object.__class__") "__get__" = some (some (.builtin "getset_descriptor.__get__")))
    (qht : PySem.W.takesIn K (.builtin "object.__class__") = some true)
    (vi0 : PySem.W.subIn K (.ref xc0) (.ref xc1) = some true)
    (vi1 : PySem.W.subIn K (.ref xc0) (.type "ValueError") = some true)
    (vi2 : PySem.W.subIn K (.ref xc0) (.ref xc2) = some false)
    (vn2 : (Value.ref xc0 == Value.ref xc2) = false)
    (vi3 : PySem.W.subIn K (.ref xc0) (.ref xc3) = some false)
    (vn3 : (Value.ref xc0 == Value.ref xc3) = false)
    {td0 : Addr} {te0 : Array DictEntry} {tn0 : Nat} (ty0 : PySem.W.nsIn K mainGlobals "MIRRORED" = some (some (.ref td0)))
    (tl0 : K.lookup td0 = some ⟨.type "dict", none, .dict te0 tn0, #[]⟩)
    (tk0 : PySem.W.KeysLit w.params te0.toList)
    {tt0_0 : Tok} (tv0_0 : PySem.W.nsIn K td0 "/" = some (some (.str ">" tt0_0)))
    {tt0_1 : Tok} (tv0_1 : PySem.W.nsIn K td0 ">" = some (some (.str "/" tt0_1)))
    {tt0_2 : Tok} (tv0_2 : PySem.W.nsIn K td0 "*" = some (some (.str "*" tt0_2))) :
    ∃ fd : FuncData, (∀ (s : Shared) (v : Value), BindsTo s fd ⟨[v], []⟩ [("script", v)]) ∧ ∀ base : Heap, K.In base → base.Ns mainGlobals mg → FnOk l.prog w K mg base (L2.CX l.prog w) LV fa fd ["script"] (rdF ⟨K, mg, W0⟩ (tab LV .law)) := by
  have e := hfa.symm.trans (PySem.W.mg_of X G a22)
  cases e
  let f : FN → Addr := fun
    | .size_of => f0
    | .atoms_of => f1
    | .count_of => f2
    | .mirror_kind => f3
    | .put_kind => f4
    | .substitute_kind => f5
    | ._law_cell => f6
    | ._law_mix => f7
    | ._law_pool => f8
    | ._law_draw => f9
    | ._law_atom => f10
    | ._law_lot => f11
    | ._law_place => f12
    | ._law_bracket => f13
    | ._law_sized => f14
    | ._law_texts => f15
    | ._law_is_atom => f16
    | ._law_is_kind => f17
    | ._law_row => f18
    | ._law_last_row => f19
    | ._law_mirrored => f20
    | ._law_replaced => f21
    | .law => fa
  let fd : FN → FuncData := fun
    | .size_of => PySem.W.fnOf "size_of" "size_of" (defArgs st_size_of) (defBody st_size_of) (defScope st_size_of) .none kV0 dc0 pm0 an0 cd0 ct0
    | .atoms_of => PySem.W.fnOf "atoms_of" "atoms_of" (defArgs st_atoms_of) (defBody st_atoms_of) (defScope st_atoms_of) .none kV1 dc1 pm1 an1 cd1 ct1
    | .count_of => PySem.W.fnOf "count_of" "count_of" (defArgs st_count_of) (defBody st_count_of) (defScope st_count_of) .none kV2 dc2 pm2 an2 cd2 ct2
    | .mirror_kind => PySem.W.fnOf "mirror_kind" "mirror_kind" (defArgs st_mirror_kind) (defBody st_mirror_kind) (defScope st_mirror_kind) .none kV3 dc3 pm3 an3 cd3 ct3
    | .put_kind => PySem.W.fnOf "put_kind" "put_kind" (defArgs st_put_kind) (defBody st_put_kind) (defScope st_put_kind) .none kV4 dc4 pm4 an4 cd4 ct4
    | .substitute_kind => PySem.W.fnOf "substitute_kind" "substitute_kind" (defArgs st_substitute_kind) (defBody st_substitute_kind) (defScope st_substitute_kind) .none kV5 dc5 pm5 an5 cd5 ct5
    | ._law_cell => PySem.W.fnOf "_law_cell" "_law_cell" (defArgs st__law_cell) (defBody st__law_cell) (defScope st__law_cell) .none kV6 dc6 pm6 an6 cd6 ct6
    | ._law_mix => PySem.W.fnOf "_law_mix" "_law_mix" (defArgs st__law_mix) (defBody st__law_mix) (defScope st__law_mix) .none kV7 dc7 pm7 an7 cd7 ct7
    | ._law_pool => PySem.W.fnOf "_law_pool" "_law_pool" (defArgs st__law_pool) (defBody st__law_pool) (defScope st__law_pool) .none kV8 dc8 pm8 an8 cd8 ct8
    | ._law_draw => PySem.W.fnOf "_law_draw" "_law_draw" (defArgs st__law_draw) (defBody st__law_draw) (defScope st__law_draw) .none kV9 dc9 pm9 an9 cd9 ct9
    | ._law_atom => PySem.W.fnOf "_law_atom" "_law_atom" (defArgs st__law_atom) (defBody st__law_atom) (defScope st__law_atom) .none kV10 dc10 pm10 an10 cd10 ct10
    | ._law_lot => PySem.W.fnOf "_law_lot" "_law_lot" (defArgs st__law_lot) (defBody st__law_lot) (defScope st__law_lot) .none kV11 dc11 pm11 an11 cd11 ct11
    | ._law_place => PySem.W.fnOf "_law_place" "_law_place" (defArgs st__law_place) (defBody st__law_place) (defScope st__law_place) .none kV12 dc12 pm12 an12 cd12 ct12
    | ._law_bracket => PySem.W.fnOf "_law_bracket" "_law_bracket" (defArgs st__law_bracket) (defBody st__law_bracket) (defScope st__law_bracket) .none kV13 dc13 pm13 an13 cd13 ct13
    | ._law_sized => PySem.W.fnOf "_law_sized" "_law_sized" (defArgs st__law_sized) (defBody st__law_sized) (defScope st__law_sized) .none kV14 dc14 pm14 an14 cd14 ct14
    | ._law_texts => PySem.W.fnOf "_law_texts" "_law_texts" (defArgs st__law_texts) (defBody st__law_texts) (defScope st__law_texts) .none kV15 dc15 pm15 an15 cd15 ct15
    | ._law_is_atom => PySem.W.fnOf "_law_is_atom" "_law_is_atom" (defArgs st__law_is_atom) (defBody st__law_is_atom) (defScope st__law_is_atom) .none kV16 dc16 pm16 an16 cd16 ct16
    | ._law_is_kind => PySem.W.fnOf "_law_is_kind" "_law_is_kind" (defArgs st__law_is_kind) (defBody st__law_is_kind) (defScope st__law_is_kind) .none kV17 dc17 pm17 an17 cd17 ct17
    | ._law_row => PySem.W.fnOf "_law_row" "_law_row" (defArgs st__law_row) (defBody st__law_row) (defScope st__law_row) .none kV18 dc18 pm18 an18 cd18 ct18
    | ._law_last_row => PySem.W.fnOf "_law_last_row" "_law_last_row" (defArgs st__law_last_row) (defBody st__law_last_row) (defScope st__law_last_row) .none kV19 dc19 pm19 an19 cd19 ct19
    | ._law_mirrored => PySem.W.fnOf "_law_mirrored" "_law_mirrored" (defArgs st__law_mirrored) (defBody st__law_mirrored) (defScope st__law_mirrored) .none kV20 dc20 pm20 an20 cd20 ct20
    | ._law_replaced => PySem.W.fnOf "_law_replaced" "_law_replaced" (defArgs st__law_replaced) (defBody st__law_replaced) (defScope st__law_replaced) .none kV21 dc21 pm21 an21 cd21 ct21
    | .law => PySem.W.fnOf "law" "law" (defArgs st_law) (defBody st_law) (defScope st_law) .none kV22 dc22 pm22 an22 cd22 ct22
  let cv : Nat → V := fun i => ([.int 40] : List V).getD i .non
  let cu : Nat → Value := fun i => ([.int 40 kt0] : List Value).getD i .none
  have F0 : Fun K "size_of" "size_of" st_size_of (f .size_of) (fd .size_of) := fun_mk (st := st_size_of) l0 c0 k0
  have b0 : Binds K (fd .size_of) ["kind"] [] := F0.binds (ps := ["kind"]) fun _ _ _ _ _ _ us hl => match us, hl with | [_], _ => rfl
  have F1 : Fun K "atoms_of" "atoms_of" st_atoms_of (f .atoms_of) (fd .atoms_of) := fun_mk (st := st_atoms_of) l1 c1 k1
  have b1 : Binds K (fd .atoms_of) ["kind"] [] := F1.binds (ps := ["kind"]) fun _ _ _ _ _ _ us hl => match us, hl with | [_], _ => rfl
  have F2 : Fun K "count_of" "count_of" st_count_of (f .count_of) (fd .count_of) := fun_mk (st := st_count_of) l2 c2 k2
  have b2 : Binds K (fd .count_of) ["kind", "atom"] [] := F2.binds (ps := ["kind", "atom"]) fun _ _ _ _ _ _ us hl => match us, hl with | [_, _], _ => rfl
  have F3 : Fun K "mirror_kind" "mirror_kind" st_mirror_kind (f .mirror_kind) (fd .mirror_kind) := fun_mk (st := st_mirror_kind) l3 c3 k3
  have b3 : Binds K (fd .mirror_kind) ["kind"] [] := F3.binds (ps := ["kind"]) fun _ _ _ _ _ _ us hl => match us, hl with | [_], _ => rfl
  have F4 : Fun K "put_kind" "put_kind" st_put_kind (f .put_kind) (fd .put_kind) := fun_mk (st := st_put_kind) l4 c4 k4
  have b4 : Binds K (fd .put_kind) ["kind", "atom", "other"] [] := F4.binds (ps := ["kind", "atom", "other"]) fun _ _ _ _ _ _ us hl => match us, hl with | [_, _, _], _ => rfl
  have F5 : Fun K "substitute_kind" "substitute_kind" st_substitute_kind (f .substitute_kind) (fd .substitute_kind) := fun_mk (st := st_substitute_kind) l5 c5 k5
  have b5 : Binds K (fd .substitute_kind) ["kind", "atom", "other"] [] := F5.binds (ps := ["kind", "atom", "other"]) fun _ _ _ _ _ _ us hl => match us, hl with | [_, _, _], _ => rfl
  have F6 : Fun K "_law_cell" "_law_cell" st__law_cell (f ._law_cell) (fd ._law_cell) := fun_mk (st := st__law_cell) l6 c6 k6
  have b6 : Binds K (fd ._law_cell) ["script", "k"] [] := F6.binds (ps := ["script", "k"]) fun _ _ _ _ _ _ us hl => match us, hl with | [_, _], _ => rfl
  have F7 : Fun K "_law_mix" "_law_mix" st__law_mix (f ._law_mix) (fd ._law_mix) := fun_mk (st := st__law_mix) l7 c7 k7
  have b7 : Binds K (fd ._law_mix) ["x"] [] := F7.binds (ps := ["x"]) fun _ _ _ _ _ _ us hl => match us, hl with | [_], _ => rfl
  have F8 : Fun K "_law_pool" "_law_pool" st__law_pool (f ._law_pool) (fd ._law_pool) := fun_mk (st := st__law_pool) l8 c8 k8
  have b8 : Binds K (fd ._law_pool) ["script", "k"] [] := F8.binds (ps := ["script", "k"]) fun _ _ _ _ _ _ us hl => match us, hl with | [_, _], _ => rfl
  have F9 : Fun K "_law_draw" "_law_draw" st__law_draw (f ._law_draw) (fd ._law_draw) := fun_mk (st := st__law_draw) l9 c9 k9
  have b9 : Binds K (fd ._law_draw) ["pool", "many"] [] := F9.binds (ps := ["pool", "many"]) fun _ _ _ _ _ _ us hl => match us, hl with | [_, _], _ => rfl
  have F10 : Fun K "_law_atom" "_law_atom" st__law_atom (f ._law_atom) (fd ._law_atom) := fun_mk (st := st__law_atom) l10 c10 k10
  have b10 : Binds K (fd ._law_atom) ["pool"] [] := F10.binds (ps := ["pool"]) fun _ _ _ _ _ _ us hl => match us, hl with | [_], _ => rfl
  have F11 : Fun K "_law_lot" "_law_lot" st__law_lot (f ._law_lot) (fd ._law_lot) := fun_mk (st := st__law_lot) l11 c11 k11
  have b11 : Binds K (fd ._law_lot) ["pool"] [] := F11.binds (ps := ["pool"]) fun _ _ _ _ _ _ us hl => match us, hl with | [_], _ => rfl
  have F12 : Fun K "_law_place" "_law_place" st__law_place (f ._law_place) (fd ._law_place) := fun_mk (st := st__law_place) l12 c12 k12
  have b12 : Binds K (fd ._law_place) ["pool", "lot"] [] := F12.binds (ps := ["pool", "lot"]) fun _ _ _ _ _ _ us hl => match us, hl with | [_, _], _ => rfl
  have F13 : Fun K "_law_bracket" "_law_bracket" st__law_bracket (f ._law_bracket) (fd ._law_bracket) := fun_mk (st := st__law_bracket) l13 c13 k13
  have b13 : Binds K (fd ._law_bracket) ["pool", "texts"] [] := F13.binds (ps := ["pool", "texts"]) fun _ _ _ _ _ _ us hl => match us, hl with | [_, _], _ => rfl
  have F14 : Fun K "_law_sized" "_law_sized" st__law_sized (f ._law_sized) (fd ._law_sized) := fun_mk (st := st__law_sized) l14 c14 k14
  have b14 : Binds K (fd ._law_sized) ["pool", "lot"] [] := F14.binds (ps := ["pool", "lot"]) fun _ _ _ _ _ _ us hl => match us, hl with | [_, _], _ => rfl
  have F15 : Fun K "_law_texts" "_law_texts" st__law_texts (f ._law_texts) (fd ._law_texts) := fun_mk (st := st__law_texts) l15 c15 k15
  have b15 : Binds K (fd ._law_texts) ["pool", "lot"] [] := F15.binds (ps := ["pool", "lot"]) fun _ _ _ _ _ _ us hl => match us, hl with | [_, _], _ => rfl
  have F16 : Fun K "_law_is_atom" "_law_is_atom" st__law_is_atom (f ._law_is_atom) (fd ._law_is_atom) := fun_mk (st := st__law_is_atom) l16 c16 k16
  have b16 : Binds K (fd ._law_is_atom) ["told"] [] := F16.binds (ps := ["told"]) fun _ _ _ _ _ _ us hl => match us, hl with | [_], _ => rfl
  have F17 : Fun K "_law_is_kind" "_law_is_kind" st__law_is_kind (f ._law_is_kind) (fd ._law_is_kind) := fun_mk (st := st__law_is_kind) l17 c17 k17
  have b17 : Binds K (fd ._law_is_kind) ["told", "depth"] [] := F17.binds (ps := ["told", "depth"]) fun _ _ _ _ _ _ us hl => match us, hl with | [_, _], _ => rfl
  have F18 : Fun K "_law_row" "_law_row" st__law_row (f ._law_row) (fd ._law_row) := fun_mk (st := st__law_row) l18 c18 k18
  have b18 : Binds K (fd ._law_row) ["kind"] [] := F18.binds (ps := ["kind"]) fun _ _ _ _ _ _ us hl => match us, hl with | [_], _ => rfl
  have F19 : Fun K "_law_last_row" "_law_last_row" st__law_last_row (f ._law_last_row) (fd ._law_last_row) := fun_mk (st := st__law_last_row) l19 c19 k19
  have b19 : Binds K (fd ._law_last_row) ["kind"] [] := F19.binds (ps := ["kind"]) fun _ _ _ _ _ _ us hl => match us, hl with | [_], _ => rfl
  have F20 : Fun K "_law_mirrored" "_law_mirrored" st__law_mirrored (f ._law_mirrored) (fd ._law_mirrored) := fun_mk (st := st__law_mirrored) l20 c20 k20
  have b20 : Binds K (fd ._law_mirrored) ["kind"] [] := F20.binds (ps := ["kind"]) fun _ _ _ _ _ _ us hl => match us, hl with | [_], _ => rfl
  have F21 : Fun K "_law_replaced" "_law_replaced" st__law_replaced (f ._law_replaced) (fd ._law_replaced) := fun_mk (st := st__law_replaced) l21 c21 k21
  have b21 : Binds K (fd ._law_replaced) ["kind", "atom", "other"] [] := F21.binds (ps := ["kind", "atom", "other"]) fun _ _ _ _ _ _ us hl => match us, hl with | [_, _, _], _ => rfl
  have F22 : Fun K "law" "law" st_law (f .law) (fd .law) := fun_mk (st := st_law) l22 c22 k22
  have b22 : Binds K (fd .law) ["script"] [] := F22.binds (ps := ["script"]) fun _ _ _ _ _ _ us hl => match us, hl with | [_], _ => rfl
  let cl : Nat → Addr := fun i => ([xc0, xc1, xc2, xc3] : List Addr).getD i 0
  let tb : Nat → Addr := fun i => ([td0] : List Addr).getD i 0
  have T : Txt w K mg f fd cv cu cl tb := ⟨F0, b0, PySem.W.mg_of X G a0, F1, b1, PySem.W.mg_of X G a1, F2, b2, PySem.W.mg_of X G a2, F3, b3, PySem.W.mg_of X G a3, F4, b4, PySem.W.mg_of X G a4, F5, b5, PySem.W.mg_of X G a5, F6, b6, PySem.W.mg_of X G a6, F7, b7, PySem.W.mg_of X G a7, F8, b8, PySem.W.mg_of X G a8, F9, b9, PySem.W.mg_of X G a9, F10, b10, PySem.W.mg_of X G a10, F11, b11, PySem.W.mg_of X G a11, F12, b12, PySem.W.mg_of X G a12, F13, b13, PySem.W.mg_of X G a13, F14, b14, PySem.W.mg_of X G a14, F15, b15, PySem.W.mg_of X G a15, F16, b16, PySem.W.mg_of X G a16, F17, b17, PySem.W.mg_of X G a17, F18, b18, PySem.W.mg_of X G a18, F19, b19, PySem.W.mg_of X G a19, F20, b20, PySem.W.mg_of X G a20, F21, b21, PySem.W.mg_of X G a21, F22, b22, PySem.W.mg_of X G a22, PySem.W.mg_none_of X G z0, PySem.W.mg_none_of X G z1, PySem.W.mg_none_of X G z2, PySem.W.mg_none_of X G z3, PySem.W.mg_none_of X G z4, PySem.W.mg_none_of X G z5, PySem.W.mg_none_of X G z6, PySem.W.mg_none_of X G z7, PySem.W.mg_none_of X G z8, PySem.W.mg_none_of X G z9, PySem.W.mg_none_of X G z10, ⟨PySem.W.mg_of X G y0, ⟨_, rfl⟩, fun _ _ => .int _⟩, PySem.W.mg_of X G u0, PySem.W.mg_of X G u1, PySem.W.mg_of X G u2, PySem.W.mg_of X G u3, ⟨PySem.W.mg_of X G u0, ve0, vk0, vs0, vt0⟩, PySem.W.exm_ref hs0 hd0 ht0 vx0, ⟨qhg0, qhk0, qhs0, qhd0, qha0, qhn, qht, qhm0⟩, kit_t hd1 ht1 vi0, kit_b (by decide) vi1, kit_f hd2 ht2 vi2 vn2, kit_f hd3 ht3 vi3 vn3, PySem.W.mg_of X G ty0, ⟨(List.forall_mem_cons.mpr ⟨⟨.str ">", ⟨_, _, _, tl0, tk0, tv0_0, ⟨_, rfl⟩⟩, fun _ _ => .str (by decide +kernel)⟩, (List.forall_mem_cons.mpr ⟨⟨.str "/", ⟨_, _, _, tl0, tk0, tv0_1, ⟨_, rfl⟩⟩, fun _ _ => .str (by decide +kernel)⟩, (List.forall_mem_cons.mpr ⟨⟨.str "*", ⟨_, _, _, tl0, tk0, tv0_2, ⟨_, rfl⟩⟩, fun _ _ => .str (by decide +kernel)⟩, fun p hp => nomatch hp⟩)⟩)⟩)⟩⟩
  exact ⟨fd .law, fun s v => .of_eq rfl, fun base _ _ => (oks T LV).o_law⟩
theorem walk (LV : Nat) (hLV : Room LV callerA) (good : ∀ ns : List Int, ns.length ≤ 63 → ∃ S, tab LV .law [.ref 0] [.rol (ns.map D.int)] = .ok (.bl true) S) {l : PySem.W.OpenLaw} {q : Program} {loose : List Str} {XP : (Str → Option Value) → Heap → Prop} {YP : World → Heap → Prop} {d : DefRec} {K : Params → PySem.W.Frag} (hn : l.most = some 63) (hdf : d.params.defaults = [])
    (hY : ∀ (w : World) (h : Heap), YP w h → (K w.params).In h)
    (F : ∀ (w : World) (mg : Str → Option Value) (fa : Addr) (h : Heap), (K w.params).In h → h.Ns mainGlobals mg → mg d.name = some (.ref fa) →
      ∃ fd : FuncData, (∀ (s : Shared) (u : Value), BindsTo s fd ⟨[u], []⟩ [("script", u)]) ∧ ∀ base : Heap, (K w.params).In base → base.Ns mainGlobals mg → FnOk l.prog w (K w.params) mg base (L2.CX l.prog w) LV fa fd ["script"] (rdF ⟨K w.params, mg, W0⟩ (tab LV .law))) :
    PySem.W.WalkO q loose XP YP l.row.toRowW d [] (fun f vs => PySem.call f vs) :=
  L2.walk_of (n := 63) (k := LV) (x := "script") (CX := fun w => L2.CX l.prog w) (sp := fun w => rdL (K w.params) (tab LV .law)) hn (by decide) hdf hLV hY
    (fun w mg fa h KX G hm => by
      obtain ⟨fd, hb, hF⟩ := F w mg fa h KX G hm
      exact ⟨fd, hb, fun base kb gb => (hF base kb gb).imp fun vs H Q E h => rdL_F h⟩)
    (fun w H a ns hl hO hS => law_sp hO hS (good ns hl)) fun w H s e s' z => by
      obtain ⟨_, _, _, _, _, _, _, _, _, _, _, _, z⟩ := z
      exact z.elim
end Lw

open PySem PySem.W PyProof.Rows
set_option maxRecDepth 100000 in
set_option maxHeartbeats 0 in
theorem PySem.Challenge.cw_wordfractions_k05_mirror_and_substitute_holds : PySem.Challenge.rw_wordfractions_k05_mirror_and_substitute.Holds := by
  w_on; o_law; k_head; (case hw => w_witness2)
  k_fill
  refine Lw.walk 80 (by exact ⟨rfl, by decide, by decide⟩) Lw.good (l := PySem.Challenge.rw_wordfractions_k05_mirror_and_substitute) rfl rfl (fun w h Y => PySem.W.kIn_of Y) ?F
  case F =>
    intro w mg fa h KX G hmg
    refine' Lw.all_mk 80 KX G hmg ?a0 ?l0 ?c0 ?k0 ?a1 ?l1 ?c1 ?k1 ?a2 ?l2 ?c2 ?k2 ?a3 ?l3 ?c3 ?k3 ?a4 ?l4 ?c4 ?k4 ?a5 ?l5 ?c5 ?k5 ?a6 ?l6 ?c6 ?k6 ?a7 ?l7 ?c7 ?k7 ?a8 ?l8 ?c8 ?k8 ?a9 ?l9 ?c9 ?k9 ?a10 ?l10 ?c10 ?k10 ?a11 ?l11 ?c11 ?k11 ?a12 ?l12 ?c12 ?k12 ?a13 ?l13 ?c13 ?k13 ?a14 ?l14 ?c14 ?k14 ?a15 ?l15 ?c15 ?k15 ?a16 ?l16 ?c16 ?k16 ?a17 ?l17 ?c17 ?k17 ?a18 ?l18 ?c18 ?k18 ?a19 ?l19 ?c19 ?k19 ?a20 ?l20 ?c20 ?k20 ?a21 ?l21 ?c21 ?k21 ?a22 ?l22 ?c22 ?k22 ?z0 ?z1 ?z2 ?z3 ?z4 ?z5 ?z6 ?z7 ?z8 ?z9 ?z10 ?y0 ?u0 ?u1 ?u2 ?u3 ?ve0 ?vk0 ?vs0 ?vt0 ?hs0 ?hd0 ?ht0 ?hd1 ?ht1 ?hd2 ?ht2 ?hd3 ?ht3 ?vx0 ?qhg0 ?qhk0 ?qhs0 ?qhd0 ?qha0 ?qhm0 ?qhn ?qht ?vi0 ?vi1 ?vi2 ?vn2 ?vi3 ?vn3 ?ty0 ?tl0 ?tk0 ?tv0_0 ?tv0_1 ?tv0_2
    (case a0 => k_is)
    (case l0 => k_is)
    (case c0 => k_is)
    (case k0 => k_is)
    (case a1 => k_is)
    (case l1 => k_is)
    (case c1 => k_is)
    (case k1 => k_is)
    (case a2 => k_is)
    (case l2 => k_is)
    (case c2 => k_is)
    (case k2 => k_is)
    (case a3 => k_is)
    (case l3 => k_is)
    (case c3 => k_is)
    (case k3 => k_is)
    (case a4 => k_is)
    (case l4 => k_is)
    (case c4 => k_is)
    (case k4 => k_is)
    (case a5 => k_is)
    (case l5 => k_is)
    (case c5 => k_is)
    (case k5 => k_is)
    (case a6 => k_is)
    (case l6 => k_is)
    (case c6 => k_is)
    (case k6 => k_is)
    (case a7 => k_is)
    (case l7 => k_is)
    (case c7 => k_is)
    (case k7 => k_is)
    (case a8 => k_is)
    (case l8 => k_is)
    (case c8 => k_is)
    (case k8 => k_is)
    (case a9 => k_is)
    (case l9 => k_is)
    (case c9 => k_is)
    (case k9 => k_is)
    (case a10 => k_is)
    (case l10 => k_is)
    (case c10 => k_is)
    (case k10 => k_is)
    (case a11 => k_is)
    (case l11 => k_is)
    (case c11 => k_is)
    (case k11 => k_is)
    (case a12 => k_is)
    (case l12 => k_is)
    (case c12 => k_is)
    (case k12 => k_is)
    (case a13 => k_is)
    (case l13 => k_is)
    (case c13 => k_is)
    (case k13 => k_is)
    (case a14 => k_is)
    (case l14 => k_is)
    (case c14 => k_is)
    (case k14 => k_is)
    (case a15 => k_is)
    (case l15 => k_is)
    (case c15 => k_is)
    (case k15 => k_is)
    (case a16 => k_is)
    (case l16 => k_is)
    (case c16 => k_is)
    (case k16 => k_is)
    (case a17 => k_is)
    (case l17 => k_is)
    (case c17 => k_is)
    (case k17 => k_is)
    (case a18 => k_is)
    (case l18 => k_is)
    (case c18 => k_is)
    (case k18 => k_is)
    (case a19 => k_is)
    (case l19 => k_is)
    (case c19 => k_is)
    (case k19 => k_is)
    (case a20 => k_is)
    (case l20 => k_is)
    (case c20 => k_is)
    (case k20 => k_is)
    (case a21 => k_is)
    (case l21 => k_is)
    (case c21 => k_is)
    (case k21 => k_is)
    (case a22 => k_is)
    (case l22 => k_is)
    (case c22 => k_is)
    (case k22 => k_is)
    (case z0 => k_is)
    (case z1 => k_is)
    (case z2 => k_is)
    (case z3 => k_is)
    (case z4 => k_is)
    (case z5 => k_is)
    (case z6 => k_is)
    (case z7 => k_is)
    (case z8 => k_is)
    (case z9 => k_is)
    (case z10 => k_is)
    (case y0 => k_is)
    (case u0 => k_is)
    (case u1 => k_is)
    (case u2 => k_is)
    (case u3 => k_is)
    (case ve0 => k_exc)
    (case vk0 => k_is)
    (case vs0 => k_is)
    (case vt0 => k_is)
    (case hs0 => k_is)
    (case hd0 => k_is)
    (case ht0 => k_is)
    (case hd1 => k_is)
    (case ht1 => k_is)
    (case hd2 => k_is)
    (case ht2 => k_is)
    (case hd3 => k_is)
    (case ht3 => k_is)
    (case vx0 => k_is)
    (case qhg0 => k_is)
    (case qhk0 => k_is)
    (case qhs0 => k_is)
    (case qhd0 => k_is)
    (case qha0 => k_is)
    (case qhm0 => k_is)
    (case qhn => k_is)
    (case qht => k_is)
    (case vi0 => k_is)
    (case vi1 => k_is)
    (case vi2 => k_is)
    (case vn2 => first | rfl | decide)
    (case vi3 => k_is)
    (case vn3 => first | rfl | decide)
    (case ty0 => k_is)
    (case tl0 => k_is)
    (case tk0 => exact ⟨⟨_, _, rfl, rfl⟩, ⟨_, _, rfl, rfl⟩, ⟨_, _, rfl, rfl⟩, trivial⟩)
    (case tv0_0 => k_is)
    (case tv0_1 => k_is)
    (case tv0_2 => k_is)
