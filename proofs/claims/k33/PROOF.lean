import PyProof.Rows.All
import Wide.All
import OpenK.AllK
import Wide.FinOn
import HandS.ForMost
import HandS.Exc
import HandS.TryOnly
import HandS.ExcOwn
import HandS.WordsExc
import HandS.IsInst
import HandS.Zip
import HandS.Rev
import KE.DataFind
import HandS.TupAny
import HandS.RevTup
import HandS.ExcIs
import HandS.More
import HandS.TupLe
import HandS.CallLocal
import HandS.Small
import HandS.Wide
import HandS.ReplaceLit
import PySem.Challenge.RW_wordfractions_k33_mirror_derivation
import HandS.FStrTup
import PyProof.StrLawsRepr
set_option Elab.async false
set_option linter.all false
set_option maxRecDepth 100000
namespace Dl
open PySem L2

/-! ## values without addresses of tuples; the store of what may change -/
inductive D where
  | non | bl (b : Bool) | int (i : Int) | str (x : Str) | tup (xs : List D) | ref (l : Nat) | raw (v : V)
  deriving Inhabited

inductive Cell where
  | lst (xs : List D) | rol (xs : List D) | dic (kvs : List (Key × D)) | gone
  deriving Inhabited
def Cell.mut : Cell → Bool
  | .lst _ => true
  | .dic _ => true
  | _ => false
abbrev Store := List Cell
structure Exn where
  name : Str
  fs : List (Str × D)
inductive R (α : Type) where
  | ok (a : α) (S : Store) | ex (x : Exn) (S : Store) | no
abbrev Env := List (Option D)
abbrev M (α : Type) := Store → R α
def R.bind {α β : Type} : R α → (α → Store → R β) → R β
  | .ok a S, k => k a S
  | .ex x S, _ => .ex x S
  | .no, _ => .no
@[simp] theorem R.bind_ok {α β : Type} (a : α) (S : Store) (k : α → Store → R β) : (R.ok a S).bind k = k a S := rfl
@[simp] theorem R.bind_ex {α β : Type} (x : Exn) (S : Store) (k : α → Store → R β) : (R.ex x S).bind k = .ex x S := rfl
@[simp] theorem R.bind_no {α β : Type} (k : α → Store → R β) : (R.no).bind k = .no := rfl
abbrev EX := Env → Store → R D
abbrev TX := Env → Store → R Bool
abbrev AX := Env → Store → R (List D)
inductive Out where
  | nx (ρ : Env) (S : Store) | rt (d : D) (S : Store) | bk (ρ : Env) (S : Store) | ct (ρ : Env) (S : Store) | ex (x : Exn) (ρ : Env) (S : Store) | no
abbrev SX := Env → Store → Out
/-- an expression's outcome within a statement -/
def R.out {α : Type} (ρ : Env) : R α → (α → Store → Out) → Out
  | .ok a S, k => k a S
  | .ex x S, _ => .ex x ρ S
  | .no, _ => .no
@[simp] theorem R.out_ok {α : Type} (ρ : Env) (a : α) (S : Store) (k : α → Store → Out) : (R.ok a S).out ρ k = k a S := rfl
@[simp] theorem R.out_ex {α : Type} (ρ : Env) (x : Exn) (S : Store) (k : α → Store → Out) : (R.ex (α := α) x S).out ρ k = .ex x ρ S := rfl
@[simp] theorem R.out_no {α : Type} (ρ : Env) (k : α → Store → Out) : (R.no (α := α)).out ρ k = .no := rfl

/-! ## how they stand in the heap -/
/-- a tuple without a dict of its own -/
def TupAt (K : PySem.W.Frag) (H : Hp) (a : Addr) (vs : List V) : Prop :=
  (∃ o, H a = some (.frz o (.tup vs)) ∧ o.cls = .type "tuple" ∧ o.dict = none) ∨
    ∃ (o : Obj) (its : Array Value) (n : Nat), K.lookup a = some o ∧ o.cls = .type "tuple" ∧ o.dict = none ∧ o.data = .seq its n ∧ its.size ≤ sizeLine ∧ Vals vs its.toList
theorem TupAt.sq {K : PySem.W.Frag} {H : Hp} {a : Addr} {vs : List V} (h : TupAt K H a vs) : SqT K H a vs := by
  rcases h with ⟨o, h, _⟩ | ⟨o, its, n, h1, h2, _, h3, h4, h5⟩
  · exact .inl (.inr ⟨o, h⟩)
  · exact .inr ⟨o, its, n, h1, h2, h3, h4, h5⟩
/-- a list that nobody may write -/
def RolAt (K : PySem.W.Frag) (H : Hp) (a : Addr) (vs : List V) : Prop :=
  (∃ o, H a = some (.frz o (.lst vs))) ∨
    ∃ (o : Obj) (its : Array Value) (n : Nat), K.lookup a = some o ∧ o.cls = .type "list" ∧ o.dict = none ∧ o.data = .seq its n ∧ its.size ≤ sizeLine ∧ Vals vs its.toList
theorem RolAt.sq {K : PySem.W.Frag} {H : Hp} {a : Addr} {vs : List V} (h : RolAt K H a vs) : SqL K H a vs := by
  rcases h with ⟨o, h⟩ | h
  · exact .inl (.inr ⟨o, h⟩)
  · exact .inr h
mutual
inductive RD (K : PySem.W.Frag) (m : List Addr) (H : Hp) : V → D → Prop
  | non : RD K m H .non .non
  | bl (b : Bool) : RD K m H (.bl b) (.bl b)
  | int (i : Int) : RD K m H (.int i) (.int i)
  | str {x : Str} (h : x.length ≤ 16777216) : RD K m H (.str x) (.str x)
  | tup {a : Addr} {vs : List V} {ds : List D} (h : TupAt K H a vs) (r : RDs K m H vs ds) : RD K m H (.ref a) (.tup ds)
  | ref {a : Addr} {l : Nat} (h : m[l]? = some a) : RD K m H (.ref a) (.ref l)
  | raw (v : V) : RD K m H v (.raw v)
inductive RDs (K : PySem.W.Frag) (m : List Addr) (H : Hp) : List V → List D → Prop
  | nil : RDs K m H [] []
  | cons {v : V} {d : D} {vs : List V} {ds : List D} (h : RD K m H v d) (t : RDs K m H vs ds) : RDs K m H (v :: vs) (d :: ds)
end
structure Ext (K : PySem.W.Frag) (m : List Addr) (H : Hp) (m' : List Addr) (H' : Hp) : Prop where
  pre : ∃ r, m' = m ++ r
  tup : ∀ a vs, TupAt K H a vs → TupAt K H' a vs
theorem Ext.refl {K : PySem.W.Frag} {m : List Addr} {H : Hp} : Ext K m H m H := ⟨⟨[], by simp⟩, fun _ _ h => h⟩
theorem Ext.trans {K : PySem.W.Frag} {m m1 m2 : List Addr} {H H1 H2 : Hp} (a : Ext K m H m1 H1) (b : Ext K m1 H1 m2 H2) : Ext K m H m2 H2 := by
  obtain ⟨⟨r, e⟩, t⟩ := a
  obtain ⟨⟨r', e'⟩, t'⟩ := b
  exact ⟨⟨r ++ r', by rw [e', e, List.append_assoc]⟩, fun x vs h => t' x vs (t x vs h)⟩
theorem Ext.at {K : PySem.W.Frag} {m m' : List Addr} {H H' : Hp} (e : Ext K m H m' H') {l : Nat} {a : Addr} (h : m[l]? = some a) : m'[l]? = some a := by
  obtain ⟨⟨r, e⟩, _⟩ := e
  rw [e, List.getElem?_append_left (List.getElem?_eq_some_iff.mp h).1]
  exact h
theorem Ext.len {K : PySem.W.Frag} {m m' : List Addr} {H H' : Hp} (e : Ext K m H m' H') : m.length ≤ m'.length := by
  obtain ⟨⟨r, e⟩, _⟩ := e
  rw [e, List.length_append]
  exact Nat.le_add_right _ _
section
variable {K : PySem.W.Frag} {m m' : List Addr} {H H' : Hp}
mutual
theorem RD.mono (e : Ext K m H m' H') : ∀ {v : V} {d : D}, RD K m H v d → RD K m' H' v d
  | _, _, .non => .non
  | _, _, .bl b => .bl b
  | _, _, .int i => .int i
  | _, _, .str h => .str h
  | _, _, .tup h r => .tup (e.tup _ _ h) (RDs.mono e r)
  | _, _, .ref h => .ref (e.at h)
  | _, _, .raw v => .raw v
theorem RDs.mono (e : Ext K m H m' H') : ∀ {vs : List V} {ds : List D}, RDs K m H vs ds → RDs K m' H' vs ds
  | _, _, .nil => .nil
  | _, _, .cons h t => .cons (RD.mono e h) (RDs.mono e t)
end
theorem RDs.length : ∀ {vs : List V} {ds : List D}, RDs K m H vs ds → vs.length = ds.length
  | _, _, .nil => rfl
  | _, _, .cons _ t => congrArg Nat.succ (RDs.length t)
theorem RDs.get : ∀ {vs : List V} {ds : List D} {i : Nat} {d : D}, RDs K m H vs ds → ds[i]? = some d → ∃ v, vs[i]? = some v ∧ RD K m H v d
  | _, _, _, _, .nil, e => by simp at e
  | _, _, 0, _, .cons h _, e => by simp at e; subst e; exact ⟨_, rfl, h⟩
  | _, _, i + 1, d, .cons _ t, e => by
    obtain ⟨v, h1, h2⟩ := RDs.get (i := i) (d := d) t (by simpa using e)
    exact ⟨v, by simpa using h1, h2⟩
theorem RDs.append : ∀ {vs ws : List V} {ds es : List D}, RDs K m H vs ds → RDs K m H ws es → RDs K m H (vs ++ ws) (ds ++ es)
  | _, _, _, _, .nil, s => s
  | _, _, _, _, .cons h t, s => .cons h (RDs.append t s)
theorem RDs.one {v : V} {d : D} (h : RD K m H v d) : RDs K m H [v] [d] := .cons h .nil
theorem RDs.take : ∀ {vs : List V} {ds : List D} (n : Nat), RDs K m H vs ds → RDs K m H (vs.take n) (ds.take n)
  | _, _, 0, _ => .nil
  | _, _, _ + 1, .nil => .nil
  | _, _, n + 1, .cons h t => .cons h (RDs.take n t)
theorem RDs.drop : ∀ {vs : List V} {ds : List D} (n : Nat), RDs K m H vs ds → RDs K m H (vs.drop n) (ds.drop n)
  | _, _, 0, r => r
  | _, _, _ + 1, .nil => .nil
  | _, _, n + 1, .cons _ t => RDs.drop n t
theorem RDs.set {v : V} {d : D} (h : RD K m H v d) : ∀ {vs : List V} {ds : List D} (i : Nat), RDs K m H vs ds → RDs K m H (vs.set i v) (ds.set i d)
  | _, _, _, .nil => .nil
  | _, _, 0, .cons _ t => .cons h t
  | _, _, i + 1, .cons q t => .cons q (RDs.set h i t)
theorem RDs.reverse : ∀ {vs : List V} {ds : List D}, RDs K m H vs ds → RDs K m H vs.reverse ds.reverse
  | _, _, .nil => .nil
  | _, _, .cons h t => by
    rw [List.reverse_cons, List.reverse_cons]
    exact (RDs.reverse t).append (.one h)
theorem RDs.dropLast {vs : List V} {ds : List D} (r : RDs K m H vs ds) : RDs K m H vs.dropLast ds.dropLast := by
  rw [List.dropLast_eq_take, List.dropLast_eq_take, r.length]
  exact r.take _
theorem RDs.eraseIdx : ∀ {vs : List V} {ds : List D} (i : Nat), RDs K m H vs ds → RDs K m H (vs.eraseIdx i) (ds.eraseIdx i)
  | _, _, _, .nil => .nil
  | _, _, 0, .cons _ t => t
  | _, _, i + 1, .cons q t => .cons q (RDs.eraseIdx i t)
end

def CellOk (K : PySem.W.Frag) (m : List Addr) (H : Hp) (a : Addr) : Cell → Prop
  | .lst xs => ∃ vs, H a = some (.lst vs) ∧ RDs K m H vs xs
  | .rol xs => ∃ vs, RolAt K H a vs ∧ RDs K m H vs xs
  | .dic kvs => ∃ ws : List (Key × V), H a = some (.dK ws) ∧ ws.map (·.1) = kvs.map (·.1) ∧ RDs K m H (ws.map (·.2)) (kvs.map (·.2))
  | .gone => True
structure RS (K : PySem.W.Frag) (m : List Addr) (H : Hp) (S : Store) : Prop where
  len : m.length = S.length
  at_ : ∀ {l : Nat} {a : Addr} {c : Cell}, m[l]? = some a → S[l]? = some c → CellOk K m H a c
  inj : ∀ {l l' : Nat} {a : Addr} {c c' : Cell}, m[l]? = some a → m[l']? = some a → S[l]? = some c → S[l']? = some c' → c.mut = true → c'.mut = true → l = l'
/-- a cell that is read as a list -/
def lstAt (S : Store) (l : Nat) : Option (List D) := match S[l]? with
  | some (.lst xs) => some xs
  | some (.rol xs) => some xs
  | _ => none
section
variable {K : PySem.W.Frag} {m m' : List Addr} {H H' : Hp} {S : Store}
theorem RS.addr (r : RS K m H S) {l : Nat} (h : l < S.length) : ∃ a, m[l]? = some a := by
  rw [← r.len] at h
  exact ⟨m[l], List.getElem?_eq_getElem h⟩
theorem RS.lst (r : RS K m H S) {l : Nat} {a : Addr} {xs : List D} (h : m[l]? = some a) (e : lstAt S l = some xs) : ∃ vs, SqL K H a vs ∧ RDs K m H vs xs := by
  unfold lstAt at e
  split at e
  · cases e
    obtain ⟨vs, h1, h2⟩ := r.at_ h ‹_›
    exact ⟨vs, SqL.of h1, h2⟩
  · cases e
    obtain ⟨vs, h1, h2⟩ := r.at_ h ‹_›
    exact ⟨vs, h1.sq, h2⟩
  · cases e
theorem RS.wlst (r : RS K m H S) {l : Nat} {a : Addr} {xs : List D} (h : m[l]? = some a) (e : S[l]? = some (.lst xs)) : ∃ vs, H a = some (.lst vs) ∧ RDs K m H vs xs := r.at_ h e
theorem CellOk.mono {a : Addr} {c : Cell} (e : Ext K m H m' H') (h : CellOk K m H a c) (k : c.mut = true → H' a = H a) (kr : ∀ vs, RolAt K H a vs → RolAt K H' a vs) : CellOk K m' H' a c := by
  cases c with
  | lst xs =>
    obtain ⟨vs, h1, h2⟩ := h
    exact ⟨vs, by rw [k rfl]; exact h1, h2.mono e⟩
  | rol xs =>
    obtain ⟨vs, h1, h2⟩ := h
    exact ⟨vs, kr _ h1, h2.mono e⟩
  | dic kvs =>
    obtain ⟨ws, h1, h2, h3⟩ := h
    exact ⟨ws, by rw [k rfl]; exact h1, h2, h3.mono e⟩
  | gone => trivial
/-- a cell that changes is tracked as such -/
theorem CellOk.some {a : Addr} {c : Cell} (h : CellOk K m H a c) (k : c.mut = true) : ∃ o, H a = Option.some o ∧ ∀ ob u, o ≠ .frz ob u := by
  cases c with
  | lst xs => obtain ⟨vs, h1, _⟩ := h; exact ⟨_, h1, fun _ _ z => nomatch z⟩
  | dic kvs => obtain ⟨vs, h1, _⟩ := h; exact ⟨_, h1, fun _ _ z => nomatch z⟩
  | rol xs => cases k
  | gone => cases k
/-- what stood frozen is untouched by a new object -/
theorem tup_new {p : Addr} {o : HO} (hp : H p = none) : ∀ a vs, TupAt K H a vs → TupAt K (upd H p o) a vs := fun a vs h => by
  rcases h with ⟨ob, h, d⟩ | h
  · exact .inl ⟨ob, by rw [upd_ne (ne_of_none h hp)]; exact h, d⟩
  · exact .inr h
theorem rol_new {p : Addr} {o : HO} (hp : H p = none) : ∀ a vs, RolAt K H a vs → RolAt K (upd H p o) a vs := fun a vs h => by
  rcases h with ⟨ob, h⟩ | h
  · exact .inl ⟨ob, by rw [upd_ne (ne_of_none h hp)]; exact h⟩
  · exact .inr h
theorem tup_upd {p : Addr} {o u : HO} (hp : H p = some u) (hu : ∀ ob w, u ≠ .frz ob w) : ∀ a vs, TupAt K H a vs → TupAt K (upd H p o) a vs := fun a vs h => by
  rcases h with ⟨ob, h, d⟩ | h
  · exact .inl ⟨ob, by rw [upd_ne (ne_of h hp (fun z => hu _ _ z.symm))]; exact h, d⟩
  · exact .inr h
theorem rol_upd {p : Addr} {o u : HO} (hp : H p = some u) (hu : ∀ ob w, u ≠ .frz ob w) : ∀ a vs, RolAt K H a vs → RolAt K (upd H p o) a vs := fun a vs h => by
  rcases h with ⟨ob, h⟩ | h
  · exact .inl ⟨ob, by rw [upd_ne (ne_of h hp (fun z => hu _ _ z.symm))]; exact h⟩
  · exact .inr h
/-- a new object that the store does not know -/
theorem RS.new (r : RS K m H S) {p : Addr} {o : HO} (hp : H p = none) : Ext K m H m (upd H p o) ∧ RS K m (upd H p o) S := by
  have e : Ext K m H m (upd H p o) := ⟨⟨[], by simp⟩, tup_new hp⟩
  refine ⟨e, r.len, fun {l a c} h1 h2 => (r.at_ h1 h2).mono e (fun k => ?_) (rol_new hp _), r.inj⟩
  obtain ⟨u, h, _⟩ := (r.at_ h1 h2).some k
  rw [upd_ne (ne_of_none h hp)]
/-- a new cell -/
theorem RS.push (r : RS K m H S) {p : Addr} {o : HO} {c : Cell} (hp : H p = none) (hc : ∀ m', Ext K m H m' (upd H p o) → CellOk K m' (upd H p o) p c) : Ext K m H (m ++ [p]) (upd H p o) ∧ RS K (m ++ [p]) (upd H p o) (S ++ [c]) := by
  have e : Ext K m H (m ++ [p]) (upd H p o) := ⟨⟨[p], rfl⟩, tup_new hp⟩
  have hl := r.len
  refine ⟨e, by simp [hl], fun {l a c'} h1 h2 => ?_, fun {l l' a c' c''} h1 h2 h3 h4 h5 h6 => ?_⟩
  · by_cases z : l < S.length
    · rw [List.getElem?_append_left (by omega)] at h1
      rw [List.getElem?_append_left z] at h2
      refine (r.at_ h1 h2).mono e (fun k => ?_) (rol_new hp _)
      obtain ⟨u, h, _⟩ := (r.at_ h1 h2).some k
      rw [upd_ne (ne_of_none h hp)]
    · have hz : l = S.length := by
        have := (List.getElem?_eq_some_iff.mp h2).1
        simp at this
        omega
      subst hz
      rw [List.getElem?_append_right (by omega)] at h1
      rw [List.getElem?_append_right (by omega)] at h2
      simp [hl] at h1 h2
      subst h1; subst h2
      exact hc _ e
  · have old : ∀ {i : Nat} {x : Cell}, m[i]? = some a → S[i]? = some x → x.mut = true → a ≠ p := fun {i x} q1 q2 q3 => by
      obtain ⟨u, h, _⟩ := (r.at_ q1 q2).some q3
      exact ne_of_none h hp
    have lt : ∀ {i : Nat} {x : Cell}, (S ++ [c])[i]? = some x → i < S.length ∨ i = S.length := fun {i x} q => by
      have := (List.getElem?_eq_some_iff.mp q).1
      simp at this
      omega
    have low : ∀ {i : Nat} {x : Cell}, i < S.length → (m ++ [p])[i]? = some a → (S ++ [c])[i]? = some x → m[i]? = some a ∧ S[i]? = some x := fun {i x} q q1 q2 => by
      rw [List.getElem?_append_left (by omega)] at q1
      rw [List.getElem?_append_left q] at q2
      exact ⟨q1, q2⟩
    have top : (m ++ [p])[S.length]? = some a → a = p := fun q => by
      rw [List.getElem?_append_right (by omega)] at q
      simp [hl] at q
      exact q.symm
    rcases lt h3 with z | z
    · obtain ⟨a1, a2⟩ := low z h1 h3
      rcases lt h4 with z' | z'
      · obtain ⟨b1, b2⟩ := low z' h2 h4
        exact r.inj a1 b1 a2 b2 h5 h6
      · subst z'
        exact absurd (top h2) (old a1 a2 h5)
    · subst z
      rcases lt h4 with z' | z'
      · obtain ⟨b1, b2⟩ := low z' h2 h4
        exact absurd (top h1) (old b1 b2 h6)
      · exact z'.symm
/-- a cell is written -/
theorem RS.write (r : RS K m H S) {p : Addr} {o : HO} {l : Nat} {c c' : Cell} (hl : m[l]? = some p) (hc : S[l]? = some c) (k : c.mut = true) (k' : c'.mut = true) (hn : Ext K m H m (upd H p o) → CellOk K m (upd H p o) p c') :
    Ext K m H m (upd H p o) ∧ RS K m (upd H p o) (S.set l c') := by
  obtain ⟨u, hu, hf⟩ := (r.at_ hl hc).some k
  have e : Ext K m H m (upd H p o) := ⟨⟨[], by simp⟩, tup_upd hu hf⟩
  have lS : l < S.length := (List.getElem?_eq_some_iff.mp hc).1
  have get : ∀ {i : Nat} {x : Cell}, (S.set l c')[i]? = some x → (i = l ∧ x = c') ∨ (i ≠ l ∧ S[i]? = some x) := fun {i x} q => by
    by_cases z : i = l
    · subst z
      rw [List.getElem?_set_self lS] at q
      cases q
      exact .inl ⟨rfl, rfl⟩
    · rw [List.getElem?_set_ne (Ne.symm z)] at q
      exact .inr ⟨z, q⟩
  refine ⟨e, by rw [List.length_set]; exact r.len, fun {i a x} h1 h2 => ?_, fun {i i' a x x'} h1 h2 h3 h4 h5 h6 => ?_⟩
  · rcases get h2 with ⟨rfl, rfl⟩ | ⟨z, q⟩
    · rw [hl] at h1; cases h1
      exact hn e
    · refine (r.at_ h1 q).mono e (fun kx => ?_) (rol_upd hu hf _)
      have : a ≠ p := fun za => by
        subst za
        exact z (r.inj h1 hl q hc kx k)
      rw [upd_ne this]
  · rcases get h3 with ⟨rfl, rfl⟩ | ⟨z, q⟩
    · rcases get h4 with ⟨rfl, rfl⟩ | ⟨z', q'⟩
      · rfl
      · exact r.inj h1 h2 hc q' k h6
    · rcases get h4 with ⟨rfl, rfl⟩ | ⟨z', q'⟩
      · exact r.inj h1 h2 q hc h5 k
      · exact r.inj h1 h2 q q' h5 h6
end
/-- the slots -/
structure RE (K : PySem.W.Frag) (m : List Addr) (H : Hp) (σ : St) (ρ : Env) : Prop where
  len : σ.length = ρ.length
  at_ : ∀ {i : Nat} {d : D}, ρ[i]? = some (some d) → ∃ v, σ[i]? = some (some v) ∧ RD K m H v d
section
variable {K : PySem.W.Frag} {m m' : List Addr} {H H' : Hp} {σ : St} {ρ : Env}
theorem RE.mono (e : Ext K m H m' H') (r : RE K m H σ ρ) : RE K m' H' σ ρ := ⟨r.len, fun h => let ⟨v, h1, h2⟩ := r.at_ h; ⟨v, h1, h2.mono e⟩⟩
theorem RE.set (r : RE K m H σ ρ) {v : V} {d : D} (h : RD K m H v d) (i : Nat) : RE K m H (σ.set i (some v)) (ρ.set i (some d)) := by
  refine ⟨by rw [List.length_set, List.length_set]; exact r.len, fun {j d'} e => ?_⟩
  by_cases z : i = j
  · subst z
    have hl : i < ρ.length := by have := (List.getElem?_eq_some_iff.mp e).1; rwa [List.length_set] at this
    rw [List.getElem?_set_self hl] at e
    cases e
    exact ⟨v, by rw [List.getElem?_set_self (by rw [r.len]; exact hl)], h⟩
  · rw [List.getElem?_set_ne z] at e
    obtain ⟨w, h1, h2⟩ := r.at_ e
    exact ⟨w, by rw [List.getElem?_set_ne z]; exact h1, h2⟩
def wipeD (ρ : Env) : List Nat → Env
  | [] => ρ
  | v :: vs => (wipeD ρ vs).set v none
theorem RE.none (r : RE K m H σ ρ) (i : Nat) : RE K m H (σ.set i none) (ρ.set i none) := by
  refine ⟨by rw [List.length_set, List.length_set]; exact r.len, fun {j d'} e => ?_⟩
  by_cases z : i = j
  · subst z
    have hl : i < ρ.length := by have := (List.getElem?_eq_some_iff.mp e).1; rwa [List.length_set] at this
    rw [List.getElem?_set_self hl] at e
    cases e
  · rw [List.getElem?_set_ne z] at e
    obtain ⟨w, h1, h2⟩ := r.at_ e
    exact ⟨w, by rw [List.getElem?_set_ne z]; exact h1, h2⟩
theorem RE.wipe (r : RE K m H σ ρ) : ∀ vs : List Nat, RE K m H (wipe σ vs) (wipeD ρ vs)
  | [] => r
  | v :: vs => (RE.wipe r vs).none v
end
end Dl

set_option Elab.async false
set_option linter.all false
set_option maxRecDepth 100000
namespace Dl
open PySem L2

/-! ## readings -/
structure Cq where
  K : PySem.W.Frag
  mg : Str → Option Value
  W : WX
abbrev W0 : WX := fun _ _ _ _ => False
abbrev _root_.L2.Cx.cq (X : Cx) (W : WX) : Cq := ⟨X.K, X.mg, W⟩
def RX (c : Cq) (m : List Addr) (H : Hp) (x : Exn) (cls : Value) (dd : Option Addr) : Prop :=
  c.mg x.name = some cls ∧ match x.fs with
    | [] => dd = none
    | fs => ∃ d ws, dd = some d ∧ H d = some (.xd ws) ∧ ws.map (·.1) = fs.map (·.1) ∧ RDs c.K m H (ws.map (·.2)) (fs.map (·.2))
def Post {α β : Type} (c : Cq) (rel : List Addr → Hp → β → α → Prop) (m : List Addr) (H : Hp) (σ : St) (Q : β → Hp → Prop) : R α → Prop
  | .ok a S' => ∀ b H' m', Ext c.K m H m' H' → RS c.K m' H' S' → rel m' H' b a → Q b H'
  | .ex x S' => ∀ cls dd H' m', Ext c.K m H m' H' → RS c.K m' H' S' → RX c m' H' x cls dd → c.W cls dd σ H'
  | .no => False
def PostS (c : Cq) (m : List Addr) (H : Hp) (Dn : Ends) : Out → Prop
  | .nx ρ' S' => ∀ σ' H' m', Ext c.K m H m' H' → RE c.K m' H' σ' ρ' → RS c.K m' H' S' → Dn.nx σ' H'
  | .bk ρ' S' => ∀ σ' H' m', Ext c.K m H m' H' → RE c.K m' H' σ' ρ' → RS c.K m' H' S' → Dn.bk σ' H'
  | .ct ρ' S' => ∀ σ' H' m', Ext c.K m H m' H' → RE c.K m' H' σ' ρ' → RS c.K m' H' S' → Dn.ct σ' H'
  | .rt d S' => ∀ v H' m', Ext c.K m H m' H' → RS c.K m' H' S' → RD c.K m' H' v d → Dn.rt v H'
  | .ex x ρ' S' => ∀ cls dd σ' H' m', Ext c.K m H m' H' → RE c.K m' H' σ' ρ' → RS c.K m' H' S' → RX c m' H' x cls dd → c.W cls dd σ' H'
  | .no => False
abbrev relD (c : Cq) : List Addr → Hp → V → D → Prop := fun m H v d => RD c.K m H v d
abbrev relDs (c : Cq) : List Addr → Hp → List V → List D → Prop := fun m H v d => RDs c.K m H v d
abbrev relB {α : Type} : List Addr → Hp → α → α → Prop := fun _ _ a b => a = b
def rdE (c : Cq) (f : EX) : TE := fun σ H Q => ∃ m ρ S, RE c.K m H σ ρ ∧ RS c.K m H S ∧ Post c (relD c) m H σ Q (f ρ S)
def rdT (c : Cq) (f : TX) : TT := fun σ H Q => ∃ m ρ S, RE c.K m H σ ρ ∧ RS c.K m H S ∧ Post c relB m H σ Q (f ρ S)
def rdA (c : Cq) (f : AX) : TA := fun σ H Q => ∃ m ρ S, RE c.K m H σ ρ ∧ RS c.K m H S ∧ Post c (relDs c) m H σ Q (f ρ S)
def rdO (c : Cq) (f : Env → Store → R (Option Int)) : TO := fun σ H Q => ∃ m ρ S, RE c.K m H σ ρ ∧ RS c.K m H S ∧ Post c relB m H σ Q (f ρ S)
def rdS (c : Cq) (g : SX) : TS := fun Dn σ H => ∃ m ρ S, RE c.K m H σ ρ ∧ RS c.K m H S ∧ PostS c m H Dn (g ρ S)
def rdG (c : Cq) (tg : D → SX) : TG := fun v σ H Q => ∃ m ρ S d, RE c.K m H σ ρ ∧ RS c.K m H S ∧ RD c.K m H v d ∧ PostS c m H { nx := Q, rt := fun _ _ => False } (tg d ρ S)
/-- what a def promises: the mirror's answer -/
def rdF (c : Cq) (F : List D → M D) : Sp := fun vs H Q E => ∃ m ds S, RDs c.K m H vs ds ∧ RS c.K m H S ∧ Post { c with W := fun cls dd _ H => E cls dd H } (relD c) m H [] Q (F ds S)

section
variable {α β γ δ : Type} {c : Cq} {rel : List Addr → Hp → β → α → Prop} {rel' : List Addr → Hp → δ → γ → Prop} {m m1 : List Addr} {H H1 : Hp} {σ : St} {ρ : Env} {Q Q' : β → Hp → Prop} {Q2 : δ → Hp → Prop} {Dn : Ends}
theorem Post.mono (e : Ext c.K m H m1 H1) {r : R α} (h : Post c rel m H σ Q r) : Post c rel m1 H1 σ Q r := by
  cases r with
  | ok a S => exact fun b H' m' e' => h b H' m' (e.trans e')
  | ex x S => exact fun cls dd H' m' e' => h cls dd H' m' (e.trans e')
  | no => exact h
theorem Post.imp {r : R α} (h : Post c rel m H σ Q r) (k : ∀ b H', Q b H' → Q' b H') : Post c rel m H σ Q' r := by
  cases r with
  | ok a S => exact fun b H' m' e rs rl => k _ _ (h b H' m' e rs rl)
  | ex x S => exact h
  | no => exact h
theorem Post.bind {r : R α} {k : α → Store → R γ} (h : Post c rel' m H σ Q2 (r.bind k)) :
    Post c rel m H σ (fun b H1 => ∃ m1 a S1, Ext c.K m H m1 H1 ∧ RS c.K m1 H1 S1 ∧ rel m1 H1 b a ∧ Post c rel' m1 H1 σ Q2 (k a S1)) r := by
  cases r with
  | ok a S => exact fun b H' m' e rs rl => ⟨m', a, S, e, rs, rl, Post.mono e h⟩
  | ex x S => exact h
  | no => exact h
theorem PostS.mono (e : Ext c.K m H m1 H1) {o : Out} (h : PostS c m H Dn o) : PostS c m1 H1 Dn o := by
  cases o with
  | nx ρ S => exact fun σ' H' m' e' => h σ' H' m' (e.trans e')
  | bk ρ S => exact fun σ' H' m' e' => h σ' H' m' (e.trans e')
  | ct ρ S => exact fun σ' H' m' e' => h σ' H' m' (e.trans e')
  | rt d S => exact fun σ' H' m' e' => h σ' H' m' (e.trans e')
  | ex x ρ S => exact fun cls dd σ' H' m' e' => h cls dd σ' H' m' (e.trans e')
  | no => exact h
theorem Post.out {r : R α} {k : α → Store → Out} (re : RE c.K m H σ ρ) (h : PostS c m H Dn (r.out ρ k)) :
    Post c rel m H σ (fun b H1 => ∃ m1 a S1, Ext c.K m H m1 H1 ∧ RS c.K m1 H1 S1 ∧ rel m1 H1 b a ∧ RE c.K m1 H1 σ ρ ∧ PostS c m1 H1 Dn (k a S1)) r := by
  cases r with
  | ok a S => exact fun b H' m' e rs rl => ⟨m', a, S, e, rs, rl, re.mono e, PostS.mono e h⟩
  | ex x S => exact fun cls dd H' m' e rs rx => h cls dd σ H' m' e (re.mono e) rs rx
  | no => exact h
end
section
variable {X : Cx}
theorem PEwk {e : Expr} {t t' : TE} (h : PE X e t) (k : ∀ σ H Q, t' σ H Q → t σ H Q) : PE X e t' := ⟨fun pins s σ H Q I q => h.run pins s σ H Q I (k _ _ _ q)⟩
theorem PTwk {e : Expr} {t t' : TT} (h : PT X e t) (k : ∀ σ H Q, t' σ H Q → t σ H Q) : PT X e t' := ⟨fun pins s σ H Q I q => h.run pins s σ H Q I (k _ _ _ q)⟩
theorem PWwk {e : Expr} {t t' : TT} (h : PW X e t) (k : ∀ σ H Q, t' σ H Q → t σ H Q) : PW X e t' := ⟨fun wh pins s σ H Q I q => h.run wh pins s σ H Q I (k _ _ _ q)⟩
theorem PAwk {es : List Expr} {t t' : TA} (h : PA X es t) (k : ∀ σ H Q, t' σ H Q → t σ H Q) : PA X es t' := ⟨fun pos pins s σ H Q I q => h.run pos pins s σ H Q I (k _ _ _ q)⟩
theorem POwk {e : Option Expr} {t t' : TO} (h : PO X e t) (k : ∀ σ H Q, t' σ H Q → t σ H Q) : PO X e t' := ⟨fun pins s σ H Q I q => h.run pins s σ H Q I (k _ _ _ q)⟩
theorem PSwk {e : Stmt} {t t' : TS} (h : PS X e t) (k : ∀ D σ H, t' D σ H → t D σ H) : PS X e t' := ⟨fun pins s σ H D I q => h.run pins s σ H D I (k _ _ _ q)⟩
theorem PSswk {e : List Stmt} {t t' : TS} (h : PSs X e t) (k : ∀ D σ H, t' D σ H → t D σ H) : PSs X e t' := ⟨fun pins s σ H D I q => h.run pins s σ H D I (k _ _ _ q)⟩
theorem PGwk {e : Expr} {t t' : TG} (h : PG X e t) (k : ∀ v σ H Q, t' v σ H Q → t v σ H Q) : PG X e t' := ⟨fun pins s σ H v u Q I r q => h.run pins s σ H v u Q I r (k _ _ _ _ q)⟩
theorem PIwk {tg e : Expr} {t t' : TI} (h : PI X tg e t) (k : ∀ σ H Q, t' σ H Q → t σ H Q) : PI X tg e t' := ⟨fun pins s σ H Q I q => h.run pins s σ H Q I (k _ _ _ q)⟩
end

/-! ## expressions -/
def toR {α : Type} : Option (α × Store) → R α
  | some (a, S) => .ok a S
  | none => .no
@[simp] theorem toR_some {α : Type} (a : α) (S : Store) : toR (some (a, S)) = .ok a S := rfl
@[simp] theorem toR_none {α : Type} : toR (none : Option (α × Store)) = .no := rfl
def eV (i : Nat) : EX := fun ρ S => match ρ[i]? with
  | some (some d) => .ok d S
  | _ => .no
def eC (d : D) : EX := fun _ S => .ok d S
/-- two operands, by values -/
def e2 (g : D → D → Store → Option (D × Store)) (fa fb : EX) : EX := fun ρ S => (fa ρ S).bind fun x S1 => (fb ρ S1).bind fun y S2 => toR (g x y S2)
def e1 (g : D → Store → Option (D × Store)) (fa : EX) : EX := fun ρ S => (fa ρ S).bind fun x S1 => toR (g x S1)
def aN : AX := fun _ S => .ok [] S
def aC (fa : EX) (fr : AX) : AX := fun ρ S => (fa ρ S).bind fun x S1 => (fr ρ S1).bind fun xs S2 => .ok (x :: xs) S2
def eB (g : List D → Store → Option (D × Store)) (fa : AX) : EX := fun ρ S => (fa ρ S).bind fun xs S1 => toR (g xs S1)
def eF (F : List D → M D) (fa : AX) : EX := fun ρ S => (fa ρ S).bind fun xs S1 => F xs S1
/-- a method of a built-in type -/
def eM (g : D → List D → Store → Option (D × Store)) (fo : EX) (fa : AX) : EX := fun ρ S => (fo ρ S).bind fun x S1 => (fa ρ S1).bind fun xs S2 => toR (g x xs S2)
/-- by values -/
def VPost (K : PySem.W.Frag) (m : List Addr) (H : Hp) (Q : VK) : Option (D × Store) → Prop
  | some (d, S') => ∀ v H' m', Ext K m H m' H' → RS K m' H' S' → RD K m' H' v d → Q v H'
  | none => False
theorem VPost.of {c : Cq} {m : List Addr} {H : Hp} {σ : St} {Q : VK} {o : Option (D × Store)} (h : Post c (relD c) m H σ Q (toR o)) : VPost c.K m H Q o := by
  cases o with
  | none => exact h
  | some p => exact h
def rd1 (K : PySem.W.Frag) (g : D → Store → Option (D × Store)) : V → Hp → VK → Prop := fun v H Q => ∃ m x S, RD K m H v x ∧ RS K m H S ∧ VPost K m H Q (g x S)
def rd2 (K : PySem.W.Frag) (g : D → D → Store → Option (D × Store)) : R2 := fun v u H Q => ∃ m x y S, RD K m H v x ∧ RD K m H u y ∧ RS K m H S ∧ VPost K m H Q (g x y S)
def rdC (K : PySem.W.Frag) (g : List D → Store → Option (D × Store)) : List V → Hp → VK → Prop := fun vs H Q => ∃ m xs S, RDs K m H vs xs ∧ RS K m H S ∧ VPost K m H Q (g xs S)
def rdM (K : PySem.W.Frag) (g : D → List D → Store → Option (D × Store)) : V → List V → Hp → VK → Prop := fun v vs H Q => ∃ m x xs S, RD K m H v x ∧ RDs K m H vs xs ∧ RS K m H S ∧ VPost K m H Q (g x xs S)
section
variable {X : Cx} {W : WX} {a b e : Expr} {es : List Expr} {fa fb fe : EX} {fr fx : AX} {pos p : Pos}
theorem d_v (i : Nat) {x : Str} (hN : X.N[i]? = some x := by rfl) (hv : Vis X.env.scope x := by first | exact Or.inl rfl | exact Or.inr (Or.inl rfl) | exact Or.inr (Or.inr rfl)) (hd : (x == ("__debug__" : Str)) = false := by decide)
    (hcd : (x == ("__classdict__" : Str)) = false := by decide) : PE X (.Name x pos) (rdE (X.cq W) (eV i)) := PEwk (pv i hN hv hd hcd) fun σ H Q h => by
  obtain ⟨m, ρ, S, re, rs, h⟩ := h
  unfold eV at h
  split at h
  · rename_i d e
    obtain ⟨v, h1, h2⟩ := re.at_ e
    exact ⟨v, h1, h v H m .refl rs h2⟩
  · exact h.elim
theorem d_c {v : V} {d : D} (h : PE X e (tC v)) (r : ∀ m H, RD X.K m H v d) : PE X e (rdE (X.cq W) (eC d)) := PEwk h fun σ H Q h => by
  obtain ⟨m, ρ, S, re, rs, h⟩ := h
  exact h v H m .refl rs (r m H)
theorem d_int {i j} : PE X (.Constant (.int i) j pos) (rdE (X.cq W) (eC (.int i))) := d_c pe_int fun _ _ => .int i
theorem d_bl {i j} : PE X (.Constant (.bool i) j pos) (rdE (X.cq W) (eC (.bl i))) := d_c pe_bl fun _ _ => .bl i
theorem d_non {j} : PE X (.Constant .none j pos) (rdE (X.cq W) (eC .non)) := d_c pe_non fun _ _ => .non
theorem d_str {x : Str} {j} (h : x.length ≤ 16777216 := by decide +kernel) : PE X (.Constant (.str x) j pos) (rdE (X.cq W) (eC (.str x))) := d_c pe_str fun _ _ => .str h
/-- a builtin's name as a value -/
theorem d_blt {x : Str} {v : V} {u : Value} (hg : Gl X x) (hm : X.mg x = none) (hv : bootBuiltins x = some u) (r : RelV v u) (hn : x ≠ "__name__" := by decide) (hd : (x == ("__debug__" : Str)) = false := by decide) :
    PE X (.Name x pos) (rdE (X.cq W) (eC (.raw v))) := d_c (pe_bltn hg hm hv r hn hd) fun _ _ => .raw v
/-- a module's constant -/
theorem d_glob {x : Str} {v : V} {d : D} {u : Value} (hg : Gl X x) (hm : X.mg x = some u) (r : RelV v u) (rd : ∀ m H, RD X.K m H v d) (hd : (x == ("__debug__" : Str)) = false := by decide) :
    PE X (.Name x pos) (rdE (X.cq W) (eC d)) := d_c (pe_glob hg hm r hd) rd
theorem d_2h {r : R2} (h : PE X e (tOp r (rdE (X.cq W) fa) (rdE (X.cq W) fb))) {g : D → D → Store → Option (D × Store)} (k : ∀ v u H Q, rd2 X.K g v u H Q → r v u H Q) : PE X e (rdE (X.cq W) (e2 g fa fb)) := PEwk h fun σ H Q h => by
  obtain ⟨m, ρ, S, re, rs, h⟩ := h
  exact ⟨m, ρ, S, re, rs, (Post.bind h).imp fun v H1 ⟨m1, x, S1, e, rs1, rd, h1⟩ => ⟨m1, ρ, S1, re.mono e, rs1, (Post.bind h1).imp fun u H2 ⟨m2, y, S2, e2, rs2, rd2, h2⟩ =>
    k _ _ _ _ ⟨m2, x, y, S2, rd.mono e2, rd2, rs2, VPost.of h2⟩⟩⟩
theorem d_op {op : Operator} {g : D → D → Store → Option (D × Store)} (ho : OpR X (binaryOp op) (rd2 X.K g)) (ha : PE X a (rdE (X.cq W) fa)) (hb : PE X b (rdE (X.cq W) fb)) : PE X (.BinOp a op b pos) (rdE (X.cq W) (e2 g fa fb)) :=
  d_2h (pe_op ho ha hb) fun _ _ _ _ h => h
end
end Dl

set_option Elab.async false
set_option linter.all false
set_option maxRecDepth 100000
namespace HT
open PySem PyProof.Rows
theorem cat_tup0 {prog : Program} {w : World} {A : Around} {E : Value → Shared → Prop} {s : Shared} {t b : Addr} {ws : List Value} {Q : Value → Shared → Prop} (ht : IsTup s.heap t ([] : List Value).toArray) (hb : IsTup s.heap b ws.toArray)
    (h1 : Q (.ref b) s) : wpAny (model prog w) A (binaryOp .Add (.ref t) (.ref b)) Q E s := by
  obtain ⟨⟨cls, dd, data, sl⟩, ho, hc, n, hd⟩ := id ht
  obtain ⟨⟨cls2, dd2, data2, sl2⟩, ho2, hc2, n2, hd2⟩ := id hb
  simp only at hc hd hc2 hd2
  subst hc hd hc2 hd2
  exact concat_meets ⟨_, ho, rfl⟩ ⟨_, ho2, rfl⟩ noFill_tuple_add seq_tuple_add PySem.F.slot_tuple_add PySem.F.entry_tuple_add (PySem.F.args_tuple_add_2 _ _)
      (PyProof.Rows.tuple_addW0 t b ([] : List Value).toArray ws.toArray n n2 dd dd2 sl sl2 (by simp)) ⟨ho, ho2, h1⟩
end HT
namespace Dl
open PySem L2

/-! ## operations by values -/
def LIM : Nat := 16777216
theorem lim_eq : LIM = sizeLine := by rw [sizeLine_eq]; rfl
def catL (S : Store) (l k : Nat) : Option (D × Store) := match S[l]?, S[k]? with
    | some (.lst xs), some (.lst ys) => if xs.length + ys.length ≤ LIM then some (.ref S.length, S ++ [.lst (xs ++ ys)]) else none
    | _, _ => none
def gAdd : D → D → Store → Option (D × Store)
  | .int i, .int j, S => some (.int (i + j), S)
  | .str a, .str b, S => if a.length + b.length ≤ LIM then some (.str (a ++ b), S) else none
  | .tup (x :: xs), .tup ys, S => if (x :: xs).length + ys.length ≤ LIM then some (.tup (x :: xs ++ ys), S) else none
  | .tup [], .tup ys, S => some (.tup ys, S)
  | .ref l, .ref k, S => catL S l k
  | _, _, _ => none
def gSub : D → D → Store → Option (D × Store)
  | .int i, .int j, S => some (.int (i - j), S)
  | _, _, _ => none
def gMul : D → D → Store → Option (D × Store)
  | .int i, .int j, S => if (-(2 ^ 64) < i ∧ i < 2 ^ 64) ∨ (-(2 ^ 64) < j ∧ j < 2 ^ 64) then some (.int (i * j), S) else none
  | _, _, _ => none
def gFdiv : D → D → Store → Option (D × Store)
  | .int i, .int j, S => if 0 < j ∧ j < 1073741824 then some (.int (i / j), S) else none
  | _, _, _ => none
def gMod : D → D → Store → Option (D × Store)
  | .int i, .int j, S => if 0 < j then some (.int (i % j), S) else none
  | _, _, _ => none
def gPow : D → D → Store → Option (D × Store)
  | .int i, .int j, S => if 0 ≤ j ∧ j ≤ 1000000 ∧ i.natAbs < 2 ^ 64 then some (.int (i ^ j.toNat), S) else none
  | _, _, _ => none
section
variable {X : Cx}
theorem str_app_len (a b : Str) : (a ++ b).length = a.length + b.length := by
  show (a.cps ++ b.cps).size = a.cps.size + b.cps.size
  exact Array.size_append
/-- a new tuple, without a dict -/
theorem lay_tup {pins : List (Addr × Obj)} {σ : St} {H : Hp} {s : Shared} {xs : List V} {us : List Value} {Q : VK} {tk : Nat} {n : Nat} (I : Inv X pins σ H s) (hz : xs.length ≤ sizeLine) (r : Vals xs us)
    (q : ∀ o, o.cls = .type "tuple" → o.dict = none → Q (.ref s.heap.objs.size) (upd H s.heap.objs.size (.frz o (.tup xs)))) :
    EP X pins σ Q (.ref s.heap.objs.size) { s with heap := s.heap.push { cls := .type "tuple", data := .seq us.toArray n }, toks := tk } := by
  refine ⟨.ref s.heap.objs.size, _, I.laid (t' := tk) (o := .frz { cls := .type "tuple", data := .seq us.toArray n } (.tup xs)) (fun b ob q => Heap.get?_push_of_some _ q) (Nat.le_refl _) ?_, rfl, q _ rfl rfl⟩
  exact ⟨Heap.get?_push_size _ rfl, hz, us, r, _, Heap.get?_push_size _ rfl, rfl, _, rfl⟩
/-- what VPost asks, for a new tuple -/
theorem vp_tup {K : PySem.W.Frag} {m : List Addr} {H : Hp} {S : Store} {Q : VK} {p : Addr} {o : Obj} {xs : List V} {ds : List D} (rs : RS K m H S) (hp : H p = none) (hc : o.cls = .type "tuple") (hd : o.dict = none) (r : RDs K m H xs ds)
    (h : ∀ v H' m', Ext K m H m' H' → RS K m' H' S → RD K m' H' v (.tup ds) → Q v H') : Q (.ref p) (upd H p (.frz o (.tup xs))) := by
  obtain ⟨e, rs'⟩ := rs.new (o := .frz o (.tup xs)) hp
  exact h _ _ m e rs' (.tup (.inl ⟨o, upd_same, hc, hd⟩) (r.mono e))
/-- .. for a new list -/
theorem vp_lst {K : PySem.W.Frag} {m : List Addr} {H : Hp} {S : Store} {Q : VK} {p : Addr} {xs : List V} {ds : List D} (rs : RS K m H S) (hp : H p = none) (r : RDs K m H xs ds)
    (h : ∀ v H' m', Ext K m H m' H' → RS K m' H' (S ++ [.lst ds]) → RD K m' H' v (.ref S.length) → Q v H') : Q (.ref p) (upd H p (.lst xs)) := by
  obtain ⟨e, rs'⟩ := rs.push (o := .lst xs) (c := .lst ds) hp fun m' e' => ⟨xs, upd_same, r.mono e'⟩
  refine h _ _ _ e rs' (.ref ?_)
  rw [← rs.len, List.getElem?_append_right (Nat.le_refl _), Nat.sub_self]
  rfl
theorem o_add : OpR X (binaryOp .Add) (rd2 X.K gAdd) := by
  intro pins s σ H v u vv uu Q I rv ru ⟨m, x, y, S, hx, hy, rs, h⟩
  cases hx with
  | int i =>
    cases hy with
    | int j => exact op_add pins s σ H _ _ vv uu Q I rv ru ⟨i, j, rfl, rfl, h _ _ m .refl rs (.int _)⟩
    | _ => exact (show False from h).elim
  | str ha =>
    cases hy with
    | str hb =>
      change VPost X.K m H Q (ite _ _ _) at h
      split at h
      · rename_i hz
        exact op_add_str pins s σ H _ _ vv uu Q I rv ru ⟨_, _, rfl, rfl, by rw [← lim_eq]; exact hz, h _ _ m .refl rs (.str (by rw [str_app_len]; exact hz))⟩
      · exact h.elim
    | _ => exact (show False from h).elim
  | @tup a vs ds ha r =>
    cases hy with
    | @tup b ws es hb r' =>
      cases ds with
      | nil =>
        cases rv
        cases ru
        obtain ⟨its, r1, p1, _⟩ := I.tuple ha.sq
        obtain ⟨its2, r2, p2, _⟩ := I.tuple hb.sq
        cases r
        cases r1
        exact HT.cat_tup0 p1 p2 ⟨.ref b, H, I, rfl, h _ _ m .refl rs (.tup hb r')⟩
      | cons d ds =>
        change VPost X.K m H Q (ite _ _ _) at h
        split at h
        · rename_i hz
          cases rv
          cases ru
          obtain ⟨its, r1, p1, _⟩ := I.tuple ha.sq
          obtain ⟨its2, r2, p2, _⟩ := I.tuple hb.sq
          have l1 := r.length
          have l2 := r'.length
          have hne : vs ≠ [] := fun z => by rw [z] at l1; cases l1
          refine HT.cat_tup p1 p2 (fun z => hne (r1.nil_iff.mp z)) (fun z => ⟨.ref a, H, I, rfl, ?_⟩) (fun z => ?_) (by rw [← r1.length, ← r2.length, l1, l2, ← lim_eq]; exact hz)
          · have w := r2.nil_iff.mp z
            rw [w] at l2
            have w' : es = [] := List.eq_nil_of_length_eq_zero l2.symm
            subst w'
            refine h _ _ m .refl rs (.tup ha ?_)
            rw [List.append_nil]
            exact r
          · exact lay_tup (tk := s.toks) I (by rw [List.length_append, l1, l2, ← lim_eq]; exact hz) (r1.append r2) fun o hc hd => vp_tup rs (I.hok.fresh (Nat.le_refl _)) hc hd (r.append r') h
        · exact h.elim
    | _ => cases ds <;> exact (show False from h).elim
  | @ref a l ha =>
    cases hy with
    | @ref b k hb =>
      have h : VPost X.K m H Q (catL S l k) := h
      unfold catL at h
      split at h
      · rename_i xs ys e1 e2
        split at h
        · rename_i hz
          obtain ⟨vs, h1, r1⟩ := rs.wlst ha e1
          obtain ⟨ws, h2, r2⟩ := rs.wlst hb e2
          exact op_cat pins s σ H _ _ vv uu Q I rv ru ⟨a, b, vs, ws, rfl, rfl, h1, h2, by rw [r1.length, r2.length, ← lim_eq]; exact hz, fun p hp => vp_lst rs hp (r1.append r2) h⟩
        · exact h.elim
      · exact h.elim
    | _ => exact (show False from h).elim
  | _ => cases hy <;> exact (show False from h).elim
theorem o_int {op : Operator} {C : Int → Int → Prop} [∀ i j, Decidable (C i j)] {g : Int → Int → Int} {r : R2} {gg : D → D → Store → Option (D × Store)} (ho : OpR X (binaryOp op) r)
    (hr : ∀ i j H Q, C i j → Q (.int (g i j)) H → r (.int i) (.int j) H Q) (hg : ∀ x y S, gg x y S = match x, y with
      | .int i, .int j => if C i j then some (.int (g i j), S) else none
      | _, _ => none) : OpR X (binaryOp op) (rd2 X.K gg) := by
  intro pins s σ H v u vv uu Q I rv ru ⟨m, x, y, S, hx, hy, rs, h⟩
  rw [hg] at h
  cases hx with
  | int i =>
    cases hy with
    | int j =>
      by_cases hc : C i j
      · simp only [hc, if_true] at h
        exact ho pins s σ H _ _ vv uu Q I rv ru (hr i j H Q hc (h _ _ m .refl rs (.int _)))
      · simp only [hc, if_false] at h
        exact h.elim
    | _ => exact (show False from h).elim
  | _ => exact (show False from h).elim
theorem o_sub : OpR X (binaryOp .Sub) (rd2 X.K gSub) := o_int (C := fun _ _ => True) (g := fun i j => i - j) op_sub (fun i j H Q _ q => ⟨i, j, rfl, rfl, q⟩) fun x y S => by cases x <;> cases y <;> rfl
theorem o_mul : OpR X (binaryOp .Mult) (rd2 X.K gMul) := o_int (C := fun i j => (-(2 ^ 64) < i ∧ i < 2 ^ 64) ∨ (-(2 ^ 64) < j ∧ j < 2 ^ 64)) (g := fun i j => i * j) op_mul (fun i j H Q c q => ⟨i, j, rfl, rfl, c, q⟩) fun x y S => by cases x <;> cases y <;> rfl
theorem o_fdiv : OpR X (binaryOp .FloorDiv) (rd2 X.K gFdiv) := o_int (C := fun i j => 0 < j ∧ j < 1073741824) (g := fun i j => i / j) op_fdiv (fun i j H Q c q => ⟨i, j, rfl, rfl, c, q⟩) fun x y S => by cases x <;> cases y <;> rfl
theorem o_mod : OpR X (binaryOp .Mod) (rd2 X.K gMod) := o_int (C := fun i j => 0 < j) (g := fun i j => i % j) op_mod (fun i j H Q c q => ⟨i, j, rfl, rfl, c, q⟩) fun x y S => by cases x <;> cases y <;> rfl
theorem o_pow : OpR X (binaryOp .Pow) (rd2 X.K gPow) := o_int (C := fun i j => 0 ≤ j ∧ j ≤ 1000000 ∧ i.natAbs < 2 ^ 64) (g := fun i j => i ^ j.toNat) op_pow (fun i j H Q c q => ⟨i, j, rfl, rfl, c, q⟩) fun x y S => by cases x <;> cases y <;> rfl

/-! ### comparisons -/
end
end Dl

set_option Elab.async false
set_option linter.all false
set_option maxRecDepth 100000
namespace Dl
open PySem L2

/-! ## data -/
mutual
/-- no lists within -/
def D.flat : D → Bool
  | .tup xs => flats xs
  | .ref _ => false
  | .raw _ => false
  | _ => true
def flats : List D → Bool
  | [] => true
  | x :: xs => x.flat && flats xs
end
mutual
def D.dep : D → Nat
  | .tup xs => deps xs + 1
  | _ => 0
def deps : List D → Nat
  | [] => 0
  | x :: xs => max x.dep (deps xs)
end
mutual
/-- == -/
def deq : D → D → Bool
  | .non, .non => true
  | .bl a, .bl b => a == b
  | .bl a, .int j => (if a then 1 else 0) == j
  | .int i, .bl b => i == (if b then 1 else 0)
  | .int i, .int j => i == j
  | .str x, .str y => x == y
  | .tup xs, .tup ys => deqs xs ys
  | _, _ => false
def deqs : List D → List D → Bool
  | [], [] => true
  | x :: xs, y :: ys => deq x y && deqs xs ys
  | _, _ => false
end
mutual
def toPy : D → PyData
  | .non => .none
  | .bl b => .bool b
  | .int i => .int i
  | .str x => .str x
  | .tup xs => .tuple (toPys xs)
  | _ => .none
def toPys : List D → List PyData
  | [] => []
  | x :: xs => toPy x :: toPys xs
end
mutual
theorem plain_toPy : ∀ x : D, (toPy x).plain = true
  | .non => rfl
  | .bl _ => rfl
  | .int _ => rfl
  | .str _ => rfl
  | .tup xs => plains_toPys xs
  | .ref _ => rfl
  | .raw _ => rfl
theorem plains_toPys : ∀ xs : List D, PyData.plainAll (toPys xs) = true
  | [] => rfl
  | x :: xs => by
    show ((toPy x).plain && PyData.plainAll (toPys xs)) = true
    rw [plain_toPy x, plains_toPys xs] <;> rfl
end
mutual
theorem depth_toPy : ∀ x : D, (toPy x).depth = x.dep
  | .non => rfl
  | .bl _ => rfl
  | .int _ => rfl
  | .str _ => rfl
  | .tup xs => by
    show PyData.depthAll (toPys xs) + 1 = deps xs + 1
    rw [depths_toPys xs]
  | .ref _ => rfl
  | .raw _ => rfl
theorem depths_toPys : ∀ xs : List D, PyData.depthAll (toPys xs) = deps xs
  | [] => rfl
  | x :: xs => by
    show max (toPy x).depth (PyData.depthAll (toPys xs)) = max x.dep (deps xs)
    rw [depth_toPy x, depths_toPys xs]
end
mutual
theorem eqv_toPy : ∀ x y : D, x.flat = true → y.flat = true → PyData.eqv (toPy x) (toPy y) = deq x y
  | x, y, hx, hy => by
    cases x with
    | tup xs =>
      cases y with
      | tup ys =>
        show PyData.eqvAll (toPys xs) (toPys ys) = deqs xs ys
        exact eqvs_toPys xs ys hx hy
      | ref _ => cases hy
      | raw _ => cases hy
      | _ => rfl
    | ref _ => cases hx
    | raw _ => cases hx
    | _ =>
      cases y with
      | ref _ => cases hy
      | raw _ => cases hy
      | _ => rfl
theorem eqvs_toPys : ∀ xs ys : List D, flats xs = true → flats ys = true → PyData.eqvAll (toPys xs) (toPys ys) = deqs xs ys
  | [], [], _, _ => rfl
  | [], _ :: _, _, _ => rfl
  | _ :: _, [], _, _ => rfl
  | x :: xs, y :: ys, hx, hy => by
    have hx' : (x.flat && flats xs) = true := hx
    have hy' : (y.flat && flats ys) = true := hy
    rw [Bool.and_eq_true] at hx' hy'
    show (PyData.eqv (toPy x) (toPy y) && PyData.eqvAll (toPys xs) (toPys ys)) = (deq x y && deqs xs ys)
    rw [eqv_toPy x y hx'.1 hy'.1, eqvs_toPys xs ys hx'.2 hy'.2]
end
section
variable {K : PySem.W.Frag} {m : List Addr} {H : Hp}
mutual
theorem dp_of : ∀ {d : D} {v : V}, d.flat = true → RD K m H v d → Dp K H v (toPy d)
  | .non, _, _, r => by cases r; exact .non
  | .bl b, _, _, r => by cases r; exact .bl b
  | .int b, _, _, r => by cases r; exact .int b
  | .str b, _, _, r => by cases r; exact .str b
  | .tup xs, _, h, r => by
    cases r with
    | tup h1 h2 => exact .tup h1.sq (dps_of (show flats xs = true from h) h2)
theorem dps_of : ∀ {ds : List D} {vs : List V}, flats ds = true → RDs K m H vs ds → DpAll K H vs (toPys ds)
  | [], _, _, r => by cases r; exact .nil
  | d :: ds, _, h, r => by
    have h' : (d.flat && flats ds) = true := h
    rw [Bool.and_eq_true] at h'
    cases r with
    | cons h1 h2 => exact .cons (dp_of h'.1 h1) (dps_of h'.2 h2)
end
end
/-- a value as data: flat, or a list of flat ones -/
def asP (S : Store) (x : D) : Option PyData := if x.flat then some (toPy x) else match x with
  | .ref l => match lstAt S l with
    | some xs => if flats xs then some (.list (toPys xs)) else none
    | none => none
  | _ => none
theorem asP_flat {S : Store} {x : D} (h : x.flat = true) : asP S x = some (toPy x) := by unfold asP; rw [if_pos h]
theorem asP_of {K : PySem.W.Frag} {m : List Addr} {H : Hp} {S : Store} {x : D} {v : V} {p : PyData} (rs : RS K m H S) (r : RD K m H v x) (h : asP S x = some p) : Dp K H v p ∧ p.plain = true := by
  unfold asP at h
  split at h
  · rename_i hx
    cases h
    exact ⟨dp_of hx r, plain_toPy x⟩
  · split at h
    · rename_i l _
      split at h
      · rename_i xs e
        split at h
        · rename_i hf
          cases h
          cases r with
          | ref ha =>
            obtain ⟨vs, h1, h2⟩ := rs.lst ha e
            exact ⟨.lst h1 (dps_of hf h2), plains_toPys xs⟩
        · cases h
      · cases h
    · cases h
def gEqB (x y : D) (S : Store) : Option Bool := match asP S x, asP S y with
  | some p, some q => if p.depth ≤ 64 then some (PyData.eqv p q) else none
  | _, _ => none
def gEq (x y : D) (S : Store) : Option (D × Store) := (gEqB x y S).map fun b => (.bl b, S)
def gNe (x y : D) (S : Store) : Option (D × Store) := (gEqB x y S).map fun b => (.bl (!b), S)
theorem gEqB_flat {x y : D} {S : Store} (hx : x.flat = true) (hy : y.flat = true) (hd : x.dep ≤ 64) : gEqB x y S = some (deq x y) := by
  unfold gEqB
  rw [asP_flat hx, asP_flat hy]
  show (if (toPy x).depth ≤ 64 then some (PyData.eqv (toPy x) (toPy y)) else none) = _
  rw [depth_toPy, if_pos hd, eqv_toPy x y hx hy]
theorem gEq_flat {x y : D} {S : Store} (hx : x.flat = true) (hy : y.flat = true) (hd : x.dep ≤ 64) : gEq x y S = some (.bl (deq x y), S) := by unfold gEq; rw [gEqB_flat hx hy hd]; rfl
theorem gNe_flat {x y : D} {S : Store} (hx : x.flat = true) (hy : y.flat = true) (hd : x.dep ≤ 64) : gNe x y S = some (.bl (!deq x y), S) := by unfold gNe; rw [gEqB_flat hx hy hd]; rfl
@[simp] theorem gEq_int (i j : Int) (S : Store) : gEq (.int i) (.int j) S = some (.bl (i == j), S) := gEq_flat rfl rfl (Nat.zero_le _)
@[simp] theorem gEq_str (i j : Str) (S : Store) : gEq (.str i) (.str j) S = some (.bl (i == j), S) := gEq_flat rfl rfl (Nat.zero_le _)
@[simp] theorem gNe_int (i j : Int) (S : Store) : gNe (.int i) (.int j) S = some (.bl (!(i == j)), S) := gNe_flat rfl rfl (Nat.zero_le _)
@[simp] theorem gNe_str (i j : Str) (S : Store) : gNe (.str i) (.str j) S = some (.bl (!(i == j)), S) := gNe_flat rfl rfl (Nat.zero_le _)
section
variable {X : Cx}
theorem o_eqB {op : CmpOp} {f : Bool → Bool} {g : D → D → Store → Option (D × Store)} (hg : ∀ x y S, g x y S = (gEqB x y S).map fun b => (.bl (f b), S))
    (rule : ∀ {s : Shared} {a b : Value} {da db : PyData} {as bs : List Addr} {Q E : Value → Shared → Prop}, Reads s.heap a da as → Reads s.heap b db bs → da.plain = true → db.plain = true → X.A.units + min da.depth db.depth < cLine →
      Q (.bool (f (PyData.eqv da db))) s → wpAny (model X.prog X.w) X.A (compareOp op a b) Q E s) (hu : X.A.units + 64 < cLine) : OpR X (compareOp op) (rd2 X.K g) := by
  intro pins s σ H v u vv uu Q I rv ru ⟨m, x, y, S, hx, hy, rs, h⟩
  rw [hg] at h
  unfold gEqB at h
  split at h
  · rename_i p q e1 e2
    split at h
    · rename_i hd
      obtain ⟨d1, p1⟩ := asP_of rs hx e1
      obtain ⟨d2, p2⟩ := asP_of rs hy e2
      obtain ⟨as, r1⟩ := Dp.reads I _ _ _ d1 rv
      obtain ⟨bs, r2⟩ := Dp.reads I _ _ _ d2 ru
      have hm : min p.depth q.depth ≤ p.depth := Nat.min_le_left _ _
      exact rule r1 r2 p1 p2 (by omega) ⟨.bl _, H, I, rfl, h _ _ m .refl rs (.bl _)⟩
    · exact h.elim
  · exact h.elim
theorem o_eq (hu : X.A.units + 64 < cLine) : OpR X (compareOp .Eq) (rd2 X.K gEq) := o_eqB (f := fun b => b) (fun _ _ _ => rfl) PySem.SeqAt.eq_plain hu
theorem o_ne (hu : X.A.units + 64 < cLine) : OpR X (compareOp .NotEq) (rd2 X.K gNe) := o_eqB (f := fun b => !b) (fun _ _ _ => rfl) PySem.SeqAt.ne_plain hu

/-! ### order of ints and texts -/
def gLt : D → D → Store → Option (D × Store)
  | .int i, .int j, S => some (.bl (decide (i < j)), S)
  | .str a, .str b, S => some (.bl (decide (a.cps.toList < b.cps.toList)), S)
  | _, _, _ => none
def gLe : D → D → Store → Option (D × Store)
  | .int i, .int j, S => some (.bl (decide (i ≤ j)), S)
  | .str a, .str b, S => some (.bl (!decide (b.cps.toList < a.cps.toList)), S)
  | _, _, _ => none
def gGt : D → D → Store → Option (D × Store)
  | .int i, .int j, S => some (.bl (decide (j < i)), S)
  | .str a, .str b, S => some (.bl (decide (b.cps.toList < a.cps.toList)), S)
  | _, _, _ => none
def gGe : D → D → Store → Option (D × Store)
  | .int i, .int j, S => some (.bl (decide (j ≤ i)), S)
  | .str a, .str b, S => some (.bl (!decide (a.cps.toList < b.cps.toList)), S)
  | _, _, _ => none
theorem o_ord {op : CmpOp} {fi : Int → Int → Bool} {fs : Str → Str → Bool} {ri rs' : R2} {g : D → D → Store → Option (D × Store)} (hi : OpR X (compareOp op) ri) (hs : OpR X (compareOp op) rs')
    (ki : ∀ i j H Q, Q (.bl (fi i j)) H → ri (.int i) (.int j) H Q) (ks : ∀ i j H Q, Q (.bl (fs i j)) H → rs' (.str i) (.str j) H Q)
    (hg : ∀ x y S, g x y S = match x, y with
      | .int i, .int j => some (.bl (fi i j), S)
      | .str i, .str j => some (.bl (fs i j), S)
      | _, _ => none) : OpR X (compareOp op) (rd2 X.K g) := by
  intro pins s σ H v u vv uu Q I rv ru ⟨m, x, y, S, hx, hy, rs, h⟩
  rw [hg] at h
  cases hx with
  | int i =>
    cases hy with
    | int j => exact hi pins s σ H _ _ vv uu Q I rv ru (ki i j H Q (h _ _ m .refl rs (.bl _)))
    | _ => exact (show False from h).elim
  | str ha =>
    cases hy with
    | str hb => exact hs pins s σ H _ _ vv uu Q I rv ru (ks _ _ H Q (h _ _ m .refl rs (.bl _)))
    | _ => exact (show False from h).elim
  | _ => exact (show False from h).elim
theorem o_lt : OpR X (compareOp .Lt) (rd2 X.K gLt) := o_ord op_lt op_lt_str (fun i j H Q q => ⟨i, j, rfl, rfl, q⟩) (fun i j H Q q => ⟨i, j, rfl, rfl, q⟩) fun x y S => by cases x <;> cases y <;> rfl
theorem o_le : OpR X (compareOp .LtE) (rd2 X.K gLe) := o_ord op_le op_le_str (fun i j H Q q => ⟨i, j, rfl, rfl, q⟩) (fun i j H Q q => ⟨i, j, rfl, rfl, q⟩) fun x y S => by cases x <;> cases y <;> rfl
theorem o_gt : OpR X (compareOp .Gt) (rd2 X.K gGt) := o_ord op_gt op_gt_str (fun i j H Q q => ⟨i, j, rfl, rfl, q⟩) (fun i j H Q q => ⟨i, j, rfl, rfl, q⟩) fun x y S => by cases x <;> cases y <;> rfl
theorem o_ge : OpR X (compareOp .GtE) (rd2 X.K gGe) := o_ord op_ge op_ge_str (fun i j H Q q => ⟨i, j, rfl, rfl, q⟩) (fun i j H Q q => ⟨i, j, rfl, rfl, q⟩) fun x y S => by cases x <;> cases y <;> rfl

/-! ### in: a list or tuple of flat things, a sign of a text -/
def gInB : D → D → Store → Option Bool
  | .str a, .str b, _ => if a.length = 1 then some (decide (a.cps.getD 0 0 ∈ b.cps.toList)) else none
  | x, .tup ys, _ => if x.flat && flats ys && decide (x.dep ≤ 64) then some (ys.any fun y => deq y x) else none
  | x, .ref l, S => match lstAt S l with
    | some ys => if x.flat && flats ys && decide (x.dep ≤ 64) then some (ys.any fun y => deq y x) else none
    | none => none
  | _, _, _ => none
def gIn (x y : D) (S : Store) : Option (D × Store) := (gInB x y S).map fun b => (.bl b, S)
def gNin (x y : D) (S : Store) : Option (D × Store) := (gInB x y S).map fun b => (.bl (!b), S)
theorem any_toPys {x : D} (hx : x.flat = true) : ∀ {ys : List D}, flats ys = true → ((toPys ys).any fun y => PyData.eqv y (toPy x)) = ys.any fun y => deq y x
  | [], _ => rfl
  | y :: ys, h => by
    have h' : (y.flat && flats ys) = true := h
    rw [Bool.and_eq_true] at h'
    show (PyData.eqv (toPy y) (toPy x) || (toPys ys).any _) = (deq y x || ys.any _)
    rw [eqv_toPy y x h'.1 hx, any_toPys hx h'.2]
theorem sign_of {a : Str} (h : a.length = 1) : a = ⟨#[a.cps.getD 0 0]⟩ := by
  obtain ⟨⟨l⟩⟩ := a
  have h' : l.length = 1 := h
  match l, h' with
  | [c], _ => rfl
theorem o_inB {op : CmpOp} {f : Bool → Bool} {g : D → D → Store → Option (D × Store)} {rs' : R2} (hg : ∀ x y S, g x y S = (gInB x y S).map fun b => (.bl (f b), S)) (hs : OpR X (compareOp op) rs')
    (ks : ∀ (c : Nat) (z : Str) H Q, Q (.bl (f (decide (c ∈ z.cps.toList)))) H → rs' (.str ⟨#[c]⟩) (.str z) H Q)
    (rl : ∀ {s : Shared} {c x : Value} {xs : List PyData} {d : PyData} {as bs : List Addr} {Q E : Value → Shared → Prop}, Reads s.heap c (.list xs) as → Reads s.heap x d bs → PyData.plainAll xs = true → d.plain = true →
      X.A.units + 1 + min (PyData.depthAll xs) d.depth < cLine → Q (.bool (f (xs.any fun y => PyData.eqv y d))) s → wpAny (model X.prog X.w) X.A (compareOp op x c) Q E s)
    (rt : ∀ {s : Shared} {c x : Value} {xs : List PyData} {d : PyData} {as bs : List Addr} {Q E : Value → Shared → Prop}, Reads s.heap c (.tuple xs) as → Reads s.heap x d bs → PyData.plainAll xs = true → d.plain = true →
      X.A.units + 1 + min (PyData.depthAll xs) d.depth < cLine → Q (.bool (f (xs.any fun y => PyData.eqv y d))) s → wpAny (model X.prog X.w) X.A (compareOp op x c) Q E s)
    (hu : X.A.units + 65 < cLine) : OpR X (compareOp op) (rd2 X.K g) := by
  intro pins s σ H v u vv uu Q I rv ru ⟨m, x, y, S, hx, hy, rs, h⟩
  rw [hg] at h
  have room : ∀ (d : D) (ps : List PyData), d.dep ≤ 64 → X.A.units + 1 + min (PyData.depthAll ps) (toPy d).depth < cLine := fun d ps hd => by
    rw [depth_toPy]
    have hm : min (PyData.depthAll ps) d.dep ≤ d.dep := Nat.min_le_right _ _
    omega
  have seqT : ∀ {a : Addr} {vs : List V} {ys : List D} {c : Bool}, TupAt X.K H a vs → RDs X.K m H vs ys → u = .ref a → (x.flat && flats ys && decide (x.dep ≤ 64)) = true → Q (.bl (f (ys.any fun y => deq y x))) H →
      wpAny (model X.prog X.w) X.A (compareOp op vv uu) (EP X pins σ Q) X.xe s := fun {a vs ys c} ht r e hc q => by
    simp only [Bool.and_eq_true, decide_eq_true_eq] at hc
    obtain ⟨⟨h1, h2⟩, h3⟩ := hc
    subst e
    obtain ⟨as, r1⟩ := Dp.reads I _ _ _ (dp_of h1 hx) rv
    obtain ⟨bs, r2⟩ := Dp.reads I _ _ _ (Dp.tup ht.sq (dps_of h2 r)) ru
    exact rt r2 r1 (plains_toPys ys) (plain_toPy x) (room x _ h3) ⟨.bl _, H, I, rfl, by rw [any_toPys h1 h2]; exact q⟩
  have seqL : ∀ {a : Addr} {vs : List V} {ys : List D} {c : Bool}, SqL X.K H a vs → RDs X.K m H vs ys → u = .ref a → (x.flat && flats ys && decide (x.dep ≤ 64)) = true → Q (.bl (f (ys.any fun y => deq y x))) H →
      wpAny (model X.prog X.w) X.A (compareOp op vv uu) (EP X pins σ Q) X.xe s := fun {a vs ys c} ht r e hc q => by
    simp only [Bool.and_eq_true, decide_eq_true_eq] at hc
    obtain ⟨⟨h1, h2⟩, h3⟩ := hc
    subst e
    obtain ⟨as, r1⟩ := Dp.reads I _ _ _ (dp_of h1 hx) rv
    obtain ⟨bs, r2⟩ := Dp.reads I _ _ _ (Dp.lst ht (dps_of h2 r)) ru
    exact rl r2 r1 (plains_toPys ys) (plain_toPy x) (room x _ h3) ⟨.bl _, H, I, rfl, by rw [any_toPys h1 h2]; exact q⟩
  unfold gInB at h
  split at h
  · rename_i a b
    split at h
    · rename_i ha
      have e := sign_of ha
      cases hx
      cases hy
      rw [e] at rv
      exact hs pins s σ H _ _ vv uu Q I rv ru (ks _ _ H Q (h _ _ m .refl rs (.bl _)))
    · exact h.elim
  · rename_i ys _
    split at h
    · rename_i hc
      cases hy with
      | tup ht r => exact seqT (c := true) ht r rfl hc (h _ _ m .refl rs (.bl _))
    · exact h.elim
  · rename_i l
    split at h
    · rename_i ys e
      split at h
      · rename_i hc
        cases hy with
        | ref ha =>
          obtain ⟨vs, h1, h2⟩ := rs.lst ha e
          exact seqL (c := true) h1 h2 rfl hc (h _ _ m .refl rs (.bl _))
      · exact h.elim
    · exact h.elim
  · exact h.elim
theorem o_in (hu : X.A.units + 65 < cLine) : OpR X (compareOp .In) (rd2 X.K gIn) := o_inB (f := fun b => b) (fun _ _ _ => rfl) op_in_sign (fun c z H Q q => ⟨c, z, rfl, rfl, q⟩) PySem.SeqAt.in_list_data PySem.SeqAt.in_tuple_data hu
theorem o_nin (hu : X.A.units + 65 < cLine) : OpR X (compareOp .NotIn) (rd2 X.K gNin) := o_inB (f := fun b => !b) (fun _ _ _ => rfl) op_notIn_sign (fun c z H Q q => ⟨c, z, rfl, rfl, q⟩) PySem.SeqAt.notIn_list_data PySem.SeqAt.notIn_tuple_data hu
end
end Dl

set_option Elab.async false
set_option linter.all false
set_option maxRecDepth 100000
namespace Dl
open PySem L2

/-! ## items, slices -/
def gIx : D → D → Store → Option (D × Store)
  | .tup xs, .int i, S => (atI xs i).map fun d => (d, S)
  | .ref l, .int i, S => (lstAt S l).bind fun xs => (atI xs i).map fun d => (d, S)
  | .str x, .int i, S => (atI x.cps.toList i).map fun c => (.str ⟨#[c]⟩, S)
  | _, _, _ => none
def cutD {α : Type} (xs : List α) (lo hi : Option Int) : List α := (xs.drop (HT.sIx xs.length 0 lo)).take (HT.sIx xs.length xs.length hi - HT.sIx xs.length 0 lo)
def gSl : D → Option Int → Option Int → Store → Option (D × Store)
  | .tup xs, lo, hi, S => some (.tup (cutD xs lo hi), S)
  | .ref l, lo, hi, S => (lstAt S l).map fun xs => (.ref S.length, S ++ [.lst (cutD xs lo hi)])
  | .str x, lo, hi, S => some (.str (cutS x lo hi), S)
  | _, _, _, _ => none
theorem cutS_le (x : Str) (lo hi : Option Int) : (cutS x lo hi).length ≤ x.length := by
  show ((x.cps.toList.drop _).take _).toArray.size ≤ x.cps.size
  rw [List.size_toArray, List.length_take, List.length_drop, Array.length_toList]
  omega
section
variable {K : PySem.W.Frag} {m : List Addr} {H : Hp}
theorem RDs.atI {vs : List V} {ds : List D} (r : RDs K m H vs ds) {i : Int} {d : D} (h : atI ds i = some d) : ∃ v, L2.atI vs i = some v ∧ RD K m H v d := by
  unfold L2.atI at h ⊢
  rw [r.length]
  cases e : ixN ds.length i with
  | none => rw [e] at h; cases h
  | some j =>
    rw [e] at h
    exact r.get h
theorem RDs.cut {vs : List V} {ds : List D} (r : RDs K m H vs ds) (lo hi : Option Int) : RDs K m H (cutV vs lo hi) (cutD ds lo hi) := by
  unfold cutV cutD
  rw [r.length]
  exact (r.drop _).take _
end
section
variable {X : Cx}
theorem i_ix : IxR X (rd2 X.K gIx) := by
  intro value slice pins s σ H v u vv uu Q I rv ru ⟨m, x, y, S, hx, hy, rs, h⟩ hs
  cases hx with
  | @str a ha =>
    cases hy with
    | int i =>
      have h : VPost X.K m H Q ((L2.atI a.cps.toList i).map fun c => (.str ⟨#[c]⟩, S)) := h
      cases e : L2.atI a.cps.toList i with
      | none => rw [e] at h; exact h.elim
      | some c =>
        rw [e] at h
        exact ix_str value slice pins s σ H _ _ vv uu Q I rv ru ⟨a, i, c, rfl, rfl, by rw [← lim_eq]; exact ha, e, h _ _ m .refl rs (.str (by show (1 : Nat) ≤ _; decide))⟩ hs
    | _ => exact (show False from h).elim
  | @tup a vs ds ht r =>
    cases hy with
    | int i =>
      have h : VPost X.K m H Q ((L2.atI ds i).map fun c => (c, S)) := h
      cases e : L2.atI ds i with
      | none => rw [e] at h; exact h.elim
      | some d =>
        rw [e] at h
        obtain ⟨w, h1, h2⟩ := r.atI e
        exact ix_tup value slice pins s σ H _ _ vv uu Q I rv ru ⟨a, vs, i, w, rfl, rfl, ht.sq, h1, h _ _ m .refl rs h2⟩ hs
    | _ => exact (show False from h).elim
  | @ref a l hl =>
    cases hy with
    | int i =>
      have h : VPost X.K m H Q ((lstAt S l).bind fun xs => (L2.atI xs i).map fun c => (c, S)) := h
      cases e1 : lstAt S l with
      | none => rw [e1] at h; exact h.elim
      | some xs =>
        rw [e1] at h
        obtain ⟨vs, hq, r⟩ := rs.lst hl e1
        have h : VPost X.K m H Q ((L2.atI xs i).map fun c => (c, S)) := h
        cases e : L2.atI xs i with
        | none => rw [e] at h; exact h.elim
        | some d =>
          rw [e] at h
          obtain ⟨w, h1, h2⟩ := r.atI e
          exact ix_list value slice pins s σ H _ _ vv uu Q I rv ru ⟨a, vs, i, w, rfl, rfl, hq, h1, h _ _ m .refl rs h2⟩ hs
    | _ => exact (show False from h).elim
  | _ => exact (show False from h).elim
def rdSl (K : PySem.W.Frag) (g : D → Option Int → Option Int → Store → Option (D × Store)) : V → Option Int → Option Int → Hp → VK → Prop := fun v lo hi H Q => ∃ m x S, RD K m H v x ∧ RS K m H S ∧ VPost K m H Q (g x lo hi S)
theorem s_sl : SlR X (rdSl X.K gSl) := by
  intro pins s σ H v vv vl vu lo hi sl Q I rv hs pl pu ⟨m, x, S, hx, rs, h⟩
  cases hx with
  | @str a ha => exact sl_str pins s σ H _ vv vl vu lo hi sl Q I rv hs pl pu ⟨a, rfl, by rw [← lim_eq]; exact ha, h _ _ m .refl rs (.str (Nat.le_trans (cutS_le a lo hi) ha))⟩
  | @tup a vs ds ht r =>
    have h : VPost X.K m H Q (some (.tup (cutD ds lo hi), S)) := h
    by_cases hw : HT.sIx ds.length 0 lo = 0 ∧ HT.sIx ds.length ds.length hi = ds.length
    · cases rv
      obtain ⟨its, r1, p, hz⟩ := I.tuple ht.sq
      have hlen : its.toArray.size = vs.length := by rw [List.size_toArray]; exact r1.length.symm
      have ec : cutD ds lo hi = ds := by unfold cutD; rw [hw.1, hw.2, List.drop_zero, Nat.sub_zero, List.take_length]
      refine ⟨"tuple", _, PyProof.Rows.slot_tuple_getitem.lookup, p.typeIs, ?_⟩
      refine getItem_tuple_whole p hs pl pu (by rw [hlen, r.length]; exact hw) ⟨.ref a, H, I, rfl, h _ _ m .refl rs ?_⟩
      rw [ec]
      exact .tup ht r
    · cases rv
      obtain ⟨its, r1, p, hz⟩ := I.tuple ht.sq
      have hlen : its.toArray.size = vs.length := by rw [List.size_toArray]; exact r1.length.symm
      refine ⟨"tuple", _, PyProof.Rows.slot_tuple_getitem.lookup, p.typeIs, ?_⟩
      refine HT.getItem_tuple_cut p hs pl pu (by rw [hlen, r.length]; exact hw) ?_ (by rw [hlen]; exact hz)
      rw [hlen]
      exact lay_tup (tk := s.toks) I (Nat.le_trans (cutV_length vs lo hi) hz) ((r1.drop (HT.sIx vs.length 0 lo)).take (HT.sIx vs.length vs.length hi - HT.sIx vs.length 0 lo)) fun o hc hd =>
        vp_tup rs (I.hok.fresh (Nat.le_refl _)) hc hd (r.cut lo hi) h
  | @ref a l hl =>
    have h : VPost X.K m H Q ((lstAt S l).map fun xs => (.ref S.length, S ++ [.lst (cutD xs lo hi)])) := h
    cases e : lstAt S l with
    | none => rw [e] at h; exact h.elim
    | some xs =>
      rw [e] at h
      obtain ⟨vs, hq, r⟩ := rs.lst hl e
      exact sl_list pins s σ H _ vv vl vu lo hi sl Q I rv hs pl pu ⟨a, vs, rfl, hq, fun p hp => vp_lst rs hp (r.cut lo hi) h⟩
  | _ => exact (show False from h).elim
/-- o[i] = v -/
def gSet : D → D → D → Store → Option Store
  | .ref l, .int k, d, S => match S[l]? with
    | some (.lst xs) => (ixN xs.length k).map fun j => S.set l (.lst (xs.set j d))
    | _ => none
  | _, _, _, _ => none
def rdSet (K : PySem.W.Frag) (g : D → D → D → Store → Option Store) : V → V → V → Hp → (Hp → Prop) → Prop := fun o i v H Q => ∃ m x y z S, RD K m H o x ∧ RD K m H i y ∧ RD K m H v z ∧ RS K m H S ∧ match g x y z S with
  | some S' => ∀ H' m', Ext K m H m' H' → RS K m' H' S' → Q H'
  | none => False
theorem p_set : PSet X (rdSet X.K gSet) := by
  intro pins s σ H o i v ov iv u Q I ro ri rv ⟨m, x, y, z, S, hx, hy, hz, rs, h⟩
  unfold gSet at h
  cases hx with
  | @ref a l hl =>
    cases hy with
    | int k =>
      simp only at h
      cases e : S[l]? with
      | none => rw [e] at h; exact h.elim
      | some c =>
        cases c with
        | lst xs =>
          rw [e] at h
          simp only at h
          cases e2 : ixN xs.length k with
          | none => rw [e2] at h; exact h.elim
          | some j =>
            rw [e2] at h
            simp only [Option.map_some] at h
            obtain ⟨vs, h1, r⟩ := rs.wlst hl e
            refine set_list pins s σ H _ _ v ov iv u Q I ro ri rv ⟨a, vs, k, j, rfl, rfl, h1, by rw [r.length]; exact e2, ?_⟩
            obtain ⟨ex, rs'⟩ := rs.write (o := .lst (vs.set j v)) (c' := .lst (xs.set j z)) hl e rfl rfl fun ex => ⟨_, upd_same, (RDs.set hz j r).mono ex⟩
            exact h _ _ ex rs'
        | _ => rw [e] at h; exact h.elim
    | _ => exact h.elim
  | _ => exact h.elim
end
section
variable {X : Cx} {W : WX} {a b e : Expr} {es : List Expr} {fa fb fe : EX} {fr fx : AX} {pos p p2 : Pos}
theorem d_ix (ha : PE X a (rdE (X.cq W) fa)) (hb : PE X b (rdE (X.cq W) fb)) (hs : PlainIx b := by exact fun _ _ => rfl) : PE X (.Subscript a b pos) (rdE (X.cq W) (e2 gIx fa fb)) :=
  d_2h (pe_ix i_ix ha hb hs) fun _ _ _ _ h => h
def oN : Env → Store → R (Option Int) := fun _ S => .ok none S
def oI (fa : EX) : Env → Store → R (Option Int) := fun ρ S => (fa ρ S).bind fun d S1 => match d with
  | .int i => .ok (some i) S1
  | _ => .no
def eSl (fa : EX) (lo hi : Env → Store → R (Option Int)) : EX := fun ρ S => (fa ρ S).bind fun x S1 => (lo ρ S1).bind fun l S2 => (hi ρ S2).bind fun h S3 => toR (gSl x l h S3)
theorem d_oN : PO X none (rdO (X.cq W) oN) := POwk po_none fun σ H Q ⟨m, ρ, S, re, rs, h⟩ => h none H m .refl rs rfl
theorem d_oI (ha : PE X a (rdE (X.cq W) fa)) : PO X (some a) (rdO (X.cq W) (oI fa)) := POwk (po_some ha) fun σ H Q ⟨m, ρ, S, re, rs, h⟩ =>
  ⟨m, ρ, S, re, rs, (Post.bind h).imp fun v H1 ⟨m1, x, S1, e, rs1, rd, h1⟩ => by
    cases rd with
    | int i => exact ⟨i, rfl, h1 _ _ m1 .refl rs1 rfl⟩
    | _ => exact h1.elim⟩
theorem d_sl {lo hi : Option Expr} {fl fh : Env → Store → R (Option Int)} (ha : PE X a (rdE (X.cq W) fa)) (hl : PO X lo (rdO (X.cq W) fl)) (hh : PO X hi (rdO (X.cq W) fh)) :
    PE X (.Subscript a (.Slice lo hi none p2) pos) (rdE (X.cq W) (eSl fa fl fh)) := PEwk (pe_slice s_sl ha hl hh) fun σ H Q ⟨m, ρ, S, re, rs, h⟩ =>
  ⟨m, ρ, S, re, rs, (Post.bind h).imp fun v H1 ⟨m1, x, S1, e, rs1, rd, h1⟩ => ⟨m1, ρ, S1, re.mono e, rs1, (Post.bind h1).imp fun lv H2 ⟨m2, l, S2, e2, rs2, el, h2⟩ => by
    subst el
    exact ⟨m2, ρ, S2, (re.mono e).mono e2, rs2, (Post.bind h2).imp fun hv H3 ⟨m3, hh', S3, e3, rs3, eh, h3⟩ => by
      subst eh
      exact ⟨m3, x, S3, (rd.mono e2).mono e3, rs3, VPost.of h3⟩⟩⟩⟩
/-! ## arguments, displays, calls of builtins -/
theorem d_aN : PA X [] (rdA (X.cq W) aN) := PAwk pa_nil fun σ H Q ⟨m, ρ, S, re, rs, h⟩ => h [] H m .refl rs .nil
theorem d_aC (he : PE X e (rdE (X.cq W) fe)) (hr : PA X es (rdA (X.cq W) fr)) (hs : starEach (e :: es) X.env = (false, eval e X.env) :: starEach es X.env := by rfl) : PA X (e :: es) (rdA (X.cq W) (aC fe fr)) :=
  PAwk (pa_cons he hr hs) fun σ H Q ⟨m, ρ, S, re, rs, h⟩ => ⟨m, ρ, S, re, rs, (Post.bind h).imp fun v H1 ⟨m1, x, S1, e, rs1, rd, h1⟩ =>
    ⟨m1, ρ, S1, re.mono e, rs1, (Post.bind h1).imp fun vs H2 ⟨m2, xs, S2, e2, rs2, rds, h2⟩ => h2 _ _ m2 .refl rs2 (.cons (rd.mono e2) rds)⟩⟩
def gTpl (xs : List D) (S : Store) : Option (D × Store) := if xs.length ≤ LIM then some (.tup xs, S) else none
def gLsd (xs : List D) (S : Store) : Option (D × Store) := if xs.length ≤ LIM then some (.ref S.length, S ++ [.lst xs]) else none
theorem d_tup {k : Nat} (h : PA X es (rdA (X.cq W) fx)) : PE X (.Tuple es k pos) (rdE (X.cq W) (eB gTpl fx)) := by
  refine ⟨fun pins s σ H Q I ⟨m, ρ, S, re, rs, hq⟩ => ?_⟩
  refine wpAny_Tuple_spliced (thn (h.run pos pins s σ H _ I ⟨m, ρ, S, re, rs, Post.bind hq⟩) fun us s1 ⟨vs, H1, I1, r, m1, xs, S1, e, rs1, rds, h1⟩ => ?_)
  have h1 := VPost.of h1
  unfold gTpl at h1
  split at h1
  · rename_i hz
    have hz' : vs.length ≤ sizeLine := by rw [← lim_eq, rds.length]; exact hz
    exact ⟨by rw [← r.length]; exact hz', lay_tup (tk := s1.toks) I1 hz' r fun o hc hd => vp_tup rs1 (I1.hok.fresh (Nat.le_refl _)) hc hd rds h1⟩
  · exact h1.elim
theorem d_lst (h : PA X es (rdA (X.cq W) fx)) : PE X (.List es pos) (rdE (X.cq W) (eB gLsd fx)) := PEwk (pe_lst h) fun σ H Q ⟨m, ρ, S, re, rs, hq⟩ =>
  ⟨m, ρ, S, re, rs, (Post.bind hq).imp fun vs H1 ⟨m1, xs, S1, e, rs1, rds, h1⟩ => by
    have h1 := VPost.of h1
    unfold gLsd at h1
    split at h1
    · rename_i hz
      exact ⟨by rw [← lim_eq, rds.length]; exact hz, fun p hp => vp_lst rs1 hp rds h1⟩
    · exact h1.elim⟩
theorem d_callB {x : Str} {id : String} {g : List D → Store → Option (D × Store)} (hc : CallR X (.builtin id) (rdC X.K g)) (hg : Gl X x) (hm : X.mg x = none) (hv : bootBuiltins x = some (.builtin id)) (ha : PA X (e :: es) (rdA (X.cq W) fx)) (hn : x ≠ "__name__" := by decide)
    (hdb : (x == ("__debug__" : Str)) = false := by decide) (he : starEach (e :: es) X.env = (false, eval e X.env) :: starEach es X.env := by rfl) (hpl : (backTo pos (starEach es X.env)).any (·.1) = false := by rfl) :
    PE X (.Call (.Name x p) (e :: es) [] pos) (rdE (X.cq W) (eB g fx)) := PEwk (pe_callB hc hg hm hv ha hn hdb he hpl) fun σ H Q ⟨m, ρ, S, re, rs, h⟩ =>
  ⟨m, ρ, S, re, rs, (Post.bind h).imp fun vs H1 ⟨m1, xs, S1, e, rs1, rd, h1⟩ => ⟨m1, xs, S1, rd, rs1, VPost.of h1⟩⟩
theorem d_callT {x : Str} {T : String} {g : List D → Store → Option (D × Store)} (hc : CallR X (.type T) (rdC X.K g)) (hg : Gl X x) (hm : X.mg x = none) (hv : bootBuiltins x = some (.type T)) (ha : PA X (e :: es) (rdA (X.cq W) fx)) (hn : x ≠ "__name__" := by decide)
    (hdb : (x == ("__debug__" : Str)) = false := by decide) (he : starEach (e :: es) X.env = (false, eval e X.env) :: starEach es X.env := by rfl) (hpl : (backTo pos (starEach es X.env)).any (·.1) = false := by rfl) :
    PE X (.Call (.Name x p) (e :: es) [] pos) (rdE (X.cq W) (eB g fx)) := PEwk (pe_callTy hc hg hm hv ha hn hdb he hpl) fun σ H Q ⟨m, ρ, S, re, rs, h⟩ =>
  ⟨m, ρ, S, re, rs, (Post.bind h).imp fun vs H1 ⟨m1, xs, S1, e, rs1, rd, h1⟩ => ⟨m1, xs, S1, rd, rs1, VPost.of h1⟩⟩
/-- a method of a built-in type -/
theorem d_bm {o : Expr} {fo : EX} {T id : String} {name : Str} {apos cpos : Pos} {g : D → List D → Store → Option (D × Store)} (pa : PlainAttrs T) (slot : Slot T name id) (hty : typeOf (.builtin id) = pure (.type "method_descriptor")) (hm : MtR X id (rdM X.K g))
    (hT : ∀ v m H x S xs S1, RD X.K m H v x → RS X.K m H S → (g x xs S1).isSome = true → tyV X.K T v H)
    (ho : PE X o (rdE (X.cq W) fo)) (ha : PA X (e :: es) (rdA (X.cq W) fx)) : True := trivial
end
end Dl

set_option Elab.async false
set_option linter.all false
set_option maxRecDepth 100000
namespace Dl
open PySem L2

/-! ## built-in functions -/
inductive Ty where
  | non | bl | int | str | tup | lst | dic
  deriving DecidableEq
def Ty.name : Ty → String
  | .non => "NoneType" | .bl => "bool" | .int => "int" | .str => "str" | .tup => "tuple" | .lst => "list" | .dic => "dict"
def tyD (S : Store) : D → Option Ty
  | .non => some .non
  | .bl _ => some .bl
  | .int _ => some .int
  | .str _ => some .str
  | .tup _ => some .tup
  | .ref l => match S[l]? with
    | some (.lst _) => some .lst
    | some (.rol _) => some .lst
    | some (.dic _) => some .dic
    | _ => none
  | .raw _ => none
def isiB (t T : Ty) : Bool := decide (t = T) || (decide (t = .bl) && decide (T = .int))
theorem kit_all (t T : Ty) (hT : T ≠ .non) : kitB t.name T.name = some (isiB t T) := by
  cases T <;> first | exact absurd rfl hT | (cases t <;> decide +kernel)
def gIsi (T : Ty) : List D → Store → Option (D × Store)
  | [x, .raw (.ty n)], S => if n = T.name then (tyD S x).map fun t => (.bl (isiB t T), S) else none
  | _, _ => none
def gLen : List D → Store → Option (D × Store)
  | [.str x], S => some (.int x.length, S)
  | [.tup xs], S => some (.int xs.length, S)
  | [.ref l], S => (lstAt S l).map fun xs => (.int xs.length, S)
  | _, _ => none
def gAbs : List D → Store → Option (D × Store)
  | [.int i], S => some (.int (if i < 0 then -i else i), S)
  | _, _ => none
def gInt : List D → Store → Option (D × Store)
  | [.int i], S => some (.int i, S)
  | [.bl b], S => some (.int (if b then 1 else 0), S)
  | [.str x], S => if x.length ≤ 640 then (PySem.intText? x).map fun n => (.int n, S) else none
  | _, _ => none
def gStr : List D → Store → Option (D × Store)
  | [.int i], S => if i.natAbs.log2 < 1920 ∧ (toString i : Str).length ≤ LIM then some (.str (toString i), S) else none
  | _, _ => none
def gMax2 : List D → Store → Option (D × Store)
  | [.int i, .int j], S => some (.int (if j > i then j else i), S)
  | _, _ => none
def gMin2 : List D → Store → Option (D × Store)
  | [.int i, .int j], S => some (.int (if j < i then j else i), S)
  | _, _ => none
/-- list(xs): a new list -/
def gList : List D → Store → Option (D × Store)
  | [.tup xs], S => some (.ref S.length, S ++ [.lst xs])
  | [.ref l], S => (lstAt S l).map fun xs => (.ref S.length, S ++ [.lst xs])
  | _, _ => none
def gTuple : List D → Store → Option (D × Store)
  | [.tup xs], S => some (.tup xs, S)
  | [.ref l], S => (lstAt S l).map fun xs => (.tup xs, S)
  | _, _ => none
/-- all, any of a list of bools -/
def bools : List D → Option (List Bool)
  | [] => some []
  | .bl b :: r => (bools r).map (b :: ·)
  | _ => none
def gAll : List D → Store → Option (D × Store)
  | [.ref l], S => ((lstAt S l).bind bools).map fun bs => (.bl (bs.all id), S)
  | _, _ => none
def gAny : List D → Store → Option (D × Store)
  | [.ref l], S => ((lstAt S l).bind bools).map fun bs => (.bl (bs.any id), S)
  | _, _ => none
section
variable {X : Cx}
theorem tyx_of {K : PySem.W.Frag} {m : List Addr} {H : Hp} {S : Store} {v : V} {x : D} {t : Ty} (r : RD K m H v x) (rs : RS K m H S) (h : tyD S x = some t) : TyX K H v (.type t.name) := by
  cases r with
  | non => cases h; exact .base .non
  | bl b => cases h; exact .base (.bl b)
  | int b => cases h; exact .base (.int b)
  | str b => cases h; exact .base (.str _)
  | tup ht _ =>
    cases h
    rcases ht with ⟨o, h, _⟩ | ⟨o, its, n, h1, h2, _⟩
    · exact .fTuple h
    · exact .kTuple h1 h2
  | @ref a l hl =>
    unfold tyD at h
    simp only at h
    split at h
    · rename_i xs e
      cases h
      obtain ⟨vs, h1, _⟩ := rs.at_ hl e
      exact .base (.lst h1)
    · rename_i xs e
      cases h
      obtain ⟨vs, h1, _⟩ := rs.at_ hl e
      rcases h1 with ⟨o, h1⟩ | ⟨o, its, n, h1, h2, _⟩
      · exact .base (.frz h1)
      · exact .kList h1 h2
    · rename_i xs e
      cases h
      obtain ⟨vs, h1, _⟩ := rs.at_ hl e
      exact .base (.dK h1)
    · cases h
  | raw v => cases h
theorem c_isi (T : Ty) (hT : T ≠ .non) : CallR X (.builtin "isinstance") (rdC X.K (gIsi T)) := by
  intro pins s σ H vs us Q I r ⟨m, xs, S, hx, rs, h⟩
  unfold gIsi at h
  split at h
  · rename_i x n
    split at h
    · rename_i hn
      subst hn
      cases hx with
      | cons h1 h2 =>
        cases h2 with
        | cons h3 h4 =>
          cases h4
          cases h3
          cases e : tyD S x with
          | none => rw [e] at h; exact h.elim
          | some t =>
            rw [e] at h
            exact call_isi pins s σ H _ us Q I r ⟨_, _, _, .type T.name, isiB t T, rfl, .ty _, tyx_of h1 rs e, kit_ty (kit_all t T hT), h _ _ m .refl rs (.bl _)⟩
    · exact h.elim
  · exact h.elim
theorem c_len : CallR X (.builtin "len") (rdC X.K gLen) := by
  intro pins s σ H vs us Q I r ⟨m, xs, S, hx, rs, h⟩
  unfold gLen at h
  split at h
  · cases hx with
    | cons h1 h2 =>
      cases h2
      cases h1 with
      | str hz => exact call_len pins s σ H _ us Q I r ⟨_, _, rfl, ⟨by rw [← lim_eq]; exact hz, rfl⟩, h _ _ m .refl rs (.int _)⟩
  · cases hx with
    | cons h1 h2 =>
      cases h2
      cases h1 with
      | tup ht rd => exact call_len pins s σ H _ us Q I r ⟨_, _, rfl, .inr ⟨_, ht.sq, rfl⟩, by rw [rd.length]; exact h _ _ m .refl rs (.int _)⟩
  · rename_i l
    cases e : lstAt S l with
    | none => rw [e] at h; exact h.elim
    | some ys =>
      rw [e] at h
      cases hx with
      | cons h1 h2 =>
        cases h2
        cases h1 with
        | ref hl =>
          obtain ⟨ws, hq, rd⟩ := rs.lst hl e
          exact call_len pins s σ H _ us Q I r ⟨_, _, rfl, .inl ⟨_, hq, rfl⟩, by rw [rd.length]; exact h _ _ m .refl rs (.int _)⟩
  · exact h.elim
theorem c_abs : CallR X (.builtin "abs") (rdC X.K gAbs) := by
  intro pins s σ H vs us Q I r ⟨m, xs, S, hx, rs, h⟩
  unfold gAbs at h
  split at h
  · cases hx with
    | cons h1 h2 =>
      cases h2
      cases h1
      exact call_abs pins s σ H _ us Q I r ⟨_, rfl, h _ _ m .refl rs (.int _)⟩
  · exact h.elim
theorem c_int : CallR X (.type "int") (rdC X.K gInt) := by
  intro pins s σ H vs us Q I r ⟨m, xs, S, hx, rs, h⟩
  unfold gInt at h
  split at h
  · cases hx with
    | cons h1 h2 =>
      cases h2
      cases h1
      exact call_int1 pins s σ H _ us Q I r (.inl ⟨_, rfl, h _ _ m .refl rs (.int _)⟩)
  · cases hx with
    | cons h1 h2 =>
      cases h2
      cases h1
      exact call_int1 pins s σ H _ us Q I r (.inr ⟨_, rfl, h _ _ m .refl rs (.int _)⟩)
  · rename_i x
    split at h
    · rename_i hz
      cases e : PySem.intText? x with
      | none => rw [e] at h; exact h.elim
      | some n =>
        rw [e] at h
        cases hx with
        | cons h1 h2 =>
          cases h2
          cases h1
          exact call_int_str pins s σ H _ us Q I r ⟨_, n, rfl, e, hz, h _ _ m .refl rs (.int _)⟩
    · exact h.elim
  · exact h.elim
theorem c_str : CallR X (.type "str") (rdC X.K gStr) := by
  intro pins s σ H vs us Q I r ⟨m, xs, S, hx, rs, h⟩
  unfold gStr at h
  split at h
  · split at h
    · rename_i hz
      cases hx with
      | cons h1 h2 =>
        cases h2
        cases h1
        exact call_str_int pins s σ H _ us Q I r ⟨_, rfl, hz.1, h _ _ m .refl rs (.str hz.2)⟩
    · exact h.elim
  · exact h.elim
theorem c_max2 (hc : X.calm = true) : CallR X (.builtin "max") (rdC X.K gMax2) := by
  intro pins s σ H vs us Q I r ⟨m, xs, S, hx, rs, h⟩
  unfold gMax2 at h
  split at h
  · cases hx with
    | cons h1 h2 =>
      cases h2 with
      | cons h2 h3 =>
        cases h3
        cases h1
        cases h2
        exact call_max2 hc pins s σ H _ us Q I r ⟨_, _, rfl, h _ _ m .refl rs (.int _)⟩
  · exact h.elim
theorem c_min2 (hc : X.calm = true) : CallR X (.builtin "min") (rdC X.K gMin2) := by
  intro pins s σ H vs us Q I r ⟨m, xs, S, hx, rs, h⟩
  unfold gMin2 at h
  split at h
  · cases hx with
    | cons h1 h2 =>
      cases h2 with
      | cons h2 h3 =>
        cases h3
        cases h1
        cases h2
        exact call_min2 hc pins s σ H _ us Q I r ⟨_, _, rfl, h _ _ m .refl rs (.int _)⟩
  · exact h.elim
theorem c_list : CallR X (.type "list") (rdC X.K gList) := by
  intro pins s σ H vs us Q I r ⟨m, xs, S, hx, rs, h⟩
  unfold gList at h
  split at h
  · cases hx with
    | cons h1 h2 =>
      cases h2
      cases h1 with
      | tup ht rd => exact call_list_of pins s σ H _ us Q I r ⟨_, _, rfl, .inr ht.sq, fun p hp => vp_lst rs hp rd h⟩
  · rename_i l
    cases e : lstAt S l with
    | none => rw [e] at h; exact h.elim
    | some ys =>
      rw [e] at h
      cases hx with
      | cons h1 h2 =>
        cases h2
        cases h1 with
        | ref hl =>
          obtain ⟨ws, hq, rd⟩ := rs.lst hl e
          exact call_list_of pins s σ H _ us Q I r ⟨_, _, rfl, .inl hq, fun p hp => vp_lst rs hp rd h⟩
  · exact h.elim
theorem c_tuple : CallR X (.type "tuple") (rdC X.K gTuple) := by
  intro pins s σ H vs us Q I r ⟨m, xs, S, hx, rs, h⟩
  unfold gTuple at h
  split at h
  · cases hx with
    | cons h1 h2 =>
      cases h2
      cases h1 with
      | tup ht rd => exact call_tupleT pins s σ H _ us Q I r ⟨_, _, rfl, ht.sq, h _ _ m .refl rs (.tup ht rd)⟩
  · rename_i l
    cases e : lstAt S l with
    | none => rw [e] at h; exact h.elim
    | some ys =>
      rw [e] at h
      cases hx with
      | cons h1 h2 =>
        cases h2
        cases h1 with
        | ref hl =>
          obtain ⟨ws, hq, rd⟩ := rs.lst hl e
          obtain ⟨u, rfl, rx⟩ := vals1 r
          cases rx
          obtain ⟨its, r', pl, hz⟩ := I.list hq
          have hlen := r'.length
          refine call_tuple_list pl.isList (fun h' kp => ?_) (by simp only [List.size_toArray] <;> omega)
          have I1 : L2.Inv X pins σ H { s with heap := h' } := I.kept (t' := s.toks) kp
          exact lay_tup (s := { s with heap := h' }) (tk := s.toks) I1 hz r' fun o hc hd => vp_tup rs (I1.hok.fresh (Nat.le_refl _)) hc hd rd h
  · exact h.elim
theorem bools_of {K : PySem.W.Frag} {m : List Addr} {H : Hp} : ∀ {xs : List D} {vs : List V} {bs : List Bool}, RDs K m H vs xs → bools xs = some bs → vs = bs.map V.bl
  | [], _, _, r, h => by cases r; cases h; rfl
  | .bl b :: r, _, bs, rr, h => by
    cases rr with
    | cons h1 h2 =>
      cases h1
      have h : (bools r).map (b :: ·) = some bs := h
      cases e : bools r with
      | none => rw [e] at h; cases h
      | some cs =>
        rw [e] at h
        cases h
        rw [bools_of h2 e]
        rfl
  | .non :: _, _, _, _, h => nomatch h
  | .int _ :: _, _, _, _, h => nomatch h
  | .str _ :: _, _, _, _, h => nomatch h
  | .tup _ :: _, _, _, _, h => nomatch h
  | .ref _ :: _, _, _, _, h => nomatch h
  | .raw _ :: _, _, _, _, h => nomatch h
theorem c_all (hc : X.calm = true) : CallR X (.builtin "all") (rdC X.K gAll) := by
  intro pins s σ H vs us Q I r ⟨m, xs, S, hx, rs, h⟩
  unfold gAll at h
  split at h
  · rename_i l
    cases e : lstAt S l with
    | none => rw [e] at h; exact h.elim
    | some ys =>
      rw [e] at h
      simp only [Option.bind_some] at h
      cases e2 : bools ys with
      | none => rw [e2] at h; exact h.elim
      | some bs =>
        rw [e2] at h
        cases hx with
        | cons h1 h2 =>
          cases h2
          cases h1 with
          | ref hl =>
            obtain ⟨ws, hq, rd⟩ := rs.lst hl e
            have ew := bools_of rd e2
            subst ew
            exact cr_all hc pins s σ H _ us Q I r ⟨_, bs, rfl, hq, h _ _ m .refl rs (.bl _)⟩
  · exact h.elim
theorem c_any (hc : X.calm = true) : CallR X (.builtin "any") (rdC X.K gAny) := by
  intro pins s σ H vs us Q I r ⟨m, xs, S, hx, rs, h⟩
  unfold gAny at h
  split at h
  · rename_i l
    cases e : lstAt S l with
    | none => rw [e] at h; exact h.elim
    | some ys =>
      rw [e] at h
      simp only [Option.bind_some] at h
      cases e2 : bools ys with
      | none => rw [e2] at h; exact h.elim
      | some bs =>
        rw [e2] at h
        cases hx with
        | cons h1 h2 =>
          cases h2
          cases h1 with
          | ref hl =>
            obtain ⟨ws, hq, rd⟩ := rs.lst hl e
            have ew := bools_of rd e2
            subst ew
            exact cr_any hc pins s σ H _ us Q I r ⟨_, bs, rfl, hq, h _ _ m .refl rs (.bl _)⟩
  · exact h.elim
end

/-! ## methods of built-in types -/
def eMt (T : Ty) (g : D → List D → Store → Option (D × Store)) (fo : EX) (fa : AX) : EX := fun ρ S => (fo ρ S).bind fun x S1 => if tyD S1 x = some T then (fa ρ S1).bind fun xs S2 => toR (g x xs S2) else .no
section
variable {X : Cx} {W : WX} {o e : Expr} {es : List Expr} {fo fe : EX} {fx : AX} {apos cpos : Pos} {name : Str} {id : String} {T : Ty} {g : D → List D → Store → Option (D × Store)}
theorem ty_is {pins : List (Addr × Obj)} {σ : St} {H : Hp} {s : Shared} {m : List Addr} {S : Store} {v : V} {x : D} {u : Value} (I : L2.Inv X pins σ H s) (r : RelV v u) (rd : RD X.K m H v x) (rs : RS X.K m H S) (h : tyD S x = some T) (hT : T = .str ∨ T = .tup ∨ T = .lst ∨ T = .dic) :
    s.TypeIs u T.name ∧ ∀ a, u = .ref a → ∃ ob, s.heap.get? a = some ob ∧ ob.dict = none := by
  cases rd with
  | non => cases h; rcases hT with z | z | z | z <;> cases z
  | bl b => cases h; rcases hT with z | z | z | z <;> cases z
  | int b => cases h; rcases hT with z | z | z | z <;> cases z
  | str b =>
    cases h
    obtain ⟨t, rfl⟩ := r
    exact ⟨typeIs_str _ _ _, fun _ e => nomatch e⟩
  | @tup a _ _ ht _ =>
    cases h
    cases r
    rcases ht with ⟨ob, h, hc, hd⟩ | ⟨ob, its, n, h1, h2, h3, _⟩
    · obtain ⟨e, _⟩ := (show ObjOk X.prog X.w H s.heap a (.frz ob _) from I.hok a _ h)
      exact ⟨⟨ob, e, hc⟩, fun b eb => by cases eb; exact ⟨ob, e, hd⟩⟩
    · exact ⟨⟨ob, I.kIn a ob h1, h2⟩, fun b eb => by cases eb; exact ⟨ob, I.kIn _ ob h1, h3⟩⟩
  | @ref a l hl =>
    cases r
    unfold tyD at h
    simp only at h
    split at h
    · rename_i xs e
      cases h
      obtain ⟨vs, h1, _⟩ := rs.at_ hl e
      exact tyV_is (T := "list") (x := .ref a) I rfl (.inl ⟨rfl, _, SqL.of h1⟩)
    · rename_i xs e
      cases h
      obtain ⟨vs, h1, _⟩ := rs.at_ hl e
      exact tyV_is (T := "list") (x := .ref a) I rfl (.inl ⟨rfl, _, h1.sq⟩)
    · rename_i xs e
      cases h
      obtain ⟨vs, h1, _⟩ := rs.at_ hl e
      exact tyV_is (T := "dict") (x := .ref a) I rfl (.inr (.inr (.inl ⟨rfl, .inl ⟨_, h1⟩⟩)))
    · cases h
  | raw v => cases h
theorem d_m0 (pa : PlainAttrs T.name) (slot : Slot T.name name id) (hty : typeOf (.builtin id) = pure (.type "method_descriptor")) (hT : T = .str ∨ T = .tup ∨ T = .lst ∨ T = .dic) (hm : MtR X id (rdM X.K g)) (ho : PE X o (rdE (X.cq W) fo))
    (hbase : attributeBase o name X.env (eval o X.env) = eval o X.env := by rfl) (hline : (apos.endLine == cpos.line) = true := by rfl) : PE X (.Call (.Attribute o name apos) [] [] cpos) (rdE (X.cq W) (eMt T g fo aN)) := by
  refine ⟨fun pins s σ H Q I ⟨m, ρ, S, re, rs, h⟩ => ?_⟩
  refine wpAny_Call_method0_late hbase hline (thn (ho.run pins s σ H _ I ⟨m, ρ, S, re, rs, Post.bind h⟩) fun v s1 ⟨x, H1, I1, r1, m1, d, S1, e1, rs1, rd1, h1⟩ => ?_)
  split at h1
  · rename_i ht
    obtain ⟨q1, q2⟩ := ty_is I1 r1 rd1 rs1 ht hT
    exact ⟨T.name, id, pa, slot, hty, q1, q2, Calls.callWith_builtin rfl (PySem.evalArgs_none (hm pins s1 σ H1 x [] v [] Q I1 r1 .nil ⟨m1, d, [], S1, rd1, .nil, rs1, VPost.of h1⟩))⟩
  · exact h1.elim
theorem d_m (pa : PlainAttrs T.name) (slot : Slot T.name name id) (hty : typeOf (.builtin id) = pure (.type "method_descriptor")) (hT : T = .str ∨ T = .tup ∨ T = .lst ∨ T = .dic) (hm : MtR X id (rdM X.K g)) (ho : PE X o (rdE (X.cq W) fo)) (ha : PA X (e :: es) (rdA (X.cq W) fx))
    (hbase : attributeBase o name X.env (eval o X.env) = eval o X.env := by rfl)
    (hfew : ((backTo cpos (starEach (e :: es) X.env)).all (fun x => !x.1) && (backToKw cpos (keywordEach [] X.env)).all (fun x => x.1.isSome)
      && decide ((e :: es).length + ([] : List Keyword).length + (if ([] : List Keyword).isEmpty then 0 else 1) < 30)) = true := by rfl)
    (hline : (apos.endLine == cpos.line) = true := by rfl) (hs : starEach (e :: es) X.env = (false, eval e X.env) :: starEach es X.env := by rfl) (hplain : (backTo cpos (starEach es X.env)).any (·.1) = false := by rfl) :
    PE X (.Call (.Attribute o name apos) (e :: es) [] cpos) (rdE (X.cq W) (eMt T g fo fx)) := by
  refine ⟨fun pins s σ H Q I ⟨m, ρ, S, re, rs, h⟩ => ?_⟩
  refine wpAny_Call_method_late hbase hfew hline rfl (thn (ho.run pins s σ H _ I ⟨m, ρ, S, re, rs, Post.bind h⟩) fun v s1 ⟨x, H1, I1, r1, m1, d, S1, e1, rs1, rd1, h1⟩ => ?_)
  split at h1
  · rename_i ht
    obtain ⟨q1, q2⟩ := ty_is I1 r1 rd1 rs1 ht hT
    refine ⟨T.name, id, pa, slot, hty, q1, q2, ?_⟩
    have hA := ha.run cpos pins s1 σ H1 _ I1 ⟨m1, ρ, S1, re.mono e1, rs1, Post.bind h1⟩
    rw [hs] at hA ⊢
    refine Calls.callWith_builtin (by show (false || (backTo cpos (starEach es X.env)).any (·.1)) = false; rw [hplain] <;> rfl) (Calls.evalArgs_plain ?_)
    exact thn hA fun us s2 ⟨vs, H2, I2, r2, m2, xs, S2, e2, rs2, rd2, h2⟩ => hm pins s2 σ H2 x vs v us Q I2 r1 r2 ⟨m2, d, xs, S2, rd1.mono e2, rd2, rs2, VPost.of h2⟩
  · exact h1.elim
end
/-- xs.append(y) -/
def gAppend : D → List D → Store → Option (D × Store)
  | .ref l, [d], S => match S[l]? with
    | some (.lst xs) => if xs.length < LIM then some (.non, S.set l (.lst (xs ++ [d]))) else none
    | _ => none
  | _, _, _ => none
def gPop : D → List D → Store → Option (D × Store)
  | .ref l, [], S => match S[l]? with
    | some (.lst xs) => (xs[xs.length - 1]?).map fun d => (d, S.set l (.lst xs.dropLast))
    | _ => none
  | _, _, _ => none
/-- s.partition(c), c one sign -/
def partL (c : Nat) (xs : List Nat) : List Nat × List Nat × List Nat := if c ∈ xs then (xs.takeWhile (· != c), [c], (xs.dropWhile (· != c)).drop 1) else (xs, [], [])
def gPart : D → List D → Store → Option (D × Store)
  | .str a, [.str b], S => if b.length = 1 then
      let p := partL (b.cps.getD 0 0) a.cps.toList
      some (.tup [.str ⟨p.1.toArray⟩, .str ⟨p.2.1.toArray⟩, .str ⟨p.2.2.toArray⟩], S) else none
  | _, _, _ => none
/-- t.count(x), l.count(x) -/
def gCountT : D → List D → Store → Option (D × Store)
  | .tup xs, [d], S => if d.flat && flats xs && decide (d.dep ≤ 64) then some (.int (xs.countP fun y => deq y d : Nat), S) else none
  | _, _, _ => none
theorem takeWhile_at {c : Nat} : ∀ {l : List Nat} {i : Nat}, l[i]? = some c → (∀ k, k < i → l[k]? ≠ some c) → l.takeWhile (· != c) = l.take i
  | [], i, h, _ => by simp at h
  | k :: r, 0, h, _ => by
    have e : k = c := by simpa using h
    subst e
    rw [List.takeWhile_cons_of_neg (by simp)]
    rfl
  | k :: r, i + 1, h, hn => by
    have h1 : k ≠ c := fun e => hn 0 (by omega) (by simp [e])
    rw [List.takeWhile_cons_of_pos (by simp [h1]), takeWhile_at (l := r) (i := i) (by simpa using h) fun j hj => by have := hn (j + 1) (by omega); simpa using this]
    rfl
theorem dropWhile_at {c : Nat} : ∀ {l : List Nat} {i : Nat}, l[i]? = some c → (∀ k, k < i → l[k]? ≠ some c) → l.dropWhile (· != c) = c :: l.drop (i + 1)
  | [], i, h, _ => by simp at h
  | k :: r, 0, h, _ => by
    have e : k = c := by simpa using h
    subst e
    rw [List.dropWhile_cons_of_neg (by simp)]
    rfl
  | k :: r, i + 1, h, hn => by
    have h1 : k ≠ c := fun e => hn 0 (by omega) (by simp [e])
    rw [List.dropWhile_cons_of_pos (by simp [h1]), dropWhile_at (l := r) (i := i) (by simpa using h) fun j hj => by have := hn (j + 1) (by omega); simpa using this]
    rfl
theorem part_one (x : Str) (c : Nat) : Txt.partition x ⟨#[c]⟩ = (⟨(partL c x.cps.toList).1.toArray⟩, ⟨(partL c x.cps.toList).2.1.toArray⟩, ⟨(partL c x.cps.toList).2.2.toArray⟩) := by
  unfold Txt.partition
  rcases StrLaws.occ_head x ⟨#[c]⟩ 1 (Nat.le_refl 1) with ⟨h0, hn⟩ | ⟨i, r, h0, hi, hn⟩
  · have hfree : c ∉ x.cps.toList := fun hm => by
      obtain ⟨j, hj⟩ := List.getElem?_of_mem hm
      exact hn j ((StrLaws.subAt_one x c j).mpr hj)
    rw [h0]
    unfold partL
    rw [if_neg hfree]
    rfl
  · rw [h0]
    have hm := (StrLaws.subAt_one x c i).mp hi
    have hn' : ∀ k, k < i → x.cps.toList[k]? ≠ some c := fun k hk e => hn k hk ((StrLaws.subAt_one x c k).mpr e)
    have hmem : c ∈ x.cps.toList := List.mem_of_getElem? hm
    unfold partL
    rw [if_pos hmem, takeWhile_at hm hn', dropWhile_at hm hn']
    have hl : x.cps.toList.length = x.cps.size := Array.length_toList
    refine Prod.ext ?_ (Prod.ext rfl ?_)
    · apply congrArg Str.mk
      apply Array.toList_inj.mp
      show (x.cps.extract 0 i).toList = _
      simp
    · apply congrArg Str.mk
      apply Array.toList_inj.mp
      show (x.cps.extract (i + 1) x.cps.size).toList = _
      rw [Array.toList_extract]
      simp [List.extract_eq_take_drop]
      rw [← hl, ← List.length_drop]
      exact List.take_length
theorem partL_le (c : Nat) (xs : List Nat) : (partL c xs).1.length ≤ xs.length ∧ (partL c xs).2.1.length ≤ 1 ∧ (partL c xs).2.2.length ≤ xs.length := by
  unfold partL
  split
  · refine ⟨(List.takeWhile_sublist _).length_le, Nat.le_refl _, ?_⟩
    exact Nat.le_trans (List.drop_sublist _ _).length_le (List.dropWhile_sublist _).length_le
  · exact ⟨Nat.le_refl _, Nat.zero_le _, Nat.zero_le _⟩
section
variable {X : Cx}
theorem m_append : MtR X "list.append" (rdM X.K gAppend) := by
  intro pins s σ H v vs vv us Q I rv rvs ⟨m, x, xs, S, hx, hxs, rs, h⟩
  unfold gAppend at h
  split at h
  · rename_i l d
    split at h
    · rename_i ys e
      split at h
      · rename_i hz
        cases hx with
        | ref hl =>
          cases hxs with
          | cons h1 h2 =>
            cases h2
            obtain ⟨ws, hw, rw'⟩ := rs.wlst hl e
            refine mt_append pins s σ H _ _ vv us Q I rv rvs ⟨_, ws, _, rfl, rfl, hw, by rw [rw'.length, ← lim_eq]; exact hz, ?_⟩
            obtain ⟨ex, rs'⟩ := rs.write (o := .lst (ws ++ [_])) (c' := .lst (ys ++ [d])) hl e rfl rfl fun ex => ⟨_, upd_same, (rw'.mono ex).append (.one (h1.mono ex))⟩
            exact h _ _ m ex rs' .non
      · exact h.elim
    · exact h.elim
  · exact h.elim
theorem m_pop : MtR X "list.pop" (rdM X.K gPop) := by
  intro pins s σ H v vs vv us Q I rv rvs ⟨m, x, xs, S, hx, hxs, rs, h⟩
  unfold gPop at h
  split at h
  · rename_i l
    split at h
    · rename_i ys e
      cases hx with
      | ref hl =>
        cases hxs
        obtain ⟨ws, hw, rw'⟩ := rs.wlst hl e
        cases e2 : ys[ys.length - 1]? with
        | none => rw [e2] at h; exact h.elim
        | some d =>
          rw [e2] at h
          obtain ⟨w, e3, rd⟩ := rw'.get e2
          refine mt_pop pins s σ H _ _ vv us Q I rv rvs ⟨_, ws, w, rfl, rfl, hw, by rw [rw'.length]; exact e3, ?_⟩
          obtain ⟨ex, rs'⟩ := rs.write (o := .lst ws.dropLast) (c' := .lst ys.dropLast) hl e rfl rfl fun ex => ⟨_, upd_same, (rw'.mono ex).dropLast⟩
          exact h _ _ m ex rs' (rd.mono ex)
    · exact h.elim
  · exact h.elim
theorem m_part : MtR X "str.partition" (rdM X.K gPart) := by
  intro pins s σ H v vs vv us Q I rv rvs ⟨m, x, xs, S, hx, hxs, rs, h⟩
  unfold gPart at h
  split at h
  · rename_i a b
    split at h
    · rename_i hb
      cases hx with
      | str ha =>
        cases hxs with
        | cons h1 h2 =>
          cases h2
          cases h1 with
          | str hb2 =>
            obtain ⟨t, rfl⟩ := rv
            cases rvs with
            | cons r1 rs1 =>
              cases rs1
              obtain ⟨u, rfl⟩ := r1
              have hz : a.length ≤ sizeLine := by rw [← lim_eq]; exact ha
              refine call_meets F.slot_str_partition (typeIs_str _ _ _) F.entry_str_partition (F.args_str_partition_2 _ _) (meets_str_partition a b t u (by rw [hb]; rfl) hz) ?_
              have hp := part_one a (b.cps.getD 0 0)
              rw [← sign_of hb] at hp
              obtain ⟨l1, l2, l3⟩ := partL_le (b.cps.getD 0 0) a.cps.toList
              have la : a.cps.toList.length = a.length := by simp [Str.length]
              have go : ∀ {x y z : Str} {t u v : Tok} {k : Nat}, (x, y, z) = (⟨(partL (b.cps.getD 0 0) a.cps.toList).1.toArray⟩, ⟨(partL (b.cps.getD 0 0) a.cps.toList).2.1.toArray⟩, (⟨(partL (b.cps.getD 0 0) a.cps.toList).2.2.toArray⟩ : Str)) →
                  EP X pins σ Q (.ref s.heap.objs.size) { s with toks := k, heap := s.heap.push { cls := .type "tuple", data := .seq [Value.str x t, .str y u, .str z v].toArray } } := fun {x y z t u v k} e => by
                injection e with e1 e2
                injection e2 with e2 e3
                subst e1 e2 e3
                refine lay_tup (xs := [.str ⟨(partL (b.cps.getD 0 0) a.cps.toList).1.toArray⟩, .str ⟨(partL (b.cps.getD 0 0) a.cps.toList).2.1.toArray⟩, .str ⟨(partL (b.cps.getD 0 0) a.cps.toList).2.2.toArray⟩]) (tk := k) I (by show 3 ≤ sizeLine; decide) (.cons ⟨t, rfl⟩ (.cons ⟨u, rfl⟩ (.cons ⟨v, rfl⟩ .nil))) fun o hc hd => ?_
                have la' : a.cps.toList.length ≤ 16777216 := by rw [la]; exact ha
                exact vp_tup rs (I.hok.fresh (Nat.le_refl _)) hc hd (.cons (.str (by show (List.toArray _).size ≤ _; rw [List.size_toArray]; omega)) (.cons (.str (by show (List.toArray _).size ≤ _; rw [List.size_toArray]; omega)) (.cons (.str (by show (List.toArray _).size ≤ _; rw [List.size_toArray]; omega)) .nil))) h
              unfold Txt.partition at hp
              revert hp
              cases Builtin.Str.occurrences a b 0 a.length 1 with
              | nil => intro hp; exact go hp
              | cons i r => intro hp; exact go hp
    · exact h.elim
  · exact h.elim
theorem m_countT (hu : X.A.units + 65 < cLine) : MtR X "tuple.count" (rdM X.K gCountT) := by
  intro pins s σ H v vs vv us Q I rv rvs ⟨m, x, xs, S, hx, hxs, rs, h⟩
  unfold gCountT at h
  split at h
  · rename_i ys d
    split at h
    · rename_i hc
      simp only [Bool.and_eq_true, decide_eq_true_eq] at hc
      obtain ⟨⟨c1, c2⟩, c3⟩ := hc
      cases hx with
      | tup ht r =>
        cases hxs with
        | cons h1 h2 =>
          cases h2
          cases rv
          obtain ⟨u, rfl, ru⟩ := rvs.one
          obtain ⟨its, r', p, hz⟩ := I.tuple ht.sq
          obtain ⟨as, q1⟩ := Dp.readsAll I _ _ _ (dps_of c2 r) r'
          obtain ⟨bs, q2⟩ := Dp.reads I _ _ _ (dp_of c1 h1) ru
          have hm : min (PyData.depthAll (toPys ys)) (toPy d).depth ≤ (toPy d).depth := Nat.min_le_right _ _
          rw [depth_toPy] at hm
          refine PySem.SeqAt.count_tuple_data (vs := its.toArray) p (by simpa using q1) q2 (plains_toPys ys) (plain_toPy d) (by rw [depth_toPy]; omega) ?_
          have e : ((toPys ys).countP fun y => PyData.eqv y (toPy d)) = ys.countP fun y => deq y d := by
            clear h r r' q1 hm rvs
            induction ys with
            | nil => rfl
            | cons y ys ih =>
              have c2' : (y.flat && flats ys) = true := c2
              rw [Bool.and_eq_true] at c2'
              show ((toPy y :: toPys ys).countP _) = _
              rw [List.countP_cons, List.countP_cons, ih c2'.2, eqv_toPy y d c2'.1 c1]
          rw [e]
          exact ⟨.int _, H, I.tok _, ⟨_, rfl⟩, h _ _ m .refl rs (.int _)⟩
    · exact h.elim
  · exact h.elim
end
end Dl

set_option Elab.async false
set_option linter.all false
set_option maxRecDepth 100000
namespace Dl
open PySem PySem.Spec PyProof.Rows L2
/-! ## room, with no repr under way; a def's promise there -/
structure Room (k : Nat) (A : Around) : Prop extends L2.Room k A where
  gs : A.guards = some []
theorem Room.down {k : Nat} {A : Around} (r : Room (k + 1) A) (env : PySem.Env) : Room k (A.deeper env) := ⟨r.toRoom.deeper env, r.gs⟩
section
variable {P : Program} {w : World} {K : PySem.W.Frag} {mg : Str → Option Value} {base : Heap} {CX : CXT} {k : Nat} {f : Addr} {fd : FuncData} {ps : List Str} {sp : L2.Sp}
structure FnOk (P : Program) (w : World) (K : PySem.W.Frag) (mg : Str → Option Value) (base : Heap) (CX : CXT) (k : Nat) (f : Addr) (fd : FuncData) (ps : List Str) (sp : L2.Sp) : Prop where
  len : ∀ vs H Q E, sp vs H Q E → vs.length = ps.length
  run : ∀ A : Around, Room k A → ∀ outer s H, Env0 P w K mg base A outer s H →
    ∀ args us, BindsTo s fd args (ps.zip us) → ∀ vs, Vals vs us → ∀ Q E, sp vs H Q E → codeAny (model P w) A (.call (.ref f) args) (CR CX outer P w H s Q E) s
theorem FnOk.imp {sp' : L2.Sp} (F : FnOk P w K mg base CX k f fd ps sp) (h : ∀ vs H Q E, sp' vs H Q E → sp vs H Q E) : FnOk P w K mg base CX k f fd ps sp' where
  len vs H Q E q := F.len vs H Q E (h vs H Q E q)
  run A hr outer s H e0 args us b vs r Q E q := F.run A hr outer s H e0 args us b vs r Q E (h vs H Q E q)
/-- the end of a body is the end of the call -/
theorem body_end {A : Around} {outer : List PySem.Env} {s s' : Shared} {H : Hp} {N : List Str} {qual : Str} {scope : PySem.Scope} {cdv : Value} {E : XK} {Q : VK} {fl : Flow}
    (h : SP (cxOf CX P w K mg base N qual scope f cdv A outer s H E) [] { nx := fun _ H' => Q .non H', rt := Q } fl s') : CR CX outer P w H s Q E (match fl with | .ret u => .ok (.ret u) | _ => .ok (.ret .none)) s' := by
  match fl, h with
  | .ret u, ⟨v, σ', H', J, rv, q⟩ => exact ⟨v, H', J.os, J.bare, J.base, J.hok, rv, q⟩
  | .next, ⟨σ', H', J, q⟩ => exact ⟨.non, H', J.os, J.bare, J.base, J.hok, rfl, q⟩
  | .brk, ⟨_, _, _, q⟩ => exact q.elim
  | .cont, ⟨_, _, _, q⟩ => exact q.elim
/-- the parameters' kinds -/
theorem par_kind {N : List Str} {scope : PySem.Scope} (S : FnScope N ps scope) {z : Nat} {us : List Value} {y : Str × Value} (hy : y ∈ ps.zip us) : scope.names.lookup y.1 = some .local ∨ (scope.names.lookup y.1 = some .cell ∧ ((cellsFrom z scope.names []).lookup y.1).isSome = true) :=
  (S.par y.1 (List.of_mem_zip hy).1).imp id fun c => ⟨c, PySem.W.cellsFrom_some _ _ _ (Or.inl c)⟩
/-- a def keeps a promise that its body keeps -/
theorem FnOk.mk_body {name qual : Str} {params : Arguments} {body : List Stmt} {scope : PySem.Scope} {dV kV doc pm cdv ct oc : Value} {an od : Option Addr} {osl : Array (Option Value)} {N : List Str}
    (lk : K.lookup f = some ⟨oc, od, .func (PySem.W.fnOf name qual params body scope dV kV doc pm an cdv ct), osl⟩) (hcd : PySem.W.codeIn K cdv qual = true) (S : FnScope N ps scope) (len : ∀ vs H Q E, sp vs H Q E → vs.length = ps.length)
    (hbody : ∀ A outer s H vs Q E, Room k (A.deeper (envOfC qual scope s.heap.objs.size f cdv)) → sp vs H Q E → ∃ t, PSs (cxOf CX P w K mg base N qual scope f cdv A outer s H E) body t ∧ t { nx := fun _ H' => Q .non H', rt := Q } (start N vs) H) :
    FnOk P w K mg base CX (k + 1) f (PySem.W.fnOf name qual params body scope dV kV doc pm an cdv ct) ps sp where
  len := len
  run A hr outer s H e0 args us b vs r Q E q := by
    have same : ∀ x o, base.get? x = some o → s.heap.get? x = some o := fun x o h => (e0.bs x o h).1
    have inK := e0.mod.kin.keeps same
    have nolim := e0.mod.nolimit.keeps same
    obtain ⟨t, ht, hq⟩ := hbody A outer s H vs Q E (hr.down _) q
    apply codeAny_call_function hr.toRoom.depth (inK _ _ lk) rfl S.co S.gen rfl (PySem.W.codeRec_of inK hcd) (b _ _ _ _ _)
    apply wpAny_newFunctionEnv_cells S.kind fun _ hy => par_kind S hy
    rintro env rfl s1 x
    refine ⟨nolim.keeps x.toInCall.keep, codeAny_func (wpAny_mono (ht.run [] s1 (start N vs) H _ (inv_start S hr.toRoom.hd e0 (len _ _ _ _ q) r x) hq) (fun fl s' z => ?_) fun e s' z => z)⟩
    have y := body_end z
    cases fl <;> exact y
theorem FnOk.of_fun {x qual : Str} {st : Stmt} {N : List Str} (F : Fun K x qual st f fd) (S : FnScope N ps (defScope st)) (len : ∀ vs H Q E, sp vs H Q E → vs.length = ps.length)
    (hbody : ∀ cdv A outer s H vs Q E, Room k (A.deeper (envOfC qual (defScope st) s.heap.objs.size f cdv)) → sp vs H Q E →
      ∃ t, PSs (cxOf CX P w K mg base N qual (defScope st) f cdv A outer s H E) (defBody st) t ∧ t { nx := fun _ H' => Q .non H', rt := Q } (start N vs) H) : FnOk P w K mg base CX (k + 1) f fd ps sp := by
  obtain ⟨oc, od, kV, doc, pm, an, cdv, ct, osl, e, lk, hcd⟩ := F.ex
  subst e
  exact .mk_body lk hcd S len fun A outer s H vs Q E => hbody cdv A outer s H vs Q E
end
/-! ## calls -/
section
variable {X : Cx} {CX : CXT} {k : Nat} {f : Addr} {fd : FuncData} {ps : List Str} {sp : L2.Sp} {E : L2.St → XK} {x : Str} {p pos : Pos} {e : Expr} {es : List Expr} {t : TA}
theorem run_fnS {pins : List (Addr × Obj)} {σ : L2.St} {H : Hp} {s : Shared} {Q : VK} {us : List Value} {vs : List V} (F : FnOk X.prog X.w X.K X.mg X.base CX k f fd ps sp) (hr : Room k X.A) (hb : Binds X.K fd ps []) (hx : PassesAt CX X σ (E σ)) (I : Inv X pins σ H s) (r : Vals vs us) (h : sp vs H Q (E σ)) :
    wpAny (model X.prog X.w) X.A (call (.ref f) us) (EP X pins σ Q) X.xe s := by
  have b := hb s us I.kIn
  simp only [List.append_nil] at b
  have run := F.run X.A hr X.stack s H I.env0 ⟨us, []⟩ us (b (r.length ▸ F.len vs H Q (E σ) h)) vs r Q (E σ) h
  apply wpAny_call
  refine codeAny_mono run fun r s' z => ?_
  match r, z with
  | .ok (.ret u), z => exact I.after z
  | .error e, z => exact hx pins H s e s' I z
  | .ok .next, z | .ok .brk, z | .ok .cont, z => exact z.elim
theorem pe_callS (F : FnOk X.prog X.w X.K X.mg X.base CX k f fd ps sp) (hr : Room k X.A) (hg : Gl X x) (hm : X.mg x = some (.ref f)) (hk : PySem.W.keepIn X.K (.ref f) = true) (hb : Binds X.K fd ps []) (hx : ∀ σ, PassesAt CX X σ (E σ)) (ha : PA X (e :: es) t)
    (hdb : (x == ("__debug__" : Str)) = false := by decide) (he : starEach (e :: es) X.env = (false, eval e X.env) :: starEach es X.env := by rfl) (hpl : (backTo pos (starEach es X.env)).any (·.1) = false := by rfl) :
    PE X (.Call (.Name x p) (e :: es) [] pos) (tCallS sp E t) where
  run pins s σ H Q I h := by
    apply wpAny_Call_Name_kw (ld_glob I hg hm ?_ hdb)
    refine PySem.W.callWith_K (h₀ := X.base) I.ok.mod.kin hk ?_ he hpl
    refine thn (ha.run pos pins s σ H _ I h) ?_
    rintro us s1 ⟨vs, H1, I1, r, q⟩
    exact ⟨I1.kIn, run_fnS F hr hb (hx σ) I1 r q⟩
end
/-! ## the law's own call -/
section
variable {P : Program} {w : World} {K : PySem.W.Frag} {mg mb : Str → Option Value} {CX : CXT} {k : Nat} {fa a : Addr} {fd : FuncData} {x : Str} {sp : L2.Sp} {s₁ : Shared} {vs : List Value} {ns : List Int}
/-- the call ends with True, what stood stands -/
abbrev LawEnd (P : Program) (w : World) (fa a : Addr) (s₁ : Shared) : Prop :=
  codeAny (model P w) callerA (.call (.ref fa) ⟨[.ref a], []⟩) (fun r s' => r = .ok (.ret (.bool true)) ∧ OldK s₁.heap s'.heap ∧ s'.os = s₁.os ∧ AllBare s'.gens) s₁
/-- the heap as the defs see it: without the script, where it is tracked -/
theorem hid_keeps {H : Hp} {b : Addr} {o : Obj} (h : s₁.heap.get? b = some o) (n : H b = none) : (hidT s₁.heap H).get? b = some o := hidT_get h n
theorem law_from {H : Hp} (hO : Only H) (hok : HOk P w H s₁.heap) (only : ∀ b, H b ≠ none → b = a) (apart : H a ≠ none → K.lookup a = none) (KX : K.In s₁.heap) (hns : s₁.heap.Ns mainGlobals mg) (hb : s₁.heap.Ns builtinsNs mb) (hbb : ∀ x : Str, x ≠ "__name__" → mb x = bootBuiltins x) (hlim : s₁.heap.NoLimit) (hg : s₁.gens = #[])
    (ha : s₁.heap.get? a = some { cls := .type "list", data := .seq vs.toArray }) (hr : Room k callerA) (F : ∀ base : Heap, K.In base → base.Ns mainGlobals mg → FnOk P w K mg base CX k fa fd [x] sp) (hbind : ∀ (s : Shared) (u : Value), BindsTo s fd ⟨[u], []⟩ [(x, u)])
    (hq : sp [.ref a] H (fun v _ => v = .bl true) fun _ _ _ => False) (hCX : ∀ e s', CX [] H s₁ (fun _ _ _ => False) e s' → False) : LawEnd P w fa a s₁ := by
  have un_tracked : ∀ {b : Addr}, (b = a → H a = none) → H b = none := fun {b} h => Classical.byContradiction fun z => z (by have e := only b z; rw [e]; exact h e)
  have nsH : ∀ {b : Addr} {m : Str → Option Value}, s₁.heap.Ns b m → (hidT s₁.heap H).Ns b m := fun {b m} ⟨o, es, ep, e, d, r⟩ => ⟨o, es, ep, hid_keeps e (un_tracked fun z => by
    subst z
    rw [ha] at e
    cases e
    exact nomatch d), d, r⟩
  have inH : K.In (hidT s₁.heap H) := fun b o e => hid_keeps (KX b o e) (un_tracked fun z => Classical.byContradiction fun y => by
    subst z
    rw [apart y] at e
    exact nomatch e)
  obtain ⟨mc, l1, l2⟩ := hlim
  have e0 : Env0 P w K mg (hidT s₁.heap H) callerA [] s₁ H :=
    { frames := rfl, mod := ⟨inH, nsH hns, ⟨mb, nsH hb, hbb⟩, mc, nsH l1, l2⟩, bs := fun b o e => of_hidT e, bsz := Nat.le_of_eq (hidT_size _ _), funs := trivial, frf := (fun b z => nomatch z), hok := hok, bare := .of_eq hg }
  have run := (F _ inH (nsH hns)).run callerA hr [] s₁ H e0 ⟨[.ref a], []⟩ [.ref a] (hbind s₁ (.ref a)) [.ref a] (.cons rfl .nil) _ _ hq
  refine codeAny_mono run fun r s' z => ?_
  match r, z with
  | .error e, z => exact (hCX e s' z).elim
  | .ok .next, z => exact z.elim
  | .ok .brk, z => exact z.elim
  | .ok .cont, z => exact z.elim
  | .ok (.ret u), ⟨v, H', os, bare, un, hok', r', q⟩ =>
    cases (show v = .bl true from q)
    cases (show u = Value.bool true from r')
    refine ⟨rfl, OldK.of_keep fun b o e => ?_, os, bare⟩
    rcases hO b with n | ⟨ob, xs, t⟩
    · exact un.keep b o e n (fun z => nomatch z) (fun z => nomatch z)
    · have o1 := (hok b _ t).1
      rw [e] at o1
      cases o1
      exact (hok' b _ (un.frzs b _ _ t)).1
/-- the script: an object of the module, or the one tracked thing -/
theorem law_is (KX : K.In s₁.heap) (hns : s₁.heap.Ns mainGlobals mg) (hb : s₁.heap.Ns builtinsNs mb) (hbb : ∀ x : Str, x ≠ "__name__" → mb x = bootBuiltins x) (hlim : s₁.heap.NoLimit) (hg : s₁.gens = #[])
    (ha : s₁.heap.get? a = some { cls := .type "list", data := .seq vs.toArray }) (hi : IntsAre vs ns) (hl : ns.length ≤ sizeLine) (hr : Room k callerA) (F : ∀ base : Heap, K.In base → base.Ns mainGlobals mg → FnOk P w K mg base CX k fa fd [x] sp) (hbind : ∀ (s : Shared) (u : Value), BindsTo s fd ⟨[u], []⟩ [(x, u)])
    (hq : ∀ H : Hp, Only H → SqL K H a (ns.map V.int) → sp [.ref a] H (fun v _ => v = .bl true) fun _ _ _ => False) (hCX : ∀ H e s', CX [] H s₁ (fun _ _ _ => False) e s' → False) : LawEnd P w fa a s₁ := by
  have rv := vals_ints hi
  have zv := hi.length
  cases hk : K.lookup a with
  | some o =>
    have e := (KX a o hk).symm.trans ha
    injection e with e
    subst e
    have hO : Only fun _ => none := fun _ => Or.inl rfl
    refine law_from hO (fun b u z => nomatch z) (fun b z => absurd rfl z) (fun z => absurd rfl z) KX hns hb hbb hlim hg ha hr F hbind (hq _ hO (Or.inr ⟨_, vs.toArray, _, hk, rfl, rfl, rfl, ?_, ?_⟩)) (hCX _)
    · rw [List.size_toArray, zv]; exact hl
    · simpa using rv
  | none =>
    let H : Hp := fun b => if b = a then some (.frz { cls := .type "list", data := .seq vs.toArray } (.lst (ns.map V.int))) else none
    have at_ : H a = some (.frz { cls := .type "list", data := .seq vs.toArray } (.lst (ns.map V.int))) := if_pos rfl
    have off : ∀ {b : Addr}, b ≠ a → H b = none := fun h => if_neg h
    have hO : Only H := fun b => (Classical.em (b = a)).elim (fun e => Or.inr ⟨{ cls := .type "list", data := .seq vs.toArray }, ns.map V.int, by rw [e]; exact at_⟩) fun e => Or.inl (off e)
    refine law_from hO (fun b u z => ?_) (fun b z => Classical.byContradiction fun y => z (off y)) (fun _ => hk) KX hns hb hbb hlim hg ha hr F hbind (hq _ hO (Or.inl (Or.inr ⟨_, at_⟩))) (hCX _)
    have e : b = a := Classical.byContradiction fun y => nomatch (off y).symm.trans z
    subst e
    cases at_.symm.trans z
    exact ⟨ha, by rw [List.length_map]; exact hl, vs, _, rv, ha⟩
end
/-- what k_head leaves (case hc) -/
theorem walk_of {l : PySem.W.OpenLaw} {n k : Nat} {q : Program} {loose : List Str} {XP : (Str → Option Value) → Heap → Prop} {YP : World → Heap → Prop} {d : DefRec} {K : Params → PySem.W.Frag} {CX : World → CXT} {sp : World → L2.Sp} {x : Str}
    (hn : l.most = some n) (hn2 : n ≤ sizeLine) (hdf : d.params.defaults = []) (hr : Room k callerA) (hY : ∀ w h, YP w h → (K w.params).In h)
    (F : ∀ w mg fa h, (K w.params).In h → h.Ns mainGlobals mg → mg d.name = some (.ref fa) → ∃ fd : FuncData, (∀ (s : Shared) (u : Value), BindsTo s fd ⟨[u], []⟩ [(x, u)]) ∧ ∀ base : Heap, (K w.params).In base → base.Ns mainGlobals mg → FnOk l.prog w (K w.params) mg base (CX w) k fa fd [x] (sp w))
    (hsp : ∀ w H a (ns : List Int), ns.length ≤ n → Only H → SqL (K w.params) H a (ns.map V.int) → sp w [.ref a] H (fun v _ => v = .bl true) fun _ _ _ => False) (hCX : ∀ w H s e s', CX w [] H s (fun _ _ _ => False) e s' → False) :
    PySem.W.WalkO q loose XP YP l.row.toRowW d [] (fun f vs => PySem.call f vs) := by
  apply Att.attach_call hn hdf
  intro w s₀ s₁ mg mb fa o pm cd doc a vs ns G Y ho hd hcd hmg hobj hints hlen hg
  have inK := hY w _ Y
  obtain ⟨fd, hb, hF⟩ := F w mg fa _ inK G.T.g hmg
  exact law_is inK G.T.g G.T.b G.T.builtins G.T.nolimit hg hobj hints (Nat.le_trans hlen hn2) hr hF hb (fun H hO hS => hsp w H a ns hlen hO hS) fun H => hCX w H s₁
end Dl

set_option Elab.async false
set_option linter.all false
set_option maxRecDepth 100000
namespace Dl
open PySem PySem.Spec PyProof.Rows L2

/-! ## tests -/
def truD (S : Store) : D → Option Bool
  | .non => some false
  | .bl b => some b
  | .int i => some (i != 0)
  | .str x => some ((x.length : Int) != 0)
  | .tup xs => some (!xs.isEmpty)
  | .ref l => match S[l]? with
    | some (.lst xs) => some (!xs.isEmpty)
    | some (.rol xs) => some (!xs.isEmpty)
    | some (.dic kvs) => some (!kvs.isEmpty)
    | _ => none
  | .raw _ => none
def toT (S : Store) : Option Bool → R Bool
  | some b => .ok b S
  | none => .no
/-- an expression's truth -/
def tV (f : EX) : TX := fun ρ S => (f ρ S).bind fun d S1 => toT S1 (truD S1 d)
/-- an expression that is a bool -/
def tE (f : EX) : TX := fun ρ S => (f ρ S).bind fun d S1 => match d with
  | .bl b => .ok b S1
  | _ => .no
def tA (f g : TX) : TX := fun ρ S => (f ρ S).bind fun b S1 => if b then g ρ S1 else .ok false S1
def tO (f g : TX) : TX := fun ρ S => (f ρ S).bind fun b S1 => if b then .ok true S1 else g ρ S1
def tN (f : TX) : TX := fun ρ S => (f ρ S).bind fun b S1 => .ok (!b) S1
def eIf (t : TX) (f g : EX) : EX := fun ρ S => (t ρ S).bind fun b S1 => if b then f ρ S1 else g ρ S1
def eAnd (f g : EX) : EX := fun ρ S => (f ρ S).bind fun d S1 => (toT S1 (truD S1 d)).bind fun b S2 => if b then g ρ S2 else .ok d S2
def eOr (f g : EX) : EX := fun ρ S => (f ρ S).bind fun d S1 => (toT S1 (truD S1 d)).bind fun b S2 => if b then .ok d S2 else g ρ S2
def eNot (f : EX) : EX := fun ρ S => (f ρ S).bind fun d S1 => (toT S1 (truD S1 d)).bind fun b S2 => .ok (.bl (!b)) S2
/-- a < b < c -/
def eCh (g g' : D → D → Store → Option (D × Store)) (fa fb fc : EX) : EX := fun ρ S => (fa ρ S).bind fun x S1 => (fb ρ S1).bind fun y S2 => (toR (g x y S2)).bind fun z S3 => match z with
  | .bl true => (fc ρ S3).bind fun w S4 => toR (g' y w S4)
  | .bl false => .ok (.bl false) S3
  | _ => .no
section
variable {X : Cx} {W : WX} {a b c e : Expr} {rest : List Expr} {fa fb fc f g : EX} {ta tb : TX} {pos : Pos}
theorem tru_of {K : PySem.W.Frag} {m : List Addr} {H : Hp} {S : Store} {v : V} {x : D} {k : Bool} (r : RD K m H v x) (rs : RS K m H S) (h : truD S x = some k) : TruV K v H k := by
  cases r with
  | non => cases h; exact rfl
  | bl b => cases h; exact rfl
  | int b => cases h; exact rfl
  | str hz => cases h; exact ⟨by rw [← lim_eq]; exact hz, rfl⟩
  | @tup a vs ds ht r =>
    cases h
    refine .inr (.inl ⟨vs, ht.sq, ?_⟩)
    cases r <;> rfl
  | @ref a l hl =>
    unfold truD at h
    simp only at h
    split at h
    · rename_i xs e1
      cases h
      obtain ⟨vs, h1, r⟩ := rs.at_ hl e1
      refine .inl ⟨vs, SqL.of h1, ?_⟩
      cases r <;> rfl
    · rename_i xs e1
      cases h
      obtain ⟨vs, h1, r⟩ := rs.at_ hl e1
      refine .inl ⟨vs, h1.sq, ?_⟩
      cases r <;> rfl
    · rename_i kvs e1
      cases h
      obtain ⟨ws, h1, h2, r⟩ := rs.at_ hl e1
      refine .inr (.inr ⟨ws, h1, ?_⟩)
      cases kvs <;> cases ws <;> simp at h2 <;> rfl
    · cases h
  | raw v => cases h
theorem d_tv (ha : PE X a (rdE (X.cq W) fa)) (he : ∀ whole, isTrue a X.env whole = (do let v ← whole; standAt a.pos; holding [v] (truthy v)) := by exact fun _ => rfl) : PT X a (rdT (X.cq W) (tV fa)) :=
  PTwk (pt_truth ha he) fun σ H Q ⟨m, ρ, S, re, rs, h⟩ => ⟨m, ρ, S, re, rs, (Post.bind h).imp fun v H1 ⟨m1, x, S1, e1, rs1, rd, h1⟩ => by
    cases e : truD S1 x with
    | none => rw [e] at h1; exact h1.elim
    | some k =>
      rw [e] at h1
      exact ⟨k, tru_of rd rs1 e, h1 _ _ m1 .refl rs1 rfl⟩⟩
theorem d_te {t : TE} (h : PT X e (tTest t)) (k : ∀ σ H Q, rdE (X.cq W) f σ H Q → t σ H Q) : PT X e (rdT (X.cq W) (tE f)) :=
  PTwk h fun σ H Q ⟨m, ρ, S, re, rs, h⟩ => k _ _ _ ⟨m, ρ, S, re, rs, (Post.bind h).imp fun v H1 ⟨m1, x, S1, e1, rs1, rd, h1⟩ => by
    cases rd with
    | bl b => exact ⟨b, rfl, h1 _ _ m1 .refl rs1 rfl⟩
    | _ => exact h1.elim⟩
theorem k2 {r : R2} {g : D → D → Store → Option (D × Store)} (k : ∀ v u H Q, rd2 X.K g v u H Q → r v u H Q) : ∀ σ H Q, rdE (X.cq W) (e2 g fa fb) σ H Q → tOp r (rdE (X.cq W) fa) (rdE (X.cq W) fb) σ H Q := fun σ H Q ⟨m, ρ, S, re, rs, h⟩ =>
  ⟨m, ρ, S, re, rs, (Post.bind h).imp fun v H1 ⟨m1, x, S1, e, rs1, rd, h1⟩ => ⟨m1, ρ, S1, re.mono e, rs1, (Post.bind h1).imp fun u H2 ⟨m2, y, S2, e2, rs2, rd2, h2⟩ =>
    k _ _ _ _ ⟨m2, x, y, S2, rd.mono e2, rd2, rs2, VPost.of h2⟩⟩⟩
/-- a == b and its like: as a value, as a test -/
theorem d_cmp {op : CmpOp} {g : D → D → Store → Option (D × Store)} (ho : OpR X (compareOp op) (rd2 X.K g)) (ha : PE X a (rdE (X.cq W) fa)) (hb : PE X b (rdE (X.cq W) fb)) (hm : behindInMarks op b = false := by first | exact nomark _ | rfl) :
    PE X (.Compare a [op] [b] pos) (rdE (X.cq W) (e2 g fa fb)) := PEwk (pe_cmpR ho ha hb hm) (k2 fun _ _ _ _ h => h)
theorem d_tcmp {op : CmpOp} {g : D → D → Store → Option (D × Store)} (ho : OpR X (compareOp op) (rd2 X.K g)) (ha : PE X a (rdE (X.cq W) fa)) (hb : PE X b (rdE (X.cq W) fb)) (hm : behindInMarks op b = false := by first | exact nomark _ | rfl) :
    PT X (.Compare a [op] [b] pos) (rdT (X.cq W) (tE (e2 g fa fb))) := d_te (pt_cmpR ho ha hb hm) (k2 fun _ _ _ _ h => h)
theorem kCh {r r' : R2} {g g' : D → D → Store → Option (D × Store)} (k : ∀ v u H Q, rd2 X.K g v u H Q → r v u H Q) (k' : ∀ v u H Q, rd2 X.K g' v u H Q → r' v u H Q) :
    ∀ σ H Q, rdE (X.cq W) (eCh g g' fa fb fc) σ H Q → tChain r r' (rdE (X.cq W) fa) (rdE (X.cq W) fb) (rdE (X.cq W) fc) σ H Q := fun σ H Q ⟨m, ρ, S, re, rs, h⟩ =>
  ⟨m, ρ, S, re, rs, (Post.bind h).imp fun v H1 ⟨m1, x, S1, e, rs1, rd, h1⟩ => ⟨m1, ρ, S1, re.mono e, rs1, (Post.bind h1).imp fun u H2 ⟨m2, y, S2, e2, rs2, rd2, h2⟩ => by
    refine k _ _ _ _ ⟨m2, x, y, S2, rd.mono e2, rd2, rs2, ?_⟩
    cases eg : g x y S2 with
    | none => rw [eg] at h2; exact h2.elim
    | some p =>
      obtain ⟨z, S3⟩ := p
      rw [eg] at h2
      intro vz H3 m3 e3 rs3 rdz
      have h2 : Post _ _ m2 H2 σ Q (match z with
        | .bl true => (fc ρ S3).bind fun w S4 => toR (g' y w S4)
        | .bl false => .ok (.bl false) S3
        | _ => .no) := h2
      cases rdz with
      | bl k =>
        refine ⟨k, rfl, ?_⟩
        cases k with
        | true =>
          rw [if_pos rfl]
          have h3 := Post.mono e3 h2
          exact ⟨m3, ρ, S3, ((re.mono e).mono e2).mono e3, rs3, (Post.bind h3).imp fun w H4 ⟨m4, dw, S4, e4, rs4, rdw, h4⟩ => k' _ _ _ _ ⟨m4, y, dw, S4, (rd2.mono e3).mono e4, rdw, rs4, VPost.of h4⟩⟩
        | false =>
          rw [if_neg Bool.false_ne_true]
          exact h2 _ _ m3 e3 rs3 (.bl false)
      | _ => exact h2.elim⟩⟩
theorem d_ch {op op' : CmpOp} {g g' : D → D → Store → Option (D × Store)} (ho : OpR X (compareOp op) (rd2 X.K g)) (ho' : OpR X (compareOp op') (rd2 X.K g')) (ha : PE X a (rdE (X.cq W) fa)) (hb : PE X b (rdE (X.cq W) fb)) (hc : PE X c (rdE (X.cq W) fc))
    (hm : lastMarks [op, op'] [b, c] = false := by with_unfolding_all rfl) : PE X (.Compare a [op, op'] [b, c] pos) (rdE (X.cq W) (eCh g g' fa fb fc)) := PEwk (pe_chain ho ho' ha hb hc hm) (kCh (fun _ _ _ _ h => h) fun _ _ _ _ h => h)
theorem d_tch {op op' : CmpOp} {g g' : D → D → Store → Option (D × Store)} (ho : OpR X (compareOp op) (rd2 X.K g)) (ho' : OpR X (compareOp op') (rd2 X.K g')) (ha : PE X a (rdE (X.cq W) fa)) (hb : PE X b (rdE (X.cq W) fb)) (hc : PE X c (rdE (X.cq W) fc))
    (hm : lastMarks [op, op'] [b, c] = false := by with_unfolding_all rfl) : PT X (.Compare a [op, op'] [b, c] pos) (rdT (X.cq W) (tE (eCh g g' fa fb fc))) := d_te (pt_chain ho ho' ha hb hc hm) (kCh (fun _ _ _ _ h => h) fun _ _ _ _ h => h)
theorem d_and1 (ha : PT X a (rdT (X.cq W) ta)) : PW X (.BoolOp .And [a] pos) (rdT (X.cq W) ta) := pw_and1 ha
theorem d_or1 (ha : PT X a (rdT (X.cq W) ta)) : PW X (.BoolOp .Or [a] pos) (rdT (X.cq W) ta) := pw_or1 ha
theorem d_and (ha : PT X a (rdT (X.cq W) ta)) (hb : PW X (.BoolOp .And (b :: rest) pos) (rdT (X.cq W) tb)) : PW X (.BoolOp .And (a :: b :: rest) pos) (rdT (X.cq W) (tA ta tb)) :=
  PWwk (pw_and ha hb) fun σ H Q ⟨m, ρ, S, re, rs, h⟩ => ⟨m, ρ, S, re, rs, (Post.bind (rel := relB) h).imp fun k H1 ⟨m1, k', S1, e1, rs1, ek, h1⟩ => by
    subst ek
    cases k with
    | true => rw [if_pos rfl]; exact ⟨m1, ρ, S1, re.mono e1, rs1, h1⟩
    | false => rw [if_neg Bool.false_ne_true]; exact h1 _ _ m1 .refl rs1 rfl⟩
theorem d_or (ha : PT X a (rdT (X.cq W) ta)) (hb : PW X (.BoolOp .Or (b :: rest) pos) (rdT (X.cq W) tb)) : PW X (.BoolOp .Or (a :: b :: rest) pos) (rdT (X.cq W) (tO ta tb)) :=
  PWwk (pw_or ha hb) fun σ H Q ⟨m, ρ, S, re, rs, h⟩ => ⟨m, ρ, S, re, rs, (Post.bind (rel := relB) h).imp fun k H1 ⟨m1, k', S1, e1, rs1, ek, h1⟩ => by
    subst ek
    cases k with
    | true => rw [if_pos rfl]; exact h1 _ _ m1 .refl rs1 rfl
    | false => rw [if_neg Bool.false_ne_true]; exact ⟨m1, ρ, S1, re.mono e1, rs1, h1⟩⟩
theorem d_not (ha : PT X a (rdT (X.cq W) ta)) : PT X (.UnaryOp .Not a pos) (rdT (X.cq W) (tN ta)) :=
  PTwk (pt_not ha) fun σ H Q ⟨m, ρ, S, re, rs, h⟩ => ⟨m, ρ, S, re, rs, (Post.bind (rel := relB) h).imp fun k H1 ⟨m1, k', S1, e1, rs1, ek, h1⟩ => by
    subst ek
    exact h1 _ _ m1 .refl rs1 rfl⟩
theorem d_if {t : Expr} (ht : PT X t (rdT (X.cq W) ta)) (ha : PE X a (rdE (X.cq W) fa)) (hb : PE X b (rdE (X.cq W) fb)) : PE X (.IfExp t a b pos) (rdE (X.cq W) (eIf ta fa fb)) :=
  PEwk (pe_ifExp ht ha hb) fun σ H Q ⟨m, ρ, S, re, rs, h⟩ => ⟨m, ρ, S, re, rs, (Post.bind (rel := relB) h).imp fun k H1 ⟨m1, k', S1, e1, rs1, ek, h1⟩ => by
    subst ek
    cases k with
    | true => rw [if_pos rfl]; exact ⟨m1, ρ, S1, re.mono e1, rs1, h1⟩
    | false => rw [if_neg Bool.false_ne_true]; exact ⟨m1, ρ, S1, re.mono e1, rs1, h1⟩⟩
end
/-! .. as values, by truth -/
section
variable {X : Cx} {W : WX} {a b : Expr} {rest : List Expr} {fa fb : EX} {pos : Pos} {op : BoolOp}
theorem d_one (ha : PE X a (rdE (X.cq W) fa)) : PE X (.BoolOp op [a] pos) (rdE (X.cq W) fa) := pe_one ha
theorem d_vand (ha : PE X a (rdE (X.cq W) fa)) (hb : PE X (.BoolOp .And (b :: rest) pos) (rdE (X.cq W) fb)) : PE X (.BoolOp .And (a :: b :: rest) pos) (rdE (X.cq W) (eAnd fa fb)) := by
  refine ⟨fun pins s σ H Q I ⟨m, ρ, S, re, rs, h⟩ => ?_⟩
  refine BoolOp_and (thn (ha.run pins s σ H _ I ⟨m, ρ, S, re, rs, Post.bind h⟩) fun v s1 ⟨x, H1, I1, r1, m1, d, S1, e1, rs1, rd1, h1⟩ => ?_)
  cases e : truD S1 d with
  | none => rw [e] at h1; exact h1.elim
  | some k =>
    rw [e] at h1
    have h1 : Post (X.cq W) (relD (X.cq W)) m1 H1 σ Q (if k then fb ρ S1 else .ok d S1) := h1
    refine thn (tru_ok pins s1 σ H1 x v (fun c H2 => c = k ∧ H2 = H1) I1 r1 ⟨k, tru_of rd1 rs1 e, rfl, rfl⟩) fun c s2 hc => ?_
    obtain ⟨H2, I2, e1', e2⟩ := hc
    rw [e2] at I2
    subst e1'
    cases c with
    | true =>
      rw [if_pos rfl] at h1
      exact hb.run pins s2 σ H1 Q I2 ⟨m1, ρ, S1, re.mono e1, rs1, h1⟩
    | false =>
      rw [if_neg Bool.false_ne_true] at h1
      exact ⟨x, H1, I2, r1, h1 _ _ m1 .refl rs1 rd1⟩
theorem d_vor (ha : PE X a (rdE (X.cq W) fa)) (hb : PE X (.BoolOp .Or (b :: rest) pos) (rdE (X.cq W) fb)) : PE X (.BoolOp .Or (a :: b :: rest) pos) (rdE (X.cq W) (eOr fa fb)) := by
  refine ⟨fun pins s σ H Q I ⟨m, ρ, S, re, rs, h⟩ => ?_⟩
  refine BoolOp_or (thn (ha.run pins s σ H _ I ⟨m, ρ, S, re, rs, Post.bind h⟩) fun v s1 ⟨x, H1, I1, r1, m1, d, S1, e1, rs1, rd1, h1⟩ => ?_)
  cases e : truD S1 d with
  | none => rw [e] at h1; exact h1.elim
  | some k =>
    rw [e] at h1
    have h1 : Post (X.cq W) (relD (X.cq W)) m1 H1 σ Q (if k then .ok d S1 else fb ρ S1) := h1
    refine thn (tru_ok pins s1 σ H1 x v (fun c H2 => c = k ∧ H2 = H1) I1 r1 ⟨k, tru_of rd1 rs1 e, rfl, rfl⟩) fun c s2 hc => ?_
    obtain ⟨H2, I2, e1', e2⟩ := hc
    rw [e2] at I2
    subst e1'
    cases c with
    | false =>
      rw [if_neg Bool.false_ne_true] at h1
      exact hb.run pins s2 σ H1 Q I2 ⟨m1, ρ, S1, re.mono e1, rs1, h1⟩
    | true =>
      rw [if_pos rfl] at h1
      exact ⟨x, H1, I2, r1, h1 _ _ m1 .refl rs1 rd1⟩
theorem d_vnot (ha : PE X a (rdE (X.cq W) fa)) : PE X (.UnaryOp .Not a pos) (rdE (X.cq W) (eNot fa)) := by
  refine ⟨fun pins s σ H Q I ⟨m, ρ, S, re, rs, h⟩ => ?_⟩
  refine UnaryOp_ (thn (ha.run pins s σ H _ I ⟨m, ρ, S, re, rs, Post.bind h⟩) fun v s1 ⟨x, H1, I1, r1, m1, d, S1, e1, rs1, rd1, h1⟩ => ?_)
  cases e : truD S1 d with
  | none => rw [e] at h1; exact h1.elim
  | some k =>
    rw [e] at h1
    exact not_of (thn (tru_ok pins s1 σ H1 x v (fun c H2 => c = k ∧ H2 = H1) I1 r1 ⟨k, tru_of rd1 rs1 e, rfl, rfl⟩) fun c s2 ⟨H2, I2, e1', e2⟩ => by
      subst e1' e2
      exact ⟨.bl (!c), H2, I2, rfl, h1 _ _ m1 .refl rs1 (.bl _)⟩)
end
/-! a call of a def -/
section
variable {X : Cx} {W : WX} {e : Expr} {es : List Expr} {fx : AX} {pos p : Pos} {CX : CXT} {k : Nat} {f : Addr} {fd : FuncData} {ps : List Str} {x : Str} {F : List D → M D}
theorem d_call (G : FnOk X.prog X.w X.K X.mg X.base CX k f fd ps (rdF ⟨X.K, X.mg, W0⟩ F)) (hr : Room k X.A) (hg : Gl X x) (hm : X.mg x = some (.ref f)) (hk : PySem.W.keepIn X.K (.ref f) = true) (hb : Binds X.K fd ps []) (hx : ∀ σ, PassesAt CX X σ (WE W σ))
    (ha : PA X (e :: es) (rdA (X.cq W) fx)) (hdb : (x == ("__debug__" : Str)) = false := by decide) (he : starEach (e :: es) X.env = (false, eval e X.env) :: starEach es X.env := by rfl) (hpl : (backTo pos (starEach es X.env)).any (·.1) = false := by rfl) :
    PE X (.Call (.Name x p) (e :: es) [] pos) (rdE (X.cq W) (eF F fx)) := PEwk (pe_callS G hr hg hm hk hb hx ha hdb he hpl) fun σ H Q ⟨m, ρ, S, re, rs, h⟩ =>
  ⟨m, ρ, S, re, rs, (Post.bind h).imp fun vs H1 ⟨m1, xs, S1, e1, rs1, rds, h1⟩ => ⟨m1, xs, S1, rds, rs1, by
    cases er : F xs S1 with
    | ok d S2 => rw [er] at h1; exact h1
    | ex ex S2 => rw [er] at h1; exact h1
    | no => rw [er] at h1; exact h1⟩⟩
end
end Dl

set_option Elab.async false
set_option linter.all false
set_option maxRecDepth 100000
namespace Dl
open PySem PySem.Spec PyProof.Rows L2

/-! ## statements -/
def sP : SX := fun ρ S => .nx ρ S
def Out.seq (o : Out) (h : SX) : Out := match o with
  | .nx ρ' S' => h ρ' S'
  | o => o
def sQ (g h : SX) : SX := fun ρ S => (g ρ S).seq h
def sBk : SX := fun ρ S => .bk ρ S
def sCt : SX := fun ρ S => .ct ρ S
def sNo : SX := fun _ _ => .no
def sE (f : EX) : SX := fun ρ S => (f ρ S).out ρ fun _ S1 => .nx ρ S1
def sR (f : EX) : SX := fun ρ S => (f ρ S).out ρ fun d S1 => .rt d S1
def sIf (t : TX) (g h : SX) : SX := fun ρ S => (t ρ S).out ρ fun b S1 => if b then g ρ S1 else h ρ S1
/-- name = .. -/
def nm (i : Nat) : D → SX := fun d ρ S => .nx (ρ.set i (some d)) S
def tgO : Out → Out
  | .nx ρ S => .nx ρ S
  | .ex x ρ S => .ex x ρ S
  | _ => .no
def sA (f : EX) (tg : D → SX) : SX := fun ρ S => (f ρ S).out ρ fun d S1 => tgO (tg d ρ S1)
def sN (j : Nat) (f : EX) : SX := fun ρ S => (f ρ S).out ρ fun d S1 => .nx (ρ.set j (some d)) S1
/-- o[i] = .. -/
def tgIx (fo fi : EX) : D → SX := fun d ρ S => (fo ρ S).out ρ fun o S1 => (fi ρ S1).out ρ fun i S2 => match gSet o i d S2 with
  | some S3 => .nx ρ S3
  | none => .no
/-- several targets -/
def tgL : List (D → SX) → List D → SX
  | [], [] => sP
  | t :: ts, d :: ds => fun ρ S => match t d ρ S with
    | .nx ρ' S' => tgL ts ds ρ' S'
    | .ex x ρ' S' => .ex x ρ' S'
    | _ => .no
  | _, _ => sNo
def tgT (ts : List (D → SX)) : D → SX := fun d => match d with
  | .tup ds => if ds.length = ts.length then tgL ts ds else sNo
  | _ => sNo
section
variable {X : Cx} {W : WX} {st : Stmt} {rest : List Stmt} {g h : SX} {e o i : Expr} {f fo fi : EX} {t : Expr} {ft : TX} {pos : Pos} {a b : List Stmt}
theorem t_nil : PSs X [] (rdS (X.cq W) sP) := PSswk pss_nil fun Dn σ H ⟨m, ρ, S, re, rs, h⟩ => h σ H m .refl re rs
theorem seq_post {c : Cq} {m : List Addr} {H : Hp} {Dn : Ends} {o : Out} {h : SX} (q : PostS c m H Dn (o.seq h)) : PostS c m H { Dn with nx := rdS c h Dn } o := by
  cases o with
  | nx ρ' S' => exact fun σ' H' m' e re rs => ⟨m', ρ', S', re, rs, PostS.mono e q⟩
  | _ => exact q
theorem t_cons (h1 : PS X st (rdS (X.cq W) g)) (h2 : PSs X rest (rdS (X.cq W) h)) : PSs X (st :: rest) (rdS (X.cq W) (sQ g h)) := PSswk (pss_cons h1 h2) fun Dn σ H ⟨m, ρ, S, re, rs, q⟩ =>
  ⟨m, ρ, S, re, rs, seq_post q⟩
theorem t_one (h1 : PS X st (rdS (X.cq W) g)) : PSs X [st] (rdS (X.cq W) g) := pss_one h1
theorem t_pass : PS X (.Pass pos) (rdS (X.cq W) sP) := PSwk ps_pass fun Dn σ H ⟨m, ρ, S, re, rs, h⟩ => h σ H m .refl re rs
theorem t_break : PS X (.Break pos) (rdS (X.cq W) sBk) := PSwk ps_break fun Dn σ H ⟨m, ρ, S, re, rs, h⟩ => h σ H m .refl re rs
theorem t_continue : PS X (.Continue pos) (rdS (X.cq W) sCt) := PSwk ps_continue fun Dn σ H ⟨m, ρ, S, re, rs, h⟩ => h σ H m .refl re rs
theorem t_never : PS X st (rdS (X.cq W) sNo) := PSwk ps_never fun Dn σ H ⟨m, ρ, S, re, rs, h⟩ => h
theorem t_doc {x j pos pos'} : PS X (.Expr (.Constant (.str x) j pos) pos') (rdS (X.cq W) sP) := PSwk ps_doc fun Dn σ H ⟨m, ρ, S, re, rs, h⟩ => h σ H m .refl re rs
theorem t_expr (he : PE X e (rdE (X.cq W) f)) (hs : swapsWith e none pos.line X.env = pure false := by rfl) : PS X (.Expr e pos) (rdS (X.cq W) (sE f)) := PSwk (ps_expr he hs) fun Dn σ H ⟨m, ρ, S, re, rs, q⟩ =>
  ⟨m, ρ, S, re, rs, (Post.out re q).imp fun v H1 ⟨m1, d, S1, e1, rs1, rd, re1, q1⟩ => q1 σ H1 m1 .refl re1 rs1⟩
theorem t_ret (he : PE X e (rdE (X.cq W) f)) : PS X (.Return (some e) pos) (rdS (X.cq W) (sR f)) := PSwk (ps_ret he) fun Dn σ H ⟨m, ρ, S, re, rs, q⟩ =>
  ⟨m, ρ, S, re, rs, (Post.out re q).imp fun v H1 ⟨m1, d, S1, e1, rs1, rd, re1, q1⟩ => q1 v H1 m1 .refl rs1 rd⟩
theorem t_retN : PS X (.Return none pos) (rdS (X.cq W) (sR (eC .non))) := PSwk ps_retN fun Dn σ H ⟨m, ρ, S, re, rs, q⟩ => q .non H m .refl rs .non
theorem t_if (ht : PT X t (rdT (X.cq W) ft)) (ha : PSs X a (rdS (X.cq W) g)) (hb : PSs X b (rdS (X.cq W) h)) : PS X (.If t a b pos) (rdS (X.cq W) (sIf ft g h)) := PSwk (ps_if ht ha hb) fun Dn σ H ⟨m, ρ, S, re, rs, q⟩ =>
  ⟨m, ρ, S, re, rs, (Post.out (rel := relB) re q).imp fun k H1 ⟨m1, k', S1, e1, rs1, ek, re1, q1⟩ => by
    subst ek
    cases k with
    | true => rw [if_pos rfl]; exact ⟨m1, ρ, S1, re1, rs1, q1⟩
    | false => rw [if_neg Bool.false_ne_true]; exact ⟨m1, ρ, S1, re1, rs1, q1⟩⟩
/-! ### targets -/
theorem g_nm {j : Nat} {x : Str} (hN : X.N.Nodup) (hi : X.N[j]? = some x := by rfl) (hx : Loc X.env.scope x := by first | exact .inl rfl | exact .inr rfl) (hf : X.fn x = true ∨ X.env.scope.names.lookup x = some .local := by first | exact .inl rfl | exact .inr rfl) :
    PG X (.Name x pos) (rdG (X.cq W) (nm j)) := PGwk (pg_name hN hi hx hf) fun v σ H Q ⟨m, ρ, S, d, re, rs, rd, q⟩ => q _ H m .refl (re.set rd j) rs
def rdGs (c : Cq) (tg : List D → SX) : TGs := fun vs σ H Q => ∃ m ρ S ds, RE c.K m H σ ρ ∧ RS c.K m H S ∧ RDs c.K m H vs ds ∧ PostS c m H { nx := Q, rt := fun _ _ => False } (tg ds ρ S)
theorem g_nil : PGs X [] (rdGs (X.cq W) (tgL [])) := ⟨fun pins s σ H vs us Q I r ⟨m, ρ, S, ds, re, rs, rd, q⟩ => pgs_nil.run pins s σ H vs us Q I r (by
  cases rd with
  | nil => exact ⟨rfl, q σ H m .refl re rs⟩
  | cons _ _ => exact q.elim)⟩
theorem g_cons {es : List Expr} {tg : D → SX} {ts : List (D → SX)} (h1 : PG X e (rdG (X.cq W) tg)) (h2 : PGs X es (rdGs (X.cq W) (tgL ts)))
    (hs : (assignEach (e :: es) X.env).map (·.2) = assign e X.env :: (assignEach es X.env).map (·.2) := by rfl) : PGs X (e :: es) (rdGs (X.cq W) (tgL (tg :: ts))) := ⟨fun pins s σ H vs us Q I r ⟨m, ρ, S, ds, re, rs, rd, q⟩ =>
  (pgs_cons h1 h2 hs).run pins s σ H vs us Q I r (by
    cases rd with
    | nil => exact q.elim
    | @cons v d vs ds hd hds =>
      refine ⟨v, vs, rfl, m, ρ, S, d, re, rs, hd, ?_⟩
      have q : PostS (X.cq W) m H { nx := Q, rt := fun _ _ => False } (match tg d ρ S with
        | .nx ρ' S' => tgL ts ds ρ' S'
        | .ex x ρ' S' => .ex x ρ' S'
        | _ => .no) := q
      cases eo : tg d ρ S with
      | nx ρ' S' =>
        rw [eo] at q
        exact fun σ' H' m' e' re' rs' => ⟨m', ρ', S', ds, re', rs', hds.mono e', PostS.mono e' q⟩
      | ex x ρ' S' => rw [eo] at q; exact q
      | _ => rw [eo] at q; exact q.elim)⟩
theorem g_tup {es : List Expr} {k : Nat} {ts : List (D → SX)} (hc : X.calm = true) (h : PGs X es (rdGs (X.cq W) (tgL ts))) (hl : ts.length = es.length := by rfl)
    (hn : (assignEach es X.env).length = es.length := by rfl) (hst : (assignEach es X.env).findIdx? (·.1) = none := by rfl) : PG X (.Tuple es k pos) (rdG (X.cq W) (tgT ts)) := PGwk (pg_tup hc h hn hst) fun v σ H Q ⟨m, ρ, S, d, re, rs, rd, q⟩ => by
  cases rd with
  | @tup a vs ds ht r =>
    have q : PostS (X.cq W) m H { nx := Q, rt := fun _ _ => False } ((if ds.length = ts.length then tgL ts ds else sNo) ρ S) := q
    by_cases hz : ds.length = ts.length
    · rw [if_pos hz] at q
      exact ⟨a, vs, rfl, ht.sq, by rw [r.length, hz, hl], m, ρ, S, ds, re, rs, r, q⟩
    · rw [if_neg hz] at q
      exact q.elim
  | _ => exact q.elim
theorem g_ix (ho : PE X o (rdE (X.cq W) fo)) (hi : PE X i (rdE (X.cq W) fi))
    (ha : ∀ v, assign (.Subscript o i pos) X.env v = (do
      let ov ← holding [v] (eval o X.env)
      let iv ← holding [v, ov] (eval i X.env)
      standAt pos
      holding [v, ov, iv] (setItem ov iv v)
      release [v, ov, iv] []) := by intro _; rfl) : PG X (.Subscript o i pos) (rdG (X.cq W) (tgIx fo fi)) := PGwk (pg_sub ho hi p_set ha) fun v σ H Q ⟨m, ρ, S, d, re, rs, rd, q⟩ =>
  ⟨m, ρ, S, re, rs, (Post.out re q).imp fun vo H1 ⟨m1, x, S1, e1, rs1, rx, re1, q1⟩ => ⟨m1, ρ, S1, re1, rs1, (Post.out re1 q1).imp fun vi H2 ⟨m2, y, S2, e2, rs2, ry, re2, q2⟩ => by
    refine ⟨m2, x, y, d, S2, rx.mono e2, ry, (rd.mono e1).mono e2, rs2, ?_⟩
    cases eg : gSet x y d S2 with
    | none => rw [eg] at q2; exact q2.elim
    | some S3 =>
      rw [eg] at q2
      exact fun H3 m3 e3 rs3 => q2 σ H3 m3 e3 (re2.mono e3) rs3⟩⟩
/-- target = value -/
theorem t_asg {tg : Expr} {G : D → SX} (he : PE X e (rdE (X.cq W) f)) (hg : PG X tg (rdG (X.cq W) G)) (hs : swapsWithSole [tg] e pos.line X.env = pure false := by rfl) (hw : swappedStores [tg] e X.env = pure none := by rfl)
    (h1 : (assignEach [tg] X.env).map (·.2) = [assign tg X.env] := by rfl) : PS X (.Assign [tg] e pos) (rdS (X.cq W) (sA f G)) := PSwk (ps_asg he hg hs hw h1) fun Dn σ H ⟨m, ρ, S, re, rs, q⟩ =>
  ⟨m, ρ, S, re, rs, (Post.out re q).imp fun v H1 ⟨m1, d, S1, e1, rs1, rd, re1, q1⟩ => ⟨m1, ρ, S1, d, re1, rs1, rd, by
    cases eo : G d ρ S1 with
    | nx ρ' S' => rw [eo] at q1; exact q1
    | ex x ρ' S' => rw [eo] at q1; exact q1
    | _ => rw [eo] at q1; exact q1.elim⟩⟩
theorem t_set {j : Nat} {x : Str} {pos' : Pos} (hN : X.N.Nodup) (he : PE X e (rdE (X.cq W) f)) (hi : X.N[j]? = some x := by rfl) (hx : Loc X.env.scope x := by first | exact .inl rfl | exact .inr rfl) (hs : swapsWith e (some (.Name x pos')) pos.line X.env = pure false := by rfl)
    (hf : X.fn x = true ∨ X.env.scope.names.lookup x = some .local := by first | exact .inl rfl | exact .inr rfl) : PS X (.Assign [.Name x pos'] e pos) (rdS (X.cq W) (sN j f)) := PSwk (ps_set hN hi hx he hs hf) fun Dn σ H ⟨m, ρ, S, re, rs, q⟩ =>
  ⟨m, ρ, S, re, rs, (Post.out re q).imp fun v H1 ⟨m1, d, S1, e1, rs1, rd, re1, q1⟩ => q1 _ H1 m1 .refl (re1.set rd j) rs1⟩
end
end Dl

set_option Elab.async false
set_option linter.all false
set_option maxRecDepth 100000
namespace Dl
open PySem PySem.Spec PyProof.Rows L2

/-! ## what is walked -/
/-- lists that must stand as they are while they are walked -/
abbrev Chk := List (Nat × List D)
def chkOk (k : Chk) (S : Store) : Prop := ∀ p ∈ k, lstAt S p.1 = some p.2
/-- the items, and what must stand -/
abbrev IX := Env → Store → R (List D × Chk)
def ItOk (K : PySem.W.Frag) (m0 : List Addr) (H0 : Hp) (J : It) (xs : List D) (k : Chk) : Prop :=
  ∀ (i : Nat) (m : List Addr) (H : Hp) (S : Store), Ext K m0 H0 m H → RS K m H S → chkOk k S →
    (∀ d, xs[i]? = some d → J.go i H ∧ ∀ x H', J.yld i H x H' → ∃ m', Ext K m H m' H' ∧ RS K m' H' S ∧ RD K m' H' x d) ∧ (xs.length ≤ i → J.stop i H)
def PostI (c : Cq) (m : List Addr) (H : Hp) (σ : L2.St) (R' : It → Hp → Prop) : R (List D × Chk) → Prop
  | .ok p S' => ∀ J H' m', Ext c.K m H m' H' → RS c.K m' H' S' → ItOk c.K m' H' J p.1 p.2 → R' J H'
  | .ex x S' => ∀ cls dd H' m', Ext c.K m H m' H' → RS c.K m' H' S' → RX c m' H' x cls dd → c.W cls dd σ H'
  | .no => False
theorem PostI.mono {c : Cq} {m m1 : List Addr} {H H1 : Hp} {σ : L2.St} {R' : It → Hp → Prop} {r : R (List D × Chk)} (e : Ext c.K m H m1 H1) (h : PostI c m H σ R' r) : PostI c m1 H1 σ R' r := by
  cases r with
  | ok p S2 => exact fun J H2 m2 e2 => h J H2 m2 (e.trans e2)
  | ex x S2 => exact fun cls dd H2 m2 e2 => h cls dd H2 m2 (e.trans e2)
  | no => exact h
def rdI (c : Cq) (src : IX) : TI := fun σ H R' => ∃ m ρ S, RE c.K m H σ ρ ∧ RS c.K m H S ∧ PostI c m H σ R' (src ρ S)
def iL (f : EX) : IX := fun ρ S => (f ρ S).bind fun d S1 => match d with
  | .ref l => match lstAt S1 l with
    | some xs => .ok (xs, [(l, xs)]) S1
    | none => .no
  | _ => .no
def iT (f : EX) : IX := fun ρ S => (f ρ S).bind fun d S1 => match d with
  | .tup xs => .ok (xs, []) S1
  | _ => .no
def iS (f : EX) : IX := fun ρ S => (f ρ S).bind fun d S1 => match d with
  | .str x => .ok (x.cps.toList.map fun c => .str ⟨#[c]⟩, []) S1
  | _ => .no
def rng (lo : Int) (n : Nat) : List D := (List.range n).map fun i => .int (lo + (i : Nat))
def iR1 (f : EX) : IX := fun ρ S => (f ρ S).bind fun d S1 => match d with
  | .int j => if -(2 ^ 62) ≤ j ∧ j < 2 ^ 62 then .ok (rng 0 j.toNat, []) S1 else .no
  | _ => .no
def iR2 (f g : EX) : IX := fun ρ S => (f ρ S).bind fun d S1 => (g ρ S1).bind fun e S2 => match d, e with
  | .int i, .int j => if -(2 ^ 62) ≤ i ∧ i < 2 ^ 62 ∧ -(2 ^ 62) ≤ j ∧ j < 2 ^ 62 then .ok (rng i (j - i).toNat, []) S2 else .no
  | _, _ => .no
/-- reversed(..) of a list or a tuple -/
def iV (f : EX) : IX := fun ρ S => (f ρ S).bind fun d S1 => match d with
  | .ref l => match lstAt S1 l with
    | some xs => .ok (xs.reverse, [(l, xs)]) S1
    | none => .no
  | .tup xs => .ok (xs.reverse, []) S1
  | _ => .no
section
variable {X : Cx} {W : WX} {tg e a b : Expr} {f g : EX} {pos p : Pos}
theorem it_list {K : PySem.W.Frag} {m : List Addr} {H : Hp} {a : Addr} {l : Nat} {xs : List D} (h : m[l]? = some a) : ItOk K m H (Itl K a) xs [(l, xs)] := by
  intro i m' H' S e rs hk
  have q := hk (l, xs) (by simp)
  obtain ⟨vs, h1, r⟩ := rs.lst (e.at h) q
  refine ⟨fun d hd => ?_, fun hl => ⟨vs, h1, by rw [r.length]; exact hl⟩⟩
  obtain ⟨v, h2, rd⟩ := r.get hd
  refine ⟨⟨vs, v, h1, h2⟩, fun x H'' y => ?_⟩
  obtain ⟨eH, y⟩ := y
  subst eH
  have z := y vs h1
  rw [h2] at z
  cases z
  exact ⟨m', .refl, rs, rd⟩
theorem it_tup {K : PySem.W.Frag} {m : List Addr} {H : Hp} {a : Addr} {vs : List V} {xs : List D} (h : TupAt K H a vs) (r : RDs K m H vs xs) : ItOk K m H (Itt K a) xs [] := by
  intro i m' H' S e rs hk
  have h1 := (e.tup _ _ h).sq
  have r := r.mono e
  refine ⟨fun d hd => ?_, fun hl => ⟨vs, h1, by rw [r.length]; exact hl⟩⟩
  obtain ⟨v, h2, rd⟩ := r.get hd
  refine ⟨⟨vs, v, h1, h2⟩, fun x H'' y => ?_⟩
  obtain ⟨eH, y⟩ := y
  subst eH
  have z := y vs h1
  rw [h2] at z
  cases z
  exact ⟨m', .refl, rs, rd⟩
theorem it_rng {K : PySem.W.Frag} {m : List Addr} {H : Hp} {lo : Int} {n : Nat} : ItOk K m H (Itr lo n) (rng lo n) [] := by
  intro i m' H' S e rs hk
  unfold rng
  refine ⟨fun d hd => ?_, fun hl => by rw [List.length_map, List.length_range] at hl; exact hl⟩
  have hi : i < n := by have := (List.getElem?_eq_some_iff.mp hd).1; rwa [List.length_map, List.length_range] at this
  rw [List.getElem?_map, List.getElem?_range hi] at hd
  cases hd
  refine ⟨hi, fun x H'' y => ?_⟩
  obtain ⟨eH, y⟩ := y
  subst eH y
  exact ⟨m', .refl, rs, .int _⟩
theorem it_str {K : PySem.W.Frag} {m : List Addr} {H : Hp} {x : Str} : ItOk K m H (Its x) (x.cps.toList.map fun c => .str ⟨#[c]⟩) [] := by
  intro i m' H' S e rs hk
  refine ⟨fun d hd => ?_, fun hl => by rw [List.length_map, Array.length_toList] at hl; exact hl⟩
  rw [List.getElem?_map] at hd
  cases hc : x.cps.toList[i]? with
  | none => rw [hc] at hd; cases hd
  | some c =>
    rw [hc] at hd
    cases hd
    have hi : i < x.cps.size := by have := (List.getElem?_eq_some_iff.mp hc).1; rwa [Array.length_toList] at this
    refine ⟨hi, fun v H'' y => ?_⟩
    obtain ⟨eH, c', e1, y⟩ := y
    subst eH y
    rw [← Array.getElem?_toList, hc] at e1
    cases e1
    exact ⟨m', .refl, rs, .str (by show (1 : Nat) ≤ _; decide)⟩
theorem get_rev {α : Type} {xs : List α} {i : Nat} {d : α} (h : xs.reverse[i]? = some d) : i < xs.length ∧ xs[xs.length - 1 - i]? = some d := by
  have hi : i < xs.length := by have := (List.getElem?_eq_some_iff.mp h).1; rwa [List.length_reverse] at this
  rw [List.getElem?_reverse hi] at h
  exact ⟨hi, h⟩
theorem it_rev {K : PySem.W.Frag} {m : List Addr} {H : Hp} {a : Addr} {l : Nat} {xs : List D} (h : m[l]? = some a) : ItOk K m H (Itv K a xs.length) xs.reverse [(l, xs)] := by
  intro i m' H' S e rs hk
  have q := hk (l, xs) (by simp)
  obtain ⟨vs, h1, r⟩ := rs.lst (e.at h) q
  refine ⟨fun d hd => ?_, fun hl => by rw [List.length_reverse] at hl; exact hl⟩
  obtain ⟨hi, hd⟩ := get_rev hd
  obtain ⟨v, h2, rd⟩ := r.get hd
  refine ⟨⟨hi, vs, v, h1, h2⟩, fun x H'' y => ?_⟩
  obtain ⟨eH, y⟩ := y
  subst eH
  have z := y vs h1
  rw [h2] at z
  cases z
  exact ⟨m', .refl, rs, rd⟩
theorem it_revT {K : PySem.W.Frag} {m : List Addr} {H : Hp} {a : Addr} {vs : List V} {xs : List D} (h : TupAt K H a vs) (r : RDs K m H vs xs) : ItOk K m H (RT.ItvT K a xs.length) xs.reverse [] := by
  intro i m' H' S e rs hk
  have h1 := (e.tup _ _ h).sq
  have r := r.mono e
  refine ⟨fun d hd => ?_, fun hl => by rw [List.length_reverse] at hl; exact hl⟩
  obtain ⟨hi, hd⟩ := get_rev hd
  obtain ⟨v, h2, rd⟩ := r.get hd
  refine ⟨⟨hi, vs, v, h1, h2⟩, fun x H'' y => ?_⟩
  obtain ⟨eH, y⟩ := y
  subst eH
  have z := y vs h1
  rw [h2] at z
  cases z
  exact ⟨m', .refl, rs, rd⟩
/-- from an expression's outcome to what is walked -/
theorem src_bind {α : Type} {β : Type} {c : Cq} {rel : List Addr → Hp → β → α → Prop} {m : List Addr} {H : Hp} {σ : L2.St} {R' : It → Hp → Prop} {r : R α} {k : α → Store → R (List D × Chk)} (h : PostI c m H σ R' (r.bind k)) :
    Post c rel m H σ (fun b H1 => ∃ m1 a S1, Ext c.K m H m1 H1 ∧ RS c.K m1 H1 S1 ∧ rel m1 H1 b a ∧ PostI c m1 H1 σ R' (k a S1)) r := by
  cases r with
  | ok a S => exact fun b H' m' e rs rl => ⟨m', a, S, e, rs, rl, PostI.mono e h⟩
  | ex x S => exact h
  | no => exact h
theorem w_list (he : PE X e (rdE (X.cq W) f)) : PI X tg e (rdI (X.cq W) (iL f)) := PIwk (pi_list he) fun σ H R' ⟨m, ρ, S, re, rs, q⟩ =>
  ⟨m, ρ, S, re, rs, (src_bind (rel := relD (X.cq W)) q).imp fun v H1 ⟨m1, d, S1, e1, rs1, rd, q1⟩ => by
    cases rd with
    | @ref a l hl =>
      simp only at q1
      cases el : lstAt S1 l with
      | none => rw [el] at q1; exact q1.elim
      | some xs =>
        rw [el] at q1
        obtain ⟨vs, h1, r⟩ := rs1.lst hl el
        exact ⟨a, rfl, ⟨vs, h1⟩, q1 _ _ m1 .refl rs1 (it_list hl)⟩
    | _ => exact q1.elim⟩
theorem w_tup (he : PE X e (rdE (X.cq W) f)) : PI X tg e (rdI (X.cq W) (iT f)) := PIwk (pi_tup he) fun σ H R' ⟨m, ρ, S, re, rs, q⟩ =>
  ⟨m, ρ, S, re, rs, (src_bind (rel := relD (X.cq W)) q).imp fun v H1 ⟨m1, d, S1, e1, rs1, rd, q1⟩ => by
    cases rd with
    | @tup a vs ds ht r => exact ⟨a, rfl, ⟨vs, ht.sq⟩, q1 _ _ m1 .refl rs1 (it_tup ht r)⟩
    | _ => exact q1.elim⟩
theorem w_str (he : PE X e (rdE (X.cq W) f)) : PI X tg e (rdI (X.cq W) (iS f)) := PIwk (pi_str he) fun σ H R' ⟨m, ρ, S, re, rs, q⟩ =>
  ⟨m, ρ, S, re, rs, (src_bind (rel := relD (X.cq W)) q).imp fun v H1 ⟨m1, d, S1, e1, rs1, rd, q1⟩ => by
    cases rd with
    | str h => exact ⟨_, rfl, q1 _ _ m1 .refl rs1 it_str⟩
    | _ => exact q1.elim⟩
theorem w_rng1 (hg : Gl X "range") (hm : X.mg "range" = none) (ha : PE X a (rdE (X.cq W) f)) (hs : starEach [a] X.env = [(false, eval a X.env)] := by rfl) (hs2 : starEach [a] X.env = (false, eval a X.env) :: starEach [] X.env := by rfl) : PI X tg (.Call (.Name "range" p) [a] [] pos) (rdI (X.cq W) (iR1 f)) :=
  PIwk (pi_range1 hg hm (pa_cons ha pa_nil hs2) hs) fun σ H R' ⟨m, ρ, S, re, rs, q⟩ => ⟨m, ρ, S, re, rs, (src_bind (rel := relD (X.cq W)) q).imp fun v H1 ⟨m1, d, S1, e1, rs1, rd, q1⟩ => by
    cases rd with
    | int j =>
      simp only at q1
      split at q1
      · rename_i hz
        exact ⟨j, rfl, hz.1, hz.2, q1 _ _ m1 .refl rs1 it_rng⟩
      · exact q1.elim
    | _ => exact q1.elim⟩
theorem w_rng2 (hg : Gl X "range") (hm : X.mg "range" = none) (ha : PE X a (rdE (X.cq W) f)) (hb : PE X b (rdE (X.cq W) g)) (hs : starEach [a, b] X.env = [(false, eval a X.env), (false, eval b X.env)] := by rfl) (hs2 : starEach [b] X.env = [(false, eval b X.env)] := by rfl) (hs4 : starEach [b] X.env = (false, eval b X.env) :: starEach [] X.env := by rfl)
    (hs3 : starEach [a, b] X.env = (false, eval a X.env) :: starEach [b] X.env := by rfl) : PI X tg (.Call (.Name "range" p) [a, b] [] pos) (rdI (X.cq W) (iR2 f g)) :=
  PIwk (pi_range2 hg hm (pa_cons ha (pa_cons hb pa_nil hs4) hs3) hs hs2) fun σ H R' ⟨m, ρ, S, re, rs, q⟩ => ⟨m, ρ, S, re, rs, (src_bind (rel := relD (X.cq W)) q).imp fun v H1 ⟨m1, d, S1, e1, rs1, rd, q1⟩ =>
    ⟨m1, ρ, S1, re.mono e1, rs1, (src_bind (rel := relD (X.cq W)) q1).imp fun u H2 ⟨m2, d2, S2, e2, rs2, rd2, q2⟩ => by
      cases rd with
      | int i =>
        cases rd2 with
        | int j =>
          simp only at q2
          split at q2
          · rename_i hz
            exact ⟨i, j, rfl, hz, q2 _ _ m2 .refl rs2 it_rng⟩
          · exact q2.elim
        | _ => exact q2.elim
      | _ => cases rd2 <;> exact q2.elim⟩⟩
theorem w_rev (hg : Gl X "reversed") (hm : X.mg "reversed" = none) (ha : PE X a (rdE (X.cq W) f)) (hs : starEach [a] X.env = (false, eval a X.env) :: starEach [] X.env := by rfl) : PI X tg (.Call (.Name "reversed" p) [a] [] pos) (rdI (X.cq W) (iV f)) :=
  PIwk (RT.pi_revA hg hm ha hs) fun σ H R' ⟨m, ρ, S, re, rs, q⟩ => ⟨m, ρ, S, re, rs, (src_bind (rel := relD (X.cq W)) q).imp fun v H1 ⟨m1, d, S1, e1, rs1, rd, q1⟩ => by
    cases rd with
    | @ref a l hl =>
      simp only at q1
      cases el : lstAt S1 l with
      | none => rw [el] at q1; exact q1.elim
      | some xs =>
        rw [el] at q1
        obtain ⟨vs, h1, r⟩ := rs1.lst hl el
        exact ⟨a, vs, rfl, .inl ⟨h1, by rw [r.length]; exact q1 _ _ m1 .refl rs1 (it_rev hl)⟩⟩
    | @tup a vs ds ht r => exact ⟨a, vs, rfl, .inr ⟨ht.sq, by rw [r.length]; exact q1 _ _ m1 .refl rs1 (it_revT ht r)⟩⟩
    | _ => exact q1.elim⟩
end

/-! ## for, while -/
open Classical in
noncomputable def runF (tg : D → SX) (body : SX) (k : Chk) : List D → Env → Store → Out
  | [], ρ, S => if chkOk k S then .nx ρ S else .no
  | d :: ds, ρ, S => if chkOk k S then (match tgO (tg d ρ S) with
    | .nx ρ1 S1 => match body ρ1 S1 with
      | .nx ρ2 S2 => runF tg body k ds ρ2 S2
      | .ct ρ2 S2 => runF tg body k ds ρ2 S2
      | .bk ρ2 S2 => .nx ρ2 S2
      | o => o
    | o => o) else .no
noncomputable def sF (src : IX) (tg : D → SX) (body : SX) : SX := fun ρ S => (src ρ S).out ρ fun p S1 => runF tg body p.2 p.1 ρ S1
def runW (t : TX) (body : SX) : Nat → Env → Store → Out
  | 0, _, _ => .no
  | n + 1, ρ, S => (t ρ S).out ρ fun b S1 => if b then (match body ρ S1 with
      | .nx ρ2 S2 => runW t body n ρ2 S2
      | .ct ρ2 S2 => runW t body n ρ2 S2
      | .bk ρ2 S2 => .nx ρ2 S2
      | o => o) else .nx ρ S1
def sW (n : Nat) (t : TX) (body : SX) : SX := fun ρ S => runW t body n ρ S
section
variable {X : Cx} {W : WX} {tg iter t : Expr} {body : List Stmt} {src : IX} {G : D → SX} {g : SX} {ft : TX} {pos : Pos}
theorem t_for (hp : PassesOwn (model X.prog X.w) X.A X.env X.xe) (hc : X.calm = true) (hi : PI X tg iter (rdI (X.cq W) src)) (hg : PG X tg (rdG (X.cq W) G)) (hb : PSs X body (rdS (X.cq W) g))
    (hs : ∀ x, foldedSetIterable iter X.env x = pure x := by intro _; rfl) : PS X (.For tg iter body [] pos) (rdS (X.cq W) (sF src G g)) := PSwk (ps_for hp hc hi hg hb hs) fun Dn σ H ⟨m, ρ, S, re, rs, q⟩ => by
  refine ⟨m, ρ, S, re, rs, ?_⟩
  have q : PostS (X.cq W) m H Dn ((src ρ S).out ρ fun p S1 => runF G g p.2 p.1 ρ S1) := q
  cases es : src ρ S with
  | no => rw [es] at q; exact q.elim
  | ex x S' => rw [es] at q; exact fun cls dd H' m' e rs' rx => q cls dd σ H' m' e (re.mono e) rs' rx
  | ok p S' =>
    obtain ⟨xs, k⟩ := p
    rw [es] at q
    have q : PostS (X.cq W) m H Dn (runF G g k xs ρ S') := q
    intro J H1 m1 e1 rs1 it
    refine ⟨fun i n σ' H' => ∃ mm ρ' S', Ext X.K m1 H1 mm H' ∧ RE X.K mm H' σ' ρ' ∧ RS X.K mm H' S' ∧ n = xs.length - i ∧ i ≤ xs.length ∧ PostS (X.cq W) mm H' Dn (runF G g k (xs.drop i) ρ' S'),
      ⟨xs.length, m1, ρ, S', .refl, re.mono e1, rs1, by simp, Nat.zero_le _, by simpa using PostS.mono e1 q⟩, ?_⟩
    rintro i n σ' H' ⟨mm, ρ', S', e2, re2, rs2, rfl, hi, q2⟩
    by_cases hlt : i < xs.length
    · rw [List.drop_eq_getElem_cons hlt] at q2
      unfold runF at q2
      split at q2
      · rename_i hk
        obtain ⟨go, yl⟩ := (it i mm H' S' e2 rs2 hk).1 xs[i] (List.getElem?_eq_getElem hlt)
        refine .inr ⟨go, fun σ3 H3 => ∃ mm ρ' S', Ext X.K m1 H1 mm H3 ∧ RE X.K mm H3 σ3 ρ' ∧ RS X.K mm H3 S' ∧ PostS (X.cq W) mm H3 Dn (runF G g k (xs.drop (i + 1)) ρ' S'), fun σ3 H3 ⟨mm3, ρ3, S3, e3, re3, rs3, q3⟩ => ⟨xs.length - (i + 1), by omega, mm3, ρ3, S3, e3, re3, rs3, rfl, hlt, q3⟩, fun x H4 y => ?_⟩
        obtain ⟨m4, e4, rs4, rd4⟩ := yl x H4 y
        have q2 := PostS.mono e4 q2
        refine ⟨m4, ρ', S', xs[i], re2.mono e4, rs4, rd4, ?_⟩
        cases eo : G xs[i] ρ' S' with
        | nx ρ5 S5 =>
          rw [eo] at q2
          intro σ5 H5 m5 e5 re5 rs5
          have q2 : PostS (X.cq W) m5 H5 Dn (match g ρ5 S5 with
            | .nx ρ2 S2 => runF G g k (xs.drop (i + 1)) ρ2 S2
            | .ct ρ2 S2 => runF G g k (xs.drop (i + 1)) ρ2 S2
            | .bk ρ2 S2 => .nx ρ2 S2
            | o => o) := PostS.mono e5 q2
          refine ⟨m5, ρ5, S5, re5, rs5, ?_⟩
          have e15 : Ext X.K m1 H1 m5 H5 := (e2.trans e4).trans e5
          cases eb : g ρ5 S5 with
          | nx ρ6 S6 => rw [eb] at q2; exact fun σ6 H6 m6 e6 re6 rs6 => ⟨m6, ρ6, S6, e15.trans e6, re6, rs6, PostS.mono e6 q2⟩
          | ct ρ6 S6 => rw [eb] at q2; exact fun σ6 H6 m6 e6 re6 rs6 => ⟨m6, ρ6, S6, e15.trans e6, re6, rs6, PostS.mono e6 q2⟩
          | bk ρ6 S6 => rw [eb] at q2; exact q2
          | rt d S6 => rw [eb] at q2; exact q2
          | ex x ρ6 S6 => rw [eb] at q2; exact q2
          | no => rw [eb] at q2; exact q2
        | ex x ρ5 S5 => rw [eo] at q2; exact q2
        | _ => rw [eo] at q2; exact q2.elim
      · exact q2.elim
    · have hz : i = xs.length := by omega
      subst hz
      rw [List.drop_length] at q2
      unfold runF at q2
      split at q2
      · rename_i hk
        exact .inl ⟨(it xs.length mm H' S' e2 rs2 hk).2 (Nat.le_refl _), q2 σ' H' mm .refl re2 rs2⟩
      · exact q2.elim
theorem t_while (n : Nat) (hp : PassesOwn (model X.prog X.w) X.A X.env X.xe) (ht : PT X t (rdT (X.cq W) ft)) (hb : PSs X body (rdS (X.cq W) g)) : PS X (.While t body [] pos) (rdS (X.cq W) (sW n ft g)) := PSwk (ps_while hp ht hb) fun Dn σ H ⟨m, ρ, S, re, rs, q⟩ => by
  refine ⟨fun i σ' H' => ∃ mm ρ' S', RE X.K mm H' σ' ρ' ∧ RS X.K mm H' S' ∧ PostS (X.cq W) mm H' Dn (runW ft g i ρ' S'), ⟨n, m, ρ, S, re, rs, q⟩, ?_⟩
  rintro i σ' H' ⟨mm, ρ', S', re', rs', q'⟩
  cases i with
  | zero => exact q'.elim
  | succ i =>
    refine ⟨mm, ρ', S', re', rs', (Post.out (rel := relB) re' q').imp fun b H1 ⟨m1, b', S1, e1, rs1, eb, re1, q1⟩ => ?_⟩
    subst eb
    cases b with
    | false => rw [if_neg Bool.false_ne_true] at q1 ⊢; exact q1 σ' H1 m1 .refl re1 rs1
    | true =>
      rw [if_pos rfl] at q1 ⊢
      refine ⟨fun σ3 H3 => ∃ mm ρ' S', RE X.K mm H3 σ3 ρ' ∧ RS X.K mm H3 S' ∧ PostS (X.cq W) mm H3 Dn (runW ft g i ρ' S'), fun σ3 H3 h => ⟨i, Nat.lt_succ_self _, h⟩, m1, ρ', S1, re1, rs1, ?_⟩
      cases eb : g ρ' S1 with
      | nx ρ6 S6 => rw [eb] at q1; exact fun σ6 H6 m6 e6 re6 rs6 => ⟨m6, ρ6, S6, re6, rs6, PostS.mono e6 q1⟩
      | ct ρ6 S6 => rw [eb] at q1; exact fun σ6 H6 m6 e6 re6 rs6 => ⟨m6, ρ6, S6, re6, rs6, PostS.mono e6 q1⟩
      | bk ρ6 S6 => rw [eb] at q1; exact q1
      | rt d S6 => rw [eb] at q1; exact q1
      | ex x ρ6 S6 => rw [eb] at q1; exact q1
      | no => rw [eb] at q1; exact q1
end
end Dl

set_option Elab.async false
set_option linter.all false
set_option maxRecDepth 100000
namespace Dl
open PySem PySem.Spec PyProof.Rows L2

/-! ## list comprehensions: the target is names -/
/-- the slots of a comprehension's target: one name, or several -/
inductive Cg where
  | one (j : Nat) | many (js : List Nat)
def setsD (ρ : Env) : List Nat → List D → Env
  | j :: js, d :: ds => setsD (ρ.set j (some d)) js ds
  | _, _ => ρ
def Cg.put : Cg → D → Env → Option Env
  | .one j, d, ρ => some (ρ.set j (some d))
  | .many js, .tup ds, ρ => if ds.length = js.length then some (setsD ρ js ds) else none
  | _, _, _ => none
def Cg.slots : Cg → List Nat
  | .one j => [j]
  | .many js => js
def gNs : List Nat → TGs
  | [] => gNil
  | j :: js => gCons (gName j) (gNs js)
def Cg.tg (K : PySem.W.Frag) : Cg → TG
  | .one j => gName j
  | .many js => L2.gTup K js.length (gNs js)
open Classical in
noncomputable def runC (l : Nat) (ρ : Env) (g : Cg) (ft : TX) (fe : EX) (k : Chk) : List D → Store → R D
  | [], S => if chkOk k S then .ok (.ref l) S else .no
  | d :: ds, S => if chkOk k S then (match g.put d ρ with
    | some ρ1 => match ft ρ1 S with
      | .ok true S2 => match fe ρ1 S2 with
        | .ok e S3 => match S3[l]? with
          | some (.lst acc) => if acc.length < LIM then runC l ρ g ft fe k ds (S3.set l (.lst (acc ++ [e]))) else .no
          | _ => .no
        | _ => .no
      | .ok false S2 => runC l ρ g ft fe k ds S2
      | _ => .no
    | none => .no) else .no
/-- [elt for .. in .. if ..] -/
noncomputable def eLc (vs : List Nat) (src : IX) (g : Cg) (ft : TX) (fe : EX) : EX := fun ρ S => (src ρ S).bind fun p S1 => runC S1.length (wipeD ρ vs) g ft fe p.2 p.1 (S1 ++ [.lst []])
def tYesD : TX := fun _ S => .ok true S
section
theorem wipe_get {σ : L2.St} : ∀ {vs : List Nat} {i : Nat}, i ∈ vs → i < σ.length → (wipe σ vs)[i]? = some none
  | v :: vs, i, h, hl => by
    unfold wipe
    by_cases e : v = i
    · subst e
      exact List.getElem?_set_self (by rw [wipe_length]; exact hl)
    · rw [List.getElem?_set_ne e]
      rcases List.mem_cons.mp h with z | z
      · exact absurd z.symm e
      · exact wipe_get z hl
theorem wipe_out {σ : L2.St} : ∀ {vs : List Nat} {i : Nat}, i ∉ vs → (wipe σ vs)[i]? = σ[i]?
  | [], _, _ => rfl
  | v :: vs, i, h => by
    unfold wipe
    have e : v ≠ i := fun z => h (by simp [z])
    rw [List.getElem?_set_ne e]
    exact wipe_out fun z => h (List.mem_cons_of_mem _ z)
/-- slots among vs do not count -/
theorem wipe_same {σ σ' : L2.St} {vs : List Nat} (hl : σ'.length = σ.length) (h : ∀ i, i ∉ vs → σ'[i]? = σ[i]?) : wipe σ' vs = wipe σ vs := by
  apply List.ext_getElem?
  intro i
  by_cases hi : i ∈ vs
  · by_cases hz : i < σ.length
    · rw [wipe_get hi hz, wipe_get hi (by omega)]
    · rw [List.getElem?_eq_none (by rw [wipe_length]; omega), List.getElem?_eq_none (by rw [wipe_length]; omega)]
  · rw [wipe_out hi, wipe_out hi, h i hi]
def setsV (σ : L2.St) : List Nat → List V → L2.St
  | j :: js, v :: vs => setsV (σ.set j (some v)) js vs
  | _, _ => σ
theorem setsV_length : ∀ {js : List Nat} {ws : List V} {σ : L2.St}, (setsV σ js ws).length = σ.length
  | [], _, _ => rfl
  | _ :: _, [], _ => rfl
  | j :: js, w :: ws, σ => by
    show (setsV (σ.set j (some w)) js ws).length = _
    rw [setsV_length, List.length_set]
theorem setsV_out : ∀ {js : List Nat} {ws : List V} {σ : L2.St} {i : Nat}, i ∉ js → (setsV σ js ws)[i]? = σ[i]?
  | [], _, _, _, _ => rfl
  | _ :: _, [], _, _, _ => rfl
  | j :: js, w :: ws, σ, i, h => by
    show (setsV (σ.set j (some w)) js ws)[i]? = _
    rw [setsV_out fun z => h (List.mem_cons_of_mem _ z), List.getElem?_set_ne fun z => h (by simp [z])]
theorem RE.sets {K : PySem.W.Frag} {m : List Addr} {H : Hp} : ∀ {js : List Nat} {ws : List V} {ds : List D} {σ : L2.St} {ρ : Env}, RE K m H σ ρ → RDs K m H ws ds → RE K m H (setsV σ js ws) (setsD ρ js ds)
  | [], _, _, _, _, re, .nil => re
  | [], _, _, _, _, re, .cons _ _ => re
  | _ :: _, _, _, _, _, re, .nil => re
  | j :: js, _, _, _, _, re, .cons h t => by
    have q := RE.sets (js := js) (re.set h j) t
    exact q
theorem gNs_of {js : List Nat} : ∀ {ws : List V} {σ : L2.St} {H : Hp} {Q : L2.St → Hp → Prop}, ws.length = js.length → Q (setsV σ js ws) H → gNs js ws σ H Q := by
  induction js with
  | nil =>
    intro ws σ H Q hl q
    cases ws with
    | nil => exact ⟨rfl, q⟩
    | cons _ _ => cases hl
  | cons j js ih =>
    intro ws σ H Q hl q
    cases ws with
    | nil => cases hl
    | cons w ws => exact ⟨w, ws, rfl, ih (Nat.succ.inj hl) q⟩
theorem cg_of {K : PySem.W.Frag} {m : List Addr} {H : Hp} {g : Cg} {v : V} {d : D} {σ : L2.St} {ρ ρ1 : Env} {vs : List Nat} (hs : ∀ j ∈ g.slots, j ∈ vs) (re : RE K m H σ ρ) (rd : RD K m H v d) (hp : g.put d ρ = some ρ1) {Q : L2.St → Hp → Prop}
    (q : ∀ σ1, RE K m H σ1 ρ1 → wipe σ1 vs = wipe σ vs → Q σ1 H) : g.tg K v σ H Q := by
  cases g with
  | one j =>
    cases hp
    refine q _ (re.set rd j) (wipe_same (List.length_set ..) fun i hi => List.getElem?_set_ne fun z => hi (hs i ?_))
    rw [z]
    exact List.mem_singleton.mpr rfl
  | many js =>
    cases rd with
    | @tup a ws ds ht r =>
      have hp : (if ds.length = js.length then some (setsD ρ js ds) else none) = some ρ1 := hp
      split at hp
      · rename_i hz
        cases hp
        refine ⟨a, ws, rfl, ht.sq, by rw [r.length]; exact hz, gNs_of (by rw [r.length]; exact hz) (q _ (re.sets r) (wipe_same setsV_length fun i hi => setsV_out fun z => hi (hs i z)))⟩
      · cases hp
    | _ => cases hp
variable {X : Cx} {W : WX}
theorem lc_read {src : IX} {g : Cg} {ft : TX} {fe : EX} {vs : List Nat} (hs : ∀ j ∈ g.slots, j ∈ vs) (σ : L2.St) (H : Hp) (Q : VK) (h : rdE (X.cq W) (eLc vs src g ft fe) σ H Q) :
    tLc (rdI (X.cq W) src) (g.tg X.K) (rdT (X.cq W0) ft) (rdE (X.cq W0) fe) vs σ H Q := by
  obtain ⟨m, ρ, S, re, rs, h⟩ := h
  refine ⟨m, ρ, S, re, rs, ?_⟩
  have h : Post (X.cq W) (relD (X.cq W)) m H σ Q ((src ρ S).bind fun p S1 => runC S1.length (wipeD ρ vs) g ft fe p.2 p.1 (S1 ++ [.lst []])) := h
  cases es : src ρ S with
  | no => rw [es] at h; exact h.elim
  | ex x S' => rw [es] at h; exact h
  | ok p S' =>
    obtain ⟨xs, k⟩ := p
    rw [es] at h
    intro J H1 m1 e1 rs1 it D hD
    have h : Post (X.cq W) (relD (X.cq W)) m1 H1 σ Q (runC S'.length (wipeD ρ vs) g ft fe k xs (S' ++ [.lst []])) := Post.mono e1 h
    obtain ⟨e2, rs2⟩ := rs1.push (o := .lst []) (c := .lst []) hD fun m' e' => ⟨[], upd_same, .nil⟩
    have hl : (m1 ++ [D])[S'.length]? = some D := by
      rw [← rs1.len, List.getElem?_append_right (Nat.le_refl _), Nat.sub_self]
      rfl
    have re0 := re.mono e1
    refine ⟨fun i n H' => ∃ mm S2, Ext X.K m1 H1 mm H' ∧ RS X.K mm H' S2 ∧ mm[S'.length]? = some D ∧ n = xs.length - i ∧ i ≤ xs.length ∧ Post (X.cq W) (relD (X.cq W)) mm H' σ Q (runC S'.length (wipeD ρ vs) g ft fe k (xs.drop i) S2),
      ⟨xs.length, m1 ++ [D], S' ++ [.lst []], e2, rs2, hl, by simp, Nat.zero_le _, by simpa using Post.mono e2 h⟩, ?_⟩
    rintro i n H' ⟨mm, S2, e3, rs3, hl3, rfl, hi, h3⟩
    by_cases hlt : i < xs.length
    · rw [List.drop_eq_getElem_cons hlt] at h3
      unfold runC at h3
      split at h3
      · rename_i hk
        obtain ⟨go, yl⟩ := (it i mm H' S2 e3 rs3 hk).1 xs[i] (List.getElem?_eq_getElem hlt)
        refine .inr ⟨go, fun H3 => ∃ mm S3, Ext X.K m1 H1 mm H3 ∧ RS X.K mm H3 S3 ∧ mm[S'.length]? = some D ∧ Post (X.cq W) (relD (X.cq W)) mm H3 σ Q (runC S'.length (wipeD ρ vs) g ft fe k (xs.drop (i + 1)) S3),
          fun H3 ⟨mm3, S3, a1, a2, a3, a4⟩ => ⟨xs.length - (i + 1), by omega, mm3, S3, a1, a2, a3, rfl, hlt, a4⟩, fun x H4 y => ?_⟩
        obtain ⟨m4, e4, rs4, rd4⟩ := yl x H4 y
        have h3 := Post.mono e4 h3
        cases hp : g.put xs[i] (wipeD ρ vs) with
        | none => rw [hp] at h3; exact h3.elim
        | some ρ1 =>
          rw [hp] at h3
          simp only at h3
          have re4 : RE X.K m4 H4 (wipe σ vs) (wipeD ρ vs) := ((re0.mono e3).mono e4).wipe vs
          refine cg_of hs re4 rd4 hp fun σ1 re1 hw => ⟨by rw [hw]; exact wipe_same (wipe_length σ vs) fun i hi => wipe_out hi, m4, ρ1, S2, re1, rs4, ?_⟩
          cases et : ft ρ1 S2 with
          | no => rw [et] at h3; exact h3.elim
          | ex x S5 => rw [et] at h3; exact h3.elim
          | ok b S5 =>
            rw [et] at h3
            intro b' H5 m5 e5 rs5 eb
            subst eb
            have h3 := Post.mono (c := X.cq W) e5 h3
            have e15 := (e3.trans e4).trans e5
            cases b' with
            | false =>
              rw [if_neg Bool.false_ne_true]
              exact ⟨m5, S5, e15, rs5, e5.at (e4.at hl3), h3⟩
            | true =>
              rw [if_pos rfl]
              simp only at h3
              refine ⟨m5, ρ1, S5, re1.mono e5, rs5, ?_⟩
              cases ee : fe ρ1 S5 with
              | no => rw [ee] at h3; exact h3.elim
              | ex x S6 => rw [ee] at h3; exact h3.elim
              | ok d S6 =>
                rw [ee] at h3
                simp only at h3
                intro v H6 m6 e6 rs6 rd6
                have h3 := Post.mono (c := X.cq W) e6 h3
                have hl6 := e6.at (e5.at (e4.at hl3))
                split at h3
                · rename_i acc ea
                  split at h3
                  · rename_i hz
                    obtain ⟨ws, hw, rw'⟩ := rs6.wlst hl6 ea
                    obtain ⟨e7, rs7⟩ := rs6.write (o := .lst (ws ++ [v])) (c' := .lst (acc ++ [d])) hl6 ea rfl rfl fun ex => ⟨_, upd_same, (rw'.mono ex).append (.one (rd6.mono ex))⟩
                    exact ⟨ws, hw, by rw [rw'.length, ← lim_eq]; exact hz, m6, _, (e15.trans e6).trans e7, rs7, hl6, Post.mono (c := X.cq W) e7 h3⟩
                  · exact h3.elim
                · exact h3.elim
      · exact h3.elim
    · have hz : i = xs.length := by omega
      subst hz
      rw [List.drop_length] at h3
      unfold runC at h3
      split at h3
      · rename_i hk
        exact .inl ⟨(it xs.length mm H' S2 e3 rs3 hk).2 (Nat.le_refl _), h3 _ _ mm .refl rs3 (.ref hl3)⟩
      · exact h3.elim
variable {elt tg iter : Expr} {ifs : List Expr} {scope : Scope} {own : List (Str × Nat)} {pos : Pos} {src : IX} {g : Cg} {ft : TX} {fe : EX}
theorem d_lc (hc : X.calm = true) (hN : X.N.Nodup) (hi : PI X tg iter (rdI (X.cq W) src)) (ok : BlkOk X.N X.env.scope scope own) (hsl : ∀ j ∈ g.slots, j ∈ own.map (·.2))
    (hg : ∀ (s : Shared) (H : Hp) (C : Addr) (cl : List (Str × Addr)) (fp : List Addr), PG (X.blk s H scope (compEnvC scope cl C X.env) fp) tg (g.tg X.K)) (ht : ∀ (s : Shared) (H : Hp) (C : Addr) (cl : List (Str × Addr)) (fp : List Addr), PTs (X.blk s H scope (compEnvC scope cl C X.env) fp) ifs (rdT (X.cq W0) ft))
    (he : ∀ (s : Shared) (H : Hp) (C : Addr) (cl : List (Str × Addr)) (fp : List Addr), PE (X.blk s H scope (compEnvC scope cl C X.env) fp) elt (rdE (X.cq W0) fe)) (hs : ∀ x, foldedSetIterable iter X.env x = pure x := by intro _; rfl) :
    PE X (.ListComp elt [⟨tg, iter, ifs, 0⟩] scope pos) (rdE (X.cq W) (eLc (own.map (·.2)) src g ft fe)) := PEwk (pe_lc hc hN hi ok hg ht he hs) (lc_read hsl)
theorem t_setLc {i : Nat} {y : Str} {py spos : Pos} (hc : X.calm = true) (hN : X.N.Nodup) (hy : X.N[i]? = some y) (hyl : X.env.scope.names.lookup y = some .local)
    (hsw : swapsWith (.ListComp elt [⟨tg, iter, ifs, 0⟩] scope pos) (some (.Name y py)) spos.line X.env = pure true) (hi : PI X tg iter (rdI (X.cq W) src)) (ok : BlkOk X.N X.env.scope scope own) (hsl : ∀ j ∈ g.slots, j ∈ own.map (·.2))
    (hg : ∀ (s : Shared) (H : Hp) (C : Addr) (cl : List (Str × Addr)) (fp : List Addr), PG (X.blk s H scope (compEnvC scope cl C X.env) fp) tg (g.tg X.K)) (ht : ∀ (s : Shared) (H : Hp) (C : Addr) (cl : List (Str × Addr)) (fp : List Addr), PTs (X.blk s H scope (compEnvC scope cl C X.env) fp) ifs (rdT (X.cq W0) ft))
    (he : ∀ (s : Shared) (H : Hp) (C : Addr) (cl : List (Str × Addr)) (fp : List Addr), PE (X.blk s H scope (compEnvC scope cl C X.env) fp) elt (rdE (X.cq W0) fe)) (hs : ∀ x, foldedSetIterable iter X.env x = pure x := by intro _; rfl) :
    PS X (.Assign [.Name y py] (.ListComp elt [⟨tg, iter, ifs, 0⟩] scope pos) spos) (rdS (X.cq W) (sN i (eLc (own.map (·.2)) src g ft fe))) := PSwk (ps_setLc (i := i) hc hN hy hyl hsw hi ok hg ht he hs) fun Dn σ H ⟨m, ρ, S, re, rs, q⟩ =>
  lc_read hsl σ H _ ⟨m, ρ, S, re, rs, (Post.out (rel := relD (X.cq W)) re q).imp fun v H1 ⟨m1, d, S1, e1, rs1, rd, re1, q1⟩ => q1 _ H1 m1 .refl (re1.set rd i) rs1⟩
theorem u_nil : PTs X [] (rdT (X.cq W) tYesD) := ⟨fun pins s σ H Q I ⟨m, ρ, S, re, rs, h⟩ => pts_nil.run pins s σ H Q I (h _ H m .refl rs rfl)⟩
theorem u_one {c : Expr} (h : PT X c (rdT (X.cq W) ft)) : PTs X [c] (rdT (X.cq W) ft) := pts_one h
theorem v_one {j : Nat} {x : Str} (hN : X.N.Nodup) (hi : X.N[j]? = some x := by rfl) (hx : Loc X.env.scope x := by first | exact .inl rfl | exact .inr rfl) (hf : X.fn x = true ∨ X.env.scope.names.lookup x = some .local := by first | exact .inl rfl | exact .inr rfl) :
    PG X (.Name x pos) ((Cg.one j).tg X.K) := pg_name hN hi hx hf
theorem v_nil : PGs X [] (gNs []) := pgs_nil
theorem v_cons {j : Nat} {js : List Nat} {e : Expr} {es : List Expr} (h1 : PG X e (gName j)) (h2 : PGs X es (gNs js)) (hs : (assignEach (e :: es) X.env).map (·.2) = assign e X.env :: (assignEach es X.env).map (·.2) := by rfl) : PGs X (e :: es) (gNs (j :: js)) := pgs_cons h1 h2 hs
theorem v_many {js : List Nat} {es : List Expr} {k : Nat} (hc : X.calm = true) (h : PGs X es (gNs js)) (hn : (assignEach es X.env).length = js.length := by rfl) (hst : (assignEach es X.env).findIdx? (·.1) = none := by rfl) :
    PG X (.Tuple es k pos) ((Cg.many js).tg X.K) := pg_tup hc h hn hst
end
end Dl

set_option Elab.async false
set_option linter.all false
set_option maxRecDepth 100000
namespace Dl
open PySem PySem.Spec PyProof.Rows L2

/-! ## what a def leaves: new cells that nobody knows are forgotten -/
mutual
def D.wf (n : Nat) : D → Bool
  | .tup xs => wfs n xs
  | .ref l => decide (l < n)
  | _ => true
def wfs (n : Nat) : List D → Bool
  | [] => true
  | x :: xs => x.wf n && wfs n xs
end
def Cell.wf (n : Nat) : Cell → Bool
  | .lst xs => wfs n xs
  | .rol xs => wfs n xs
  | .dic kvs => wfs n (kvs.map (·.2))
  | .gone => true
def SWf (n : Nat) (S : Store) : Bool := S.all (Cell.wf n)
def newCell (n : Nat) : Option Cell → Option Cell
  | some (.lst xs) => if wfs n xs then some (.lst xs) else none
  | some (.dic kvs) => if wfs n (kvs.map (·.2)) then some (.dic kvs) else none
  | _ => none
def cmp (n : Nat) (d : D) (S' : Store) : R D :=
  if SWf n (S'.take n) then
    if d.wf n then .ok d (S'.take n)
    else match d with
      | .ref l => match newCell n (S'[l]?) with
        | some c => .ok (.ref n) (S'.take n ++ [c])
        | none => .ok d S'
      | _ => .ok d S'
  else .ok d S'
def runB (np ns : Nat) (g : SX) (ds : List D) (S : Store) : R D := if ds.length = np then (match g (ds.map some ++ List.replicate (ns - np) none) S with
  | .rt d S' => cmp S.length d S'
  | .nx _ S' => cmp S.length .non S'
  | .ex x _ S' => .ex x S'
  | _ => .no) else .no
section
variable {K : PySem.W.Frag} {m r : List Addr} {H : Hp}
mutual
theorem RD.low : ∀ {v : V} {d : D}, RD K (m ++ r) H v d → d.wf m.length = true → RD K m H v d
  | _, _, .non, _ => .non
  | _, _, .bl b, _ => .bl b
  | _, _, .int b, _ => .int b
  | _, _, .str h, _ => .str h
  | _, _, .tup h t, w => .tup h (RDs.low t w)
  | _, _, .ref h, w => .ref (by
      have w' := of_decide_eq_true w
      rwa [List.getElem?_append_left w'] at h)
  | _, _, .raw v, _ => .raw v
theorem RDs.low : ∀ {vs : List V} {ds : List D}, RDs K (m ++ r) H vs ds → wfs m.length ds = true → RDs K m H vs ds
  | _, _, .nil, _ => .nil
  | _, _, .cons h t, w => by
    have w' := Bool.and_eq_true_iff.mp w
    exact .cons (RD.low h w'.1) (RDs.low t w'.2)
end
theorem CellOk.low {a : Addr} {c : Cell} (h : CellOk K (m ++ r) H a c) (w : c.wf m.length = true) : CellOk K m H a c := by
  cases c with
  | lst xs => obtain ⟨vs, h1, h2⟩ := h; exact ⟨vs, h1, h2.low w⟩
  | rol xs => obtain ⟨vs, h1, h2⟩ := h; exact ⟨vs, h1, h2.low w⟩
  | dic kvs => obtain ⟨vs, h1, h2, h3⟩ := h; exact ⟨vs, h1, h2, h3.low w⟩
  | gone => trivial
theorem RS.low {S : Store} (h : RS K (m ++ r) H S) (w : SWf m.length (S.take m.length) = true) : RS K m H (S.take m.length) := by
  have hl := h.len
  rw [List.length_append] at hl
  have gm : ∀ {l : Nat} {a : Addr}, m[l]? = some a → (m ++ r)[l]? = some a := fun {l a} e => by
    rw [List.getElem?_append_left (List.getElem?_eq_some_iff.mp e).1]
    exact e
  have gS : ∀ {l : Nat} {c : Cell}, (S.take m.length)[l]? = some c → S[l]? = some c := fun {l c} e => by
    have z := (List.getElem?_eq_some_iff.mp e).1
    rw [List.length_take] at z
    rwa [List.getElem?_take_of_lt (by omega)] at e
  refine ⟨by rw [List.length_take]; omega, fun {l a c} h1 h2 => (h.at_ (gm h1) (gS h2)).low (List.all_eq_true.mp w c (List.mem_of_getElem? h2)), fun h1 h2 h3 h4 h5 h6 => h.inj (gm h1) (gm h2) (gS h3) (gS h4) h5 h6⟩
theorem newCell_mut {n : Nat} {o : Option Cell} {c : Cell} (h : newCell n o = some c) : o = some c ∧ c.wf n = true := by
  unfold newCell at h
  split at h
  · split at h
    · cases h; exact ⟨rfl, ‹_›⟩
    · cases h
  · split at h
    · cases h; exact ⟨rfl, ‹_›⟩
    · cases h
  · cases h
/-- new at the end -/
theorem RS.last {S : Store} {l : Nat} {a : Addr} {c : Cell} (h : RS K (m ++ r) H S) (w : SWf m.length (S.take m.length) = true) (hn : m.length ≤ l) (hl : (m ++ r)[l]? = some a) (hc : S[l]? = some c) (wc : c.wf m.length = true) :
    RS K (m ++ [a]) H (S.take m.length ++ [c]) := by
  have b := h.low w
  have hlen := b.len
  have e : Ext K m H (m ++ [a]) H := ⟨⟨[a], rfl⟩, fun _ _ h => h⟩
  have split1 : ∀ {i : Nat} {x : Addr}, (m ++ [a])[i]? = some x → m[i]? = some x ∨ (i = m.length ∧ x = a) := fun {i x} q => by
    by_cases z : i < m.length
    · rw [List.getElem?_append_left z] at q
      exact .inl q
    · have := (List.getElem?_eq_some_iff.mp q).1
      simp at this
      have e : i = m.length := by omega
      subst e
      rw [List.getElem?_append_right (Nat.le_refl _)] at q
      simp at q
      exact .inr ⟨rfl, q.symm⟩
  have split2 : ∀ {i : Nat} {x : Cell}, (S.take m.length ++ [c])[i]? = some x → (i < m.length ∧ (S.take m.length)[i]? = some x) ∨ (i = m.length ∧ x = c) := fun {i x} q => by
    by_cases z : i < m.length
    · rw [List.getElem?_append_left (by rw [← hlen]; exact z)] at q
      exact .inl ⟨z, q⟩
    · have := (List.getElem?_eq_some_iff.mp q).1
      rw [List.length_append, ← hlen] at this
      simp at this
      have e : i = m.length := by omega
      subst e
      rw [List.getElem?_append_right (by rw [← hlen]; exact Nat.le_refl _), ← hlen] at q
      simp at q
      exact .inr ⟨rfl, q.symm⟩
  have gm : ∀ {l : Nat} {a : Addr}, m[l]? = some a → (m ++ r)[l]? = some a := fun {l a} e => by
    rw [List.getElem?_append_left (List.getElem?_eq_some_iff.mp e).1]
    exact e
  have gS : ∀ {l : Nat} {c : Cell}, (S.take m.length)[l]? = some c → S[l]? = some c := fun {l c} e => by
    have z := (List.getElem?_eq_some_iff.mp e).1
    rw [List.length_take] at z
    rwa [List.getElem?_take_of_lt (by omega)] at e
  have lt : ∀ {i : Nat} {x : Addr}, m[i]? = some x → i < m.length := fun {i x} q => (List.getElem?_eq_some_iff.mp q).1
  refine ⟨by rw [List.length_append, List.length_append, ← hlen]; rfl, fun {i x y} h1 h2 => ?_, fun {i i' x y y'} h1 h2 h3 h4 h5 h6 => ?_⟩
  · rcases split1 h1 with q1 | ⟨q1, rfl⟩
    · rcases split2 h2 with ⟨z, q2⟩ | ⟨q2, rfl⟩
      · exact (b.at_ q1 q2).mono e (fun _ => rfl) fun _ z => z
      · exact absurd (lt q1) (by omega)
    · rcases split2 h2 with ⟨z, q2⟩ | ⟨q2, rfl⟩
      · exact absurd z (by omega)
      · exact ((h.at_ hl hc).low wc).mono e (fun _ => rfl) fun _ z => z
  · rcases split1 h1 with q1 | ⟨q1, e1⟩
    · rcases split2 h3 with ⟨z, q3⟩ | ⟨q3, _⟩
      · rcases split1 h2 with q2 | ⟨q2, e2⟩
        · rcases split2 h4 with ⟨z', q4⟩ | ⟨q4, _⟩
          · exact b.inj q1 q2 q3 q4 h5 h6
          · exact absurd (lt q2) (by omega)
        · rcases split2 h4 with ⟨z', q4⟩ | ⟨q4, e4⟩
          · exact absurd z' (by omega)
          · subst e2 e4
            have := h.inj (gm q1) hl (gS q3) hc h5 h6
            have := lt q1
            omega
      · exact absurd (lt q1) (by omega)
    · rcases split2 h3 with ⟨z, q3⟩ | ⟨q3, e3⟩
      · exact absurd z (by omega)
      · rcases split1 h2 with q2 | ⟨q2, e2⟩
        · rcases split2 h4 with ⟨z', q4⟩ | ⟨q4, _⟩
          · subst e1 e3
            have := h.inj hl (gm q2) hc (gS q4) h5 h6
            have := lt q2
            omega
          · exact absurd (lt q2) (by omega)
        · omega
end
theorem cmp_post {c : Cq} {m m' : List Addr} {H H' : Hp} {v : V} {d : D} {S S' : Store} {Q : VK} {σ : L2.St} (hm : m.length = S.length) (e : Ext c.K m H m' H') (rs : RS c.K m' H' S') (rd : RD c.K m' H' v d) (h : Post c (relD c) m H σ Q (cmp S.length d S')) : Q v H' := by
  obtain ⟨⟨r, rfl⟩, et⟩ := e
  rw [← hm] at h
  unfold cmp at h
  have e0 : Ext c.K m H m H' := ⟨⟨[], by simp⟩, et⟩
  have same : Post c (relD c) m H σ Q (.ok d S') → Q v H' := fun h => h v H' _ ⟨⟨r, rfl⟩, et⟩ rs rd
  split at h
  · rename_i w
    split at h
    · rename_i wd
      exact h v H' m e0 (rs.low w) (rd.low wd)
    · rename_i wd
      split at h
      · rename_i l
        split at h
        · rename_i cl hc
          obtain ⟨q1, q2⟩ := newCell_mut hc
          cases rd with
          | @ref a _ hl =>
            have hn : m.length ≤ l := by
              have := mt (fun z => decide_eq_true z) (show ¬ (D.ref l).wf m.length = true from wd)
              omega
            refine h _ H' (m ++ [a]) ⟨⟨[a], rfl⟩, et⟩ (rs.last w hn hl q1 q2) (.ref ?_)
            rw [List.getElem?_append_right (Nat.le_refl _), Nat.sub_self]
            rfl
        · exact same h
      · exact same h
  · exact same h
theorem re_start {K : PySem.W.Frag} {m : List Addr} {H : Hp} {N : List Str} {vs : List V} {ds : List D} (r : RDs K m H vs ds) : RE K m H (L2.start N vs) (ds.map some ++ List.replicate (N.length - ds.length) none) := by
  unfold L2.start
  have hl := r.length
  refine ⟨by simp [hl], fun {i d} h => ?_⟩
  by_cases z : i < ds.length
  · rw [List.getElem?_append_left (by simpa using z), List.getElem?_map] at h
    cases e : ds[i]? with
    | none => rw [e] at h; cases h
    | some d' =>
      rw [e] at h
      cases h
      obtain ⟨v, h1, h2⟩ := r.get e
      refine ⟨v, ?_, h2⟩
      rw [List.getElem?_append_left (by simp [hl]; exact z), List.getElem?_map, h1]
      rfl
  · rw [List.getElem?_append_right (by simpa using z), List.getElem?_replicate] at h
    split at h <;> cases h
theorem passB {X : Cx} {σ : L2.St} : PassesAt (L2.CX X.prog X.w) X σ (WE W0 σ) := fun _ _ _ _ _ _ h => by
  obtain ⟨_, _, _, _, _, _, _, _, _, _, _, _, z⟩ := h
  exact z.elim
section
variable {P : Program} {w : World} {K : PySem.W.Frag} {mg : Str → Option Value} {base : Heap}
/-- a def of the text keeps its mirror's promise -/
theorem fn_ok {x qual : Str} {st : Stmt} {f : Addr} {fd : FuncData} {N ps : List Str} {k : Nat} {g : SX} (F : Fun K x qual st f fd) (S : FnScope N ps (defScope st))
    (hbody : ∀ (cdv : Value) (A : Around) (outer : List PySem.Env) (s : Shared) (H : Hp) (E : XK), Room k (A.deeper (envOfC qual (defScope st) s.heap.objs.size f cdv)) →
      PSs (cxOf (L2.CX P w) P w K mg base N qual (defScope st) f cdv A outer s H E) (defBody st) (rdS ⟨K, mg, fun c d _ H => E c d H⟩ g)) :
    FnOk P w K mg base (L2.CX P w) (k + 1) f fd ps (rdF ⟨K, mg, W0⟩ (runB ps.length N.length g)) := by
  refine FnOk.of_fun F S (fun vs H Q E h => ?_) fun cdv A outer s H vs Q E hr h => ⟨_, hbody cdv A outer s H E hr, ?_⟩
  · obtain ⟨m, ds, S, r, rs, h⟩ := h
    rw [r.length]
    unfold runB at h
    split at h
    · assumption
    · exact h.elim
  · obtain ⟨m, ds, S, r, rs, h⟩ := h
    unfold runB at h
    split at h
    · rename_i hl
      refine ⟨m, ds.map some ++ List.replicate (N.length - ps.length) none, S, by rw [← hl]; exact re_start r, rs, ?_⟩
      cases eg : g (ds.map some ++ List.replicate (N.length - ps.length) none) S with
      | rt d S' => rw [eg] at h; exact fun v H' m' e rs' rd => cmp_post (σ := []) rs.len e rs' rd h
      | nx ρ' S' => rw [eg] at h; exact fun σ' H' m' e re' rs' => cmp_post (σ := []) rs.len e rs' .non h
      | ex xx ρ' S' => rw [eg] at h; exact fun cls dd σ' H' m' e re' rs' rx => h cls dd H' m' e rs' rx
      | _ => rw [eg] at h; exact h.elim
    · exact h.elim
/-- none is called with no calls left -/
theorem fn_zero {f : Addr} {fd : FuncData} {ps : List Str} : FnOk P w K mg base (L2.CX P w) 0 f fd ps (rdF ⟨K, mg, W0⟩ fun _ _ => .no) :=
  ⟨fun vs H Q E ⟨m, ds, S, r, rs, h⟩ => h.elim, fun A _ outer s H _ args us _ vs _ Q E ⟨m, ds, S, r, rs, h⟩ => h.elim⟩
end
/-- a promise without exceptions -/
def rdL (K : PySem.W.Frag) (F : List D → M D) : Sp := fun vs H Q _ => ∃ m ds S d S', RDs K m H vs ds ∧ RS K m H S ∧ F ds S = .ok d S' ∧ ∀ v H' m', Ext K m H m' H' → RS K m' H' S' → RD K m' H' v d → Q v H'
theorem rdL_F {K : PySem.W.Frag} {mg : Str → Option Value} {F : List D → M D} {vs : List V} {H : Hp} {Q : VK} {E : XK} (h : rdL K F vs H Q E) : rdF ⟨K, mg, W0⟩ F vs H Q E := by
  obtain ⟨m, ds, S, d, S', r, rs, e, k⟩ := h
  exact ⟨m, ds, S, r, rs, by rw [e]; exact k⟩
/-- THE END: a script's ints, True -/
theorem law_sp {K : PySem.W.Frag} {F : List D → M D} {H : Hp} {a : Addr} {ns : List Int} (hO : Only H) (hS : SqL K H a (ns.map V.int)) (h : ∃ S, F [.ref 0] [.rol (ns.map D.int)] = .ok (.bl true) S) :
    rdL K F [.ref a] H (fun v _ => v = .bl true) fun _ _ _ => False := by
  obtain ⟨S, h⟩ := h
  have rds : ∀ ns : List Int, RDs K [a] H (ns.map V.int) (ns.map D.int) := fun ns => by
    induction ns with
    | nil => exact .nil
    | cons n ns ih => exact .cons (.int n) ih
  have hR : RolAt K H a (ns.map V.int) := by
    rcases hS with hS | hS
    · rcases hS with hS | hS
      · rcases hO a with z | ⟨o, xs, z⟩
        · rw [z] at hS; cases hS
        · rw [z] at hS; cases hS
      · exact .inl hS
    · exact .inr hS
  refine ⟨[a], [.ref 0], [.rol (ns.map D.int)], .bl true, S, .cons (.ref rfl) .nil, ⟨rfl, fun {l a' c} h1 h2 => ?_, fun {l l' a' c c'} h1 h2 h3 h4 h5 h6 => ?_⟩, ?_⟩
  · cases l with
    | zero =>
      simp at h1 h2
      subst h1 h2
      exact ⟨_, hR, rds ns⟩
    | succ l => simp at h1
  · cases l with
    | zero => simp at h3; subst h3; cases h5
    | succ l => simp at h3
  · exact ⟨h, fun v H' m' e rs rd => by cases rd; rfl⟩
end Dl

set_option Elab.async false
set_option linter.all false
set_option maxRecDepth 100000
set_option maxHeartbeats 1000000
namespace Dl
open PySem PySem.Spec PyProof.Rows L2 RT
/-! ## list(reversed(xs)) -/
section
variable {prog : Program} {w : World} {A : Around} {E : Value → Shared → Prop} {s : Shared}
theorem extend_rev {it l S : Addr} {items : Array Value} {res : Value} {c₀ : Nat} {R : Result → Shared → Prop} (hh : A.handled = none) (hit : s.heap.IsRevIter it l ((items.size : Int) - 1)) (hl : s.heap.IsList l items) (hne : l ≠ it) (hn : items.size ≤ sizeLine)
    (hSi : S ≠ it) (hSl : S ≠ l) (hS : s.heap.get? S = some { cls := .type "list", data := .seq #[] c₀ })
    (hR : ∀ h' tk acc c', (∀ b o, b ≠ it → b ≠ S → s.heap.get? b = some o → h'.get? b = some o) → h'.get? S = some { cls := .type "list", dict := none, data := .seq acc c', slots := #[] } →
      ItemsOf (fun i v => items[items.size - 1 - i]? = some v) acc items.size → R (.ok (.ret res)) { s with heap := h', toks := tk }) :
    wpAny (model prog w) A.in1 (Builtin.List.listExtendWith (.ref S) (.ref it) res)
      (fun fin s' => match fin with | .done f => R (.ok f) s' | .again c' => c'.quiet = true ∧ codeAny (model prog w) A c' R s') (fun e s' => R (.error e) s') s := by
  have W := (Walks.listRev (prog := prog) (w := w) (A := A.in1) hh it l hne items).toS
  have hSf : S ∉ [it, l] := by simp only [List.mem_cons, List.not_mem_nil, or_false, not_or]; exact ⟨hSi, hSl⟩
  have hT : s.TypeIs (.ref it) "list_reverseiterator" := hit.typeIs
  have h1 : Builtin.List.listSameRef (.ref S) (.ref it) = false := by simp [Builtin.List.listSameRef, hSi]
  unfold Builtin.List.listExtendWith
  refine wpAny_bind (wpAny_typeOf hT ?_)
  rw [if_neg (by rw [h1]; decide)]
  refine wpAny_bind (wpAny_pyIter_revIter hit ?_)
  refine wpAny_bind (wpAny_holding ?_)
  unfold Builtin.List.listLengthHint
  refine wpAny_bind (wpAny_specialOf hT nolen_lri ?_)
  show wpAny _ A.in1 (specialOf (Value.ref it) (Str.ofString "__length_hint__") >>= _) _ _ _
  refine wpAny_bind (wpAny_specialOf hT hint_lri ?_)
  generalize hid : ("list_reverseiterator.__length_hint__" : String) = id0
  wp_delta
  rw [show splitId id0 = some ("list_reverseiterator", "__length_hint__") from by subst hid; decide +kernel]
  subst hid
  refine wpAny_bind (wpAny_isInstance (b := true) hT (by rw [isSubtype_type]; kernel_rfl) ?_)
  refine wpAny_pure ?_
  rw [if_neg (by decide)]
  have e0 : ((items.size : Nat) : Int) - 1 - ((0 : Nat) : Int) = (items.size : Int) - 1 := by omega
  refine wpAny_pure ⟨plainId_quiet F.plain_extend_loop _, codeAny_extend_loopS W hn _ hSf _ items.size 0 _ _ _ rfl (Nat.zero_le _) ⟨Nat.zero_le _, by rw [e0]; exact hit, hl⟩ hS (ItemsOf.nil _) fun s' acc' c' hm hS' hacc => ?_⟩
  rw [Moved.eq_with hm]
  refine hR s'.heap s'.toks acc' c' (fun b o hb hb2 e => hm.heap b o (fun hmem => ?_) e) hS' hacc
  rcases List.mem_cons.mp hmem with e' | hmem
  · exact hb2 e'
  · exact hb (List.mem_singleton.mp hmem)
theorem list_init_rev {it l S : Addr} {items : Array Value} {R : Result → Shared → Prop} (hh : A.handled = none) (hit : s.heap.IsRevIter it l ((items.size : Int) - 1)) (hl : s.heap.IsList l items) (hne : l ≠ it) (hn : items.size ≤ sizeLine)
    (hSi : S ≠ it) (hSl : S ≠ l) (hS : s.heap.get? S = some { cls := .type "list", data := .seq #[] })
    (hR : ∀ h' tk acc c', (∀ b o, b ≠ it → b ≠ S → s.heap.get? b = some o → h'.get? b = some o) → h'.get? S = some { cls := .type "list", dict := none, data := .seq acc c', slots := #[] } →
      ItemsOf (fun i v => items[items.size - 1 - i]? = some v) acc items.size → R (.ok (.ret .none)) { s with heap := h', toks := tk }) :
    wpAny (model prog w) A.in1 (Builtin.«list.__init__» ⟨[.ref S, .ref it], []⟩)
      (fun fin s' => match fin with | .done f => R (.ok f) s' | .again c' => c'.quiet = true ∧ codeAny (model prog w) A c' R s') (fun e s' => R (.error e) s') s := by
  show wpAny _ _ (do let old ← Builtin.List.listItems (.ref S); Builtin.List.listUpdate (.ref S) (fun _ => #[]); letGo old.toList.reverse; Builtin.List.listExtendWith (.ref S) (.ref it) .none) _ _ s
  refine wpAny_bind ?_
  unfold Builtin.List.listItems
  refine wpAny_bind (wpAny_seqItems hS rfl (wpAny_pure ?_))
  show wpAny _ _ (updateSeq S (fun _ => #[]) >>= fun _ => letGo (#[] : Array Value).toList.reverse >>= fun _ => Builtin.List.listExtendWith (.ref S) (.ref it) .none) _ _ s
  refine wpAny_bind (wpAny_updateSeq hS rfl ?_)
  have hS₂ := Heap.get?_update_self (Obj.mapSeq (fun _ => (#[] : Array Value))) hS rfl
  have oth : ∀ b o, b ≠ S → s.heap.get? b = some o → (s.heap.update S (Obj.mapSeq (fun _ => (#[] : Array Value)))).get? b = some o :=
    fun b o hb e => (Heap.get?_update_other _ _ (Ne.symm hb)).trans e
  refine wpAny_bind (wpAny_letGo ?_)
  obtain ⟨ol, hol, hcl, hdl⟩ := id hl
  refine extend_rev hh (hit.at fun o e => oth it o (Ne.symm hSi) e) ⟨ol, oth l _ (Ne.symm hSl) hol, hcl, hdl⟩ hne hn hSi hSl hS₂ fun h' tk acc' c' hk hS' hacc => ?_
  exact hR h' tk acc' c' (fun b o hb hb2 e => hk b o hb hb2 (oth b o hb2 e)) hS' hacc
theorem call_list_rev {it l : Addr} {items : Array Value} {Q : Value → Shared → Prop} (hh : A.handled = none) (hit : s.heap.IsRevIter it l ((items.size : Int) - 1)) (hl : s.heap.IsList l items) (hne : l ≠ it) (hn : items.size ≤ sizeLine)
    (hQ : ∀ h' tk acc' c', (∀ b o, b ≠ it → s.heap.get? b = some o → h'.get? b = some o) →
      h'.get? s.heap.objs.size = some { cls := .type "list", dict := none, data := .seq acc' c', slots := #[] } → ItemsOf (fun i v => items[items.size - 1 - i]? = some v) acc' items.size → Q (.ref s.heap.objs.size) { s with heap := h', toks := tk }) :
    wpAny (model prog w) A (call (.type "list") [.ref it]) Q E s := by
  refine callType_codes (Q₁ := fun obj s₁ => obj = .ref s.heap.objs.size ∧ s₁ = { s with heap := s.heap.push { cls := .type "list", data := .seq #[] } }) F.called_list (F.typeCall_list_1 _) F.entry_list_init
    (code_list_new _ ⟨rfl, rfl⟩) fun obj s₁ h₁ => ?_
  obtain ⟨rfl, rfl⟩ := h₁
  have hS : (s.heap.push { cls := .type "list", data := .seq #[] }).get? s.heap.objs.size = some { cls := .type "list", data := .seq #[] } := Heap.get?_push_size _ rfl
  obtain ⟨oi, hoi, _⟩ := id hit
  obtain ⟨ol, hol, _⟩ := id hl
  refine ⟨⟨_, hS, rfl⟩, F.args_list_init_2 _ _, list_init_rev (A := A.in1) hh (hit.at fun o e => Heap.get?_push_of_some _ e) (hl.push _) hne hn (Nat.ne_of_gt (Heap.lt_size hoi)) (Nat.ne_of_gt (Heap.lt_size hol)) hS fun h' tk acc' c' hk hS' hacc => ?_⟩
  exact ⟨rfl, hQ h' tk acc' c' (fun b o hb e => hk b o hb (Nat.ne_of_lt (Heap.lt_size e)) (Heap.get?_push_of_some _ e)) hS' hacc⟩
end
def gListRev : D → Store → Option (D × Store)
  | .ref l, S => (lstAt S l).map fun xs => (.ref S.length, S ++ [.lst xs.reverse])
  | _, _ => none
section
variable {X : Cx} {W : WX} {e : Expr} {f : EX} {p p2 pos pos2 : Pos}
theorem d_listRev (hc : X.calm = true) (hg : Gl X "list") (hm : X.mg "list" = none) (hg2 : Gl X "reversed") (hm2 : X.mg "reversed" = none) (he : PE X e (rdE (X.cq W) f))
    (hs : starEach [e] X.env = (false, eval e X.env) :: starEach [] X.env := by rfl)
    (hs2 : starEach [.Call (.Name "reversed" p2) [e] [] pos2] X.env = (false, eval (.Call (.Name "reversed" p2) [e] [] pos2) X.env) :: starEach [] X.env := by rfl) :
    PE X (.Call (.Name "list" p) [.Call (.Name "reversed" p2) [e] [] pos2] [] pos) (rdE (X.cq W) (e1 gListRev f)) := by
  refine ⟨fun pins s σ H Q I ⟨m, ρ, S, re, rs, h⟩ => ?_⟩
  refine Call_ (ld_blt I hg hm boot_list (PyProof.Rows.callWith_type1 (args_cons (Call_ (ld_blt I hg2 hm2 PyProof.Rows.boot_reversed (PyProof.Rows.callWith_type1 (args_cons (thn (he.run pins s σ H _ I ⟨m, ρ, S, re, rs, Post.bind h⟩) fun u s1 ⟨v, H1, I1, r1, q1⟩ => args_nil ?_) hs) hs rfl))) hs2) hs2 rfl))
  obtain ⟨m1, d, S1, e1, rs1, rd1, q⟩ := q1
  have q := VPost.of q
  cases rd1 with
  | @ref a l hla =>
    have q : VPost X.K m1 H1 Q ((lstAt S1 l).map fun xs => (.ref S1.length, S1 ++ [.lst xs.reverse])) := q
    cases el : lstAt S1 l with
    | none => rw [el] at q; exact q.elim
    | some xs =>
      rw [el] at q
      obtain ⟨vs, hq, rds⟩ := rs1.lst hla el
      obtain rfl : u = Value.ref a := r1
      obtain ⟨its, rv, p', hz⟩ := I1.list hq
      refine call_reversed_list p'.isList (args_nil ?_)
      have k0 : ∀ b o, s1.heap.get? b = some o → (s1.heap.push (revObj a ((its.toArray.size : Int) - 1))).get? b = some o := fun b o e => Heap.get?_push_of_some _ e
      have I2 : L2.Inv X pins σ H1 { s1 with heap := s1.heap.push (revObj a ((its.toArray.size : Int) - 1)) } := I1.kept (t' := s1.toks) k0
      obtain ⟨f0, f1, f2, f3, f4, f5⟩ := I1.fpOk (H' := H1) (b := s1.heap.objs.size) (Nat.le_refl _) (I1.hok.fresh (Nat.le_refl _))
      have hl := p'.isList
      obtain ⟨ol, hol, _⟩ := id hl
      have hne : a ≠ s1.heap.objs.size := Nat.ne_of_lt (Heap.lt_size hol)
      have hn : its.toArray.size ≤ sizeLine := by rw [List.size_toArray, ← rv.length]; exact hz
      have ksz : (s1.heap.push (revObj a ((its.toArray.size : Int) - 1))).objs.size = s1.heap.objs.size + 1 := Heap.size_push _ _
      refine call_list_rev (s := { s1 with heap := s1.heap.push (revObj a ((its.toArray.size : Int) - 1)) }) (I1.ok.hd hc) ⟨_, Heap.get?_push_size _ rfl, rfl, rfl⟩ (hl.push _) hne hn fun h' tk acc c' hk hS' hi => ?_
      have hfr : H1 (s1.heap.push (revObj a ((its.toArray.size : Int) - 1))).objs.size = none := I2.hok.fresh (Nat.le_refl _)
      refine ⟨.ref (s1.heap.push (revObj a ((its.toArray.size : Int) - 1))).objs.size, upd H1 _ (.lst vs.reverse), ?_, rfl, vp_lst rs1 hfr rds.reverse q⟩
      have I3 : L2.Inv X pins σ H1 { s1 with heap := h', toks := tk } := I2.turned (t' := tk) (fun b o hb e => hk b o hb e) f0 f1 f3 f4 f5
      obtain ⟨g0, g1, g2, g3, g4, g5⟩ := I2.fpOk (H' := H1) (b := (s1.heap.push (revObj a ((its.toArray.size : Int) - 1))).objs.size) (Nat.le_refl _) hfr
      have hS'' : h'.get? (s1.heap.push (revObj a ((its.toArray.size : Int) - 1))).objs.size = some { cls := .type "list", dict := none, data := .seq acc c', slots := #[] } := hS'
      generalize (s1.heap.push (revObj a ((its.toArray.size : Int) - 1))).objs.size = p0 at *
      refine L2.Inv.step (s := { s1 with heap := h', toks := tk }) (g' := s1.gens) (t' := tk) (d' := s1.drawn) (h' := h') (ch := [p0]) I3 (fun b hb => ?_) (fun b o _ _ _ q _ => q) (fun b o _ _ _ q _ => ⟨o.slots, q⟩) (fun b o hb q n => ?_) (fun b o _ q => ⟨o, q⟩) (fun b ws q => by rw [upd_ne (ne_of_none q hfr)]; exact q)
        (fun b o u q => by rw [upd_ne (ne_of_none q hfr)]; exact q) (fun b ps q => ⟨#[], by rw [upd_ne (ne_of_none q hfr), q]; simp⟩) (fun m hm => hm) (fun b u q => ?_) I1.bare
      · have e : b = p0 := by simpa using hb
        subst e
        exact ⟨g3, g1, g4, g5⟩
      · rw [upd_ne (fun z => hb (by simp [z]))]
        exact n
      · by_cases hb : b = p0
        · subst hb
          rw [upd_same] at q
          cases q
          refine ⟨by rw [List.length_reverse]; exact hz, acc.toList, c', RT.vals_rev rv hi, ?_⟩
          rw [Array.toArray_toList]
          exact hS''
        · rw [upd_ne hb] at q
          exact (I3.hok b u q).stay (fun c v _ r => r) (fun c r => by rw [upd_ne (ne_of_none r hfr)]; exact r) fun c ws r => by rw [upd_ne (ne_of_none r hfr)]; exact r
  | _ => exact q.elim
end
end Dl

set_option Elab.async false
set_option linter.all false
set_option maxRecDepth 100000
namespace Dl
open PySem PySem.Spec PyProof.Rows L2
/-! ## a walk over whatever stands there: a list, a tuple, a text -/
def iA (f : EX) : IX := fun ρ S => (f ρ S).bind fun d S1 => match d with
  | .ref l => match lstAt S1 l with
    | some xs => .ok (xs, [(l, xs)]) S1
    | none => .no
  | .tup xs => .ok (xs, []) S1
  | .str x => .ok (x.cps.toList.map fun c => .str ⟨#[c]⟩, []) S1
  | _ => .no
section
variable {X : Cx} {W : WX} {tg e : Expr} {f : EX}
theorem w_any (he : PE X e (rdE (X.cq W) f)) : PI X tg e (rdI (X.cq W) (iA f)) := by
  refine ⟨fun pins s σ H R' I ⟨m, ρ, S, re, rs, q⟩ => thn (he.run pins s σ H _ I ⟨m, ρ, S, re, rs, src_bind q⟩) fun v s1 ⟨x, H1, I1, r1, m1, d, S1, e1, rs1, rd, q1⟩ => ?_⟩
  cases rd with
  | @ref a l hl =>
    simp only at q1
    cases el : lstAt S1 l with
    | none => rw [el] at q1; exact q1.elim
    | some xs =>
      rw [el] at q1
      obtain ⟨vs, hq, r⟩ := rs1.lst hl el
      cases r1
      obtain ⟨its, rv, p, hz⟩ := I1.list hq
      refine wpAny_pyIter_list p.isList ?_
      refine ⟨s1.heap.objs.size, [s1.heap.objs.size], _, _, H1, rfl, I1.kept (t' := s1.toks) fun b o e => Heap.get?_push_of_some _ e, turn_list a _, ⟨_, Heap.get?_push_size _ rfl, rfl, rfl⟩, fun b hb => ?_, q1 _ _ m1 .refl rs1 (it_list hl)⟩
      have e : b = s1.heap.objs.size := by simpa using hb
      subst e
      exact I1.fpOk (Nat.le_refl _) (I1.hok.fresh (Nat.le_refl _))
  | @tup a vs ds ht r =>
    cases r1
    obtain ⟨its, rv, p, hz⟩ := I1.tuple ht.sq
    refine wpAny_pyIter_tuple (show s1.heap.IsTuple a its.toArray from p) ?_
    refine ⟨s1.heap.objs.size, [s1.heap.objs.size], _, _, H1, rfl, I1.kept (t' := s1.toks) fun b o e => Heap.get?_push_of_some _ e, turn_tuple a _, ⟨_, Heap.get?_push_size _ rfl, rfl, rfl⟩, fun b hb => ?_, q1 _ _ m1 .refl rs1 (it_tup ht r)⟩
    have e : b = s1.heap.objs.size := by simpa using hb
    subst e
    exact I1.fpOk (Nat.le_refl _) (I1.hok.fresh (Nat.le_refl _))
  | @str x h =>
    obtain ⟨t, rfl⟩ := r1
    have q : (fun J H' => R' J H') (Its x) H1 := q1 _ _ m1 .refl rs1 it_str
    cases ha : x.cps.all (· < 128)
    · exact wpAny_pyIter_wide ha (pi_one (tk := s1.toks) I1 _ (turn_str _ x t "str_iterator" (.inr rfl)) ⟨_, Heap.get?_push_size _ rfl, rfl, rfl⟩ q)
    · exact wpAny_pyIter_ascii ha (pi_one (tk := s1.toks) I1 _ (turn_str _ x t "str_ascii_iterator" (.inl rfl)) ⟨_, Heap.get?_push_size _ rfl, rfl, rfl⟩ q)
  | _ => exact q1.elim
end
theorem r65 {k : Nat} {A : Around} (r : Room k A) : A.units + 65 < cLine := by have := r.un; omega
end Dl

set_option Elab.async false
set_option linter.all false
set_option maxRecDepth 100000
namespace Dl
open PySem L2
/-! ## the mirror, evaluated from the outside in -/
def kE (ρ : Env) : R D → Out
  | .ok _ S => .nx ρ S
  | .ex x S => .ex x ρ S
  | .no => .no
def kR (ρ : Env) : R D → Out
  | .ok d S => .rt d S
  | .ex x S => .ex x ρ S
  | .no => .no
def kIf (g h : SX) (ρ : Env) : R Bool → Out
  | .ok b S => if b then g ρ S else h ρ S
  | .ex x S => .ex x ρ S
  | .no => .no
def kN (j : Nat) (ρ : Env) : R D → Out
  | .ok d S => .nx (ρ.set j (some d)) S
  | .ex x S => .ex x ρ S
  | .no => .no
def kA (tg : D → SX) (ρ : Env) : R D → Out
  | .ok d S => tgO (tg d ρ S)
  | .ex x S => .ex x ρ S
  | .no => .no
def kIx3 (ρ : Env) : Option Store → Out
  | some S => .nx ρ S
  | none => .no
def kIx2 (o d : D) (ρ : Env) : R D → Out
  | .ok i S => kIx3 ρ (gSet o i d S)
  | .ex x S => .ex x ρ S
  | .no => .no
def kIx1 (f : EX) (d : D) (ρ : Env) : R D → Out
  | .ok o S => kIx2 o d ρ (f ρ S)
  | .ex x S => .ex x ρ S
  | .no => .no
def kE1 (g : D → Store → Option (D × Store)) : R D → R D
  | .ok x S => toR (g x S)
  | .ex x S => .ex x S
  | .no => .no
def kE2 (g : D → D → Store → Option (D × Store)) (x : D) : R D → R D
  | .ok y S => toR (g x y S)
  | .ex x S => .ex x S
  | .no => .no
def kE21 (g : D → D → Store → Option (D × Store)) (fb : EX) (ρ : Env) : R D → R D
  | .ok x S => kE2 g x (fb ρ S)
  | .ex x S => .ex x S
  | .no => .no
def kB (g : List D → Store → Option (D × Store)) : R (List D) → R D
  | .ok xs S => toR (g xs S)
  | .ex x S => .ex x S
  | .no => .no
def kF (F : List D → M D) : R (List D) → R D
  | .ok xs S => F xs S
  | .ex x S => .ex x S
  | .no => .no
def kC (x : D) : R (List D) → R (List D)
  | .ok xs S => .ok (x :: xs) S
  | .ex x S => .ex x S
  | .no => .no
def kC1 (fr : AX) (ρ : Env) : R D → R (List D)
  | .ok x S => kC x (fr ρ S)
  | .ex x S => .ex x S
  | .no => .no
def kM (g : D → List D → Store → Option (D × Store)) (x : D) : R (List D) → R D
  | .ok xs S => toR (g x xs S)
  | .ex x S => .ex x S
  | .no => .no
def kM2 (g : D → List D → Store → Option (D × Store)) (fx : AX) (ρ : Env) (x : D) (S : Store) (T : Ty) : Option Ty → R D
  | some T' => if T' = T then kM g x (fx ρ S) else .no
  | none => .no
def kM1 (g : D → List D → Store → Option (D × Store)) (fx : AX) (ρ : Env) (T : Ty) : R D → R D
  | .ok x S => kM2 g fx ρ x S T (tyD S x)
  | .ex x S => .ex x S
  | .no => .no
def kS3 (x : D) (l : Option Int) : R (Option Int) → R D
  | .ok h S => toR (gSl x l h S)
  | .ex x S => .ex x S
  | .no => .no
def kS2 (x : D) (hi : Env → Store → R (Option Int)) (ρ : Env) : R (Option Int) → R D
  | .ok l S => kS3 x l (hi ρ S)
  | .ex x S => .ex x S
  | .no => .no
def kS1 (lo hi : Env → Store → R (Option Int)) (ρ : Env) : R D → R D
  | .ok x S => kS2 x hi ρ (lo ρ S)
  | .ex x S => .ex x S
  | .no => .no
def kO : R D → R (Option Int)
  | .ok d S => match d with
    | .int i => .ok (some i) S
    | _ => .no
  | .ex x S => .ex x S
  | .no => .no
def kV : R D → R Bool
  | .ok d S => toT S (truD S d)
  | .ex x S => .ex x S
  | .no => .no
def kT : R D → R Bool
  | .ok d S => match d with
    | .bl b => .ok b S
    | _ => .no
  | .ex x S => .ex x S
  | .no => .no
def kAn (u : TX) (ρ : Env) : R Bool → R Bool
  | .ok b S => if b then u ρ S else .ok false S
  | .ex x S => .ex x S
  | .no => .no
def kOr (u : TX) (ρ : Env) : R Bool → R Bool
  | .ok b S => if b then .ok true S else u ρ S
  | .ex x S => .ex x S
  | .no => .no
def kNo : R Bool → R Bool
  | .ok b S => .ok (!b) S
  | .ex x S => .ex x S
  | .no => .no
def kIfE (fa fb : EX) (ρ : Env) : R Bool → R D
  | .ok b S => if b then fa ρ S else fb ρ S
  | .ex x S => .ex x S
  | .no => .no
def kVa2 (fb : EX) (d : D) (ρ : Env) : R Bool → R D
  | .ok b S => if b then fb ρ S else .ok d S
  | .ex x S => .ex x S
  | .no => .no
def kVa (fb : EX) (ρ : Env) : R D → R D
  | .ok d S => kVa2 fb d ρ (toT S (truD S d))
  | .ex x S => .ex x S
  | .no => .no
def kVo2 (fb : EX) (d : D) (ρ : Env) : R Bool → R D
  | .ok b S => if b then .ok d S else fb ρ S
  | .ex x S => .ex x S
  | .no => .no
def kVo (fb : EX) (ρ : Env) : R D → R D
  | .ok d S => kVo2 fb d ρ (toT S (truD S d))
  | .ex x S => .ex x S
  | .no => .no
def kVn2 : R Bool → R D
  | .ok b S => .ok (.bl (!b)) S
  | .ex x S => .ex x S
  | .no => .no
def kVn : R D → R D
  | .ok d S => kVn2 (toT S (truD S d))
  | .ex x S => .ex x S
  | .no => .no
def kH3 (g' : D → D → Store → Option (D × Store)) (y : D) : R D → R D
  | .ok w S => toR (g' y w S)
  | .ex x S => .ex x S
  | .no => .no
def kH2 (g' : D → D → Store → Option (D × Store)) (fc : EX) (y : D) (ρ : Env) : R D → R D
  | .ok z S => match z with
    | .bl b => if b then kH3 g' y (fc ρ S) else .ok (.bl false) S
    | _ => .no
  | .ex x S => .ex x S
  | .no => .no
def kH1 (g g' : D → D → Store → Option (D × Store)) (fc : EX) (x : D) (ρ : Env) : R D → R D
  | .ok y S => kH2 g' fc y ρ (toR (g x y S))
  | .ex x S => .ex x S
  | .no => .no
def kH (g g' : D → D → Store → Option (D × Store)) (fb fc : EX) (ρ : Env) : R D → R D
  | .ok x S => kH1 g g' fc x ρ (fb ρ S)
  | .ex x S => .ex x S
  | .no => .no
/-- an equation that simp takes as a step of its own -/
theorem nr {α : Sort u} {a b : α} (h : a = b) : a = b := h
theorem seq_nx {h : SX} {ρ : Env} {S : Store} : (Out.nx ρ S).seq h = h ρ S := nr rfl
theorem seq_rt {h : SX} {d : D} {S : Store} : (Out.rt d S).seq h = .rt d S := nr rfl
theorem seq_bk {h : SX} {ρ : Env} {S : Store} : (Out.bk ρ S).seq h = .bk ρ S := nr rfl
theorem seq_ct {h : SX} {ρ : Env} {S : Store} : (Out.ct ρ S).seq h = .ct ρ S := nr rfl
theorem seq_ex {h : SX} {x : Exn} {ρ : Env} {S : Store} : (Out.ex x ρ S).seq h = .ex x ρ S := nr rfl
section
variable {ρ : Env} {S : Store} {g h : SX} {f fa fb fc fo : EX} {t u : TX} {fx fr : AX} {i j : Nat} {d x y : D} {tg : D → SX}
theorem sQ_ : sQ g h ρ S = (g ρ S).seq h := nr rfl
theorem sP_ : sP ρ S = .nx ρ S := nr rfl
theorem sE_ : sE f ρ S = kE ρ (f ρ S) := by show (f ρ S).out ρ _ = _; cases f ρ S <;> rfl
theorem sR_ : sR f ρ S = kR ρ (f ρ S) := by show (f ρ S).out ρ _ = _; cases f ρ S <;> rfl
theorem sIf_ : sIf t g h ρ S = kIf g h ρ (t ρ S) := by show (t ρ S).out ρ _ = _; cases t ρ S <;> rfl
theorem sN_ : sN j f ρ S = kN j ρ (f ρ S) := by show (f ρ S).out ρ _ = _; cases f ρ S <;> rfl
theorem sA_ : sA f tg ρ S = kA tg ρ (f ρ S) := by show (f ρ S).out ρ _ = _; cases f ρ S <;> rfl
theorem tgO_nx : tgO (.nx ρ S) = .nx ρ S := nr rfl
theorem nm_ : nm i d ρ S = .nx (ρ.set i (some d)) S := nr rfl
theorem tgIx_ : tgIx fo f d ρ S = kIx1 f d ρ (fo ρ S) := by
  show (fo ρ S).out ρ _ = _
  cases fo ρ S with
  | ok o S1 =>
    show (f ρ S1).out ρ _ = kIx2 o d ρ (f ρ S1)
    cases f ρ S1 with
    | ok i S2 =>
      show (match gSet o i d S2 with | some S3 => Out.nx ρ S3 | none => .no) = kIx3 ρ (gSet o i d S2)
      cases gSet o i d S2 <;> rfl
    | _ => rfl
  | _ => rfl
theorem eC_ : eC d ρ S = .ok d S := nr rfl
theorem eV0 {r : Env} : eV 0 (some d :: r) S = .ok d S := nr rfl
theorem eV1 {a : Option D} {r : Env} {n : Nat} : eV (n + 1) (a :: r) S = eV n r S := nr rfl
theorem e1_ {g : D → Store → Option (D × Store)} : e1 g fa ρ S = kE1 g (fa ρ S) := by show (fa ρ S).bind _ = _; cases fa ρ S <;> rfl
theorem e2_ {g : D → D → Store → Option (D × Store)} : e2 g fa fb ρ S = kE21 g fb ρ (fa ρ S) := by
  show (fa ρ S).bind _ = _
  cases fa ρ S with
  | ok x S1 =>
    show (fb ρ S1).bind _ = kE2 g x (fb ρ S1)
    cases fb ρ S1 <;> rfl
  | _ => rfl
theorem eB_ {g : List D → Store → Option (D × Store)} : eB g fx ρ S = kB g (fx ρ S) := by show (fx ρ S).bind _ = _; cases fx ρ S <;> rfl
theorem eF_ {F : List D → M D} : eF F fx ρ S = kF F (fx ρ S) := by show (fx ρ S).bind _ = _; cases fx ρ S <;> rfl
theorem aN_ : aN ρ S = .ok [] S := nr rfl
theorem aC_ : aC fa fr ρ S = kC1 fr ρ (fa ρ S) := by
  show (fa ρ S).bind _ = _
  cases fa ρ S with
  | ok x S1 =>
    show (fr ρ S1).bind _ = kC x (fr ρ S1)
    cases fr ρ S1 <;> rfl
  | _ => rfl
theorem eMt_ {T : Ty} {g : D → List D → Store → Option (D × Store)} : eMt T g fo fx ρ S = kM1 g fx ρ T (fo ρ S) := by
  show (fo ρ S).bind _ = _
  cases fo ρ S with
  | ok x S1 =>
    show (if tyD S1 x = some T then (fx ρ S1).bind fun xs S2 => toR (g x xs S2) else .no) = kM2 g fx ρ x S1 T (tyD S1 x)
    have q : (fx ρ S1).bind (fun xs S2 => toR (g x xs S2)) = kM g x (fx ρ S1) := by cases fx ρ S1 <;> rfl
    cases tyD S1 x with
    | none => rw [if_neg (fun z => nomatch z)]; rfl
    | some T' =>
      show _ = if T' = T then _ else _
      by_cases e : T' = T
      · rw [if_pos (by rw [e]), if_pos e, q]
      · rw [if_neg (fun z => e (Option.some.inj z)), if_neg e]
  | _ => rfl
theorem eSl_ {lo hi : Env → Store → R (Option Int)} : eSl fa lo hi ρ S = kS1 lo hi ρ (fa ρ S) := by
  show (fa ρ S).bind _ = _
  cases fa ρ S with
  | ok x S1 =>
    show (lo ρ S1).bind _ = kS2 x hi ρ (lo ρ S1)
    cases lo ρ S1 with
    | ok l S2 =>
      show (hi ρ S2).bind _ = kS3 x l (hi ρ S2)
      cases hi ρ S2 <;> rfl
    | _ => rfl
  | _ => rfl
theorem oN_ : oN ρ S = .ok none S := nr rfl
theorem oI_ : oI fa ρ S = kO (fa ρ S) := by show (fa ρ S).bind _ = _; cases fa ρ S <;> rfl
theorem tV_ : tV f ρ S = kV (f ρ S) := by show (f ρ S).bind _ = _; cases f ρ S <;> rfl
theorem tE_ : tE f ρ S = kT (f ρ S) := by show (f ρ S).bind _ = _; cases f ρ S <;> rfl
theorem tA_ : tA t u ρ S = kAn u ρ (t ρ S) := by show (t ρ S).bind _ = _; cases t ρ S <;> rfl
theorem tO_ : tO t u ρ S = kOr u ρ (t ρ S) := by show (t ρ S).bind _ = _; cases t ρ S <;> rfl
theorem tN_ : tN t ρ S = kNo (t ρ S) := by show (t ρ S).bind _ = _; cases t ρ S <;> rfl
theorem eIf_ : eIf t fa fb ρ S = kIfE fa fb ρ (t ρ S) := by show (t ρ S).bind _ = _; cases t ρ S <;> rfl
theorem eAnd_ : eAnd fa fb ρ S = kVa fb ρ (fa ρ S) := by
  show (fa ρ S).bind _ = _
  cases fa ρ S with
  | ok d S1 =>
    show (toT S1 (truD S1 d)).bind _ = kVa2 fb d ρ (toT S1 (truD S1 d))
    cases toT S1 (truD S1 d) <;> rfl
  | _ => rfl
theorem eOr_ : eOr fa fb ρ S = kVo fb ρ (fa ρ S) := by
  show (fa ρ S).bind _ = _
  cases fa ρ S with
  | ok d S1 =>
    show (toT S1 (truD S1 d)).bind _ = kVo2 fb d ρ (toT S1 (truD S1 d))
    cases toT S1 (truD S1 d) <;> rfl
  | _ => rfl
theorem eNot_ : eNot fa ρ S = kVn (fa ρ S) := by
  show (fa ρ S).bind _ = _
  cases fa ρ S with
  | ok d S1 =>
    show (toT S1 (truD S1 d)).bind _ = kVn2 (toT S1 (truD S1 d))
    cases toT S1 (truD S1 d) <;> rfl
  | _ => rfl
theorem eCh_ {g g' : D → D → Store → Option (D × Store)} : eCh g g' fa fb fc ρ S = kH g g' fb fc ρ (fa ρ S) := by
  show (fa ρ S).bind _ = _
  cases fa ρ S with
  | ok x S1 =>
    show (fb ρ S1).bind _ = kH1 g g' fc x ρ (fb ρ S1)
    cases fb ρ S1 with
    | ok y S2 =>
      show (toR (g x y S2)).bind _ = kH2 g' fc y ρ (toR (g x y S2))
      cases toR (g x y S2) with
      | ok z S3 =>
        cases z with
        | bl b =>
          cases b with
          | true =>
            show (fc ρ S3).bind _ = kH3 g' y (fc ρ S3)
            cases fc ρ S3 <;> rfl
          | false => rfl
        | _ => rfl
      | _ => rfl
    | _ => rfl
  | _ => rfl
/-! ### what goes on with an outcome -/
theorem kE_ : kE ρ (.ok d S) = .nx ρ S := nr rfl
theorem kR_ : kR ρ (.ok d S) = .rt d S := nr rfl
theorem kIf_t : kIf g h ρ (.ok true S) = g ρ S := nr rfl
theorem kIf_f : kIf g h ρ (.ok false S) = h ρ S := nr rfl
theorem kN_ : kN j ρ (.ok d S) = .nx (ρ.set j (some d)) S := nr rfl
theorem kA_ : kA tg ρ (.ok d S) = tgO (tg d ρ S) := nr rfl
theorem kIx1_ : kIx1 f d ρ (.ok x S) = kIx2 x d ρ (f ρ S) := nr rfl
theorem kIx2_ : kIx2 x d ρ (.ok y S) = kIx3 ρ (gSet x y d S) := nr rfl
theorem kIx3_ : kIx3 ρ (some S) = .nx ρ S := nr rfl
theorem kE1_ {g : D → Store → Option (D × Store)} : kE1 g (.ok x S) = toR (g x S) := nr rfl
theorem kE21_ {g : D → D → Store → Option (D × Store)} : kE21 g fb ρ (.ok x S) = kE2 g x (fb ρ S) := nr rfl
theorem kE2_ {g : D → D → Store → Option (D × Store)} : kE2 g x (.ok y S) = toR (g x y S) := nr rfl
theorem kB_ {g : List D → Store → Option (D × Store)} {xs : List D} : kB g (.ok xs S) = toR (g xs S) := nr rfl
theorem kF_ {F : List D → M D} {xs : List D} : kF F (.ok xs S) = F xs S := nr rfl
theorem kC1_ : kC1 fr ρ (.ok x S) = kC x (fr ρ S) := nr rfl
theorem kC_ {xs : List D} : kC x (.ok xs S) = .ok (x :: xs) S := nr rfl
theorem kM1_ {T : Ty} {g : D → List D → Store → Option (D × Store)} : kM1 g fx ρ T (.ok x S) = kM2 g fx ρ x S T (tyD S x) := nr rfl
theorem kM2_ {T : Ty} {g : D → List D → Store → Option (D × Store)} : kM2 g fx ρ x S T (some T) = kM g x (fx ρ S) := if_pos rfl
theorem kM_ {g : D → List D → Store → Option (D × Store)} {xs : List D} : kM g x (.ok xs S) = toR (g x xs S) := nr rfl
theorem kS1_ {lo hi : Env → Store → R (Option Int)} : kS1 lo hi ρ (.ok x S) = kS2 x hi ρ (lo ρ S) := nr rfl
theorem kS2_ {hi : Env → Store → R (Option Int)} {l : Option Int} : kS2 x hi ρ (.ok l S) = kS3 x l (hi ρ S) := nr rfl
theorem kS3_ {l h : Option Int} : kS3 x l (.ok h S) = toR (gSl x l h S) := nr rfl
theorem kO_ {i : Int} : kO (.ok (.int i) S) = .ok (some i) S := nr rfl
theorem kV_ : kV (.ok d S) = toT S (truD S d) := nr rfl
theorem kT_ {b : Bool} : kT (.ok (.bl b) S) = .ok b S := nr rfl
theorem kAn_t : kAn u ρ (.ok true S) = u ρ S := nr rfl
theorem kAn_f : kAn u ρ (.ok false S) = .ok false S := nr rfl
theorem kOr_t : kOr u ρ (.ok true S) = .ok true S := nr rfl
theorem kOr_f : kOr u ρ (.ok false S) = u ρ S := nr rfl
theorem kNo_ {b : Bool} : kNo (.ok b S) = .ok (!b) S := nr rfl
theorem kIfE_t : kIfE fa fb ρ (.ok true S) = fa ρ S := nr rfl
theorem kIfE_f : kIfE fa fb ρ (.ok false S) = fb ρ S := nr rfl
theorem kVa_ : kVa fb ρ (.ok d S) = kVa2 fb d ρ (toT S (truD S d)) := nr rfl
theorem kVa2_t : kVa2 fb d ρ (.ok true S) = fb ρ S := nr rfl
theorem kVa2_f : kVa2 fb d ρ (.ok false S) = .ok d S := nr rfl
theorem kVo_ : kVo fb ρ (.ok d S) = kVo2 fb d ρ (toT S (truD S d)) := nr rfl
theorem kVo2_t : kVo2 fb d ρ (.ok true S) = .ok d S := nr rfl
theorem kVo2_f : kVo2 fb d ρ (.ok false S) = fb ρ S := nr rfl
theorem kVn_ : kVn (.ok d S) = kVn2 (toT S (truD S d)) := nr rfl
theorem kVn2_ {b : Bool} : kVn2 (.ok b S) = .ok (.bl (!b)) S := nr rfl
theorem kH_ {g g' : D → D → Store → Option (D × Store)} : kH g g' fb fc ρ (.ok x S) = kH1 g g' fc x ρ (fb ρ S) := nr rfl
theorem kH1_ {g g' : D → D → Store → Option (D × Store)} : kH1 g g' fc x ρ (.ok y S) = kH2 g' fc y ρ (toR (g x y S)) := nr rfl
theorem kH2_t {g' : D → D → Store → Option (D × Store)} : kH2 g' fc y ρ (.ok (.bl true) S) = kH3 g' y (fc ρ S) := nr rfl
theorem kH2_f {g' : D → D → Store → Option (D × Store)} : kH2 g' fc y ρ (.ok (.bl false) S) = .ok (.bl false) S := nr rfl
theorem kH3_ {g' : D → D → Store → Option (D × Store)} : kH3 g' y (.ok x S) = toR (g' y x S) := nr rfl
theorem toT_some {b : Bool} : toT S (some b) = .ok b S := nr rfl
theorem truD_bl {b : Bool} : truD S (.bl b) = some b := nr rfl
theorem truD_int {b : Int} : truD S (.int b) = some (b != 0) := nr rfl
theorem truD_tup {xs : List D} : truD S (.tup xs) = some (!xs.isEmpty) := nr rfl
theorem tyD_str {a : Str} : tyD S (.str a) = some .str := nr rfl
theorem tyD_tup {a : List D} : tyD S (.tup a) = some .tup := nr rfl
theorem tyD_int {a : Int} : tyD S (.int a) = some .int := nr rfl
theorem tyD_bl {a : Bool} : tyD S (.bl a) = some .bl := nr rfl
theorem tyD_non : tyD S .non = some .non := nr rfl
theorem tyD_lst {l : Nat} {xs : List D} (h : S[l]? = some (.lst xs)) : tyD S (.ref l) = some .lst := by unfold tyD; simp only [h]
theorem lstAt_lst {l : Nat} {xs : List D} (h : S[l]? = some (.lst xs)) : lstAt S l = some xs := by unfold lstAt; rw [h]
theorem gAdd_int {a b : Int} : gAdd (.int a) (.int b) S = some (.int (a + b), S) := nr rfl
theorem gAdd_str {a b : Str} (h : a.length + b.length ≤ 16777216) : gAdd (.str a) (.str b) S = some (.str (a ++ b), S) := if_pos h
theorem gAdd_tup {xs ys : List D} (h0 : 0 < xs.length) (h : xs.length + ys.length ≤ 16777216) : gAdd (.tup xs) (.tup ys) S = some (.tup (xs ++ ys), S) := by
  cases xs with
  | nil => exact absurd h0 (Nat.lt_irrefl _)
  | cons x xs => exact if_pos h
theorem gAdd_tup0 {ys : List D} : gAdd (.tup []) (.tup ys) S = some (.tup ys, S) := nr rfl
theorem gAdd_lst {l k : Nat} {xs ys : List D} (h1 : S[l]? = some (.lst xs)) (h2 : S[k]? = some (.lst ys)) (h : xs.length + ys.length ≤ 16777216) : gAdd (.ref l) (.ref k) S = some (.ref S.length, S ++ [.lst (xs ++ ys)]) := by
  show catL S l k = _
  unfold catL
  rw [h1, h2]
  exact if_pos h
theorem gSub_int {a b : Int} : Dl.gSub (.int a) (.int b) S = some (.int (a - b), S) := nr rfl
theorem gMul_l {a b : Int} (h0 : 0 ≤ a) (h1 : a < 18446744073709551616) : gMul (.int a) (.int b) S = some (.int (a * b), S) := if_pos (.inl ⟨by omega, by omega⟩)
theorem gMul_r {a b : Int} (h0 : 0 ≤ b) (h1 : b < 18446744073709551616) : gMul (.int a) (.int b) S = some (.int (a * b), S) := if_pos (.inr ⟨by omega, by omega⟩)
theorem gFdiv_int {a b : Int} (h0 : 0 < b) (h1 : b < 1073741824) : gFdiv (.int a) (.int b) S = some (.int (a / b), S) := if_pos ⟨h0, h1⟩
theorem gMod_int {a b : Int} (h0 : 0 < b) : gMod (.int a) (.int b) S = some (.int (a % b), S) := if_pos h0
theorem gLt_int {a b : Int} : gLt (.int a) (.int b) S = some (.bl (decide (a < b)), S) := nr rfl
theorem gLe_int {a b : Int} : gLe (.int a) (.int b) S = some (.bl (decide (a ≤ b)), S) := nr rfl
theorem gGt_int {a b : Int} : gGt (.int a) (.int b) S = some (.bl (decide (b < a)), S) := nr rfl
theorem gGe_int {a b : Int} : gGe (.int a) (.int b) S = some (.bl (decide (b ≤ a)), S) := nr rfl
theorem gInt_int {a : Int} : gInt [.int a] S = some (.int a, S) := nr rfl
theorem gAbs_int {a : Int} : gAbs [.int a] S = some (.int (if a < 0 then -a else a), S) := nr rfl
theorem gLen_tup {xs : List D} : gLen [.tup xs] S = some (.int xs.length, S) := nr rfl
theorem gLen_str {x : Str} : gLen [.str x] S = some (.int x.length, S) := nr rfl
theorem gLen_lst {l : Nat} {xs : List D} (h : lstAt S l = some xs) : gLen [.ref l] S = some (.int xs.length, S) := by show Option.map _ (lstAt S l) = _; rw [h]; rfl
theorem gTpl_ {xs : List D} (h : xs.length ≤ 16777216) : gTpl xs S = some (.tup xs, S) := if_pos h
theorem gLsd_ {xs : List D} (h : xs.length ≤ 16777216) : gLsd xs S = some (.ref S.length, S ++ [.lst xs]) := if_pos h
theorem gIx_tup {xs : List D} {k : Int} (h : atI xs k = some d) : gIx (.tup xs) (.int k) S = some (d, S) := by show Option.map _ (atI xs k) = _; rw [h]; rfl
theorem gIx_lst {l : Nat} {xs : List D} {k : Int} (h : lstAt S l = some xs) (h2 : atI xs k = some d) : gIx (.ref l) (.int k) S = some (d, S) := by
  show (lstAt S l).bind (fun xs => (atI xs k).map fun d => (d, S)) = _
  rw [h]
  show Option.map _ (atI xs k) = _
  rw [h2]
  rfl
theorem gIx_str {x : Str} {k : Int} {c : Nat} (h : atI x.cps.toList k = some c) : gIx (.str x) (.int k) S = some (.str ⟨#[c]⟩, S) := by show Option.map _ (atI x.cps.toList k) = _; rw [h]; rfl
theorem gSet_lst {l : Nat} {xs : List D} {k : Int} {m : Nat} (h : S[l]? = some (.lst xs)) (h2 : ixN xs.length k = some m) : gSet (.ref l) (.int k) d S = some (S.set l (.lst (xs.set m d))) := by
  show (match S[l]? with | some (.lst xs) => (ixN xs.length k).map fun j => S.set l (.lst (xs.set j d)) | _ => none) = _
  rw [h]
  show Option.map _ (ixN xs.length k) = _
  rw [h2]
  rfl
theorem gAppend_ {l : Nat} {xs : List D} (h : S[l]? = some (.lst xs)) (hz : xs.length < 16777216) : gAppend (.ref l) [d] S = some (.non, S.set l (.lst (xs ++ [d]))) := by
  show (match S[l]? with | some (.lst xs) => if xs.length < LIM then some (D.non, S.set l (.lst (xs ++ [d]))) else none | _ => none) = _
  rw [h]
  exact if_pos hz
theorem tgT_ {ts : List (D → SX)} {ds : List D} (h : ds.length = ts.length) : tgT ts (.tup ds) ρ S = tgL ts ds ρ S := by
  show (if ds.length = ts.length then tgL ts ds else sNo) ρ S = _
  rw [if_pos h]
theorem tgL0 : tgL [] [] ρ S = .nx ρ S := nr rfl
theorem tgL1 {ts : List (D → SX)} {ds : List D} {j : Nat} : tgL (nm j :: ts) (d :: ds) ρ S = tgL ts ds (ρ.set j (some d)) S := nr rfl
/-! ### what a def leaves -/
theorem runB_rt {np ns : Nat} {ds : List D} {S' : Store} (h : ds.length = np) (hg : g (ds.map some ++ List.replicate (ns - np) none) S = .rt d S') : runB np ns g ds S = cmp S.length d S' := by
  unfold runB
  rw [if_pos h, hg]
theorem runB_nx {np ns : Nat} {ds : List D} {ρ' : Env} {S' : Store} (h : ds.length = np) (hg : g (ds.map some ++ List.replicate (ns - np) none) S = .nx ρ' S') : runB np ns g ds S = cmp S.length D.non S' := by
  unfold runB
  rw [if_pos h, hg]
theorem cmp_same {n : Nat} (h : S.length = n) (w : d.wf n = true) : cmp n d S = .ok d S := by
  unfold cmp
  rw [← h, List.take_length]
  split
  · rw [if_pos (by rw [h]; exact w)]
  · rfl
theorem cmp_more {n : Nat} {T : Store} (h : S.length = n) (wS : SWf n S = true) (w : d.wf n = true) : cmp n d (S ++ T) = .ok d S := by
  unfold cmp
  rw [← h, List.take_left' rfl]
  rw [if_pos (by rw [h]; exact wS), if_pos (by rw [h]; exact w)]
theorem cmp_new {n l : Nat} {T : Store} {xs : List D} (h : S.length = n) (wS : SWf n S = true) (hl : n ≤ l) (hx : (S ++ T)[l]? = some (.lst xs)) (w : wfs n xs = true) : cmp n (.ref l) (S ++ T) = .ok (.ref n) (S ++ [.lst xs]) := by
  unfold cmp
  have e : (S ++ T).take n = S := by rw [← h]; exact List.take_left' rfl
  rw [e, if_pos wS, if_neg (show ¬ (D.ref l).wf n = true from fun z => by
    have z' : l < n := of_decide_eq_true z
    omega)]
  simp only [hx, newCell, w, if_true]
mutual
theorem wf_flat {n : Nat} : ∀ {d : D}, d.flat = true → d.wf n = true
  | .non, _ => rfl
  | .bl _, _ => rfl
  | .int _, _ => rfl
  | .str _, _ => rfl
  | .tup xs, h => wfs_flat (show flats xs = true from h)
  | .ref _, h => nomatch h
  | .raw _, _ => rfl
theorem wfs_flat {n : Nat} : ∀ {ds : List D}, flats ds = true → wfs n ds = true
  | [], _ => rfl
  | d :: ds, h => by
    have h' : (d.flat && flats ds) = true := h
    rw [Bool.and_eq_true] at h'
    show (d.wf n && wfs n ds) = true
    rw [wf_flat h'.1, wfs_flat h'.2]
    rfl
end
/-- all cells hold flat data -/
def Cell.flat : Cell → Bool
  | .lst xs => flats xs
  | .rol xs => flats xs
  | .dic kvs => flats (kvs.map (·.2))
  | .gone => true
def SFlat (S : Store) : Prop := ∀ c ∈ S, Cell.flat c = true
theorem SFlat.wf {n : Nat} (h : SFlat S) : SWf n S = true := by
  refine List.all_eq_true.mpr fun c hc => ?_
  have q := h c hc
  cases c with
  | lst xs => exact wfs_flat q
  | rol xs => exact wfs_flat q
  | dic kvs => exact wfs_flat q
  | gone => rfl
theorem SFlat.set {c : Cell} (h : SFlat S) (hc : c.flat = true) : SFlat (S.set i c) := fun x hx => by
  rcases List.mem_or_eq_of_mem_set hx with q | q
  · exact h x q
  · rw [q]; exact hc
theorem SFlat.push {c : Cell} (h : SFlat S) (hc : c.flat = true) : SFlat (S ++ [c]) := fun x hx => by
  rcases List.mem_append.mp hx with q | q
  · exact h x q
  · rw [List.mem_singleton.mp q]; exact hc
end
end Dl

set_option Elab.async false
set_option linter.all false
set_option maxRecDepth 100000
namespace Dl
open PySem L2
/-! ## tools -/
theorem set_self {S : Store} {p : Nat} {c : Cell} (h : S[p]? = some c) : S.set p c = S := by
  apply List.ext_getElem?
  intro i
  by_cases e : p = i
  · subst e
    rw [List.getElem?_set_self (List.getElem?_eq_some_iff.mp h).1, h]
  · rw [List.getElem?_set_ne e]
theorem get_lt {α : Type} {S : List α} {p : Nat} {c : α} (h : S[p]? = some c) : p < S.length := (List.getElem?_eq_some_iff.mp h).1
theorem get_set {S : Store} {p : Nat} {c d : Cell} (h : S[p]? = some c) : (S.set p d)[p]? = some d := List.getElem?_set_self (get_lt h)
theorem get_app {α : Type} {S T : List α} {p : Nat} {c : α} (h : S[p]? = some c) : (S ++ T)[p]? = some c := by
  rw [List.getElem?_append_left (get_lt h)]
  exact h
theorem set_app {S T : Store} {p : Nat} {c d : Cell} (h : S[p]? = some c) : (S ++ T).set p d = S.set p d ++ T := List.set_append_left _ _ (get_lt h)
theorem get_end {S : Store} {c : Cell} : (S ++ [c])[S.length]? = some c := by rw [List.getElem?_append_right (Nat.le_refl _), Nat.sub_self]; rfl
theorem set_end {S : Store} {c d : Cell} : (S ++ [c]).set S.length d = S ++ [d] := by rw [List.set_append_right _ _ (Nat.le_refl _), Nat.sub_self]; rfl
theorem atI_of {α : Type} {xs : List α} {k : Int} {v : α} (h0 : 0 ≤ k) (h : xs[k.toNat]? = some v) : atI xs k = some v := by
  have e : k = ((k.toNat : Nat) : Int) := by omega
  rw [e]
  exact atI_nat h
theorem atI_in {α : Type} {xs : List α} {k : Int} (h0 : 0 ≤ k) (h1 : k < xs.length) : ∃ v, atI xs k = some v ∧ v ∈ xs := by
  have hk : k.toNat < xs.length := by omega
  exact ⟨xs[k.toNat], atI_of h0 (List.getElem?_eq_getElem hk), List.getElem_mem hk⟩
theorem chk_nil {S : Store} : chkOk [] S := fun _ h => nomatch h
theorem chk_one {S : Store} {l : Nat} {xs : List D} (h : lstAt S l = some xs) : chkOk [(l, xs)] S := fun p hp => by rw [List.mem_singleton.mp hp]; exact h
section
variable {tg : D → SX} {body : SX} {k : Chk} {d : D} {ds : List D} {ρ ρ1 ρ2 : Env} {S S1 S2 : Store}
theorem runF_nil (h : chkOk k S) : runF tg body k [] ρ S = .nx ρ S := by unfold runF; rw [if_pos h]
theorem runF_cons (h : chkOk k S) (ht : tg d ρ S = .nx ρ1 S1) (hb : body ρ1 S1 = .nx ρ2 S2) : runF tg body k (d :: ds) ρ S = runF tg body k ds ρ2 S2 := by
  rw [runF, if_pos h, ht]
  show (match body ρ1 S1 with | .nx ρ2 S2 => runF tg body k ds ρ2 S2 | .ct ρ2 S2 => runF tg body k ds ρ2 S2 | .bk ρ2 S2 => .nx ρ2 S2 | o => o) = _
  rw [hb]
theorem sF_ok {src : IX} {p : List D × Chk} {S' : Store} (h : src ρ S = .ok p S') : sF src tg body ρ S = runF tg body p.2 p.1 ρ S' := by
  show (src ρ S).out ρ _ = _
  rw [h]
  rfl
theorem iR1_ok {f : EX} {j : Int} {S' : Store} (h : f ρ S = .ok (.int j) S') (h0 : 0 ≤ j) (h1 : j < 1000000000) : iR1 f ρ S = .ok (rng 0 j.toNat, []) S' := by
  show (f ρ S).bind _ = _
  rw [h]
  exact if_pos ⟨by omega, by omega⟩
theorem iA_lst {f : EX} {l : Nat} {S' : Store} {xs : List D} (h : f ρ S = .ok (.ref l) S') (hl : lstAt S' l = some xs) : iA f ρ S = .ok (xs, [(l, xs)]) S' := by
  show (f ρ S).bind _ = _
  rw [h]
  show (match lstAt S' l with | some xs => R.ok (xs, [(l, xs)]) S' | none => .no) = _
  rw [hl]
theorem iA_tup {f : EX} {S' : Store} {xs : List D} (h : f ρ S = .ok (.tup xs) S') : iA f ρ S = .ok (xs, []) S' := by
  show (f ρ S).bind _ = _
  rw [h]
  rfl
theorem iA_str {f : EX} {S' : Store} {x : Str} (h : f ρ S = .ok (.str x) S') : iA f ρ S = .ok (x.cps.toList.map fun c => .str ⟨#[c]⟩, []) S' := by
  show (f ρ S).bind _ = _
  rw [h]
  rfl
/-- over a range -/
theorem rng_succ (n : Nat) (lo : Int) : rng lo (n + 1) = .int lo :: rng (lo + 1) n := by
  unfold rng
  rw [List.range_succ_eq_map, List.map_cons, List.map_map]
  congr 1
  · simp
  · apply List.map_congr_left
    intro i _
    show D.int (lo + ((i + 1 : Nat) : Int)) = .int (lo + 1 + (i : Nat))
    congr 1
    omega
theorem rng_length (n : Nat) (lo : Int) : (rng lo n).length = n := by unfold rng; rw [List.length_map, List.length_range]
/-- a comprehension over items that leaves the store as it is: the items' values -/
theorem runC_map {l : Nat} {g : Cg} {ft : TX} {fe : EX} (val : D → D) (keep : D → Bool) : ∀ (ds acc : List D) (T : Store), SFlat T → l = T.length → acc.length + ds.length ≤ 1000000 → (∀ S, chkOk k T → chkOk k (T ++ S)) → chkOk k T →
    (∀ d ∈ ds, ∃ ρ1, g.put d ρ = some ρ1 ∧ ∀ a, ft ρ1 (T ++ [.lst a]) = .ok (keep d) (T ++ [.lst a]) ∧ (keep d = true → fe ρ1 (T ++ [.lst a]) = .ok (val d) (T ++ [.lst a]))) →
    runC l ρ g ft fe k ds (T ++ [.lst acc]) = .ok (.ref l) (T ++ [.lst (acc ++ (ds.filter keep).map val)])
  | [], acc, T, hT, hl, hz, hk, hk0, _ => by
    unfold runC
    rw [if_pos (hk _ hk0)]
    simp
  | d :: ds, acc, T, hT, hl, hz, hk, hk0, hd => by
    obtain ⟨ρ1, h1, h2⟩ := hd d (List.mem_cons_self ..)
    obtain ⟨h3, h4⟩ := h2 acc
    have hz' : acc.length + (ds.length + 1) ≤ 1000000 := hz
    unfold runC
    rw [if_pos (hk _ hk0)]
    simp only [h1, h3]
    cases hkd : keep d with
    | false =>
      simp only
      rw [runC_map val keep ds acc T hT hl (by omega) hk hk0 fun x hx => hd x (List.mem_cons_of_mem _ hx), List.filter_cons_of_neg (by rw [hkd]; exact Bool.false_ne_true)]
    | true =>
      have h4' := h4 hkd
      subst hl
      simp only [h4', get_end]
      rw [if_pos (show acc.length < LIM by show acc.length < 16777216; omega), set_end, runC_map val keep ds (acc ++ [val d]) T hT rfl (by rw [List.length_append]; simp only [List.length_singleton]; omega) hk hk0 fun x hx => hd x (List.mem_cons_of_mem _ hx),
        List.filter_cons_of_pos hkd, List.map_cons, List.append_assoc]
      rfl
theorem eLc_ok {vs : List Nat} {src : IX} {g : Cg} {ft : TX} {fe : EX} {p : List D × Chk} {S' : Store} (h : src ρ S = .ok p S') : eLc vs src g ft fe ρ S = runC S'.length (wipeD ρ vs) g ft fe p.2 p.1 (S' ++ [.lst []]) := by
  show (src ρ S).bind _ = _
  rw [h]
  rfl
end
end Dl

set_option Elab.async false
set_option linter.all false
set_option maxRecDepth 100000
namespace Dl
open PySem L2
/-! ## exceptions -/
def sX (x : Str) : SX := fun ρ S => .ex ⟨x, []⟩ ρ S
/-- what the written part says of an own error class without own __init__ -/
structure XCls (K : PySem.W.Frag) (mg : Str → Option Value) (x : Str) (bm : List Value) (nid : String) (C : Addr) : Prop where
  m : mg x = some (.ref C)
  q : PySem.W.excIn K C bm nid = true
  k : PySem.W.keepIn K (.ref C) = true
  s : PySem.W.subIn K (.ref C) (.type "BaseException") = some true
  t : PySem.W.typeIn K (.ref C) = some (.type "type")
section
variable {X : Cx} {W : WX} {C : Addr} {bm : List Value} {B nid iid : String}
theorem t_raise {x m : Str} {j : Nat} {p p2 pos pos2 : Pos} (hc : X.calm = true) (tk : Takes X W) (F : ExcBaseFacts B nid iid bm) (T : XCls X.K X.mg x bm nid C) (hg : Gl X x) (hdb : (x == ("__debug__" : Str)) = false := by decide) :
    PS X (.Raise (some (.Call (.Name x p) [.Constant (.str m) j p2] [] pos)) none pos2) (rdS (X.cq W) (sX x)) :=
  PSwk (ps_raise hc tk (pmk_own F T.q T.m T.k (raises_own T.s T.t) hg hdb)) fun Dn σ H ⟨m, ρ, S, re, rs, h⟩ => h (.ref C) none σ H m .refl re rs ⟨T.m, rfl⟩
end
/-- a slot laid bare -/
def clr (i : Nat) : Out → Out
  | .nx ρ S => .nx (ρ.set i none) S
  | .bk ρ S => .bk (ρ.set i none) S
  | .ct ρ S => .ct (ρ.set i none) S
  | .rt d S => .rt d S
  | _ => .no
abbrev Tab := List (Str × Bool × (Addr → SX))
/-- try: g; except .. as slot i: by the table -/
def sTry (i : Nat) (L : Tab) (g : SX) : SX := fun ρ S => match g ρ S with
  | .ex x ρ1 S1 => match x.fs, L.lookup x.name with
    | [], some (true, su) => clr i (su 0 (ρ1.set i (some (.raw (.ref 0)))) S1)
    | [], some (false, _) => .ex x ρ1 S1
    | _, _ => .no
  | o => o
theorem re_unset {K : PySem.W.Frag} {m : List Addr} {H : Hp} {σ : St} {ρ : Env} (r : RE K m H σ ρ) (i : Nat) : RE K m H (σ.set i none) (ρ.set i none) := by
  refine ⟨by rw [List.length_set, List.length_set]; exact r.len, fun {j d'} e => ?_⟩
  by_cases z : i = j
  · subst z
    rw [List.getElem?_set] at e
    split at e
    · split at e
      · cases e
      · cases e
    · exact absurd rfl (by assumption)
  · rw [List.getElem?_set_ne z] at e
    obtain ⟨v, h1, h2⟩ := r.at_ e
    exact ⟨v, by rw [List.getElem?_set_ne z]; exact h1, h2⟩
structure TryEnt (X : Cx) (W : WX) (c : Value) (i : Nat) (suite : List Stmt) (p : Str × Bool × (Addr → SX)) : Prop where
  cls : ∃ C, X.mg p.1 = some (.ref C) ∧ PySem.W.exmOne X.K (.ref C) c = some p.2.1 ∧
    (p.2.1 = true → ∀ (a : Addr) (oe : Obj) (pn : List (Addr × Obj)), Zc (.ref C) none oe → (∃ vs, oe.data = .fields vs) → PSs (X.suite a ((a, oe) :: pn)) suite (rdS ((X.suite a ((a, oe) :: pn)).cq W0) (p.2.2 a)))
  sim : p.2.1 = true → ∀ (a : Addr) (ρ : Env) (S : Store), clr i (p.2.2 a (ρ.set i (some (.raw (.ref a)))) S) = clr i (p.2.2 0 (ρ.set i (some (.raw (.ref 0)))) S)
inductive Ents (X : Cx) (W : WX) (c : Value) (i : Nat) (suite : List Stmt) : Tab → Prop
  | nil : Ents X W c i suite []
  | cons {p : Str × Bool × (Addr → SX)} {L : Tab} (h : TryEnt X W c i suite p) (t : Ents X W c i suite L) : Ents X W c i suite (p :: L)
theorem Ents.all {X : Cx} {W : WX} {c : Value} {i : Nat} {suite : List Stmt} : ∀ {L : Tab}, Ents X W c i suite L → ∀ p ∈ L, TryEnt X W c i suite p
  | _, .cons h t, p, hp => by
    rcases List.mem_cons.mp hp with rfl | hp
    · exact h
    · exact t.all p hp
theorem ent_t {X : Cx} {W : WX} {c : Value} {i : Nat} {suite : List Stmt} {R : Str} {su : Addr → SX} {C : Addr} (m : X.mg R = some (.ref C)) (x : PySem.W.exmOne X.K (.ref C) c = some true)
    (h : ∀ (a : Addr) (oe : Obj) (pn : List (Addr × Obj)), Zc (.ref C) none oe → (∃ vs, oe.data = .fields vs) → PSs (X.suite a ((a, oe) :: pn)) suite (rdS ((X.suite a ((a, oe) :: pn)).cq W0) (su a)))
    (s : ∀ (a : Addr) (ρ : Env) (S : Store), clr i (su a (ρ.set i (some (.raw (.ref a)))) S) = clr i (su 0 (ρ.set i (some (.raw (.ref 0)))) S)) : TryEnt X W c i suite (R, true, su) := ⟨⟨C, m, x, fun _ => h⟩, fun _ => s⟩
theorem ent_f {X : Cx} {W : WX} {c : Value} {i : Nat} {suite : List Stmt} {R : Str} {su : Addr → SX} {C : Addr} (m : X.mg R = some (.ref C)) (x : PySem.W.exmOne X.K (.ref C) c = some false) : TryEnt X W c i suite (R, false, su) :=
  ⟨⟨C, m, x, fun h => nomatch h⟩, fun h => nomatch h⟩
theorem lookup_mem {α : Type} {x : Str} {v : α} : ∀ {L : List (Str × α)}, L.lookup x = some v → (x, v) ∈ L
  | (y, w) :: L, h => by
    rw [List.lookup_cons] at h
    cases e : x == y with
    | true => rw [e] at h; cases h; rw [show x = y from LawfulBEq.eq_of_beq e]; exact List.mem_cons_self ..
    | false => rw [e] at h; exact List.mem_cons_of_mem _ (lookup_mem h)
section
variable {X : Cx} {W : WX} {x n : Str} {c : Value} {i : Nat} {body suite : List Stmt} {b₀ : Stmt} {np pos pos' : Pos} {g : SX} {L : Tab}
theorem t_try (hs : X.stack = X.env :: X.outer) (hf : X.env.frame = some X.env.locals) (hN : X.N.Nodup) (hi : X.N[i]? = some n) (hln : X.env.kindOf n = some .local) (hc : Names X x c) (tk : Takes X W)
    (hb : ∀ (W : WX) (pn : List (Addr × Obj)) (xe : Value → Shared → Prop), Takes (X.tr pn xe) W → PassesOwn (model X.prog X.w) X.A X.env xe → PSs (X.tr pn xe) body (rdS ((X.tr pn xe).cq W) g))
    (hLs : Ents X W c i (b₀ :: suite) L) :
    PS X (.Try body [.ExceptHandler (some (.Name x np)) (some n) (b₀ :: suite) pos'] [] [] pos) (rdS (X.cq W) (sTry i L g)) := by
  have hL := hLs.all
  refine PSwk (ps_try_as (tb := fun W' => rdS ⟨X.K, X.mg, W'⟩ g) (ts := fun a cls d => fun D σ H => d = none ∧ ∃ p ∈ L, X.mg p.1 = some cls ∧ p.2.1 = true ∧ rdS ⟨X.K, X.mg, W0⟩ (p.2.2 a) D σ H) hs hf hN hi hln hc tk hb fun a oe cls d pn hz hv => ⟨fun pins s σ H D I ⟨hd, p, hp, hm, ht, q⟩ => ?_⟩) fun Dn σ H ⟨m, ρ, S, re, rs, h⟩ => ⟨m, ρ, S, re, rs, ?_⟩
  · obtain ⟨C, h1, h2, h3⟩ := (hL p hp).cls
    rw [h1] at hm
    cases hm
    subst hd
    exact (h3 ht a oe pn hz hv).run pins s σ H D I q
  · have h : PostS (X.cq W) m H Dn (match g ρ S with
      | .ex x ρ1 S1 => match x.fs, L.lookup x.name with
        | [], some (true, su) => clr i (su 0 (ρ1.set i (some (.raw (.ref 0)))) S1)
        | [], some (false, _) => .ex x ρ1 S1
        | _, _ => .no
      | o => o) := h
    cases e : g ρ S with
    | ex z ρ1 S1 =>
      rw [e] at h
      simp only at h
      intro cls dd σ1 H1 m1 ex1 re1 rs1 rx
      obtain ⟨rx1, rx2⟩ := rx
      split at h
      · rename_i su efs el
        have hm := lookup_mem el
        obtain ⟨C, h1, h2, h3⟩ := (hL _ hm).cls
        have sim := (hL _ hm).sim rfl
        rw [efs] at rx2
        have h1' : X.mg z.name = some (.ref C) := h1
        have rx1' : X.mg z.name = some cls := rx1
        rw [h1'] at rx1'
        cases rx1'
        refine ⟨true, h2, fun _ a ha => ⟨rx2, _, hm, h1, rfl, ?_⟩, (fun q => nomatch q)⟩
        refine ⟨m1, ρ1.set i (some (.raw (.ref a))), S1, re1.set (.raw _) i, rs1, ?_⟩
        rw [← sim a ρ1 S1] at h
        have h := PostS.mono (c := X.cq W) (m1 := m1) (H1 := H1) ex1 h
        revert h
        show PostS (X.cq W) m1 H1 Dn (clr i (su a _ S1)) → PostS _ m1 H1 _ (su a _ S1)
        cases su a (ρ1.set i (some (.raw (.ref a)))) S1 with
        | nx ρ' S' => exact fun h σ' H' m' e re rs => h _ H' m' e (re_unset re i) rs
        | bk ρ' S' => exact fun h σ' H' m' e re rs => h _ H' m' e (re_unset re i) rs
        | ct ρ' S' => exact fun h σ' H' m' e re rs => h _ H' m' e (re_unset re i) rs
        | rt d S' => exact fun h => h
        | ex x ρ' S' => exact fun h => h.elim
        | no => exact fun h => h.elim
      · rename_i su efs el
        have hm := lookup_mem el
        obtain ⟨C, h1, h2, h3⟩ := (hL _ hm).cls
        have h1' : X.mg z.name = some (.ref C) := h1
        have rx1' : X.mg z.name = some cls := rx1
        rw [h1'] at rx1'
        cases rx1'
        exact ⟨false, h2, (fun q => nomatch q), fun _ => h (.ref C) dd σ1 H1 m1 ex1 re1 rs1 ⟨h1', rx2⟩⟩
      · exact h.elim
    | nx ρ1 S1 => rw [e] at h; exact h
    | bk ρ1 S1 => rw [e] at h; exact h
    | ct ρ1 S1 => rw [e] at h; exact h
    | rt d S1 => rw [e] at h; exact h
    | no => rw [e] at h; exact h
end
/-- isinstance's answers, from what k_is finds -/
theorem kit_t {K : PySem.W.Frag} {R C : Addr} (hd : PySem.W.hasDictIn K C = true) (ht : PySem.W.typeIn K (.ref C) = some (.type "type")) (h : PySem.W.subIn K (.ref R) (.ref C) = some true) : PySem.W.kitOne K (.ref R) (.ref C) = some true := by
  obtain ⟨cd, hc, _⟩ := PySem.W.any_some hd
  have e2 : ((PySem.W.clsIn K C).isSome && PySem.W.typeIn K (.ref C) == some (.type "type")) = true := by rw [hc, ht] <;> rfl
  show (if (Value.ref R == Value.ref C) = true then some true else if ((PySem.W.clsIn K C).isSome && PySem.W.typeIn K (.ref C) == some (.type "type")) = true then PySem.W.subIn K (.ref R) (.ref C) else none) = some true
  by_cases e : (Value.ref R == Value.ref C) = true
  · rw [if_pos e]
  · rw [if_neg e, if_pos e2]; exact h
theorem kit_f {K : PySem.W.Frag} {R C : Addr} (hd : PySem.W.hasDictIn K C = true) (ht : PySem.W.typeIn K (.ref C) = some (.type "type")) (h : PySem.W.subIn K (.ref R) (.ref C) = some false) (hn : (Value.ref R == Value.ref C) = false) : PySem.W.kitOne K (.ref R) (.ref C) = some false := by
  obtain ⟨cd, hc, _⟩ := PySem.W.any_some hd
  have e2 : ((PySem.W.clsIn K C).isSome && PySem.W.typeIn K (.ref C) == some (.type "type")) = true := by rw [hc, ht] <;> rfl
  show (if (Value.ref R == Value.ref C) = true then some true else if ((PySem.W.clsIn K C).isSome && PySem.W.typeIn K (.ref C) == some (.type "type")) = true then PySem.W.subIn K (.ref R) (.ref C) else none) = some false
  rw [hn, if_neg Bool.false_ne_true, if_pos e2]
  exact h
theorem kit_b {K : PySem.W.Frag} {R : Addr} {T : String} {b : Bool} (hm : PySem.W.kitMeta T = true) (h : PySem.W.subIn K (.ref R) (.type T) = some b) : PySem.W.kitOne K (.ref R) (.type T) = some b := by
  show (if (Value.ref R == Value.type T) = true then some true else if PySem.W.kitMeta T = true then PySem.W.subIn K (.ref R) (.type T) else none) = some b
  rw [show (Value.ref R == Value.type T) = false from rfl, if_neg Bool.false_ne_true, if_pos hm]
  exact h
/-! ### isinstance of the error that the suite holds -/
def eIs (i : Nat) (a : Addr) (b : Bool) : EX := fun ρ S => match ρ[i]? with
  | some (some (.raw (.ref a'))) => if a' = a then .ok (.bl b) S else .no
  | _ => .no
def gIsE (a : Addr) (cv : V) (b : Bool) : List D → Store → Option (D × Store)
  | [.raw x, .raw y], S => if x = .ref a ∧ y = cv then some (.bl b, S) else none
  | _, _ => none
section
variable {X : Cx} {C : Addr} {a : Addr} {oe : Obj} {pn : List (Addr × Obj)} {cv : V} {cu : Value} {b : Bool}
theorem c_isE (E : ExcC X.K C) (hz : Zc (.ref C) none oe) (hf : ∃ vs, oe.data = .fields vs) (hk : PySem.W.kitOne X.K (.ref C) cu = some b) (hr : ∀ u, RelV cv u → u = cu) :
    CallR (X.suite a ((a, oe) :: pn)) (.builtin "isinstance") (rdC X.K (gIsE a cv b)) := by
  intro pins s σ H vs us Q I r ⟨m, xs, S, hx, rs, h⟩
  unfold gIsE at h
  split at h
  · rename_i x y
    split at h
    · rename_i hc
      obtain ⟨rfl, rfl⟩ := hc
      cases hx with
      | cons h1 h2 =>
        cases h2 with
        | cons h3 h4 =>
          cases h4
          cases h1 with
          | raw =>
            cases h3 with
            | raw => exact call_isE E hz hf pins s σ H _ us Q I r ⟨_, cu, b, rfl, hr, hk, h _ _ m .refl rs (.bl b)⟩
    · exact h.elim
  · exact h.elim
theorem d_isE {i : Nat} {e1 e2 : Expr} {p pos : Pos} (E : ExcC X.K C) (hz : Zc (.ref C) none oe) (hf : ∃ vs, oe.data = .fields vs) (hk : PySem.W.kitOne X.K (.ref C) cu = some b) (hr : ∀ u, RelV cv u → u = cu)
    (hg : Gl (X.suite a ((a, oe) :: pn)) "isinstance") (hm : X.mg "isinstance" = none) (hv : bootBuiltins "isinstance" = some (.builtin "isinstance"))
    (ha : PA (X.suite a ((a, oe) :: pn)) [e1, e2] (rdA ((X.suite a ((a, oe) :: pn)).cq W0) (aC (eV i) (aC (eC (.raw cv)) aN))))
    (he : starEach (e1 :: [e2]) X.env = (false, eval e1 X.env) :: starEach [e2] X.env := by rfl) (hpl : (backTo pos (starEach [e2] X.env)).any (·.1) = false := by rfl) :
    PE (X.suite a ((a, oe) :: pn)) (.Call (.Name "isinstance" p) [e1, e2] [] pos) (rdE ((X.suite a ((a, oe) :: pn)).cq W0) (eIs i a b)) := by
  refine PEwk (d_callB (c_isE (a := a) (pn := pn) E hz hf hk hr) hg hm hv ha (by decide) (by decide) he hpl) fun σ H Q ⟨m, ρ, S, re, rs, h⟩ => ⟨m, ρ, S, re, rs, ?_⟩
  unfold eIs at h
  split at h
  · rename_i a' e
    split at h
    · rename_i ea
      subst ea
      have e' : eB (gIsE a' cv b) (aC (eV i) (aC (eC (.raw cv)) aN)) ρ S = .ok (.bl b) S := by
        show (R.bind (R.bind (eV i ρ S) _) _) = _
        unfold eV
        rw [e]
        show toR (if V.ref a' = .ref a' ∧ cv = cv then some (D.bl b, S) else none) = _
        rw [if_pos ⟨rfl, rfl⟩]
        rfl
      rw [e']
      exact h
    · exact h.elim
  · exact h.elim
end
/-! ### the answer does not hang on the address -/
structure OffA (i : Nat) (a : Addr) (ρ ρ' : Env) : Prop where
  l : ρ.length = ρ'.length
  h : (ρ[i]? = some (some (.raw (.ref a))) ∧ ρ'[i]? = some (some (.raw (.ref 0)))) ∨ (ρ[i]? = none ∧ ρ'[i]? = none)
  o : ∀ j, j ≠ i → ρ[j]? = ρ'[j]?
def SimE (i : Nat) (a : Addr) {α : Type} (f f' : Env → Store → R α) : Prop := ∀ ρ ρ' S, OffA i a ρ ρ' → f ρ S = f' ρ' S
/-- outcomes alike but for slot i -/
def OutA (i : Nat) (a : Addr) : Out → Out → Prop
  | .nx ρ S, .nx ρ' S' => OffA i a ρ ρ' ∧ S = S'
  | .bk ρ S, .bk ρ' S' => OffA i a ρ ρ' ∧ S = S'
  | .ct ρ S, .ct ρ' S' => OffA i a ρ ρ' ∧ S = S'
  | .rt d S, .rt d' S' => d = d' ∧ S = S'
  | .ex _ _ _, .ex _ _ _ => True
  | .no, .no => True
  | _, _ => False
def SimS (i : Nat) (a : Addr) (g g' : SX) : Prop := ∀ ρ ρ' S, OffA i a ρ ρ' → OutA i a (g ρ S) (g' ρ' S)
section
variable {i j : Nat} {a : Addr} {f f' h h' : EX} {r r' : AX} {g g' k k' : SX}
theorem OffA.set {ρ ρ' : Env} (o : OffA i a ρ ρ') {d : Option D} (hj : j ≠ i) : OffA i a (ρ.set j d) (ρ'.set j d) :=
  ⟨by rw [List.length_set, List.length_set, o.l], by rw [List.getElem?_set_ne hj, List.getElem?_set_ne hj]; exact o.h, fun k hk => by
    by_cases e : j = k
    · subst e
      rw [List.getElem?_set, List.getElem?_set, o.l, if_pos rfl, if_pos rfl]
    · rw [List.getElem?_set_ne e, List.getElem?_set_ne e, o.o k hk]⟩
theorem m_eC {d : D} : SimE i a (eC d) (eC d) := fun _ _ _ _ => rfl
theorem m_eV (hj : j ≠ i) : SimE i a (eV j) (eV j) := fun ρ ρ' S o => by unfold eV; rw [o.o j hj]
theorem m_eIs {b : Bool} : SimE i a (eIs i a b) (eIs i 0 b) := fun ρ ρ' S o => by
  unfold eIs
  rcases o.h with ⟨e1, e2⟩ | ⟨e1, e2⟩
  · rw [e1, e2]; simp
  · rw [e1, e2]
theorem m_aN : SimE i a aN aN := fun _ _ _ _ => rfl
theorem m_aC (h1 : SimE i a f f') (h2 : SimE i a r r') : SimE i a (aC f r) (aC f' r') := fun ρ ρ' S o => by
  unfold aC
  rw [h1 ρ ρ' S o]
  congr 1
  funext x S1
  rw [h2 ρ ρ' S1 o]
theorem m_eB {q : List D → Store → Option (D × Store)} (h2 : SimE i a r r') : SimE i a (eB q r) (eB q r') := fun ρ ρ' S o => by
  unfold eB
  rw [h2 ρ ρ' S o]
theorem m_e2 {q : D → D → Store → Option (D × Store)} (h1 : SimE i a f f') (h2 : SimE i a h h') : SimE i a (Dl.e2 q f h) (Dl.e2 q f' h') := fun ρ ρ' S o => by
  unfold Dl.e2
  rw [h1 ρ ρ' S o]
  congr 1
  funext x S1
  rw [h2 ρ ρ' S1 o]
theorem m_eAnd (h1 : SimE i a f f') (h2 : SimE i a h h') : SimE i a (eAnd f h) (eAnd f' h') := fun ρ ρ' S o => by
  unfold eAnd
  rw [h1 ρ ρ' S o]
  congr 1
  funext x S1
  congr 1
  funext b S2
  rw [h2 ρ ρ' S2 o]
theorem m_eOr (h1 : SimE i a f f') (h2 : SimE i a h h') : SimE i a (eOr f h) (eOr f' h') := fun ρ ρ' S o => by
  unfold eOr
  rw [h1 ρ ρ' S o]
  congr 1
  funext x S1
  congr 1
  funext b S2
  rw [h2 ρ ρ' S2 o]
theorem m_eNot (h1 : SimE i a f f') : SimE i a (eNot f) (eNot f') := fun ρ ρ' S o => by
  unfold eNot
  rw [h1 ρ ρ' S o]
theorem m_sN (hj : j ≠ i) (h1 : SimE i a f f') : SimS i a (sN j f) (sN j f') := fun ρ ρ' S o => by
  unfold sN
  rw [h1 ρ ρ' S o]
  cases f' ρ' S with
  | ok d S1 => exact ⟨o.set hj, rfl⟩
  | ex x S1 => exact True.intro
  | no => exact True.intro
theorem m_sQ (h1 : SimS i a g g') (h2 : SimS i a k k') : SimS i a (sQ g k) (sQ g' k') := fun ρ ρ' S o => by
  have q := h1 ρ ρ' S o
  show OutA i a ((g ρ S).seq k) ((g' ρ' S).seq k')
  revert q
  cases g ρ S <;> cases g' ρ' S <;> intro q <;> first | exact q.elim | skip
  · obtain ⟨q1, rfl⟩ := q
    exact h2 _ _ _ q1
  all_goals exact q
theorem m_sR (h1 : SimE i a f f') : SimS i a (sR f) (sR f') := fun ρ ρ' S o => by
  unfold sR
  rw [h1 ρ ρ' S o]
  cases f' ρ' S with
  | ok d S1 => exact ⟨rfl, rfl⟩
  | ex x S1 => exact True.intro
  | no => exact True.intro
theorem set_off {ρ ρ' : Env} (o : OffA i a ρ ρ') : ρ.set i none = ρ'.set i none := by
  apply List.ext_getElem?
  intro k
  by_cases e : i = k
  · subst e
    rw [List.getElem?_set, List.getElem?_set, o.l, if_pos rfl, if_pos rfl]
  · rw [List.getElem?_set_ne e, List.getElem?_set_ne e, o.o k (Ne.symm e)]
theorem m_clr {o o' : Out} (q : OutA i a o o') : clr i o = clr i o' := by
  cases o <;> cases o' <;> first | exact q.elim | skip
  · obtain ⟨q1, rfl⟩ := q; show Out.nx _ _ = Out.nx _ _; rw [set_off q1]
  · obtain ⟨rfl, rfl⟩ := q; rfl
  · obtain ⟨q1, rfl⟩ := q; show Out.bk _ _ = Out.bk _ _; rw [set_off q1]
  · obtain ⟨q1, rfl⟩ := q; show Out.ct _ _ = Out.ct _ _; rw [set_off q1]
  · rfl
  · rfl
/-- the table's last field -/
theorem m_sim {su : Addr → SX} (h : ∀ a, SimS i a (su a) (su 0)) : ∀ (a : Addr) (ρ : Env) (S : Store), clr i (su a (ρ.set i (some (.raw (.ref a)))) S) = clr i (su 0 (ρ.set i (some (.raw (.ref 0)))) S) := fun a ρ S => by
  by_cases hl : i < ρ.length
  · exact m_clr (h a _ _ S ⟨by rw [List.length_set, List.length_set], Or.inl ⟨List.getElem?_set_self hl, List.getElem?_set_self hl⟩, fun j hj => by rw [List.getElem?_set_ne (Ne.symm hj), List.getElem?_set_ne (Ne.symm hj)]⟩)
  · have e : ∀ d, ρ.set i d = ρ := fun d => List.set_eq_of_length_le (by omega)
    rw [e, e]
    exact m_clr (h a ρ ρ S ⟨rfl, Or.inr ⟨List.getElem?_eq_none (by omega), List.getElem?_eq_none (by omega)⟩, fun j _ => rfl⟩)
end
end Dl

set_option Elab.async false
set_option linter.all false
set_option maxRecDepth 100000
namespace Dl
open PySem L2
/-! ## more methods -/
def gSplit : D → List D → Store → Option (D × Store)
  | .str a, [.str b], S => if b.length ≠ 0 ∧ a.length + 2 ≤ LIM ∧ ((Txt.split a b).all fun p => decide (p.length ≤ LIM)) = true then some (.ref S.length, S ++ [.lst ((Txt.split a b).map .str)]) else none
  | _, _, _ => none
def gCountS : D → List D → Store → Option (D × Store)
  | .str a, [.str b], S => some (.int (Txt.count a b), S)
  | _, _, _ => none
def gInsert : D → List D → Store → Option (D × Store)
  | .ref l, [.int i, d], S => match S[l]? with
    | some (.lst xs) => if xs.length < LIM ∧ 0 ≤ i ∧ i < 2 ^ 63 then some (.non, S.set l (.lst (xs.take i.toNat ++ [d] ++ xs.drop i.toNat))) else none
    | _ => none
  | _, _, _ => none
/-- a module's own table -/
def gTab (L : List (Str × D)) : D → D → Store → Option (D × Store)
  | _, .str s, S => (L.lookup s).map fun d => (d, S)
  | _, _, _ => none
section
variable {X : Cx}
theorem strs_rd {K : PySem.W.Frag} {m : List Addr} {H : Hp} : ∀ {xs : List Str}, (xs.all fun p => decide (p.length ≤ LIM)) = true → RDs K m H (xs.map V.str) (xs.map D.str)
  | [], _ => .nil
  | x :: xs, h => by
    rw [List.all_cons, Bool.and_eq_true] at h
    exact .cons (.str (of_decide_eq_true h.1)) (strs_rd h.2)
theorem m_split : MtR X "str.split" (rdM X.K gSplit) := by
  intro pins s σ H v vs vv us Q I rv rvs ⟨m, x, xs, S, hx, hxs, rs, h⟩
  unfold gSplit at h
  split at h
  · rename_i a b
    split at h
    · rename_i hc
      obtain ⟨h1, h2, h3⟩ := hc
      cases hx with
      | str ha =>
        cases hxs with
        | cons g1 g2 =>
          cases g2
          cases g1 with
          | str hb =>
            exact mt_split pins s σ H _ _ vv us Q I rv rvs ⟨a, b, rfl, rfl, by simpa using h1, by rw [← lim_eq]; exact h2, fun p hp => vp_lst rs hp (strs_rd h3) h⟩
    · exact h.elim
  · exact h.elim
theorem m_countS : MtR X "str.count" (rdM X.K gCountS) := by
  intro pins s σ H v vs vv us Q I rv rvs ⟨m, x, xs, S, hx, hxs, rs, h⟩
  unfold gCountS at h
  split at h
  · rename_i a b
    cases hx with
    | str ha =>
      cases hxs with
      | cons g1 g2 =>
        cases g2
        cases g1 with
        | str hb => exact mt_count pins s σ H _ _ vv us Q I rv rvs ⟨a, b, rfl, rfl, h _ _ m .refl rs (.int _)⟩
  · exact h.elim
theorem rds_take {K : PySem.W.Frag} {m : List Addr} {H : Hp} : ∀ {vs : List V} {ds : List D}, RDs K m H vs ds → ∀ n : Nat, RDs K m H (vs.take n) (ds.take n)
  | _, _, .nil, n => by rw [List.take_nil, List.take_nil]; exact .nil
  | _, _, .cons h t, 0 => .nil
  | _, _, .cons h t, n + 1 => .cons h (rds_take t n)
theorem rds_drop {K : PySem.W.Frag} {m : List Addr} {H : Hp} : ∀ {vs : List V} {ds : List D}, RDs K m H vs ds → ∀ n : Nat, RDs K m H (vs.drop n) (ds.drop n)
  | _, _, .nil, n => by rw [List.drop_nil, List.drop_nil]; exact .nil
  | _, _, .cons h t, 0 => .cons h t
  | _, _, .cons h t, n + 1 => rds_drop t n
theorem m_insert : MtR X "list.insert" (rdM X.K gInsert) := by
  intro pins s σ H v vs vv us Q I rv rvs ⟨m, x, xs, S, hx, hxs, rs, h⟩
  unfold gInsert at h
  split at h
  · rename_i l i d
    split at h
    · rename_i ys e
      split at h
      · rename_i hc
        obtain ⟨hz, h0, h1⟩ := hc
        cases hx with
        | ref hl =>
          cases hxs with
          | cons g1 g2 =>
            cases g1 with
            | int =>
              cases g2 with
              | cons g3 g4 =>
                cases g4
                obtain ⟨ws, hw, rw'⟩ := rs.wlst hl e
                refine mt_insert pins s σ H _ _ vv us Q I rv rvs ⟨_, ws, i, _, rfl, rfl, hw, by rw [rw'.length, ← lim_eq]; exact hz, h0, h1, ?_⟩
                obtain ⟨ex, rs'⟩ := rs.write (o := .lst (ws.take i.toNat ++ [_] ++ ws.drop i.toNat)) (c' := .lst (ys.take i.toNat ++ [d] ++ ys.drop i.toNat)) hl e rfl rfl fun ex => ⟨_, upd_same, ((rds_take (rw'.mono ex) _).append (.one (g3.mono ex))).append (rds_drop (rw'.mono ex) _)⟩
                exact h _ _ m ex rs' .non
      · exact h.elim
    · exact h.elim
  · exact h.elim
/-- what the written part says of such a table -/
structure TabK (K : PySem.W.Frag) (w : World) (p : Addr) (L : List (Str × D)) : Prop where
  at_ : ∀ q ∈ L, ∃ v, KDct K w p q.1 v ∧ ∀ m H, RD K m H v q.2
variable {W : WX} {a b : Expr} {fa fb : EX} {pos p1 : Pos}
/-- D[e], D a module's table -/
def eTab (L : List (Str × D)) (fb : EX) : EX := fun ρ S => (fb ρ S).bind fun y S1 => toR (gTab L .non y S1)
theorem d_tab {x : Str} {p : Addr} {L : List (Str × D)} (T : TabK X.K X.w p L) (hg : Gl X x) (hm : X.mg x = some (.ref p)) (hb : PE X b (rdE (X.cq W) fb)) (hd : (x == ("__debug__" : Str)) = false := by decide) (hs : PlainIx b := by exact fun _ _ => rfl) :
    PE X (.Subscript (.Name x p1) b pos) (rdE (X.cq W) (eTab L fb)) := by
  refine PEwk (pe_ix ix_kdict (pe_glob (v := .ref p) hg hm rfl hd) hb hs) fun σ H Q ⟨m, ρ, S, re, rs, h⟩ => ?_
  refine ⟨m, ρ, S, re, rs, (Post.bind h).imp fun u H2 ⟨m2, y, S2, e2, rs2, rd2', h2⟩ => ?_⟩
  replace h2 : VPost X.K m2 H2 Q (gTab L .non y S2) := VPost.of h2
  unfold gTab at h2
  split at h2
  · rename_i s
    cases e : L.lookup s with
    | none => rw [e] at h2; exact h2.elim
    | some d =>
      rw [e] at h2
      cases rd2' with
      | str hs =>
        obtain ⟨z, g1, g2⟩ := T.at_ _ (lookup_mem e)
        exact ⟨p, s, z, rfl, rfl, g1, h2 _ _ m2 .refl rs2 (g2 m2 H2)⟩
  · exact h2.elim
/-! ## a, b = a tuple or a list -/
def tgU (ts : List (D → SX)) : D → SX := fun d => match d with
  | .tup ds => if ds.length = ts.length then tgL ts ds else sNo
  | .ref l => fun ρ S => match lstAt S l with
    | some ds => if ds.length = ts.length then tgL ts ds ρ S else .no
    | none => .no
  | _ => sNo
theorem g_seq {es : List Expr} {k : Nat} {ts : List (D → SX)} (hc : X.calm = true) (h : PGs X es (rdGs (X.cq W) (tgL ts))) (hl : ts.length = es.length := by rfl)
    (hn : (assignEach es X.env).length = es.length := by rfl) (hst : (assignEach es X.env).findIdx? (·.1) = none := by rfl) : PG X (.Tuple es k pos) (rdG (X.cq W) (tgU ts)) := ⟨fun pins s σ H v u Q I r ⟨m, ρ, S, d, re, rs, rd, q⟩ => by
  cases d with
  | tup ds => exact (g_tup (pos := pos) (k := k) hc h hl hn hst).run pins s σ H v u Q I r ⟨m, ρ, S, _, re, rs, rd, q⟩
  | ref l =>
    have q : PostS (X.cq W) m H { nx := Q, rt := fun _ _ => False } (match lstAt S l with
      | some ds => if ds.length = ts.length then tgL ts ds ρ S else .no
      | none => .no) := q
    cases e : lstAt S l with
    | none => rw [e] at q; exact q.elim
    | some ds =>
      rw [e] at q
      by_cases hz : ds.length = ts.length
      · simp only [if_pos hz] at q
        cases rd with
        | ref hm =>
          obtain ⟨vs, h1, h2⟩ := rs.lst hm e
          exact (pg_lst (k := k) (pos := pos) hc h hn hst).run pins s σ H _ u Q I r ⟨_, vs, rfl, h1, by rw [h2.length, hz, hl], m, ρ, S, ds, re, rs, h2, q⟩
      · simp only [if_neg hz] at q
        exact q.elim
  | _ => exact q.elim⟩
end
end Dl

set_option Elab.async false
set_option linter.all false
set_option maxRecDepth 100000
namespace Dl
open PySem L2
/-! ## unary minus, extend, reverse, sum, is None -/
def gNeg : D → Store → Option (D × Store)
  | .int i, S => some (.int (-i), S)
  | _, _ => none
def gExtend : D → List D → Store → Option (D × Store)
  | .ref l, [.ref k], S => match S[l]?, S[k]? with
    | some (.lst xs), some (.lst ys) => if xs.length + ys.length ≤ LIM then some (.non, S.set l (.lst (xs ++ ys))) else none
    | _, _ => none
  | _, _, _ => none
def gReverse : D → List D → Store → Option (D × Store)
  | .ref l, [], S => match S[l]? with
    | some (.lst xs) => some (.non, S.set l (.lst xs.reverse))
    | _ => none
  | _, _, _ => none
def intsD : List D → Option (List Int)
  | [] => some []
  | .int i :: r => (intsD r).map (i :: ·)
  | _ :: _ => none
def gSum : List D → Store → Option (D × Store)
  | [.ref l], S => ((lstAt S l).bind intsD).map fun ns => (.int ns.sum, S)
  | _, _ => none
section
variable {X : Cx} {W : WX} {e : Expr} {f : EX} {pos : Pos}
theorem d_neg (he : PE X e (rdE (X.cq W) f)) : PE X (.UnaryOp .USub e pos) (rdE (X.cq W) (e1 gNeg f)) := PEwk (pe_un un_neg he) fun σ H Q ⟨m, ρ, S, re, rs, h⟩ =>
  ⟨m, ρ, S, re, rs, (Post.bind h).imp fun v H1 ⟨m1, x, S1, e1, rs1, rd, h1⟩ => by
    have h1 : VPost X.K m1 H1 Q (gNeg x S1) := VPost.of h1
    unfold gNeg at h1
    split at h1
    · cases rd with
      | int => exact ⟨_, rfl, h1 _ _ m1 .refl rs1 (.int _)⟩
    · exact h1.elim⟩
theorem m_extend : MtR X "list.extend" (rdM X.K gExtend) := by
  intro pins s σ H v vs vv us Q I rv rvs ⟨m, x, xs, S, hx, hxs, rs, h⟩
  unfold gExtend at h
  split at h
  · rename_i l k
    split at h
    · rename_i xs ys e1 e2
      split at h
      · rename_i hc
        cases hx with
        | ref hl =>
          cases hxs with
          | cons g1 g2 =>
            cases g2
            cases g1 with
            | ref hk =>
              obtain ⟨ws, hw, rw'⟩ := rs.wlst hl e1
              obtain ⟨us', hu, ru⟩ := rs.wlst hk e2
              refine mt_extend pins s σ H _ _ vv us Q I rv rvs ⟨_, _, ws, us', rfl, rfl, hw, hu, by rw [rw'.length, ru.length, ← lim_eq]; exact hc, ?_⟩
              obtain ⟨ex, rs'⟩ := rs.write (o := .lst (ws ++ us')) (c' := .lst (xs ++ ys)) hl e1 rfl rfl fun ex => ⟨_, upd_same, (rw'.mono ex).append (ru.mono ex)⟩
              exact h _ _ m ex rs' .non
      · exact h.elim
    · exact h.elim
  · exact h.elim
theorem rds_reverse {K : PySem.W.Frag} {m : List Addr} {H : Hp} : ∀ {vs : List V} {ds : List D}, RDs K m H vs ds → RDs K m H vs.reverse ds.reverse
  | _, _, .nil => .nil
  | _, _, .cons h t => by
    rw [List.reverse_cons, List.reverse_cons]
    exact (rds_reverse t).append (.one h)
theorem m_reverse : MtR X "list.reverse" (rdM X.K gReverse) := by
  intro pins s σ H v vs vv us Q I rv rvs ⟨m, x, xs, S, hx, hxs, rs, h⟩
  unfold gReverse at h
  split at h
  · rename_i l
    split at h
    · rename_i xs e1
      cases hx with
      | ref hl =>
        cases hxs
        obtain ⟨ws, hw, rw'⟩ := rs.wlst hl e1
        refine mt_reverse pins s σ H _ _ vv us Q I rv rvs ⟨_, ws, rfl, rfl, hw, ?_⟩
        obtain ⟨ex, rs'⟩ := rs.write (o := .lst ws.reverse) (c' := .lst xs.reverse) hl e1 rfl rfl fun ex => ⟨_, upd_same, rds_reverse (rw'.mono ex)⟩
        exact h _ _ m ex rs' .non
    · exact h.elim
  · exact h.elim
theorem ints_rd {K : PySem.W.Frag} {m : List Addr} {H : Hp} : ∀ {vs : List V} {ds : List D} {ns : List Int}, RDs K m H vs ds → intsD ds = some ns → vs = ns.map V.int
  | _, _, ns, .nil, h => by cases h; rfl
  | _, d :: ds, ns, .cons g t, h => by
    cases d with
    | int i =>
      have h' : (intsD ds).map (i :: ·) = some ns := h
      cases e : intsD ds with
      | none => rw [e] at h'; cases h'
      | some r =>
        rw [e] at h'
        cases h'
        cases g
        rw [ints_rd t e]
        rfl
    | _ => cases h
theorem c_sum (hc : X.calm = true) : CallR X (.builtin "sum") (rdC X.K gSum) := by
  intro pins s σ H vs us Q I r ⟨m, xs, S, hx, rs, h⟩
  unfold gSum at h
  split at h
  · rename_i l
    cases e : lstAt S l with
    | none => rw [e] at h; exact h.elim
    | some ds =>
      cases e2 : intsD ds with
      | none => rw [e] at h; simp only [Option.bind_some, e2] at h; exact h.elim
      | some ns =>
        rw [e] at h
        simp only [Option.bind_some, e2] at h
        cases hx with
        | cons h1 h2 =>
          cases h2
          cases h1 with
          | ref hl =>
            obtain ⟨ws, hw, rw'⟩ := rs.lst hl e
            have ew := ints_rd rw' e2
            subst ew
            exact cr_sum hc pins s σ H _ us Q I r ⟨_, ns, rfl, hw, h _ _ m .refl rs (.int _)⟩
  · exact h.elim
end
end Dl

set_option Elab.async false
set_option linter.all false
set_option maxRecDepth 100000
namespace Dl
open PySem L2
/-! ## dicts: a display with written keys, d[k], k in d, d[k] = v -/
def keyD : D → Option Key
  | .int i => some (.inl i)
  | .str s => some (.inr s)
  | _ => none
def findK (kvs : List (Key × D)) (k : Key) : Option D := (kvs.find? fun kv => decide (kv.1 = k)).map (·.2)
def gDget : D → D → Store → Option (D × Store)
  | .ref l, y, S => match S[l]?, keyD y with
    | some (.dic kvs), some k => (findK kvs k).map fun d => (d, S)
    | _, _ => none
  | _, _, _ => none
def gDin (f : Bool → Bool) : D → D → Store → Option (D × Store)
  | y, .ref l, S => match S[l]?, keyD y with
    | some (.dic kvs), some k => some (.bl (f (findK kvs k).isSome), S)
    | _, _ => none
  | _, _, _ => none
def aL : List (Key × EX) → AX
  | [] => aN
  | (_, f) :: r => aC f (aL r)
/-- {k: f, ..} -/
def eDct (L : List (Key × EX)) : EX := fun ρ S => (aL L ρ (S ++ [.dic []])).bind fun ds S1 => match S1[S.length]? with
  | some (.dic []) => if L.length ≤ 15 ∧ (L.map (·.1)).Nodup then .ok (.ref S.length) (S1.set S.length (.dic ((L.map (·.1)).zip ds))) else .no
  | _ => .no
theorem find_rd {K : PySem.W.Frag} {m : List Addr} {H : Hp} {k : Key} {d : D} : ∀ {kvs : List (Key × D)} {ws : List (Key × V)}, ws.map (·.1) = kvs.map (·.1) → RDs K m H (ws.map (·.2)) (kvs.map (·.2)) → findK kvs k = some d → ∃ v, valV ws k = some v ∧ RD K m H v d
  | [], _, _, _, h => nomatch h
  | (k1, d1) :: kvs, [], e, _, _ => nomatch e
  | (k1, d1) :: kvs, (k2, v2) :: ws, e, r, h => by
    cases r with
    | cons rh rt =>
      have e1 : k2 = k1 := (List.cons.inj e).1
      have e2 : ws.map (·.1) = kvs.map (·.1) := (List.cons.inj e).2
      subst e1
      by_cases z : k2 = k
      · rw [valV_pos (show (k2, v2).1 = k from z)]
        unfold findK at h
        rw [List.find?_cons_of_pos (by simpa using z)] at h
        cases h
        exact ⟨_, rfl, rh⟩
      · rw [valV_neg (show ¬ (k2, v2).1 = k from z)]
        unfold findK at h
        rw [List.find?_cons_of_neg (by simpa using z)] at h
        exact find_rd e2 rt h
theorem find_none {k : Key} : ∀ {kvs : List (Key × D)} {ws : List (Key × V)}, ws.map (·.1) = kvs.map (·.1) → findK kvs k = none → valV ws k = none
  | [], [], _, _ => rfl
  | [], _ :: _, e, _ => nomatch e
  | (k1, d1) :: kvs, [], e, _ => nomatch e
  | (k1, d1) :: kvs, (k2, v2) :: ws, e, h => by
    have e1 : k2 = k1 := (List.cons.inj e).1
    have e2 : ws.map (·.1) = kvs.map (·.1) := (List.cons.inj e).2
    subst e1
    by_cases z : k2 = k
    · unfold findK at h
      rw [List.find?_cons_of_pos (by simpa using z)] at h
      cases h
    · rw [valV_neg (show ¬ (k2, v2).1 = k from z)]
      unfold findK at h
      rw [List.find?_cons_of_neg (by simpa using z)] at h
      exact find_none e2 h
theorem key_rd {K : PySem.W.Frag} {m : List Addr} {H : Hp} {v : V} {d : D} {k : Key} (r : RD K m H v d) (h : keyD d = some k) : v = L2.kV k := by
  unfold keyD at h
  split at h
  · cases h; cases r; rfl
  · cases h; cases r; rfl
  · cases h
theorem val_none {k : Key} : ∀ {ws : List (Key × V)}, k ∉ ws.map (·.1) → valV ws k = none
  | [], _ => rfl
  | (k2, v2) :: ws, h => by
    rw [List.map_cons, List.mem_cons, not_or] at h
    rw [valV_neg (show ¬ (k2, v2).1 = k from fun e => h.1 e.symm)]
    exact val_none h.2
theorem merge_nd : ∀ (more acc : List (Key × V)), ((acc ++ more).map (·.1)).Nodup → mergeK acc more = acc ++ more
  | [], acc, _ => by rw [List.append_nil]; rfl
  | (k, v) :: more, acc, h => by
    have h' : ((acc ++ [(k, v)] ++ more).map (·.1)).Nodup := by rw [List.append_assoc]; exact h
    have hk : k ∉ acc.map (·.1) := fun q => by
      rw [List.map_append, List.map_cons] at h
      exact (List.nodup_append.mp h).2.2 k q k (List.mem_cons_self ..) rfl
    show mergeK (putK acc k v) more = _
    rw [putK_new v (val_none hk), merge_nd more (acc ++ [(k, v)]) h', List.append_assoc]
    rfl
theorem u1 {k : Nat} {A : Around} (r : Room k A) : A.units + 1 < cLine := by have := r.un; omega
section
variable {X : Cx} {W : WX} {o i e : Expr} {fo fi f : EX} {pos : Pos}
theorem d_dget (hu : X.A.units + 1 < cLine) (ho : PE X o (rdE (X.cq W) fo)) (hi : PE X i (rdE (X.cq W) fi)) (hs : NoSl i := by exact fun _ _ => rfl) : PE X (.Subscript o i pos) (rdE (X.cq W) (Dl.e2 gDget fo fi)) :=
  PEwk (pe_dget hu ho hi hs) fun σ H Q ⟨m, ρ, S, re, rs, h⟩ =>
  ⟨m, ρ, S, re, rs, (Post.bind h).imp fun v H1 ⟨m1, x, S1, e1, rs1, rd, h1⟩ => ⟨m1, ρ, S1, re.mono e1, rs1, (Post.bind h1).imp fun u H2 ⟨m2, y, S2, e2, rs2, rd2, h2⟩ => by
    have h2 : VPost X.K m2 H2 Q (gDget x y S2) := VPost.of h2
    have rd' := rd.mono e2
    unfold gDget at h2
    split at h2
    · split at h2
      · rename_i kvs k es ek
        cases ef : findK kvs k with
        | none => rw [ef] at h2; exact h2.elim
        | some d =>
          rw [ef] at h2
          cases rd' with
          | ref hl =>
            obtain ⟨ws, g1, g2, g3⟩ := rs2.at_ hl es
            obtain ⟨w, q1, q2⟩ := find_rd g2 g3 ef
            have eu := key_rd rd2 ek
            subst eu
            refine ⟨_, w, rfl, ?_, h2 _ _ m2 .refl rs2 q2⟩
            rw [← q1]
            exact DGet.k g1
      · exact h2.elim
    · exact h2.elim⟩⟩
inductive Ents2 (X : Cx) (W : WX) (pos : Pos) : List (Option Expr) → List Expr → List (Key × EX) → Prop
  | nil : Ents2 X W pos [] [] []
  | cons {k : Key} {ke v : Expr} {f : EX} {ks : List (Option Expr)} {vs : List Expr} {L : List (Key × EX)} (hk : PE X ke (tC (L2.kV k))) (hv : PE X v (rdE (X.cq W) f)) (t : Ents2 X W pos ks vs L) : Ents2 X W pos (some ke :: ks) (v :: vs) ((k, f) :: L)
def trsL (c : Cq) (L : List (Key × EX)) : List (TE × TE) := L.map fun kf => (tC (L2.kV kf.1), rdE c kf.2)
theorem Ents2.pps {ks : List (Option Expr)} {vs : List Expr} : ∀ {L : List (Key × EX)}, Ents2 X W pos ks vs L → PPs X pos ks vs (trsL (X.cq W) L) := by
  intro L h
  induction h with
  | nil => exact pps_nil
  | cons hk hv t ih => exact pps_cons hk hv ih
theorem Ents2.len {ks : List (Option Expr)} {vs : List Expr} {L : List (Key × EX)} (h : Ents2 X W pos ks vs L) : ks.length = L.length ∧ vs.length = L.length ∧ ks.all (·.isSome) = true := by
  induction h with
  | nil => exact ⟨rfl, rfl, rfl⟩
  | cons hk hv t ih =>
    obtain ⟨a, b, c⟩ := ih
    exact ⟨by rw [List.length_cons, List.length_cons, a], by rw [List.length_cons, List.length_cons, b], by rw [List.all_cons, c]; rfl⟩
theorem tPairs_imp : ∀ {trs : List (TE × TE)} {σ : St} {H : Hp} {Q Q' : List (V × V) → Hp → Prop}, (∀ (t : TE × TE), t ∈ trs → (∀ σ H (P P' : V → Hp → Prop), t.1 σ H P → (∀ v H', P v H' → P' v H') → t.1 σ H P') ∧ (∀ σ H (P P' : V → Hp → Prop), t.2 σ H P → (∀ v H', P v H' → P' v H') → t.2 σ H P')) → tPairs trs σ H Q → (∀ ps H', Q ps H' → Q' ps H') → tPairs trs σ H Q'
  | [], σ, H, Q, Q', _, h, k => k _ _ h
  | (tk, tv) :: r, σ, H, Q, Q', mn, h, k => by
    obtain ⟨m1, m2⟩ := mn _ (List.mem_cons_self ..)
    exact m1 σ H _ _ h fun x H1 h1 => m2 σ H1 _ _ h1 fun y H2 h2 => tPairs_imp (fun t ht => mn t (List.mem_cons_of_mem _ ht)) h2 fun ps H3 h3 => k _ _ h3
theorem trsL_mono (c : Cq) (L : List (Key × EX)) : ∀ (t : TE × TE), t ∈ trsL c L → (∀ σ H (P P' : V → Hp → Prop), t.1 σ H P → (∀ v H', P v H' → P' v H') → t.1 σ H P') ∧ (∀ σ H (P P' : V → Hp → Prop), t.2 σ H P → (∀ v H', P v H' → P' v H') → t.2 σ H P') := by
  intro t ht
  obtain ⟨kf, _, rfl⟩ := List.mem_map.mp ht
  exact ⟨fun σ H P P' h k => k _ _ h, fun σ H P P' ⟨m, ρ, S, re, rs, h⟩ k => ⟨m, ρ, S, re, rs, h.imp k⟩⟩
theorem pairs_post {c : Cq} : ∀ (L : List (Key × EX)) {m : List Addr} {H : Hp} {σ : St} {ρ : Env} {S : Store} {Q : List V → Hp → Prop}, RE c.K m H σ ρ → RS c.K m H S → Post c (relDs c) m H σ Q (aL L ρ S) → tPairs (trsL c L) σ H fun ps H3 => ∃ vs, ps = ((L.map fun kf => L2.kV kf.1).zip vs) ∧ vs.length = L.length ∧ Q vs H3
  | [], m, H, σ, ρ, S, Q, re, rs, h => ⟨[], rfl, rfl, h [] H m .refl rs .nil⟩
  | (k, f) :: L, m, H, σ, ρ, S, Q, re, rs, h => by
    show rdE c f σ H fun y H2 => tPairs (trsL c L) σ H2 fun ps H3 => ∃ vs, ((L2.kV k, y) :: ps) = _ ∧ _ ∧ Q vs H3
    have h : Post c (relDs c) m H σ Q ((f ρ S).bind fun x S1 => (aL L ρ S1).bind fun xs S2 => .ok (x :: xs) S2) := h
    refine ⟨m, ρ, S, re, rs, (Post.bind h).imp fun y H2 ⟨m1, x, S1, e1, rs1, rd, h1⟩ => ?_⟩
    have q := pairs_post L (re.mono e1) rs1 ((Post.bind h1).imp (rel := relDs c) (Q' := fun vs H3 => Q (y :: vs) H3) fun vs H3 ⟨m3, xs, S3, e3, rs3, rds, h3⟩ => h3 _ _ m3 .refl rs3 (.cons (rd.mono e3) rds))
    exact tPairs_imp (trsL_mono c L) q fun ps H3 ⟨vs, q1, q2, q3⟩ => ⟨y :: vs, by rw [q1]; rfl, by rw [List.length_cons, q2, List.length_cons], q3⟩
theorem zip_fst {α β : Type} : ∀ (ks : List α) (vs : List β), vs.length = ks.length → (ks.zip vs).map (·.1) = ks
  | [], _, _ => rfl
  | k :: ks, [], h => nomatch h
  | k :: ks, v :: vs, h => by
    show k :: (ks.zip vs).map (·.1) = k :: ks
    rw [zip_fst ks vs (Nat.succ.inj h)]
theorem zip_snd {α β : Type} : ∀ (ks : List α) (vs : List β), vs.length = ks.length → (ks.zip vs).map (·.2) = vs
  | [], [], _ => rfl
  | [], _ :: _, h => nomatch h
  | k :: ks, [], h => nomatch h
  | k :: ks, v :: vs, h => by
    show v :: (ks.zip vs).map (·.2) = v :: vs
    rw [zip_snd ks vs (Nat.succ.inj h)]
theorem zip_kv : ∀ (ks : List Key) (vs : List V), (ks.zip vs).map (fun kv => (L2.kV kv.1, kv.2)) = (ks.map L2.kV).zip vs
  | [], _ => rfl
  | _ :: _, [] => rfl
  | k :: ks, v :: vs => by
    show (L2.kV k, v) :: (ks.zip vs).map _ = (L2.kV k, v) :: (ks.map L2.kV).zip vs
    rw [zip_kv ks vs]
theorem d_dct {ks : List (Option Expr)} {vs : List Expr} {L : List (Key × EX)} (h : Ents2 X W pos ks vs L) (h0 : ks ≠ [] := by simp) (h15 : L.length ≤ 15 := by decide) : PE X (.Dict ks vs pos) (rdE (X.cq W) (eDct L)) := by
  obtain ⟨l1, l2, l3⟩ := h.len
  refine PEwk (pe_disp h.pps l3 (l1.trans l2.symm) h0 (by rw [l1]; exact h15)) fun σ H Q ⟨m, ρ, S, re, rs, q⟩ p hp => ?_
  obtain ⟨e1, rs1⟩ := rs.push (o := .dK []) (c := .dic []) hp fun m' e' => ⟨[], upd_same, rfl, .nil⟩
  have q : Post (X.cq W) (relD (X.cq W)) m H σ Q ((aL L ρ (S ++ [.dic []])).bind fun ds S1 => match S1[S.length]? with
    | some (.dic []) => if L.length ≤ 15 ∧ (L.map (·.1)).Nodup then .ok (.ref S.length) (S1.set S.length (.dic ((L.map (·.1)).zip ds))) else .no
    | _ => .no) := q
  have q1 := pairs_post L (re.mono e1) rs1 (Post.bind (rel := relDs (X.cq W)) (Post.mono e1 q))
  refine tPairs_imp (trsL_mono _ L) q1 fun ps H3 ⟨us, ep, lu, m1, ds, S1, e3, rs3, rds, h3⟩ => ?_
  have hl : m1[S.length]? = some p := by
    obtain ⟨r, rfl⟩ := e3.pre
    rw [List.getElem?_append_left (by rw [List.length_append, ← rs.len]; show _ < _ + 1; omega), ← rs.len, List.getElem?_append_right (Nat.le_refl _), Nat.sub_self]
    rfl
  cases es : S1[S.length]? with
  | none => rw [es] at h3; exact h3.elim
  | some c =>
    rw [es] at h3
    cases c with
    | dic kvs =>
      cases kvs with
      | nil =>
        simp only at h3
        by_cases hc : L.length ≤ 15 ∧ (L.map (·.1)).Nodup
        · rw [if_pos hc] at h3
          obtain ⟨ws, g1, g2, g3⟩ := rs3.at_ hl es
          have ews : ws = [] := List.map_eq_nil_iff.mp g2
          subst ews
          refine ⟨g1, (L.map (·.1)).zip us, by rw [ep, zip_kv, List.map_map]; rfl, by rw [List.length_zip, List.length_map]; omega, ?_⟩
          have nd : (((L.map (·.1)).zip us).map (·.1)).Nodup := by rw [zip_fst _ _ (by rw [List.length_map]; exact lu)]; exact hc.2
          rw [show mergeK [] ((L.map (·.1)).zip us) = (L.map (·.1)).zip us from merge_nd _ [] nd]
          have ld := rds.length
          obtain ⟨ex, rs4⟩ := rs3.write (o := .dK ((L.map (·.1)).zip us)) (c' := .dic ((L.map (·.1)).zip ds)) hl es rfl rfl fun ex => ⟨_, upd_same, by rw [zip_fst _ _ (by rw [List.length_map]; exact lu), zip_fst _ _ (by rw [List.length_map, ← ld]; exact lu)], by
            rw [zip_snd _ _ (by rw [List.length_map]; exact lu), zip_snd _ _ (by rw [List.length_map, ← ld]; exact lu)]
            exact rds.mono ex⟩
          exact h3 _ _ m1 ex rs4 (.ref hl)
        · rw [if_neg hc] at h3
          exact h3.elim
      | cons a b => exact h3.elim
    | lst xs => exact h3.elim
    | rol xs => exact h3.elim
    | gone => exact h3.elim
end
end Dl

set_option Elab.async false
set_option linter.all false
set_option maxRecDepth 100000
namespace Dl
open PySem L2
/-! ## is None, is True; x += i -/
/-- the fuel of a while -/
def WF : Nat := 100000
def nonD : D → Bool
  | .non => true
  | _ => false
def isD : D → D → Option Bool
  | .raw _, _ => none
  | x, .non => some (nonD x)
  | .bl a, .bl b => some (decide (a = b))
  | _, _ => none
def gIs (x y : D) (S : Store) : Option (D × Store) := (isD x y).map fun b => (.bl b, S)
def gIsN (x y : D) (S : Store) : Option (D × Store) := (isD x y).map fun b => (.bl (!b), S)
theorem is_non {K : PySem.W.Frag} {m : List Addr} {H : Hp} {v : V} {d : D} (r : RD K m H v d) (hr : ∀ u, d ≠ .raw u) : decide (v = .non) = nonD d := by
  cases r with
  | non => rfl
  | bl b => rfl
  | int i => rfl
  | str h => rfl
  | tup h r => rfl
  | ref h => rfl
  | raw v => exact absurd rfl (hr v)
section
variable {X : Cx}
theorem o_is : OpR X (compareOp .Is) (rd2 X.K gIs) := by
  intro pins s σ H v u vv uu Q I rv ru ⟨m, x, y, S, hx, hy, rs, h⟩
  unfold gIs isD at h
  split at h
  · exact h.elim
  · rename_i x' hr
    cases hy
    refine op_isN pins s σ H _ _ vv uu Q I rv ru ⟨rfl, ?_⟩
    rw [is_non hx (fun w e => hr w e)]
    exact h _ _ m .refl rs (.bl _)
  · cases hx
    cases hy
    exact op_is_bl pins s σ H _ _ vv uu Q I rv ru ⟨_, _, rfl, rfl, h _ _ m .refl rs (.bl _)⟩
  · exact h.elim
theorem o_isn : OpR X (compareOp .IsNot) (rd2 X.K gIsN) := by
  intro pins s σ H v u vv uu Q I rv ru ⟨m, x, y, S, hx, hy, rs, h⟩
  unfold gIsN isD at h
  split at h
  · exact h.elim
  · rename_i x' hr
    cases hy
    refine op_notN pins s σ H _ _ vv uu Q I rv ru ⟨rfl, ?_⟩
    rw [is_non hx (fun w e => hr w e)]
    exact h _ _ m .refl rs (.bl _)
  · cases hx
    cases hy
    exact op_isnot_bl pins s σ H _ _ vv uu Q I rv ru ⟨_, _, rfl, rfl, h _ _ m .refl rs (.bl _)⟩
  · exact h.elim
def gAugAdd : D → D → Store → Option (D × Store)
  | .int i, .int j, S => some (.int (i + j), S)
  | _, _, _ => none
def gAugSub : D → D → Store → Option (D × Store)
  | .int i, .int j, S => some (.int (i - j), S)
  | _, _, _ => none
/-- x op= f -/
def sAug (j : Nat) (g : D → D → Store → Option (D × Store)) (f : EX) : SX := fun ρ S => match ρ[j]? with
  | some (some d) => (f ρ S).out ρ fun y S1 => match g d y S1 with
    | some (z, S2) => .nx (ρ.set j (some z)) S2
    | none => .no
  | _ => .no
theorem ip_addD : PIp X .Add (fun v u H Q => rd2 X.K gAugAdd v u H Q) := fun pins s σ H x y v u Q I rx ry ⟨m, d, e, S, hx, hy, rs, h⟩ => by
  unfold gAugAdd at h
  split at h
  · cases hx
    cases hy
    exact ip_add pins s σ H _ _ v u Q I rx ry ⟨_, _, rfl, rfl, h _ _ m .refl rs (.int _)⟩
  · exact h.elim
theorem ip_subD : PIp X .Sub (fun v u H Q => rd2 X.K gAugSub v u H Q) := fun pins s σ H x y v u Q I rx ry ⟨m, d, e, S, hx, hy, rs, h⟩ => by
  unfold gAugSub at h
  split at h
  · cases hx
    cases hy
    exact ip_sub pins s σ H _ _ v u Q I rx ry ⟨_, _, rfl, rfl, h _ _ m .refl rs (.int _)⟩
  · exact h.elim
variable {W : WX} {e : Expr} {f : EX} {pos : Pos}
theorem t_aug {op : Operator} {g : D → D → Store → Option (D × Store)} {j : Nat} {x : Str} {pos' : Pos} (hN : X.N.Nodup) (ho : PIp X op (fun v u H Q => rd2 X.K g v u H Q)) (he : PE X e (rdE (X.cq W) f)) (hi : X.N[j]? = some x := by rfl) (hx : Loc X.env.scope x := by first | exact .inl rfl | exact .inr rfl)
    (hf : X.fn x = true ∨ X.env.scope.names.lookup x = some .local := by first | exact .inl rfl | exact .inr rfl) : PS X (.AugAssign (.Name x pos') op e pos) (rdS (X.cq W) (sAug j g f)) := PSwk (ps_aug hN hi hx he ho hf) fun Dn σ H ⟨m, ρ, S, re, rs, q⟩ => by
  have q : PostS (X.cq W) m H Dn (match ρ[j]? with
    | some (some d) => (f ρ S).out ρ fun y S1 => match g d y S1 with
      | some (z, S2) => .nx (ρ.set j (some z)) S2
      | none => .no
    | _ => .no) := q
  cases ed : ρ[j]? with
  | none => rw [ed] at q; exact q.elim
  | some od =>
    cases od with
    | none => rw [ed] at q; exact q.elim
    | some d =>
      rw [ed] at q
      obtain ⟨v, hv, rd⟩ := re.at_ ed
      refine ⟨v, hv, m, ρ, S, re, rs, (Post.out re q).imp fun u H1 ⟨m1, y, S1, e1, rs1, rdy, re1, q1⟩ => ⟨m1, d, y, S1, rd.mono e1, rdy, rs1, ?_⟩⟩
      cases eg : g d y S1 with
      | none => rw [eg] at q1; exact q1.elim
      | some p =>
        obtain ⟨z, S2⟩ := p
        rw [eg] at q1
        exact fun w H2 m2 ex rs2 rz => q1 _ H2 m2 ex ((re1.mono ex).set rz j) rs2
end
end Dl

set_option Elab.async false
set_option linter.all false
set_option maxRecDepth 100000
namespace Dl
open PySem L2
/-! ## a def's promise, shown by evaluation under an open end -/
abbrev Sp (r : R D) (Q : R D → Prop) : Prop := Q r
def fin (n : Nat) : Out → R D
  | .rt d S' => cmp n d S'
  | .nx _ S' => cmp n .non S'
  | .ex x _ S' => .ex x S'
  | _ => .no
def So (n : Nat) (Q : R D → Prop) (o : Out) : Prop := Q (fin n o)
/-- the store T, the pool P at p, behind it the def's own cells -/
def st (T : Store) (p : Nat) (P : List D) (L : List Cell) : Store := T.set p (.lst P) ++ L
/-- the store T, behind it the def's own cells -/
def sx (T : Store) (L : List Cell) : Store := T ++ L
section
variable {n np ns : Nat} {g : SX} {ds : List D} {S T : Store} {Q : R D → Prop} {p q k : Nat} {P P' : List D} {L M : List Cell} {c : Cell} {d : D} {ρ : Env} {x : Exn}
theorem runB_fin (h : ds.length = np) : runB np ns g ds S = fin S.length (g (ds.map some ++ List.replicate (ns - np) none) S) := by
  unfold runB
  rw [if_pos h]
  cases g (ds.map some ++ List.replicate (ns - np) none) S <;> rfl
theorem sp_run (h : ds.length = np) (k : ∀ Q' : R D → Prop, (∀ r, Q r → Q' r) → So S.length Q' (g (ds.map some ++ List.replicate (ns - np) none) S)) : Sp (runB np ns g ds S) Q := by
  show Q _
  rw [runB_fin h]
  exact k Q fun _ h => h
theorem st_in (hp : S[p]? = some (.lst P)) : S = st S p P [] := by
  unfold st
  rw [List.append_nil]
  apply List.ext_getElem?
  intro i
  by_cases e : p = i
  · subst e
    rw [List.getElem?_set_self (List.getElem?_eq_some_iff.mp hp).1, hp]
  · rw [List.getElem?_set_ne e]
theorem sx_in : S = sx S [] := (List.append_nil S).symm
/-- with a pool -/
theorem sp_pool (h : ds.length = np) (hp : S[p]? = some (.lst P)) (k : p < S.length → ∀ Q' : R D → Prop, (∀ r, Q r → Q' r) → So S.length Q' (g (ds.map some ++ List.replicate (ns - np) none) (st S p P []))) : Sp (runB np ns g ds S) Q :=
  sp_run h fun Q' hQ => by
    have z := k (List.getElem?_eq_some_iff.mp hp).1 Q' hQ
    rwa [← st_in hp] at z
/-- without one -/
theorem sp_plain (h : ds.length = np) (k : ∀ Q' : R D → Prop, (∀ r, Q r → Q' r) → So S.length Q' (g (ds.map some ++ List.replicate (ns - np) none) (sx S []))) : Sp (runB np ns g ds S) Q :=
  sp_run h fun Q' hQ => by
    have z := k Q' hQ
    rwa [← sx_in] at z
theorem So_rt : So n Q (.rt d S) = Q (cmp n d S) := nr rfl
theorem So_nx : So n Q (.nx ρ S) = Q (cmp n .non S) := nr rfl
theorem So_ex : So n Q (.ex x ρ S) = Q (.ex x S) := nr rfl
/-! ### the store's normal forms -/
theorem st_len : (st T p P L).length = T.length + L.length := by unfold st; rw [List.length_append, List.length_set]
theorem st_p (h : p < T.length) : (st T p P L)[p]? = some (.lst P) := by
  unfold st
  rw [List.getElem?_append_left (by rw [List.length_set]; exact h), List.getElem?_set_self h]
theorem st_k : (st T p P L)[T.length + k]? = L[k]? := by
  unfold st
  rw [List.getElem?_append_right (by rw [List.length_set]; omega), List.length_set, Nat.add_sub_cancel_left]
theorem st_0 : (st T p P L)[T.length]? = L[0]? := st_k (k := 0)
theorem st_q (h : q < T.length) (e : q ≠ p) : (st T p P L)[q]? = T[q]? := by
  unfold st
  rw [List.getElem?_append_left (by rw [List.length_set]; exact h), List.getElem?_set_ne (Ne.symm e)]
theorem st_set_p (h : p < T.length) : (st T p P L).set p (.lst P') = st T p P' L := by
  unfold st
  rw [List.set_append_left _ _ (by rw [List.length_set]; exact h), List.set_set]
theorem st_set_k : (st T p P L).set (T.length + k) c = st T p P (L.set k c) := by
  unfold st
  rw [List.set_append_right _ _ (by rw [List.length_set]; omega), List.length_set, Nat.add_sub_cancel_left]
theorem st_set_0 : (st T p P L).set T.length c = st T p P (L.set 0 c) := st_set_k (k := 0)
theorem st_push : st T p P L ++ M = st T p P (L ++ M) := List.append_assoc ..
theorem sx_len : (sx T L).length = T.length + L.length := List.length_append ..
theorem sx_k : (sx T L)[T.length + k]? = L[k]? := by
  unfold sx
  rw [List.getElem?_append_right (by omega), Nat.add_sub_cancel_left]
theorem sx_0 : (sx T L)[T.length]? = L[0]? := sx_k (k := 0)
theorem sx_q (h : q < T.length) : (sx T L)[q]? = T[q]? := by
  unfold sx
  rw [List.getElem?_append_left h]
theorem sx_set_q (h : q < T.length) : (sx T L).set q c = sx (T.set q c) L := by
  unfold sx
  rw [List.set_append_left _ _ h]
theorem sx_set_k : (sx T L).set (T.length + k) c = sx T (L.set k c) := by
  unfold sx
  rw [List.set_append_right _ _ (by omega), Nat.add_sub_cancel_left]
theorem sx_set_0 : (sx T L).set T.length c = sx T (L.set 0 c) := sx_set_k (k := 0)
theorem sx_push : sx T L ++ M = sx T (L ++ M) := List.append_assoc ..
/-! ### what a def leaves -/
theorem SWf_set (hS : SWf n T = true) (hc : c.wf n = true) : SWf n (T.set q c) = true := List.all_eq_true.mpr fun x hx => by
  rcases List.mem_or_eq_of_mem_set hx with z | z
  · exact List.all_eq_true.mp hS x z
  · rw [z]; exact hc
theorem fin_p (hT : SWf T.length T = true) (hP : wfs T.length P = true) (hd : d.wf T.length = true) : cmp T.length d (st T p P L) = .ok d (T.set p (.lst P)) := by
  unfold cmp st
  have e : (T.set p (Cell.lst P) ++ L).take T.length = T.set p (.lst P) := List.take_left' (List.length_set ..)
  rw [e, if_pos (SWf_set (c := .lst P) hT hP), if_pos hd]
theorem fin_pl {xs : List D} (hT : SWf T.length T = true) (hP : wfs T.length P = true) (hL : L[k]? = some (.lst xs)) (hx : wfs T.length xs = true) : cmp T.length (.ref (T.length + k)) (st T p P L) = .ok (.ref T.length) (T.set p (.lst P) ++ [.lst xs]) := by
  unfold cmp
  have e : (st T p P L).take T.length = T.set p (.lst P) := List.take_left' (List.length_set ..)
  rw [e, if_pos (SWf_set (c := .lst P) hT hP), if_neg (show ¬ (D.ref (T.length + k)).wf T.length = true from fun z => by
    have z' : T.length + k < T.length := of_decide_eq_true z
    omega)]
  simp only [st_k, hL, newCell, hx, if_true]
theorem fin_pl0 {xs : List D} (hT : SWf T.length T = true) (hP : wfs T.length P = true) (hx : wfs T.length xs = true) : cmp T.length (.ref T.length) (st T p P (.lst xs :: L)) = .ok (.ref T.length) (T.set p (.lst P) ++ [.lst xs]) := fin_pl (k := 0) hT hP rfl hx
theorem fin_x (hT : SWf T.length T = true) (hd : d.wf T.length = true) : cmp T.length d (sx T L) = .ok d T := by
  unfold cmp sx
  rw [List.take_left' rfl, if_pos hT, if_pos hd]
theorem fin_xl {xs : List D} (hT : SWf T.length T = true) (hL : L[k]? = some (.lst xs)) (hx : wfs T.length xs = true) : cmp T.length (.ref (T.length + k)) (sx T L) = .ok (.ref T.length) (T ++ [.lst xs]) := by
  unfold cmp
  have e : (sx T L).take T.length = T := List.take_left' rfl
  rw [e, if_pos hT, if_neg (show ¬ (D.ref (T.length + k)).wf T.length = true from fun z => by
    have z' : T.length + k < T.length := of_decide_eq_true z
    omega)]
  simp only [sx_k, hL, newCell, hx, if_true]
theorem fin_xl0 {xs : List D} (hT : SWf T.length T = true) (hx : wfs T.length xs = true) : cmp T.length (.ref T.length) (sx T (.lst xs :: L)) = .ok (.ref T.length) (T ++ [.lst xs]) := fin_xl (k := 0) hT rfl hx
theorem Qp (hT : SWf T.length T = true) (hP : wfs T.length P = true) (hd : d.wf T.length = true) (h : Q (.ok d (T.set p (.lst P)))) : Q (cmp T.length d (st T p P L)) := by rw [fin_p hT hP hd]; exact h
theorem Qpl {xs : List D} (hT : SWf T.length T = true) (hP : wfs T.length P = true) (hL : L[k]? = some (.lst xs)) (hx : wfs T.length xs = true) (h : Q (.ok (.ref T.length) (T.set p (.lst P) ++ [.lst xs]))) : Q (cmp T.length (.ref (T.length + k)) (st T p P L)) := by rw [fin_pl hT hP hL hx]; exact h
theorem Qpl0 {xs : List D} (hT : SWf T.length T = true) (hP : wfs T.length P = true) (hx : wfs T.length xs = true) (h : Q (.ok (.ref T.length) (T.set p (.lst P) ++ [.lst xs]))) : Q (cmp T.length (.ref T.length) (st T p P (.lst xs :: L))) := by rw [fin_pl0 hT hP hx]; exact h
theorem Qx (hT : SWf T.length T = true) (hd : d.wf T.length = true) (h : Q (.ok d T)) : Q (cmp T.length d (sx T L)) := by rw [fin_x hT hd]; exact h
theorem Qxl {xs : List D} (hT : SWf T.length T = true) (hL : L[k]? = some (.lst xs)) (hx : wfs T.length xs = true) (h : Q (.ok (.ref T.length) (T ++ [.lst xs]))) : Q (cmp T.length (.ref (T.length + k)) (sx T L)) := by rw [fin_xl hT hL hx]; exact h
theorem Qxl0 {xs : List D} (hT : SWf T.length T = true) (hx : wfs T.length xs = true) (h : Q (.ok (.ref T.length) (T ++ [.lst xs]))) : Q (cmp T.length (.ref T.length) (sx T (.lst xs :: L))) := by rw [fin_xl0 hT hx]; exact h
/-- nothing is new and nothing is bad -/
theorem fin_s (hS : S.length = n) (hd : d.wf n = true) : cmp n d S = .ok d S := cmp_same hS hd
end
/-! ### cells, read -/
def tyC : Option Cell → Option Ty
  | some (.lst _) => some .lst
  | some (.rol _) => some .lst
  | some (.dic _) => some .dic
  | _ => none
def lstC : Option Cell → Option (List D)
  | some (.lst xs) => some xs
  | some (.rol xs) => some xs
  | _ => none
def ixO (S : Store) : Option D → Option (D × Store)
  | some d => some (d, S)
  | none => none
def ixC (i : Int) (S : Store) : Option (List D) → Option (D × Store)
  | some xs => ixO S (atI xs i)
  | none => none
def ixS (S : Store) : Option Nat → Option (D × Store)
  | some c => some (.str ⟨#[c]⟩, S)
  | none => none
def lenC (S : Store) : Option (List D) → Option (D × Store)
  | some xs => some (.int xs.length, S)
  | none => none
def appC (l : Nat) (d : D) (S : Store) : Option Cell → Option (D × Store)
  | some (.lst xs) => if xs.length < LIM then some (.non, S.set l (.lst (xs ++ [d]))) else none
  | _ => none
def extC (l : Nat) (S : Store) : Option Cell → Option Cell → Option (D × Store)
  | some (.lst xs), some (.lst ys) => if xs.length + ys.length ≤ LIM then some (.non, S.set l (.lst (xs ++ ys))) else none
  | _, _ => none
def popC (l : Nat) (S : Store) : Option Cell → Option (D × Store)
  | some (.lst xs) => (xs[xs.length - 1]?).map fun d => (d, S.set l (.lst xs.dropLast))
  | _ => none
def setC (l : Nat) (k : Int) (d : D) (S : Store) : Option Cell → Option Store
  | some (.lst xs) => (ixN xs.length k).map fun j => S.set l (.lst (xs.set j d))
  | _ => none
def catC (S : Store) : Option Cell → Option Cell → Option (D × Store)
  | some (.lst xs), some (.lst ys) => if xs.length + ys.length ≤ LIM then some (.ref S.length, S ++ [.lst (xs ++ ys)]) else none
  | _, _ => none
def tupC (S : Store) : Option (List D) → Option (D × Store)
  | some xs => some (.tup xs, S)
  | none => none
def newC (S : Store) : Option (List D) → Option (D × Store)
  | some xs => some (.ref S.length, S ++ [.lst xs])
  | none => none
def slC (lo hi : Option Int) (S : Store) : Option (List D) → Option (D × Store)
  | some xs => some (.ref S.length, S ++ [.lst (cutD xs lo hi)])
  | none => none
def truC : Option Cell → Option Bool
  | some (.lst xs) => some (!xs.isEmpty)
  | some (.rol xs) => some (!xs.isEmpty)
  | some (.dic kvs) => some (!kvs.isEmpty)
  | _ => none
def isO (T : Ty) (S : Store) : Option Ty → Option (D × Store)
  | some t => some (.bl (isiB t T), S)
  | none => none
def sumO (S : Store) : Option (List Int) → Option (D × Store)
  | some is => some (.int is.sum, S)
  | none => none
def sumC (S : Store) : Option (List D) → Option (D × Store)
  | some xs => sumO S (intsD xs)
  | none => none
def iaC (l : Nat) (S : Store) : Option (List D) → R (List D × Chk)
  | some xs => .ok (xs, [(l, xs)]) S
  | none => .no
section
variable {S : Store} {l r : Nat} {i k : Int} {d e : D} {xs ys : List D} {x : Str} {T : Ty} {t : Ty} {lo hi : Option Int}
theorem tyD_ref : tyD S (.ref l) = tyC S[l]? := by
  show (match S[l]? with | some (.lst _) => some Ty.lst | some (.rol _) => some Ty.lst | some (.dic _) => some Ty.dic | _ => none) = tyC S[l]?
  cases S[l]? with
  | none => rfl
  | some c => cases c <;> rfl
theorem tyC_lst : tyC (some (.lst xs)) = some .lst := nr rfl
theorem tyC_rol : tyC (some (.rol xs)) = some .lst := nr rfl
theorem tyC_dic {kvs : List (Key × D)} : tyC (some (.dic kvs)) = some .dic := nr rfl
theorem lstAt_C : lstAt S l = lstC S[l]? := by
  unfold lstAt
  cases S[l]? with
  | none => rfl
  | some c => cases c <;> rfl
theorem lstC_lst : lstC (some (.lst xs)) = some xs := nr rfl
theorem lstC_rol : lstC (some (.rol xs)) = some xs := nr rfl
theorem gIx_r : gIx (.ref l) (.int i) S = ixC i S (lstC S[l]?) := by
  show (lstAt S l).bind (fun xs => (atI xs i).map fun d => (d, S)) = _
  rw [lstAt_C]
  cases lstC S[l]? with
  | none => rfl
  | some xs =>
    show (atI xs i).map (fun d => (d, S)) = ixO S (atI xs i)
    cases atI xs i <;> rfl
theorem ixC_s : ixC i S (some xs) = ixO S (atI xs i) := nr rfl
theorem ixO_s : ixO S (some d) = some (d, S) := nr rfl
theorem gIx_t : gIx (.tup xs) (.int i) S = ixO S (atI xs i) := by
  show (atI xs i).map (fun d => (d, S)) = _
  cases atI xs i <;> rfl
theorem gIx_s : gIx (.str x) (.int i) S = ixS S (atI x.cps.toList i) := by
  show (atI x.cps.toList i).map _ = _
  cases atI x.cps.toList i <;> rfl
theorem ixS_s {c : Nat} : ixS S (some c) = some (.str ⟨#[c]⟩, S) := nr rfl
theorem atI_0 {α : Type} {a : α} {as : List α} : atI (a :: as) 0 = some a := by
  have h : atI (a :: as) ((0 : Nat) : Int) = (a :: as)[0]? := atI_nat (by rfl)
  exact h
theorem atI_1 {α : Type} {a b : α} {as : List α} : atI (a :: b :: as) 1 = some b := atI_nat (j := 1) rfl
theorem atI_2 {α : Type} {a b c : α} {as : List α} : atI (a :: b :: c :: as) 2 = some c := atI_nat (j := 2) rfl
theorem atI_3 {α : Type} {a b c d : α} {as : List α} : atI (a :: b :: c :: d :: as) 3 = some d := atI_nat (j := 3) rfl
theorem atI_4 {α : Type} {a b c d e : α} {as : List α} : atI (a :: b :: c :: d :: e :: as) 4 = some e := atI_nat (j := 4) rfl
theorem atI_5 {α : Type} {a b c d e f : α} {as : List α} : atI (a :: b :: c :: d :: e :: f :: as) 5 = some f := atI_nat (j := 5) rfl
theorem gLen_r : gLen [.ref l] S = lenC S (lstC S[l]?) := by
  show (lstAt S l).map _ = _
  rw [lstAt_C]
  cases lstC S[l]? <;> rfl
theorem lenC_s : lenC S (some xs) = some (.int xs.length, S) := nr rfl
theorem gAppend_r : gAppend (.ref l) [d] S = appC l d S S[l]? := by
  show (match S[l]? with | some (.lst xs) => if xs.length < LIM then some (D.non, S.set l (.lst (xs ++ [d]))) else none | _ => none) = _
  cases S[l]? with
  | none => rfl
  | some c => cases c <;> rfl
theorem appC_s (h : xs.length < 16777216) : appC l d S (some (.lst xs)) = some (.non, S.set l (.lst (xs ++ [d]))) := if_pos h
theorem gExtend_r : gExtend (.ref l) [.ref r] S = extC l S S[l]? S[r]? := by
  show (match S[l]?, S[r]? with | some (.lst xs), some (.lst ys) => if xs.length + ys.length ≤ LIM then some (D.non, S.set l (.lst (xs ++ ys))) else none | _, _ => none) = _
  cases S[l]? with
  | none => rfl
  | some c =>
    cases S[r]? with
    | none => cases c <;> rfl
    | some c' => cases c <;> cases c' <;> rfl
theorem extC_s (h : xs.length + ys.length ≤ 16777216) : extC l S (some (.lst xs)) (some (.lst ys)) = some (.non, S.set l (.lst (xs ++ ys))) := if_pos h
theorem gPop_r : gPop (.ref l) [] S = popC l S S[l]? := by
  show (match S[l]? with | some (.lst xs) => (xs[xs.length - 1]?).map fun d => (d, S.set l (.lst xs.dropLast)) | _ => none) = _
  cases S[l]? with
  | none => rfl
  | some c => cases c <;> rfl
theorem popC_s : popC l S (some (.lst (xs ++ [d]))) = some (d, S.set l (.lst xs)) := by
  show ((xs ++ [d])[(xs ++ [d]).length - 1]?).map _ = _
  rw [List.length_append, List.length_singleton, Nat.add_sub_cancel, List.getElem?_append_right (Nat.le_refl _), Nat.sub_self, List.dropLast_concat]
  rfl
theorem gSet_r : gSet (.ref l) (.int k) d S = setC l k d S S[l]? := by
  show (match S[l]? with | some (.lst xs) => (ixN xs.length k).map fun j => S.set l (.lst (xs.set j d)) | _ => none) = _
  cases S[l]? with
  | none => rfl
  | some c => cases c <;> rfl
theorem setC_s {m : Nat} (h : ixN xs.length k = some m) : setC l k d S (some (.lst xs)) = some (S.set l (.lst (xs.set m d))) := by
  show (ixN xs.length k).map _ = _
  rw [h]
  rfl
theorem setC_0 {a : D} : setC l 0 d S (some (.lst (a :: xs))) = some (S.set l (.lst (d :: xs))) := setC_s (m := 0) (xs := a :: xs) (by unfold ixN; rw [if_pos (by decide), if_pos (by rw [List.length_cons]; omega)]; rfl)
theorem setC_2 {a b c : D} : setC l 2 d S (some (.lst (a :: b :: c :: xs))) = some (S.set l (.lst (a :: b :: d :: xs))) := setC_s (m := 2) (xs := a :: b :: c :: xs) (by unfold ixN; rw [if_pos (by decide), if_pos (by rw [List.length_cons, List.length_cons, List.length_cons]; omega)]; rfl)
theorem gAdd_r : gAdd (.ref l) (.ref r) S = catC S S[l]? S[r]? := by
  show catL S l r = _
  unfold catL
  cases S[l]? with
  | none => rfl
  | some c =>
    cases S[r]? with
    | none => cases c <;> rfl
    | some c' => cases c <;> cases c' <;> rfl
theorem catC_s (h : xs.length + ys.length ≤ 16777216) : catC S (some (.lst xs)) (some (.lst ys)) = some (.ref S.length, S ++ [.lst (xs ++ ys)]) := if_pos h
/-- tuples, the left one empty or not -/
theorem gAdd_t (h : xs.length + ys.length ≤ 16777216) : gAdd (.tup xs) (.tup ys) S = some (.tup (xs ++ ys), S) := by
  cases xs with
  | nil => rfl
  | cons x xs => exact if_pos h
theorem gTuple_r : gTuple [.ref l] S = tupC S (lstC S[l]?) := by
  show (lstAt S l).map _ = _
  rw [lstAt_C]
  cases lstC S[l]? <;> rfl
theorem tupC_s : tupC S (some xs) = some (.tup xs, S) := nr rfl
theorem gTuple_t : gTuple [.tup xs] S = some (.tup xs, S) := nr rfl
theorem gList_r : gList [.ref l] S = newC S (lstC S[l]?) := by
  show (lstAt S l).map _ = _
  rw [lstAt_C]
  cases lstC S[l]? <;> rfl
theorem gList_t : gList [.tup xs] S = some (.ref S.length, S ++ [.lst xs]) := nr rfl
theorem newC_s : newC S (some xs) = some (.ref S.length, S ++ [.lst xs]) := nr rfl
theorem gSl_r : gSl (.ref l) lo hi S = slC lo hi S (lstC S[l]?) := by
  show (lstAt S l).map _ = _
  rw [lstAt_C]
  cases lstC S[l]? <;> rfl
theorem slC_s : slC lo hi S (some xs) = some (.ref S.length, S ++ [.lst (cutD xs lo hi)]) := nr rfl
theorem gSl_t : gSl (.tup xs) lo hi S = some (.tup (cutD xs lo hi), S) := nr rfl
theorem gSl_s : gSl (.str x) lo hi S = some (.str (cutS x lo hi), S) := nr rfl
theorem truD_ref : truD S (.ref l) = truC S[l]? := by
  show (match S[l]? with | some (.lst xs) => some (!xs.isEmpty) | some (.rol xs) => some (!xs.isEmpty) | some (.dic kvs) => some (!kvs.isEmpty) | _ => none) = _
  cases S[l]? with
  | none => rfl
  | some c => cases c <;> rfl
theorem truC_lst : truC (some (.lst xs)) = some (!xs.isEmpty) := nr rfl
theorem truD_non : truD S .non = some false := nr rfl
theorem truD_str : truD S (.str x) = some ((x.length : Int) != 0) := nr rfl
theorem isi_str : gIsi .str [d, .raw (.ty "str")] S = isO .str S (tyD S d) := by
  show (tyD S d).map (fun t => (D.bl (isiB t .str), S)) = _
  cases tyD S d <;> rfl
theorem isi_int : gIsi .int [d, .raw (.ty "int")] S = isO .int S (tyD S d) := by
  show (tyD S d).map (fun t => (D.bl (isiB t .int), S)) = _
  cases tyD S d <;> rfl
theorem isi_bool : gIsi .bl [d, .raw (.ty "bool")] S = isO .bl S (tyD S d) := by
  show (tyD S d).map (fun t => (D.bl (isiB t .bl), S)) = _
  cases tyD S d <;> rfl
theorem isi_tup : gIsi .tup [d, .raw (.ty "tuple")] S = isO .tup S (tyD S d) := by
  show (tyD S d).map (fun t => (D.bl (isiB t .tup), S)) = _
  cases tyD S d <;> rfl
theorem isi_lst : gIsi .lst [d, .raw (.ty "list")] S = isO .lst S (tyD S d) := by
  show (tyD S d).map (fun t => (D.bl (isiB t .lst), S)) = _
  cases tyD S d <;> rfl
theorem isO_s : isO T S (some t) = some (.bl (isiB t T), S) := nr rfl
theorem isB_1 : isiB .str .str = true := nr rfl
theorem isB_2 : isiB .tup .str = false := nr rfl
theorem isB_3 : isiB .int .str = false := nr rfl
theorem isB_4 : isiB .lst .str = false := nr rfl
theorem isB_5 : isiB .non .str = false := nr rfl
theorem isB_6 : isiB .bl .str = false := nr rfl
theorem isB_7 : isiB .str .int = false := nr rfl
theorem isB_8 : isiB .tup .int = false := nr rfl
theorem isB_9 : isiB .int .int = true := nr rfl
theorem isB_10 : isiB .lst .int = false := nr rfl
theorem isB_11 : isiB .non .int = false := nr rfl
theorem isB_12 : isiB .bl .int = true := nr rfl
theorem isB_13 : isiB .str .tup = false := nr rfl
theorem isB_14 : isiB .tup .tup = true := nr rfl
theorem isB_15 : isiB .int .tup = false := nr rfl
theorem isB_16 : isiB .lst .tup = false := nr rfl
theorem isB_17 : isiB .non .tup = false := nr rfl
theorem isB_18 : isiB .bl .tup = false := nr rfl
theorem isB_19 : isiB .str .bl = false := nr rfl
theorem isB_20 : isiB .tup .bl = false := nr rfl
theorem isB_21 : isiB .int .bl = false := nr rfl
theorem isB_22 : isiB .bl .bl = true := nr rfl
theorem isB_23 : isiB .dic .str = false := nr rfl
theorem isB_24 : isiB .dic .tup = false := nr rfl
theorem isB_25 : isiB .lst .lst = true := nr rfl
theorem isB_26 : isiB .tup .lst = false := nr rfl
theorem gSum_r : gSum [.ref l] S = sumC S (lstC S[l]?) := by
  show ((lstAt S l).bind intsD).map _ = _
  rw [lstAt_C]
  cases lstC S[l]? with
  | none => rfl
  | some xs =>
    show (intsD xs).map (fun ns => (D.int ns.sum, S)) = sumO S (intsD xs)
    cases intsD xs <;> rfl
theorem sumC_s : sumC S (some xs) = sumO S (intsD xs) := nr rfl
theorem sumO_s {is : List Int} : sumO S (some is) = some (.int is.sum, S) := nr rfl
theorem gMin_ {a b : Int} : gMin2 [.int a, .int b] S = some (.int (if b < a then b else a), S) := nr rfl
theorem gMax_ {a b : Int} : gMax2 [.int a, .int b] S = some (.int (if b > a then b else a), S) := nr rfl
theorem qEq_int {a b : Int} : gEq (.int a) (.int b) S = some (.bl (decide (a = b)), S) := by
  rw [gEq_int]
  by_cases e : a = b
  · rw [decide_eq_true e, e, beq_self_eq_true]
  · rw [decide_eq_false e, beq_eq_false_iff_ne.mpr e]
theorem qNe_int {a b : Int} : gNe (.int a) (.int b) S = some (.bl (!decide (a = b)), S) := by
  rw [gNe_int]
  by_cases e : a = b
  · rw [decide_eq_true e, e, beq_self_eq_true]
  · rw [decide_eq_false e, beq_eq_false_iff_ne.mpr e]
theorem qEq_str {a b : Str} : gEq (.str a) (.str b) S = some (.bl (decide (a = b)), S) := by
  rw [gEq_str]
  by_cases e : a = b
  · rw [decide_eq_true e, e, beq_self_eq_true]
  · rw [decide_eq_false e, beq_eq_false_iff_ne.mpr e]
theorem qNe_str {a b : Str} : gNe (.str a) (.str b) S = some (.bl (!decide (a = b)), S) := by
  rw [gNe_str]
  by_cases e : a = b
  · rw [decide_eq_true e, e, beq_self_eq_true]
  · rw [decide_eq_false e, beq_eq_false_iff_ne.mpr e]
theorem gNeg_z : gNeg (.int i) S = some (.int (-i), S) := nr rfl
end
/-! ### slices -/
theorem sIx_nat (n d k : Nat) (h : k ≤ n) : HT.sIx n d (some (k : Int)) = k := by
  unfold HT.sIx
  simp only
  split
  · omega
  · rw [Int.toNat_natCast]; omega
theorem cut_take {α : Type} {xs : List α} {k : Int} (h0 : 0 ≤ k) : cutD xs none (some k) = xs.take k.toNat := by
  unfold cutD HT.sIx
  simp only
  rw [if_neg (by omega)]
  simp only [List.drop_zero, Nat.sub_zero]
  rcases Nat.le_total k.toNat xs.length with h | h
  · rw [Nat.min_eq_left h]
  · rw [Nat.min_eq_right h, List.take_length, List.take_of_length_le h]
theorem cut_drop {α : Type} {xs : List α} {k : Int} (h0 : 0 ≤ k) : cutD xs (some k) none = xs.drop k.toNat := by
  unfold cutD HT.sIx
  simp only
  rw [if_neg (by omega)]
  rcases Nat.le_total k.toNat xs.length with h | h
  · rw [Nat.min_eq_left h, List.take_of_length_le (by rw [List.length_drop]; omega)]
  · rw [Nat.min_eq_right h, List.drop_length, List.drop_of_length_le h, List.take_nil]
theorem cut_mid {α : Type} {xs : List α} {j k : Int} (h0 : 0 ≤ j) (h1 : j ≤ k) (h2 : k ≤ xs.length) : cutD xs (some j) (some k) = (xs.drop j.toNat).take (k.toNat - j.toNat) := by
  unfold cutD HT.sIx
  simp only
  rw [if_neg (by omega), if_neg (by omega), Nat.min_eq_left (by omega), Nat.min_eq_left (by omega)]
theorem cut_init {α : Type} {xs : List α} : cutD xs none (some (-1)) = xs.dropLast := by
  unfold cutD HT.sIx
  simp only
  rw [if_pos (by decide), List.drop_zero, List.dropLast_eq_take, Nat.sub_zero]
  congr 1
  omega
theorem atI_last {α : Type} {xs : List α} {a : α} : atI (xs ++ [a]) (-1) = some a := L2.atI_last _ _
/-! ### loops -/
def Tn (I : Env → Store → Prop) (P : Out → Prop) : Out → Prop
  | .nx ρ S => I ρ S
  | .ct ρ S => I ρ S
  | .bk ρ S => P (.nx ρ S)
  | .rt d S => P (.rt d S)
  | .ex x ρ S => P (.ex x ρ S)
  | .no => False
section
variable {tg : D → SX} {body h : SX} {k : Chk} {P : Out → Prop}
theorem Tn_nx {I : Env → Store → Prop} {ρ : Env} {S : Store} : Tn I P (.nx ρ S) = I ρ S := nr rfl
theorem Tn_ct {I : Env → Store → Prop} {ρ : Env} {S : Store} : Tn I P (.ct ρ S) = I ρ S := nr rfl
theorem Tn_bk {I : Env → Store → Prop} {ρ : Env} {S : Store} : Tn I P (.bk ρ S) = P (.nx ρ S) := nr rfl
theorem Tn_rt {I : Env → Store → Prop} {d : D} {S : Store} : Tn I P (.rt d S) = P (.rt d S) := nr rfl
theorem Tn_ex {I : Env → Store → Prop} {x : Exn} {ρ : Env} {S : Store} : Tn I P (.ex x ρ S) = P (.ex x ρ S) := nr rfl
theorem forQ' (I : Nat → Env → Store → Prop) {all : List D} (hs : ∀ j d ρ S, all[j]? = some d → I j ρ S → chkOk k S ∧ ∃ ρ1 S1, tg d ρ S = .nx ρ1 S1 ∧ Tn (I (j + 1)) P (body ρ1 S1))
    (he : ∀ ρ S, I all.length ρ S → chkOk k S ∧ P (.nx ρ S)) : ∀ (xs : List D) (i : Nat) (ρ : Env) (S : Store), all.drop i = xs → i + xs.length = all.length → I i ρ S → P (runF tg body k xs ρ S)
  | [], i, ρ, S, _, hi, h0 => by
    have hi : i = all.length := hi
    subst hi
    obtain ⟨h1, h2⟩ := he ρ S h0
    unfold runF
    rw [if_pos h1]
    exact h2
  | d :: ds, i, ρ, S, e, hi, h0 => by
    have hd : all[i]? = some d := by
      have := congrArg (fun l => l[0]?) e
      simpa using this
    have ht : all.drop (i + 1) = ds := by
      rw [← List.drop_drop, e]
      rfl
    have hi' : i + 1 + ds.length = all.length := by rw [← hi, List.length_cons]; omega
    obtain ⟨h1, ρ1, S1, h2, h3⟩ := hs i d ρ S hd h0
    unfold runF
    rw [if_pos h1, h2]
    show P (match body ρ1 S1 with
      | .nx ρ2 S2 => runF tg body k ds ρ2 S2
      | .ct ρ2 S2 => runF tg body k ds ρ2 S2
      | .bk ρ2 S2 => .nx ρ2 S2
      | o => o)
    cases eb : body ρ1 S1 with
    | nx ρ2 S2 => rw [eb] at h3; exact forQ' I hs he ds (i + 1) ρ2 S2 ht hi' h3
    | ct ρ2 S2 => rw [eb] at h3; exact forQ' I hs he ds (i + 1) ρ2 S2 ht hi' h3
    | bk ρ2 S2 => rw [eb] at h3; exact h3
    | rt d S2 => rw [eb] at h3; exact h3
    | ex x ρ2 S2 => rw [eb] at h3; exact h3
    | no => rw [eb] at h3; exact h3.elim
/-- a for loop by an invariant, something behind it -/
theorem forQ (I : Nat → Env → Store → Prop) {all : List D} {ρ : Env} {S : Store} (h0 : I 0 ρ S) (hs : ∀ j d ρ S, all[j]? = some d → I j ρ S → chkOk k S ∧ ∃ ρ1 S1, tg d ρ S = .nx ρ1 S1 ∧ Tn (I (j + 1)) (fun o => P (o.seq h)) (body ρ1 S1))
    (he : ∀ ρ S, I all.length ρ S → chkOk k S ∧ P (h ρ S)) : P ((runF tg body k all ρ S).seq h) :=
  forQ' (P := fun o => P (o.seq h)) I hs he all 0 ρ S rfl (Nat.zero_add _) h0
/-- the same, nothing behind it -/
theorem forQe (I : Nat → Env → Store → Prop) {all : List D} {ρ : Env} {S : Store} (h0 : I 0 ρ S) (hs : ∀ j d ρ S, all[j]? = some d → I j ρ S → chkOk k S ∧ ∃ ρ1 S1, tg d ρ S = .nx ρ1 S1 ∧ Tn (I (j + 1)) P (body ρ1 S1))
    (he : ∀ ρ S, I all.length ρ S → chkOk k S ∧ P (.nx ρ S)) : P (runF tg body k all ρ S) :=
  forQ' I hs he all 0 ρ S rfl (Nat.zero_add _) h0
/-- over a range from lo -/
theorem rng_get {lo : Int} {n j : Nat} {d : D} (h : (rng lo n)[j]? = some d) : j < n ∧ d = .int (lo + j) := by
  unfold rng at h
  rw [List.getElem?_map] at h
  by_cases z : j < n
  · rw [List.getElem?_range z] at h
    cases h
    exact ⟨z, rfl⟩
  · rw [List.getElem?_eq_none (by rw [List.length_range]; omega)] at h
    cases h
/-- a while loop: what is left falls -/
theorem whileQ' {t : TX} (I : Nat → Env → Store → Prop) (hs : ∀ j ρ S, I j ρ S → (∃ S1, t ρ S = .ok false S1 ∧ P (.nx ρ S1)) ∨ ∃ S1, t ρ S = .ok true S1 ∧ Tn (fun ρ S => ∃ i, i < j ∧ I i ρ S) P (body ρ S1)) :
    ∀ (m j : Nat) (ρ : Env) (S : Store), j < m → I j ρ S → P (runW t body m ρ S)
  | 0, j, _, _, h, _ => absurd h (Nat.not_lt_zero _)
  | m + 1, j, ρ, S, hj, h0 => by
    unfold runW
    rcases hs j ρ S h0 with ⟨S1, e, q⟩ | ⟨S1, e, q⟩
    · rw [e]; exact q
    · rw [e]
      show P (match body ρ S1 with
        | .nx ρ2 S2 => runW t body m ρ2 S2
        | .ct ρ2 S2 => runW t body m ρ2 S2
        | .bk ρ2 S2 => .nx ρ2 S2
        | o => o)
      cases eb : body ρ S1 with
      | nx ρ2 S2 => rw [eb] at q; obtain ⟨i, hi, q⟩ := q; exact whileQ' I hs m i ρ2 S2 (by omega) q
      | ct ρ2 S2 => rw [eb] at q; obtain ⟨i, hi, q⟩ := q; exact whileQ' I hs m i ρ2 S2 (by omega) q
      | bk ρ2 S2 => rw [eb] at q; exact q
      | rt d S2 => rw [eb] at q; exact q
      | ex x ρ2 S2 => rw [eb] at q; exact q
      | no => rw [eb] at q; exact q.elim
/-- a comprehension by an invariant: what stands in the new list after j turns, and in what store -/
theorem compQ {l : Nat} {ρ : Env} {g : Cg} {ft : TX} {fe : EX} (I : Nat → List D → Store → Prop) {all : List D} (hl : all.length ≤ 1000000)
    (hs : ∀ j d acc S, all[j]? = some d → acc.length ≤ j → S[l]? = some (.lst acc) → I j acc S → chkOk k S ∧ ∃ ρ1, g.put d ρ = some ρ1 ∧ ∃ b S2, ft ρ1 S = .ok b S2 ∧ S2[l]? = some (.lst acc) ∧
      (b = false → I (j + 1) acc S2) ∧ (b = true → ∃ e S3, fe ρ1 S2 = .ok e S3 ∧ S3[l]? = some (.lst acc) ∧ I (j + 1) (acc ++ [e]) (S3.set l (.lst (acc ++ [e])))))
    (he : ∀ acc S, I all.length acc S → chkOk k S) :
    ∀ (xs : List D) (i : Nat) (acc : List D) (S : Store), all.drop i = xs → i + xs.length = all.length → acc.length ≤ i → S[l]? = some (.lst acc) → I i acc S → ∃ acc' S', acc'.length ≤ all.length ∧ S'[l]? = some (.lst acc') ∧ I all.length acc' S' ∧ runC l ρ g ft fe k xs S = .ok (.ref l) S'
  | [], i, acc, S, _, hi, ha, hS, h0 => by
    have hi : i = all.length := hi
    subst hi
    refine ⟨acc, S, ha, hS, h0, ?_⟩
    unfold runC
    rw [if_pos (he acc S h0)]
  | d :: ds, i, acc, S, e, hi, ha, hS, h0 => by
    have hd : all[i]? = some d := by
      have := congrArg (fun l => l[0]?) e
      simpa using this
    have ht : all.drop (i + 1) = ds := by
      rw [← List.drop_drop, e]
      rfl
    have hi' : i + 1 + ds.length = all.length := by rw [← hi, List.length_cons]; omega
    have hlt : i < all.length := by rw [← hi, List.length_cons]; omega
    obtain ⟨h1, ρ1, h2, b, S2, h3, h4, h5, h6⟩ := hs i d acc S hd ha hS h0
    unfold runC
    rw [if_pos h1]
    simp only [h2, h3]
    cases b with
    | false => exact compQ I hl hs he ds (i + 1) acc S2 ht hi' (by omega) h4 (h5 rfl)
    | true =>
      obtain ⟨e, S3, h7, h8, h9⟩ := h6 rfl
      simp only [h7, h8]
      rw [if_pos (show acc.length < LIM by show acc.length < 16777216; omega)]
      exact compQ I hl hs he ds (i + 1) (acc ++ [e]) _ ht hi' (by rw [List.length_append, List.length_singleton]; omega) (List.getElem?_set_self (List.getElem?_eq_some_iff.mp h8).1) h9
end
/-! ### what is walked, evaluated -/
noncomputable def kFor (tg : D → SX) (body : SX) (ρ : Env) : R (List D × Chk) → Out
  | .ok p S => runF tg body p.2 p.1 ρ S
  | .ex x S => .ex x ρ S
  | .no => .no
def kR1 : R D → R (List D × Chk)
  | .ok d S => match d with
    | .int j => if -(2 ^ 62) ≤ j ∧ j < 2 ^ 62 then .ok (rng 0 j.toNat, []) S else .no
    | _ => .no
  | .ex x S => .ex x S
  | .no => .no
def kR3 (d : D) : R D → R (List D × Chk)
  | .ok e S => match d, e with
    | .int i, .int j => if -(2 ^ 62) ≤ i ∧ i < 2 ^ 62 ∧ -(2 ^ 62) ≤ j ∧ j < 2 ^ 62 then .ok (rng i (j - i).toNat, []) S else .no
    | _, _ => .no
  | .ex x S => .ex x S
  | .no => .no
def kR2 (g : EX) (ρ : Env) : R D → R (List D × Chk)
  | .ok d S => kR3 d (g ρ S)
  | .ex x S => .ex x S
  | .no => .no
def kAny : R D → R (List D × Chk)
  | .ok d S => match d with
    | .ref l => iaC l S (lstC S[l]?)
    | .tup xs => .ok (xs, []) S
    | .str x => .ok (x.cps.toList.map fun c => .str ⟨#[c]⟩, []) S
    | _ => .no
  | .ex x S => .ex x S
  | .no => .no
noncomputable def kLc (vs : List Nat) (g : Cg) (ft : TX) (fe : EX) (ρ : Env) : R (List D × Chk) → R D
  | .ok p S => runC S.length (wipeD ρ vs) g ft fe p.2 p.1 (S ++ [.lst []])
  | .ex x S => .ex x S
  | .no => .no
section
variable {src : IX} {tg : D → SX} {body : SX} {f g : EX} {ρ : Env} {S : Store} {i j : Int} {l : Nat} {xs : List D} {x : Str} {k : Chk} {vs : List Nat} {cg : Cg} {ft : TX} {fe : EX}
theorem sF_ : sF src tg body ρ S = kFor tg body ρ (src ρ S) := by show (src ρ S).out ρ _ = _; cases src ρ S <;> rfl
theorem kFor_ : kFor tg body ρ (.ok (xs, k) S) = runF tg body k xs ρ S := nr rfl
theorem iR1_ : iR1 f ρ S = kR1 (f ρ S) := by show (f ρ S).bind _ = _; cases f ρ S <;> rfl
theorem kR1_ (h0 : -4611686018427387904 ≤ j) (h1 : j < 4611686018427387904) : kR1 (.ok (.int j) S) = .ok (rng 0 j.toNat, []) S := if_pos ⟨h0, h1⟩
theorem iR2_ : iR2 f g ρ S = kR2 g ρ (f ρ S) := by
  show (f ρ S).bind _ = _
  cases f ρ S with
  | ok d S1 =>
    show (g ρ S1).bind _ = kR3 d (g ρ S1)
    cases g ρ S1 <;> rfl
  | _ => rfl
theorem kR2_ {d : D} : kR2 g ρ (.ok d S) = kR3 d (g ρ S) := nr rfl
theorem kR3_ (h0 : -4611686018427387904 ≤ i) (h1 : i < 4611686018427387904) (h2 : -4611686018427387904 ≤ j) (h3 : j < 4611686018427387904) : kR3 (.int i) (.ok (.int j) S) = .ok (rng i (j - i).toNat, []) S := if_pos ⟨h0, h1, h2, h3⟩
theorem iA_ : iA f ρ S = kAny (f ρ S) := by
  show (f ρ S).bind _ = _
  cases f ρ S with
  | ok d S1 =>
    cases d with
    | ref l =>
      show (match lstAt S1 l with | some xs => R.ok (xs, [(l, xs)]) S1 | none => .no) = iaC l S1 (lstC S1[l]?)
      rw [lstAt_C]
      cases lstC S1[l]? <;> rfl
    | _ => rfl
  | _ => rfl
theorem kAny_r : kAny (.ok (.ref l) S) = iaC l S (lstC S[l]?) := nr rfl
theorem kAny_t : kAny (.ok (.tup xs) S) = .ok (xs, []) S := nr rfl
theorem kAny_s : kAny (.ok (.str x) S) = .ok (x.cps.toList.map fun c => .str ⟨#[c]⟩, []) S := nr rfl
theorem iaC_s : iaC l S (some xs) = .ok (xs, [(l, xs)]) S := nr rfl
theorem eLc_ : eLc vs src cg ft fe ρ S = kLc vs cg ft fe ρ (src ρ S) := by show (src ρ S).bind _ = _; cases src ρ S <;> rfl
theorem kLc_ : kLc vs cg ft fe ρ (.ok (xs, k) S) = runC S.length (wipeD ρ vs) cg ft fe k xs (S ++ [.lst []]) := nr rfl
theorem wipeD_c {v : Nat} : wipeD ρ (v :: vs) = (wipeD ρ vs).set v none := nr rfl
theorem wipeD_n : wipeD ρ [] = ρ := nr rfl
theorem tYes_ : tYesD ρ S = .ok true S := nr rfl
theorem put_one {d : D} {m : Nat} : (Cg.one m).put d ρ = some (ρ.set m (some d)) := nr rfl
theorem sAug_ {m : Nat} {gg : D → D → Store → Option (D × Store)} {d : D} (h : ρ[m]? = some (some d)) : sAug m gg f ρ S = kN m ρ (kE2 gg d (f ρ S)) := by
  unfold sAug
  rw [h]
  show (f ρ S).out ρ _ = _
  cases f ρ S with
  | ok y S1 =>
    show (match gg d y S1 with | some (z, S2) => Out.nx (ρ.set m (some z)) S2 | none => .no) = kN m ρ (toR (gg d y S1))
    cases gg d y S1 <;> rfl
  | _ => rfl
theorem gAug_i : gAugAdd (.int i) (.int j) S = some (.int (i + j), S) := nr rfl
theorem sBk_ : sBk ρ S = .bk ρ S := nr rfl
theorem sCt_ : sCt ρ S = .ct ρ S := nr rfl
theorem sW_ {n : Nat} {t : TX} : sW n t body ρ S = runW t body n ρ S := nr rfl
/-- flat cells -/
inductive FL : List Cell → Prop
  | nil : FL []
  | cons {c : Cell} {L : List Cell} (h : c.flat = true) (t : FL L) : FL (c :: L)
end
theorem SOK_FL_wf {n : Nat} {c : Cell} (h : c.flat = true) : Cell.wf n c = true := by
  cases c with
  | lst xs => exact wfs_flat h
  | rol xs => exact wfs_flat h
  | dic kvs => exact wfs_flat h
  | gone => rfl
theorem FL.app : ∀ {L M : List Cell}, FL L → FL M → FL (L ++ M)
  | [], _, _, h => h
  | _ :: _, _, .cons h t, h' => .cons h (FL.app t h')
theorem FL.one {c : Cell} (h : c.flat = true) : FL [c] := .cons h .nil
theorem FL.set : ∀ {L : List Cell} {i : Nat} {c : Cell}, FL L → c.flat = true → FL (L.set i c)
  | [], _, _, _, _ => .nil
  | _ :: _, 0, _, .cons _ t, h => .cons h t
  | _ :: _, i + 1, _, .cons h0 t, h => .cons h0 (FL.set t h)
theorem FL.mem : ∀ {L : List Cell} {c : Cell}, FL L → c ∈ L → c.flat = true
  | _ :: _, _, .cons h t, hc => by
    rcases List.mem_cons.mp hc with rfl | hc
    · exact h
    · exact FL.mem t hc
section
variable {S : Store} {ρ : Env} {g : Cg} {fe : EX} {k : Chk} {ds : List D} {L : List Cell} {m p : Nat} {P : List D}
/-- a comprehension that leaves the store as it is -/
theorem comp_sx (val : D → D) (hz : ds.length ≤ 1000000) (hL : L[m]? = some (.lst [])) (hk : ∀ a, chkOk k (sx S (L.set m (.lst a))))
    (h : ∀ d ∈ ds, ∃ ρ1, g.put d ρ = some ρ1 ∧ ∀ a, fe ρ1 (sx S (L.set m (.lst a))) = .ok (val d) (sx S (L.set m (.lst a)))) :
    runC (S.length + m) ρ g tYesD fe k ds (sx S L) = .ok (.ref (S.length + m)) (sx S (L.set m (.lst (ds.map val)))) := by
  have hm := (List.getElem?_eq_some_iff.mp hL).1
  have e0 : L.set m (.lst []) = L := by
    apply List.ext_getElem?
    intro i
    by_cases e : m = i
    · subst e; rw [List.getElem?_set_self hm, hL]
    · rw [List.getElem?_set_ne e]
  obtain ⟨acc, T, h1, h2, ⟨rfl, rfl⟩, e⟩ := compQ (l := S.length + m) (ρ := ρ) (g := g) (ft := tYesD) (fe := fe) (k := k) (fun j acc T => acc = (ds.take j).map val ∧ T = sx S (L.set m (.lst acc))) (all := ds) hz (fun j d acc T hd ha hT hI => by
    obtain ⟨rfl, rfl⟩ := hI
    obtain ⟨ρ1, q1, q2⟩ := h d (List.mem_of_getElem? hd)
    refine ⟨hk _, ρ1, q1, true, _, rfl, hT, (fun z => nomatch z), fun _ => ⟨_, _, q2 _, hT, ?_, ?_⟩⟩
    · have hj := (List.getElem?_eq_some_iff.mp hd)
      rw [List.take_succ, hd, List.map_append]
      rfl
    · rw [sx_set_k, List.set_set]) (fun acc T hI => by rw [hI.2]; exact hk _) ds 0 [] (sx S L) rfl (Nat.zero_add _) (Nat.le_refl _) (by rw [sx_k]; exact hL) ⟨rfl, by rw [e0]⟩
  rw [e, List.take_length]
theorem comp_sx0 (val : D → D) (hz : ds.length ≤ 1000000) (hk : ∀ a, chkOk k (sx S (.lst a :: L)))
    (h : ∀ d ∈ ds, ∃ ρ1, g.put d ρ = some ρ1 ∧ ∀ a, fe ρ1 (sx S (.lst a :: L)) = .ok (val d) (sx S (.lst a :: L))) :
    runC S.length ρ g tYesD fe k ds (sx S (.lst [] :: L)) = .ok (.ref S.length) (sx S (.lst (ds.map val) :: L)) := comp_sx (m := 0) (L := .lst [] :: L) val hz rfl hk h
end
/-! ### dict displays -/
def dgC (k : Key) : Option Cell → Option D
  | some (.dic kvs) => findK kvs k
  | _ => none
theorem gDget_r {S : Store} {l : Nat} {s : Str} : gDget (.ref l) (.str s) S = ixO S (dgC (.inr s) S[l]?) := by
  show (match S[l]?, keyD (.str s) with | some (.dic kvs), some k => (findK kvs k).map fun d => (d, S) | _, _ => none) = _
  cases S[l]? with
  | none => rfl
  | some c =>
    cases c with
    | dic kvs =>
      show (findK kvs (.inr s)).map (fun d => (d, S)) = ixO S (findK kvs (.inr s))
      cases findK kvs (.inr s) <;> rfl
    | _ => rfl
theorem dgC_s {k : Key} {kvs : List (Key × D)} : dgC k (some (.dic kvs)) = findK kvs k := nr rfl
/-- a display of constants -/
theorem eDct_c {L : List (Key × EX)} {ds : List D} {ρ : Env} {S : Store} (h : aL L ρ (S ++ [.dic []]) = .ok ds (S ++ [.dic []])) (hL : L.length ≤ 15 ∧ (L.map (·.1)).Nodup) : eDct L ρ S = .ok (.ref S.length) (S ++ [.dic ((L.map (·.1)).zip ds)]) := by
  unfold eDct
  rw [h]
  simp only [R.bind_ok, get_end]
  rw [if_pos hL, set_end]
end Dl

set_option Elab.async false
set_option linter.all false
set_option maxRecDepth 100000
namespace Dl
open PySem L2
/-! ## a call of a def that a name holds -/
def heldF (a : Addr) : List (Addr × (List D → M D)) → Option (List D → M D)
  | [] => none
  | p :: r => if p.1 = a then some p.2 else heldF a r
/-- the def that stands in the i-th slot, called -/
def eFv (i : Nat) (cs : List (Addr × (List D → M D))) (fx : AX) : EX := fun ρ S => match ρ[i]? with
  | some (some (.raw (.ref a))) => match heldF a cs with
    | some F => (fx ρ S).bind fun xs S1 => F xs S1
    | none => .no
  | _ => .no
theorem heldF_mem {a : Addr} : ∀ {cs : List (Addr × (List D → M D))} {F : List D → M D}, heldF a cs = some F → (a, F) ∈ cs
  | [], _, h => nomatch h
  | p :: r, F, h => by
    unfold heldF at h
    split at h
    · rename_i e
      cases h
      rw [← e]
      exact List.mem_cons_self ..
    · exact List.mem_cons_of_mem _ (heldF_mem h)
section
variable {X : Cx} {W : WX} {e : Expr} {es : List Expr} {fx : AX} {pos p : Pos} {CX : CXT} {k i : Nat} {x : Str}
theorem d_callV {cs : List (Addr × (List D → M D))} (C : ∀ q ∈ cs, ∃ fd ps, FnOk X.prog X.w X.K X.mg X.base CX k q.1 fd ps (rdF ⟨X.K, X.mg, W0⟩ q.2) ∧ PySem.W.keepIn X.K (.ref q.1) = true ∧ Binds X.K fd ps []) (hr : Room k X.A)
    (hx : ∀ σ, PassesAt CX X σ (WE W σ)) (ha : PA X (e :: es) (rdA (X.cq W) fx)) (hN : X.N[i]? = some x := by rfl) (hv : Vis X.env.scope x := by first | exact Or.inl rfl | exact Or.inr (Or.inl rfl) | exact Or.inr (Or.inr rfl))
    (hdb : (x == ("__debug__" : Str)) = false := by decide) (hcd : (x == ("__classdict__" : Str)) = false := by decide)
    (he : starEach (e :: es) X.env = (false, eval e X.env) :: starEach es X.env := by rfl) (hpl : (backTo pos (starEach es X.env)).any (·.1) = false := by rfl) :
    PE X (.Call (.Name x p) (e :: es) [] pos) (rdE (X.cq W) (eFv i cs fx)) := by
  refine ⟨fun pins s σ H Q I ⟨m, ρ, S, re, rs, h⟩ => ?_⟩
  unfold eFv at h
  split at h
  · rename_i a er
    split at h
    · rename_i F eF
      obtain ⟨fd, ps, G, hk, hb⟩ := C _ (heldF_mem eF)
      obtain ⟨v, hs, rd⟩ := re.at_ er
      cases rd
      refine wpAny_Call_Name_kw (thn ((pe_var (pos := p) hN hv hdb hcd).run pins s σ H (fun v H1 => v = .ref a ∧ H1 = H) I ⟨.ref a, hs, rfl, rfl⟩) fun u s1 ⟨v, H1, I1, r1, q1⟩ => ?_)
      obtain ⟨q1, q2⟩ := q1
      subst q1 q2
      cases r1
      refine PySem.W.callWith_K (h₀ := X.base) I.ok.mod.kin hk (thn (ha.run pos pins s1 σ _ (fun vs H2 => rdF ⟨X.K, X.mg, W0⟩ F vs H2 Q (WE W σ)) I1 ⟨m, ρ, S, re, rs, (Post.bind h).imp fun vs H2 ⟨m2, xs, S2, e2, rs2, rds, h2⟩ => ⟨m2, xs, S2, rds, rs2, by
        cases er2 : F xs S2 with
        | ok d S3 => rw [er2] at h2; exact h2
        | ex ex S3 => rw [er2] at h2; exact h2
        | no => rw [er2] at h2; exact h2⟩⟩) fun us s2 ⟨vs, H2, I2, r, q⟩ => ⟨I2.kIn, run_fnS G hr hb (hx σ) I2 r q⟩) he hpl
    · exact h.elim
  · exact h.elim
end
/-! ## max of a list -/
def maxL : List Int → Int
  | [] => 0
  | [x] => x
  | x :: y :: r => if maxL (y :: r) < x then x else maxL (y :: r)
theorem maxL_mem : ∀ {xs : List Int}, xs ≠ [] → maxL xs ∈ xs
  | [], h => absurd rfl h
  | [x], _ => List.mem_cons_self ..
  | x :: y :: r, _ => by
    unfold maxL
    split
    · exact List.mem_cons_self ..
    · exact List.mem_cons_of_mem _ (maxL_mem (by simp))
theorem maxL_le : ∀ {xs : List Int} {y : Int}, y ∈ xs → y ≤ maxL xs
  | [x], y, h => by rw [List.mem_singleton.mp h]; exact Int.le_refl _
  | x :: z :: r, y, h => by
    unfold maxL
    have q : ∀ {w : Int}, w ∈ z :: r → w ≤ maxL (z :: r) := fun h => maxL_le h
    rcases List.mem_cons.mp h with e | h
    · subst e
      split <;> omega
    · have := q h
      split <;> omega
def gMaxL : List D → Store → Option (D × Store)
  | [.ref l], S => match (lstAt S l).bind intsD with
    | some (x :: r) => some (.int (maxL (x :: r)), S)
    | _ => none
  | _, _ => none
theorem ints_rdA {K : PySem.W.Frag} {m : List Addr} {H : Hp} : ∀ {xs : List D} {vs : List V} {ns : List Int}, RDs K m H vs xs → intsD xs = some ns → vs = ns.map V.int
  | [], _, _, r, h => by cases r; cases h; rfl
  | .int i :: r, _, ns, rr, h => by
    cases rr with
    | cons h1 h2 =>
      cases h1
      have h : (intsD r).map (i :: ·) = some ns := h
      cases e : intsD r with
      | none => rw [e] at h; cases h
      | some cs =>
        rw [e] at h
        cases h
        rw [ints_rdA h2 e]
        rfl
  | .non :: _, _, _, _, h => nomatch h
  | .bl _ :: _, _, _, _, h => nomatch h
  | .str _ :: _, _, _, _, h => nomatch h
  | .tup _ :: _, _, _, _, h => nomatch h
  | .ref _ :: _, _, _, _, h => nomatch h
  | .raw _ :: _, _, _, _, h => nomatch h
section
variable {X : Cx}
theorem c_maxL (hc : X.calm = true) : CallR X (.builtin "max") (rdC X.K gMaxL) := by
  intro pins s σ H vs us Q I r ⟨m, xs, S, hx, rs, h⟩
  unfold gMaxL at h
  split at h
  · rename_i l
    split at h
    · rename_i x ns e0
      cases e1 : lstAt S l with
      | none => rw [e1] at e0; exact nomatch e0
      | some ys =>
        rw [e1] at e0
        have e2 : intsD ys = some (x :: ns) := e0
        cases hx with
        | cons h1 h2 =>
          cases h2
          cases h1 with
          | ref hl =>
            obtain ⟨ws, hq, rd⟩ := rs.lst hl e1
            have ew := ints_rdA rd e2
            subst ew
            refine cr_max hc pins s σ H _ us Q I r ⟨_, x :: ns, rfl, hq, by rw [List.length_cons]; omega, fun mm h1 h2 => ?_⟩
            have e3 : mm = maxL (x :: ns) := Int.le_antisymm (maxL_le h1) (h2 _ (maxL_mem (by simp)))
            subst e3
            exact h _ _ m .refl rs (.int _)
    · exact h.elim
  · exact h.elim
end
/-! ## a list, times -/
def gRep : D → D → Store → Option (D × Store)
  | .ref l, .int k, S => match S[l]? with
    | some (.lst xs) => if -(2 ^ 63) ≤ k ∧ k < 2 ^ 63 ∧ xs.length * k.toNat ≤ LIM then some (.ref S.length, S ++ [.lst (List.replicate k.toNat xs).flatten]) else none
    | _ => none
  | _, _, _ => none
theorem RDs.rep {K : PySem.W.Frag} {m : List Addr} {H : Hp} {vs : List V} {ds : List D} (r : RDs K m H vs ds) : ∀ n : Nat, RDs K m H (List.replicate n vs).flatten (List.replicate n ds).flatten
  | 0 => .nil
  | n + 1 => by
    rw [List.replicate_succ, List.replicate_succ, List.flatten_cons, List.flatten_cons]
    exact r.append (RDs.rep r n)
theorem o_rep {X : Cx} : OpR X (binaryOp .Mult) (rd2 X.K gRep) := by
  intro pins s σ H v u vv uu Q I rv ru ⟨m, x, y, S, hx, hy, rs, h⟩
  unfold gRep at h
  split at h
  · rename_i l k
    split at h
    · rename_i xs e
      split at h
      · rename_i hc
        obtain ⟨c1, c2, c3⟩ := hc
        cases hx with
        | ref hl =>
          cases hy
          obtain ⟨ws, h1, r1⟩ := rs.wlst hl e
          exact op_rep pins s σ H _ _ vv uu Q I rv ru ⟨_, k, ws, rfl, rfl, h1, c1, c2, by rw [r1.length, ← lim_eq]; exact c3, fun p hp => vp_lst rs hp (r1.rep k.toNat) h⟩
      · exact h.elim
    · exact h.elim
  · exact h.elim
/-! ## // by a large number -/
def gFdivW : D → D → Store → Option (D × Store)
  | .int i, .int j, S => if 0 < j ∧ j.natAbs.log2 < 9000 then some (.int (i / j), S) else none
  | _, _, _ => none
theorem o_fdivW {X : Cx} : OpR X (binaryOp .FloorDiv) (rd2 X.K gFdivW) :=
  o_int (C := fun _ j => 0 < j ∧ j.natAbs.log2 < 9000) (g := fun i j => i / j) op_fdivW (fun i j H Q c q => ⟨i, j, rfl, rfl, c, q⟩) fun x y S => by cases x <;> cases y <;> rfl
/-! ## == with a wide bound -/
def gEqBW (lim : Nat) (x y : D) (S : Store) : Option Bool := match asP S x, asP S y with
  | some p, some q => if p.depth ≤ lim then some (PyData.eqv p q) else none
  | _, _ => none
def gEqW (lim : Nat) (x y : D) (S : Store) : Option (D × Store) := (gEqBW lim x y S).map fun b => (.bl b, S)
def gNeW (lim : Nat) (x y : D) (S : Store) : Option (D × Store) := (gEqBW lim x y S).map fun b => (.bl (!b), S)
section
variable {X : Cx}
theorem o_eqBW {lim : Nat} {op : CmpOp} {f : Bool → Bool} {g : D → D → Store → Option (D × Store)} (hg : ∀ x y S, g x y S = (gEqBW lim x y S).map fun b => (.bl (f b), S))
    (rule : ∀ {s : Shared} {a b : Value} {da db : PyData} {as bs : List Addr} {Q E : Value → Shared → Prop}, Reads s.heap a da as → Reads s.heap b db bs → da.plain = true → db.plain = true → X.A.units + min da.depth db.depth < cLine →
      Q (.bool (f (PyData.eqv da db))) s → wpAny (model X.prog X.w) X.A (compareOp op a b) Q E s) (hu : X.A.units + lim < cLine) : OpR X (compareOp op) (rd2 X.K g) := by
  intro pins s σ H v u vv uu Q I rv ru ⟨m, x, y, S, hx, hy, rs, h⟩
  rw [hg] at h
  unfold gEqBW at h
  split at h
  · rename_i p q e1 e2
    split at h
    · rename_i hd
      obtain ⟨d1, p1⟩ := asP_of rs hx e1
      obtain ⟨d2, p2⟩ := asP_of rs hy e2
      obtain ⟨as, r1⟩ := Dp.reads I _ _ _ d1 rv
      obtain ⟨bs, r2⟩ := Dp.reads I _ _ _ d2 ru
      have hm : min p.depth q.depth ≤ p.depth := Nat.min_le_left _ _
      exact rule r1 r2 p1 p2 (by omega) ⟨.bl _, H, I, rfl, h _ _ m .refl rs (.bl _)⟩
    · exact h.elim
  · exact h.elim
theorem o_eqW {lim : Nat} (hu : X.A.units + lim < cLine) : OpR X (compareOp .Eq) (rd2 X.K (gEqW lim)) := o_eqBW (f := fun b => b) (fun _ _ _ => rfl) PySem.SeqAt.eq_plain hu
theorem o_neW {lim : Nat} (hu : X.A.units + lim < cLine) : OpR X (compareOp .NotEq) (rd2 X.K (gNeW lim)) := o_eqBW (f := fun b => !b) (fun _ _ _ => rfl) PySem.SeqAt.ne_plain hu
end
theorem rW {k : Nat} {A : Around} (r : Room k A) : A.units + (199 + 16 * k) < cLine := by have := r.un; omega
theorem gEqBW_flat {lim : Nat} {x y : D} {S : Store} (hx : x.flat = true) (hy : y.flat = true) (hd : x.dep ≤ lim) : gEqBW lim x y S = some (deq x y) := by
  unfold gEqBW
  rw [asP_flat hx, asP_flat hy]
  show (if (toPy x).depth ≤ lim then some (PyData.eqv (toPy x) (toPy y)) else none) = _
  rw [depth_toPy, if_pos hd, eqv_toPy x y hx hy]
theorem gEqW_flat {lim : Nat} {x y : D} {S : Store} (hx : x.flat = true) (hy : y.flat = true) (hd : x.dep ≤ lim) : gEqW lim x y S = some (.bl (deq x y), S) := by unfold gEqW; rw [gEqBW_flat hx hy hd]; rfl
theorem gNeW_flat {lim : Nat} {x y : D} {S : Store} (hx : x.flat = true) (hy : y.flat = true) (hd : x.dep ≤ lim) : gNeW lim x y S = some (.bl (!deq x y), S) := by unfold gNeW; rw [gEqBW_flat hx hy hd]; rfl
/-! ## dicts: d[k] = v, d.get(k, z) -/
def putD (kvs : List (Key × D)) (k : Key) (d : D) : List (Key × D) :=
  if (kvs.any fun kv => decide (kv.1 = k)) = true then kvs.map (fun kv => if kv.1 = k then (kv.1, d) else kv) else kvs ++ [(k, d)]
def gSetX : D → D → D → Store → Option Store
  | .ref l, y, d, S => match S[l]?, y with
    | some (.lst xs), .int k => (ixN xs.length k).map fun j => S.set l (.lst (xs.set j d))
    | some (.dic kvs), y => (keyD y).bind fun k => if kvs.length < LIM then some (S.set l (.dic (putD kvs k d))) else none
    | _, _ => none
  | _, _, _, _ => none
theorem any_key {k : Key} : ∀ {ws : List (Key × V)} {kvs : List (Key × D)}, ws.map (·.1) = kvs.map (·.1) → (ws.any fun kv => decide (kv.1 = k)) = kvs.any fun kv => decide (kv.1 = k)
  | [], [], _ => rfl
  | [], _ :: _, h => nomatch h
  | _ :: _, [], h => nomatch h
  | (a, v) :: ws, (b, d) :: kvs, h => by
    have h1 : a = b := (List.cons.inj h).1
    subst h1
    rw [List.any_cons, List.any_cons, any_key (List.cons.inj h).2]
theorem put_keys {k : Key} {v : V} {d : D} {ws : List (Key × V)} {kvs : List (Key × D)} (h : ws.map (·.1) = kvs.map (·.1)) : (putK ws k v).map (·.1) = (putD kvs k d).map (·.1) := by
  unfold putK putD
  rw [any_key h]
  split
  · rw [List.map_map, List.map_map]
    have e1 : ws.map ((·.1) ∘ fun kv : Key × V => if kv.1 = k then (kv.1, v) else kv) = ws.map (·.1) := List.map_congr_left fun q _ => by
      show (if q.1 = k then (q.1, v) else q).1 = q.1
      split <;> rfl
    have e2 : kvs.map ((·.1) ∘ fun kv : Key × D => if kv.1 = k then (kv.1, d) else kv) = kvs.map (·.1) := List.map_congr_left fun q _ => by
      show (if q.1 = k then (q.1, d) else q).1 = q.1
      split <;> rfl
    rw [e1, e2, h]
  · rw [List.map_append, List.map_append, h]
    rfl
theorem put_vals {K : PySem.W.Frag} {m : List Addr} {H : Hp} {k : Key} {v : V} {d : D} (hv : RD K m H v d) : ∀ {ws : List (Key × V)} {kvs : List (Key × D)}, ws.map (·.1) = kvs.map (·.1) → RDs K m H (ws.map (·.2)) (kvs.map (·.2)) →
    RDs K m H ((ws.map fun kv => if kv.1 = k then (kv.1, v) else kv).map (·.2)) ((kvs.map fun kv => if kv.1 = k then (kv.1, d) else kv).map (·.2))
  | [], [], _, _ => .nil
  | [], _ :: _, h, _ => nomatch h
  | _ :: _, [], h, _ => nomatch h
  | (a, w) :: ws, (b, e) :: kvs, h, r => by
    have h1 : a = b := (List.cons.inj h).1
    subst h1
    cases r with
    | cons r1 r2 =>
      have ih := put_vals (k := k) hv (List.cons.inj h).2 r2
      by_cases z : a = k
      · simp only [List.map_cons, z, if_true]
        subst z
        exact .cons hv ih
      · simp only [List.map_cons, if_neg z]
        exact .cons r1 ih
theorem put_rd {K : PySem.W.Frag} {m : List Addr} {H : Hp} {k : Key} {v : V} {d : D} {ws : List (Key × V)} {kvs : List (Key × D)} (hv : RD K m H v d) (h : ws.map (·.1) = kvs.map (·.1)) (r : RDs K m H (ws.map (·.2)) (kvs.map (·.2))) :
    RDs K m H ((putK ws k v).map (·.2)) ((putD kvs k d).map (·.2)) := by
  unfold putK putD
  rw [any_key h]
  split
  · exact put_vals hv h r
  · rw [List.map_append, List.map_append]
    exact r.append (.one hv)
section
variable {X : Cx}
theorem p_setX (hu : X.A.units + 1 < cLine) : PSet X (rdSet X.K gSetX) := by
  intro pins s σ H o i v ov iv u Q I ro ri rv ⟨m, x, y, z, S, hx, hy, hz, rs, h⟩
  cases x with
  | ref l =>
    cases e : S[l]? with
    | none => unfold gSetX at h; simp only [e] at h
    | some c =>
      cases c with
      | lst xs =>
        cases y with
        | int k => exact p_set pins s σ H o i v ov iv u Q I ro ri rv ⟨m, .ref l, .int k, z, S, hx, hy, hz, rs, by unfold gSetX at h; simp only [e] at h; unfold gSet; simp only [e]; exact h⟩
        | _ => unfold gSetX at h; simp only [e] at h
      | dic kvs =>
        unfold gSetX at h
        simp only [e] at h
        cases ek : keyD y with
        | none => rw [ek] at h; exact h.elim
        | some k =>
          rw [ek] at h
          simp only [Option.bind_some] at h
          by_cases hc : kvs.length < LIM
          · rw [if_pos hc] at h
            cases hx with
            | ref hl =>
              obtain ⟨ws, g1, g2, g3⟩ := rs.at_ hl e
              have ei := key_rd hy ek
              subst ei
              have hw : ws.length = kvs.length := by have := congrArg List.length g2; rwa [List.length_map, List.length_map] at this
              refine set_dict hu pins s σ H _ _ v ov iv u Q I ro ri rv ⟨_, _, rfl, DPut.k g1 (by rw [hw, ← lim_eq]; exact hc), ?_⟩
              obtain ⟨ex, rs'⟩ := rs.write (o := .dK (putK ws k v)) (c' := .dic (putD kvs k z)) hl e rfl rfl fun ex => ⟨_, upd_same, put_keys g2, put_rd (hz.mono ex) g2 (g3.mono ex)⟩
              exact h _ _ ex rs'
          · rw [if_neg hc] at h; exact h.elim
      | _ => unfold gSetX at h; simp only [e] at h
  | _ => exact h.elim
/-- o[i] = .., a list or a dict -/
def tgIxX (fo fi : EX) : D → SX := fun d ρ S => (fo ρ S).out ρ fun o S1 => (fi ρ S1).out ρ fun i S2 => match gSetX o i d S2 with
  | some S3 => .nx ρ S3
  | none => .no
variable {W : WX} {o i e f : Expr} {fo fi fe ff : EX} {pos apos cpos : Pos}
theorem g_ixX (hu : X.A.units + 1 < cLine) (ho : PE X o (rdE (X.cq W) fo)) (hi : PE X i (rdE (X.cq W) fi))
    (ha : ∀ v, assign (.Subscript o i pos) X.env v = (do
      let ov ← holding [v] (eval o X.env)
      let iv ← holding [v, ov] (eval i X.env)
      standAt pos
      holding [v, ov, iv] (setItem ov iv v)
      release [v, ov, iv] []) := by intro _; rfl) : PG X (.Subscript o i pos) (rdG (X.cq W) (tgIxX fo fi)) := PGwk (pg_sub ho hi (p_setX hu) ha) fun v σ H Q ⟨m, ρ, S, d, re, rs, rd, q⟩ =>
  ⟨m, ρ, S, re, rs, (Post.out re q).imp fun vo H1 ⟨m1, x, S1, e1, rs1, rx, re1, q1⟩ => ⟨m1, ρ, S1, re1, rs1, (Post.out re1 q1).imp fun vi H2 ⟨m2, y, S2, e2, rs2, ry, re2, q2⟩ => by
    refine ⟨m2, x, y, d, S2, rx.mono e2, ry, (rd.mono e1).mono e2, rs2, ?_⟩
    cases eg : gSetX x y d S2 with
    | none => rw [eg] at q2; exact q2.elim
    | some S3 =>
      rw [eg] at q2
      exact fun H3 m3 e3 rs3 => q2 σ H3 m3 e3 (re2.mono e3) rs3⟩⟩
/-- d.get(k, z) -/
def gGetD (x y z : D) (S : Store) : Option (D × Store) := match x with
  | .ref l => match S[l]?, keyD y with
    | some (.dic kvs), some k => some ((findK kvs k).getD z, S)
    | _, _ => none
  | _ => none
def isDic (S : Store) (x : D) : Bool := match x with
  | .ref l => match S[l]? with
    | some (.dic _) => true
    | _ => false
  | _ => false
def eGetD (fo fe ff : EX) : EX := fun ρ S => (fo ρ S).bind fun x S1 => if isDic S1 x then (fe ρ S1).bind fun y S2 => (ff ρ S2).bind fun z S3 => toR (gGetD x y z S3) else .no
theorem find_get {K : PySem.W.Frag} {m : List Addr} {H : Hp} {k : Key} {z : V} {d : D} (hz : RD K m H z d) : ∀ {kvs : List (Key × D)} {ws : List (Key × V)}, ws.map (·.1) = kvs.map (·.1) → RDs K m H (ws.map (·.2)) (kvs.map (·.2)) → RD K m H ((valV ws k).getD z) ((findK kvs k).getD d)
  | [], [], _, _ => hz
  | (k1, d1) :: kvs, [], e, _ => nomatch e
  | [], _ :: _, e, _ => nomatch e
  | (k1, d1) :: kvs, (k2, v2) :: ws, e, r => by
    cases r with
    | cons rh rt =>
      have e1 : k2 = k1 := (List.cons.inj e).1
      subst e1
      by_cases z : k2 = k
      · rw [valV_pos (show (k2, v2).1 = k from z)]
        unfold findK
        rw [List.find?_cons_of_pos (by simpa using z)]
        exact rh
      · rw [valV_neg (show ¬ (k2, v2).1 = k from z)]
        unfold findK
        rw [List.find?_cons_of_neg (by simpa using z)]
        exact find_get hz (List.cons.inj e).2 rt
theorem d_getD (hu : X.A.units + 1 < cLine) (ho : PE X o (rdE (X.cq W) fo)) (he : PE X e (rdE (X.cq W) fe)) (hf : PE X f (rdE (X.cq W) ff)) (m2 : M2 X o "get" apos e f cpos) : PE X (.Call (.Attribute o "get" apos) [e, f] [] cpos) (rdE (X.cq W) (eGetD fo fe ff)) :=
  PEwk (pe_dget2 hu ho he hf m2) fun σ H Q ⟨m, ρ, S, re, rs, h⟩ =>
  ⟨m, ρ, S, re, rs, (Post.bind h).imp fun v H1 ⟨m1, x, S1, e1, rs1, rd, h1⟩ => by
    have re1 := re.mono e1
    by_cases hd : isDic S1 x = true
    · rw [if_pos hd] at h1
      unfold isDic at hd
      split at hd
      · rename_i l
        split at hd
        · rename_i kvs es
          cases rd with
          | ref hl =>
            obtain ⟨ws, g1, g2, g3⟩ := rs1.at_ hl es
            refine ⟨_, rfl, .inl ⟨ws, .inl g1⟩, m1, ρ, S1, re1, rs1, (Post.bind h1).imp fun u H2 ⟨m2, y, S2, e2, rs2, rd2, h2⟩ => ⟨m2, ρ, S2, re1.mono e2, rs2, (Post.bind h2).imp fun w H3 ⟨m3, z, S3, e3, rs3, rd3, h3⟩ => ?_⟩⟩
            have h3 : VPost X.K m3 H3 Q (gGetD (.ref l) y z S3) := VPost.of h3
            unfold gGetD at h3
            simp only at h3
            split at h3
            · rename_i kvs' k es' ek
              obtain ⟨ws', g1', g2', g3'⟩ := rs3.at_ ((e2.trans e3).at hl) es'
              have eu := key_rd (rd2.mono e3) ek
              subst eu
              exact ⟨_, DGet.k g1', h3 _ _ m3 .refl rs3 (find_get rd3 g2' g3')⟩
            · exact h3.elim
        · cases hd
      · cases hd
    · rw [if_neg hd] at h1
      exact h1.elim⟩
end
/-- two defs of unlike names stand at unlike places -/
theorem fn_ne {K : PySem.W.Frag} {a b : Addr} {oc oc' : Value} {od od' : Option Addr} {sl sl' : Array (Option Value)} {x y q q' : Str} {ar ar' : Arguments} {bo bo' : List Stmt} {sc sc' : Scope} {d1 d2 d3 d4 d5 d6 e1 e2 e3 e4 e5 e6 : Value} {an an' : Option Addr}
    (h1 : K.lookup a = some ⟨oc, od, .func (PySem.W.fnOf x q ar bo sc d1 d2 d3 d4 an d5 d6), sl⟩) (h2 : K.lookup b = some ⟨oc', od', .func (PySem.W.fnOf y q' ar' bo' sc' e1 e2 e3 e4 an' e5 e6), sl'⟩) (h : x ≠ y) : a ≠ b := fun e => by
  subst e
  have q := h1.symm.trans h2
  injection q with q
  injection q with _ _ q _
  injection q with q
  exact h (congrArg FuncData.name q)
/-! ## {}; a, b = x, y -/
def eD0 : EX := fun _ S => .ok (.ref S.length) (S ++ [.dic []])
def sPar (i j : Nat) (fx : AX) : SX := fun ρ S => (fx ρ S).out ρ fun xs S1 => match xs with
  | [d, e] => .nx ((ρ.set i (some d)).set j (some e)) S1
  | _ => .no
section
variable {X : Cx} {W : WX} {pos px py pt pt2 : Pos} {kt k2 i j : Nat} {x y : Str} {a b : Expr} {fx : AX}
theorem d_d0 : PE X (.Dict [] [] pos) (rdE (X.cq W) eD0) := PEwk pe_dnewK fun σ H Q ⟨m, ρ, S, re, rs, h⟩ p hp => by
  obtain ⟨e1, rs1⟩ := rs.push (o := .dK []) (c := .dic []) hp fun m' e' => ⟨[], upd_same, rfl, .nil⟩
  refine h _ _ _ e1 rs1 (.ref ?_)
  rw [← rs.len, List.getElem?_append_right (Nat.le_refl _), Nat.sub_self]
  rfl
theorem t_par (hc : X.calm = true) (hN : X.N.Nodup) (ha : PA X [a, b] (rdA (X.cq W) fx)) (hi : X.N[i]? = some x := by rfl) (hj : X.N[j]? = some y := by rfl) (hij : i ≠ j := by decide)
    (hx : X.env.scope.names.lookup x = some .local := by rfl) (hy : X.env.scope.names.lookup y = some .local := by rfl)
    (hw : swappedStores [.Tuple [.Name x px, .Name y py] kt pt] (.Tuple [a, b] k2 pt2) X.env = pure (some [x, y]) := by rfl)
    (hs : swapsWithSole [.Tuple [.Name x px, .Name y py] kt pt] (.Tuple [a, b] k2 pt2) pos.line X.env = pure false := by rfl) :
    PS X (.Assign [.Tuple [.Name x px, .Name y py] kt pt] (.Tuple [a, b] k2 pt2) pos) (rdS (X.cq W) (sPar i j fx)) := PSwk (ps_par hc hN hi hj hij hx hy ha hw hs) fun Dn σ H ⟨m, ρ, S, re, rs, q⟩ =>
  ⟨m, ρ, S, re, rs, (Post.out (rel := relDs (X.cq W)) re q).imp fun vs H1 ⟨m1, xs, S1, e1, rs1, rds, re1, q1⟩ => by
    cases rds with
    | nil => exact q1.elim
    | cons h1 t =>
      cases t with
      | nil => exact q1.elim
      | cons h2 t =>
        cases t with
        | nil => exact ⟨_, _, rfl, q1 _ _ m1 .refl ((re1.set h1 i).set h2 j) rs1⟩
        | cons _ _ => exact q1.elim⟩
end
end Dl

set_option Elab.async false
set_option linter.all false
set_option maxRecDepth 100000
namespace Dl
open PySem L2
/-! ## DlAA's forms, evaluated -/
def kX3 (ρ : Env) : Option Store → Out
  | some S => .nx ρ S
  | none => .no
def kX2 (o d : D) (ρ : Env) : R D → Out
  | .ok i S => kX3 ρ (gSetX o i d S)
  | .ex x S => .ex x ρ S
  | .no => .no
def kX1 (f : EX) (d : D) (ρ : Env) : R D → Out
  | .ok o S => kX2 o d ρ (f ρ S)
  | .ex x S => .ex x ρ S
  | .no => .no
def setX (l : Nat) (y d : D) (S : Store) : Option Cell → Option Store
  | some (.lst xs) => match y with
    | .int k => (ixN xs.length k).map fun j => S.set l (.lst (xs.set j d))
    | _ => none
  | some (.dic kvs) => (keyD y).bind fun k => if kvs.length < LIM then some (S.set l (.dic (putD kvs k d))) else none
  | _ => none
def kPar (i j : Nat) (ρ : Env) : R (List D) → Out
  | .ok xs S => match xs with
    | [d, e] => .nx ((ρ.set i (some d)).set j (some e)) S
    | _ => .no
  | .ex x S => .ex x ρ S
  | .no => .no
def kFv (cs : List (Addr × (List D → M D))) (r : R (List D)) : Option (Option D) → R D
  | some (some (.raw (.ref a))) => match heldF a cs with
    | some F => r.bind fun xs S1 => F xs S1
    | none => .no
  | _ => .no
def kG3 (x y : D) : R D → R D
  | .ok z S => toR (gGetD x y z S)
  | .ex x S => .ex x S
  | .no => .no
def kG2 (x : D) (ff : EX) (ρ : Env) : R D → R D
  | .ok y S => kG3 x y (ff ρ S)
  | .ex x S => .ex x S
  | .no => .no
def kG1b (x : D) (fe ff : EX) (ρ : Env) (S : Store) (b : Bool) : R D := if b then kG2 x ff ρ (fe ρ S) else .no
def kG1 (fe ff : EX) (ρ : Env) : R D → R D
  | .ok x S => kG1b x fe ff ρ S (isDic S x)
  | .ex x S => .ex x S
  | .no => .no
def isDC : Option Cell → Bool
  | some (.dic _) => true
  | _ => false
def getC (y z : D) (S : Store) : Option Cell → Option (D × Store)
  | some (.dic kvs) => match keyD y with
    | some k => some ((findK kvs k).getD z, S)
    | none => none
  | _ => none
def maxC (S : Store) : Option (List Int) → Option (D × Store)
  | some (x :: r) => some (.int (maxL (x :: r)), S)
  | _ => none
def repC (k : Int) (S : Store) : Option Cell → Option (D × Store)
  | some (.lst xs) => if -(2 ^ 63) ≤ k ∧ k < 2 ^ 63 ∧ xs.length * k.toNat ≤ LIM then some (.ref S.length, S ++ [.lst (List.replicate k.toNat xs).flatten]) else none
  | _ => none
section
variable {ρ : Env} {S : Store} {f g fe ff : EX} {fx : AX} {d y z e x : D} {l i j : Nat} {k : Int} {xs : List D} {a : Addr} {kvs : List (Key × D)} {s : Str}
theorem tgIxX_ : tgIxX f g d ρ S = kX1 g d ρ (f ρ S) := by
  show (f ρ S).out ρ _ = _
  cases f ρ S with
  | ok o S1 =>
    show (g ρ S1).out ρ _ = kX2 o d ρ (g ρ S1)
    cases g ρ S1 with
    | ok i S2 =>
      show (match gSetX o i d S2 with | some S3 => Out.nx ρ S3 | none => .no) = kX3 ρ (gSetX o i d S2)
      cases gSetX o i d S2 <;> rfl
    | _ => rfl
  | _ => rfl
theorem kX1_ : kX1 g d ρ (.ok x S) = kX2 x d ρ (g ρ S) := nr rfl
theorem kX2_ : kX2 x d ρ (.ok y S) = kX3 ρ (gSetX x y d S) := nr rfl
theorem kX3_ : kX3 ρ (some S) = .nx ρ S := nr rfl
theorem gSetX_r : gSetX (.ref l) y d S = setX l y d S S[l]? := by
  cases e : S[l]? with
  | none => unfold gSetX setX; simp only [e]
  | some c =>
    cases c with
    | lst xs => cases y <;> (unfold gSetX setX; simp only [e])
    | _ => unfold gSetX setX; simp only [e]
theorem setX_0 {a : D} : setX l (.int 0) d S (some (.lst (a :: xs))) = some (S.set l (.lst (d :: xs))) := by
  have h : ixN (a :: xs).length 0 = some 0 := by unfold ixN; rw [if_pos (by decide), if_pos (by rw [List.length_cons]; omega)]; rfl
  show (ixN (a :: xs).length 0).map _ = _
  rw [h]
  rfl
theorem setX_2 {a b c : D} : setX l (.int 2) d S (some (.lst (a :: b :: c :: xs))) = some (S.set l (.lst (a :: b :: d :: xs))) := by
  have h : ixN (a :: b :: c :: xs).length 2 = some 2 := by unfold ixN; rw [if_pos (by decide), if_pos (by rw [List.length_cons, List.length_cons, List.length_cons]; omega)]; rfl
  show (ixN (a :: b :: c :: xs).length 2).map _ = _
  rw [h]
  rfl
theorem setX_l {m : Nat} (h : ixN xs.length k = some m) : setX l (.int k) d S (some (.lst xs)) = some (S.set l (.lst (xs.set m d))) := by
  show (ixN xs.length k).map _ = _
  rw [h]
  rfl
theorem setX_s (h : kvs.length < 16777216) : setX l (.str s) d S (some (.dic kvs)) = some (S.set l (.dic (putD kvs (.inr s) d))) := if_pos h
theorem sPar_ : sPar i j fx ρ S = kPar i j ρ (fx ρ S) := by
  show (fx ρ S).out ρ _ = _
  cases fx ρ S <;> rfl
theorem kPar_ : kPar i j ρ (.ok [d, e] S) = .nx ((ρ.set i (some d)).set j (some e)) S := nr rfl
theorem eFv_ {cs : List (Addr × (List D → M D))} : eFv i cs fx ρ S = kFv cs (fx ρ S) ρ[i]? := by
  unfold eFv kFv
  rfl
theorem kFv_ {cs : List (Addr × (List D → M D))} {F : List D → M D} (h : heldF a cs = some F) : kFv cs (.ok xs S) (some (some (.raw (.ref a)))) = F xs S := by
  show (match heldF a cs with | some F => F xs S | none => .no) = _
  rw [h]
theorem eGetD_ : eGetD f fe ff ρ S = kG1 fe ff ρ (f ρ S) := by
  show (f ρ S).bind _ = _
  cases f ρ S with
  | ok x S1 =>
    show (if isDic S1 x then (fe ρ S1).bind _ else .no) = kG1b x fe ff ρ S1 (isDic S1 x)
    unfold kG1b
    split
    · cases fe ρ S1 with
      | ok y S2 =>
        show (ff ρ S2).bind _ = kG3 x y (ff ρ S2)
        cases ff ρ S2 <;> rfl
      | _ => rfl
    · rfl
  | _ => rfl
theorem kG1_ : kG1 fe ff ρ (.ok x S) = kG1b x fe ff ρ S (isDic S x) := nr rfl
theorem isDic_r : isDic S (.ref l) = isDC S[l]? := by
  unfold isDic isDC
  rfl
theorem isDC_d : isDC (some (.dic kvs)) = true := nr rfl
theorem kG1b_ : kG1b x fe ff ρ S true = kG2 x ff ρ (fe ρ S) := if_pos rfl
theorem kG2_ : kG2 x ff ρ (.ok y S) = kG3 x y (ff ρ S) := nr rfl
theorem kG3_ : kG3 x y (.ok z S) = toR (gGetD x y z S) := nr rfl
theorem gGetD_r : gGetD (.ref l) y z S = getC y z S S[l]? := by
  cases e : S[l]? with
  | none => unfold gGetD getC; simp only [e]
  | some c =>
    cases c with
    | dic kvs => unfold gGetD getC; simp only [e]; cases keyD y <;> rfl
    | _ => unfold gGetD getC; simp only [e]
theorem getC_s : getC (.str s) z S (some (.dic kvs)) = some ((findK kvs (.inr s)).getD z, S) := nr rfl
theorem gMaxL_r : gMaxL [.ref l] S = maxC S ((lstC S[l]?).bind intsD) := by
  show (match (lstAt S l).bind intsD with | some (x :: r) => some (D.int (maxL (x :: r)), S) | _ => none) = _
  rw [lstAt_C]
  rfl
theorem maxC_ {x : Int} {r : List Int} : maxC S (some (x :: r)) = some (.int (maxL (x :: r)), S) := nr rfl
theorem gRep_r : gRep (.ref l) (.int k) S = repC k S S[l]? := by
  cases e : S[l]? with
  | none => unfold gRep repC; simp only [e]
  | some c => cases c <;> (unfold gRep repC; simp only [e])
theorem repC_ (h0 : 0 ≤ k) (h : xs.length * k.toNat ≤ 16777216) (h1 : k < 1000000000) : repC k S (some (.lst xs)) = some (.ref S.length, S ++ [.lst (List.replicate k.toNat xs).flatten]) := if_pos ⟨by omega, by omega, h⟩
theorem eD0_ : eD0 ρ S = .ok (.ref S.length) (S ++ [.dic []]) := nr rfl
theorem gFdivW_ (h0 : 0 < j) (h1 : (j : Int).natAbs.log2 < 9000) : gFdivW (.int k) (.int j) S = some (.int (k / j), S) := if_pos ⟨by omega, h1⟩
end
end Dl

set_option Elab.async false
set_option linter.all false
set_option maxRecDepth 100000
set_option maxHeartbeats 1000000
namespace Dl
open PySem PySem.Spec PyProof.Rows L2 RT
/-! ## list(reversed(t)), t a tuple -/
theorem nolen_rt : typeLookup (.type "reversed") "__len__" = pure none := by rw [typeLookup_type, builtinLookup_eq_fast]; kernel_rfl
theorem hint_rt : typeLookup (.type "reversed") "__length_hint__" = pure (some (.builtin "reversed.__length_hint__")) := by rw [typeLookup_type, builtinLookup_eq_fast]; kernel_rfl
theorem IsTup.stays {h h' : Heap} {t : Addr} {items : Array Value} (x : IsTup h t items) (e : ∀ o, h.get? t = some o → h'.get? t = some o) : IsTup h' t items := let ⟨o, ho, r⟩ := x; ⟨o, e o ho, r⟩
theorem walks_rt {prog : Program} {w : World} {A : Around} (hh : A.handled = none) (I t : Addr) (hne : t ≠ I) (items : Array Value) (hz : items.size ≤ sizeLine) :
    Walks prog w A I [I, t] [I] items.size (fun i v => items[items.size - 1 - i]? = some v) (fun i h => i ≤ items.size ∧ IsRt h I t ((items.size : Int) - 1 - (i : Int)) ∧ IsTup h t items) where
  sub b hb := by
    rw [List.mem_singleton.mp hb]
    exact List.mem_cons_self ..
  frame i h h' x hk := ⟨x.1, x.2.1.at fun o e => hk I (List.mem_cons_self ..) o e, IsTup.stays x.2.2 fun o e => hk t (List.mem_cons_of_mem _ (List.mem_singleton.mpr rfl)) o e⟩
  item i s Q E hi x hQ := by
    have hit := x.2.1
    have h1 : (items.size : Int) - 1 - (i : Int) = ((items.size - 1 - i : Nat) : Int) := by omega
    rw [h1] at hit
    have hx : items[items.size - 1 - i]? = some (items[items.size - 1 - i]'(by omega)) := Array.getElem?_eq_getElem (by omega)
    refine next_rt_item hit x.2.2 hx hz fun h' hit' hs' => ?_
    have h2 : ((items.size - 1 - i : Nat) : Int) - 1 = (items.size : Int) - 1 - ((i + 1 : Nat) : Int) := by omega
    rw [h2] at hit'
    refine hQ _ h' _ hx ⟨hi, hit', IsTup.stays x.2.2 fun o eo => (hs'.2 t hne).trans eo⟩ fun b o hb eo => ?_
    exact hs'.extBut b o (fun z => hb (by rw [z]; exact List.mem_singleton.mpr rfl)) eo
  done s Q E x hQ := by
    have hit := x.2.1
    have h1 : (items.size : Int) - 1 - (items.size : Int) = -1 := by omega
    rw [h1] at hit
    refine next_rt_end hh hit fun h' he' => hQ h' s.toks fun b o hb eo => ?_
    exact he' b o (fun z => hb (by rw [z]; exact List.mem_singleton.mpr rfl)) eo
  self i s Q E x hQ := iter_rt x.2.1 hQ
theorem slot_rt_hint : Slot "reversed" "__length_hint__" "reversed.__length_hint__" :=
  .of (owner := "reversed") (n := "__length_hint__") hint_rt (by decide +kernel) (by decide +kernel) (by decide +kernel)
    (by first | exact .inl (by decide +kernel) | exact .inr (by decide +kernel)) (by rw [isSubtype_type]; kernel_rfl)
theorem entry_rt_hint : entryFor table "reversed.__length_hint__" = some Builtin.«reversed.__length_hint__» := entryFor_of_tree (by kernel_rfl)
theorem args_rt_hint (a : Value) : argsOk "reversed.__length_hint__" ⟨[a], []⟩ := by
  unfold argsOk; rw [signature?_of (id := "reversed.__length_hint__") (n := ['_', '_', 't', 'n', 'i', 'h', '_', 'h', 't', 'g', 'n', 'e', 'l', '_', '_']) (o := ['d', 'e', 's', 'r', 'e', 'v', 'e', 'r']) (by kernel_rfl) owner_rt]; kernel_rfl
section
variable {prog : Program} {w : World} {A : Around} {E : Value → Shared → Prop} {s : Shared} {it t : Addr} {items : Array Value}
theorem call_hint {Q : Value → Shared → Prop} (hit : IsRt s.heap it t ((items.size : Int) - 1)) (hl : IsTup s.heap t items) (hn : items.size ≤ sizeLine)
    (hQ : ∀ a b, Q (.int (items.size : Int) a) { s with toks := b }) : wpAny (model prog w) A (call (.builtin "reversed.__length_hint__") [.ref it]) Q E s := by
  obtain ⟨o, ho, hc, hd⟩ := id hit
  rw [sizeLine_eq] at hn
  refine wpAny_call_entry slot_rt_hint hit.typeIs entry_rt_hint ?_ (args_rt_hint _)
  unfold Builtin.«reversed.__length_hint__»
  refine wpAny_bind (wpAny_of_eq (a := (Value.ref it)) rfl ?_)
  refine wpAny_bind (wpAny_field ho hd (x := .ref t) rfl ?_)
  rw [if_neg (show ¬ ((Value.ref t == Value.none) = true) from fun z => by first | cases z | (revert z; simp [BEq.beq]) | (revert z; exact Bool.false_ne_true))]
  refine wpAny_bind (len_tuple hl (by omega) ?_)
  refine wpAny_bind (wpAny_pure ?_)
  refine wpAny_bind (wpAny_field (s := { s with toks := s.toks + 1 + 1 }) ho hd (x := rawInt ((items.size : Int) - 1)) rfl ?_)
  show wpAny _ _ (if (items.size : Int) < (items.size : Int) - 1 + 1 then _ else _) _ _ _
  rw [if_neg (by omega)]
  have e : (items.size : Int) - 1 + 1 = (items.size : Int) := by omega
  rw [e]
  refine wpAny_bind (wpAny_mkInt (wpAny_pure ⟨_, rfl, ?_⟩))
  exact hQ _ _
theorem hint_rtd {Q : Bool → Shared → Prop} (hit : IsRt s.heap it t ((items.size : Int) - 1)) (hl : IsTup s.heap t items) (hn : items.size ≤ sizeLine)
    (hQ : ∀ b, Q ((items.size : Int) != 0) { s with toks := b }) : wpAny (model prog w) A (Builtin.List.listLengthHint (.ref it)) Q E s := by
  have hT : s.TypeIs (.ref it) "reversed" := hit.typeIs
  unfold Builtin.List.listLengthHint
  refine wpAny_bind (wpAny_specialOf hT nolen_rt ?_)
  show wpAny _ A (specialOf (Value.ref it) (Str.ofString "__length_hint__") >>= _) _ _ _
  refine wpAny_bind (wpAny_specialOf hT hint_rt ?_)
  generalize hid : ("reversed.__length_hint__" : String) = name
  wp_delta
  rw [show splitId name = some ("reversed", "__length_hint__") from by subst hid; decide +kernel]
  subst hid
  refine wpAny_bind (wpAny_isInstance (b := true) hT (by rw [isSubtype_type]; kernel_rfl) ?_)
  rw [if_neg (by decide)]
  dsimp only
  rw [if_neg (by decide +kernel)]
  refine wpAny_bind (wpAny_rule ?_)
  rw [slot_rt_hint.bind]
  refine wpAny_bind (wpAny_pure ?_)
  refine wpAny_bind (wpAny_attempt (call_hint hit hl hn fun a b => ?_))
  dsimp only
  have h1 : Builtin.List.listFitsIndex (items.size : Int) = true := by
    rw [sizeLine_eq] at hn
    unfold Builtin.List.listFitsIndex
    simp only [Bool.and_eq_true, decide_eq_true_eq]
    omega
  have h2 : Builtin.List.listTooLong ((items.size : Int).toNat) = false := by
    unfold Builtin.List.listTooLong
    simp only [decide_eq_false_iff_not]
    omega
  have h3 : ¬ ((items.size : Int) < 0) := by omega
  have hA : asInt? (Value.int (items.size : Int) a) = pure (some (items.size : Int)) := by simp only [asInt?]
  rw [hA]
  have q := hQ b
  clear hQ
  generalize (items.size : Int) = z at h1 h2 h3 q ⊢
  refine wpAny_bind (wpAny_pure ?_)
  simp only [h1, h2, h3, Bool.not_true, Bool.false_eq_true, if_false]
  exact wpAny_pure q
end
section
variable {prog : Program} {w : World} {A : Around} {E : Value → Shared → Prop} {s : Shared} {it t S : Addr} {items : Array Value}
theorem extend_rt {res : Value} {c₀ : Nat} {R : Result → Shared → Prop} (hh : A.handled = none) (hit : IsRt s.heap it t ((items.size : Int) - 1)) (hl : IsTup s.heap t items) (hne : t ≠ it) (hn : items.size ≤ sizeLine)
    (hSi : S ≠ it) (hSl : S ≠ t) (hS : s.heap.get? S = some { cls := .type "list", data := .seq #[] c₀ })
    (hR : ∀ h' tk acc c', (∀ b o, b ≠ it → b ≠ S → s.heap.get? b = some o → h'.get? b = some o) → h'.get? S = some { cls := .type "list", dict := none, data := .seq acc c', slots := #[] } →
      ItemsOf (fun i v => items[items.size - 1 - i]? = some v) acc items.size → R (.ok (.ret res)) { s with heap := h', toks := tk }) :
    wpAny (model prog w) A.in1 (Builtin.List.listExtendWith (.ref S) (.ref it) res)
      (fun fin s' => match fin with | .done f => R (.ok f) s' | .again c' => c'.quiet = true ∧ codeAny (model prog w) A c' R s') (fun e s' => R (.error e) s') s := by
  have W := (walks_rt (prog := prog) (w := w) (A := A.in1) hh it t hne items hn).toS
  have hSf : S ∉ [it, t] := fun z => by
    rcases List.mem_cons.mp z with z | z
    · exact hSi z
    · exact hSl (List.mem_singleton.mp z)
  have hT : s.TypeIs (.ref it) "reversed" := hit.typeIs
  have hsame : Builtin.List.listSameRef (.ref S) (.ref it) = false := by simp [Builtin.List.listSameRef, hSi]
  unfold Builtin.List.listExtendWith
  refine wpAny_bind (wpAny_typeOf hT ?_)
  rw [if_neg (by rw [hsame]; decide)]
  refine wpAny_bind (iter_rt hit ?_)
  refine wpAny_bind (wpAny_holding ?_)
  refine hint_rtd hit hl hn fun tk => ?_
  have e0 : ((items.size : Nat) : Int) - 1 - ((0 : Nat) : Int) = (items.size : Int) - 1 := by omega
  by_cases h0 : items.size = 0
  · rw [if_neg (by rw [h0]; decide)]
    refine wpAny_pure ⟨plainId_quiet F.plain_extend_loop _, codeAny_extend_loopS W hn _ hSf _ items.size 0 _ _ _ rfl (Nat.zero_le _) ⟨Nat.zero_le _, by rw [e0]; exact hit, hl⟩ hS (ItemsOf.nil _) fun s' acc' c' hm hS' hacc => ?_⟩
    rw [Moved.eq_with hm]
    refine hR s'.heap s'.toks acc' c' (fun b o hb hb2 eo => hm.heap b o (fun hmem => ?_) eo) hS' hacc
    rcases List.mem_cons.mp hmem with z | hmem
    · exact hb2 z
    · exact hb (List.mem_singleton.mp hmem)
  · rw [if_pos (by rw [show ((items.size : Int) != 0) = true by simp [h0]]; rfl)]
    refine wpAny_bind (wpAny_rule ?_)
    refine wpAny_bind ?_
    show wpAny _ A.in1 (updateSeq S (·.push .none) >>= fun _ => updateSeq S (·.pop)) _ _ _
    refine wpAny_bind (wpAny_updateSeq (s := { s with toks := tk }) hS rfl ?_)
    have hS₂ := Heap.get?_update_self (Obj.mapSeq (·.push Value.none)) hS rfl
    refine wpAny_updateSeq (hz := by seq_fits) (s := { s with toks := tk, heap := s.heap.update S (Obj.mapSeq (·.push Value.none)) }) hS₂ rfl ?_
    have hS₃ := Heap.get?_update_self (Obj.mapSeq (·.pop)) hS₂ rfl
    have oth : ∀ b o, b ≠ S → s.heap.get? b = some o → ((s.heap.update S (Obj.mapSeq (·.push Value.none))).update S (Obj.mapSeq (·.pop))).get? b = some o :=
      fun b o hb e => (Heap.get?_update_other _ _ (Ne.symm hb)).trans ((Heap.get?_update_other _ _ (Ne.symm hb)).trans e)
    refine wpAny_pure ⟨plainId_quiet F.plain_extend_loop _, codeAny_extend_loopS W hn _ hSf _ items.size 0 _ _ _ rfl (Nat.zero_le _) ⟨Nat.zero_le _, by rw [e0]; exact hit.at fun o eo => oth it o (Ne.symm hSi) eo, IsTup.stays hl fun o eo => oth t o (Ne.symm hSl) eo⟩ hS₃ (ItemsOf.nil _) fun s' acc' c' hm hS' hacc => ?_⟩
    rw [Moved.eq_with hm]
    refine hR s'.heap s'.toks acc' c' (fun b o hb hb2 eo => hm.heap b o (fun hmem => ?_) (oth b o hb2 eo)) hS' hacc
    rcases List.mem_cons.mp hmem with z | hmem
    · exact hb2 z
    · exact hb (List.mem_singleton.mp hmem)
theorem list_init_rt {R : Result → Shared → Prop} (hh : A.handled = none) (hit : IsRt s.heap it t ((items.size : Int) - 1)) (hl : IsTup s.heap t items) (hne : t ≠ it) (hn : items.size ≤ sizeLine)
    (hSi : S ≠ it) (hSl : S ≠ t) (hS : s.heap.get? S = some { cls := .type "list", data := .seq #[] })
    (hR : ∀ h' tk acc c', (∀ b o, b ≠ it → b ≠ S → s.heap.get? b = some o → h'.get? b = some o) → h'.get? S = some { cls := .type "list", dict := none, data := .seq acc c', slots := #[] } →
      ItemsOf (fun i v => items[items.size - 1 - i]? = some v) acc items.size → R (.ok (.ret .none)) { s with heap := h', toks := tk }) :
    wpAny (model prog w) A.in1 (Builtin.«list.__init__» ⟨[.ref S, .ref it], []⟩)
      (fun fin s' => match fin with | .done f => R (.ok f) s' | .again c' => c'.quiet = true ∧ codeAny (model prog w) A c' R s') (fun e s' => R (.error e) s') s := by
  show wpAny _ _ (do let old ← Builtin.List.listItems (.ref S); Builtin.List.listUpdate (.ref S) (fun _ => #[]); letGo old.toList.reverse; Builtin.List.listExtendWith (.ref S) (.ref it) .none) _ _ s
  refine wpAny_bind ?_
  unfold Builtin.List.listItems
  refine wpAny_bind (wpAny_seqItems hS rfl (wpAny_pure ?_))
  show wpAny _ _ (updateSeq S (fun _ => #[]) >>= fun _ => letGo (#[] : Array Value).toList.reverse >>= fun _ => Builtin.List.listExtendWith (.ref S) (.ref it) .none) _ _ s
  refine wpAny_bind (wpAny_updateSeq hS rfl ?_)
  have hS₂ := Heap.get?_update_self (Obj.mapSeq (fun _ => (#[] : Array Value))) hS rfl
  have oth : ∀ b o, b ≠ S → s.heap.get? b = some o → (s.heap.update S (Obj.mapSeq (fun _ => (#[] : Array Value)))).get? b = some o :=
    fun b o hb eo => (Heap.get?_update_other _ _ (Ne.symm hb)).trans eo
  refine wpAny_bind (wpAny_letGo ?_)
  refine extend_rt hh (hit.at fun o eo => oth it o (Ne.symm hSi) eo) (IsTup.stays hl fun o eo => oth t o (Ne.symm hSl) eo) hne hn hSi hSl hS₂ fun h' tk acc' c' hk hS' hacc => ?_
  exact hR h' tk acc' c' (fun b o hb hb2 eo => hk b o hb hb2 (oth b o hb2 eo)) hS' hacc
theorem call_list_rt {Q : Value → Shared → Prop} (hh : A.handled = none) (hit : IsRt s.heap it t ((items.size : Int) - 1)) (hl : IsTup s.heap t items) (hne : t ≠ it) (hn : items.size ≤ sizeLine)
    (hQ : ∀ h' tk acc' c', (∀ b o, b ≠ it → s.heap.get? b = some o → h'.get? b = some o) →
      h'.get? s.heap.objs.size = some { cls := .type "list", dict := none, data := .seq acc' c', slots := #[] } → ItemsOf (fun i v => items[items.size - 1 - i]? = some v) acc' items.size → Q (.ref s.heap.objs.size) { s with heap := h', toks := tk }) :
    wpAny (model prog w) A (call (.type "list") [.ref it]) Q E s := by
  refine callType_codes (Q₁ := fun obj s₁ => obj = .ref s.heap.objs.size ∧ s₁ = { s with heap := s.heap.push { cls := .type "list", data := .seq #[] } }) F.called_list (F.typeCall_list_1 _) F.entry_list_init
    (code_list_new _ ⟨rfl, rfl⟩) fun obj s₁ h₁ => ?_
  obtain ⟨rfl, rfl⟩ := h₁
  have hS : (s.heap.push { cls := .type "list", data := .seq #[] }).get? s.heap.objs.size = some { cls := .type "list", data := .seq #[] } := Heap.get?_push_size _ rfl
  obtain ⟨oi, hoi, _⟩ := id hit
  obtain ⟨ol, hol, _⟩ := id hl
  refine ⟨⟨_, hS, rfl⟩, F.args_list_init_2 _ _, list_init_rt (A := A.in1) hh (hit.at fun o eo => Heap.get?_push_of_some _ eo) (IsTup.stays hl fun o eo => Heap.get?_push_of_some _ eo) hne hn (Nat.ne_of_gt (Heap.lt_size hoi)) (Nat.ne_of_gt (Heap.lt_size hol)) hS fun h' tk acc' c' hk hS' hacc => ?_⟩
  exact ⟨rfl, hQ h' tk acc' c' (fun b o hb eo => hk b o hb (Nat.ne_of_lt (Heap.lt_size eo)) (Heap.get?_push_of_some _ eo)) hS' hacc⟩
end
/-- list(reversed(x)), x a tuple -/
def gRevT : D → Store → Option (D × Store)
  | .tup xs, S => some (.ref S.length, S ++ [.lst xs.reverse])
  | _, _ => none
section
variable {X : Cx} {W : WX} {e : Expr} {f : EX} {p p2 pos pos2 : Pos}
theorem d_revT (hc : X.calm = true) (hg : Gl X "list") (hm : X.mg "list" = none) (hg2 : Gl X "reversed") (hm2 : X.mg "reversed" = none) (he : PE X e (rdE (X.cq W) f))
    (hs : starEach [e] X.env = (false, eval e X.env) :: starEach [] X.env := by rfl)
    (hs2 : starEach [.Call (.Name "reversed" p2) [e] [] pos2] X.env = (false, eval (.Call (.Name "reversed" p2) [e] [] pos2) X.env) :: starEach [] X.env := by rfl) :
    PE X (.Call (.Name "list" p) [.Call (.Name "reversed" p2) [e] [] pos2] [] pos) (rdE (X.cq W) (e1 gRevT f)) := by
  refine ⟨fun pins s σ H Q I ⟨m, ρ, S, re, rs, h⟩ => ?_⟩
  refine Call_ (ld_blt I hg hm boot_list (PyProof.Rows.callWith_type1 (args_cons (Call_ (ld_blt I hg2 hm2 PyProof.Rows.boot_reversed (PyProof.Rows.callWith_type1 (args_cons (thn (he.run pins s σ H _ I ⟨m, ρ, S, re, rs, Post.bind h⟩) fun u s1 ⟨v, H1, I1, r1, q1⟩ => args_nil ?_) hs) hs rfl))) hs2) hs2 rfl))
  obtain ⟨m1, d, S1, e1, rs1, rd1, q⟩ := q1
  have q := VPost.of q
  cases rd1 with
  | @tup a ws ds ht rds =>
    have q : VPost X.K m1 H1 Q (some (.ref S1.length, S1 ++ [.lst ds.reverse])) := q
    obtain rfl : u = Value.ref a := r1
    obtain ⟨its, rv, p', hz⟩ := I1.tuple ht.sq
    have hz2 : its.toArray.size ≤ sizeLine := by rw [List.size_toArray, ← rv.length]; exact hz
    have hlen := rv.length
    have hbig := line63
    have hvs : ws.length ≤ sizeLine := hz
    refine call_reversed_tup p' (fun A E Q k => len_tuple p' (by simp only [List.size_toArray] <;> omega) k) (args_nil ?_)
    have k0 : ∀ b o, s1.heap.get? b = some o → (s1.heap.push (rtObj a ((its.toArray.size : Int) - 1))).get? b = some o := fun b o eo => Heap.get?_push_of_some _ eo
    have I2 : L2.Inv X pins σ H1 { s1 with heap := s1.heap.push (rtObj a ((its.toArray.size : Int) - 1)), toks := s1.toks + 1 + 1 } := I1.kept (t' := s1.toks + 1 + 1) k0
    obtain ⟨f0, f1, f2, f3, f4, f5⟩ := I1.fpOk (H' := H1) (b := s1.heap.objs.size) (Nat.le_refl _) (I1.hok.fresh (Nat.le_refl _))
    obtain ⟨ol, hol, _⟩ := id p'
    have hne : a ≠ s1.heap.objs.size := Nat.ne_of_lt (Heap.lt_size hol)
    refine call_list_rt (s := { s1 with heap := s1.heap.push (rtObj a ((its.toArray.size : Int) - 1)), toks := s1.toks + 1 + 1 }) (I1.ok.hd hc) ⟨_, Heap.get?_push_size _ rfl, rfl, rfl⟩ (IsTup.stays p' fun o eo => k0 _ _ eo) hne hz2 fun h' tk acc c' hk hS' hi => ?_
    have hfr : H1 (s1.heap.push (rtObj a ((its.toArray.size : Int) - 1))).objs.size = none := I2.hok.fresh (Nat.le_refl _)
    refine ⟨.ref (s1.heap.push (rtObj a ((its.toArray.size : Int) - 1))).objs.size, upd H1 _ (.lst ws.reverse), ?_, rfl, vp_lst rs1 hfr rds.reverse q⟩
    have I3 : L2.Inv X pins σ H1 { s1 with heap := h', toks := tk } := I2.turned (t' := tk) (fun b o hb eo => hk b o hb eo) f0 f1 f3 f4 f5
    obtain ⟨g0, g1, g2, g3, g4, g5⟩ := I2.fpOk (H' := H1) (b := (s1.heap.push (rtObj a ((its.toArray.size : Int) - 1))).objs.size) (Nat.le_refl _) hfr
    have hS'' : h'.get? (s1.heap.push (rtObj a ((its.toArray.size : Int) - 1))).objs.size = some { cls := .type "list", dict := none, data := .seq acc c', slots := #[] } := hS'
    generalize (s1.heap.push (rtObj a ((its.toArray.size : Int) - 1))).objs.size = p0 at *
    refine L2.Inv.step (s := { s1 with heap := h', toks := tk }) (g' := s1.gens) (t' := tk) (d' := s1.drawn) (h' := h') (ch := [p0]) I3 (fun b hb => ?_) (fun b o _ _ _ q _ => q) (fun b o _ _ _ q _ => ⟨o.slots, q⟩) (fun b o hb q n => ?_) (fun b o _ q => ⟨o, q⟩) (fun b ws q => by rw [upd_ne (ne_of_none q hfr)]; exact q)
      (fun b o u q => by rw [upd_ne (ne_of_none q hfr)]; exact q) (fun b ps q => ⟨#[], by rw [upd_ne (ne_of_none q hfr), q]; simp⟩) (fun m hm => hm) (fun b u q => ?_) I1.bare
    · have e : b = p0 := by simpa using hb
      subst e
      exact ⟨g3, g1, g4, g5⟩
    · rw [upd_ne (fun z => hb (by simp [z]))]
      exact n
    · by_cases hb : b = p0
      · subst hb
        rw [upd_same] at q
        cases q
        refine ⟨by rw [List.length_reverse]; exact hvs, acc.toList, c', RT.vals_rev rv hi, ?_⟩
        rw [Array.toArray_toList]
        exact hS''
      · rw [upd_ne hb] at q
        exact (I3.hok b u q).stay (fun c v _ r => r) (fun c r => by rw [upd_ne (ne_of_none r hfr)]; exact r) fun c ws r => by rw [upd_ne (ne_of_none r hfr)]; exact r
  | _ => exact q.elim
end
end Dl

set_option Elab.async false
set_option linter.all false
set_option maxRecDepth 100000
namespace Dl
open PySem PySem.Spec PyProof.Rows L2
/-! ## str.join, str.upper, str.replace -/
def strsO : List D → Option (List Str)
  | [] => some []
  | .str x :: r => (strsO r).map (x :: ·)
  | _ :: _ => none
def gJoin : D → List D → Store → Option (D × Store)
  | .str a, [.ref l], S => (lstAt S l).bind fun xs => (strsO xs).bind fun ys => if (ys.map (·.length)).sum + ys.length * a.length ≤ 16777216 ∧ (Txt.join a ys).length ≤ LIM then some (.str (Txt.join a ys), S) else none
  | _, _, _ => none
def gUpper : D → List D → Store → Option (D × Store)
  | .str a, [], S => if a.length ≤ 5592405 ∧ (Txt.upper a).length ≤ LIM then some (.str (Txt.upper a), S) else none
  | _, _, _ => none
def gRepl (y z : Str) : D → Store → Option (D × Store)
  | .str x, S => if x.length + (x.length + 1) * z.length ≤ 16777216 ∧ (Txt.replace x y z).length ≤ LIM then some (.str (Txt.replace x y z), S) else none
  | _, _ => none
section
variable {X : Cx}
theorem strsO_rd {K : PySem.W.Frag} {m : List Addr} {H : Hp} : ∀ {ds : List D} {vs : List V} {ys : List Str}, RDs K m H vs ds → strsO ds = some ys → vs = ys.map V.str
  | [], _, ys, .nil, h => by cases h; rfl
  | d :: ds, _, ys, .cons g r, h => by
    cases g with
    | str hx =>
      rename_i x
      have h : (strsO ds).map (x :: ·) = some ys := h
      cases e : strsO ds with
      | none => rw [e] at h; cases h
      | some zs =>
        rw [e] at h
        cases h
        rw [List.map_cons, ← strsO_rd r e]
    | _ => cases h
theorem m_join : MtR X "str.join" (rdM X.K gJoin) := by
  intro pins s σ H v vs vv us Q I rv rvs ⟨m, x, xs, S, hx, hxs, rs, h⟩
  unfold gJoin at h
  split at h
  · rename_i a l
    cases el : lstAt S l with
    | none => rw [el] at h; exact h.elim
    | some ds =>
      rw [el] at h
      cases es : strsO ds with
      | none => rw [Option.bind_some, es] at h; exact h.elim
      | some ys =>
        rw [Option.bind_some, es, Option.bind_some] at h
        split at h
        · rename_i hc
          cases hx with
          | str ha =>
            cases hxs with
            | cons g1 g2 =>
              cases g2
              cases g1 with
              | ref hl =>
                obtain ⟨ws, hq, rds⟩ := rs.lst hl el
                exact mt_join pins s σ H _ _ vv us Q I rv rvs ⟨a, _, ys, rfl, rfl, .inl (by rw [← strsO_rd rds es]; exact hq), hc.1, h _ _ m .refl rs (.str hc.2)⟩
        · exact h.elim
  · exact h.elim
theorem m_upper : MtR X "str.upper" (rdM X.K gUpper) := by
  intro pins s σ H v vs vv us Q I rv rvs ⟨m, x, xs, S, hx, hxs, rs, h⟩
  unfold gUpper at h
  split at h
  · rename_i a
    split at h
    · rename_i hc
      cases hx with
      | str ha =>
        cases hxs
        exact mt_upper pins s σ H _ _ vv us Q I rv rvs ⟨a, rfl, rfl, hc.1, h _ _ m .refl rs (.str hc.2)⟩
    · exact h.elim
  · exact h.elim
/-- an expression behind which a token is out -/
def PEp (X : Cx) (e : Expr) (t : TE) : Prop :=
  ∀ (pins : List (Addr × Obj)) (s : Shared) (σ : L2.St) (H : Hp) (Q : VK), Inv X pins σ H s → t σ H Q → wpAny (model X.prog X.w) X.A (eval e X.env) (fun v s1 => EP X pins σ Q v s1 ∧ 1 ≤ s1.toks) X.xe s
variable {W : WX} {e a : Expr} {es : List Expr} {f fe : EX} {fr : AX}
theorem pep_opC {op : Operator} {g : D → D → Store → Option (D × Store)} {y : Str} {j : Nat} {c pos : Pos} (ho : OpR X (binaryOp op) (rd2 X.K g)) (ha : PE X a (rdE (X.cq W) f)) (hy : y.length ≤ LIM := by decide) :
    PEp X (.BinOp a op (.Constant (.str y) j c) pos) (rdE (X.cq W) (e2 g f (eC (.str y)))) := by
  intro pins s σ H Q I ⟨m, ρ, S, re, rs, h⟩
  refine wpAny_BinOp (thn (ha.run pins s σ H _ I ⟨m, ρ, S, re, rs, Post.bind h⟩) fun v s1 ⟨x, H1, I1, r1, m1, d, S1, e1, rs1, rd1, q1⟩ => ?_)
  refine Calls.Constant_str ?_
  have q2 := VPost.of q1
  refine wpAny_mono (PySem.wpAny_toks (ho pins { s1 with toks := s1.toks + 1 } σ H1 x (.str y) v (.str y s1.toks) Q (I1.tok (s1.toks + 1)) r1 ⟨_, rfl⟩ ⟨m1, d, .str y, S1, rd1, .str hy, rs1, q2⟩)) (fun u s2 q => ⟨q.2, Nat.le_trans (Nat.le_add_left 1 s1.toks) q.1⟩) fun _ _ z => z.2
theorem pep_op {b : Expr} {fb : EX} {op : Operator} {g : D → D → Store → Option (D × Store)} {pos : Pos} (ho : OpR X (binaryOp op) (rd2 X.K g)) (ha : PEp X a (rdE (X.cq W) f)) (hb : PE X b (rdE (X.cq W) fb)) :
    PEp X (.BinOp a op b pos) (rdE (X.cq W) (e2 g f fb)) := by
  intro pins s σ H Q I ⟨m, ρ, S, re, rs, h⟩
  refine wpAny_BinOp (wpAny_mono (ha pins s σ H _ I ⟨m, ρ, S, re, rs, Post.bind h⟩) (fun v s1 q => ?_) fun _ _ z => z)
  obtain ⟨⟨x, H1, I1, r1, m1, d, S1, e1, rs1, rd1, q1⟩, hk⟩ := q
  refine wpAny_mono (PySem.wpAny_toks (hb.run pins s1 σ H1 _ I1 ⟨m1, ρ, S1, re.mono e1, rs1, Post.bind q1⟩)) (fun u s2 q => ?_) fun _ _ z => z.2
  obtain ⟨hk2, y, H2, I2, r2, m2, d2, S2, e2, rs2, rd2', q2⟩ := q
  have q2 := VPost.of q2
  exact wpAny_mono (PySem.wpAny_toks (ho pins s2 σ H2 x y v u Q I2 r1 r2 ⟨m2, d, d2, S2, rd1.mono e2, rd2', rs2, q2⟩)) (fun w s3 q => ⟨q.2, Nat.le_trans hk (Nat.le_trans hk2 q.1)⟩) fun _ _ z => z.2
theorem PET_of {t : TE} (h : PE X e t) : PET X e t := fun pins s σ H Q _ I q => h.run pins s σ H Q I q
theorem d_aNT : PAT X [] (rdA (X.cq W) aN) := fun pos pins s σ H Q _ I h => d_aN.run pos pins s σ H Q I h
theorem aC_cons {c : Cq} {σ : L2.St} {H : Hp} {Q : List V → Hp → Prop} (h : rdA c (aC fe fr) σ H Q) : tCons (rdE c fe) (rdA c fr) σ H Q := by
  obtain ⟨m, ρ, S, re, rs, h⟩ := h
  exact ⟨m, ρ, S, re, rs, (Post.bind h).imp fun v H1 ⟨m1, x, S1, e, rs1, rd, h1⟩ =>
    ⟨m1, ρ, S1, re.mono e, rs1, (Post.bind h1).imp fun vs H2 ⟨m2, xs, S2, e2, rs2, rds, h2⟩ => h2 _ _ m2 .refl rs2 (.cons (rd.mono e2) rds)⟩⟩
theorem d_aCT (he : PET X e (rdE (X.cq W) fe)) (hr : PAT X es (rdA (X.cq W) fr)) (hs : starEach (e :: es) X.env = (false, eval e X.env) :: starEach es X.env := by rfl) : PAT X (e :: es) (rdA (X.cq W) (aC fe fr)) :=
  fun pos pins s σ H Q h0 I h => pat_cons he hr hs pos pins s σ H Q h0 I (aC_cons h)
theorem d_aCP (he : PEp X e (rdE (X.cq W) fe)) (hr : PAT X es (rdA (X.cq W) fr)) (hs : starEach (e :: es) X.env = (false, eval e X.env) :: starEach es X.env := by rfl) : PA X (e :: es) (rdA (X.cq W) (aC fe fr)) := by
  refine ⟨fun pos pins s σ H Q I h => ?_⟩
  rw [hs]
  show wpAny _ _ (spliced ((false, eval e X.env) :: backTo pos (starEach es X.env))) _ _ s
  refine Calls.spliced_cons (wpAny_mono (he pins s σ H _ I (aC_cons h)) (fun v s1 q => ?_) fun _ _ z => z)
  obtain ⟨⟨x, H1, I1, r1, q1⟩, hk⟩ := q
  exact thn (hr pos pins s1 σ H1 _ hk I1 q1) fun us s2 ⟨xs, H2, I2, r2, q2⟩ => ⟨x :: xs, H2, I2, .cons r1 r2, q2⟩
theorem d_repl {o : Expr} {y z : Str} {j k : Nat} {c0 c1 apos pos : Pos} (ho : PE X o (rdE (X.cq W) f)) (hyz : (y == z) = false := by decide)
    (hst : starEach [.Constant (.str y) j c0, .Constant (.str z) k c1] X.env = [(false, eval (.Constant (.str y) j c0) X.env), (false, eval (.Constant (.str z) k c1) X.env)] := by rfl)
    (hbase : attributeBase o "replace" X.env (eval o X.env) = eval o X.env := by rfl) (hline : (apos.endLine == pos.line) = true := by rfl) :
    PET X (.Call (.Attribute o "replace" apos) [.Constant (.str y) j c0, .Constant (.str z) k c1] [] pos) (rdE (X.cq W) (e1 (gRepl y z) f)) :=
  fun pins s σ H Q h0 I ⟨m, ρ, S, re, rs, h⟩ => CwR.pet_replC ho hyz hst hbase hline pins s σ H Q h0 I ⟨m, ρ, S, re, rs, (Post.bind h).imp fun v H1 ⟨m1, d, S1, e, rs1, rd, h1⟩ => by
    have h1 := VPost.of h1
    unfold gRepl at h1
    split at h1
    · split at h1
      · rename_i hc
        cases rd with
        | str hx => exact ⟨_, rfl, hc.1, h1 _ _ m1 .refl rs1 (.str hc.2)⟩
      · exact h1.elim
    · exact h1.elim⟩
end
/-! ## x in D, D a module's table -/
def keyS (e : DictEntry) : Option Str := match e.key with
  | .str x _ => some x
  | _ => none
structure TabM (K : PySem.W.Frag) (w : World) (p : Addr) (ks : List Str) : Prop where
  ex : ∃ es n, K.lookup p = some ⟨.type "dict", none, .dict es n, #[]⟩ ∧ PySem.W.KeysLit w.params es.toList ∧ es.toList.map keyS = ks.map some
theorem find_lit {P : Params} {z : Str} : ∀ {l : List DictEntry} {ks : List Str}, PySem.W.KeysLit P l → l.map keyS = ks.map some → (l.find? (·.key.isStr z)).isSome = decide (z ∈ ks) ∧ l.any (·.refKey) = false
  | [], [], _, _ => ⟨rfl, rfl⟩
  | [], _ :: _, _, h => nomatch h
  | _ :: _, [], _, h => nomatch h
  | e :: l, k :: ks, ⟨⟨x, t, hx, _⟩, hl⟩, h => by
    rw [List.map_cons, List.map_cons] at h
    obtain ⟨h1, h2⟩ := List.cons.inj h
    obtain ⟨i1, i2⟩ := find_lit (z := z) hl h2
    have hk : x = k := by unfold keyS at h1; rw [hx] at h1; exact Option.some.inj h1
    subst hk
    have hs : e.key.isStr z = decide (x = z) := by
      rw [hx, PySem.W.isStr_of]
      by_cases e : x = z
      · subst e; simp [Value.isStrOf]
      · rw [decide_eq_false e]
        simp [Value.isStrOf, e]
    refine ⟨?_, ?_⟩
    · rw [List.find?_cons, hs]
      by_cases e : x = z
      · simp [e]
      · rw [decide_eq_false e]
        simp only [i1]
        have : z ≠ x := fun y => e y.symm
        simp [this]
    · rw [List.any_cons, i2, Bool.or_false]
      unfold DictEntry.refKey
      rw [hx]
theorem TabM.ns {K : PySem.W.Frag} {w : World} {p : Addr} {ks : List Str} (T : TabM K w p ks) (z : Str) : ∃ r, PySem.W.nsIn K p z = some r ∧ r.isSome = decide (z ∈ ks) := by
  obtain ⟨es, n, h1, h2, h3⟩ := T.ex
  obtain ⟨i1, i2⟩ := find_lit (z := z) h2 h3
  unfold PySem.W.nsIn
  rw [h1]
  dsimp only
  cases e : es.toList.find? (·.key.isStr z) with
  | some v =>
    rw [e] at i1
    exact ⟨some v.val, rfl, i1⟩
  | none =>
    rw [e] at i1
    refine ⟨none, ?_, i1⟩
    rw [i2]
    rfl
def gInK (ks : List Str) : D → Store → Option (D × Store)
  | .str z, S => some (.bl (decide (z ∈ ks)), S)
  | _, _ => none
def gNinK (ks : List Str) : D → Store → Option (D × Store)
  | .str z, S => some (.bl (!decide (z ∈ ks)), S)
  | _, _ => none
section
variable {X : Cx} {W : WX} {a : Expr} {fa : EX} {p1 pos : Pos} {x : Str} {p : Addr} {ks : List Str}
theorem k1g {v : V} {g : D → Store → Option (D × Store)} {r : R2} (k : ∀ m u H S Q d, RD X.K m H u d → RS X.K m H S → VPost X.K m H Q (g d S) → r u v H Q) : ∀ σ H Q, rdE (X.cq W) (e1 g fa) σ H Q → tOp r (rdE (X.cq W) fa) (tC v) σ H Q := fun σ H Q ⟨m, ρ, S, re, rs, h⟩ =>
  ⟨m, ρ, S, re, rs, (Post.bind h).imp fun u H1 ⟨m1, d, S1, e, rs1, rd, h1⟩ => k m1 u H1 S1 Q d rd rs1 (VPost.of h1)⟩
theorem kin {T : TabM X.K X.w p ks} {m : List Addr} {u : V} {H : Hp} {S : Store} {Q : VK} {d : D} (rd : RD X.K m H u d) (rs : RS X.K m H S) (h : VPost X.K m H Q (gInK ks d S)) :
    ∃ (z : Str) (r : Option Value), u = .str z ∧ (V.ref p) = .ref p ∧ PySem.W.nsIn X.K p z = some r ∧ Q (.bl r.isSome) H := by
  unfold gInK at h
  split at h
  · rename_i z
    cases rd with
    | str hz =>
      obtain ⟨r, h1, h2⟩ := T.ns z
      exact ⟨z, r, rfl, rfl, h1, by rw [h2]; exact h _ _ m .refl rs (.bl _)⟩
  · exact h.elim
theorem knin {T : TabM X.K X.w p ks} {m : List Addr} {u : V} {H : Hp} {S : Store} {Q : VK} {d : D} (rd : RD X.K m H u d) (rs : RS X.K m H S) (h : VPost X.K m H Q (gNinK ks d S)) :
    ∃ (z : Str) (r : Option Value), u = .str z ∧ (V.ref p) = .ref p ∧ PySem.W.nsIn X.K p z = some r ∧ Q (.bl (!r.isSome)) H := by
  unfold gNinK at h
  split at h
  · rename_i z
    cases rd with
    | str hz =>
      obtain ⟨r, h1, h2⟩ := T.ns z
      exact ⟨z, r, rfl, rfl, h1, by rw [h2]; exact h _ _ m .refl rs (.bl _)⟩
  · exact h.elim
theorem TabM.kd {K : PySem.W.Frag} {w : World} (T : TabM K w p ks) (hs : (p == sysModules) = false) : ∃ es n, KDict K w p es n := by
  obtain ⟨es, n, h1, h2, h3⟩ := T.ex
  exact ⟨es, n, h1, h2, hs⟩
theorem d_tInK (T : TabM X.K X.w p ks) (hs : (p == sysModules) = false) (hg : Gl X x) (hm : X.mg x = some (.ref p)) (ha : PE X a (rdE (X.cq W) fa)) (hd : (x == ("__debug__" : Str)) = false := by decide) (hmk : behindInMarks .In (.Name x p1) = false := by first | exact nomark _ | rfl) :
    PT X (.Compare a [.In] [.Name x p1] pos) (rdT (X.cq W) (tE (e1 (gInK ks) fa))) := by
  obtain ⟨es, n, D⟩ := T.kd hs
  exact d_te (pt_cmpR (op_in_kd D) ha (pe_glob (v := .ref p) hg hm rfl hd) hmk) (k1g fun m u H S Q d rd rs h => kin (T := T) rd rs h)
theorem d_tNinK (T : TabM X.K X.w p ks) (hs : (p == sysModules) = false) (hg : Gl X x) (hm : X.mg x = some (.ref p)) (ha : PE X a (rdE (X.cq W) fa)) (hd : (x == ("__debug__" : Str)) = false := by decide) (hmk : behindInMarks .NotIn (.Name x p1) = false := by first | exact nomark _ | rfl) :
    PT X (.Compare a [.NotIn] [.Name x p1] pos) (rdT (X.cq W) (tE (e1 (gNinK ks) fa))) := by
  obtain ⟨es, n, D⟩ := T.kd hs
  exact d_te (pt_cmpR (op_notIn_kd D) ha (pe_glob (v := .ref p) hg hm rfl hd) hmk) (k1g fun m u H S Q d rd rs h => knin (T := T) rd rs h)
end
/-! ## a def called without arguments -/
theorem d_call0 {X : Cx} {W : WX} {CX : CXT} {k : Nat} {f : Addr} {fd : FuncData} {ps : List Str} {F : List D → M D} {x : Str} {p pos : Pos} (G : FnOk X.prog X.w X.K X.mg X.base CX k f fd ps (rdF ⟨X.K, X.mg, W0⟩ F)) (hr : Room k X.A) (hg : Gl X x) (hm : X.mg x = some (.ref f)) (hk : PySem.W.keepIn X.K (.ref f) = true) (hb : Binds X.K fd ps []) (hx : ∀ σ, PassesAt CX X σ (WE W σ))
    (hdb : (x == ("__debug__" : Str)) = false := by decide) : PE X (.Call (.Name x p) [] [] pos) (rdE (X.cq W) (eF F aN)) := by
  refine ⟨fun pins s σ H Q I ⟨m, ρ, S, re, rs, h⟩ => ?_⟩
  refine wpAny_Call_Name_kw (ld_glob I hg hm ?_ hdb)
  refine PySem.W.callWith_K0 I.kIn hk (run_fnS G hr hb (hx σ) I .nil ⟨m, [], S, .nil, rs, ?_⟩)
  have h1 : Post (X.cq W) (relD (X.cq W)) m H σ Q (F [] S) := h
  cases er : F [] S with
  | ok d S2 => rw [er] at h1; exact h1
  | ex ex S2 => rw [er] at h1; exact h1
  | no => rw [er] at h1; exact h1
/-! ## a module's tuple of texts -/
inductive SVals : List Str → List Value → Prop
  | nil : SVals [] []
  | cons {x : Str} {t : Tok} {xs : List Str} {us : List Value} (h : x.length ≤ 16777216) (r : SVals xs us) : SVals (x :: xs) (.str x t :: us)
theorem SVals.vals : ∀ {xs : List Str} {us : List Value}, SVals xs us → Vals (xs.map V.str) us
  | _, _, .nil => .nil
  | _, _, .cons h r => .cons ⟨_, rfl⟩ r.vals
theorem SVals.rds {K : PySem.W.Frag} {m : List Addr} {H : Hp} : ∀ {xs : List Str} {us : List Value}, SVals xs us → RDs K m H (xs.map V.str) (xs.map D.str)
  | _, _, .nil => .nil
  | _, _, .cons h r => .cons (.str h) r.rds
theorem tupK_rd {K : PySem.W.Frag} {a : Addr} {its : Array Value} {n : Nat} {sl : Array (Option Value)} {xs : List Str} {us : List Value} (hl : K.lookup a = some ⟨.type "tuple", none, .seq its n, sl⟩) (hv : its.toList = us) (hz : us.length ≤ 1000) (r : SVals xs us) (m : List Addr) (H : Hp) : RD K m H (.ref a) (.tup (xs.map D.str)) := by
  have hs : its.size ≤ sizeLine := by
    have h1 : its.size = us.length := by rw [← hv, Array.length_toList]
    have h2 : (1000 : Nat) ≤ sizeLine := by decide
    omega
  exact .tup (.inr ⟨_, its, n, hl, rfl, rfl, rfl, hs, by rw [hv]; exact r.vals⟩) r.rds
end Dl

set_option Elab.async false
set_option linter.all false
set_option maxRecDepth 100000
namespace Dl
open PySem L2
/-! ## DlAD's forms, evaluated -/
def joinC (a : Str) (S : Store) : Option (List Str) → Option (D × Store)
  | some ys => if (ys.map (·.length)).sum + ys.length * a.length ≤ 16777216 ∧ (Txt.join a ys).length ≤ LIM then some (.str (Txt.join a ys), S) else none
  | none => none
theorem gJoin_r {a : Str} {l : Nat} {S : Store} : gJoin (.str a) [.ref l] S = joinC a S ((lstC S[l]?).bind strsO) := by
  show ((lstAt S l).bind fun xs => (strsO xs).bind _) = _
  rw [lstAt_C]
  cases lstC S[l]? with
  | none => rfl
  | some xs => show (strsO xs).bind _ = joinC a S (strsO xs); cases strsO xs <;> rfl
theorem joinC_ {a : Str} {S : Store} {ys : List Str} (h : (ys.map (·.length)).sum + ys.length * a.length ≤ 16777216 ∧ (Txt.join a ys).length ≤ LIM) : joinC a S (some ys) = some (.str (Txt.join a ys), S) := if_pos h
theorem gUpper_ {a : Str} {S : Store} (h : a.length ≤ 5592405 ∧ (Txt.upper a).length ≤ LIM) : gUpper (.str a) [] S = some (.str (Txt.upper a), S) := if_pos h
theorem gRepl_ {x y z : Str} {S : Store} (h : x.length + (x.length + 1) * z.length ≤ 16777216 ∧ (Txt.replace x y z).length ≤ LIM) : gRepl y z (.str x) S = some (.str (Txt.replace x y z), S) := if_pos h
theorem gInK_ {ks : List Str} {z : Str} {S : Store} : gInK ks (.str z) S = some (.bl (decide (z ∈ ks)), S) := nr rfl
theorem gNinK_ {ks : List Str} {z : Str} {S : Store} : gNinK ks (.str z) S = some (.bl (!decide (z ∈ ks)), S) := nr rfl
end Dl

set_option Elab.async false
set_option linter.all false
set_option maxRecDepth 100000
namespace Dl
open PySem PySem.Spec PyProof.Rows L2
/-! ## repr -/
def gRepr (lim : Nat) : List D → Store → Option (D × Store)
  | [x], S => match asP S x with
    | some p => if p.depth + 1 ≤ lim ∧ p.showable = true ∧ p.hasDict = false ∧ p.shown.length ≤ 16777216 then some (.str p.shown, S) else none
    | none => none
  | _, _ => none
theorem c_repr {X : Cx} {lim : Nat} (hg : X.A.guards = some []) (hu : X.A.units + lim < cLine) : CallR X (.builtin "repr") (rdC X.K (gRepr lim)) := by
  intro pins s σ H vs us Q I r ⟨m, xs, S, hx, rs, h⟩
  unfold gRepr at h
  split at h
  · rename_i x
    split at h
    · rename_i p e
      split at h
      · rename_i c
        obtain ⟨c1, c2, c3, c4⟩ := c
        cases hx with
        | cons h1 h2 =>
          cases h2
          cases r with
          | cons rv r2 =>
            cases r2
            obtain ⟨d1, p1⟩ := asP_of rs h1 e
            obtain ⟨as, q⟩ := Dp.reads I _ _ _ d1 rv
            have fin : ∀ {u : Tok} {s1 : Shared}, Inv X pins σ H s1 → EP X pins σ Q (.str p.shown u) s1 := fun J => ⟨.str _, H, J, ⟨_, rfl⟩, h _ _ m .refl rs (.str c4)⟩
            cases q with
            | none => exact PySem.P.repr_of_none (fin (I.tok _))
            | bool b => exact PySem.P.repr_of_bool (fin (I.tok _))
            | int i t => exact PySem.P.repr_of_int (of_decide_eq_true c2) (fin (I.tok _))
            | str y t => exact PySem.P.repr_of_str (fin (I.tok _)) c4
            | list g1 g2 g3 g4 => exact repr_of_reads' (.list g1 g2 g3 g4) c2 (fun z => by rw [c3] at z; exact nomatch z) hg (by omega) (fun _ _ z => z) (fun h' u tk k => fin (I.kept k)) c4
            | tuple g1 g2 g3 g4 => exact repr_of_reads' (.tuple g1 g2 g3 g4) c2 (fun z => by rw [c3] at z; exact nomatch z) hg (by omega) (fun _ _ z => z) (fun h' u tk k => fin (I.kept k)) c4
            | dict g1 g2 g3 g4 g5 => exact nomatch c3
      · exact h.elim
    · exact h.elim
  · exact h.elim
end Dl

set_option Elab.async false
set_option linter.all false
set_option maxRecDepth 100000
namespace Dl
open PySem L2
/-! ## reverse, reversed in a loop, evaluated -/
def revC (l : Nat) (S : Store) : Option Cell → Option (D × Store)
  | some (.lst xs) => some (.non, S.set l (.lst xs.reverse))
  | _ => none
theorem gReverse_r {l : Nat} {S : Store} : gReverse (.ref l) [] S = revC l S S[l]? := by
  show (match S[l]? with | some (.lst xs) => some (D.non, S.set l (.lst xs.reverse)) | _ => none) = _
  cases S[l]? with
  | none => rfl
  | some c => cases c <;> rfl
theorem revC_s {l : Nat} {S : Store} {xs : List D} : revC l S (some (.lst xs)) = some (.non, S.set l (.lst xs.reverse)) := nr rfl
def revI (l : Nat) (S : Store) : Option (List D) → R (List D × Chk)
  | some xs => .ok (xs.reverse, [(l, xs)]) S
  | none => .no
def kVV : R D → R (List D × Chk)
  | .ok (.tup xs) S => .ok (xs.reverse, []) S
  | .ok (.ref l) S => revI l S (lstC S[l]?)
  | .ok _ _ => .no
  | .ex x S => .ex x S
  | .no => .no
theorem iV_ {f : EX} {ρ : Env} {S : Store} : iV f ρ S = kVV (f ρ S) := by
  unfold iV
  cases h : f ρ S with
  | ok d S1 =>
    cases d with
    | ref l =>
      show (match lstAt S1 l with | some xs => R.ok (xs.reverse, [(l, xs)]) S1 | none => .no) = revI l S1 (lstC S1[l]?)
      rw [lstAt_C]
      cases lstC S1[l]? <;> rfl
    | _ => rfl
  | ex x S => rfl
  | no => rfl
theorem kVV_t {xs : List D} {S : Store} : kVV (.ok (.tup xs) S) = .ok (xs.reverse, []) S := nr rfl
theorem kVV_r {l : Nat} {S : Store} : kVV (.ok (.ref l) S) = revI l S (lstC S[l]?) := nr rfl
theorem revI_s {l : Nat} {S : Store} {xs : List D} : revI l S (some xs) = .ok (xs.reverse, [(l, xs)]) S := nr rfl
end Dl

set_option Elab.async false
set_option linter.all false
set_option maxRecDepth 100000
namespace Lw
open PySem L2 Dl
/-! ## the mirror of the text, def by def -/
inductive FN where
  | sequent_of | by_over_right | by_under_right | by_pair_right | by_over_left | by_under_left | by_pair_left | by_cut | build_step | mirror_place | mirror_derivation | _law_cell | _law_mix | _law_pool | _law_draw | _law_names | _law_twins | _law_kind | _law_size | _law_line | _law_axiom | _law_make | _law_identity | _law_fits | _law_grow | _law_grown | _law_joined | _law_paper | _law_train | _law_mirror_kind | _law_is_integer | _law_turned_rule | _law_turned_place | _law_turns | _law_mirrors | _law_some_paper | law
def tfs : List FN := [.by_over_right, .by_under_right, .by_pair_right, .by_over_left, .by_under_left, .by_pair_left, .by_cut]
/-- where the defs of the tables stand -/
class Fa where
  a : FN → Addr
  inj : ∀ m ∈ tfs, ∀ n ∈ tfs, a m = a n → m = n
variable [Fa]
def k_BUILDERS : List (Str × D) := [("over right", .raw (.ref (Fa.a .by_over_right))), ("under right", .raw (.ref (Fa.a .by_under_right))), ("pair right", .raw (.ref (Fa.a .by_pair_right))), ("over left", .raw (.ref (Fa.a .by_over_left))), ("under left", .raw (.ref (Fa.a .by_under_left))), ("pair left", .raw (.ref (Fa.a .by_pair_left))), ("cut", .raw (.ref (Fa.a .by_cut)))]
def k_MIRROR_RULES : List (Str × D) := [("over right", .str "under right"), ("under right", .str "over right"), ("pair right", .str "pair right"), ("over left", .str "under left"), ("under left", .str "over left"), ("pair left", .str "pair left"), ("cut", .str "cut")]
noncomputable def b_sequent_of (F : FN → List D → M D) : SX := (sR (eB gTpl (aC (e2 gIx (eV 0) (eC (.int 1))) (aC (e2 gIx (eV 0) (eC (.int 2))) aN))))
noncomputable def b_by_over_right (F : FN → List D → M D) : SX := (sQ (sA (eF (F .sequent_of) (aC (e2 gIx (eV 1) (eC (.int 0))) aN)) (tgU [(nm 2), (nm 3)]))
  (sR (eB gTpl (aC (eSl (eV 2) oN (oI (e1 gNeg (eC (.int 1))))) (aC (eB gTpl (aC (eC (.str "/")) (aC (eV 3) (aC (e2 gIx (eV 2) (e1 gNeg (eC (.int 1)))) aN)))) (aC (eC (.int 0)) aN))))))
noncomputable def b_by_under_right (F : FN → List D → M D) : SX := (sQ (sA (eF (F .sequent_of) (aC (e2 gIx (eV 1) (eC (.int 0))) aN)) (tgU [(nm 2), (nm 3)]))
  (sR (eB gTpl (aC (eSl (eV 2) (oI (eC (.int 1))) oN) (aC (eB gTpl (aC (eC (.str ">")) (aC (e2 gIx (eV 2) (eC (.int 0))) (aC (eV 3) aN)))) (aC (eC (.int 0)) aN))))))
noncomputable def b_by_pair_right (F : FN → List D → M D) : SX := (sQ (sA (eF (F .sequent_of) (aC (e2 gIx (eV 1) (eC (.int 0))) aN)) (tgU [(nm 2), (nm 3)]))
  (sQ (sA (eF (F .sequent_of) (aC (e2 gIx (eV 1) (eC (.int 1))) aN)) (tgU [(nm 4), (nm 5)]))
  (sR (eB gTpl (aC (e2 gAdd (eV 2) (eV 4)) (aC (eB gTpl (aC (eC (.str "*")) (aC (eV 3) (aC (eV 5) aN)))) (aC (eC (.int 0)) aN)))))))
noncomputable def b_by_over_left (F : FN → List D → M D) : SX := (sQ (sA (eF (F .sequent_of) (aC (e2 gIx (eV 1) (eC (.int 0))) aN)) (tgU [(nm 3), (nm 4)]))
  (sQ (sA (eF (F .sequent_of) (aC (e2 gIx (eV 1) (eC (.int 1))) aN)) (tgU [(nm 5), (nm 6)]))
  (sQ (sN 2 (eB gTpl (aC (eC (.str "/")) (aC (e2 gIx (eV 5) (eV 0)) (aC (eV 4) aN)))))
  (sR (eB gTpl (aC (e2 gAdd (e2 gAdd (e2 gAdd (eSl (eV 5) oN (oI (eV 0))) (eB gTpl (aC (eV 2) aN))) (eV 3)) (eSl (eV 5) (oI (e2 gAdd (eV 0) (eC (.int 1)))) oN)) (aC (eV 6) (aC (eB gLen (aC (eV 3) aN)) aN))))))))
noncomputable def b_by_under_left (F : FN → List D → M D) : SX := (sQ (sA (eF (F .sequent_of) (aC (e2 gIx (eV 1) (eC (.int 0))) aN)) (tgU [(nm 4), (nm 5)]))
  (sQ (sA (eF (F .sequent_of) (aC (e2 gIx (eV 1) (eC (.int 1))) aN)) (tgU [(nm 6), (nm 7)]))
  (sQ (sN 2 (e2 gSub (eV 0) (eB gLen (aC (eV 4) aN))))
  (sQ (sN 3 (eB gTpl (aC (eC (.str ">")) (aC (eV 5) (aC (e2 gIx (eV 6) (eV 2)) aN)))))
  (sR (eB gTpl (aC (e2 gAdd (e2 gAdd (e2 gAdd (eSl (eV 6) oN (oI (eV 2))) (eV 4)) (eB gTpl (aC (eV 3) aN))) (eSl (eV 6) (oI (e2 gAdd (eV 2) (eC (.int 1)))) oN)) (aC (eV 7) (aC (eB gLen (aC (eV 4) aN)) aN)))))))))
noncomputable def b_by_pair_left (F : FN → List D → M D) : SX := (sQ (sA (eF (F .sequent_of) (aC (e2 gIx (eV 1) (eC (.int 0))) aN)) (tgU [(nm 3), (nm 4)]))
  (sQ (sN 2 (eB gTpl (aC (eC (.str "*")) (aC (e2 gIx (eV 3) (eV 0)) (aC (e2 gIx (eV 3) (e2 gAdd (eV 0) (eC (.int 1)))) aN)))))
  (sR (eB gTpl (aC (e2 gAdd (e2 gAdd (eSl (eV 3) oN (oI (eV 0))) (eB gTpl (aC (eV 2) aN))) (eSl (eV 3) (oI (e2 gAdd (eV 0) (eC (.int 2)))) oN)) (aC (eV 4) (aC (eC (.int 0)) aN)))))))
noncomputable def b_by_cut (F : FN → List D → M D) : SX := (sQ (sA (eF (F .sequent_of) (aC (e2 gIx (eV 1) (eC (.int 0))) aN)) (tgU [(nm 2), (nm 3)]))
  (sQ (sA (eF (F .sequent_of) (aC (e2 gIx (eV 1) (eC (.int 1))) aN)) (tgU [(nm 4), (nm 5)]))
  (sR (eB gTpl (aC (e2 gAdd (e2 gAdd (eSl (eV 4) oN (oI (eV 0))) (eV 2)) (eSl (eV 4) (oI (e2 gAdd (eV 0) (eC (.int 1)))) oN)) (aC (eV 5) (aC (eB gLen (aC (eV 2) aN)) aN)))))))
noncomputable def b_build_step (F : FN → List D → M D) : SX := (sQ (sN 3 (eTab k_BUILDERS (eV 0)))
  (sQ (sA (eFv 3 [(Fa.a .by_over_right, F .by_over_right), (Fa.a .by_under_right, F .by_under_right), (Fa.a .by_pair_right, F .by_pair_right), (Fa.a .by_over_left, F .by_over_left), (Fa.a .by_under_left, F .by_under_left), (Fa.a .by_pair_left, F .by_pair_left), (Fa.a .by_cut, F .by_cut)] (aC (eV 1) (aC (eV 2) aN))) (tgU [(nm 4), (nm 5), (nm 6)]))
  (sR (eB gTpl (aC (eV 0) (aC (eV 4) (aC (eV 5) (aC (eV 1) (aC (eV 6) (aC (eV 2) aN))))))))))
noncomputable def b_mirror_place (F : FN → List D → M D) : SX := (sQ (sIf (tO (tE (e2 gEq (eV 0) (eC (.str "over right")))) (tE (e2 gEq (eV 0) (eC (.str "under right"))))) (sR (eC (.int 0))) sP)
  (sQ (sIf (tE (e2 gEq (eV 0) (eC (.str "pair right")))) (sR (e2 gSub (eV 3) (eV 1))) sP)
  (sQ (sIf (tE (e2 gEq (eV 0) (eC (.str "cut")))) (sR (e2 gSub (e2 gSub (eV 3) (eV 1)) (eV 2))) sP)
  (sR (e2 gSub (e2 gSub (eV 3) (eC (.int 1))) (eV 1))))))
noncomputable def b_mirror_derivation (F : FN → List D → M D) : SX := (sQ (sA (eV 0) (tgU [(nm 4), (nm 5), (nm 6), (nm 7), (nm 8), (nm 9)]))
  (sQ (sIf (tE (e2 gEq (eV 4) (eC (.str "axiom")))) (sR (eV 0)) sP)
  (sQ (sN 1 (eB gLsd aN))
  (sQ (sF (iA (eV 9)) (nm 2) (sE (eMt .lst gAppend (eV 1) (aC (eF (F .mirror_derivation) (aC (eV 2) aN)) aN))))
  (sQ (sIf (tE (e2 gEq (eV 4) (eC (.str "pair right")))) (sE (eMt .lst gReverse (eV 1) aN)) sP)
  (sQ (sN 3 (eF (F .mirror_place) (aC (eV 4) (aC (eV 7) (aC (eV 8) (aC (eB gLen (aC (eV 5) aN)) aN))))))
  (sR (eF (F .build_step) (aC (eTab k_MIRROR_RULES (eV 4)) (aC (eV 3) (aC (eB gTuple (aC (eV 1) aN)) aN)))))))))))
noncomputable def b__law_cell (F : FN → List D → M D) : SX := (sQ (sIf (tE (e2 gLt (eV 1) (eB gLen (aC (eV 0) aN)))) (sR (eB gInt (aC (e2 gIx (eV 0) (eV 1)) aN))) sP)
  (sR (eC (.int 0))))
noncomputable def b__law_mix (F : FN → List D → M D) : SX := (sQ (sN 0 (e2 gMod (eB gInt (aC (e2 gAdd (e2 gAdd (e2 gMul (eV 0) (eV 0)) (e2 gMul (eC (.int 3)) (eV 0))) (eC (.int 7919))) aN)) (eC (.int 1000003))))
  (sR (e2 gMod (eB gInt (aC (e2 gAdd (e2 gAdd (e2 gMul (eV 0) (eV 0)) (e2 gMul (eC (.int 5)) (eV 0))) (eC (.int 104729))) aN)) (eC (.int 998244353)))))
noncomputable def b__law_pool (F : FN → List D → M D) : SX := (sQ (sN 2 (eF (F ._law_cell) (aC (eV 0) (aC (eV 1) aN))))
  (sQ (sIf (tE (e2 gGe (eV 2) (e2 gPow (eC (.int 10)) (eC (.int 18))))) (sR (eB gLsd (aC (e2 gSub (eV 2) (e2 gPow (eC (.int 10)) (eC (.int 18)))) (aC (e2 gMul (eC (.int 40009)) (e2 gAdd (eV 1) (eC (.int 1)))) (aC (eC (.int 0)) aN))))) sP)
  (sR (eB gLsd (aC (eC (.int 0)) (aC (e2 gAdd (e2 gAdd (e2 gMod (eB gInt (aC (eB gAbs (aC (eV 2) aN)) aN)) (eC (.int 2000000011))) (e2 gMul (eC (.int 7919)) (eV 1))) (eC (.int 1462))) (aC (eC (.int 0)) aN)))))))
noncomputable def b__law_draw (F : FN → List D → M D) : SX := (sQ (sIf (tE (e2 gGt (e2 gIx (eV 0) (eC (.int 0))) (eC (.int 0)))) (sQ (sN 2 (e2 gMod (eB gInt (aC (e2 gIx (eV 0) (eC (.int 0))) aN)) (eV 1)))
  (sQ (sA (e2 gFdivW (e2 gIx (eV 0) (eC (.int 0))) (eV 1)) (tgIxX (eV 0) (eC (.int 0))))
  (sR (eV 2)))) sP)
  (sQ (sA (e2 gAdd (e2 gIx (eV 0) (eC (.int 2))) (eC (.int 1))) (tgIxX (eV 0) (eC (.int 2))))
  (sR (e2 gMod (eB gInt (aC (e2 gFdivW (eF (F ._law_mix) (aC (e2 gAdd (e2 gIx (eV 0) (eC (.int 1))) (e2 gMul (eC (.int 7368787)) (e2 gIx (eV 0) (eC (.int 2))))) aN)) (eC (.int 8))) aN)) (eV 1)))))
noncomputable def b__law_names (F : FN → List D → M D) : SX := (sQ (sN 2 (eC (.str "abcdefghijklmnopqrstuvwxyz0123456789")))
  (sQ (sN 3 (eB gLsd aN))
  (sQ (sF (iR1 (eV 1)) (nm 4) (sQ (sN 5 (e2 gIx (eV 2) (eF (F ._law_draw) (aC (eV 0) (aC (eC (.int 26)) aN)))))
  (sQ (sIf (tA (tE (e2 gGt (eV 4) (eC (.int 0)))) (tE (e2 gEq (eF (F ._law_draw) (aC (eV 0) (aC (eC (.int 3)) aN))) (eC (.int 2))))) (sN 5 (e2 gIx (eV 3) (eC (.int 0)))) sP)
  (sQ (sN 6 (e2 gIx (eB gLsd (aC (eC (.int 0)) (aC (eC (.int 1)) (aC (eC (.int 0)) (aC (eC (.int 7)) aN))))) (eF (F ._law_draw) (aC (eV 0) (aC (eC (.int 4)) aN)))))
  (sQ (sIf (tE (e2 gEq (eV 6) (eC (.int 7)))) (sN 6 (eF (F ._law_draw) (aC (eV 0) (aC (eC (.int 8)) aN)))) sP)
  (sQ (sF (iR1 (eV 6)) (nm 7) (sN 5 (e2 gAdd (eV 5) (e2 gIx (eV 2) (eF (F ._law_draw) (aC (eV 0) (aC (eC (.int 36)) aN)))))))
  (sQ (sN 5 (eSl (eV 5) oN (oI (eC (.int 8)))))
  (sQ (sIf (tE (e2 gIn (eV 5) (eV 3))) (sQ (sN 8 (eLc [9] (iR1 (e2 gAdd (eV 1) (eC (.int 1)))) (.one 9) tYesD (e2 gAdd (e2 gAdd (eSl (eV 5) oN (oI (eC (.int 1)))) (eC (.str "5"))) (eB gStr (aC (eV 9) aN)))))
  (sN 5 (e2 gIx (eLc [10] (iA (eV 8)) (.one 10) (tE (e2 gNin (eV 10) (eV 3))) (eV 10)) (eC (.int 0))))) sP)
  (sE (eMt .lst gAppend (eV 3) (aC (eV 5) aN)))))))))))
  (sR (eV 3)))))
noncomputable def b__law_twins (F : FN → List D → M D) : SX := (sQ (sN 2 (eB gList (aC (eV 1) aN)))
  (sQ (sF (iR1 (e2 gAdd (eC (.int 1)) (eF (F ._law_draw) (aC (eV 0) (aC (eC (.int 2)) aN))))) (nm 3) (sQ (sN 4 (e2 gIx (eB gLsd (aC (eC (.int 9)) (aC (eC (.int 999999)) aN))) (eF (F ._law_draw) (aC (eV 0) (aC (eC (.int 2)) aN)))))
  (sQ (sN 5 (e2 gAdd (e2 gAdd (e2 gIx (eV 1) (eF (F ._law_draw) (aC (eV 0) (aC (eB gLen (aC (eV 1) aN)) aN)))) (eC (.str "."))) (eB gStr (aC (e2 gAdd (eC (.int 1)) (eF (F ._law_draw) (aC (eV 0) (aC (eV 4) aN)))) aN))))
  (sIf (tE (e2 gNin (eV 5) (eV 2))) (sE (eMt .lst gAppend (eV 2) (aC (eV 5) aN))) sP))))
  (sR (eV 2))))
noncomputable def b__law_kind (F : FN → List D → M D) : SX := (sQ (sIf (tE (e2 gLe (eV 2) (eC (.int 1)))) (sR (e2 gIx (eV 1) (eF (F ._law_draw) (aC (eV 0) (aC (eB gLen (aC (eV 1) aN)) aN))))) sP)
  (sQ (sN 3 (e2 gAdd (eC (.int 1)) (eF (F ._law_draw) (aC (eV 0) (aC (e2 gSub (eV 2) (eC (.int 1))) aN)))))
  (sQ (sN 4 (e2 gIx (eC (.str "/>*")) (eF (F ._law_draw) (aC (eV 0) (aC (eC (.int 3)) aN)))))
  (sQ (sN 5 (eF (F ._law_kind) (aC (eV 0) (aC (eV 1) (aC (eV 3) aN)))))
  (sR (eB gTpl (aC (eV 4) (aC (eV 5) (aC (eF (F ._law_kind) (aC (eV 0) (aC (eV 1) (aC (e2 gSub (eV 2) (eV 3)) aN)))) aN)))))))))
noncomputable def b__law_size (F : FN → List D → M D) : SX := (sQ (sIf (tV (eB (gIsi .str) (aC (eV 0) (aC (eC (.raw (.ty "str"))) aN)))) (sR (eC (.int 1))) sP)
  (sR (e2 gAdd (eF (F ._law_size) (aC (e2 gIx (eV 0) (eC (.int 1))) aN)) (eF (F ._law_size) (aC (e2 gIx (eV 0) (eC (.int 2))) aN)))))
noncomputable def b__law_line (F : FN → List D → M D) : SX := (sQ (sN 3 (e2 gIn (eV 0) (eB gLsd (aC (eC (.str "pair right")) (aC (eC (.str "over left")) (aC (eC (.str "under left")) (aC (eC (.str "cut")) aN)))))))
  (sQ (sIf (tE (e2 gNe (eB gLen (aC (eV 2) aN)) (e2 gAdd (eC (.int 1)) (eB gInt (aC (eV 3) aN))))) (sR (eC .non)) sP)
  (sQ (sA (e2 gIx (eV 2) (eC (.int 0))) (tgU [(nm 5), (nm 6)]))
  (sQ (sIf (tA (tE (e2 gEq (eV 0) (eC (.str "over right")))) (tA (tE (e2 gEq (eV 1) (eC (.int 0)))) (tE (e2 gGt (eB gLen (aC (eV 5) aN)) (eC (.int 1)))))) (sR (eB gTpl (aC (eSl (eV 5) oN (oI (e1 gNeg (eC (.int 1))))) (aC (eB gTpl (aC (eC (.str "/")) (aC (eV 6) (aC (e2 gIx (eV 5) (e1 gNeg (eC (.int 1)))) aN)))) (aC (eC (.int 0)) aN))))) sP)
  (sQ (sIf (tA (tE (e2 gEq (eV 0) (eC (.str "under right")))) (tA (tE (e2 gEq (eV 1) (eC (.int 0)))) (tE (e2 gGt (eB gLen (aC (eV 5) aN)) (eC (.int 1)))))) (sR (eB gTpl (aC (eSl (eV 5) (oI (eC (.int 1))) oN) (aC (eB gTpl (aC (eC (.str ">")) (aC (e2 gIx (eV 5) (eC (.int 0))) (aC (eV 6) aN)))) (aC (eC (.int 0)) aN))))) sP)
  (sQ (sIf (tA (tE (e2 gEq (eV 0) (eC (.str "pair left")))) (tE (eCh gLe gLt (eC (.int 0)) (eV 1) (e2 gSub (eB gLen (aC (eV 5) aN)) (eC (.int 1)))))) (sR (eB gTpl (aC (e2 gAdd (e2 gAdd (eSl (eV 5) oN (oI (eV 1))) (eB gTpl (aC (eB gTpl (aC (eC (.str "*")) (aC (e2 gIx (eV 5) (eV 1)) (aC (e2 gIx (eV 5) (e2 gAdd (eV 1) (eC (.int 1)))) aN)))) aN))) (eSl (eV 5) (oI (e2 gAdd (eV 1) (eC (.int 2)))) oN)) (aC (eV 6) (aC (eC (.int 0)) aN))))) sP)
  (sQ (sIf (tN (tV (eV 3))) (sR (eC .non)) sP)
  (sQ (sA (e2 gIx (eV 2) (eC (.int 1))) (tgU [(nm 7), (nm 8)]))
  (sQ (sN 4 (e2 gSub (eV 1) (eB gLen (aC (eV 5) aN))))
  (sQ (sIf (tA (tE (e2 gEq (eV 0) (eC (.str "pair right")))) (tE (e2 gEq (eV 1) (eB gLen (aC (eV 5) aN))))) (sR (eB gTpl (aC (e2 gAdd (eV 5) (eV 7)) (aC (eB gTpl (aC (eC (.str "*")) (aC (eV 6) (aC (eV 8) aN)))) (aC (eC (.int 0)) aN))))) sP)
  (sQ (sIf (tA (tE (e2 gEq (eV 0) (eC (.str "over left")))) (tE (eCh gLe gLt (eC (.int 0)) (eV 1) (eB gLen (aC (eV 7) aN))))) (sR (eB gTpl (aC (e2 gAdd (e2 gAdd (e2 gAdd (eSl (eV 7) oN (oI (eV 1))) (eB gTpl (aC (eB gTpl (aC (eC (.str "/")) (aC (e2 gIx (eV 7) (eV 1)) (aC (eV 6) aN)))) aN))) (eV 5)) (eSl (eV 7) (oI (e2 gAdd (eV 1) (eC (.int 1)))) oN)) (aC (eV 8) (aC (eB gLen (aC (eV 5) aN)) aN))))) sP)
  (sQ (sIf (tA (tE (e2 gEq (eV 0) (eC (.str "under left")))) (tE (eCh gLe gLt (eC (.int 0)) (eV 4) (eB gLen (aC (eV 7) aN))))) (sR (eB gTpl (aC (e2 gAdd (e2 gAdd (e2 gAdd (eSl (eV 7) oN (oI (eV 4))) (eV 5)) (eB gTpl (aC (eB gTpl (aC (eC (.str ">")) (aC (eV 6) (aC (e2 gIx (eV 7) (eV 4)) aN)))) aN))) (eSl (eV 7) (oI (e2 gAdd (eV 4) (eC (.int 1)))) oN)) (aC (eV 8) (aC (eB gLen (aC (eV 5) aN)) aN))))) sP)
  (sQ (sIf (tA (tE (e2 gEq (eV 0) (eC (.str "cut")))) (tA (tE (eCh gLe gLt (eC (.int 0)) (eV 1) (eB gLen (aC (eV 7) aN)))) (tE (e2 gEq (e2 gIx (eV 7) (eV 1)) (eV 6))))) (sR (eB gTpl (aC (e2 gAdd (e2 gAdd (eSl (eV 7) oN (oI (eV 1))) (eV 5)) (eSl (eV 7) (oI (e2 gAdd (eV 1) (eC (.int 1)))) oN)) (aC (eV 8) (aC (eB gLen (aC (eV 5) aN)) aN))))) sP)
  (sR (eC .non)))))))))))))))
noncomputable def b__law_axiom (F : FN → List D → M D) : SX := (sR (eB gTpl (aC (eC (.str "axiom")) (aC (eB gTpl (aC (eV 0) aN)) (aC (eV 0) (aC (eC (.int 0)) (aC (eC (.int 0)) (aC (eB gTpl aN) aN))))))))
noncomputable def b__law_make (F : FN → List D → M D) : SX := (sQ (sN 3 (eF (F ._law_line) (aC (eV 0) (aC (eV 1) (aC (eLc [4] (iA (eV 2)) (.one 4) tYesD (eB gTpl (aC (e2 gIx (eV 4) (eC (.int 1))) (aC (e2 gIx (eV 4) (eC (.int 2))) aN)))) aN)))))
  (sQ (sIf (tE (e2 gIs (eV 3) (eC .non))) (sR (eC .non)) sP)
  (sR (eB gTpl (aC (eV 0) (aC (e2 gIx (eV 3) (eC (.int 0))) (aC (e2 gIx (eV 3) (eC (.int 1))) (aC (eV 1) (aC (e2 gIx (eV 3) (eC (.int 2))) (aC (eB gTuple (aC (eV 2) aN)) aN))))))))))
noncomputable def b__law_identity (F : FN → List D → M D) : SX := (sQ (sIf (tV (eB (gIsi .str) (aC (eV 0) (aC (eC (.raw (.ty "str"))) aN)))) (sR (eF (F ._law_axiom) (aC (eV 0) aN))) sP)
  (sQ (sN 1 (eF (F ._law_identity) (aC (e2 gIx (eV 0) (eC (.int 1))) aN)))
  (sQ (sN 2 (eF (F ._law_identity) (aC (e2 gIx (eV 0) (eC (.int 2))) aN)))
  (sQ (sIf (tE (e2 gEq (e2 gIx (eV 0) (eC (.int 0))) (eC (.str "/")))) (sR (eF (F ._law_make) (aC (eC (.str "over right")) (aC (eC (.int 0)) (aC (eB gLsd (aC (eF (F ._law_make) (aC (eC (.str "over left")) (aC (eC (.int 0)) (aC (eB gLsd (aC (eV 2) (aC (eV 1) aN))) aN)))) aN)) aN))))) sP)
  (sQ (sIf (tE (e2 gEq (e2 gIx (eV 0) (eC (.int 0))) (eC (.str ">")))) (sR (eF (F ._law_make) (aC (eC (.str "under right")) (aC (eC (.int 0)) (aC (eB gLsd (aC (eF (F ._law_make) (aC (eC (.str "under left")) (aC (eC (.int 1)) (aC (eB gLsd (aC (eV 1) (aC (eV 2) aN))) aN)))) aN)) aN))))) sP)
  (sR (eF (F ._law_make) (aC (eC (.str "pair left")) (aC (eC (.int 0)) (aC (eB gLsd (aC (eF (F ._law_make) (aC (eC (.str "pair right")) (aC (eC (.int 1)) (aC (eB gLsd (aC (eV 1) (aC (eV 2) aN))) aN)))) aN)) aN))))))))))
noncomputable def b__law_fits (F : FN → List D → M D) : SX := (sQ (sIf (tE (e2 gIs (eV 0) (eC .non))) (sR (eC (.bl false))) sP)
  (sQ (sN 2 (e2 gAdd (eLc [3] (iA (e2 gIx (eV 0) (eC (.int 1)))) (.one 3) tYesD (eF (F ._law_size) (aC (eV 3) aN))) (eB gLsd (aC (eF (F ._law_size) (aC (e2 gIx (eV 0) (eC (.int 2))) aN)) aN))))
  (sR (eAnd (e2 gLe (eB gMaxL (aC (eV 2) aN)) (e2 gIx (eV 1) (eC (.int 0)))) (eAnd (e2 gLe (eB gLen (aC (e2 gIx (eV 0) (eC (.int 1))) aN)) (e2 gIx (eV 1) (eC (.int 1)))) (e2 gLe (eB gSum (aC (eV 2) aN)) (e2 gIx (eV 1) (eC (.int 2)))))))))
noncomputable def b__law_grow (F : FN → List D → M D) : SX := (sQ (sN 3 (e2 gIx (eV 1) (e1 gNeg (eC (.int 1)))))
  (sQ (sN 4 (eB gLen (aC (e2 gIx (eV 3) (eC (.int 1))) aN)))
  (sQ (sIf (tE (e2 gEq (eV 2) (eC (.int 0)))) (sR (eF (F ._law_make) (aC (eC (.str "over right")) (aC (eC (.int 0)) (aC (eB gLsd (aC (eV 3) aN)) aN))))) sP)
  (sQ (sIf (tE (e2 gEq (eV 2) (eC (.int 2)))) (sR (eF (F ._law_make) (aC (eC (.str "under right")) (aC (eC (.int 0)) (aC (eB gLsd (aC (eV 3) aN)) aN))))) sP)
  (sQ (sIf (tA (tE (e2 gEq (eV 2) (eC (.int 5)))) (tE (e2 gGt (eV 4) (eC (.int 1))))) (sR (eF (F ._law_make) (aC (eC (.str "pair left")) (aC (eF (F ._law_draw) (aC (eV 0) (aC (e2 gSub (eV 4) (eC (.int 1))) aN))) (aC (eB gLsd (aC (eV 3) aN)) aN))))) sP)
  (sQ (sIf (tO (tE (e2 gEq (eV 2) (eC (.int 5)))) (tE (e2 gLt (eB gLen (aC (eV 1) aN)) (eC (.int 2))))) (sR (eC .non)) sP)
  (sQ (sN 5 (e2 gIx (eV 1) (e1 gNeg (eC (.int 2)))))
  (sQ (sIf (tE (e2 gEq (eV 2) (eC (.int 4)))) (sR (eF (F ._law_make) (aC (eC (.str "pair right")) (aC (eB gLen (aC (e2 gIx (eV 5) (eC (.int 1))) aN)) (aC (eB gLsd (aC (eV 5) (aC (eV 3) aN))) aN))))) sP)
  (sQ (sIf (tE (e2 gEq (eV 2) (eC (.int 6)))) (sQ (sN 7 (eLc [6] (iR1 (eV 4)) (.one 6) (tE (e2 gEq (e2 gIx (e2 gIx (eV 3) (eC (.int 1))) (eV 6)) (e2 gIx (eV 5) (eC (.int 2))))) (eV 6)))
  (sQ (sIf (tE (e2 gEq (eB gLen (aC (eV 7) aN)) (eC (.int 0)))) (sR (eC .non)) sP)
  (sR (eF (F ._law_make) (aC (eC (.str "cut")) (aC (e2 gIx (eV 7) (eF (F ._law_draw) (aC (eV 0) (aC (eB gLen (aC (eV 7) aN)) aN)))) (aC (eB gLsd (aC (eV 5) (aC (eV 3) aN))) aN))))))) sP)
  (sQ (sN 6 (eF (F ._law_draw) (aC (eV 0) (aC (eV 4) aN))))
  (sQ (sIf (tE (e2 gEq (eV 2) (eC (.int 1)))) (sR (eF (F ._law_make) (aC (eC (.str "over left")) (aC (eV 6) (aC (eB gLsd (aC (eV 5) (aC (eV 3) aN))) aN))))) sP)
  (sR (eF (F ._law_make) (aC (eC (.str "under left")) (aC (e2 gAdd (eV 6) (eB gLen (aC (e2 gIx (eV 5) (eC (.int 1))) aN))) (aC (eB gLsd (aC (eV 5) (aC (eV 3) aN))) aN))))))))))))))))
noncomputable def b__law_grown (F : FN → List D → M D) : SX := (sQ (sF (iR1 (eV 4)) (nm 5) (sQ (sN 6 (eF (F ._law_grow) (aC (eV 0) (aC (eV 1) (aC (e2 gMod (eB gInt (aC (e2 gAdd (eV 2) (eV 5)) aN)) (eV 4)) aN)))))
  (sIf (tV (eF (F ._law_fits) (aC (eV 6) (aC (eV 3) aN)))) (sR (e2 gAdd (eSl (eV 1) oN (oI (e2 gSub (eB gLen (aC (eV 1) aN)) (eB gLen (aC (e2 gIx (eV 6) (eC (.int 5))) aN))))) (eB gLsd (aC (eV 6) aN)))) sP)))
  (sR (eV 1)))
noncomputable def b__law_joined (F : FN → List D → M D) : SX := (sQ (sN 4 (eC .non))
  (sQ (sIf (tE (e2 gEq (eV 3) (eC (.int 7)))) (sN 4 (eF (F ._law_grow) (aC (eV 0) (aC (eV 1) (aC (eC (.int 6)) aN))))) sP)
  (sQ (sIf (tN (tV (eF (F ._law_fits) (aC (eV 4) (aC (eV 2) aN))))) (sN 4 (eF (F ._law_grow) (aC (eV 0) (aC (eV 1) (aC (e2 gIx (eB gLsd (aC (eC (.int 1)) (aC (eC (.int 3)) (aC (eC (.int 4)) aN)))) (eF (F ._law_draw) (aC (eV 0) (aC (eC (.int 3)) aN)))) aN))))) sP)
  (sQ (sIf (tN (tV (eF (F ._law_fits) (aC (eV 4) (aC (eV 2) aN))))) (sN 4 (e2 gIx (eV 1) (e1 gNeg (eC (.int 1))))) sP)
  (sR (e2 gAdd (eSl (eV 1) oN (oI (e1 gNeg (eC (.int 2))))) (eB gLsd (aC (eV 4) aN))))))))
noncomputable def b__law_paper (F : FN → List D → M D) : SX := (sQ (sN 6 (eB gLsd (aC (eV 2) aN)))
  (sQ (sF (iR1 (eV 3)) (nm 7) (sQ (sN 8 (eF (F ._law_draw) (aC (eV 0) (aC (e2 gAdd (eC (.int 3)) (eV 5)) aN))))
  (sIf (tA (tE (e2 gEq (eV 8) (eC (.int 2)))) (tA (tE (e2 gEq (eV 5) (eC (.int 7)))) (tE (e2 gLe (eF (F ._law_size) (aC (e2 gIx (e2 gIx (eV 6) (e1 gNeg (eC (.int 1)))) (eC (.int 2))) aN)) (eC (.int 3)))))) (sE (eMt .lst gAppend (eV 6) (aC (eF (F ._law_identity) (aC (e2 gIx (e2 gIx (eV 6) (e1 gNeg (eC (.int 1)))) (eC (.int 2))) aN)) aN))) (sIf (tE (e2 gLt (eV 8) (eC (.int 3)))) (sE (eMt .lst gAppend (eV 6) (aC (eF (F ._law_axiom) (aC (e2 gIx (eV 1) (eF (F ._law_draw) (aC (eV 0) (aC (eB gLen (aC (eV 1) aN)) aN)))) aN)) aN))) (sN 6 (eF (F ._law_grown) (aC (eV 0) (aC (eV 6) (aC (e2 gSub (eV 8) (eC (.int 3))) (aC (eV 4) (aC (eV 5) aN)))))))))))
  (sQ (sF (iR1 (e2 gSub (eB gLen (aC (eV 6) aN)) (eC (.int 1)))) (nm 7) (sN 6 (eF (F ._law_joined) (aC (eV 0) (aC (eV 6) (aC (eV 4) (aC (eV 5) aN)))))))
  (sR (e2 gIx (eV 6) (eC (.int 0)))))))
noncomputable def b__law_train (F : FN → List D → M D) : SX := (sQ (sN 3 (eF (F ._law_axiom) (aC (e2 gIx (eV 1) (eF (F ._law_draw) (aC (eV 0) (aC (eB gLen (aC (eV 1) aN)) aN)))) aN)))
  (sQ (sF (iR1 (eV 2)) (nm 4) (sQ (sN 5 (eF (F ._law_axiom) (aC (e2 gIx (eV 1) (eF (F ._law_draw) (aC (eV 0) (aC (eB gLen (aC (eV 1) aN)) aN)))) aN)))
  (sQ (sN 6 (eF (F ._law_draw) (aC (eV 0) (aC (eB gLen (aC (e2 gIx (eV 3) (eC (.int 1))) aN)) aN))))
  (sIf (tE (e2 gEq (eF (F ._law_draw) (aC (eV 0) (aC (eC (.int 2)) aN))) (eC (.int 1)))) (sN 3 (eF (F ._law_make) (aC (eC (.str "under left")) (aC (e2 gAdd (eV 6) (eC (.int 1))) (aC (eB gLsd (aC (eV 5) (aC (eV 3) aN))) aN))))) (sN 3 (eF (F ._law_make) (aC (eC (.str "over left")) (aC (eV 6) (aC (eB gLsd (aC (eV 5) (aC (eV 3) aN))) aN)))))))))
  (sR (eV 3))))
noncomputable def b__law_mirror_kind (F : FN → List D → M D) : SX := (sQ (sIf (tV (eB (gIsi .str) (aC (eV 0) (aC (eC (.raw (.ty "str"))) aN)))) (sR (eV 0)) sP)
  (sQ (sN 1 (eF (F ._law_mirror_kind) (aC (e2 gIx (eV 0) (eC (.int 1))) aN)))
  (sQ (sN 2 (eF (F ._law_mirror_kind) (aC (e2 gIx (eV 0) (eC (.int 2))) aN)))
  (sQ (sIf (tE (e2 gEq (e2 gIx (eV 0) (eC (.int 0))) (eC (.str "/")))) (sR (eB gTpl (aC (eC (.str ">")) (aC (eV 2) (aC (eV 1) aN))))) sP)
  (sQ (sIf (tE (e2 gEq (e2 gIx (eV 0) (eC (.int 0))) (eC (.str ">")))) (sR (eB gTpl (aC (eC (.str "/")) (aC (eV 2) (aC (eV 1) aN))))) sP)
  (sR (eB gTpl (aC (eC (.str "*")) (aC (eV 2) (aC (eV 1) aN))))))))))
noncomputable def b__law_is_integer (F : FN → List D → M D) : SX := (sR (eAnd (eB (gIsi .int) (aC (eV 0) (aC (eC (.raw (.ty "int"))) aN))) (eNot (eB (gIsi .bl) (aC (eV 0) (aC (eC (.raw (.ty "bool"))) aN))))))
noncomputable def b__law_turned_rule (F : FN → List D → M D) : SX := (sQ (sIf (tE (e2 gEq (eV 0) (eC (.str "over right")))) (sR (eC (.str "under right"))) sP)
  (sQ (sIf (tE (e2 gEq (eV 0) (eC (.str "under right")))) (sR (eC (.str "over right"))) sP)
  (sQ (sIf (tE (e2 gEq (eV 0) (eC (.str "over left")))) (sR (eC (.str "under left"))) sP)
  (sQ (sIf (tE (e2 gEq (eV 0) (eC (.str "under left")))) (sR (eC (.str "over left"))) sP)
  (sR (eV 0))))))
noncomputable def b__law_turned_place (F : FN → List D → M D) : SX := (sQ (sN 1 (eB gLen (aC (e2 gIx (eV 0) (eC (.int 1))) aN)))
  (sQ (sIf (tE (e2 gIn (e2 gIx (eV 0) (eC (.int 0))) (eB gLsd (aC (eC (.str "axiom")) (aC (eC (.str "over right")) (aC (eC (.str "under right")) aN)))))) (sR (eC (.int 0))) sP)
  (sQ (sIf (tE (e2 gEq (e2 gIx (eV 0) (eC (.int 0))) (eC (.str "pair right")))) (sR (e2 gSub (eV 1) (e2 gIx (eV 0) (eC (.int 3))))) sP)
  (sQ (sIf (tE (e2 gEq (e2 gIx (eV 0) (eC (.int 0))) (eC (.str "cut")))) (sR (e2 gSub (e2 gSub (eV 1) (e2 gIx (eV 0) (eC (.int 3)))) (e2 gIx (eV 0) (eC (.int 4))))) sP)
  (sR (e2 gSub (e2 gSub (eV 1) (eC (.int 1))) (e2 gIx (eV 0) (eC (.int 3)))))))))
noncomputable def b__law_turns (F : FN → List D → M D) : SX := (sQ (sIf (tO (tN (tV (eB (gIsi .tup) (aC (eV 1) (aC (eC (.raw (.ty "tuple"))) aN))))) (tE (e2 gNe (eB gLen (aC (eV 1) aN)) (eC (.int 6))))) (sR (eC (.bl false))) sP)
  (sQ (sN 2 (eB gTuple (aC (eLc [3] (iV (e2 gIx (eV 0) (eC (.int 1)))) (.one 3) tYesD (eF (F ._law_mirror_kind) (aC (eV 3) aN))) aN)))
  (sQ (sIf (tE (e2 gNe (eSl (eV 1) oN (oI (eC (.int 3)))) (eB gTpl (aC (eF (F ._law_turned_rule) (aC (e2 gIx (eV 0) (eC (.int 0))) aN)) (aC (eV 2) (aC (eF (F ._law_mirror_kind) (aC (e2 gIx (eV 0) (eC (.int 2))) aN)) aN)))))) (sR (eC (.bl false))) sP)
  (sQ (sIf (tO (tN (tV (eF (F ._law_is_integer) (aC (e2 gIx (eV 1) (eC (.int 3))) aN)))) (tN (tV (eF (F ._law_is_integer) (aC (e2 gIx (eV 1) (eC (.int 4))) aN))))) (sR (eC (.bl false))) sP)
  (sQ (sIf (tO (tE (e2 gNe (e2 gIx (eV 1) (eC (.int 3))) (eF (F ._law_turned_place) (aC (eV 0) aN)))) (tE (e2 gNe (e2 gIx (eV 1) (eC (.int 4))) (e2 gIx (eV 0) (eC (.int 4)))))) (sR (eC (.bl false))) sP)
  (sR (eAnd (eB (gIsi .tup) (aC (e2 gIx (eV 1) (eC (.int 5))) (aC (eC (.raw (.ty "tuple"))) aN))) (e2 gEq (eB gLen (aC (e2 gIx (eV 1) (eC (.int 5))) aN)) (eB gLen (aC (e2 gIx (eV 0) (eC (.int 5))) aN))))))))))
noncomputable def b__law_mirrors (F : FN → List D → M D) : SX := (sQ (sN 2 (eB gLsd (aC (eB gTpl (aC (eV 0) (aC (eV 1) aN))) aN)))
  (sQ (sF (iR1 (eC (.int 400))) (nm 3) (sQ (sIf (tE (e2 gEq (eB gLen (aC (eV 2) aN)) (eC (.int 0)))) (sR (eC (.bl true))) sP)
  (sQ (sA (eMt .lst gPop (eV 2) aN) (tgU [(nm 6), (nm 7)]))
  (sQ (sIf (tN (tV (eF (F ._law_turns) (aC (eV 6) (aC (eV 7) aN))))) (sR (eC (.bl false))) sP)
  (sQ (sN 4 (eB gList (aC (e2 gIx (eV 6) (eC (.int 5))) aN)))
  (sQ (sIf (tE (e2 gEq (e2 gIx (eV 6) (eC (.int 0))) (eC (.str "pair right")))) (sN 4 (eB gLsd (aC (e2 gIx (e2 gIx (eV 6) (eC (.int 5))) (eC (.int 1))) (aC (e2 gIx (e2 gIx (eV 6) (eC (.int 5))) (eC (.int 0))) aN)))) sP)
  (sF (iR1 (eB gLen (aC (eV 4) aN))) (nm 5) (sE (eMt .lst gAppend (eV 2) (aC (eB gTpl (aC (e2 gIx (eV 4) (eV 5)) (aC (e2 gIx (e2 gIx (eV 7) (eC (.int 5))) (eV 5)) aN))) aN))))))))))
  (sR (eC (.bl false)))))
noncomputable def b__law_some_paper (F : FN → List D → M D) : SX := (sQ (sN 1 (eF (F ._law_names) (aC (eV 0) (aC (e2 gIx (eB gLsd (aC (eC (.int 1)) (aC (eC (.int 2)) (aC (eC (.int 3)) (aC (eC (.int 6)) aN))))) (eF (F ._law_draw) (aC (eV 0) (aC (eC (.int 4)) aN)))) aN))))
  (sQ (sIf (tE (e2 gEq (eF (F ._law_draw) (aC (eV 0) (aC (eC (.int 4)) aN))) (eC (.int 3)))) (sN 1 (eF (F ._law_twins) (aC (eV 0) (aC (eV 1) aN)))) sP)
  (sQ (sN 2 (eF (F ._law_draw) (aC (eV 0) (aC (eC (.int 8)) aN))))
  (sQ (sIf (tE (e2 gEq (eV 2) (eC (.int 6)))) (sR (eF (F ._law_train) (aC (eV 0) (aC (eV 1) (aC (eF (F ._law_draw) (aC (eV 0) (aC (eC (.int 40)) aN))) aN))))) sP)
  (sQ (sIf (tE (e2 gEq (eV 2) (eC (.int 7)))) (sQ (sN 4 (eF (F ._law_kind) (aC (eV 0) (aC (eV 1) (aC (e2 gAdd (eC (.int 1)) (eF (F ._law_draw) (aC (eV 0) (aC (eC (.int 40)) aN)))) aN)))))
  (sR (eF (F ._law_paper) (aC (eV 0) (aC (eV 1) (aC (eF (F ._law_identity) (aC (eV 4) aN)) (aC (eF (F ._law_draw) (aC (eV 0) (aC (eC (.int 21)) aN))) (aC (eB gLsd (aC (eC (.int 40)) (aC (eC (.int 40)) (aC (eC (.int 80)) aN)))) (aC (eC (.int 6)) aN))))))))) sP)
  (sQ (sN 3 (eF (F ._law_axiom) (aC (e2 gIx (eV 1) (eF (F ._law_draw) (aC (eV 0) (aC (eB gLen (aC (eV 1) aN)) aN)))) aN)))
  (sR (eF (F ._law_paper) (aC (eV 0) (aC (eV 1) (aC (eV 3) (aC (eF (F ._law_draw) (aC (eV 0) (aC (eC (.int 21)) aN))) (aC (eB gLsd (aC (eC (.int 6)) (aC (eC (.int 8)) (aC (eC (.int 24)) aN)))) (aC (e2 gAdd (eC (.int 6)) (eB gInt (aC (e2 gGt (eV 2) (eC (.int 2))) aN))) aN))))))))))))))
noncomputable def b_law (n : Nat) (F : FN → List D → M D) : SX := (sQ (sN 1 (eF (F ._law_some_paper) (aC (eF (F ._law_pool) (aC (eV 0) (aC (eC (.int 0)) aN))) aN)))
  (sQ (sN 2 (eF (F ._law_some_paper) (aC (eF (F ._law_pool) (aC (eV 0) (aC (eC (.int 1)) aN))) aN)))
  (sQ (sN 3 (eF (F .mirror_derivation) (aC (eV 1) aN)))
  (sQ (sIf (tN (tV (eF (F ._law_mirrors) (aC (eV 1) (aC (eV 3) aN))))) (sR (eC (.bl false))) sP)
  (sQ (sN 4 (eB (gRepr (199 + 16 * n)) (aC (eV 3) aN)))
  (sQ (sIf (tN (tV (eF (F ._law_mirrors) (aC (eV 2) (aC (eF (F .mirror_derivation) (aC (eV 2) aN)) aN))))) (sR (eC (.bl false))) sP)
  (sQ (sN 5 (eF (F .mirror_derivation) (aC (eV 3) aN)))
  (sQ (sIf (tO (tN (tV (eF (F ._law_mirrors) (aC (eV 3) (aC (eV 5) aN))))) (tE (e2 (gNeW (199 + 16 * n)) (eV 5) (eV 1)))) (sR (eC (.bl false))) sP)
  (sR (e2 (gEqW (199 + 16 * n)) (eB (gRepr (199 + 16 * n)) (aC (eF (F .mirror_derivation) (aC (eV 1) aN)) aN)) (eV 4)))))))))))
noncomputable def tab : Nat → FN → List D → M D
  | 0, _ => fun _ _ => .no
  | n + 1, .sequent_of => runB 1 1 (b_sequent_of (tab n))
  | n + 1, .by_over_right => runB 2 4 (b_by_over_right (tab n))
  | n + 1, .by_under_right => runB 2 4 (b_by_under_right (tab n))
  | n + 1, .by_pair_right => runB 2 6 (b_by_pair_right (tab n))
  | n + 1, .by_over_left => runB 2 7 (b_by_over_left (tab n))
  | n + 1, .by_under_left => runB 2 8 (b_by_under_left (tab n))
  | n + 1, .by_pair_left => runB 2 5 (b_by_pair_left (tab n))
  | n + 1, .by_cut => runB 2 6 (b_by_cut (tab n))
  | n + 1, .build_step => runB 3 7 (b_build_step (tab n))
  | n + 1, .mirror_place => runB 4 4 (b_mirror_place (tab n))
  | n + 1, .mirror_derivation => runB 1 10 (b_mirror_derivation (tab n))
  | n + 1, ._law_cell => runB 2 2 (b__law_cell (tab n))
  | n + 1, ._law_mix => runB 1 1 (b__law_mix (tab n))
  | n + 1, ._law_pool => runB 2 3 (b__law_pool (tab n))
  | n + 1, ._law_draw => runB 2 3 (b__law_draw (tab n))
  | n + 1, ._law_names => runB 2 11 (b__law_names (tab n))
  | n + 1, ._law_twins => runB 2 6 (b__law_twins (tab n))
  | n + 1, ._law_kind => runB 3 6 (b__law_kind (tab n))
  | n + 1, ._law_size => runB 1 1 (b__law_size (tab n))
  | n + 1, ._law_line => runB 3 9 (b__law_line (tab n))
  | n + 1, ._law_axiom => runB 1 1 (b__law_axiom (tab n))
  | n + 1, ._law_make => runB 3 5 (b__law_make (tab n))
  | n + 1, ._law_identity => runB 1 3 (b__law_identity (tab n))
  | n + 1, ._law_fits => runB 2 4 (b__law_fits (tab n))
  | n + 1, ._law_grow => runB 3 8 (b__law_grow (tab n))
  | n + 1, ._law_grown => runB 5 7 (b__law_grown (tab n))
  | n + 1, ._law_joined => runB 4 5 (b__law_joined (tab n))
  | n + 1, ._law_paper => runB 6 9 (b__law_paper (tab n))
  | n + 1, ._law_train => runB 3 7 (b__law_train (tab n))
  | n + 1, ._law_mirror_kind => runB 1 3 (b__law_mirror_kind (tab n))
  | n + 1, ._law_is_integer => runB 1 1 (b__law_is_integer (tab n))
  | n + 1, ._law_turned_rule => runB 1 1 (b__law_turned_rule (tab n))
  | n + 1, ._law_turned_place => runB 1 2 (b__law_turned_place (tab n))
  | n + 1, ._law_turns => runB 2 4 (b__law_turns (tab n))
  | n + 1, ._law_mirrors => runB 2 8 (b__law_mirrors (tab n))
  | n + 1, ._law_some_paper => runB 1 5 (b__law_some_paper (tab n))
  | n + 1, .law => runB 1 6 (b_law n (tab n))
end Lw

set_option Elab.async false
set_option linter.all false
set_option maxRecDepth 100000
namespace Lw
open PySem L2 Dl
/-! ## the text by places -/
def topS (i : Nat) : Stmt := PySem.Challenge.pw_wordfractions_k33_mirror_derivation.main.body.getD i (.Pass ⟨0, 0, 0, 0⟩)
abbrev st_sequent_of : Stmt := topS 1
abbrev nl_sequent_of : List Str := ["derivation"]
abbrev st_by_over_right : Stmt := topS 2
abbrev nl_by_over_right : List Str := ["at", "parts", "premises", "goal"]
abbrev st_by_under_right : Stmt := topS 3
abbrev nl_by_under_right : List Str := ["at", "parts", "premises", "goal"]
abbrev st_by_pair_right : Stmt := topS 4
abbrev nl_by_pair_right : List Str := ["at", "parts", "left", "first", "right", "second"]
abbrev st_by_over_left : Stmt := topS 5
abbrev nl_by_over_left : List Str := ["at", "parts", "fraction", "taken", "argument", "premises", "goal"]
abbrev st_by_under_left : Stmt := topS 6
abbrev nl_by_under_left : List Str := ["at", "parts", "start", "fraction", "taken", "argument", "premises", "goal"]
abbrev st_by_pair_left : Stmt := topS 7
abbrev nl_by_pair_left : List Str := ["at", "parts", "pair", "premises", "goal"]
abbrev st_by_cut : Stmt := topS 8
abbrev nl_by_cut : List Str := ["at", "parts", "taken", "met", "premises", "goal"]
abbrev st_build_step : Stmt := topS 10
abbrev nl_build_step : List Str := ["rule", "at", "parts", "builder", "premises", "goal", "width"]
abbrev st_mirror_place : Stmt := topS 13
abbrev nl_mirror_place : List Str := ["rule", "at", "width", "count"]
abbrev st_mirror_derivation : Stmt := topS 14
abbrev nl_mirror_derivation : List Str := ["derivation", "mirrors", "part", "place", "rule", "premises", "_", "at", "width", "parts"]
abbrev st__law_cell : Stmt := topS 16
abbrev nl__law_cell : List Str := ["script", "k"]
abbrev st__law_mix : Stmt := topS 17
abbrev nl__law_mix : List Str := ["x"]
abbrev st__law_pool : Stmt := topS 18
abbrev nl__law_pool : List Str := ["script", "k", "cell"]
abbrev st__law_draw : Stmt := topS 19
abbrev nl__law_draw : List Str := ["pool", "many", "digit"]
abbrev st__law_names : Stmt := topS 20
abbrev nl__law_names : List Str := ["pool", "many", "signs", "names", "k", "name", "more", "turn", "spare", "j", "one"]
abbrev st__law_twins : Stmt := topS 21
abbrev nl__law_twins : List Str := ["pool", "names", "more", "k", "most", "twin"]
abbrev st__law_kind : Stmt := topS 22
abbrev nl__law_kind : List Str := ["pool", "names", "size", "left", "sign", "first"]
abbrev st__law_size : Stmt := topS 23
abbrev nl__law_size : List Str := ["kind"]
abbrev st__law_line : Stmt := topS 24
abbrev nl__law_line : List Str := ["rule", "at", "lines", "two", "spot", "row", "goal", "other", "end"]
abbrev st__law_axiom : Stmt := topS 25
abbrev nl__law_axiom : List Str := ["atom"]
abbrev st__law_make : Stmt := topS 26
abbrev nl__law_make : List Str := ["rule", "at", "parts", "made", "part"]
abbrev st__law_identity : Stmt := topS 27
abbrev nl__law_identity : List Str := ["kind", "first", "second"]
abbrev st__law_fits : Stmt := topS 28
abbrev nl__law_fits : List Str := ["step", "bounds", "sizes", "kind"]
abbrev st__law_grow : Stmt := topS 29
abbrev nl__law_grow : List Str := ["pool", "heap", "way", "top", "many", "under", "at", "places"]
abbrev st__law_grown : Stmt := topS 30
abbrev nl__law_grown : List Str := ["pool", "heap", "way", "bounds", "ways", "turn", "made"]
abbrev st__law_joined : Stmt := topS 31
abbrev nl__law_joined : List Str := ["pool", "heap", "bounds", "ways", "made"]
abbrev st__law_paper : Stmt := topS 32
abbrev nl__law_paper : List Str := ["pool", "names", "start", "turns", "bounds", "ways", "heap", "k", "way"]
abbrev st__law_train : Stmt := topS 33
abbrev nl__law_train : List Str := ["pool", "names", "many", "paper", "k", "under", "at"]
abbrev st__law_mirror_kind : Stmt := topS 34
abbrev nl__law_mirror_kind : List Str := ["kind", "first", "second"]
abbrev st__law_is_integer : Stmt := topS 35
abbrev nl__law_is_integer : List Str := ["told"]
abbrev st__law_turned_rule : Stmt := topS 36
abbrev nl__law_turned_rule : List Str := ["rule"]
abbrev st__law_turned_place : Stmt := topS 37
abbrev nl__law_turned_place : List Str := ["step", "many"]
abbrev st__law_turns : Stmt := topS 38
abbrev nl__law_turns : List Str := ["step", "told", "row", "kind"]
abbrev st__law_mirrors : Stmt := topS 39
abbrev nl__law_mirrors : List Str := ["paper", "told", "rest", "k", "parts", "at", "step", "made"]
abbrev st__law_some_paper : Stmt := topS 40
abbrev nl__law_some_paper : List Str := ["pool", "names", "way", "start", "kind"]
abbrev st_law : Stmt := topS 41
abbrev nl_law : List Str := ["script", "paper", "other", "told", "first", "back"]
theorem sc_sequent_of : FnScope nl_sequent_of ["derivation"] (defScope st_sequent_of) := ⟨rfl, rfl, rfl, by decide +kernel, rfl, by decide +kernel, by decide +kernel⟩
theorem sc_by_over_right : FnScope nl_by_over_right ["at", "parts"] (defScope st_by_over_right) := ⟨rfl, rfl, rfl, by decide +kernel, rfl, by decide +kernel, by decide +kernel⟩
theorem sc_by_under_right : FnScope nl_by_under_right ["at", "parts"] (defScope st_by_under_right) := ⟨rfl, rfl, rfl, by decide +kernel, rfl, by decide +kernel, by decide +kernel⟩
theorem sc_by_pair_right : FnScope nl_by_pair_right ["at", "parts"] (defScope st_by_pair_right) := ⟨rfl, rfl, rfl, by decide +kernel, rfl, by decide +kernel, by decide +kernel⟩
theorem sc_by_over_left : FnScope nl_by_over_left ["at", "parts"] (defScope st_by_over_left) := ⟨rfl, rfl, rfl, by decide +kernel, rfl, by decide +kernel, by decide +kernel⟩
theorem sc_by_under_left : FnScope nl_by_under_left ["at", "parts"] (defScope st_by_under_left) := ⟨rfl, rfl, rfl, by decide +kernel, rfl, by decide +kernel, by decide +kernel⟩
theorem sc_by_pair_left : FnScope nl_by_pair_left ["at", "parts"] (defScope st_by_pair_left) := ⟨rfl, rfl, rfl, by decide +kernel, rfl, by decide +kernel, by decide +kernel⟩
theorem sc_by_cut : FnScope nl_by_cut ["at", "parts"] (defScope st_by_cut) := ⟨rfl, rfl, rfl, by decide +kernel, rfl, by decide +kernel, by decide +kernel⟩
theorem sc_build_step : FnScope nl_build_step ["rule", "at", "parts"] (defScope st_build_step) := ⟨rfl, rfl, rfl, by decide +kernel, rfl, by decide +kernel, by decide +kernel⟩
theorem sc_mirror_place : FnScope nl_mirror_place ["rule", "at", "width", "count"] (defScope st_mirror_place) := ⟨rfl, rfl, rfl, by decide +kernel, rfl, by decide +kernel, by decide +kernel⟩
theorem sc_mirror_derivation : FnScope nl_mirror_derivation ["derivation"] (defScope st_mirror_derivation) := ⟨rfl, rfl, rfl, by decide +kernel, rfl, by decide +kernel, by decide +kernel⟩
theorem sc__law_cell : FnScope nl__law_cell ["script", "k"] (defScope st__law_cell) := ⟨rfl, rfl, rfl, by decide +kernel, rfl, by decide +kernel, by decide +kernel⟩
theorem sc__law_mix : FnScope nl__law_mix ["x"] (defScope st__law_mix) := ⟨rfl, rfl, rfl, by decide +kernel, rfl, by decide +kernel, by decide +kernel⟩
theorem sc__law_pool : FnScope nl__law_pool ["script", "k"] (defScope st__law_pool) := ⟨rfl, rfl, rfl, by decide +kernel, rfl, by decide +kernel, by decide +kernel⟩
theorem sc__law_draw : FnScope nl__law_draw ["pool", "many"] (defScope st__law_draw) := ⟨rfl, rfl, rfl, by decide +kernel, rfl, by decide +kernel, by decide +kernel⟩
theorem sc__law_names : FnScope nl__law_names ["pool", "many"] (defScope st__law_names) := ⟨rfl, rfl, rfl, by decide +kernel, rfl, by decide +kernel, by decide +kernel⟩
theorem sc__law_twins : FnScope nl__law_twins ["pool", "names"] (defScope st__law_twins) := ⟨rfl, rfl, rfl, by decide +kernel, rfl, by decide +kernel, by decide +kernel⟩
theorem sc__law_kind : FnScope nl__law_kind ["pool", "names", "size"] (defScope st__law_kind) := ⟨rfl, rfl, rfl, by decide +kernel, rfl, by decide +kernel, by decide +kernel⟩
theorem sc__law_size : FnScope nl__law_size ["kind"] (defScope st__law_size) := ⟨rfl, rfl, rfl, by decide +kernel, rfl, by decide +kernel, by decide +kernel⟩
theorem sc__law_line : FnScope nl__law_line ["rule", "at", "lines"] (defScope st__law_line) := ⟨rfl, rfl, rfl, by decide +kernel, rfl, by decide +kernel, by decide +kernel⟩
theorem sc__law_axiom : FnScope nl__law_axiom ["atom"] (defScope st__law_axiom) := ⟨rfl, rfl, rfl, by decide +kernel, rfl, by decide +kernel, by decide +kernel⟩
theorem sc__law_make : FnScope nl__law_make ["rule", "at", "parts"] (defScope st__law_make) := ⟨rfl, rfl, rfl, by decide +kernel, rfl, by decide +kernel, by decide +kernel⟩
theorem sc__law_identity : FnScope nl__law_identity ["kind"] (defScope st__law_identity) := ⟨rfl, rfl, rfl, by decide +kernel, rfl, by decide +kernel, by decide +kernel⟩
theorem sc__law_fits : FnScope nl__law_fits ["step", "bounds"] (defScope st__law_fits) := ⟨rfl, rfl, rfl, by decide +kernel, rfl, by decide +kernel, by decide +kernel⟩
theorem sc__law_grow : FnScope nl__law_grow ["pool", "heap", "way"] (defScope st__law_grow) := ⟨rfl, rfl, rfl, by decide +kernel, rfl, by decide +kernel, by decide +kernel⟩
theorem sc__law_grown : FnScope nl__law_grown ["pool", "heap", "way", "bounds", "ways"] (defScope st__law_grown) := ⟨rfl, rfl, rfl, by decide +kernel, rfl, by decide +kernel, by decide +kernel⟩
theorem sc__law_joined : FnScope nl__law_joined ["pool", "heap", "bounds", "ways"] (defScope st__law_joined) := ⟨rfl, rfl, rfl, by decide +kernel, rfl, by decide +kernel, by decide +kernel⟩
theorem sc__law_paper : FnScope nl__law_paper ["pool", "names", "start", "turns", "bounds", "ways"] (defScope st__law_paper) := ⟨rfl, rfl, rfl, by decide +kernel, rfl, by decide +kernel, by decide +kernel⟩
theorem sc__law_train : FnScope nl__law_train ["pool", "names", "many"] (defScope st__law_train) := ⟨rfl, rfl, rfl, by decide +kernel, rfl, by decide +kernel, by decide +kernel⟩
theorem sc__law_mirror_kind : FnScope nl__law_mirror_kind ["kind"] (defScope st__law_mirror_kind) := ⟨rfl, rfl, rfl, by decide +kernel, rfl, by decide +kernel, by decide +kernel⟩
theorem sc__law_is_integer : FnScope nl__law_is_integer ["told"] (defScope st__law_is_integer) := ⟨rfl, rfl, rfl, by decide +kernel, rfl, by decide +kernel, by decide +kernel⟩
theorem sc__law_turned_rule : FnScope nl__law_turned_rule ["rule"] (defScope st__law_turned_rule) := ⟨rfl, rfl, rfl, by decide +kernel, rfl, by decide +kernel, by decide +kernel⟩
theorem sc__law_turned_place : FnScope nl__law_turned_place ["step"] (defScope st__law_turned_place) := ⟨rfl, rfl, rfl, by decide +kernel, rfl, by decide +kernel, by decide +kernel⟩
theorem sc__law_turns : FnScope nl__law_turns ["step", "told"] (defScope st__law_turns) := ⟨rfl, rfl, rfl, by decide +kernel, rfl, by decide +kernel, by decide +kernel⟩
theorem sc__law_mirrors : FnScope nl__law_mirrors ["paper", "told"] (defScope st__law_mirrors) := ⟨rfl, rfl, rfl, by decide +kernel, rfl, by decide +kernel, by decide +kernel⟩
theorem sc__law_some_paper : FnScope nl__law_some_paper ["pool"] (defScope st__law_some_paper) := ⟨rfl, rfl, rfl, by decide +kernel, rfl, by decide +kernel, by decide +kernel⟩
theorem sc_law : FnScope nl_law ["script"] (defScope st_law) := ⟨rfl, rfl, rfl, by decide +kernel, rfl, by decide +kernel, by decide +kernel⟩
theorem boot_len_ : bootBuiltins "len" = some (.builtin "len") := by decide +kernel
theorem boot_tuple_ : bootBuiltins "tuple" = some (.type "tuple") := by decide +kernel
theorem boot_int_ : bootBuiltins "int" = some (.type "int") := by decide +kernel
theorem boot_abs_ : bootBuiltins "abs" = some (.builtin "abs") := by decide +kernel
theorem boot_str_ : bootBuiltins "str" = some (.type "str") := by decide +kernel
theorem boot_list_ : bootBuiltins "list" = some (.type "list") := by decide +kernel
theorem boot_isinstance_ : bootBuiltins "isinstance" = some (.builtin "isinstance") := by decide +kernel
theorem boot_max_ : bootBuiltins "max" = some (.builtin "max") := by decide +kernel
theorem boot_sum_ : bootBuiltins "sum" = some (.builtin "sum") := by decide +kernel
theorem boot_bool_ : bootBuiltins "bool" = some (.type "bool") := by decide +kernel
theorem boot_repr_ : bootBuiltins "repr" = some (.builtin "repr") := by decide +kernel
/-- a module's constant -/
structure Kon (K : PySem.W.Frag) (mg : Str → Option Value) (x : Str) (d : D) (v : V) (u : Value) : Prop where
  m : mg x = some u
  r : RelV v u
  d : ∀ m H, RD K m H v d
structure Txt [Fa] (w : World) (K : PySem.W.Frag) (mg : Str → Option Value) (fd : FN → FuncData) (cv : Nat → V) (cu : Nat → Value) (cl : Nat → Addr) (tb : Nat → Addr) : Prop where
  F_sequent_of : Fun K "sequent_of" "sequent_of" st_sequent_of (Fa.a .sequent_of) (fd .sequent_of)
  b_sequent_of : Binds K (fd .sequent_of) ["derivation"] []
  m_sequent_of : mg "sequent_of" = some (.ref (Fa.a .sequent_of))
  F_by_over_right : Fun K "by_over_right" "by_over_right" st_by_over_right (Fa.a .by_over_right) (fd .by_over_right)
  b_by_over_right : Binds K (fd .by_over_right) ["at", "parts"] []
  m_by_over_right : mg "by_over_right" = some (.ref (Fa.a .by_over_right))
  F_by_under_right : Fun K "by_under_right" "by_under_right" st_by_under_right (Fa.a .by_under_right) (fd .by_under_right)
  b_by_under_right : Binds K (fd .by_under_right) ["at", "parts"] []
  m_by_under_right : mg "by_under_right" = some (.ref (Fa.a .by_under_right))
  F_by_pair_right : Fun K "by_pair_right" "by_pair_right" st_by_pair_right (Fa.a .by_pair_right) (fd .by_pair_right)
  b_by_pair_right : Binds K (fd .by_pair_right) ["at", "parts"] []
  m_by_pair_right : mg "by_pair_right" = some (.ref (Fa.a .by_pair_right))
  F_by_over_left : Fun K "by_over_left" "by_over_left" st_by_over_left (Fa.a .by_over_left) (fd .by_over_left)
  b_by_over_left : Binds K (fd .by_over_left) ["at", "parts"] []
  m_by_over_left : mg "by_over_left" = some (.ref (Fa.a .by_over_left))
  F_by_under_left : Fun K "by_under_left" "by_under_left" st_by_under_left (Fa.a .by_under_left) (fd .by_under_left)
  b_by_under_left : Binds K (fd .by_under_left) ["at", "parts"] []
  m_by_under_left : mg "by_under_left" = some (.ref (Fa.a .by_under_left))
  F_by_pair_left : Fun K "by_pair_left" "by_pair_left" st_by_pair_left (Fa.a .by_pair_left) (fd .by_pair_left)
  b_by_pair_left : Binds K (fd .by_pair_left) ["at", "parts"] []
  m_by_pair_left : mg "by_pair_left" = some (.ref (Fa.a .by_pair_left))
  F_by_cut : Fun K "by_cut" "by_cut" st_by_cut (Fa.a .by_cut) (fd .by_cut)
  b_by_cut : Binds K (fd .by_cut) ["at", "parts"] []
  m_by_cut : mg "by_cut" = some (.ref (Fa.a .by_cut))
  F_build_step : Fun K "build_step" "build_step" st_build_step (Fa.a .build_step) (fd .build_step)
  b_build_step : Binds K (fd .build_step) ["rule", "at", "parts"] []
  m_build_step : mg "build_step" = some (.ref (Fa.a .build_step))
  F_mirror_place : Fun K "mirror_place" "mirror_place" st_mirror_place (Fa.a .mirror_place) (fd .mirror_place)
  b_mirror_place : Binds K (fd .mirror_place) ["rule", "at", "width", "count"] []
  m_mirror_place : mg "mirror_place" = some (.ref (Fa.a .mirror_place))
  F_mirror_derivation : Fun K "mirror_derivation" "mirror_derivation" st_mirror_derivation (Fa.a .mirror_derivation) (fd .mirror_derivation)
  b_mirror_derivation : Binds K (fd .mirror_derivation) ["derivation"] []
  m_mirror_derivation : mg "mirror_derivation" = some (.ref (Fa.a .mirror_derivation))
  F__law_cell : Fun K "_law_cell" "_law_cell" st__law_cell (Fa.a ._law_cell) (fd ._law_cell)
  b__law_cell : Binds K (fd ._law_cell) ["script", "k"] []
  m__law_cell : mg "_law_cell" = some (.ref (Fa.a ._law_cell))
  F__law_mix : Fun K "_law_mix" "_law_mix" st__law_mix (Fa.a ._law_mix) (fd ._law_mix)
  b__law_mix : Binds K (fd ._law_mix) ["x"] []
  m__law_mix : mg "_law_mix" = some (.ref (Fa.a ._law_mix))
  F__law_pool : Fun K "_law_pool" "_law_pool" st__law_pool (Fa.a ._law_pool) (fd ._law_pool)
  b__law_pool : Binds K (fd ._law_pool) ["script", "k"] []
  m__law_pool : mg "_law_pool" = some (.ref (Fa.a ._law_pool))
  F__law_draw : Fun K "_law_draw" "_law_draw" st__law_draw (Fa.a ._law_draw) (fd ._law_draw)
  b__law_draw : Binds K (fd ._law_draw) ["pool", "many"] []
  m__law_draw : mg "_law_draw" = some (.ref (Fa.a ._law_draw))
  F__law_names : Fun K "_law_names" "_law_names" st__law_names (Fa.a ._law_names) (fd ._law_names)
  b__law_names : Binds K (fd ._law_names) ["pool", "many"] []
  m__law_names : mg "_law_names" = some (.ref (Fa.a ._law_names))
  F__law_twins : Fun K "_law_twins" "_law_twins" st__law_twins (Fa.a ._law_twins) (fd ._law_twins)
  b__law_twins : Binds K (fd ._law_twins) ["pool", "names"] []
  m__law_twins : mg "_law_twins" = some (.ref (Fa.a ._law_twins))
  F__law_kind : Fun K "_law_kind" "_law_kind" st__law_kind (Fa.a ._law_kind) (fd ._law_kind)
  b__law_kind : Binds K (fd ._law_kind) ["pool", "names", "size"] []
  m__law_kind : mg "_law_kind" = some (.ref (Fa.a ._law_kind))
  F__law_size : Fun K "_law_size" "_law_size" st__law_size (Fa.a ._law_size) (fd ._law_size)
  b__law_size : Binds K (fd ._law_size) ["kind"] []
  m__law_size : mg "_law_size" = some (.ref (Fa.a ._law_size))
  F__law_line : Fun K "_law_line" "_law_line" st__law_line (Fa.a ._law_line) (fd ._law_line)
  b__law_line : Binds K (fd ._law_line) ["rule", "at", "lines"] []
  m__law_line : mg "_law_line" = some (.ref (Fa.a ._law_line))
  F__law_axiom : Fun K "_law_axiom" "_law_axiom" st__law_axiom (Fa.a ._law_axiom) (fd ._law_axiom)
  b__law_axiom : Binds K (fd ._law_axiom) ["atom"] []
  m__law_axiom : mg "_law_axiom" = some (.ref (Fa.a ._law_axiom))
  F__law_make : Fun K "_law_make" "_law_make" st__law_make (Fa.a ._law_make) (fd ._law_make)
  b__law_make : Binds K (fd ._law_make) ["rule", "at", "parts"] []
  m__law_make : mg "_law_make" = some (.ref (Fa.a ._law_make))
  F__law_identity : Fun K "_law_identity" "_law_identity" st__law_identity (Fa.a ._law_identity) (fd ._law_identity)
  b__law_identity : Binds K (fd ._law_identity) ["kind"] []
  m__law_identity : mg "_law_identity" = some (.ref (Fa.a ._law_identity))
  F__law_fits : Fun K "_law_fits" "_law_fits" st__law_fits (Fa.a ._law_fits) (fd ._law_fits)
  b__law_fits : Binds K (fd ._law_fits) ["step", "bounds"] []
  m__law_fits : mg "_law_fits" = some (.ref (Fa.a ._law_fits))
  F__law_grow : Fun K "_law_grow" "_law_grow" st__law_grow (Fa.a ._law_grow) (fd ._law_grow)
  b__law_grow : Binds K (fd ._law_grow) ["pool", "heap", "way"] []
  m__law_grow : mg "_law_grow" = some (.ref (Fa.a ._law_grow))
  F__law_grown : Fun K "_law_grown" "_law_grown" st__law_grown (Fa.a ._law_grown) (fd ._law_grown)
  b__law_grown : Binds K (fd ._law_grown) ["pool", "heap", "way", "bounds", "ways"] []
  m__law_grown : mg "_law_grown" = some (.ref (Fa.a ._law_grown))
  F__law_joined : Fun K "_law_joined" "_law_joined" st__law_joined (Fa.a ._law_joined) (fd ._law_joined)
  b__law_joined : Binds K (fd ._law_joined) ["pool", "heap", "bounds", "ways"] []
  m__law_joined : mg "_law_joined" = some (.ref (Fa.a ._law_joined))
  F__law_paper : Fun K "_law_paper" "_law_paper" st__law_paper (Fa.a ._law_paper) (fd ._law_paper)
  b__law_paper : Binds K (fd ._law_paper) ["pool", "names", "start", "turns", "bounds", "ways"] []
  m__law_paper : mg "_law_paper" = some (.ref (Fa.a ._law_paper))
  F__law_train : Fun K "_law_train" "_law_train" st__law_train (Fa.a ._law_train) (fd ._law_train)
  b__law_train : Binds K (fd ._law_train) ["pool", "names", "many"] []
  m__law_train : mg "_law_train" = some (.ref (Fa.a ._law_train))
  F__law_mirror_kind : Fun K "_law_mirror_kind" "_law_mirror_kind" st__law_mirror_kind (Fa.a ._law_mirror_kind) (fd ._law_mirror_kind)
  b__law_mirror_kind : Binds K (fd ._law_mirror_kind) ["kind"] []
  m__law_mirror_kind : mg "_law_mirror_kind" = some (.ref (Fa.a ._law_mirror_kind))
  F__law_is_integer : Fun K "_law_is_integer" "_law_is_integer" st__law_is_integer (Fa.a ._law_is_integer) (fd ._law_is_integer)
  b__law_is_integer : Binds K (fd ._law_is_integer) ["told"] []
  m__law_is_integer : mg "_law_is_integer" = some (.ref (Fa.a ._law_is_integer))
  F__law_turned_rule : Fun K "_law_turned_rule" "_law_turned_rule" st__law_turned_rule (Fa.a ._law_turned_rule) (fd ._law_turned_rule)
  b__law_turned_rule : Binds K (fd ._law_turned_rule) ["rule"] []
  m__law_turned_rule : mg "_law_turned_rule" = some (.ref (Fa.a ._law_turned_rule))
  F__law_turned_place : Fun K "_law_turned_place" "_law_turned_place" st__law_turned_place (Fa.a ._law_turned_place) (fd ._law_turned_place)
  b__law_turned_place : Binds K (fd ._law_turned_place) ["step"] []
  m__law_turned_place : mg "_law_turned_place" = some (.ref (Fa.a ._law_turned_place))
  F__law_turns : Fun K "_law_turns" "_law_turns" st__law_turns (Fa.a ._law_turns) (fd ._law_turns)
  b__law_turns : Binds K (fd ._law_turns) ["step", "told"] []
  m__law_turns : mg "_law_turns" = some (.ref (Fa.a ._law_turns))
  F__law_mirrors : Fun K "_law_mirrors" "_law_mirrors" st__law_mirrors (Fa.a ._law_mirrors) (fd ._law_mirrors)
  b__law_mirrors : Binds K (fd ._law_mirrors) ["paper", "told"] []
  m__law_mirrors : mg "_law_mirrors" = some (.ref (Fa.a ._law_mirrors))
  F__law_some_paper : Fun K "_law_some_paper" "_law_some_paper" st__law_some_paper (Fa.a ._law_some_paper) (fd ._law_some_paper)
  b__law_some_paper : Binds K (fd ._law_some_paper) ["pool"] []
  m__law_some_paper : mg "_law_some_paper" = some (.ref (Fa.a ._law_some_paper))
  F_law : Fun K "law" "law" st_law (Fa.a .law) (fd .law)
  b_law : Binds K (fd .law) ["script"] []
  m_law : mg "law" = some (.ref (Fa.a .law))
  n_len : mg "len" = none
  n_tuple : mg "tuple" = none
  n_int : mg "int" = none
  n_abs : mg "abs" = none
  n_range : mg "range" = none
  n_str : mg "str" = none
  n_list : mg "list" = none
  n_isinstance : mg "isinstance" = none
  n_max : mg "max" = none
  n_sum : mg "sum" = none
  n_bool : mg "bool" = none
  n_reversed : mg "reversed" = none
  n_repr : mg "repr" = none
  tm_BUILDERS : mg "BUILDERS" = some (.ref (tb 0))
  t_BUILDERS : TabK K w (tb 0) k_BUILDERS
  tm_MIRROR_RULES : mg "MIRROR_RULES" = some (.ref (tb 1))
  t_MIRROR_RULES : TabK K w (tb 1) k_MIRROR_RULES
structure Oks [Fa] (P : Program) (w : World) (K : PySem.W.Frag) (mg : Str → Option Value) (base : Heap) (fd : FN → FuncData) (n : Nat) : Prop where
  o_sequent_of : Dl.FnOk P w K mg base (L2.CX P w) n (Fa.a .sequent_of) (fd .sequent_of) ["derivation"] (rdF ⟨K, mg, W0⟩ (tab n .sequent_of))
  o_by_over_right : Dl.FnOk P w K mg base (L2.CX P w) n (Fa.a .by_over_right) (fd .by_over_right) ["at", "parts"] (rdF ⟨K, mg, W0⟩ (tab n .by_over_right))
  o_by_under_right : Dl.FnOk P w K mg base (L2.CX P w) n (Fa.a .by_under_right) (fd .by_under_right) ["at", "parts"] (rdF ⟨K, mg, W0⟩ (tab n .by_under_right))
  o_by_pair_right : Dl.FnOk P w K mg base (L2.CX P w) n (Fa.a .by_pair_right) (fd .by_pair_right) ["at", "parts"] (rdF ⟨K, mg, W0⟩ (tab n .by_pair_right))
  o_by_over_left : Dl.FnOk P w K mg base (L2.CX P w) n (Fa.a .by_over_left) (fd .by_over_left) ["at", "parts"] (rdF ⟨K, mg, W0⟩ (tab n .by_over_left))
  o_by_under_left : Dl.FnOk P w K mg base (L2.CX P w) n (Fa.a .by_under_left) (fd .by_under_left) ["at", "parts"] (rdF ⟨K, mg, W0⟩ (tab n .by_under_left))
  o_by_pair_left : Dl.FnOk P w K mg base (L2.CX P w) n (Fa.a .by_pair_left) (fd .by_pair_left) ["at", "parts"] (rdF ⟨K, mg, W0⟩ (tab n .by_pair_left))
  o_by_cut : Dl.FnOk P w K mg base (L2.CX P w) n (Fa.a .by_cut) (fd .by_cut) ["at", "parts"] (rdF ⟨K, mg, W0⟩ (tab n .by_cut))
  o_build_step : Dl.FnOk P w K mg base (L2.CX P w) n (Fa.a .build_step) (fd .build_step) ["rule", "at", "parts"] (rdF ⟨K, mg, W0⟩ (tab n .build_step))
  o_mirror_place : Dl.FnOk P w K mg base (L2.CX P w) n (Fa.a .mirror_place) (fd .mirror_place) ["rule", "at", "width", "count"] (rdF ⟨K, mg, W0⟩ (tab n .mirror_place))
  o_mirror_derivation : Dl.FnOk P w K mg base (L2.CX P w) n (Fa.a .mirror_derivation) (fd .mirror_derivation) ["derivation"] (rdF ⟨K, mg, W0⟩ (tab n .mirror_derivation))
  o__law_cell : Dl.FnOk P w K mg base (L2.CX P w) n (Fa.a ._law_cell) (fd ._law_cell) ["script", "k"] (rdF ⟨K, mg, W0⟩ (tab n ._law_cell))
  o__law_mix : Dl.FnOk P w K mg base (L2.CX P w) n (Fa.a ._law_mix) (fd ._law_mix) ["x"] (rdF ⟨K, mg, W0⟩ (tab n ._law_mix))
  o__law_pool : Dl.FnOk P w K mg base (L2.CX P w) n (Fa.a ._law_pool) (fd ._law_pool) ["script", "k"] (rdF ⟨K, mg, W0⟩ (tab n ._law_pool))
  o__law_draw : Dl.FnOk P w K mg base (L2.CX P w) n (Fa.a ._law_draw) (fd ._law_draw) ["pool", "many"] (rdF ⟨K, mg, W0⟩ (tab n ._law_draw))
  o__law_names : Dl.FnOk P w K mg base (L2.CX P w) n (Fa.a ._law_names) (fd ._law_names) ["pool", "many"] (rdF ⟨K, mg, W0⟩ (tab n ._law_names))
  o__law_twins : Dl.FnOk P w K mg base (L2.CX P w) n (Fa.a ._law_twins) (fd ._law_twins) ["pool", "names"] (rdF ⟨K, mg, W0⟩ (tab n ._law_twins))
  o__law_kind : Dl.FnOk P w K mg base (L2.CX P w) n (Fa.a ._law_kind) (fd ._law_kind) ["pool", "names", "size"] (rdF ⟨K, mg, W0⟩ (tab n ._law_kind))
  o__law_size : Dl.FnOk P w K mg base (L2.CX P w) n (Fa.a ._law_size) (fd ._law_size) ["kind"] (rdF ⟨K, mg, W0⟩ (tab n ._law_size))
  o__law_line : Dl.FnOk P w K mg base (L2.CX P w) n (Fa.a ._law_line) (fd ._law_line) ["rule", "at", "lines"] (rdF ⟨K, mg, W0⟩ (tab n ._law_line))
  o__law_axiom : Dl.FnOk P w K mg base (L2.CX P w) n (Fa.a ._law_axiom) (fd ._law_axiom) ["atom"] (rdF ⟨K, mg, W0⟩ (tab n ._law_axiom))
  o__law_make : Dl.FnOk P w K mg base (L2.CX P w) n (Fa.a ._law_make) (fd ._law_make) ["rule", "at", "parts"] (rdF ⟨K, mg, W0⟩ (tab n ._law_make))
  o__law_identity : Dl.FnOk P w K mg base (L2.CX P w) n (Fa.a ._law_identity) (fd ._law_identity) ["kind"] (rdF ⟨K, mg, W0⟩ (tab n ._law_identity))
  o__law_fits : Dl.FnOk P w K mg base (L2.CX P w) n (Fa.a ._law_fits) (fd ._law_fits) ["step", "bounds"] (rdF ⟨K, mg, W0⟩ (tab n ._law_fits))
  o__law_grow : Dl.FnOk P w K mg base (L2.CX P w) n (Fa.a ._law_grow) (fd ._law_grow) ["pool", "heap", "way"] (rdF ⟨K, mg, W0⟩ (tab n ._law_grow))
  o__law_grown : Dl.FnOk P w K mg base (L2.CX P w) n (Fa.a ._law_grown) (fd ._law_grown) ["pool", "heap", "way", "bounds", "ways"] (rdF ⟨K, mg, W0⟩ (tab n ._law_grown))
  o__law_joined : Dl.FnOk P w K mg base (L2.CX P w) n (Fa.a ._law_joined) (fd ._law_joined) ["pool", "heap", "bounds", "ways"] (rdF ⟨K, mg, W0⟩ (tab n ._law_joined))
  o__law_paper : Dl.FnOk P w K mg base (L2.CX P w) n (Fa.a ._law_paper) (fd ._law_paper) ["pool", "names", "start", "turns", "bounds", "ways"] (rdF ⟨K, mg, W0⟩ (tab n ._law_paper))
  o__law_train : Dl.FnOk P w K mg base (L2.CX P w) n (Fa.a ._law_train) (fd ._law_train) ["pool", "names", "many"] (rdF ⟨K, mg, W0⟩ (tab n ._law_train))
  o__law_mirror_kind : Dl.FnOk P w K mg base (L2.CX P w) n (Fa.a ._law_mirror_kind) (fd ._law_mirror_kind) ["kind"] (rdF ⟨K, mg, W0⟩ (tab n ._law_mirror_kind))
  o__law_is_integer : Dl.FnOk P w K mg base (L2.CX P w) n (Fa.a ._law_is_integer) (fd ._law_is_integer) ["told"] (rdF ⟨K, mg, W0⟩ (tab n ._law_is_integer))
  o__law_turned_rule : Dl.FnOk P w K mg base (L2.CX P w) n (Fa.a ._law_turned_rule) (fd ._law_turned_rule) ["rule"] (rdF ⟨K, mg, W0⟩ (tab n ._law_turned_rule))
  o__law_turned_place : Dl.FnOk P w K mg base (L2.CX P w) n (Fa.a ._law_turned_place) (fd ._law_turned_place) ["step"] (rdF ⟨K, mg, W0⟩ (tab n ._law_turned_place))
  o__law_turns : Dl.FnOk P w K mg base (L2.CX P w) n (Fa.a ._law_turns) (fd ._law_turns) ["step", "told"] (rdF ⟨K, mg, W0⟩ (tab n ._law_turns))
  o__law_mirrors : Dl.FnOk P w K mg base (L2.CX P w) n (Fa.a ._law_mirrors) (fd ._law_mirrors) ["paper", "told"] (rdF ⟨K, mg, W0⟩ (tab n ._law_mirrors))
  o__law_some_paper : Dl.FnOk P w K mg base (L2.CX P w) n (Fa.a ._law_some_paper) (fd ._law_some_paper) ["pool"] (rdF ⟨K, mg, W0⟩ (tab n ._law_some_paper))
  o_law : Dl.FnOk P w K mg base (L2.CX P w) n (Fa.a .law) (fd .law) ["script"] (rdF ⟨K, mg, W0⟩ (tab n .law))
section
variable {P : Program} {w : World} {K : PySem.W.Frag} {mg : Str → Option Value} {base : Heap} [Fa] {fd : FN → FuncData} {cv : Nat → V} {cu : Nat → Value} {cl tb : Nat → Addr} {n : Nat}
set_option maxHeartbeats 4000000 in
theorem ok_sequent_of (T : Txt w K mg fd cv cu cl tb) (O : Oks P w K mg base fd n) : Dl.FnOk P w K mg base (L2.CX P w) (n + 1) (Fa.a .sequent_of) (fd .sequent_of) ["derivation"] (rdF ⟨K, mg, W0⟩ (tab (n + 1) .sequent_of)) :=
  fn_ok (N := nl_sequent_of) (g := b_sequent_of (tab n)) T.F_sequent_of sc_sequent_of fun cdv A outer s H E hr =>
    (t_one (t_ret (d_tup (d_aC (d_ix (d_v 0) d_int) (d_aC (d_ix (d_v 0) d_int) d_aN)))))
set_option maxHeartbeats 4000000 in
theorem ok_by_over_right (T : Txt w K mg fd cv cu cl tb) (O : Oks P w K mg base fd n) : Dl.FnOk P w K mg base (L2.CX P w) (n + 1) (Fa.a .by_over_right) (fd .by_over_right) ["at", "parts"] (rdF ⟨K, mg, W0⟩ (tab (n + 1) .by_over_right)) :=
  fn_ok (N := nl_by_over_right) (g := b_by_over_right (tab n)) T.F_by_over_right sc_by_over_right fun cdv A outer s H E hr =>
    (t_cons (t_asg (d_call O.o_sequent_of hr rfl T.m_sequent_of T.F_sequent_of.kp T.b_sequent_of (fun σ => passAt (takes_of rfl rfl rfl rfl) σ) (d_aC (d_ix (d_v 1) d_int) d_aN)) (g_seq rfl (g_cons (g_nm (j := 2) sc_by_over_right.nd) (g_cons (g_nm (j := 3) sc_by_over_right.nd) g_nil))))
    (t_one (t_ret (d_tup (d_aC (d_sl (d_v 2) d_oN (d_oI (d_neg d_int))) (d_aC (d_tup (d_aC d_str (d_aC (d_v 3) (d_aC (d_ix (d_v 2) (d_neg d_int)) d_aN)))) (d_aC d_int d_aN)))))))
set_option maxHeartbeats 4000000 in
theorem ok_by_under_right (T : Txt w K mg fd cv cu cl tb) (O : Oks P w K mg base fd n) : Dl.FnOk P w K mg base (L2.CX P w) (n + 1) (Fa.a .by_under_right) (fd .by_under_right) ["at", "parts"] (rdF ⟨K, mg, W0⟩ (tab (n + 1) .by_under_right)) :=
  fn_ok (N := nl_by_under_right) (g := b_by_under_right (tab n)) T.F_by_under_right sc_by_under_right fun cdv A outer s H E hr =>
    (t_cons (t_asg (d_call O.o_sequent_of hr rfl T.m_sequent_of T.F_sequent_of.kp T.b_sequent_of (fun σ => passAt (takes_of rfl rfl rfl rfl) σ) (d_aC (d_ix (d_v 1) d_int) d_aN)) (g_seq rfl (g_cons (g_nm (j := 2) sc_by_under_right.nd) (g_cons (g_nm (j := 3) sc_by_under_right.nd) g_nil))))
    (t_one (t_ret (d_tup (d_aC (d_sl (d_v 2) (d_oI d_int) d_oN) (d_aC (d_tup (d_aC d_str (d_aC (d_ix (d_v 2) d_int) (d_aC (d_v 3) d_aN)))) (d_aC d_int d_aN)))))))
set_option maxHeartbeats 4000000 in
theorem ok_by_pair_right (T : Txt w K mg fd cv cu cl tb) (O : Oks P w K mg base fd n) : Dl.FnOk P w K mg base (L2.CX P w) (n + 1) (Fa.a .by_pair_right) (fd .by_pair_right) ["at", "parts"] (rdF ⟨K, mg, W0⟩ (tab (n + 1) .by_pair_right)) :=
  fn_ok (N := nl_by_pair_right) (g := b_by_pair_right (tab n)) T.F_by_pair_right sc_by_pair_right fun cdv A outer s H E hr =>
    (t_cons (t_asg (d_call O.o_sequent_of hr rfl T.m_sequent_of T.F_sequent_of.kp T.b_sequent_of (fun σ => passAt (takes_of rfl rfl rfl rfl) σ) (d_aC (d_ix (d_v 1) d_int) d_aN)) (g_seq rfl (g_cons (g_nm (j := 2) sc_by_pair_right.nd) (g_cons (g_nm (j := 3) sc_by_pair_right.nd) g_nil))))
    (t_cons (t_asg (d_call O.o_sequent_of hr rfl T.m_sequent_of T.F_sequent_of.kp T.b_sequent_of (fun σ => passAt (takes_of rfl rfl rfl rfl) σ) (d_aC (d_ix (d_v 1) d_int) d_aN)) (g_seq rfl (g_cons (g_nm (j := 4) sc_by_pair_right.nd) (g_cons (g_nm (j := 5) sc_by_pair_right.nd) g_nil))))
    (t_one (t_ret (d_tup (d_aC (d_op o_add (d_v 2) (d_v 4)) (d_aC (d_tup (d_aC d_str (d_aC (d_v 3) (d_aC (d_v 5) d_aN)))) (d_aC d_int d_aN))))))))
set_option maxHeartbeats 4000000 in
theorem ok_by_over_left (T : Txt w K mg fd cv cu cl tb) (O : Oks P w K mg base fd n) : Dl.FnOk P w K mg base (L2.CX P w) (n + 1) (Fa.a .by_over_left) (fd .by_over_left) ["at", "parts"] (rdF ⟨K, mg, W0⟩ (tab (n + 1) .by_over_left)) :=
  fn_ok (N := nl_by_over_left) (g := b_by_over_left (tab n)) T.F_by_over_left sc_by_over_left fun cdv A outer s H E hr =>
    (t_cons (t_asg (d_call O.o_sequent_of hr rfl T.m_sequent_of T.F_sequent_of.kp T.b_sequent_of (fun σ => passAt (takes_of rfl rfl rfl rfl) σ) (d_aC (d_ix (d_v 1) d_int) d_aN)) (g_seq rfl (g_cons (g_nm (j := 3) sc_by_over_left.nd) (g_cons (g_nm (j := 4) sc_by_over_left.nd) g_nil))))
    (t_cons (t_asg (d_call O.o_sequent_of hr rfl T.m_sequent_of T.F_sequent_of.kp T.b_sequent_of (fun σ => passAt (takes_of rfl rfl rfl rfl) σ) (d_aC (d_ix (d_v 1) d_int) d_aN)) (g_seq rfl (g_cons (g_nm (j := 5) sc_by_over_left.nd) (g_cons (g_nm (j := 6) sc_by_over_left.nd) g_nil))))
    (t_cons (t_set (j := 2) sc_by_over_left.nd (d_tup (d_aC d_str (d_aC (d_ix (d_v 5) (d_v 0)) (d_aC (d_v 4) d_aN)))))
    (t_one (t_ret (d_tup (d_aC (d_op o_add (d_op o_add (d_op o_add (d_sl (d_v 5) d_oN (d_oI (d_v 0))) (d_tup (d_aC (d_v 2) d_aN))) (d_v 3)) (d_sl (d_v 5) (d_oI (d_op o_add (d_v 0) d_int)) d_oN)) (d_aC (d_v 6) (d_aC (d_callB c_len rfl T.n_len boot_len_ (d_aC (d_v 3) d_aN)) d_aN)))))))))
set_option maxHeartbeats 4000000 in
theorem ok_by_under_left (T : Txt w K mg fd cv cu cl tb) (O : Oks P w K mg base fd n) : Dl.FnOk P w K mg base (L2.CX P w) (n + 1) (Fa.a .by_under_left) (fd .by_under_left) ["at", "parts"] (rdF ⟨K, mg, W0⟩ (tab (n + 1) .by_under_left)) :=
  fn_ok (N := nl_by_under_left) (g := b_by_under_left (tab n)) T.F_by_under_left sc_by_under_left fun cdv A outer s H E hr =>
    (t_cons (t_asg (d_call O.o_sequent_of hr rfl T.m_sequent_of T.F_sequent_of.kp T.b_sequent_of (fun σ => passAt (takes_of rfl rfl rfl rfl) σ) (d_aC (d_ix (d_v 1) d_int) d_aN)) (g_seq rfl (g_cons (g_nm (j := 4) sc_by_under_left.nd) (g_cons (g_nm (j := 5) sc_by_under_left.nd) g_nil))))
    (t_cons (t_asg (d_call O.o_sequent_of hr rfl T.m_sequent_of T.F_sequent_of.kp T.b_sequent_of (fun σ => passAt (takes_of rfl rfl rfl rfl) σ) (d_aC (d_ix (d_v 1) d_int) d_aN)) (g_seq rfl (g_cons (g_nm (j := 6) sc_by_under_left.nd) (g_cons (g_nm (j := 7) sc_by_under_left.nd) g_nil))))
    (t_cons (t_set (j := 2) sc_by_under_left.nd (d_op o_sub (d_v 0) (d_callB c_len rfl T.n_len boot_len_ (d_aC (d_v 4) d_aN))))
    (t_cons (t_set (j := 3) sc_by_under_left.nd (d_tup (d_aC d_str (d_aC (d_v 5) (d_aC (d_ix (d_v 6) (d_v 2)) d_aN)))))
    (t_one (t_ret (d_tup (d_aC (d_op o_add (d_op o_add (d_op o_add (d_sl (d_v 6) d_oN (d_oI (d_v 2))) (d_v 4)) (d_tup (d_aC (d_v 3) d_aN))) (d_sl (d_v 6) (d_oI (d_op o_add (d_v 2) d_int)) d_oN)) (d_aC (d_v 7) (d_aC (d_callB c_len rfl T.n_len boot_len_ (d_aC (d_v 4) d_aN)) d_aN))))))))))
set_option maxHeartbeats 4000000 in
theorem ok_by_pair_left (T : Txt w K mg fd cv cu cl tb) (O : Oks P w K mg base fd n) : Dl.FnOk P w K mg base (L2.CX P w) (n + 1) (Fa.a .by_pair_left) (fd .by_pair_left) ["at", "parts"] (rdF ⟨K, mg, W0⟩ (tab (n + 1) .by_pair_left)) :=
  fn_ok (N := nl_by_pair_left) (g := b_by_pair_left (tab n)) T.F_by_pair_left sc_by_pair_left fun cdv A outer s H E hr =>
    (t_cons (t_asg (d_call O.o_sequent_of hr rfl T.m_sequent_of T.F_sequent_of.kp T.b_sequent_of (fun σ => passAt (takes_of rfl rfl rfl rfl) σ) (d_aC (d_ix (d_v 1) d_int) d_aN)) (g_seq rfl (g_cons (g_nm (j := 3) sc_by_pair_left.nd) (g_cons (g_nm (j := 4) sc_by_pair_left.nd) g_nil))))
    (t_cons (t_set (j := 2) sc_by_pair_left.nd (d_tup (d_aC d_str (d_aC (d_ix (d_v 3) (d_v 0)) (d_aC (d_ix (d_v 3) (d_op o_add (d_v 0) d_int)) d_aN)))))
    (t_one (t_ret (d_tup (d_aC (d_op o_add (d_op o_add (d_sl (d_v 3) d_oN (d_oI (d_v 0))) (d_tup (d_aC (d_v 2) d_aN))) (d_sl (d_v 3) (d_oI (d_op o_add (d_v 0) d_int)) d_oN)) (d_aC (d_v 4) (d_aC d_int d_aN))))))))
set_option maxHeartbeats 4000000 in
theorem ok_by_cut (T : Txt w K mg fd cv cu cl tb) (O : Oks P w K mg base fd n) : Dl.FnOk P w K mg base (L2.CX P w) (n + 1) (Fa.a .by_cut) (fd .by_cut) ["at", "parts"] (rdF ⟨K, mg, W0⟩ (tab (n + 1) .by_cut)) :=
  fn_ok (N := nl_by_cut) (g := b_by_cut (tab n)) T.F_by_cut sc_by_cut fun cdv A outer s H E hr =>
    (t_cons (t_asg (d_call O.o_sequent_of hr rfl T.m_sequent_of T.F_sequent_of.kp T.b_sequent_of (fun σ => passAt (takes_of rfl rfl rfl rfl) σ) (d_aC (d_ix (d_v 1) d_int) d_aN)) (g_seq rfl (g_cons (g_nm (j := 2) sc_by_cut.nd) (g_cons (g_nm (j := 3) sc_by_cut.nd) g_nil))))
    (t_cons (t_asg (d_call O.o_sequent_of hr rfl T.m_sequent_of T.F_sequent_of.kp T.b_sequent_of (fun σ => passAt (takes_of rfl rfl rfl rfl) σ) (d_aC (d_ix (d_v 1) d_int) d_aN)) (g_seq rfl (g_cons (g_nm (j := 4) sc_by_cut.nd) (g_cons (g_nm (j := 5) sc_by_cut.nd) g_nil))))
    (t_one (t_ret (d_tup (d_aC (d_op o_add (d_op o_add (d_sl (d_v 4) d_oN (d_oI (d_v 0))) (d_v 2)) (d_sl (d_v 4) (d_oI (d_op o_add (d_v 0) d_int)) d_oN)) (d_aC (d_v 5) (d_aC (d_callB c_len rfl T.n_len boot_len_ (d_aC (d_v 2) d_aN)) d_aN))))))))
set_option maxHeartbeats 4000000 in
theorem ok_build_step (T : Txt w K mg fd cv cu cl tb) (O : Oks P w K mg base fd n) : Dl.FnOk P w K mg base (L2.CX P w) (n + 1) (Fa.a .build_step) (fd .build_step) ["rule", "at", "parts"] (rdF ⟨K, mg, W0⟩ (tab (n + 1) .build_step)) :=
  fn_ok (N := nl_build_step) (g := b_build_step (tab n)) T.F_build_step sc_build_step fun cdv A outer s H E hr =>
    (t_cons (t_set (j := 3) sc_build_step.nd (d_tab T.t_BUILDERS rfl T.tm_BUILDERS (d_v 0)))
    (t_cons (t_asg (d_callV (i := 3) (cs := [(Fa.a .by_over_right, tab n .by_over_right), (Fa.a .by_under_right, tab n .by_under_right), (Fa.a .by_pair_right, tab n .by_pair_right), (Fa.a .by_over_left, tab n .by_over_left), (Fa.a .by_under_left, tab n .by_under_left), (Fa.a .by_pair_left, tab n .by_pair_left), (Fa.a .by_cut, tab n .by_cut)]) (List.forall_mem_cons.mpr ⟨⟨_, _, O.o_by_over_right, T.F_by_over_right.kp, T.b_by_over_right⟩, (List.forall_mem_cons.mpr ⟨⟨_, _, O.o_by_under_right, T.F_by_under_right.kp, T.b_by_under_right⟩, (List.forall_mem_cons.mpr ⟨⟨_, _, O.o_by_pair_right, T.F_by_pair_right.kp, T.b_by_pair_right⟩, (List.forall_mem_cons.mpr ⟨⟨_, _, O.o_by_over_left, T.F_by_over_left.kp, T.b_by_over_left⟩, (List.forall_mem_cons.mpr ⟨⟨_, _, O.o_by_under_left, T.F_by_under_left.kp, T.b_by_under_left⟩, (List.forall_mem_cons.mpr ⟨⟨_, _, O.o_by_pair_left, T.F_by_pair_left.kp, T.b_by_pair_left⟩, (List.forall_mem_cons.mpr ⟨⟨_, _, O.o_by_cut, T.F_by_cut.kp, T.b_by_cut⟩, (fun _ h => nomatch h)⟩)⟩)⟩)⟩)⟩)⟩)⟩) hr (fun σ => passAt (takes_of rfl rfl rfl rfl) σ) (d_aC (d_v 1) (d_aC (d_v 2) d_aN))) (g_seq rfl (g_cons (g_nm (j := 4) sc_build_step.nd) (g_cons (g_nm (j := 5) sc_build_step.nd) (g_cons (g_nm (j := 6) sc_build_step.nd) g_nil)))))
    (t_one (t_ret (d_tup (d_aC (d_v 0) (d_aC (d_v 4) (d_aC (d_v 5) (d_aC (d_v 1) (d_aC (d_v 6) (d_aC (d_v 2) d_aN)))))))))))
set_option maxHeartbeats 4000000 in
theorem ok_mirror_place (T : Txt w K mg fd cv cu cl tb) (O : Oks P w K mg base fd n) : Dl.FnOk P w K mg base (L2.CX P w) (n + 1) (Fa.a .mirror_place) (fd .mirror_place) ["rule", "at", "width", "count"] (rdF ⟨K, mg, W0⟩ (tab (n + 1) .mirror_place)) :=
  fn_ok (N := nl_mirror_place) (g := b_mirror_place (tab n)) T.F_mirror_place sc_mirror_place fun cdv A outer s H E hr =>
    (t_cons (t_if (PW.pt (d_or (d_tcmp (o_eq hr.units) (d_v 0) d_str) (d_or1 (d_tcmp (o_eq hr.units) (d_v 0) d_str)))) (t_one (t_ret d_int)) t_nil)
    (t_cons (t_if (d_tcmp (o_eq hr.units) (d_v 0) d_str) (t_one (t_ret (d_op o_sub (d_v 3) (d_v 1)))) t_nil)
    (t_cons (t_if (d_tcmp (o_eq hr.units) (d_v 0) d_str) (t_one (t_ret (d_op o_sub (d_op o_sub (d_v 3) (d_v 1)) (d_v 2)))) t_nil)
    (t_one (t_ret (d_op o_sub (d_op o_sub (d_v 3) d_int) (d_v 1)))))))
set_option maxHeartbeats 4000000 in
theorem ok_mirror_derivation (T : Txt w K mg fd cv cu cl tb) (O : Oks P w K mg base fd n) : Dl.FnOk P w K mg base (L2.CX P w) (n + 1) (Fa.a .mirror_derivation) (fd .mirror_derivation) ["derivation"] (rdF ⟨K, mg, W0⟩ (tab (n + 1) .mirror_derivation)) :=
  fn_ok (N := nl_mirror_derivation) (g := b_mirror_derivation (tab n)) T.F_mirror_derivation sc_mirror_derivation fun cdv A outer s H E hr =>
    (t_cons (t_asg (d_v 0) (g_seq rfl (g_cons (g_nm (j := 4) sc_mirror_derivation.nd) (g_cons (g_nm (j := 5) sc_mirror_derivation.nd) (g_cons (g_nm (j := 6) sc_mirror_derivation.nd) (g_cons (g_nm (j := 7) sc_mirror_derivation.nd) (g_cons (g_nm (j := 8) sc_mirror_derivation.nd) (g_cons (g_nm (j := 9) sc_mirror_derivation.nd) g_nil))))))))
    (t_cons (t_if (d_tcmp (o_eq hr.units) (d_v 4) d_str) (t_one (t_ret (d_v 0))) t_nil)
    (t_cons (t_set (j := 1) sc_mirror_derivation.nd (d_lst d_aN))
    (t_cons (t_for (passes_of rfl) rfl (w_any (d_v 9)) (g_nm (j := 2) sc_mirror_derivation.nd) (t_one (t_expr (d_m (T := .lst) PySem.F.plainAttrs_list PySem.F.slot_list_append PySem.F.type_list_append (by decide) m_append (d_v 1) (d_aC (d_call O.o_mirror_derivation hr rfl T.m_mirror_derivation T.F_mirror_derivation.kp T.b_mirror_derivation (fun σ => passAt (takes_of rfl rfl rfl rfl) σ) (d_aC (d_v 2) d_aN)) d_aN)))))
    (t_cons (t_if (d_tcmp (o_eq hr.units) (d_v 4) d_str) (t_one (t_expr (d_m0 (T := .lst) PySem.F.plainAttrs_list PySem.F.slot_list_reverse PySem.F.type_list_reverse (by decide) m_reverse (d_v 1)))) t_nil)
    (t_cons (t_set (j := 3) sc_mirror_derivation.nd (d_call O.o_mirror_place hr rfl T.m_mirror_place T.F_mirror_place.kp T.b_mirror_place (fun σ => passAt (takes_of rfl rfl rfl rfl) σ) (d_aC (d_v 4) (d_aC (d_v 7) (d_aC (d_v 8) (d_aC (d_callB c_len rfl T.n_len boot_len_ (d_aC (d_v 5) d_aN)) d_aN))))))
    (t_one (t_ret (d_call O.o_build_step hr rfl T.m_build_step T.F_build_step.kp T.b_build_step (fun σ => passAt (takes_of rfl rfl rfl rfl) σ) (d_aC (d_tab T.t_MIRROR_RULES rfl T.tm_MIRROR_RULES (d_v 4)) (d_aC (d_v 3) (d_aC (d_callT c_tuple rfl T.n_tuple boot_tuple_ (d_aC (d_v 1) d_aN)) d_aN))))))))))))
set_option maxHeartbeats 4000000 in
theorem ok__law_cell (T : Txt w K mg fd cv cu cl tb) (O : Oks P w K mg base fd n) : Dl.FnOk P w K mg base (L2.CX P w) (n + 1) (Fa.a ._law_cell) (fd ._law_cell) ["script", "k"] (rdF ⟨K, mg, W0⟩ (tab (n + 1) ._law_cell)) :=
  fn_ok (N := nl__law_cell) (g := b__law_cell (tab n)) T.F__law_cell sc__law_cell fun cdv A outer s H E hr =>
    (t_cons (t_if (d_tcmp o_lt (d_v 1) (d_callB c_len rfl T.n_len boot_len_ (d_aC (d_v 0) d_aN))) (t_one (t_ret (d_callT c_int rfl T.n_int boot_int_ (d_aC (d_ix (d_v 0) (d_v 1)) d_aN)))) t_nil)
    (t_one (t_ret d_int)))
set_option maxHeartbeats 4000000 in
theorem ok__law_mix (T : Txt w K mg fd cv cu cl tb) (O : Oks P w K mg base fd n) : Dl.FnOk P w K mg base (L2.CX P w) (n + 1) (Fa.a ._law_mix) (fd ._law_mix) ["x"] (rdF ⟨K, mg, W0⟩ (tab (n + 1) ._law_mix)) :=
  fn_ok (N := nl__law_mix) (g := b__law_mix (tab n)) T.F__law_mix sc__law_mix fun cdv A outer s H E hr =>
    (t_cons (t_set (j := 0) sc__law_mix.nd (d_op o_mod (d_callT c_int rfl T.n_int boot_int_ (d_aC (d_op o_add (d_op o_add (d_op o_mul (d_v 0) (d_v 0)) (d_op o_mul d_int (d_v 0))) d_int) d_aN)) d_int))
    (t_one (t_ret (d_op o_mod (d_callT c_int rfl T.n_int boot_int_ (d_aC (d_op o_add (d_op o_add (d_op o_mul (d_v 0) (d_v 0)) (d_op o_mul d_int (d_v 0))) d_int) d_aN)) d_int))))
set_option maxHeartbeats 4000000 in
theorem ok__law_pool (T : Txt w K mg fd cv cu cl tb) (O : Oks P w K mg base fd n) : Dl.FnOk P w K mg base (L2.CX P w) (n + 1) (Fa.a ._law_pool) (fd ._law_pool) ["script", "k"] (rdF ⟨K, mg, W0⟩ (tab (n + 1) ._law_pool)) :=
  fn_ok (N := nl__law_pool) (g := b__law_pool (tab n)) T.F__law_pool sc__law_pool fun cdv A outer s H E hr =>
    (t_cons (t_set (j := 2) sc__law_pool.nd (d_call O.o__law_cell hr rfl T.m__law_cell T.F__law_cell.kp T.b__law_cell (fun σ => passAt (takes_of rfl rfl rfl rfl) σ) (d_aC (d_v 0) (d_aC (d_v 1) d_aN))))
    (t_cons (t_if (d_tcmp o_ge (d_v 2) (d_op o_pow d_int d_int)) (t_one (t_ret (d_lst (d_aC (d_op o_sub (d_v 2) (d_op o_pow d_int d_int)) (d_aC (d_op o_mul d_int (d_op o_add (d_v 1) d_int)) (d_aC d_int d_aN)))))) t_nil)
    (t_one (t_ret (d_lst (d_aC d_int (d_aC (d_op o_add (d_op o_add (d_op o_mod (d_callT c_int rfl T.n_int boot_int_ (d_aC (d_callB c_abs rfl T.n_abs boot_abs_ (d_aC (d_v 2) d_aN)) d_aN)) d_int) (d_op o_mul d_int (d_v 1))) d_int) (d_aC d_int d_aN))))))))
set_option maxHeartbeats 4000000 in
theorem ok__law_draw (T : Txt w K mg fd cv cu cl tb) (O : Oks P w K mg base fd n) : Dl.FnOk P w K mg base (L2.CX P w) (n + 1) (Fa.a ._law_draw) (fd ._law_draw) ["pool", "many"] (rdF ⟨K, mg, W0⟩ (tab (n + 1) ._law_draw)) :=
  fn_ok (N := nl__law_draw) (g := b__law_draw (tab n)) T.F__law_draw sc__law_draw fun cdv A outer s H E hr =>
    (t_cons (t_if (d_tcmp o_gt (d_ix (d_v 0) d_int) d_int) (t_cons (t_set (j := 2) sc__law_draw.nd (d_op o_mod (d_callT c_int rfl T.n_int boot_int_ (d_aC (d_ix (d_v 0) d_int) d_aN)) (d_v 1)))
    (t_cons (t_asg (d_op o_fdivW (d_ix (d_v 0) d_int) (d_v 1)) (g_ixX (u1 hr) (d_v 0) d_int))
    (t_one (t_ret (d_v 2))))) t_nil)
    (t_cons (t_asg (d_op o_add (d_ix (d_v 0) d_int) d_int) (g_ixX (u1 hr) (d_v 0) d_int))
    (t_one (t_ret (d_op o_mod (d_callT c_int rfl T.n_int boot_int_ (d_aC (d_op o_fdivW (d_call O.o__law_mix hr rfl T.m__law_mix T.F__law_mix.kp T.b__law_mix (fun σ => passAt (takes_of rfl rfl rfl rfl) σ) (d_aC (d_op o_add (d_ix (d_v 0) d_int) (d_op o_mul d_int (d_ix (d_v 0) d_int))) d_aN)) d_int) d_aN)) (d_v 1))))))
set_option maxHeartbeats 4000000 in
theorem ok__law_names (T : Txt w K mg fd cv cu cl tb) (O : Oks P w K mg base fd n) : Dl.FnOk P w K mg base (L2.CX P w) (n + 1) (Fa.a ._law_names) (fd ._law_names) ["pool", "many"] (rdF ⟨K, mg, W0⟩ (tab (n + 1) ._law_names)) :=
  fn_ok (N := nl__law_names) (g := b__law_names (tab n)) T.F__law_names sc__law_names fun cdv A outer s H E hr =>
    (t_cons (t_set (j := 2) sc__law_names.nd d_str)
    (t_cons (t_set (j := 3) sc__law_names.nd (d_lst d_aN))
    (t_cons (t_for (passes_of rfl) rfl (w_rng1 rfl T.n_range (d_v 1)) (g_nm (j := 4) sc__law_names.nd) (t_cons (t_set (j := 5) sc__law_names.nd (d_ix (d_v 2) (d_call O.o__law_draw hr rfl T.m__law_draw T.F__law_draw.kp T.b__law_draw (fun σ => passAt (takes_of rfl rfl rfl rfl) σ) (d_aC (d_v 0) (d_aC d_int d_aN)))))
    (t_cons (t_if (PW.pt (d_and (d_tcmp o_gt (d_v 4) d_int) (d_and1 (d_tcmp (o_eq hr.units) (d_call O.o__law_draw hr rfl T.m__law_draw T.F__law_draw.kp T.b__law_draw (fun σ => passAt (takes_of rfl rfl rfl rfl) σ) (d_aC (d_v 0) (d_aC d_int d_aN))) d_int)))) (t_one (t_set (j := 5) sc__law_names.nd (d_ix (d_v 3) d_int))) t_nil)
    (t_cons (t_set (j := 6) sc__law_names.nd (d_ix (d_lst (d_aC d_int (d_aC d_int (d_aC d_int (d_aC d_int d_aN))))) (d_call O.o__law_draw hr rfl T.m__law_draw T.F__law_draw.kp T.b__law_draw (fun σ => passAt (takes_of rfl rfl rfl rfl) σ) (d_aC (d_v 0) (d_aC d_int d_aN)))))
    (t_cons (t_if (d_tcmp (o_eq hr.units) (d_v 6) d_int) (t_one (t_set (j := 6) sc__law_names.nd (d_call O.o__law_draw hr rfl T.m__law_draw T.F__law_draw.kp T.b__law_draw (fun σ => passAt (takes_of rfl rfl rfl rfl) σ) (d_aC (d_v 0) (d_aC d_int d_aN))))) t_nil)
    (t_cons (t_for (passes_of rfl) rfl (w_rng1 rfl T.n_range (d_v 6)) (g_nm (j := 7) sc__law_names.nd) (t_one (t_set (j := 5) sc__law_names.nd (d_op o_add (d_v 5) (d_ix (d_v 2) (d_call O.o__law_draw hr rfl T.m__law_draw T.F__law_draw.kp T.b__law_draw (fun σ => passAt (takes_of rfl rfl rfl rfl) σ) (d_aC (d_v 0) (d_aC d_int d_aN))))))))
    (t_cons (t_set (j := 5) sc__law_names.nd (d_sl (d_v 5) d_oN (d_oI d_int)))
    (t_cons (t_if (d_tcmp (o_in (r65 hr)) (d_v 5) (d_v 3)) (t_cons (t_setLc (i := 8) (own := [("j", 9)]) (g := (.one 9)) rfl sc__law_names.nd rfl rfl (sw_true rfl rfl rfl (by decide +kernel)) (w_rng1 rfl T.n_range (d_op o_add (d_v 1) d_int)) (blkOk_by (own := [("j", 9)]) (N := nl__law_names) (sc := defScope st__law_names) (by decide +kernel)) (by decide) (fun _ _ _ _ _ => (v_one sc__law_names.nd)) (fun _ _ _ _ _ => u_nil) (fun _ _ _ _ _ => (d_op o_add (d_op o_add (d_sl (d_v 5) d_oN (d_oI d_int)) d_str) (d_callT c_str rfl T.n_str boot_str_ (d_aC (d_v 9) d_aN)))))
    (t_one (t_set (j := 5) sc__law_names.nd (d_ix (d_lc (own := [("one", 10)]) (g := (.one 10)) rfl sc__law_names.nd (w_any (d_v 8)) (blkOk_by (own := [("one", 10)]) (N := nl__law_names) (sc := defScope st__law_names) (by decide +kernel)) (by decide) (fun _ _ _ _ _ => (v_one sc__law_names.nd)) (fun _ _ _ _ _ => (u_one (d_tcmp (o_nin (r65 hr)) (d_v 10) (d_v 3)))) (fun _ _ _ _ _ => (d_v 10))) d_int)))) t_nil)
    (t_one (t_expr (d_m (T := .lst) PySem.F.plainAttrs_list PySem.F.slot_list_append PySem.F.type_list_append (by decide) m_append (d_v 3) (d_aC (d_v 5) d_aN))))))))))))
    (t_one (t_ret (d_v 3))))))
set_option maxHeartbeats 4000000 in
theorem ok__law_twins (T : Txt w K mg fd cv cu cl tb) (O : Oks P w K mg base fd n) : Dl.FnOk P w K mg base (L2.CX P w) (n + 1) (Fa.a ._law_twins) (fd ._law_twins) ["pool", "names"] (rdF ⟨K, mg, W0⟩ (tab (n + 1) ._law_twins)) :=
  fn_ok (N := nl__law_twins) (g := b__law_twins (tab n)) T.F__law_twins sc__law_twins fun cdv A outer s H E hr =>
    (t_cons (t_set (j := 2) sc__law_twins.nd (d_callT c_list rfl T.n_list boot_list_ (d_aC (d_v 1) d_aN)))
    (t_cons (t_for (passes_of rfl) rfl (w_rng1 rfl T.n_range (d_op o_add d_int (d_call O.o__law_draw hr rfl T.m__law_draw T.F__law_draw.kp T.b__law_draw (fun σ => passAt (takes_of rfl rfl rfl rfl) σ) (d_aC (d_v 0) (d_aC d_int d_aN))))) (g_nm (j := 3) sc__law_twins.nd) (t_cons (t_set (j := 4) sc__law_twins.nd (d_ix (d_lst (d_aC d_int (d_aC d_int d_aN))) (d_call O.o__law_draw hr rfl T.m__law_draw T.F__law_draw.kp T.b__law_draw (fun σ => passAt (takes_of rfl rfl rfl rfl) σ) (d_aC (d_v 0) (d_aC d_int d_aN)))))
    (t_cons (t_set (j := 5) sc__law_twins.nd (d_op o_add (d_op o_add (d_ix (d_v 1) (d_call O.o__law_draw hr rfl T.m__law_draw T.F__law_draw.kp T.b__law_draw (fun σ => passAt (takes_of rfl rfl rfl rfl) σ) (d_aC (d_v 0) (d_aC (d_callB c_len rfl T.n_len boot_len_ (d_aC (d_v 1) d_aN)) d_aN)))) d_str) (d_callT c_str rfl T.n_str boot_str_ (d_aC (d_op o_add d_int (d_call O.o__law_draw hr rfl T.m__law_draw T.F__law_draw.kp T.b__law_draw (fun σ => passAt (takes_of rfl rfl rfl rfl) σ) (d_aC (d_v 0) (d_aC (d_v 4) d_aN)))) d_aN))))
    (t_one (t_if (d_tcmp (o_nin (r65 hr)) (d_v 5) (d_v 2)) (t_one (t_expr (d_m (T := .lst) PySem.F.plainAttrs_list PySem.F.slot_list_append PySem.F.type_list_append (by decide) m_append (d_v 2) (d_aC (d_v 5) d_aN)))) t_nil)))))
    (t_one (t_ret (d_v 2)))))
set_option maxHeartbeats 4000000 in
theorem ok__law_kind (T : Txt w K mg fd cv cu cl tb) (O : Oks P w K mg base fd n) : Dl.FnOk P w K mg base (L2.CX P w) (n + 1) (Fa.a ._law_kind) (fd ._law_kind) ["pool", "names", "size"] (rdF ⟨K, mg, W0⟩ (tab (n + 1) ._law_kind)) :=
  fn_ok (N := nl__law_kind) (g := b__law_kind (tab n)) T.F__law_kind sc__law_kind fun cdv A outer s H E hr =>
    (t_cons (t_if (d_tcmp o_le (d_v 2) d_int) (t_one (t_ret (d_ix (d_v 1) (d_call O.o__law_draw hr rfl T.m__law_draw T.F__law_draw.kp T.b__law_draw (fun σ => passAt (takes_of rfl rfl rfl rfl) σ) (d_aC (d_v 0) (d_aC (d_callB c_len rfl T.n_len boot_len_ (d_aC (d_v 1) d_aN)) d_aN)))))) t_nil)
    (t_cons (t_set (j := 3) sc__law_kind.nd (d_op o_add d_int (d_call O.o__law_draw hr rfl T.m__law_draw T.F__law_draw.kp T.b__law_draw (fun σ => passAt (takes_of rfl rfl rfl rfl) σ) (d_aC (d_v 0) (d_aC (d_op o_sub (d_v 2) d_int) d_aN)))))
    (t_cons (t_set (j := 4) sc__law_kind.nd (d_ix d_str (d_call O.o__law_draw hr rfl T.m__law_draw T.F__law_draw.kp T.b__law_draw (fun σ => passAt (takes_of rfl rfl rfl rfl) σ) (d_aC (d_v 0) (d_aC d_int d_aN)))))
    (t_cons (t_set (j := 5) sc__law_kind.nd (d_call O.o__law_kind hr rfl T.m__law_kind T.F__law_kind.kp T.b__law_kind (fun σ => passAt (takes_of rfl rfl rfl rfl) σ) (d_aC (d_v 0) (d_aC (d_v 1) (d_aC (d_v 3) d_aN)))))
    (t_one (t_ret (d_tup (d_aC (d_v 4) (d_aC (d_v 5) (d_aC (d_call O.o__law_kind hr rfl T.m__law_kind T.F__law_kind.kp T.b__law_kind (fun σ => passAt (takes_of rfl rfl rfl rfl) σ) (d_aC (d_v 0) (d_aC (d_v 1) (d_aC (d_op o_sub (d_v 2) (d_v 3)) d_aN)))) d_aN))))))))))
set_option maxHeartbeats 4000000 in
theorem ok__law_size (T : Txt w K mg fd cv cu cl tb) (O : Oks P w K mg base fd n) : Dl.FnOk P w K mg base (L2.CX P w) (n + 1) (Fa.a ._law_size) (fd ._law_size) ["kind"] (rdF ⟨K, mg, W0⟩ (tab (n + 1) ._law_size)) :=
  fn_ok (N := nl__law_size) (g := b__law_size (tab n)) T.F__law_size sc__law_size fun cdv A outer s H E hr =>
    (t_cons (t_if (d_tv (d_callB (c_isi .str (by decide)) rfl T.n_isinstance boot_isinstance_ (d_aC (d_v 0) (d_aC (d_blt rfl T.n_str boot_str_ rfl) d_aN)))) (t_one (t_ret d_int)) t_nil)
    (t_one (t_ret (d_op o_add (d_call O.o__law_size hr rfl T.m__law_size T.F__law_size.kp T.b__law_size (fun σ => passAt (takes_of rfl rfl rfl rfl) σ) (d_aC (d_ix (d_v 0) d_int) d_aN)) (d_call O.o__law_size hr rfl T.m__law_size T.F__law_size.kp T.b__law_size (fun σ => passAt (takes_of rfl rfl rfl rfl) σ) (d_aC (d_ix (d_v 0) d_int) d_aN))))))
set_option maxHeartbeats 4000000 in
theorem ok__law_line (T : Txt w K mg fd cv cu cl tb) (O : Oks P w K mg base fd n) : Dl.FnOk P w K mg base (L2.CX P w) (n + 1) (Fa.a ._law_line) (fd ._law_line) ["rule", "at", "lines"] (rdF ⟨K, mg, W0⟩ (tab (n + 1) ._law_line)) :=
  fn_ok (N := nl__law_line) (g := b__law_line (tab n)) T.F__law_line sc__law_line fun cdv A outer s H E hr =>
    (t_cons (t_set (j := 3) sc__law_line.nd (d_cmp (o_in (r65 hr)) (d_v 0) (d_lst (d_aC d_str (d_aC d_str (d_aC d_str (d_aC d_str d_aN)))))))
    (t_cons (t_if (d_tcmp (o_ne hr.units) (d_callB c_len rfl T.n_len boot_len_ (d_aC (d_v 2) d_aN)) (d_op o_add d_int (d_callT c_int rfl T.n_int boot_int_ (d_aC (d_v 3) d_aN)))) (t_one (t_ret d_non)) t_nil)
    (t_cons (t_asg (d_ix (d_v 2) d_int) (g_seq rfl (g_cons (g_nm (j := 5) sc__law_line.nd) (g_cons (g_nm (j := 6) sc__law_line.nd) g_nil))))
    (t_cons (t_if (PW.pt (d_and (d_tcmp (o_eq hr.units) (d_v 0) d_str) (d_and (d_tcmp (o_eq hr.units) (d_v 1) d_int) (d_and1 (d_tcmp o_gt (d_callB c_len rfl T.n_len boot_len_ (d_aC (d_v 5) d_aN)) d_int))))) (t_one (t_ret (d_tup (d_aC (d_sl (d_v 5) d_oN (d_oI (d_neg d_int))) (d_aC (d_tup (d_aC d_str (d_aC (d_v 6) (d_aC (d_ix (d_v 5) (d_neg d_int)) d_aN)))) (d_aC d_int d_aN)))))) t_nil)
    (t_cons (t_if (PW.pt (d_and (d_tcmp (o_eq hr.units) (d_v 0) d_str) (d_and (d_tcmp (o_eq hr.units) (d_v 1) d_int) (d_and1 (d_tcmp o_gt (d_callB c_len rfl T.n_len boot_len_ (d_aC (d_v 5) d_aN)) d_int))))) (t_one (t_ret (d_tup (d_aC (d_sl (d_v 5) (d_oI d_int) d_oN) (d_aC (d_tup (d_aC d_str (d_aC (d_ix (d_v 5) d_int) (d_aC (d_v 6) d_aN)))) (d_aC d_int d_aN)))))) t_nil)
    (t_cons (t_if (PW.pt (d_and (d_tcmp (o_eq hr.units) (d_v 0) d_str) (d_and1 (d_tch o_le o_lt d_int (d_v 1) (d_op o_sub (d_callB c_len rfl T.n_len boot_len_ (d_aC (d_v 5) d_aN)) d_int))))) (t_one (t_ret (d_tup (d_aC (d_op o_add (d_op o_add (d_sl (d_v 5) d_oN (d_oI (d_v 1))) (d_tup (d_aC (d_tup (d_aC d_str (d_aC (d_ix (d_v 5) (d_v 1)) (d_aC (d_ix (d_v 5) (d_op o_add (d_v 1) d_int)) d_aN)))) d_aN))) (d_sl (d_v 5) (d_oI (d_op o_add (d_v 1) d_int)) d_oN)) (d_aC (d_v 6) (d_aC d_int d_aN)))))) t_nil)
    (t_cons (t_if (d_not (d_tv (d_v 3))) (t_one (t_ret d_non)) t_nil)
    (t_cons (t_asg (d_ix (d_v 2) d_int) (g_seq rfl (g_cons (g_nm (j := 7) sc__law_line.nd) (g_cons (g_nm (j := 8) sc__law_line.nd) g_nil))))
    (t_cons (t_set (j := 4) sc__law_line.nd (d_op o_sub (d_v 1) (d_callB c_len rfl T.n_len boot_len_ (d_aC (d_v 5) d_aN))))
    (t_cons (t_if (PW.pt (d_and (d_tcmp (o_eq hr.units) (d_v 0) d_str) (d_and1 (d_tcmp (o_eq hr.units) (d_v 1) (d_callB c_len rfl T.n_len boot_len_ (d_aC (d_v 5) d_aN)))))) (t_one (t_ret (d_tup (d_aC (d_op o_add (d_v 5) (d_v 7)) (d_aC (d_tup (d_aC d_str (d_aC (d_v 6) (d_aC (d_v 8) d_aN)))) (d_aC d_int d_aN)))))) t_nil)
    (t_cons (t_if (PW.pt (d_and (d_tcmp (o_eq hr.units) (d_v 0) d_str) (d_and1 (d_tch o_le o_lt d_int (d_v 1) (d_callB c_len rfl T.n_len boot_len_ (d_aC (d_v 7) d_aN)))))) (t_one (t_ret (d_tup (d_aC (d_op o_add (d_op o_add (d_op o_add (d_sl (d_v 7) d_oN (d_oI (d_v 1))) (d_tup (d_aC (d_tup (d_aC d_str (d_aC (d_ix (d_v 7) (d_v 1)) (d_aC (d_v 6) d_aN)))) d_aN))) (d_v 5)) (d_sl (d_v 7) (d_oI (d_op o_add (d_v 1) d_int)) d_oN)) (d_aC (d_v 8) (d_aC (d_callB c_len rfl T.n_len boot_len_ (d_aC (d_v 5) d_aN)) d_aN)))))) t_nil)
    (t_cons (t_if (PW.pt (d_and (d_tcmp (o_eq hr.units) (d_v 0) d_str) (d_and1 (d_tch o_le o_lt d_int (d_v 4) (d_callB c_len rfl T.n_len boot_len_ (d_aC (d_v 7) d_aN)))))) (t_one (t_ret (d_tup (d_aC (d_op o_add (d_op o_add (d_op o_add (d_sl (d_v 7) d_oN (d_oI (d_v 4))) (d_v 5)) (d_tup (d_aC (d_tup (d_aC d_str (d_aC (d_v 6) (d_aC (d_ix (d_v 7) (d_v 4)) d_aN)))) d_aN))) (d_sl (d_v 7) (d_oI (d_op o_add (d_v 4) d_int)) d_oN)) (d_aC (d_v 8) (d_aC (d_callB c_len rfl T.n_len boot_len_ (d_aC (d_v 5) d_aN)) d_aN)))))) t_nil)
    (t_cons (t_if (PW.pt (d_and (d_tcmp (o_eq hr.units) (d_v 0) d_str) (d_and (d_tch o_le o_lt d_int (d_v 1) (d_callB c_len rfl T.n_len boot_len_ (d_aC (d_v 7) d_aN))) (d_and1 (d_tcmp (o_eq hr.units) (d_ix (d_v 7) (d_v 1)) (d_v 6)))))) (t_one (t_ret (d_tup (d_aC (d_op o_add (d_op o_add (d_sl (d_v 7) d_oN (d_oI (d_v 1))) (d_v 5)) (d_sl (d_v 7) (d_oI (d_op o_add (d_v 1) d_int)) d_oN)) (d_aC (d_v 8) (d_aC (d_callB c_len rfl T.n_len boot_len_ (d_aC (d_v 5) d_aN)) d_aN)))))) t_nil)
    (t_one (t_ret d_non)))))))))))))))
set_option maxHeartbeats 4000000 in
theorem ok__law_axiom (T : Txt w K mg fd cv cu cl tb) (O : Oks P w K mg base fd n) : Dl.FnOk P w K mg base (L2.CX P w) (n + 1) (Fa.a ._law_axiom) (fd ._law_axiom) ["atom"] (rdF ⟨K, mg, W0⟩ (tab (n + 1) ._law_axiom)) :=
  fn_ok (N := nl__law_axiom) (g := b__law_axiom (tab n)) T.F__law_axiom sc__law_axiom fun cdv A outer s H E hr =>
    (t_one (t_ret (d_tup (d_aC d_str (d_aC (d_tup (d_aC (d_v 0) d_aN)) (d_aC (d_v 0) (d_aC d_int (d_aC d_int (d_aC (d_tup d_aN) d_aN)))))))))
set_option maxHeartbeats 4000000 in
theorem ok__law_make (T : Txt w K mg fd cv cu cl tb) (O : Oks P w K mg base fd n) : Dl.FnOk P w K mg base (L2.CX P w) (n + 1) (Fa.a ._law_make) (fd ._law_make) ["rule", "at", "parts"] (rdF ⟨K, mg, W0⟩ (tab (n + 1) ._law_make)) :=
  fn_ok (N := nl__law_make) (g := b__law_make (tab n)) T.F__law_make sc__law_make fun cdv A outer s H E hr =>
    (t_cons (t_set (j := 3) sc__law_make.nd (d_call O.o__law_line hr rfl T.m__law_line T.F__law_line.kp T.b__law_line (fun σ => passAt (takes_of rfl rfl rfl rfl) σ) (d_aC (d_v 0) (d_aC (d_v 1) (d_aC (d_lc (own := [("part", 4)]) (g := (.one 4)) rfl sc__law_make.nd (w_any (d_v 2)) (blkOk_by (own := [("part", 4)]) (N := nl__law_make) (sc := defScope st__law_make) (by decide +kernel)) (by decide) (fun _ _ _ _ _ => (v_one sc__law_make.nd)) (fun _ _ _ _ _ => u_nil) (fun _ _ _ _ _ => (d_tup (d_aC (d_ix (d_v 4) d_int) (d_aC (d_ix (d_v 4) d_int) d_aN))))) d_aN)))))
    (t_cons (t_if (d_tcmp o_is (d_v 3) d_non) (t_one (t_ret d_non)) t_nil)
    (t_one (t_ret (d_tup (d_aC (d_v 0) (d_aC (d_ix (d_v 3) d_int) (d_aC (d_ix (d_v 3) d_int) (d_aC (d_v 1) (d_aC (d_ix (d_v 3) d_int) (d_aC (d_callT c_tuple rfl T.n_tuple boot_tuple_ (d_aC (d_v 2) d_aN)) d_aN)))))))))))
set_option maxHeartbeats 4000000 in
theorem ok__law_identity (T : Txt w K mg fd cv cu cl tb) (O : Oks P w K mg base fd n) : Dl.FnOk P w K mg base (L2.CX P w) (n + 1) (Fa.a ._law_identity) (fd ._law_identity) ["kind"] (rdF ⟨K, mg, W0⟩ (tab (n + 1) ._law_identity)) :=
  fn_ok (N := nl__law_identity) (g := b__law_identity (tab n)) T.F__law_identity sc__law_identity fun cdv A outer s H E hr =>
    (t_cons (t_if (d_tv (d_callB (c_isi .str (by decide)) rfl T.n_isinstance boot_isinstance_ (d_aC (d_v 0) (d_aC (d_blt rfl T.n_str boot_str_ rfl) d_aN)))) (t_one (t_ret (d_call O.o__law_axiom hr rfl T.m__law_axiom T.F__law_axiom.kp T.b__law_axiom (fun σ => passAt (takes_of rfl rfl rfl rfl) σ) (d_aC (d_v 0) d_aN)))) t_nil)
    (t_cons (t_set (j := 1) sc__law_identity.nd (d_call O.o__law_identity hr rfl T.m__law_identity T.F__law_identity.kp T.b__law_identity (fun σ => passAt (takes_of rfl rfl rfl rfl) σ) (d_aC (d_ix (d_v 0) d_int) d_aN)))
    (t_cons (t_set (j := 2) sc__law_identity.nd (d_call O.o__law_identity hr rfl T.m__law_identity T.F__law_identity.kp T.b__law_identity (fun σ => passAt (takes_of rfl rfl rfl rfl) σ) (d_aC (d_ix (d_v 0) d_int) d_aN)))
    (t_cons (t_if (d_tcmp (o_eq hr.units) (d_ix (d_v 0) d_int) d_str) (t_one (t_ret (d_call O.o__law_make hr rfl T.m__law_make T.F__law_make.kp T.b__law_make (fun σ => passAt (takes_of rfl rfl rfl rfl) σ) (d_aC d_str (d_aC d_int (d_aC (d_lst (d_aC (d_call O.o__law_make hr rfl T.m__law_make T.F__law_make.kp T.b__law_make (fun σ => passAt (takes_of rfl rfl rfl rfl) σ) (d_aC d_str (d_aC d_int (d_aC (d_lst (d_aC (d_v 2) (d_aC (d_v 1) d_aN))) d_aN)))) d_aN)) d_aN)))))) t_nil)
    (t_cons (t_if (d_tcmp (o_eq hr.units) (d_ix (d_v 0) d_int) d_str) (t_one (t_ret (d_call O.o__law_make hr rfl T.m__law_make T.F__law_make.kp T.b__law_make (fun σ => passAt (takes_of rfl rfl rfl rfl) σ) (d_aC d_str (d_aC d_int (d_aC (d_lst (d_aC (d_call O.o__law_make hr rfl T.m__law_make T.F__law_make.kp T.b__law_make (fun σ => passAt (takes_of rfl rfl rfl rfl) σ) (d_aC d_str (d_aC d_int (d_aC (d_lst (d_aC (d_v 1) (d_aC (d_v 2) d_aN))) d_aN)))) d_aN)) d_aN)))))) t_nil)
    (t_one (t_ret (d_call O.o__law_make hr rfl T.m__law_make T.F__law_make.kp T.b__law_make (fun σ => passAt (takes_of rfl rfl rfl rfl) σ) (d_aC d_str (d_aC d_int (d_aC (d_lst (d_aC (d_call O.o__law_make hr rfl T.m__law_make T.F__law_make.kp T.b__law_make (fun σ => passAt (takes_of rfl rfl rfl rfl) σ) (d_aC d_str (d_aC d_int (d_aC (d_lst (d_aC (d_v 1) (d_aC (d_v 2) d_aN))) d_aN)))) d_aN)) d_aN)))))))))))
set_option maxHeartbeats 4000000 in
theorem ok__law_fits (T : Txt w K mg fd cv cu cl tb) (O : Oks P w K mg base fd n) : Dl.FnOk P w K mg base (L2.CX P w) (n + 1) (Fa.a ._law_fits) (fd ._law_fits) ["step", "bounds"] (rdF ⟨K, mg, W0⟩ (tab (n + 1) ._law_fits)) :=
  fn_ok (N := nl__law_fits) (g := b__law_fits (tab n)) T.F__law_fits sc__law_fits fun cdv A outer s H E hr =>
    (t_cons (t_if (d_tcmp o_is (d_v 0) d_non) (t_one (t_ret d_bl)) t_nil)
    (t_cons (t_set (j := 2) sc__law_fits.nd (d_op o_add (d_lc (own := [("kind", 3)]) (g := (.one 3)) rfl sc__law_fits.nd (w_any (d_ix (d_v 0) d_int)) (blkOk_by (own := [("kind", 3)]) (N := nl__law_fits) (sc := defScope st__law_fits) (by decide +kernel)) (by decide) (fun _ _ _ _ _ => (v_one sc__law_fits.nd)) (fun _ _ _ _ _ => u_nil) (fun _ _ _ _ _ => (d_call O.o__law_size hr rfl T.m__law_size T.F__law_size.kp T.b__law_size (fun σ => passB) (d_aC (d_v 3) d_aN)))) (d_lst (d_aC (d_call O.o__law_size hr rfl T.m__law_size T.F__law_size.kp T.b__law_size (fun σ => passAt (takes_of rfl rfl rfl rfl) σ) (d_aC (d_ix (d_v 0) d_int) d_aN)) d_aN))))
    (t_one (t_ret (d_vand (d_cmp o_le (d_callB (c_maxL rfl) rfl T.n_max boot_max_ (d_aC (d_v 2) d_aN)) (d_ix (d_v 1) d_int)) (d_vand (d_cmp o_le (d_callB c_len rfl T.n_len boot_len_ (d_aC (d_ix (d_v 0) d_int) d_aN)) (d_ix (d_v 1) d_int)) (d_one (d_cmp o_le (d_callB (c_sum rfl) rfl T.n_sum boot_sum_ (d_aC (d_v 2) d_aN)) (d_ix (d_v 1) d_int)))))))))
set_option maxHeartbeats 4000000 in
theorem ok__law_grow (T : Txt w K mg fd cv cu cl tb) (O : Oks P w K mg base fd n) : Dl.FnOk P w K mg base (L2.CX P w) (n + 1) (Fa.a ._law_grow) (fd ._law_grow) ["pool", "heap", "way"] (rdF ⟨K, mg, W0⟩ (tab (n + 1) ._law_grow)) :=
  fn_ok (N := nl__law_grow) (g := b__law_grow (tab n)) T.F__law_grow sc__law_grow fun cdv A outer s H E hr =>
    (t_cons (t_set (j := 3) sc__law_grow.nd (d_ix (d_v 1) (d_neg d_int)))
    (t_cons (t_set (j := 4) sc__law_grow.nd (d_callB c_len rfl T.n_len boot_len_ (d_aC (d_ix (d_v 3) d_int) d_aN)))
    (t_cons (t_if (d_tcmp (o_eq hr.units) (d_v 2) d_int) (t_one (t_ret (d_call O.o__law_make hr rfl T.m__law_make T.F__law_make.kp T.b__law_make (fun σ => passAt (takes_of rfl rfl rfl rfl) σ) (d_aC d_str (d_aC d_int (d_aC (d_lst (d_aC (d_v 3) d_aN)) d_aN)))))) t_nil)
    (t_cons (t_if (d_tcmp (o_eq hr.units) (d_v 2) d_int) (t_one (t_ret (d_call O.o__law_make hr rfl T.m__law_make T.F__law_make.kp T.b__law_make (fun σ => passAt (takes_of rfl rfl rfl rfl) σ) (d_aC d_str (d_aC d_int (d_aC (d_lst (d_aC (d_v 3) d_aN)) d_aN)))))) t_nil)
    (t_cons (t_if (PW.pt (d_and (d_tcmp (o_eq hr.units) (d_v 2) d_int) (d_and1 (d_tcmp o_gt (d_v 4) d_int)))) (t_one (t_ret (d_call O.o__law_make hr rfl T.m__law_make T.F__law_make.kp T.b__law_make (fun σ => passAt (takes_of rfl rfl rfl rfl) σ) (d_aC d_str (d_aC (d_call O.o__law_draw hr rfl T.m__law_draw T.F__law_draw.kp T.b__law_draw (fun σ => passAt (takes_of rfl rfl rfl rfl) σ) (d_aC (d_v 0) (d_aC (d_op o_sub (d_v 4) d_int) d_aN))) (d_aC (d_lst (d_aC (d_v 3) d_aN)) d_aN)))))) t_nil)
    (t_cons (t_if (PW.pt (d_or (d_tcmp (o_eq hr.units) (d_v 2) d_int) (d_or1 (d_tcmp o_lt (d_callB c_len rfl T.n_len boot_len_ (d_aC (d_v 1) d_aN)) d_int)))) (t_one (t_ret d_non)) t_nil)
    (t_cons (t_set (j := 5) sc__law_grow.nd (d_ix (d_v 1) (d_neg d_int)))
    (t_cons (t_if (d_tcmp (o_eq hr.units) (d_v 2) d_int) (t_one (t_ret (d_call O.o__law_make hr rfl T.m__law_make T.F__law_make.kp T.b__law_make (fun σ => passAt (takes_of rfl rfl rfl rfl) σ) (d_aC d_str (d_aC (d_callB c_len rfl T.n_len boot_len_ (d_aC (d_ix (d_v 5) d_int) d_aN)) (d_aC (d_lst (d_aC (d_v 5) (d_aC (d_v 3) d_aN))) d_aN)))))) t_nil)
    (t_cons (t_if (d_tcmp (o_eq hr.units) (d_v 2) d_int) (t_cons (t_setLc (i := 7) (own := [("at", 6)]) (g := (.one 6)) rfl sc__law_grow.nd rfl rfl (sw_true rfl rfl rfl (by decide +kernel)) (w_rng1 rfl T.n_range (d_v 4)) (blkOk_by (own := [("at", 6)]) (N := nl__law_grow) (sc := defScope st__law_grow) (by decide +kernel)) (by decide) (fun _ _ _ _ _ => (v_one sc__law_grow.nd)) (fun _ _ _ _ _ => (u_one (d_tcmp (o_eq hr.units) (d_ix (d_ix (d_v 3) d_int) (d_v 6)) (d_ix (d_v 5) d_int)))) (fun _ _ _ _ _ => (d_v 6)))
    (t_cons (t_if (d_tcmp (o_eq hr.units) (d_callB c_len rfl T.n_len boot_len_ (d_aC (d_v 7) d_aN)) d_int) (t_one (t_ret d_non)) t_nil)
    (t_one (t_ret (d_call O.o__law_make hr rfl T.m__law_make T.F__law_make.kp T.b__law_make (fun σ => passAt (takes_of rfl rfl rfl rfl) σ) (d_aC d_str (d_aC (d_ix (d_v 7) (d_call O.o__law_draw hr rfl T.m__law_draw T.F__law_draw.kp T.b__law_draw (fun σ => passAt (takes_of rfl rfl rfl rfl) σ) (d_aC (d_v 0) (d_aC (d_callB c_len rfl T.n_len boot_len_ (d_aC (d_v 7) d_aN)) d_aN)))) (d_aC (d_lst (d_aC (d_v 5) (d_aC (d_v 3) d_aN))) d_aN)))))))) t_nil)
    (t_cons (t_set (j := 6) sc__law_grow.nd (d_call O.o__law_draw hr rfl T.m__law_draw T.F__law_draw.kp T.b__law_draw (fun σ => passAt (takes_of rfl rfl rfl rfl) σ) (d_aC (d_v 0) (d_aC (d_v 4) d_aN))))
    (t_cons (t_if (d_tcmp (o_eq hr.units) (d_v 2) d_int) (t_one (t_ret (d_call O.o__law_make hr rfl T.m__law_make T.F__law_make.kp T.b__law_make (fun σ => passAt (takes_of rfl rfl rfl rfl) σ) (d_aC d_str (d_aC (d_v 6) (d_aC (d_lst (d_aC (d_v 5) (d_aC (d_v 3) d_aN))) d_aN)))))) t_nil)
    (t_one (t_ret (d_call O.o__law_make hr rfl T.m__law_make T.F__law_make.kp T.b__law_make (fun σ => passAt (takes_of rfl rfl rfl rfl) σ) (d_aC d_str (d_aC (d_op o_add (d_v 6) (d_callB c_len rfl T.n_len boot_len_ (d_aC (d_ix (d_v 5) d_int) d_aN))) (d_aC (d_lst (d_aC (d_v 5) (d_aC (d_v 3) d_aN))) d_aN)))))))))))))))))
set_option maxHeartbeats 4000000 in
theorem ok__law_grown (T : Txt w K mg fd cv cu cl tb) (O : Oks P w K mg base fd n) : Dl.FnOk P w K mg base (L2.CX P w) (n + 1) (Fa.a ._law_grown) (fd ._law_grown) ["pool", "heap", "way", "bounds", "ways"] (rdF ⟨K, mg, W0⟩ (tab (n + 1) ._law_grown)) :=
  fn_ok (N := nl__law_grown) (g := b__law_grown (tab n)) T.F__law_grown sc__law_grown fun cdv A outer s H E hr =>
    (t_cons (t_for (passes_of rfl) rfl (w_rng1 rfl T.n_range (d_v 4)) (g_nm (j := 5) sc__law_grown.nd) (t_cons (t_set (j := 6) sc__law_grown.nd (d_call O.o__law_grow hr rfl T.m__law_grow T.F__law_grow.kp T.b__law_grow (fun σ => passAt (takes_of rfl rfl rfl rfl) σ) (d_aC (d_v 0) (d_aC (d_v 1) (d_aC (d_op o_mod (d_callT c_int rfl T.n_int boot_int_ (d_aC (d_op o_add (d_v 2) (d_v 5)) d_aN)) (d_v 4)) d_aN)))))
    (t_one (t_if (d_tv (d_call O.o__law_fits hr rfl T.m__law_fits T.F__law_fits.kp T.b__law_fits (fun σ => passAt (takes_of rfl rfl rfl rfl) σ) (d_aC (d_v 6) (d_aC (d_v 3) d_aN)))) (t_one (t_ret (d_op o_add (d_sl (d_v 1) d_oN (d_oI (d_op o_sub (d_callB c_len rfl T.n_len boot_len_ (d_aC (d_v 1) d_aN)) (d_callB c_len rfl T.n_len boot_len_ (d_aC (d_ix (d_v 6) d_int) d_aN))))) (d_lst (d_aC (d_v 6) d_aN))))) t_nil))))
    (t_one (t_ret (d_v 1))))
set_option maxHeartbeats 4000000 in
theorem ok__law_joined (T : Txt w K mg fd cv cu cl tb) (O : Oks P w K mg base fd n) : Dl.FnOk P w K mg base (L2.CX P w) (n + 1) (Fa.a ._law_joined) (fd ._law_joined) ["pool", "heap", "bounds", "ways"] (rdF ⟨K, mg, W0⟩ (tab (n + 1) ._law_joined)) :=
  fn_ok (N := nl__law_joined) (g := b__law_joined (tab n)) T.F__law_joined sc__law_joined fun cdv A outer s H E hr =>
    (t_cons (t_set (j := 4) sc__law_joined.nd d_non)
    (t_cons (t_if (d_tcmp (o_eq hr.units) (d_v 3) d_int) (t_one (t_set (j := 4) sc__law_joined.nd (d_call O.o__law_grow hr rfl T.m__law_grow T.F__law_grow.kp T.b__law_grow (fun σ => passAt (takes_of rfl rfl rfl rfl) σ) (d_aC (d_v 0) (d_aC (d_v 1) (d_aC d_int d_aN)))))) t_nil)
    (t_cons (t_if (d_not (d_tv (d_call O.o__law_fits hr rfl T.m__law_fits T.F__law_fits.kp T.b__law_fits (fun σ => passAt (takes_of rfl rfl rfl rfl) σ) (d_aC (d_v 4) (d_aC (d_v 2) d_aN))))) (t_one (t_set (j := 4) sc__law_joined.nd (d_call O.o__law_grow hr rfl T.m__law_grow T.F__law_grow.kp T.b__law_grow (fun σ => passAt (takes_of rfl rfl rfl rfl) σ) (d_aC (d_v 0) (d_aC (d_v 1) (d_aC (d_ix (d_lst (d_aC d_int (d_aC d_int (d_aC d_int d_aN)))) (d_call O.o__law_draw hr rfl T.m__law_draw T.F__law_draw.kp T.b__law_draw (fun σ => passAt (takes_of rfl rfl rfl rfl) σ) (d_aC (d_v 0) (d_aC d_int d_aN)))) d_aN)))))) t_nil)
    (t_cons (t_if (d_not (d_tv (d_call O.o__law_fits hr rfl T.m__law_fits T.F__law_fits.kp T.b__law_fits (fun σ => passAt (takes_of rfl rfl rfl rfl) σ) (d_aC (d_v 4) (d_aC (d_v 2) d_aN))))) (t_one (t_set (j := 4) sc__law_joined.nd (d_ix (d_v 1) (d_neg d_int)))) t_nil)
    (t_one (t_ret (d_op o_add (d_sl (d_v 1) d_oN (d_oI (d_neg d_int))) (d_lst (d_aC (d_v 4) d_aN)))))))))
set_option maxHeartbeats 4000000 in
theorem ok__law_paper (T : Txt w K mg fd cv cu cl tb) (O : Oks P w K mg base fd n) : Dl.FnOk P w K mg base (L2.CX P w) (n + 1) (Fa.a ._law_paper) (fd ._law_paper) ["pool", "names", "start", "turns", "bounds", "ways"] (rdF ⟨K, mg, W0⟩ (tab (n + 1) ._law_paper)) :=
  fn_ok (N := nl__law_paper) (g := b__law_paper (tab n)) T.F__law_paper sc__law_paper fun cdv A outer s H E hr =>
    (t_cons (t_set (j := 6) sc__law_paper.nd (d_lst (d_aC (d_v 2) d_aN)))
    (t_cons (t_for (passes_of rfl) rfl (w_rng1 rfl T.n_range (d_v 3)) (g_nm (j := 7) sc__law_paper.nd) (t_cons (t_set (j := 8) sc__law_paper.nd (d_call O.o__law_draw hr rfl T.m__law_draw T.F__law_draw.kp T.b__law_draw (fun σ => passAt (takes_of rfl rfl rfl rfl) σ) (d_aC (d_v 0) (d_aC (d_op o_add d_int (d_v 5)) d_aN))))
    (t_one (t_if (PW.pt (d_and (d_tcmp (o_eq hr.units) (d_v 8) d_int) (d_and (d_tcmp (o_eq hr.units) (d_v 5) d_int) (d_and1 (d_tcmp o_le (d_call O.o__law_size hr rfl T.m__law_size T.F__law_size.kp T.b__law_size (fun σ => passAt (takes_of rfl rfl rfl rfl) σ) (d_aC (d_ix (d_ix (d_v 6) (d_neg d_int)) d_int) d_aN)) d_int))))) (t_one (t_expr (d_m (T := .lst) PySem.F.plainAttrs_list PySem.F.slot_list_append PySem.F.type_list_append (by decide) m_append (d_v 6) (d_aC (d_call O.o__law_identity hr rfl T.m__law_identity T.F__law_identity.kp T.b__law_identity (fun σ => passAt (takes_of rfl rfl rfl rfl) σ) (d_aC (d_ix (d_ix (d_v 6) (d_neg d_int)) d_int) d_aN)) d_aN)))) (t_one (t_if (d_tcmp o_lt (d_v 8) d_int) (t_one (t_expr (d_m (T := .lst) PySem.F.plainAttrs_list PySem.F.slot_list_append PySem.F.type_list_append (by decide) m_append (d_v 6) (d_aC (d_call O.o__law_axiom hr rfl T.m__law_axiom T.F__law_axiom.kp T.b__law_axiom (fun σ => passAt (takes_of rfl rfl rfl rfl) σ) (d_aC (d_ix (d_v 1) (d_call O.o__law_draw hr rfl T.m__law_draw T.F__law_draw.kp T.b__law_draw (fun σ => passAt (takes_of rfl rfl rfl rfl) σ) (d_aC (d_v 0) (d_aC (d_callB c_len rfl T.n_len boot_len_ (d_aC (d_v 1) d_aN)) d_aN)))) d_aN)) d_aN)))) (t_one (t_set (j := 6) sc__law_paper.nd (d_call O.o__law_grown hr rfl T.m__law_grown T.F__law_grown.kp T.b__law_grown (fun σ => passAt (takes_of rfl rfl rfl rfl) σ) (d_aC (d_v 0) (d_aC (d_v 6) (d_aC (d_op o_sub (d_v 8) d_int) (d_aC (d_v 4) (d_aC (d_v 5) d_aN))))))))))))))
    (t_cons (t_for (passes_of rfl) rfl (w_rng1 rfl T.n_range (d_op o_sub (d_callB c_len rfl T.n_len boot_len_ (d_aC (d_v 6) d_aN)) d_int)) (g_nm (j := 7) sc__law_paper.nd) (t_one (t_set (j := 6) sc__law_paper.nd (d_call O.o__law_joined hr rfl T.m__law_joined T.F__law_joined.kp T.b__law_joined (fun σ => passAt (takes_of rfl rfl rfl rfl) σ) (d_aC (d_v 0) (d_aC (d_v 6) (d_aC (d_v 4) (d_aC (d_v 5) d_aN))))))))
    (t_one (t_ret (d_ix (d_v 6) d_int))))))
set_option maxHeartbeats 4000000 in
theorem ok__law_train (T : Txt w K mg fd cv cu cl tb) (O : Oks P w K mg base fd n) : Dl.FnOk P w K mg base (L2.CX P w) (n + 1) (Fa.a ._law_train) (fd ._law_train) ["pool", "names", "many"] (rdF ⟨K, mg, W0⟩ (tab (n + 1) ._law_train)) :=
  fn_ok (N := nl__law_train) (g := b__law_train (tab n)) T.F__law_train sc__law_train fun cdv A outer s H E hr =>
    (t_cons (t_set (j := 3) sc__law_train.nd (d_call O.o__law_axiom hr rfl T.m__law_axiom T.F__law_axiom.kp T.b__law_axiom (fun σ => passAt (takes_of rfl rfl rfl rfl) σ) (d_aC (d_ix (d_v 1) (d_call O.o__law_draw hr rfl T.m__law_draw T.F__law_draw.kp T.b__law_draw (fun σ => passAt (takes_of rfl rfl rfl rfl) σ) (d_aC (d_v 0) (d_aC (d_callB c_len rfl T.n_len boot_len_ (d_aC (d_v 1) d_aN)) d_aN)))) d_aN)))
    (t_cons (t_for (passes_of rfl) rfl (w_rng1 rfl T.n_range (d_v 2)) (g_nm (j := 4) sc__law_train.nd) (t_cons (t_set (j := 5) sc__law_train.nd (d_call O.o__law_axiom hr rfl T.m__law_axiom T.F__law_axiom.kp T.b__law_axiom (fun σ => passAt (takes_of rfl rfl rfl rfl) σ) (d_aC (d_ix (d_v 1) (d_call O.o__law_draw hr rfl T.m__law_draw T.F__law_draw.kp T.b__law_draw (fun σ => passAt (takes_of rfl rfl rfl rfl) σ) (d_aC (d_v 0) (d_aC (d_callB c_len rfl T.n_len boot_len_ (d_aC (d_v 1) d_aN)) d_aN)))) d_aN)))
    (t_cons (t_set (j := 6) sc__law_train.nd (d_call O.o__law_draw hr rfl T.m__law_draw T.F__law_draw.kp T.b__law_draw (fun σ => passAt (takes_of rfl rfl rfl rfl) σ) (d_aC (d_v 0) (d_aC (d_callB c_len rfl T.n_len boot_len_ (d_aC (d_ix (d_v 3) d_int) d_aN)) d_aN))))
    (t_one (t_if (d_tcmp (o_eq hr.units) (d_call O.o__law_draw hr rfl T.m__law_draw T.F__law_draw.kp T.b__law_draw (fun σ => passAt (takes_of rfl rfl rfl rfl) σ) (d_aC (d_v 0) (d_aC d_int d_aN))) d_int) (t_one (t_set (j := 3) sc__law_train.nd (d_call O.o__law_make hr rfl T.m__law_make T.F__law_make.kp T.b__law_make (fun σ => passAt (takes_of rfl rfl rfl rfl) σ) (d_aC d_str (d_aC (d_op o_add (d_v 6) d_int) (d_aC (d_lst (d_aC (d_v 5) (d_aC (d_v 3) d_aN))) d_aN)))))) (t_one (t_set (j := 3) sc__law_train.nd (d_call O.o__law_make hr rfl T.m__law_make T.F__law_make.kp T.b__law_make (fun σ => passAt (takes_of rfl rfl rfl rfl) σ) (d_aC d_str (d_aC (d_v 6) (d_aC (d_lst (d_aC (d_v 5) (d_aC (d_v 3) d_aN))) d_aN)))))))))))
    (t_one (t_ret (d_v 3)))))
set_option maxHeartbeats 4000000 in
theorem ok__law_mirror_kind (T : Txt w K mg fd cv cu cl tb) (O : Oks P w K mg base fd n) : Dl.FnOk P w K mg base (L2.CX P w) (n + 1) (Fa.a ._law_mirror_kind) (fd ._law_mirror_kind) ["kind"] (rdF ⟨K, mg, W0⟩ (tab (n + 1) ._law_mirror_kind)) :=
  fn_ok (N := nl__law_mirror_kind) (g := b__law_mirror_kind (tab n)) T.F__law_mirror_kind sc__law_mirror_kind fun cdv A outer s H E hr =>
    (t_cons (t_if (d_tv (d_callB (c_isi .str (by decide)) rfl T.n_isinstance boot_isinstance_ (d_aC (d_v 0) (d_aC (d_blt rfl T.n_str boot_str_ rfl) d_aN)))) (t_one (t_ret (d_v 0))) t_nil)
    (t_cons (t_set (j := 1) sc__law_mirror_kind.nd (d_call O.o__law_mirror_kind hr rfl T.m__law_mirror_kind T.F__law_mirror_kind.kp T.b__law_mirror_kind (fun σ => passAt (takes_of rfl rfl rfl rfl) σ) (d_aC (d_ix (d_v 0) d_int) d_aN)))
    (t_cons (t_set (j := 2) sc__law_mirror_kind.nd (d_call O.o__law_mirror_kind hr rfl T.m__law_mirror_kind T.F__law_mirror_kind.kp T.b__law_mirror_kind (fun σ => passAt (takes_of rfl rfl rfl rfl) σ) (d_aC (d_ix (d_v 0) d_int) d_aN)))
    (t_cons (t_if (d_tcmp (o_eq hr.units) (d_ix (d_v 0) d_int) d_str) (t_one (t_ret (d_tup (d_aC d_str (d_aC (d_v 2) (d_aC (d_v 1) d_aN)))))) t_nil)
    (t_cons (t_if (d_tcmp (o_eq hr.units) (d_ix (d_v 0) d_int) d_str) (t_one (t_ret (d_tup (d_aC d_str (d_aC (d_v 2) (d_aC (d_v 1) d_aN)))))) t_nil)
    (t_one (t_ret (d_tup (d_aC d_str (d_aC (d_v 2) (d_aC (d_v 1) d_aN)))))))))))
set_option maxHeartbeats 4000000 in
theorem ok__law_is_integer (T : Txt w K mg fd cv cu cl tb) (O : Oks P w K mg base fd n) : Dl.FnOk P w K mg base (L2.CX P w) (n + 1) (Fa.a ._law_is_integer) (fd ._law_is_integer) ["told"] (rdF ⟨K, mg, W0⟩ (tab (n + 1) ._law_is_integer)) :=
  fn_ok (N := nl__law_is_integer) (g := b__law_is_integer (tab n)) T.F__law_is_integer sc__law_is_integer fun cdv A outer s H E hr =>
    (t_one (t_ret (d_vand (d_callB (c_isi .int (by decide)) rfl T.n_isinstance boot_isinstance_ (d_aC (d_v 0) (d_aC (d_blt rfl T.n_int boot_int_ rfl) d_aN))) (d_one (d_vnot (d_callB (c_isi .bl (by decide)) rfl T.n_isinstance boot_isinstance_ (d_aC (d_v 0) (d_aC (d_blt rfl T.n_bool boot_bool_ rfl) d_aN))))))))
set_option maxHeartbeats 4000000 in
theorem ok__law_turned_rule (T : Txt w K mg fd cv cu cl tb) (O : Oks P w K mg base fd n) : Dl.FnOk P w K mg base (L2.CX P w) (n + 1) (Fa.a ._law_turned_rule) (fd ._law_turned_rule) ["rule"] (rdF ⟨K, mg, W0⟩ (tab (n + 1) ._law_turned_rule)) :=
  fn_ok (N := nl__law_turned_rule) (g := b__law_turned_rule (tab n)) T.F__law_turned_rule sc__law_turned_rule fun cdv A outer s H E hr =>
    (t_cons (t_if (d_tcmp (o_eq hr.units) (d_v 0) d_str) (t_one (t_ret d_str)) t_nil)
    (t_cons (t_if (d_tcmp (o_eq hr.units) (d_v 0) d_str) (t_one (t_ret d_str)) t_nil)
    (t_cons (t_if (d_tcmp (o_eq hr.units) (d_v 0) d_str) (t_one (t_ret d_str)) t_nil)
    (t_cons (t_if (d_tcmp (o_eq hr.units) (d_v 0) d_str) (t_one (t_ret d_str)) t_nil)
    (t_one (t_ret (d_v 0)))))))
set_option maxHeartbeats 4000000 in
theorem ok__law_turned_place (T : Txt w K mg fd cv cu cl tb) (O : Oks P w K mg base fd n) : Dl.FnOk P w K mg base (L2.CX P w) (n + 1) (Fa.a ._law_turned_place) (fd ._law_turned_place) ["step"] (rdF ⟨K, mg, W0⟩ (tab (n + 1) ._law_turned_place)) :=
  fn_ok (N := nl__law_turned_place) (g := b__law_turned_place (tab n)) T.F__law_turned_place sc__law_turned_place fun cdv A outer s H E hr =>
    (t_cons (t_set (j := 1) sc__law_turned_place.nd (d_callB c_len rfl T.n_len boot_len_ (d_aC (d_ix (d_v 0) d_int) d_aN)))
    (t_cons (t_if (d_tcmp (o_in (r65 hr)) (d_ix (d_v 0) d_int) (d_lst (d_aC d_str (d_aC d_str (d_aC d_str d_aN))))) (t_one (t_ret d_int)) t_nil)
    (t_cons (t_if (d_tcmp (o_eq hr.units) (d_ix (d_v 0) d_int) d_str) (t_one (t_ret (d_op o_sub (d_v 1) (d_ix (d_v 0) d_int)))) t_nil)
    (t_cons (t_if (d_tcmp (o_eq hr.units) (d_ix (d_v 0) d_int) d_str) (t_one (t_ret (d_op o_sub (d_op o_sub (d_v 1) (d_ix (d_v 0) d_int)) (d_ix (d_v 0) d_int)))) t_nil)
    (t_one (t_ret (d_op o_sub (d_op o_sub (d_v 1) d_int) (d_ix (d_v 0) d_int))))))))
set_option maxHeartbeats 4000000 in
theorem ok__law_turns (T : Txt w K mg fd cv cu cl tb) (O : Oks P w K mg base fd n) : Dl.FnOk P w K mg base (L2.CX P w) (n + 1) (Fa.a ._law_turns) (fd ._law_turns) ["step", "told"] (rdF ⟨K, mg, W0⟩ (tab (n + 1) ._law_turns)) :=
  fn_ok (N := nl__law_turns) (g := b__law_turns (tab n)) T.F__law_turns sc__law_turns fun cdv A outer s H E hr =>
    (t_cons (t_if (PW.pt (d_or (d_not (d_tv (d_callB (c_isi .tup (by decide)) rfl T.n_isinstance boot_isinstance_ (d_aC (d_v 1) (d_aC (d_blt rfl T.n_tuple boot_tuple_ rfl) d_aN))))) (d_or1 (d_tcmp (o_ne hr.units) (d_callB c_len rfl T.n_len boot_len_ (d_aC (d_v 1) d_aN)) d_int)))) (t_one (t_ret d_bl)) t_nil)
    (t_cons (t_set (j := 2) sc__law_turns.nd (d_callT c_tuple rfl T.n_tuple boot_tuple_ (d_aC (d_lc (own := [("kind", 3)]) (g := (.one 3)) rfl sc__law_turns.nd (w_rev rfl T.n_reversed (d_ix (d_v 0) d_int)) (blkOk_by (own := [("kind", 3)]) (N := nl__law_turns) (sc := defScope st__law_turns) (by decide +kernel)) (by decide) (fun _ _ _ _ _ => (v_one sc__law_turns.nd)) (fun _ _ _ _ _ => u_nil) (fun _ _ _ _ _ => (d_call O.o__law_mirror_kind hr rfl T.m__law_mirror_kind T.F__law_mirror_kind.kp T.b__law_mirror_kind (fun σ => passB) (d_aC (d_v 3) d_aN)))) d_aN)))
    (t_cons (t_if (d_tcmp (o_ne hr.units) (d_sl (d_v 1) d_oN (d_oI d_int)) (d_tup (d_aC (d_call O.o__law_turned_rule hr rfl T.m__law_turned_rule T.F__law_turned_rule.kp T.b__law_turned_rule (fun σ => passAt (takes_of rfl rfl rfl rfl) σ) (d_aC (d_ix (d_v 0) d_int) d_aN)) (d_aC (d_v 2) (d_aC (d_call O.o__law_mirror_kind hr rfl T.m__law_mirror_kind T.F__law_mirror_kind.kp T.b__law_mirror_kind (fun σ => passAt (takes_of rfl rfl rfl rfl) σ) (d_aC (d_ix (d_v 0) d_int) d_aN)) d_aN))))) (t_one (t_ret d_bl)) t_nil)
    (t_cons (t_if (PW.pt (d_or (d_not (d_tv (d_call O.o__law_is_integer hr rfl T.m__law_is_integer T.F__law_is_integer.kp T.b__law_is_integer (fun σ => passAt (takes_of rfl rfl rfl rfl) σ) (d_aC (d_ix (d_v 1) d_int) d_aN)))) (d_or1 (d_not (d_tv (d_call O.o__law_is_integer hr rfl T.m__law_is_integer T.F__law_is_integer.kp T.b__law_is_integer (fun σ => passAt (takes_of rfl rfl rfl rfl) σ) (d_aC (d_ix (d_v 1) d_int) d_aN))))))) (t_one (t_ret d_bl)) t_nil)
    (t_cons (t_if (PW.pt (d_or (d_tcmp (o_ne hr.units) (d_ix (d_v 1) d_int) (d_call O.o__law_turned_place hr rfl T.m__law_turned_place T.F__law_turned_place.kp T.b__law_turned_place (fun σ => passAt (takes_of rfl rfl rfl rfl) σ) (d_aC (d_v 0) d_aN))) (d_or1 (d_tcmp (o_ne hr.units) (d_ix (d_v 1) d_int) (d_ix (d_v 0) d_int))))) (t_one (t_ret d_bl)) t_nil)
    (t_one (t_ret (d_vand (d_callB (c_isi .tup (by decide)) rfl T.n_isinstance boot_isinstance_ (d_aC (d_ix (d_v 1) d_int) (d_aC (d_blt rfl T.n_tuple boot_tuple_ rfl) d_aN))) (d_one (d_cmp (o_eq hr.units) (d_callB c_len rfl T.n_len boot_len_ (d_aC (d_ix (d_v 1) d_int) d_aN)) (d_callB c_len rfl T.n_len boot_len_ (d_aC (d_ix (d_v 0) d_int) d_aN))))))))))))
set_option maxHeartbeats 4000000 in
theorem ok__law_mirrors (T : Txt w K mg fd cv cu cl tb) (O : Oks P w K mg base fd n) : Dl.FnOk P w K mg base (L2.CX P w) (n + 1) (Fa.a ._law_mirrors) (fd ._law_mirrors) ["paper", "told"] (rdF ⟨K, mg, W0⟩ (tab (n + 1) ._law_mirrors)) :=
  fn_ok (N := nl__law_mirrors) (g := b__law_mirrors (tab n)) T.F__law_mirrors sc__law_mirrors fun cdv A outer s H E hr =>
    (t_cons (t_set (j := 2) sc__law_mirrors.nd (d_lst (d_aC (d_tup (d_aC (d_v 0) (d_aC (d_v 1) d_aN))) d_aN)))
    (t_cons (t_for (passes_of rfl) rfl (w_rng1 rfl T.n_range d_int) (g_nm (j := 3) sc__law_mirrors.nd) (t_cons (t_if (d_tcmp (o_eq hr.units) (d_callB c_len rfl T.n_len boot_len_ (d_aC (d_v 2) d_aN)) d_int) (t_one (t_ret d_bl)) t_nil)
    (t_cons (t_asg (d_m0 (T := .lst) PySem.F.plainAttrs_list PySem.F.slot_list_pop PySem.F.type_list_pop (by decide) m_pop (d_v 2)) (g_seq rfl (g_cons (g_nm (j := 6) sc__law_mirrors.nd) (g_cons (g_nm (j := 7) sc__law_mirrors.nd) g_nil))))
    (t_cons (t_if (d_not (d_tv (d_call O.o__law_turns hr rfl T.m__law_turns T.F__law_turns.kp T.b__law_turns (fun σ => passAt (takes_of rfl rfl rfl rfl) σ) (d_aC (d_v 6) (d_aC (d_v 7) d_aN))))) (t_one (t_ret d_bl)) t_nil)
    (t_cons (t_set (j := 4) sc__law_mirrors.nd (d_callT c_list rfl T.n_list boot_list_ (d_aC (d_ix (d_v 6) d_int) d_aN)))
    (t_cons (t_if (d_tcmp (o_eq hr.units) (d_ix (d_v 6) d_int) d_str) (t_one (t_set (j := 4) sc__law_mirrors.nd (d_lst (d_aC (d_ix (d_ix (d_v 6) d_int) d_int) (d_aC (d_ix (d_ix (d_v 6) d_int) d_int) d_aN))))) t_nil)
    (t_one (t_for (passes_of rfl) rfl (w_rng1 rfl T.n_range (d_callB c_len rfl T.n_len boot_len_ (d_aC (d_v 4) d_aN))) (g_nm (j := 5) sc__law_mirrors.nd) (t_one (t_expr (d_m (T := .lst) PySem.F.plainAttrs_list PySem.F.slot_list_append PySem.F.type_list_append (by decide) m_append (d_v 2) (d_aC (d_tup (d_aC (d_ix (d_v 4) (d_v 5)) (d_aC (d_ix (d_ix (d_v 7) d_int) (d_v 5)) d_aN))) d_aN))))))))))))
    (t_one (t_ret d_bl))))
set_option maxHeartbeats 4000000 in
theorem ok__law_some_paper (T : Txt w K mg fd cv cu cl tb) (O : Oks P w K mg base fd n) : Dl.FnOk P w K mg base (L2.CX P w) (n + 1) (Fa.a ._law_some_paper) (fd ._law_some_paper) ["pool"] (rdF ⟨K, mg, W0⟩ (tab (n + 1) ._law_some_paper)) :=
  fn_ok (N := nl__law_some_paper) (g := b__law_some_paper (tab n)) T.F__law_some_paper sc__law_some_paper fun cdv A outer s H E hr =>
    (t_cons (t_set (j := 1) sc__law_some_paper.nd (d_call O.o__law_names hr rfl T.m__law_names T.F__law_names.kp T.b__law_names (fun σ => passAt (takes_of rfl rfl rfl rfl) σ) (d_aC (d_v 0) (d_aC (d_ix (d_lst (d_aC d_int (d_aC d_int (d_aC d_int (d_aC d_int d_aN))))) (d_call O.o__law_draw hr rfl T.m__law_draw T.F__law_draw.kp T.b__law_draw (fun σ => passAt (takes_of rfl rfl rfl rfl) σ) (d_aC (d_v 0) (d_aC d_int d_aN)))) d_aN))))
    (t_cons (t_if (d_tcmp (o_eq hr.units) (d_call O.o__law_draw hr rfl T.m__law_draw T.F__law_draw.kp T.b__law_draw (fun σ => passAt (takes_of rfl rfl rfl rfl) σ) (d_aC (d_v 0) (d_aC d_int d_aN))) d_int) (t_one (t_set (j := 1) sc__law_some_paper.nd (d_call O.o__law_twins hr rfl T.m__law_twins T.F__law_twins.kp T.b__law_twins (fun σ => passAt (takes_of rfl rfl rfl rfl) σ) (d_aC (d_v 0) (d_aC (d_v 1) d_aN))))) t_nil)
    (t_cons (t_set (j := 2) sc__law_some_paper.nd (d_call O.o__law_draw hr rfl T.m__law_draw T.F__law_draw.kp T.b__law_draw (fun σ => passAt (takes_of rfl rfl rfl rfl) σ) (d_aC (d_v 0) (d_aC d_int d_aN))))
    (t_cons (t_if (d_tcmp (o_eq hr.units) (d_v 2) d_int) (t_one (t_ret (d_call O.o__law_train hr rfl T.m__law_train T.F__law_train.kp T.b__law_train (fun σ => passAt (takes_of rfl rfl rfl rfl) σ) (d_aC (d_v 0) (d_aC (d_v 1) (d_aC (d_call O.o__law_draw hr rfl T.m__law_draw T.F__law_draw.kp T.b__law_draw (fun σ => passAt (takes_of rfl rfl rfl rfl) σ) (d_aC (d_v 0) (d_aC d_int d_aN))) d_aN)))))) t_nil)
    (t_cons (t_if (d_tcmp (o_eq hr.units) (d_v 2) d_int) (t_cons (t_set (j := 4) sc__law_some_paper.nd (d_call O.o__law_kind hr rfl T.m__law_kind T.F__law_kind.kp T.b__law_kind (fun σ => passAt (takes_of rfl rfl rfl rfl) σ) (d_aC (d_v 0) (d_aC (d_v 1) (d_aC (d_op o_add d_int (d_call O.o__law_draw hr rfl T.m__law_draw T.F__law_draw.kp T.b__law_draw (fun σ => passAt (takes_of rfl rfl rfl rfl) σ) (d_aC (d_v 0) (d_aC d_int d_aN)))) d_aN)))))
    (t_one (t_ret (d_call O.o__law_paper hr rfl T.m__law_paper T.F__law_paper.kp T.b__law_paper (fun σ => passAt (takes_of rfl rfl rfl rfl) σ) (d_aC (d_v 0) (d_aC (d_v 1) (d_aC (d_call O.o__law_identity hr rfl T.m__law_identity T.F__law_identity.kp T.b__law_identity (fun σ => passAt (takes_of rfl rfl rfl rfl) σ) (d_aC (d_v 4) d_aN)) (d_aC (d_call O.o__law_draw hr rfl T.m__law_draw T.F__law_draw.kp T.b__law_draw (fun σ => passAt (takes_of rfl rfl rfl rfl) σ) (d_aC (d_v 0) (d_aC d_int d_aN))) (d_aC (d_lst (d_aC d_int (d_aC d_int (d_aC d_int d_aN)))) (d_aC d_int d_aN)))))))))) t_nil)
    (t_cons (t_set (j := 3) sc__law_some_paper.nd (d_call O.o__law_axiom hr rfl T.m__law_axiom T.F__law_axiom.kp T.b__law_axiom (fun σ => passAt (takes_of rfl rfl rfl rfl) σ) (d_aC (d_ix (d_v 1) (d_call O.o__law_draw hr rfl T.m__law_draw T.F__law_draw.kp T.b__law_draw (fun σ => passAt (takes_of rfl rfl rfl rfl) σ) (d_aC (d_v 0) (d_aC (d_callB c_len rfl T.n_len boot_len_ (d_aC (d_v 1) d_aN)) d_aN)))) d_aN)))
    (t_one (t_ret (d_call O.o__law_paper hr rfl T.m__law_paper T.F__law_paper.kp T.b__law_paper (fun σ => passAt (takes_of rfl rfl rfl rfl) σ) (d_aC (d_v 0) (d_aC (d_v 1) (d_aC (d_v 3) (d_aC (d_call O.o__law_draw hr rfl T.m__law_draw T.F__law_draw.kp T.b__law_draw (fun σ => passAt (takes_of rfl rfl rfl rfl) σ) (d_aC (d_v 0) (d_aC d_int d_aN))) (d_aC (d_lst (d_aC d_int (d_aC d_int (d_aC d_int d_aN)))) (d_aC (d_op o_add d_int (d_callT c_int rfl T.n_int boot_int_ (d_aC (d_cmp o_gt (d_v 2) d_int) d_aN))) d_aN)))))))))))))))
set_option maxHeartbeats 4000000 in
theorem ok_law (T : Txt w K mg fd cv cu cl tb) (O : Oks P w K mg base fd n) : Dl.FnOk P w K mg base (L2.CX P w) (n + 1) (Fa.a .law) (fd .law) ["script"] (rdF ⟨K, mg, W0⟩ (tab (n + 1) .law)) :=
  fn_ok (N := nl_law) (g := b_law n (tab n)) T.F_law sc_law fun cdv A outer s H E hr =>
    (t_cons (t_set (j := 1) sc_law.nd (d_call O.o__law_some_paper hr rfl T.m__law_some_paper T.F__law_some_paper.kp T.b__law_some_paper (fun σ => passAt (takes_of rfl rfl rfl rfl) σ) (d_aC (d_call O.o__law_pool hr rfl T.m__law_pool T.F__law_pool.kp T.b__law_pool (fun σ => passAt (takes_of rfl rfl rfl rfl) σ) (d_aC (d_v 0) (d_aC d_int d_aN))) d_aN)))
    (t_cons (t_set (j := 2) sc_law.nd (d_call O.o__law_some_paper hr rfl T.m__law_some_paper T.F__law_some_paper.kp T.b__law_some_paper (fun σ => passAt (takes_of rfl rfl rfl rfl) σ) (d_aC (d_call O.o__law_pool hr rfl T.m__law_pool T.F__law_pool.kp T.b__law_pool (fun σ => passAt (takes_of rfl rfl rfl rfl) σ) (d_aC (d_v 0) (d_aC d_int d_aN))) d_aN)))
    (t_cons (t_set (j := 3) sc_law.nd (d_call O.o_mirror_derivation hr rfl T.m_mirror_derivation T.F_mirror_derivation.kp T.b_mirror_derivation (fun σ => passAt (takes_of rfl rfl rfl rfl) σ) (d_aC (d_v 1) d_aN)))
    (t_cons (t_if (d_not (d_tv (d_call O.o__law_mirrors hr rfl T.m__law_mirrors T.F__law_mirrors.kp T.b__law_mirrors (fun σ => passAt (takes_of rfl rfl rfl rfl) σ) (d_aC (d_v 1) (d_aC (d_v 3) d_aN))))) (t_one (t_ret d_bl)) t_nil)
    (t_cons (t_set (j := 4) sc_law.nd (d_callB (c_repr hr.gs (rW hr)) rfl T.n_repr boot_repr_ (d_aC (d_v 3) d_aN)))
    (t_cons (t_if (d_not (d_tv (d_call O.o__law_mirrors hr rfl T.m__law_mirrors T.F__law_mirrors.kp T.b__law_mirrors (fun σ => passAt (takes_of rfl rfl rfl rfl) σ) (d_aC (d_v 2) (d_aC (d_call O.o_mirror_derivation hr rfl T.m_mirror_derivation T.F_mirror_derivation.kp T.b_mirror_derivation (fun σ => passAt (takes_of rfl rfl rfl rfl) σ) (d_aC (d_v 2) d_aN)) d_aN))))) (t_one (t_ret d_bl)) t_nil)
    (t_cons (t_set (j := 5) sc_law.nd (d_call O.o_mirror_derivation hr rfl T.m_mirror_derivation T.F_mirror_derivation.kp T.b_mirror_derivation (fun σ => passAt (takes_of rfl rfl rfl rfl) σ) (d_aC (d_v 3) d_aN)))
    (t_cons (t_if (PW.pt (d_or (d_not (d_tv (d_call O.o__law_mirrors hr rfl T.m__law_mirrors T.F__law_mirrors.kp T.b__law_mirrors (fun σ => passAt (takes_of rfl rfl rfl rfl) σ) (d_aC (d_v 3) (d_aC (d_v 5) d_aN))))) (d_or1 (d_tcmp (o_neW (rW hr)) (d_v 5) (d_v 1))))) (t_one (t_ret d_bl)) t_nil)
    (t_one (t_ret (d_cmp (o_eqW (rW hr)) (d_callB (c_repr hr.gs (rW hr)) rfl T.n_repr boot_repr_ (d_aC (d_call O.o_mirror_derivation hr rfl T.m_mirror_derivation T.F_mirror_derivation.kp T.b_mirror_derivation (fun σ => passAt (takes_of rfl rfl rfl rfl) σ) (d_aC (d_v 1) d_aN)) d_aN)) (d_v 4))))))))))))
theorem oks (T : Txt w K mg fd cv cu cl tb) : ∀ n : Nat, Oks P w K mg base fd n
  | 0 => ⟨fn_zero, fn_zero, fn_zero, fn_zero, fn_zero, fn_zero, fn_zero, fn_zero, fn_zero, fn_zero, fn_zero, fn_zero, fn_zero, fn_zero, fn_zero, fn_zero, fn_zero, fn_zero, fn_zero, fn_zero, fn_zero, fn_zero, fn_zero, fn_zero, fn_zero, fn_zero, fn_zero, fn_zero, fn_zero, fn_zero, fn_zero, fn_zero, fn_zero, fn_zero, fn_zero, fn_zero, fn_zero⟩
  | n + 1 => by
    have O := oks T n
    exact ⟨ok_sequent_of T O, ok_by_over_right T O, ok_by_under_right T O, ok_by_pair_right T O, ok_by_over_left T O, ok_by_under_left T O, ok_by_pair_left T O, ok_by_cut T O, ok_build_step T O, ok_mirror_place T O, ok_mirror_derivation T O, ok__law_cell T O, ok__law_mix T O, ok__law_pool T O, ok__law_draw T O, ok__law_names T O, ok__law_twins T O, ok__law_kind T O, ok__law_size T O, ok__law_line T O, ok__law_axiom T O, ok__law_make T O, ok__law_identity T O, ok__law_fits T O, ok__law_grow T O, ok__law_grown T O, ok__law_joined T O, ok__law_paper T O, ok__law_train T O, ok__law_mirror_kind T O, ok__law_is_integer T O, ok__law_turned_rule T O, ok__law_turned_place T O, ok__law_turns T O, ok__law_mirrors T O, ok__law_some_paper T O, ok_law T O⟩
end
set_option maxHeartbeats 4000000 in
theorem all_mk (LV : Nat) {l : PySem.W.OpenLaw} {w : World} {K : PySem.W.Frag} {h : Heap} {mg : Str → Option Value} {fa : Addr} (X : K.In h) (G : h.Ns mainGlobals mg) (hfa : mg "law" = some (.ref fa))
    {f0 : Addr} {od0 an0 : Option Addr} {sl0 : Array (Option Value)} {oc0 kV0 dc0 pm0 cd0 ct0 : Value}
    {f1 : Addr} {od1 an1 : Option Addr} {sl1 : Array (Option Value)} {oc1 kV1 dc1 pm1 cd1 ct1 : Value}
    {f2 : Addr} {od2 an2 : Option Addr} {sl2 : Array (Option Value)} {oc2 kV2 dc2 pm2 cd2 ct2 : Value}
    {f3 : Addr} {od3 an3 : Option Addr} {sl3 : Array (Option Value)} {oc3 kV3 dc3 pm3 cd3 ct3 : Value}
    {f4 : Addr} {od4 an4 : Option Addr} {sl4 : Array (Option Value)} {oc4 kV4 dc4 pm4 cd4 ct4 : Value}
    {f5 : Addr} {od5 an5 : Option Addr} {sl5 : Array (Option Value)} {oc5 kV5 dc5 pm5 cd5 ct5 : Value}
    {f6 : Addr} {od6 an6 : Option Addr} {sl6 : Array (Option Value)} {oc6 kV6 dc6 pm6 cd6 ct6 : Value}
    {f7 : Addr} {od7 an7 : Option Addr} {sl7 : Array (Option Value)} {oc7 kV7 dc7 pm7 cd7 ct7 : Value}
    {f8 : Addr} {od8 an8 : Option Addr} {sl8 : Array (Option Value)} {oc8 kV8 dc8 pm8 cd8 ct8 : Value}
    {f9 : Addr} {od9 an9 : Option Addr} {sl9 : Array (Option Value)} {oc9 kV9 dc9 pm9 cd9 ct9 : Value}
    {f10 : Addr} {od10 an10 : Option Addr} {sl10 : Array (Option Value)} {oc10 kV10 dc10 pm10 cd10 ct10 : Value}
    {f11 : Addr} {od11 an11 : Option Addr} {sl11 : Array (Option Value)} {oc11 kV11 dc11 pm11 cd11 ct11 : Value}
    {f12 : Addr} {od12 an12 : Option Addr} {sl12 : Array (Option Value)} {oc12 kV12 dc12 pm12 cd12 ct12 : Value}
    {f13 : Addr} {od13 an13 : Option Addr} {sl13 : Array (Option Value)} {oc13 kV13 dc13 pm13 cd13 ct13 : Value}
    {f14 : Addr} {od14 an14 : Option Addr} {sl14 : Array (Option Value)} {oc14 kV14 dc14 pm14 cd14 ct14 : Value}
    {f15 : Addr} {od15 an15 : Option Addr} {sl15 : Array (Option Value)} {oc15 kV15 dc15 pm15 cd15 ct15 : Value}
    {f16 : Addr} {od16 an16 : Option Addr} {sl16 : Array (Option Value)} {oc16 kV16 dc16 pm16 cd16 ct16 : Value}
    {f17 : Addr} {od17 an17 : Option Addr} {sl17 : Array (Option Value)} {oc17 kV17 dc17 pm17 cd17 ct17 : Value}
    {f18 : Addr} {od18 an18 : Option Addr} {sl18 : Array (Option Value)} {oc18 kV18 dc18 pm18 cd18 ct18 : Value}
    {f19 : Addr} {od19 an19 : Option Addr} {sl19 : Array (Option Value)} {oc19 kV19 dc19 pm19 cd19 ct19 : Value}
    {f20 : Addr} {od20 an20 : Option Addr} {sl20 : Array (Option Value)} {oc20 kV20 dc20 pm20 cd20 ct20 : Value}
    {f21 : Addr} {od21 an21 : Option Addr} {sl21 : Array (Option Value)} {oc21 kV21 dc21 pm21 cd21 ct21 : Value}
    {f22 : Addr} {od22 an22 : Option Addr} {sl22 : Array (Option Value)} {oc22 kV22 dc22 pm22 cd22 ct22 : Value}
    {f23 : Addr} {od23 an23 : Option Addr} {sl23 : Array (Option Value)} {oc23 kV23 dc23 pm23 cd23 ct23 : Value}
    {f24 : Addr} {od24 an24 : Option Addr} {sl24 : Array (Option Value)} {oc24 kV24 dc24 pm24 cd24 ct24 : Value}
    {f25 : Addr} {od25 an25 : Option Addr} {sl25 : Array (Option Value)} {oc25 kV25 dc25 pm25 cd25 ct25 : Value}
    {f26 : Addr} {od26 an26 : Option Addr} {sl26 : Array (Option Value)} {oc26 kV26 dc26 pm26 cd26 ct26 : Value}
    {f27 : Addr} {od27 an27 : Option Addr} {sl27 : Array (Option Value)} {oc27 kV27 dc27 pm27 cd27 ct27 : Value}
    {f28 : Addr} {od28 an28 : Option Addr} {sl28 : Array (Option Value)} {oc28 kV28 dc28 pm28 cd28 ct28 : Value}
    {f29 : Addr} {od29 an29 : Option Addr} {sl29 : Array (Option Value)} {oc29 kV29 dc29 pm29 cd29 ct29 : Value}
    {f30 : Addr} {od30 an30 : Option Addr} {sl30 : Array (Option Value)} {oc30 kV30 dc30 pm30 cd30 ct30 : Value}
    {f31 : Addr} {od31 an31 : Option Addr} {sl31 : Array (Option Value)} {oc31 kV31 dc31 pm31 cd31 ct31 : Value}
    {f32 : Addr} {od32 an32 : Option Addr} {sl32 : Array (Option Value)} {oc32 kV32 dc32 pm32 cd32 ct32 : Value}
    {f33 : Addr} {od33 an33 : Option Addr} {sl33 : Array (Option Value)} {oc33 kV33 dc33 pm33 cd33 ct33 : Value}
    {f34 : Addr} {od34 an34 : Option Addr} {sl34 : Array (Option Value)} {oc34 kV34 dc34 pm34 cd34 ct34 : Value}
    {f35 : Addr} {od35 an35 : Option Addr} {sl35 : Array (Option Value)} {oc35 kV35 dc35 pm35 cd35 ct35 : Value}
    {f36 : Addr} {od36 an36 : Option Addr} {sl36 : Array (Option Value)} {oc36 kV36 dc36 pm36 cd36 ct36 : Value}
    (a0 : PySem.W.nsIn K mainGlobals "sequent_of" = some (some (.ref f0))) (l0 : K.lookup f0 = some ⟨oc0, od0, .func (PySem.W.fnOf "sequent_of" "sequent_of" (defArgs st_sequent_of) (defBody st_sequent_of) (defScope st_sequent_of) .none kV0 dc0 pm0 an0 cd0 ct0), sl0⟩) (c0 : PySem.W.codeIn K cd0 "sequent_of" = true) (k0 : PySem.W.keepIn K (.ref f0) = true)
    (a1 : PySem.W.nsIn K mainGlobals "by_over_right" = some (some (.ref f1))) (l1 : K.lookup f1 = some ⟨oc1, od1, .func (PySem.W.fnOf "by_over_right" "by_over_right" (defArgs st_by_over_right) (defBody st_by_over_right) (defScope st_by_over_right) .none kV1 dc1 pm1 an1 cd1 ct1), sl1⟩) (c1 : PySem.W.codeIn K cd1 "by_over_right" = true) (k1 : PySem.W.keepIn K (.ref f1) = true)
    (a2 : PySem.W.nsIn K mainGlobals "by_under_right" = some (some (.ref f2))) (l2 : K.lookup f2 = some ⟨oc2, od2, .func (PySem.W.fnOf "by_under_right" "by_under_right" (defArgs st_by_under_right) (defBody st_by_under_right) (defScope st_by_under_right) .none kV2 dc2 pm2 an2 cd2 ct2), sl2⟩) (c2 : PySem.W.codeIn K cd2 "by_under_right" = true) (k2 : PySem.W.keepIn K (.ref f2) = true)
    (a3 : PySem.W.nsIn K mainGlobals "by_pair_right" = some (some (.ref f3))) (l3 : K.lookup f3 = some ⟨oc3, od3, .func (PySem.W.fnOf "by_pair_right" "by_pair_right" (defArgs st_by_pair_right) (defBody st_by_pair_right) (defScope st_by_pair_right) .none kV3 dc3 pm3 an3 cd3 ct3), sl3⟩) (c3 : PySem.W.codeIn K cd3 "by_pair_right" = true) (k3 : PySem.W.keepIn K (.ref f3) = true)
    (a4 : PySem.W.nsIn K mainGlobals "by_over_left" = some (some (.ref f4))) (l4 : K.lookup f4 = some ⟨oc4, od4, .func (PySem.W.fnOf "by_over_left" "by_over_left" (defArgs st_by_over_left) (defBody st_by_over_left) (defScope st_by_over_left) .none kV4 dc4 pm4 an4 cd4 ct4), sl4⟩) (c4 : PySem.W.codeIn K cd4 "by_over_left" = true) (k4 : PySem.W.keepIn K (.ref f4) = true)
    (a5 : PySem.W.nsIn K mainGlobals "by_under_left" = some (some (.ref f5))) (l5 : K.lookup f5 = some ⟨oc5, od5, .func (PySem.W.fnOf "by_under_left" "by_under_left" (defArgs st_by_under_left) (defBody st_by_under_left) (defScope st_by_under_left) .none kV5 dc5 pm5 an5 cd5 ct5), sl5⟩) (c5 : PySem.W.codeIn K cd5 "by_under_left" = true) (k5 : PySem.W.keepIn K (.ref f5) = true)
    (a6 : PySem.W.nsIn K mainGlobals "by_pair_left" = some (some (.ref f6))) (l6 : K.lookup f6 = some ⟨oc6, od6, .func (PySem.W.fnOf "by_pair_left" "by_pair_left" (defArgs st_by_pair_left) (defBody st_by_pair_left) (defScope st_by_pair_left) .none kV6 dc6 pm6 an6 cd6 ct6), sl6⟩) (c6 : PySem.W.codeIn K cd6 "by_pair_left" = true) (k6 : PySem.W.keepIn K (.ref f6) = true)
    (a7 : PySem.W.nsIn K mainGlobals "by_cut" = some (some (.ref f7))) (l7 : K.lookup f7 = some ⟨oc7, od7, .func (PySem.W.fnOf "by_cut" "by_cut" (defArgs st_by_cut) (defBody st_by_cut) (defScope st_by_cut) .none kV7 dc7 pm7 an7 cd7 ct7), sl7⟩) (c7 : PySem.W.codeIn K cd7 "by_cut" = true) (k7 : PySem.W.keepIn K (.ref f7) = true)
    (a8 : PySem.W.nsIn K mainGlobals "build_step" = some (some (.ref f8))) (l8 : K.lookup f8 = some ⟨oc8, od8, .func (PySem.W.fnOf "build_step" "build_step" (defArgs st_build_step) (defBody st_build_step) (defScope st_build_step) .none kV8 dc8 pm8 an8 cd8 ct8), sl8⟩) (c8 : PySem.W.codeIn K cd8 "build_step" = true) (k8 : PySem.W.keepIn K (.ref f8) = true)
    (a9 : PySem.W.nsIn K mainGlobals "mirror_place" = some (some (.ref f9))) (l9 : K.lookup f9 = some ⟨oc9, od9, .func (PySem.W.fnOf "mirror_place" "mirror_place" (defArgs st_mirror_place) (defBody st_mirror_place) (defScope st_mirror_place) .none kV9 dc9 pm9 an9 cd9 ct9), sl9⟩) (c9 : PySem.W.codeIn K cd9 "mirror_place" = true) (k9 : PySem.W.keepIn K (.ref f9) = true)
    (a10 : PySem.W.nsIn K mainGlobals "mirror_derivation" = some (some (.ref f10))) (l10 : K.lookup f10 = some ⟨oc10, od10, .func (PySem.W.fnOf "mirror_derivation" "mirror_derivation" (defArgs st_mirror_derivation) (defBody st_mirror_derivation) (defScope st_mirror_derivation) .none kV10 dc10 pm10 an10 cd10 ct10), sl10⟩) (c10 : PySem.W.codeIn K cd10 "mirror_derivation" = true) (k10 : PySem.W.keepIn K (.ref f10) = true)
    (a11 : PySem.W.nsIn K mainGlobals "_law_cell" = some (some (.ref f11))) (l11 : K.lookup f11 = some ⟨oc11, od11, .func (PySem.W.fnOf "_law_cell" "_law_cell" (defArgs st__law_cell) (defBody st__law_cell) (defScope st__law_cell) .none kV11 dc11 pm11 an11 cd11 ct11), sl11⟩) (c11 : PySem.W.codeIn K cd11 "_law_cell" = true) (k11 : PySem.W.keepIn K (.ref f11) = true)
    (a12 : PySem.W.nsIn K mainGlobals "_law_mix" = some (some (.ref f12))) (l12 : K.lookup f12 = some ⟨oc12, od12, .func (PySem.W.fnOf "_law_mix" "_law_mix" (defArgs st__law_mix) (defBody st__law_mix) (defScope st__law_mix) .none kV12 dc12 pm12 an12 cd12 ct12), sl12⟩) (c12 : PySem.W.codeIn K cd12 "_law_mix" = true) (k12 : PySem.W.keepIn K (.ref f12) = true)
    (a13 : PySem.W.nsIn K mainGlobals "_law_pool" = some (some (.ref f13))) (l13 : K.lookup f13 = some ⟨oc13, od13, .func (PySem.W.fnOf "_law_pool" "_law_pool" (defArgs st__law_pool) (defBody st__law_pool) (defScope st__law_pool) .none kV13 dc13 pm13 an13 cd13 ct13), sl13⟩) (c13 : PySem.W.codeIn K cd13 "_law_pool" = true) (k13 : PySem.W.keepIn K (.ref f13) = true)
    (a14 : PySem.W.nsIn K mainGlobals "_law_draw" = some (some (.ref f14))) (l14 : K.lookup f14 = some ⟨oc14, od14, .func (PySem.W.fnOf "_law_draw" "_law_draw" (defArgs st__law_draw) (defBody st__law_draw) (defScope st__law_draw) .none kV14 dc14 pm14 an14 cd14 ct14), sl14⟩) (c14 : PySem.W.codeIn K cd14 "_law_draw" = true) (k14 : PySem.W.keepIn K (.ref f14) = true)
    (a15 : PySem.W.nsIn K mainGlobals "_law_names" = some (some (.ref f15))) (l15 : K.lookup f15 = some ⟨oc15, od15, .func (PySem.W.fnOf "_law_names" "_law_names" (defArgs st__law_names) (defBody st__law_names) (defScope st__law_names) .none kV15 dc15 pm15 an15 cd15 ct15), sl15⟩) (c15 : PySem.W.codeIn K cd15 "_law_names" = true) (k15 : PySem.W.keepIn K (.ref f15) = true)
    (a16 : PySem.W.nsIn K mainGlobals "_law_twins" = some (some (.ref f16))) (l16 : K.lookup f16 = some ⟨oc16, od16, .func (PySem.W.fnOf "_law_twins" "_law_twins" (defArgs st__law_twins) (defBody st__law_twins) (defScope st__law_twins) .none kV16 dc16 pm16 an16 cd16 ct16), sl16⟩) (c16 : PySem.W.codeIn K cd16 "_law_twins" = true) (k16 : PySem.W.keepIn K (.ref f16) = true)
    (a17 : PySem.W.nsIn K mainGlobals "_law_kind" = some (some (.ref f17))) (l17 : K.lookup f17 = some ⟨oc17, od17, .func (PySem.W.fnOf "_law_kind" "_law_kind" (defArgs st__law_kind) (defBody st__law_kind) (defScope st__law_kind) .none kV17 dc17 pm17 an17 cd17 ct17), sl17⟩) (c17 : PySem.W.codeIn K cd17 "_law_kind" = true) (k17 : PySem.W.keepIn K (.ref f17) = true)
    (a18 : PySem.W.nsIn K mainGlobals "_law_size" = some (some (.ref f18))) (l18 : K.lookup f18 = some ⟨oc18, od18, .func (PySem.W.fnOf "_law_size" "_law_size" (defArgs st__law_size) (defBody st__law_size) (defScope st__law_size) .none kV18 dc18 pm18 an18 cd18 ct18), sl18⟩) (c18 : PySem.W.codeIn K cd18 "_law_size" = true) (k18 : PySem.W.keepIn K (.ref f18) = true)
    (a19 : PySem.W.nsIn K mainGlobals "_law_line" = some (some (.ref f19))) (l19 : K.lookup f19 = some ⟨oc19, od19, .func (PySem.W.fnOf "_law_line" "_law_line" (defArgs st__law_line) (defBody st__law_line) (defScope st__law_line) .none kV19 dc19 pm19 an19 cd19 ct19), sl19⟩) (c19 : PySem.W.codeIn K cd19 "_law_line" = true) (k19 : PySem.W.keepIn K (.ref f19) = true)
    (a20 : PySem.W.nsIn K mainGlobals "_law_axiom" = some (some (.ref f20))) (l20 : K.lookup f20 = some ⟨oc20, od20, .func (PySem.W.fnOf "_law_axiom" "_law_axiom" (defArgs st__law_axiom) (defBody st__law_axiom) (defScope st__law_axiom) .none kV20 dc20 pm20 an20 cd20 ct20), sl20⟩) (c20 : PySem.W.codeIn K cd20 "_law_axiom" = true) (k20 : PySem.W.keepIn K (.ref f20) = true)
    (a21 : PySem.W.nsIn K mainGlobals "_law_make" = some (some (.ref f21))) (l21 : K.lookup f21 = some ⟨oc21, od21, .func (PySem.W.fnOf "_law_make" "_law_make" (defArgs st__law_make) (defBody st__law_make) (defScope st__law_make) .none kV21 dc21 pm21 an21 cd21 ct21), sl21⟩) (c21 : PySem.W.codeIn K cd21 "_law_make" = true) (k21 : PySem.W.keepIn K (.ref f21) = true)
    (a22 : PySem.W.nsIn K mainGlobals "_law_identity" = some (some (.ref f22))) (l22 : K.lookup f22 = some ⟨oc22, od22, .func (PySem.W.fnOf "_law_identity" "_law_identity" (defArgs st__law_identity) (defBody st__law_identity) (defScope st__law_identity) .none kV22 dc22 pm22 an22 cd22 ct22), sl22⟩) (c22 : PySem.W.codeIn K cd22 "_law_identity" = true) (k22 : PySem.W.keepIn K (.ref f22) = true)
    (a23 : PySem.W.nsIn K mainGlobals "_law_fits" = some (some (.ref f23))) (l23 : K.lookup f23 = some ⟨oc23, od23, .func (PySem.W.fnOf "_law_fits" "_law_fits" (defArgs st__law_fits) (defBody st__law_fits) (defScope st__law_fits) .none kV23 dc23 pm23 an23 cd23 ct23), sl23⟩) (c23 : PySem.W.codeIn K cd23 "_law_fits" = true) (k23 : PySem.W.keepIn K (.ref f23) = true)
    (a24 : PySem.W.nsIn K mainGlobals "_law_grow" = some (some (.ref f24))) (l24 : K.lookup f24 = some ⟨oc24, od24, .func (PySem.W.fnOf "_law_grow" "_law_grow" (defArgs st__law_grow) (defBody st__law_grow) (defScope st__law_grow) .none kV24 dc24 pm24 an24 cd24 ct24), sl24⟩) (c24 : PySem.W.codeIn K cd24 "_law_grow" = true) (k24 : PySem.W.keepIn K (.ref f24) = true)
    (a25 : PySem.W.nsIn K mainGlobals "_law_grown" = some (some (.ref f25))) (l25 : K.lookup f25 = some ⟨oc25, od25, .func (PySem.W.fnOf "_law_grown" "_law_grown" (defArgs st__law_grown) (defBody st__law_grown) (defScope st__law_grown) .none kV25 dc25 pm25 an25 cd25 ct25), sl25⟩) (c25 : PySem.W.codeIn K cd25 "_law_grown" = true) (k25 : PySem.W.keepIn K (.ref f25) = true)
    (a26 : PySem.W.nsIn K mainGlobals "_law_joined" = some (some (.ref f26))) (l26 : K.lookup f26 = some ⟨oc26, od26, .func (PySem.W.fnOf "_law_joined" "_law_joined" (defArgs st__law_joined) (defBody st__law_joined) (defScope st__law_joined) .none kV26 dc26 pm26 an26 cd26 ct26), sl26⟩) (c26 : PySem.W.codeIn K cd26 "_law_joined" = true) (k26 : PySem.W.keepIn K (.ref f26) = true)
    (a27 : PySem.W.nsIn K mainGlobals "_law_paper" = some (some (.ref f27))) (l27 : K.lookup f27 = some ⟨oc27, od27, .func (PySem.W.fnOf "_law_paper" "_law_paper" (defArgs st__law_paper) (defBody st__law_paper) (defScope st__law_paper) .none kV27 dc27 pm27 an27 cd27 ct27), sl27⟩) (c27 : PySem.W.codeIn K cd27 "_law_paper" = true) (k27 : PySem.W.keepIn K (.ref f27) = true)
    (a28 : PySem.W.nsIn K mainGlobals "_law_train" = some (some (.ref f28))) (l28 : K.lookup f28 = some ⟨oc28, od28, .func (PySem.W.fnOf "_law_train" "_law_train" (defArgs st__law_train) (defBody st__law_train) (defScope st__law_train) .none kV28 dc28 pm28 an28 cd28 ct28), sl28⟩) (c28 : PySem.W.codeIn K cd28 "_law_train" = true) (k28 : PySem.W.keepIn K (.ref f28) = true)
    (a29 : PySem.W.nsIn K mainGlobals "_law_mirror_kind" = some (some (.ref f29))) (l29 : K.lookup f29 = some ⟨oc29, od29, .func (PySem.W.fnOf "_law_mirror_kind" "_law_mirror_kind" (defArgs st__law_mirror_kind) (defBody st__law_mirror_kind) (defScope st__law_mirror_kind) .none kV29 dc29 pm29 an29 cd29 ct29), sl29⟩) (c29 : PySem.W.codeIn K cd29 "_law_mirror_kind" = true) (k29 : PySem.W.keepIn K (.ref f29) = true)
    (a30 : PySem.W.nsIn K mainGlobals "_law_is_integer" = some (some (.ref f30))) (l30 : K.lookup f30 = some ⟨oc30, od30, .func (PySem.W.fnOf "_law_is_integer" "_law_is_integer" (defArgs st__law_is_integer) (defBody st__law_is_integer) (defScope st__law_is_integer) .none kV30 dc30 pm30 an30 cd30 ct30), sl30⟩) (c30 : PySem.W.codeIn K cd30 "_law_is_integer" = true) (k30 : PySem.W.keepIn K (.ref f30) = true)
    (a31 : PySem.W.nsIn K mainGlobals "_law_turned_rule" = some (some (.ref f31))) (l31 : K.lookup f31 = some ⟨oc31, od31, .func (PySem.W.fnOf "_law_turned_rule" "_law_turned_rule" (defArgs st__law_turned_rule) (defBody st__law_turned_rule) (defScope st__law_turned_rule) .none kV31 dc31 pm31 an31 cd31 ct31), sl31⟩) (c31 : PySem.W.codeIn K cd31 "_law_turned_rule" = true) (k31 : PySem.W.keepIn K (.ref f31) = true)
    (a32 : PySem.W.nsIn K mainGlobals "_law_turned_place" = some (some (.ref f32))) (l32 : K.lookup f32 = some ⟨oc32, od32, .func (PySem.W.fnOf "_law_turned_place" "_law_turned_place" (defArgs st__law_turned_place) (defBody st__law_turned_place) (defScope st__law_turned_place) .none kV32 dc32 pm32 an32 cd32 ct32), sl32⟩) (c32 : PySem.W.codeIn K cd32 "_law_turned_place" = true) (k32 : PySem.W.keepIn K (.ref f32) = true)
    (a33 : PySem.W.nsIn K mainGlobals "_law_turns" = some (some (.ref f33))) (l33 : K.lookup f33 = some ⟨oc33, od33, .func (PySem.W.fnOf "_law_turns" "_law_turns" (defArgs st__law_turns) (defBody st__law_turns) (defScope st__law_turns) .none kV33 dc33 pm33 an33 cd33 ct33), sl33⟩) (c33 : PySem.W.codeIn K cd33 "_law_turns" = true) (k33 : PySem.W.keepIn K (.ref f33) = true)
    (a34 : PySem.W.nsIn K mainGlobals "_law_mirrors" = some (some (.ref f34))) (l34 : K.lookup f34 = some ⟨oc34, od34, .func (PySem.W.fnOf "_law_mirrors" "_law_mirrors" (defArgs st__law_mirrors) (defBody st__law_mirrors) (defScope st__law_mirrors) .none kV34 dc34 pm34 an34 cd34 ct34), sl34⟩) (c34 : PySem.W.codeIn K cd34 "_law_mirrors" = true) (k34 : PySem.W.keepIn K (.ref f34) = true)
    (a35 : PySem.W.nsIn K mainGlobals "_law_some_paper" = some (some (.ref f35))) (l35 : K.lookup f35 = some ⟨oc35, od35, .func (PySem.W.fnOf "_law_some_paper" "_law_some_paper" (defArgs st__law_some_paper) (defBody st__law_some_paper) (defScope st__law_some_paper) .none kV35 dc35 pm35 an35 cd35 ct35), sl35⟩) (c35 : PySem.W.codeIn K cd35 "_law_some_paper" = true) (k35 : PySem.W.keepIn K (.ref f35) = true)
    (a36 : PySem.W.nsIn K mainGlobals "law" = some (some (.ref f36))) (l36 : K.lookup f36 = some ⟨oc36, od36, .func (PySem.W.fnOf "law" "law" (defArgs st_law) (defBody st_law) (defScope st_law) .none kV36 dc36 pm36 an36 cd36 ct36), sl36⟩) (c36 : PySem.W.codeIn K cd36 "law" = true) (k36 : PySem.W.keepIn K (.ref f36) = true)
    (z0 : PySem.W.nsIn K mainGlobals "len" = some none) (z1 : PySem.W.nsIn K mainGlobals "tuple" = some none) (z2 : PySem.W.nsIn K mainGlobals "int" = some none) (z3 : PySem.W.nsIn K mainGlobals "abs" = some none) (z4 : PySem.W.nsIn K mainGlobals "range" = some none) (z5 : PySem.W.nsIn K mainGlobals "str" = some none) (z6 : PySem.W.nsIn K mainGlobals "list" = some none) (z7 : PySem.W.nsIn K mainGlobals "isinstance" = some none) (z8 : PySem.W.nsIn K mainGlobals "max" = some none) (z9 : PySem.W.nsIn K mainGlobals "sum" = some none) (z10 : PySem.W.nsIn K mainGlobals "bool" = some none) (z11 : PySem.W.nsIn K mainGlobals "reversed" = some none) (z12 : PySem.W.nsIn K mainGlobals "repr" = some none) 
    {td0 : Addr} {te0 : Array DictEntry} {tn0 : Nat} (ty0 : PySem.W.nsIn K mainGlobals "BUILDERS" = some (some (.ref td0)))
    (tl0 : K.lookup td0 = some ⟨.type "dict", none, .dict te0 tn0, #[]⟩)
    (tk0 : PySem.W.KeysLit w.params te0.toList)
    (tv0_0 : PySem.W.nsIn K td0 "over right" = some (some (.ref f1)))
    (tv0_1 : PySem.W.nsIn K td0 "under right" = some (some (.ref f2)))
    (tv0_2 : PySem.W.nsIn K td0 "pair right" = some (some (.ref f3)))
    (tv0_3 : PySem.W.nsIn K td0 "over left" = some (some (.ref f4)))
    (tv0_4 : PySem.W.nsIn K td0 "under left" = some (some (.ref f5)))
    (tv0_5 : PySem.W.nsIn K td0 "pair left" = some (some (.ref f6)))
    (tv0_6 : PySem.W.nsIn K td0 "cut" = some (some (.ref f7)))
    {td1 : Addr} {te1 : Array DictEntry} {tn1 : Nat} (ty1 : PySem.W.nsIn K mainGlobals "MIRROR_RULES" = some (some (.ref td1)))
    (tl1 : K.lookup td1 = some ⟨.type "dict", none, .dict te1 tn1, #[]⟩)
    (tk1 : PySem.W.KeysLit w.params te1.toList)
    {tt1_0 : Tok} (tv1_0 : PySem.W.nsIn K td1 "over right" = some (some (.str "under right" tt1_0)))
    {tt1_1 : Tok} (tv1_1 : PySem.W.nsIn K td1 "under right" = some (some (.str "over right" tt1_1)))
    {tt1_2 : Tok} (tv1_2 : PySem.W.nsIn K td1 "pair right" = some (some (.str "pair right" tt1_2)))
    {tt1_3 : Tok} (tv1_3 : PySem.W.nsIn K td1 "over left" = some (some (.str "under left" tt1_3)))
    {tt1_4 : Tok} (tv1_4 : PySem.W.nsIn K td1 "under left" = some (some (.str "over left" tt1_4)))
    {tt1_5 : Tok} (tv1_5 : PySem.W.nsIn K td1 "pair left" = some (some (.str "pair left" tt1_5)))
    {tt1_6 : Tok} (tv1_6 : PySem.W.nsIn K td1 "cut" = some (some (.str "cut" tt1_6))) :
    ∃ _ : Fa, ∃ fd : FuncData, (∀ (s : Shared) (v : Value), BindsTo s fd ⟨[v], []⟩ [("script", v)]) ∧ ∀ base : Heap, K.In base → base.Ns mainGlobals mg → Dl.FnOk l.prog w K mg base (L2.CX l.prog w) LV fa fd ["script"] (rdF ⟨K, mg, W0⟩ (tab LV .law)) := by
  have e := hfa.symm.trans (PySem.W.mg_of X G a36)
  cases e
  let f : FN → Addr := fun
    | .sequent_of => f0
    | .by_over_right => f1
    | .by_under_right => f2
    | .by_pair_right => f3
    | .by_over_left => f4
    | .by_under_left => f5
    | .by_pair_left => f6
    | .by_cut => f7
    | .build_step => f8
    | .mirror_place => f9
    | .mirror_derivation => f10
    | ._law_cell => f11
    | ._law_mix => f12
    | ._law_pool => f13
    | ._law_draw => f14
    | ._law_names => f15
    | ._law_twins => f16
    | ._law_kind => f17
    | ._law_size => f18
    | ._law_line => f19
    | ._law_axiom => f20
    | ._law_make => f21
    | ._law_identity => f22
    | ._law_fits => f23
    | ._law_grow => f24
    | ._law_grown => f25
    | ._law_joined => f26
    | ._law_paper => f27
    | ._law_train => f28
    | ._law_mirror_kind => f29
    | ._law_is_integer => f30
    | ._law_turned_rule => f31
    | ._law_turned_place => f32
    | ._law_turns => f33
    | ._law_mirrors => f34
    | ._law_some_paper => f35
    | .law => fa
  have hinj : ∀ m ∈ tfs, ∀ n ∈ tfs, f m = f n → m = n := (List.forall_mem_cons.mpr ⟨(List.forall_mem_cons.mpr ⟨fun _ => rfl, (List.forall_mem_cons.mpr ⟨fun e => absurd e (fn_ne l1 l2 (by decide)), (List.forall_mem_cons.mpr ⟨fun e => absurd e (fn_ne l1 l3 (by decide)), (List.forall_mem_cons.mpr ⟨fun e => absurd e (fn_ne l1 l4 (by decide)), (List.forall_mem_cons.mpr ⟨fun e => absurd e (fn_ne l1 l5 (by decide)), (List.forall_mem_cons.mpr ⟨fun e => absurd e (fn_ne l1 l6 (by decide)), (List.forall_mem_cons.mpr ⟨fun e => absurd e (fn_ne l1 l7 (by decide)), fun _ h => nomatch h⟩)⟩)⟩)⟩)⟩)⟩)⟩), (List.forall_mem_cons.mpr ⟨(List.forall_mem_cons.mpr ⟨fun e => absurd e (fn_ne l2 l1 (by decide)), (List.forall_mem_cons.mpr ⟨fun _ => rfl, (List.forall_mem_cons.mpr ⟨fun e => absurd e (fn_ne l2 l3 (by decide)), (List.forall_mem_cons.mpr ⟨fun e => absurd e (fn_ne l2 l4 (by decide)), (List.forall_mem_cons.mpr ⟨fun e => absurd e (fn_ne l2 l5 (by decide)), (List.forall_mem_cons.mpr ⟨fun e => absurd e (fn_ne l2 l6 (by decide)), (List.forall_mem_cons.mpr ⟨fun e => absurd e (fn_ne l2 l7 (by decide)), fun _ h => nomatch h⟩)⟩)⟩)⟩)⟩)⟩)⟩), (List.forall_mem_cons.mpr ⟨(List.forall_mem_cons.mpr ⟨fun e => absurd e (fn_ne l3 l1 (by decide)), (List.forall_mem_cons.mpr ⟨fun e => absurd e (fn_ne l3 l2 (by decide)), (List.forall_mem_cons.mpr ⟨fun _ => rfl, (List.forall_mem_cons.mpr ⟨fun e => absurd e (fn_ne l3 l4 (by decide)), (List.forall_mem_cons.mpr ⟨fun e => absurd e (fn_ne l3 l5 (by decide)), (List.forall_mem_cons.mpr ⟨fun e => absurd e (fn_ne l3 l6 (by decide)), (List.forall_mem_cons.mpr ⟨fun e => absurd e (fn_ne l3 l7 (by decide)), fun _ h => nomatch h⟩)⟩)⟩)⟩)⟩)⟩)⟩), (List.forall_mem_cons.mpr ⟨(List.forall_mem_cons.mpr ⟨fun e => absurd e (fn_ne l4 l1 (by decide)), (List.forall_mem_cons.mpr ⟨fun e => absurd e (fn_ne l4 l2 (by decide)), (List.forall_mem_cons.mpr ⟨fun e => absurd e (fn_ne l4 l3 (by decide)), (List.forall_mem_cons.mpr ⟨fun _ => rfl, (List.forall_mem_cons.mpr ⟨fun e => absurd e (fn_ne l4 l5 (by decide)), (List.forall_mem_cons.mpr ⟨fun e => absurd e (fn_ne l4 l6 (by decide)), (List.forall_mem_cons.mpr ⟨fun e => absurd e (fn_ne l4 l7 (by decide)), fun _ h => nomatch h⟩)⟩)⟩)⟩)⟩)⟩)⟩), (List.forall_mem_cons.mpr ⟨(List.forall_mem_cons.mpr ⟨fun e => absurd e (fn_ne l5 l1 (by decide)), (List.forall_mem_cons.mpr ⟨fun e => absurd e (fn_ne l5 l2 (by decide)), (List.forall_mem_cons.mpr ⟨fun e => absurd e (fn_ne l5 l3 (by decide)), (List.forall_mem_cons.mpr ⟨fun e => absurd e (fn_ne l5 l4 (by decide)), (List.forall_mem_cons.mpr ⟨fun _ => rfl, (List.forall_mem_cons.mpr ⟨fun e => absurd e (fn_ne l5 l6 (by decide)), (List.forall_mem_cons.mpr ⟨fun e => absurd e (fn_ne l5 l7 (by decide)), fun _ h => nomatch h⟩)⟩)⟩)⟩)⟩)⟩)⟩), (List.forall_mem_cons.mpr ⟨(List.forall_mem_cons.mpr ⟨fun e => absurd e (fn_ne l6 l1 (by decide)), (List.forall_mem_cons.mpr ⟨fun e => absurd e (fn_ne l6 l2 (by decide)), (List.forall_mem_cons.mpr ⟨fun e => absurd e (fn_ne l6 l3 (by decide)), (List.forall_mem_cons.mpr ⟨fun e => absurd e (fn_ne l6 l4 (by decide)), (List.forall_mem_cons.mpr ⟨fun e => absurd e (fn_ne l6 l5 (by decide)), (List.forall_mem_cons.mpr ⟨fun _ => rfl, (List.forall_mem_cons.mpr ⟨fun e => absurd e (fn_ne l6 l7 (by decide)), fun _ h => nomatch h⟩)⟩)⟩)⟩)⟩)⟩)⟩), (List.forall_mem_cons.mpr ⟨(List.forall_mem_cons.mpr ⟨fun e => absurd e (fn_ne l7 l1 (by decide)), (List.forall_mem_cons.mpr ⟨fun e => absurd e (fn_ne l7 l2 (by decide)), (List.forall_mem_cons.mpr ⟨fun e => absurd e (fn_ne l7 l3 (by decide)), (List.forall_mem_cons.mpr ⟨fun e => absurd e (fn_ne l7 l4 (by decide)), (List.forall_mem_cons.mpr ⟨fun e => absurd e (fn_ne l7 l5 (by decide)), (List.forall_mem_cons.mpr ⟨fun e => absurd e (fn_ne l7 l6 (by decide)), (List.forall_mem_cons.mpr ⟨fun _ => rfl, fun _ h => nomatch h⟩)⟩)⟩)⟩)⟩)⟩)⟩), fun _ h => nomatch h⟩)⟩)⟩)⟩)⟩)⟩)⟩)
  let I : Fa := ⟨f, hinj⟩
  let fd : FN → FuncData := fun
    | .sequent_of => PySem.W.fnOf "sequent_of" "sequent_of" (defArgs st_sequent_of) (defBody st_sequent_of) (defScope st_sequent_of) .none kV0 dc0 pm0 an0 cd0 ct0
    | .by_over_right => PySem.W.fnOf "by_over_right" "by_over_right" (defArgs st_by_over_right) (defBody st_by_over_right) (defScope st_by_over_right) .none kV1 dc1 pm1 an1 cd1 ct1
    | .by_under_right => PySem.W.fnOf "by_under_right" "by_under_right" (defArgs st_by_under_right) (defBody st_by_under_right) (defScope st_by_under_right) .none kV2 dc2 pm2 an2 cd2 ct2
    | .by_pair_right => PySem.W.fnOf "by_pair_right" "by_pair_right" (defArgs st_by_pair_right) (defBody st_by_pair_right) (defScope st_by_pair_right) .none kV3 dc3 pm3 an3 cd3 ct3
    | .by_over_left => PySem.W.fnOf "by_over_left" "by_over_left" (defArgs st_by_over_left) (defBody st_by_over_left) (defScope st_by_over_left) .none kV4 dc4 pm4 an4 cd4 ct4
    | .by_under_left => PySem.W.fnOf "by_under_left" "by_under_left" (defArgs st_by_under_left) (defBody st_by_under_left) (defScope st_by_under_left) .none kV5 dc5 pm5 an5 cd5 ct5
    | .by_pair_left => PySem.W.fnOf "by_pair_left" "by_pair_left" (defArgs st_by_pair_left) (defBody st_by_pair_left) (defScope st_by_pair_left) .none kV6 dc6 pm6 an6 cd6 ct6
    | .by_cut => PySem.W.fnOf "by_cut" "by_cut" (defArgs st_by_cut) (defBody st_by_cut) (defScope st_by_cut) .none kV7 dc7 pm7 an7 cd7 ct7
    | .build_step => PySem.W.fnOf "build_step" "build_step" (defArgs st_build_step) (defBody st_build_step) (defScope st_build_step) .none kV8 dc8 pm8 an8 cd8 ct8
    | .mirror_place => PySem.W.fnOf "mirror_place" "mirror_place" (defArgs st_mirror_place) (defBody st_mirror_place) (defScope st_mirror_place) .none kV9 dc9 pm9 an9 cd9 ct9
    | .mirror_derivation => PySem.W.fnOf "mirror_derivation" "mirror_derivation" (defArgs st_mirror_derivation) (defBody st_mirror_derivation) (defScope st_mirror_derivation) .none kV10 dc10 pm10 an10 cd10 ct10
    | ._law_cell => PySem.W.fnOf "_law_cell" "_law_cell" (defArgs st__law_cell) (defBody st__law_cell) (defScope st__law_cell) .none kV11 dc11 pm11 an11 cd11 ct11
    | ._law_mix => PySem.W.fnOf "_law_mix" "_law_mix" (defArgs st__law_mix) (defBody st__law_mix) (defScope st__law_mix) .none kV12 dc12 pm12 an12 cd12 ct12
    | ._law_pool => PySem.W.fnOf "_law_pool" "_law_pool" (defArgs st__law_pool) (defBody st__law_pool) (defScope st__law_pool) .none kV13 dc13 pm13 an13 cd13 ct13
    | ._law_draw => PySem.W.fnOf "_law_draw" "_law_draw" (defArgs st__law_draw) (defBody st__law_draw) (defScope st__law_draw) .none kV14 dc14 pm14 an14 cd14 ct14
    | ._law_names => PySem.W.fnOf "_law_names" "_law_names" (defArgs st__law_names) (defBody st__law_names) (defScope st__law_names) .none kV15 dc15 pm15 an15 cd15 ct15
    | ._law_twins => PySem.W.fnOf "_law_twins" "_law_twins" (defArgs st__law_twins) (defBody st__law_twins) (defScope st__law_twins) .none kV16 dc16 pm16 an16 cd16 ct16
    | ._law_kind => PySem.W.fnOf "_law_kind" "_law_kind" (defArgs st__law_kind) (defBody st__law_kind) (defScope st__law_kind) .none kV17 dc17 pm17 an17 cd17 ct17
    | ._law_size => PySem.W.fnOf "_law_size" "_law_size" (defArgs st__law_size) (defBody st__law_size) (defScope st__law_size) .none kV18 dc18 pm18 an18 cd18 ct18
    | ._law_line => PySem.W.fnOf "_law_line" "_law_line" (defArgs st__law_line) (defBody st__law_line) (defScope st__law_line) .none kV19 dc19 pm19 an19 cd19 ct19
    | ._law_axiom => PySem.W.fnOf "_law_axiom" "_law_axiom" (defArgs st__law_axiom) (defBody st__law_axiom) (defScope st__law_axiom) .none kV20 dc20 pm20 an20 cd20 ct20
    | ._law_make => PySem.W.fnOf "_law_make" "_law_make" (defArgs st__law_make) (defBody st__law_make) (defScope st__law_make) .none kV21 dc21 pm21 an21 cd21 ct21
    | ._law_identity => PySem.W.fnOf "_law_identity" "_law_identity" (defArgs st__law_identity) (defBody st__law_identity) (defScope st__law_identity) .none kV22 dc22 pm22 an22 cd22 ct22
    | ._law_fits => PySem.W.fnOf "_law_fits" "_law_fits" (defArgs st__law_fits) (defBody st__law_fits) (defScope st__law_fits) .none kV23 dc23 pm23 an23 cd23 ct23
    | ._law_grow => PySem.W.fnOf "_law_grow" "_law_grow" (defArgs st__law_grow) (defBody st__law_grow) (defScope st__law_grow) .none kV24 dc24 pm24 an24 cd24 ct24
    | ._law_grown => PySem.W.fnOf "_law_grown" "_law_grown" (defArgs st__law_grown) (defBody st__law_grown) (defScope st__law_grown) .none kV25 dc25 pm25 an25 cd25 ct25
    | ._law_joined => PySem.W.fnOf "_law_joined" "_law_joined" (defArgs st__law_joined) (defBody st__law_joined) (defScope st__law_joined) .none kV26 dc26 pm26 an26 cd26 ct26
    | ._law_paper => PySem.W.fnOf "_law_paper" "_law_paper" (defArgs st__law_paper) (defBody st__law_paper) (defScope st__law_paper) .none kV27 dc27 pm27 an27 cd27 ct27
    | ._law_train => PySem.W.fnOf "_law_train" "_law_train" (defArgs st__law_train) (defBody st__law_train) (defScope st__law_train) .none kV28 dc28 pm28 an28 cd28 ct28
    | ._law_mirror_kind => PySem.W.fnOf "_law_mirror_kind" "_law_mirror_kind" (defArgs st__law_mirror_kind) (defBody st__law_mirror_kind) (defScope st__law_mirror_kind) .none kV29 dc29 pm29 an29 cd29 ct29
    | ._law_is_integer => PySem.W.fnOf "_law_is_integer" "_law_is_integer" (defArgs st__law_is_integer) (defBody st__law_is_integer) (defScope st__law_is_integer) .none kV30 dc30 pm30 an30 cd30 ct30
    | ._law_turned_rule => PySem.W.fnOf "_law_turned_rule" "_law_turned_rule" (defArgs st__law_turned_rule) (defBody st__law_turned_rule) (defScope st__law_turned_rule) .none kV31 dc31 pm31 an31 cd31 ct31
    | ._law_turned_place => PySem.W.fnOf "_law_turned_place" "_law_turned_place" (defArgs st__law_turned_place) (defBody st__law_turned_place) (defScope st__law_turned_place) .none kV32 dc32 pm32 an32 cd32 ct32
    | ._law_turns => PySem.W.fnOf "_law_turns" "_law_turns" (defArgs st__law_turns) (defBody st__law_turns) (defScope st__law_turns) .none kV33 dc33 pm33 an33 cd33 ct33
    | ._law_mirrors => PySem.W.fnOf "_law_mirrors" "_law_mirrors" (defArgs st__law_mirrors) (defBody st__law_mirrors) (defScope st__law_mirrors) .none kV34 dc34 pm34 an34 cd34 ct34
    | ._law_some_paper => PySem.W.fnOf "_law_some_paper" "_law_some_paper" (defArgs st__law_some_paper) (defBody st__law_some_paper) (defScope st__law_some_paper) .none kV35 dc35 pm35 an35 cd35 ct35
    | .law => PySem.W.fnOf "law" "law" (defArgs st_law) (defBody st_law) (defScope st_law) .none kV36 dc36 pm36 an36 cd36 ct36
  let cv : Nat → V := fun i => ([] : List V).getD i .non
  let cu : Nat → Value := fun i => ([] : List Value).getD i .none
  have F0 : Fun K "sequent_of" "sequent_of" st_sequent_of (f .sequent_of) (fd .sequent_of) := fun_mk (st := st_sequent_of) l0 c0 k0
  have b0 : Binds K (fd .sequent_of) ["derivation"] [] := F0.binds (ps := ["derivation"]) fun _ _ _ _ _ _ us hl => match us, hl with | [_], _ => rfl
  have F1 : Fun K "by_over_right" "by_over_right" st_by_over_right (f .by_over_right) (fd .by_over_right) := fun_mk (st := st_by_over_right) l1 c1 k1
  have b1 : Binds K (fd .by_over_right) ["at", "parts"] [] := F1.binds (ps := ["at", "parts"]) fun _ _ _ _ _ _ us hl => match us, hl with | [_, _], _ => rfl
  have F2 : Fun K "by_under_right" "by_under_right" st_by_under_right (f .by_under_right) (fd .by_under_right) := fun_mk (st := st_by_under_right) l2 c2 k2
  have b2 : Binds K (fd .by_under_right) ["at", "parts"] [] := F2.binds (ps := ["at", "parts"]) fun _ _ _ _ _ _ us hl => match us, hl with | [_, _], _ => rfl
  have F3 : Fun K "by_pair_right" "by_pair_right" st_by_pair_right (f .by_pair_right) (fd .by_pair_right) := fun_mk (st := st_by_pair_right) l3 c3 k3
  have b3 : Binds K (fd .by_pair_right) ["at", "parts"] [] := F3.binds (ps := ["at", "parts"]) fun _ _ _ _ _ _ us hl => match us, hl with | [_, _], _ => rfl
  have F4 : Fun K "by_over_left" "by_over_left" st_by_over_left (f .by_over_left) (fd .by_over_left) := fun_mk (st := st_by_over_left) l4 c4 k4
  have b4 : Binds K (fd .by_over_left) ["at", "parts"] [] := F4.binds (ps := ["at", "parts"]) fun _ _ _ _ _ _ us hl => match us, hl with | [_, _], _ => rfl
  have F5 : Fun K "by_under_left" "by_under_left" st_by_under_left (f .by_under_left) (fd .by_under_left) := fun_mk (st := st_by_under_left) l5 c5 k5
  have b5 : Binds K (fd .by_under_left) ["at", "parts"] [] := F5.binds (ps := ["at", "parts"]) fun _ _ _ _ _ _ us hl => match us, hl with | [_, _], _ => rfl
  have F6 : Fun K "by_pair_left" "by_pair_left" st_by_pair_left (f .by_pair_left) (fd .by_pair_left) := fun_mk (st := st_by_pair_left) l6 c6 k6
  have b6 : Binds K (fd .by_pair_left) ["at", "parts"] [] := F6.binds (ps := ["at", "parts"]) fun _ _ _ _ _ _ us hl => match us, hl with | [_, _], _ => rfl
  have F7 : Fun K "by_cut" "by_cut" st_by_cut (f .by_cut) (fd .by_cut) := fun_mk (st := st_by_cut) l7 c7 k7
  have b7 : Binds K (fd .by_cut) ["at", "parts"] [] := F7.binds (ps := ["at", "parts"]) fun _ _ _ _ _ _ us hl => match us, hl with | [_, _], _ => rfl
  have F8 : Fun K "build_step" "build_step" st_build_step (f .build_step) (fd .build_step) := fun_mk (st := st_build_step) l8 c8 k8
  have b8 : Binds K (fd .build_step) ["rule", "at", "parts"] [] := F8.binds (ps := ["rule", "at", "parts"]) fun _ _ _ _ _ _ us hl => match us, hl with | [_, _, _], _ => rfl
  have F9 : Fun K "mirror_place" "mirror_place" st_mirror_place (f .mirror_place) (fd .mirror_place) := fun_mk (st := st_mirror_place) l9 c9 k9
  have b9 : Binds K (fd .mirror_place) ["rule", "at", "width", "count"] [] := F9.binds (ps := ["rule", "at", "width", "count"]) fun _ _ _ _ _ _ us hl => match us, hl with | [_, _, _, _], _ => rfl
  have F10 : Fun K "mirror_derivation" "mirror_derivation" st_mirror_derivation (f .mirror_derivation) (fd .mirror_derivation) := fun_mk (st := st_mirror_derivation) l10 c10 k10
  have b10 : Binds K (fd .mirror_derivation) ["derivation"] [] := F10.binds (ps := ["derivation"]) fun _ _ _ _ _ _ us hl => match us, hl with | [_], _ => rfl
  have F11 : Fun K "_law_cell" "_law_cell" st__law_cell (f ._law_cell) (fd ._law_cell) := fun_mk (st := st__law_cell) l11 c11 k11
  have b11 : Binds K (fd ._law_cell) ["script", "k"] [] := F11.binds (ps := ["script", "k"]) fun _ _ _ _ _ _ us hl => match us, hl with | [_, _], _ => rfl
  have F12 : Fun K "_law_mix" "_law_mix" st__law_mix (f ._law_mix) (fd ._law_mix) := fun_mk (st := st__law_mix) l12 c12 k12
  have b12 : Binds K (fd ._law_mix) ["x"] [] := F12.binds (ps := ["x"]) fun _ _ _ _ _ _ us hl => match us, hl with | [_], _ => rfl
  have F13 : Fun K "_law_pool" "_law_pool" st__law_pool (f ._law_pool) (fd ._law_pool) := fun_mk (st := st__law_pool) l13 c13 k13
  have b13 : Binds K (fd ._law_pool) ["script", "k"] [] := F13.binds (ps := ["script", "k"]) fun _ _ _ _ _ _ us hl => match us, hl with | [_, _], _ => rfl
  have F14 : Fun K "_law_draw" "_law_draw" st__law_draw (f ._law_draw) (fd ._law_draw) := fun_mk (st := st__law_draw) l14 c14 k14
  have b14 : Binds K (fd ._law_draw) ["pool", "many"] [] := F14.binds (ps := ["pool", "many"]) fun _ _ _ _ _ _ us hl => match us, hl with | [_, _], _ => rfl
  have F15 : Fun K "_law_names" "_law_names" st__law_names (f ._law_names) (fd ._law_names) := fun_mk (st := st__law_names) l15 c15 k15
  have b15 : Binds K (fd ._law_names) ["pool", "many"] [] := F15.binds (ps := ["pool", "many"]) fun _ _ _ _ _ _ us hl => match us, hl with | [_, _], _ => rfl
  have F16 : Fun K "_law_twins" "_law_twins" st__law_twins (f ._law_twins) (fd ._law_twins) := fun_mk (st := st__law_twins) l16 c16 k16
  have b16 : Binds K (fd ._law_twins) ["pool", "names"] [] := F16.binds (ps := ["pool", "names"]) fun _ _ _ _ _ _ us hl => match us, hl with | [_, _], _ => rfl
  have F17 : Fun K "_law_kind" "_law_kind" st__law_kind (f ._law_kind) (fd ._law_kind) := fun_mk (st := st__law_kind) l17 c17 k17
  have b17 : Binds K (fd ._law_kind) ["pool", "names", "size"] [] := F17.binds (ps := ["pool", "names", "size"]) fun _ _ _ _ _ _ us hl => match us, hl with | [_, _, _], _ => rfl
  have F18 : Fun K "_law_size" "_law_size" st__law_size (f ._law_size) (fd ._law_size) := fun_mk (st := st__law_size) l18 c18 k18
  have b18 : Binds K (fd ._law_size) ["kind"] [] := F18.binds (ps := ["kind"]) fun _ _ _ _ _ _ us hl => match us, hl with | [_], _ => rfl
  have F19 : Fun K "_law_line" "_law_line" st__law_line (f ._law_line) (fd ._law_line) := fun_mk (st := st__law_line) l19 c19 k19
  have b19 : Binds K (fd ._law_line) ["rule", "at", "lines"] [] := F19.binds (ps := ["rule", "at", "lines"]) fun _ _ _ _ _ _ us hl => match us, hl with | [_, _, _], _ => rfl
  have F20 : Fun K "_law_axiom" "_law_axiom" st__law_axiom (f ._law_axiom) (fd ._law_axiom) := fun_mk (st := st__law_axiom) l20 c20 k20
  have b20 : Binds K (fd ._law_axiom) ["atom"] [] := F20.binds (ps := ["atom"]) fun _ _ _ _ _ _ us hl => match us, hl with | [_], _ => rfl
  have F21 : Fun K "_law_make" "_law_make" st__law_make (f ._law_make) (fd ._law_make) := fun_mk (st := st__law_make) l21 c21 k21
  have b21 : Binds K (fd ._law_make) ["rule", "at", "parts"] [] := F21.binds (ps := ["rule", "at", "parts"]) fun _ _ _ _ _ _ us hl => match us, hl with | [_, _, _], _ => rfl
  have F22 : Fun K "_law_identity" "_law_identity" st__law_identity (f ._law_identity) (fd ._law_identity) := fun_mk (st := st__law_identity) l22 c22 k22
  have b22 : Binds K (fd ._law_identity) ["kind"] [] := F22.binds (ps := ["kind"]) fun _ _ _ _ _ _ us hl => match us, hl with | [_], _ => rfl
  have F23 : Fun K "_law_fits" "_law_fits" st__law_fits (f ._law_fits) (fd ._law_fits) := fun_mk (st := st__law_fits) l23 c23 k23
  have b23 : Binds K (fd ._law_fits) ["step", "bounds"] [] := F23.binds (ps := ["step", "bounds"]) fun _ _ _ _ _ _ us hl => match us, hl with | [_, _], _ => rfl
  have F24 : Fun K "_law_grow" "_law_grow" st__law_grow (f ._law_grow) (fd ._law_grow) := fun_mk (st := st__law_grow) l24 c24 k24
  have b24 : Binds K (fd ._law_grow) ["pool", "heap", "way"] [] := F24.binds (ps := ["pool", "heap", "way"]) fun _ _ _ _ _ _ us hl => match us, hl with | [_, _, _], _ => rfl
  have F25 : Fun K "_law_grown" "_law_grown" st__law_grown (f ._law_grown) (fd ._law_grown) := fun_mk (st := st__law_grown) l25 c25 k25
  have b25 : Binds K (fd ._law_grown) ["pool", "heap", "way", "bounds", "ways"] [] := F25.binds (ps := ["pool", "heap", "way", "bounds", "ways"]) fun _ _ _ _ _ _ us hl => match us, hl with | [_, _, _, _, _], _ => rfl
  have F26 : Fun K "_law_joined" "_law_joined" st__law_joined (f ._law_joined) (fd ._law_joined) := fun_mk (st := st__law_joined) l26 c26 k26
  have b26 : Binds K (fd ._law_joined) ["pool", "heap", "bounds", "ways"] [] := F26.binds (ps := ["pool", "heap", "bounds", "ways"]) fun _ _ _ _ _ _ us hl => match us, hl with | [_, _, _, _], _ => rfl
  have F27 : Fun K "_law_paper" "_law_paper" st__law_paper (f ._law_paper) (fd ._law_paper) := fun_mk (st := st__law_paper) l27 c27 k27
  have b27 : Binds K (fd ._law_paper) ["pool", "names", "start", "turns", "bounds", "ways"] [] := F27.binds (ps := ["pool", "names", "start", "turns", "bounds", "ways"]) fun _ _ _ _ _ _ us hl => match us, hl with | [_, _, _, _, _, _], _ => rfl
  have F28 : Fun K "_law_train" "_law_train" st__law_train (f ._law_train) (fd ._law_train) := fun_mk (st := st__law_train) l28 c28 k28
  have b28 : Binds K (fd ._law_train) ["pool", "names", "many"] [] := F28.binds (ps := ["pool", "names", "many"]) fun _ _ _ _ _ _ us hl => match us, hl with | [_, _, _], _ => rfl
  have F29 : Fun K "_law_mirror_kind" "_law_mirror_kind" st__law_mirror_kind (f ._law_mirror_kind) (fd ._law_mirror_kind) := fun_mk (st := st__law_mirror_kind) l29 c29 k29
  have b29 : Binds K (fd ._law_mirror_kind) ["kind"] [] := F29.binds (ps := ["kind"]) fun _ _ _ _ _ _ us hl => match us, hl with | [_], _ => rfl
  have F30 : Fun K "_law_is_integer" "_law_is_integer" st__law_is_integer (f ._law_is_integer) (fd ._law_is_integer) := fun_mk (st := st__law_is_integer) l30 c30 k30
  have b30 : Binds K (fd ._law_is_integer) ["told"] [] := F30.binds (ps := ["told"]) fun _ _ _ _ _ _ us hl => match us, hl with | [_], _ => rfl
  have F31 : Fun K "_law_turned_rule" "_law_turned_rule" st__law_turned_rule (f ._law_turned_rule) (fd ._law_turned_rule) := fun_mk (st := st__law_turned_rule) l31 c31 k31
  have b31 : Binds K (fd ._law_turned_rule) ["rule"] [] := F31.binds (ps := ["rule"]) fun _ _ _ _ _ _ us hl => match us, hl with | [_], _ => rfl
  have F32 : Fun K "_law_turned_place" "_law_turned_place" st__law_turned_place (f ._law_turned_place) (fd ._law_turned_place) := fun_mk (st := st__law_turned_place) l32 c32 k32
  have b32 : Binds K (fd ._law_turned_place) ["step"] [] := F32.binds (ps := ["step"]) fun _ _ _ _ _ _ us hl => match us, hl with | [_], _ => rfl
  have F33 : Fun K "_law_turns" "_law_turns" st__law_turns (f ._law_turns) (fd ._law_turns) := fun_mk (st := st__law_turns) l33 c33 k33
  have b33 : Binds K (fd ._law_turns) ["step", "told"] [] := F33.binds (ps := ["step", "told"]) fun _ _ _ _ _ _ us hl => match us, hl with | [_, _], _ => rfl
  have F34 : Fun K "_law_mirrors" "_law_mirrors" st__law_mirrors (f ._law_mirrors) (fd ._law_mirrors) := fun_mk (st := st__law_mirrors) l34 c34 k34
  have b34 : Binds K (fd ._law_mirrors) ["paper", "told"] [] := F34.binds (ps := ["paper", "told"]) fun _ _ _ _ _ _ us hl => match us, hl with | [_, _], _ => rfl
  have F35 : Fun K "_law_some_paper" "_law_some_paper" st__law_some_paper (f ._law_some_paper) (fd ._law_some_paper) := fun_mk (st := st__law_some_paper) l35 c35 k35
  have b35 : Binds K (fd ._law_some_paper) ["pool"] [] := F35.binds (ps := ["pool"]) fun _ _ _ _ _ _ us hl => match us, hl with | [_], _ => rfl
  have F36 : Fun K "law" "law" st_law (f .law) (fd .law) := fun_mk (st := st_law) l36 c36 k36
  have b36 : Binds K (fd .law) ["script"] [] := F36.binds (ps := ["script"]) fun _ _ _ _ _ _ us hl => match us, hl with | [_], _ => rfl
  let cl : Nat → Addr := fun i => ([] : List Addr).getD i 0
  let tb : Nat → Addr := fun i => ([td0, td1] : List Addr).getD i 0
  have T : Txt w K mg fd cv cu cl tb := ⟨F0, b0, PySem.W.mg_of X G a0, F1, b1, PySem.W.mg_of X G a1, F2, b2, PySem.W.mg_of X G a2, F3, b3, PySem.W.mg_of X G a3, F4, b4, PySem.W.mg_of X G a4, F5, b5, PySem.W.mg_of X G a5, F6, b6, PySem.W.mg_of X G a6, F7, b7, PySem.W.mg_of X G a7, F8, b8, PySem.W.mg_of X G a8, F9, b9, PySem.W.mg_of X G a9, F10, b10, PySem.W.mg_of X G a10, F11, b11, PySem.W.mg_of X G a11, F12, b12, PySem.W.mg_of X G a12, F13, b13, PySem.W.mg_of X G a13, F14, b14, PySem.W.mg_of X G a14, F15, b15, PySem.W.mg_of X G a15, F16, b16, PySem.W.mg_of X G a16, F17, b17, PySem.W.mg_of X G a17, F18, b18, PySem.W.mg_of X G a18, F19, b19, PySem.W.mg_of X G a19, F20, b20, PySem.W.mg_of X G a20, F21, b21, PySem.W.mg_of X G a21, F22, b22, PySem.W.mg_of X G a22, F23, b23, PySem.W.mg_of X G a23, F24, b24, PySem.W.mg_of X G a24, F25, b25, PySem.W.mg_of X G a25, F26, b26, PySem.W.mg_of X G a26, F27, b27, PySem.W.mg_of X G a27, F28, b28, PySem.W.mg_of X G a28, F29, b29, PySem.W.mg_of X G a29, F30, b30, PySem.W.mg_of X G a30, F31, b31, PySem.W.mg_of X G a31, F32, b32, PySem.W.mg_of X G a32, F33, b33, PySem.W.mg_of X G a33, F34, b34, PySem.W.mg_of X G a34, F35, b35, PySem.W.mg_of X G a35, F36, b36, PySem.W.mg_of X G a36, PySem.W.mg_none_of X G z0, PySem.W.mg_none_of X G z1, PySem.W.mg_none_of X G z2, PySem.W.mg_none_of X G z3, PySem.W.mg_none_of X G z4, PySem.W.mg_none_of X G z5, PySem.W.mg_none_of X G z6, PySem.W.mg_none_of X G z7, PySem.W.mg_none_of X G z8, PySem.W.mg_none_of X G z9, PySem.W.mg_none_of X G z10, PySem.W.mg_none_of X G z11, PySem.W.mg_none_of X G z12, PySem.W.mg_of X G ty0, ⟨(List.forall_mem_cons.mpr ⟨⟨.ref f1, ⟨_, _, _, tl0, tk0, tv0_0, rfl⟩, fun _ _ => .raw _⟩, (List.forall_mem_cons.mpr ⟨⟨.ref f2, ⟨_, _, _, tl0, tk0, tv0_1, rfl⟩, fun _ _ => .raw _⟩, (List.forall_mem_cons.mpr ⟨⟨.ref f3, ⟨_, _, _, tl0, tk0, tv0_2, rfl⟩, fun _ _ => .raw _⟩, (List.forall_mem_cons.mpr ⟨⟨.ref f4, ⟨_, _, _, tl0, tk0, tv0_3, rfl⟩, fun _ _ => .raw _⟩, (List.forall_mem_cons.mpr ⟨⟨.ref f5, ⟨_, _, _, tl0, tk0, tv0_4, rfl⟩, fun _ _ => .raw _⟩, (List.forall_mem_cons.mpr ⟨⟨.ref f6, ⟨_, _, _, tl0, tk0, tv0_5, rfl⟩, fun _ _ => .raw _⟩, (List.forall_mem_cons.mpr ⟨⟨.ref f7, ⟨_, _, _, tl0, tk0, tv0_6, rfl⟩, fun _ _ => .raw _⟩, fun p hp => nomatch hp⟩)⟩)⟩)⟩)⟩)⟩)⟩)⟩, PySem.W.mg_of X G ty1, ⟨(List.forall_mem_cons.mpr ⟨⟨.str "under right", ⟨_, _, _, tl1, tk1, tv1_0, ⟨_, rfl⟩⟩, fun _ _ => .str (by decide +kernel)⟩, (List.forall_mem_cons.mpr ⟨⟨.str "over right", ⟨_, _, _, tl1, tk1, tv1_1, ⟨_, rfl⟩⟩, fun _ _ => .str (by decide +kernel)⟩, (List.forall_mem_cons.mpr ⟨⟨.str "pair right", ⟨_, _, _, tl1, tk1, tv1_2, ⟨_, rfl⟩⟩, fun _ _ => .str (by decide +kernel)⟩, (List.forall_mem_cons.mpr ⟨⟨.str "under left", ⟨_, _, _, tl1, tk1, tv1_3, ⟨_, rfl⟩⟩, fun _ _ => .str (by decide +kernel)⟩, (List.forall_mem_cons.mpr ⟨⟨.str "over left", ⟨_, _, _, tl1, tk1, tv1_4, ⟨_, rfl⟩⟩, fun _ _ => .str (by decide +kernel)⟩, (List.forall_mem_cons.mpr ⟨⟨.str "pair left", ⟨_, _, _, tl1, tk1, tv1_5, ⟨_, rfl⟩⟩, fun _ _ => .str (by decide +kernel)⟩, (List.forall_mem_cons.mpr ⟨⟨.str "cut", ⟨_, _, _, tl1, tk1, tv1_6, ⟨_, rfl⟩⟩, fun _ _ => .str (by decide +kernel)⟩, fun p hp => nomatch hp⟩)⟩)⟩)⟩)⟩)⟩)⟩)⟩⟩
  exact ⟨I, fd .law, fun s v => .of_eq rfl, fun base _ _ => (oks T LV).o_law⟩
theorem walk (LV : Nat) (hLV : Dl.Room LV callerA) (good : ∀ [Fa] (ns : List Int), ns.length ≤ 63 → ∃ S, tab LV .law [.ref 0] [.rol (ns.map D.int)] = .ok (.bl true) S) {l : PySem.W.OpenLaw} {q : Program} {loose : List Str} {XP : (Str → Option Value) → Heap → Prop} {YP : World → Heap → Prop} {d : DefRec} {K : Params → PySem.W.Frag} (hn : l.most = some 63) (hdf : d.params.defaults = [])
    (hY : ∀ (w : World) (h : Heap), YP w h → (K w.params).In h)
    (F : ∀ (w : World) (mg : Str → Option Value) (fa : Addr) (h : Heap), (K w.params).In h → h.Ns mainGlobals mg → mg d.name = some (.ref fa) →
      ∃ _ : Fa, ∃ fd : FuncData, (∀ (s : Shared) (u : Value), BindsTo s fd ⟨[u], []⟩ [("script", u)]) ∧ ∀ base : Heap, (K w.params).In base → base.Ns mainGlobals mg → Dl.FnOk l.prog w (K w.params) mg base (L2.CX l.prog w) LV fa fd ["script"] (rdF ⟨K w.params, mg, W0⟩ (tab LV .law))) :
    PySem.W.WalkO q loose XP YP l.row.toRowW d [] (fun f vs => PySem.call f vs) :=
  Dl.walk_of (n := 63) (k := LV) (x := "script") (CX := fun w => L2.CX l.prog w) (sp := fun w vs H Q E => ∀ I : Fa, rdL (K w.params) (@tab I LV .law) vs H Q E) hn (by decide) hdf hLV hY
    (fun w mg fa h KX G hm => by
      obtain ⟨I, fd, hb, hF⟩ := F w mg fa h KX G hm
      exact ⟨fd, hb, fun base kb gb => (hF base kb gb).imp fun vs H Q E h => rdL_F (h I)⟩)
    (fun w H a ns hl hO hS I => law_sp hO hS (@good I ns hl)) fun w H s e s' z => by
      obtain ⟨_, _, _, _, _, _, _, _, _, _, _, _, z⟩ := z
      exact z.elim
end Lw

set_option Elab.async false
set_option linter.all false
set_option maxRecDepth 100000
namespace Lw
open PySem L2 Dl
/-! ## tools of this law -/
theorem tgU_ {ts : List (D → SX)} {ds : List D} {ρ : Dl.Env} {S : Store} (h : ds.length = ts.length) : tgU ts (.tup ds) ρ S = tgL ts ds ρ S := by
  show (if ds.length = ts.length then tgL ts ds else sNo) ρ S = _
  rw [if_pos h]
theorem tgU_l {ts : List (D → SX)} {ds : List D} {ρ : Dl.Env} {S : Store} {l : Nat} (hl : lstAt S l = some ds) (h : ds.length = ts.length) : tgU ts (.ref l) ρ S = tgL ts ds ρ S := by
  show (match lstAt S l with
    | some ds => if ds.length = ts.length then tgL ts ds ρ S else .no
    | none => .no) = _
  rw [hl]
  exact if_pos h
noncomputable def kTab (L : List (Str × D)) : Dl.R D → Dl.R D
  | .ok y S => toR (gTab L .non y S)
  | .ex x S => .ex x S
  | .no => .no
theorem eTab_ {L : List (Str × D)} {f : EX} {ρ : Dl.Env} {S : Store} : eTab L f ρ S = kTab L (f ρ S) := by show (f ρ S).bind _ = _; cases f ρ S <;> rfl
theorem kTab_ {L : List (Str × D)} {y : D} {S : Store} : kTab L (.ok y S) = toR (gTab L .non y S) := rfl
theorem sX_ {x : Str} {ρ : Dl.Env} {S : Store} : sX x ρ S = .ex ⟨x, []⟩ ρ S := rfl
/-! ### stores -/
mutual
theorem wf_mono {n m : Nat} (h : n ≤ m) : ∀ {d : D}, d.wf n = true → d.wf m = true
  | .non, _ => rfl
  | .bl _, _ => rfl
  | .int _, _ => rfl
  | .str _, _ => rfl
  | .tup xs, q => wfs_mono h (show wfs n xs = true from q)
  | .ref l, q => by
    have q' : l < n := of_decide_eq_true q
    exact decide_eq_true (by omega)
  | .raw _, _ => rfl
theorem wfs_mono {n m : Nat} (h : n ≤ m) : ∀ {ds : List D}, wfs n ds = true → wfs m ds = true
  | [], _ => rfl
  | d :: ds, q => by
    have q' : (d.wf n && wfs n ds) = true := q
    rw [Bool.and_eq_true] at q'
    show (d.wf m && wfs m ds) = true
    rw [wf_mono h q'.1, wfs_mono h q'.2]
    rfl
end
theorem cwf_mono {n m : Nat} (h : n ≤ m) {c : Cell} (q : Cell.wf n c = true) : Cell.wf m c = true := by
  cases c with
  | lst xs => exact wfs_mono h q
  | rol xs => exact wfs_mono h q
  | dic kvs => exact wfs_mono h q
  | gone => rfl
theorem cwf_flat {n : Nat} {c : Cell} (q : Cell.flat c = true) : Cell.wf n c = true := by
  cases c with
  | lst xs => exact wfs_flat q
  | rol xs => exact wfs_flat q
  | dic kvs => exact wfs_flat q
  | gone => rfl
/-- no cell holds an address beyond the store -/
def SOK (S : Store) : Prop := ∀ c ∈ S, Cell.wf S.length c = true
theorem SOK.wf {S : Store} {n : Nat} (h : SOK S) (e : S.length = n) : SWf n S = true := by
  subst e
  exact List.all_eq_true.mpr h
theorem SOK.set {S : Store} {i : Nat} {c : Cell} (h : SOK S) (hc : Cell.flat c = true) : SOK (S.set i c) := fun x hx => by
  rw [List.length_set]
  rcases List.mem_or_eq_of_mem_set hx with q | q
  · exact h x q
  · rw [q]; exact cwf_flat hc
theorem SOK.push {S : Store} {c : Cell} (h : SOK S) (hc : Cell.wf S.length c = true) : SOK (S ++ [c]) := fun x hx => by
  have l : S.length ≤ (S ++ [c]).length := by rw [List.length_append]; omega
  rcases List.mem_append.mp hx with q | q
  · exact cwf_mono l (h x q)
  · rw [List.mem_singleton.mp q]; exact cwf_mono l hc
theorem SOK.pushF {S : Store} {c : Cell} (h : SOK S) (hc : Cell.flat c = true) : SOK (S ++ [c]) := h.push (cwf_flat hc)
theorem get_end' {S : Store} {c : Cell} {l : Nat} (h : l = S.length) : (S ++ [c])[l]? = some c := by rw [h]; exact get_end
theorem set_end' {S : Store} {c d : Cell} {l : Nat} (h : l = S.length) : (S ++ [c]).set l d = S ++ [d] := by rw [h]; exact set_end
theorem set_keep {S : Store} {p q : Nat} {c d : Cell} (h : S[q]? = some c) (n : p ≠ q) : (S.set p d)[q]? = some c := by rw [List.getElem?_set_ne n]; exact h
theorem ne_end {S : Store} {p : Nat} {c : Cell} (h : S[p]? = some c) : p ≠ S.length := Nat.ne_of_lt (get_lt h)
theorem chk_app {k : Chk} {T : Store} (S : Store) (h : chkOk k T) : chkOk k (T ++ S) := fun p hp => by
  have q := h p hp
  unfold lstAt at q ⊢
  cases e : T[p.1]? with
  | none => rw [e] at q; exact nomatch q
  | some c => rw [get_app e]; rw [e] at q; exact q
theorem lstAt_app {T : Store} (S : Store) {l : Nat} {xs : List D} (h : lstAt T l = some xs) : lstAt (T ++ S) l = some xs := chk_app (k := [(l, xs)]) S (chk_one h) _ (List.mem_singleton.mpr rfl)
theorem lstAt_lt {T : Store} {l : Nat} {xs : List D} (h : lstAt T l = some xs) : l < T.length := by
  unfold lstAt at h
  cases e : T[l]? with
  | none => rw [e] at h; exact nomatch h
  | some c => exact get_lt e
theorem seq_step {a b : SX} {ρ ρ' : Dl.Env} {S S' : Store} {o : Dl.Out} (h1 : a ρ S = .nx ρ' S') (h2 : b ρ' S' = o) : sQ a b ρ S = o := by rw [sQ_, h1]; exact h2
theorem isi_ss {t : Str} {S : Store} : gIsi .str [.str t, .raw (.ty "str")] S = some (.bl true, S) := by unfold gIsi; exact if_pos rfl
theorem isi_st {t : List D} {S : Store} : gIsi .str [.tup t, .raw (.ty "str")] S = some (.bl false, S) := by unfold gIsi; exact if_pos rfl
theorem isi_tt {t : List D} {S : Store} : gIsi .tup [.tup t, .raw (.ty "tuple")] S = some (.bl true, S) := by unfold gIsi; exact if_pos rfl
theorem runC_all {k : Chk} {ρ : Dl.Env} {l : Nat} {g : Cg} {ft : TX} {fe : EX} (val : D → D) (keep : D → Bool) : ∀ (ds acc : List D) (T : Store), l = T.length → acc.length + ds.length ≤ 1000000 → (∀ S, chkOk k T → chkOk k (T ++ S)) → chkOk k T →
    (∀ d ∈ ds, ∃ ρ1, g.put d ρ = some ρ1 ∧ ∀ a, ft ρ1 (T ++ [Cell.lst a]) = .ok (keep d) (T ++ [Cell.lst a]) ∧ (keep d = true → fe ρ1 (T ++ [Cell.lst a]) = .ok (val d) (T ++ [Cell.lst a]))) →
    runC l ρ g ft fe k ds (T ++ [Cell.lst acc]) = .ok (.ref l) (T ++ [Cell.lst (acc ++ (ds.filter keep).map val)])
  | [], acc, T, hl, hz, hk, hk0, _ => by
    unfold runC
    rw [if_pos (hk _ hk0)]
    simp
  | d :: ds, acc, T, hl, hz, hk, hk0, hd => by
    obtain ⟨ρ1, h1, h2⟩ := hd d (List.mem_cons_self ..)
    obtain ⟨h3, h4⟩ := h2 acc
    have hz' : acc.length + (ds.length + 1) ≤ 1000000 := hz
    unfold runC
    rw [if_pos (hk _ hk0)]
    simp only [h1, h3]
    cases hkd : keep d with
    | false =>
      simp only
      rw [runC_all val keep ds acc T hl (by omega) hk hk0 fun x hx => hd x (List.mem_cons_of_mem _ hx), List.filter_cons_of_neg (by rw [hkd]; exact Bool.false_ne_true)]
    | true =>
      have h4' := h4 hkd
      subst hl
      simp only [h4', get_end]
      rw [if_pos (show acc.length < LIM by show acc.length < 16777216; omega), set_end, runC_all val keep ds (acc ++ [val d]) T rfl (by rw [List.length_append]; simp only [List.length_singleton]; omega) hk hk0 fun x hx => hd x (List.mem_cons_of_mem _ hx),
        List.filter_cons_of_pos hkd, List.map_cons, List.append_assoc]
      rfl
/-! ### == of lists -/
theorem deps_str : ∀ xs : List Str, deps (xs.map D.str) = 0
  | [] => rfl
  | x :: xs => by show max 0 (deps (xs.map D.str)) = 0; rw [deps_str xs]; rfl
def sts (xs : List Str) : List D := xs.map D.str
theorem sts_flat : ∀ xs : List Str, flats (sts xs) = true
  | [] => rfl
  | x :: xs => by show (true && flats (sts xs)) = true; rw [sts_flat xs]; rfl
theorem sts_len (xs : List Str) : (sts xs).length = xs.length := List.length_map ..
theorem sts_app (xs ys : List Str) : sts (xs ++ ys) = sts xs ++ sts ys := List.map_append ..
theorem sts_deqs : ∀ xs : List Str, deqs (sts xs) (sts xs) = true
  | [] => rfl
  | x :: xs => by show ((x == x) && deqs (sts xs) (sts xs)) = true; rw [sts_deqs xs, beq_self_eq_true]; rfl
theorem asP_lst {S : Store} {l : Nat} {xs : List D} (h : lstAt S l = some xs) (hf : flats xs = true) : asP S (.ref l) = some (.list (toPys xs)) := by
  unfold asP
  rw [if_neg (show ¬ (D.ref l).flat = true from Bool.false_ne_true)]
  simp only [h, hf, if_true]
theorem gEq_sts {S : Store} {l r : Nat} {xs : List Str} (h1 : lstAt S l = some (sts xs)) (h2 : lstAt S r = some (sts xs)) : gEq (.ref l) (.ref r) S = some (.bl true, S) := by
  unfold gEq gEqB
  rw [asP_lst h1 (sts_flat xs), asP_lst h2 (sts_flat xs)]
  have e : (PyData.list (toPys (sts xs))).depth ≤ 64 := by
    have q := depth_toPy (.tup (sts xs))
    have q' : PyData.depthAll (toPys (sts xs)) + 1 = deps (sts xs) + 1 := q
    show PyData.depthAll (toPys (sts xs)) + 1 ≤ 64
    rw [q', show deps (sts xs) = 0 from deps_str xs]
    decide
  show Option.map _ (if (PyData.list (toPys (sts xs))).depth ≤ 64 then some (PyData.eqv (.list (toPys (sts xs))) (.list (toPys (sts xs)))) else none) = _
  rw [if_pos e]
  show some (D.bl (PyData.eqvAll (toPys (sts xs)) (toPys (sts xs))), S) = _
  rw [eqvs_toPys (sts xs) (sts xs) (sts_flat xs) (sts_flat xs), sts_deqs]
def mixZ (x : Int) : Int :=
  let y := (x * x + 3 * x + 7919) % 1000003
  (y * y + 5 * y + 104729) % 998244353
def Pool (N : Nat) (P : List D) : Prop := ∃ a b c : Int, P = [.int a, .int b, .int c] ∧ 0 ≤ b ∧ b ≤ 10000000000 ∧ 0 ≤ c ∧ c ≤ N
theorem Pool.flat {N : Nat} {P : List D} (h : Pool N P) : flats P = true := by obtain ⟨a, b, c, rfl, _⟩ := h; rfl
theorem Pool.mono {N M : Nat} {P : List D} (h : Pool N P) (l : N ≤ M) : Pool M P := by obtain ⟨a, b, c, e, h1, h2, h3, h4⟩ := h; exact ⟨a, b, c, e, h1, h2, h3, by omega⟩
/-! ## atoms -/
def SM : List Nat := ("abcdefghijklmnopqrstuvwxyz0123456789" : Str).cps.toList
structure Base (b : Str) : Prop where
  all : ∀ c ∈ b.cps.toList, c ∈ SM
  fst : ∃ c, b.cps.toList[0]? = some c ∧ c ∈ ("abcdefghijklmnopqrstuvwxyz" : Str).cps.toList
  len : b.length ≤ 8
theorem sm_dot : ∀ c ∈ SM, c ≠ 46 := by decide +kernel
theorem Base.dot {b : Str} (h : Base b) : 46 ∉ b.cps.toList := fun q => sm_dot 46 (h.all 46 q) rfl
theorem Base.ne {b : Str} (h : Base b) : 1 ≤ b.length := by
  obtain ⟨c, hc, _⟩ := h.fst
  have q := (List.getElem?_eq_some_iff.mp hc).1
  show 1 ≤ b.cps.size
  rw [← Array.length_toList]; omega
def atT (b : Str) (m : Int) : Str := if m = 0 then b else b ++ "." ++ (toString m : Str)
theorem dot_ : ("." : Str) = ⟨#[46]⟩ := by decide +kernel
theorem dot_list : ("." : Str).cps.toList = [46] := by decide +kernel
theorem app_list (a b : Str) : (a ++ b).cps.toList = a.cps.toList ++ b.cps.toList := Array.toList_append
theorem app_len (a b : Str) : (a ++ b).length = a.length + b.length := str_app_len a b
theorem dot_len : ("." : Str).length = 1 := by decide +kernel
theorem len_list (a : Str) : a.cps.toList.length = a.length := Array.length_toList
theorem num_len {m : Int} (h0 : 0 ≤ m) (h1 : m ≤ 999999) : (toString m : Str).length ≤ 6 := PyProof.Rows.toString_length_le h0 (by decide) (by omega)
theorem log_small {m : Int} (h0 : 0 ≤ m) (h1 : m ≤ 999999) : m.natAbs.log2 < 1920 := by
  by_cases e : m.natAbs = 0
  · rw [e]; decide
  · have : m.natAbs.log2 < 20 := (Nat.log2_lt e).mpr (by omega)
    omega
theorem gStr_ {m : Int} {S : Store} (h0 : 0 ≤ m) (h1 : m ≤ 999999) : gStr [.int m] S = some (.str (toString m), S) := if_pos ⟨log_small h0 h1, by have := num_len h0 h1; show _ ≤ 16777216; omega⟩
theorem digs (n : Nat) : ∀ c ∈ (Nat.toDigits 10 n).map Char.toNat, c ∈ ("0123456789" : Str).cps.toList := by
  induction n using Nat.strongRecOn with
  | _ n ih =>
    have one : ∀ d : Nat, d < 10 → (Nat.digitChar d).toNat ∈ ("0123456789" : Str).cps.toList := by decide +kernel
    by_cases h : n < 10
    · rw [Nat.toDigits_of_lt_base h]
      intro c hc
      rw [List.mem_singleton.mp hc]
      exact one n h
    · have hm : n % 10 < 10 := Nat.mod_lt n (by decide)
      have t : Nat.toDigits 10 (n / 10) ++ Nat.toDigits 10 (n % 10) = Nat.toDigits 10 (10 * (n / 10) + n % 10) := Nat.toDigits_append_toDigits (by decide) (by omega) hm
      rw [Nat.div_add_mod] at t
      rw [← t, List.map_append, Nat.toDigits_of_lt_base hm]
      intro c hc
      rcases List.mem_append.mp hc with q | q
      · exact ih (n / 10) (by omega) c q
      · rw [List.mem_singleton.mp q]
        exact one _ hm
theorem dig_head (n : Nat) (h0 : 0 < n) : ∃ c, ((Nat.toDigits 10 n).map Char.toNat)[0]? = some c ∧ c ≠ 48 := by
  induction n using Nat.strongRecOn with
  | _ n ih =>
    have one : ∀ d : Nat, d < 10 → 0 < d → (Nat.digitChar d).toNat ≠ 48 := by decide +kernel
    by_cases h : n < 10
    · rw [Nat.toDigits_of_lt_base h]
      exact ⟨_, rfl, one n h h0⟩
    · have hm : n % 10 < 10 := Nat.mod_lt n (by decide)
      have t : Nat.toDigits 10 (n / 10) ++ Nat.toDigits 10 (n % 10) = Nat.toDigits 10 (10 * (n / 10) + n % 10) := Nat.toDigits_append_toDigits (by decide) (by omega) hm
      rw [Nat.div_add_mod] at t
      rw [← t, List.map_append]
      obtain ⟨c, h1, h2⟩ := ih (n / 10) (by omega) (by omega)
      exact ⟨c, by rw [List.getElem?_append_left (List.getElem?_eq_some_iff.mp h1).1]; exact h1, h2⟩
theorem num_list {m : Int} (h0 : 0 ≤ m) : (toString m : Str).cps.toList = (Nat.toDigits 10 m.toNat).map Char.toNat := by
  obtain ⟨n, rfl⟩ := Int.eq_ofNat_of_zero_le h0
  exact PySem.W.KIN.signs_num n
theorem num_dig {m : Int} (h0 : 0 ≤ m) : ∀ c ∈ (toString m : Str).cps.toList, c ∈ ("0123456789" : Str).cps.toList := by rw [num_list h0]; exact digs _
theorem dig_dot : ∀ c ∈ ("0123456789" : Str).cps.toList, c ≠ 46 := by decide +kernel
theorem num_dot {m : Int} (h0 : 0 ≤ m) : 46 ∉ (toString m : Str).cps.toList := fun q => dig_dot 46 (num_dig h0 46 q) rfl
/-- its split at the dot -/
theorem ext_list {a b : Str} (h : a.cps.toList = b.cps.toList) : a = b := by
  cases a; cases b
  exact congrArg Str.mk (Array.toList_inj.mp h)
theorem split_atom {b : Str} {m : Int} (hb : Base b) (h0 : 0 ≤ m) : Txt.split (atT b m) "." = if m = 0 then [b] else [b, (toString m : Str)] := by
  unfold atT
  by_cases e : m = 0
  · rw [if_pos e, if_pos e]
    have q := TL.split_join (y := ".") (s := 46) (S := []) dot_list (by decide +kernel) (parts := [b]) (by simp) (fun p hp => by rw [List.mem_singleton.mp hp]; exact hb.dot)
    rw [show Txt.join "." [b] = b from rfl] at q
    exact q
  · rw [if_neg e, if_neg e]
    have q := TL.split_join (y := ".") (s := 46) (S := []) dot_list (by decide +kernel) (parts := [b, (toString m : Str)]) (by simp) (fun p hp => by
      rcases List.mem_cons.mp hp with rfl | hp
      · exact hb.dot
      · rw [List.mem_singleton.mp hp]; exact num_dot h0)
    rw [show Txt.join "." [b, (toString m : Str)] = b ++ "." ++ (toString m : Str) from ext_list (by
      rw [TL.join_eq]
      have t := TL.tl_join "." [b, (toString m : Str)]
      rw [show (Str.join "." [b, (toString m : Str)]).cps.toList = _ from t, app_list, app_list, dot_list]
      show b.cps.toList ++ (("." : Str).cps.toList ++ (toString m : Str).cps.toList) = _
      rw [dot_list, List.append_assoc])] at q
    exact q
theorem atT_len {b : Str} {m : Int} (hb : Base b) (h0 : 0 ≤ m) (h1 : m ≤ 999999) : (atT b m).length ≤ 15 := by
  unfold atT
  have l1 := num_len h0 h1
  have l2 := hb.len
  have l3 := dot_len
  by_cases e : m = 0
  · rw [if_pos e]; omega
  · rw [if_neg e, app_len, app_len]; omega
theorem gSplit_ {t : Str} {ps : List Str} {S : Store} (h : Txt.split t "." = ps) (hl : t.length ≤ 100) (hp : ∀ p ∈ ps, p.length ≤ 100) : gSplit (.str t) [.str "."] S = some (.ref S.length, S ++ [Cell.lst (sts ps)]) := by
  show (if ("." : Str).length ≠ 0 ∧ t.length + 2 ≤ LIM ∧ ((Txt.split t ".").all fun p => decide (p.length ≤ LIM)) = true then some (D.ref S.length, S ++ [Cell.lst ((Txt.split t ".").map .str)]) else none) = _
  rw [h, if_pos ⟨by rw [dot_len]; decide, by show _ ≤ 16777216; omega, List.all_eq_true.mpr fun p q => decide_eq_true (by have := hp p q; show _ ≤ 16777216; omega)⟩]
  rfl

theorem dotted {S : Store} {b : Str} {m : Int} (hb : Base b) (h0 : 0 < m) (h1 : m ≤ 999999) : gStr [.int m] S = some (.str (toString m), S) ∧ gAdd (.str b) (.str ".") S = some (.str (b ++ "."), S) ∧ gAdd (.str (b ++ ".")) (.str (toString m)) S = some (.str (atT b m), S) := by
  have l1 := num_len (by omega) h1
  have l2 := app_len b "."
  have l3 := dot_len
  have l4 := hb.len
  refine ⟨gStr_ (by omega) h1, gAdd_str (by omega), ?_⟩
  rw [gAdd_str (by omega)]
  unfold atT
  rw [if_neg (by omega)]
def AtS (t : Str) : Prop := ∃ b m, t = atT b m ∧ Base b ∧ 0 ≤ m ∧ m ≤ 999999
theorem base_at {b : Str} (hb : Base b) : AtS b := ⟨b, 0, by unfold atT; rw [if_pos rfl], hb, by decide, by decide⟩
/-! ## a base, a numbered atom -/
theorem sm36 : (("abcdefghijklmnopqrstuvwxyz" : Str) ++ ("0123456789" : Str)).cps.toList = SM := by decide +kernel
theorem small_len : ("abcdefghijklmnopqrstuvwxyz" : Str).length = 26 := by decide +kernel
theorem dig_len : ("0123456789" : Str).length = 10 := by decide +kernel
theorem small26_len : ("abcdefghijklmnopqrstuvwxyz" : Str).cps.toList.length = 26 := by decide +kernel
theorem sm_len : SM.length = 36 := by decide +kernel
theorem small_sm : ∀ c ∈ ("abcdefghijklmnopqrstuvwxyz" : Str).cps.toList, c ∈ SM := by decide +kernel
/-! ## kinds as trees -/
def Sg (s : Str) : Prop := s = "/" ∨ s = ">" ∨ s = "*"
inductive KT where
  | leaf (t : Str) | node (s : Str) (a b : KT)
namespace KT
def d : KT → D
  | leaf t => .str t
  | node s a b => .tup [.str s, a.d, b.d]
def at_ : KT → List Str
  | leaf t => [t]
  | node _ a b => a.at_ ++ b.at_
def ok (P : Str → Prop) : KT → Prop
  | leaf t => P t
  | node s a b => Sg s ∧ a.ok P ∧ b.ok P
theorem flat : ∀ k : KT, k.d.flat = true
  | leaf t => rfl
  | node s a b => by show (true && (a.d.flat && (b.d.flat && true))) = true; rw [flat a, flat b]; rfl
theorem pos : ∀ k : KT, 1 ≤ k.at_.length
  | leaf t => Nat.le_refl _
  | node s a b => by
    have := pos a
    show 1 ≤ (a.at_ ++ b.at_).length
    rw [List.length_append]; omega
theorem dep : ∀ k : KT, k.d.dep + 1 ≤ k.at_.length
  | leaf t => Nat.le_refl _
  | node s a b => by
    have ha := dep a
    have hb := dep b
    have pa := pos a
    have pb := pos b
    show max 0 (max a.d.dep (max b.d.dep 0)) + 1 + 1 ≤ (a.at_ ++ b.at_).length
    rw [List.length_append]; omega
theorem len_node {s : Str} {a b : KT} : (node s a b).at_.length = a.at_.length + b.at_.length := List.length_append ..
end KT
theorem ix0 {s a b : D} {S : Store} : gIx (.tup [s, a, b]) (.int 0) S = some (s, S) := rfl
theorem ix1 {s a b : D} {S : Store} : gIx (.tup [s, a, b]) (.int 1) S = some (a, S) := rfl
theorem ix2 {s a b : D} {S : Store} : gIx (.tup [s, a, b]) (.int 2) S = some (b, S) := rfl
theorem signs3 {d : Int} (h0 : 0 ≤ d) (h1 : d < 3) (S : Store) : ∃ s : Str, Sg s ∧ gIx (.str "/>*") (.int d) S = some (.str s, S) := by
  have h : d = 0 ∨ d = 1 ∨ d = 2 := by omega
  rcases h with rfl | rfl | rfl
  · exact ⟨"/", .inl rfl, (gIx_str (c := 47) (by decide +kernel)).trans (by rw [show (⟨#[47]⟩ : Str) = "/" by decide +kernel])⟩
  · exact ⟨">", .inr (.inl rfl), (gIx_str (c := 62) (by decide +kernel)).trans (by rw [show (⟨#[62]⟩ : Str) = ">" by decide +kernel])⟩
  · exact ⟨"*", .inr (.inr rfl), (gIx_str (c := 42) (by decide +kernel)).trans (by rw [show (⟨#[42]⟩ : Str) = "*" by decide +kernel])⟩
def ins (xs : List Int) : List D := xs.map D.int
theorem ins_flat : ∀ xs : List Int, flats (ins xs) = true
  | [] => rfl
  | x :: xs => by show (true && flats (ins xs)) = true; rw [ins_flat xs]; rfl
theorem ins_len (xs : List Int) : (ins xs).length = xs.length := List.length_map ..
theorem ins_app (xs ys : List Int) : ins (xs ++ ys) = ins xs ++ ins ys := List.map_append ..
theorem ins_D : ∀ xs : List Int, intsD (ins xs) = some xs
  | [] => rfl
  | x :: xs => by show (intsD (ins xs)).map (x :: ·) = _; rw [ins_D xs]; rfl
theorem gSum_ {S : Store} {l : Nat} {xs : List Int} (h : lstAt S l = some (ins xs)) : gSum [.ref l] S = some (.int xs.sum, S) := by
  show ((lstAt S l).bind intsD).map (fun ns => (D.int ns.sum, S)) = _
  rw [h]
  show (intsD (ins xs)).map (fun ns => (D.int ns.sum, S)) = _
  rw [ins_D]
  rfl
def kds (ks : List KT) : List D := ks.map KT.d
theorem kds_flat : ∀ ks : List KT, flats (kds ks) = true
  | [] => rfl
  | k :: ks => by show (k.d.flat && flats (kds ks)) = true; rw [KT.flat k, kds_flat ks]; rfl
theorem kds_len (ks : List KT) : (kds ks).length = ks.length := List.length_map ..
theorem kds_app (ks js : List KT) : kds (ks ++ js) = kds ks ++ kds js := List.map_append ..
/-- a kind of at most 40 atoms -/
def Fit (k : KT) : Prop := k.ok AtS ∧ k.at_.length ≤ 40
theorem KTd_leaf {t : Str} : KT.d (.leaf t) = .str t := Dl.nr rfl
theorem KTd_node {s : Str} {a b : KT} : KT.d (.node s a b) = .tup [.str s, a.d, b.d] := Dl.nr rfl
theorem e1 : (("" : Str) = "/") = False := eq_false (by decide)
theorem e2 : (("" : Str) = ">") = False := eq_false (by decide)
theorem e3 : (("" : Str) = "*") = False := eq_false (by decide)
theorem q1 : (("/" : Str) = ">") = False := eq_false (by decide)
theorem q2 : (("/" : Str) = "*") = False := eq_false (by decide)
theorem q3 : ((">" : Str) = "/") = False := eq_false (by decide)
theorem q4 : ((">" : Str) = "*") = False := eq_false (by decide)
theorem q5 : (("*" : Str) = "/") = False := eq_false (by decide)
theorem q6 : (("*" : Str) = ">") = False := eq_false (by decide)
theorem flats_iff : ∀ {xs : List D}, flats xs = true ↔ ∀ x ∈ xs, x.flat = true
  | [] => ⟨fun _ x h => (nomatch h), fun _ => rfl⟩
  | x :: xs => by
    show (x.flat && flats xs) = true ↔ _
    rw [Bool.and_eq_true, flats_iff (xs := xs), List.forall_mem_cons]
theorem flats_app {xs ys : List D} (h : flats xs = true) (h2 : flats ys = true) : flats (xs ++ ys) = true := flats_iff.mpr fun x hx => by
  rcases List.mem_append.mp hx with z | z
  · exact flats_iff.mp h x z
  · exact flats_iff.mp h2 x z
theorem flats_take {xs : List D} (n : Nat) (h : flats xs = true) : flats (xs.take n) = true := flats_iff.mpr fun x hx => flats_iff.mp h x (List.mem_of_mem_take hx)
theorem flats_drop {xs : List D} (n : Nat) (h : flats xs = true) : flats (xs.drop n) = true := flats_iff.mpr fun x hx => flats_iff.mp h x (List.mem_of_mem_drop hx)
theorem flats_cons {x : D} {xs : List D} (h : x.flat = true) (h2 : flats xs = true) : flats (x :: xs) = true := flats_iff.mpr fun y hy => by
  rcases List.mem_cons.mp hy with rfl | z
  · exact h
  · exact flats_iff.mp h2 y z
theorem deps_kds : ∀ {ks : List KT} {m : Nat}, (∀ k ∈ ks, Fit k) → 40 ≤ m → deps (kds ks) ≤ m
  | [], _, _, _ => Nat.zero_le _
  | k :: ks, m, h, hm => by
    have h1 := KT.dep k
    have h2 := (h k (List.mem_cons_self ..)).2
    have h3 := deps_kds (ks := ks) (fun x hx => h x (List.mem_cons_of_mem _ hx)) hm
    show max k.d.dep (deps (kds ks)) ≤ m
    omega
theorem SOK.sx {S : Store} {L : List Cell} (h : SOK S) (hL : Dl.FL L) : SOK (Dl.sx S L) := fun c hc => by
  rcases List.mem_append.mp (show c ∈ S ++ L from hc) with z | z
  · exact cwf_mono (by rw [Dl.sx_len]; omega) (h c z)
  · exact cwf_flat (hL.mem z)
theorem gEqT {x y : List D} {S : Store} (hx : flats x = true) (hy : flats y = true) (hd : deps x ≤ 63) : gEq (.tup x) (.tup y) S = some (.bl (deqs x y), S) := gEq_flat hx hy (by show deps x + 1 ≤ 64; omega)
theorem rng_map {n : Nat} {lo : Int} {f : Nat → D} {g : D → D} (h : ∀ k, k < n → g (.int (lo + k)) = f k) : (rng lo n).map g = (List.range n).map f := by
  unfold rng
  rw [List.map_map]
  exact List.map_congr_left fun k hk => h k (List.mem_range.mp hk)
theorem deqs_ints : ∀ xs : List Int, deqs (xs.map D.int) (xs.map D.int) = true
  | [] => rfl
  | x :: xs => by show ((x == x) && deqs _ _) = true; rw [deqs_ints xs, beq_self_eq_true]; rfl
theorem ints_flat : ∀ xs : List Int, flats (xs.map D.int) = true
  | [] => rfl
  | x :: xs => by show (true && flats _) = true; rw [ints_flat xs]; rfl
theorem deps_ints : ∀ xs : List Int, deps (xs.map D.int) = 0
  | [] => rfl
  | x :: xs => by show max 0 (deps _) = 0; rw [deps_ints xs]; rfl
theorem gNe_ints {S : Store} {l r : Nat} {xs : List Int} (h1 : lstAt S l = some (xs.map D.int)) (h2 : lstAt S r = some (xs.map D.int)) : gNe (.ref l) (.ref r) S = some (.bl false, S) := by
  unfold gNe gEqB
  rw [asP_lst h1 (ints_flat xs), asP_lst h2 (ints_flat xs)]
  have e : (PyData.list (toPys (xs.map D.int))).depth ≤ 64 := by
    have q := depth_toPy (.tup (xs.map D.int))
    have q' : PyData.depthAll (toPys (xs.map D.int)) + 1 = deps (xs.map D.int) + 1 := q
    show PyData.depthAll (toPys (xs.map D.int)) + 1 ≤ 64
    rw [q', deps_ints xs]
    decide
  show Option.map _ (if (PyData.list (toPys (xs.map D.int))).depth ≤ 64 then some (PyData.eqv (.list (toPys (xs.map D.int))) (.list (toPys (xs.map D.int)))) else none) = _
  rw [if_pos e]
  show some (D.bl (!PyData.eqvAll (toPys (xs.map D.int)) (toPys (xs.map D.int))), S) = _
  rw [eqvs_toPys _ _ (ints_flat xs) (ints_flat xs), deqs_ints]
  rfl
theorem atI_mid {A B : List D} {x : D} {i : Nat} (h : A.length = i) : atI (A ++ x :: B) (i : Int) = some x := atI_nat (by rw [← h, List.getElem?_append_right (Nat.le_refl _), Nat.sub_self]; rfl)
theorem atI_mid1 {A B : List D} {x y : D} {i : Nat} (h : A.length = i) : atI (A ++ x :: y :: B) ((i : Int) + 1) = some y := by
  rw [show ((i : Int) + 1) = ((i + 1 : Nat) : Int) by omega]
  exact atI_nat (by rw [← h, List.getElem?_append_right (by omega), Nat.add_sub_cancel_left]; rfl)
theorem cut_mid1 {A B : List D} {i : Nat} (h : A.length = i) : cutD (A ++ B) none (some (i : Int)) = A := by
  rw [Dl.cut_take (by omega), Int.toNat_natCast]
  exact List.take_left' h
theorem cut_mid2 {A B : List D} {x : D} {i : Nat} (h : A.length = i) : cutD (A ++ x :: B) (some ((i : Int) + 1)) none = B := by
  rw [Dl.cut_drop (by omega), show ((i : Int) + 1).toNat = A.length + 1 by omega, ← List.drop_drop, List.drop_left' rfl]
  rfl
theorem cut_mid3 {A B : List D} {x y : D} {i : Nat} (h : A.length = i) : cutD (A ++ x :: y :: B) (some ((i : Int) + 2)) none = B := by
  rw [Dl.cut_drop (by omega), show ((i : Int) + 2).toNat = A.length + 2 by omega, ← List.drop_drop, List.drop_left' rfl]
  rfl
theorem take_mid {ks : List D} {i : Nat} {x : D} (h : ks[i]? = some x) : ks.take i ++ x :: ks.drop (i + 1) = ks := by
  have hl := get_lt h
  have e : ks.drop i = x :: ks.drop (i + 1) := by
    rw [List.drop_eq_getElem_cons hl]
    congr 1
    rw [List.getElem?_eq_getElem hl] at h
    exact Option.some.inj h
  rw [← e, List.take_append_drop]
theorem deq_self_str {d : D} {t : Str} (h : deq d (.str t) = true) : d = .str t := by
  cases d with
  | str x => exact congrArg D.str (eq_of_beq (show (x == t) = true from h))
  | _ => exact nomatch h
theorem SOK.st {S : Store} {p : Nat} {P : List D} {L : List Cell} (h : SOK S) (hP : flats P = true) (hL : Dl.FL L) : SOK (Dl.st S p P L) := fun c hc => by
  have q : SOK (S.set p (Cell.lst P)) := h.set (c := Cell.lst P) hP
  rcases List.mem_append.mp (show c ∈ S.set p (Cell.lst P) ++ L from hc) with z | z
  · exact cwf_mono (by rw [Dl.st_len, List.length_set]; omega) (q c z)
  · exact cwf_flat (hL.mem z)
theorem partL_free {c : Nat} {xs : List Nat} (h : c ∉ xs) : partL c xs = (xs, [], []) := if_neg h
theorem partL_at {c : Nat} {xs ys : List Nat} (h : c ∉ xs) : partL c (xs ++ c :: ys) = (xs, [c], ys) := by
  have hp : ∀ x ∈ xs, (x != c) = true := fun x hx => bne_iff_ne.mpr fun e => h (e ▸ hx)
  have hn : (c != c) = false := bne_self_eq_false c
  unfold partL
  rw [if_pos (List.mem_append.mpr (.inr (List.mem_cons_self ..))), List.takeWhile_append_of_pos hp, List.dropWhile_append_of_pos hp, List.takeWhile_cons_of_neg (by rw [hn]; exact Bool.false_ne_true), List.dropWhile_cons_of_neg (by rw [hn]; exact Bool.false_ne_true), List.append_nil]
  rfl
theorem str_back (x : Str) : (⟨x.cps.toList.toArray⟩ : Str) = x := by cases x with | mk a => show (⟨a.toList.toArray⟩ : Str) = _; rw [Array.toArray_toList]
theorem part_at {b : Str} {m : Int} (hb : Base b) (S : Store) : gPart (.str (atT b m)) [.str "."] S = some (.tup [.str b, .str ⟨(if m = 0 then [] else [46]).toArray⟩, .str (if m = 0 then ⟨#[]⟩ else (toString m : Str))], S) := by
  show (if ("." : Str).length = 1 then _ else none) = _
  rw [if_pos dot_len, show ("." : Str).cps.getD 0 0 = 46 by decide +kernel]
  unfold atT
  by_cases e : m = 0
  · rw [if_pos e, if_pos e, if_pos e, partL_free hb.dot]
    show some (D.tup [.str ⟨b.cps.toList.toArray⟩, _, _], S) = _
    rw [str_back]
  · rw [if_neg e, if_neg e, if_neg e, app_list, app_list, dot_list, List.append_assoc, List.singleton_append, partL_at hb.dot]
    show some (D.tup [.str ⟨b.cps.toList.toArray⟩, _, .str ⟨_⟩], S) = _
    rw [str_back]
/-! ### signs in texts -/
theorem chr_len (c : Nat) : (⟨#[c]⟩ : Str).length = 1 := rfl
theorem gIn_c {c : Nat} {b : Str} {S : Store} : gIn (.str ⟨#[c]⟩) (.str b) S = some (.bl (decide (c ∈ b.cps.toList)), S) := by
  show Option.map _ (if (⟨#[c]⟩ : Str).length = 1 then some (decide ((⟨#[c]⟩ : Str).cps.getD 0 0 ∈ b.cps.toList)) else none) = _
  rw [if_pos (chr_len c)]
  rfl
theorem gNin_c {c : Nat} {b : Str} {S : Store} : gNin (.str ⟨#[c]⟩) (.str b) S = some (.bl (!decide (c ∈ b.cps.toList)), S) := by
  show Option.map _ (if (⟨#[c]⟩ : Str).length = 1 then some (decide ((⟨#[c]⟩ : Str).cps.getD 0 0 ∈ b.cps.toList)) else none) = _
  rw [if_pos (chr_len c)]
  rfl
theorem chr_inj {a b : Nat} (h : (⟨#[a]⟩ : Str) = ⟨#[b]⟩) : a = b := by
  have := congrArg (fun s : Str => s.cps.toList) h
  exact (List.cons.inj this).1
def allC (S : Store) : Option (List Bool) → Option (D × Store)
  | some bs => some (.bl (bs.all id), S)
  | none => none
theorem gAll_r {S : Store} {l : Nat} : gAll [.ref l] S = allC S ((lstC S[l]?).bind bools) := by
  show ((lstAt S l).bind bools).map (fun bs => (D.bl (bs.all id), S)) = _
  rw [lstAt_C]
  cases (lstC S[l]?).bind bools <;> rfl
theorem allC_s {S : Store} {bs : List Bool} : allC S (some bs) = some (.bl (bs.all id), S) := Dl.nr rfl
theorem bools_true {α : Type} : ∀ xs : List α, bools (xs.map fun _ => D.bl true) = some (xs.map fun _ => true)
  | [] => rfl
  | x :: xs => by show (bools (xs.map fun _ => D.bl true)).map (true :: ·) = _; rw [bools_true xs]; rfl
theorem all_true {α : Type} : ∀ xs : List α, ((xs.map fun _ => true).all id) = true
  | [] => rfl
  | x :: xs => by show (true && (xs.map fun _ => true).all id) = true; rw [all_true xs]; rfl
theorem chars_map {x : Str} : (x.cps.toList.map fun c => D.str ⟨#[c]⟩).map (fun _ => D.bl true) = (x.cps.toList.map fun _ => D.bl true) := by rw [List.map_map]; rfl
theorem num_head {m : Int} (h0 : 0 < m) : ∃ c, (toString m : Str).cps.toList[0]? = some c ∧ c ≠ 48 := by
  rw [num_list (by omega)]
  exact dig_head m.toNat (by omega)
end Lw

set_option Elab.async false
set_option linter.all false
set_option maxRecDepth 100000
namespace Lw
open PySem L2 Dl
/-! ## names of rules -/
theorem r_ax_or : (("axiom" : Str) = "over right") = False := eq_false (by decide)
theorem r_ax_ur : (("axiom" : Str) = "under right") = False := eq_false (by decide)
theorem r_ax_pr : (("axiom" : Str) = "pair right") = False := eq_false (by decide)
theorem r_ax_ol : (("axiom" : Str) = "over left") = False := eq_false (by decide)
theorem r_ax_ul : (("axiom" : Str) = "under left") = False := eq_false (by decide)
theorem r_ax_pl : (("axiom" : Str) = "pair left") = False := eq_false (by decide)
theorem r_ax_ct : (("axiom" : Str) = "cut") = False := eq_false (by decide)
theorem r_or_ax : (("over right" : Str) = "axiom") = False := eq_false (by decide)
theorem r_or_ur : (("over right" : Str) = "under right") = False := eq_false (by decide)
theorem r_or_pr : (("over right" : Str) = "pair right") = False := eq_false (by decide)
theorem r_or_ol : (("over right" : Str) = "over left") = False := eq_false (by decide)
theorem r_or_ul : (("over right" : Str) = "under left") = False := eq_false (by decide)
theorem r_or_pl : (("over right" : Str) = "pair left") = False := eq_false (by decide)
theorem r_or_ct : (("over right" : Str) = "cut") = False := eq_false (by decide)
theorem r_ur_ax : (("under right" : Str) = "axiom") = False := eq_false (by decide)
theorem r_ur_or : (("under right" : Str) = "over right") = False := eq_false (by decide)
theorem r_ur_pr : (("under right" : Str) = "pair right") = False := eq_false (by decide)
theorem r_ur_ol : (("under right" : Str) = "over left") = False := eq_false (by decide)
theorem r_ur_ul : (("under right" : Str) = "under left") = False := eq_false (by decide)
theorem r_ur_pl : (("under right" : Str) = "pair left") = False := eq_false (by decide)
theorem r_ur_ct : (("under right" : Str) = "cut") = False := eq_false (by decide)
theorem r_pr_ax : (("pair right" : Str) = "axiom") = False := eq_false (by decide)
theorem r_pr_or : (("pair right" : Str) = "over right") = False := eq_false (by decide)
theorem r_pr_ur : (("pair right" : Str) = "under right") = False := eq_false (by decide)
theorem r_pr_ol : (("pair right" : Str) = "over left") = False := eq_false (by decide)
theorem r_pr_ul : (("pair right" : Str) = "under left") = False := eq_false (by decide)
theorem r_pr_pl : (("pair right" : Str) = "pair left") = False := eq_false (by decide)
theorem r_pr_ct : (("pair right" : Str) = "cut") = False := eq_false (by decide)
theorem r_ol_ax : (("over left" : Str) = "axiom") = False := eq_false (by decide)
theorem r_ol_or : (("over left" : Str) = "over right") = False := eq_false (by decide)
theorem r_ol_ur : (("over left" : Str) = "under right") = False := eq_false (by decide)
theorem r_ol_pr : (("over left" : Str) = "pair right") = False := eq_false (by decide)
theorem r_ol_ul : (("over left" : Str) = "under left") = False := eq_false (by decide)
theorem r_ol_pl : (("over left" : Str) = "pair left") = False := eq_false (by decide)
theorem r_ol_ct : (("over left" : Str) = "cut") = False := eq_false (by decide)
theorem r_ul_ax : (("under left" : Str) = "axiom") = False := eq_false (by decide)
theorem r_ul_or : (("under left" : Str) = "over right") = False := eq_false (by decide)
theorem r_ul_ur : (("under left" : Str) = "under right") = False := eq_false (by decide)
theorem r_ul_pr : (("under left" : Str) = "pair right") = False := eq_false (by decide)
theorem r_ul_ol : (("under left" : Str) = "over left") = False := eq_false (by decide)
theorem r_ul_pl : (("under left" : Str) = "pair left") = False := eq_false (by decide)
theorem r_ul_ct : (("under left" : Str) = "cut") = False := eq_false (by decide)
theorem r_pl_ax : (("pair left" : Str) = "axiom") = False := eq_false (by decide)
theorem r_pl_or : (("pair left" : Str) = "over right") = False := eq_false (by decide)
theorem r_pl_ur : (("pair left" : Str) = "under right") = False := eq_false (by decide)
theorem r_pl_pr : (("pair left" : Str) = "pair right") = False := eq_false (by decide)
theorem r_pl_ol : (("pair left" : Str) = "over left") = False := eq_false (by decide)
theorem r_pl_ul : (("pair left" : Str) = "under left") = False := eq_false (by decide)
theorem r_pl_ct : (("pair left" : Str) = "cut") = False := eq_false (by decide)
theorem r_ct_ax : (("cut" : Str) = "axiom") = False := eq_false (by decide)
theorem r_ct_or : (("cut" : Str) = "over right") = False := eq_false (by decide)
theorem r_ct_ur : (("cut" : Str) = "under right") = False := eq_false (by decide)
theorem r_ct_pr : (("cut" : Str) = "pair right") = False := eq_false (by decide)
theorem r_ct_ol : (("cut" : Str) = "over left") = False := eq_false (by decide)
theorem r_ct_ul : (("cut" : Str) = "under left") = False := eq_false (by decide)
theorem r_ct_pl : (("cut" : Str) = "pair left") = False := eq_false (by decide)
/-! ## x in a list of texts -/
def strsD : List D → Option (List Str)
  | [] => some []
  | .str a :: r => (strsD r).map (a :: ·)
  | _ :: _ => none
theorem strsD_flat : ∀ {ys : List D} {xs : List Str}, strsD ys = some xs → flats ys = true ∧ ∀ t : Str, (ys.any fun y => deq y (.str t)) = xs.any (· == t)
  | [], xs, h => by cases h; exact ⟨rfl, fun t => rfl⟩
  | .str a :: r, xs, h => by
    have h : (strsD r).map (a :: ·) = some xs := h
    cases e : strsD r with
    | none => rw [e] at h; exact nomatch h
    | some zs =>
      rw [e] at h
      cases h
      obtain ⟨h1, h2⟩ := strsD_flat e
      refine ⟨by show (true && flats r) = true; rw [h1]; rfl, fun t => ?_⟩
      rw [List.any_cons, List.any_cons, h2 t]
      rfl
  | .non :: _, _, h => nomatch h
  | .bl _ :: _, _, h => nomatch h
  | .int _ :: _, _, h => nomatch h
  | .tup _ :: _, _, h => nomatch h
  | .ref _ :: _, _, h => nomatch h
  | .raw _ :: _, _, h => nomatch h
theorem gIn_strs {S : Store} {l : Nat} {ys : List D} {xs : List Str} {t : Str} (h : S[l]? = some (.lst ys)) (hs : strsD ys = some xs) : gIn (.str t) (.ref l) S = some (.bl (xs.any (· == t)), S) := by
  obtain ⟨h1, h2⟩ := strsD_flat hs
  show Option.map _ (match lstAt S l with
    | some ys => if (D.str t).flat && flats ys && decide ((D.str t).dep ≤ 64) then some (ys.any fun y => deq y (.str t)) else none
    | none => none) = _
  rw [lstAt_lst h]
  simp only [h1, h2 t]
  rfl
theorem gNin_strs {S : Store} {l : Nat} {ys : List D} {xs : List Str} {t : Str} (h : S[l]? = some (.lst ys)) (hs : strsD ys = some xs) : gNin (.str t) (.ref l) S = some (.bl (!xs.any (· == t)), S) := by
  obtain ⟨h1, h2⟩ := strsD_flat hs
  show Option.map _ (match lstAt S l with
    | some ys => if (D.str t).flat && flats ys && decide ((D.str t).dep ≤ 64) then some (ys.any fun y => deq y (.str t)) else none
    | none => none) = _
  rw [lstAt_lst h]
  simp only [h1, h2 t]
  rfl
theorem gInt_bl {b : Bool} {S : Store} : gInt [.bl b] S = some (.int (if b then 1 else 0), S) := Dl.nr rfl
theorem gIs_tn {xs : List D} {S : Store} : gIs (.tup xs) .non S = some (.bl false, S) := Dl.nr rfl
theorem gIs_nn {S : Store} : gIs .non .non S = some (.bl true, S) := Dl.nr rfl
theorem gIsN_tn {xs : List D} {S : Store} : gIsN (.tup xs) .non S = some (.bl true, S) := Dl.nr rfl
theorem gIsN_nn {S : Store} : gIsN .non .non S = some (.bl false, S) := Dl.nr rfl
theorem count_atom {b : Str} {m : Int} (hb : Base b) (h0 : 0 < m) : Txt.count (atT b m) "." = 1 := by
  unfold atT
  rw [if_neg (by omega), dot_, PyProof.Rows.count_cnt, app_list, app_list, PyProof.Rows.cnt_append, PyProof.Rows.cnt_append, PyProof.Rows.cnt_none _ _ hb.dot, PyProof.Rows.cnt_none _ _ (num_dot (by omega))]
  show 0 + PyProof.Rows.cnt 46 [46] + 0 = 1
  rw [PyProof.Rows.cnt_cons, PyProof.Rows.cnt_nil]
  simp
theorem gCountS_ {a b : Str} {S : Store} : gCountS (.str a) [.str b] S = some (.int (Txt.count a b), S) := Dl.nr rfl
/-- what stands behind the dot -/
theorem tail_at {b : Str} {m : Int} (hm : m ≠ 0) : cutS (atT b m) (some ((b.length : Int) + 1)) none = (toString m : Str) := by
  have hl : (atT b m).cps.toList = b.cps.toList ++ 46 :: (toString m : Str).cps.toList := by
    unfold atT
    rw [if_neg hm, app_list, app_list, dot_list, List.append_assoc]
    rfl
  have h2 : (atT b m).length = b.length + 1 + (toString m : Str).length := by
    rw [← len_list, hl, List.length_append, List.length_cons, len_list, len_list]; omega
  have s1 : HT.sIx (atT b m).length 0 (some ((b.length : Int) + 1)) = b.length + 1 := by
    unfold HT.sIx
    simp only
    rw [if_neg (by omega)]
    omega
  have s2 : HT.sIx (atT b m).length (atT b m).length none = (atT b m).length := rfl
  unfold cutS
  apply ext_list
  rw [s1, s2]
  show List.take _ (List.drop (b.length + 1) (atT b m).cps.toList) = _
  rw [hl, ← List.drop_drop, List.drop_left' (len_list b)]
  show List.take _ (List.drop 1 (46 :: (toString m : Str).cps.toList)) = _
  rw [List.drop_succ_cons, List.drop_zero, List.take_of_length_le]
  rw [len_list]; omega
/-- a comprehension that keeps nothing -/
theorem comp_skip {l : Nat} {ρ : Dl.Env} {g : Cg} {ft : TX} {fe : EX} {k : Chk} {T : Store} (hk : chkOk k T) : ∀ ds : List D, (∀ d ∈ ds, ∃ ρ1, g.put d ρ = some ρ1 ∧ ft ρ1 T = .ok false T) → runC l ρ g ft fe k ds T = .ok (.ref l) T
  | [], _ => by unfold runC; rw [if_pos hk]
  | d :: ds, h => by
    obtain ⟨ρ1, h1, h2⟩ := h d (List.mem_cons_self ..)
    unfold runC
    rw [if_pos hk]
    simp only [h1, h2]
    exact comp_skip hk ds fun x hx => h x (List.mem_cons_of_mem _ hx)
mutual
theorem deq_refl : ∀ {d : D}, d.flat = true → deq d d = true
  | .non, _ => rfl
  | .bl b, _ => beq_self_eq_true b
  | .int i, _ => beq_self_eq_true i
  | .str t, _ => beq_self_eq_true t
  | .tup xs, h => deqs_refl (show flats xs = true from h)
  | .ref _, h => nomatch h
  | .raw _, h => nomatch h
theorem deqs_refl : ∀ {ds : List D}, flats ds = true → deqs ds ds = true
  | [], _ => rfl
  | d :: ds, h => by
    have h' : (d.flat && flats ds) = true := h
    rw [Bool.and_eq_true] at h'
    show (deq d d && deqs ds ds) = true
    rw [deq_refl h'.1, deqs_refl h'.2]
    rfl
end
theorem gEq_refl {d : D} {S : Store} (hf : d.flat = true) (hd : d.dep ≤ 64) : gEq d d S = some (.bl true, S) := by rw [gEq_flat hf hf hd, deq_refl hf]
theorem gNe_refl {d : D} {S : Store} (hf : d.flat = true) (hd : d.dep ≤ 64) : gNe d d S = some (.bl false, S) := by rw [gNe_flat hf hf hd, deq_refl hf]; rfl
theorem gNeW_refl {lim : Nat} {d : D} {S : Store} (hf : d.flat = true) (hd : d.dep ≤ lim) : gNeW lim d d S = some (.bl false, S) := by rw [gNeW_flat hf hf hd, deq_refl hf]; rfl
theorem gEqW_refl {lim : Nat} {d : D} {S : Store} (hf : d.flat = true) (hd : d.dep ≤ lim) : gEqW lim d d S = some (.bl true, S) := by rw [gEqW_flat hf hf hd, deq_refl hf]
end Lw

set_option Elab.async false
set_option linter.all false
set_option maxRecDepth 100000
namespace Lw
open PySem L2 Dl
/-! ## a comprehension over the image of a list -/
section
variable {S : Store} {ρ : Dl.Env} {g : Cg} {fe : EX} {k : Chk} {L : List Cell} {m : Nat}
theorem compA {α : Type} (ds : List α) (f val : α → D) (hz : ds.length ≤ 1000000) (hL : L[m]? = some (.lst [])) (hk : ∀ a, chkOk k (Dl.sx S (L.set m (.lst a))))
    (hv : ∀ d, (val d).flat = true) (h : ∀ d ∈ ds, ∃ ρ1, g.put (f d) ρ = some ρ1 ∧ ∀ a, flats a = true → fe ρ1 (Dl.sx S (L.set m (.lst a))) = .ok (val d) (Dl.sx S (L.set m (.lst a)))) :
    runC (S.length + m) ρ g tYesD fe k (ds.map f) (Dl.sx S L) = .ok (.ref (S.length + m)) (Dl.sx S (L.set m (.lst (ds.map val)))) := by
  have hm := (List.getElem?_eq_some_iff.mp hL).1
  have e0 : L.set m (.lst []) = L := by
    apply List.ext_getElem?
    intro i
    by_cases e : m = i
    · subst e; rw [List.getElem?_set_self hm, hL]
    · rw [List.getElem?_set_ne e]
  have len : (ds.map f).length = ds.length := List.length_map ..
  obtain ⟨acc, T, h1, h2, ⟨rfl, rfl⟩, e⟩ := compQ (l := S.length + m) (ρ := ρ) (g := g) (ft := tYesD) (fe := fe) (k := k) (fun j acc T => acc = (ds.take j).map val ∧ T = Dl.sx S (L.set m (.lst acc))) (all := ds.map f) (by rw [len]; exact hz) (fun j d acc T hd ha hT hI => by
    obtain ⟨rfl, rfl⟩ := hI
    rw [List.getElem?_map] at hd
    obtain ⟨x, hx, rfl⟩ := Option.map_eq_some_iff.mp hd
    obtain ⟨ρ1, q1, q2⟩ := h x (List.mem_of_getElem? hx)
    refine ⟨hk _, ρ1, q1, true, _, rfl, hT, (fun z => nomatch z), fun _ => ⟨_, _, q2 _ (flats_iff.mpr fun y hy => by
      obtain ⟨z, _, rfl⟩ := List.mem_map.mp hy
      exact hv z), hT, ?_, ?_⟩⟩
    · rw [List.take_succ, hx, List.map_append]
      rfl
    · rw [Dl.sx_set_k, List.set_set]) (fun acc T hI => by rw [hI.2]; exact hk _) (ds.map f) 0 [] (Dl.sx S L) rfl (Nat.zero_add _) (Nat.le_refl _) (by rw [Dl.sx_k]; exact hL) ⟨rfl, by rw [e0]⟩
  rw [e, len, List.take_length]
theorem compF {ft : TX} {α : Type} (ds : List α) (f val : α → D) (b : α → Bool) (hz : ds.length ≤ 1000000) (hL : L[m]? = some (.lst [])) (hk : ∀ a, chkOk k (Dl.sx S (L.set m (.lst a))))
    (hv : ∀ d, (val d).flat = true) (h : ∀ d ∈ ds, ∃ ρ1, g.put (f d) ρ = some ρ1 ∧ ∀ a, flats a = true → ft ρ1 (Dl.sx S (L.set m (.lst a))) = .ok (b d) (Dl.sx S (L.set m (.lst a))) ∧ (b d = true → fe ρ1 (Dl.sx S (L.set m (.lst a))) = .ok (val d) (Dl.sx S (L.set m (.lst a))))) :
    runC (S.length + m) ρ g ft fe k (ds.map f) (Dl.sx S L) = .ok (.ref (S.length + m)) (Dl.sx S (L.set m (.lst ((ds.filter b).map val)))) := by
  have hm := (List.getElem?_eq_some_iff.mp hL).1
  have e0 : L.set m (.lst []) = L := by
    apply List.ext_getElem?
    intro i
    by_cases e : m = i
    · subst e; rw [List.getElem?_set_self hm, hL]
    · rw [List.getElem?_set_ne e]
  have len : (ds.map f).length = ds.length := List.length_map ..
  obtain ⟨acc, T, h1, h2, ⟨rfl, rfl⟩, e⟩ := compQ (l := S.length + m) (ρ := ρ) (g := g) (ft := ft) (fe := fe) (k := k) (fun j acc T => acc = ((ds.take j).filter b).map val ∧ T = Dl.sx S (L.set m (.lst acc))) (all := ds.map f) (by rw [len]; exact hz) (fun j d acc T hd ha hT hI => by
    obtain ⟨rfl, rfl⟩ := hI
    rw [List.getElem?_map] at hd
    obtain ⟨x, hx, rfl⟩ := Option.map_eq_some_iff.mp hd
    obtain ⟨ρ1, q1, q2⟩ := h x (List.mem_of_getElem? hx)
    have fl : flats (((ds.take j).filter b).map val) = true := flats_iff.mpr fun y hy => by
      obtain ⟨z, _, rfl⟩ := List.mem_map.mp hy
      exact hv z
    obtain ⟨q3, q4⟩ := q2 _ fl
    refine ⟨hk _, ρ1, q1, b x, _, q3, hT, fun z => ⟨?_, rfl⟩, fun z => ⟨_, _, q4 z, hT, ?_, ?_⟩⟩
    · rw [List.take_succ, hx, List.filter_append, show (some x).toList = [x] from rfl, List.filter_cons_of_neg (by rw [z]; exact Bool.false_ne_true), List.filter_nil, List.append_nil]
    · rw [List.take_succ, hx, List.filter_append, show (some x).toList = [x] from rfl, List.filter_cons_of_pos z, List.filter_nil, List.map_append]
      rfl
    · rw [Dl.sx_set_k, List.set_set]) (fun acc T hI => by rw [hI.2]; exact hk _) (ds.map f) 0 [] (Dl.sx S L) rfl (Nat.zero_add _) (Nat.le_refl _) (by rw [Dl.sx_k]; exact hL) ⟨rfl, by rw [e0]⟩
  rw [e, len, List.take_length]
theorem compA0 {α : Type} (ds : List α) (f val : α → D) (hz : ds.length ≤ 1000000) (hk : ∀ a, chkOk k (Dl.sx S (.lst a :: L)))
    (hv : ∀ d, (val d).flat = true) (h : ∀ d ∈ ds, ∃ ρ1, g.put (f d) ρ = some ρ1 ∧ ∀ a, flats a = true → fe ρ1 (Dl.sx S (.lst a :: L)) = .ok (val d) (Dl.sx S (.lst a :: L))) :
    runC S.length ρ g tYesD fe k (ds.map f) (Dl.sx S (.lst [] :: L)) = .ok (.ref S.length) (Dl.sx S (.lst (ds.map val) :: L)) := compA (m := 0) (L := .lst [] :: L) ds f val hz rfl hk hv h
end
section
variable {T : Store} {p : Nat} {P : List D} {ρ : Dl.Env} {g : Cg} {fe : EX} {k : Chk} {L : List Cell} {m : Nat}
theorem compS {α : Type} (ds : List α) (f val : α → D) (hz : ds.length ≤ 1000000) (hL : L[m]? = some (.lst [])) (hk : ∀ a, chkOk k (Dl.st T p P (L.set m (.lst a))))
    (hv : ∀ d, (val d).flat = true) (h : ∀ d ∈ ds, ∃ ρ1, g.put (f d) ρ = some ρ1 ∧ ∀ a, flats a = true → fe ρ1 (Dl.st T p P (L.set m (.lst a))) = .ok (val d) (Dl.st T p P (L.set m (.lst a)))) :
    runC (T.length + m) ρ g tYesD fe k (ds.map f) (Dl.st T p P L) = .ok (.ref (T.length + m)) (Dl.st T p P (L.set m (.lst (ds.map val)))) := by
  have e := compA (S := T.set p (.lst P)) (m := m) (L := L) (ρ := ρ) (g := g) (fe := fe) (k := k) ds f val hz hL hk hv h
  rw [List.length_set] at e
  exact e
theorem compFS {ft : TX} {α : Type} (ds : List α) (f val : α → D) (b : α → Bool) (hz : ds.length ≤ 1000000) (hL : L[m]? = some (.lst [])) (hk : ∀ a, chkOk k (Dl.st T p P (L.set m (.lst a))))
    (hv : ∀ d, (val d).flat = true) (h : ∀ d ∈ ds, ∃ ρ1, g.put (f d) ρ = some ρ1 ∧ ∀ a, flats a = true → ft ρ1 (Dl.st T p P (L.set m (.lst a))) = .ok (b d) (Dl.st T p P (L.set m (.lst a))) ∧ (b d = true → fe ρ1 (Dl.st T p P (L.set m (.lst a))) = .ok (val d) (Dl.st T p P (L.set m (.lst a))))) :
    runC (T.length + m) ρ g ft fe k (ds.map f) (Dl.st T p P L) = .ok (.ref (T.length + m)) (Dl.st T p P (L.set m (.lst ((ds.filter b).map val)))) := by
  have e := compF (S := T.set p (.lst P)) (m := m) (L := L) (ρ := ρ) (g := g) (ft := ft) (fe := fe) (k := k) ds f val b hz hL hk hv h
  rw [List.length_set] at e
  exact e
end
theorem intsD_map {α : Type} (f : α → Int) : ∀ xs : List α, intsD (xs.map fun x => D.int (f x)) = some (xs.map f)
  | [] => rfl
  | x :: xs => by
    show (intsD (xs.map fun x => D.int (f x))).map (f x :: ·) = _
    rw [intsD_map f xs]
    rfl
theorem maxL_ge : ∀ {xs : List Int}, ∀ x ∈ xs, x ≤ maxL xs
  | [], x, h => nomatch h
  | [a], x, h => by rw [List.mem_singleton.mp h]; exact Int.le_refl _
  | a :: b :: r, x, h => by
    show x ≤ (if maxL (b :: r) < a then a else maxL (b :: r))
    rcases List.mem_cons.mp h with rfl | h
    · split <;> omega
    · have := maxL_ge x h
      split <;> omega
theorem bools_map {α : Type} (f : α → Bool) : ∀ xs : List α, bools (xs.map fun x => D.bl (f x)) = some (xs.map f)
  | [] => rfl
  | x :: xs => by
    show (bools (xs.map fun x => D.bl (f x))).map (f x :: ·) = _
    rw [bools_map f xs]
    rfl
theorem all_id {α : Type} (f : α → Bool) (xs : List α) : (xs.map f).all id = xs.all f := by rw [List.all_map]; rfl
def sz (k : KT) : Int := k.at_.length
def szs (js : List KT) : Int := (js.map sz).sum
theorem szs_app (a b : List KT) : szs (a ++ b) = szs a + szs b := by unfold szs; rw [List.map_append, List.sum_append]
theorem szs_cons (k : KT) (b : List KT) : szs (k :: b) = sz k + szs b := by unfold szs; rw [List.map_cons, List.sum_cons]
theorem szs_nil : szs [] = 0 := rfl
theorem sz_pos (k : KT) : 1 ≤ sz k := by have := KT.pos k; unfold sz; omega
theorem sz_node (s : Str) (a b : KT) : sz (.node s a b) = sz a + sz b := by unfold sz; rw [KT.len_node]; omega
theorem cutA {α : Type} {A X : List α} {k : Int} (h : k = A.length) : cutD (A ++ X) none (some k) = A := by
  rw [h, cut_take (by omega), Int.toNat_natCast, List.take_left]
theorem cutB {α : Type} {A X : List α} {k : Int} (h : k = A.length) : cutD (A ++ X) (some k) none = X := by
  rw [h, cut_drop (by omega), Int.toNat_natCast, List.drop_left]
theorem cutM {α : Type} {A M B : List α} {j k : Int} (h : j = A.length) (h2 : k = A.length + M.length) : cutD (A ++ (M ++ B)) (some j) (some k) = M := by
  rw [cut_mid (by omega) (by omega) (by rw [List.length_append, List.length_append]; omega)]
  rw [show j.toNat = A.length by omega, List.drop_left, show k.toNat - A.length = M.length by omega, List.take_left]
theorem mid_js {α : Type} {js : List α} {a : Int} (h0 : 0 ≤ a) (h1 : a < (js.length : Int)) : ∃ A K B, js = A ++ K :: B ∧ a = A.length := by
  have h2 : a.toNat < js.length := by omega
  refine ⟨js.take a.toNat, js[a.toNat], js.drop (a.toNat + 1), ?_, by rw [List.length_take]; omega⟩
  rw [List.getElem_cons_drop, List.take_append_drop]
theorem Q_keep {n : Nat} {xs : List D} {S : Store} {Q : R D → Prop} (h : D.wf n (.tup xs) = false) (hq : Q (.ok (.tup xs) S)) : Q (cmp n (.tup xs) S) := by
  have e : cmp n (.tup xs) S = .ok (.tup xs) S := by
    unfold cmp
    rw [h]
    split <;> rfl
  rw [e]; exact hq
theorem SOK.stw {S : Store} {p : Nat} {P : List D} {L : List Cell} (h : SOK S) (hP : flats P = true) (hL : ∀ c ∈ L, Cell.wf (S.length + L.length) c = true) : SOK (Dl.st S p P L) := fun c hc => by
  have q : SOK (S.set p (Cell.lst P)) := h.set (c := Cell.lst P) hP
  rcases List.mem_append.mp (show c ∈ S.set p (Cell.lst P) ++ L from hc) with z | z
  · exact cwf_mono (by rw [Dl.st_len, List.length_set]; omega) (q c z)
  · rw [Dl.st_len]; exact hL c z
end Lw

set_option Elab.async false
set_option linter.all false
set_option maxRecDepth 100000
namespace Lw
open PySem L2 Dl
/-! ## the length of a repr -/
mutual
def cst : D → Nat
  | .str x => 10 * x.length + 2
  | .int _ => 10
  | .tup xs => csts xs + 4
  | _ => 5
def csts : List D → Nat
  | [] => 0
  | x :: xs => cst x + 2 + csts xs
end
mutual
/-- made of short texts, small numbers, tuples -/
def Shw : D → Prop
  | .str x => ∀ c ∈ x.cps.toList, c < 128
  | .int i => i.natAbs ≤ 1000
  | .tup xs => Shws xs
  | .non => True
  | .bl _ => True
  | _ => False
def Shws : List D → Prop
  | [] => True
  | x :: xs => Shw x ∧ Shws xs
end
theorem len_small {i : Int} (h : i.natAbs ≤ 1000) : (toString i : Str).length ≤ 10 := by
  have : ∀ k : Nat, k ≤ 1000 → (toString (k : Int) : Str).length ≤ 10 ∧ (toString (-(k : Int)) : Str).length ≤ 10 := by decide +kernel
  rcases Int.natAbs_eq i with e | e
  · rw [e]; exact (this _ h).1
  · rw [e]; exact (this _ h).2
theorem log_small' {i : Int} (h : i.natAbs ≤ 1000) : i.natAbs.log2 < 1920 := by
  by_cases e : i.natAbs = 0
  · rw [e]; decide
  · have : i.natAbs.log2 < 20 := (Nat.log2_lt e).mpr (by omega)
    omega
theorem tup_text_len (ts : List Str) : (tupleText ts).length ≤ piled ts + 2 := fmt_text ts
mutual
theorem shw_len : ∀ {d : D}, Shw d → (toPy d).shown.length ≤ cst d
  | .str x, h => StrLaws.reprText_len x fun c hc => Nat.lt_trans (h c hc) (by decide)
  | .int i, h => len_small h
  | .non, _ => by decide +kernel
  | .bl true, _ => by decide +kernel
  | .bl false, _ => by decide +kernel
  | .tup xs, h => by
    have h1 := shws_len (xs := xs) h
    have h2 := tup_text_len (PyData.shownAll (toPys xs))
    show (tupleText (PyData.shownAll (toPys xs))).length ≤ csts xs + 4
    omega
theorem shws_len : ∀ {xs : List D}, Shws xs → piled (PyData.shownAll (toPys xs)) ≤ csts xs
  | [], _ => Nat.le_refl _
  | x :: xs, h => by
    have h1 := shw_len (d := x) h.1
    have h2 := shws_len (xs := xs) h.2
    show piled ((toPy x).shown :: PyData.shownAll (toPys xs)) ≤ cst x + 2 + csts xs
    rw [piled_cons]
    omega
end
mutual
theorem shw_able : ∀ {d : D}, Shw d → (toPy d).showable = true ∧ (toPy d).hasDict = false ∧ d.flat = true
  | .str x, h => ⟨rfl, rfl, rfl⟩
  | .int i, h => ⟨decide_eq_true (log_small' h), rfl, rfl⟩
  | .non, _ => ⟨rfl, rfl, rfl⟩
  | .bl _, _ => ⟨rfl, rfl, rfl⟩
  | .tup xs, h => shws_able (xs := xs) h
theorem shws_able : ∀ {xs : List D}, Shws xs → PyData.showableAll (toPys xs) = true ∧ PyData.hasDictAll (toPys xs) = false ∧ flats xs = true
  | [], _ => ⟨rfl, rfl, rfl⟩
  | x :: xs, h => by
    obtain ⟨a1, a2, a3⟩ := shw_able (d := x) h.1
    obtain ⟨b1, b2, b3⟩ := shws_able (xs := xs) h.2
    refine ⟨?_, ?_, ?_⟩
    · show ((toPy x).showable && _) = true; rw [a1, b1]; rfl
    · show ((toPy x).hasDict || _) = false; rw [a2, b2]; rfl
    · show (x.flat && _) = true; rw [a3, b3]; rfl
end
/-- its repr -/
theorem gRepr_ {lim : Nat} {d : D} {S : Store} (h : Shw d) (hd : d.dep + 1 ≤ lim) (hl : cst d ≤ 16777216) : gRepr lim [d] S = some (.str (toPy d).shown, S) := by
  obtain ⟨h1, h2, h3⟩ := shw_able h
  have h4 := shw_len h
  have h5 : (toPy d).depth = d.dep := depth_toPy d
  unfold gRepr
  simp only [asP_flat h3]
  rw [if_pos ⟨by omega, h1, h2, by omega⟩]
theorem csts_app (a b : List D) : csts (a ++ b) = csts a + csts b := by
  induction a with
  | nil => show csts b = 0 + csts b; omega
  | cons x a ih => show cst x + 2 + csts (a ++ b) = cst x + 2 + csts a + csts b; omega
theorem shws_mem : ∀ {xs : List D} {d : D}, Shws xs → d ∈ xs → Shw d
  | x :: xs, d, h, hd => by
    rcases List.mem_cons.mp hd with rfl | z
    · exact h.1
    · exact shws_mem h.2 z
theorem shws_of : ∀ {xs : List D}, (∀ d ∈ xs, Shw d) → Shws xs
  | [], _ => trivial
  | x :: xs, h => ⟨h x (List.mem_cons_self ..), shws_of fun d hd => h d (List.mem_cons_of_mem _ hd)⟩
end Lw

set_option Elab.async false
set_option linter.all false
set_option maxRecDepth 100000
namespace Lw
open PySem L2 Dl
/-! ## derivations as trees -/
inductive DT where
  | st (rule : Str) (row : List KT) (g : KT) (a w : Int) (ps : List DT)
namespace DT
def rule : DT → Str | st r _ _ _ _ _ => r
def row : DT → List KT | st _ r _ _ _ _ => r
def g : DT → KT | st _ _ g _ _ _ => g
def a : DT → Int | st _ _ _ a _ _ => a
def w : DT → Int | st _ _ _ _ w _ => w
def ps : DT → List DT | st _ _ _ _ _ ps => ps
end DT
mutual
def DT.d : DT → D
  | .st r row g a w ps => .tup [.str r, .tup (kds row), g.d, .int a, .int w, .tup (dtds ps)]
def dtds : List DT → List D
  | [] => []
  | p :: ps => p.d :: dtds ps
end
mutual
def DT.cnt : DT → Nat
  | .st _ _ _ _ _ ps => 1 + cnts ps
def cnts : List DT → Nat
  | [] => 0
  | p :: ps => p.cnt + cnts ps
end
mutual
def DT.dp : DT → Nat
  | .st _ _ _ _ _ ps => 1 + dps ps
def dps : List DT → Nat
  | [] => 0
  | p :: ps => max p.dp (dps ps)
end
theorem dtds_map : ∀ ps : List DT, dtds ps = ps.map DT.d
  | [] => rfl
  | p :: ps => by rw [List.map_cons, ← dtds_map ps]; rfl
theorem dtds_app (a b : List DT) : dtds (a ++ b) = dtds a ++ dtds b := by rw [dtds_map, dtds_map, dtds_map, List.map_append]
theorem dtds_len (a : List DT) : (dtds a).length = a.length := by rw [dtds_map, List.length_map]
theorem cnts_app (a b : List DT) : cnts (a ++ b) = cnts a + cnts b := by
  induction a with
  | nil => show cnts b = 0 + cnts b; omega
  | cons x a ih => show x.cnt + cnts (a ++ b) = x.cnt + cnts a + cnts b; omega
theorem dps_mem : ∀ {ps : List DT} {p : DT}, p ∈ ps → p.dp ≤ dps ps
  | q :: ps, p, h => by
    show p.dp ≤ max q.dp (dps ps)
    rcases List.mem_cons.mp h with rfl | z
    · exact Nat.le_max_left ..
    · exact Nat.le_trans (dps_mem z) (Nat.le_max_right ..)
theorem DT.d_eq (t : DT) : t.d = .tup [.str t.rule, .tup (kds t.row), t.g.d, .int t.a, .int t.w, .tup (dtds t.ps)] := by cases t; rfl
theorem DT.cnt_eq (t : DT) : t.cnt = 1 + cnts t.ps := by cases t; rfl
theorem DT.dp_eq (t : DT) : t.dp = 1 + dps t.ps := by cases t; rfl
mutual
theorem DT.flat : ∀ t : DT, t.d.flat = true
  | .st r row g a w ps => by
    show (true && (flats (kds row) && (g.d.flat && (true && (true && (flats (dtds ps) && true)))))) = true
    rw [kds_flat, KT.flat, dtds_flat]; rfl
theorem dtds_flat : ∀ ps : List DT, flats (dtds ps) = true
  | [] => rfl
  | p :: ps => by show (p.d.flat && flats (dtds ps)) = true; rw [DT.flat p, dtds_flat ps]; rfl
end
/-- it is a rule's step over its parts -/
inductive Shape (P : Str → Prop) : DT → Prop
  | ax {t : Str} : P t → Shape P (.st "axiom" [.leaf t] (.leaf t) 0 0 [])
  | or {p : DT} {A : List KT} {b : KT} : p.row = A ++ [b] → A ≠ [] → Shape P (.st "over right" A (.node "/" p.g b) 0 0 [p])
  | ur {p : DT} {A : List KT} {b : KT} : p.row = b :: A → A ≠ [] → Shape P (.st "under right" A (.node ">" b p.g) 0 0 [p])
  | pr {p q : DT} : Shape P (.st "pair right" (p.row ++ q.row) (.node "*" p.g q.g) p.row.length 0 [p, q])
  | ol {p q : DT} {A B : List KT} {K : KT} : q.row = A ++ K :: B → Shape P (.st "over left" (A ++ .node "/" K p.g :: (p.row ++ B)) q.g A.length p.row.length [p, q])
  | ul {p q : DT} {A B : List KT} {K : KT} {x : Int} : q.row = A ++ K :: B → x = A.length + p.row.length → Shape P (.st "under left" (A ++ (p.row ++ .node ">" p.g K :: B)) q.g x p.row.length [p, q])
  | pl {p : DT} {A B : List KT} {K K2 : KT} : p.row = A ++ K :: K2 :: B → Shape P (.st "pair left" (A ++ .node "*" K K2 :: B) p.g A.length 0 [p])
  | ct {p q : DT} {A B : List KT} : q.row = A ++ p.g :: B → Shape P (.st "cut" (A ++ (p.row ++ B)) q.g A.length p.row.length [p, q])
/-- within the bounds of a sequent -/
structure Bd (P : Str → Prop) (t : DT) : Prop where
  ne : t.row ≠ []
  len : t.row.length ≤ 40
  sum : szs t.row + sz t.g ≤ 80
  fit : ∀ k ∈ t.row ++ [t.g], k.ok P ∧ k.at_.length ≤ 40
inductive Made (P : Str → Prop) : DT → Prop
  | mk {t : DT} : Shape P t → Bd P t → (∀ p ∈ t.ps, Made P p) → Made P t
theorem Made.sh {P : Str → Prop} {t : DT} : Made P t → Shape P t | .mk h _ _ => h
theorem Made.bd {P : Str → Prop} {t : DT} : Made P t → Bd P t | .mk _ h _ => h
theorem Made.parts {P : Str → Prop} {t : DT} : Made P t → ∀ p ∈ t.ps, Made P p | .mk _ _ h => h
theorem Bd.row {P : Str → Prop} {t : DT} (h : Bd P t) : ∀ k ∈ t.row, k.ok P ∧ k.at_.length ≤ 40 := fun k hk => h.fit k (List.mem_append_left _ hk)
theorem Bd.g {P : Str → Prop} {t : DT} (h : Bd P t) : t.g.ok P ∧ t.g.at_.length ≤ 40 := h.fit t.g (List.mem_append_right _ (List.mem_singleton.mpr rfl))
def RN8 : List Str := ["axiom", "over right", "under right", "pair right", "over left", "under left", "pair left", "cut"]
theorem Shape.rn {P : Str → Prop} {t : DT} (h : Shape P t) : t.rule ∈ RN8 := by
  cases h <;> (show _ ∈ RN8) <;> simp [RN8, DT.rule]
theorem Shape.two {P : Str → Prop} {t : DT} (h : Shape P t) : t.ps.length ≤ 2 := by cases h <;> (show _ ≤ 2) <;> simp [DT.ps]
/-! ### depth, length of the repr -/
theorem deps_le {m : Nat} : ∀ {xs : List D}, (∀ d ∈ xs, d.dep ≤ m) → deps xs ≤ m
  | [], _ => Nat.zero_le _
  | x :: xs, h => Nat.max_le.mpr ⟨h x (List.mem_cons_self ..), deps_le fun d hd => h d (List.mem_cons_of_mem _ hd)⟩
theorem kds_dep {ks : List KT} (h : ∀ k ∈ ks, k.at_.length ≤ 40) : deps (kds ks) ≤ 39 := deps_le fun d hd => by
  obtain ⟨k, hk, rfl⟩ := List.mem_map.mp hd
  have := KT.dep k
  have := h k hk
  omega
theorem Made.dep {P : Str → Prop} {t : DT} (h : Made P t) : t.d.dep ≤ 2 * t.dp + 40 := by
  induction h with
  | @mk t hs hb hp ih =>
    have h1 : deps (kds t.row) ≤ 39 := kds_dep fun k hk => (hb.row k hk).2
    have h2 := KT.dep t.g
    have h3 := hb.g.2
    have h4 : deps (dtds t.ps) ≤ 2 * dps t.ps + 40 := by
      rw [dtds_map]
      exact deps_le fun d hd => by
        obtain ⟨p, hp, rfl⟩ := List.mem_map.mp hd
        have := ih p hp
        have := dps_mem hp
        omega
    rw [DT.d_eq, DT.dp_eq]
    show max 0 (max (deps (kds t.row) + 1) (max t.g.d.dep (max 0 (max 0 (max (deps (dtds t.ps) + 1) 0))))) + 1 ≤ _
    omega
/-- a text of few plain signs -/
def AtN (t : Str) : Prop := t.length ≤ 20 ∧ ∀ c ∈ t.cps.toList, c < 128
theorem sg_shw {s : Str} (h : Sg s) : s.length = 1 ∧ ∀ c ∈ s.cps.toList, c < 128 := by
  rcases h with rfl | rfl | rfl <;> decide +kernel
theorem kt_cst : ∀ {k : KT}, k.ok AtN → Shw k.d ∧ cst k.d + 22 ≤ 224 * k.at_.length
  | .leaf t, h => ⟨h.2, by have := h.1; show 10 * t.length + 2 + 22 ≤ 224 * 1; omega⟩
  | .node s a b, h => by
    obtain ⟨a1, a2⟩ := kt_cst (k := a) h.2.1
    obtain ⟨b1, b2⟩ := kt_cst (k := b) h.2.2
    obtain ⟨s1, s2⟩ := sg_shw h.1
    refine ⟨⟨s2, a1, b1, trivial⟩, ?_⟩
    rw [KT.len_node]
    show 10 * s.length + 2 + 2 + (cst a.d + 2 + (cst b.d + 2 + 0)) + 4 + 22 ≤ _
    omega
theorem kds_cst : ∀ {ks : List KT}, (∀ k ∈ ks, k.ok AtN) → Shws (kds ks) ∧ (csts (kds ks) : Int) ≤ 224 * szs ks
  | [], _ => ⟨trivial, by show (0 : Int) ≤ 224 * 0; omega⟩
  | k :: ks, h => by
    obtain ⟨a1, a2⟩ := kt_cst (h k (List.mem_cons_self ..))
    obtain ⟨b1, b2⟩ := kds_cst fun x hx => h x (List.mem_cons_of_mem _ hx)
    refine ⟨⟨a1, b1⟩, ?_⟩
    rw [szs_cons]
    have e : sz k = (k.at_.length : Int) := rfl
    show ((cst k.d + 2 + csts (kds ks) : Nat) : Int) ≤ _
    omega
theorem rn8_shw : ∀ r ∈ RN8, r.length ≤ 11 ∧ ∀ c ∈ r.cps.toList, c < 128 := by decide +kernel
theorem z0 : (0 : Int).natAbs ≤ 1000 := by decide
theorem Shape.nums {P : Str → Prop} {t : DT} (h : Shape P t) (hp : ∀ p ∈ t.ps, p.row.length ≤ 40) : t.a.natAbs ≤ 1000 ∧ t.w.natAbs ≤ 1000 := by
  cases h with
  | ax _ => exact ⟨z0, z0⟩
  | or _ _ => exact ⟨z0, z0⟩
  | ur _ _ => exact ⟨z0, z0⟩
  | @pr p q => have h1 : p.row.length ≤ 40 := hp p (by simp [DT.ps]); exact ⟨by show ((p.row.length : Nat) : Int).natAbs ≤ _; omega, z0⟩
  | @ol p q A B K e => have h1 : p.row.length ≤ 40 := hp p (by simp [DT.ps]); have h2 : q.row.length ≤ 40 := hp q (by simp [DT.ps]); rw [e, List.length_append] at h2; exact ⟨by show ((A.length : Nat) : Int).natAbs ≤ _; omega, by show ((p.row.length : Nat) : Int).natAbs ≤ _; omega⟩
  | @ul p q A B K x e hx => have h1 : p.row.length ≤ 40 := hp p (by simp [DT.ps]); have h2 : q.row.length ≤ 40 := hp q (by simp [DT.ps]); rw [e, List.length_append] at h2; exact ⟨by show x.natAbs ≤ _; omega, by show ((p.row.length : Nat) : Int).natAbs ≤ _; omega⟩
  | @pl p A B K K2 e => have h1 : p.row.length ≤ 40 := hp p (by simp [DT.ps]); rw [e, List.length_append] at h1; exact ⟨by show ((A.length : Nat) : Int).natAbs ≤ _; omega, z0⟩
  | @ct p q A B e => have h1 : p.row.length ≤ 40 := hp p (by simp [DT.ps]); have h2 : q.row.length ≤ 40 := hp q (by simp [DT.ps]); rw [e, List.length_append] at h2; exact ⟨by show ((A.length : Nat) : Int).natAbs ≤ _; omega, by show ((p.row.length : Nat) : Int).natAbs ≤ _; omega⟩
theorem Made.shw {t : DT} (h : Made AtN t) : Shw t.d ∧ cst t.d + 2 ≤ 18200 * t.cnt := by
  induction h with
  | @mk t hs hb hp ih =>
    obtain ⟨r1, r2⟩ := kds_cst fun k hk => (hb.row k hk).1
    obtain ⟨g1, g2⟩ := kt_cst hb.g.1
    obtain ⟨n1, n2⟩ := rn8_shw _ hs.rn
    obtain ⟨i1, i2⟩ := hs.nums fun p h => (hp p h).bd.len
    have s := hb.sum
    have eg : sz t.g = (t.g.at_.length : Int) := rfl
    have hps : ∀ ps : List DT, (∀ p ∈ ps, Shw p.d ∧ cst p.d + 2 ≤ 18200 * p.cnt) → Shws (dtds ps) ∧ csts (dtds ps) ≤ 18200 * cnts ps := fun ps => by
      induction ps with
      | nil => exact fun _ => ⟨trivial, Nat.zero_le _⟩
      | cons p ps ih =>
        intro h
        obtain ⟨a1, a2⟩ := h p (List.mem_cons_self ..)
        obtain ⟨b1, b2⟩ := ih fun q hq => h q (List.mem_cons_of_mem _ hq)
        refine ⟨⟨a1, b1⟩, ?_⟩
        show cst p.d + 2 + csts (dtds ps) ≤ 18200 * (p.cnt + cnts ps)
        omega
    obtain ⟨p1, p2⟩ := hps t.ps ih
    rw [DT.d_eq, DT.cnt_eq]
    refine ⟨⟨n2, r1, g1, i1, i2, p1, trivial⟩, ?_⟩
    show 10 * t.rule.length + 2 + 2 + (csts (kds t.row) + 4 + 2 + (cst t.g.d + 2 + (10 + 2 + (10 + 2 + (csts (dtds t.ps) + 4 + 2 + 0))))) + 4 + 2 ≤ _
    omega
end Lw

set_option Elab.async false
set_option linter.all false
set_option maxRecDepth 100000
namespace Lw
open PySem L2 Dl
/-! ## mirrors -/
def ms (s : Str) : Str := if s = "/" then ">" else if s = ">" then "/" else "*"
def mK : KT → KT
  | .leaf t => .leaf t
  | .node s a b => .node (ms s) (mK b) (mK a)
def mr (r : Str) : Str := if r = "over right" then "under right" else if r = "under right" then "over right" else if r = "over left" then "under left" else if r = "under left" then "over left" else r
def mp (r : Str) (a w c : Int) : Int := if (["axiom", "over right", "under right"] : List Str).any (· == r) then 0 else if r = "pair right" then c - a else if r = "cut" then c - a - w else c - 1 - a
def mrow (row : List KT) : List KT := (row.map mK).reverse
mutual
def mD : DT → DT
  | .st r row g a w ps => .st (mr r) (mrow row) (mK g) (mp r a w row.length) w (if r = "pair right" then (mDs ps).reverse else mDs ps)
def mDs : List DT → List DT
  | [] => []
  | p :: ps => mD p :: mDs ps
end
theorem mDs_map : ∀ ps : List DT, mDs ps = ps.map mD
  | [] => rfl
  | p :: ps => by rw [List.map_cons, ← mDs_map ps]; rfl
theorem mD_row (t : DT) : (mD t).row = mrow t.row := by cases t; rfl
theorem mD_g (t : DT) : (mD t).g = mK t.g := by cases t; rfl
theorem mD_w (t : DT) : (mD t).w = t.w := by cases t; rfl
theorem mD_a (t : DT) : (mD t).a = mp t.rule t.a t.w t.row.length := by cases t; rfl
theorem mD_rule (t : DT) : (mD t).rule = mr t.rule := by cases t; rfl
theorem mD_ps (t : DT) : (mD t).ps = if t.rule = "pair right" then (t.ps.map mD).reverse else t.ps.map mD := by cases t; show (if _ then (mDs _).reverse else mDs _) = _; rw [mDs_map]; rfl
theorem mrow_len (r : List KT) : (mrow r).length = r.length := by unfold mrow; rw [List.length_reverse, List.length_map]
theorem mrow_app (a b : List KT) : mrow (a ++ b) = mrow b ++ mrow a := by unfold mrow; rw [List.map_append, List.reverse_append]
theorem mrow_cons (k : KT) (b : List KT) : mrow (k :: b) = mrow b ++ [mK k] := mrow_app [k] b
theorem mrow_one (k : KT) : mrow [k] = [mK k] := rfl
theorem mK_len : ∀ k : KT, (mK k).at_.length = k.at_.length
  | .leaf t => rfl
  | .node s a b => by
    show (KT.node _ (mK b) (mK a)).at_.length = _
    rw [KT.len_node, KT.len_node, mK_len a, mK_len b, Nat.add_comm]
theorem ms_sg {s : Str} (h : Sg s) : Sg (ms s) ∧ ms (ms s) = s := by
  rcases h with rfl | rfl | rfl
  · exact ⟨.inr (.inl (by decide)), by decide⟩
  · exact ⟨.inl (by decide), by decide⟩
  · exact ⟨.inr (.inr (by decide)), by decide⟩
theorem mK_ok {P : Str → Prop} : ∀ {k : KT}, k.ok P → (mK k).ok P ∧ mK (mK k) = k
  | .leaf t, h => ⟨h, rfl⟩
  | .node s a b, h => by
    obtain ⟨a1, a2⟩ := mK_ok (k := a) h.2.1
    obtain ⟨b1, b2⟩ := mK_ok (k := b) h.2.2
    obtain ⟨s1, s2⟩ := ms_sg h.1
    exact ⟨⟨s1, b1, a1⟩, by show KT.node (ms (ms s)) (mK (mK a)) (mK (mK b)) = _; rw [a2, b2, s2]⟩
theorem mrow_mrow {P : Str → Prop} {row : List KT} (h : ∀ k ∈ row, k.ok P) : mrow (mrow row) = row := by
  unfold mrow
  rw [List.map_reverse, List.reverse_reverse, List.map_map]
  exact (List.map_congr_left fun k hk => (mK_ok (h k hk)).2).trans (List.map_id _)
theorem mem_mrow {row : List KT} {k : KT} (h : k ∈ mrow row) : ∃ x ∈ row, mK x = k := by
  unfold mrow at h
  rw [List.mem_reverse] at h
  exact List.mem_map.mp h
theorem szs_mrow : ∀ row : List KT, szs (mrow row) = szs row
  | [] => rfl
  | k :: r => by
    rw [mrow_cons, szs_app, szs_mrow r, szs_cons, szs_cons, szs_nil]
    have : sz (mK k) = sz k := by unfold sz; rw [mK_len]
    omega
theorem mr_mr {r : Str} (h : r ∈ RN8) : mr (mr r) = r ∧ (mr r = "pair right" ↔ r = "pair right") := by
  have : ∀ r ∈ RN8, mr (mr r) = r ∧ (mr r = "pair right" ↔ r = "pair right") := by decide +kernel
  exact this r h
theorem mp_rest {r : Str} {a w c : Int} (h : (["axiom", "over right", "under right"] : List Str).any (· == r) = false) (hr : r ∈ RN8) : mp (mr r) (mp r a w c) w c = a := by
  have key : ∀ r ∈ RN8, (["axiom", "over right", "under right"] : List Str).any (· == r) = false → (["axiom", "over right", "under right"] : List Str).any (· == mr r) = false ∧ (mr r = "pair right" ↔ r = "pair right") ∧ (mr r = "cut" ↔ r = "cut") := by decide +kernel
  obtain ⟨h1, h2, h3⟩ := key r hr h
  have hf : ¬ (false = true) := Bool.false_ne_true
  unfold mp
  rw [h1, h, if_neg hf, if_neg hf]
  by_cases hp : r = "pair right"
  · rw [if_pos hp, if_pos (h2.mpr hp)]; omega
  · rw [if_neg hp, if_neg fun z => hp (h2.mp z)]
    by_cases hc : r = "cut"
    · rw [if_pos hc, if_pos (h3.mpr hc)]; omega
    · rw [if_neg hc, if_neg fun z => hc (h3.mp z)]; omega
theorem mp_zero {r : Str} {a w c : Int} (h : (["axiom", "over right", "under right"] : List Str).any (· == r) = true) : mp r a w c = 0 := by unfold mp; rw [if_pos h]
theorem mr_zero : ∀ r ∈ RN8, (["axiom", "over right", "under right"] : List Str).any (· == r) = true → (["axiom", "over right", "under right"] : List Str).any (· == mr r) = true := by decide +kernel
/-- at is 0 where it tells nothing -/
theorem Shape.at0 {P : Str → Prop} {t : DT} (h : Shape P t) (hz : (["axiom", "over right", "under right"] : List Str).any (· == t.rule) = true) : t.a = 0 := by
  cases h with
  | ax _ => rfl
  | or _ _ => rfl
  | ur _ _ => rfl
  | pr => exact absurd hz (by show ¬ ((["axiom", "over right", "under right"] : List Str).any (· == ("pair right" : Str))) = true; decide)
  | ol _ => exact absurd hz (by show ¬ ((["axiom", "over right", "under right"] : List Str).any (· == ("over left" : Str))) = true; decide)
  | ul _ _ => exact absurd hz (by show ¬ ((["axiom", "over right", "under right"] : List Str).any (· == ("under left" : Str))) = true; decide)
  | pl _ => exact absurd hz (by show ¬ ((["axiom", "over right", "under right"] : List Str).any (· == ("pair left" : Str))) = true; decide)
  | ct _ => exact absurd hz (by show ¬ ((["axiom", "over right", "under right"] : List Str).any (· == ("cut" : Str))) = true; decide)
theorem DT.ext' {t u : DT} (h1 : t.rule = u.rule) (h2 : t.row = u.row) (h3 : t.g = u.g) (h4 : t.a = u.a) (h5 : t.w = u.w) (h6 : t.ps = u.ps) : t = u := by
  cases t; cases u
  cases h1; cases h2; cases h3; cases h4; cases h5; cases h6
  rfl
theorem Made.mm {P : Str → Prop} {t : DT} (h : Made P t) : mD (mD t) = t := by
  induction h with
  | @mk t hs hb hp ih =>
    have hr := hs.rn
    obtain ⟨r1, r2⟩ := mr_mr hr
    refine DT.ext' ?_ ?_ ?_ ?_ ?_ ?_
    · rw [mD_rule, mD_rule, r1]
    · rw [mD_row, mD_row, mrow_mrow fun k hk => (hb.row k hk).1]
    · rw [mD_g, mD_g, (mK_ok hb.g.1).2]
    · rw [mD_a, mD_rule, mD_a, mD_w, mD_row, mrow_len]
      cases hz : (["axiom", "over right", "under right"] : List Str).any (· == t.rule) with
      | true => rw [mp_zero (mr_zero _ hr hz), hs.at0 hz]
      | false => exact mp_rest hz hr
    · rw [mD_w, mD_w]
    · have e : (t.ps.map mD).map mD = t.ps := by
        rw [List.map_map]
        exact (List.map_congr_left fun p hp => ih p hp).trans (List.map_id _)
      rw [mD_ps, mD_rule, mD_ps]
      by_cases h : t.rule = "pair right"
      · rw [if_pos h, if_pos (r2.mpr h), List.map_reverse, List.reverse_reverse, e]
      · rw [if_neg h, if_neg fun z => h (r2.mp z), e]
theorem mD_cnts : ∀ ps : List DT, (∀ p ∈ ps, (mD p).cnt = p.cnt ∧ (mD p).dp = p.dp) → cnts (ps.map mD) = cnts ps ∧ dps (ps.map mD) = dps ps
  | [], _ => ⟨rfl, rfl⟩
  | p :: ps, h => by
    obtain ⟨a, b⟩ := h p (List.mem_cons_self ..)
    obtain ⟨c, d⟩ := mD_cnts ps fun q hq => h q (List.mem_cons_of_mem _ hq)
    exact ⟨by show (mD p).cnt + cnts (ps.map mD) = p.cnt + cnts ps; rw [a, c], by show max (mD p).dp (dps (ps.map mD)) = max p.dp (dps ps); rw [b, d]⟩
theorem cnts_rev (ps : List DT) : cnts ps.reverse = cnts ps ∧ dps ps.reverse = dps ps := by
  have app : ∀ a b : List DT, dps (a ++ b) = max (dps a) (dps b) := fun a b => by
    induction a with
    | nil => show dps b = max 0 (dps b); omega
    | cons x a ih => show max x.dp (dps (a ++ b)) = max (max x.dp (dps a)) (dps b); rw [ih]; omega
  induction ps with
  | nil => exact ⟨rfl, rfl⟩
  | cons p ps ih =>
    rw [List.reverse_cons, cnts_app, app, ih.1, ih.2]
    exact ⟨by show cnts ps + (p.cnt + 0) = p.cnt + cnts ps; omega, by show max (dps ps) (max p.dp 0) = max p.dp (dps ps); omega⟩
/-- the mirror is made, too -/
theorem Made.mir {P : Str → Prop} {t : DT} (h : Made P t) : Made P (mD t) ∧ (mD t).cnt = t.cnt ∧ (mD t).dp = t.dp := by
  induction h with
  | @mk t hs hb hp ih =>
    have ic := mD_cnts t.ps fun p hp => (ih p hp).2
    have hps : ∀ p ∈ (mD t).ps, ∃ q ∈ t.ps, mD q = p := fun p hp => by
      rw [mD_ps] at hp
      split at hp
      · rw [List.mem_reverse] at hp; exact List.mem_map.mp hp
      · exact List.mem_map.mp hp
    refine ⟨.mk ?_ ?_ ?_, ?_, ?_⟩
    · cases hs with
      | ax h => exact .ax h
      | @or p A b e ne =>
        have h : Shape P (.st "under right" (mrow A) (.node ">" (mK b) (mD p).g) 0 0 [mD p]) := .ur (p := mD p) (by rw [mD_row, e, mrow_app, mrow_one]; rfl) (fun z => ne (List.length_eq_zero_iff.mp (by rw [← mrow_len, z]; rfl)))
        rw [mD_g] at h
        exact h
      | @ur p A b e ne =>
        have h : Shape P (.st "over right" (mrow A) (.node "/" (mD p).g (mK b)) 0 0 [mD p]) := .or (p := mD p) (by rw [mD_row, e, mrow_cons]) (fun z => ne (List.length_eq_zero_iff.mp (by rw [← mrow_len, z]; rfl)))
        rw [mD_g] at h
        exact h
      | @pr p q =>
        have h : Shape P (.st "pair right" ((mD q).row ++ (mD p).row) (.node "*" (mD q).g (mD p).g) (mD q).row.length 0 [mD q, mD p]) := .pr
        rw [mD_row, mD_row, ← mrow_app, mD_g, mD_g, mrow_len] at h
        show Shape P (.st "pair right" (mrow (p.row ++ q.row)) (.node "*" (mK q.g) (mK p.g)) (((p.row ++ q.row).length : Nat) - (p.row.length : Nat) : Int) 0 [mD q, mD p])
        rw [show (((p.row ++ q.row).length : Nat) - (p.row.length : Nat) : Int) = q.row.length by rw [List.length_append]; omega]
        exact h
      | @ol p q A B K e =>
        have h : Shape P (.st "under left" (mrow B ++ ((mD p).row ++ .node ">" (mD p).g (mK K) :: mrow A)) (mD q).g (((A ++ .node "/" K p.g :: (p.row ++ B)).length : Nat) - 1 - (A.length : Nat) : Int) (mD p).row.length [mD p, mD q]) := .ul (p := mD p) (q := mD q) (by rw [mD_row, e, mrow_app, mrow_cons, List.append_assoc]; rfl) (by rw [mD_row, mrow_len, mrow_len]; simp only [List.length_append, List.length_cons]; omega)
        rw [mD_row, mD_g, mD_g, mrow_len] at h
        show Shape P (.st "under left" (mrow (A ++ .node "/" K p.g :: (p.row ++ B))) (mK q.g) (((A ++ .node "/" K p.g :: (p.row ++ B)).length : Nat) - 1 - (A.length : Nat) : Int) p.row.length [mD p, mD q])
        rw [show mrow (A ++ .node "/" K p.g :: (p.row ++ B)) = mrow B ++ (mrow p.row ++ .node ">" (mK p.g) (mK K) :: mrow A) by rw [mrow_app, mrow_cons, mrow_app, List.append_assoc, List.append_assoc]; rfl]
        exact h
      | @ul p q A B K x e hx =>
        have h : Shape P (.st "over left" (mrow B ++ .node "/" (mK K) (mD p).g :: ((mD p).row ++ mrow A)) (mD q).g (mrow B).length (mD p).row.length [mD p, mD q]) := .ol (p := mD p) (q := mD q) (by rw [mD_row, e, mrow_app, mrow_cons, List.append_assoc]; rfl)
        rw [mD_row, mD_g, mD_g, mrow_len, mrow_len] at h
        show Shape P (.st "over left" (mrow (A ++ (p.row ++ .node ">" p.g K :: B))) (mK q.g) (((A ++ (p.row ++ .node ">" p.g K :: B)).length : Nat) - 1 - x : Int) p.row.length [mD p, mD q])
        rw [show mrow (A ++ (p.row ++ .node ">" p.g K :: B)) = mrow B ++ .node "/" (mK K) (mK p.g) :: (mrow p.row ++ mrow A) by rw [mrow_app, mrow_app, mrow_cons, List.append_assoc, List.append_assoc]; rfl,
          show (((A ++ (p.row ++ .node ">" p.g K :: B)).length : Nat) - 1 - x : Int) = B.length by rw [hx]; simp only [List.length_append, List.length_cons]; omega]
        exact h
      | @pl p A B K K2 e =>
        have h : Shape P (.st "pair left" (mrow B ++ .node "*" (mK K2) (mK K) :: mrow A) (mD p).g (mrow B).length 0 [mD p]) := .pl (p := mD p) (by rw [mD_row, e, mrow_app, mrow_cons, mrow_cons, List.append_assoc, List.append_assoc]; rfl)
        rw [mD_g, mrow_len] at h
        show Shape P (.st "pair left" (mrow (A ++ .node "*" K K2 :: B)) (mK p.g) (((A ++ .node "*" K K2 :: B).length : Nat) - 1 - (A.length : Nat) : Int) 0 [mD p])
        rw [show mrow (A ++ .node "*" K K2 :: B) = mrow B ++ .node "*" (mK K2) (mK K) :: mrow A by rw [mrow_app, mrow_cons, List.append_assoc]; rfl,
          show (((A ++ .node "*" K K2 :: B).length : Nat) - 1 - (A.length : Nat) : Int) = B.length by simp only [List.length_append, List.length_cons]; omega]
        exact h
      | @ct p q A B e =>
        have h : Shape P (.st "cut" (mrow B ++ ((mD p).row ++ mrow A)) (mD q).g (mrow B).length (mD p).row.length [mD p, mD q]) := .ct (p := mD p) (q := mD q) (by rw [mD_row, e, mrow_app, mrow_cons, List.append_assoc, mD_g]; rfl)
        rw [mD_row, mD_g, mrow_len, mrow_len] at h
        show Shape P (.st "cut" (mrow (A ++ (p.row ++ B))) (mK q.g) (((A ++ (p.row ++ B)).length : Nat) - (A.length : Nat) - (p.row.length : Nat) : Int) p.row.length [mD p, mD q])
        rw [show mrow (A ++ (p.row ++ B)) = mrow B ++ (mrow p.row ++ mrow A) by rw [mrow_app, mrow_app, List.append_assoc],
          show (((A ++ (p.row ++ B)).length : Nat) - (A.length : Nat) - (p.row.length : Nat) : Int) = B.length by simp only [List.length_append]; omega]
        exact h
    · have fk : ∀ k : KT, k.ok P ∧ k.at_.length ≤ 40 → (mK k).ok P ∧ (mK k).at_.length ≤ 40 := fun k h => ⟨(mK_ok h.1).1, by rw [mK_len]; exact h.2⟩
      refine ⟨fun z => hb.ne (List.length_eq_zero_iff.mp (by rw [← mrow_len, ← mD_row, z]; rfl)), by rw [mD_row, mrow_len]; exact hb.len, ?_, fun k hk => ?_⟩
      · rw [mD_row, mD_g, szs_mrow]
        have : sz (mK t.g) = sz t.g := by unfold sz; rw [mK_len]
        have := hb.sum
        omega
      · rw [mD_row, mD_g] at hk
        rcases List.mem_append.mp hk with z | z
        · obtain ⟨x, hx, rfl⟩ := mem_mrow z
          exact fk x (hb.row x hx)
        · rw [List.mem_singleton.mp z]; exact fk _ hb.g
    · intro p hp
      obtain ⟨q, hq, rfl⟩ := hps p hp
      exact (ih q hq).1
    · rw [DT.cnt_eq, DT.cnt_eq t, mD_ps]
      split
      · rw [(cnts_rev _).1, ic.1]
      · rw [ic.1]
    · rw [DT.dp_eq, DT.dp_eq t, mD_ps]
      split
      · rw [(cnts_rev _).2, ic.2]
      · rw [ic.2]
end Lw

set_option Elab.async false
set_option linter.all false
set_option maxRecDepth 100000
namespace Lw
open PySem L2 Dl
/-! ## identities -/
def axT (t : Str) : DT := .st "axiom" [.leaf t] (.leaf t) 0 0 []
def olT (a b : KT) (p q : DT) : DT := .st "over left" [.node "/" a b, b] a 0 1 [p, q]
def ulT (a b : KT) (p q : DT) : DT := .st "under left" [a, .node ">" a b] b 1 1 [p, q]
def prT (a b : KT) (p q : DT) : DT := .st "pair right" [a, b] (.node "*" a b) 1 0 [p, q]
def idT : KT → DT
  | .leaf t => axT t
  | .node s a b => if s = "/" then .st "over right" [.node "/" a b] (.node "/" a b) 0 0 [olT a b (idT b) (idT a)]
    else if s = ">" then .st "under right" [.node ">" a b] (.node ">" a b) 0 0 [ulT a b (idT a) (idT b)]
    else .st "pair left" [.node "*" a b] (.node "*" a b) 0 0 [prT a b (idT a) (idT b)]
theorem idT_over (a b : KT) : idT (.node "/" a b) = .st "over right" [.node "/" a b] (.node "/" a b) 0 0 [olT a b (idT b) (idT a)] := by
  show (if ("/" : Str) = "/" then _ else _) = _
  rw [if_pos rfl]
theorem idT_under (a b : KT) : idT (.node ">" a b) = .st "under right" [.node ">" a b] (.node ">" a b) 0 0 [ulT a b (idT a) (idT b)] := by
  show (if (">" : Str) = "/" then _ else if (">" : Str) = ">" then _ else _) = _
  rw [if_neg (by decide), if_pos rfl]
theorem idT_pair (a b : KT) : idT (.node "*" a b) = .st "pair left" [.node "*" a b] (.node "*" a b) 0 0 [prT a b (idT a) (idT b)] := by
  show (if ("*" : Str) = "/" then _ else if ("*" : Str) = ">" then _ else _) = _
  rw [if_neg (by decide), if_neg (by decide)]
theorem one_mem {α : Type} {Q : α → Prop} {p : α} (h : Q p) : ∀ x ∈ [p], Q x := fun x hx => by rw [List.mem_singleton.mp hx]; exact h
theorem two_mem {α : Type} {Q : α → Prop} {p q : α} (h : Q p) (h2 : Q q) : ∀ x ∈ [p, q], Q x := fun x hx => by
  simp only [List.mem_cons, List.not_mem_nil, or_false] at hx
  rcases hx with rfl | rfl
  · exact h
  · exact h2
theorem three_mem {α : Type} {Q : α → Prop} {p q r : α} (h : Q p) (h2 : Q q) (h3 : Q r) : ∀ x ∈ [p, q, r], Q x := fun x hx => by
  simp only [List.mem_cons, List.not_mem_nil, or_false] at hx
  rcases hx with rfl | rfl | rfl
  · exact h
  · exact h2
  · exact h3
theorem szs_one (k : KT) : szs [k] = sz k := by rw [szs_cons, szs_nil]; omega
theorem szs_two (k j : KT) : szs [k, j] = sz k + sz j := by rw [szs_cons, szs_one]
theorem sz_nat (k : KT) : sz k = (k.at_.length : Int) := rfl
theorem nd_len (s : Str) (a b : KT) : (KT.node s a b).at_.length = a.at_.length + b.at_.length := KT.len_node
/-- a kind from itself, by its parts -/
theorem idT_made {P : Str → Prop} : ∀ {k : KT}, k.ok P → k.at_.length ≤ 40 → Made P (idT k) ∧ (idT k).row = [k] ∧ (idT k).g = k ∧ (idT k).cnt + 2 = 3 * k.at_.length ∧ (idT k).dp + 1 ≤ 2 * k.at_.length
  | .leaf t, h, hl => ⟨.mk (.ax h) ⟨(fun z => nomatch (show [KT.leaf t] = [] from z)), by show 1 ≤ 40; decide, by
      show szs [KT.leaf t] + sz (.leaf t) ≤ 80
      rw [szs_one]; show (1 : Int) + 1 ≤ 80; decide, two_mem (p := KT.leaf t) (q := KT.leaf t) ⟨h, hl⟩ ⟨h, hl⟩⟩ (fun _ h => nomatch h), rfl, rfl, by show 1 + 0 + 2 = 3 * 1; decide, by show 1 + 0 + 1 ≤ 2 * 1; decide⟩
  | .node s a b, h, hl => by
    have hl' := hl
    rw [nd_len] at hl'
    have pa := KT.pos a
    have pb := KT.pos b
    obtain ⟨a1, a2, a3, a4, a5⟩ := idT_made (k := a) h.2.1 (by omega)
    obtain ⟨b1, b2, b3, b4, b5⟩ := idT_made (k := b) h.2.2 (by omega)
    have fa : a.ok P ∧ a.at_.length ≤ 40 := ⟨h.2.1, by omega⟩
    have fb : b.ok P ∧ b.at_.length ≤ 40 := ⟨h.2.2, by omega⟩
    have ea := sz_nat a
    have eb := sz_nat b
    have go : ∀ (r1 r2 : Str) (x : Int) (row : List KT) (g2 : KT) (p q : DT), Shape P (.st r2 row g2 x (if r2 = "pair right" then 0 else 1) [p, q]) → Shape P (.st r1 [.node s a b] (.node s a b) 0 0 [.st r2 row g2 x (if r2 = "pair right" then 0 else 1) [p, q]]) → row.length = 2 → szs row + sz g2 ≤ 80 → (∀ k ∈ row ++ [g2], k.ok P ∧ k.at_.length ≤ 40) → Made P p → Made P q → Made P (.st r1 [.node s a b] (.node s a b) 0 0 [.st r2 row g2 x (if r2 = "pair right" then 0 else 1) [p, q]]) := fun r1 r2 x row g2 p q s2 s1 len sum fit mp mq => by
      refine .mk s1 ⟨by simp [DT.row], by show 1 ≤ 40; decide, ?_, two_mem ⟨h, hl⟩ ⟨h, hl⟩⟩ (one_mem (.mk s2 ⟨fun z => ?_, by show row.length ≤ 40; omega, sum, fit⟩ (two_mem mp mq)))
      · show szs [KT.node s a b] + sz (.node s a b) ≤ 80
        rw [szs_one, sz_node]; omega
      · have z' : row = [] := z
        rw [z'] at len; exact nomatch len
    have tail : ∀ (r1 r2 : Str) (x w : Int) (row : List KT) (g2 : KT) (p q : DT), p.cnt + q.cnt = (idT a).cnt + (idT b).cnt → max p.dp q.dp = max (idT a).dp (idT b).dp → (DT.st r1 [.node s a b] (.node s a b) 0 0 [.st r2 row g2 x w [p, q]]).cnt + 2 = 3 * (KT.node s a b).at_.length ∧ (DT.st r1 [.node s a b] (.node s a b) 0 0 [.st r2 row g2 x w [p, q]]).dp + 1 ≤ 2 * (KT.node s a b).at_.length := fun r1 r2 x w row g2 p q e1 e2 => by
      rw [nd_len]
      refine ⟨?_, ?_⟩
      · show 1 + (1 + (p.cnt + (q.cnt + 0)) + 0) + 2 = _; omega
      · show 1 + max (1 + max p.dp (max q.dp 0)) 0 + 1 ≤ _; omega
    rcases h.1 with rfl | rfl | rfl
    · rw [idT_over]
      have s2 : Shape P (olT a b (idT b) (idT a)) := by
        have := Shape.ol (P := P) (p := idT b) (q := idT a) (A := []) (B := []) (K := a) a2
        rw [a3, b2, b3] at this
        exact this
      have s1 : Shape P (.st "over right" [.node "/" a b] (.node "/" a b) 0 0 [olT a b (idT b) (idT a)]) := .or (p := olT a b (idT b) (idT a)) (A := [.node "/" a b]) (b := b) rfl (by simp)
      have m := go "over right" "over left" 0 [.node "/" a b, b] a (idT b) (idT a) (by rw [if_neg (by decide)]; exact s2) (by rw [if_neg (by decide)]; exact s1) rfl (by rw [szs_two, sz_node]; omega) (three_mem ⟨h, hl⟩ fb fa) b1 a1
      rw [if_neg (by decide)] at m
      exact ⟨m, rfl, rfl, tail _ _ _ _ _ _ (idT b) (idT a) (by omega) (by omega)⟩
    · rw [idT_under]
      have s2 : Shape P (ulT a b (idT a) (idT b)) := by
        have := Shape.ul (P := P) (p := idT a) (q := idT b) (A := []) (B := []) (K := b) (x := 1) b2 (by rw [a2]; rfl)
        rw [b3, a2, a3] at this
        exact this
      have s1 : Shape P (.st "under right" [.node ">" a b] (.node ">" a b) 0 0 [ulT a b (idT a) (idT b)]) := .ur (p := ulT a b (idT a) (idT b)) (A := [.node ">" a b]) (b := a) rfl (by simp)
      have m := go "under right" "under left" 1 [a, .node ">" a b] b (idT a) (idT b) (by rw [if_neg (by decide)]; exact s2) (by rw [if_neg (by decide)]; exact s1) rfl (by rw [szs_two, sz_node]; omega) (three_mem fa ⟨h, hl⟩ fb) a1 b1
      rw [if_neg (by decide)] at m
      exact ⟨m, rfl, rfl, tail _ _ _ _ _ _ (idT a) (idT b) rfl rfl⟩
    · rw [idT_pair]
      have s2 : Shape P (prT a b (idT a) (idT b)) := by
        have := Shape.pr (P := P) (p := idT a) (q := idT b)
        rw [a2, b2, a3, b3] at this
        exact this
      have s1 : Shape P (.st "pair left" [.node "*" a b] (.node "*" a b) 0 0 [prT a b (idT a) (idT b)]) := .pl (p := prT a b (idT a) (idT b)) (A := []) (B := []) (K := a) (K2 := b) rfl
      have m := go "pair left" "pair right" 1 [a, b] (.node "*" a b) (idT a) (idT b) (by rw [if_pos rfl]; exact s2) (by rw [if_pos rfl]; exact s1) rfl (by rw [szs_two, sz_node]; omega) (three_mem fa fb ⟨h, hl⟩) a1 b1
      rw [if_pos rfl] at m
      exact ⟨m, rfl, rfl, tail _ _ _ _ _ _ (idT a) (idT b) rfl rfl⟩
end Lw

set_option Elab.async false
set_option linter.all false
set_option maxRecDepth 100000
namespace Lw
open PySem L2 Dl
/-! ## a step over bounded parts -/
def FitB (x y z : Int) (t : DT) : Prop := (∀ k ∈ t.row ++ [t.g], sz k ≤ x) ∧ (t.row.length : Int) ≤ y ∧ szs t.row + sz t.g ≤ z
theorem nd_ok' {P : Str → Prop} {s : Str} (hs : Sg s) {a b : KT} (ha : a.ok P ∧ a.at_.length ≤ 40) (hb : b.ok P ∧ b.at_.length ≤ 40) : (KT.node s a b).ok P ∧ (KT.node s a b).at_.length ≤ 80 := ⟨⟨hs, ha.1, hb.1⟩, by rw [KT.len_node]; have := ha.2; have := hb.2; omega⟩
theorem Shape.wide {P : Str → Prop} {t : DT} (h : Shape P t) (hp : ∀ p ∈ t.ps, Made P p) (ne : t.ps ≠ []) : (∀ k ∈ t.row ++ [t.g], k.ok P ∧ k.at_.length ≤ 80) ∧ t.row.length ≤ 80 ∧ t.row ≠ [] := by
  have up : ∀ {k : KT}, k.ok P ∧ k.at_.length ≤ 40 → k.ok P ∧ k.at_.length ≤ 80 := fun h => ⟨h.1, by have := h.2; omega⟩
  cases h with
  | ax h => exact absurd rfl ne
  | @or p A b e nA =>
    have m := (hp p (by simp [DT.ps])).bd
    have l := m.len
    have f := m.row
    rw [e] at f l
    rw [List.length_append, List.length_singleton] at l
    refine ⟨fun k hk => ?_, by show A.length ≤ 80; omega, nA⟩
    rcases List.mem_append.mp (show k ∈ A ++ [KT.node "/" p.g b] from hk) with z | z
    · exact up (f k (List.mem_append_left _ z))
    · rw [List.mem_singleton.mp z]; exact nd_ok' (.inl rfl) m.g (f b (by simp))
  | @ur p A b e nA =>
    have m := (hp p (by simp [DT.ps])).bd
    have l := m.len
    have f := m.row
    rw [e] at f l
    rw [List.length_cons] at l
    refine ⟨fun k hk => ?_, by show A.length ≤ 80; omega, nA⟩
    rcases List.mem_append.mp (show k ∈ A ++ [KT.node ">" b p.g] from hk) with z | z
    · exact up (f k (List.mem_cons_of_mem _ z))
    · rw [List.mem_singleton.mp z]; exact nd_ok' (.inr (.inl rfl)) (f b (by simp)) m.g
  | @pr p q =>
    have m := (hp p (by simp [DT.ps])).bd
    have m2 := (hp q (by simp [DT.ps])).bd
    have l := m.len
    have l2 := m2.len
    refine ⟨fun k hk => ?_, by show (p.row ++ q.row).length ≤ 80; rw [List.length_append]; omega, fun z => m.ne (List.append_eq_nil_iff.mp z).1⟩
    rcases List.mem_append.mp (show k ∈ (p.row ++ q.row) ++ [KT.node "*" p.g q.g] from hk) with z | z
    · rcases List.mem_append.mp z with z | z
      · exact up (m.row k z)
      · exact up (m2.row k z)
    · rw [List.mem_singleton.mp z]; exact nd_ok' (.inr (.inr rfl)) m.g m2.g
  | @ol p q A B K e =>
    have m := (hp p (by simp [DT.ps])).bd
    have m2 := (hp q (by simp [DT.ps])).bd
    have l := m.len
    have l2 := m2.len
    have f := m2.row
    rw [e] at f l2
    simp only [List.length_append, List.length_cons] at l2
    refine ⟨fun k hk => ?_, by show (A ++ KT.node "/" K p.g :: (p.row ++ B)).length ≤ 80; simp only [List.length_append, List.length_cons]; omega, fun z => by
      have z : A ++ KT.node "/" K p.g :: (p.row ++ B) = [] := z
      simp at z⟩
    have hk : k ∈ (A ++ KT.node "/" K p.g :: (p.row ++ B)) ++ [q.g] := hk
    simp only [List.append_assoc, List.cons_append, List.mem_append, List.mem_cons, List.not_mem_nil, or_false] at hk
    rcases hk with z | rfl | z | z | rfl
    · exact up (f k (by simp [z]))
    · exact nd_ok' (.inl rfl) (f K (by simp)) m.g
    · exact up (m.row k z)
    · exact up (f k (by simp [z]))
    · exact up m2.g
  | @ul p q A B K x e hx =>
    have m := (hp p (by simp [DT.ps])).bd
    have m2 := (hp q (by simp [DT.ps])).bd
    have l := m.len
    have l2 := m2.len
    have f := m2.row
    rw [e] at f l2
    simp only [List.length_append, List.length_cons] at l2
    refine ⟨fun k hk => ?_, by show (A ++ (p.row ++ KT.node ">" p.g K :: B)).length ≤ 80; simp only [List.length_append, List.length_cons]; omega, fun z => by
      have z : A ++ (p.row ++ KT.node ">" p.g K :: B) = [] := z
      simp at z⟩
    have hk : k ∈ (A ++ (p.row ++ KT.node ">" p.g K :: B)) ++ [q.g] := hk
    simp only [List.append_assoc, List.cons_append, List.mem_append, List.mem_cons, List.not_mem_nil, or_false] at hk
    rcases hk with z | z | rfl | z | rfl
    · exact up (f k (by simp [z]))
    · exact up (m.row k z)
    · exact nd_ok' (.inr (.inl rfl)) m.g (f K (by simp))
    · exact up (f k (by simp [z]))
    · exact up m2.g
  | @pl p A B K K2 e =>
    have m := (hp p (by simp [DT.ps])).bd
    have l := m.len
    have f := m.row
    rw [e] at f l
    simp only [List.length_append, List.length_cons] at l
    refine ⟨fun k hk => ?_, by show (A ++ KT.node "*" K K2 :: B).length ≤ 80; simp only [List.length_append, List.length_cons]; omega, fun z => by
      have z : A ++ KT.node "*" K K2 :: B = [] := z
      simp at z⟩
    have hk : k ∈ (A ++ KT.node "*" K K2 :: B) ++ [p.g] := hk
    simp only [List.append_assoc, List.cons_append, List.mem_append, List.mem_cons, List.not_mem_nil, or_false] at hk
    rcases hk with z | rfl | z | rfl
    · exact up (f k (by simp [z]))
    · exact nd_ok' (.inr (.inr rfl)) (f K (by simp)) (f K2 (by simp))
    · exact up (f k (by simp [z]))
    · exact up m.g
  | @ct p q A B e =>
    have m := (hp p (by simp [DT.ps])).bd
    have m2 := (hp q (by simp [DT.ps])).bd
    have l := m.len
    have l2 := m2.len
    have f := m2.row
    rw [e] at f l2
    simp only [List.length_append, List.length_cons] at l2
    refine ⟨fun k hk => ?_, by show (A ++ (p.row ++ B)).length ≤ 80; simp only [List.length_append]; omega, fun z => m.ne (by
      have z : A ++ (p.row ++ B) = [] := z
      simp at z; exact z.2.1)⟩
    have hk : k ∈ (A ++ (p.row ++ B)) ++ [q.g] := hk
    simp only [List.append_assoc, List.mem_append, List.mem_cons, List.not_mem_nil, or_false] at hk
    rcases hk with z | z | z | rfl
    · exact up (f k (by simp [z]))
    · exact up (m.row k z)
    · exact up (f k (by simp [z]))
    · exact up m2.g
theorem Shape.made {P : Str → Prop} {t : DT} (h : Shape P t) (hp : ∀ p ∈ t.ps, Made P p) (ne : t.ps ≠ []) {x y z : Int} (f : FitB x y z t) (hx : x ≤ 40) (hy : y ≤ 40) (hz : z ≤ 80) : Made P t := by
  obtain ⟨w1, w2, w3⟩ := h.wide hp ne
  refine .mk h ⟨w3, by have := f.2.1; omega, by have := f.2.2; omega, fun k hk => ⟨(w1 k hk).1, ?_⟩⟩ hp
  have := f.1 k hk
  rw [sz_nat] at this
  omega
theorem KT.mono {P Q : Str → Prop} (h : ∀ t, P t → Q t) : ∀ {k : KT}, k.ok P → k.ok Q
  | .leaf t, hk => h t hk
  | .node s a b, hk => ⟨hk.1, KT.mono h hk.2.1, KT.mono h hk.2.2⟩
theorem Shape.mono {P Q : Str → Prop} (h : ∀ t, P t → Q t) {t : DT} (s : Shape P t) : Shape Q t := by
  cases s with
  | ax a => exact .ax (h _ a)
  | or e n => exact .or e n
  | ur e n => exact .ur e n
  | pr => exact .pr
  | ol e => exact .ol e
  | ul e x => exact .ul e x
  | pl e => exact .pl e
  | ct e => exact .ct e
theorem Made.mono {P Q : Str → Prop} (h : ∀ t, P t → Q t) {t : DT} (m : Made P t) : Made Q t := by
  induction m with
  | @mk t hs hb hp ih => exact .mk (hs.mono h) ⟨hb.ne, hb.len, hb.sum, fun k hk => ⟨KT.mono h (hb.fit k hk).1, (hb.fit k hk).2⟩⟩ ih
end Lw

set_option Elab.async false
set_option linter.all false
set_option maxRecDepth 100000
namespace Lw
open PySem L2 Dl
theorem AtS.len {t : Str} (h : AtS t) : t.length ≤ 15 := by
  obtain ⟨b, m, rfl, hb, h0, h1⟩ := h
  exact atT_len hb h0 h1
theorem sm_128 : ∀ c ∈ SM, c < 128 := by decide +kernel
theorem dg_128 : ∀ c ∈ ("0123456789" : Str).cps.toList, c < 128 := by decide +kernel
theorem AtS.asc {t : Str} (h : AtS t) : ∀ c ∈ t.cps.toList, c < 128 := by
  obtain ⟨b, m, rfl, hb, h0, h1⟩ := h
  unfold atT
  intro c hc
  by_cases e : m = 0
  · rw [if_pos e] at hc
    exact sm_128 c (hb.all c hc)
  · rw [if_neg e, app_list, app_list, dot_list] at hc
    simp only [List.mem_append, List.mem_singleton] at hc
    rcases hc with (z | z) | z
    · exact sm_128 c (hb.all c z)
    · omega
    · exact dg_128 c (num_dig h0 c z)
theorem log_lt {m : Int} (h0 : 0 < m) (h1 : m < 1073741824) : m.natAbs.log2 < 9000 := by
  have : m.natAbs.log2 < 30 := (Nat.log2_lt (by omega)).mpr (by omega)
  omega
/-- a whole number out of a written list -/
theorem pick_int {xs : List Int} {i lo hi : Int} (a : 0 ≤ i) (b : i < (xs.length : Int)) (h : ∀ x ∈ xs, lo ≤ x ∧ x ≤ hi) : ∃ x, lo ≤ x ∧ x ≤ hi ∧ atI (xs.map D.int) i = some (.int x) := by
  obtain ⟨d, hd, hm⟩ := atI_in (xs := xs.map D.int) a (by rw [List.length_map]; exact b)
  obtain ⟨x, hx, rfl⟩ := List.mem_map.mp hm
  exact ⟨x, (h x hx).1, (h x hx).2, hd⟩
theorem AtS.atN {t : Str} (h : AtS t) : AtN t := ⟨by have := h.len; omega, h.asc⟩
theorem strsD_sts : ∀ xs : List Str, strsD (sts xs) = some xs
  | [] => rfl
  | x :: xs => by
    show (strsD (sts xs)).map (x :: ·) = _
    rw [strsD_sts xs]
    rfl
/-! ## names cut short, spare names -/
theorem cutS_take {x : Str} {k : Nat} : (cutS x none (some (k : Int))).cps.toList = x.cps.toList.take k := by
  unfold cutS
  have e := cut_take (xs := x.cps.toList) (k := (k : Int)) (by omega)
  rw [Int.toNat_natCast] at e
  unfold cutD at e
  rw [len_list] at e
  rw [← e]
theorem sm36' : ("abcdefghijklmnopqrstuvwxyz0123456789" : Str).cps.toList = SM := rfl
theorem sm_26 {k : Int} (h0 : 0 ≤ k) (h1 : k < 26) : ∃ c, atI SM k = some c ∧ c ∈ ("abcdefghijklmnopqrstuvwxyz" : Str).cps.toList := by
  have : ∀ j : Nat, j < 26 → ∃ c, SM[j]? = some c ∧ c ∈ ("abcdefghijklmnopqrstuvwxyz" : Str).cps.toList := by
    have h : ∀ j : Nat, j < 26 → (SM[j]?).any (fun c => decide (c ∈ ("abcdefghijklmnopqrstuvwxyz" : Str).cps.toList)) = true := by decide +kernel
    intro j hj
    have := h j hj
    cases e : SM[j]? with
    | none => rw [e] at this; exact nomatch this
    | some c => rw [e] at this; exact ⟨c, rfl, of_decide_eq_true this⟩
  obtain ⟨c, hc, hm⟩ := this k.toNat (by omega)
  exact ⟨c, by rw [show k = ((k.toNat : Nat) : Int) by omega]; exact atI_nat hc, hm⟩
/-- chars of a name, before it is cut -/
structure Nm (b : Str) : Prop where
  all : ∀ c ∈ b.cps.toList, c ∈ SM
  fst : ∃ c, b.cps.toList[0]? = some c ∧ c ∈ ("abcdefghijklmnopqrstuvwxyz" : Str).cps.toList
theorem Base.nm {b : Str} (h : Base b) : Nm b := ⟨h.all, h.fst⟩
theorem Nm.ne {b : Str} (h : Nm b) : b.cps.toList ≠ [] := fun e => by
  obtain ⟨c, hc, _⟩ := h.fst
  rw [e] at hc
  exact nomatch hc
theorem nm_one {c : Nat} (hs : c ∈ ("abcdefghijklmnopqrstuvwxyz" : Str).cps.toList) : Nm ⟨#[c]⟩ := ⟨fun y hy => by rw [List.mem_singleton.mp (show y ∈ [c] from hy)]; exact small_sm c hs, c, rfl, hs⟩
theorem Nm.push {b : Str} (h : Nm b) {c : Nat} (hc : c ∈ SM) : Nm (b ++ ⟨#[c]⟩) := by
  refine ⟨fun y hy => ?_, ?_⟩
  · rw [app_list] at hy
    rcases List.mem_append.mp hy with q | q
    · exact h.all y q
    · rw [List.mem_singleton.mp (show y ∈ [c] from q)]; exact hc
  · obtain ⟨f, hf1, hf2⟩ := h.fst
    exact ⟨f, by rw [app_list, List.getElem?_append_left (List.getElem?_eq_some_iff.mp hf1).1]; exact hf1, hf2⟩
theorem Nm.cut {b : Str} (h : Nm b) : Base (cutS b none (some 8)) := by
  have e : (cutS b none (some 8)).cps.toList = b.cps.toList.take 8 := cutS_take (k := 8)
  refine ⟨fun y hy => ?_, ?_, ?_⟩
  · rw [e] at hy; exact h.all y (List.mem_of_mem_take hy)
  · obtain ⟨f, hf1, hf2⟩ := h.fst
    exact ⟨f, by rw [e, List.getElem?_take_of_lt (by decide)]; exact hf1, hf2⟩
  · rw [← len_list, e, List.length_take]; omega
def spare (b : Str) (j : Nat) : Str := cutS b none (some 1) ++ "5" ++ (toString (j : Int) : Str)
theorem five_list : ("5" : Str).cps.toList = [53] := by decide +kernel
theorem dig1 : ∀ j : Nat, j ≤ 6 → (toString (j : Int) : Str).length = 1 ∧ ∀ c ∈ (toString (j : Int) : Str).cps.toList, c ∈ SM := by decide +kernel
theorem dig_inj : ∀ i : Nat, i ≤ 6 → ∀ j : Nat, j ≤ 6 → (toString (i : Int) : Str) = toString (j : Int) → i = j := by decide +kernel
theorem spare_base {b : Str} (h : Nm b) {j : Nat} (hj : j ≤ 6) : Base (spare b j) := by
  have e : (cutS b none (some 1)).cps.toList = b.cps.toList.take 1 := cutS_take (k := 1)
  obtain ⟨f, hf1, hf2⟩ := h.fst
  obtain ⟨d1, d2⟩ := dig1 j hj
  have e1 : b.cps.toList.take 1 = [f] := by
    cases hl : b.cps.toList with
    | nil => rw [hl] at hf1; exact nomatch hf1
    | cons c r => rw [hl] at hf1; rw [show f = c from (Option.some.inj hf1).symm]; rfl
  have el : (spare b j).cps.toList = f :: 53 :: (toString (j : Int) : Str).cps.toList := by
    unfold spare
    rw [app_list, app_list, e, e1, five_list]; rfl
  refine ⟨fun y hy => ?_, ⟨f, by rw [el]; rfl, hf2⟩, ?_⟩
  · rw [el] at hy
    rcases List.mem_cons.mp hy with rfl | hy
    · exact small_sm _ hf2
    · rcases List.mem_cons.mp hy with rfl | hy
      · decide +kernel
      · exact d2 y hy
  · rw [← len_list, el, List.length_cons, List.length_cons, len_list, d1]; decide
theorem spare_inj {b : Str} {i j : Nat} (hi : i ≤ 6) (hj : j ≤ 6) (h : spare b i = spare b j) : i = j := by
  unfold spare at h
  have e := congrArg (fun s : Str => s.cps.toList) h
  simp only [app_list] at e
  exact dig_inj i hi j hj (ext_list (List.append_cancel_left e))
theorem spare_left {b : Str} {m : Nat} (hm : m ≤ 6) {ts : List Str} (hl : ts.length < m + 1) : ∃ j, j ≤ m ∧ spare b j ∉ ts := by
  refine Classical.byContradiction fun h => ?_
  have sub : (List.range (m + 1)).map (spare b) ⊆ ts := fun x hx => by
    obtain ⟨j, hj, rfl⟩ := List.mem_map.mp hx
    refine Classical.byContradiction fun z => h ⟨j, by have := List.mem_range.mp hj; omega, z⟩
  have nd : ((List.range (m + 1)).map (spare b)).Nodup := by
    unfold List.Nodup
    rw [List.pairwise_map]
    refine List.Pairwise.imp_of_mem ?_ List.nodup_range
    intro i j hi hj hne e
    have := List.mem_range.mp hi
    have := List.mem_range.mp hj
    exact hne (spare_inj (by omega) (by omega) e)
  have := List.Nodup.length_le_of_subset nd sub
  rw [List.length_map, List.length_range] at this
  omega
theorem rng0 (n : Nat) : rng 0 n = (List.range n).map fun j : Nat => D.int (j : Int) := by
  unfold rng
  exact List.map_congr_left fun j _ => by rw [Int.zero_add]
theorem flat_line {xs : List D} {g : D} {n : Nat} (h : flats xs = true) (h2 : g.flat = true) : D.wf n (.tup [.tup xs, g]) = true := wf_flat (show (flats xs && (g.flat && true)) = true by rw [h, h2]; rfl)
theorem flat_trip {xs : List D} {g w : D} {n : Nat} (h : flats xs = true) (h2 : g.flat = true) (h3 : w.flat = true) : D.wf n (.tup [.tup xs, g, w]) = true := wf_flat (show (flats xs && (g.flat && (w.flat && true))) = true by rw [h, h2, h3]; rfl)
theorem fl3 {s a b : D} (h1 : s.flat = true) (h2 : a.flat = true) (h3 : b.flat = true) : (D.tup [s, a, b]).flat = true := by
  show (s.flat && (a.flat && (b.flat && true))) = true
  rw [h1, h2, h3]; rfl
theorem gNe_int_ {a : Int} {S : Store} : gNe (.int a) (.int a) S = some (.bl false, S) := gNe_refl rfl (Nat.zero_le _)
end Lw

set_option Elab.async false
set_option linter.all false
set_option maxRecDepth 100000
namespace Lw
open PySem L2 Dl
variable [Fa]
local macro_rules | `(tactic| simp_arith [$ls,*]) => `(tactic| simp (disch := first | omega | assumption | (simp only [List.length_cons, List.length_nil, List.length_append, List.length_take, List.length_drop]; omega) | (simp only [List.length_cons, List.length_nil])) only [sQ_, sP_, sE_, sR_, sIf_, sN_, sA_, tgO_nx, nm_, tgIx_, eC_, eV0, eV1, e1_, e2_, eB_, eF_, aN_, aC_, eMt_, eSl_, oN_, oI_, tV_, tE_, tA_, tO_, tN_, eIf_, eAnd_, eOr_, eNot_, eCh_, seq_nx, seq_rt, seq_bk, seq_ct, seq_ex, toR_some, toR_none, toT_some, truD_bl, truD_int, truD_tup, truD_non, truD_str, truD_ref, truC_lst, tyD_str, tyD_tup, tyD_int, tyD_bl, tyD_non, tyD_ref, tyC_lst, tyC_rol, tyC_dic, kE_, kR_, kIf_t, kIf_f, kN_, kA_, kIx1_, kIx2_, kIx3_, kE1_, kE21_, kE2_, kB_, kF_, kC1_, kC_, kM1_, kM2_, kM_, kS1_, kS2_, kS3_, kO_, kV_, kT_, kAn_t, kAn_f, kOr_t, kOr_f, kNo_, kIfE_t, kIfE_f, kVa_, kVa2_t, kVa2_f, kVo_, kVo2_t, kVo2_f, kVn_, kVn2_, kH_, kH1_, kH2_t, kH2_f, kH3_, List.getElem?_cons_zero, List.getElem?_cons_succ, List.set_cons_zero, List.set_cons_succ, gAdd_int, gAdd_str, gAdd_t, gAdd_r, catC_s, gSub_int, gMul_l, gMul_r, gFdiv_int, gMod_int, gLt_int, gLe_int, gGt_int, gGe_int, gInt_int, gAbs_int, gLen_tup, gLen_str, gLen_r, lenC_s, gTpl_, gLsd_, gIx_r, ixC_s, ixO_s, gIx_t, gIx_s, ixS_s, atI_0, atI_1, atI_2, atI_3, atI_4, atI_5, gAppend_r, appC_s, gExtend_r, extC_s, gPop_r, popC_s, gSet_r, setC_0, setC_2, gTuple_r, tupC_s, gTuple_t, gList_r, gList_t, newC_s, gSl_r, slC_s, gSl_t, gSl_s, cut_take, cut_drop, cut_init, cut_mid, Int.toNat_natCast, lstC_lst, lstC_rol, lstAt_C, isi_str, isi_int, isi_bool, isi_tup, isi_lst, isO_s, isB_1, isB_2, isB_3, isB_4, isB_5, isB_6, isB_7, isB_8, isB_9, isB_10, isB_11, isB_12, isB_13, isB_14, isB_15, isB_16, isB_17, isB_18, isB_19, isB_20, isB_21, isB_22, isB_23, isB_24, isB_25, isB_26, gSum_r, sumC_s, sumO_s, gMin_, gMax_, qEq_int, qNe_int, qEq_str, qNe_str, gNeg_z, tgT_, tgU_, tgL0, tgL1, eTab_, kTab_, sX_, tgIxX_, kX1_, kX2_, kX3_, gSetX_r, setX_0, setX_2, setX_s, sPar_, kPar_, eFv_, eGetD_, kG1_, isDic_r, isDC_d, kG1b_, kG2_, kG3_, gGetD_r, getC_s, gMaxL_r, maxC_, gRep_r, repC_, eD0_, gDget_r, dgC_s, List.getElem?_concat_length, set_end, sF_, kFor_, iR1_, kR1_, iR2_, kR2_, kR3_, iA_, kAny_r, kAny_t, kAny_s, iaC_s, eLc_, kLc_, wipeD_c, wipeD_n, tYes_, put_one, sAug_, gAug_i, sBk_, sCt_, sW_, st_len, st_p, st_k, st_0, st_q, st_set_p, st_set_k, st_set_0, st_push, sx_len, sx_k, sx_0, sx_q, sx_set_k, sx_set_0, sx_push, So_rt, So_nx, So_ex, Tn_nx, Tn_ct, Tn_bk, Tn_rt, Tn_ex, Bool.false_eq_true, if_true, if_false, reduceIte, Option.map_some, Option.bind_some, Bool.not_true, Bool.not_false, decide_true, decide_false, eq_self, List.length_append, List.length_singleton, List.length_cons, List.length_nil, List.map_cons, List.map_nil, Nat.sub_self, List.replicate_zero, List.append_nil, List.cons_append, List.nil_append, List.append_assoc, List.replicate_succ, Nat.reduceSub, Nat.reduceAdd, Nat.add_zero, Nat.zero_add, Nat.add_assoc, Nat.reduceLeDiff, Int.natCast_add, Int.cast_ofNat_Int, Int.reduceEq, Int.reduceLT, Int.reduceLE, Int.reduceAdd, Int.reduceSub, Int.reduceNeg, Int.reduceToNat, List.take_succ_cons, List.take_zero, List.drop_succ_cons, List.drop_zero, List.dropLast_concat, Dl.atI_last, gFdivW_, gJoin_r, joinC_, gUpper_, gRepl_, gInK_, gNinK_, r_ax_or, r_ax_ur, r_ax_pr, r_ax_ol, r_ax_ul, r_ax_pl, r_ax_ct, r_or_ax, r_or_ur, r_or_pr, r_or_ol, r_or_ul, r_or_pl, r_or_ct, r_ur_ax, r_ur_or, r_ur_pr, r_ur_ol, r_ur_ul, r_ur_pl, r_ur_ct, r_pr_ax, r_pr_or, r_pr_ur, r_pr_ol, r_pr_ul, r_pr_pl, r_pr_ct, r_ol_ax, r_ol_or, r_ol_ur, r_ol_pr, r_ol_ul, r_ol_pl, r_ol_ct, r_ul_ax, r_ul_or, r_ul_ur, r_ul_pr, r_ul_ol, r_ul_pl, r_ul_ct, r_pl_ax, r_pl_or, r_pl_ur, r_pl_pr, r_pl_ol, r_pl_ul, r_pl_ct, r_ct_ax, r_ct_or, r_ct_ur, r_ct_pr, r_ct_ol, r_ct_ul, r_ct_pl, q1, q2, q3, q4, q5, q6, e1, e2, e3, gInt_bl, gIs_tn, gIs_nn, gIsN_tn, gIsN_nn, gReverse_r, revC_s, iV_, kVV_t, kVV_r, revI_s, $ls,*])
local macro_rules | `(tactic| walk_at "ev") => `(tactic| simp (disch := first | omega | assumption | (simp only [List.length_cons, List.length_nil, List.length_append, List.length_take, List.length_drop]; omega) | (simp only [List.length_cons, List.length_nil])) only [sQ_, sP_, sE_, sR_, sIf_, sN_, sA_, tgO_nx, nm_, tgIx_, eC_, eV0, eV1, e1_, e2_, eB_, eF_, aN_, aC_, eMt_, eSl_, oN_, oI_, tV_, tE_, tA_, tO_, tN_, eIf_, eAnd_, eOr_, eNot_, eCh_, seq_nx, seq_rt, seq_bk, seq_ct, seq_ex, toR_some, toR_none, toT_some, truD_bl, truD_int, truD_tup, truD_non, truD_str, truD_ref, truC_lst, tyD_str, tyD_tup, tyD_int, tyD_bl, tyD_non, tyD_ref, tyC_lst, tyC_rol, tyC_dic, kE_, kR_, kIf_t, kIf_f, kN_, kA_, kIx1_, kIx2_, kIx3_, kE1_, kE21_, kE2_, kB_, kF_, kC1_, kC_, kM1_, kM2_, kM_, kS1_, kS2_, kS3_, kO_, kV_, kT_, kAn_t, kAn_f, kOr_t, kOr_f, kNo_, kIfE_t, kIfE_f, kVa_, kVa2_t, kVa2_f, kVo_, kVo2_t, kVo2_f, kVn_, kVn2_, kH_, kH1_, kH2_t, kH2_f, kH3_, List.getElem?_cons_zero, List.getElem?_cons_succ, List.set_cons_zero, List.set_cons_succ, gAdd_int, gAdd_str, gAdd_t, gAdd_r, catC_s, gSub_int, gMul_l, gMul_r, gFdiv_int, gMod_int, gLt_int, gLe_int, gGt_int, gGe_int, gInt_int, gAbs_int, gLen_tup, gLen_str, gLen_r, lenC_s, gTpl_, gLsd_, gIx_r, ixC_s, ixO_s, gIx_t, gIx_s, ixS_s, atI_0, atI_1, atI_2, atI_3, atI_4, atI_5, gAppend_r, appC_s, gExtend_r, extC_s, gPop_r, popC_s, gSet_r, setC_0, setC_2, gTuple_r, tupC_s, gTuple_t, gList_r, gList_t, newC_s, gSl_r, slC_s, gSl_t, gSl_s, cut_take, cut_drop, cut_init, cut_mid, Int.toNat_natCast, lstC_lst, lstC_rol, lstAt_C, isi_str, isi_int, isi_bool, isi_tup, isi_lst, isO_s, isB_1, isB_2, isB_3, isB_4, isB_5, isB_6, isB_7, isB_8, isB_9, isB_10, isB_11, isB_12, isB_13, isB_14, isB_15, isB_16, isB_17, isB_18, isB_19, isB_20, isB_21, isB_22, isB_23, isB_24, isB_25, isB_26, gSum_r, sumC_s, sumO_s, gMin_, gMax_, qEq_int, qNe_int, qEq_str, qNe_str, gNeg_z, tgT_, tgU_, tgL0, tgL1, eTab_, kTab_, sX_, tgIxX_, kX1_, kX2_, kX3_, gSetX_r, setX_0, setX_2, setX_s, sPar_, kPar_, eFv_, eGetD_, kG1_, isDic_r, isDC_d, kG1b_, kG2_, kG3_, gGetD_r, getC_s, gMaxL_r, maxC_, gRep_r, repC_, eD0_, gDget_r, dgC_s, List.getElem?_concat_length, set_end, sF_, kFor_, iR1_, kR1_, iR2_, kR2_, kR3_, iA_, kAny_r, kAny_t, kAny_s, iaC_s, eLc_, kLc_, wipeD_c, wipeD_n, tYes_, put_one, sAug_, gAug_i, sBk_, sCt_, sW_, st_len, st_p, st_k, st_0, st_q, st_set_p, st_set_k, st_set_0, st_push, sx_len, sx_k, sx_0, sx_q, sx_set_k, sx_set_0, sx_push, So_rt, So_nx, So_ex, Tn_nx, Tn_ct, Tn_bk, Tn_rt, Tn_ex, Bool.false_eq_true, if_true, if_false, reduceIte, Option.map_some, Option.bind_some, Bool.not_true, Bool.not_false, decide_true, decide_false, eq_self, List.length_append, List.length_singleton, List.length_cons, List.length_nil, List.map_cons, List.map_nil, Nat.sub_self, List.replicate_zero, List.append_nil, List.cons_append, List.nil_append, List.append_assoc, List.replicate_succ, Nat.reduceSub, Nat.reduceAdd, Nat.add_zero, Nat.zero_add, Nat.add_assoc, Nat.reduceLeDiff, Int.natCast_add, Int.cast_ofNat_Int, Int.reduceEq, Int.reduceLT, Int.reduceLE, Int.reduceAdd, Int.reduceSub, Int.reduceNeg, Int.reduceToNat, List.take_succ_cons, List.take_zero, List.drop_succ_cons, List.drop_zero, List.dropLast_concat, Dl.atI_last, gFdivW_, gJoin_r, joinC_, gUpper_, gRepl_, gInK_, gNinK_, r_ax_or, r_ax_ur, r_ax_pr, r_ax_ol, r_ax_ul, r_ax_pl, r_ax_ct, r_or_ax, r_or_ur, r_or_pr, r_or_ol, r_or_ul, r_or_pl, r_or_ct, r_ur_ax, r_ur_or, r_ur_pr, r_ur_ol, r_ur_ul, r_ur_pl, r_ur_ct, r_pr_ax, r_pr_or, r_pr_ur, r_pr_ol, r_pr_ul, r_pr_pl, r_pr_ct, r_ol_ax, r_ol_or, r_ol_ur, r_ol_pr, r_ol_ul, r_ol_pl, r_ol_ct, r_ul_ax, r_ul_or, r_ul_ur, r_ul_pr, r_ul_ol, r_ul_pl, r_ul_ct, r_pl_ax, r_pl_or, r_pl_ur, r_pl_pr, r_pl_ol, r_pl_ul, r_pl_ct, r_ct_ax, r_ct_or, r_ct_ur, r_ct_pr, r_ct_ol, r_ct_ul, r_ct_pl, q1, q2, q3, q4, q5, q6, e1, e2, e3, gInt_bl, gIs_tn, gIs_nn, gIsN_tn, gIsN_nn, gReverse_r, revC_s, iV_, kVV_t, kVV_r, revI_s])
-- fa
/-! ## pools -/
theorem mix_t (n : Nat) (x : Int) (h0 : 0 ≤ x) (h1 : x < 18446744073709551616) (S : Store) : Dl.Sp (tab (n + 1) ._law_mix [.int x] S) fun r => r = .ok (.int (mixZ x)) S := by
  refine Dl.sp_run (g := b__law_mix (tab n)) rfl fun Q hQ => ?_
  unfold b__law_mix
  have b1 : 0 ≤ (x * x + 3 * x + 7919) % 1000003 := Int.emod_nonneg _ (by decide)
  have b2 : (x * x + 3 * x + 7919) % 1000003 < 1000003 := Int.emod_lt_of_pos _ (by decide)
  simp_arith [h0]
  rw [Dl.fin_s rfl rfl]
  exact hQ _ rfl
theorem SWf_pool {T : Store} {p N : Nat} {P : List D} (hp : Pool N P) : wfs T.length P = true := wfs_flat hp.flat
/-- one draw -/
theorem fdW {k j : Int} (S : Store) (h0 : 0 < j) (h1 : j.natAbs.log2 < 9000) : gFdivW (.int k) (.int j) S = some (.int (k / j), S) := if_pos ⟨h0, h1⟩
theorem draw_t (n : Nat) {N p : Nat} {many : Int} {T : Store} {P : List D} (h : T[p]? = some (.lst P)) (hp : Pool N P) (hN : N ≤ 1000000) (h0 : 0 < many) (h1 : many.natAbs.log2 < 9000 := by decide) :
    Dl.Sp (tab (n + 2) ._law_draw [.ref p, .int many] T) fun r => ∃ w P', Pool (N + 1) P' ∧ 0 ≤ w ∧ w < many ∧ r = .ok (.int w) (T.set p (.lst P')) := by
  obtain ⟨a, b, c, rfl, b0, b1, c0, c1⟩ := hp
  have lp := get_lt h
  refine Dl.sp_run (g := b__law_draw (tab (n + 1))) rfl fun Q hQ => ?_
  unfold b__law_draw
  have w1 : ∀ k S, gFdivW (.int k) (.int many) S = some (.int (k / many), S) := fun _ S => fdW S h0 h1
  have w8 : ∀ k S, gFdivW (.int k) (.int 8) S = some (.int (k / 8), S) := fun _ S => fdW S (by decide) (by decide)
  have hs : ∀ d : List D, (T.set p (Cell.lst d))[p]? = some (Cell.lst d) := fun d => List.getElem?_set_self lp
  simp_arith [h]
  by_cases ha : 0 < a
  · simp_arith [ha, h, w1, w8]
    rw [Dl.fin_s (by rw [List.length_set]) rfl]
    exact hQ _ ⟨_, _, ⟨_, _, _, rfl, b0, b1, c0, by omega⟩, Int.emod_nonneg _ (by omega), Int.emod_lt_of_pos _ h0, rfl⟩
  · have em := mix_t n (b + 7368787 * (c + 1)) (by omega) (by omega) (T.set p (.lst [.int a, .int b, .int (c + 1)]))
    simp_arith [ha, h, hs, em, w1, w8]
    rw [Dl.fin_s (by rw [List.length_set]) rfl]
    exact hQ _ ⟨_, _, ⟨_, _, _, rfl, b0, b1, by omega, by omega⟩, Int.emod_nonneg _ (by omega), Int.emod_lt_of_pos _ h0, rfl⟩
theorem cell_t (n : Nat) {ns : List Int} {T : Store} (h : T[0]? = some (Cell.rol (ns.map D.int))) (k : Nat) : Dl.Sp (tab (n + 1) ._law_cell [.ref 0, .int k] T) fun r => ∃ c : Int, r = .ok (.int c) T := by
  refine Dl.sp_run (g := b__law_cell (tab n)) rfl fun Q hQ => ?_
  unfold b__law_cell
  simp_arith [h, List.length_map]
  by_cases hk : (k : Int) < ns.length
  · have hk' : k < ns.length := by omega
    have ei : atI (ns.map D.int) (k : Int) = some (.int ns[k]) := atI_nat (by rw [List.getElem?_map, List.getElem?_eq_getElem hk']; rfl)
    simp_arith [hk, h, ei]
    rw [Dl.fin_s rfl rfl]
    exact hQ _ ⟨_, rfl⟩
  · simp_arith [hk]
    rw [Dl.fin_s rfl rfl]
    exact hQ _ ⟨_, rfl⟩
theorem pow18 {S : Store} : gPow (.int 10) (.int 18) S = some (.int 1000000000000000000, S) := by
  show (if (0 : Int) ≤ 18 ∧ (18 : Int) ≤ 1000000 ∧ (10 : Int).natAbs < 2 ^ 64 then _ else none) = _
  rw [if_pos (by decide)]
  rfl
theorem pool_t (n : Nat) {ns : List Int} {T : Store} (h : T[0]? = some (Cell.rol (ns.map D.int))) (hT : SOK T) (k : Nat) (hk : k ≤ 100) : Dl.Sp (tab (n + 2) ._law_pool [.ref 0, .int k] T) fun r => ∃ P, Pool 0 P ∧ r = .ok (.ref T.length) (T ++ [Cell.lst P]) := by
  obtain ⟨c, ec⟩ := cell_t n (T := Dl.sx T []) (by rw [← Dl.sx_in]; exact h) k
  refine Dl.sp_plain (g := b__law_pool (tab (n + 1))) rfl fun Q hQ => ?_
  unfold b__law_pool
  simp_arith [ec, pow18]
  by_cases hb : (1000000000000000000 : Int) ≤ c
  · simp_arith [hb, pow18]
    exact Dl.Qxl0 (hT.wf rfl) rfl (hQ _ ⟨_, ⟨_, _, _, rfl, by omega, by omega, by decide, by decide⟩, rfl⟩)
  · have m0 := Int.emod_nonneg (if c < 0 then -c else c) (show (2000000011 : Int) ≠ 0 by decide)
    have m1 := Int.emod_lt_of_pos (if c < 0 then -c else c) (show (0 : Int) < 2000000011 by decide)
    simp_arith [hb]
    exact Dl.Qxl0 (hT.wf rfl) rfl (hQ _ ⟨_, ⟨_, _, _, rfl, by omega, by omega, by decide, by decide⟩, rfl⟩)

end Lw

set_option Elab.async false
set_option linter.all false
set_option maxRecDepth 100000
namespace Lw
open PySem L2 Dl
variable [Fa]
local macro_rules | `(tactic| simp_arith [$ls,*]) => `(tactic| simp (disch := first | omega | assumption | (simp only [List.length_cons, List.length_nil, List.length_append, List.length_take, List.length_drop]; omega) | (simp only [List.length_cons, List.length_nil])) only [sQ_, sP_, sE_, sR_, sIf_, sN_, sA_, tgO_nx, nm_, tgIx_, eC_, eV0, eV1, e1_, e2_, eB_, eF_, aN_, aC_, eMt_, eSl_, oN_, oI_, tV_, tE_, tA_, tO_, tN_, eIf_, eAnd_, eOr_, eNot_, eCh_, seq_nx, seq_rt, seq_bk, seq_ct, seq_ex, toR_some, toR_none, toT_some, truD_bl, truD_int, truD_tup, truD_non, truD_str, truD_ref, truC_lst, tyD_str, tyD_tup, tyD_int, tyD_bl, tyD_non, tyD_ref, tyC_lst, tyC_rol, tyC_dic, kE_, kR_, kIf_t, kIf_f, kN_, kA_, kIx1_, kIx2_, kIx3_, kE1_, kE21_, kE2_, kB_, kF_, kC1_, kC_, kM1_, kM2_, kM_, kS1_, kS2_, kS3_, kO_, kV_, kT_, kAn_t, kAn_f, kOr_t, kOr_f, kNo_, kIfE_t, kIfE_f, kVa_, kVa2_t, kVa2_f, kVo_, kVo2_t, kVo2_f, kVn_, kVn2_, kH_, kH1_, kH2_t, kH2_f, kH3_, List.getElem?_cons_zero, List.getElem?_cons_succ, List.set_cons_zero, List.set_cons_succ, gAdd_int, gAdd_str, gAdd_t, gAdd_r, catC_s, gSub_int, gMul_l, gMul_r, gFdiv_int, gMod_int, gLt_int, gLe_int, gGt_int, gGe_int, gInt_int, gAbs_int, gLen_tup, gLen_str, gLen_r, lenC_s, gTpl_, gLsd_, gIx_r, ixC_s, ixO_s, gIx_t, gIx_s, ixS_s, atI_0, atI_1, atI_2, atI_3, atI_4, atI_5, gAppend_r, appC_s, gExtend_r, extC_s, gPop_r, popC_s, gSet_r, setC_0, setC_2, gTuple_r, tupC_s, gTuple_t, gList_r, gList_t, newC_s, gSl_r, slC_s, gSl_t, gSl_s, cut_take, cut_drop, cut_init, cut_mid, Int.toNat_natCast, lstC_lst, lstC_rol, lstAt_C, isi_str, isi_int, isi_bool, isi_tup, isi_lst, isO_s, isB_1, isB_2, isB_3, isB_4, isB_5, isB_6, isB_7, isB_8, isB_9, isB_10, isB_11, isB_12, isB_13, isB_14, isB_15, isB_16, isB_17, isB_18, isB_19, isB_20, isB_21, isB_22, isB_23, isB_24, isB_25, isB_26, gSum_r, sumC_s, sumO_s, gMin_, gMax_, qEq_int, qNe_int, qEq_str, qNe_str, gNeg_z, tgT_, tgU_, tgL0, tgL1, eTab_, kTab_, sX_, tgIxX_, kX1_, kX2_, kX3_, gSetX_r, setX_0, setX_2, setX_s, sPar_, kPar_, eFv_, eGetD_, kG1_, isDic_r, isDC_d, kG1b_, kG2_, kG3_, gGetD_r, getC_s, gMaxL_r, maxC_, gRep_r, repC_, eD0_, gDget_r, dgC_s, List.getElem?_concat_length, set_end, sF_, kFor_, iR1_, kR1_, iR2_, kR2_, kR3_, iA_, kAny_r, kAny_t, kAny_s, iaC_s, eLc_, kLc_, wipeD_c, wipeD_n, tYes_, put_one, sAug_, gAug_i, sBk_, sCt_, sW_, st_len, st_p, st_k, st_0, st_q, st_set_p, st_set_k, st_set_0, st_push, sx_len, sx_k, sx_0, sx_q, sx_set_k, sx_set_0, sx_push, So_rt, So_nx, So_ex, Tn_nx, Tn_ct, Tn_bk, Tn_rt, Tn_ex, Bool.false_eq_true, if_true, if_false, reduceIte, Option.map_some, Option.bind_some, Bool.not_true, Bool.not_false, decide_true, decide_false, eq_self, List.length_append, List.length_singleton, List.length_cons, List.length_nil, List.map_cons, List.map_nil, Nat.sub_self, List.replicate_zero, List.append_nil, List.cons_append, List.nil_append, List.append_assoc, List.replicate_succ, Nat.reduceSub, Nat.reduceAdd, Nat.add_zero, Nat.zero_add, Nat.add_assoc, Nat.reduceLeDiff, Int.natCast_add, Int.cast_ofNat_Int, Int.reduceEq, Int.reduceLT, Int.reduceLE, Int.reduceAdd, Int.reduceSub, Int.reduceNeg, Int.reduceToNat, List.take_succ_cons, List.take_zero, List.drop_succ_cons, List.drop_zero, List.dropLast_concat, Dl.atI_last, gFdivW_, gJoin_r, joinC_, gUpper_, gRepl_, gInK_, gNinK_, r_ax_or, r_ax_ur, r_ax_pr, r_ax_ol, r_ax_ul, r_ax_pl, r_ax_ct, r_or_ax, r_or_ur, r_or_pr, r_or_ol, r_or_ul, r_or_pl, r_or_ct, r_ur_ax, r_ur_or, r_ur_pr, r_ur_ol, r_ur_ul, r_ur_pl, r_ur_ct, r_pr_ax, r_pr_or, r_pr_ur, r_pr_ol, r_pr_ul, r_pr_pl, r_pr_ct, r_ol_ax, r_ol_or, r_ol_ur, r_ol_pr, r_ol_ul, r_ol_pl, r_ol_ct, r_ul_ax, r_ul_or, r_ul_ur, r_ul_pr, r_ul_ol, r_ul_pl, r_ul_ct, r_pl_ax, r_pl_or, r_pl_ur, r_pl_pr, r_pl_ol, r_pl_ul, r_pl_ct, r_ct_ax, r_ct_or, r_ct_ur, r_ct_pr, r_ct_ol, r_ct_ul, r_ct_pl, q1, q2, q3, q4, q5, q6, e1, e2, e3, gInt_bl, gIs_tn, gIs_nn, gIsN_tn, gIsN_nn, gReverse_r, revC_s, iV_, kVV_t, kVV_r, revI_s, $ls,*])
local macro_rules | `(tactic| walk_at "ev") => `(tactic| simp (disch := first | omega | assumption | (simp only [List.length_cons, List.length_nil, List.length_append, List.length_take, List.length_drop]; omega) | (simp only [List.length_cons, List.length_nil])) only [sQ_, sP_, sE_, sR_, sIf_, sN_, sA_, tgO_nx, nm_, tgIx_, eC_, eV0, eV1, e1_, e2_, eB_, eF_, aN_, aC_, eMt_, eSl_, oN_, oI_, tV_, tE_, tA_, tO_, tN_, eIf_, eAnd_, eOr_, eNot_, eCh_, seq_nx, seq_rt, seq_bk, seq_ct, seq_ex, toR_some, toR_none, toT_some, truD_bl, truD_int, truD_tup, truD_non, truD_str, truD_ref, truC_lst, tyD_str, tyD_tup, tyD_int, tyD_bl, tyD_non, tyD_ref, tyC_lst, tyC_rol, tyC_dic, kE_, kR_, kIf_t, kIf_f, kN_, kA_, kIx1_, kIx2_, kIx3_, kE1_, kE21_, kE2_, kB_, kF_, kC1_, kC_, kM1_, kM2_, kM_, kS1_, kS2_, kS3_, kO_, kV_, kT_, kAn_t, kAn_f, kOr_t, kOr_f, kNo_, kIfE_t, kIfE_f, kVa_, kVa2_t, kVa2_f, kVo_, kVo2_t, kVo2_f, kVn_, kVn2_, kH_, kH1_, kH2_t, kH2_f, kH3_, List.getElem?_cons_zero, List.getElem?_cons_succ, List.set_cons_zero, List.set_cons_succ, gAdd_int, gAdd_str, gAdd_t, gAdd_r, catC_s, gSub_int, gMul_l, gMul_r, gFdiv_int, gMod_int, gLt_int, gLe_int, gGt_int, gGe_int, gInt_int, gAbs_int, gLen_tup, gLen_str, gLen_r, lenC_s, gTpl_, gLsd_, gIx_r, ixC_s, ixO_s, gIx_t, gIx_s, ixS_s, atI_0, atI_1, atI_2, atI_3, atI_4, atI_5, gAppend_r, appC_s, gExtend_r, extC_s, gPop_r, popC_s, gSet_r, setC_0, setC_2, gTuple_r, tupC_s, gTuple_t, gList_r, gList_t, newC_s, gSl_r, slC_s, gSl_t, gSl_s, cut_take, cut_drop, cut_init, cut_mid, Int.toNat_natCast, lstC_lst, lstC_rol, lstAt_C, isi_str, isi_int, isi_bool, isi_tup, isi_lst, isO_s, isB_1, isB_2, isB_3, isB_4, isB_5, isB_6, isB_7, isB_8, isB_9, isB_10, isB_11, isB_12, isB_13, isB_14, isB_15, isB_16, isB_17, isB_18, isB_19, isB_20, isB_21, isB_22, isB_23, isB_24, isB_25, isB_26, gSum_r, sumC_s, sumO_s, gMin_, gMax_, qEq_int, qNe_int, qEq_str, qNe_str, gNeg_z, tgT_, tgU_, tgL0, tgL1, eTab_, kTab_, sX_, tgIxX_, kX1_, kX2_, kX3_, gSetX_r, setX_0, setX_2, setX_s, sPar_, kPar_, eFv_, eGetD_, kG1_, isDic_r, isDC_d, kG1b_, kG2_, kG3_, gGetD_r, getC_s, gMaxL_r, maxC_, gRep_r, repC_, eD0_, gDget_r, dgC_s, List.getElem?_concat_length, set_end, sF_, kFor_, iR1_, kR1_, iR2_, kR2_, kR3_, iA_, kAny_r, kAny_t, kAny_s, iaC_s, eLc_, kLc_, wipeD_c, wipeD_n, tYes_, put_one, sAug_, gAug_i, sBk_, sCt_, sW_, st_len, st_p, st_k, st_0, st_q, st_set_p, st_set_k, st_set_0, st_push, sx_len, sx_k, sx_0, sx_q, sx_set_k, sx_set_0, sx_push, So_rt, So_nx, So_ex, Tn_nx, Tn_ct, Tn_bk, Tn_rt, Tn_ex, Bool.false_eq_true, if_true, if_false, reduceIte, Option.map_some, Option.bind_some, Bool.not_true, Bool.not_false, decide_true, decide_false, eq_self, List.length_append, List.length_singleton, List.length_cons, List.length_nil, List.map_cons, List.map_nil, Nat.sub_self, List.replicate_zero, List.append_nil, List.cons_append, List.nil_append, List.append_assoc, List.replicate_succ, Nat.reduceSub, Nat.reduceAdd, Nat.add_zero, Nat.zero_add, Nat.add_assoc, Nat.reduceLeDiff, Int.natCast_add, Int.cast_ofNat_Int, Int.reduceEq, Int.reduceLT, Int.reduceLE, Int.reduceAdd, Int.reduceSub, Int.reduceNeg, Int.reduceToNat, List.take_succ_cons, List.take_zero, List.drop_succ_cons, List.drop_zero, List.dropLast_concat, Dl.atI_last, gFdivW_, gJoin_r, joinC_, gUpper_, gRepl_, gInK_, gNinK_, r_ax_or, r_ax_ur, r_ax_pr, r_ax_ol, r_ax_ul, r_ax_pl, r_ax_ct, r_or_ax, r_or_ur, r_or_pr, r_or_ol, r_or_ul, r_or_pl, r_or_ct, r_ur_ax, r_ur_or, r_ur_pr, r_ur_ol, r_ur_ul, r_ur_pl, r_ur_ct, r_pr_ax, r_pr_or, r_pr_ur, r_pr_ol, r_pr_ul, r_pr_pl, r_pr_ct, r_ol_ax, r_ol_or, r_ol_ur, r_ol_pr, r_ol_ul, r_ol_pl, r_ol_ct, r_ul_ax, r_ul_or, r_ul_ur, r_ul_pr, r_ul_ol, r_ul_pl, r_ul_ct, r_pl_ax, r_pl_or, r_pl_ur, r_pl_pr, r_pl_ol, r_pl_ul, r_pl_ct, r_ct_ax, r_ct_or, r_ct_ur, r_ct_pr, r_ct_ol, r_ct_ul, r_ct_pl, q1, q2, q3, q4, q5, q6, e1, e2, e3, gInt_bl, gIs_tn, gIs_nn, gIsN_tn, gIsN_nn, gReverse_r, revC_s, iV_, kVV_t, kVV_r, revI_s])
-- fa
noncomputable def nm_t2 (F : FN → List D → M D) : SX := (sQ (sF (iR1 (eV 6)) (nm 7) (sN 5 (Dl.e2 gAdd (eV 5) (Dl.e2 gIx (eV 2) (eF (F ._law_draw) (aC (eV 0) (aC (eC (.int 36)) aN)))))))
  (sQ (sN 5 (eSl (eV 5) oN (oI (eC (.int 8)))))
  (sQ (sIf (tE (Dl.e2 gIn (eV 5) (eV 3))) (sQ (sN 8 (eLc [9] (iR1 (Dl.e2 gAdd (eV 1) (eC (.int 1)))) (.one 9) tYesD (Dl.e2 gAdd (Dl.e2 gAdd (eSl (eV 5) oN (oI (eC (.int 1)))) (eC (.str "5"))) (eB gStr (aC (eV 9) aN)))))
  (sN 5 (Dl.e2 gIx (eLc [10] (iA (eV 8)) (.one 10) (tE (Dl.e2 gNin (eV 10) (eV 3))) (eV 10)) (eC (.int 0))))) sP)
  (sE (eMt .lst gAppend (eV 3) (aC (eV 5) aN))))))
noncomputable def nm_t1 (F : FN → List D → M D) : SX := (sQ (sN 6 (Dl.e2 gIx (eB gLsd (aC (eC (.int 0)) (aC (eC (.int 1)) (aC (eC (.int 0)) (aC (eC (.int 7)) aN))))) (eF (F ._law_draw) (aC (eV 0) (aC (eC (.int 4)) aN)))))
  (sQ (sIf (tE (Dl.e2 gEq (eV 6) (eC (.int 7)))) (sN 6 (eF (F ._law_draw) (aC (eV 0) (aC (eC (.int 8)) aN)))) sP)
  (nm_t2 F)))
theorem b_nm_eq (F : FN → List D → M D) : b__law_names F = (sQ (sN 2 (eC (.str "abcdefghijklmnopqrstuvwxyz0123456789")))
  (sQ (sN 3 (eB gLsd aN))
  (sQ (sF (iR1 (eV 1)) (nm 4) (sQ (sN 5 (Dl.e2 gIx (eV 2) (eF (F ._law_draw) (aC (eV 0) (aC (eC (.int 26)) aN)))))
  (sQ (sIf (tA (tE (Dl.e2 gGt (eV 4) (eC (.int 0)))) (tE (Dl.e2 gEq (eF (F ._law_draw) (aC (eV 0) (aC (eC (.int 3)) aN))) (eC (.int 2))))) (sN 5 (Dl.e2 gIx (eV 3) (eC (.int 0)))) sP)
  (nm_t1 F))))
  (sR (eV 3))))) := rfl
theorem set_end2 {G : List Cell} {x y z : Cell} : (G ++ [x, y]).set (G.length + 1) z = G ++ [x, z] := by
  rw [List.set_append_right _ _ (by omega), Nat.add_sub_cancel_left]
  rfl
theorem get_end2 {G : List Cell} {x y : Cell} : (G ++ [x, y])[G.length + 1]? = some y := by
  rw [List.getElem?_append_right (by omega), Nat.add_sub_cancel_left]
  rfl
/-- where the loop stands -/
def nmI (p : Nat) (T : Store) (many : Int) (N j : Nat) (ρ : Dl.Env) (S : Store) : Prop := ∃ (ts : List Str) (P' : List D) (G : List Cell) (v4 v5 v6 v7 v8 v9 v10 : Option D), Pool (N + 11 * j) P' ∧ (∀ t ∈ ts, Base t) ∧ ts.length = j ∧ Dl.FL G ∧
  ρ = [some (.ref p), some (.int many), some (.str "abcdefghijklmnopqrstuvwxyz0123456789"), some (.ref T.length), v4, v5, v6, v7, v8, v9, v10] ∧ S = Dl.st T p P' (.lst (sts ts) :: G)
theorem nm_tail_t (n : Nat) {N p j : Nat} {T : Store} {P : List D} (lp : p < T.length) (hp : Pool (N + 11 * j + 4) P) (hN : N + 200 ≤ 1000000) {many : Int} (hm : 1 ≤ many) (hm2 : many ≤ 6) (hj : (j : Int) < many) {ts : List Str} {G : List Cell} (hts : ∀ t ∈ ts, Base t) (hl : ts.length = j) (hG : Dl.FL G) {b : Str} (hb : Nm b) (hbl : b.length ≤ 8) {m : Int} (m0 : 0 ≤ m) (m7 : m ≤ 7) {v4 v7 v8 v9 v10 : Option D} {Q : Dl.Out → Prop} :
    Tn (nmI p T many N (j + 1)) Q (nm_t2 (tab (n + 2)) [some (.ref p), some (.int many), some (.str "abcdefghijklmnopqrstuvwxyz0123456789"), some (.ref T.length), v4, some (.str b), some (.int m), v7, v8, v9, v10] (Dl.st T p P (.lst (sts ts) :: G))) := by
  unfold nm_t2
  simp_arith []
  refine Dl.forQ (P := Tn (nmI p T many N (j + 1)) Q) (fun i ρ S => ∃ b P' v7, Pool (N + 11 * j + 4 + i) P' ∧ Nm b ∧ b.length ≤ 8 + i ∧ ρ = [some (.ref p), some (.int many), some (.str "abcdefghijklmnopqrstuvwxyz0123456789"), some (.ref T.length), v4, some (.str b), some (.int m), v7, v8, v9, v10] ∧ S = Dl.st T p P' (.lst (sts ts) :: G))
    ⟨b, P, _, hp, hb, by omega, rfl, rfl⟩ ?_ ?_
  · rintro i d _ _ hi ⟨b, P3, v7, hp3, h1, h2, rfl, rfl⟩
    obtain ⟨hi, rfl⟩ := Dl.rng_get hi
    refine ⟨chk_nil, _, _, rfl, ?_⟩
    obtain ⟨d3, P4, hp4, a3, b3, e3⟩ := draw_t n (many := 36) (Dl.st_p (P := P3) (L := .lst (sts ts) :: G) lp) hp3 (by omega) (by decide)
    rw [Dl.st_set_p lp] at e3
    obtain ⟨c3, hc3, hm3⟩ := atI_in (xs := ("abcdefghijklmnopqrstuvwxyz0123456789" : Str).cps.toList) a3 (by rw [sm36', sm_len]; exact b3)
    rw [sm36'] at hm3
    have c2 : (⟨#[c3]⟩ : Str).length = 1 := rfl
    simp_arith [e3, hc3]
    exact ⟨_, P4, _, hp4.mono (by omega), h1.push hm3, by rw [app_len, c2]; omega, rfl, rfl⟩
  · rintro _ _ ⟨b, P3, v7, hp3, h1, h2, rfl, rfl⟩
    rw [rng_length] at hp3 h2
    refine ⟨chk_nil, ?_⟩
    have hB := h1.cut
    have hin := fun S l (h : S[l]? = some (Cell.lst (sts ts))) => gIn_strs (t := cutS b none (some 8)) h (strsD_sts ts)
    have e0 := hin (Dl.st T p P3 (.lst (sts ts) :: G)) T.length (by rw [Dl.st_0]; rfl)
    have zt := sts_len ts
    cases hc : ts.any (· == cutS b none (some 8)) with
    | false =>
      rw [hc] at e0
      simp_arith [e0]
      refine ⟨ts ++ [cutS b none (some 8)], P3, G, _, _, _, _, _, _, _, hp3.mono (by omega), fun t ht => ?_, by rw [List.length_append, hl]; rfl, hG, rfl, by rw [sts_app]; rfl⟩
      rcases List.mem_append.mp ht with z | z
      · exact hts t z
      · rw [List.mem_singleton.mp z]; exact hB
    | true =>
      rw [hc] at e0
      have lB := hB.len
      obtain ⟨M, hM⟩ : ∃ M : Nat, many = M := ⟨many.toNat, by omega⟩
      subst hM
      have l5 : ("5" : Str).length = 1 := by decide +kernel
      have ec1 := fun v7 v8 v10 => compS (T := T) (p := p) (P := P3) (m := (G.length + 1)) (L := .lst (sts ts) :: (G ++ [.lst []])) (ρ := [some (.ref p), some (.int M), some (.str "abcdefghijklmnopqrstuvwxyz0123456789"), some (.ref T.length), v4, some (.str (cutS b none (some 8))), some (.int m), v7, v8, none, v10]) (g := .one 9) (fe := Dl.e2 gAdd (Dl.e2 gAdd (eSl (eV 5) oN (oI (eC (.int 1)))) (eC (.str "5"))) (eB gStr (aC (eV 9) aN))) (k := []) (List.range (M + 1)) (fun j : Nat => .int (j : Int)) (fun j => .str (spare (cutS b none (some 8)) j)) (by rw [List.length_range]; omega) (by show (G ++ [Cell.lst []])[G.length]? = _; rw [List.getElem?_concat_length]) (fun a => chk_nil) (fun _ => rfl) (fun i hi => by
        have hi := List.mem_range.mp hi
        have lc := cutS_le (cutS b none (some 8)) none (some 1)
        have ln := (dig1 i (by omega)).1
        have es : ∀ S, gStr [.int (i : Int)] S = some (.str (toString (i : Int)), S) := fun S => gStr_ (by omega) (by omega)
        refine ⟨_, rfl, fun a ha => ?_⟩
        have ea : ∀ S, gAdd (.str (cutS (cutS b none (some 8)) none (some 1))) (.str "5") S = some (.str (cutS (cutS b none (some 8)) none (some 1) ++ "5"), S) := fun S => gAdd_str (by omega)
        have eb : ∀ S, gAdd (.str (cutS (cutS b none (some 8)) none (some 1) ++ "5")) (.str (toString (i : Int))) S = some (.str (spare (cutS b none (some 8)) i), S) := fun S => gAdd_str (by rw [app_len]; omega)
        simp_arith [es, ea, eb])
      have ec2 := fun v7 v9 => compFS (T := T) (p := p) (P := P3) (m := (G.length + 2)) (L := .lst (sts ts) :: (G ++ [.lst ((List.range (M + 1)).map fun j => .str (spare (cutS b none (some 8)) j)), .lst []])) (ρ := [some (.ref p), some (.int M), some (.str "abcdefghijklmnopqrstuvwxyz0123456789"), some (.ref T.length), v4, some (.str (cutS b none (some 8))), some (.int m), v7, some (.ref (T.length + (G.length + 1))), v9, none]) (g := .one 10) (ft := tE (Dl.e2 gNin (eV 10) (eV 3))) (fe := eV 10) (k := [(T.length + (G.length + 1), (List.range (M + 1)).map fun j => .str (spare (cutS b none (some 8)) j))]) (List.range (M + 1)) (fun j => .str (spare (cutS b none (some 8)) j)) (fun j => .str (spare (cutS b none (some 8)) j)) (fun j => !ts.any (· == spare (cutS b none (some 8)) j)) (by rw [List.length_range]; omega) (by
          show (G ++ [Cell.lst _, Cell.lst []])[G.length + 1]? = _
          rw [List.getElem?_append_right (by omega), Nat.add_sub_cancel_left]; rfl) (fun a y hy => by
          rw [List.mem_singleton.mp hy]
          show lstAt (Dl.st T p P3 _) _ = _
          rw [lstAt_C, Dl.st_k]
          show lstC ((G ++ [Cell.lst _, Cell.lst []]).set (G.length + 1) _)[G.length]? = _
          rw [List.getElem?_set_ne (by omega), List.getElem?_append_right (Nat.le_refl _), Nat.sub_self]; rfl) (fun _ => rfl) (fun i hi => ⟨_, rfl, fun a ha => ⟨by
          have en := gNin_strs (t := spare (cutS b none (some 8)) i) (S := Dl.st T p P3 ((.lst (sts ts) :: (G ++ [.lst ((List.range (M + 1)).map fun j => .str (spare (cutS b none (some 8)) j)), .lst []])).set (G.length + 2) (.lst a))) (l := T.length) (by rw [Dl.st_0]; rfl) (strsD_sts ts)
          simp only [List.set_cons_succ] at en ⊢
          simp_arith [en], fun _ => rfl⟩⟩)
      obtain ⟨j0, hj0, hn0⟩ := spare_left (b := cutS b none (some 8)) (m := M) (by omega) (ts := ts) (by omega)
      have hin0 : j0 ∈ (List.range (M + 1)).filter (fun j => !ts.any (· == spare (cutS b none (some 8)) j)) := List.mem_filter.mpr ⟨List.mem_range.mpr (by omega), by
        rw [Bool.not_eq_true', Bool.eq_false_iff]
        intro z
        obtain ⟨y, hy, e⟩ := List.any_eq_true.mp z
        exact hn0 (by rw [← eq_of_beq e]; exact hy)⟩
      obtain ⟨j1, r1, hf⟩ : ∃ j1 r1, (List.range (M + 1)).filter (fun j => !ts.any (· == spare (cutS b none (some 8)) j)) = j1 :: r1 := by
        cases h : (List.range (M + 1)).filter (fun j => !ts.any (· == spare (cutS b none (some 8)) j)) with
        | nil => rw [h] at hin0; exact nomatch hin0
        | cons j1 r1 => exact ⟨j1, r1, rfl⟩
      have hj1 : j1 ≤ 6 := by
        have : j1 ∈ (List.range (M + 1)).filter (fun j => !ts.any (· == spare (cutS b none (some 8)) j)) := by rw [hf]; exact List.mem_cons_self ..
        have := List.mem_range.mp (List.mem_filter.mp this).1
        omega
      have hB1 := spare_base hB.nm hj1
      have hfl : Dl.FL (G ++ [Cell.lst ((List.range (M + 1)).map fun j => D.str (spare (cutS b none (some 8)) j)), .lst ((j1 :: r1).map fun j => D.str (spare (cutS b none (some 8)) j))]) := hG.app (.cons (c := Dl.Cell.lst _) (flats_iff.mpr fun x hx => by
        obtain ⟨_, _, rfl⟩ := List.mem_map.mp hx
        rfl) (.one (c := Dl.Cell.lst _) (flats_iff.mpr fun x hx => by
        obtain ⟨_, _, rfl⟩ := List.mem_map.mp hx
        rfl)))
      simp_arith [e0]
      rw [show ((M : Int) + 1).toNat = M + 1 by omega, rng0, ec1]
      rw [hf] at ec2
      simp only [List.set_cons_succ, Dl.set_end]
      generalize hX : ((List.range (M + 1)).map fun j => D.str (spare (cutS b none (some 8)) j)) = X at ec2 hfl ⊢
      simp_arith [ec2, set_end2, get_end2]
      refine ⟨ts ++ [spare (cutS b none (some 8)) j1], P3, G ++ [Cell.lst X, .lst ((j1 :: r1).map fun j => D.str (spare (cutS b none (some 8)) j))], _, _, _, _, _, _, _, hp3.mono (by omega), fun t ht => ?_, by rw [List.length_append, hl]; rfl, hfl, rfl, by rw [sts_app]; rfl⟩
      rcases List.mem_append.mp ht with z | z
      · exact hts t z
      · rw [List.mem_singleton.mp z]; exact hB1
theorem names_t (n : Nat) {N p : Nat} {many : Int} {T : Store} {P : List D} (h : T[p]? = some (.lst P)) (hp : Pool N P) (hN : N + 200 ≤ 1000000) (hT : SOK T) (hm : 1 ≤ many) (hm2 : many ≤ 6) :
    Dl.Sp (tab (n + 3) ._law_names [.ref p, .int many] T) fun r => ∃ ts P', Pool (N + 70) P' ∧ (∀ t ∈ ts, Base t) ∧ ts.length = many.toNat ∧ r = .ok (.ref T.length) (T.set p (.lst P') ++ [.lst (sts ts)]) := by
  refine Dl.sp_pool (g := b__law_names (tab (n + 2))) rfl h fun lp Q hQ => ?_
  rw [b_nm_eq]
  simp_arith []
  refine Dl.forQ (nmI p T many N) ⟨[], P, [], _, _, _, _, _, _, _, hp, (fun _ h => nomatch h), rfl, .nil, rfl, rfl⟩ ?_ ?_
  · rintro j d _ _ hj ⟨ts, P1, G, v4, v5, v6, v7, v8, v9, v10, hp1, hts, hl, hG, rfl, rfl⟩
    obtain ⟨hj, rfl⟩ := Dl.rng_get hj
    refine ⟨chk_nil, _, _, rfl, ?_⟩
    obtain ⟨d1, P2, hp2, a1, b1, e1⟩ := draw_t n (many := 26) (Dl.st_p (P := P1) (L := .lst (sts ts) :: G) lp) hp1 (by omega) (by decide)
    rw [Dl.st_set_p lp] at e1
    obtain ⟨c, hc, hcs⟩ := sm_26 a1 b1
    rw [← sm36'] at hc
    have tail := fun (b : Str) (M : Nat) P' (m : Int) v7 (hb : Nm b) (hbl : b.length ≤ 8) (hp' : Pool M P') (hM : M ≤ N + 11 * j + 4) (m0 : 0 ≤ m) (m7 : m ≤ 7) => nm_tail_t n lp (hp'.mono hM) (by omega) hm hm2 (show (j : Int) < many by omega) hts hl (hG.app (.one (c := Dl.Cell.lst [D.int 0, .int 1, .int 0, .int 7]) rfl)) hb hbl m0 m7 (v4 := some (.int (0 + j))) (v7 := v7) (v8 := v8) (v9 := v9) (v10 := v10) (Q := fun o => So T.length Q (o.seq (sR (eV 3))))
    have more : ∀ (b : Str) (M : Nat) P', Nm b → b.length ≤ 8 → Pool M P' → M ≤ N + 11 * j + 2 → Tn (nmI p T many N (j + 1)) (fun o => So T.length Q (o.seq (sR (eV 3)))) (nm_t1 (tab (n + 2)) [some (.ref p), some (.int many), some (.str "abcdefghijklmnopqrstuvwxyz0123456789"), some (.ref T.length), some (.int (0 + j)), some (.str b), v6, v7, v8, v9, v10] (Dl.st T p P' (.lst (sts ts) :: G))) := fun b M P' hb hbl hp' hM => by
      unfold nm_t1
      obtain ⟨d4, P4, hp4, a4, b4, e4⟩ := draw_t n (many := 4) (Dl.st_p (P := P') (L := .lst (sts ts) :: (G ++ [.lst [.int 0, .int 1, .int 0, .int 7]])) lp) hp' (by omega) (by decide)
      rw [Dl.st_set_p lp] at e4
      obtain ⟨x, x0, x7, hx⟩ := pick_int (xs := [0, 1, 0, 7]) (lo := 0) (hi := 7) a4 b4 (by decide)
      simp only [List.map_cons, List.map_nil] at hx
      by_cases h7 : x = 7
      · obtain ⟨d5, P5, hp5, a5, b5, e5⟩ := draw_t n (many := 8) (Dl.st_p (P := P4) (L := .lst (sts ts) :: (G ++ [.lst [.int 0, .int 1, .int 0, .int 7]])) lp) hp4 (by omega) (by decide)
        rw [Dl.st_set_p lp] at e5
        have t := tail b _ P5 d5 v7 hb hbl hp5 (by omega) a5 (by omega)
        rw [Int.zero_add] at t
        simp_arith [e4, hx, h7, e5, Int.zero_add]
        exact t
      · have t := tail b _ P4 x v7 hb hbl hp4 (by omega) x0 x7
        rw [Int.zero_add] at t
        simp_arith [e4, hx, h7, Int.zero_add]
        exact t
    by_cases hj0 : (0 : Int) < 0 + (j : Int)
    · obtain ⟨d2, P3, hp3, a2, b2, e2⟩ := draw_t n (many := 3) (Dl.st_p (P := P2) (L := .lst (sts ts) :: G) lp) hp2 (by omega) (by decide)
      rw [Dl.st_set_p lp] at e2
      by_cases h2 : d2 = 2
      · obtain ⟨t0, r0, ht0⟩ : ∃ t0 r0, ts = t0 :: r0 := by
          cases ts with
          | nil => simp at hl; omega
          | cons t0 r0 => exact ⟨t0, r0, rfl⟩
        have hb0 := hts t0 (by rw [ht0]; exact List.mem_cons_self ..)
        have hx0 : atI (sts ts) 0 = some (.str t0) := by rw [ht0]; exact atI_0
        have m := more t0 _ P3 hb0.nm hb0.len hp3 (by omega)
        simp_arith [e1, hc, hj0, e2, h2, hx0]
        exact m
      · have m := more ⟨#[c]⟩ _ P3 (nm_one hcs) (by rw [chr_len]; decide) hp3 (by omega)
        simp_arith [e1, hc, hj0, e2, h2]
        exact m
    · have m := more ⟨#[c]⟩ _ P2 (nm_one hcs) (by rw [chr_len]; decide) hp2 (by omega)
      simp_arith [e1, hc, hj0]
      exact m
  · rintro _ _ ⟨ts, P1, G, v4, v5, v6, v7, v8, v9, v10, hp1, hts, hl, hG, rfl, rfl⟩
    rw [rng_length] at hl hp1
    refine ⟨chk_nil, ?_⟩
    simp_arith []
    exact Dl.Qpl0 (hT.wf rfl) (wfs_flat hp1.flat) (wfs_flat (sts_flat _)) (hQ _ ⟨ts, P1, hp1.mono (by omega), hts, hl, rfl⟩)

end Lw

set_option Elab.async false
set_option linter.all false
set_option maxRecDepth 100000
namespace Lw
open PySem L2 Dl
variable [Fa]
local macro_rules | `(tactic| simp_arith [$ls,*]) => `(tactic| simp (disch := first | omega | assumption | (simp only [List.length_cons, List.length_nil, List.length_append, List.length_take, List.length_drop]; omega) | (simp only [List.length_cons, List.length_nil])) only [sQ_, sP_, sE_, sR_, sIf_, sN_, sA_, tgO_nx, nm_, tgIx_, eC_, eV0, eV1, e1_, e2_, eB_, eF_, aN_, aC_, eMt_, eSl_, oN_, oI_, tV_, tE_, tA_, tO_, tN_, eIf_, eAnd_, eOr_, eNot_, eCh_, seq_nx, seq_rt, seq_bk, seq_ct, seq_ex, toR_some, toR_none, toT_some, truD_bl, truD_int, truD_tup, truD_non, truD_str, truD_ref, truC_lst, tyD_str, tyD_tup, tyD_int, tyD_bl, tyD_non, tyD_ref, tyC_lst, tyC_rol, tyC_dic, kE_, kR_, kIf_t, kIf_f, kN_, kA_, kIx1_, kIx2_, kIx3_, kE1_, kE21_, kE2_, kB_, kF_, kC1_, kC_, kM1_, kM2_, kM_, kS1_, kS2_, kS3_, kO_, kV_, kT_, kAn_t, kAn_f, kOr_t, kOr_f, kNo_, kIfE_t, kIfE_f, kVa_, kVa2_t, kVa2_f, kVo_, kVo2_t, kVo2_f, kVn_, kVn2_, kH_, kH1_, kH2_t, kH2_f, kH3_, List.getElem?_cons_zero, List.getElem?_cons_succ, List.set_cons_zero, List.set_cons_succ, gAdd_int, gAdd_str, gAdd_t, gAdd_r, catC_s, gSub_int, gMul_l, gMul_r, gFdiv_int, gMod_int, gLt_int, gLe_int, gGt_int, gGe_int, gInt_int, gAbs_int, gLen_tup, gLen_str, gLen_r, lenC_s, gTpl_, gLsd_, gIx_r, ixC_s, ixO_s, gIx_t, gIx_s, ixS_s, atI_0, atI_1, atI_2, atI_3, atI_4, atI_5, gAppend_r, appC_s, gExtend_r, extC_s, gPop_r, popC_s, gSet_r, setC_0, setC_2, gTuple_r, tupC_s, gTuple_t, gList_r, gList_t, newC_s, gSl_r, slC_s, gSl_t, gSl_s, cut_take, cut_drop, cut_init, cut_mid, Int.toNat_natCast, lstC_lst, lstC_rol, lstAt_C, isi_str, isi_int, isi_bool, isi_tup, isi_lst, isO_s, isB_1, isB_2, isB_3, isB_4, isB_5, isB_6, isB_7, isB_8, isB_9, isB_10, isB_11, isB_12, isB_13, isB_14, isB_15, isB_16, isB_17, isB_18, isB_19, isB_20, isB_21, isB_22, isB_23, isB_24, isB_25, isB_26, gSum_r, sumC_s, sumO_s, gMin_, gMax_, qEq_int, qNe_int, qEq_str, qNe_str, gNeg_z, tgT_, tgU_, tgL0, tgL1, eTab_, kTab_, sX_, tgIxX_, kX1_, kX2_, kX3_, gSetX_r, setX_0, setX_2, setX_s, sPar_, kPar_, eFv_, eGetD_, kG1_, isDic_r, isDC_d, kG1b_, kG2_, kG3_, gGetD_r, getC_s, gMaxL_r, maxC_, gRep_r, repC_, eD0_, gDget_r, dgC_s, List.getElem?_concat_length, set_end, sF_, kFor_, iR1_, kR1_, iR2_, kR2_, kR3_, iA_, kAny_r, kAny_t, kAny_s, iaC_s, eLc_, kLc_, wipeD_c, wipeD_n, tYes_, put_one, sAug_, gAug_i, sBk_, sCt_, sW_, st_len, st_p, st_k, st_0, st_q, st_set_p, st_set_k, st_set_0, st_push, sx_len, sx_k, sx_0, sx_q, sx_set_k, sx_set_0, sx_push, So_rt, So_nx, So_ex, Tn_nx, Tn_ct, Tn_bk, Tn_rt, Tn_ex, Bool.false_eq_true, if_true, if_false, reduceIte, Option.map_some, Option.bind_some, Bool.not_true, Bool.not_false, decide_true, decide_false, eq_self, List.length_append, List.length_singleton, List.length_cons, List.length_nil, List.map_cons, List.map_nil, Nat.sub_self, List.replicate_zero, List.append_nil, List.cons_append, List.nil_append, List.append_assoc, List.replicate_succ, Nat.reduceSub, Nat.reduceAdd, Nat.add_zero, Nat.zero_add, Nat.add_assoc, Nat.reduceLeDiff, Int.natCast_add, Int.cast_ofNat_Int, Int.reduceEq, Int.reduceLT, Int.reduceLE, Int.reduceAdd, Int.reduceSub, Int.reduceNeg, Int.reduceToNat, List.take_succ_cons, List.take_zero, List.drop_succ_cons, List.drop_zero, List.dropLast_concat, Dl.atI_last, gFdivW_, gJoin_r, joinC_, gUpper_, gRepl_, gInK_, gNinK_, r_ax_or, r_ax_ur, r_ax_pr, r_ax_ol, r_ax_ul, r_ax_pl, r_ax_ct, r_or_ax, r_or_ur, r_or_pr, r_or_ol, r_or_ul, r_or_pl, r_or_ct, r_ur_ax, r_ur_or, r_ur_pr, r_ur_ol, r_ur_ul, r_ur_pl, r_ur_ct, r_pr_ax, r_pr_or, r_pr_ur, r_pr_ol, r_pr_ul, r_pr_pl, r_pr_ct, r_ol_ax, r_ol_or, r_ol_ur, r_ol_pr, r_ol_ul, r_ol_pl, r_ol_ct, r_ul_ax, r_ul_or, r_ul_ur, r_ul_pr, r_ul_ol, r_ul_pl, r_ul_ct, r_pl_ax, r_pl_or, r_pl_ur, r_pl_pr, r_pl_ol, r_pl_ul, r_pl_ct, r_ct_ax, r_ct_or, r_ct_ur, r_ct_pr, r_ct_ol, r_ct_ul, r_ct_pl, q1, q2, q3, q4, q5, q6, e1, e2, e3, gInt_bl, gIs_tn, gIs_nn, gIsN_tn, gIsN_nn, gReverse_r, revC_s, iV_, kVV_t, kVV_r, revI_s, $ls,*])
local macro_rules | `(tactic| walk_at "ev") => `(tactic| simp (disch := first | omega | assumption | (simp only [List.length_cons, List.length_nil, List.length_append, List.length_take, List.length_drop]; omega) | (simp only [List.length_cons, List.length_nil])) only [sQ_, sP_, sE_, sR_, sIf_, sN_, sA_, tgO_nx, nm_, tgIx_, eC_, eV0, eV1, e1_, e2_, eB_, eF_, aN_, aC_, eMt_, eSl_, oN_, oI_, tV_, tE_, tA_, tO_, tN_, eIf_, eAnd_, eOr_, eNot_, eCh_, seq_nx, seq_rt, seq_bk, seq_ct, seq_ex, toR_some, toR_none, toT_some, truD_bl, truD_int, truD_tup, truD_non, truD_str, truD_ref, truC_lst, tyD_str, tyD_tup, tyD_int, tyD_bl, tyD_non, tyD_ref, tyC_lst, tyC_rol, tyC_dic, kE_, kR_, kIf_t, kIf_f, kN_, kA_, kIx1_, kIx2_, kIx3_, kE1_, kE21_, kE2_, kB_, kF_, kC1_, kC_, kM1_, kM2_, kM_, kS1_, kS2_, kS3_, kO_, kV_, kT_, kAn_t, kAn_f, kOr_t, kOr_f, kNo_, kIfE_t, kIfE_f, kVa_, kVa2_t, kVa2_f, kVo_, kVo2_t, kVo2_f, kVn_, kVn2_, kH_, kH1_, kH2_t, kH2_f, kH3_, List.getElem?_cons_zero, List.getElem?_cons_succ, List.set_cons_zero, List.set_cons_succ, gAdd_int, gAdd_str, gAdd_t, gAdd_r, catC_s, gSub_int, gMul_l, gMul_r, gFdiv_int, gMod_int, gLt_int, gLe_int, gGt_int, gGe_int, gInt_int, gAbs_int, gLen_tup, gLen_str, gLen_r, lenC_s, gTpl_, gLsd_, gIx_r, ixC_s, ixO_s, gIx_t, gIx_s, ixS_s, atI_0, atI_1, atI_2, atI_3, atI_4, atI_5, gAppend_r, appC_s, gExtend_r, extC_s, gPop_r, popC_s, gSet_r, setC_0, setC_2, gTuple_r, tupC_s, gTuple_t, gList_r, gList_t, newC_s, gSl_r, slC_s, gSl_t, gSl_s, cut_take, cut_drop, cut_init, cut_mid, Int.toNat_natCast, lstC_lst, lstC_rol, lstAt_C, isi_str, isi_int, isi_bool, isi_tup, isi_lst, isO_s, isB_1, isB_2, isB_3, isB_4, isB_5, isB_6, isB_7, isB_8, isB_9, isB_10, isB_11, isB_12, isB_13, isB_14, isB_15, isB_16, isB_17, isB_18, isB_19, isB_20, isB_21, isB_22, isB_23, isB_24, isB_25, isB_26, gSum_r, sumC_s, sumO_s, gMin_, gMax_, qEq_int, qNe_int, qEq_str, qNe_str, gNeg_z, tgT_, tgU_, tgL0, tgL1, eTab_, kTab_, sX_, tgIxX_, kX1_, kX2_, kX3_, gSetX_r, setX_0, setX_2, setX_s, sPar_, kPar_, eFv_, eGetD_, kG1_, isDic_r, isDC_d, kG1b_, kG2_, kG3_, gGetD_r, getC_s, gMaxL_r, maxC_, gRep_r, repC_, eD0_, gDget_r, dgC_s, List.getElem?_concat_length, set_end, sF_, kFor_, iR1_, kR1_, iR2_, kR2_, kR3_, iA_, kAny_r, kAny_t, kAny_s, iaC_s, eLc_, kLc_, wipeD_c, wipeD_n, tYes_, put_one, sAug_, gAug_i, sBk_, sCt_, sW_, st_len, st_p, st_k, st_0, st_q, st_set_p, st_set_k, st_set_0, st_push, sx_len, sx_k, sx_0, sx_q, sx_set_k, sx_set_0, sx_push, So_rt, So_nx, So_ex, Tn_nx, Tn_ct, Tn_bk, Tn_rt, Tn_ex, Bool.false_eq_true, if_true, if_false, reduceIte, Option.map_some, Option.bind_some, Bool.not_true, Bool.not_false, decide_true, decide_false, eq_self, List.length_append, List.length_singleton, List.length_cons, List.length_nil, List.map_cons, List.map_nil, Nat.sub_self, List.replicate_zero, List.append_nil, List.cons_append, List.nil_append, List.append_assoc, List.replicate_succ, Nat.reduceSub, Nat.reduceAdd, Nat.add_zero, Nat.zero_add, Nat.add_assoc, Nat.reduceLeDiff, Int.natCast_add, Int.cast_ofNat_Int, Int.reduceEq, Int.reduceLT, Int.reduceLE, Int.reduceAdd, Int.reduceSub, Int.reduceNeg, Int.reduceToNat, List.take_succ_cons, List.take_zero, List.drop_succ_cons, List.drop_zero, List.dropLast_concat, Dl.atI_last, gFdivW_, gJoin_r, joinC_, gUpper_, gRepl_, gInK_, gNinK_, r_ax_or, r_ax_ur, r_ax_pr, r_ax_ol, r_ax_ul, r_ax_pl, r_ax_ct, r_or_ax, r_or_ur, r_or_pr, r_or_ol, r_or_ul, r_or_pl, r_or_ct, r_ur_ax, r_ur_or, r_ur_pr, r_ur_ol, r_ur_ul, r_ur_pl, r_ur_ct, r_pr_ax, r_pr_or, r_pr_ur, r_pr_ol, r_pr_ul, r_pr_pl, r_pr_ct, r_ol_ax, r_ol_or, r_ol_ur, r_ol_pr, r_ol_ul, r_ol_pl, r_ol_ct, r_ul_ax, r_ul_or, r_ul_ur, r_ul_pr, r_ul_ol, r_ul_pl, r_ul_ct, r_pl_ax, r_pl_or, r_pl_ur, r_pl_pr, r_pl_ol, r_pl_ul, r_pl_ct, r_ct_ax, r_ct_or, r_ct_ur, r_ct_pr, r_ct_ol, r_ct_ul, r_ct_pl, q1, q2, q3, q4, q5, q6, e1, e2, e3, gInt_bl, gIs_tn, gIs_nn, gIsN_tn, gIsN_nn, gReverse_r, revC_s, iV_, kVV_t, kVV_r, revI_s])
-- fa
theorem twins_t (n : Nat) {N p q : Nat} {T : Store} {P : List D} {ts : List Str} (h : T[p]? = some (.lst P)) (hq : T[q]? = some (.lst (sts ts))) (hqp : q ≠ p) (hp : Pool N P) (hN : N + 40 ≤ 1000000) (hT : SOK T) (hts : ∀ t ∈ ts, Base t) (hl : 1 ≤ ts.length) (hl2 : ts.length ≤ 6) :
    Dl.Sp (tab (n + 3) ._law_twins [.ref p, .ref q] T) fun r => ∃ us P', Pool (N + 10) P' ∧ (∀ t ∈ us, AtS t) ∧ 1 ≤ us.length ∧ us.length ≤ 8 ∧ r = .ok (.ref T.length) (T.set p (.lst P') ++ [.lst (sts us)]) := by
  refine Dl.sp_pool (g := b__law_twins (tab (n + 2))) rfl h fun lp Q hQ => ?_
  have lq := get_lt hq
  have q2 : ∀ P' M, (Dl.st T p P' M)[q]? = some (.lst (sts ts)) := fun P' M => by rw [Dl.st_q lq hqp]; exact hq
  unfold b__law_twins
  have zt := sts_len ts
  obtain ⟨d1, P1, hp1, a1, b1, e1⟩ := draw_t n (many := 2) (Dl.st_p (P := P) (L := [.lst (sts ts)]) lp) hp (by omega) (by decide)
  rw [Dl.st_set_p lp] at e1
  simp_arith [q2, e1]
  refine Dl.forQ (fun j ρ S => ∃ (us : List Str) (P' : List D) (G : List Cell) (v3 v4 v5 : Option D), Pool (N + 1 + 3 * j) P' ∧ (∀ t ∈ us, AtS t) ∧ 1 ≤ us.length ∧ us.length ≤ 6 + j ∧ Dl.FL G ∧ ρ = [some (.ref p), some (.ref q), some (.ref T.length), v3, v4, v5] ∧ S = Dl.st T p P' (.lst (sts us) :: G))
    ⟨ts, P1, [], _, _, _, hp1, fun t ht => base_at (hts t ht), hl, by omega, .nil, rfl, rfl⟩ ?_ ?_
  · rintro j d _ _ hj ⟨us, P2, G, v3, v4, v5, hp2, hus, u1, u2, hG, rfl, rfl⟩
    obtain ⟨hj, rfl⟩ := Dl.rng_get hj
    refine ⟨chk_nil, _, _, rfl, ?_⟩
    have hG2 : Dl.FL (G ++ [Cell.lst [D.int 9, .int 999999]]) := hG.app (.one (c := Dl.Cell.lst _) rfl)
    obtain ⟨d3, P3, hp3, a3, b3, e3⟩ := draw_t n (many := 2) (Dl.st_p (P := P2) (L := .lst (sts us) :: (G ++ [.lst [.int 9, .int 999999]])) lp) hp2 (by omega) (by decide)
    rw [Dl.st_set_p lp] at e3
    obtain ⟨x, x0, x7, hx⟩ := pick_int (xs := [9, 999999]) (lo := 9) (hi := 999999) a3 b3 (by decide)
    simp only [List.map_cons, List.map_nil] at hx
    obtain ⟨d4, P4, hp4, a4, b4, e4⟩ := draw_t n (many := ts.length) (Dl.st_p (P := P3) (L := .lst (sts us) :: (G ++ [.lst [.int 9, .int 999999]])) lp) hp3 (by omega) (by omega) (log_lt (by omega) (by omega))
    rw [Dl.st_set_p lp] at e4
    obtain ⟨y, hy, hym⟩ := atI_in (xs := sts ts) a4 (by rw [zt]; exact b4)
    obtain ⟨b, hbm, rfl⟩ := List.mem_map.mp hym
    have B := hts b hbm
    obtain ⟨m, P5, hp5, a5, b5, e5⟩ := draw_t n (many := x) (Dl.st_p (P := P4) (L := .lst (sts us) :: (G ++ [.lst [.int 9, .int 999999]])) lp) hp4 (by omega) (by omega) (log_lt (by omega) (by omega))
    rw [Dl.st_set_p lp] at e5
    have t1 := fun S => (dotted (S := S) B (m := 1 + m) (by omega) (by omega)).1
    have t2 := fun S => (dotted (S := S) B (m := 1 + m) (by omega) (by omega)).2.1
    have t3 := fun S => (dotted (S := S) B (m := 1 + m) (by omega) (by omega)).2.2
    have en := gNin_strs (t := atT b (1 + m)) (S := Dl.st T p P5 (.lst (sts us) :: (G ++ [.lst [.int 9, .int 999999]]))) (l := T.length) (by rw [Dl.st_0]; rfl) (strsD_sts us)
    have zu := sts_len us
    cases hc : us.any (· == atT b (1 + m)) with
    | true =>
      rw [hc] at en
      simp_arith [e3, hx, q2, zt, e4, hy, e5, t1, t2, t3, en]
      exact ⟨us, P5, _, _, _, _, hp5.mono (by omega), hus, u1, by omega, hG2, rfl, rfl⟩
    | false =>
      rw [hc] at en
      simp_arith [e3, hx, q2, zt, e4, hy, e5, t1, t2, t3, en]
      refine ⟨us ++ [atT b (1 + m)], P5, _, _, _, _, hp5.mono (by omega), fun t ht => ?_, by rw [List.length_append]; omega, by rw [List.length_append, List.length_singleton]; omega, hG2, rfl, by rw [sts_app]; rfl⟩
      rcases List.mem_append.mp ht with z | z
      · exact hus t z
      · rw [List.mem_singleton.mp z]; exact ⟨b, 1 + m, rfl, B, by omega, by omega⟩
  · rintro _ _ ⟨us, P2, G, v3, v4, v5, hp2, hus, u1, u2, hG, rfl, rfl⟩
    rw [rng_length] at u2 hp2
    refine ⟨chk_nil, ?_⟩
    simp_arith []
    exact Dl.Qpl0 (hT.wf rfl) (wfs_flat hp2.flat) (wfs_flat (sts_flat _)) (hQ _ ⟨us, P2, hp2.mono (by omega), hus, u1, by omega, rfl⟩)
/-! ## kinds -/
theorem sg3 {d : Int} (h0 : 0 ≤ d) (h1 : d < 3) : ∃ (s : Str) (c : Nat), Sg s ∧ atI ("/>*" : Str).cps.toList d = some c ∧ (⟨#[c]⟩ : Str) = s := by
  have h : d = 0 ∨ d = 1 ∨ d = 2 := by omega
  rcases h with rfl | rfl | rfl
  · exact ⟨"/", 47, .inl rfl, by decide +kernel, by decide +kernel⟩
  · exact ⟨">", 62, .inr (.inl rfl), by decide +kernel, by decide +kernel⟩
  · exact ⟨"*", 42, .inr (.inr rfl), by decide +kernel, by decide +kernel⟩
/-- a name drawn -/
theorem pick_name (n : Nat) {N p q : Nat} {T : Store} {P : List D} {L : List Cell} {ts : List Str} (lp : p < T.length) (hp : Pool N P) (hN : N ≤ 1000000) (hl : 1 ≤ ts.length) (hl2 : ts.length ≤ 100) :
    ∃ d P' t, Pool (N + 1) P' ∧ t ∈ ts ∧ tab (n + 2) ._law_draw [.ref p, .int ts.length] (Dl.st T p P L) = .ok (.int d) (Dl.st T p P' L) ∧ atI (sts ts) d = some (.str t) := by
  obtain ⟨d4, P4, hp4, a4, b4, e4⟩ := draw_t n (many := ts.length) (Dl.st_p (P := P) (L := L) lp) hp hN (by omega) (log_lt (by omega) (by omega))
  rw [Dl.st_set_p lp] at e4
  obtain ⟨y, hy, hym⟩ := atI_in (xs := sts ts) a4 (by rw [sts_len]; exact b4)
  obtain ⟨b, hbm, rfl⟩ := List.mem_map.mp hym
  exact ⟨d4, P4, b, hp4, hbm, e4, hy⟩
theorem kind_t {ts : List Str} {A : Str → Prop} {p q : Nat} (hqp : q ≠ p) (hts : ∀ t ∈ ts, A t) (hl : 1 ≤ ts.length) (hl2 : ts.length ≤ 100) (n : Nat) : ∀ (L : Nat) (sz : Int) {N : Nat} {T : Store} {P : List D}, sz ≤ L → 1 ≤ sz → T[p]? = some (.lst P) → T[q]? = some (.lst (sts ts)) → Pool N P → N + 5 * sz.toNat ≤ 900000 → L ≤ 100 → SOK T →
    Dl.Sp (tab (n + L + 2) ._law_kind [.ref p, .ref q, .int sz] T) fun r => ∃ (K : KT) (P' : List D), Pool (N + 5 * sz.toNat - 2) P' ∧ K.ok A ∧ K.at_.length = sz.toNat ∧ r = .ok K.d (T.set p (.lst P'))
  | 0, sz, N, T, P, h1, h2, _, _, _, _, _, _ => by omega
  | L + 1, sz, N, T, P, h1, h2, h, hq, hp, hN, hL, hT => by
    refine Dl.sp_pool (g := b__law_kind (tab (n + L + 2))) rfl h fun lp Q hQ => ?_
    have lq := get_lt hq
    have q2 : ∀ P' M, (Dl.st T p P' M)[q]? = some (.lst (sts ts)) := fun P' M => by rw [Dl.st_q lq hqp]; exact hq
    have zt := sts_len ts
    have fin : ∀ (K : KT) Q' M, Pool M Q' → M ≤ N + 5 * sz.toNat - 2 → K.ok A → K.at_.length = sz.toNat → Q (cmp T.length K.d (Dl.st T p Q' [])) := fun K Q' M hq hM h1 h2 => Dl.Qp (hT.wf rfl) (wfs_flat hq.flat) (wf_flat (KT.flat K)) (hQ _ ⟨K, Q', hq.mono hM, h1, h2, rfl⟩)
    unfold b__law_kind
    by_cases hs : sz ≤ 1
    · obtain rfl : sz = 1 := by omega
      obtain ⟨d, P1, t, hp1, ht, e1, hx⟩ := pick_name (n + L) (L := []) lp hp (by omega) hl hl2 (q := q) (ts := ts)
      rw [Nat.add_assoc] at e1
      simp_arith [q2, zt, e1, hx]
      exact fin (.leaf t) _ _ hp1 (by show _ ≤ N + 5 * 1 - 2; omega) (hts t ht) rfl
    · obtain ⟨d1, P1, hp1, a1, b1, e1⟩ := draw_t (n + L) (many := sz - 1) (Dl.st_p (L := []) lp) hp (by omega) (by omega) (log_lt (by omega) (by omega))
      obtain ⟨d2, P2, hp2, a2, b2, e2⟩ := draw_t (n + L) (many := 3) (Dl.st_p (L := []) lp) hp1 (by omega) (by decide)
      obtain ⟨s, c, hsg, hc, hcs⟩ := sg3 a2 b2
      obtain ⟨K1, P3, hp3, ok1, l1, e3⟩ := kind_t hqp hts hl hl2 n L (1 + d1) (by omega) (by omega) (Dl.st_p (L := []) lp) (q2 _ _) hp2 (by omega) (by omega) (SOK.st hT hp2.flat .nil)
      obtain ⟨K2, P4, hp4, ok2, l2, e4⟩ := kind_t hqp hts hl hl2 n L (sz - (1 + d1)) (by omega) (by omega) (Dl.st_p (L := []) lp) (q2 _ _) hp3 (by omega) (by omega) (SOK.st hT hp3.flat .nil)
      rw [Nat.add_assoc] at e1 e2 e3 e4
      simp_arith [hs, e1, e2, hc, hcs, e3, e4]
      exact fin (.node s K1 K2) _ _ hp4 (by omega) ⟨hsg, ok1, ok2⟩ (by rw [KT.len_node, l1, l2]; omega)
theorem law_size_t (n : Nat) {A : Str → Prop} : ∀ (L : Nat) (k : KT) (S : Store), k.ok A → k.at_.length ≤ L → SOK S → Dl.Sp (tab (n + L) ._law_size [k.d] S) fun o => o = .ok (.int (sz k)) S
  | 0, k, _, _, h, _ => by have := KT.pos k; omega
  | L + 1, k, S, hk, h, hS => by
    refine Dl.sp_plain (g := b__law_size (tab (n + L))) rfl fun Q hQ => ?_
    unfold b__law_size
    cases k with
    | leaf t =>
      simp_arith [KTd_leaf]
      exact Dl.Qx (hS.wf rfl) rfl (hQ _ rfl)
    | node s a b =>
      have pa := KT.pos a
      have pb := KT.pos b
      rw [KT.len_node] at h
      have ea := law_size_t n L a (Dl.sx S []) hk.2.1 (by omega) (SOK.sx hS .nil)
      have eb := law_size_t n L b (Dl.sx S []) hk.2.2 (by omega) (SOK.sx hS .nil)
      simp_arith [KTd_node, ea, eb]
      refine Dl.Qx (hS.wf rfl) rfl (hQ _ ?_)
      rw [sz_node]
theorem axiom_d (t : Str) : (DT.st "axiom" [.leaf t] (.leaf t) 0 0 []).d = .tup [.str "axiom", .tup [.str t], .str t, .int 0, .int 0, .tup []] := rfl
theorem law_axiom_t (n : Nat) (t : Str) (S : Store) (hS : SOK S) : Dl.Sp (tab (n + 1) ._law_axiom [.str t] S) fun o => o = .ok (DT.st "axiom" [.leaf t] (.leaf t) 0 0 []).d S := by
  refine Dl.sp_plain (g := b__law_axiom (tab n)) rfl fun Q hQ => ?_
  unfold b__law_axiom
  simp_arith []
  exact Dl.Qx (hS.wf rfl) rfl (hQ _ rfl)

end Lw

set_option Elab.async false
set_option linter.all false
set_option maxRecDepth 100000
namespace Lw
open PySem L2 Dl
variable [Fa]
local macro_rules | `(tactic| simp_arith [$ls,*]) => `(tactic| simp (disch := first | omega | assumption | (simp only [List.length_cons, List.length_nil, List.length_append, List.length_take, List.length_drop]; omega) | (simp only [List.length_cons, List.length_nil])) only [sQ_, sP_, sE_, sR_, sIf_, sN_, sA_, tgO_nx, nm_, tgIx_, eC_, eV0, eV1, e1_, e2_, eB_, eF_, aN_, aC_, eMt_, eSl_, oN_, oI_, tV_, tE_, tA_, tO_, tN_, eIf_, eAnd_, eOr_, eNot_, eCh_, seq_nx, seq_rt, seq_bk, seq_ct, seq_ex, toR_some, toR_none, toT_some, truD_bl, truD_int, truD_tup, truD_non, truD_str, truD_ref, truC_lst, tyD_str, tyD_tup, tyD_int, tyD_bl, tyD_non, tyD_ref, tyC_lst, tyC_rol, tyC_dic, kE_, kR_, kIf_t, kIf_f, kN_, kA_, kIx1_, kIx2_, kIx3_, kE1_, kE21_, kE2_, kB_, kF_, kC1_, kC_, kM1_, kM2_, kM_, kS1_, kS2_, kS3_, kO_, kV_, kT_, kAn_t, kAn_f, kOr_t, kOr_f, kNo_, kIfE_t, kIfE_f, kVa_, kVa2_t, kVa2_f, kVo_, kVo2_t, kVo2_f, kVn_, kVn2_, kH_, kH1_, kH2_t, kH2_f, kH3_, List.getElem?_cons_zero, List.getElem?_cons_succ, List.set_cons_zero, List.set_cons_succ, gAdd_int, gAdd_str, gAdd_t, gAdd_r, catC_s, gSub_int, gMul_l, gMul_r, gFdiv_int, gMod_int, gLt_int, gLe_int, gGt_int, gGe_int, gInt_int, gAbs_int, gLen_tup, gLen_str, gLen_r, lenC_s, gTpl_, gLsd_, gIx_r, ixC_s, ixO_s, gIx_t, gIx_s, ixS_s, atI_0, atI_1, atI_2, atI_3, atI_4, atI_5, gAppend_r, appC_s, gExtend_r, extC_s, gPop_r, popC_s, gSet_r, setC_0, setC_2, gTuple_r, tupC_s, gTuple_t, gList_r, gList_t, newC_s, gSl_r, slC_s, gSl_t, gSl_s, cut_take, cut_drop, cut_init, cut_mid, Int.toNat_natCast, lstC_lst, lstC_rol, lstAt_C, isi_str, isi_int, isi_bool, isi_tup, isi_lst, isO_s, isB_1, isB_2, isB_3, isB_4, isB_5, isB_6, isB_7, isB_8, isB_9, isB_10, isB_11, isB_12, isB_13, isB_14, isB_15, isB_16, isB_17, isB_18, isB_19, isB_20, isB_21, isB_22, isB_23, isB_24, isB_25, isB_26, gSum_r, sumC_s, sumO_s, gMin_, gMax_, qEq_int, qNe_int, qEq_str, qNe_str, gNeg_z, tgT_, tgU_, tgL0, tgL1, eTab_, kTab_, sX_, tgIxX_, kX1_, kX2_, kX3_, gSetX_r, setX_0, setX_2, setX_s, sPar_, kPar_, eFv_, eGetD_, kG1_, isDic_r, isDC_d, kG1b_, kG2_, kG3_, gGetD_r, getC_s, gMaxL_r, maxC_, gRep_r, repC_, eD0_, gDget_r, dgC_s, List.getElem?_concat_length, set_end, sF_, kFor_, iR1_, kR1_, iR2_, kR2_, kR3_, iA_, kAny_r, kAny_t, kAny_s, iaC_s, eLc_, kLc_, wipeD_c, wipeD_n, tYes_, put_one, sAug_, gAug_i, sBk_, sCt_, sW_, st_len, st_p, st_k, st_0, st_q, st_set_p, st_set_k, st_set_0, st_push, sx_len, sx_k, sx_0, sx_q, sx_set_k, sx_set_0, sx_push, So_rt, So_nx, So_ex, Tn_nx, Tn_ct, Tn_bk, Tn_rt, Tn_ex, Bool.false_eq_true, if_true, if_false, reduceIte, Option.map_some, Option.bind_some, Bool.not_true, Bool.not_false, decide_true, decide_false, eq_self, List.length_append, List.length_singleton, List.length_cons, List.length_nil, List.map_cons, List.map_nil, Nat.sub_self, List.replicate_zero, List.append_nil, List.cons_append, List.nil_append, List.append_assoc, List.replicate_succ, Nat.reduceSub, Nat.reduceAdd, Nat.add_zero, Nat.zero_add, Nat.add_assoc, Nat.reduceLeDiff, Int.natCast_add, Int.cast_ofNat_Int, Int.reduceEq, Int.reduceLT, Int.reduceLE, Int.reduceAdd, Int.reduceSub, Int.reduceNeg, Int.reduceToNat, List.take_succ_cons, List.take_zero, List.drop_succ_cons, List.drop_zero, List.dropLast_concat, Dl.atI_last, gFdivW_, gJoin_r, joinC_, gUpper_, gRepl_, gInK_, gNinK_, r_ax_or, r_ax_ur, r_ax_pr, r_ax_ol, r_ax_ul, r_ax_pl, r_ax_ct, r_or_ax, r_or_ur, r_or_pr, r_or_ol, r_or_ul, r_or_pl, r_or_ct, r_ur_ax, r_ur_or, r_ur_pr, r_ur_ol, r_ur_ul, r_ur_pl, r_ur_ct, r_pr_ax, r_pr_or, r_pr_ur, r_pr_ol, r_pr_ul, r_pr_pl, r_pr_ct, r_ol_ax, r_ol_or, r_ol_ur, r_ol_pr, r_ol_ul, r_ol_pl, r_ol_ct, r_ul_ax, r_ul_or, r_ul_ur, r_ul_pr, r_ul_ol, r_ul_pl, r_ul_ct, r_pl_ax, r_pl_or, r_pl_ur, r_pl_pr, r_pl_ol, r_pl_ul, r_pl_ct, r_ct_ax, r_ct_or, r_ct_ur, r_ct_pr, r_ct_ol, r_ct_ul, r_ct_pl, q1, q2, q3, q4, q5, q6, e1, e2, e3, gInt_bl, gIs_tn, gIs_nn, gIsN_tn, gIsN_nn, gReverse_r, revC_s, iV_, kVV_t, kVV_r, revI_s, $ls,*])
local macro_rules | `(tactic| walk_at "ev") => `(tactic| simp (disch := first | omega | assumption | (simp only [List.length_cons, List.length_nil, List.length_append, List.length_take, List.length_drop]; omega) | (simp only [List.length_cons, List.length_nil])) only [sQ_, sP_, sE_, sR_, sIf_, sN_, sA_, tgO_nx, nm_, tgIx_, eC_, eV0, eV1, e1_, e2_, eB_, eF_, aN_, aC_, eMt_, eSl_, oN_, oI_, tV_, tE_, tA_, tO_, tN_, eIf_, eAnd_, eOr_, eNot_, eCh_, seq_nx, seq_rt, seq_bk, seq_ct, seq_ex, toR_some, toR_none, toT_some, truD_bl, truD_int, truD_tup, truD_non, truD_str, truD_ref, truC_lst, tyD_str, tyD_tup, tyD_int, tyD_bl, tyD_non, tyD_ref, tyC_lst, tyC_rol, tyC_dic, kE_, kR_, kIf_t, kIf_f, kN_, kA_, kIx1_, kIx2_, kIx3_, kE1_, kE21_, kE2_, kB_, kF_, kC1_, kC_, kM1_, kM2_, kM_, kS1_, kS2_, kS3_, kO_, kV_, kT_, kAn_t, kAn_f, kOr_t, kOr_f, kNo_, kIfE_t, kIfE_f, kVa_, kVa2_t, kVa2_f, kVo_, kVo2_t, kVo2_f, kVn_, kVn2_, kH_, kH1_, kH2_t, kH2_f, kH3_, List.getElem?_cons_zero, List.getElem?_cons_succ, List.set_cons_zero, List.set_cons_succ, gAdd_int, gAdd_str, gAdd_t, gAdd_r, catC_s, gSub_int, gMul_l, gMul_r, gFdiv_int, gMod_int, gLt_int, gLe_int, gGt_int, gGe_int, gInt_int, gAbs_int, gLen_tup, gLen_str, gLen_r, lenC_s, gTpl_, gLsd_, gIx_r, ixC_s, ixO_s, gIx_t, gIx_s, ixS_s, atI_0, atI_1, atI_2, atI_3, atI_4, atI_5, gAppend_r, appC_s, gExtend_r, extC_s, gPop_r, popC_s, gSet_r, setC_0, setC_2, gTuple_r, tupC_s, gTuple_t, gList_r, gList_t, newC_s, gSl_r, slC_s, gSl_t, gSl_s, cut_take, cut_drop, cut_init, cut_mid, Int.toNat_natCast, lstC_lst, lstC_rol, lstAt_C, isi_str, isi_int, isi_bool, isi_tup, isi_lst, isO_s, isB_1, isB_2, isB_3, isB_4, isB_5, isB_6, isB_7, isB_8, isB_9, isB_10, isB_11, isB_12, isB_13, isB_14, isB_15, isB_16, isB_17, isB_18, isB_19, isB_20, isB_21, isB_22, isB_23, isB_24, isB_25, isB_26, gSum_r, sumC_s, sumO_s, gMin_, gMax_, qEq_int, qNe_int, qEq_str, qNe_str, gNeg_z, tgT_, tgU_, tgL0, tgL1, eTab_, kTab_, sX_, tgIxX_, kX1_, kX2_, kX3_, gSetX_r, setX_0, setX_2, setX_s, sPar_, kPar_, eFv_, eGetD_, kG1_, isDic_r, isDC_d, kG1b_, kG2_, kG3_, gGetD_r, getC_s, gMaxL_r, maxC_, gRep_r, repC_, eD0_, gDget_r, dgC_s, List.getElem?_concat_length, set_end, sF_, kFor_, iR1_, kR1_, iR2_, kR2_, kR3_, iA_, kAny_r, kAny_t, kAny_s, iaC_s, eLc_, kLc_, wipeD_c, wipeD_n, tYes_, put_one, sAug_, gAug_i, sBk_, sCt_, sW_, st_len, st_p, st_k, st_0, st_q, st_set_p, st_set_k, st_set_0, st_push, sx_len, sx_k, sx_0, sx_q, sx_set_k, sx_set_0, sx_push, So_rt, So_nx, So_ex, Tn_nx, Tn_ct, Tn_bk, Tn_rt, Tn_ex, Bool.false_eq_true, if_true, if_false, reduceIte, Option.map_some, Option.bind_some, Bool.not_true, Bool.not_false, decide_true, decide_false, eq_self, List.length_append, List.length_singleton, List.length_cons, List.length_nil, List.map_cons, List.map_nil, Nat.sub_self, List.replicate_zero, List.append_nil, List.cons_append, List.nil_append, List.append_assoc, List.replicate_succ, Nat.reduceSub, Nat.reduceAdd, Nat.add_zero, Nat.zero_add, Nat.add_assoc, Nat.reduceLeDiff, Int.natCast_add, Int.cast_ofNat_Int, Int.reduceEq, Int.reduceLT, Int.reduceLE, Int.reduceAdd, Int.reduceSub, Int.reduceNeg, Int.reduceToNat, List.take_succ_cons, List.take_zero, List.drop_succ_cons, List.drop_zero, List.dropLast_concat, Dl.atI_last, gFdivW_, gJoin_r, joinC_, gUpper_, gRepl_, gInK_, gNinK_, r_ax_or, r_ax_ur, r_ax_pr, r_ax_ol, r_ax_ul, r_ax_pl, r_ax_ct, r_or_ax, r_or_ur, r_or_pr, r_or_ol, r_or_ul, r_or_pl, r_or_ct, r_ur_ax, r_ur_or, r_ur_pr, r_ur_ol, r_ur_ul, r_ur_pl, r_ur_ct, r_pr_ax, r_pr_or, r_pr_ur, r_pr_ol, r_pr_ul, r_pr_pl, r_pr_ct, r_ol_ax, r_ol_or, r_ol_ur, r_ol_pr, r_ol_ul, r_ol_pl, r_ol_ct, r_ul_ax, r_ul_or, r_ul_ur, r_ul_pr, r_ul_ol, r_ul_pl, r_ul_ct, r_pl_ax, r_pl_or, r_pl_ur, r_pl_pr, r_pl_ol, r_pl_ul, r_pl_ct, r_ct_ax, r_ct_or, r_ct_ur, r_ct_pr, r_ct_ol, r_ct_ul, r_ct_pl, q1, q2, q3, q4, q5, q6, e1, e2, e3, gInt_bl, gIs_tn, gIs_nn, gIsN_tn, gIsN_nn, gReverse_r, revC_s, iV_, kVV_t, kVV_r, revI_s])
-- fa
/-! ## steps made by the law -/
def lnD (p : DT) : D := .tup [.tup (kds p.row), p.g.d]
theorem dt0 (p : DT) (S : Store) : gIx p.d (.int 0) S = some (.str p.rule, S) := by cases p; rfl
theorem dt1 (p : DT) (S : Store) : gIx p.d (.int 1) S = some (.tup (kds p.row), S) := by cases p; rfl
theorem dt2 (p : DT) (S : Store) : gIx p.d (.int 2) S = some (p.g.d, S) := by cases p; rfl
theorem dt3 (p : DT) (S : Store) : gIx p.d (.int 3) S = some (.int p.a, S) := by cases p; rfl
theorem dt4 (p : DT) (S : Store) : gIx p.d (.int 4) S = some (.int p.w, S) := by cases p; rfl
theorem dt5 (p : DT) (S : Store) : gIx p.d (.int 5) S = some (.tup (dtds p.ps), S) := by cases p; rfl
theorem in_four (S : Store) (L : List Cell) (t : Str) : gIn (.str t) (.ref S.length) (Dl.sx S (.lst [.str "pair right", .str "over left", .str "under left", .str "cut"] :: L)) = some (.bl ((["pair right", "over left", "under left", "cut"] : List Str).any (· == t)), Dl.sx S (.lst [.str "pair right", .str "over left", .str "under left", .str "cut"] :: L)) :=
  gIn_strs (by rw [Dl.sx_0]; rfl) rfl
theorem four_or : (["pair right", "over left", "under left", "cut"] : List Str).any (· == ("over right" : Str)) = false := by decide
theorem four_ur : (["pair right", "over left", "under left", "cut"] : List Str).any (· == ("under right" : Str)) = false := by decide
theorem four_pl : (["pair right", "over left", "under left", "cut"] : List Str).any (· == ("pair left" : Str)) = false := by decide
theorem four_pr : (["pair right", "over left", "under left", "cut"] : List Str).any (· == ("pair right" : Str)) = true := by decide
theorem four_ol : (["pair right", "over left", "under left", "cut"] : List Str).any (· == ("over left" : Str)) = true := by decide
theorem four_ul : (["pair right", "over left", "under left", "cut"] : List Str).any (· == ("under left" : Str)) = true := by decide
theorem four_ct : (["pair right", "over left", "under left", "cut"] : List Str).any (· == ("cut" : Str)) = true := by decide
section
variable (n : Nat) {l : Nat} {S : Store} (hS : SOK S) {row A B M : List D} {g a b x : D} (zA : A.length ≤ 1000) (zB : B.length ≤ 1000) (zM : M.length ≤ 1000) (fA : flats A = true) (fB : flats B = true) (fM : flats M = true) (fa : a.flat = true) (fb : b.flat = true) (fg : g.flat = true) (fx : x.flat = true)
include hS
omit hS in
theorem int_bl (b : Bool) (S : Store) : gInt [.bl b] S = some (.int (if b then 1 else 0), S) := gInt_bl
include zA fA fb fg in
theorem line_or (h : S[l]? = some (.lst [.tup [.tup (A ++ [b]), g]])) (hA : A ≠ []) : Dl.Sp (tab (n + 1) ._law_line [.str "over right", .int 0, .ref l] S) fun o => o = .ok (.tup [.tup A, .tup [.str "/", g, b], .int 0]) S := by
  refine Dl.sp_plain (g := b__law_line (tab n)) rfl fun Q hQ => ?_
  unfold b__law_line
  have hl : ∀ M, (Dl.sx S M)[l]? = some (.lst [.tup [.tup (A ++ [b]), g]]) := fun M => by rw [Dl.sx_q (get_lt h)]; exact h
  have e := in_four S [] "over right"
  rw [four_or] at e
  have z : (1 : Int) < (A.length : Int) + 1 := by have := List.length_pos_iff.mpr hA; omega
  simp_arith [e, hl, gInt_bl, z]
  exact Dl.Qx (hS.wf rfl) (wf_flat (show (flats A && ((D.tup [.str "/", g, b]).flat && (true && true))) = true by rw [fA, fl3 rfl fg fb]; rfl)) (hQ _ rfl)
theorem line_one {rule : Str} (hr : rule = "over right" ∨ rule = "under right") (h : S[l]? = some (.lst [.tup [.tup row, g]])) (hz : ¬ (1 : Int) < (row.length : Int)) : Dl.Sp (tab (n + 1) ._law_line [.str rule, .int 0, .ref l] S) fun o => o = .ok .non S := by
  refine Dl.sp_plain (g := b__law_line (tab n)) rfl fun Q hQ => ?_
  unfold b__law_line
  have hl : ∀ M, (Dl.sx S M)[l]? = some (.lst [.tup [.tup row, g]]) := fun M => by rw [Dl.sx_q (get_lt h)]; exact h
  have e := in_four S [] rule
  rcases hr with rfl | rfl
  · rw [four_or] at e
    simp_arith [e, hl, gInt_bl, hz]
    exact Dl.Qx (hS.wf rfl) rfl (hQ _ rfl)
  · rw [four_ur] at e
    simp_arith [e, hl, gInt_bl, hz]
    exact Dl.Qx (hS.wf rfl) rfl (hQ _ rfl)
include zA fA fb fg in
theorem line_ur (h : S[l]? = some (.lst [.tup [.tup (b :: A), g]])) (hA : A ≠ []) : Dl.Sp (tab (n + 1) ._law_line [.str "under right", .int 0, .ref l] S) fun o => o = .ok (.tup [.tup A, .tup [.str ">", b, g], .int 0]) S := by
  refine Dl.sp_plain (g := b__law_line (tab n)) rfl fun Q hQ => ?_
  unfold b__law_line
  have hl : ∀ M, (Dl.sx S M)[l]? = some (.lst [.tup [.tup (b :: A), g]]) := fun M => by rw [Dl.sx_q (get_lt h)]; exact h
  have e := in_four S [] "under right"
  rw [four_ur] at e
  have z : (1 : Int) < (A.length : Int) + 1 := by have := List.length_pos_iff.mpr hA; omega
  simp_arith [e, hl, gInt_bl, z]
  exact Dl.Qx (hS.wf rfl) (wf_flat (show (flats A && ((D.tup [.str ">", b, g]).flat && (true && true))) = true by rw [fA, fl3 rfl fb fg]; rfl)) (hQ _ rfl)
include zA zB fA fB fa fb fg in
theorem line_pl {k : Int} (hk : k = A.length) (h : S[l]? = some (.lst [.tup [.tup (A ++ a :: b :: B), g]])) : Dl.Sp (tab (n + 1) ._law_line [.str "pair left", .int k, .ref l] S) fun o => o = .ok (.tup [.tup (A ++ .tup [.str "*", a, b] :: B), g, .int 0]) S := by
  refine Dl.sp_plain (g := b__law_line (tab n)) rfl fun Q hQ => ?_
  unfold b__law_line
  have e := in_four S [] "pair left"
  rw [four_pl] at e
  have z0 : (0 : Int) ≤ k := by omega
  have hR : ((A ++ a :: b :: B).length : Int) = A.length + 2 + B.length := by simp only [List.length_append, List.length_cons]; omega
  have z1 : k < ((A ++ a :: b :: B).length : Int) - 1 := by omega
  have x0 : atI (A ++ a :: b :: B) k = some a := by rw [hk]; exact atI_mid rfl
  have x1 : atI (A ++ a :: b :: B) (k + 1) = some b := by rw [hk]; exact atI_mid1 rfl
  have c1 : cutD (A ++ a :: b :: B) none (some k) = A := cutA hk
  have c2 : cutD (A ++ a :: b :: B) (some (k + 2)) none = B := by
    rw [show A ++ a :: b :: B = (A ++ [a, b]) ++ B by rw [List.append_assoc]; rfl]
    exact cutB (by simp only [List.length_append, List.length_cons, List.length_nil]; omega)
  generalize A ++ a :: b :: B = R at *
  have hl : ∀ M, (Dl.sx S M)[l]? = some (.lst [.tup [.tup R, g]]) := fun M => by rw [Dl.sx_q (get_lt h)]; exact h
  simp_arith [e, hl, gInt_bl, z0, z1, x0, x1, c1, c2]
  exact Dl.Qx (hS.wf rfl) (wf_flat (show (flats (A ++ .tup [.str "*", a, b] :: B) && (g.flat && (true && true))) = true by rw [flats_app fA (flats_cons (fl3 rfl fa fb) fB), fg]; rfl)) (hQ _ rfl)
include zA zB fA fB fb fg in
theorem line_pr {k : Int} (hk : k = A.length) (h : S[l]? = some (.lst [.tup [.tup A, g], .tup [.tup B, b]])) : Dl.Sp (tab (n + 1) ._law_line [.str "pair right", .int k, .ref l] S) fun o => o = .ok (.tup [.tup (A ++ B), .tup [.str "*", g, b], .int 0]) S := by
  refine Dl.sp_plain (g := b__law_line (tab n)) rfl fun Q hQ => ?_
  unfold b__law_line
  have e := in_four S [] "pair right"
  rw [four_pr] at e
  have hl : ∀ M, (Dl.sx S M)[l]? = some (.lst [.tup [.tup A, g], .tup [.tup B, b]]) := fun M => by rw [Dl.sx_q (get_lt h)]; exact h
  simp_arith [e, hl, gInt_bl, hk]
  exact Dl.Qx (hS.wf rfl) (wf_flat (show (flats (A ++ B) && ((D.tup [.str "*", g, b]).flat && (true && true))) = true by rw [flats_app fA fB, fl3 rfl fg fb]; rfl)) (hQ _ rfl)
include zA zB zM fA fB fM fa fb fg in
theorem line_ol {k : Int} (hk : k = A.length) (h : S[l]? = some (.lst [.tup [.tup M, b], .tup [.tup (A ++ a :: B), g]])) : Dl.Sp (tab (n + 1) ._law_line [.str "over left", .int k, .ref l] S) fun o => o = .ok (.tup [.tup (A ++ .tup [.str "/", a, b] :: (M ++ B)), g, .int M.length]) S := by
  refine Dl.sp_plain (g := b__law_line (tab n)) rfl fun Q hQ => ?_
  unfold b__law_line
  have e := in_four S [] "over left"
  rw [four_ol] at e
  have z0 : (0 : Int) ≤ k := by omega
  have hR : ((A ++ a :: B).length : Int) = A.length + 1 + B.length := by simp only [List.length_append, List.length_cons]; omega
  have z1 : k < ((A ++ a :: B).length : Int) := by omega
  have x0 : atI (A ++ a :: B) k = some a := by rw [hk]; exact atI_mid rfl
  have c1 : cutD (A ++ a :: B) none (some k) = A := cutA hk
  have c2 : cutD (A ++ a :: B) (some (k + 1)) none = B := by
    rw [show A ++ a :: B = (A ++ [a]) ++ B by rw [List.append_assoc]; rfl]
    exact cutB (by simp only [List.length_append, List.length_cons, List.length_nil]; omega)
  generalize A ++ a :: B = R at *
  have hl : ∀ N, (Dl.sx S N)[l]? = some (.lst [.tup [.tup M, b], .tup [.tup R, g]]) := fun N => by rw [Dl.sx_q (get_lt h)]; exact h
  simp_arith [e, hl, gInt_bl, z0, z1, x0, c1, c2]
  exact Dl.Qx (hS.wf rfl) (wf_flat (show (flats (A ++ .tup [.str "/", a, b] :: (M ++ B)) && (g.flat && (true && true))) = true by rw [flats_app fA (flats_cons (fl3 rfl fa fb) (flats_app fM fB)), fg]; rfl)) (hQ _ rfl)
include zA zB zM fA fB fM fa fb fg in
theorem line_ul {k : Int} (hk : k = A.length + M.length) (h : S[l]? = some (.lst [.tup [.tup M, b], .tup [.tup (A ++ a :: B), g]])) : Dl.Sp (tab (n + 1) ._law_line [.str "under left", .int k, .ref l] S) fun o => o = .ok (.tup [.tup (A ++ (M ++ .tup [.str ">", b, a] :: B)), g, .int M.length]) S := by
  refine Dl.sp_plain (g := b__law_line (tab n)) rfl fun Q hQ => ?_
  unfold b__law_line
  have e := in_four S [] "under left"
  rw [four_ul] at e
  have z0 : (0 : Int) ≤ k - (M.length : Int) := by omega
  have hR : ((A ++ a :: B).length : Int) = A.length + 1 + B.length := by simp only [List.length_append, List.length_cons]; omega
  have z1 : k - (M.length : Int) < ((A ++ a :: B).length : Int) := by omega
  have x0 : atI (A ++ a :: B) (k - (M.length : Int)) = some a := by rw [show k - (M.length : Int) = A.length by omega]; exact atI_mid rfl
  have c1 : cutD (A ++ a :: B) none (some (k - (M.length : Int))) = A := cutA (by omega)
  have c2 : cutD (A ++ a :: B) (some (k - (M.length : Int) + 1)) none = B := by
    rw [show A ++ a :: B = (A ++ [a]) ++ B by rw [List.append_assoc]; rfl]
    exact cutB (by simp only [List.length_append, List.length_cons, List.length_nil]; omega)
  generalize A ++ a :: B = R at *
  have hl : ∀ N, (Dl.sx S N)[l]? = some (.lst [.tup [.tup M, b], .tup [.tup R, g]]) := fun N => by rw [Dl.sx_q (get_lt h)]; exact h
  simp_arith [e, hl, gInt_bl, z0, z1, x0, c1, c2]
  exact Dl.Qx (hS.wf rfl) (wf_flat (show (flats (A ++ (M ++ .tup [.str ">", b, a] :: B)) && (g.flat && (true && true))) = true by rw [flats_app fA (flats_app fM (flats_cons (fl3 rfl fb fa) fB)), fg]; rfl)) (hQ _ rfl)
include zA zB zM fA fB fM fa fg in
theorem line_ct {k : Int} (hk : k = A.length) (ha : a.dep ≤ 64) (h : S[l]? = some (.lst [.tup [.tup M, a], .tup [.tup (A ++ a :: B), g]])) : Dl.Sp (tab (n + 1) ._law_line [.str "cut", .int k, .ref l] S) fun o => o = .ok (.tup [.tup (A ++ (M ++ B)), g, .int M.length]) S := by
  refine Dl.sp_plain (g := b__law_line (tab n)) rfl fun Q hQ => ?_
  unfold b__law_line
  have e := in_four S [] "cut"
  rw [four_ct] at e
  have z0 : (0 : Int) ≤ k := by omega
  have hR : ((A ++ a :: B).length : Int) = A.length + 1 + B.length := by simp only [List.length_append, List.length_cons]; omega
  have z1 : k < ((A ++ a :: B).length : Int) := by omega
  have x0 : atI (A ++ a :: B) k = some a := by rw [hk]; exact atI_mid rfl
  have c1 : cutD (A ++ a :: B) none (some k) = A := cutA hk
  have c2 : cutD (A ++ a :: B) (some (k + 1)) none = B := by
    rw [show A ++ a :: B = (A ++ [a]) ++ B by rw [List.append_assoc]; rfl]
    exact cutB (by simp only [List.length_append, List.length_cons, List.length_nil]; omega)
  have he := fun S => gEq_refl (S := S) fa ha
  generalize A ++ a :: B = R at *
  have hl : ∀ N, (Dl.sx S N)[l]? = some (.lst [.tup [.tup M, a], .tup [.tup R, g]]) := fun N => by rw [Dl.sx_q (get_lt h)]; exact h
  simp_arith [e, hl, gInt_bl, z0, z1, x0, c1, c2, he]
  exact Dl.Qx (hS.wf rfl) (wf_flat (show (flats (A ++ (M ++ B)) && (g.flat && (true && true))) = true by rw [flats_app fA (flats_app fM fB), fg]; rfl)) (hQ _ rfl)
end

end Lw

set_option Elab.async false
set_option linter.all false
set_option maxRecDepth 100000
namespace Lw
open PySem L2 Dl
variable [Fa]
local macro_rules | `(tactic| simp_arith [$ls,*]) => `(tactic| simp (disch := first | omega | assumption | (simp only [List.length_cons, List.length_nil, List.length_append, List.length_take, List.length_drop]; omega) | (simp only [List.length_cons, List.length_nil])) only [sQ_, sP_, sE_, sR_, sIf_, sN_, sA_, tgO_nx, nm_, tgIx_, eC_, eV0, eV1, e1_, e2_, eB_, eF_, aN_, aC_, eMt_, eSl_, oN_, oI_, tV_, tE_, tA_, tO_, tN_, eIf_, eAnd_, eOr_, eNot_, eCh_, seq_nx, seq_rt, seq_bk, seq_ct, seq_ex, toR_some, toR_none, toT_some, truD_bl, truD_int, truD_tup, truD_non, truD_str, truD_ref, truC_lst, tyD_str, tyD_tup, tyD_int, tyD_bl, tyD_non, tyD_ref, tyC_lst, tyC_rol, tyC_dic, kE_, kR_, kIf_t, kIf_f, kN_, kA_, kIx1_, kIx2_, kIx3_, kE1_, kE21_, kE2_, kB_, kF_, kC1_, kC_, kM1_, kM2_, kM_, kS1_, kS2_, kS3_, kO_, kV_, kT_, kAn_t, kAn_f, kOr_t, kOr_f, kNo_, kIfE_t, kIfE_f, kVa_, kVa2_t, kVa2_f, kVo_, kVo2_t, kVo2_f, kVn_, kVn2_, kH_, kH1_, kH2_t, kH2_f, kH3_, List.getElem?_cons_zero, List.getElem?_cons_succ, List.set_cons_zero, List.set_cons_succ, gAdd_int, gAdd_str, gAdd_t, gAdd_r, catC_s, gSub_int, gMul_l, gMul_r, gFdiv_int, gMod_int, gLt_int, gLe_int, gGt_int, gGe_int, gInt_int, gAbs_int, gLen_tup, gLen_str, gLen_r, lenC_s, gTpl_, gLsd_, gIx_r, ixC_s, ixO_s, gIx_t, gIx_s, ixS_s, atI_0, atI_1, atI_2, atI_3, atI_4, atI_5, gAppend_r, appC_s, gExtend_r, extC_s, gPop_r, popC_s, gSet_r, setC_0, setC_2, gTuple_r, tupC_s, gTuple_t, gList_r, gList_t, newC_s, gSl_r, slC_s, gSl_t, gSl_s, cut_take, cut_drop, cut_init, cut_mid, Int.toNat_natCast, lstC_lst, lstC_rol, lstAt_C, isi_str, isi_int, isi_bool, isi_tup, isi_lst, isO_s, isB_1, isB_2, isB_3, isB_4, isB_5, isB_6, isB_7, isB_8, isB_9, isB_10, isB_11, isB_12, isB_13, isB_14, isB_15, isB_16, isB_17, isB_18, isB_19, isB_20, isB_21, isB_22, isB_23, isB_24, isB_25, isB_26, gSum_r, sumC_s, sumO_s, gMin_, gMax_, qEq_int, qNe_int, qEq_str, qNe_str, gNeg_z, tgT_, tgU_, tgL0, tgL1, eTab_, kTab_, sX_, tgIxX_, kX1_, kX2_, kX3_, gSetX_r, setX_0, setX_2, setX_s, sPar_, kPar_, eFv_, eGetD_, kG1_, isDic_r, isDC_d, kG1b_, kG2_, kG3_, gGetD_r, getC_s, gMaxL_r, maxC_, gRep_r, repC_, eD0_, gDget_r, dgC_s, List.getElem?_concat_length, set_end, sF_, kFor_, iR1_, kR1_, iR2_, kR2_, kR3_, iA_, kAny_r, kAny_t, kAny_s, iaC_s, eLc_, kLc_, wipeD_c, wipeD_n, tYes_, put_one, sAug_, gAug_i, sBk_, sCt_, sW_, st_len, st_p, st_k, st_0, st_q, st_set_p, st_set_k, st_set_0, st_push, sx_len, sx_k, sx_0, sx_q, sx_set_k, sx_set_0, sx_push, So_rt, So_nx, So_ex, Tn_nx, Tn_ct, Tn_bk, Tn_rt, Tn_ex, Bool.false_eq_true, if_true, if_false, reduceIte, Option.map_some, Option.bind_some, Bool.not_true, Bool.not_false, decide_true, decide_false, eq_self, List.length_append, List.length_singleton, List.length_cons, List.length_nil, List.map_cons, List.map_nil, Nat.sub_self, List.replicate_zero, List.append_nil, List.cons_append, List.nil_append, List.append_assoc, List.replicate_succ, Nat.reduceSub, Nat.reduceAdd, Nat.add_zero, Nat.zero_add, Nat.add_assoc, Nat.reduceLeDiff, Int.natCast_add, Int.cast_ofNat_Int, Int.reduceEq, Int.reduceLT, Int.reduceLE, Int.reduceAdd, Int.reduceSub, Int.reduceNeg, Int.reduceToNat, List.take_succ_cons, List.take_zero, List.drop_succ_cons, List.drop_zero, List.dropLast_concat, Dl.atI_last, gFdivW_, gJoin_r, joinC_, gUpper_, gRepl_, gInK_, gNinK_, r_ax_or, r_ax_ur, r_ax_pr, r_ax_ol, r_ax_ul, r_ax_pl, r_ax_ct, r_or_ax, r_or_ur, r_or_pr, r_or_ol, r_or_ul, r_or_pl, r_or_ct, r_ur_ax, r_ur_or, r_ur_pr, r_ur_ol, r_ur_ul, r_ur_pl, r_ur_ct, r_pr_ax, r_pr_or, r_pr_ur, r_pr_ol, r_pr_ul, r_pr_pl, r_pr_ct, r_ol_ax, r_ol_or, r_ol_ur, r_ol_pr, r_ol_ul, r_ol_pl, r_ol_ct, r_ul_ax, r_ul_or, r_ul_ur, r_ul_pr, r_ul_ol, r_ul_pl, r_ul_ct, r_pl_ax, r_pl_or, r_pl_ur, r_pl_pr, r_pl_ol, r_pl_ul, r_pl_ct, r_ct_ax, r_ct_or, r_ct_ur, r_ct_pr, r_ct_ol, r_ct_ul, r_ct_pl, q1, q2, q3, q4, q5, q6, e1, e2, e3, gInt_bl, gIs_tn, gIs_nn, gIsN_tn, gIsN_nn, gReverse_r, revC_s, iV_, kVV_t, kVV_r, revI_s, $ls,*])
local macro_rules | `(tactic| walk_at "ev") => `(tactic| simp (disch := first | omega | assumption | (simp only [List.length_cons, List.length_nil, List.length_append, List.length_take, List.length_drop]; omega) | (simp only [List.length_cons, List.length_nil])) only [sQ_, sP_, sE_, sR_, sIf_, sN_, sA_, tgO_nx, nm_, tgIx_, eC_, eV0, eV1, e1_, e2_, eB_, eF_, aN_, aC_, eMt_, eSl_, oN_, oI_, tV_, tE_, tA_, tO_, tN_, eIf_, eAnd_, eOr_, eNot_, eCh_, seq_nx, seq_rt, seq_bk, seq_ct, seq_ex, toR_some, toR_none, toT_some, truD_bl, truD_int, truD_tup, truD_non, truD_str, truD_ref, truC_lst, tyD_str, tyD_tup, tyD_int, tyD_bl, tyD_non, tyD_ref, tyC_lst, tyC_rol, tyC_dic, kE_, kR_, kIf_t, kIf_f, kN_, kA_, kIx1_, kIx2_, kIx3_, kE1_, kE21_, kE2_, kB_, kF_, kC1_, kC_, kM1_, kM2_, kM_, kS1_, kS2_, kS3_, kO_, kV_, kT_, kAn_t, kAn_f, kOr_t, kOr_f, kNo_, kIfE_t, kIfE_f, kVa_, kVa2_t, kVa2_f, kVo_, kVo2_t, kVo2_f, kVn_, kVn2_, kH_, kH1_, kH2_t, kH2_f, kH3_, List.getElem?_cons_zero, List.getElem?_cons_succ, List.set_cons_zero, List.set_cons_succ, gAdd_int, gAdd_str, gAdd_t, gAdd_r, catC_s, gSub_int, gMul_l, gMul_r, gFdiv_int, gMod_int, gLt_int, gLe_int, gGt_int, gGe_int, gInt_int, gAbs_int, gLen_tup, gLen_str, gLen_r, lenC_s, gTpl_, gLsd_, gIx_r, ixC_s, ixO_s, gIx_t, gIx_s, ixS_s, atI_0, atI_1, atI_2, atI_3, atI_4, atI_5, gAppend_r, appC_s, gExtend_r, extC_s, gPop_r, popC_s, gSet_r, setC_0, setC_2, gTuple_r, tupC_s, gTuple_t, gList_r, gList_t, newC_s, gSl_r, slC_s, gSl_t, gSl_s, cut_take, cut_drop, cut_init, cut_mid, Int.toNat_natCast, lstC_lst, lstC_rol, lstAt_C, isi_str, isi_int, isi_bool, isi_tup, isi_lst, isO_s, isB_1, isB_2, isB_3, isB_4, isB_5, isB_6, isB_7, isB_8, isB_9, isB_10, isB_11, isB_12, isB_13, isB_14, isB_15, isB_16, isB_17, isB_18, isB_19, isB_20, isB_21, isB_22, isB_23, isB_24, isB_25, isB_26, gSum_r, sumC_s, sumO_s, gMin_, gMax_, qEq_int, qNe_int, qEq_str, qNe_str, gNeg_z, tgT_, tgU_, tgL0, tgL1, eTab_, kTab_, sX_, tgIxX_, kX1_, kX2_, kX3_, gSetX_r, setX_0, setX_2, setX_s, sPar_, kPar_, eFv_, eGetD_, kG1_, isDic_r, isDC_d, kG1b_, kG2_, kG3_, gGetD_r, getC_s, gMaxL_r, maxC_, gRep_r, repC_, eD0_, gDget_r, dgC_s, List.getElem?_concat_length, set_end, sF_, kFor_, iR1_, kR1_, iR2_, kR2_, kR3_, iA_, kAny_r, kAny_t, kAny_s, iaC_s, eLc_, kLc_, wipeD_c, wipeD_n, tYes_, put_one, sAug_, gAug_i, sBk_, sCt_, sW_, st_len, st_p, st_k, st_0, st_q, st_set_p, st_set_k, st_set_0, st_push, sx_len, sx_k, sx_0, sx_q, sx_set_k, sx_set_0, sx_push, So_rt, So_nx, So_ex, Tn_nx, Tn_ct, Tn_bk, Tn_rt, Tn_ex, Bool.false_eq_true, if_true, if_false, reduceIte, Option.map_some, Option.bind_some, Bool.not_true, Bool.not_false, decide_true, decide_false, eq_self, List.length_append, List.length_singleton, List.length_cons, List.length_nil, List.map_cons, List.map_nil, Nat.sub_self, List.replicate_zero, List.append_nil, List.cons_append, List.nil_append, List.append_assoc, List.replicate_succ, Nat.reduceSub, Nat.reduceAdd, Nat.add_zero, Nat.zero_add, Nat.add_assoc, Nat.reduceLeDiff, Int.natCast_add, Int.cast_ofNat_Int, Int.reduceEq, Int.reduceLT, Int.reduceLE, Int.reduceAdd, Int.reduceSub, Int.reduceNeg, Int.reduceToNat, List.take_succ_cons, List.take_zero, List.drop_succ_cons, List.drop_zero, List.dropLast_concat, Dl.atI_last, gFdivW_, gJoin_r, joinC_, gUpper_, gRepl_, gInK_, gNinK_, r_ax_or, r_ax_ur, r_ax_pr, r_ax_ol, r_ax_ul, r_ax_pl, r_ax_ct, r_or_ax, r_or_ur, r_or_pr, r_or_ol, r_or_ul, r_or_pl, r_or_ct, r_ur_ax, r_ur_or, r_ur_pr, r_ur_ol, r_ur_ul, r_ur_pl, r_ur_ct, r_pr_ax, r_pr_or, r_pr_ur, r_pr_ol, r_pr_ul, r_pr_pl, r_pr_ct, r_ol_ax, r_ol_or, r_ol_ur, r_ol_pr, r_ol_ul, r_ol_pl, r_ol_ct, r_ul_ax, r_ul_or, r_ul_ur, r_ul_pr, r_ul_ol, r_ul_pl, r_ul_ct, r_pl_ax, r_pl_or, r_pl_ur, r_pl_pr, r_pl_ol, r_pl_ul, r_pl_ct, r_ct_ax, r_ct_or, r_ct_ur, r_ct_pr, r_ct_ol, r_ct_ul, r_ct_pl, q1, q2, q3, q4, q5, q6, e1, e2, e3, gInt_bl, gIs_tn, gIs_nn, gIsN_tn, gIsN_nn, gReverse_r, revC_s, iV_, kVV_t, kVV_r, revI_s])
-- fa
theorem lnD_flat (p : DT) : (lnD p).flat = true := by
  show (flats (kds p.row) && (p.g.d.flat && true)) = true
  rw [kds_flat, KT.flat]; rfl
theorem lns_flat (ps : List DT) : flats (ps.map lnD) = true := flats_iff.mpr fun x hx => by
  obtain ⟨p, _, rfl⟩ := List.mem_map.mp hx
  exact lnD_flat p
section
variable (n : Nat) {l : Nat} {S : Store} (hS : SOK S)
include hS
/-- a step of the law, by what its line is -/
theorem make_t {t : DT} (h : S[l]? = some (.lst (dtds t.ps))) (hz : t.ps.length ≤ 3)
    (e1 : ∀ T l2, SOK T → T[l2]? = some (.lst (t.ps.map lnD)) → tab (n + 1) ._law_line [.str t.rule, .int t.a, .ref l2] T = .ok (.tup [.tup (kds t.row), t.g.d, .int t.w]) T) :
    Dl.Sp (tab (n + 2) ._law_make [.str t.rule, .int t.a, .ref l] S) fun o => o = .ok t.d S := by
  refine Dl.sp_plain (g := b__law_make (tab (n + 1))) rfl fun Q hQ => ?_
  unfold b__law_make
  have hl : ∀ M, (Dl.sx S M)[l]? = some (.lst (dtds t.ps)) := fun M => by rw [Dl.sx_q (get_lt h)]; exact h
  have ec := compA0 (S := S) (L := []) (ρ := [some (.str t.rule), some (.int t.a), some (.ref l), none, none]) (g := .one 4) (fe := eB gTpl (aC (Dl.e2 gIx (eV 4) (eC (.int 1))) (aC (Dl.e2 gIx (eV 4) (eC (.int 2))) aN))) (k := [(l, dtds t.ps)]) t.ps DT.d lnD (by omega) (fun a y hy => by
    rw [List.mem_singleton.mp hy]
    show lstAt _ l = _
    rw [lstAt_C, hl]; rfl) lnD_flat (fun p hp => ⟨_, rfl, fun a ha => by simp_arith [dt1, dt2]; rfl⟩)
  rw [← dtds_map] at ec
  have e2 := e1 (Dl.sx S [.lst (t.ps.map lnD)]) S.length (SOK.sx hS (.one (c := Dl.Cell.lst _) (lns_flat _))) (by rw [Dl.sx_0]; rfl)
  simp_arith [hl, ec, e2, gIs_tn]
  refine Dl.Qx (hS.wf rfl) (wf_flat ?_) (hQ _ ?_)
  · have := DT.flat t
    rw [DT.d_eq] at this
    exact this
  · rw [DT.d_eq]
theorem make_no {rule : Str} {k : Int} {ps : List DT} (h : S[l]? = some (.lst (dtds ps))) (hz : ps.length ≤ 3)
    (e1 : ∀ T l2, SOK T → T[l2]? = some (.lst (ps.map lnD)) → tab (n + 1) ._law_line [.str rule, .int k, .ref l2] T = .ok .non T) :
    Dl.Sp (tab (n + 2) ._law_make [.str rule, .int k, .ref l] S) fun o => o = .ok .non S := by
  refine Dl.sp_plain (g := b__law_make (tab (n + 1))) rfl fun Q hQ => ?_
  unfold b__law_make
  have hl : ∀ M, (Dl.sx S M)[l]? = some (.lst (dtds ps)) := fun M => by rw [Dl.sx_q (get_lt h)]; exact h
  have ec := compA0 (S := S) (L := []) (ρ := [some (.str rule), some (.int k), some (.ref l), none, none]) (g := .one 4) (fe := eB gTpl (aC (Dl.e2 gIx (eV 4) (eC (.int 1))) (aC (Dl.e2 gIx (eV 4) (eC (.int 2))) aN))) (k := [(l, dtds ps)]) ps DT.d lnD (by omega) (fun a y hy => by
    rw [List.mem_singleton.mp hy]
    show lstAt _ l = _
    rw [lstAt_C, hl]; rfl) lnD_flat (fun p hp => ⟨_, rfl, fun a ha => by simp_arith [dt1, dt2]; rfl⟩)
  rw [← dtds_map] at ec
  have e2 := e1 (Dl.sx S [.lst (ps.map lnD)]) S.length (SOK.sx hS (.one (c := Dl.Cell.lst _) (lns_flat _))) (by rw [Dl.sx_0]; rfl)
  simp_arith [hl, ec, e2, gIs_nn]
  exact Dl.Qx (hS.wf rfl) rfl (hQ _ rfl)
end
/-! ## rule by rule -/
section
variable (n : Nat) {l : Nat} {S : Store} (hS : SOK S) {p q : DT} {A B : List KT} {K K2 b : KT} (lp : p.row.length ≤ 40) (lq : q.row.length ≤ 40)
include hS
include lp in
theorem make_or (h : S[l]? = some (.lst [p.d])) (e : p.row = A ++ [b]) (ne : A ≠ []) : Dl.Sp (tab (n + 2) ._law_make [.str "over right", .int 0, .ref l] S) fun o => o = .ok (DT.st "over right" A (.node "/" p.g b) 0 0 [p]).d S :=
  make_t n hS (t := .st "over right" A (.node "/" p.g b) 0 0 [p]) h (by show 1 ≤ 3; decide) fun T l2 hT h2 => by
    refine line_or n hT (l := l2) (A := kds A) (b := b.d) (g := p.g.d) (by rw [kds_len]; rw [e, List.length_append] at lp; omega) (kds_flat _) (KT.flat _) (KT.flat _) ?_ (fun z => ne (List.map_eq_nil_iff.mp z))
    have h2 : T[l2]? = some (.lst [.tup [.tup (kds p.row), p.g.d]]) := h2
    rw [h2, e, kds_app]; rfl
include lp in
theorem make_ur (h : S[l]? = some (.lst [p.d])) (e : p.row = b :: A) (ne : A ≠ []) : Dl.Sp (tab (n + 2) ._law_make [.str "under right", .int 0, .ref l] S) fun o => o = .ok (DT.st "under right" A (.node ">" b p.g) 0 0 [p]).d S :=
  make_t n hS (t := .st "under right" A (.node ">" b p.g) 0 0 [p]) h (by show 1 ≤ 3; decide) fun T l2 hT h2 => by
    refine line_ur n hT (l := l2) (A := kds A) (b := b.d) (g := p.g.d) (by rw [kds_len]; rw [e, List.length_cons] at lp; omega) (kds_flat _) (KT.flat _) (KT.flat _) ?_ (fun z => ne (List.map_eq_nil_iff.mp z))
    have h2 : T[l2]? = some (.lst [.tup [.tup (kds p.row), p.g.d]]) := h2
    rw [h2, e]; rfl
theorem make_one {rule : Str} (hr : rule = "over right" ∨ rule = "under right") (h : S[l]? = some (.lst [p.d])) (hz : ¬ 1 < p.row.length) : Dl.Sp (tab (n + 2) ._law_make [.str rule, .int 0, .ref l] S) fun o => o = .ok .non S :=
  make_no n hS (ps := [p]) h (by show 1 ≤ 3; decide) fun T l2 hT h2 => line_one n hT (l := l2) hr h2 (by rw [kds_len]; omega)
include lp in
theorem make_pl {k : Int} (hk : k = A.length) (h : S[l]? = some (.lst [p.d])) (e : p.row = A ++ K :: K2 :: B) : Dl.Sp (tab (n + 2) ._law_make [.str "pair left", .int k, .ref l] S) fun o => o = .ok (DT.st "pair left" (A ++ .node "*" K K2 :: B) p.g A.length 0 [p]).d S := by
  subst hk
  refine make_t n hS (t := .st "pair left" (A ++ .node "*" K K2 :: B) p.g A.length 0 [p]) h (by show 1 ≤ 3; decide) fun T l2 hT h2 => ?_
  rw [e] at lp
  simp only [List.length_append, List.length_cons] at lp
  have := line_pl n hT (l := l2) (A := kds A) (B := kds B) (a := K.d) (b := K2.d) (g := p.g.d) (k := A.length) (by rw [kds_len]; omega) (by rw [kds_len]; omega) (kds_flat _) (kds_flat _) (KT.flat _) (KT.flat _) (KT.flat _) (by rw [kds_len]) (by
    have h2 : T[l2]? = some (.lst [.tup [.tup (kds p.row), p.g.d]]) := h2
    rw [h2, e, kds_app]; rfl)
  rw [show (DT.st "pair left" (A ++ .node "*" K K2 :: B) p.g A.length 0 [p]).row = A ++ .node "*" K K2 :: B from rfl, kds_app]
  exact this
include lp lq in
theorem make_pr {k : Int} (hk : k = p.row.length) (h : S[l]? = some (.lst [p.d, q.d])) : Dl.Sp (tab (n + 2) ._law_make [.str "pair right", .int k, .ref l] S) fun o => o = .ok (DT.st "pair right" (p.row ++ q.row) (.node "*" p.g q.g) p.row.length 0 [p, q]).d S := by
  subst hk
  refine make_t n hS (t := .st "pair right" (p.row ++ q.row) (.node "*" p.g q.g) p.row.length 0 [p, q]) h (by show 2 ≤ 3; decide) fun T l2 hT h2 => ?_
  have := line_pr n hT (l := l2) (A := kds p.row) (B := kds q.row) (b := q.g.d) (g := p.g.d) (k := p.row.length) (by rw [kds_len]; omega) (by rw [kds_len]; omega) (kds_flat _) (kds_flat _) (KT.flat _) (KT.flat _) (by rw [kds_len]) h2
  rw [show (DT.st "pair right" (p.row ++ q.row) (.node "*" p.g q.g) p.row.length 0 [p, q]).row = p.row ++ q.row from rfl, kds_app]
  exact this
include lp lq in
theorem make_ol {k : Int} (hk : k = A.length) (h : S[l]? = some (.lst [p.d, q.d])) (e : q.row = A ++ K :: B) : Dl.Sp (tab (n + 2) ._law_make [.str "over left", .int k, .ref l] S) fun o => o = .ok (DT.st "over left" (A ++ .node "/" K p.g :: (p.row ++ B)) q.g A.length p.row.length [p, q]).d S := by
  subst hk
  refine make_t n hS (t := .st "over left" (A ++ .node "/" K p.g :: (p.row ++ B)) q.g A.length p.row.length [p, q]) h (by show 2 ≤ 3; decide) fun T l2 hT h2 => ?_
  rw [e] at lq
  simp only [List.length_append, List.length_cons] at lq
  have := line_ol n hT (l := l2) (A := kds A) (B := kds B) (M := kds p.row) (a := K.d) (b := p.g.d) (g := q.g.d) (k := A.length) (by rw [kds_len]; omega) (by rw [kds_len]; omega) (by rw [kds_len]; omega) (kds_flat _) (kds_flat _) (kds_flat _) (KT.flat _) (KT.flat _) (KT.flat _) (by rw [kds_len]) (by
    have h2 : T[l2]? = some (.lst [.tup [.tup (kds p.row), p.g.d], .tup [.tup (kds q.row), q.g.d]]) := h2
    rw [h2, e, kds_app]; rfl)
  rw [kds_len] at this
  rw [show (DT.st "over left" (A ++ .node "/" K p.g :: (p.row ++ B)) q.g A.length p.row.length [p, q]).row = A ++ .node "/" K p.g :: (p.row ++ B) from rfl, kds_app, show kds (.node "/" K p.g :: (p.row ++ B)) = .tup [.str "/", K.d, p.g.d] :: (kds p.row ++ kds B) by rw [← kds_app]; rfl]
  exact this
include lp lq in
theorem make_ul {k : Int} (hk : k = A.length + p.row.length) (h : S[l]? = some (.lst [p.d, q.d])) (e : q.row = A ++ K :: B) : Dl.Sp (tab (n + 2) ._law_make [.str "under left", .int k, .ref l] S) fun o => o = .ok (DT.st "under left" (A ++ (p.row ++ .node ">" p.g K :: B)) q.g k p.row.length [p, q]).d S := by
  refine make_t n hS (t := .st "under left" (A ++ (p.row ++ .node ">" p.g K :: B)) q.g k p.row.length [p, q]) h (by show 2 ≤ 3; decide) fun T l2 hT h2 => ?_
  rw [e] at lq
  simp only [List.length_append, List.length_cons] at lq
  have := line_ul n hT (l := l2) (A := kds A) (B := kds B) (M := kds p.row) (a := K.d) (b := p.g.d) (g := q.g.d) (k := k) (by rw [kds_len]; omega) (by rw [kds_len]; omega) (by rw [kds_len]; omega) (kds_flat _) (kds_flat _) (kds_flat _) (KT.flat _) (KT.flat _) (KT.flat _) (by rw [kds_len, kds_len]; exact hk) (by
    have h2 : T[l2]? = some (.lst [.tup [.tup (kds p.row), p.g.d], .tup [.tup (kds q.row), q.g.d]]) := h2
    rw [h2, e, kds_app]; rfl)
  rw [kds_len] at this
  rw [show (DT.st "under left" (A ++ (p.row ++ .node ">" p.g K :: B)) q.g k p.row.length [p, q]).row = A ++ (p.row ++ .node ">" p.g K :: B) from rfl, kds_app, kds_app]
  exact this
include lp lq in
theorem make_ct {k : Int} (hk : k = A.length) (hg : p.g.at_.length ≤ 60) (h : S[l]? = some (.lst [p.d, q.d])) (e : q.row = A ++ p.g :: B) : Dl.Sp (tab (n + 2) ._law_make [.str "cut", .int k, .ref l] S) fun o => o = .ok (DT.st "cut" (A ++ (p.row ++ B)) q.g A.length p.row.length [p, q]).d S := by
  subst hk
  refine make_t n hS (t := .st "cut" (A ++ (p.row ++ B)) q.g A.length p.row.length [p, q]) h (by show 2 ≤ 3; decide) fun T l2 hT h2 => ?_
  rw [e] at lq
  simp only [List.length_append, List.length_cons] at lq
  have := line_ct n hT (l := l2) (A := kds A) (B := kds B) (M := kds p.row) (a := p.g.d) (g := q.g.d) (k := A.length) (by rw [kds_len]; omega) (by rw [kds_len]; omega) (by rw [kds_len]; omega) (kds_flat _) (kds_flat _) (kds_flat _) (KT.flat _) (KT.flat _) (by rw [kds_len]) (by have := KT.dep p.g; omega) (by
    have h2 : T[l2]? = some (.lst [.tup [.tup (kds p.row), p.g.d], .tup [.tup (kds q.row), q.g.d]]) := h2
    rw [h2, e, kds_app]; rfl)
  rw [kds_len] at this
  rw [show (DT.st "cut" (A ++ (p.row ++ B)) q.g A.length p.row.length [p, q]).row = A ++ (p.row ++ B) from rfl, kds_app, kds_app]
  exact this
end

end Lw

set_option Elab.async false
set_option linter.all false
set_option maxRecDepth 100000
namespace Lw
open PySem L2 Dl
variable [Fa]
local macro_rules | `(tactic| simp_arith [$ls,*]) => `(tactic| simp (disch := first | omega | assumption | (simp only [List.length_cons, List.length_nil, List.length_append, List.length_take, List.length_drop]; omega) | (simp only [List.length_cons, List.length_nil])) only [sQ_, sP_, sE_, sR_, sIf_, sN_, sA_, tgO_nx, nm_, tgIx_, eC_, eV0, eV1, e1_, e2_, eB_, eF_, aN_, aC_, eMt_, eSl_, oN_, oI_, tV_, tE_, tA_, tO_, tN_, eIf_, eAnd_, eOr_, eNot_, eCh_, seq_nx, seq_rt, seq_bk, seq_ct, seq_ex, toR_some, toR_none, toT_some, truD_bl, truD_int, truD_tup, truD_non, truD_str, truD_ref, truC_lst, tyD_str, tyD_tup, tyD_int, tyD_bl, tyD_non, tyD_ref, tyC_lst, tyC_rol, tyC_dic, kE_, kR_, kIf_t, kIf_f, kN_, kA_, kIx1_, kIx2_, kIx3_, kE1_, kE21_, kE2_, kB_, kF_, kC1_, kC_, kM1_, kM2_, kM_, kS1_, kS2_, kS3_, kO_, kV_, kT_, kAn_t, kAn_f, kOr_t, kOr_f, kNo_, kIfE_t, kIfE_f, kVa_, kVa2_t, kVa2_f, kVo_, kVo2_t, kVo2_f, kVn_, kVn2_, kH_, kH1_, kH2_t, kH2_f, kH3_, List.getElem?_cons_zero, List.getElem?_cons_succ, List.set_cons_zero, List.set_cons_succ, gAdd_int, gAdd_str, gAdd_t, gAdd_r, catC_s, gSub_int, gMul_l, gMul_r, gFdiv_int, gMod_int, gLt_int, gLe_int, gGt_int, gGe_int, gInt_int, gAbs_int, gLen_tup, gLen_str, gLen_r, lenC_s, gTpl_, gLsd_, gIx_r, ixC_s, ixO_s, gIx_t, gIx_s, ixS_s, atI_0, atI_1, atI_2, atI_3, atI_4, atI_5, gAppend_r, appC_s, gExtend_r, extC_s, gPop_r, popC_s, gSet_r, setC_0, setC_2, gTuple_r, tupC_s, gTuple_t, gList_r, gList_t, newC_s, gSl_r, slC_s, gSl_t, gSl_s, cut_take, cut_drop, cut_init, cut_mid, Int.toNat_natCast, lstC_lst, lstC_rol, lstAt_C, isi_str, isi_int, isi_bool, isi_tup, isi_lst, isO_s, isB_1, isB_2, isB_3, isB_4, isB_5, isB_6, isB_7, isB_8, isB_9, isB_10, isB_11, isB_12, isB_13, isB_14, isB_15, isB_16, isB_17, isB_18, isB_19, isB_20, isB_21, isB_22, isB_23, isB_24, isB_25, isB_26, gSum_r, sumC_s, sumO_s, gMin_, gMax_, qEq_int, qNe_int, qEq_str, qNe_str, gNeg_z, tgT_, tgU_, tgL0, tgL1, eTab_, kTab_, sX_, tgIxX_, kX1_, kX2_, kX3_, gSetX_r, setX_0, setX_2, setX_s, sPar_, kPar_, eFv_, eGetD_, kG1_, isDic_r, isDC_d, kG1b_, kG2_, kG3_, gGetD_r, getC_s, gMaxL_r, maxC_, gRep_r, repC_, eD0_, gDget_r, dgC_s, List.getElem?_concat_length, set_end, sF_, kFor_, iR1_, kR1_, iR2_, kR2_, kR3_, iA_, kAny_r, kAny_t, kAny_s, iaC_s, eLc_, kLc_, wipeD_c, wipeD_n, tYes_, put_one, sAug_, gAug_i, sBk_, sCt_, sW_, st_len, st_p, st_k, st_0, st_q, st_set_p, st_set_k, st_set_0, st_push, sx_len, sx_k, sx_0, sx_q, sx_set_k, sx_set_0, sx_push, So_rt, So_nx, So_ex, Tn_nx, Tn_ct, Tn_bk, Tn_rt, Tn_ex, Bool.false_eq_true, if_true, if_false, reduceIte, Option.map_some, Option.bind_some, Bool.not_true, Bool.not_false, decide_true, decide_false, eq_self, List.length_append, List.length_singleton, List.length_cons, List.length_nil, List.map_cons, List.map_nil, Nat.sub_self, List.replicate_zero, List.append_nil, List.cons_append, List.nil_append, List.append_assoc, List.replicate_succ, Nat.reduceSub, Nat.reduceAdd, Nat.add_zero, Nat.zero_add, Nat.add_assoc, Nat.reduceLeDiff, Int.natCast_add, Int.cast_ofNat_Int, Int.reduceEq, Int.reduceLT, Int.reduceLE, Int.reduceAdd, Int.reduceSub, Int.reduceNeg, Int.reduceToNat, List.take_succ_cons, List.take_zero, List.drop_succ_cons, List.drop_zero, List.dropLast_concat, Dl.atI_last, gFdivW_, gJoin_r, joinC_, gUpper_, gRepl_, gInK_, gNinK_, r_ax_or, r_ax_ur, r_ax_pr, r_ax_ol, r_ax_ul, r_ax_pl, r_ax_ct, r_or_ax, r_or_ur, r_or_pr, r_or_ol, r_or_ul, r_or_pl, r_or_ct, r_ur_ax, r_ur_or, r_ur_pr, r_ur_ol, r_ur_ul, r_ur_pl, r_ur_ct, r_pr_ax, r_pr_or, r_pr_ur, r_pr_ol, r_pr_ul, r_pr_pl, r_pr_ct, r_ol_ax, r_ol_or, r_ol_ur, r_ol_pr, r_ol_ul, r_ol_pl, r_ol_ct, r_ul_ax, r_ul_or, r_ul_ur, r_ul_pr, r_ul_ol, r_ul_pl, r_ul_ct, r_pl_ax, r_pl_or, r_pl_ur, r_pl_pr, r_pl_ol, r_pl_ul, r_pl_ct, r_ct_ax, r_ct_or, r_ct_ur, r_ct_pr, r_ct_ol, r_ct_ul, r_ct_pl, q1, q2, q3, q4, q5, q6, e1, e2, e3, gInt_bl, gIs_tn, gIs_nn, gIsN_tn, gIsN_nn, gReverse_r, revC_s, iV_, kVV_t, kVV_r, revI_s, $ls,*])
local macro_rules | `(tactic| walk_at "ev") => `(tactic| simp (disch := first | omega | assumption | (simp only [List.length_cons, List.length_nil, List.length_append, List.length_take, List.length_drop]; omega) | (simp only [List.length_cons, List.length_nil])) only [sQ_, sP_, sE_, sR_, sIf_, sN_, sA_, tgO_nx, nm_, tgIx_, eC_, eV0, eV1, e1_, e2_, eB_, eF_, aN_, aC_, eMt_, eSl_, oN_, oI_, tV_, tE_, tA_, tO_, tN_, eIf_, eAnd_, eOr_, eNot_, eCh_, seq_nx, seq_rt, seq_bk, seq_ct, seq_ex, toR_some, toR_none, toT_some, truD_bl, truD_int, truD_tup, truD_non, truD_str, truD_ref, truC_lst, tyD_str, tyD_tup, tyD_int, tyD_bl, tyD_non, tyD_ref, tyC_lst, tyC_rol, tyC_dic, kE_, kR_, kIf_t, kIf_f, kN_, kA_, kIx1_, kIx2_, kIx3_, kE1_, kE21_, kE2_, kB_, kF_, kC1_, kC_, kM1_, kM2_, kM_, kS1_, kS2_, kS3_, kO_, kV_, kT_, kAn_t, kAn_f, kOr_t, kOr_f, kNo_, kIfE_t, kIfE_f, kVa_, kVa2_t, kVa2_f, kVo_, kVo2_t, kVo2_f, kVn_, kVn2_, kH_, kH1_, kH2_t, kH2_f, kH3_, List.getElem?_cons_zero, List.getElem?_cons_succ, List.set_cons_zero, List.set_cons_succ, gAdd_int, gAdd_str, gAdd_t, gAdd_r, catC_s, gSub_int, gMul_l, gMul_r, gFdiv_int, gMod_int, gLt_int, gLe_int, gGt_int, gGe_int, gInt_int, gAbs_int, gLen_tup, gLen_str, gLen_r, lenC_s, gTpl_, gLsd_, gIx_r, ixC_s, ixO_s, gIx_t, gIx_s, ixS_s, atI_0, atI_1, atI_2, atI_3, atI_4, atI_5, gAppend_r, appC_s, gExtend_r, extC_s, gPop_r, popC_s, gSet_r, setC_0, setC_2, gTuple_r, tupC_s, gTuple_t, gList_r, gList_t, newC_s, gSl_r, slC_s, gSl_t, gSl_s, cut_take, cut_drop, cut_init, cut_mid, Int.toNat_natCast, lstC_lst, lstC_rol, lstAt_C, isi_str, isi_int, isi_bool, isi_tup, isi_lst, isO_s, isB_1, isB_2, isB_3, isB_4, isB_5, isB_6, isB_7, isB_8, isB_9, isB_10, isB_11, isB_12, isB_13, isB_14, isB_15, isB_16, isB_17, isB_18, isB_19, isB_20, isB_21, isB_22, isB_23, isB_24, isB_25, isB_26, gSum_r, sumC_s, sumO_s, gMin_, gMax_, qEq_int, qNe_int, qEq_str, qNe_str, gNeg_z, tgT_, tgU_, tgL0, tgL1, eTab_, kTab_, sX_, tgIxX_, kX1_, kX2_, kX3_, gSetX_r, setX_0, setX_2, setX_s, sPar_, kPar_, eFv_, eGetD_, kG1_, isDic_r, isDC_d, kG1b_, kG2_, kG3_, gGetD_r, getC_s, gMaxL_r, maxC_, gRep_r, repC_, eD0_, gDget_r, dgC_s, List.getElem?_concat_length, set_end, sF_, kFor_, iR1_, kR1_, iR2_, kR2_, kR3_, iA_, kAny_r, kAny_t, kAny_s, iaC_s, eLc_, kLc_, wipeD_c, wipeD_n, tYes_, put_one, sAug_, gAug_i, sBk_, sCt_, sW_, st_len, st_p, st_k, st_0, st_q, st_set_p, st_set_k, st_set_0, st_push, sx_len, sx_k, sx_0, sx_q, sx_set_k, sx_set_0, sx_push, So_rt, So_nx, So_ex, Tn_nx, Tn_ct, Tn_bk, Tn_rt, Tn_ex, Bool.false_eq_true, if_true, if_false, reduceIte, Option.map_some, Option.bind_some, Bool.not_true, Bool.not_false, decide_true, decide_false, eq_self, List.length_append, List.length_singleton, List.length_cons, List.length_nil, List.map_cons, List.map_nil, Nat.sub_self, List.replicate_zero, List.append_nil, List.cons_append, List.nil_append, List.append_assoc, List.replicate_succ, Nat.reduceSub, Nat.reduceAdd, Nat.add_zero, Nat.zero_add, Nat.add_assoc, Nat.reduceLeDiff, Int.natCast_add, Int.cast_ofNat_Int, Int.reduceEq, Int.reduceLT, Int.reduceLE, Int.reduceAdd, Int.reduceSub, Int.reduceNeg, Int.reduceToNat, List.take_succ_cons, List.take_zero, List.drop_succ_cons, List.drop_zero, List.dropLast_concat, Dl.atI_last, gFdivW_, gJoin_r, joinC_, gUpper_, gRepl_, gInK_, gNinK_, r_ax_or, r_ax_ur, r_ax_pr, r_ax_ol, r_ax_ul, r_ax_pl, r_ax_ct, r_or_ax, r_or_ur, r_or_pr, r_or_ol, r_or_ul, r_or_pl, r_or_ct, r_ur_ax, r_ur_or, r_ur_pr, r_ur_ol, r_ur_ul, r_ur_pl, r_ur_ct, r_pr_ax, r_pr_or, r_pr_ur, r_pr_ol, r_pr_ul, r_pr_pl, r_pr_ct, r_ol_ax, r_ol_or, r_ol_ur, r_ol_pr, r_ol_ul, r_ol_pl, r_ol_ct, r_ul_ax, r_ul_or, r_ul_ur, r_ul_pr, r_ul_ol, r_ul_pl, r_ul_ct, r_pl_ax, r_pl_or, r_pl_ur, r_pl_pr, r_pl_ol, r_pl_ul, r_pl_ct, r_ct_ax, r_ct_or, r_ct_ur, r_ct_pr, r_ct_ol, r_ct_ul, r_ct_pl, q1, q2, q3, q4, q5, q6, e1, e2, e3, gInt_bl, gIs_tn, gIs_nn, gIsN_tn, gIsN_nn, gReverse_r, revC_s, iV_, kVV_t, kVV_r, revI_s])
-- fa
/-! ## identities -/
theorem identity_t (n : Nat) {P : Str → Prop} : ∀ (L : Nat) (k : KT) (S : Store), k.ok P → k.at_.length ≤ L → L ≤ 40 → SOK S → Dl.Sp (tab (n + L + 2) ._law_identity [k.d] S) fun o => o = .ok (idT k).d S
  | 0, k, _, _, h, _, _ => by have := KT.pos k; omega
  | L + 1, k, S, hk, h, hL, hS => by
    refine Dl.sp_plain (g := b__law_identity (tab (n + L + 2))) rfl fun Q hQ => ?_
    unfold b__law_identity
    cases k with
    | leaf t =>
      have e := law_axiom_t (n + L + 1) t (Dl.sx S []) (SOK.sx hS .nil)
      rw [show n + L + 1 + 1 = n + (L + 2) by omega] at e
      simp_arith [KTd_leaf, e]
      exact Dl.Qx (hS.wf rfl) (wf_flat (DT.flat _)) (hQ _ rfl)
    | node s a b =>
      have pa := KT.pos a
      have pb := KT.pos b
      have h' := h
      rw [KT.len_node] at h'
      have ea := identity_t n L a (Dl.sx S []) hk.2.1 (by omega) (by omega) (SOK.sx hS .nil)
      have eb := identity_t n L b (Dl.sx S []) hk.2.2 (by omega) (by omega) (SOK.sx hS .nil)
      obtain ⟨a1, a2, a3, _⟩ := idT_made hk.2.1 (by omega)
      obtain ⟨b1, b2, b3, _⟩ := idT_made hk.2.2 (by omega)
      have la := a1.bd.len
      have lb := b1.bd.len
      have fin : ∀ t : DT, idT (.node s a b) = t → ∀ L, Q (cmp S.length t.d (Dl.sx S L)) := fun t e L => Dl.Qx (hS.wf rfl) (wf_flat (DT.flat _)) (hQ _ (by rw [e]))
      have F2 : ∀ p q : DT, Dl.FL [Cell.lst [p.d, q.d]] := fun p q => .one (c := Dl.Cell.lst _) (dtds_flat [p, q])
      have F3 : ∀ p q r : DT, Dl.FL [Cell.lst [p.d, q.d], .lst [r.d]] := fun p q r => .cons (c := Dl.Cell.lst _) (dtds_flat [p, q]) (.one (c := Dl.Cell.lst _) (dtds_flat [r]))
      rw [Nat.add_assoc] at ea eb
      rcases hk.1 with rfl | rfl | rfl
      · have m1 := make_ol (n + L) (l := S.length) (S := Dl.sx S [.lst [(idT b).d, (idT a).d]]) (SOK.sx hS (F2 _ _)) (p := idT b) (q := idT a) (A := []) (B := []) (K := a) lb la (k := 0) rfl (by rw [Dl.sx_0]; rfl) a2
        rw [b3, b2, a3, Nat.add_assoc] at m1
        have m1 : tab (n + (L + 2)) ._law_make [.str "over left", .int 0, .ref S.length] (Dl.sx S [.lst [(idT b).d, (idT a).d]]) = .ok (olT a b (idT b) (idT a)).d (Dl.sx S [.lst [(idT b).d, (idT a).d]]) := m1
        have m2 := make_or (n + L) (l := S.length + 1) (S := Dl.sx S [.lst [(idT b).d, (idT a).d], .lst [(olT a b (idT b) (idT a)).d]]) (SOK.sx hS (F3 _ _ _)) (p := olT a b (idT b) (idT a)) (A := [.node "/" a b]) (b := b) (by show 2 ≤ 40; decide) (by rw [Dl.sx_k]; rfl) rfl (by simp)
        rw [Nat.add_assoc] at m2
        simp_arith [KTd_node, ea, eb, m1, m2]
        exact fin _ (idT_over a b) _
      · have m1 := make_ul (n + L) (l := S.length) (S := Dl.sx S [.lst [(idT a).d, (idT b).d]]) (SOK.sx hS (F2 _ _)) (p := idT a) (q := idT b) (A := []) (B := []) (K := b) la lb (k := 1) (by rw [a2]; rfl) (by rw [Dl.sx_0]; rfl) b2
        rw [a3, a2, b3, Nat.add_assoc] at m1
        have m1 : tab (n + (L + 2)) ._law_make [.str "under left", .int 1, .ref S.length] (Dl.sx S [.lst [(idT a).d, (idT b).d]]) = .ok (ulT a b (idT a) (idT b)).d (Dl.sx S [.lst [(idT a).d, (idT b).d]]) := m1
        have m2 := make_ur (n + L) (l := S.length + 1) (S := Dl.sx S [.lst [(idT a).d, (idT b).d], .lst [(ulT a b (idT a) (idT b)).d]]) (SOK.sx hS (F3 _ _ _)) (p := ulT a b (idT a) (idT b)) (A := [.node ">" a b]) (b := a) (by show 2 ≤ 40; decide) (by rw [Dl.sx_k]; rfl) rfl (by simp)
        rw [Nat.add_assoc] at m2
        simp_arith [KTd_node, ea, eb, m1, m2]
        exact fin _ (idT_under a b) _
      · have m1 := make_pr (n + L) (l := S.length) (S := Dl.sx S [.lst [(idT a).d, (idT b).d]]) (SOK.sx hS (F2 _ _)) (p := idT a) (q := idT b) la lb (k := 1) (by rw [a2]; rfl) (by rw [Dl.sx_0]; rfl)
        rw [a3, a2, b3, b2, Nat.add_assoc] at m1
        have m1 : tab (n + (L + 2)) ._law_make [.str "pair right", .int 1, .ref S.length] (Dl.sx S [.lst [(idT a).d, (idT b).d]]) = .ok (prT a b (idT a) (idT b)).d (Dl.sx S [.lst [(idT a).d, (idT b).d]]) := m1
        have m2 := make_pl (n + L) (l := S.length + 1) (S := Dl.sx S [.lst [(idT a).d, (idT b).d], .lst [(prT a b (idT a) (idT b)).d]]) (SOK.sx hS (F3 _ _ _)) (p := prT a b (idT a) (idT b)) (A := []) (B := []) (K := a) (K2 := b) (by show 2 ≤ 40; decide) (k := 0) rfl (by rw [Dl.sx_k]; rfl) rfl
        rw [Nat.add_assoc] at m2
        have m2 : tab (n + (L + 2)) ._law_make [.str "pair left", .int 0, .ref (S.length + 1)] (Dl.sx S [.lst [(idT a).d, (idT b).d], .lst [(prT a b (idT a) (idT b)).d]]) = .ok (DT.st "pair left" [.node "*" a b] (.node "*" a b) 0 0 [prT a b (idT a) (idT b)]).d (Dl.sx S [.lst [(idT a).d, (idT b).d], .lst [(prT a b (idT a) (idT b)).d]]) := m2
        simp_arith [KTd_node, ea, eb, m1, m2]
        exact fin _ (idT_pair a b) _
/-! ## what fits -/
theorem fits_no (n : Nat) {l : Nat} (S : Store) (hS : SOK S) : Dl.Sp (tab (n + 1) ._law_fits [.non, .ref l] S) fun o => o = .ok (.bl false) S := by
  refine Dl.sp_plain (g := b__law_fits (tab n)) rfl fun Q hQ => ?_
  unfold b__law_fits
  simp_arith [gIs_nn]
  exact Dl.Qx (hS.wf rfl) rfl (hQ _ rfl)
theorem dt_is (p : DT) (S : Store) : gIs p.d .non S = some (.bl false, S) := by cases p; rfl
theorem maxL_le_iff {xs : List Int} {x : Int} (h : xs ≠ []) : maxL xs ≤ x ↔ ∀ y ∈ xs, y ≤ x := ⟨fun z y hy => Int.le_trans (maxL_le hy) z, fun z => z _ (maxL_mem h)⟩
open Classical in
theorem fits_t (n : Nat) {A : Str → Prop} {l : Nat} {x y z : Int} {t : DT} (S : Store) (hS : SOK S) (h : S[l]? = some (.lst [.int x, .int y, .int z])) (ok : ∀ k ∈ t.row ++ [t.g], k.ok A ∧ k.at_.length ≤ 100) (hr : t.row.length ≤ 1000) :
    Dl.Sp (tab (n + 101) ._law_fits [t.d, .ref l] S) fun o => o = .ok (.bl (decide (FitB x y z t))) S := by
  refine Dl.sp_plain (g := b__law_fits (tab (n + 100))) rfl fun Q hQ => ?_
  unfold b__law_fits
  have hl : ∀ M, (Dl.sx S M)[l]? = some (.lst [.int x, .int y, .int z]) := fun M => by rw [Dl.sx_q (get_lt h)]; exact h
  have zr := kds_len t.row
  have ec := compA0 (S := S) (L := []) (ρ := [some t.d, some (.ref l), none, none]) (g := .one 3) (fe := eF (tab (n + 100) ._law_size) (aC (eV 3) aN)) (k := []) t.row KT.d (fun k => .int (sz k)) (by omega) (fun a => chk_nil) (fun _ => rfl) (fun k hk => ⟨_, rfl, fun a ha => by
    have okk := ok k (List.mem_append_left _ hk)
    have e := law_size_t n 100 k (Dl.sx S [.lst a]) okk.1 okk.2 (SOK.sx hS (.one (c := Dl.Cell.lst _) ha))
    simp_arith [e]⟩)
  rw [show t.row.map KT.d = kds t.row from rfl, show (t.row.map fun k => D.int (sz k)) = ins (t.row.map sz) by unfold ins; rw [List.map_map]; rfl] at ec
  have okg := ok t.g (List.mem_append_right _ (List.mem_singleton.mpr rfl))
  have eg := law_size_t n 100 t.g (Dl.sx S [.lst (ins (t.row.map sz))]) okg.1 okg.2 (SOK.sx hS (.one (c := Dl.Cell.lst _) (ins_flat _)))
  have ei := ins_D (t.row.map sz ++ [sz t.g])
  rw [ins_app, show ins [sz t.g] = [D.int (sz t.g)] from rfl] at ei
  have zi := ins_len (t.row.map sz)
  rw [List.length_map] at zi
  have em : maxL (t.row.map sz ++ [sz t.g]) ≤ x ↔ ∀ k ∈ t.row ++ [t.g], sz k ≤ x := by
    rw [maxL_le_iff (by simp)]
    constructor
    · intro h k hk
      exact h _ (by
        rcases List.mem_append.mp hk with q | q
        · exact List.mem_append_left _ (List.mem_map.mpr ⟨k, q, rfl⟩)
        · rw [List.mem_singleton.mp q]; simp)
    · intro h y hy
      rcases List.mem_append.mp hy with q | q
      · obtain ⟨k, hk, rfl⟩ := List.mem_map.mp q
        exact h k (List.mem_append_left _ hk)
      · rw [List.mem_singleton.mp q]; exact h t.g (by simp)
  have es : (t.row.map sz ++ [sz t.g]).sum = szs t.row + sz t.g := by rw [List.sum_append]; unfold szs; simp
  have fin : ∀ (b : Bool) L, decide (FitB x y z t) = b → Q (cmp S.length (.bl b) (Dl.sx S L)) := fun b L e => Dl.Qx (hS.wf rfl) rfl (hQ _ (by rw [e]))
  obtain ⟨m0, mr, hm⟩ : ∃ m0 mr, t.row.map sz ++ [sz t.g] = m0 :: mr := by
    cases e : t.row.map sz ++ [sz t.g] with
    | nil => simp at e
    | cons a b => exact ⟨a, b, rfl⟩
  rw [hm] at ei em es
  by_cases c1 : maxL (m0 :: mr) ≤ x
  · by_cases c2 : (t.row.length : Int) ≤ y
    · by_cases c3 : szs t.row + sz t.g ≤ z
      · simp_arith [dt_is, dt1, dt2, ec, eg, zi, gMaxL_r, maxC_, ei, es, hl, zr, c1, c2, c3]
        exact fin _ _ (decide_eq_true ⟨em.mp c1, c2, c3⟩)
      · simp_arith [dt_is, dt1, dt2, ec, eg, zi, gMaxL_r, maxC_, ei, es, hl, zr, c1, c2, c3]
        exact fin _ _ (decide_eq_false fun q => c3 q.2.2)
    · simp_arith [dt_is, dt1, dt2, ec, eg, zi, gMaxL_r, maxC_, ei, es, hl, zr, c1, c2]
      exact fin _ _ (decide_eq_false fun q => c2 q.2.1)
  · simp_arith [dt_is, dt1, dt2, ec, eg, zi, gMaxL_r, maxC_, ei, es, hl, zr, c1]
    exact fin _ _ (decide_eq_false fun q => c1 (em.mpr q.1))

end Lw

set_option Elab.async false
set_option linter.all false
set_option maxRecDepth 100000
namespace Lw
open PySem L2 Dl
variable [Fa]
local macro_rules | `(tactic| simp_arith [$ls,*]) => `(tactic| simp (disch := first | omega | assumption | (simp only [List.length_cons, List.length_nil, List.length_append, List.length_take, List.length_drop]; omega) | (simp only [List.length_cons, List.length_nil])) only [sQ_, sP_, sE_, sR_, sIf_, sN_, sA_, tgO_nx, nm_, tgIx_, eC_, eV0, eV1, e1_, e2_, eB_, eF_, aN_, aC_, eMt_, eSl_, oN_, oI_, tV_, tE_, tA_, tO_, tN_, eIf_, eAnd_, eOr_, eNot_, eCh_, seq_nx, seq_rt, seq_bk, seq_ct, seq_ex, toR_some, toR_none, toT_some, truD_bl, truD_int, truD_tup, truD_non, truD_str, truD_ref, truC_lst, tyD_str, tyD_tup, tyD_int, tyD_bl, tyD_non, tyD_ref, tyC_lst, tyC_rol, tyC_dic, kE_, kR_, kIf_t, kIf_f, kN_, kA_, kIx1_, kIx2_, kIx3_, kE1_, kE21_, kE2_, kB_, kF_, kC1_, kC_, kM1_, kM2_, kM_, kS1_, kS2_, kS3_, kO_, kV_, kT_, kAn_t, kAn_f, kOr_t, kOr_f, kNo_, kIfE_t, kIfE_f, kVa_, kVa2_t, kVa2_f, kVo_, kVo2_t, kVo2_f, kVn_, kVn2_, kH_, kH1_, kH2_t, kH2_f, kH3_, List.getElem?_cons_zero, List.getElem?_cons_succ, List.set_cons_zero, List.set_cons_succ, gAdd_int, gAdd_str, gAdd_t, gAdd_r, catC_s, gSub_int, gMul_l, gMul_r, gFdiv_int, gMod_int, gLt_int, gLe_int, gGt_int, gGe_int, gInt_int, gAbs_int, gLen_tup, gLen_str, gLen_r, lenC_s, gTpl_, gLsd_, gIx_r, ixC_s, ixO_s, gIx_t, gIx_s, ixS_s, atI_0, atI_1, atI_2, atI_3, atI_4, atI_5, gAppend_r, appC_s, gExtend_r, extC_s, gPop_r, popC_s, gSet_r, setC_0, setC_2, gTuple_r, tupC_s, gTuple_t, gList_r, gList_t, newC_s, gSl_r, slC_s, gSl_t, gSl_s, cut_take, cut_drop, cut_init, cut_mid, Int.toNat_natCast, lstC_lst, lstC_rol, lstAt_C, isi_str, isi_int, isi_bool, isi_tup, isi_lst, isO_s, isB_1, isB_2, isB_3, isB_4, isB_5, isB_6, isB_7, isB_8, isB_9, isB_10, isB_11, isB_12, isB_13, isB_14, isB_15, isB_16, isB_17, isB_18, isB_19, isB_20, isB_21, isB_22, isB_23, isB_24, isB_25, isB_26, gSum_r, sumC_s, sumO_s, gMin_, gMax_, qEq_int, qNe_int, qEq_str, qNe_str, gNeg_z, tgT_, tgU_, tgL0, tgL1, eTab_, kTab_, sX_, tgIxX_, kX1_, kX2_, kX3_, gSetX_r, setX_0, setX_2, setX_s, sPar_, kPar_, eFv_, eGetD_, kG1_, isDic_r, isDC_d, kG1b_, kG2_, kG3_, gGetD_r, getC_s, gMaxL_r, maxC_, gRep_r, repC_, eD0_, gDget_r, dgC_s, List.getElem?_concat_length, set_end, sF_, kFor_, iR1_, kR1_, iR2_, kR2_, kR3_, iA_, kAny_r, kAny_t, kAny_s, iaC_s, eLc_, kLc_, wipeD_c, wipeD_n, tYes_, put_one, sAug_, gAug_i, sBk_, sCt_, sW_, st_len, st_p, st_k, st_0, st_q, st_set_p, st_set_k, st_set_0, st_push, sx_len, sx_k, sx_0, sx_q, sx_set_k, sx_set_0, sx_push, So_rt, So_nx, So_ex, Tn_nx, Tn_ct, Tn_bk, Tn_rt, Tn_ex, Bool.false_eq_true, if_true, if_false, reduceIte, Option.map_some, Option.bind_some, Bool.not_true, Bool.not_false, decide_true, decide_false, eq_self, List.length_append, List.length_singleton, List.length_cons, List.length_nil, List.map_cons, List.map_nil, Nat.sub_self, List.replicate_zero, List.append_nil, List.cons_append, List.nil_append, List.append_assoc, List.replicate_succ, Nat.reduceSub, Nat.reduceAdd, Nat.add_zero, Nat.zero_add, Nat.add_assoc, Nat.reduceLeDiff, Int.natCast_add, Int.cast_ofNat_Int, Int.reduceEq, Int.reduceLT, Int.reduceLE, Int.reduceAdd, Int.reduceSub, Int.reduceNeg, Int.reduceToNat, List.take_succ_cons, List.take_zero, List.drop_succ_cons, List.drop_zero, List.dropLast_concat, Dl.atI_last, gFdivW_, gJoin_r, joinC_, gUpper_, gRepl_, gInK_, gNinK_, r_ax_or, r_ax_ur, r_ax_pr, r_ax_ol, r_ax_ul, r_ax_pl, r_ax_ct, r_or_ax, r_or_ur, r_or_pr, r_or_ol, r_or_ul, r_or_pl, r_or_ct, r_ur_ax, r_ur_or, r_ur_pr, r_ur_ol, r_ur_ul, r_ur_pl, r_ur_ct, r_pr_ax, r_pr_or, r_pr_ur, r_pr_ol, r_pr_ul, r_pr_pl, r_pr_ct, r_ol_ax, r_ol_or, r_ol_ur, r_ol_pr, r_ol_ul, r_ol_pl, r_ol_ct, r_ul_ax, r_ul_or, r_ul_ur, r_ul_pr, r_ul_ol, r_ul_pl, r_ul_ct, r_pl_ax, r_pl_or, r_pl_ur, r_pl_pr, r_pl_ol, r_pl_ul, r_pl_ct, r_ct_ax, r_ct_or, r_ct_ur, r_ct_pr, r_ct_ol, r_ct_ul, r_ct_pl, q1, q2, q3, q4, q5, q6, e1, e2, e3, gInt_bl, gIs_tn, gIs_nn, gIsN_tn, gIsN_nn, gReverse_r, revC_s, iV_, kVV_t, kVV_r, revI_s, $ls,*])
local macro_rules | `(tactic| walk_at "ev") => `(tactic| simp (disch := first | omega | assumption | (simp only [List.length_cons, List.length_nil, List.length_append, List.length_take, List.length_drop]; omega) | (simp only [List.length_cons, List.length_nil])) only [sQ_, sP_, sE_, sR_, sIf_, sN_, sA_, tgO_nx, nm_, tgIx_, eC_, eV0, eV1, e1_, e2_, eB_, eF_, aN_, aC_, eMt_, eSl_, oN_, oI_, tV_, tE_, tA_, tO_, tN_, eIf_, eAnd_, eOr_, eNot_, eCh_, seq_nx, seq_rt, seq_bk, seq_ct, seq_ex, toR_some, toR_none, toT_some, truD_bl, truD_int, truD_tup, truD_non, truD_str, truD_ref, truC_lst, tyD_str, tyD_tup, tyD_int, tyD_bl, tyD_non, tyD_ref, tyC_lst, tyC_rol, tyC_dic, kE_, kR_, kIf_t, kIf_f, kN_, kA_, kIx1_, kIx2_, kIx3_, kE1_, kE21_, kE2_, kB_, kF_, kC1_, kC_, kM1_, kM2_, kM_, kS1_, kS2_, kS3_, kO_, kV_, kT_, kAn_t, kAn_f, kOr_t, kOr_f, kNo_, kIfE_t, kIfE_f, kVa_, kVa2_t, kVa2_f, kVo_, kVo2_t, kVo2_f, kVn_, kVn2_, kH_, kH1_, kH2_t, kH2_f, kH3_, List.getElem?_cons_zero, List.getElem?_cons_succ, List.set_cons_zero, List.set_cons_succ, gAdd_int, gAdd_str, gAdd_t, gAdd_r, catC_s, gSub_int, gMul_l, gMul_r, gFdiv_int, gMod_int, gLt_int, gLe_int, gGt_int, gGe_int, gInt_int, gAbs_int, gLen_tup, gLen_str, gLen_r, lenC_s, gTpl_, gLsd_, gIx_r, ixC_s, ixO_s, gIx_t, gIx_s, ixS_s, atI_0, atI_1, atI_2, atI_3, atI_4, atI_5, gAppend_r, appC_s, gExtend_r, extC_s, gPop_r, popC_s, gSet_r, setC_0, setC_2, gTuple_r, tupC_s, gTuple_t, gList_r, gList_t, newC_s, gSl_r, slC_s, gSl_t, gSl_s, cut_take, cut_drop, cut_init, cut_mid, Int.toNat_natCast, lstC_lst, lstC_rol, lstAt_C, isi_str, isi_int, isi_bool, isi_tup, isi_lst, isO_s, isB_1, isB_2, isB_3, isB_4, isB_5, isB_6, isB_7, isB_8, isB_9, isB_10, isB_11, isB_12, isB_13, isB_14, isB_15, isB_16, isB_17, isB_18, isB_19, isB_20, isB_21, isB_22, isB_23, isB_24, isB_25, isB_26, gSum_r, sumC_s, sumO_s, gMin_, gMax_, qEq_int, qNe_int, qEq_str, qNe_str, gNeg_z, tgT_, tgU_, tgL0, tgL1, eTab_, kTab_, sX_, tgIxX_, kX1_, kX2_, kX3_, gSetX_r, setX_0, setX_2, setX_s, sPar_, kPar_, eFv_, eGetD_, kG1_, isDic_r, isDC_d, kG1b_, kG2_, kG3_, gGetD_r, getC_s, gMaxL_r, maxC_, gRep_r, repC_, eD0_, gDget_r, dgC_s, List.getElem?_concat_length, set_end, sF_, kFor_, iR1_, kR1_, iR2_, kR2_, kR3_, iA_, kAny_r, kAny_t, kAny_s, iaC_s, eLc_, kLc_, wipeD_c, wipeD_n, tYes_, put_one, sAug_, gAug_i, sBk_, sCt_, sW_, st_len, st_p, st_k, st_0, st_q, st_set_p, st_set_k, st_set_0, st_push, sx_len, sx_k, sx_0, sx_q, sx_set_k, sx_set_0, sx_push, So_rt, So_nx, So_ex, Tn_nx, Tn_ct, Tn_bk, Tn_rt, Tn_ex, Bool.false_eq_true, if_true, if_false, reduceIte, Option.map_some, Option.bind_some, Bool.not_true, Bool.not_false, decide_true, decide_false, eq_self, List.length_append, List.length_singleton, List.length_cons, List.length_nil, List.map_cons, List.map_nil, Nat.sub_self, List.replicate_zero, List.append_nil, List.cons_append, List.nil_append, List.append_assoc, List.replicate_succ, Nat.reduceSub, Nat.reduceAdd, Nat.add_zero, Nat.zero_add, Nat.add_assoc, Nat.reduceLeDiff, Int.natCast_add, Int.cast_ofNat_Int, Int.reduceEq, Int.reduceLT, Int.reduceLE, Int.reduceAdd, Int.reduceSub, Int.reduceNeg, Int.reduceToNat, List.take_succ_cons, List.take_zero, List.drop_succ_cons, List.drop_zero, List.dropLast_concat, Dl.atI_last, gFdivW_, gJoin_r, joinC_, gUpper_, gRepl_, gInK_, gNinK_, r_ax_or, r_ax_ur, r_ax_pr, r_ax_ol, r_ax_ul, r_ax_pl, r_ax_ct, r_or_ax, r_or_ur, r_or_pr, r_or_ol, r_or_ul, r_or_pl, r_or_ct, r_ur_ax, r_ur_or, r_ur_pr, r_ur_ol, r_ur_ul, r_ur_pl, r_ur_ct, r_pr_ax, r_pr_or, r_pr_ur, r_pr_ol, r_pr_ul, r_pr_pl, r_pr_ct, r_ol_ax, r_ol_or, r_ol_ur, r_ol_pr, r_ol_ul, r_ol_pl, r_ol_ct, r_ul_ax, r_ul_or, r_ul_ur, r_ul_pr, r_ul_ol, r_ul_pl, r_ul_ct, r_pl_ax, r_pl_or, r_pl_ur, r_pl_pr, r_pl_ol, r_pl_ul, r_pl_ct, r_ct_ax, r_ct_or, r_ct_ur, r_ct_pr, r_ct_ol, r_ct_ul, r_ct_pl, q1, q2, q3, q4, q5, q6, e1, e2, e3, gInt_bl, gIs_tn, gIs_nn, gIsN_tn, gIsN_nn, gReverse_r, revC_s, iV_, kVV_t, kVV_r, revI_s])
-- fa
/-! ## a step grown from the heap -/
theorem atI_second {α : Type} {xs : List α} {a b : α} : atI (xs ++ [a, b]) (-2) = some a := by
  unfold atI ixN
  have e : (xs ++ [a, b]).length = xs.length + 2 := by simp
  rw [e]
  simp only [show ¬ (0 : Int) ≤ -2 by decide, if_false]
  rw [if_pos (by omega)]
  show (xs ++ [a, b])[((xs.length + 2 : Nat) + (-2 : Int)).toNat]? = _
  rw [show ((xs.length + 2 : Nat) + (-2 : Int)).toNat = xs.length by omega, List.getElem?_append_right (Nat.le_refl _), Nat.sub_self]
  rfl
theorem kt_deq : ∀ {a b : KT}, deq a.d b.d = true → a = b
  | .leaf x, .leaf y, h => by rw [show x = y from eq_of_beq (show (x == y) = true from h)]
  | .leaf _, .node _ _ _, h => nomatch h
  | .node _ _ _, .leaf _, h => nomatch h
  | .node s a b, .node t c d, h => by
    have h : ((s == t) && (deq a.d c.d && (deq b.d d.d && true))) = true := h
    simp only [Bool.and_eq_true] at h
    rw [eq_of_beq h.1, kt_deq h.2.1, kt_deq h.2.2.1]
section
variable {A : Str → Prop}
theorem grow_t (n : Nat) {N p h : Nat} {T : Store} {P : List D} {hs : List DT} (hh : T[p]? = some (.lst P)) (hq : T[h]? = some (.lst (dtds hs))) (hqp : h ≠ p) (hp : Pool N P) (hN : N + 20 ≤ 1000000) (hT : SOK T) (hm : ∀ t ∈ hs, Made A t) (ne : hs ≠ []) (way : Int) :
    Dl.Sp (tab (n + 3) ._law_grow [.ref p, .ref h, .int way] T) fun r => ∃ P', Pool (N + 1) P' ∧ (r = .ok .non (T.set p (.lst P')) ∨ ∃ t init, Shape A t ∧ t.ps ≠ [] ∧ hs = init ++ t.ps ∧ (¬ way = 0 → ¬ way = 2 → ¬ way = 5 → t.ps.length = 2) ∧ r = .ok t.d (T.set p (.lst P'))) := by
  refine Dl.sp_pool (g := b__law_grow (tab (n + 2))) rfl hh fun lp Q hQ => ?_
  have lq := get_lt hq
  have q2 : ∀ P' M, (Dl.st T p P' M)[h]? = some (.lst (dtds hs)) := fun P' M => by rw [Dl.st_q lq hqp]; exact hq
  have S0 : ∀ Q' L, flats Q' = true → Dl.FL L → SOK (Dl.st T p Q' L) := fun Q' L h1 h2 => SOK.st hT h1 h2
  have no : ∀ Q' L, Pool (N + 1) Q' → Q (cmp T.length .non (Dl.st T p Q' L)) := fun Q' L hq => Dl.Qp (hT.wf rfl) (wfs_flat hq.flat) rfl (hQ _ ⟨Q', hq, .inl rfl⟩)
  have yes : ∀ (t : DT) init Q' L, Pool (N + 1) Q' → Shape A t → t.ps ≠ [] → hs = init ++ t.ps → (¬ way = 0 → ¬ way = 2 → ¬ way = 5 → t.ps.length = 2) → Q (cmp T.length t.d (Dl.st T p Q' L)) := fun t init Q' L hq h1 h2 h3 h4 => Dl.Qp (hT.wf rfl) (wfs_flat hq.flat) (wf_flat (DT.flat t)) (hQ _ ⟨Q', hq, .inr ⟨t, init, h1, h2, h3, h4, rfl⟩⟩)
  have hp1 : Pool (N + 1) P := hp.mono (by omega)
  have F1 : ∀ t : DT, Dl.FL [Cell.lst [t.d]] := fun t => .one (c := Dl.Cell.lst _) (dtds_flat [t])
  have F2 : ∀ p q : DT, Dl.FL [Cell.lst [p.d, q.d]] := fun p q => .one (c := Dl.Cell.lst _) (dtds_flat [p, q])
  obtain ⟨init, top, hi⟩ : ∃ init top, hs = init ++ [top] := by
    rcases List.eq_nil_or_concat hs with e | ⟨i, t, e⟩
    · exact absurd e ne
    · exact ⟨i, t, by rw [e, List.concat_eq_append]⟩
  have mt := hm top (by rw [hi]; simp)
  have bt := mt.bd
  have lt := bt.len
  have ltp : 0 < top.row.length := List.length_pos_iff.mpr bt.ne
  have zr := kds_len top.row
  have x1 : atI (dtds hs) (-1) = some top.d := by rw [hi, dtds_app]; exact Dl.atI_last
  have zh := dtds_len hs
  unfold b__law_grow
  by_cases w0 : way = 0
  · by_cases h1 : 1 < top.row.length
    · obtain ⟨R, b, hr, hR⟩ : ∃ R b, top.row = R ++ [b] ∧ R ≠ [] := by
        rcases List.eq_nil_or_concat top.row with e | ⟨R, b, e⟩
        · rw [e] at h1; exact absurd h1 (by decide)
        · rw [List.concat_eq_append] at e
          exact ⟨R, b, e, fun z => by rw [e, z] at h1; simp at h1⟩
      have m := make_or n (l := T.length) (S := Dl.st T p P [.lst [top.d]]) (S0 _ _ hp.flat (F1 top)) (p := top) lt (by rw [Dl.st_0]; rfl) hr hR
      simp_arith [q2, x1, dt1, w0, m]
      exact yes _ init _ _ hp1 (.or hr hR) (by simp [DT.ps]) hi (fun z => absurd w0 z)
    · have m := make_one n (l := T.length) (S := Dl.st T p P [.lst [top.d]]) (S0 _ _ hp.flat (F1 top)) (p := top) (rule := "over right") (.inl rfl) (by rw [Dl.st_0]; rfl) h1
      simp_arith [q2, x1, dt1, w0, m]
      exact no _ _ hp1
  by_cases w2 : way = 2
  · by_cases h1 : 1 < top.row.length
    · obtain ⟨b, R, hr, hR⟩ : ∃ b R, top.row = b :: R ∧ R ≠ [] := by
        cases e : top.row with
        | nil => rw [e] at h1; exact absurd h1 (by decide)
        | cons b R => exact ⟨b, R, rfl, fun z => by rw [e, z] at h1; simp at h1⟩
      have m := make_ur n (l := T.length) (S := Dl.st T p P [.lst [top.d]]) (S0 _ _ hp.flat (F1 top)) (p := top) lt (by rw [Dl.st_0]; rfl) hr hR
      simp_arith [q2, x1, dt1, w0, w2, m]
      exact yes _ init _ _ hp1 (.ur hr hR) (by simp [DT.ps]) hi (fun _ z => absurd w2 z)
    · have m := make_one n (l := T.length) (S := Dl.st T p P [.lst [top.d]]) (S0 _ _ hp.flat (F1 top)) (p := top) (rule := "under right") (.inr rfl) (by rw [Dl.st_0]; rfl) h1
      simp_arith [q2, x1, dt1, w0, w2, m]
      exact no _ _ hp1
  by_cases w5 : way = 5
  · by_cases h1 : (1 : Int) < (top.row.length : Int)
    · obtain ⟨d, P1, hp2, a1, b1, e1⟩ := draw_t n (many := (top.row.length : Int) - 1) (Dl.st_p (P := P) (L := []) lp) hp (by omega) (by omega) (log_lt (by omega) (by omega))
      rw [Dl.st_set_p lp] at e1
      obtain ⟨R, K, B', hr', hd⟩ := mid_js (js := top.row) (a := d) a1 (by omega)
      obtain ⟨K2, B, rfl⟩ : ∃ K2 B, B' = K2 :: B := by
        cases B' with
        | nil => rw [hr', List.length_append, List.length_singleton] at b1; omega
        | cons K2 B => exact ⟨K2, B, rfl⟩
      have m := make_pl n (l := T.length) (S := Dl.st T p P1 [.lst [top.d]]) (S0 _ _ hp2.flat (F1 top)) (p := top) lt (k := d) hd (by rw [Dl.st_0]; rfl) hr'
      simp_arith [q2, x1, dt1, w0, w2, w5, zr, h1, e1, m]
      exact yes _ init _ _ hp2 (.pl hr') (by simp [DT.ps]) hi (fun _ _ z => absurd w5 z)
    · simp_arith [q2, x1, dt1, w0, w2, w5, zr, h1]
      exact no _ _ hp1
  by_cases h2 : (hs.length : Int) < 2
  · simp_arith [q2, x1, dt1, w0, w2, w5, zr, zh, h2]
    exact no _ _ hp1
  obtain ⟨init2, under, hi2⟩ : ∃ init2 under, hs = init2 ++ [under, top] := by
    rcases List.eq_nil_or_concat init with e | ⟨i, u, e⟩
    · rw [hi, e] at h2; simp at h2
    · exact ⟨i, u, by rw [hi, e, List.concat_eq_append, List.append_assoc]; rfl⟩
  have mu := hm under (by rw [hi2]; simp)
  have lu := mu.bd.len
  have zu := kds_len under.row
  have x2 : atI (dtds hs) (-2) = some under.d := by rw [hi2, dtds_app]; exact atI_second
  by_cases w4 : way = 4
  · have m := make_pr n (l := T.length) (S := Dl.st T p P [.lst [under.d, top.d]]) (S0 _ _ hp.flat (F2 under top)) (p := under) (q := top) lu lt (k := under.row.length) rfl (by rw [Dl.st_0]; rfl)
    simp_arith [q2, x1, x2, dt1, w0, w2, w5, zr, zu, zh, h2, w4, m]
    exact yes _ init2 _ _ hp1 .pr (by simp [DT.ps]) hi2 (fun _ _ _ => rfl)
  by_cases w6 : way = 6
  · obtain ⟨bf, hbf⟩ : ∃ bf : Nat → Bool, bf = fun j => deq ((top.row[j]?.map KT.d).getD .non) under.g.d := ⟨_, rfl⟩
    have ec := compFS (T := T) (p := p) (P := P) (m := 0) (L := [.lst []]) (ρ := [some (.ref p), some (.ref h), some (.int 6), some top.d, some (.int top.row.length), some under.d, none, none]) (g := .one 6) (ft := tE (Dl.e2 gEq (Dl.e2 gIx (Dl.e2 gIx (eV 3) (eC (.int 1))) (eV 6)) (Dl.e2 gIx (eV 5) (eC (.int 2))))) (fe := eV 6) (k := []) (List.range top.row.length) (fun j : Nat => .int (j : Int)) (fun j : Nat => .int (j : Int)) bf (by rw [List.length_range]; omega) rfl (fun a => chk_nil) (fun _ => rfl) (fun j hj => ⟨_, rfl, fun a ha => ⟨by
      have hj := List.mem_range.mp hj
      have hx : atI (kds top.row) (j : Int) = some (top.row[j]).d := atI_nat (by show (top.row.map KT.d)[j]? = _; rw [List.getElem?_map, List.getElem?_eq_getElem hj]; rfl)
      have hb : bf j = deq (top.row[j]).d under.g.d := by rw [hbf]; simp only [List.getElem?_eq_getElem hj]; rfl
      have he := fun S => gEq_flat (x := (top.row[j]).d) (y := under.g.d) (S := S) (KT.flat _) (KT.flat _) (by have := KT.dep top.row[j]; have := (bt.row _ (List.getElem_mem hj)).2; omega)
      rw [← hb] at he
      simp_arith [dt1, dt2, hx, he], fun _ => rfl⟩⟩)
    rw [Nat.add_zero] at ec
    simp only [List.set_cons_zero] at ec
    generalize hF : (List.range top.row.length).filter bf = F at ec
    cases F with
    | nil =>
      rw [List.map_nil] at ec
      simp_arith [q2, x1, x2, dt1, dt2, w0, w2, w5, zr, zh, h2, w4, w6]
      rw [rng0, ec]
      simp_arith []
      exact no _ _ hp1
    | cons j0 js =>
      have zF : ((j0 :: js).map fun j : Nat => D.int (j : Int)).length = js.length + 1 := by rw [List.length_map, List.length_cons]
      generalize hX : (j0 :: js).map (fun j : Nat => D.int (j : Int)) = X at ec zF
      have lF : js.length + 1 ≤ 40 := by
        have h1 := List.length_filter_le bf (List.range top.row.length)
        rw [hF, List.length_cons, List.length_range] at h1
        omega
      have fX : flats X = true := by
        rw [← hX]
        exact flats_iff.mpr fun x hx => by
          obtain ⟨_, _, rfl⟩ := List.mem_map.mp hx
          rfl
      obtain ⟨d, P1, hp2, a1, b1, e1⟩ := draw_t n (many := (js.length : Int) + 1) (Dl.st_p (P := P) (L := [.lst X]) lp) hp (by omega) (by omega) (log_lt (by omega) (by omega))
      rw [Dl.st_set_p lp] at e1
      obtain ⟨x, hx, hxm⟩ := atI_in (xs := X) a1 (by rw [zF]; omega)
      rw [← hX] at hxm
      obtain ⟨j, hjm, rfl⟩ := List.mem_map.mp hxm
      rw [← hF] at hjm
      obtain ⟨hjr, hjb⟩ := List.mem_filter.mp hjm
      have hjr := List.mem_range.mp hjr
      rw [hbf] at hjb
      simp only [List.getElem?_eq_getElem hjr] at hjb
      have hK := kt_deq (a := top.row[j]) hjb
      have hr : top.row = top.row.take j ++ under.g :: top.row.drop (j + 1) := by
        rw [← hK, List.getElem_cons_drop, List.take_append_drop]
      have m := make_ct n (l := T.length + 1) (S := Dl.st T p P1 [.lst X, .lst [under.d, top.d]]) (S0 _ _ hp2.flat (.cons (c := Dl.Cell.lst _) fX (F2 under top))) (p := under) (q := top) lu lt (k := j) (by rw [List.length_take]; omega) (by have := mu.bd.g.2; omega) (by rw [Dl.st_k]; rfl) hr
      simp_arith [q2, x1, x2, dt1, dt2, w0, w2, w5, zr, zh, h2, w4, w6]
      rw [rng0, ec]
      simp_arith [zF, show ¬ (js.length : Int) + 1 = 0 by omega, e1, hx, m]
      exact yes _ init2 _ _ hp2 (.ct hr) (by simp [DT.ps]) hi2 (fun _ _ _ => rfl)
  obtain ⟨d, P1, hp2, a1, b1, e1⟩ := draw_t n (many := (top.row.length : Int)) (Dl.st_p (P := P) (L := []) lp) hp (by omega) (by omega) (log_lt (by omega) (by omega))
  rw [Dl.st_set_p lp] at e1
  obtain ⟨R, K, B, hr, hd⟩ := mid_js (js := top.row) (a := d) a1 b1
  by_cases w1 : way = 1
  · have m := make_ol n (l := T.length) (S := Dl.st T p P1 [.lst [under.d, top.d]]) (S0 _ _ hp2.flat (F2 under top)) (p := under) (q := top) lu lt (k := d) hd (by rw [Dl.st_0]; rfl) hr
    simp_arith [q2, x1, x2, dt1, w0, w2, w5, zr, zu, zh, h2, w4, w6, e1, w1, m]
    exact yes _ init2 _ _ hp2 (.ol hr) (by simp [DT.ps]) hi2 (fun _ _ _ => rfl)
  · have m := make_ul n (l := T.length) (S := Dl.st T p P1 [.lst [under.d, top.d]]) (S0 _ _ hp2.flat (F2 under top)) (p := under) (q := top) lu lt (k := d + under.row.length) (by omega) (by rw [Dl.st_0]; rfl) hr
    simp_arith [q2, x1, x2, dt1, w0, w2, w5, zr, zu, zh, h2, w4, w6, e1, w1, m]
    exact yes _ init2 _ _ hp2 (.ul hr (by omega)) (by simp [DT.ps]) hi2 (fun _ _ _ => rfl)
end

end Lw

set_option Elab.async false
set_option linter.all false
set_option maxRecDepth 100000
namespace Lw
open PySem L2 Dl
variable [Fa]
local macro_rules | `(tactic| simp_arith [$ls,*]) => `(tactic| simp (disch := first | omega | assumption | (simp only [List.length_cons, List.length_nil, List.length_append, List.length_take, List.length_drop]; omega) | (simp only [List.length_cons, List.length_nil])) only [sQ_, sP_, sE_, sR_, sIf_, sN_, sA_, tgO_nx, nm_, tgIx_, eC_, eV0, eV1, e1_, e2_, eB_, eF_, aN_, aC_, eMt_, eSl_, oN_, oI_, tV_, tE_, tA_, tO_, tN_, eIf_, eAnd_, eOr_, eNot_, eCh_, seq_nx, seq_rt, seq_bk, seq_ct, seq_ex, toR_some, toR_none, toT_some, truD_bl, truD_int, truD_tup, truD_non, truD_str, truD_ref, truC_lst, tyD_str, tyD_tup, tyD_int, tyD_bl, tyD_non, tyD_ref, tyC_lst, tyC_rol, tyC_dic, kE_, kR_, kIf_t, kIf_f, kN_, kA_, kIx1_, kIx2_, kIx3_, kE1_, kE21_, kE2_, kB_, kF_, kC1_, kC_, kM1_, kM2_, kM_, kS1_, kS2_, kS3_, kO_, kV_, kT_, kAn_t, kAn_f, kOr_t, kOr_f, kNo_, kIfE_t, kIfE_f, kVa_, kVa2_t, kVa2_f, kVo_, kVo2_t, kVo2_f, kVn_, kVn2_, kH_, kH1_, kH2_t, kH2_f, kH3_, List.getElem?_cons_zero, List.getElem?_cons_succ, List.set_cons_zero, List.set_cons_succ, gAdd_int, gAdd_str, gAdd_t, gAdd_r, catC_s, gSub_int, gMul_l, gMul_r, gFdiv_int, gMod_int, gLt_int, gLe_int, gGt_int, gGe_int, gInt_int, gAbs_int, gLen_tup, gLen_str, gLen_r, lenC_s, gTpl_, gLsd_, gIx_r, ixC_s, ixO_s, gIx_t, gIx_s, ixS_s, atI_0, atI_1, atI_2, atI_3, atI_4, atI_5, gAppend_r, appC_s, gExtend_r, extC_s, gPop_r, popC_s, gSet_r, setC_0, setC_2, gTuple_r, tupC_s, gTuple_t, gList_r, gList_t, newC_s, gSl_r, slC_s, gSl_t, gSl_s, cut_take, cut_drop, cut_init, cut_mid, Int.toNat_natCast, lstC_lst, lstC_rol, lstAt_C, isi_str, isi_int, isi_bool, isi_tup, isi_lst, isO_s, isB_1, isB_2, isB_3, isB_4, isB_5, isB_6, isB_7, isB_8, isB_9, isB_10, isB_11, isB_12, isB_13, isB_14, isB_15, isB_16, isB_17, isB_18, isB_19, isB_20, isB_21, isB_22, isB_23, isB_24, isB_25, isB_26, gSum_r, sumC_s, sumO_s, gMin_, gMax_, qEq_int, qNe_int, qEq_str, qNe_str, gNeg_z, tgT_, tgU_, tgL0, tgL1, eTab_, kTab_, sX_, tgIxX_, kX1_, kX2_, kX3_, gSetX_r, setX_0, setX_2, setX_s, sPar_, kPar_, eFv_, eGetD_, kG1_, isDic_r, isDC_d, kG1b_, kG2_, kG3_, gGetD_r, getC_s, gMaxL_r, maxC_, gRep_r, repC_, eD0_, gDget_r, dgC_s, List.getElem?_concat_length, set_end, sF_, kFor_, iR1_, kR1_, iR2_, kR2_, kR3_, iA_, kAny_r, kAny_t, kAny_s, iaC_s, eLc_, kLc_, wipeD_c, wipeD_n, tYes_, put_one, sAug_, gAug_i, sBk_, sCt_, sW_, st_len, st_p, st_k, st_0, st_q, st_set_p, st_set_k, st_set_0, st_push, sx_len, sx_k, sx_0, sx_q, sx_set_k, sx_set_0, sx_push, So_rt, So_nx, So_ex, Tn_nx, Tn_ct, Tn_bk, Tn_rt, Tn_ex, Bool.false_eq_true, if_true, if_false, reduceIte, Option.map_some, Option.bind_some, Bool.not_true, Bool.not_false, decide_true, decide_false, eq_self, List.length_append, List.length_singleton, List.length_cons, List.length_nil, List.map_cons, List.map_nil, Nat.sub_self, List.replicate_zero, List.append_nil, List.cons_append, List.nil_append, List.append_assoc, List.replicate_succ, Nat.reduceSub, Nat.reduceAdd, Nat.add_zero, Nat.zero_add, Nat.add_assoc, Nat.reduceLeDiff, Int.natCast_add, Int.cast_ofNat_Int, Int.reduceEq, Int.reduceLT, Int.reduceLE, Int.reduceAdd, Int.reduceSub, Int.reduceNeg, Int.reduceToNat, List.take_succ_cons, List.take_zero, List.drop_succ_cons, List.drop_zero, List.dropLast_concat, Dl.atI_last, gFdivW_, gJoin_r, joinC_, gUpper_, gRepl_, gInK_, gNinK_, r_ax_or, r_ax_ur, r_ax_pr, r_ax_ol, r_ax_ul, r_ax_pl, r_ax_ct, r_or_ax, r_or_ur, r_or_pr, r_or_ol, r_or_ul, r_or_pl, r_or_ct, r_ur_ax, r_ur_or, r_ur_pr, r_ur_ol, r_ur_ul, r_ur_pl, r_ur_ct, r_pr_ax, r_pr_or, r_pr_ur, r_pr_ol, r_pr_ul, r_pr_pl, r_pr_ct, r_ol_ax, r_ol_or, r_ol_ur, r_ol_pr, r_ol_ul, r_ol_pl, r_ol_ct, r_ul_ax, r_ul_or, r_ul_ur, r_ul_pr, r_ul_ol, r_ul_pl, r_ul_ct, r_pl_ax, r_pl_or, r_pl_ur, r_pl_pr, r_pl_ol, r_pl_ul, r_pl_ct, r_ct_ax, r_ct_or, r_ct_ur, r_ct_pr, r_ct_ol, r_ct_ul, r_ct_pl, q1, q2, q3, q4, q5, q6, e1, e2, e3, gInt_bl, gIs_tn, gIs_nn, gIsN_tn, gIsN_nn, gReverse_r, revC_s, iV_, kVV_t, kVV_r, revI_s, $ls,*])
local macro_rules | `(tactic| walk_at "ev") => `(tactic| simp (disch := first | omega | assumption | (simp only [List.length_cons, List.length_nil, List.length_append, List.length_take, List.length_drop]; omega) | (simp only [List.length_cons, List.length_nil])) only [sQ_, sP_, sE_, sR_, sIf_, sN_, sA_, tgO_nx, nm_, tgIx_, eC_, eV0, eV1, e1_, e2_, eB_, eF_, aN_, aC_, eMt_, eSl_, oN_, oI_, tV_, tE_, tA_, tO_, tN_, eIf_, eAnd_, eOr_, eNot_, eCh_, seq_nx, seq_rt, seq_bk, seq_ct, seq_ex, toR_some, toR_none, toT_some, truD_bl, truD_int, truD_tup, truD_non, truD_str, truD_ref, truC_lst, tyD_str, tyD_tup, tyD_int, tyD_bl, tyD_non, tyD_ref, tyC_lst, tyC_rol, tyC_dic, kE_, kR_, kIf_t, kIf_f, kN_, kA_, kIx1_, kIx2_, kIx3_, kE1_, kE21_, kE2_, kB_, kF_, kC1_, kC_, kM1_, kM2_, kM_, kS1_, kS2_, kS3_, kO_, kV_, kT_, kAn_t, kAn_f, kOr_t, kOr_f, kNo_, kIfE_t, kIfE_f, kVa_, kVa2_t, kVa2_f, kVo_, kVo2_t, kVo2_f, kVn_, kVn2_, kH_, kH1_, kH2_t, kH2_f, kH3_, List.getElem?_cons_zero, List.getElem?_cons_succ, List.set_cons_zero, List.set_cons_succ, gAdd_int, gAdd_str, gAdd_t, gAdd_r, catC_s, gSub_int, gMul_l, gMul_r, gFdiv_int, gMod_int, gLt_int, gLe_int, gGt_int, gGe_int, gInt_int, gAbs_int, gLen_tup, gLen_str, gLen_r, lenC_s, gTpl_, gLsd_, gIx_r, ixC_s, ixO_s, gIx_t, gIx_s, ixS_s, atI_0, atI_1, atI_2, atI_3, atI_4, atI_5, gAppend_r, appC_s, gExtend_r, extC_s, gPop_r, popC_s, gSet_r, setC_0, setC_2, gTuple_r, tupC_s, gTuple_t, gList_r, gList_t, newC_s, gSl_r, slC_s, gSl_t, gSl_s, cut_take, cut_drop, cut_init, cut_mid, Int.toNat_natCast, lstC_lst, lstC_rol, lstAt_C, isi_str, isi_int, isi_bool, isi_tup, isi_lst, isO_s, isB_1, isB_2, isB_3, isB_4, isB_5, isB_6, isB_7, isB_8, isB_9, isB_10, isB_11, isB_12, isB_13, isB_14, isB_15, isB_16, isB_17, isB_18, isB_19, isB_20, isB_21, isB_22, isB_23, isB_24, isB_25, isB_26, gSum_r, sumC_s, sumO_s, gMin_, gMax_, qEq_int, qNe_int, qEq_str, qNe_str, gNeg_z, tgT_, tgU_, tgL0, tgL1, eTab_, kTab_, sX_, tgIxX_, kX1_, kX2_, kX3_, gSetX_r, setX_0, setX_2, setX_s, sPar_, kPar_, eFv_, eGetD_, kG1_, isDic_r, isDC_d, kG1b_, kG2_, kG3_, gGetD_r, getC_s, gMaxL_r, maxC_, gRep_r, repC_, eD0_, gDget_r, dgC_s, List.getElem?_concat_length, set_end, sF_, kFor_, iR1_, kR1_, iR2_, kR2_, kR3_, iA_, kAny_r, kAny_t, kAny_s, iaC_s, eLc_, kLc_, wipeD_c, wipeD_n, tYes_, put_one, sAug_, gAug_i, sBk_, sCt_, sW_, st_len, st_p, st_k, st_0, st_q, st_set_p, st_set_k, st_set_0, st_push, sx_len, sx_k, sx_0, sx_q, sx_set_k, sx_set_0, sx_push, So_rt, So_nx, So_ex, Tn_nx, Tn_ct, Tn_bk, Tn_rt, Tn_ex, Bool.false_eq_true, if_true, if_false, reduceIte, Option.map_some, Option.bind_some, Bool.not_true, Bool.not_false, decide_true, decide_false, eq_self, List.length_append, List.length_singleton, List.length_cons, List.length_nil, List.map_cons, List.map_nil, Nat.sub_self, List.replicate_zero, List.append_nil, List.cons_append, List.nil_append, List.append_assoc, List.replicate_succ, Nat.reduceSub, Nat.reduceAdd, Nat.add_zero, Nat.zero_add, Nat.add_assoc, Nat.reduceLeDiff, Int.natCast_add, Int.cast_ofNat_Int, Int.reduceEq, Int.reduceLT, Int.reduceLE, Int.reduceAdd, Int.reduceSub, Int.reduceNeg, Int.reduceToNat, List.take_succ_cons, List.take_zero, List.drop_succ_cons, List.drop_zero, List.dropLast_concat, Dl.atI_last, gFdivW_, gJoin_r, joinC_, gUpper_, gRepl_, gInK_, gNinK_, r_ax_or, r_ax_ur, r_ax_pr, r_ax_ol, r_ax_ul, r_ax_pl, r_ax_ct, r_or_ax, r_or_ur, r_or_pr, r_or_ol, r_or_ul, r_or_pl, r_or_ct, r_ur_ax, r_ur_or, r_ur_pr, r_ur_ol, r_ur_ul, r_ur_pl, r_ur_ct, r_pr_ax, r_pr_or, r_pr_ur, r_pr_ol, r_pr_ul, r_pr_pl, r_pr_ct, r_ol_ax, r_ol_or, r_ol_ur, r_ol_pr, r_ol_ul, r_ol_pl, r_ol_ct, r_ul_ax, r_ul_or, r_ul_ur, r_ul_pr, r_ul_ol, r_ul_pl, r_ul_ct, r_pl_ax, r_pl_or, r_pl_ur, r_pl_pr, r_pl_ol, r_pl_ul, r_pl_ct, r_ct_ax, r_ct_or, r_ct_ur, r_ct_pr, r_ct_ol, r_ct_ul, r_ct_pl, q1, q2, q3, q4, q5, q6, e1, e2, e3, gInt_bl, gIs_tn, gIs_nn, gIsN_tn, gIsN_nn, gReverse_r, revC_s, iV_, kVV_t, kVV_r, revI_s])
-- fa
theorem gm0 {M X : List Cell} : (M ++ X)[M.length]? = X[0]? := by rw [List.getElem?_append_right (Nat.le_refl _), Nat.sub_self]
theorem gmk {M X : List Cell} {k : Nat} : (M ++ X)[M.length + k]? = X[k]? := by rw [List.getElem?_append_right (Nat.le_add_right ..), Nat.add_sub_cancel_left]
section
variable {A : Str → Prop}
/-- what fits, decided by the law -/
theorem fits_s (n : Nat) {b : Nat} {x y z : Int} {t : DT} {S : Store} (hS : SOK S) (h : S[b]? = some (.lst [.int x, .int y, .int z])) (hs : Shape A t) (hp : ∀ p ∈ t.ps, Made A p) (ne : t.ps ≠ []) (hx : x ≤ 40) (hy : y ≤ 40) (hz : z ≤ 80) :
    tab (n + 101) ._law_fits [t.d, .ref b] S = .ok (.bl true) S ∧ Made A t ∨ tab (n + 101) ._law_fits [t.d, .ref b] S = .ok (.bl false) S := by
  obtain ⟨w1, w2, _⟩ := hs.wide hp ne
  classical
  have e := fits_t n (A := A) (x := x) (y := y) (z := z) (t := t) S hS h (fun k hk => ⟨(w1 k hk).1, by have := (w1 k hk).2; omega⟩) (by omega)
  by_cases f : FitB x y z t
  · refine .inl ⟨?_, hs.made hp ne f hx hy hz⟩
    refine Eq.trans e ?_
    exact congrArg (fun b => R.ok (D.bl b) S) (decide_eq_true f)
  · refine .inr (Eq.trans e ?_)
    exact congrArg (fun b => R.ok (D.bl b) S) (decide_eq_false f)
theorem dtds_one (t : DT) : dtds [t] = [t.d] := rfl
theorem cut_head {α : Type} {xs ys : List α} {k : Int} (h : k = xs.length) : cutD (xs ++ ys) none (some k) = xs := cutA h
theorem grown_t (n : Nat) {N p h b : Nat} {T : Store} {P : List D} {hs : List DT} {x y z : Int} (hh : T[p]? = some (.lst P)) (hq : T[h]? = some (.lst (dtds hs))) (hb : T[b]? = some (.lst [.int x, .int y, .int z])) (hqp : h ≠ p) (hbp : b ≠ p) (hp : Pool N P) (hN : N + 100 ≤ 900000) (hT : SOK T) (hm : ∀ t ∈ hs, Made A t) (ne : hs ≠ []) (hl : hs.length ≤ 1000) (hx : x ≤ 40) (hy : y ≤ 40) (hz : z ≤ 80) (way : Int) {ways : Int} (h1 : 1 ≤ ways) (h7 : ways ≤ 7) :
    Dl.Sp (tab (n + 102) ._law_grown [.ref p, .ref h, .int way, .ref b, .int ways] T) fun r => ∃ P', Pool (N + 7) P' ∧ (r = .ok (.ref h) (T.set p (.lst P')) ∨ ∃ t init, Made A t ∧ t.ps ≠ [] ∧ hs = init ++ t.ps ∧ r = .ok (.ref T.length) (T.set p (.lst P') ++ [.lst (dtds (init ++ [t]))])) := by
  refine Dl.sp_pool (g := b__law_grown (tab (n + 101))) rfl hh fun lp Q hQ => ?_
  have lq := get_lt hq
  have lb := get_lt hb
  have q2 : ∀ P' M, (Dl.st T p P' M)[h]? = some (.lst (dtds hs)) := fun P' M => by rw [Dl.st_q lq hqp]; exact hq
  have b2 : ∀ P' M, (Dl.st T p P' M)[b]? = some (.lst [.int x, .int y, .int z]) := fun P' M => by rw [Dl.st_q lb hbp]; exact hb
  have S0 : ∀ Q' L, flats Q' = true → Dl.FL L → SOK (Dl.st T p Q' L) := fun Q' L h1 h2 => SOK.st hT h1 h2
  have zh := dtds_len hs
  unfold b__law_grown
  simp_arith []
  refine Dl.forQ (fun j ρ S => ∃ (P' : List D) (v5 v6 : Option D), Pool (N + j) P' ∧ ρ = [some (.ref p), some (.ref h), some (.int way), some (.ref b), some (.int ways), v5, v6] ∧ S = Dl.st T p P' [])
    ⟨P, _, _, hp, rfl, rfl⟩ ?_ ?_
  · rintro j d _ _ hj ⟨P1, v5, v6, hp1, rfl, rfl⟩
    obtain ⟨hj, rfl⟩ := Dl.rng_get hj
    refine ⟨chk_nil, _, _, rfl, ?_⟩
    have m1 : ¬ ways = 0 := by omega
    obtain ⟨P2, hp2, e | ⟨t, init, s1, s2, s3, s4, e⟩⟩ := grow_t (A := A) (n + 98) (Dl.st_p (P := P1) (L := []) lp) (q2 P1 []) hqp hp1 (by omega) (S0 _ _ hp1.flat .nil) hm ne ((way + (0 + (j : Int))) % ways)
    · rw [Dl.st_set_p lp] at e
      have ef := fits_no (n + 100) (l := b) (Dl.st T p P2 []) (S0 _ _ hp2.flat .nil)
      rw [show n + 100 + 1 = n + 101 from rfl] at ef
      rw [show n + 98 + 3 = n + 101 from rfl] at e
      simp_arith [e, ef]
      exact ⟨P2, _, _, hp2.mono (by omega), rfl, rfl⟩
    · rw [Dl.st_set_p lp] at e
      rw [show n + 98 + 3 = n + 101 from rfl] at e
      have mp : ∀ p ∈ t.ps, Made A p := fun p hp => hm p (by rw [s3]; exact List.mem_append_right _ hp)
      have zp := dtds_len t.ps
      rcases fits_s n (S0 P2 [] hp2.flat .nil) (b2 P2 []) s1 mp s2 hx hy hz with ⟨ef, mt⟩ | ef
      · have c1 : cutD (dtds hs) none (some ((hs.length : Int) - (t.ps.length : Int))) = dtds init := by
          rw [s3, dtds_app]
          exact cut_head (by rw [List.length_append, dtds_len]; omega)
        have zi := dtds_len init
        have li : init.length ≤ 1000 := by rw [s3, List.length_append] at hl; omega
        simp_arith [e, ef, q2, zh, dt5, zp, c1]
        exact Dl.Qpl (k := 2) (hT.wf rfl) (wfs_flat hp2.flat) (by show some (Cell.lst (dtds init ++ [t.d])) = some (Cell.lst (dtds init ++ dtds [t])); rfl) (by rw [← dtds_app]; exact wfs_flat (dtds_flat _)) (hQ _ ⟨P2, hp2.mono (by omega), .inr ⟨t, init, mt, s2, s3, by rw [dtds_app]⟩⟩)
      · simp_arith [e, ef]
        exact ⟨P2, _, _, hp2.mono (by omega), rfl, rfl⟩
  · rintro _ _ ⟨P1, v5, v6, hp1, rfl, rfl⟩
    rw [rng_length] at hp1
    refine ⟨chk_nil, ?_⟩
    simp_arith []
    exact Dl.Qp (hT.wf rfl) (wfs_flat hp1.flat) (by show decide (h < T.length) = true; exact decide_eq_true lq) (hQ _ ⟨P1, hp1.mono (by omega), .inl rfl⟩)
noncomputable def jt2 (F : FN → List D → M D) : SX := (sQ (sIf (tN (tV (eF (F ._law_fits) (aC (eV 4) (aC (eV 2) aN))))) (sN 4 (Dl.e2 gIx (eV 1) (Dl.e1 gNeg (eC (.int 1))))) sP)
  (sR (Dl.e2 gAdd (eSl (eV 1) oN (oI (Dl.e1 gNeg (eC (.int 2))))) (eB gLsd (aC (eV 4) aN)))))
noncomputable def jt1 (F : FN → List D → M D) : SX := (sQ (sIf (tN (tV (eF (F ._law_fits) (aC (eV 4) (aC (eV 2) aN))))) (sN 4 (eF (F ._law_grow) (aC (eV 0) (aC (eV 1) (aC (Dl.e2 gIx (eB gLsd (aC (eC (.int 1)) (aC (eC (.int 3)) (aC (eC (.int 4)) aN)))) (eF (F ._law_draw) (aC (eV 0) (aC (eC (.int 3)) aN)))) aN))))) sP)
  (jt2 F))
theorem b_joined_eq (F : FN → List D → M D) : b__law_joined F = (sQ (sN 4 (eC .non))
  (sQ (sIf (tE (Dl.e2 gEq (eV 3) (eC (.int 7)))) (sN 4 (eF (F ._law_grow) (aC (eV 0) (aC (eV 1) (aC (eC (.int 6)) aN))))) sP)
  (jt1 F))) := rfl
/-- what was made: nothing, or a step over the last two -/
def Mv (A : Str → Prop) (u v : DT) (m : D) : Prop := m = .non ∨ ∃ t, m = t.d ∧ Shape A t ∧ t.ps = [u, v]
theorem cut_two {hs : List DT} {u v : DT} : cutD (dtds (hs ++ [u, v])) none (some (-2)) = dtds hs := by
  rw [dtds_app]
  unfold cutD HT.sIx
  have : (dtds hs ++ dtds [u, v]).length = hs.length + 2 := by rw [List.length_append, dtds_len, dtds_len]; rfl
  rw [this]
  simp only [show ((-2 : Int) < 0) = True from eq_true (by decide), if_true]
  rw [List.drop_zero, show (-2 + ((hs.length + 2 : Nat) : Int)).toNat = hs.length by omega, Nat.sub_zero, ← dtds_len hs, List.take_left]
section
variable (n : Nat) {N p h b : Nat} {T : Store} {hs : List DT} {u v : DT} {x y z : Int} (lp : p < T.length) (q2 : ∀ P' M, (Dl.st T p P' M)[h]? = some (.lst (dtds (hs ++ [u, v])))) (b2 : ∀ P' M, (Dl.st T p P' M)[b]? = some (.lst [.int x, .int y, .int z])) (hqp : h ≠ p) (hT : SOK T) (hm : ∀ t ∈ hs ++ [u, v], Made A t) (hl : hs.length ≤ 1000) (hx : x ≤ 40) (hy : y ≤ 40) (hz : z ≤ 80) (ways : Int) (hN : N + 100 ≤ 900000)
  {Q : R D → Prop} (hQ : ∀ r, (∃ P' t, Pool (N + 3) P' ∧ Made A t ∧ t.cnt ≤ u.cnt + v.cnt + 1 ∧ t.dp ≤ 1 + max u.dp v.dp ∧ r = .ok (.ref T.length) (T.set p (.lst P') ++ [.lst (dtds (hs ++ [t]))])) → Q r)
include lp q2 b2 hT hm hl hx hy hz hQ
theorem jt2_t {M : Nat} {P : List D} {L : List Cell} (hL : Dl.FL L) (hp : Pool M P) (hM : M ≤ N + 3) {m : D} (hmv : Mv A u v m) :
    So T.length Q (jt2 (tab (n + 101)) [some (.ref p), some (.ref h), some (.ref b), some (.int ways), some m] (Dl.st T p P L)) := by
  have S1 : SOK (Dl.st T p P L) := SOK.st hT hp.flat hL
  have x1 : atI (dtds (hs ++ [u, v])) (-1) = some v.d := by
    rw [show hs ++ [u, v] = (hs ++ [u]) ++ [v] by rw [List.append_assoc]; rfl, dtds_app]
    exact Dl.atI_last
  have c1 := cut_two (hs := hs) (u := u) (v := v)
  have zi := dtds_len hs
  have mv : Made A v := hm v (by simp)
  have fin : ∀ (t : DT) (L' : List Cell), L' = [.lst (dtds hs), .lst [t.d], .lst (dtds hs ++ [t.d])] → Made A t → t.cnt ≤ u.cnt + v.cnt + 1 → t.dp ≤ 1 + max u.dp v.dp → Q (cmp T.length (.ref (T.length + (L.length + 2))) (Dl.st T p P (L ++ L'))) := fun t L' hL' h1 h2 h3 => by
    subst hL'
    exact Dl.Qpl (k := L.length + 2) (xs := dtds (hs ++ [t])) (hT.wf rfl) (wfs_flat hp.flat) (by rw [List.getElem?_append_right (by omega), Nat.add_sub_cancel_left, dtds_app]; rfl) (wfs_flat (dtds_flat _)) (hQ _ ⟨P, t, hp.mono hM, h1, h2, h3, rfl⟩)
  unfold jt2
  rcases hmv with rfl | ⟨t, rfl, s1, s2⟩
  · have ef := fits_no (n + 100) (l := b) (Dl.st T p P L) S1
    rw [show n + 100 + 1 = n + 101 from rfl] at ef
    simp_arith [ef, q2, x1, c1, zi, gm0, gmk]
    exact fin v _ rfl mv (by omega) (by omega)
  · have ec : t.cnt = 1 + (u.cnt + (v.cnt + 0)) := by rw [DT.cnt_eq, s2]; rfl
    have ed : t.dp = 1 + max u.dp (max v.dp 0) := by rw [DT.dp_eq, s2]; rfl
    rcases fits_s n S1 (b2 P L) s1 (fun p hp => hm p (by rw [s2] at hp; exact List.mem_append_right _ hp)) (by rw [s2]; simp) hx hy hz with ⟨ef, mt⟩ | ef
    · simp_arith [ef, q2, x1, c1, zi, gm0, gmk]
      exact fin t _ rfl mt (by omega) (by omega)
    · simp_arith [ef, q2, x1, c1, zi, gm0, gmk]
      exact fin v _ rfl mv (by omega) (by omega)
include hqp hN in
theorem grow_two {M : Nat} {P : List D} {L : List Cell} (hL : Dl.FL L) (hp : Pool M P) (hM : M ≤ N + 3) (way : Int) (w0 : ¬ way = 0) (w2 : ¬ way = 2) (w5 : ¬ way = 5) : ∃ P' m, Pool (M + 1) P' ∧ Mv A u v m ∧ tab (n + 101) ._law_grow [.ref p, .ref h, .int way] (Dl.st T p P L) = .ok m (Dl.st T p P' L) := by
  obtain ⟨P2, hp2, e | ⟨t, init, s1, s2, s3, s4, e⟩⟩ := grow_t (A := A) (n + 98) (Dl.st_p (P := P) (L := L) lp) (q2 P L) hqp hp (by omega) (SOK.st hT hp.flat hL) hm (by simp) way
  · rw [Dl.st_set_p lp] at e
    exact ⟨P2, _, hp2, .inl rfl, e⟩
  · rw [Dl.st_set_p lp] at e
    have := List.append_inj' s3 (by rw [s4 w0 w2 w5]; rfl)
    exact ⟨P2, _, hp2, .inr ⟨t, rfl, s1, this.2.symm⟩, e⟩
include hqp hN in
theorem jt1_t {M : Nat} {P : List D} (hp : Pool M P) (hM : M ≤ N + 1) {m : D} (hmv : Mv A u v m) :
    So T.length Q (jt1 (tab (n + 101)) [some (.ref p), some (.ref h), some (.ref b), some (.int ways), some m] (Dl.st T p P [])) := by
  have S1 : SOK (Dl.st T p P []) := SOK.st hT hp.flat .nil
  have go : ∀ {M P L m}, Dl.FL L → Pool M P → M ≤ N + 3 → Mv A u v m → So T.length Q (jt2 (tab (n + 101)) [some (.ref p), some (.ref h), some (.ref b), some (.int ways), some m] (Dl.st T p P L)) := fun a b' c d => jt2_t n lp q2 b2 hT hm hl hx hy hz ways hQ a b' c d
  have redo : ∃ d P1 w P2 m', Pool (M + 2) P2 ∧ Mv A u v m' ∧ tab (n + 101) ._law_draw [.ref p, .int 3] (Dl.st T p P [.lst [.int 1, .int 3, .int 4]]) = .ok (.int d) (Dl.st T p P1 [.lst [.int 1, .int 3, .int 4]]) ∧ atI [D.int 1, .int 3, .int 4] d = some (.int w) ∧ tab (n + 101) ._law_grow [.ref p, .ref h, .int w] (Dl.st T p P1 [.lst [.int 1, .int 3, .int 4]]) = .ok m' (Dl.st T p P2 [.lst [.int 1, .int 3, .int 4]]) := by
    obtain ⟨d, P1, hp1, a1, b1, e1⟩ := draw_t (n + 99) (many := 3) (Dl.st_p (P := P) (L := [.lst [.int 1, .int 3, .int 4]]) lp) hp (by omega) (by decide)
    rw [Dl.st_set_p lp] at e1
    have hd : d = 0 ∨ d = 1 ∨ d = 2 := by omega
    obtain ⟨w, hw, w0, w2, w5⟩ : ∃ w : Int, atI [D.int 1, .int 3, .int 4] d = some (.int w) ∧ ¬ w = 0 ∧ ¬ w = 2 ∧ ¬ w = 5 := by
      rcases hd with rfl | rfl | rfl
      · exact ⟨1, atI_0, by decide, by decide, by decide⟩
      · exact ⟨3, atI_1, by decide, by decide, by decide⟩
      · exact ⟨4, atI_2, by decide, by decide, by decide⟩
    obtain ⟨P2, m', hp2, hm', e2⟩ := grow_two n lp q2 b2 hqp hT hm hl hx hy hz hN hQ (.one (c := Dl.Cell.lst [D.int 1, .int 3, .int 4]) rfl) hp1 (by omega) w w0 w2 w5
    exact ⟨d, P1, w, P2, m', hp2, hm', e1, hw, e2⟩
  obtain ⟨d, P1, w, P2, m', hp2, hm', e1, hw, e2⟩ := redo
  have g2 := go (L := [.lst [.int 1, .int 3, .int 4]]) (.one (c := Dl.Cell.lst [D.int 1, .int 3, .int 4]) rfl) hp2 (by omega) hm'
  unfold jt1
  rcases hmv with rfl | ⟨t, rfl, s1, s2⟩
  · have ef := fits_no (n + 100) (l := b) (Dl.st T p P []) S1
    rw [show n + 100 + 1 = n + 101 from rfl] at ef
    simp_arith [ef, e1, hw, e2]
    exact g2
  · rcases fits_s n S1 (b2 P []) s1 (fun p hp => hm p (by rw [s2] at hp; exact List.mem_append_right _ hp)) (by rw [s2]; simp) hx hy hz with ⟨ef, mt⟩ | ef
    · have g1 := go (L := []) .nil hp (by omega) (m := t.d) (.inr ⟨t, rfl, s1, s2⟩)
      simp_arith [ef]
      exact g1
    · simp_arith [ef, e1, hw, e2]
      exact g2
end
theorem joined_t (n : Nat) {N p h b : Nat} {T : Store} {P : List D} {hs : List DT} {u v : DT} {x y z : Int} (hh : T[p]? = some (.lst P)) (hq : T[h]? = some (.lst (dtds (hs ++ [u, v])))) (hb : T[b]? = some (.lst [.int x, .int y, .int z])) (hqp : h ≠ p) (hbp : b ≠ p) (hp : Pool N P) (hN : N + 100 ≤ 900000) (hT : SOK T) (hm : ∀ t ∈ hs ++ [u, v], Made A t) (hl : hs.length ≤ 1000) (hx : x ≤ 40) (hy : y ≤ 40) (hz : z ≤ 80) (ways : Int) :
    Dl.Sp (tab (n + 102) ._law_joined [.ref p, .ref h, .ref b, .int ways] T) fun r => ∃ P' t, Pool (N + 3) P' ∧ Made A t ∧ t.cnt ≤ u.cnt + v.cnt + 1 ∧ t.dp ≤ 1 + max u.dp v.dp ∧ r = .ok (.ref T.length) (T.set p (.lst P') ++ [.lst (dtds (hs ++ [t]))]) := by
  refine Dl.sp_pool (g := b__law_joined (tab (n + 101))) rfl hh fun lp Q hQ => ?_
  have lq := get_lt hq
  have lb := get_lt hb
  have q2 : ∀ P' M, (Dl.st T p P' M)[h]? = some (.lst (dtds (hs ++ [u, v]))) := fun P' M => by rw [Dl.st_q lq hqp]; exact hq
  have b2 : ∀ P' M, (Dl.st T p P' M)[b]? = some (.lst [.int x, .int y, .int z]) := fun P' M => by rw [Dl.st_q lb hbp]; exact hb
  have go : ∀ {M P m}, Pool M P → M ≤ N + 1 → Mv A u v m → So T.length Q (jt1 (tab (n + 101)) [some (.ref p), some (.ref h), some (.ref b), some (.int ways), some m] (Dl.st T p P [])) := fun a c d => jt1_t n lp q2 b2 hqp hT hm hl hx hy hz ways hN hQ a c d
  rw [b_joined_eq]
  by_cases w : ways = 7
  · obtain ⟨P2, m', hp2, hm', e2⟩ := grow_two n lp q2 b2 hqp hT hm hl hx hy hz hN hQ (L := []) .nil hp (by omega) 6 (by decide) (by decide) (by decide)
    have g := go hp2 (by omega) hm'
    subst w
    simp_arith [e2]
    exact g
  · have g := go hp (by omega) (m := .non) (.inl rfl)
    simp_arith [w]
    exact g
end

end Lw

set_option Elab.async false
set_option linter.all false
set_option maxRecDepth 100000
namespace Lw
open PySem L2 Dl
variable [Fa]
local macro_rules | `(tactic| simp_arith [$ls,*]) => `(tactic| simp (disch := first | omega | assumption | (simp only [List.length_cons, List.length_nil, List.length_append, List.length_take, List.length_drop]; omega) | (simp only [List.length_cons, List.length_nil])) only [sQ_, sP_, sE_, sR_, sIf_, sN_, sA_, tgO_nx, nm_, tgIx_, eC_, eV0, eV1, e1_, e2_, eB_, eF_, aN_, aC_, eMt_, eSl_, oN_, oI_, tV_, tE_, tA_, tO_, tN_, eIf_, eAnd_, eOr_, eNot_, eCh_, seq_nx, seq_rt, seq_bk, seq_ct, seq_ex, toR_some, toR_none, toT_some, truD_bl, truD_int, truD_tup, truD_non, truD_str, truD_ref, truC_lst, tyD_str, tyD_tup, tyD_int, tyD_bl, tyD_non, tyD_ref, tyC_lst, tyC_rol, tyC_dic, kE_, kR_, kIf_t, kIf_f, kN_, kA_, kIx1_, kIx2_, kIx3_, kE1_, kE21_, kE2_, kB_, kF_, kC1_, kC_, kM1_, kM2_, kM_, kS1_, kS2_, kS3_, kO_, kV_, kT_, kAn_t, kAn_f, kOr_t, kOr_f, kNo_, kIfE_t, kIfE_f, kVa_, kVa2_t, kVa2_f, kVo_, kVo2_t, kVo2_f, kVn_, kVn2_, kH_, kH1_, kH2_t, kH2_f, kH3_, List.getElem?_cons_zero, List.getElem?_cons_succ, List.set_cons_zero, List.set_cons_succ, gAdd_int, gAdd_str, gAdd_t, gAdd_r, catC_s, gSub_int, gMul_l, gMul_r, gFdiv_int, gMod_int, gLt_int, gLe_int, gGt_int, gGe_int, gInt_int, gAbs_int, gLen_tup, gLen_str, gLen_r, lenC_s, gTpl_, gLsd_, gIx_r, ixC_s, ixO_s, gIx_t, gIx_s, ixS_s, atI_0, atI_1, atI_2, atI_3, atI_4, atI_5, gAppend_r, appC_s, gExtend_r, extC_s, gPop_r, popC_s, gSet_r, setC_0, setC_2, gTuple_r, tupC_s, gTuple_t, gList_r, gList_t, newC_s, gSl_r, slC_s, gSl_t, gSl_s, cut_take, cut_drop, cut_init, cut_mid, Int.toNat_natCast, lstC_lst, lstC_rol, lstAt_C, isi_str, isi_int, isi_bool, isi_tup, isi_lst, isO_s, isB_1, isB_2, isB_3, isB_4, isB_5, isB_6, isB_7, isB_8, isB_9, isB_10, isB_11, isB_12, isB_13, isB_14, isB_15, isB_16, isB_17, isB_18, isB_19, isB_20, isB_21, isB_22, isB_23, isB_24, isB_25, isB_26, gSum_r, sumC_s, sumO_s, gMin_, gMax_, qEq_int, qNe_int, qEq_str, qNe_str, gNeg_z, tgT_, tgU_, tgL0, tgL1, eTab_, kTab_, sX_, tgIxX_, kX1_, kX2_, kX3_, gSetX_r, setX_0, setX_2, setX_s, sPar_, kPar_, eFv_, eGetD_, kG1_, isDic_r, isDC_d, kG1b_, kG2_, kG3_, gGetD_r, getC_s, gMaxL_r, maxC_, gRep_r, repC_, eD0_, gDget_r, dgC_s, List.getElem?_concat_length, set_end, sF_, kFor_, iR1_, kR1_, iR2_, kR2_, kR3_, iA_, kAny_r, kAny_t, kAny_s, iaC_s, eLc_, kLc_, wipeD_c, wipeD_n, tYes_, put_one, sAug_, gAug_i, sBk_, sCt_, sW_, st_len, st_p, st_k, st_0, st_q, st_set_p, st_set_k, st_set_0, st_push, sx_len, sx_k, sx_0, sx_q, sx_set_k, sx_set_0, sx_push, So_rt, So_nx, So_ex, Tn_nx, Tn_ct, Tn_bk, Tn_rt, Tn_ex, Bool.false_eq_true, if_true, if_false, reduceIte, Option.map_some, Option.bind_some, Bool.not_true, Bool.not_false, decide_true, decide_false, eq_self, List.length_append, List.length_singleton, List.length_cons, List.length_nil, List.map_cons, List.map_nil, Nat.sub_self, List.replicate_zero, List.append_nil, List.cons_append, List.nil_append, List.append_assoc, List.replicate_succ, Nat.reduceSub, Nat.reduceAdd, Nat.add_zero, Nat.zero_add, Nat.add_assoc, Nat.reduceLeDiff, Int.natCast_add, Int.cast_ofNat_Int, Int.reduceEq, Int.reduceLT, Int.reduceLE, Int.reduceAdd, Int.reduceSub, Int.reduceNeg, Int.reduceToNat, List.take_succ_cons, List.take_zero, List.drop_succ_cons, List.drop_zero, List.dropLast_concat, Dl.atI_last, gFdivW_, gJoin_r, joinC_, gUpper_, gRepl_, gInK_, gNinK_, r_ax_or, r_ax_ur, r_ax_pr, r_ax_ol, r_ax_ul, r_ax_pl, r_ax_ct, r_or_ax, r_or_ur, r_or_pr, r_or_ol, r_or_ul, r_or_pl, r_or_ct, r_ur_ax, r_ur_or, r_ur_pr, r_ur_ol, r_ur_ul, r_ur_pl, r_ur_ct, r_pr_ax, r_pr_or, r_pr_ur, r_pr_ol, r_pr_ul, r_pr_pl, r_pr_ct, r_ol_ax, r_ol_or, r_ol_ur, r_ol_pr, r_ol_ul, r_ol_pl, r_ol_ct, r_ul_ax, r_ul_or, r_ul_ur, r_ul_pr, r_ul_ol, r_ul_pl, r_ul_ct, r_pl_ax, r_pl_or, r_pl_ur, r_pl_pr, r_pl_ol, r_pl_ul, r_pl_ct, r_ct_ax, r_ct_or, r_ct_ur, r_ct_pr, r_ct_ol, r_ct_ul, r_ct_pl, q1, q2, q3, q4, q5, q6, e1, e2, e3, gInt_bl, gIs_tn, gIs_nn, gIsN_tn, gIsN_nn, gReverse_r, revC_s, iV_, kVV_t, kVV_r, revI_s, $ls,*])
local macro_rules | `(tactic| walk_at "ev") => `(tactic| simp (disch := first | omega | assumption | (simp only [List.length_cons, List.length_nil, List.length_append, List.length_take, List.length_drop]; omega) | (simp only [List.length_cons, List.length_nil])) only [sQ_, sP_, sE_, sR_, sIf_, sN_, sA_, tgO_nx, nm_, tgIx_, eC_, eV0, eV1, e1_, e2_, eB_, eF_, aN_, aC_, eMt_, eSl_, oN_, oI_, tV_, tE_, tA_, tO_, tN_, eIf_, eAnd_, eOr_, eNot_, eCh_, seq_nx, seq_rt, seq_bk, seq_ct, seq_ex, toR_some, toR_none, toT_some, truD_bl, truD_int, truD_tup, truD_non, truD_str, truD_ref, truC_lst, tyD_str, tyD_tup, tyD_int, tyD_bl, tyD_non, tyD_ref, tyC_lst, tyC_rol, tyC_dic, kE_, kR_, kIf_t, kIf_f, kN_, kA_, kIx1_, kIx2_, kIx3_, kE1_, kE21_, kE2_, kB_, kF_, kC1_, kC_, kM1_, kM2_, kM_, kS1_, kS2_, kS3_, kO_, kV_, kT_, kAn_t, kAn_f, kOr_t, kOr_f, kNo_, kIfE_t, kIfE_f, kVa_, kVa2_t, kVa2_f, kVo_, kVo2_t, kVo2_f, kVn_, kVn2_, kH_, kH1_, kH2_t, kH2_f, kH3_, List.getElem?_cons_zero, List.getElem?_cons_succ, List.set_cons_zero, List.set_cons_succ, gAdd_int, gAdd_str, gAdd_t, gAdd_r, catC_s, gSub_int, gMul_l, gMul_r, gFdiv_int, gMod_int, gLt_int, gLe_int, gGt_int, gGe_int, gInt_int, gAbs_int, gLen_tup, gLen_str, gLen_r, lenC_s, gTpl_, gLsd_, gIx_r, ixC_s, ixO_s, gIx_t, gIx_s, ixS_s, atI_0, atI_1, atI_2, atI_3, atI_4, atI_5, gAppend_r, appC_s, gExtend_r, extC_s, gPop_r, popC_s, gSet_r, setC_0, setC_2, gTuple_r, tupC_s, gTuple_t, gList_r, gList_t, newC_s, gSl_r, slC_s, gSl_t, gSl_s, cut_take, cut_drop, cut_init, cut_mid, Int.toNat_natCast, lstC_lst, lstC_rol, lstAt_C, isi_str, isi_int, isi_bool, isi_tup, isi_lst, isO_s, isB_1, isB_2, isB_3, isB_4, isB_5, isB_6, isB_7, isB_8, isB_9, isB_10, isB_11, isB_12, isB_13, isB_14, isB_15, isB_16, isB_17, isB_18, isB_19, isB_20, isB_21, isB_22, isB_23, isB_24, isB_25, isB_26, gSum_r, sumC_s, sumO_s, gMin_, gMax_, qEq_int, qNe_int, qEq_str, qNe_str, gNeg_z, tgT_, tgU_, tgL0, tgL1, eTab_, kTab_, sX_, tgIxX_, kX1_, kX2_, kX3_, gSetX_r, setX_0, setX_2, setX_s, sPar_, kPar_, eFv_, eGetD_, kG1_, isDic_r, isDC_d, kG1b_, kG2_, kG3_, gGetD_r, getC_s, gMaxL_r, maxC_, gRep_r, repC_, eD0_, gDget_r, dgC_s, List.getElem?_concat_length, set_end, sF_, kFor_, iR1_, kR1_, iR2_, kR2_, kR3_, iA_, kAny_r, kAny_t, kAny_s, iaC_s, eLc_, kLc_, wipeD_c, wipeD_n, tYes_, put_one, sAug_, gAug_i, sBk_, sCt_, sW_, st_len, st_p, st_k, st_0, st_q, st_set_p, st_set_k, st_set_0, st_push, sx_len, sx_k, sx_0, sx_q, sx_set_k, sx_set_0, sx_push, So_rt, So_nx, So_ex, Tn_nx, Tn_ct, Tn_bk, Tn_rt, Tn_ex, Bool.false_eq_true, if_true, if_false, reduceIte, Option.map_some, Option.bind_some, Bool.not_true, Bool.not_false, decide_true, decide_false, eq_self, List.length_append, List.length_singleton, List.length_cons, List.length_nil, List.map_cons, List.map_nil, Nat.sub_self, List.replicate_zero, List.append_nil, List.cons_append, List.nil_append, List.append_assoc, List.replicate_succ, Nat.reduceSub, Nat.reduceAdd, Nat.add_zero, Nat.zero_add, Nat.add_assoc, Nat.reduceLeDiff, Int.natCast_add, Int.cast_ofNat_Int, Int.reduceEq, Int.reduceLT, Int.reduceLE, Int.reduceAdd, Int.reduceSub, Int.reduceNeg, Int.reduceToNat, List.take_succ_cons, List.take_zero, List.drop_succ_cons, List.drop_zero, List.dropLast_concat, Dl.atI_last, gFdivW_, gJoin_r, joinC_, gUpper_, gRepl_, gInK_, gNinK_, r_ax_or, r_ax_ur, r_ax_pr, r_ax_ol, r_ax_ul, r_ax_pl, r_ax_ct, r_or_ax, r_or_ur, r_or_pr, r_or_ol, r_or_ul, r_or_pl, r_or_ct, r_ur_ax, r_ur_or, r_ur_pr, r_ur_ol, r_ur_ul, r_ur_pl, r_ur_ct, r_pr_ax, r_pr_or, r_pr_ur, r_pr_ol, r_pr_ul, r_pr_pl, r_pr_ct, r_ol_ax, r_ol_or, r_ol_ur, r_ol_pr, r_ol_ul, r_ol_pl, r_ol_ct, r_ul_ax, r_ul_or, r_ul_ur, r_ul_pr, r_ul_ol, r_ul_pl, r_ul_ct, r_pl_ax, r_pl_or, r_pl_ur, r_pl_pr, r_pl_ol, r_pl_ul, r_pl_ct, r_ct_ax, r_ct_or, r_ct_ur, r_ct_pr, r_ct_ol, r_ct_ul, r_ct_pl, q1, q2, q3, q4, q5, q6, e1, e2, e3, gInt_bl, gIs_tn, gIs_nn, gIsN_tn, gIsN_nn, gReverse_r, revC_s, iV_, kVV_t, kVV_r, revI_s])
-- fa
theorem dps_app (a b : List DT) : dps (a ++ b) = max (dps a) (dps b) := by
  induction a with
  | nil => show dps b = max 0 (dps b); omega
  | cons x a ih => show max x.dp (dps (a ++ b)) = max (max x.dp (dps a)) (dps b); rw [ih]; omega
theorem cnts_one (t : DT) : cnts [t] = t.cnt := by show t.cnt + 0 = _; omega
theorem dps_one (t : DT) : dps [t] = t.dp := by show max t.dp 0 = _; omega
section
variable {A : Str → Prop}
/-- the heap, where the loop stands -/
structure Hpi (A : Str → Prop) (G : List Cell) (i : Nat) (hs : List DT) (l c d : Nat) : Prop where
  at_ : G[i]? = some (.lst (dtds hs))
  fl : Dl.FL G
  md : ∀ t ∈ hs, Made A t
  ne : hs ≠ []
  len : hs.length ≤ l
  cnt : cnts hs ≤ c
  dp : dps hs ≤ d
theorem Hpi.push {G : List Cell} {i : Nat} {hs : List DT} {l c d c2 d2 : Nat} {t : DT} (h : Hpi A G i hs l c d) (m : Made A t) (hc : c + t.cnt ≤ c2) (hd : d ≤ d2) (ht : t.dp ≤ d2) : Hpi A (G.set i (.lst (dtds hs ++ [t.d]))) i (hs ++ [t]) (l + 1) c2 d2 := by
  have lt := (List.getElem?_eq_some_iff.mp h.at_).1
  refine ⟨by rw [List.getElem?_set_self lt, dtds_app]; rfl, Dl.FL.set h.fl (c := .lst _) (flats_app (dtds_flat _) (dtds_flat [t])), fun x hx => ?_, by simp, by rw [List.length_append, List.length_singleton]; have := h.len; omega, by rw [cnts_app, cnts_one]; have := h.cnt; omega, by rw [dps_app, dps_one]; have := h.dp; omega⟩
  rcases List.mem_append.mp hx with z | z
  · exact h.md x z
  · rw [List.mem_singleton.mp z]; exact m
theorem paper_t (n : Nat) {N p q b : Nat} {T : Store} {P : List D} {ts : List Str} {start : DT} {x y z : Int} (hh : T[p]? = some (.lst P)) (hq : T[q]? = some (.lst (sts ts))) (hb : T[b]? = some (.lst [.int x, .int y, .int z])) (hqp : q ≠ p) (hbp : b ≠ p) (hp : Pool N P) (hN : N + 1000 ≤ 800000) (hT : SOK T)
    (hts : ∀ t ∈ ts, A t) (hl : 1 ≤ ts.length) (hl2 : ts.length ≤ 100) (hst : Made A start) (hx : x ≤ 40) (hy : y ≤ 40) (hz : z ≤ 80) {turns ways : Int} (t0 : 0 ≤ turns) (t1 : turns ≤ 20) (h1 : 1 ≤ ways) (h7 : ways ≤ 7) :
    Dl.Sp (tab (n + 103) ._law_paper [.ref p, .ref q, start.d, .int turns, .ref b, .int ways] T) fun r => ∃ P' t, Pool (N + 400) P' ∧ Made A t ∧ t.cnt ≤ start.cnt + 165 ∧ t.dp ≤ start.dp + 50 ∧ r = .ok t.d (T.set p (.lst P')) := by
  refine Dl.sp_pool (g := b__law_paper (tab (n + 102))) rfl hh fun lp Q hQ => ?_
  have lq := get_lt hq
  have lb := get_lt hb
  have q2 : ∀ P' M, (Dl.st T p P' M)[q]? = some (.lst (sts ts)) := fun P' M => by rw [Dl.st_q lq hqp]; exact hq
  have b2 : ∀ P' M, (Dl.st T p P' M)[b]? = some (.lst [.int x, .int y, .int z]) := fun P' M => by rw [Dl.st_q lb hbp]; exact hb
  have S0 : ∀ Q' L, flats Q' = true → Dl.FL L → SOK (Dl.st T p Q' L) := fun Q' L h1 h2 => SOK.st hT h1 h2
  have zt := sts_len ts
  unfold b__law_paper
  simp_arith []
  refine Dl.forQ (fun j ρ S => ∃ (G : List Cell) (i : Nat) (hs : List DT) (P' : List D) (v7 v8 : Option D), Hpi A G i hs (1 + j) (start.cnt + 7 * j) (start.dp + 5 + j) ∧ Pool (N + 8 * j) P' ∧ ρ = [some (.ref p), some (.ref q), some start.d, some (.int turns), some (.ref b), some (.int ways), some (.ref (T.length + i)), v7, v8] ∧ S = Dl.st T p P' G)
    ⟨[.lst [start.d]], 0, [start], P, _, _, ⟨rfl, .one (c := Dl.Cell.lst _) (dtds_flat [start]), one_mem hst, by simp, Nat.le_refl _, by rw [cnts_one]; omega, by rw [dps_one]; omega⟩, hp, rfl, rfl⟩ ?_ ?_
  · rintro j d _ _ hj ⟨G, i, hs, P1, v7, v8, hG, hp1, rfl, rfl⟩
    obtain ⟨hj, rfl⟩ := Dl.rng_get hj
    refine ⟨chk_nil, _, _, rfl, ?_⟩
    have SG : ∀ P', flats P' = true → SOK (Dl.st T p P' G) := fun P' h => S0 P' G h hG.fl
    obtain ⟨init, top, hi⟩ : ∃ init top, hs = init ++ [top] := by
      rcases List.eq_nil_or_concat hs with e | ⟨i, t, e⟩
      · exact absurd e hG.ne
      · exact ⟨i, t, by rw [e, List.concat_eq_append]⟩
    have mt := hG.md top (by rw [hi]; simp)
    have x1 : atI (dtds hs) (-1) = some top.d := by rw [hi, dtds_app]; exact Dl.atI_last
    obtain ⟨d1, P2, hp2, a1, b1, e1⟩ := draw_t (n + 100) (many := 3 + ways) (Dl.st_p (P := P1) (L := G) lp) hp1 (by omega) (by omega) (log_lt (by omega) (by omega))
    rw [Dl.st_set_p lp] at e1
    have gi := hG.at_
    have lz := dtds_len hs
    have lh := hG.len
    by_cases c2 : d1 = 2 ∧ ways = 7 ∧ sz top.g ≤ 3
    · obtain ⟨c2, c7, c3⟩ := c2
      have okg := mt.bd.g
      have lg : top.g.at_.length ≤ 3 := by rw [sz_nat] at c3; omega
      have es := law_size_t (n + 62) (A := A) 40 top.g (Dl.st T p P2 G) okg.1 okg.2 (SG _ hp2.flat)
      rw [show n + 62 + 40 = n + 102 from rfl] at es
      have ei := identity_t (n + 97) (P := A) 3 top.g (Dl.st T p P2 G) okg.1 lg (by decide) (SG _ hp2.flat)
      rw [show n + 97 + 3 + 2 = n + 102 from rfl] at ei
      obtain ⟨m1, m2, m3, m4, m5⟩ := idT_made okg.1 okg.2
      simp_arith [e1, c2, eq_true c7, gi, x1, dt2, es, c3, ei]
      exact ⟨_, i, hs ++ [idT top.g], P2, _, _, hG.push m1 (by omega) (by omega) (by omega), hp2.mono (by omega), rfl, rfl⟩
    · by_cases d3 : d1 < 3
      · obtain ⟨d, P3, t, hp3, ht, e3, hx3⟩ := pick_name (n + 100) (L := G) lp hp2 (by omega) hl hl2 (q := q) (ts := ts)
        have ea := law_axiom_t (n + 101) t (Dl.st T p P3 G) (SG _ hp3.flat)
        rw [show n + 101 + 1 = n + 102 from rfl] at ea
        have ma : Made A (.st "axiom" [.leaf t] (.leaf t) 0 0 []) := (idT_made (P := A) (k := .leaf t) (hts t ht) (by show 1 ≤ 40; decide)).1
        have fin := fun v7 v8 => (⟨_, i, hs ++ [.st "axiom" [.leaf t] (.leaf t) 0 0 []], P3, v7, v8, hG.push ma (by show _ + (1 + 0) ≤ start.cnt + 7 * (j + 1); omega) (by omega) (by show 1 + 0 ≤ _; omega), hp3.mono (by omega), rfl, rfl⟩ : ∃ (G' : List Cell) (i' : Nat) (hs' : List DT) (P' : List D) (w7 w8 : Option D), Hpi A G' i' hs' (1 + (j + 1)) (start.cnt + 7 * (j + 1)) (start.dp + (5 + (j + 1))) ∧ Pool (N + 8 * (j + 1)) P' ∧ [some (.ref p), some (.ref q), some start.d, some (.int turns), some (.ref b), some (.int ways), some (.ref (T.length + i)), v7, v8] = [some (.ref p), some (.ref q), some start.d, some (.int turns), some (.ref b), some (.int ways), some (.ref (T.length + i')), w7, w8] ∧ Dl.st T p P3 (G.set i (.lst (dtds hs ++ [(DT.st "axiom" [.leaf t] (.leaf t) 0 0 []).d]))) = Dl.st T p P' G')
        by_cases w2 : d1 = 2
        · by_cases w7 : ways = 7
          · have c3 : ¬ sz top.g ≤ 3 := fun z => c2 ⟨w2, w7, z⟩
            have okg := mt.bd.g
            have es := law_size_t (n + 62) (A := A) 40 top.g (Dl.st T p P2 G) okg.1 okg.2 (SG _ hp2.flat)
            rw [show n + 62 + 40 = n + 102 from rfl] at es
            simp_arith [e1, w2, eq_true w7, gi, x1, dt2, es, c3, q2, zt, e3, hx3, ea]
            exact fin _ _
          · simp_arith [e1, w2, w7, gi, q2, zt, e3, hx3, ea]
            exact fin _ _
        · simp_arith [e1, w2, d3, gi, q2, zt, e3, hx3, ea]
          exact fin _ _
      · have w2 : ¬ d1 = 2 := by omega
        obtain ⟨P3, hp3, e | ⟨t, init2, s1, s2, s3, e⟩⟩ := grown_t (A := A) n (h := T.length + i) (Dl.st_p (P := P2) (L := G) lp) (by rw [Dl.st_k]; exact gi) (b2 P2 G) (by omega) hbp hp2 (by omega) (SG _ hp2.flat) hG.md hG.ne (by omega) hx hy hz (d1 - 3) h1 h7
        · rw [Dl.st_set_p lp] at e
          simp_arith [e1, w2, d3, e]
          exact ⟨G, i, hs, P3, _, _, ⟨gi, hG.fl, hG.md, hG.ne, by omega, by have := hG.cnt; omega, by have := hG.dp; omega⟩, hp3.mono (by omega), rfl, rfl⟩
        · rw [Dl.st_set_p lp, Dl.st_push, Dl.st_len] at e
          simp_arith [e1, w2, d3, e]
          refine ⟨G ++ [.lst (dtds (init2 ++ [t]))], G.length, init2 ++ [t], P3, _, _, ⟨by rw [List.getElem?_concat_length], hG.fl.app (.one (c := Dl.Cell.lst _) (dtds_flat _)), fun x hx => ?_, by simp, ?_, ?_, ?_⟩, hp3.mono (by omega), rfl, rfl⟩
          · rcases List.mem_append.mp hx with z | z
            · exact hG.md x (by rw [s3]; exact List.mem_append_left _ z)
            · rw [List.mem_singleton.mp z]; exact s1
          · have := hG.len
            rw [s3, List.length_append] at this
            have := List.length_pos_iff.mpr s2
            rw [List.length_append, List.length_singleton]; omega
          · have := hG.cnt
            rw [s3, cnts_app] at this
            rw [cnts_app, cnts_one, DT.cnt_eq]; omega
          · have := hG.dp
            rw [s3, dps_app] at this
            rw [dps_app, dps_one, DT.dp_eq]; omega
  · rintro _ _ ⟨G, i, hs, P1, v7, v8, hG, hp1, rfl, rfl⟩
    rw [rng_length] at hG hp1
    refine ⟨chk_nil, ?_⟩
    have gi := hG.at_
    have lz := dtds_len hs
    have lh := hG.len
    have lpos := List.length_pos_iff.mpr hG.ne
    have hcnt := hG.cnt
    have hdp := hG.dp
    simp_arith [gi, lz]
    refine Dl.forQ (fun j ρ S => ∃ (G' : List Cell) (i' : Nat) (ks : List DT) (P' : List D) (v7 : Option D), Hpi A G' i' ks 1000 (start.cnt + 7 * turns.toNat + j) (start.dp + 5 + turns.toNat + j) ∧ ks.length + j = hs.length ∧ Pool (N + 8 * turns.toNat + 3 * j) P' ∧ ρ = [some (.ref p), some (.ref q), some start.d, some (.int turns), some (.ref b), some (.int ways), some (.ref (T.length + i')), v7, v8] ∧ S = Dl.st T p P' G')
      ⟨G, i, hs, P1, _, ⟨gi, hG.fl, hG.md, hG.ne, by omega, by omega, by omega⟩, rfl, hp1, rfl, rfl⟩ ?_ ?_
    · rintro j d _ _ hj ⟨G', i', ks, P2, v7, hK, hkl, hp2, rfl, rfl⟩
      obtain ⟨hj, rfl⟩ := Dl.rng_get hj
      refine ⟨chk_nil, _, _, rfl, ?_⟩
      obtain ⟨init, u, v, hi⟩ : ∃ init u v, ks = init ++ [u, v] := by
        rcases List.eq_nil_or_concat ks with e | ⟨k1, v, e⟩
        · rw [e, List.length_nil] at hkl; omega
        · rcases List.eq_nil_or_concat k1 with e1 | ⟨k2, u, e1⟩
          · rw [e, e1] at hkl; simp at hkl; omega
          · exact ⟨k2, u, v, by rw [e, e1, List.concat_eq_append, List.concat_eq_append, List.append_assoc]; rfl⟩
      subst hi
      have lk : init.length + 2 + j = hs.length := by rw [← hkl, List.length_append]; rfl
      obtain ⟨P3, t, hp3, mt, ct, dt, e⟩ := joined_t (A := A) n (h := T.length + i') (Dl.st_p (P := P2) (L := G') lp) (by rw [Dl.st_k]; exact hK.at_) (b2 P2 G') (by omega) hbp hp2 (by omega) (S0 P2 G' hp2.flat hK.fl) hK.md (by omega) hx hy hz ways
      rw [Dl.st_set_p lp, Dl.st_push, Dl.st_len] at e
      simp_arith [e]
      have kc := hK.cnt
      have kd := hK.dp
      rw [cnts_app] at kc
      rw [dps_app] at kd
      have kc : cnts init + (u.cnt + (v.cnt + 0)) ≤ start.cnt + 7 * turns.toNat + j := kc
      have kd : max (dps init) (max u.dp (max v.dp 0)) ≤ start.dp + 5 + turns.toNat + j := kd
      refine ⟨G' ++ [.lst (dtds (init ++ [t]))], G'.length, init ++ [t], P3, _, ⟨by rw [List.getElem?_concat_length], hK.fl.app (.one (c := Dl.Cell.lst _) (dtds_flat _)), fun x hx => ?_, by simp, by rw [List.length_append, List.length_singleton]; omega, by rw [cnts_app, cnts_one]; omega, by rw [dps_app, dps_one]; omega⟩, by rw [List.length_append, List.length_singleton]; omega, hp3.mono (by omega), rfl, rfl⟩
      rcases List.mem_append.mp hx with z | z
      · exact hK.md x (List.mem_append_left _ z)
      · rw [List.mem_singleton.mp z]; exact mt
    · rintro _ _ ⟨G', i', ks, P2, v7, hK, hkl, hp2, rfl, rfl⟩
      rw [rng_length] at hkl hp2 hK
      refine ⟨chk_nil, ?_⟩
      have : (((hs.length : Nat) : Int) - 1).toNat = hs.length - 1 := by omega
      rw [this] at hkl hp2 hK
      obtain ⟨t, rfl⟩ : ∃ t, ks = [t] := by
        match ks, hkl, hK.ne with
        | [], _, h => exact absurd rfl h
        | [t], _, _ => exact ⟨t, rfl⟩
        | _ :: _ :: _, h, _ => simp at h; omega
      have x0 : atI (dtds [t]) 0 = some t.d := atI_0
      have kc := hK.cnt
      have kd := hK.dp
      rw [cnts_one] at kc
      rw [dps_one] at kd
      simp_arith [hK.at_, x0]
      exact Dl.Qp (hT.wf rfl) (wfs_flat hp2.flat) (wf_flat (DT.flat t)) (hQ _ ⟨P2, t, hp2.mono (by omega), hK.md t (by simp), by omega, by omega, rfl⟩)
end

end Lw

set_option Elab.async false
set_option linter.all false
set_option maxRecDepth 100000
namespace Lw
open PySem L2 Dl
variable [Fa]
local macro_rules | `(tactic| simp_arith [$ls,*]) => `(tactic| simp (disch := first | omega | assumption | (simp only [List.length_cons, List.length_nil, List.length_append, List.length_take, List.length_drop]; omega) | (simp only [List.length_cons, List.length_nil])) only [sQ_, sP_, sE_, sR_, sIf_, sN_, sA_, tgO_nx, nm_, tgIx_, eC_, eV0, eV1, e1_, e2_, eB_, eF_, aN_, aC_, eMt_, eSl_, oN_, oI_, tV_, tE_, tA_, tO_, tN_, eIf_, eAnd_, eOr_, eNot_, eCh_, seq_nx, seq_rt, seq_bk, seq_ct, seq_ex, toR_some, toR_none, toT_some, truD_bl, truD_int, truD_tup, truD_non, truD_str, truD_ref, truC_lst, tyD_str, tyD_tup, tyD_int, tyD_bl, tyD_non, tyD_ref, tyC_lst, tyC_rol, tyC_dic, kE_, kR_, kIf_t, kIf_f, kN_, kA_, kIx1_, kIx2_, kIx3_, kE1_, kE21_, kE2_, kB_, kF_, kC1_, kC_, kM1_, kM2_, kM_, kS1_, kS2_, kS3_, kO_, kV_, kT_, kAn_t, kAn_f, kOr_t, kOr_f, kNo_, kIfE_t, kIfE_f, kVa_, kVa2_t, kVa2_f, kVo_, kVo2_t, kVo2_f, kVn_, kVn2_, kH_, kH1_, kH2_t, kH2_f, kH3_, List.getElem?_cons_zero, List.getElem?_cons_succ, List.set_cons_zero, List.set_cons_succ, gAdd_int, gAdd_str, gAdd_t, gAdd_r, catC_s, gSub_int, gMul_l, gMul_r, gFdiv_int, gMod_int, gLt_int, gLe_int, gGt_int, gGe_int, gInt_int, gAbs_int, gLen_tup, gLen_str, gLen_r, lenC_s, gTpl_, gLsd_, gIx_r, ixC_s, ixO_s, gIx_t, gIx_s, ixS_s, atI_0, atI_1, atI_2, atI_3, atI_4, atI_5, gAppend_r, appC_s, gExtend_r, extC_s, gPop_r, popC_s, gSet_r, setC_0, setC_2, gTuple_r, tupC_s, gTuple_t, gList_r, gList_t, newC_s, gSl_r, slC_s, gSl_t, gSl_s, cut_take, cut_drop, cut_init, cut_mid, Int.toNat_natCast, lstC_lst, lstC_rol, lstAt_C, isi_str, isi_int, isi_bool, isi_tup, isi_lst, isO_s, isB_1, isB_2, isB_3, isB_4, isB_5, isB_6, isB_7, isB_8, isB_9, isB_10, isB_11, isB_12, isB_13, isB_14, isB_15, isB_16, isB_17, isB_18, isB_19, isB_20, isB_21, isB_22, isB_23, isB_24, isB_25, isB_26, gSum_r, sumC_s, sumO_s, gMin_, gMax_, qEq_int, qNe_int, qEq_str, qNe_str, gNeg_z, tgT_, tgU_, tgL0, tgL1, eTab_, kTab_, sX_, tgIxX_, kX1_, kX2_, kX3_, gSetX_r, setX_0, setX_2, setX_s, sPar_, kPar_, eFv_, eGetD_, kG1_, isDic_r, isDC_d, kG1b_, kG2_, kG3_, gGetD_r, getC_s, gMaxL_r, maxC_, gRep_r, repC_, eD0_, gDget_r, dgC_s, List.getElem?_concat_length, set_end, sF_, kFor_, iR1_, kR1_, iR2_, kR2_, kR3_, iA_, kAny_r, kAny_t, kAny_s, iaC_s, eLc_, kLc_, wipeD_c, wipeD_n, tYes_, put_one, sAug_, gAug_i, sBk_, sCt_, sW_, st_len, st_p, st_k, st_0, st_q, st_set_p, st_set_k, st_set_0, st_push, sx_len, sx_k, sx_0, sx_q, sx_set_k, sx_set_0, sx_push, So_rt, So_nx, So_ex, Tn_nx, Tn_ct, Tn_bk, Tn_rt, Tn_ex, Bool.false_eq_true, if_true, if_false, reduceIte, Option.map_some, Option.bind_some, Bool.not_true, Bool.not_false, decide_true, decide_false, eq_self, List.length_append, List.length_singleton, List.length_cons, List.length_nil, List.map_cons, List.map_nil, Nat.sub_self, List.replicate_zero, List.append_nil, List.cons_append, List.nil_append, List.append_assoc, List.replicate_succ, Nat.reduceSub, Nat.reduceAdd, Nat.add_zero, Nat.zero_add, Nat.add_assoc, Nat.reduceLeDiff, Int.natCast_add, Int.cast_ofNat_Int, Int.reduceEq, Int.reduceLT, Int.reduceLE, Int.reduceAdd, Int.reduceSub, Int.reduceNeg, Int.reduceToNat, List.take_succ_cons, List.take_zero, List.drop_succ_cons, List.drop_zero, List.dropLast_concat, Dl.atI_last, gFdivW_, gJoin_r, joinC_, gUpper_, gRepl_, gInK_, gNinK_, r_ax_or, r_ax_ur, r_ax_pr, r_ax_ol, r_ax_ul, r_ax_pl, r_ax_ct, r_or_ax, r_or_ur, r_or_pr, r_or_ol, r_or_ul, r_or_pl, r_or_ct, r_ur_ax, r_ur_or, r_ur_pr, r_ur_ol, r_ur_ul, r_ur_pl, r_ur_ct, r_pr_ax, r_pr_or, r_pr_ur, r_pr_ol, r_pr_ul, r_pr_pl, r_pr_ct, r_ol_ax, r_ol_or, r_ol_ur, r_ol_pr, r_ol_ul, r_ol_pl, r_ol_ct, r_ul_ax, r_ul_or, r_ul_ur, r_ul_pr, r_ul_ol, r_ul_pl, r_ul_ct, r_pl_ax, r_pl_or, r_pl_ur, r_pl_pr, r_pl_ol, r_pl_ul, r_pl_ct, r_ct_ax, r_ct_or, r_ct_ur, r_ct_pr, r_ct_ol, r_ct_ul, r_ct_pl, q1, q2, q3, q4, q5, q6, e1, e2, e3, gInt_bl, gIs_tn, gIs_nn, gIsN_tn, gIsN_nn, gReverse_r, revC_s, iV_, kVV_t, kVV_r, revI_s, $ls,*])
local macro_rules | `(tactic| walk_at "ev") => `(tactic| simp (disch := first | omega | assumption | (simp only [List.length_cons, List.length_nil, List.length_append, List.length_take, List.length_drop]; omega) | (simp only [List.length_cons, List.length_nil])) only [sQ_, sP_, sE_, sR_, sIf_, sN_, sA_, tgO_nx, nm_, tgIx_, eC_, eV0, eV1, e1_, e2_, eB_, eF_, aN_, aC_, eMt_, eSl_, oN_, oI_, tV_, tE_, tA_, tO_, tN_, eIf_, eAnd_, eOr_, eNot_, eCh_, seq_nx, seq_rt, seq_bk, seq_ct, seq_ex, toR_some, toR_none, toT_some, truD_bl, truD_int, truD_tup, truD_non, truD_str, truD_ref, truC_lst, tyD_str, tyD_tup, tyD_int, tyD_bl, tyD_non, tyD_ref, tyC_lst, tyC_rol, tyC_dic, kE_, kR_, kIf_t, kIf_f, kN_, kA_, kIx1_, kIx2_, kIx3_, kE1_, kE21_, kE2_, kB_, kF_, kC1_, kC_, kM1_, kM2_, kM_, kS1_, kS2_, kS3_, kO_, kV_, kT_, kAn_t, kAn_f, kOr_t, kOr_f, kNo_, kIfE_t, kIfE_f, kVa_, kVa2_t, kVa2_f, kVo_, kVo2_t, kVo2_f, kVn_, kVn2_, kH_, kH1_, kH2_t, kH2_f, kH3_, List.getElem?_cons_zero, List.getElem?_cons_succ, List.set_cons_zero, List.set_cons_succ, gAdd_int, gAdd_str, gAdd_t, gAdd_r, catC_s, gSub_int, gMul_l, gMul_r, gFdiv_int, gMod_int, gLt_int, gLe_int, gGt_int, gGe_int, gInt_int, gAbs_int, gLen_tup, gLen_str, gLen_r, lenC_s, gTpl_, gLsd_, gIx_r, ixC_s, ixO_s, gIx_t, gIx_s, ixS_s, atI_0, atI_1, atI_2, atI_3, atI_4, atI_5, gAppend_r, appC_s, gExtend_r, extC_s, gPop_r, popC_s, gSet_r, setC_0, setC_2, gTuple_r, tupC_s, gTuple_t, gList_r, gList_t, newC_s, gSl_r, slC_s, gSl_t, gSl_s, cut_take, cut_drop, cut_init, cut_mid, Int.toNat_natCast, lstC_lst, lstC_rol, lstAt_C, isi_str, isi_int, isi_bool, isi_tup, isi_lst, isO_s, isB_1, isB_2, isB_3, isB_4, isB_5, isB_6, isB_7, isB_8, isB_9, isB_10, isB_11, isB_12, isB_13, isB_14, isB_15, isB_16, isB_17, isB_18, isB_19, isB_20, isB_21, isB_22, isB_23, isB_24, isB_25, isB_26, gSum_r, sumC_s, sumO_s, gMin_, gMax_, qEq_int, qNe_int, qEq_str, qNe_str, gNeg_z, tgT_, tgU_, tgL0, tgL1, eTab_, kTab_, sX_, tgIxX_, kX1_, kX2_, kX3_, gSetX_r, setX_0, setX_2, setX_s, sPar_, kPar_, eFv_, eGetD_, kG1_, isDic_r, isDC_d, kG1b_, kG2_, kG3_, gGetD_r, getC_s, gMaxL_r, maxC_, gRep_r, repC_, eD0_, gDget_r, dgC_s, List.getElem?_concat_length, set_end, sF_, kFor_, iR1_, kR1_, iR2_, kR2_, kR3_, iA_, kAny_r, kAny_t, kAny_s, iaC_s, eLc_, kLc_, wipeD_c, wipeD_n, tYes_, put_one, sAug_, gAug_i, sBk_, sCt_, sW_, st_len, st_p, st_k, st_0, st_q, st_set_p, st_set_k, st_set_0, st_push, sx_len, sx_k, sx_0, sx_q, sx_set_k, sx_set_0, sx_push, So_rt, So_nx, So_ex, Tn_nx, Tn_ct, Tn_bk, Tn_rt, Tn_ex, Bool.false_eq_true, if_true, if_false, reduceIte, Option.map_some, Option.bind_some, Bool.not_true, Bool.not_false, decide_true, decide_false, eq_self, List.length_append, List.length_singleton, List.length_cons, List.length_nil, List.map_cons, List.map_nil, Nat.sub_self, List.replicate_zero, List.append_nil, List.cons_append, List.nil_append, List.append_assoc, List.replicate_succ, Nat.reduceSub, Nat.reduceAdd, Nat.add_zero, Nat.zero_add, Nat.add_assoc, Nat.reduceLeDiff, Int.natCast_add, Int.cast_ofNat_Int, Int.reduceEq, Int.reduceLT, Int.reduceLE, Int.reduceAdd, Int.reduceSub, Int.reduceNeg, Int.reduceToNat, List.take_succ_cons, List.take_zero, List.drop_succ_cons, List.drop_zero, List.dropLast_concat, Dl.atI_last, gFdivW_, gJoin_r, joinC_, gUpper_, gRepl_, gInK_, gNinK_, r_ax_or, r_ax_ur, r_ax_pr, r_ax_ol, r_ax_ul, r_ax_pl, r_ax_ct, r_or_ax, r_or_ur, r_or_pr, r_or_ol, r_or_ul, r_or_pl, r_or_ct, r_ur_ax, r_ur_or, r_ur_pr, r_ur_ol, r_ur_ul, r_ur_pl, r_ur_ct, r_pr_ax, r_pr_or, r_pr_ur, r_pr_ol, r_pr_ul, r_pr_pl, r_pr_ct, r_ol_ax, r_ol_or, r_ol_ur, r_ol_pr, r_ol_ul, r_ol_pl, r_ol_ct, r_ul_ax, r_ul_or, r_ul_ur, r_ul_pr, r_ul_ol, r_ul_pl, r_ul_ct, r_pl_ax, r_pl_or, r_pl_ur, r_pl_pr, r_pl_ol, r_pl_ul, r_pl_ct, r_ct_ax, r_ct_or, r_ct_ur, r_ct_pr, r_ct_ol, r_ct_ul, r_ct_pl, q1, q2, q3, q4, q5, q6, e1, e2, e3, gInt_bl, gIs_tn, gIs_nn, gIsN_tn, gIsN_nn, gReverse_r, revC_s, iV_, kVV_t, kVV_r, revI_s])
-- fa
section
variable {A : Str → Prop}
structure Trn (A : Str → Prop) (t : DT) (j : Nat) : Prop where
  md : Made A t
  len : t.row.length = j + 1
  sum : szs t.row + sz t.g = 2 * j + 2
  all : ∀ k ∈ t.row ++ [t.g], sz k ≤ j + 1
  cnt : t.cnt = 2 * j + 1
  dp : t.dp ≤ j + 1
theorem axm {t : Str} (h : A t) : Made A (.st "axiom" [.leaf t] (.leaf t) 0 0 []) := (idT_made (P := A) (k := .leaf t) h (by show 1 ≤ 40; decide)).1
theorem trn_ok {t t' : DT} {u : Str} {j : Nat} (h : Trn A t j) (hu : A u) (hj : j < 39) {R B : List KT} {K N : KT} (hr : t.row = R ++ K :: B) (hN : sz N = 1 + sz K) (okN : N.ok A) (hs : Shape A t') (hps : t'.ps = [.st "axiom" [.leaf u] (.leaf u) 0 0 [], t]) (hg : t'.g = t.g)
    (hrow : t'.row = R ++ N :: (.leaf u :: B) ∨ t'.row = R ++ (.leaf u :: N :: B)) : Trn A t' (j + 1) := by
  have bd := h.md.bd
  have l1 : sz (.leaf u) = 1 := rfl
  have hl := h.len
  have hsum := h.sum
  have hall := h.all
  rw [hr] at hl hsum
  rw [List.length_append, List.length_cons] at hl
  rw [szs_app, szs_cons] at hsum
  have len : t'.row.length = j + 1 + 1 := by rcases hrow with e | e <;> rw [e] <;> simp only [List.length_append, List.length_cons] <;> omega
  have sum : szs t'.row + sz t'.g = 2 * ((j + 1 : Nat) : Int) + 2 := by rcases hrow with e | e <;> rw [e, hg] <;> simp only [szs_app, szs_cons] <;> omega
  have mem : ∀ k ∈ t'.row ++ [t'.g], k = N ∨ k = .leaf u ∨ k ∈ t.row ++ [t.g] := fun k hk => by
    rw [hg] at hk
    rw [hr]
    rcases hrow with e | e
    · rw [e] at hk
      simp only [List.append_assoc, List.cons_append, List.mem_append, List.mem_cons, List.not_mem_nil, or_false] at hk ⊢
      rcases hk with z | z | z | z | z <;> simp [z]
    · rw [e] at hk
      simp only [List.append_assoc, List.cons_append, List.mem_append, List.mem_cons, List.not_mem_nil, or_false] at hk ⊢
      rcases hk with z | z | z | z | z <;> simp [z]
  have hK : sz K ≤ j + 1 := hall K (by rw [hr]; simp)
  have all : ∀ k ∈ t'.row ++ [t'.g], sz k ≤ ((j + 1 : Nat) : Int) + 1 := fun k hk => by
    rcases mem k hk with rfl | rfl | z
    · omega
    · omega
    · have := hall k z; omega
  refine ⟨.mk hs ⟨fun z => by rw [z] at len; simp at len, by omega, by omega, fun k hk => ⟨?_, by have := all k hk; rw [sz_nat] at this; omega⟩⟩ (by rw [hps]; exact two_mem (axm hu) h.md), len, sum, all, ?_, ?_⟩
  · rcases mem k hk with rfl | rfl | z
    · exact okN
    · exact hu
    · exact (bd.fit k z).1
  · rw [DT.cnt_eq, hps]
    have := h.cnt
    show 1 + (1 + 0 + (t.cnt + 0)) = _
    omega
  · rw [DT.dp_eq, hps]
    have := h.dp
    show 1 + max (1 + 0) (max t.dp 0) ≤ _
    omega
theorem train_t (n : Nat) {N p q : Nat} {T : Store} {P : List D} {ts : List Str} (hh : T[p]? = some (.lst P)) (hq : T[q]? = some (.lst (sts ts))) (hqp : q ≠ p) (hp : Pool N P) (hN : N + 1000 ≤ 800000) (hT : SOK T) (hts : ∀ t ∈ ts, A t) (hl : 1 ≤ ts.length) (hl2 : ts.length ≤ 100) {many : Int} (m0 : 0 ≤ many) (m1 : many ≤ 39) :
    Dl.Sp (tab (n + 3) ._law_train [.ref p, .ref q, .int many] T) fun r => ∃ P' t, Pool (N + 200) P' ∧ Made A t ∧ t.cnt ≤ 80 ∧ t.dp ≤ 40 ∧ r = .ok t.d (T.set p (.lst P')) := by
  refine Dl.sp_pool (g := b__law_train (tab (n + 2))) rfl hh fun lp Q hQ => ?_
  have lq := get_lt hq
  have q2 : ∀ P' M, (Dl.st T p P' M)[q]? = some (.lst (sts ts)) := fun P' M => by rw [Dl.st_q lq hqp]; exact hq
  have S0 : ∀ Q' L, flats Q' = true → Dl.FL L → SOK (Dl.st T p Q' L) := fun Q' L h1 h2 => SOK.st hT h1 h2
  have zt := sts_len ts
  unfold b__law_train
  obtain ⟨d, P1, t, hp1, ht, e1, hx1⟩ := pick_name n (L := []) lp hp (by omega) hl hl2 (q := q) (ts := ts)
  have ea := law_axiom_t (n + 1) t (Dl.st T p P1 []) (S0 _ _ hp1.flat .nil)
  rw [show n + 1 + 1 = n + 2 from rfl] at ea
  simp_arith [q2, zt, e1, hx1, ea]
  refine Dl.forQ (fun j ρ S => ∃ (G : List Cell) (t : DT) (P' : List D) (v4 v5 v6 : Option D), Trn A t j ∧ Dl.FL G ∧ Pool (N + 1 + 3 * j) P' ∧ ρ = [some (.ref p), some (.ref q), some (.int many), some t.d, v4, v5, v6] ∧ S = Dl.st T p P' G)
    ⟨[], .st "axiom" [.leaf t] (.leaf t) 0 0 [], P1, _, _, _, ⟨axm (hts t ht), rfl, rfl, fun k hk => by
      rcases List.mem_append.mp hk with z | z <;> (rw [List.mem_singleton.mp z]; exact Int.le_refl _), rfl, Nat.le_refl _⟩, .nil, hp1, rfl, rfl⟩ ?_ ?_
  · rintro j dd _ _ hj ⟨G, t, P2, v4, v5, v6, hI, hG, hp2, rfl, rfl⟩
    obtain ⟨hj, rfl⟩ := Dl.rng_get hj
    refine ⟨chk_nil, _, _, rfl, ?_⟩
    have zr := kds_len t.row
    have il := hI.len
    obtain ⟨d2, P3, u, hp3, hu, e2, hx2⟩ := pick_name n (L := G) lp hp2 (by omega) hl hl2 (q := q) (ts := ts)
    have ea2 := law_axiom_t (n + 1) u (Dl.st T p P3 G) (S0 _ _ hp3.flat hG)
    rw [show n + 1 + 1 = n + 2 from rfl] at ea2
    obtain ⟨d3, P4, hp4, a3, b3, e3⟩ := draw_t n (many := (t.row.length : Int)) (Dl.st_p (P := P3) (L := G) lp) hp3 (by omega) (by omega) (log_lt (by omega) (by omega))
    rw [Dl.st_set_p lp] at e3
    obtain ⟨d4, P5, hp5, a4, b4, e4⟩ := draw_t n (many := 2) (Dl.st_p (P := P4) (L := G) lp) hp4 (by omega) (by decide)
    rw [Dl.st_set_p lp] at e4
    obtain ⟨R, K, B, hr, hd⟩ := mid_js (js := t.row) (a := d3) a3 b3
    have okK := (hI.md.bd.row K (by rw [hr]; simp)).1
    have F2 : Dl.FL (G ++ [Cell.lst [(DT.st "axiom" [.leaf u] (.leaf u) 0 0 []).d, t.d]]) := hG.app (.one (c := Dl.Cell.lst _) (dtds_flat [_, t]))
    have SG := S0 P5 _ hp5.flat F2
    have gl : (Dl.st T p P5 (G ++ [Cell.lst [(DT.st "axiom" [.leaf u] (.leaf u) 0 0 []).d, t.d]]))[T.length + G.length]? = some (.lst [(DT.st "axiom" [.leaf u] (.leaf u) 0 0 []).d, t.d]) := by rw [Dl.st_k, List.getElem?_concat_length]
    have lt := hI.md.bd.len
    by_cases h4 : d4 = 1
    · have m := make_ul n SG (p := .st "axiom" [.leaf u] (.leaf u) 0 0 []) (q := t) (by show 1 ≤ 40; decide) lt (k := d3 + 1) (by show d3 + 1 = (R.length : Int) + 1; omega) gl hr
      simp_arith [q2, zt, e2, hx2, ea2, dt1, zr, e3, e4, h4, m]
      exact ⟨_, _, P5, _, _, _, trn_ok (N := .node ">" (.leaf u) K) hI (hts u hu) (by omega) hr (by rw [sz_node]; rfl) (show KT.ok A (.node ">" (.leaf u) K) from ⟨.inr (.inl rfl), hts u hu, okK⟩) (.ul (p := .st "axiom" [.leaf u] (.leaf u) 0 0 []) hr (by show d3 + 1 = (R.length : Int) + 1; omega)) rfl rfl (.inr rfl), F2, hp5.mono (by omega), rfl, rfl⟩
    · have m := make_ol n SG (p := .st "axiom" [.leaf u] (.leaf u) 0 0 []) (q := t) (by show 1 ≤ 40; decide) lt (k := d3) hd gl hr
      simp_arith [q2, zt, e2, hx2, ea2, dt1, zr, e3, e4, h4, m]
      exact ⟨_, _, P5, _, _, _, trn_ok (N := .node "/" K (.leaf u)) hI (hts u hu) (by omega) hr (by rw [sz_node, Int.add_comm]; rfl) (show KT.ok A (.node "/" K (.leaf u)) from ⟨.inl rfl, okK, hts u hu⟩) (.ol (p := .st "axiom" [.leaf u] (.leaf u) 0 0 []) hr) rfl rfl (.inl rfl), F2, hp5.mono (by omega), rfl, rfl⟩
  · rintro _ _ ⟨G, t, P2, v4, v5, v6, hI, hG, hp2, rfl, rfl⟩
    rw [rng_length] at hI hp2
    refine ⟨chk_nil, ?_⟩
    have := hI.cnt
    have := hI.dp
    simp_arith []
    exact Dl.Qp (hT.wf rfl) (wfs_flat hp2.flat) (wf_flat (DT.flat t)) (hQ _ ⟨P2, t, hp2.mono (by omega), hI.md, by omega, by omega, rfl⟩)
noncomputable def sp_tail (F : FN → List D → M D) : SX := (sQ (sN 2 (eF (F ._law_draw) (aC (eV 0) (aC (eC (.int 8)) aN))))
  (sQ (sIf (tE (Dl.e2 gEq (eV 2) (eC (.int 6)))) (sR (eF (F ._law_train) (aC (eV 0) (aC (eV 1) (aC (eF (F ._law_draw) (aC (eV 0) (aC (eC (.int 40)) aN))) aN))))) sP)
  (sQ (sIf (tE (Dl.e2 gEq (eV 2) (eC (.int 7)))) (sQ (sN 4 (eF (F ._law_kind) (aC (eV 0) (aC (eV 1) (aC (Dl.e2 gAdd (eC (.int 1)) (eF (F ._law_draw) (aC (eV 0) (aC (eC (.int 40)) aN)))) aN)))))
  (sR (eF (F ._law_paper) (aC (eV 0) (aC (eV 1) (aC (eF (F ._law_identity) (aC (eV 4) aN)) (aC (eF (F ._law_draw) (aC (eV 0) (aC (eC (.int 21)) aN))) (aC (eB gLsd (aC (eC (.int 40)) (aC (eC (.int 40)) (aC (eC (.int 80)) aN)))) (aC (eC (.int 6)) aN))))))))) sP)
  (sQ (sN 3 (eF (F ._law_axiom) (aC (Dl.e2 gIx (eV 1) (eF (F ._law_draw) (aC (eV 0) (aC (eB gLen (aC (eV 1) aN)) aN)))) aN)))
  (sR (eF (F ._law_paper) (aC (eV 0) (aC (eV 1) (aC (eV 3) (aC (eF (F ._law_draw) (aC (eV 0) (aC (eC (.int 21)) aN))) (aC (eB gLsd (aC (eC (.int 6)) (aC (eC (.int 8)) (aC (eC (.int 24)) aN)))) (aC (Dl.e2 gAdd (eC (.int 6)) (eB gInt (aC (Dl.e2 gGt (eV 2) (eC (.int 2))) aN))) aN))))))))))))
theorem sp_tail_eq (F : FN → List D → M D) : b__law_some_paper F = (sQ (sN 1 (eF (F ._law_names) (aC (eV 0) (aC (Dl.e2 gIx (eB gLsd (aC (eC (.int 1)) (aC (eC (.int 2)) (aC (eC (.int 3)) (aC (eC (.int 6)) aN))))) (eF (F ._law_draw) (aC (eV 0) (aC (eC (.int 4)) aN)))) aN))))
  (sQ (sIf (tE (Dl.e2 gEq (eF (F ._law_draw) (aC (eV 0) (aC (eC (.int 4)) aN))) (eC (.int 3)))) (sN 1 (eF (F ._law_twins) (aC (eV 0) (aC (eV 1) aN)))) sP)
  (sp_tail F))) := rfl
theorem some_paper_t (n : Nat) {N p : Nat} {T : Store} {P : List D} (hh : T[p]? = some (.lst P)) (hp : Pool N P) (hN : N + 3000 ≤ 700000) (hT : SOK T) :
    Dl.Sp (tab (n + 104) ._law_some_paper [.ref p] T) fun r => ∃ P' t, Pool (N + 2000) P' ∧ Made AtS t ∧ t.cnt ≤ 290 ∧ t.dp ≤ 130 ∧ r = .ok t.d (T.set p (.lst P')) := by
  refine Dl.sp_pool (g := b__law_some_paper (tab (n + 103))) rfl hh fun lp Q hQ => ?_
  have S0 : ∀ Q' L, flats Q' = true → Dl.FL L → SOK (Dl.st T p Q' L) := fun Q' L h1 h2 => SOK.st hT h1 h2
  rw [sp_tail_eq]
  obtain ⟨d1, P1, hp1, a1, b1, e1⟩ := draw_t (n + 101) (many := 4) (Dl.st_p (P := P) (L := [.lst [.int 1, .int 2, .int 3, .int 6]]) lp) hp (by omega) (by decide)
  rw [Dl.st_set_p lp] at e1
  obtain ⟨x, x0, x7, hx⟩ := pick_int (xs := [1, 2, 3, 6]) (lo := 1) (hi := 6) a1 b1 (by decide)
  simp only [List.map_cons, List.map_nil] at hx
  have f0 : Dl.FL [Cell.lst [D.int 1, .int 2, .int 3, .int 6]] := .one (c := Dl.Cell.lst _) rfl
  obtain ⟨bs, P2, hp2, hbs, lbs, e2⟩ := names_t (n + 100) (Dl.st_p (P := P1) (L := [.lst [.int 1, .int 2, .int 3, .int 6]]) lp) hp1 (by omega) (S0 _ _ hp1.flat f0) x0 x7
  rw [Dl.st_set_p lp, Dl.st_push, Dl.st_len, show n + 100 + 3 = n + 103 from rfl] at e2
  simp only [List.length_cons, List.length_nil, Nat.zero_add, List.cons_append, List.nil_append] at e2
  have f1 : Dl.FL [Cell.lst [D.int 1, .int 2, .int 3, .int 6], .lst (sts bs)] := .cons (c := Dl.Cell.lst _) rfl (.one (c := Dl.Cell.lst _) (sts_flat _))
  obtain ⟨d3, P3, hp3, a3, b3, e3⟩ := draw_t (n + 101) (many := 4) (Dl.st_p (P := P2) (L := [.lst [.int 1, .int 2, .int 3, .int 6], .lst (sts bs)]) lp) hp2 (by omega) (by decide)
  rw [Dl.st_set_p lp] at e3
  rw [show n + 101 + 2 = n + 103 from rfl] at e1 e3
  have tail : ∀ (ts : List Str) (L : List Cell) (k M : Nat) (P' : List D), L[k]? = some (.lst (sts ts)) → (∀ t ∈ ts, AtS t) → 1 ≤ ts.length → ts.length ≤ 8 → Dl.FL L → Pool M P' → M ≤ N + 500 → So T.length Q (sp_tail (tab (n + 103))
    [some (.ref p), some (.ref (T.length + k)), none, none, none] (Dl.st T p P' L)) := by
    intro ts L k M P' hk hts hl hl2 hL hp' hM
    unfold sp_tail
    have zt := sts_len ts
    have q2 : ∀ P' L', (Dl.st T p P' (L ++ L'))[T.length + k]? = some (.lst (sts ts)) := fun P' L' => by
      rw [Dl.st_k, List.getElem?_append_left (List.getElem?_eq_some_iff.mp hk).1]
      exact hk
    have q0 : ∀ P', (Dl.st T p P' L)[T.length + k]? = some (.lst (sts ts)) := fun P' => by rw [Dl.st_k]; exact hk
    have fin : ∀ (t : DT) P2 L M, Pool M P2 → M ≤ N + 2000 → Made AtS t → t.cnt ≤ 290 → t.dp ≤ 130 → Q (cmp T.length t.d (Dl.st T p P2 L)) := fun t P2 L M h1 h2 h3 h4 h5 => Dl.Qp (hT.wf rfl) (wfs_flat h1.flat) (wf_flat (DT.flat t)) (hQ _ ⟨P2, t, h1.mono h2, h3, h4, h5, rfl⟩)
    obtain ⟨w, P5, hp5, a5, b5, e5⟩ := draw_t (n + 101) (many := 8) (Dl.st_p (P := P') (L := L) lp) hp' (by omega) (by decide)
    rw [Dl.st_set_p lp] at e5
    rw [show n + 101 + 2 = n + 103 from rfl] at e5
    by_cases w6 : w = 6
    · obtain ⟨d6, P6, hp6, a6, b6, e6⟩ := draw_t (n + 101) (many := 40) (Dl.st_p (P := P5) (L := L) lp) hp5 (by omega) (by decide)
      rw [Dl.st_set_p lp, show n + 101 + 2 = n + 103 from rfl] at e6
      obtain ⟨P7, t, hp7, mt, ct, dt, e7⟩ := train_t (A := AtS) (n + 100) (q := T.length + k) (Dl.st_p (P := P6) (L := L) lp) (q0 P6) (by omega) hp6 (by omega) (S0 _ _ hp6.flat hL) hts hl (by omega) a6 (by omega)
      rw [Dl.st_set_p lp, show n + 100 + 3 = n + 103 from rfl] at e7
      simp_arith [e5, w6, e6, e7]
      exact fin t _ _ _ hp7 (by omega) mt (by omega) (by omega)
    by_cases w7 : w = 7
    · obtain ⟨d6, P6, hp6, a6, b6, e6⟩ := draw_t (n + 101) (many := 40) (Dl.st_p (P := P5) (L := L) lp) hp5 (by omega) (by decide)
      rw [Dl.st_set_p lp, show n + 101 + 2 = n + 103 from rfl] at e6
      obtain ⟨K, P7, hp7, okK, lK, e7⟩ := kind_t (p := p) (q := T.length + k) (A := AtS) (by omega) hts hl (by omega) (n + 61) 40 (1 + d6) (by omega) (by omega) (Dl.st_p (P := P6) (L := L) lp) (q0 P6) hp6 (by omega) (by decide) (S0 _ _ hp6.flat hL)
      rw [Dl.st_set_p lp, show n + 61 + 40 + 2 = n + 103 from rfl] at e7
      have lK2 : K.at_.length ≤ 40 := by omega
      have e8 := identity_t (n + 61) (P := AtS) 40 K (Dl.st T p P7 L) okK lK2 (by decide) (S0 _ _ hp7.flat hL)
      rw [show n + 61 + 40 + 2 = n + 103 from rfl] at e8
      obtain ⟨m1, m2, m3, m4, m5⟩ := idT_made okK lK2
      obtain ⟨d9, P9, hp9, a9, b9, e9⟩ := draw_t (n + 101) (many := 21) (Dl.st_p (P := P7) (L := L) lp) hp7 (by omega) (by decide)
      rw [Dl.st_set_p lp, show n + 101 + 2 = n + 103 from rfl] at e9
      have hL2 : Dl.FL (L ++ [Cell.lst [D.int 40, .int 40, .int 80]]) := hL.app (.one (c := Dl.Cell.lst _) rfl)
      obtain ⟨P10, t, hp10, mt, ct, dt, e10⟩ := paper_t (A := AtS) n (q := T.length + k) (b := T.length + L.length) (start := idT K) (Dl.st_p (P := P9) (L := L ++ [.lst [.int 40, .int 40, .int 80]]) lp) (q2 P9 _) (by rw [Dl.st_k, List.getElem?_concat_length]) (by omega) (by omega) hp9 (by omega) (S0 _ _ hp9.flat hL2) hts hl (by omega) m1 (by decide) (by decide) (by decide) a9 (by omega) (ways := 6) (by decide) (by decide)
      rw [Dl.st_set_p lp] at e10
      simp_arith [e5, w7, e6, e7, e8, e9, e10]
      exact fin t _ _ _ hp10 (by omega) mt (by omega) (by omega)
    · obtain ⟨d6, P6, t0, hp6, ht0, e6, hx6⟩ := pick_name (n + 101) (L := L) lp hp5 (by omega) hl (by omega) (q := T.length + k) (ts := ts)
      rw [show n + 101 + 2 = n + 103 from rfl] at e6
      have e7 := law_axiom_t (n + 102) t0 (Dl.st T p P6 L) (S0 _ _ hp6.flat hL)
      rw [show n + 102 + 1 = n + 103 from rfl] at e7
      obtain ⟨d9, P9, hp9, a9, b9, e9⟩ := draw_t (n + 101) (many := 21) (Dl.st_p (P := P6) (L := L) lp) hp6 (by omega) (by decide)
      rw [Dl.st_set_p lp, show n + 101 + 2 = n + 103 from rfl] at e9
      have hL2 : Dl.FL (L ++ [Cell.lst [D.int 6, .int 8, .int 24]]) := hL.app (.one (c := Dl.Cell.lst _) rfl)
      obtain ⟨P10, t, hp10, mt, ct, dt, e10⟩ := paper_t (A := AtS) n (q := T.length + k) (b := T.length + L.length) (start := .st "axiom" [.leaf t0] (.leaf t0) 0 0 []) (Dl.st_p (P := P9) (L := L ++ [.lst [.int 6, .int 8, .int 24]]) lp) (q2 P9 _) (by rw [Dl.st_k, List.getElem?_concat_length]) (by omega) (by omega) hp9 (by omega) (S0 _ _ hp9.flat hL2) hts hl (by omega) (axm (hts t0 ht0)) (by decide) (by decide) (by decide) a9 (by omega) (ways := 6 + (if decide (2 < w) = true then 1 else 0)) (by split <;> decide) (by split <;> decide)
      rw [Dl.st_set_p lp] at e10
      have ct : t.cnt ≤ 1 + 165 := ct
      have dt : t.dp ≤ 1 + 50 := dt
      by_cases hw : 2 < w
      · rw [if_pos (decide_eq_true hw), show (6 : Int) + 1 = 7 by decide] at e10
        simp_arith [e5, w6, w7, q0, zt, e6, hx6, e7, e9, hw, gInt_bl, e10]
        exact fin t _ _ _ hp10 (by omega) mt (by omega) (by omega)
      · rw [if_neg (by rw [decide_eq_false hw]; exact Bool.false_ne_true), show (6 : Int) + 0 = 6 by decide] at e10
        simp_arith [e5, w6, w7, q0, zt, e6, hx6, e7, e9, hw, gInt_bl, e10]
        exact fin t _ _ _ hp10 (by omega) mt (by omega) (by omega)
  by_cases h3 : d3 = 3
  · obtain ⟨us, P4, hp4, hus, l1, l2, e4⟩ := twins_t (n + 100) (q := T.length + 1) (Dl.st_p (P := P3) (L := [.lst [.int 1, .int 2, .int 3, .int 6], .lst (sts bs)]) lp) (by rw [Dl.st_k]; rfl) (by omega) hp3 (by omega) (S0 _ _ hp3.flat f1) hbs (by omega) (by omega)
    rw [Dl.st_set_p lp, Dl.st_push, Dl.st_len, show n + 100 + 3 = n + 103 from rfl] at e4
    simp only [List.length_cons, List.length_nil, Nat.zero_add, List.cons_append, List.nil_append] at e4
    have t := tail us [.lst [.int 1, .int 2, .int 3, .int 6], .lst (sts bs), .lst (sts us)] 2 _ P4 rfl hus l1 l2 (.cons (c := Dl.Cell.lst _) rfl (.cons (c := Dl.Cell.lst _) (sts_flat _) (.one (c := Dl.Cell.lst _) (sts_flat _)))) hp4 (by omega)
    simp_arith [e1, hx, e2, e3, h3, e4]
    exact t
  · have t := tail bs [.lst [.int 1, .int 2, .int 3, .int 6], .lst (sts bs)] 1 _ P3 rfl (fun t ht => base_at (hbs t ht)) (by omega) (by omega) f1 hp3 (by omega)
    simp_arith [e1, hx, e2, e3, h3]
    exact t
end

end Lw

set_option Elab.async false
set_option linter.all false
set_option maxRecDepth 100000
namespace Lw
open PySem L2 Dl
variable [Fa]
local macro_rules | `(tactic| simp_arith [$ls,*]) => `(tactic| simp (disch := first | omega | assumption | (simp only [List.length_cons, List.length_nil, List.length_append, List.length_take, List.length_drop]; omega) | (simp only [List.length_cons, List.length_nil])) only [sQ_, sP_, sE_, sR_, sIf_, sN_, sA_, tgO_nx, nm_, tgIx_, eC_, eV0, eV1, e1_, e2_, eB_, eF_, aN_, aC_, eMt_, eSl_, oN_, oI_, tV_, tE_, tA_, tO_, tN_, eIf_, eAnd_, eOr_, eNot_, eCh_, seq_nx, seq_rt, seq_bk, seq_ct, seq_ex, toR_some, toR_none, toT_some, truD_bl, truD_int, truD_tup, truD_non, truD_str, truD_ref, truC_lst, tyD_str, tyD_tup, tyD_int, tyD_bl, tyD_non, tyD_ref, tyC_lst, tyC_rol, tyC_dic, kE_, kR_, kIf_t, kIf_f, kN_, kA_, kIx1_, kIx2_, kIx3_, kE1_, kE21_, kE2_, kB_, kF_, kC1_, kC_, kM1_, kM2_, kM_, kS1_, kS2_, kS3_, kO_, kV_, kT_, kAn_t, kAn_f, kOr_t, kOr_f, kNo_, kIfE_t, kIfE_f, kVa_, kVa2_t, kVa2_f, kVo_, kVo2_t, kVo2_f, kVn_, kVn2_, kH_, kH1_, kH2_t, kH2_f, kH3_, List.getElem?_cons_zero, List.getElem?_cons_succ, List.set_cons_zero, List.set_cons_succ, gAdd_int, gAdd_str, gAdd_t, gAdd_r, catC_s, gSub_int, gMul_l, gMul_r, gFdiv_int, gMod_int, gLt_int, gLe_int, gGt_int, gGe_int, gInt_int, gAbs_int, gLen_tup, gLen_str, gLen_r, lenC_s, gTpl_, gLsd_, gIx_r, ixC_s, ixO_s, gIx_t, gIx_s, ixS_s, atI_0, atI_1, atI_2, atI_3, atI_4, atI_5, gAppend_r, appC_s, gExtend_r, extC_s, gPop_r, popC_s, gSet_r, setC_0, setC_2, gTuple_r, tupC_s, gTuple_t, gList_r, gList_t, newC_s, gSl_r, slC_s, gSl_t, gSl_s, cut_take, cut_drop, cut_init, cut_mid, Int.toNat_natCast, lstC_lst, lstC_rol, lstAt_C, isi_str, isi_int, isi_bool, isi_tup, isi_lst, isO_s, isB_1, isB_2, isB_3, isB_4, isB_5, isB_6, isB_7, isB_8, isB_9, isB_10, isB_11, isB_12, isB_13, isB_14, isB_15, isB_16, isB_17, isB_18, isB_19, isB_20, isB_21, isB_22, isB_23, isB_24, isB_25, isB_26, gSum_r, sumC_s, sumO_s, gMin_, gMax_, qEq_int, qNe_int, qEq_str, qNe_str, gNeg_z, tgT_, tgU_, tgL0, tgL1, eTab_, kTab_, sX_, tgIxX_, kX1_, kX2_, kX3_, gSetX_r, setX_0, setX_2, setX_s, sPar_, kPar_, eFv_, eGetD_, kG1_, isDic_r, isDC_d, kG1b_, kG2_, kG3_, gGetD_r, getC_s, gMaxL_r, maxC_, gRep_r, repC_, eD0_, gDget_r, dgC_s, List.getElem?_concat_length, set_end, sF_, kFor_, iR1_, kR1_, iR2_, kR2_, kR3_, iA_, kAny_r, kAny_t, kAny_s, iaC_s, eLc_, kLc_, wipeD_c, wipeD_n, tYes_, put_one, sAug_, gAug_i, sBk_, sCt_, sW_, st_len, st_p, st_k, st_0, st_q, st_set_p, st_set_k, st_set_0, st_push, sx_len, sx_k, sx_0, sx_q, sx_set_k, sx_set_0, sx_push, So_rt, So_nx, So_ex, Tn_nx, Tn_ct, Tn_bk, Tn_rt, Tn_ex, Bool.false_eq_true, if_true, if_false, reduceIte, Option.map_some, Option.bind_some, Bool.not_true, Bool.not_false, decide_true, decide_false, eq_self, List.length_append, List.length_singleton, List.length_cons, List.length_nil, List.map_cons, List.map_nil, Nat.sub_self, List.replicate_zero, List.append_nil, List.cons_append, List.nil_append, List.append_assoc, List.replicate_succ, Nat.reduceSub, Nat.reduceAdd, Nat.add_zero, Nat.zero_add, Nat.add_assoc, Nat.reduceLeDiff, Int.natCast_add, Int.cast_ofNat_Int, Int.reduceEq, Int.reduceLT, Int.reduceLE, Int.reduceAdd, Int.reduceSub, Int.reduceNeg, Int.reduceToNat, List.take_succ_cons, List.take_zero, List.drop_succ_cons, List.drop_zero, List.dropLast_concat, Dl.atI_last, gFdivW_, gJoin_r, joinC_, gUpper_, gRepl_, gInK_, gNinK_, r_ax_or, r_ax_ur, r_ax_pr, r_ax_ol, r_ax_ul, r_ax_pl, r_ax_ct, r_or_ax, r_or_ur, r_or_pr, r_or_ol, r_or_ul, r_or_pl, r_or_ct, r_ur_ax, r_ur_or, r_ur_pr, r_ur_ol, r_ur_ul, r_ur_pl, r_ur_ct, r_pr_ax, r_pr_or, r_pr_ur, r_pr_ol, r_pr_ul, r_pr_pl, r_pr_ct, r_ol_ax, r_ol_or, r_ol_ur, r_ol_pr, r_ol_ul, r_ol_pl, r_ol_ct, r_ul_ax, r_ul_or, r_ul_ur, r_ul_pr, r_ul_ol, r_ul_pl, r_ul_ct, r_pl_ax, r_pl_or, r_pl_ur, r_pl_pr, r_pl_ol, r_pl_ul, r_pl_ct, r_ct_ax, r_ct_or, r_ct_ur, r_ct_pr, r_ct_ol, r_ct_ul, r_ct_pl, q1, q2, q3, q4, q5, q6, e1, e2, e3, gInt_bl, gIs_tn, gIs_nn, gIsN_tn, gIsN_nn, gReverse_r, revC_s, iV_, kVV_t, kVV_r, revI_s, $ls,*])
local macro_rules | `(tactic| walk_at "ev") => `(tactic| simp (disch := first | omega | assumption | (simp only [List.length_cons, List.length_nil, List.length_append, List.length_take, List.length_drop]; omega) | (simp only [List.length_cons, List.length_nil])) only [sQ_, sP_, sE_, sR_, sIf_, sN_, sA_, tgO_nx, nm_, tgIx_, eC_, eV0, eV1, e1_, e2_, eB_, eF_, aN_, aC_, eMt_, eSl_, oN_, oI_, tV_, tE_, tA_, tO_, tN_, eIf_, eAnd_, eOr_, eNot_, eCh_, seq_nx, seq_rt, seq_bk, seq_ct, seq_ex, toR_some, toR_none, toT_some, truD_bl, truD_int, truD_tup, truD_non, truD_str, truD_ref, truC_lst, tyD_str, tyD_tup, tyD_int, tyD_bl, tyD_non, tyD_ref, tyC_lst, tyC_rol, tyC_dic, kE_, kR_, kIf_t, kIf_f, kN_, kA_, kIx1_, kIx2_, kIx3_, kE1_, kE21_, kE2_, kB_, kF_, kC1_, kC_, kM1_, kM2_, kM_, kS1_, kS2_, kS3_, kO_, kV_, kT_, kAn_t, kAn_f, kOr_t, kOr_f, kNo_, kIfE_t, kIfE_f, kVa_, kVa2_t, kVa2_f, kVo_, kVo2_t, kVo2_f, kVn_, kVn2_, kH_, kH1_, kH2_t, kH2_f, kH3_, List.getElem?_cons_zero, List.getElem?_cons_succ, List.set_cons_zero, List.set_cons_succ, gAdd_int, gAdd_str, gAdd_t, gAdd_r, catC_s, gSub_int, gMul_l, gMul_r, gFdiv_int, gMod_int, gLt_int, gLe_int, gGt_int, gGe_int, gInt_int, gAbs_int, gLen_tup, gLen_str, gLen_r, lenC_s, gTpl_, gLsd_, gIx_r, ixC_s, ixO_s, gIx_t, gIx_s, ixS_s, atI_0, atI_1, atI_2, atI_3, atI_4, atI_5, gAppend_r, appC_s, gExtend_r, extC_s, gPop_r, popC_s, gSet_r, setC_0, setC_2, gTuple_r, tupC_s, gTuple_t, gList_r, gList_t, newC_s, gSl_r, slC_s, gSl_t, gSl_s, cut_take, cut_drop, cut_init, cut_mid, Int.toNat_natCast, lstC_lst, lstC_rol, lstAt_C, isi_str, isi_int, isi_bool, isi_tup, isi_lst, isO_s, isB_1, isB_2, isB_3, isB_4, isB_5, isB_6, isB_7, isB_8, isB_9, isB_10, isB_11, isB_12, isB_13, isB_14, isB_15, isB_16, isB_17, isB_18, isB_19, isB_20, isB_21, isB_22, isB_23, isB_24, isB_25, isB_26, gSum_r, sumC_s, sumO_s, gMin_, gMax_, qEq_int, qNe_int, qEq_str, qNe_str, gNeg_z, tgT_, tgU_, tgL0, tgL1, eTab_, kTab_, sX_, tgIxX_, kX1_, kX2_, kX3_, gSetX_r, setX_0, setX_2, setX_s, sPar_, kPar_, eFv_, eGetD_, kG1_, isDic_r, isDC_d, kG1b_, kG2_, kG3_, gGetD_r, getC_s, gMaxL_r, maxC_, gRep_r, repC_, eD0_, gDget_r, dgC_s, List.getElem?_concat_length, set_end, sF_, kFor_, iR1_, kR1_, iR2_, kR2_, kR3_, iA_, kAny_r, kAny_t, kAny_s, iaC_s, eLc_, kLc_, wipeD_c, wipeD_n, tYes_, put_one, sAug_, gAug_i, sBk_, sCt_, sW_, st_len, st_p, st_k, st_0, st_q, st_set_p, st_set_k, st_set_0, st_push, sx_len, sx_k, sx_0, sx_q, sx_set_k, sx_set_0, sx_push, So_rt, So_nx, So_ex, Tn_nx, Tn_ct, Tn_bk, Tn_rt, Tn_ex, Bool.false_eq_true, if_true, if_false, reduceIte, Option.map_some, Option.bind_some, Bool.not_true, Bool.not_false, decide_true, decide_false, eq_self, List.length_append, List.length_singleton, List.length_cons, List.length_nil, List.map_cons, List.map_nil, Nat.sub_self, List.replicate_zero, List.append_nil, List.cons_append, List.nil_append, List.append_assoc, List.replicate_succ, Nat.reduceSub, Nat.reduceAdd, Nat.add_zero, Nat.zero_add, Nat.add_assoc, Nat.reduceLeDiff, Int.natCast_add, Int.cast_ofNat_Int, Int.reduceEq, Int.reduceLT, Int.reduceLE, Int.reduceAdd, Int.reduceSub, Int.reduceNeg, Int.reduceToNat, List.take_succ_cons, List.take_zero, List.drop_succ_cons, List.drop_zero, List.dropLast_concat, Dl.atI_last, gFdivW_, gJoin_r, joinC_, gUpper_, gRepl_, gInK_, gNinK_, r_ax_or, r_ax_ur, r_ax_pr, r_ax_ol, r_ax_ul, r_ax_pl, r_ax_ct, r_or_ax, r_or_ur, r_or_pr, r_or_ol, r_or_ul, r_or_pl, r_or_ct, r_ur_ax, r_ur_or, r_ur_pr, r_ur_ol, r_ur_ul, r_ur_pl, r_ur_ct, r_pr_ax, r_pr_or, r_pr_ur, r_pr_ol, r_pr_ul, r_pr_pl, r_pr_ct, r_ol_ax, r_ol_or, r_ol_ur, r_ol_pr, r_ol_ul, r_ol_pl, r_ol_ct, r_ul_ax, r_ul_or, r_ul_ur, r_ul_pr, r_ul_ol, r_ul_pl, r_ul_ct, r_pl_ax, r_pl_or, r_pl_ur, r_pl_pr, r_pl_ol, r_pl_ul, r_pl_ct, r_ct_ax, r_ct_or, r_ct_ur, r_ct_pr, r_ct_ol, r_ct_ul, r_ct_pl, q1, q2, q3, q4, q5, q6, e1, e2, e3, gInt_bl, gIs_tn, gIs_nn, gIsN_tn, gIsN_nn, gReverse_r, revC_s, iV_, kVV_t, kVV_r, revI_s])
-- fa
/-! ## steps built -/
/-- a part: only its sequent matters -/
def ptD (r : D) (row : List D) (g x y z : D) : D := .tup [r, .tup row, g, x, y, z]
def stD (rule : Str) (row : List D) (g : D) (a w : Int) (parts : List D) : D := .tup [.str rule, .tup row, g, .int a, .int w, .tup parts]
theorem stD_flat {rule : Str} {row : List D} {g : D} {a w : Int} {parts : List D} (h : flats row = true) (h2 : g.flat = true) (h3 : flats parts = true) : (stD rule row g a w parts).flat = true := by
  show (true && (flats row && (g.flat && (true && (true && (flats parts && true)))))) = true
  rw [h, h2, h3]; rfl
theorem ptD_flat {r : D} {row : List D} {g x y z : D} (h : (ptD r row g x y z).flat = true) : flats row = true ∧ g.flat = true := by
  have h : (r.flat && (flats row && (g.flat && (x.flat && (y.flat && (z.flat && true)))))) = true := h
  simp only [Bool.and_eq_true] at h
  exact ⟨h.2.1, h.2.2.1⟩
theorem sq_t (n : Nat) (r : D) (row : List D) (g x y z : D) (S : Store) (hw : D.wf S.length (.tup [.tup row, g]) = true) : tab (n + 1) .sequent_of [ptD r row g x y z] S = .ok (.tup [.tup row, g]) S := by
  have h : Dl.Sp (tab (n + 1) .sequent_of [ptD r row g x y z] S) fun r => r = .ok (.tup [.tup row, g]) S := by
    refine Dl.sp_run (g := b_sequent_of (tab n)) rfl fun Q hQ => ?_
    unfold b_sequent_of ptD
    simp_arith []
    rw [Dl.fin_s rfl hw]
    exact hQ _ rfl
  exact h
section
variable (n : Nat) (S : Store) (hS : SOK S) (r x y z r' x' y' z' : D) (A B M : List D) (a b c g : D) (i : Nat) (hA : A.length = i) (zA : A.length ≤ 1000) (zB : B.length ≤ 1000) (zM : M.length ≤ 1000)
  (fA : flats A = true) (fB : flats B = true) (fM : flats M = true) (fa : a.flat = true) (fb : b.flat = true) (fc : c.flat = true) (fg : g.flat = true)
include hS
include zA fA fb fg in
theorem by_or (at_ : D) : Dl.Sp (tab (n + 2) .by_over_right [at_, .tup [ptD r (A ++ [b]) g x y z]] S) fun o => o = .ok (.tup [.tup A, .tup [.str "/", g, b], .int 0]) S := by
  have e := sq_t n r (A ++ [b]) g x y z (Dl.sx S []) (flat_line (flats_app fA (flats_cons fb rfl)) fg)
  refine Dl.sp_plain (g := b_by_over_right (tab (n + 1))) rfl fun Q hQ => ?_
  unfold b_by_over_right
  simp_arith [e]
  exact Dl.Qx (hS.wf rfl) (flat_trip fA (fl3 rfl fg fb) rfl) (hQ _ rfl)
include zA fA fb fg in
theorem by_ur (at_ : D) : Dl.Sp (tab (n + 2) .by_under_right [at_, .tup [ptD r (b :: A) g x y z]] S) fun o => o = .ok (.tup [.tup A, .tup [.str ">", b, g], .int 0]) S := by
  have e := sq_t n r (b :: A) g x y z (Dl.sx S []) (flat_line (flats_cons fb fA) fg)
  refine Dl.sp_plain (g := b_by_under_right (tab (n + 1))) rfl fun Q hQ => ?_
  unfold b_by_under_right
  simp_arith [e]
  exact Dl.Qx (hS.wf rfl) (flat_trip fA (fl3 rfl fb fg) rfl) (hQ _ rfl)
include zA zB fA fB fb fg in
theorem by_pr (at_ : D) : Dl.Sp (tab (n + 2) .by_pair_right [at_, .tup [ptD r A g x y z, ptD r' B b x' y' z']] S) fun o => o = .ok (.tup [.tup (A ++ B), .tup [.str "*", g, b], .int 0]) S := by
  have e := sq_t n r A g x y z (Dl.sx S []) (flat_line fA fg)
  have e2 := sq_t n r' B b x' y' z' (Dl.sx S []) (flat_line fB fb)
  refine Dl.sp_plain (g := b_by_pair_right (tab (n + 1))) rfl fun Q hQ => ?_
  unfold b_by_pair_right
  simp_arith [e, e2]
  exact Dl.Qx (hS.wf rfl) (flat_trip (flats_app fA fB) (fl3 rfl fg fb) rfl) (hQ _ rfl)
include hA zA zB zM fA fB fM fa fb fg in
theorem by_ol : Dl.Sp (tab (n + 2) .by_over_left [.int i, .tup [ptD r M b x y z, ptD r' (A ++ a :: B) g x' y' z']] S) fun o => o = .ok (.tup [.tup (A ++ .tup [.str "/", a, b] :: (M ++ B)), g, .int M.length]) S := by
  have e := sq_t n r M b x y z (Dl.sx S []) (flat_line fM fb)
  have e2 := sq_t n r' (A ++ a :: B) g x' y' z' (Dl.sx S []) (flat_line (flats_app fA (flats_cons fa fB)) fg)
  refine Dl.sp_plain (g := b_by_over_left (tab (n + 1))) rfl fun Q hQ => ?_
  unfold b_by_over_left
  simp_arith [e, e2, cut_mid1 hA, cut_mid2 hA, atI_mid hA]
  exact Dl.Qx (hS.wf rfl) (flat_trip (flats_app fA (flats_cons (fl3 rfl fa fb) (flats_app fM fB))) fg rfl) (hQ _ rfl)
include hA zA zB zM fA fB fM fa fb fg in
theorem by_ul (at_ : Int) (hat : at_ = i + M.length) : Dl.Sp (tab (n + 2) .by_under_left [.int at_, .tup [ptD r M b x y z, ptD r' (A ++ a :: B) g x' y' z']] S) fun o => o = .ok (.tup [.tup (A ++ (M ++ .tup [.str ">", b, a] :: B)), g, .int M.length]) S := by
  have e := sq_t n r M b x y z (Dl.sx S []) (flat_line fM fb)
  have e2 := sq_t n r' (A ++ a :: B) g x' y' z' (Dl.sx S []) (flat_line (flats_app fA (flats_cons fa fB)) fg)
  refine Dl.sp_plain (g := b_by_under_left (tab (n + 1))) rfl fun Q hQ => ?_
  unfold b_by_under_left
  simp_arith [e, e2, show at_ - (M.length : Int) = (i : Int) by omega, cut_mid1 hA, cut_mid2 hA, atI_mid hA]
  exact Dl.Qx (hS.wf rfl) (flat_trip (flats_app fA (flats_app fM (flats_cons (fl3 rfl fb fa) fB))) fg rfl) (hQ _ rfl)
include hA zA zB fA fB fa fb fg in
theorem by_pl : Dl.Sp (tab (n + 2) .by_pair_left [.int i, .tup [ptD r (A ++ a :: b :: B) g x y z]] S) fun o => o = .ok (.tup [.tup (A ++ .tup [.str "*", a, b] :: B), g, .int 0]) S := by
  have e := sq_t n r (A ++ a :: b :: B) g x y z (Dl.sx S []) (flat_line (flats_app fA (flats_cons fa (flats_cons fb fB))) fg)
  refine Dl.sp_plain (g := b_by_pair_left (tab (n + 1))) rfl fun Q hQ => ?_
  unfold b_by_pair_left
  simp_arith [e, cut_mid1 hA, cut_mid3 hA, atI_mid hA, atI_mid1 hA]
  exact Dl.Qx (hS.wf rfl) (flat_trip (flats_app fA (flats_cons (fl3 rfl fa fb) fB)) fg rfl) (hQ _ rfl)
include hA zA zB zM fA fB fM fa fb fg in
theorem by_ct : Dl.Sp (tab (n + 2) .by_cut [.int i, .tup [ptD r M b x y z, ptD r' (A ++ a :: B) g x' y' z']] S) fun o => o = .ok (.tup [.tup (A ++ (M ++ B)), g, .int M.length]) S := by
  have e := sq_t n r M b x y z (Dl.sx S []) (flat_line fM fb)
  have e2 := sq_t n r' (A ++ a :: B) g x' y' z' (Dl.sx S []) (flat_line (flats_app fA (flats_cons fa fB)) fg)
  refine Dl.sp_plain (g := b_by_cut (tab (n + 1))) rfl fun Q hQ => ?_
  unfold b_by_cut
  simp_arith [e, e2, cut_mid1 hA, cut_mid2 hA]
  exact Dl.Qx (hS.wf rfl) (flat_trip (flats_app fA (flats_app fM fB)) fg rfl) (hQ _ rfl)
end
theorem mid_flat {A B : List D} {a : D} (h : flats (A ++ a :: B) = true) : flats A = true ∧ a.flat = true ∧ flats B = true := by
  have f3 := flats_iff.mp h
  exact ⟨flats_iff.mpr fun d hd => f3 d (List.mem_append_left _ hd), f3 a (List.mem_append_right _ (List.mem_cons_self ..)), flats_iff.mpr fun d hd => f3 d (List.mem_append_right _ (List.mem_cons_of_mem _ hd))⟩
/-! ### build_step, by the builder's answer -/
theorem held_at {F : FN → List D → Dl.M D} {f : FN} : ∀ {fs : List FN}, (∀ x ∈ fs, x ∈ tfs) → f ∈ tfs → f ∈ fs → heldF (Fa.a f) (fs.map fun x => (Fa.a x, F x)) = some (F f)
  | [], _, _, h => nomatch h
  | y :: fs, hs, ht, h => by
    show (if Fa.a y = Fa.a f then some (F y) else heldF (Fa.a f) (fs.map fun x => (Fa.a x, F x))) = _
    by_cases e : Fa.a y = Fa.a f
    · rw [if_pos e, Fa.inj y (hs y (List.mem_cons_self ..)) f ht e]
    · rw [if_neg e]
      rcases List.mem_cons.mp h with z | z
      · exact absurd (by rw [z]) e
      · exact held_at (fun x hx => hs x (List.mem_cons_of_mem _ hx)) ht z
theorem build_t (n : Nat) {rule : Str} {f : FN} (hf : f ∈ tfs) (hr : k_BUILDERS.lookup rule = some (.raw (.ref (Fa.a f)))) {at_ : Int} {parts row : List D} {g : D} {w : Int} {S : Store} (hS : SOK S)
    (fr : flats row = true) (fg : g.flat = true) (fp : flats parts = true) (h : tab (n + 2) f [.int at_, .tup parts] (Dl.sx S []) = .ok (.tup [.tup row, g, .int w]) (Dl.sx S [])) :
    Dl.Sp (tab (n + 3) .build_step [.str rule, .int at_, .tup parts] S) fun r => r = .ok (stD rule row g at_ w parts) S := by
  refine Dl.sp_plain (g := b_build_step (tab (n + 2))) rfl fun Q hQ => ?_
  unfold b_build_step
  have et : gTab k_BUILDERS .non (.str rule) (Dl.sx S []) = some (.raw (.ref (Fa.a f)), Dl.sx S []) := by
    show (k_BUILDERS.lookup rule).map _ = _
    rw [hr]; rfl
  have eh : heldF (Fa.a f) [(Fa.a .by_over_right, tab (n + 2) .by_over_right), (Fa.a .by_under_right, tab (n + 2) .by_under_right), (Fa.a .by_pair_right, tab (n + 2) .by_pair_right), (Fa.a .by_over_left, tab (n + 2) .by_over_left), (Fa.a .by_under_left, tab (n + 2) .by_under_left), (Fa.a .by_pair_left, tab (n + 2) .by_pair_left), (Fa.a .by_cut, tab (n + 2) .by_cut)] = some (tab (n + 2) f) :=
    held_at (F := tab (n + 2)) (fs := tfs) (fun x hx => hx) hf hf
  simp_arith [et, Dl.kFv_ eh, h]
  exact Dl.Qx (hS.wf rfl) (wf_flat (stD_flat (rule := rule) (a := at_) (w := w) fr fg fp)) (hQ _ rfl)
section
variable (n : Nat) (S : Store) (hS : SOK S) (r x y z r' x' y' z' : D) (A B M : List D) (a b c g : D) (i : Nat) (hA : A.length = i) (zA : A.length ≤ 1000) (zB : B.length ≤ 1000) (zM : M.length ≤ 1000)
include hS
include zA in
theorem build_or (at_ : Int) (hp : (ptD r (A ++ [b]) g x y z).flat = true) : Dl.Sp (tab (n + 3) .build_step [.str "over right", .int at_, .tup [ptD r (A ++ [b]) g x y z]] S) fun o => o = .ok (stD "over right" A (.tup [.str "/", g, b]) at_ 0 [ptD r (A ++ [b]) g x y z]) S := by
  obtain ⟨f1, f2⟩ := ptD_flat hp
  have f3 := flats_iff.mp f1
  have fA : flats A = true := flats_iff.mpr fun d hd => f3 d (List.mem_append_left _ hd)
  have fb : b.flat = true := f3 b (List.mem_append_right _ (List.mem_singleton.mpr rfl))
  exact build_t n (f := .by_over_right) (by simp [tfs]) rfl hS fA (fl3 rfl f2 fb) (flats_cons hp rfl) (by_or n _ (SOK.sx hS .nil) r x y z A b g zA fA fb f2 (.int at_))
include zA in
theorem build_ur (at_ : Int) (hp : (ptD r (b :: A) g x y z).flat = true) : Dl.Sp (tab (n + 3) .build_step [.str "under right", .int at_, .tup [ptD r (b :: A) g x y z]] S) fun o => o = .ok (stD "under right" A (.tup [.str ">", b, g]) at_ 0 [ptD r (b :: A) g x y z]) S := by
  obtain ⟨f1, f2⟩ := ptD_flat hp
  have f3 := flats_iff.mp f1
  have fA : flats A = true := flats_iff.mpr fun d hd => f3 d (List.mem_cons_of_mem _ hd)
  have fb : b.flat = true := f3 b (List.mem_cons_self ..)
  exact build_t n (f := .by_under_right) (by simp [tfs]) rfl hS fA (fl3 rfl fb f2) (flats_cons hp rfl) (by_ur n _ (SOK.sx hS .nil) r x y z A b g zA fA fb f2 (.int at_))
include zA zB in
theorem build_pr (at_ : Int) (hp : (ptD r A g x y z).flat = true) (hp2 : (ptD r' B b x' y' z').flat = true) : Dl.Sp (tab (n + 3) .build_step [.str "pair right", .int at_, .tup [ptD r A g x y z, ptD r' B b x' y' z']] S) fun o => o = .ok (stD "pair right" (A ++ B) (.tup [.str "*", g, b]) at_ 0 [ptD r A g x y z, ptD r' B b x' y' z']) S := by
  obtain ⟨f1, f2⟩ := ptD_flat hp
  obtain ⟨f3, f4⟩ := ptD_flat hp2
  exact build_t n (f := .by_pair_right) (by simp [tfs]) rfl hS (flats_app f1 f3) (fl3 rfl f2 f4) (flats_cons hp (flats_cons hp2 rfl)) (by_pr n _ (SOK.sx hS .nil) r x y z r' x' y' z' A B b g zA zB f1 f3 f4 f2 (.int at_))
include hA zA zB zM in
theorem build_ol (hp : (ptD r M b x y z).flat = true) (hp2 : (ptD r' (A ++ a :: B) g x' y' z').flat = true) : Dl.Sp (tab (n + 3) .build_step [.str "over left", .int i, .tup [ptD r M b x y z, ptD r' (A ++ a :: B) g x' y' z']] S) fun o => o = .ok (stD "over left" (A ++ .tup [.str "/", a, b] :: (M ++ B)) g i M.length [ptD r M b x y z, ptD r' (A ++ a :: B) g x' y' z']) S := by
  obtain ⟨f1, f2⟩ := ptD_flat hp
  obtain ⟨f3, f4⟩ := ptD_flat hp2
  obtain ⟨f5, f6, f7⟩ := mid_flat f3
  exact build_t n (f := .by_over_left) (by simp [tfs]) rfl hS (flats_app f5 (flats_cons (fl3 rfl f6 f2) (flats_app f1 f7))) f4 (flats_cons hp (flats_cons hp2 rfl)) (by_ol n _ (SOK.sx hS .nil) r x y z r' x' y' z' A B M a b g i hA zA zB zM f5 f7 f1 f6 f2 f4)
include hA zA zB zM in
theorem build_ul (at_ : Int) (hat : at_ = i + M.length) (hp : (ptD r M b x y z).flat = true) (hp2 : (ptD r' (A ++ a :: B) g x' y' z').flat = true) : Dl.Sp (tab (n + 3) .build_step [.str "under left", .int at_, .tup [ptD r M b x y z, ptD r' (A ++ a :: B) g x' y' z']] S) fun o => o = .ok (stD "under left" (A ++ (M ++ .tup [.str ">", b, a] :: B)) g at_ M.length [ptD r M b x y z, ptD r' (A ++ a :: B) g x' y' z']) S := by
  obtain ⟨f1, f2⟩ := ptD_flat hp
  obtain ⟨f3, f4⟩ := ptD_flat hp2
  obtain ⟨f5, f6, f7⟩ := mid_flat f3
  exact build_t n (f := .by_under_left) (by simp [tfs]) rfl hS (flats_app f5 (flats_app f1 (flats_cons (fl3 rfl f2 f6) f7))) f4 (flats_cons hp (flats_cons hp2 rfl)) (by_ul n _ (SOK.sx hS .nil) r x y z r' x' y' z' A B M a b g i hA zA zB zM f5 f7 f1 f6 f2 f4 at_ hat)
include hA zA zB in
theorem build_pl (hp : (ptD r (A ++ a :: b :: B) g x y z).flat = true) : Dl.Sp (tab (n + 3) .build_step [.str "pair left", .int i, .tup [ptD r (A ++ a :: b :: B) g x y z]] S) fun o => o = .ok (stD "pair left" (A ++ .tup [.str "*", a, b] :: B) g i 0 [ptD r (A ++ a :: b :: B) g x y z]) S := by
  obtain ⟨f1, f2⟩ := ptD_flat hp
  obtain ⟨f5, f6, f7⟩ := mid_flat f1
  have f8 := flats_iff.mp f7
  have fb : b.flat = true := f8 b (List.mem_cons_self ..)
  have fB : flats B = true := flats_iff.mpr fun d hd => f8 d (List.mem_cons_of_mem _ hd)
  exact build_t n (f := .by_pair_left) (by simp [tfs]) rfl hS (flats_app f5 (flats_cons (fl3 rfl f6 fb) fB)) f2 (flats_cons hp rfl) (by_pl n _ (SOK.sx hS .nil) r x y z A B a b g i hA zA zB f5 fB f6 fb f2)
include hA zA zB zM in
theorem build_ct (hp : (ptD r M b x y z).flat = true) (hp2 : (ptD r' (A ++ a :: B) g x' y' z').flat = true) : Dl.Sp (tab (n + 3) .build_step [.str "cut", .int i, .tup [ptD r M b x y z, ptD r' (A ++ a :: B) g x' y' z']] S) fun o => o = .ok (stD "cut" (A ++ (M ++ B)) g i M.length [ptD r M b x y z, ptD r' (A ++ a :: B) g x' y' z']) S := by
  obtain ⟨f1, f2⟩ := ptD_flat hp
  obtain ⟨f3, f4⟩ := ptD_flat hp2
  obtain ⟨f5, f6, f7⟩ := mid_flat f3
  exact build_t n (f := .by_cut) (by simp [tfs]) rfl hS (flats_app f5 (flats_app f1 f7)) f4 (flats_cons hp (flats_cons hp2 rfl)) (by_ct n _ (SOK.sx hS .nil) r x y z r' x' y' z' A B M a b g i hA zA zB zM f5 f7 f1 f6 f2 f4)
end

end Lw

set_option Elab.async false
set_option linter.all false
set_option maxRecDepth 100000
namespace Lw
open PySem L2 Dl
variable [Fa]
local macro_rules | `(tactic| simp_arith [$ls,*]) => `(tactic| simp (disch := first | omega | assumption | (simp only [List.length_cons, List.length_nil, List.length_append, List.length_take, List.length_drop]; omega) | (simp only [List.length_cons, List.length_nil])) only [sQ_, sP_, sE_, sR_, sIf_, sN_, sA_, tgO_nx, nm_, tgIx_, eC_, eV0, eV1, e1_, e2_, eB_, eF_, aN_, aC_, eMt_, eSl_, oN_, oI_, tV_, tE_, tA_, tO_, tN_, eIf_, eAnd_, eOr_, eNot_, eCh_, seq_nx, seq_rt, seq_bk, seq_ct, seq_ex, toR_some, toR_none, toT_some, truD_bl, truD_int, truD_tup, truD_non, truD_str, truD_ref, truC_lst, tyD_str, tyD_tup, tyD_int, tyD_bl, tyD_non, tyD_ref, tyC_lst, tyC_rol, tyC_dic, kE_, kR_, kIf_t, kIf_f, kN_, kA_, kIx1_, kIx2_, kIx3_, kE1_, kE21_, kE2_, kB_, kF_, kC1_, kC_, kM1_, kM2_, kM_, kS1_, kS2_, kS3_, kO_, kV_, kT_, kAn_t, kAn_f, kOr_t, kOr_f, kNo_, kIfE_t, kIfE_f, kVa_, kVa2_t, kVa2_f, kVo_, kVo2_t, kVo2_f, kVn_, kVn2_, kH_, kH1_, kH2_t, kH2_f, kH3_, List.getElem?_cons_zero, List.getElem?_cons_succ, List.set_cons_zero, List.set_cons_succ, gAdd_int, gAdd_str, gAdd_t, gAdd_r, catC_s, gSub_int, gMul_l, gMul_r, gFdiv_int, gMod_int, gLt_int, gLe_int, gGt_int, gGe_int, gInt_int, gAbs_int, gLen_tup, gLen_str, gLen_r, lenC_s, gTpl_, gLsd_, gIx_r, ixC_s, ixO_s, gIx_t, gIx_s, ixS_s, atI_0, atI_1, atI_2, atI_3, atI_4, atI_5, gAppend_r, appC_s, gExtend_r, extC_s, gPop_r, popC_s, gSet_r, setC_0, setC_2, gTuple_r, tupC_s, gTuple_t, gList_r, gList_t, newC_s, gSl_r, slC_s, gSl_t, gSl_s, cut_take, cut_drop, cut_init, cut_mid, Int.toNat_natCast, lstC_lst, lstC_rol, lstAt_C, isi_str, isi_int, isi_bool, isi_tup, isi_lst, isO_s, isB_1, isB_2, isB_3, isB_4, isB_5, isB_6, isB_7, isB_8, isB_9, isB_10, isB_11, isB_12, isB_13, isB_14, isB_15, isB_16, isB_17, isB_18, isB_19, isB_20, isB_21, isB_22, isB_23, isB_24, isB_25, isB_26, gSum_r, sumC_s, sumO_s, gMin_, gMax_, qEq_int, qNe_int, qEq_str, qNe_str, gNeg_z, tgT_, tgU_, tgL0, tgL1, eTab_, kTab_, sX_, tgIxX_, kX1_, kX2_, kX3_, gSetX_r, setX_0, setX_2, setX_s, sPar_, kPar_, eFv_, eGetD_, kG1_, isDic_r, isDC_d, kG1b_, kG2_, kG3_, gGetD_r, getC_s, gMaxL_r, maxC_, gRep_r, repC_, eD0_, gDget_r, dgC_s, List.getElem?_concat_length, set_end, sF_, kFor_, iR1_, kR1_, iR2_, kR2_, kR3_, iA_, kAny_r, kAny_t, kAny_s, iaC_s, eLc_, kLc_, wipeD_c, wipeD_n, tYes_, put_one, sAug_, gAug_i, sBk_, sCt_, sW_, st_len, st_p, st_k, st_0, st_q, st_set_p, st_set_k, st_set_0, st_push, sx_len, sx_k, sx_0, sx_q, sx_set_k, sx_set_0, sx_push, So_rt, So_nx, So_ex, Tn_nx, Tn_ct, Tn_bk, Tn_rt, Tn_ex, Bool.false_eq_true, if_true, if_false, reduceIte, Option.map_some, Option.bind_some, Bool.not_true, Bool.not_false, decide_true, decide_false, eq_self, List.length_append, List.length_singleton, List.length_cons, List.length_nil, List.map_cons, List.map_nil, Nat.sub_self, List.replicate_zero, List.append_nil, List.cons_append, List.nil_append, List.append_assoc, List.replicate_succ, Nat.reduceSub, Nat.reduceAdd, Nat.add_zero, Nat.zero_add, Nat.add_assoc, Nat.reduceLeDiff, Int.natCast_add, Int.cast_ofNat_Int, Int.reduceEq, Int.reduceLT, Int.reduceLE, Int.reduceAdd, Int.reduceSub, Int.reduceNeg, Int.reduceToNat, List.take_succ_cons, List.take_zero, List.drop_succ_cons, List.drop_zero, List.dropLast_concat, Dl.atI_last, gFdivW_, gJoin_r, joinC_, gUpper_, gRepl_, gInK_, gNinK_, r_ax_or, r_ax_ur, r_ax_pr, r_ax_ol, r_ax_ul, r_ax_pl, r_ax_ct, r_or_ax, r_or_ur, r_or_pr, r_or_ol, r_or_ul, r_or_pl, r_or_ct, r_ur_ax, r_ur_or, r_ur_pr, r_ur_ol, r_ur_ul, r_ur_pl, r_ur_ct, r_pr_ax, r_pr_or, r_pr_ur, r_pr_ol, r_pr_ul, r_pr_pl, r_pr_ct, r_ol_ax, r_ol_or, r_ol_ur, r_ol_pr, r_ol_ul, r_ol_pl, r_ol_ct, r_ul_ax, r_ul_or, r_ul_ur, r_ul_pr, r_ul_ol, r_ul_pl, r_ul_ct, r_pl_ax, r_pl_or, r_pl_ur, r_pl_pr, r_pl_ol, r_pl_ul, r_pl_ct, r_ct_ax, r_ct_or, r_ct_ur, r_ct_pr, r_ct_ol, r_ct_ul, r_ct_pl, q1, q2, q3, q4, q5, q6, e1, e2, e3, gInt_bl, gIs_tn, gIs_nn, gIsN_tn, gIsN_nn, gReverse_r, revC_s, iV_, kVV_t, kVV_r, revI_s, $ls,*])
local macro_rules | `(tactic| walk_at "ev") => `(tactic| simp (disch := first | omega | assumption | (simp only [List.length_cons, List.length_nil, List.length_append, List.length_take, List.length_drop]; omega) | (simp only [List.length_cons, List.length_nil])) only [sQ_, sP_, sE_, sR_, sIf_, sN_, sA_, tgO_nx, nm_, tgIx_, eC_, eV0, eV1, e1_, e2_, eB_, eF_, aN_, aC_, eMt_, eSl_, oN_, oI_, tV_, tE_, tA_, tO_, tN_, eIf_, eAnd_, eOr_, eNot_, eCh_, seq_nx, seq_rt, seq_bk, seq_ct, seq_ex, toR_some, toR_none, toT_some, truD_bl, truD_int, truD_tup, truD_non, truD_str, truD_ref, truC_lst, tyD_str, tyD_tup, tyD_int, tyD_bl, tyD_non, tyD_ref, tyC_lst, tyC_rol, tyC_dic, kE_, kR_, kIf_t, kIf_f, kN_, kA_, kIx1_, kIx2_, kIx3_, kE1_, kE21_, kE2_, kB_, kF_, kC1_, kC_, kM1_, kM2_, kM_, kS1_, kS2_, kS3_, kO_, kV_, kT_, kAn_t, kAn_f, kOr_t, kOr_f, kNo_, kIfE_t, kIfE_f, kVa_, kVa2_t, kVa2_f, kVo_, kVo2_t, kVo2_f, kVn_, kVn2_, kH_, kH1_, kH2_t, kH2_f, kH3_, List.getElem?_cons_zero, List.getElem?_cons_succ, List.set_cons_zero, List.set_cons_succ, gAdd_int, gAdd_str, gAdd_t, gAdd_r, catC_s, gSub_int, gMul_l, gMul_r, gFdiv_int, gMod_int, gLt_int, gLe_int, gGt_int, gGe_int, gInt_int, gAbs_int, gLen_tup, gLen_str, gLen_r, lenC_s, gTpl_, gLsd_, gIx_r, ixC_s, ixO_s, gIx_t, gIx_s, ixS_s, atI_0, atI_1, atI_2, atI_3, atI_4, atI_5, gAppend_r, appC_s, gExtend_r, extC_s, gPop_r, popC_s, gSet_r, setC_0, setC_2, gTuple_r, tupC_s, gTuple_t, gList_r, gList_t, newC_s, gSl_r, slC_s, gSl_t, gSl_s, cut_take, cut_drop, cut_init, cut_mid, Int.toNat_natCast, lstC_lst, lstC_rol, lstAt_C, isi_str, isi_int, isi_bool, isi_tup, isi_lst, isO_s, isB_1, isB_2, isB_3, isB_4, isB_5, isB_6, isB_7, isB_8, isB_9, isB_10, isB_11, isB_12, isB_13, isB_14, isB_15, isB_16, isB_17, isB_18, isB_19, isB_20, isB_21, isB_22, isB_23, isB_24, isB_25, isB_26, gSum_r, sumC_s, sumO_s, gMin_, gMax_, qEq_int, qNe_int, qEq_str, qNe_str, gNeg_z, tgT_, tgU_, tgL0, tgL1, eTab_, kTab_, sX_, tgIxX_, kX1_, kX2_, kX3_, gSetX_r, setX_0, setX_2, setX_s, sPar_, kPar_, eFv_, eGetD_, kG1_, isDic_r, isDC_d, kG1b_, kG2_, kG3_, gGetD_r, getC_s, gMaxL_r, maxC_, gRep_r, repC_, eD0_, gDget_r, dgC_s, List.getElem?_concat_length, set_end, sF_, kFor_, iR1_, kR1_, iR2_, kR2_, kR3_, iA_, kAny_r, kAny_t, kAny_s, iaC_s, eLc_, kLc_, wipeD_c, wipeD_n, tYes_, put_one, sAug_, gAug_i, sBk_, sCt_, sW_, st_len, st_p, st_k, st_0, st_q, st_set_p, st_set_k, st_set_0, st_push, sx_len, sx_k, sx_0, sx_q, sx_set_k, sx_set_0, sx_push, So_rt, So_nx, So_ex, Tn_nx, Tn_ct, Tn_bk, Tn_rt, Tn_ex, Bool.false_eq_true, if_true, if_false, reduceIte, Option.map_some, Option.bind_some, Bool.not_true, Bool.not_false, decide_true, decide_false, eq_self, List.length_append, List.length_singleton, List.length_cons, List.length_nil, List.map_cons, List.map_nil, Nat.sub_self, List.replicate_zero, List.append_nil, List.cons_append, List.nil_append, List.append_assoc, List.replicate_succ, Nat.reduceSub, Nat.reduceAdd, Nat.add_zero, Nat.zero_add, Nat.add_assoc, Nat.reduceLeDiff, Int.natCast_add, Int.cast_ofNat_Int, Int.reduceEq, Int.reduceLT, Int.reduceLE, Int.reduceAdd, Int.reduceSub, Int.reduceNeg, Int.reduceToNat, List.take_succ_cons, List.take_zero, List.drop_succ_cons, List.drop_zero, List.dropLast_concat, Dl.atI_last, gFdivW_, gJoin_r, joinC_, gUpper_, gRepl_, gInK_, gNinK_, r_ax_or, r_ax_ur, r_ax_pr, r_ax_ol, r_ax_ul, r_ax_pl, r_ax_ct, r_or_ax, r_or_ur, r_or_pr, r_or_ol, r_or_ul, r_or_pl, r_or_ct, r_ur_ax, r_ur_or, r_ur_pr, r_ur_ol, r_ur_ul, r_ur_pl, r_ur_ct, r_pr_ax, r_pr_or, r_pr_ur, r_pr_ol, r_pr_ul, r_pr_pl, r_pr_ct, r_ol_ax, r_ol_or, r_ol_ur, r_ol_pr, r_ol_ul, r_ol_pl, r_ol_ct, r_ul_ax, r_ul_or, r_ul_ur, r_ul_pr, r_ul_ol, r_ul_pl, r_ul_ct, r_pl_ax, r_pl_or, r_pl_ur, r_pl_pr, r_pl_ol, r_pl_ul, r_pl_ct, r_ct_ax, r_ct_or, r_ct_ur, r_ct_pr, r_ct_ol, r_ct_ul, r_ct_pl, q1, q2, q3, q4, q5, q6, e1, e2, e3, gInt_bl, gIs_tn, gIs_nn, gIsN_tn, gIsN_nn, gReverse_r, revC_s, iV_, kVV_t, kVV_r, revI_s])
-- fa
/-! ## a step built again -/
theorem build_shape (n : Nat) {P : Str → Prop} {t : DT} (h : Shape P t) (hr : t.rule ≠ "axiom") (hp : ∀ p ∈ t.ps, p.row.length ≤ 1000) (S : Store) (hS : SOK S) : Dl.Sp (tab (n + 3) .build_step [.str t.rule, .int t.a, .tup (dtds t.ps)] S) fun o => o = .ok t.d S := by
  have hd : ∀ p : DT, p.d = ptD (.str p.rule) (kds p.row) p.g.d (.int p.a) (.int p.w) (.tup (dtds p.ps)) := fun p => DT.d_eq p
  have hf : ∀ p : DT, (ptD (.str p.rule) (kds p.row) p.g.d (.int p.a) (.int p.w) (.tup (dtds p.ps))).flat = true := fun p => by rw [← hd]; exact DT.flat p
  cases h with
  | ax _ => exact absurd rfl hr
  | @or p A b e ne =>
    have l := hp p (by simp [DT.ps])
    have hf := hf p
    rw [e, kds_app] at hf
    rw [e, List.length_append] at l
    have := build_or n S hS (.str p.rule) (.int p.a) (.int p.w) (.tup (dtds p.ps)) (kds A) b.d p.g.d (by rw [kds_len]; omega) 0 hf
    rw [show kds A ++ [b.d] = kds p.row by rw [e, kds_app]; rfl, ← hd] at this
    exact this
  | @ur p A b e ne =>
    have l := hp p (by simp [DT.ps])
    have hf := hf p
    rw [e] at hf
    rw [e, List.length_cons] at l
    have := build_ur n S hS (.str p.rule) (.int p.a) (.int p.w) (.tup (dtds p.ps)) (kds A) b.d p.g.d (by rw [kds_len]; omega) 0 hf
    rw [show b.d :: kds A = kds p.row by rw [e]; rfl, ← hd] at this
    exact this
  | @pr p q =>
    have l := hp p (by simp [DT.ps])
    have l2 := hp q (by simp [DT.ps])
    have := build_pr n S hS (.str p.rule) (.int p.a) (.int p.w) (.tup (dtds p.ps)) (.str q.rule) (.int q.a) (.int q.w) (.tup (dtds q.ps)) (kds p.row) (kds q.row) q.g.d p.g.d (by rw [kds_len]; omega) (by rw [kds_len]; omega) p.row.length (hf p) (hf q)
    rw [← hd, ← hd, ← kds_app] at this
    exact this
  | @ol p q A B K e =>
    have l := hp p (by simp [DT.ps])
    have l2 := hp q (by simp [DT.ps])
    have hq := hf q
    rw [e] at l2 hq
    rw [kds_app] at hq
    simp only [List.length_append, List.length_cons] at l2
    have := build_ol n S hS (.str p.rule) (.int p.a) (.int p.w) (.tup (dtds p.ps)) (.str q.rule) (.int q.a) (.int q.w) (.tup (dtds q.ps)) (kds A) (kds B) (kds p.row) K.d p.g.d q.g.d A.length (kds_len A) (by rw [kds_len]; omega) (by rw [kds_len]; omega) (by rw [kds_len]; omega) (hf p) hq
    rw [show kds A ++ K.d :: kds B = kds q.row by rw [e, kds_app]; rfl, ← hd, ← hd, kds_len, ← kds_app] at this
    rw [DT.d_eq, show (DT.st "over left" (A ++ .node "/" K p.g :: (p.row ++ B)) q.g A.length p.row.length [p, q]).row = A ++ .node "/" K p.g :: (p.row ++ B) from rfl, kds_app]
    exact this
  | @ul p q A B K x e hx =>
    have l := hp p (by simp [DT.ps])
    have l2 := hp q (by simp [DT.ps])
    have hq := hf q
    rw [e] at l2 hq
    rw [kds_app] at hq
    simp only [List.length_append, List.length_cons] at l2
    have := build_ul n S hS (.str p.rule) (.int p.a) (.int p.w) (.tup (dtds p.ps)) (.str q.rule) (.int q.a) (.int q.w) (.tup (dtds q.ps)) (kds A) (kds B) (kds p.row) K.d p.g.d q.g.d A.length (kds_len A) (by rw [kds_len]; omega) (by rw [kds_len]; omega) (by rw [kds_len]; omega) x (by rw [kds_len]; exact hx) (hf p) hq
    rw [show kds A ++ K.d :: kds B = kds q.row by rw [e, kds_app]; rfl, ← hd, ← hd, kds_len] at this
    rw [DT.d_eq, show (DT.st "under left" (A ++ (p.row ++ .node ">" p.g K :: B)) q.g x p.row.length [p, q]).row = A ++ (p.row ++ .node ">" p.g K :: B) from rfl, kds_app, kds_app]
    exact this
  | @pl p A B K K2 e =>
    have l := hp p (by simp [DT.ps])
    have hq := hf p
    rw [e] at l hq
    rw [kds_app] at hq
    simp only [List.length_append, List.length_cons] at l
    have := build_pl n S hS (.str p.rule) (.int p.a) (.int p.w) (.tup (dtds p.ps)) (kds A) (kds B) K.d K2.d p.g.d A.length (kds_len A) (by rw [kds_len]; omega) (by rw [kds_len]; omega) hq
    rw [show kds A ++ K.d :: K2.d :: kds B = kds p.row by rw [e, kds_app]; rfl, ← hd] at this
    rw [DT.d_eq, show (DT.st "pair left" (A ++ .node "*" K K2 :: B) p.g A.length 0 [p]).row = A ++ .node "*" K K2 :: B from rfl, kds_app]
    exact this
  | @ct p q A B e =>
    have l := hp p (by simp [DT.ps])
    have l2 := hp q (by simp [DT.ps])
    have hq := hf q
    rw [e] at l2 hq
    rw [kds_app] at hq
    simp only [List.length_append, List.length_cons] at l2
    have := build_ct n S hS (.str p.rule) (.int p.a) (.int p.w) (.tup (dtds p.ps)) (.str q.rule) (.int q.a) (.int q.w) (.tup (dtds q.ps)) (kds A) (kds B) (kds p.row) p.g.d p.g.d q.g.d A.length (kds_len A) (by rw [kds_len]; omega) (by rw [kds_len]; omega) (by rw [kds_len]; omega) (hf p) hq
    rw [show kds A ++ p.g.d :: kds B = kds q.row by rw [e, kds_app]; rfl, ← hd, ← hd, kds_len] at this
    rw [DT.d_eq, show (DT.st "cut" (A ++ (p.row ++ B)) q.g A.length p.row.length [p, q]).row = A ++ (p.row ++ B) from rfl, kds_app, kds_app]
    exact this
/-! ## the mirror -/
theorem place_t (n : Nat) {r : Str} (a w c : Int) (hr : r ≠ "axiom") (S : Store) (hS : SOK S) : Dl.Sp (tab (n + 1) .mirror_place [.str r, .int a, .int w, .int c] S) fun o => o = .ok (.int (mp r a w c)) S := by
  refine Dl.sp_plain (g := b_mirror_place (tab n)) rfl fun Q hQ => ?_
  unfold b_mirror_place
  have fin : ∀ (x : Int) L, mp r a w c = x → Q (cmp S.length (.int x) (Dl.sx S L)) := fun x L e => Dl.Qx (hS.wf rfl) rfl (hQ _ (by rw [e]))
  by_cases h1 : r = "over right"
  · subst h1
    simp_arith []
    exact fin _ _ (by unfold mp; rw [if_pos (by decide)])
  by_cases h2 : r = "under right"
  · subst h2
    simp_arith []
    exact fin _ _ (by unfold mp; rw [if_pos (by decide)])
  have h3 : (["axiom", "over right", "under right"] : List Str).any (· == r) = false := by
    rw [Bool.eq_false_iff]
    intro z
    obtain ⟨x, hx, e⟩ := List.any_eq_true.mp z
    have e := eq_of_beq e
    simp only [List.mem_cons, List.not_mem_nil, or_false] at hx
    rcases hx with rfl | rfl | rfl
    · exact hr e.symm
    · exact h1 e.symm
    · exact h2 e.symm
  have em : mp r a w c = if r = "pair right" then c - a else if r = "cut" then c - a - w else c - 1 - a := by
    unfold mp
    rw [h3, if_neg Bool.false_ne_true]
  by_cases h4 : r = "pair right"
  · rw [if_pos h4] at em
    simp_arith [h1, h2, h4]
    exact fin _ _ em
  · rw [if_neg h4] at em
    by_cases h5 : r = "cut"
    · rw [if_pos h5] at em
      simp_arith [h1, h2, h4, h5]
      exact fin _ _ em
    · rw [if_neg h5] at em
      simp_arith [h1, h2, h4, h5]
      exact fin _ _ em
theorem rules_at {r : Str} (h : r ∈ RN8) (hr : r ≠ "axiom") (S : Store) : gTab k_MIRROR_RULES .non (.str r) S = some (.str (mr r), S) := by
  have e : k_MIRROR_RULES.lookup r = some (.str (mr r)) := by
    unfold RN8 at h
    simp only [List.mem_cons, List.not_mem_nil, or_false] at h
    rcases h with rfl | rfl | rfl | rfl | rfl | rfl | rfl | rfl
    · exact absurd rfl hr
    all_goals rfl
  show (k_MIRROR_RULES.lookup r).map (fun d => (d, S)) = _
  rw [e]
  rfl
theorem mD_ax {t : Str} : mD (.st "axiom" [.leaf t] (.leaf t) 0 0 []) = .st "axiom" [.leaf t] (.leaf t) 0 0 [] := by
  show DT.st (mr "axiom") (mrow [.leaf t]) (.leaf t) (mp "axiom" 0 0 1) 0 (if ("axiom" : Str) = "pair right" then (mDs []).reverse else mDs []) = _
  rw [show mr "axiom" = "axiom" by decide, show mp "axiom" 0 0 1 = 0 by unfold mp; rw [if_pos (by decide)], if_neg (by decide)]
  rfl
theorem mirror_t (n : Nat) {P : Str → Prop} : ∀ (L : Nat) (t : DT) (S : Store), Made P t → t.dp ≤ L → SOK S → Dl.Sp (tab (n + L + 3) .mirror_derivation [t.d] S) fun o => o = .ok (mD t).d S
  | 0, t, _, _, h, _ => by rw [DT.dp_eq] at h; omega
  | L + 1, t, S, ht, h, hS => by
    refine Dl.sp_plain (g := b_mirror_derivation (tab (n + L + 3))) rfl fun Q hQ => ?_
    rw [DT.dp_eq] at h
    have fin : ∀ L, Q (cmp S.length (mD t).d (Dl.sx S L)) := fun L => Dl.Qx (hS.wf rfl) (wf_flat (DT.flat _)) (hQ _ rfl)
    unfold b_mirror_derivation
    have hd := DT.d_eq t
    by_cases hax : t.rule = "axiom"
    · obtain ⟨x, rfl⟩ : ∃ x, t = .st "axiom" [.leaf x] (.leaf x) 0 0 [] := by
        cases ht.sh with
        | @ax x _ => exact ⟨x, rfl⟩
        | or _ _ => exact absurd hax (by show ¬ (("over right" : Str) = "axiom"); decide)
        | ur _ _ => exact absurd hax (by show ¬ (("under right" : Str) = "axiom"); decide)
        | pr => exact absurd hax (by show ¬ (("pair right" : Str) = "axiom"); decide)
        | ol _ => exact absurd hax (by show ¬ (("over left" : Str) = "axiom"); decide)
        | ul _ _ => exact absurd hax (by show ¬ (("under left" : Str) = "axiom"); decide)
        | pl _ => exact absurd hax (by show ¬ (("pair left" : Str) = "axiom"); decide)
        | ct _ => exact absurd hax (by show ¬ (("cut" : Str) = "axiom"); decide)
      rw [mD_ax, axiom_d] at fin
      rw [axiom_d]
      simp_arith []
      exact fin _
    · have hb := ht.bd
      have hp := ht.parts
      have zr := kds_len t.row
      have lr := hb.len
      have hm := ht.mir
      have rnm := rules_at ht.sh.rn hax
      have hax2 : (mD t).rule ≠ "axiom" := by
        rw [mD_rule]
        intro z
        have := (mr_mr ht.sh.rn).1
        rw [z, show mr "axiom" = "axiom" by decide] at this
        exact hax this.symm
      have lps : (mD t).ps.length ≤ 2 := hm.1.sh.two
      have eb := fun M (hM : SOK (Dl.sx S M)) => build_shape (n + L) hm.1.sh hax2 (fun p hp => by have := (hm.1.parts p hp).bd.len; omega) (Dl.sx S M) hM
      rw [mD_rule, mD_a, mD_ps] at eb
      have epl := fun M (hM : SOK (Dl.sx S M)) => place_t (n + L + 2) t.a t.w t.row.length hax (Dl.sx S M) hM
      rw [show n + L + 2 + 1 = n + (L + 3) by omega] at epl
      have hp2 := ht.sh.two
      have zps := dtds_len t.ps
      rw [hd]
      simp_arith [hax]
      refine Dl.forQ (fun j ρ T => ∃ v2, ρ = [some (.tup [.str t.rule, .tup (kds t.row), t.g.d, .int t.a, .int t.w, .tup (dtds t.ps)]), some (.ref S.length), v2, none, some (.str t.rule), some (.tup (kds t.row)), some t.g.d, some (.int t.a), some (.int t.w), some (.tup (dtds t.ps))] ∧ T = Dl.sx S [.lst (dtds ((t.ps.take j).map mD))])
        ⟨_, rfl, rfl⟩ ?_ ?_
      · rintro j d _ _ hj ⟨v2, rfl, rfl⟩
        rw [dtds_map, List.getElem?_map] at hj
        obtain ⟨p, hpj, rfl⟩ := Option.map_eq_some_iff.mp hj
        have hpm := List.mem_of_getElem? hpj
        refine ⟨chk_nil, _, _, rfl, ?_⟩
        have ep := mirror_t n L p (Dl.sx S [.lst (dtds ((t.ps.take j).map mD))]) (hp p hpm) (by have := dps_mem hpm; omega) (SOK.sx hS (.one (c := Dl.Cell.lst _) (dtds_flat _)))
        rw [Nat.add_assoc] at ep
        have lz : (dtds ((t.ps.take j).map mD)).length < 1000 := by rw [dtds_len, List.length_map, List.length_take]; omega
        simp_arith [ep]
        refine ⟨_, rfl, ?_⟩
        rw [List.take_succ, hpj, List.map_append, dtds_app]
        rfl
      · rintro _ _ ⟨v2, rfl, rfl⟩
        rw [zps, List.take_length]
        refine ⟨chk_nil, ?_⟩
        by_cases hpr : t.rule = "pair right"
        · rw [if_pos hpr] at eb
          have er : (dtds (t.ps.map mD)).reverse = dtds (t.ps.map mD).reverse := by rw [dtds_map, dtds_map, List.map_reverse]
          have S2 : SOK (Dl.sx S [.lst (dtds (t.ps.map mD).reverse)]) := SOK.sx hS (.one (c := Dl.Cell.lst _) (dtds_flat _))
          have e1 := epl _ S2
          have e2 := eb _ S2
          have e3 := rnm (Dl.sx S [.lst (dtds (t.ps.map mD).reverse)])
          rw [hpr] at e1 e2 e3
          rw [Nat.add_assoc] at e2
          simp_arith [hpr, er, zr, e1, eTab_, kTab_, e3, e2]
          exact fin _
        · rw [if_neg hpr] at eb
          have S2 : SOK (Dl.sx S [.lst (dtds (t.ps.map mD))]) := SOK.sx hS (.one (c := Dl.Cell.lst _) (dtds_flat _))
          have e1 := epl _ S2
          have e2 := eb _ S2
          have e3 := rnm (Dl.sx S [.lst (dtds (t.ps.map mD))])
          rw [Nat.add_assoc] at e2
          simp_arith [hpr, zr, e1, eTab_, kTab_, e3, e2]
          exact fin _

end Lw

set_option Elab.async false
set_option linter.all false
set_option maxRecDepth 100000
namespace Lw
open PySem L2 Dl
variable [Fa]
local macro_rules | `(tactic| simp_arith [$ls,*]) => `(tactic| simp (disch := first | omega | assumption | (simp only [List.length_cons, List.length_nil, List.length_append, List.length_take, List.length_drop]; omega) | (simp only [List.length_cons, List.length_nil])) only [sQ_, sP_, sE_, sR_, sIf_, sN_, sA_, tgO_nx, nm_, tgIx_, eC_, eV0, eV1, e1_, e2_, eB_, eF_, aN_, aC_, eMt_, eSl_, oN_, oI_, tV_, tE_, tA_, tO_, tN_, eIf_, eAnd_, eOr_, eNot_, eCh_, seq_nx, seq_rt, seq_bk, seq_ct, seq_ex, toR_some, toR_none, toT_some, truD_bl, truD_int, truD_tup, truD_non, truD_str, truD_ref, truC_lst, tyD_str, tyD_tup, tyD_int, tyD_bl, tyD_non, tyD_ref, tyC_lst, tyC_rol, tyC_dic, kE_, kR_, kIf_t, kIf_f, kN_, kA_, kIx1_, kIx2_, kIx3_, kE1_, kE21_, kE2_, kB_, kF_, kC1_, kC_, kM1_, kM2_, kM_, kS1_, kS2_, kS3_, kO_, kV_, kT_, kAn_t, kAn_f, kOr_t, kOr_f, kNo_, kIfE_t, kIfE_f, kVa_, kVa2_t, kVa2_f, kVo_, kVo2_t, kVo2_f, kVn_, kVn2_, kH_, kH1_, kH2_t, kH2_f, kH3_, List.getElem?_cons_zero, List.getElem?_cons_succ, List.set_cons_zero, List.set_cons_succ, gAdd_int, gAdd_str, gAdd_t, gAdd_r, catC_s, gSub_int, gMul_l, gMul_r, gFdiv_int, gMod_int, gLt_int, gLe_int, gGt_int, gGe_int, gInt_int, gAbs_int, gLen_tup, gLen_str, gLen_r, lenC_s, gTpl_, gLsd_, gIx_r, ixC_s, ixO_s, gIx_t, gIx_s, ixS_s, atI_0, atI_1, atI_2, atI_3, atI_4, atI_5, gAppend_r, appC_s, gExtend_r, extC_s, gPop_r, popC_s, gSet_r, setC_0, setC_2, gTuple_r, tupC_s, gTuple_t, gList_r, gList_t, newC_s, gSl_r, slC_s, gSl_t, gSl_s, cut_take, cut_drop, cut_init, cut_mid, Int.toNat_natCast, lstC_lst, lstC_rol, lstAt_C, isi_str, isi_int, isi_bool, isi_tup, isi_lst, isO_s, isB_1, isB_2, isB_3, isB_4, isB_5, isB_6, isB_7, isB_8, isB_9, isB_10, isB_11, isB_12, isB_13, isB_14, isB_15, isB_16, isB_17, isB_18, isB_19, isB_20, isB_21, isB_22, isB_23, isB_24, isB_25, isB_26, gSum_r, sumC_s, sumO_s, gMin_, gMax_, qEq_int, qNe_int, qEq_str, qNe_str, gNeg_z, tgT_, tgU_, tgL0, tgL1, eTab_, kTab_, sX_, tgIxX_, kX1_, kX2_, kX3_, gSetX_r, setX_0, setX_2, setX_s, sPar_, kPar_, eFv_, eGetD_, kG1_, isDic_r, isDC_d, kG1b_, kG2_, kG3_, gGetD_r, getC_s, gMaxL_r, maxC_, gRep_r, repC_, eD0_, gDget_r, dgC_s, List.getElem?_concat_length, set_end, sF_, kFor_, iR1_, kR1_, iR2_, kR2_, kR3_, iA_, kAny_r, kAny_t, kAny_s, iaC_s, eLc_, kLc_, wipeD_c, wipeD_n, tYes_, put_one, sAug_, gAug_i, sBk_, sCt_, sW_, st_len, st_p, st_k, st_0, st_q, st_set_p, st_set_k, st_set_0, st_push, sx_len, sx_k, sx_0, sx_q, sx_set_k, sx_set_0, sx_push, So_rt, So_nx, So_ex, Tn_nx, Tn_ct, Tn_bk, Tn_rt, Tn_ex, Bool.false_eq_true, if_true, if_false, reduceIte, Option.map_some, Option.bind_some, Bool.not_true, Bool.not_false, decide_true, decide_false, eq_self, List.length_append, List.length_singleton, List.length_cons, List.length_nil, List.map_cons, List.map_nil, Nat.sub_self, List.replicate_zero, List.append_nil, List.cons_append, List.nil_append, List.append_assoc, List.replicate_succ, Nat.reduceSub, Nat.reduceAdd, Nat.add_zero, Nat.zero_add, Nat.add_assoc, Nat.reduceLeDiff, Int.natCast_add, Int.cast_ofNat_Int, Int.reduceEq, Int.reduceLT, Int.reduceLE, Int.reduceAdd, Int.reduceSub, Int.reduceNeg, Int.reduceToNat, List.take_succ_cons, List.take_zero, List.drop_succ_cons, List.drop_zero, List.dropLast_concat, Dl.atI_last, gFdivW_, gJoin_r, joinC_, gUpper_, gRepl_, gInK_, gNinK_, r_ax_or, r_ax_ur, r_ax_pr, r_ax_ol, r_ax_ul, r_ax_pl, r_ax_ct, r_or_ax, r_or_ur, r_or_pr, r_or_ol, r_or_ul, r_or_pl, r_or_ct, r_ur_ax, r_ur_or, r_ur_pr, r_ur_ol, r_ur_ul, r_ur_pl, r_ur_ct, r_pr_ax, r_pr_or, r_pr_ur, r_pr_ol, r_pr_ul, r_pr_pl, r_pr_ct, r_ol_ax, r_ol_or, r_ol_ur, r_ol_pr, r_ol_ul, r_ol_pl, r_ol_ct, r_ul_ax, r_ul_or, r_ul_ur, r_ul_pr, r_ul_ol, r_ul_pl, r_ul_ct, r_pl_ax, r_pl_or, r_pl_ur, r_pl_pr, r_pl_ol, r_pl_ul, r_pl_ct, r_ct_ax, r_ct_or, r_ct_ur, r_ct_pr, r_ct_ol, r_ct_ul, r_ct_pl, q1, q2, q3, q4, q5, q6, e1, e2, e3, gInt_bl, gIs_tn, gIs_nn, gIsN_tn, gIsN_nn, gReverse_r, revC_s, iV_, kVV_t, kVV_r, revI_s, $ls,*])
local macro_rules | `(tactic| walk_at "ev") => `(tactic| simp (disch := first | omega | assumption | (simp only [List.length_cons, List.length_nil, List.length_append, List.length_take, List.length_drop]; omega) | (simp only [List.length_cons, List.length_nil])) only [sQ_, sP_, sE_, sR_, sIf_, sN_, sA_, tgO_nx, nm_, tgIx_, eC_, eV0, eV1, e1_, e2_, eB_, eF_, aN_, aC_, eMt_, eSl_, oN_, oI_, tV_, tE_, tA_, tO_, tN_, eIf_, eAnd_, eOr_, eNot_, eCh_, seq_nx, seq_rt, seq_bk, seq_ct, seq_ex, toR_some, toR_none, toT_some, truD_bl, truD_int, truD_tup, truD_non, truD_str, truD_ref, truC_lst, tyD_str, tyD_tup, tyD_int, tyD_bl, tyD_non, tyD_ref, tyC_lst, tyC_rol, tyC_dic, kE_, kR_, kIf_t, kIf_f, kN_, kA_, kIx1_, kIx2_, kIx3_, kE1_, kE21_, kE2_, kB_, kF_, kC1_, kC_, kM1_, kM2_, kM_, kS1_, kS2_, kS3_, kO_, kV_, kT_, kAn_t, kAn_f, kOr_t, kOr_f, kNo_, kIfE_t, kIfE_f, kVa_, kVa2_t, kVa2_f, kVo_, kVo2_t, kVo2_f, kVn_, kVn2_, kH_, kH1_, kH2_t, kH2_f, kH3_, List.getElem?_cons_zero, List.getElem?_cons_succ, List.set_cons_zero, List.set_cons_succ, gAdd_int, gAdd_str, gAdd_t, gAdd_r, catC_s, gSub_int, gMul_l, gMul_r, gFdiv_int, gMod_int, gLt_int, gLe_int, gGt_int, gGe_int, gInt_int, gAbs_int, gLen_tup, gLen_str, gLen_r, lenC_s, gTpl_, gLsd_, gIx_r, ixC_s, ixO_s, gIx_t, gIx_s, ixS_s, atI_0, atI_1, atI_2, atI_3, atI_4, atI_5, gAppend_r, appC_s, gExtend_r, extC_s, gPop_r, popC_s, gSet_r, setC_0, setC_2, gTuple_r, tupC_s, gTuple_t, gList_r, gList_t, newC_s, gSl_r, slC_s, gSl_t, gSl_s, cut_take, cut_drop, cut_init, cut_mid, Int.toNat_natCast, lstC_lst, lstC_rol, lstAt_C, isi_str, isi_int, isi_bool, isi_tup, isi_lst, isO_s, isB_1, isB_2, isB_3, isB_4, isB_5, isB_6, isB_7, isB_8, isB_9, isB_10, isB_11, isB_12, isB_13, isB_14, isB_15, isB_16, isB_17, isB_18, isB_19, isB_20, isB_21, isB_22, isB_23, isB_24, isB_25, isB_26, gSum_r, sumC_s, sumO_s, gMin_, gMax_, qEq_int, qNe_int, qEq_str, qNe_str, gNeg_z, tgT_, tgU_, tgL0, tgL1, eTab_, kTab_, sX_, tgIxX_, kX1_, kX2_, kX3_, gSetX_r, setX_0, setX_2, setX_s, sPar_, kPar_, eFv_, eGetD_, kG1_, isDic_r, isDC_d, kG1b_, kG2_, kG3_, gGetD_r, getC_s, gMaxL_r, maxC_, gRep_r, repC_, eD0_, gDget_r, dgC_s, List.getElem?_concat_length, set_end, sF_, kFor_, iR1_, kR1_, iR2_, kR2_, kR3_, iA_, kAny_r, kAny_t, kAny_s, iaC_s, eLc_, kLc_, wipeD_c, wipeD_n, tYes_, put_one, sAug_, gAug_i, sBk_, sCt_, sW_, st_len, st_p, st_k, st_0, st_q, st_set_p, st_set_k, st_set_0, st_push, sx_len, sx_k, sx_0, sx_q, sx_set_k, sx_set_0, sx_push, So_rt, So_nx, So_ex, Tn_nx, Tn_ct, Tn_bk, Tn_rt, Tn_ex, Bool.false_eq_true, if_true, if_false, reduceIte, Option.map_some, Option.bind_some, Bool.not_true, Bool.not_false, decide_true, decide_false, eq_self, List.length_append, List.length_singleton, List.length_cons, List.length_nil, List.map_cons, List.map_nil, Nat.sub_self, List.replicate_zero, List.append_nil, List.cons_append, List.nil_append, List.append_assoc, List.replicate_succ, Nat.reduceSub, Nat.reduceAdd, Nat.add_zero, Nat.zero_add, Nat.add_assoc, Nat.reduceLeDiff, Int.natCast_add, Int.cast_ofNat_Int, Int.reduceEq, Int.reduceLT, Int.reduceLE, Int.reduceAdd, Int.reduceSub, Int.reduceNeg, Int.reduceToNat, List.take_succ_cons, List.take_zero, List.drop_succ_cons, List.drop_zero, List.dropLast_concat, Dl.atI_last, gFdivW_, gJoin_r, joinC_, gUpper_, gRepl_, gInK_, gNinK_, r_ax_or, r_ax_ur, r_ax_pr, r_ax_ol, r_ax_ul, r_ax_pl, r_ax_ct, r_or_ax, r_or_ur, r_or_pr, r_or_ol, r_or_ul, r_or_pl, r_or_ct, r_ur_ax, r_ur_or, r_ur_pr, r_ur_ol, r_ur_ul, r_ur_pl, r_ur_ct, r_pr_ax, r_pr_or, r_pr_ur, r_pr_ol, r_pr_ul, r_pr_pl, r_pr_ct, r_ol_ax, r_ol_or, r_ol_ur, r_ol_pr, r_ol_ul, r_ol_pl, r_ol_ct, r_ul_ax, r_ul_or, r_ul_ur, r_ul_pr, r_ul_ol, r_ul_pl, r_ul_ct, r_pl_ax, r_pl_or, r_pl_ur, r_pl_pr, r_pl_ol, r_pl_ul, r_pl_ct, r_ct_ax, r_ct_or, r_ct_ur, r_ct_pr, r_ct_ol, r_ct_ul, r_ct_pl, q1, q2, q3, q4, q5, q6, e1, e2, e3, gInt_bl, gIs_tn, gIs_nn, gIsN_tn, gIsN_nn, gReverse_r, revC_s, iV_, kVV_t, kVV_r, revI_s])
-- fa
/-! ## the law's mirror -/
theorem mkind_t (n : Nat) {P : Str → Prop} : ∀ (L : Nat) (k : KT) (S : Store), k.ok P → k.at_.length ≤ L → SOK S → Dl.Sp (tab (n + L) ._law_mirror_kind [k.d] S) fun o => o = .ok (mK k).d S
  | 0, k, _, _, h, _ => by have := KT.pos k; omega
  | L + 1, k, S, hk, h, hS => by
    refine Dl.sp_plain (g := b__law_mirror_kind (tab (n + L))) rfl fun Q hQ => ?_
    unfold b__law_mirror_kind
    cases k with
    | leaf t =>
      simp_arith [KTd_leaf]
      exact Dl.Qx (hS.wf rfl) rfl (hQ _ rfl)
    | node s a b =>
      have pa := KT.pos a
      have pb := KT.pos b
      rw [KT.len_node] at h
      have ea := mkind_t n L a (Dl.sx S []) hk.2.1 (by omega) (SOK.sx hS .nil)
      have eb := mkind_t n L b (Dl.sx S []) hk.2.2 (by omega) (SOK.sx hS .nil)
      have fin : ∀ s', ms s = s' → Q (cmp S.length (.tup [.str s', (mK b).d, (mK a).d]) (Dl.sx S [])) := fun s' e => Dl.Qx (hS.wf rfl) (wf_flat (fl3 rfl (KT.flat _) (KT.flat _))) (hQ _ (by rw [← e]; rfl))
      rcases hk.1 with rfl | rfl | rfl
      · simp_arith [KTd_node, ea, eb]
        exact fin _ (by decide)
      · simp_arith [KTd_node, ea, eb]
        exact fin _ (by decide)
      · simp_arith [KTd_node, ea, eb]
        exact fin _ (by decide)
theorem is_int_t (n : Nat) (x : Int) (S : Store) (hS : SOK S) : Dl.Sp (tab (n + 1) ._law_is_integer [.int x] S) fun o => o = .ok (.bl true) S := by
  refine Dl.sp_plain (g := b__law_is_integer (tab n)) rfl fun Q hQ => ?_
  unfold b__law_is_integer
  simp_arith []
  exact Dl.Qx (hS.wf rfl) rfl (hQ _ rfl)
theorem trule_t (n : Nat) (r : Str) (S : Store) (hS : SOK S) : Dl.Sp (tab (n + 1) ._law_turned_rule [.str r] S) fun o => o = .ok (.str (mr r)) S := by
  refine Dl.sp_plain (g := b__law_turned_rule (tab n)) rfl fun Q hQ => ?_
  unfold b__law_turned_rule
  have fin : ∀ x L, mr r = x → Q (cmp S.length (.str x) (Dl.sx S L)) := fun x L e => Dl.Qx (hS.wf rfl) rfl (hQ _ (by rw [e]))
  by_cases h1 : r = "over right"
  · simp_arith [h1]
    exact fin _ _ (by rw [h1]; decide)
  by_cases h2 : r = "under right"
  · simp_arith [h1, h2]
    exact fin _ _ (by rw [h2]; decide)
  by_cases h3 : r = "over left"
  · simp_arith [h1, h2, h3]
    exact fin _ _ (by rw [h3]; decide)
  by_cases h4 : r = "under left"
  · simp_arith [h1, h2, h3, h4]
    exact fin _ _ (by rw [h4]; decide)
  · simp_arith [h1, h2, h3, h4]
    exact fin _ _ (by unfold mr; rw [if_neg h1, if_neg h2, if_neg h3, if_neg h4])
theorem tplace_t (n : Nat) (t : DT) (lr : t.row.length ≤ 1000) (S : Store) (hS : SOK S) : Dl.Sp (tab (n + 1) ._law_turned_place [t.d] S) fun o => o = .ok (.int (mp t.rule t.a t.w t.row.length)) S := by
  refine Dl.sp_plain (g := b__law_turned_place (tab n)) rfl fun Q hQ => ?_
  unfold b__law_turned_place
  have zr := kds_len t.row
  have fin : ∀ (x : Int) L, mp t.rule t.a t.w t.row.length = x → Q (cmp S.length (.int x) (Dl.sx S L)) := fun x L e => Dl.Qx (hS.wf rfl) rfl (hQ _ (by rw [e]))
  have hin := gIn_strs (S := Dl.sx S [.lst [.str "axiom", .str "over right", .str "under right"]]) (l := S.length) (t := t.rule) (ys := [.str "axiom", .str "over right", .str "under right"]) (xs := ["axiom", "over right", "under right"]) (by rw [Dl.sx_0]; rfl) rfl
  cases h : (["axiom", "over right", "under right"] : List Str).any (· == t.rule) with
  | true =>
    rw [h] at hin
    simp_arith [dt1, dt0, zr, hin]
    exact fin _ _ (mp_zero h)
  | false =>
    rw [h] at hin
    have em : mp t.rule t.a t.w t.row.length = if t.rule = "pair right" then (t.row.length : Int) - t.a else if t.rule = "cut" then (t.row.length : Int) - t.a - t.w else (t.row.length : Int) - 1 - t.a := by
      unfold mp
      rw [h, if_neg Bool.false_ne_true]
    by_cases h4 : t.rule = "pair right"
    · rw [if_pos h4] at em
      simp_arith [dt1, dt0, dt3, zr, hin, eq_true h4]
      exact fin _ _ em
    · rw [if_neg h4] at em
      by_cases h5 : t.rule = "cut"
      · rw [if_pos h5] at em
        simp_arith [dt1, dt0, dt3, dt4, zr, hin, h4, eq_true h5]
        exact fin _ _ em
      · rw [if_neg h5] at em
        simp_arith [dt1, dt0, dt3, dt4, zr, hin, h4, h5]
        exact fin _ _ em
theorem ty_dt (t : DT) (S : Store) : tyD S t.d = some .tup := by cases t; rfl
theorem len_dt (t : DT) (S : Store) : gLen [t.d] S = some (.int 6, S) := by cases t; rfl
theorem sl_dt (t : DT) (S : Store) : gSl t.d none (some 3) S = some (.tup [.str t.rule, .tup (kds t.row), t.g.d], S) := by
  cases t
  exact gSl_t
theorem turns_t (n : Nat) {P : Str → Prop} {t : DT} (ht : Made P t) (S : Store) (hS : SOK S) : Dl.Sp (tab (n + 43) ._law_turns [t.d, (mD t).d] S) fun o => o = .ok (.bl true) S := by
  refine Dl.sp_plain (g := b__law_turns (tab (n + 42))) rfl fun Q hQ => ?_
  unfold b__law_turns
  have hb := ht.bd
  have hm := ht.mir.1
  have ec := compA0 (S := S) (L := []) (ρ := [some t.d, some (mD t).d, none, none]) (g := .one 3) (fe := eF (tab (n + 42) ._law_mirror_kind) (aC (eV 3) aN)) (k := []) t.row.reverse KT.d (fun k => (mK k).d) (by rw [List.length_reverse]; have := hb.len; omega) (fun a => chk_nil) (fun k => KT.flat _) (fun k hk => ⟨_, rfl, fun a ha => by
    have okk := hb.row k (List.mem_reverse.mp hk)
    have e := mkind_t (n + 2) 40 k (Dl.sx S [.lst a]) okk.1 okk.2 (SOK.sx hS (.one (c := Dl.Cell.lst _) ha))
    rw [show n + 2 + 40 = n + 42 by omega] at e
    simp_arith [e]⟩)
  rw [List.map_reverse, show t.row.map KT.d = kds t.row from rfl, show t.row.reverse.map (fun k => (mK k).d) = kds (mD t).row by rw [mD_row]; unfold mrow kds; rw [List.map_reverse, List.map_reverse, List.map_map]; rfl] at ec
  have S1 : SOK (Dl.sx S [.lst (kds (mD t).row)]) := SOK.sx hS (.one (c := Dl.Cell.lst _) (kds_flat _))
  have e1 := trule_t (n + 41) t.rule _ S1
  have e2 := mkind_t (n + 2) 40 t.g _ hb.g.1 hb.g.2 S1
  have e3 := is_int_t (n + 41) (mD t).a _ S1
  have e4 := is_int_t (n + 41) (mD t).w _ S1
  have e5 := tplace_t (n + 41) t (by have := hb.len; omega) _ S1
  rw [show n + 41 + 1 = n + 42 from rfl, ← mD_rule] at e1
  rw [show n + 2 + 40 = n + 42 by omega, ← mD_g] at e2
  rw [show n + 41 + 1 = n + 42 from rfl] at e3 e4 e5
  rw [← mD_a] at e5
  have ew := mD_w t
  have el : (mD t).ps.length = t.ps.length := by rw [mD_ps]; split <;> simp
  have l2 := ht.sh.two
  have z1 := dtds_len t.ps
  have z2 := dtds_len (mD t).ps
  have ed : (D.tup [.str (mD t).rule, .tup (kds (mD t).row), (mD t).g.d]).dep ≤ 64 := by
    have h1 : deps (kds (mD t).row) ≤ 39 := kds_dep fun k hk => (hm.bd.row k hk).2
    have h2 := KT.dep (mD t).g
    have h3 := hm.bd.g.2
    show max 0 (max (deps (kds (mD t).row) + 1) (max (mD t).g.d.dep 0)) + 1 ≤ 64
    omega
  have en := fun S => gNe_refl (S := S) (d := .tup [.str (mD t).rule, .tup (kds (mD t).row), (mD t).g.d]) (show (true && (flats (kds (mD t).row) && ((mD t).g.d.flat && true))) = true by rw [kds_flat, KT.flat]; rfl) ed
  have ei := fun S => gNe_int_ (a := (mD t).a) (S := S)
  have ej := fun S => gNe_int_ (a := t.w) (S := S)
  rw [ew] at e4
  simp_arith [ty_dt, len_dt, dt1, iV_, kVV_t, ec, sl_dt, dt0, e1, dt2, e2, en, dt3, dt4, dt5, e3, e4, e5, ew, ei, ej, z1, z2, el]
  exact Dl.Qx (hS.wf rfl) rfl (hQ _ rfl)

end Lw

set_option Elab.async false
set_option linter.all false
set_option maxRecDepth 100000
namespace Lw
open PySem L2 Dl
variable [Fa]
local macro_rules | `(tactic| simp_arith [$ls,*]) => `(tactic| simp (disch := first | omega | assumption | (simp only [List.length_cons, List.length_nil, List.length_append, List.length_take, List.length_drop]; omega) | (simp only [List.length_cons, List.length_nil])) only [sQ_, sP_, sE_, sR_, sIf_, sN_, sA_, tgO_nx, nm_, tgIx_, eC_, eV0, eV1, e1_, e2_, eB_, eF_, aN_, aC_, eMt_, eSl_, oN_, oI_, tV_, tE_, tA_, tO_, tN_, eIf_, eAnd_, eOr_, eNot_, eCh_, seq_nx, seq_rt, seq_bk, seq_ct, seq_ex, toR_some, toR_none, toT_some, truD_bl, truD_int, truD_tup, truD_non, truD_str, truD_ref, truC_lst, tyD_str, tyD_tup, tyD_int, tyD_bl, tyD_non, tyD_ref, tyC_lst, tyC_rol, tyC_dic, kE_, kR_, kIf_t, kIf_f, kN_, kA_, kIx1_, kIx2_, kIx3_, kE1_, kE21_, kE2_, kB_, kF_, kC1_, kC_, kM1_, kM2_, kM_, kS1_, kS2_, kS3_, kO_, kV_, kT_, kAn_t, kAn_f, kOr_t, kOr_f, kNo_, kIfE_t, kIfE_f, kVa_, kVa2_t, kVa2_f, kVo_, kVo2_t, kVo2_f, kVn_, kVn2_, kH_, kH1_, kH2_t, kH2_f, kH3_, List.getElem?_cons_zero, List.getElem?_cons_succ, List.set_cons_zero, List.set_cons_succ, gAdd_int, gAdd_str, gAdd_t, gAdd_r, catC_s, gSub_int, gMul_l, gMul_r, gFdiv_int, gMod_int, gLt_int, gLe_int, gGt_int, gGe_int, gInt_int, gAbs_int, gLen_tup, gLen_str, gLen_r, lenC_s, gTpl_, gLsd_, gIx_r, ixC_s, ixO_s, gIx_t, gIx_s, ixS_s, atI_0, atI_1, atI_2, atI_3, atI_4, atI_5, gAppend_r, appC_s, gExtend_r, extC_s, gPop_r, popC_s, gSet_r, setC_0, setC_2, gTuple_r, tupC_s, gTuple_t, gList_r, gList_t, newC_s, gSl_r, slC_s, gSl_t, gSl_s, cut_take, cut_drop, cut_init, cut_mid, Int.toNat_natCast, lstC_lst, lstC_rol, lstAt_C, isi_str, isi_int, isi_bool, isi_tup, isi_lst, isO_s, isB_1, isB_2, isB_3, isB_4, isB_5, isB_6, isB_7, isB_8, isB_9, isB_10, isB_11, isB_12, isB_13, isB_14, isB_15, isB_16, isB_17, isB_18, isB_19, isB_20, isB_21, isB_22, isB_23, isB_24, isB_25, isB_26, gSum_r, sumC_s, sumO_s, gMin_, gMax_, qEq_int, qNe_int, qEq_str, qNe_str, gNeg_z, tgT_, tgU_, tgL0, tgL1, eTab_, kTab_, sX_, tgIxX_, kX1_, kX2_, kX3_, gSetX_r, setX_0, setX_2, setX_s, sPar_, kPar_, eFv_, eGetD_, kG1_, isDic_r, isDC_d, kG1b_, kG2_, kG3_, gGetD_r, getC_s, gMaxL_r, maxC_, gRep_r, repC_, eD0_, gDget_r, dgC_s, List.getElem?_concat_length, set_end, sF_, kFor_, iR1_, kR1_, iR2_, kR2_, kR3_, iA_, kAny_r, kAny_t, kAny_s, iaC_s, eLc_, kLc_, wipeD_c, wipeD_n, tYes_, put_one, sAug_, gAug_i, sBk_, sCt_, sW_, st_len, st_p, st_k, st_0, st_q, st_set_p, st_set_k, st_set_0, st_push, sx_len, sx_k, sx_0, sx_q, sx_set_k, sx_set_0, sx_push, So_rt, So_nx, So_ex, Tn_nx, Tn_ct, Tn_bk, Tn_rt, Tn_ex, Bool.false_eq_true, if_true, if_false, reduceIte, Option.map_some, Option.bind_some, Bool.not_true, Bool.not_false, decide_true, decide_false, eq_self, List.length_append, List.length_singleton, List.length_cons, List.length_nil, List.map_cons, List.map_nil, Nat.sub_self, List.replicate_zero, List.append_nil, List.cons_append, List.nil_append, List.append_assoc, List.replicate_succ, Nat.reduceSub, Nat.reduceAdd, Nat.add_zero, Nat.zero_add, Nat.add_assoc, Nat.reduceLeDiff, Int.natCast_add, Int.cast_ofNat_Int, Int.reduceEq, Int.reduceLT, Int.reduceLE, Int.reduceAdd, Int.reduceSub, Int.reduceNeg, Int.reduceToNat, List.take_succ_cons, List.take_zero, List.drop_succ_cons, List.drop_zero, List.dropLast_concat, Dl.atI_last, gFdivW_, gJoin_r, joinC_, gUpper_, gRepl_, gInK_, gNinK_, r_ax_or, r_ax_ur, r_ax_pr, r_ax_ol, r_ax_ul, r_ax_pl, r_ax_ct, r_or_ax, r_or_ur, r_or_pr, r_or_ol, r_or_ul, r_or_pl, r_or_ct, r_ur_ax, r_ur_or, r_ur_pr, r_ur_ol, r_ur_ul, r_ur_pl, r_ur_ct, r_pr_ax, r_pr_or, r_pr_ur, r_pr_ol, r_pr_ul, r_pr_pl, r_pr_ct, r_ol_ax, r_ol_or, r_ol_ur, r_ol_pr, r_ol_ul, r_ol_pl, r_ol_ct, r_ul_ax, r_ul_or, r_ul_ur, r_ul_pr, r_ul_ol, r_ul_pl, r_ul_ct, r_pl_ax, r_pl_or, r_pl_ur, r_pl_pr, r_pl_ol, r_pl_ul, r_pl_ct, r_ct_ax, r_ct_or, r_ct_ur, r_ct_pr, r_ct_ol, r_ct_ul, r_ct_pl, q1, q2, q3, q4, q5, q6, e1, e2, e3, gInt_bl, gIs_tn, gIs_nn, gIsN_tn, gIsN_nn, gReverse_r, revC_s, iV_, kVV_t, kVV_r, revI_s, $ls,*])
local macro_rules | `(tactic| walk_at "ev") => `(tactic| simp (disch := first | omega | assumption | (simp only [List.length_cons, List.length_nil, List.length_append, List.length_take, List.length_drop]; omega) | (simp only [List.length_cons, List.length_nil])) only [sQ_, sP_, sE_, sR_, sIf_, sN_, sA_, tgO_nx, nm_, tgIx_, eC_, eV0, eV1, e1_, e2_, eB_, eF_, aN_, aC_, eMt_, eSl_, oN_, oI_, tV_, tE_, tA_, tO_, tN_, eIf_, eAnd_, eOr_, eNot_, eCh_, seq_nx, seq_rt, seq_bk, seq_ct, seq_ex, toR_some, toR_none, toT_some, truD_bl, truD_int, truD_tup, truD_non, truD_str, truD_ref, truC_lst, tyD_str, tyD_tup, tyD_int, tyD_bl, tyD_non, tyD_ref, tyC_lst, tyC_rol, tyC_dic, kE_, kR_, kIf_t, kIf_f, kN_, kA_, kIx1_, kIx2_, kIx3_, kE1_, kE21_, kE2_, kB_, kF_, kC1_, kC_, kM1_, kM2_, kM_, kS1_, kS2_, kS3_, kO_, kV_, kT_, kAn_t, kAn_f, kOr_t, kOr_f, kNo_, kIfE_t, kIfE_f, kVa_, kVa2_t, kVa2_f, kVo_, kVo2_t, kVo2_f, kVn_, kVn2_, kH_, kH1_, kH2_t, kH2_f, kH3_, List.getElem?_cons_zero, List.getElem?_cons_succ, List.set_cons_zero, List.set_cons_succ, gAdd_int, gAdd_str, gAdd_t, gAdd_r, catC_s, gSub_int, gMul_l, gMul_r, gFdiv_int, gMod_int, gLt_int, gLe_int, gGt_int, gGe_int, gInt_int, gAbs_int, gLen_tup, gLen_str, gLen_r, lenC_s, gTpl_, gLsd_, gIx_r, ixC_s, ixO_s, gIx_t, gIx_s, ixS_s, atI_0, atI_1, atI_2, atI_3, atI_4, atI_5, gAppend_r, appC_s, gExtend_r, extC_s, gPop_r, popC_s, gSet_r, setC_0, setC_2, gTuple_r, tupC_s, gTuple_t, gList_r, gList_t, newC_s, gSl_r, slC_s, gSl_t, gSl_s, cut_take, cut_drop, cut_init, cut_mid, Int.toNat_natCast, lstC_lst, lstC_rol, lstAt_C, isi_str, isi_int, isi_bool, isi_tup, isi_lst, isO_s, isB_1, isB_2, isB_3, isB_4, isB_5, isB_6, isB_7, isB_8, isB_9, isB_10, isB_11, isB_12, isB_13, isB_14, isB_15, isB_16, isB_17, isB_18, isB_19, isB_20, isB_21, isB_22, isB_23, isB_24, isB_25, isB_26, gSum_r, sumC_s, sumO_s, gMin_, gMax_, qEq_int, qNe_int, qEq_str, qNe_str, gNeg_z, tgT_, tgU_, tgL0, tgL1, eTab_, kTab_, sX_, tgIxX_, kX1_, kX2_, kX3_, gSetX_r, setX_0, setX_2, setX_s, sPar_, kPar_, eFv_, eGetD_, kG1_, isDic_r, isDC_d, kG1b_, kG2_, kG3_, gGetD_r, getC_s, gMaxL_r, maxC_, gRep_r, repC_, eD0_, gDget_r, dgC_s, List.getElem?_concat_length, set_end, sF_, kFor_, iR1_, kR1_, iR2_, kR2_, kR3_, iA_, kAny_r, kAny_t, kAny_s, iaC_s, eLc_, kLc_, wipeD_c, wipeD_n, tYes_, put_one, sAug_, gAug_i, sBk_, sCt_, sW_, st_len, st_p, st_k, st_0, st_q, st_set_p, st_set_k, st_set_0, st_push, sx_len, sx_k, sx_0, sx_q, sx_set_k, sx_set_0, sx_push, So_rt, So_nx, So_ex, Tn_nx, Tn_ct, Tn_bk, Tn_rt, Tn_ex, Bool.false_eq_true, if_true, if_false, reduceIte, Option.map_some, Option.bind_some, Bool.not_true, Bool.not_false, decide_true, decide_false, eq_self, List.length_append, List.length_singleton, List.length_cons, List.length_nil, List.map_cons, List.map_nil, Nat.sub_self, List.replicate_zero, List.append_nil, List.cons_append, List.nil_append, List.append_assoc, List.replicate_succ, Nat.reduceSub, Nat.reduceAdd, Nat.add_zero, Nat.zero_add, Nat.add_assoc, Nat.reduceLeDiff, Int.natCast_add, Int.cast_ofNat_Int, Int.reduceEq, Int.reduceLT, Int.reduceLE, Int.reduceAdd, Int.reduceSub, Int.reduceNeg, Int.reduceToNat, List.take_succ_cons, List.take_zero, List.drop_succ_cons, List.drop_zero, List.dropLast_concat, Dl.atI_last, gFdivW_, gJoin_r, joinC_, gUpper_, gRepl_, gInK_, gNinK_, r_ax_or, r_ax_ur, r_ax_pr, r_ax_ol, r_ax_ul, r_ax_pl, r_ax_ct, r_or_ax, r_or_ur, r_or_pr, r_or_ol, r_or_ul, r_or_pl, r_or_ct, r_ur_ax, r_ur_or, r_ur_pr, r_ur_ol, r_ur_ul, r_ur_pl, r_ur_ct, r_pr_ax, r_pr_or, r_pr_ur, r_pr_ol, r_pr_ul, r_pr_pl, r_pr_ct, r_ol_ax, r_ol_or, r_ol_ur, r_ol_pr, r_ol_ul, r_ol_pl, r_ol_ct, r_ul_ax, r_ul_or, r_ul_ur, r_ul_pr, r_ul_ol, r_ul_pl, r_ul_ct, r_pl_ax, r_pl_or, r_pl_ur, r_pl_pr, r_pl_ol, r_pl_ul, r_pl_ct, r_ct_ax, r_ct_or, r_ct_ur, r_ct_pr, r_ct_ol, r_ct_ul, r_ct_pl, q1, q2, q3, q4, q5, q6, e1, e2, e3, gInt_bl, gIs_tn, gIs_nn, gIsN_tn, gIsN_nn, gReverse_r, revC_s, iV_, kVV_t, kVV_r, revI_s])
-- fa
noncomputable def mi_in (F : FN → List D → M D) : SX := (sF (iR1 (eB gLen (aC (eV 4) aN))) (nm 5) (sE (eMt .lst gAppend (eV 2) (aC (eB gTpl (aC (Dl.e2 gIx (eV 4) (eV 5)) (aC (Dl.e2 gIx (Dl.e2 gIx (eV 7) (eC (.int 5))) (eV 5)) aN))) aN))))
theorem mi_in_eq (F : FN → List D → M D) : b__law_mirrors F = (sQ (sN 2 (eB gLsd (aC (eB gTpl (aC (eV 0) (aC (eV 1) aN))) aN)))
  (sQ (sF (iR1 (eC (.int 400))) (nm 3) (sQ (sIf (tE (Dl.e2 gEq (eB gLen (aC (eV 2) aN)) (eC (.int 0)))) (sR (eC (.bl true))) sP)
  (sQ (sA (eMt .lst gPop (eV 2) aN) (tgU [(nm 6), (nm 7)]))
  (sQ (sIf (tN (tV (eF (F ._law_turns) (aC (eV 6) (aC (eV 7) aN))))) (sR (eC (.bl false))) sP)
  (sQ (sN 4 (eB gList (aC (Dl.e2 gIx (eV 6) (eC (.int 5))) aN)))
  (sQ (sIf (tE (Dl.e2 gEq (Dl.e2 gIx (eV 6) (eC (.int 0))) (eC (.str "pair right")))) (sN 4 (eB gLsd (aC (Dl.e2 gIx (Dl.e2 gIx (eV 6) (eC (.int 5))) (eC (.int 1))) (aC (Dl.e2 gIx (Dl.e2 gIx (eV 6) (eC (.int 5))) (eC (.int 0))) aN)))) sP)
  (mi_in F)))))))
  (sR (eC (.bl false))))) := rfl

def prD (t : DT) : D := .tup [t.d, (mD t).d]
theorem prD_flat (t : DT) : (prD t).flat = true := by
  show (t.d.flat && ((mD t).d.flat && true)) = true
  rw [DT.flat, DT.flat]; rfl
theorem prs_flat (ts : List DT) : flats (ts.map prD) = true := flats_iff.mpr fun x hx => by
  obtain ⟨t, _, rfl⟩ := List.mem_map.mp hx
  exact prD_flat t
theorem dtds_at {qs : List DT} {i : Nat} {q : DT} (h : qs[i]? = some q) : atI (dtds qs) (i : Int) = some q.d := atI_nat (by rw [dtds_map, List.getElem?_map, h]; rfl)
section
variable (n : Nat) {S : Store} (hS : SOK S)
include hS
theorem inner_t {k0 : Option D} {pv tv v5 : Option D} {init qs : List DT} {G : List Cell} {i : Nat} {t : DT} (hi : G[i]? = some (.lst (dtds qs))) (hq : (mD t).ps = qs.map mD) (hl : init.length + qs.length ≤ 10000) {I : Dl.Env → Store → Prop} {R : Dl.Out → Prop}
    (h : ∀ v5, I [pv, tv, some (.ref S.length), k0, some (.ref (S.length + (i + 1))), v5, some t.d, some (mD t).d] (Dl.sx S (.lst ((init ++ qs).map prD) :: G))) :
    Tn I R (mi_in (tab n) [pv, tv, some (.ref S.length), k0, some (.ref (S.length + (i + 1))), v5, some t.d, some (mD t).d] (Dl.sx S (.lst (init.map prD) :: G))) := by
  unfold mi_in
  have zq := dtds_len qs
  simp_arith [hi, zq]
  refine Dl.forQe (P := Tn I R) (fun j ρ T => ∃ v5, ρ = [pv, tv, some (.ref S.length), k0, some (.ref (S.length + (i + 1))), v5, some t.d, some (mD t).d] ∧ T = Dl.sx S (.lst ((init ++ qs.take j).map prD) :: G)) ⟨_, rfl, by rw [List.take_zero, List.append_nil]⟩ ?_ ?_
  · rintro j d _ _ hj ⟨v5, rfl, rfl⟩
    obtain ⟨hj2, rfl⟩ := Dl.rng_get hj
    rw [Int.zero_add]
    refine ⟨chk_nil, _, _, rfl, ?_⟩
    have hqj : qs[j]? = some qs[j] := List.getElem?_eq_getElem hj2
    have x1 := dtds_at hqj
    have x2 : atI (dtds (mD t).ps) (j : Int) = some (mD qs[j]).d := by rw [hq]; exact dtds_at (by rw [List.getElem?_map, hqj]; rfl)
    have lz : ((init ++ qs.take j).map prD).length < 16777216 := by rw [List.length_map, List.length_append, List.length_take]; omega
    rw [List.map_append, List.length_append] at lz
    simp_arith [hi, x1, dt5, x2, List.map_append]
    refine ⟨_, rfl, ?_⟩
    rw [List.take_succ, hqj, List.map_append]
    rfl
  · rintro _ _ ⟨v5, rfl, rfl⟩
    rw [rng_length, List.take_length]
    exact ⟨chk_nil, h _⟩
theorem mirrors_t {P : Str → Prop} {t : DT} (ht : Made P t) (hc : t.cnt ≤ 399) : Dl.Sp (tab (n + 44) ._law_mirrors [t.d, (mD t).d] S) fun o => o = .ok (.bl true) S := by
  refine Dl.sp_plain (g := b__law_mirrors (tab (n + 43))) rfl fun Q hQ => ?_
  rw [mi_in_eq]
  have fin : ∀ L, Q (cmp S.length (.bl true) (Dl.sx S L)) := fun L => Dl.Qx (hS.wf rfl) rfl (hQ _ rfl)
  simp_arith []
  refine Dl.forQ (fun j ρ T => ∃ (ts : List DT) (G : List Cell) (v3 v4 v5 v6 v7 : Option D), (∀ x ∈ ts, Made P x) ∧ cnts ts + j = t.cnt ∧ ts.length ≤ 1 + j ∧ Dl.FL G ∧ ρ = [some t.d, some (mD t).d, some (.ref S.length), v3, v4, v5, v6, v7] ∧ T = Dl.sx S (.lst (ts.map prD) :: G))
    ⟨[t], [], _, _, _, _, _, one_mem ht, by rw [show cnts [t] = t.cnt + 0 from rfl]; omega, Nat.le_refl _, .nil, rfl, rfl⟩ ?_ ?_
  · rintro j d _ _ hj ⟨ts, G, v3, v4, v5, v6, v7, hm, hcn, hl, hG, rfl, rfl⟩
    obtain ⟨hj, rfl⟩ := Dl.rng_get hj
    refine ⟨chk_nil, _, _, rfl, ?_⟩
    rcases List.eq_nil_or_concat ts with rfl | ⟨init, u, e⟩
    · simp_arith []
      exact fin _
    · rw [List.concat_eq_append] at e
      subst e
      have hu := hm u (by simp)
      have hl2 := hl
      rw [List.length_append, List.length_singleton] at hl2
      have zl : ¬ ((init.map prD ++ [prD u]).length : Int) = 0 := by rw [List.length_append, List.length_singleton]; omega
      rw [List.length_append, List.length_singleton, Int.natCast_add, Int.cast_ofNat_Int] at zl
      have S1 : ∀ M, Dl.FL M → SOK (Dl.sx S (.lst (init.map prD) :: M)) := fun M hM => SOK.sx hS (.cons (c := Dl.Cell.lst _) (prs_flat _) hM)
      have et := turns_t n hu _ (S1 G hG)
      have cu : cnts (init ++ [u]) = cnts init + (1 + cnts u.ps) := by rw [cnts_app, show cnts [u] = u.cnt + 0 from rfl, DT.cnt_eq]; omega
      have two := hu.sh.two
      have fin2 : ∀ (qs : List DT) (G2 : List Cell) (i : Nat) k0 v5, G2[i]? = some (.lst (dtds qs)) → (mD u).ps = qs.map mD → Dl.FL G2 → (∀ q ∈ qs, q ∈ u.ps) → qs.length = u.ps.length → cnts qs = cnts u.ps →
          Tn (fun ρ T => ∃ (ts : List DT) (G : List Cell) (v3 v4 v5 v6 v7 : Option D), (∀ x ∈ ts, Made P x) ∧ cnts ts + (j + 1) = t.cnt ∧ ts.length ≤ 1 + (j + 1) ∧ Dl.FL G ∧ ρ = [some t.d, some (mD t).d, some (.ref S.length), v3, v4, v5, v6, v7] ∧ T = Dl.sx S (.lst (ts.map prD) :: G)) (fun o => So S.length Q (o.seq (sR (eC (.bl false))))) (mi_in (tab (n + 43)) [some t.d, some (mD t).d, some (.ref S.length), k0, some (.ref (S.length + (i + 1))), v5, some u.d, some (mD u).d] (Dl.sx S (.lst (init.map prD) :: G2))) := fun qs G2 i k0 v5 h1 h2 h3 h4 h5 h6 => inner_t (n + 43) hS h1 h2 (by omega) fun v5 => ⟨init ++ qs, G2, _, _, _, _, _, fun x hx => by
        rcases List.mem_append.mp hx with z | z
        · exact hm x (List.mem_append_left _ z)
        · exact hu.parts x (h4 x z), by rw [cnts_app]; omega, by rw [List.length_append]; omega, h3, rfl, rfl⟩
      by_cases hpr : u.rule = "pair right"
      · obtain ⟨p, q, hps⟩ : ∃ p q, u.ps = [p, q] := by
          have hs := hu.sh
          revert hpr
          generalize u = u' at hs
          intro hpr
          cases hs with
          | @pr p q => exact ⟨p, q, rfl⟩
          | ax _ => exact absurd hpr (by show ¬ (("axiom" : Str) = "pair right"); decide)
          | or _ _ => exact absurd hpr (by show ¬ (("over right" : Str) = "pair right"); decide)
          | ur _ _ => exact absurd hpr (by show ¬ (("under right" : Str) = "pair right"); decide)
          | ol _ => exact absurd hpr (by show ¬ (("over left" : Str) = "pair right"); decide)
          | ul _ _ => exact absurd hpr (by show ¬ (("under left" : Str) = "pair right"); decide)
          | pl _ => exact absurd hpr (by show ¬ (("pair left" : Str) = "pair right"); decide)
          | ct _ => exact absurd hpr (by show ¬ (("cut" : Str) = "pair right"); decide)
        have tl := fun k0 v5 => fin2 [q, p] (G ++ [.lst (dtds u.ps), .lst (dtds [q, p])]) (G.length + 1) k0 v5 (by rw [gmk]; rfl) (by rw [mD_ps, if_pos hpr, hps]; rfl) (hG.app (.cons (c := Dl.Cell.lst _) (dtds_flat _) (.one (c := Dl.Cell.lst _) (dtds_flat _)))) (fun x hx => by rw [hps]; simp at hx ⊢; exact hx.symm) (by rw [hps]; rfl) (by rw [hps]; show q.cnt + (p.cnt + 0) = p.cnt + (q.cnt + 0); omega)
        have x0 : atI (dtds u.ps) 0 = some p.d := by rw [hps]; exact atI_0
        have x1 : atI (dtds u.ps) 1 = some q.d := by rw [hps]; exact atI_1
        have S2 := S1 (G ++ [.lst (dtds u.ps)]) (hG.app (.one (c := Dl.Cell.lst _) (dtds_flat _)))
        simp_arith [List.map_append, zl, prD, et, dt5, dt0, eq_true hpr, x0, x1]
        exact tl _ _
      · have tl := fun k0 v5 => fin2 u.ps (G ++ [.lst (dtds u.ps)]) G.length k0 v5 (by rw [List.getElem?_concat_length]) (by rw [mD_ps, if_neg hpr]) (hG.app (.one (c := Dl.Cell.lst _) (dtds_flat _))) (fun x hx => hx) rfl rfl
        simp_arith [List.map_append, zl, prD, et, dt5, dt0, hpr]
        exact tl _ _
  · rintro _ _ ⟨ts, G, v3, v4, v5, v6, v7, hm, hcn, hl, hG, rfl, rfl⟩
    rw [rng_length] at hcn
    have : (Int.toNat 400) = 400 := rfl
    omega
end

end Lw

set_option Elab.async false
set_option linter.all false
set_option maxRecDepth 100000
namespace Lw
open PySem L2 Dl
variable [Fa]
local macro_rules | `(tactic| simp_arith [$ls,*]) => `(tactic| simp (disch := first | omega | assumption | (simp only [List.length_cons, List.length_nil, List.length_append, List.length_take, List.length_drop]; omega) | (simp only [List.length_cons, List.length_nil])) only [sQ_, sP_, sE_, sR_, sIf_, sN_, sA_, tgO_nx, nm_, tgIx_, eC_, eV0, eV1, e1_, e2_, eB_, eF_, aN_, aC_, eMt_, eSl_, oN_, oI_, tV_, tE_, tA_, tO_, tN_, eIf_, eAnd_, eOr_, eNot_, eCh_, seq_nx, seq_rt, seq_bk, seq_ct, seq_ex, toR_some, toR_none, toT_some, truD_bl, truD_int, truD_tup, truD_non, truD_str, truD_ref, truC_lst, tyD_str, tyD_tup, tyD_int, tyD_bl, tyD_non, tyD_ref, tyC_lst, tyC_rol, tyC_dic, kE_, kR_, kIf_t, kIf_f, kN_, kA_, kIx1_, kIx2_, kIx3_, kE1_, kE21_, kE2_, kB_, kF_, kC1_, kC_, kM1_, kM2_, kM_, kS1_, kS2_, kS3_, kO_, kV_, kT_, kAn_t, kAn_f, kOr_t, kOr_f, kNo_, kIfE_t, kIfE_f, kVa_, kVa2_t, kVa2_f, kVo_, kVo2_t, kVo2_f, kVn_, kVn2_, kH_, kH1_, kH2_t, kH2_f, kH3_, List.getElem?_cons_zero, List.getElem?_cons_succ, List.set_cons_zero, List.set_cons_succ, gAdd_int, gAdd_str, gAdd_t, gAdd_r, catC_s, gSub_int, gMul_l, gMul_r, gFdiv_int, gMod_int, gLt_int, gLe_int, gGt_int, gGe_int, gInt_int, gAbs_int, gLen_tup, gLen_str, gLen_r, lenC_s, gTpl_, gLsd_, gIx_r, ixC_s, ixO_s, gIx_t, gIx_s, ixS_s, atI_0, atI_1, atI_2, atI_3, atI_4, atI_5, gAppend_r, appC_s, gExtend_r, extC_s, gPop_r, popC_s, gSet_r, setC_0, setC_2, gTuple_r, tupC_s, gTuple_t, gList_r, gList_t, newC_s, gSl_r, slC_s, gSl_t, gSl_s, cut_take, cut_drop, cut_init, cut_mid, Int.toNat_natCast, lstC_lst, lstC_rol, lstAt_C, isi_str, isi_int, isi_bool, isi_tup, isi_lst, isO_s, isB_1, isB_2, isB_3, isB_4, isB_5, isB_6, isB_7, isB_8, isB_9, isB_10, isB_11, isB_12, isB_13, isB_14, isB_15, isB_16, isB_17, isB_18, isB_19, isB_20, isB_21, isB_22, isB_23, isB_24, isB_25, isB_26, gSum_r, sumC_s, sumO_s, gMin_, gMax_, qEq_int, qNe_int, qEq_str, qNe_str, gNeg_z, tgT_, tgU_, tgL0, tgL1, eTab_, kTab_, sX_, tgIxX_, kX1_, kX2_, kX3_, gSetX_r, setX_0, setX_2, setX_s, sPar_, kPar_, eFv_, eGetD_, kG1_, isDic_r, isDC_d, kG1b_, kG2_, kG3_, gGetD_r, getC_s, gMaxL_r, maxC_, gRep_r, repC_, eD0_, gDget_r, dgC_s, List.getElem?_concat_length, set_end, sF_, kFor_, iR1_, kR1_, iR2_, kR2_, kR3_, iA_, kAny_r, kAny_t, kAny_s, iaC_s, eLc_, kLc_, wipeD_c, wipeD_n, tYes_, put_one, sAug_, gAug_i, sBk_, sCt_, sW_, st_len, st_p, st_k, st_0, st_q, st_set_p, st_set_k, st_set_0, st_push, sx_len, sx_k, sx_0, sx_q, sx_set_k, sx_set_0, sx_push, So_rt, So_nx, So_ex, Tn_nx, Tn_ct, Tn_bk, Tn_rt, Tn_ex, Bool.false_eq_true, if_true, if_false, reduceIte, Option.map_some, Option.bind_some, Bool.not_true, Bool.not_false, decide_true, decide_false, eq_self, List.length_append, List.length_singleton, List.length_cons, List.length_nil, List.map_cons, List.map_nil, Nat.sub_self, List.replicate_zero, List.append_nil, List.cons_append, List.nil_append, List.append_assoc, List.replicate_succ, Nat.reduceSub, Nat.reduceAdd, Nat.add_zero, Nat.zero_add, Nat.add_assoc, Nat.reduceLeDiff, Int.natCast_add, Int.cast_ofNat_Int, Int.reduceEq, Int.reduceLT, Int.reduceLE, Int.reduceAdd, Int.reduceSub, Int.reduceNeg, Int.reduceToNat, List.take_succ_cons, List.take_zero, List.drop_succ_cons, List.drop_zero, List.dropLast_concat, Dl.atI_last, gFdivW_, gJoin_r, joinC_, gUpper_, gRepl_, gInK_, gNinK_, r_ax_or, r_ax_ur, r_ax_pr, r_ax_ol, r_ax_ul, r_ax_pl, r_ax_ct, r_or_ax, r_or_ur, r_or_pr, r_or_ol, r_or_ul, r_or_pl, r_or_ct, r_ur_ax, r_ur_or, r_ur_pr, r_ur_ol, r_ur_ul, r_ur_pl, r_ur_ct, r_pr_ax, r_pr_or, r_pr_ur, r_pr_ol, r_pr_ul, r_pr_pl, r_pr_ct, r_ol_ax, r_ol_or, r_ol_ur, r_ol_pr, r_ol_ul, r_ol_pl, r_ol_ct, r_ul_ax, r_ul_or, r_ul_ur, r_ul_pr, r_ul_ol, r_ul_pl, r_ul_ct, r_pl_ax, r_pl_or, r_pl_ur, r_pl_pr, r_pl_ol, r_pl_ul, r_pl_ct, r_ct_ax, r_ct_or, r_ct_ur, r_ct_pr, r_ct_ol, r_ct_ul, r_ct_pl, q1, q2, q3, q4, q5, q6, e1, e2, e3, gInt_bl, gIs_tn, gIs_nn, gIsN_tn, gIsN_nn, gReverse_r, revC_s, iV_, kVV_t, kVV_r, revI_s, $ls,*])
local macro_rules | `(tactic| walk_at "ev") => `(tactic| simp (disch := first | omega | assumption | (simp only [List.length_cons, List.length_nil, List.length_append, List.length_take, List.length_drop]; omega) | (simp only [List.length_cons, List.length_nil])) only [sQ_, sP_, sE_, sR_, sIf_, sN_, sA_, tgO_nx, nm_, tgIx_, eC_, eV0, eV1, e1_, e2_, eB_, eF_, aN_, aC_, eMt_, eSl_, oN_, oI_, tV_, tE_, tA_, tO_, tN_, eIf_, eAnd_, eOr_, eNot_, eCh_, seq_nx, seq_rt, seq_bk, seq_ct, seq_ex, toR_some, toR_none, toT_some, truD_bl, truD_int, truD_tup, truD_non, truD_str, truD_ref, truC_lst, tyD_str, tyD_tup, tyD_int, tyD_bl, tyD_non, tyD_ref, tyC_lst, tyC_rol, tyC_dic, kE_, kR_, kIf_t, kIf_f, kN_, kA_, kIx1_, kIx2_, kIx3_, kE1_, kE21_, kE2_, kB_, kF_, kC1_, kC_, kM1_, kM2_, kM_, kS1_, kS2_, kS3_, kO_, kV_, kT_, kAn_t, kAn_f, kOr_t, kOr_f, kNo_, kIfE_t, kIfE_f, kVa_, kVa2_t, kVa2_f, kVo_, kVo2_t, kVo2_f, kVn_, kVn2_, kH_, kH1_, kH2_t, kH2_f, kH3_, List.getElem?_cons_zero, List.getElem?_cons_succ, List.set_cons_zero, List.set_cons_succ, gAdd_int, gAdd_str, gAdd_t, gAdd_r, catC_s, gSub_int, gMul_l, gMul_r, gFdiv_int, gMod_int, gLt_int, gLe_int, gGt_int, gGe_int, gInt_int, gAbs_int, gLen_tup, gLen_str, gLen_r, lenC_s, gTpl_, gLsd_, gIx_r, ixC_s, ixO_s, gIx_t, gIx_s, ixS_s, atI_0, atI_1, atI_2, atI_3, atI_4, atI_5, gAppend_r, appC_s, gExtend_r, extC_s, gPop_r, popC_s, gSet_r, setC_0, setC_2, gTuple_r, tupC_s, gTuple_t, gList_r, gList_t, newC_s, gSl_r, slC_s, gSl_t, gSl_s, cut_take, cut_drop, cut_init, cut_mid, Int.toNat_natCast, lstC_lst, lstC_rol, lstAt_C, isi_str, isi_int, isi_bool, isi_tup, isi_lst, isO_s, isB_1, isB_2, isB_3, isB_4, isB_5, isB_6, isB_7, isB_8, isB_9, isB_10, isB_11, isB_12, isB_13, isB_14, isB_15, isB_16, isB_17, isB_18, isB_19, isB_20, isB_21, isB_22, isB_23, isB_24, isB_25, isB_26, gSum_r, sumC_s, sumO_s, gMin_, gMax_, qEq_int, qNe_int, qEq_str, qNe_str, gNeg_z, tgT_, tgU_, tgL0, tgL1, eTab_, kTab_, sX_, tgIxX_, kX1_, kX2_, kX3_, gSetX_r, setX_0, setX_2, setX_s, sPar_, kPar_, eFv_, eGetD_, kG1_, isDic_r, isDC_d, kG1b_, kG2_, kG3_, gGetD_r, getC_s, gMaxL_r, maxC_, gRep_r, repC_, eD0_, gDget_r, dgC_s, List.getElem?_concat_length, set_end, sF_, kFor_, iR1_, kR1_, iR2_, kR2_, kR3_, iA_, kAny_r, kAny_t, kAny_s, iaC_s, eLc_, kLc_, wipeD_c, wipeD_n, tYes_, put_one, sAug_, gAug_i, sBk_, sCt_, sW_, st_len, st_p, st_k, st_0, st_q, st_set_p, st_set_k, st_set_0, st_push, sx_len, sx_k, sx_0, sx_q, sx_set_k, sx_set_0, sx_push, So_rt, So_nx, So_ex, Tn_nx, Tn_ct, Tn_bk, Tn_rt, Tn_ex, Bool.false_eq_true, if_true, if_false, reduceIte, Option.map_some, Option.bind_some, Bool.not_true, Bool.not_false, decide_true, decide_false, eq_self, List.length_append, List.length_singleton, List.length_cons, List.length_nil, List.map_cons, List.map_nil, Nat.sub_self, List.replicate_zero, List.append_nil, List.cons_append, List.nil_append, List.append_assoc, List.replicate_succ, Nat.reduceSub, Nat.reduceAdd, Nat.add_zero, Nat.zero_add, Nat.add_assoc, Nat.reduceLeDiff, Int.natCast_add, Int.cast_ofNat_Int, Int.reduceEq, Int.reduceLT, Int.reduceLE, Int.reduceAdd, Int.reduceSub, Int.reduceNeg, Int.reduceToNat, List.take_succ_cons, List.take_zero, List.drop_succ_cons, List.drop_zero, List.dropLast_concat, Dl.atI_last, gFdivW_, gJoin_r, joinC_, gUpper_, gRepl_, gInK_, gNinK_, r_ax_or, r_ax_ur, r_ax_pr, r_ax_ol, r_ax_ul, r_ax_pl, r_ax_ct, r_or_ax, r_or_ur, r_or_pr, r_or_ol, r_or_ul, r_or_pl, r_or_ct, r_ur_ax, r_ur_or, r_ur_pr, r_ur_ol, r_ur_ul, r_ur_pl, r_ur_ct, r_pr_ax, r_pr_or, r_pr_ur, r_pr_ol, r_pr_ul, r_pr_pl, r_pr_ct, r_ol_ax, r_ol_or, r_ol_ur, r_ol_pr, r_ol_ul, r_ol_pl, r_ol_ct, r_ul_ax, r_ul_or, r_ul_ur, r_ul_pr, r_ul_ol, r_ul_pl, r_ul_ct, r_pl_ax, r_pl_or, r_pl_ur, r_pl_pr, r_pl_ol, r_pl_ul, r_pl_ct, r_ct_ax, r_ct_or, r_ct_ur, r_ct_pr, r_ct_ol, r_ct_ul, r_ct_pl, q1, q2, q3, q4, q5, q6, e1, e2, e3, gInt_bl, gIs_tn, gIs_nn, gIsN_tn, gIsN_nn, gReverse_r, revC_s, iV_, kVV_t, kVV_r, revI_s])
-- fa
theorem law_t (n : Nat) {ns : List Int} {S : Store} (h : S[0]? = some (Cell.rol (ns.map D.int))) (hS : SOK S) : Dl.Sp (tab (n + 150) .law [.ref 0] S) fun r => r = .ok (.bl true) S := by
  refine Dl.sp_plain (g := b_law (n + 149) (tab (n + 149))) rfl fun Q hQ => ?_
  unfold b_law
  have l0 := get_lt h
  have FS : ∀ {M : List Cell}, Dl.FL M → SOK (Dl.sx S M) := fun hM => SOK.sx hS hM
  have f1 : ∀ {P : List D} {M : List Cell}, flats P = true → Dl.FL M → Dl.FL (.lst P :: M) := fun a b => .cons (c := Dl.Cell.lst _) a b
  have h0 : ∀ M, (Dl.sx S M)[0]? = some (Cell.rol (ns.map D.int)) := fun M => by rw [Dl.sx_q l0]; exact h
  obtain ⟨P0, hp0, e0⟩ := pool_t (n + 147) (h0 []) (FS .nil) 0 (by decide)
  rw [Dl.sx_push, Dl.sx_len] at e0
  simp only [List.length_nil, Nat.add_zero, List.nil_append] at e0
  rw [show ((0 : Nat) : Int) = 0 from rfl, show n + 147 + 2 = n + 149 from rfl] at e0
  obtain ⟨P1, t, hp1, mt, ct, dt, e1⟩ := some_paper_t (n + 45) (T := Dl.sx S [.lst P0]) (p := S.length) (by rw [Dl.sx_0]; rfl) hp0 (by omega) (FS (f1 hp0.flat .nil))
  rw [Dl.sx_set_0, show n + 45 + 104 = n + 149 from rfl] at e1
  simp only [List.set_cons_zero] at e1
  obtain ⟨P2, hp2, e2⟩ := pool_t (n + 147) (h0 [.lst P1]) (FS (f1 hp1.flat .nil)) 1 (by decide)
  rw [Dl.sx_push, Dl.sx_len] at e2
  simp only [List.length_cons, List.length_nil, Nat.zero_add, List.cons_append, List.nil_append] at e2
  rw [show ((1 : Nat) : Int) = 1 from rfl, show n + 147 + 2 = n + 149 from rfl] at e2
  obtain ⟨P3, u, hp3, mu, cu, du, e3⟩ := some_paper_t (n + 45) (T := Dl.sx S [.lst P1, .lst P2]) (p := S.length + 1) (by rw [Dl.sx_k]; rfl) hp2 (by omega) (FS (f1 hp1.flat (f1 hp2.flat .nil)))
  rw [Dl.sx_set_k, show n + 45 + 104 = n + 149 from rfl] at e3
  simp only [List.set_cons_zero, List.set_cons_succ] at e3
  have S3 := FS (f1 hp1.flat (f1 hp3.flat .nil))
  obtain ⟨m1, m2, m3⟩ := mt.mir
  have mm := mt.mm
  have e4 := mirror_t (n + 16) 130 t _ mt dt S3
  have e5 := mirror_t (n + 16) 130 u _ mu du S3
  have e6 := mirror_t (n + 16) 130 (mD t) _ m1 (by omega) S3
  rw [mm] at e6
  rw [show n + 16 + 130 + 3 = n + 149 from rfl] at e4 e5 e6
  have e7 := mirrors_t (n + 105) S3 mt (by omega)
  have e8 := mirrors_t (n + 105) S3 mu (by omega)
  have e9 := mirrors_t (n + 105) S3 m1 (by omega)
  rw [mm] at e9
  rw [show n + 105 + 44 = n + 149 from rfl] at e7 e8 e9
  have up : ∀ {x : DT}, Made AtS x → Made AtN x := fun h => h.mono fun t ht => ht.atN
  obtain ⟨w1, w2⟩ := (up m1).shw
  have dd := m1.dep
  have dt2 := mt.dep
  have er := fun S => gRepr_ (lim := 199 + 16 * (n + 149)) (S := S) w1 (by omega) (by omega)
  have en := fun S => gNeW_refl (lim := 199 + 16 * (n + 149)) (S := S) (DT.flat t) (by omega)
  have eq := fun S => gEqW_refl (lim := 199 + 16 * (n + 149)) (S := S) (d := .str (toPy (mD t).d).shown) rfl (Nat.zero_le _)
  simp_arith [e0, e1, e2, e3, e4, e7, er, e5, e8, e6, e9, en, eq]
  exact Dl.Qx (hS.wf rfl) rfl (hQ _ rfl)
theorem good : ∀ ns : List Int, ns.length ≤ 63 → ∃ S, tab 200 .law [.ref 0] [.rol (ns.map Dl.D.int)] = .ok (.bl true) S := fun ns _ =>
  ⟨_, law_t 50 (S := [.rol (ns.map Dl.D.int)]) rfl fun c hc => by
    rw [List.mem_singleton.mp hc]
    exact cwf_flat (c := .rol _) (ints_flat ns)⟩

end Lw

open PySem PySem.W PyProof.Rows
set_option maxRecDepth 100000 in
set_option maxHeartbeats 0 in
theorem PySem.Challenge.cw_wordfractions_k33_mirror_derivation_holds : PySem.Challenge.rw_wordfractions_k33_mirror_derivation.Holds := by
  w_on; o_law; k_head; (case hw => w_witness2)
  k_fill
  refine Lw.walk 200 (by exact ⟨⟨rfl, by decide, by decide⟩, rfl⟩) (@Lw.good) (l := PySem.Challenge.rw_wordfractions_k33_mirror_derivation) rfl rfl (fun w h Y => PySem.W.kIn_of Y) ?F
  case F =>
    intro w mg fa h KX G hmg
    refine' Lw.all_mk 200 KX G hmg ?a0 ?l0 ?c0 ?k0 ?a1 ?l1 ?c1 ?k1 ?a2 ?l2 ?c2 ?k2 ?a3 ?l3 ?c3 ?k3 ?a4 ?l4 ?c4 ?k4 ?a5 ?l5 ?c5 ?k5 ?a6 ?l6 ?c6 ?k6 ?a7 ?l7 ?c7 ?k7 ?a8 ?l8 ?c8 ?k8 ?a9 ?l9 ?c9 ?k9 ?a10 ?l10 ?c10 ?k10 ?a11 ?l11 ?c11 ?k11 ?a12 ?l12 ?c12 ?k12 ?a13 ?l13 ?c13 ?k13 ?a14 ?l14 ?c14 ?k14 ?a15 ?l15 ?c15 ?k15 ?a16 ?l16 ?c16 ?k16 ?a17 ?l17 ?c17 ?k17 ?a18 ?l18 ?c18 ?k18 ?a19 ?l19 ?c19 ?k19 ?a20 ?l20 ?c20 ?k20 ?a21 ?l21 ?c21 ?k21 ?a22 ?l22 ?c22 ?k22 ?a23 ?l23 ?c23 ?k23 ?a24 ?l24 ?c24 ?k24 ?a25 ?l25 ?c25 ?k25 ?a26 ?l26 ?c26 ?k26 ?a27 ?l27 ?c27 ?k27 ?a28 ?l28 ?c28 ?k28 ?a29 ?l29 ?c29 ?k29 ?a30 ?l30 ?c30 ?k30 ?a31 ?l31 ?c31 ?k31 ?a32 ?l32 ?c32 ?k32 ?a33 ?l33 ?c33 ?k33 ?a34 ?l34 ?c34 ?k34 ?a35 ?l35 ?c35 ?k35 ?a36 ?l36 ?c36 ?k36 ?z0 ?z1 ?z2 ?z3 ?z4 ?z5 ?z6 ?z7 ?z8 ?z9 ?z10 ?z11 ?z12 ?ty0 ?tl0 ?tk0 ?tv0_0 ?tv0_1 ?tv0_2 ?tv0_3 ?tv0_4 ?tv0_5 ?tv0_6 ?ty1 ?tl1 ?tk1 ?tv1_0 ?tv1_1 ?tv1_2 ?tv1_3 ?tv1_4 ?tv1_5 ?tv1_6
    (case a0 => k_is)
    (case l0 => k_is)
    (case c0 => k_is)
    (case k0 => k_is)
    (case a1 => k_is)
    (case l1 => k_is)
    (case c1 => k_is)
    (case k1 => k_is)
    (case a2 => k_is)
    (case l2 => k_is)
    (case c2 => k_is)
    (case k2 => k_is)
    (case a3 => k_is)
    (case l3 => k_is)
    (case c3 => k_is)
    (case k3 => k_is)
    (case a4 => k_is)
    (case l4 => k_is)
    (case c4 => k_is)
    (case k4 => k_is)
    (case a5 => k_is)
    (case l5 => k_is)
    (case c5 => k_is)
    (case k5 => k_is)
    (case a6 => k_is)
    (case l6 => k_is)
    (case c6 => k_is)
    (case k6 => k_is)
    (case a7 => k_is)
    (case l7 => k_is)
    (case c7 => k_is)
    (case k7 => k_is)
    (case a8 => k_is)
    (case l8 => k_is)
    (case c8 => k_is)
    (case k8 => k_is)
    (case a9 => k_is)
    (case l9 => k_is)
    (case c9 => k_is)
    (case k9 => k_is)
    (case a10 => k_is)
    (case l10 => k_is)
    (case c10 => k_is)
    (case k10 => k_is)
    (case a11 => k_is)
    (case l11 => k_is)
    (case c11 => k_is)
    (case k11 => k_is)
    (case a12 => k_is)
    (case l12 => k_is)
    (case c12 => k_is)
    (case k12 => k_is)
    (case a13 => k_is)
    (case l13 => k_is)
    (case c13 => k_is)
    (case k13 => k_is)
    (case a14 => k_is)
    (case l14 => k_is)
    (case c14 => k_is)
    (case k14 => k_is)
    (case a15 => k_is)
    (case l15 => k_is)
    (case c15 => k_is)
    (case k15 => k_is)
    (case a16 => k_is)
    (case l16 => k_is)
    (case c16 => k_is)
    (case k16 => k_is)
    (case a17 => k_is)
    (case l17 => k_is)
    (case c17 => k_is)
    (case k17 => k_is)
    (case a18 => k_is)
    (case l18 => k_is)
    (case c18 => k_is)
    (case k18 => k_is)
    (case a19 => k_is)
    (case l19 => k_is)
    (case c19 => k_is)
    (case k19 => k_is)
    (case a20 => k_is)
    (case l20 => k_is)
    (case c20 => k_is)
    (case k20 => k_is)
    (case a21 => k_is)
    (case l21 => k_is)
    (case c21 => k_is)
    (case k21 => k_is)
    (case a22 => k_is)
    (case l22 => k_is)
    (case c22 => k_is)
    (case k22 => k_is)
    (case a23 => k_is)
    (case l23 => k_is)
    (case c23 => k_is)
    (case k23 => k_is)
    (case a24 => k_is)
    (case l24 => k_is)
    (case c24 => k_is)
    (case k24 => k_is)
    (case a25 => k_is)
    (case l25 => k_is)
    (case c25 => k_is)
    (case k25 => k_is)
    (case a26 => k_is)
    (case l26 => k_is)
    (case c26 => k_is)
    (case k26 => k_is)
    (case a27 => k_is)
    (case l27 => k_is)
    (case c27 => k_is)
    (case k27 => k_is)
    (case a28 => k_is)
    (case l28 => k_is)
    (case c28 => k_is)
    (case k28 => k_is)
    (case a29 => k_is)
    (case l29 => k_is)
    (case c29 => k_is)
    (case k29 => k_is)
    (case a30 => k_is)
    (case l30 => k_is)
    (case c30 => k_is)
    (case k30 => k_is)
    (case a31 => k_is)
    (case l31 => k_is)
    (case c31 => k_is)
    (case k31 => k_is)
    (case a32 => k_is)
    (case l32 => k_is)
    (case c32 => k_is)
    (case k32 => k_is)
    (case a33 => k_is)
    (case l33 => k_is)
    (case c33 => k_is)
    (case k33 => k_is)
    (case a34 => k_is)
    (case l34 => k_is)
    (case c34 => k_is)
    (case k34 => k_is)
    (case a35 => k_is)
    (case l35 => k_is)
    (case c35 => k_is)
    (case k35 => k_is)
    (case a36 => k_is)
    (case l36 => k_is)
    (case c36 => k_is)
    (case k36 => k_is)
    (case z0 => k_is)
    (case z1 => k_is)
    (case z2 => k_is)
    (case z3 => k_is)
    (case z4 => k_is)
    (case z5 => k_is)
    (case z6 => k_is)
    (case z7 => k_is)
    (case z8 => k_is)
    (case z9 => k_is)
    (case z10 => k_is)
    (case z11 => k_is)
    (case z12 => k_is)
    (case ty0 => k_is)
    (case tl0 => k_is)
    (case tk0 => exact ⟨⟨_, _, rfl, rfl⟩, ⟨_, _, rfl, rfl⟩, ⟨_, _, rfl, rfl⟩, ⟨_, _, rfl, rfl⟩, ⟨_, _, rfl, rfl⟩, ⟨_, _, rfl, rfl⟩, ⟨_, _, rfl, rfl⟩, trivial⟩)
    (case tv0_0 => k_is)
    (case tv0_1 => k_is)
    (case tv0_2 => k_is)
    (case tv0_3 => k_is)
    (case tv0_4 => k_is)
    (case tv0_5 => k_is)
    (case tv0_6 => k_is)
    (case ty1 => k_is)
    (case tl1 => k_is)
    (case tk1 => exact ⟨⟨_, _, rfl, rfl⟩, ⟨_, _, rfl, rfl⟩, ⟨_, _, rfl, rfl⟩, ⟨_, _, rfl, rfl⟩, ⟨_, _, rfl, rfl⟩, ⟨_, _, rfl, rfl⟩, ⟨_, _, rfl, rfl⟩, trivial⟩)
    (case tv1_0 => k_is)
    (case tv1_1 => k_is)
    (case tv1_2 => k_is)
    (case tv1_3 => k_is)
    (case tv1_4 => k_is)
    (case tv1_5 => k_is)
    (case tv1_6 => k_is)
