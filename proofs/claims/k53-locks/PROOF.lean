import PyProof.Rows.All
import Wide.All
import OpenK.AllK
import Wide.FinOn
import HandS.ForMost
import HandS.Exc
import HandS.TryOnly
import HandS.ExcOwn
import HandS.WordsExc
import HandS.TupAny
import HandS.IsInst
import HandS.Deep
import HandS.Style
import KE.DataCmp
import KE.DataEq
import KE.DataMinMax
import KE.DataFind
import KE.DataIsa
import KE.SortData
import HandS.Ends
import HandS.TupMul
import HandS.Wide
import PyProof.StrBlock2
import HandS.Text
import KE.KRevSl
import KE.GoesNew
import KE.GoesEnum
import HandS.Conv
import HandS.Zip
import PySem.Challenge.RW_fewjewels_k53_whole_counts_of_keys_and_o
set_option Elab.async false
set_option linter.all false
set_option maxRecDepth 100000
/-! DL, part one: plain values, the relation to the abstract heap, the monad. -/
namespace L2
namespace DL
open PySem PySem.Spec PyProof.Rows

/-- an exception of an own class: its class's name, what it keeps -/
structure Ex where
  cls : Str
  kept : Option PyData
/-- what may be changed in place -/
inductive OB where
  | lst (xs : List PyData)
inductive EV where
  | un
  | d (x : PyData)
  | own (o : OB)
  | loc (n : Nat)
  | scr (ns : List Int)
structure Co where
  env : List EV
  sto : List OB
inductive R (α : Type) where
  | stuck
  | ok (a : α) (c : Co)
  | ex (e : Ex) (c : Co)
def M (α : Type) : Type := Co → R α
def M.bnd {α β : Type} (m : M α) (k : α → M β) : M β := fun c => match m c with
  | .stuck => .stuck
  | .ok a c' => k a c'
  | .ex e c' => .ex e c'
def M.ret {α : Type} (a : α) : M α := fun c => .ok a c
instance : Monad M where
  pure := M.ret
  bind := M.bnd
theorem bnd_eq {α β : Type} (m : M α) (k : α → M β) (c : Co) : (m >>= k) c = (match m c with | .stuck => .stuck | .ok a c' => k a c' | .ex e c' => .ex e c') := rfl
theorem bnd_ok {α β : Type} {m : M α} {k : α → M β} {c c1 : Co} {x : α} (h : m c = .ok x c1) : (m >>= k) c = k x c1 := by
  rw [bnd_eq, h]
theorem bnd_stuck {α β : Type} {m : M α} {k : α → M β} {c : Co} (h : m c = .stuck) : (m >>= k) c = .stuck := by
  rw [bnd_eq, h]
theorem bnd_ex {α β : Type} {m : M α} {k : α → M β} {c c1 : Co} {x : Ex} (h : m c = .ex x c1) : (m >>= k) c = .ex x c1 := by
  rw [bnd_eq, h]
def stuckM {α : Type} : M α := fun _ => .stuck
def ofO {α : Type} : Option α → M α
  | some a => M.ret a
  | none => stuckM

/-! ### plain data on the abstract heap -/
mutual
inductive Rp (K : PySem.W.Frag) (G : Hp) : V → PyData → Prop
  | non : Rp K G .non .none
  | bl (b : Bool) : Rp K G (.bl b) (.bool b)
  | int (i : Int) : Rp K G (.int i) (.int i)
  | str (x : Str) : Rp K G (.str x) (.str x)
  | lst {a : Addr} {xs : List V} {ds : List PyData} : G a = some (.lst xs) → RpAll K G xs ds → Rp K G (.ref a) (.list ds)
  | tup {a : Addr} {xs : List V} {ds : List PyData} : SqT K G a xs → RpAll K G xs ds → Rp K G (.ref a) (.tuple ds)
inductive RpAll (K : PySem.W.Frag) (G : Hp) : List V → List PyData → Prop
  | nil : RpAll K G [] []
  | cons {v : V} {vs : List V} {d : PyData} {ds : List PyData} : Rp K G v d → RpAll K G vs ds → RpAll K G (v :: vs) (d :: ds)
end

def Le (G H : Hp) : Prop := ∀ a o, G a = some o → H a = some o
theorem Le.refl (G : Hp) : Le G G := fun _ _ h => h
theorem Le.trans {A B C : Hp} (x : Le A B) (y : Le B C) : Le A C := fun a o h => y a o (x a o h)
theorem Le.rd {G H : Hp} (l : Le G H) {a : Addr} {u : HO} (h : Rd G a u) : Rd H a u := by
  rcases h with h | ⟨o, h⟩
  · exact .inl (l _ _ h)
  · exact .inr ⟨o, l _ _ h⟩
theorem Le.sql {K : PySem.W.Frag} {G H : Hp} (l : Le G H) {a : Addr} {xs : List V} (h : SqL K G a xs) : SqL K H a xs := by
  rcases h with h | h
  · exact .inl (l.rd h)
  · exact .inr h
theorem Le.sqt {K : PySem.W.Frag} {G H : Hp} (l : Le G H) {a : Addr} {xs : List V} (h : SqT K G a xs) : SqT K H a xs := by
  rcases h with h | h
  · exact .inl (l.rd h)
  · exact .inr h
mutual
theorem Rp.mono {K : PySem.W.Frag} {G H : Hp} (l : Le G H) : ∀ {v : V} {x : PyData}, Rp K G v x → Rp K H v x
  | _, _, .non => .non
  | _, _, .bl b => .bl b
  | _, _, .int i => .int i
  | _, _, .str x => .str x
  | _, _, .lst h r => .lst (l _ _ h) (RpAll.mono l r)
  | _, _, .tup h r => .tup (l.sqt h) (RpAll.mono l r)
theorem RpAll.mono {K : PySem.W.Frag} {G H : Hp} (l : Le G H) : ∀ {vs : List V} {xs : List PyData}, RpAll K G vs xs → RpAll K H vs xs
  | _, _, .nil => .nil
  | _, _, .cons h r => .cons (Rp.mono l h) (RpAll.mono l r)
end
mutual
theorem Rp.dp {K : PySem.W.Frag} {G : Hp} : ∀ {v : V} {x : PyData}, Rp K G v x → Dp K G v x
  | _, _, .non => .non
  | _, _, .bl b => .bl b
  | _, _, .int i => .int i
  | _, _, .str x => .str x
  | _, _, .lst h r => .lst (.inl (.inl h)) (RpAll.dp r)
  | _, _, .tup h r => .tup h (RpAll.dp r)
theorem RpAll.dp {K : PySem.W.Frag} {G : Hp} : ∀ {vs : List V} {xs : List PyData}, RpAll K G vs xs → DpAll K G vs xs
  | _, _, .nil => .nil
  | _, _, .cons h r => .cons (Rp.dp h) (RpAll.dp r)
end
section
variable {K : PySem.W.Frag} {G : Hp}
theorem RpAll.length : ∀ {vs : List V} {xs : List PyData}, RpAll K G vs xs → vs.length = xs.length
  | _, _, .nil => rfl
  | _, _, .cons _ r => by rw [List.length_cons, List.length_cons, RpAll.length r]
theorem RpAll.append : ∀ {vs us : List V} {xs ys : List PyData}, RpAll K G vs xs → RpAll K G us ys → RpAll K G (vs ++ us) (xs ++ ys)
  | _, _, _, _, .nil, s => s
  | _, _, _, _, .cons h r, s => .cons h (RpAll.append r s)
theorem RpAll.get : ∀ {vs : List V} {xs : List PyData} {i : Nat} {x : PyData}, RpAll K G vs xs → xs[i]? = some x → ∃ v, vs[i]? = some v ∧ Rp K G v x
  | _, _, _, _, .nil, e => by simp at e
  | _, _, 0, _, .cons h _, e => by simp at e; subst e; exact ⟨_, rfl, h⟩
  | _, _, i + 1, x, .cons _ r, e => by
    obtain ⟨v, h1, h2⟩ := RpAll.get (i := i) (x := x) r (by simpa using e)
    exact ⟨v, by simpa using h1, h2⟩
theorem RpAll.get' : ∀ {vs : List V} {xs : List PyData} {i : Nat} {v : V}, RpAll K G vs xs → vs[i]? = some v → ∃ x, xs[i]? = some x ∧ Rp K G v x
  | _, _, _, _, .nil, e => by simp at e
  | _, _, 0, _, .cons h _, e => by simp at e; subst e; exact ⟨_, rfl, h⟩
  | _, _, i + 1, v, .cons _ r, e => by
    obtain ⟨x, h1, h2⟩ := RpAll.get' (i := i) (v := v) r (by simpa using e)
    exact ⟨x, by simpa using h1, h2⟩
theorem RpAll.take : ∀ {vs : List V} {xs : List PyData} (n : Nat), RpAll K G vs xs → RpAll K G (vs.take n) (xs.take n)
  | _, _, 0, _ => .nil
  | _, _, _ + 1, .nil => .nil
  | _, _, n + 1, .cons h r => .cons h (RpAll.take n r)
theorem RpAll.drop : ∀ {vs : List V} {xs : List PyData} (n : Nat), RpAll K G vs xs → RpAll K G (vs.drop n) (xs.drop n)
  | _, _, 0, r => r
  | _, _, _ + 1, .nil => .nil
  | _, _, n + 1, .cons _ r => RpAll.drop n r
theorem RpAll.set {v : V} {x : PyData} (h : Rp K G v x) : ∀ {vs : List V} {xs : List PyData} (i : Nat), RpAll K G vs xs → RpAll K G (vs.set i v) (xs.set i x)
  | _, _, _, .nil => .nil
  | _, _, 0, .cons _ r => .cons h r
  | _, _, i + 1, .cons q r => .cons q (RpAll.set h i r)
theorem RpAll.eraseIdx : ∀ {vs : List V} {xs : List PyData} (i : Nat), RpAll K G vs xs → RpAll K G (vs.eraseIdx i) (xs.eraseIdx i)
  | _, _, _, .nil => .nil
  | _, _, 0, .cons _ r => r
  | _, _, i + 1, .cons q r => .cons q (RpAll.eraseIdx i r)
theorem RpAll.reverse : ∀ {vs : List V} {xs : List PyData}, RpAll K G vs xs → RpAll K G vs.reverse xs.reverse
  | _, _, .nil => .nil
  | _, _, .cons h r => by
    rw [List.reverse_cons, List.reverse_cons]
    exact (RpAll.reverse r).append (.cons h .nil)
theorem RpAll.ints : ∀ (ns : List Int), RpAll K G (ns.map V.int) (ns.map PyData.int)
  | [] => .nil
  | n :: ns => .cons (.int n) (RpAll.ints ns)
theorem RpAll.strs : ∀ (ns : List Str), RpAll K G (ns.map V.str) (ns.map PyData.str)
  | [] => .nil
  | n :: ns => .cons (.str n) (RpAll.strs ns)
theorem RpAll.of_ints : ∀ {vs : List V} {ns : List Int}, RpAll K G vs (ns.map PyData.int) → vs = ns.map V.int
  | _, [], h => by cases h; rfl
  | _, n :: ns, h => by
    cases h with
    | cons h r =>
      cases h
      rw [RpAll.of_ints r]
      rfl
theorem RpAll.of_bools : ∀ {vs : List V} {ns : List Bool}, RpAll K G vs (ns.map PyData.bool) → vs = ns.map V.bl
  | _, [], h => by cases h; rfl
  | _, n :: ns, h => by
    cases h with
    | cons h r =>
      cases h
      rw [RpAll.of_bools r]
      rfl
theorem RpAll.of_strs : ∀ {vs : List V} {ns : List Str}, RpAll K G vs (ns.map PyData.str) → vs = ns.map V.str
  | _, [], h => by cases h; rfl
  | _, n :: ns, h => by
    cases h with
    | cons h r =>
      cases h
      rw [RpAll.of_strs r]
      rfl
end

/-- a changeable object as it stands -/
inductive OKO (K : PySem.W.Frag) (G : Hp) : HO → OB → Prop
  | lst {vs : List V} {xs : List PyData} : RpAll K G vs xs → OKO K G (.lst vs) (.lst xs)
theorem OKO.mono {K : PySem.W.Frag} {G H : Hp} (l : Le G H) {ho : HO} {o : OB} (h : OKO K G ho o) : OKO K H ho o := by
  cases h with
  | lst r => exact .lst (r.mono l)

/-! ### the state -/
def SlOk (K : PySem.W.Frag) (H G : Hp) (L : List Addr) (x : Option V) : EV → Prop
  | .un => True
  | .d p => ∃ v, x = some v ∧ Rp K G v p
  | .own o => ∃ a ho, x = some (.ref a) ∧ H a = some ho ∧ OKO K G ho o ∧ G a = none ∧ a ∉ L
  | .loc n => ∃ a, x = some (.ref a) ∧ L[n]? = some a
  | .scr ns => ∃ a, x = some (.ref a) ∧ SqL K G a (ns.map V.int)
def OwnAt (σ : St) (env : List EV) (i : Nat) (a : Addr) : Prop := ∃ o, env[i]? = some (.own o) ∧ σ[i]? = some (some (.ref a))
def Ow (σ : St) (c : Co) (a : Addr) : Prop := ∃ i, OwnAt σ c.env i a
structure StoOk (K : PySem.W.Frag) (H G : Hp) (L : List Addr) (sto : List OB) : Prop where
  nd : L.Nodup
  ll : L.length = sto.length
  at_ : ∀ (n : Nat) a o, L[n]? = some a → sto[n]? = some o → G a = none ∧ ∃ ho, H a = some ho ∧ OKO K G ho o
structure Rl (K : PySem.W.Frag) (σ : St) (H G : Hp) (L : List Addr) (c : Co) : Prop where
  sub : Le G H
  len : σ.length = c.env.length
  env : ∀ (i : Nat) e, c.env[i]? = some e → ∃ x, σ[i]? = some x ∧ SlOk K H G L x e
  dis : ∀ (i j : Nat) a, OwnAt σ c.env i a → OwnAt σ c.env j a → i = j
  sto : StoOk K H G L c.sto
/-- what a step leaves of what stood: the plain stays; what is neither plain nor ours stays -/
structure Fr (H G : Hp) (L : List Addr) (O : Addr → Prop) (H' G' : Hp) (L' : List Addr) (O' : Addr → Prop) : Prop where
  g : Le G G'
  l : ∃ N, L' = L ++ N
  k : ∀ a o, H a = some o → G a = none → a ∉ L → ¬ O a → H' a = some o ∧ G' a = none ∧ a ∉ L' ∧ ¬ O' a
theorem Fr.refl (H G : Hp) (L : List Addr) (O : Addr → Prop) : Fr H G L O H G L O := ⟨Le.refl _, ⟨[], by simp⟩, fun _ _ h1 h2 h3 h4 => ⟨h1, h2, h3, h4⟩⟩
theorem Fr.trans {H G H1 G1 H2 G2 : Hp} {L L1 L2 : List Addr} {O O1 O2 : Addr → Prop} (a : Fr H G L O H1 G1 L1 O1) (b : Fr H1 G1 L1 O1 H2 G2 L2 O2) : Fr H G L O H2 G2 L2 O2 := by
  obtain ⟨N, e⟩ := a.l
  obtain ⟨N', e'⟩ := b.l
  refine ⟨a.g.trans b.g, ⟨N ++ N', by rw [e', e, List.append_assoc]⟩, fun x o h1 h2 h3 h4 => ?_⟩
  obtain ⟨q1, q2, q3, q4⟩ := a.k x o h1 h2 h3 h4
  exact b.k x o q1 q2 q3 q4
/-- only new plain objects -/
structure Gw (H G H' G' : Hp) : Prop where
  h : Le H H'
  g : Le G G'
  s : Le G' H'
  n : ∀ a o, H a = some o → G' a = G a
theorem Gw.refl {H G : Hp} (s : Le G H) : Gw H G H G := ⟨Le.refl _, Le.refl _, s, fun _ _ _ => rfl⟩
theorem Gw.trans {H G H1 G1 H2 G2 : Hp} (a : Gw H G H1 G1) (b : Gw H1 G1 H2 G2) : Gw H G H2 G2 :=
  ⟨a.h.trans b.h, a.g.trans b.g, b.s, fun x o h => (b.n x o (a.h x o h)).trans (a.n x o h)⟩
theorem Gw.new {H G : Hp} (s : Le G H) {p : Addr} {o : HO} (hp : H p = none) : Gw H G (upd H p o) (upd G p o) := by
  refine ⟨fun a u h => ?_, fun a u h => ?_, fun a u h => ?_, fun a u h => ?_⟩
  · rw [upd_ne (ne_of_none h hp)]; exact h
  · rw [upd_ne (ne_of_none (s _ _ h) hp)]; exact h
  · by_cases e : a = p
    · subst e; rw [upd_same] at h ⊢; exact h
    · rw [upd_ne e] at h ⊢; exact s _ _ h
  · exact upd_ne (ne_of_none h hp)
theorem mem_get {L : List Addr} {a : Addr} (h : a ∈ L) : ∃ n : Nat, L[n]? = some a := by
  obtain ⟨n, h1, h2⟩ := List.mem_iff_getElem.mp h
  exact ⟨n, by rw [List.getElem?_eq_getElem h1, h2]⟩
section
variable {K : PySem.W.Frag} {σ : St} {H G H' G' : Hp} {L L' : List Addr} {c : Co}
theorem StoOk.mem {sto : List OB} (s : StoOk K H G L sto) {a : Addr} (h : a ∈ L) : G a = none ∧ ∃ ho, H a = some ho := by
  obtain ⟨n, e⟩ := mem_get h
  have hl : n < sto.length := by
    rw [← s.ll]
    exact (List.getElem?_eq_some_iff.mp e).1
  obtain ⟨g, ho, e1, _⟩ := s.at_ n a _ e (List.getElem?_eq_getElem hl)
  exact ⟨g, ho, e1⟩
theorem StoOk.gw {sto : List OB} (s : StoOk K H G L sto) (g : Gw H G H' G') : StoOk K H' G' L sto := by
  refine ⟨s.nd, s.ll, fun n a o h1 h2 => ?_⟩
  obtain ⟨q, ho, e, r⟩ := s.at_ n a o h1 h2
  exact ⟨(g.n _ _ e).trans q, ho, g.h _ _ e, r.mono g.g⟩
theorem SlOk.gw {x : Option V} {e : EV} (s : SlOk K H G L x e) (g : Gw H G H' G') : SlOk K H' G' L x e := by
  cases e with
  | un => trivial
  | d p => obtain ⟨v, e, r⟩ := s; exact ⟨v, e, r.mono g.g⟩
  | own o => obtain ⟨a, ho, e, h, r, n, l⟩ := s; exact ⟨a, ho, e, g.h _ _ h, r.mono g.g, (g.n _ _ h).trans n, l⟩
  | loc n => exact s
  | scr ns => obtain ⟨a, e, h⟩ := s; exact ⟨a, e, g.g.sql h⟩
theorem Rl.gw (r : Rl K σ H G L c) (g : Gw H G H' G') : Rl K σ H' G' L c :=
  ⟨g.s, r.len, fun i e h => let ⟨x, h1, h2⟩ := r.env i e h; ⟨x, h1, h2.gw g⟩, r.dis, r.sto.gw g⟩
theorem Gw.fr (g : Gw H G H' G') {O : Addr → Prop} : Fr H G L O H' G' L O :=
  ⟨g.g, ⟨[], by simp⟩, fun a o h1 h2 h3 h4 => ⟨g.h _ _ h1, (g.n _ _ h1).trans h2, h3, h4⟩⟩
/-- an own address at a slot -/
theorem Rl.own (r : Rl K σ H G L c) {i : Nat} {o : OB} (h : c.env[i]? = some (.own o)) : ∃ a ho, σ[i]? = some (some (.ref a)) ∧ H a = some ho ∧ OKO K G ho o ∧ G a = none ∧ a ∉ L := by
  obtain ⟨x, h1, a, ho, h2, h3⟩ := r.env i _ h
  subst h2
  exact ⟨a, ho, h1, h3⟩
theorem Rl.ow (r : Rl K σ H G L c) {a : Addr} (h : Ow σ c a) : G a = none ∧ a ∉ L ∧ ∃ ho, H a = some ho := by
  obtain ⟨i, o, e1, e2⟩ := h
  obtain ⟨a', ho, e3, e4, _, e5, e6⟩ := r.own e1
  rw [e2] at e3
  cases e3
  exact ⟨e5, e6, ho, e4⟩
/-- what is ours behind a step was ours or is new -/
theorem Rl.back {σ' : St} {c' : Co} {O : Addr → Prop} (r' : Rl K σ' H' G' L' c') (f : Fr H G L O H' G' L' (Ow σ' c')) {a : Addr} (h : Ow σ' c' a) (hs : Le G H) : H a = none ∨ O a := by
  obtain ⟨q1, q2, _⟩ := r'.ow h
  cases e : H a with
  | none => exact .inl rfl
  | some o =>
    right
    apply Classical.byContradiction
    intro no
    have g0 : G a = none := by
      cases eg : G a with
      | none => rfl
      | some u => rw [f.g _ _ eg] at q1; cases q1
    have l0 : a ∉ L := fun hm => by
      obtain ⟨N, eN⟩ := f.l
      exact q2 (by rw [eN]; exact List.mem_append_left _ hm)
    exact (f.k a o e g0 l0 no).2.2.2 h
theorem Rl.back0 {σ' : St} {c' : Co} {O : Addr → Prop} (r : StoOk K H G L c.sto) (r' : Rl K σ' H' G' L' c') (f : Fr H G L O H' G' L' (Ow σ' c')) (hs : Le G H) {a : Addr} (h : H' a = none) : H a = none ∨ O a := by
  cases e : H a with
  | none => exact .inl rfl
  | some o =>
    right
    apply Classical.byContradiction
    intro no
    have g0 : G a = none := by
      cases eg : G a with
      | none => rfl
      | some u =>
        have z := r'.sub _ _ (f.g _ _ eg)
        rw [h] at z; cases z
    have l0 : a ∉ L := fun hm => by
      obtain ⟨N, eN⟩ := f.l
      obtain ⟨_, ho, q⟩ := r'.sto.mem (a := a) (by rw [eN]; exact List.mem_append_left _ hm)
      rw [h] at q; cases q
    have z := (f.k a o e g0 l0 no).1
    rw [h] at z; cases z
end

/-! ### readings -/
/-- how a result stands: S tells what is new or was ours at the start -/
abbrev Rho (α β : Type) := PySem.W.Frag → (Addr → Prop) → Hp → Hp → List Addr → (Addr → Prop) → α → β → Prop
def rP : Rho PyData V := fun K _ _ G _ _ x v => Rp K G v x
def rB : Rho Bool Bool := fun _ _ _ _ _ _ x v => v = x
def rN : Rho Unit Unit := fun _ _ _ _ _ _ _ _ => True
def VOk (K : PySem.W.Frag) (S : Addr → Prop) (H G : Hp) (L : List Addr) (O : Addr → Prop) (e : EV) (v : V) : Prop := match e with
  | .un => False
  | .d x => Rp K G v x
  | .loc n => ∃ a, v = .ref a ∧ L[n]? = some a
  | .scr ns => ∃ a, v = .ref a ∧ SqL K G a (ns.map V.int)
  | .own o => ∃ a ho, v = .ref a ∧ H a = some ho ∧ OKO K G ho o ∧ G a = none ∧ a ∉ L ∧ ¬ O a ∧ S a
def rV : Rho EV V := VOk
/-- arguments: none is an own one -/
inductive AllV (K : PySem.W.Frag) (G : Hp) (L : List Addr) : List EV → List V → Prop
  | nil : AllV K G L [] []
  | d {x : PyData} {v : V} {es : List EV} {vs : List V} : Rp K G v x → AllV K G L es vs → AllV K G L (.d x :: es) (v :: vs)
  | loc {n : Nat} {a : Addr} {es : List EV} {vs : List V} : L[n]? = some a → AllV K G L es vs → AllV K G L (.loc n :: es) (.ref a :: vs)
  | scr {ns : List Int} {a : Addr} {es : List EV} {vs : List V} : SqL K G a (ns.map V.int) → AllV K G L es vs → AllV K G L (.scr ns :: es) (.ref a :: vs)
def rA : Rho (List EV) (List V) := fun K _ _ G L _ x v => AllV K G L x v
def rPs : Rho (List PyData) (List V) := fun K _ _ G _ _ x v => RpAll K G v x
/-- an exception's class, its own dict, what it keeps -/
def ExOk (K : PySem.W.Frag) (mg : Str → Option Value) (H G : Hp) (e : Ex) (cls : Value) (d : Option Addr) : Prop := ∃ C, mg e.cls = some (.ref C) ∧ cls = .ref C

def At {α β : Type} (X : Cx) (W : WX) (ρ : Rho α β) (m : M α) (σ : St) (H G : Hp) (L : List Addr) (c : Co) (Q : β → Hp → Prop) : Prop := match m c with
  | .stuck => False
  | .ok x c' => ∀ b H' G' L', Rl X.K σ H' G' L' c' → Fr H G L (Ow σ c) H' G' L' (Ow σ c') → ρ X.K (fun a => H a = none ∨ Ow σ c a) H' G' L' (Ow σ c') x b → Q b H'
  | .ex e c' => ∀ cls d H' G' L', Rl X.K σ H' G' L' c' → Fr H G L (Ow σ c) H' G' L' (Ow σ c') → ExOk X.K X.mg H' G' e cls d → W cls d σ H'
def tE {α β : Type} (X : Cx) (W : WX) (ρ : Rho α β) (m : M α) : St → Hp → (β → Hp → Prop) → Prop := fun σ H Q => ∃ G L c, Rl X.K σ H G L c ∧ At X W ρ m σ H G L c Q
/-- a relation that a wider S bears -/
def Wd {α β : Type} (ρ : Rho α β) : Prop := ∀ K (S S' : Addr → Prop) H G L O x b, (∀ a, S a → S' a) → ρ K S H G L O x b → ρ K S' H G L O x b
theorem wdP : Wd rP := fun _ _ _ _ _ _ _ _ _ _ h => h
theorem wdB : Wd rB := fun _ _ _ _ _ _ _ _ _ _ h => h
theorem wdN : Wd rN := fun _ _ _ _ _ _ _ _ _ _ h => h
theorem wdA : Wd rA := fun _ _ _ _ _ _ _ _ _ _ h => h
theorem wdPs : Wd rPs := fun _ _ _ _ _ _ _ _ _ _ h => h
theorem wdV : Wd rV := fun K S S' H G L O x b s h => by
  cases x with
  | un => exact h
  | d x => exact h
  | loc n => exact h
  | scr n => exact h
  | own o =>
    obtain ⟨a, ho, e1, e2, e3, e4, e5, e6, e7⟩ := h
    exact ⟨a, ho, e1, e2, e3, e4, e5, e6, s _ e7⟩

section
variable {X : Cx} {W : WX} {α β γ δ : Type} {ρ : Rho α β} {ρ' : Rho γ δ} {σ : St} {H G H1 G1 : Hp} {L L1 : List Addr} {c c1 : Co}
/-- one thing behind another -/
theorem At.bind {m : M α} {k : α → M γ} {Q : δ → Hp → Prop} {Q1 : β → Hp → Prop} (wd : Wd ρ') (r : Rl X.K σ H G L c) (h : At X W ρ' (m >>= k) σ H G L c Q)
    (hk : ∀ x b c1 H1 G1 L1, m c = .ok x c1 → Rl X.K σ H1 G1 L1 c1 → Fr H G L (Ow σ c) H1 G1 L1 (Ow σ c1) → ρ X.K (fun a => H a = none ∨ Ow σ c a) H1 G1 L1 (Ow σ c1) x b → At X W ρ' (k x) σ H1 G1 L1 c1 Q → Q1 b H1) : At X W ρ m σ H G L c Q1 := by
  unfold At at h ⊢
  have e0 : (m >>= k) c = (match m c with | .stuck => .stuck | .ok a c' => k a c' | .ex e c' => .ex e c') := rfl
  rw [e0] at h
  cases e : m c with
  | stuck => rw [e] at h; exact h
  | ex x c' => rw [e] at h; exact h
  | ok x c1 =>
    rw [e] at h
    intro b H1 G1 L1 r1 f1 q1
    refine hk x b c1 H1 G1 L1 e r1 f1 q1 ?_
    unfold At
    have h : (match k x c1 with
      | .stuck => False
      | .ok x c' => ∀ b H' G' L', Rl X.K σ H' G' L' c' → Fr H G L (Ow σ c) H' G' L' (Ow σ c') → ρ' X.K (fun a => H a = none ∨ Ow σ c a) H' G' L' (Ow σ c') x b → Q b H'
      | .ex e c' => ∀ cls d H' G' L', Rl X.K σ H' G' L' c' → Fr H G L (Ow σ c) H' G' L' (Ow σ c') → ExOk X.K X.mg H' G' e cls d → W cls d σ H') := h
    cases e2 : k x c1 with
    | stuck => rw [e2] at h; exact h
    | ex x c' => rw [e2] at h; exact fun cls d H' G' L' r' f' => h cls d H' G' L' r' (f1.trans f')
    | ok y c2 =>
      rw [e2] at h
      refine fun b' H' G' L' r' f' q' => h b' H' G' L' r' (f1.trans f') (wd _ _ _ _ _ _ _ _ _ (fun a ha => ?_) q')
      rcases ha with ha | ha
      · exact Rl.back0 r.sto r1 f1 r.sub ha
      · exact r1.back f1 ha r.sub
theorem At.fin {x : α} {Q : β → Hp → Prop} {b : β} (r : Rl X.K σ H G L c) (h : At X W ρ (Pure.pure x) σ H G L c Q) (q : ρ X.K (fun a => H a = none ∨ Ow σ c a) H G L (Ow σ c) x b) : Q b H :=
  h b H G L r (Fr.refl _ _ _ _) q
/-- new plain objects and a value -/
theorem At.gw {x : α} {Q : β → Hp → Prop} {b : β} {H' G' : Hp} (r : Rl X.K σ H G L c) (h : At X W ρ (Pure.pure x) σ H G L c Q) (g : Gw H G H' G') (q : ρ X.K (fun a => H a = none ∨ Ow σ c a) H' G' L (Ow σ c) x b) : Q b H' :=
  h b H' G' L (r.gw g) g.fr q
theorem At.opt {x : Option α} {Q : β → Hp → Prop} (h : At X W ρ (DL.ofO x) σ H G L c Q) : ∃ y, x = some y ∧ At X W ρ (Pure.pure y) σ H G L c Q := by
  cases x with
  | none => exact (show False from h).elim
  | some y => exact ⟨y, rfl, h⟩
/-- from a state with more plain objects -/
theorem At.mv {m : M α} {Q : β → Hp → Prop} {H' G' : Hp} (wd : Wd ρ) (g : Gw H G H' G') (h : At X W ρ m σ H G L c Q) : At X W ρ m σ H' G' L c Q := by
  unfold At at h ⊢
  cases e : m c with
  | stuck => rw [e] at h; exact h
  | ex x c' => rw [e] at h; exact fun cls d H2 G2 L2 r2 f2 => h cls d H2 G2 L2 r2 (g.fr.trans f2)
  | ok x c1 =>
    rw [e] at h
    refine fun b H2 G2 L2 r2 f2 q => h b H2 G2 L2 r2 (g.fr.trans f2) (wd _ _ _ _ _ _ _ _ _ (fun a ha => ?_) q)
    rcases ha with ha | ha
    · left
      cases e : H a with
      | none => rfl
      | some o => rw [g.h _ _ e] at ha; cases ha
    · exact .inr ha
end
theorem _root_.L2.PE.imp {X : Cx} {e : Expr} {t t' : TE} (h : PE X e t) (i : ∀ σ H Q, t' σ H Q → t σ H Q) : PE X e t' := ⟨fun pins s σ H Q I q => h.run pins s σ H Q I (i σ H Q q)⟩
theorem _root_.L2.PT.imp {X : Cx} {e : Expr} {t t' : TT} (h : PT X e t) (i : ∀ σ H Q, t' σ H Q → t σ H Q) : PT X e t' := ⟨fun pins s σ H Q I q => h.run pins s σ H Q I (i σ H Q q)⟩
theorem _root_.L2.PW.imp {X : Cx} {e : Expr} {t t' : TT} (h : PW X e t) (i : ∀ σ H Q, t' σ H Q → t σ H Q) : PW X e t' := ⟨fun wh pins s σ H Q I q => h.run wh pins s σ H Q I (i σ H Q q)⟩
theorem _root_.L2.PA.imp {X : Cx} {e : List Expr} {t t' : TA} (h : PA X e t) (i : ∀ σ H Q, t' σ H Q → t σ H Q) : PA X e t' := ⟨fun pos pins s σ H Q I q => h.run pos pins s σ H Q I (i σ H Q q)⟩
theorem _root_.L2.PS.imp {X : Cx} {e : Stmt} {t t' : TS} (h : PS X e t) (i : ∀ D σ H, t' D σ H → t D σ H) : PS X e t' := ⟨fun pins s σ H D I q => h.run pins s σ H D I (i D σ H q)⟩
theorem _root_.L2.PSs.imp {X : Cx} {e : List Stmt} {t t' : TS} (h : PSs X e t) (i : ∀ D σ H, t' D σ H → t D σ H) : PSs X e t' := ⟨fun pins s σ H D I q => h.run pins s σ H D I (i D σ H q)⟩
end DL
end L2

/-! DL, part two: expressions. -/
namespace L2
namespace DL
open PySem PySem.Spec PyProof.Rows

def frozen : OB → PyData
  | .lst xs => .list xs
/-- a plain value of a result -/
def frz : EV → M PyData
  | .d x => pure x
  | .own o => pure (frozen o)
  | _ => stuckM
/-- a slot read: an own thing becomes plain -/
def rd (i : Nat) : M EV := fun c => match c.env[i]? with
  | some (.d x) => .ok (.d x) c
  | some (.loc n) => .ok (.loc n) c
  | some (.scr n) => .ok (.scr n) c
  | some (.own o) => .ok (.d (frozen o)) { c with env := c.env.set i (.d (frozen o)) }
  | _ => .stuck
/-- .. as a plain value -/
def rdP (i : Nat) : M PyData := fun c => match c.env[i]? with
  | some (.d x) => .ok x c
  | some (.own o) => .ok (frozen o) { c with env := c.env.set i (.d (frozen o)) }
  | _ => .stuck
/-- a slot read for the last time -/
def mv (i : Nat) : M EV := fun c => match c.env[i]? with
  | some (.d x) => .ok (.d x) c
  | some (.loc n) => .ok (.loc n) c
  | some (.scr n) => .ok (.scr n) c
  | some (.own o) => .ok (.own o) { c with env := c.env.set i .un }
  | _ => .stuck

section
variable {K : PySem.W.Frag} {σ : St} {H G : Hp} {L : List Addr} {c : Co}
theorem ownAt_set {env : List EV} {i j : Nat} {e : EV} {a : Addr} (he : ∀ o, e ≠ .own o) (h : OwnAt σ (env.set i e) j a) : OwnAt σ env j a ∧ j ≠ i := by
  obtain ⟨o, h1, h2⟩ := h
  by_cases hij : i = j
  · subst hij
    by_cases hl : i < env.length
    · rw [List.getElem?_set_self hl] at h1
      exact absurd (Option.some.inj h1) (he o)
    · rw [List.getElem?_eq_none (by simpa using hl)] at h1; cases h1
  · rw [List.getElem?_set_ne hij] at h1
    exact ⟨⟨o, h1, h2⟩, fun e => hij e.symm⟩
/-- a slot's own thing is told as plain from now on -/
theorem Rl.freeze (r : Rl K σ H G L c) {i : Nat} {o : OB} (h : c.env[i]? = some (.own o)) :
    ∃ (a : Addr) (G' : Hp), σ[i]? = some (some (.ref a)) ∧ Rp K G' (.ref a) (frozen o) ∧ Rl K σ H G' L { c with env := c.env.set i (.d (frozen o)) } ∧ Fr H G L (Ow σ c) H G' L (Ow σ { c with env := c.env.set i (.d (frozen o)) }) := by
  obtain ⟨a, ho, e1, e2, e3, e4, e5⟩ := r.own h
  have gl : Le G (upd G a ho) := fun b u q => by rw [upd_ne (ne_of_none q e4)]; exact q
  have hp : Rp K (upd G a ho) (.ref a) (frozen o) := by
    cases e3 with
    | lst q => exact .lst upd_same (q.mono gl)
  have ne : ∀ j b, OwnAt σ c.env j b → j ≠ i → b ≠ a := fun j b hb hj e => by
    subst e
    exact hj (r.dis j i b hb ⟨o, h, e1⟩)
  refine ⟨a, upd G a ho, e1, hp, ⟨fun b u q => ?_, by simpa using r.len, fun j e q => ?_, fun j k b q1 q2 => ?_, ⟨r.sto.nd, r.sto.ll, fun n b u q1 q2 => ?_⟩⟩, gl, ⟨[], by simp⟩, fun b u q1 q2 q3 q4 => ⟨q1, ?_, q3, ?_⟩⟩
  · by_cases hb : b = a
    · subst hb; rw [upd_same] at q; cases q; exact e2
    · rw [upd_ne hb] at q; exact r.sub _ _ q
  · by_cases hj : i = j
    · subst hj
      have hl := (List.getElem?_eq_some_iff.mp h).1
      rw [List.getElem?_set_self hl] at q
      cases q
      exact ⟨_, e1, _, rfl, hp⟩
    · rw [List.getElem?_set_ne hj] at q
      obtain ⟨x, h1, h2⟩ := r.env j e q
      refine ⟨x, h1, ?_⟩
      cases e with
      | un => trivial
      | d p => obtain ⟨v, z, w⟩ := h2; exact ⟨v, z, w.mono gl⟩
      | loc n => exact h2
      | scr n => obtain ⟨a, z, w⟩ := h2; exact ⟨a, z, gl.sql w⟩
      | own o' =>
        obtain ⟨b, hb, z, w1, w2, w3, w4⟩ := h2
        subst z
        refine ⟨b, hb, rfl, w1, w2.mono gl, ?_, w4⟩
        rw [upd_ne (ne j b ⟨o', q, h1⟩ (fun e => hj e.symm))]
        exact w3
  · exact r.dis j k b (ownAt_set (by intro o; nofun) q1).1 (ownAt_set (by intro o; nofun) q2).1
  · obtain ⟨z, hb, w1, w2⟩ := r.sto.at_ n b u q1 q2
    refine ⟨?_, hb, w1, w2.mono gl⟩
    rw [upd_ne fun e => e5 (by rw [← e]; exact List.mem_of_getElem? q1)]
    exact z
  · rw [upd_ne fun e => q4 (by subst e; exact ⟨i, o, h, e1⟩)]
    exact q2
  · rintro ⟨j, hj⟩
    exact q4 ⟨j, (ownAt_set (by intro o; nofun) hj).1⟩
/-- a slot forgotten -/
theorem Rl.drop (r : Rl K σ H G L c) (i : Nat) : Rl K σ H G L { c with env := c.env.set i .un } ∧ Fr H G L (Ow σ c) H G L (Ow σ { c with env := c.env.set i .un }) := by
  refine ⟨⟨r.sub, by simpa using r.len, fun j e q => ?_, fun j k b q1 q2 => r.dis j k b (ownAt_set (by intro o; nofun) q1).1 (ownAt_set (by intro o; nofun) q2).1, r.sto⟩, Le.refl _, ⟨[], by simp⟩, fun b u q1 q2 q3 q4 => ⟨q1, q2, q3, ?_⟩⟩
  · by_cases hj : i = j
    · subst hj
      have hl : i < c.env.length := by
        have := (List.getElem?_eq_some_iff.mp q).1
        simpa using this
      rw [List.getElem?_set_self hl] at q
      cases q
      have hs : i < σ.length := by rw [r.len]; exact hl
      exact ⟨_, List.getElem?_eq_getElem hs, trivial⟩
    · rw [List.getElem?_set_ne hj] at q
      exact r.env j e q
  · rintro ⟨j, hj⟩
    exact q4 ⟨j, (ownAt_set (by intro o; nofun) hj).1⟩
/-- a pending own result is told as plain -/
theorem Rl.freezeV {H0 G0 : Hp} {L0 : List Addr} {O0 : Addr → Prop} (r : Rl K σ H G L c) (f : Fr H0 G0 L0 O0 H G L (Ow σ c)) {o : OB} {v : V} (h : VOk K (fun a => H0 a = none ∨ O0 a) H G L (Ow σ c) (.own o) v) :
    ∃ G', Rp K G' v (frozen o) ∧ Rl K σ H G' L c ∧ Fr H0 G0 L0 O0 H G' L (Ow σ c) := by
  obtain ⟨a, ho, rfl, e2, e3, e4, e5, e6, e7⟩ := h
  have gl : Le G (upd G a ho) := fun b u q => by rw [upd_ne (ne_of_none q e4)]; exact q
  have hp : Rp K (upd G a ho) (.ref a) (frozen o) := by
    cases e3 with
    | lst q => exact .lst upd_same (q.mono gl)
  refine ⟨upd G a ho, hp, ⟨fun b u q => ?_, r.len, fun j e q => ?_, r.dis, ⟨r.sto.nd, r.sto.ll, fun n b u q1 q2 => ?_⟩⟩, f.g.trans gl, f.l, fun b u q1 q2 q3 q4 => ?_⟩
  · by_cases hb : b = a
    · subst hb; rw [upd_same] at q; cases q; exact e2
    · rw [upd_ne hb] at q; exact r.sub _ _ q
  · obtain ⟨x, h1, h2⟩ := r.env j e q
    refine ⟨x, h1, ?_⟩
    cases e with
    | un => trivial
    | d p => obtain ⟨v, z, w⟩ := h2; exact ⟨v, z, w.mono gl⟩
    | loc n => exact h2
    | scr n => obtain ⟨a, z, w⟩ := h2; exact ⟨a, z, gl.sql w⟩
    | own o' =>
      obtain ⟨b, hb, z, w1, w2, w3, w4⟩ := h2
      subst z
      refine ⟨b, hb, rfl, w1, w2.mono gl, ?_, w4⟩
      rw [upd_ne fun e => e6 (by subst e; exact ⟨j, o', q, h1⟩)]
      exact w3
  · obtain ⟨z, hb, w1, w2⟩ := r.sto.at_ n b u q1 q2
    refine ⟨?_, hb, w1, w2.mono gl⟩
    rw [upd_ne fun e => e5 (by rw [← e]; exact List.mem_of_getElem? q1)]
    exact z
  · obtain ⟨z1, z2, z3, z4⟩ := f.k b u q1 q2 q3 q4
    refine ⟨z1, ?_, z3, z4⟩
    rw [upd_ne fun e => ?_]
    · exact z2
    · subst e
      rcases e7 with e | e
      · rw [e] at q1; cases q1
      · exact q4 e
end

section
variable {X : Cx} {W : WX} {e a b : Expr} {pos : Pos}
abbrev VP (X : Cx) (W : WX) (e : Expr) (f : M PyData) : Prop := PE X e (tE X W rP f)
abbrev VV (X : Cx) (W : WX) (e : Expr) (f : M EV) : Prop := PE X e (tE X W rV f)
abbrev VB (X : Cx) (W : WX) (e : Expr) (f : M Bool) : Prop := PT X e (tE X W rB f)
abbrev VA (X : Cx) (W : WX) (e : List Expr) (f : M (List PyData)) : Prop := PA X e (tE X W rPs f)
abbrev VAv (X : Cx) (W : WX) (e : List Expr) (f : M (List EV)) : Prop := PA X e (tE X W rA f)

/-- a result told as plain -/
theorem vp_frz {f : M EV} (h : VV X W e f) : VP X W e (f >>= frz) := h.imp fun σ H Q ⟨G, L, c, r, q⟩ => by
  refine ⟨G, L, c, r, ?_⟩
  unfold At at q ⊢
  rw [bnd_eq] at q
  cases e1 : f c with
  | stuck => rw [e1] at q; exact q
  | ex x c' => rw [e1] at q; exact q
  | ok x c1 =>
    rw [e1] at q
    intro v H1 G1 L1 r1 f1 h1
    cases x with
    | un => exact (show False from h1).elim
    | loc n => exact (show False from q).elim
    | scr n => exact (show False from q).elim
    | d x => exact q v H1 G1 L1 r1 f1 h1
    | own o =>
      obtain ⟨G2, p, r2, f2⟩ := r1.freezeV f1 h1
      exact q v H1 G2 L1 r2 f2 p
theorem vv_of {f : M PyData} (h : VP X W e f) : VV X W e (f >>= fun x => pure (.d x)) := h.imp fun σ H Q ⟨G, L, c, r, q⟩ =>
  ⟨G, L, c, r, At.bind wdV r q fun x v c1 H1 G1 L1 _ r1 _ p q1 => At.fin (ρ := rV) r1 q1 p⟩
/-- a slot -/
theorem vv_var {i : Nat} {x : Str} {pos : Pos} (h : PE X (.Name x pos) (tVar i)) : VV X W (.Name x pos) (rd i) := h.imp fun σ H Q ⟨G, L, c, r, q⟩ => by
  unfold At rd at q
  cases e : c.env[i]? with
  | none => rw [e] at q; exact q.elim
  | some z =>
    rw [e] at q
    cases z with
    | un => exact q.elim
    | d x =>
      obtain ⟨y, h1, v, rfl, h2⟩ := r.env i _ e
      exact ⟨v, h1, q v H G L r (Fr.refl _ _ _ _) h2⟩
    | loc n =>
      obtain ⟨y, h1, a, rfl, h2⟩ := r.env i _ e
      exact ⟨.ref a, h1, q _ H G L r (Fr.refl _ _ _ _) ⟨a, rfl, h2⟩⟩
    | scr n =>
      obtain ⟨y, h1, a, rfl, h2⟩ := r.env i _ e
      exact ⟨.ref a, h1, q _ H G L r (Fr.refl _ _ _ _) ⟨a, rfl, h2⟩⟩
    | own o =>
      obtain ⟨a, G', h1, h2, h3, h4⟩ := r.freeze e
      exact ⟨.ref a, h1, q _ H G' L h3 h4 h2⟩
theorem vp_var {i : Nat} {x : Str} {pos : Pos} (h : PE X (.Name x pos) (tVar i)) : VP X W (.Name x pos) (rdP i) := h.imp fun σ H Q ⟨G, L, c, r, q⟩ => by
  unfold At rdP at q
  cases e : c.env[i]? with
  | none => rw [e] at q; exact q.elim
  | some z =>
    rw [e] at q
    cases z with
    | un => exact q.elim
    | d x =>
      obtain ⟨y, h1, v, rfl, h2⟩ := r.env i _ e
      exact ⟨v, h1, q v H G L r (Fr.refl _ _ _ _) h2⟩
    | loc n => exact q.elim
    | scr n => exact q.elim
    | own o =>
      obtain ⟨a, G', h1, h2, h3, h4⟩ := r.freeze e
      exact ⟨.ref a, h1, q _ H G' L h3 h4 h2⟩
theorem vv_mv {i : Nat} {x : Str} {pos : Pos} (h : PE X (.Name x pos) (tVar i)) : VV X W (.Name x pos) (mv i) := h.imp fun σ H Q ⟨G, L, c, r, q⟩ => by
  unfold At mv at q
  cases e : c.env[i]? with
  | none => rw [e] at q; exact q.elim
  | some z =>
    rw [e] at q
    cases z with
    | un => exact q.elim
    | d x =>
      obtain ⟨y, h1, v, rfl, h2⟩ := r.env i _ e
      exact ⟨v, h1, q v H G L r (Fr.refl _ _ _ _) h2⟩
    | loc n =>
      obtain ⟨y, h1, a, rfl, h2⟩ := r.env i _ e
      exact ⟨.ref a, h1, q _ H G L r (Fr.refl _ _ _ _) ⟨a, rfl, h2⟩⟩
    | scr n =>
      obtain ⟨y, h1, a, rfl, h2⟩ := r.env i _ e
      exact ⟨.ref a, h1, q _ H G L r (Fr.refl _ _ _ _) ⟨a, rfl, h2⟩⟩
    | own o =>
      obtain ⟨a, ho, h1, h2, h3, h4, h5⟩ := r.own e
      obtain ⟨r2, f2⟩ := r.drop i
      refine ⟨.ref a, h1, q _ H G L r2 f2 ⟨a, ho, rfl, h2, h3, h4, h5, ?_, .inr ⟨i, o, e, h1⟩⟩⟩
      rintro ⟨j, hj⟩
      obtain ⟨hj, hne⟩ := ownAt_set (by intro o; nofun) hj
      exact hne (r.dis j i a hj ⟨o, e, h1⟩)
/-- written things -/
theorem vp_c {v : V} {x : PyData} (h : PE X e (tC v)) (r : ∀ K G, Rp K G v x) : VP X W e (pure x) := h.imp fun σ H Q ⟨G, L, c, rl, q⟩ => At.fin (ρ := rP) rl q (r _ _)
theorem vp_int {i j pos} : VP X W (.Constant (.int i) j pos) (pure (.int i)) := vp_c pe_int fun _ _ => .int i
theorem vp_bl {b j pos} : VP X W (.Constant (.bool b) j pos) (pure (.bool b)) := vp_c pe_bl fun _ _ => .bl b
theorem vp_non {j pos} : VP X W (.Constant .none j pos) (pure .none) := vp_c pe_non fun _ _ => .non
theorem vp_str {x j pos} : VP X W (.Constant (.str x) j pos) (pure (.str x)) := vp_c pe_str fun _ _ => .str x
theorem vp_gint {x : Str} {i : Int} {t : Tok} {pos : Pos} (hg : Gl X x) (hm : X.mg x = some (.int i t)) (hd : (x == ("__debug__" : Str)) = false := by decide) : VP X W (.Name x pos) (pure (.int i)) := vp_c (pe_glob (v := .int i) hg hm ⟨_, rfl⟩ hd) fun _ _ => .int i
theorem vp_gstr {x : Str} {i : Str} {t : Tok} {pos : Pos} (hg : Gl X x) (hm : X.mg x = some (.str i t)) (hd : (x == ("__debug__" : Str)) = false := by decide) : VP X W (.Name x pos) (pure (.str i)) := vp_c (pe_glob (v := .str i) hg hm ⟨_, rfl⟩ hd) fun _ _ => .str i

/-! ### operations by values -/
def rO (K : PySem.W.Frag) (g : PyData → PyData → Option PyData) : R2 := fun x y H Q => ∃ G dx dy z, Le G H ∧ Rp K G x dx ∧ Rp K G y dy ∧ g dx dy = some z ∧ ∀ v H' G', Gw H G H' G' → Rp K G' v z → Q v H'
def rU1 (K : PySem.W.Frag) (g : PyData → Option PyData) : V → Hp → VK → Prop := fun x H Q => ∃ G dx z, Le G H ∧ Rp K G x dx ∧ g dx = some z ∧ ∀ v H' G', Gw H G H' G' → Rp K G' v z → Q v H'
def rC (K : PySem.W.Frag) (g : List PyData → Option PyData) : List V → Hp → VK → Prop := fun xs H Q => ∃ G ds z, Le G H ∧ RpAll K G xs ds ∧ g ds = some z ∧ ∀ v H' G', Gw H G H' G' → Rp K G' v z → Q v H'
def rMt (K : PySem.W.Frag) (g : PyData → List PyData → Option PyData) : V → List V → Hp → VK → Prop := fun x xs H Q => ∃ G d ds z, Le G H ∧ Rp K G x d ∧ RpAll K G xs ds ∧ g d ds = some z ∧ ∀ v H' G', Gw H G H' G' → Rp K G' v z → Q v H'
/-- the end of an operation by values, in the state -/
theorem At.gwP {x : PyData} {σ : St} {H G : Hp} {L : List Addr} {c : Co} {Q : VK} (r : Rl X.K σ H G L c) (h : At X W rP (pure x) σ H G L c Q) : ∀ v H' G', Gw H G H' G' → Rp X.K G' v x → Q v H' :=
  fun v H' G' g p => At.gw (ρ := rP) r h g p
theorem bin_imp {fa fb : M PyData} {g : PyData → PyData → Option PyData} (σ : St) (H : Hp) (Q : VK) (h : tE X W rP (fa >>= fun x => fb >>= fun y => ofO (g x y)) σ H Q) : tOp (rO X.K g) (tE X W rP fa) (tE X W rP fb) σ H Q := by
  obtain ⟨G, L, c, r, q⟩ := h
  refine ⟨G, L, c, r, At.bind wdP r q fun x v c1 H1 G1 L1 _ r1 _ p q1 => ⟨G1, L1, c1, r1, At.bind wdP r1 q1 fun y u c2 H2 G2 L2 _ r2 f2 p2 q2 => ?_⟩⟩
  obtain ⟨z, ez, q3⟩ := At.opt q2
  exact ⟨G2, x, y, z, r2.sub, p.mono f2.g, p2, ez, At.gwP r2 q3⟩
theorem vp_bin {op : Operator} {fa fb : M PyData} {g : PyData → PyData → Option PyData} (ho : OpR X (binaryOp op) (rO X.K g)) (ha : VP X W a fa) (hb : VP X W b fb) : VP X W (.BinOp a op b pos) (fa >>= fun x => fb >>= fun y => ofO (g x y)) :=
  (pe_op ho ha hb).imp bin_imp
theorem vp_cmp {op : CmpOp} {fa fb : M PyData} {g : PyData → PyData → Option PyData} (ho : OpR X (compareOp op) (rO X.K g)) (ha : VP X W a fa) (hb : VP X W b fb) (hm : behindInMarks op b = false) : VP X W (.Compare a [op] [b] pos) (fa >>= fun x => fb >>= fun y => ofO (g x y)) :=
  (pe_cmpR ho ha hb hm).imp bin_imp
theorem vp_ix {fa fb : M PyData} {g : PyData → PyData → Option PyData} (ho : IxR X (rO X.K g)) (ha : VP X W a fa) (hb : VP X W b fb) (hs : PlainIx b) : VP X W (.Subscript a b pos) (fa >>= fun x => fb >>= fun y => ofO (g x y)) :=
  (pe_ix ho ha hb hs).imp bin_imp
theorem vp_un {op : UnaryOp} {fa : M PyData} {g : PyData → Option PyData} (ho : UnR X (unaryOp op) (rU1 X.K g)) (ha : VP X W a fa) : VP X W (.UnaryOp op a pos) (fa >>= fun x => ofO (g x)) :=
  (pe_un ho ha).imp fun σ H Q h => by
    obtain ⟨G, L, c, r, q⟩ := h
    refine ⟨G, L, c, r, At.bind wdP r q fun x v c1 H1 G1 L1 _ r1 _ p q1 => ?_⟩
    obtain ⟨z, ez, q3⟩ := At.opt q1
    exact ⟨G1, x, z, r1.sub, p, ez, At.gwP r1 q3⟩

/-! ### tests, and, or, not, if -/
def asB : PyData → M Bool
  | .bool b => pure b
  | _ => stuckM
def fromB (b : Bool) : M PyData := pure (.bool b)
theorem At.bool {x : PyData} {σ : St} {H G : Hp} {L : List Addr} {c : Co} {Q : Bool → Hp → Prop} (h : At X W rB (asB x) σ H G L c Q) : ∃ b, x = .bool b ∧ At X W rB (pure b) σ H G L c Q := by
  cases x with
  | bool b => exact ⟨b, rfl, h⟩
  | _ => exact (show False from h).elim
theorem test_imp {fa : M PyData} (σ : St) (H : Hp) (Q : Bool → Hp → Prop) (h : tE X W rB (fa >>= asB) σ H Q) : tTest (tE X W rP fa) σ H Q := by
  obtain ⟨G, L, c, r, q⟩ := h
  refine ⟨G, L, c, r, At.bind wdB r q fun x v c1 H1 G1 L1 _ r1 _ p q1 => ?_⟩
  obtain ⟨b, rfl, q2⟩ := At.bool q1
  cases p
  exact ⟨b, rfl, At.fin (ρ := rB) r1 q2 rfl⟩
theorem vb_val {fa : M PyData} (h : VP X W a fa) (he : ∀ whole, isTrue a X.env whole = (do let v ← whole; standAt a.pos; holding [v] (truthy v)) := by intro _; rfl) : VB X W a (fa >>= asB) := (pt_val h he).imp test_imp
theorem vb_cmp {op : CmpOp} {fa fb : M PyData} {g : PyData → PyData → Option PyData} (ho : OpR X (compareOp op) (rO X.K g)) (ha : VP X W a fa) (hb : VP X W b fb) (hm : behindInMarks op b = false) : VB X W (.Compare a [op] [b] pos) ((fa >>= fun x => fb >>= fun y => ofO (g x y)) >>= asB) :=
  (pt_cmpR ho ha hb hm).imp fun σ H Q h => by
    obtain ⟨G, L, c, r, q⟩ := test_imp σ H Q h
    exact bin_imp _ _ _ ⟨G, L, c, r, q⟩
abbrev VW (X : Cx) (W : WX) (e : Expr) (f : M Bool) : Prop := PW X e (tE X W rB f)
theorem vb_not {fa : M Bool} (h : VB X W a fa) : VB X W (.UnaryOp .Not a pos) (fa >>= fun x => pure (!x)) := (pt_not h).imp fun σ H Q ⟨G, L, c, r, q⟩ =>
  ⟨G, L, c, r, At.bind wdB r q fun x v c1 H1 G1 L1 _ r1 _ p q1 => At.fin (ρ := rB) (b := !v) r1 q1 (by cases p; rfl)⟩
theorem vw_and1 {fa : M Bool} (h : VB X W a fa) : VW X W (.BoolOp .And [a] pos) fa := pw_and1 h
theorem vw_or1 {fa : M Bool} (h : VB X W a fa) : VW X W (.BoolOp .Or [a] pos) fa := pw_or1 h
theorem vw_and {rest : List Expr} {fa fb : M Bool} (ha : VB X W a fa) (hb : VW X W (.BoolOp .And (b :: rest) pos) fb) : VW X W (.BoolOp .And (a :: b :: rest) pos) (fa >>= fun x => if x then fb else pure false) := (pw_and ha hb).imp fun σ H Q ⟨G, L, c, r, q⟩ =>
  ⟨G, L, c, r, At.bind (ρ := rB) wdB r q fun x v c1 H1 G1 L1 _ r1 _ p q1 => by
    cases p
    cases x with
    | true => exact ⟨G1, L1, c1, r1, q1⟩
    | false => exact At.fin (ρ := rB) r1 q1 rfl⟩
theorem vw_or {rest : List Expr} {fa fb : M Bool} (ha : VB X W a fa) (hb : VW X W (.BoolOp .Or (b :: rest) pos) fb) : VW X W (.BoolOp .Or (a :: b :: rest) pos) (fa >>= fun x => if x then pure true else fb) := (pw_or ha hb).imp fun σ H Q ⟨G, L, c, r, q⟩ =>
  ⟨G, L, c, r, At.bind (ρ := rB) wdB r q fun x v c1 H1 G1 L1 _ r1 _ p q1 => by
    cases p
    cases x with
    | false => exact ⟨G1, L1, c1, r1, q1⟩
    | true => exact At.fin (ρ := rB) r1 q1 rfl⟩
theorem vb_w {fa : M Bool} (h : VW X W a fa) : VB X W a fa := h.pt
/-- .. as values -/
theorem vp_one {op} {f : M PyData} (h : VP X W a f) : VP X W (.BoolOp op [a] pos) f := pe_one h
def andM (fa fb : M PyData) : M PyData := fa >>= fun x => match x with
  | .bool true => fb
  | .bool false => pure (.bool false)
  | _ => stuckM
def orM (fa fb : M PyData) : M PyData := fa >>= fun x => match x with
  | .bool true => pure (.bool true)
  | .bool false => fb
  | _ => stuckM
theorem vp_and {rest : List Expr} {fa fb : M PyData} (ha : VP X W a fa) (hb : VP X W (.BoolOp .And (b :: rest) pos) fb) : VP X W (.BoolOp .And (a :: b :: rest) pos) (andM fa fb) := (pe_and ha hb).imp fun σ H Q ⟨G, L, c, r, q⟩ =>
  ⟨G, L, c, r, At.bind wdP r q fun x v c1 H1 G1 L1 _ r1 _ p q1 => by
    cases p with
    | bl b =>
      cases b with
      | true => exact ⟨true, rfl, G1, L1, c1, r1, q1⟩
      | false => exact ⟨false, rfl, At.fin (ρ := rP) r1 q1 (.bl false)⟩
    | _ => exact (show False from q1).elim⟩
theorem vp_or {rest : List Expr} {fa fb : M PyData} (ha : VP X W a fa) (hb : VP X W (.BoolOp .Or (b :: rest) pos) fb) : VP X W (.BoolOp .Or (a :: b :: rest) pos) (orM fa fb) := (pe_or ha hb).imp fun σ H Q ⟨G, L, c, r, q⟩ =>
  ⟨G, L, c, r, At.bind wdP r q fun x v c1 H1 G1 L1 _ r1 _ p q1 => by
    cases p with
    | bl b =>
      cases b with
      | true => exact ⟨true, rfl, At.fin (ρ := rP) r1 q1 (.bl true)⟩
      | false => exact ⟨false, rfl, G1, L1, c1, r1, q1⟩
    | _ => exact (show False from q1).elim⟩
def notD : PyData → Option PyData
  | .bool b => some (.bool (!b))
  | _ => none
theorem vp_not {fa : M PyData} (ha : VP X W a fa) : VP X W (.UnaryOp .Not a pos) (fa >>= fun x => ofO (notD x)) := (pe_not ha).imp fun σ H Q ⟨G, L, c, r, q⟩ =>
  ⟨G, L, c, r, At.bind wdP r q fun x v c1 H1 G1 L1 _ r1 _ p q1 => by
    cases p with
    | bl b => exact ⟨b, rfl, At.fin (ρ := rP) r1 q1 (.bl _)⟩
    | _ => exact (show False from q1).elim⟩
theorem vp_if {t : Expr} {ft : M Bool} {fa fb : M PyData} (ht : VB X W t ft) (ha : VP X W a fa) (hb : VP X W b fb) : VP X W (.IfExp t a b pos) (ft >>= fun x => if x then fa else fb) := (pe_ifExp ht ha hb).imp fun σ H Q ⟨G, L, c, r, q⟩ =>
  ⟨G, L, c, r, At.bind (ρ := rB) wdP r q fun x v c1 H1 G1 L1 _ r1 _ p q1 => by
    cases p
    cases x with
    | true => exact ⟨G1, L1, c1, r1, q1⟩
    | false => exact ⟨G1, L1, c1, r1, q1⟩⟩
/-- a op b op' c, all plain -/
theorem chain_imp {fa fb fc : M PyData} {g g' : PyData → PyData → Option PyData} (σ : St) (H : Hp) (Q : VK) (h : tE X W rP (fa >>= fun x => fb >>= fun y => andM (ofO (g x y)) (fc >>= fun z => ofO (g' y z))) σ H Q) :
    tChain (rO X.K g) (rO X.K g') (tE X W rP fa) (tE X W rP fb) (tE X W rP fc) σ H Q := by
  obtain ⟨G, L, c, r, q⟩ := h
  refine ⟨G, L, c, r, At.bind wdP r q fun x v c1 H1 G1 L1 _ r1 _ p q1 => ⟨G1, L1, c1, r1, At.bind wdP r1 q1 fun y u c2 H2 G2 L2 _ r2 f2 p2 q2 => ?_⟩⟩
  cases e : g x y with
  | none => rw [e] at q2; exact (show False from q2).elim
  | some z =>
    rw [e] at q2
    refine ⟨G2, x, y, z, r2.sub, p.mono f2.g, p2, e, fun w H3 G3 g3 p3 => ?_⟩
    cases p3 with
    | bl b =>
      cases b with
      | false => exact ⟨false, rfl, At.gw (ρ := rP) r2 q2 g3 (.bl false)⟩
      | true =>
        have r3 := r2.gw g3
        refine ⟨true, rfl, G3, L2, c2, r3, At.bind wdP r3 (At.mv wdP g3 (show At X W rP (fc >>= fun z => ofO (g' y z)) σ H2 G2 L2 c2 _ from q2)) fun z s c4 H4 G4 L4 _ r4 f4 p4 q4 => ?_⟩
        obtain ⟨z', ez, q5⟩ := At.opt q4
        exact ⟨G4, y, z, z', r4.sub, (p2.mono g3.g).mono f4.g, p4, ez, At.gwP r4 q5⟩
    | _ => exact (show False from q2).elim
theorem vb_chain {t : Expr} {op op' : CmpOp} {fa fb fc : M PyData} {g g' : PyData → PyData → Option PyData} (ho : OpR X (compareOp op) (rO X.K g)) (ho' : OpR X (compareOp op') (rO X.K g')) (ha : VP X W a fa) (hb : VP X W b fb) (hc : VP X W t fc)
    (hm : lastMarks [op, op'] [b, t] = false := by with_unfolding_all rfl) : VB X W (.Compare a [op, op'] [b, t] pos) ((fa >>= fun x => fb >>= fun y => andM (ofO (g x y)) (fc >>= fun z => ofO (g' y z))) >>= asB) := (pt_chain ho ho' ha hb hc hm).imp fun σ H Q h => by
  obtain ⟨G, L, c, r, q⟩ := test_imp σ H Q h
  exact chain_imp σ H _ ⟨G, L, c, r, q⟩
theorem vp_chain {t : Expr} {op op' : CmpOp} {fa fb fc : M PyData} {g g' : PyData → PyData → Option PyData} (ho : OpR X (compareOp op) (rO X.K g)) (ho' : OpR X (compareOp op') (rO X.K g')) (ha : VP X W a fa) (hb : VP X W b fb) (hc : VP X W t fc)
    (hm : lastMarks [op, op'] [b, t] = false := by with_unfolding_all rfl) : VP X W (.Compare a [op, op'] [b, t] pos) (fa >>= fun x => fb >>= fun y => andM (ofO (g x y)) (fc >>= fun z => ofO (g' y z))) := (pe_chain ho ho' ha hb hc hm).imp chain_imp

/-! ### arguments, displays -/
variable {es : List Expr}
theorem va_nil : VA X W [] (pure []) := pa_nil.imp fun σ H Q ⟨G, L, c, r, q⟩ => At.fin (ρ := rPs) r q .nil
theorem va_cons {f : M PyData} {fs : M (List PyData)} (h : VP X W e f) (hs : VA X W es fs) (he : starEach (e :: es) X.env = (false, eval e X.env) :: starEach es X.env := by rfl) : VA X W (e :: es) (f >>= fun x => fs >>= fun xs => pure (x :: xs)) := (pa_cons h hs he).imp fun σ H Q ⟨G, L, c, r, q⟩ =>
  ⟨G, L, c, r, At.bind wdPs r q fun x v c1 H1 G1 L1 _ r1 _ p q1 => ⟨G1, L1, c1, r1, At.bind (ρ := rPs) wdPs r1 q1 fun xs vs c2 H2 G2 L2 _ r2 f2 ps q2 => At.fin (ρ := rPs) r2 q2 (.cons (Rp.mono f2.g p) ps)⟩⟩
theorem vav_nil : VAv X W [] (pure []) := pa_nil.imp fun σ H Q ⟨G, L, c, r, q⟩ => At.fin (ρ := rA) r q .nil
/-- an argument: plain, or an object of the store -/
def arg : EV → M EV
  | .d x => pure (.d x)
  | .loc n => pure (.loc n)
  | .scr n => pure (.scr n)
  | _ => stuckM
theorem AllV.mono {K : PySem.W.Frag} {G G' : Hp} {L : List Addr} (N : List Addr) (l : Le G G') : ∀ {es : List EV} {vs : List V}, AllV K G L es vs → AllV K G' (L ++ N) es vs
  | _, _, .nil => .nil
  | _, _, .d p r => .d (p.mono l) (AllV.mono N l r)
  | _, _, .loc e r => .loc (by rw [List.getElem?_append_left (List.getElem?_eq_some_iff.mp e).1]; exact e) (AllV.mono N l r)
  | _, _, .scr e r => .scr (l.sql e) (AllV.mono N l r)
theorem vav_cons {f : M EV} {fs : M (List EV)} (h : VV X W e f) (hs : VAv X W es fs) (he : starEach (e :: es) X.env = (false, eval e X.env) :: starEach es X.env := by rfl) : VAv X W (e :: es) (f >>= arg >>= fun x => fs >>= fun xs => pure (x :: xs)) := (pa_cons h hs he).imp fun σ H Q ⟨G, L, c, r, q⟩ => by
  refine ⟨G, L, c, r, At.bind (ρ := rV) (m := f) (k := fun x => arg x >>= fun x => fs >>= fun xs => pure (x :: xs)) wdA r (by
    have e0 : (f >>= arg >>= fun x => fs >>= fun xs => pure (x :: xs)) = (f >>= fun x => arg x >>= fun x => fs >>= fun xs => pure (x :: xs)) := by
      funext c
      rw [bnd_eq, bnd_eq, bnd_eq]
      cases f c <;> rfl
    rw [← e0]
    exact q) fun x v c1 H1 G1 L1 _ r1 _ p q1 => ?_⟩
  cases x with
  | un => exact (show False from p).elim
  | own o => exact (show False from q1).elim
  | d x => exact ⟨G1, L1, c1, r1, At.bind (ρ := rA) wdA r1 (show At X W rA (fs >>= fun xs => pure (.d x :: xs)) _ _ _ _ _ _ from q1) fun xs vs c2 H2 G2 L2 _ r2 f2 ps q2 => At.fin (ρ := rA) r2 q2 (.d (Rp.mono f2.g p) ps)⟩
  | scr n =>
    obtain ⟨a, rfl, e1⟩ := p
    exact ⟨G1, L1, c1, r1, At.bind (ρ := rA) wdA r1 (show At X W rA (fs >>= fun xs => pure (.scr n :: xs)) _ _ _ _ _ _ from q1) fun xs vs c2 H2 G2 L2 _ r2 f2 ps q2 => At.fin (ρ := rA) r2 q2 (.scr (f2.g.sql e1) ps)⟩
  | loc n =>
    obtain ⟨a, rfl, e1⟩ := p
    exact ⟨G1, L1, c1, r1, At.bind (ρ := rA) wdA r1 (show At X W rA (fs >>= fun xs => pure (.loc n :: xs)) _ _ _ _ _ _ from q1) fun xs vs c2 H2 G2 L2 _ r2 f2 ps q2 => by
      refine At.fin (ρ := rA) r2 q2 (.loc ?_ ps)
      obtain ⟨N, eN⟩ := f2.l
      rw [eN, List.getElem?_append_left (List.getElem?_eq_some_iff.mp e1).1]
      exact e1⟩
theorem vp_tup {f : M (List PyData)} {x1} (h : VA X W es f) : VP X W (.Tuple es x1 pos) (f >>= fun xs => if xs.length ≤ sizeLine then pure (.tuple xs) else stuckM) := (pe_tup h).imp fun σ H Q ⟨G, L, c, r, q⟩ =>
  ⟨G, L, c, r, At.bind (ρ := rPs) wdP r q fun xs vs c1 H1 G1 L1 _ r1 _ p q1 => by
    by_cases hl : xs.length ≤ sizeLine
    · rw [if_pos hl] at q1
      refine ⟨by rw [RpAll.length p]; exact hl, fun a ha => At.gwP r1 q1 _ _ _ (Gw.new r1.sub ha) (.tup (.inl (.inl upd_same)) (RpAll.mono (Gw.new (o := .tup vs) r1.sub ha).g p))⟩
    · rw [if_neg hl] at q1
      exact (show False from q1).elim⟩
/-- a new own list at a new place -/
theorem At.newL {xs : List PyData} {vs : List V} {σ : St} {H G : Hp} {L : List Addr} {c : Co} {Q : VK} (r : Rl X.K σ H G L c) (h : At X W rV (pure (.own (.lst xs))) σ H G L c Q) (p : RpAll X.K G vs xs) {a : Addr} (ha : H a = none) : Q (.ref a) (upd H a (.lst vs)) := by
  have ga : G a = none := by
    cases e : G a with
    | none => rfl
    | some u => rw [r.sub _ _ e] at ha; cases ha
  have la : a ∉ L := fun hm => by
    obtain ⟨_, ho, e⟩ := r.sto.mem hm
    rw [ha] at e; cases e
  have oa : ¬ Ow σ c a := fun hm => by
    obtain ⟨_, _, ho, e⟩ := r.ow hm
    rw [ha] at e; cases e
  have ne : ∀ {b : Addr} {o : HO}, H b = some o → b ≠ a := fun h => ne_of_none h ha
  refine h (.ref a) (upd H a (.lst vs)) G L ⟨fun b u q => ?_, r.len, fun i e q => ?_, r.dis, ⟨r.sto.nd, r.sto.ll, fun n b o q1 q2 => ?_⟩⟩ ⟨Le.refl _, ⟨[], by simp⟩, fun b o q1 q2 q3 q4 => ⟨?_, q2, q3, q4⟩⟩ ⟨a, .lst vs, rfl, upd_same, .lst p, ga, la, oa, .inl ha⟩
  · rw [upd_ne (ne (r.sub _ _ q))]; exact r.sub _ _ q
  · obtain ⟨x, h1, h2⟩ := r.env i e q
    refine ⟨x, h1, ?_⟩
    cases e with
    | un => trivial
    | d p => exact h2
    | loc n => exact h2
    | scr n => exact h2
    | own o =>
      obtain ⟨b, hb, z, w1, w2⟩ := h2
      exact ⟨b, hb, z, by rw [upd_ne (ne w1)]; exact w1, w2⟩
  · obtain ⟨z, hb, w1, w2⟩ := r.sto.at_ n b o q1 q2
    exact ⟨z, hb, by rw [upd_ne (ne w1)]; exact w1, w2⟩
  · rw [upd_ne (ne q1)]; exact q1
theorem vv_lst {f : M (List PyData)} (h : VA X W es f) : VV X W (.List es pos) (f >>= fun xs => if xs.length ≤ sizeLine then pure (.own (.lst xs)) else stuckM) := (pe_lst h).imp fun σ H Q ⟨G, L, c, r, q⟩ =>
  ⟨G, L, c, r, At.bind (ρ := rPs) wdV r q fun xs vs c1 H1 G1 L1 _ r1 _ p q1 => by
    by_cases hl : xs.length ≤ sizeLine
    · rw [if_pos hl] at q1
      exact ⟨by rw [RpAll.length p]; exact hl, fun a ha => At.newL r1 q1 p ha⟩
    · rw [if_neg hl] at q1
      exact (show False from q1).elim⟩

/-! ### calls of built-ins, methods, slices -/
theorem vp_callB {x : Str} {p : Pos} {id : String} {f : M (List PyData)} {g : List PyData → Option PyData} (hc : CallR X (.builtin id) (rC X.K g)) (hg : Gl X x) (hm : X.mg x = none) (hv : bootBuiltins x = some (.builtin id)) (ha : VA X W (e :: es) f)
    (hn : x ≠ "__name__" := by decide) (hdb : (x == ("__debug__" : Str)) = false := by decide) (he : starEach (e :: es) X.env = (false, eval e X.env) :: starEach es X.env := by rfl) (hpl : (backTo pos (starEach es X.env)).any (·.1) = false := by rfl) :
    VP X W (.Call (.Name x p) (e :: es) [] pos) (f >>= fun xs => ofO (g xs)) := (pe_callB hc hg hm hv ha hn hdb he hpl).imp fun σ H Q ⟨G, L, c, r, q⟩ =>
  ⟨G, L, c, r, At.bind (ρ := rPs) wdP r q fun xs vs c1 H1 G1 L1 _ r1 _ p q1 => by
    obtain ⟨z, ez, q2⟩ := At.opt q1
    exact ⟨G1, xs, z, r1.sub, p, ez, At.gwP r1 q2⟩⟩
theorem vp_callTy {x : Str} {p : Pos} {T : String} {f : M (List PyData)} {g : List PyData → Option PyData} (hc : CallR X (.type T) (rC X.K g)) (hg : Gl X x) (hm : X.mg x = none) (hv : bootBuiltins x = some (.type T)) (ha : VA X W (e :: es) f)
    (hn : x ≠ "__name__" := by decide) (hdb : (x == ("__debug__" : Str)) = false := by decide) (he : starEach (e :: es) X.env = (false, eval e X.env) :: starEach es X.env := by rfl) (hpl : (backTo pos (starEach es X.env)).any (·.1) = false := by rfl) :
    VP X W (.Call (.Name x p) (e :: es) [] pos) (f >>= fun xs => ofO (g xs)) := (pe_callTy hc hg hm hv ha hn hdb he hpl).imp fun σ H Q ⟨G, L, c, r, q⟩ =>
  ⟨G, L, c, r, At.bind (ρ := rPs) wdP r q fun xs vs c1 H1 G1 L1 _ r1 _ p q1 => by
    obtain ⟨z, ez, q2⟩ := At.opt q1
    exact ⟨G1, xs, z, r1.sub, p, ez, At.gwP r1 q2⟩⟩
/-- a slice's part -/
def rOp : Rho (Option Int) (Option Int) := fun _ _ _ _ _ _ x v => v = x
theorem wdOp : Wd rOp := fun _ _ _ _ _ _ _ _ _ _ h => h
def asI : PyData → M (Option Int)
  | .int i => pure (some i)
  | _ => stuckM
theorem vo_none : PO X none (tE X W rOp (pure none)) := ⟨fun pins s σ H Q I ⟨G, L, c, r, q⟩ => po_none.run pins s σ H Q I (At.fin (ρ := rOp) r q rfl)⟩
theorem vo_some {f : M PyData} (h : VP X W e f) : PO X (some e) (tE X W rOp (f >>= asI)) := ⟨fun pins s σ H Q I ⟨G, L, c, r, q⟩ => (po_some h).run pins s σ H Q I ⟨G, L, c, r, At.bind wdOp r q fun x v c1 H1 G1 L1 _ r1 _ p q1 => by
    cases p with
    | int i => exact ⟨i, rfl, At.fin (ρ := rOp) r1 q1 rfl⟩
    | _ => exact (show False from q1).elim⟩⟩
def rSl (K : PySem.W.Frag) (g : PyData → Option Int → Option Int → Option PyData) : V → Option Int → Option Int → Hp → VK → Prop := fun x lo hi H Q => ∃ G d z, Le G H ∧ Rp K G x d ∧ g d lo hi = some z ∧ ∀ v H' G', Gw H G H' G' → Rp K G' v z → Q v H'
theorem vp_slice {lo hi : Option Expr} {p2 : Pos} {fe : M PyData} {fl fh : M (Option Int)} {g : PyData → Option Int → Option Int → Option PyData} (hr : SlR X (rSl X.K g)) (he : VP X W e fe) (hl : PO X lo (tE X W rOp fl)) (hu : PO X hi (tE X W rOp fh)) :
    VP X W (.Subscript e (.Slice lo hi none p2) pos) (fe >>= fun x => fl >>= fun l => fh >>= fun h => ofO (g x l h)) := (pe_slice hr he hl hu).imp fun σ H Q ⟨G, L, c, r, q⟩ =>
  ⟨G, L, c, r, At.bind wdP r q fun x v c1 H1 G1 L1 _ r1 _ p q1 => ⟨G1, L1, c1, r1, At.bind (ρ := rOp) wdP r1 q1 fun l l' c2 H2 G2 L2 _ r2 f2 p2 q2 => ⟨G2, L2, c2, r2, At.bind (ρ := rOp) wdP r2 q2 fun h h' c3 H3 G3 L3 _ r3 f3 p3 q3 => by
    cases p2
    cases p3
    obtain ⟨z, ez, q4⟩ := At.opt q3
    exact ⟨G3, x, z, r3.sub, p.mono (f2.g.trans f3.g), ez, At.gwP r3 q4⟩⟩⟩⟩
end
end DL
end L2

/-! DL, part three: calls, statements, loops, comprehensions. -/
namespace L2
namespace DL
open PySem PySem.Spec PyProof.Rows

/-! ### defs -/
inductive RF where
  | stuck
  | ok (v : EV) (st : List OB)
  | ex (e : Ex) (st : List OB)
abbrev FD := List EV → List OB → RF
def callM (F : FD) (args : List EV) : M EV := fun c => match F args c.sto with
  | .stuck => .stuck
  | .ok v st => .ok v ⟨c.env, st⟩
  | .ex e st => .ex e ⟨c.env, st⟩
def O0 : Addr → Prop := fun _ => False
/-- the promise of a def of n parameters -/
def spF (K : PySem.W.Frag) (mg : Str → Option Value) (n : Nat) (F : FD) : Sp := fun vs H Q E => vs.length = n ∧ ∃ G L args st, Le G H ∧ StoOk K H G L st ∧ AllV K G L args vs ∧ match F args st with
  | .stuck => False
  | .ok r st' => ∀ v H' G' L', Le G' H' → StoOk K H' G' L' st' → Fr H G L O0 H' G' L' O0 → VOk K (fun a => H a = none) H' G' L' O0 r v → Q v H'
  | .ex e st' => ∀ cls d H' G' L', Le G' H' → StoOk K H' G' L' st' → Fr H G L O0 H' G' L' O0 → ExOk K mg H' G' e cls d → E cls d H'
section
variable {K : PySem.W.Frag} {σ : St} {H G H' G' : Hp} {L L' : List Addr} {c : Co}
/-- a frame's own things stand behind a call -/
theorem Rl.call {st' : List OB} (r : Rl K σ H G L c) (s : Le G' H') (so : StoOk K H' G' L' st') (f : Fr H G L O0 H' G' L' O0) : Rl K σ H' G' L' ⟨c.env, st'⟩ ∧ Fr H G L (Ow σ c) H' G' L' (Ow σ ⟨c.env, st'⟩) := by
  refine ⟨⟨s, r.len, fun i e q => ?_, r.dis, so⟩, f.g, f.l, fun a o h1 h2 h3 h4 => ?_⟩
  · obtain ⟨x, h1, h2⟩ := r.env i e q
    refine ⟨x, h1, ?_⟩
    cases e with
    | un => trivial
    | d p => obtain ⟨v, z, w⟩ := h2; exact ⟨v, z, w.mono f.g⟩
    | loc n =>
      obtain ⟨a, z, w⟩ := h2
      obtain ⟨N, eN⟩ := f.l
      exact ⟨a, z, by rw [eN, List.getElem?_append_left (List.getElem?_eq_some_iff.mp w).1]; exact w⟩
    | scr n => obtain ⟨a, z, w⟩ := h2; exact ⟨a, z, f.g.sql w⟩
    | own o =>
      obtain ⟨a, ho, z, w1, w2, w3, w4⟩ := h2
      obtain ⟨k1, k2, k3, _⟩ := f.k a ho w1 w3 w4 id
      exact ⟨a, ho, z, k1, w2.mono f.g, k2, k3⟩
  · obtain ⟨k1, k2, k3, _⟩ := f.k a o h1 h2 h3 id
    exact ⟨k1, k2, k3, h4⟩
end
section
variable {X : Cx} {W : WX} {e : Expr} {es : List Expr} {pos : Pos}
theorem vv_call {k : Nat} {f : Addr} {fd : FuncData} {ps : List Str} {x : Str} {p : Pos} {n : Nat} {F : FD} {fs : M (List EV)} (FO : FnOk X.prog X.w X.K X.mg X.base (L2.CX X.prog X.w) k f fd ps (spF X.K X.mg n F)) (tk : Takes X W) (hr : Room k X.A) (hg : Gl X x) (hm : X.mg x = some (.ref f))
    (hk : PySem.W.keepIn X.K (.ref f) = true) (hb : Binds X.K fd ps []) (ha : VAv X W (e :: es) fs) (hn : (e :: es).length = n := by rfl) (hdb : (x == ("__debug__" : Str)) = false := by decide) (he : starEach (e :: es) X.env = (false, eval e X.env) :: starEach es X.env := by rfl) (hpl : (backTo pos (starEach es X.env)).any (·.1) = false := by rfl)
    (hlen : ∀ c xs c', fs c = .ok xs c' → xs.length = n) : VV X W (.Call (.Name x p) (e :: es) [] pos) (fs >>= callM F) := (pe_callS FO hr hg hm hk hb (fun σ => passAt tk σ) ha hdb he hpl).imp fun σ H Q ⟨G, L, c, r, q⟩ =>
  ⟨G, L, c, r, At.bind (ρ := rA) wdV r q fun xs vs c1 H1 G1 L1 e1 r1 _ p q1 => by
    have hl : vs.length = xs.length := by
      have : ∀ {es : List EV} {vs : List V}, AllV X.K G1 L1 es vs → vs.length = es.length := by
        intro es vs h
        induction h with
        | nil => rfl
        | d _ _ ih => rw [List.length_cons, List.length_cons, ih]
        | loc _ _ ih => rw [List.length_cons, List.length_cons, ih]
        | scr _ _ ih => rw [List.length_cons, List.length_cons, ih]
      exact this p
    refine ⟨hl.trans (hlen _ _ _ e1), G1, L1, xs, c1.sto, r1.sub, r1.sto, p, ?_⟩
    unfold At callM at q1
    cases eF : F xs c1.sto with
    | stuck => rw [eF] at q1; exact q1
    | ex x st => rw [eF] at q1; exact fun cls d H' G' L' s so f ek => q1 cls d H' G' L' (r1.call s so f).1 (r1.call s so f).2 ek
    | ok v st =>
      rw [eF] at q1
      refine fun u H' G' L' s so f ok => q1 u H' G' L' (r1.call s so f).1 (r1.call s so f).2 ?_
      cases v with
      | un => exact ok
      | d x => exact ok
      | loc n => exact ok
      | scr n => exact ok
      | own o =>
        obtain ⟨a, ho, z1, z2, z3, z4, z5, _, z7⟩ := ok
        refine ⟨a, ho, z1, z2, z3, z4, z5, fun hm => ?_, .inl z7⟩
        obtain ⟨_, _, ho', e'⟩ := r1.ow (c := c1) (a := a) hm
        have z7 : H1 a = none := z7
        rw [z7] at e'; cases e'⟩

/-! ### statements -/
inductive Fl where
  | nx | bk | ct
  | rt (v : EV)
def AtR (X : Cx) (W : WX) (m : R Fl) (σ : St) (H G : Hp) (L : List Addr) (c : Co) (D : Ends) : Prop := match m with
  | .stuck => False
  | .ok fl c' => ∀ σ' H' G' L', Rl X.K σ' H' G' L' c' → Fr H G L (Ow σ c) H' G' L' (Ow σ' c') → match fl with
    | .nx => D.nx σ' H'
    | .bk => D.bk σ' H'
    | .ct => D.ct σ' H'
    | .rt e => ∀ v, VOk X.K (fun a => H a = none ∨ Ow σ c a) H' G' L' (Ow σ' c') e v → D.rt v H'
  | .ex e c' => ∀ cls d σ' H' G' L', Rl X.K σ' H' G' L' c' → Fr H G L (Ow σ c) H' G' L' (Ow σ' c') → ExOk X.K X.mg H' G' e cls d → W cls d σ' H'
def AtS (X : Cx) (W : WX) (m : M Fl) (σ : St) (H G : Hp) (L : List Addr) (c : Co) (D : Ends) : Prop := AtR X W (m c) σ H G L c D
def tS (X : Cx) (W : WX) (m : M Fl) : TS := fun D σ H => ∃ G L c, Rl X.K σ H G L c ∧ AtS X W m σ H G L c D
abbrev VS (X : Cx) (W : WX) (st : Stmt) (m : M Fl) : Prop := PS X st (tS X W m)
abbrev VSs (X : Cx) (W : WX) (st : List Stmt) (m : M Fl) : Prop := PSs X st (tS X W m)
/-- the rest behind a step that goes on -/
theorem wdVOk {K : PySem.W.Frag} {S S' : Addr → Prop} {H G : Hp} {L : List Addr} {O : Addr → Prop} {x : EV} {b : V} (s : ∀ a, S a → S' a) (h : VOk K S H G L O x b) : VOk K S' H G L O x b := wdV K S S' H G L O x b s h
def thenM (m k : M Fl) : M Fl := m >>= fun fl => match fl with
  | .nx => k
  | fl => pure fl
variable {σ : St} {H G : Hp} {L : List Addr} {c : Co}
/-- a frame's move ahead of a statement's reading -/
theorem AtR.mv {m : R Fl} {σ1 : St} {H1 G1 : Hp} {L1 : List Addr} {c1 : Co} {D : Ends} (r : Rl X.K σ H G L c) (r1 : Rl X.K σ1 H1 G1 L1 c1) (f : Fr H G L (Ow σ c) H1 G1 L1 (Ow σ1 c1)) (h : AtR X W m σ H G L c D) : AtR X W m σ1 H1 G1 L1 c1 D := by
  cases m with
  | stuck => exact h
  | ex x c' => exact fun cls d σ' H' G' L' r' f' => h cls d σ' H' G' L' r' (f.trans f')
  | ok fl c' =>
    intro σ' H' G' L' r' f'
    have q := h σ' H' G' L' r' (f.trans f')
    cases fl with
    | nx => exact q
    | bk => exact q
    | ct => exact q
    | rt x =>
      refine fun v ok => q v (wdVOk (fun a ha => ?_) ok)
      rcases ha with ha | ha
      · exact Rl.back0 r.sto r1 f r.sub ha
      · exact r1.back f ha r.sub
/-- an expression ahead of a statement's rest, the rest told from the start -/
theorem AtS.raw {α β : Type} {ρ : Rho α β} {m : M α} {k : α → M Fl} {D : Ends} {Q1 : β → Hp → Prop} (h : AtS X W (m >>= k) σ H G L c D)
    (hk : ∀ x b c1 H1 G1 L1, m c = .ok x c1 → Rl X.K σ H1 G1 L1 c1 → Fr H G L (Ow σ c) H1 G1 L1 (Ow σ c1) → ρ X.K (fun a => H a = none ∨ Ow σ c a) H1 G1 L1 (Ow σ c1) x b → AtR X W (k x c1) σ H G L c D → Q1 b H1) : At X W ρ m σ H G L c Q1 := by
  unfold AtS at h
  unfold At
  cases e : m c with
  | stuck =>
    rw [bnd_stuck e] at h
    exact h
  | ex x c' =>
    rw [bnd_ex e] at h
    exact fun cls d H' G' L' r' f' => h cls d σ H' G' L' r' f'
  | ok x c1 =>
    rw [bnd_ok e] at h
    exact fun b H1 G1 L1 r1 f1 q1 => hk x b c1 H1 G1 L1 e r1 f1 q1 h
/-- an expression ahead of a statement's rest -/
theorem AtS.bind {α β : Type} {ρ : Rho α β} {m : M α} {k : α → M Fl} {D : Ends} {Q1 : β → Hp → Prop} (r : Rl X.K σ H G L c) (h : AtS X W (m >>= k) σ H G L c D)
    (hk : ∀ x b c1 H1 G1 L1, m c = .ok x c1 → Rl X.K σ H1 G1 L1 c1 → Fr H G L (Ow σ c) H1 G1 L1 (Ow σ c1) → ρ X.K (fun a => H a = none ∨ Ow σ c a) H1 G1 L1 (Ow σ c1) x b → AtS X W (k x) σ H1 G1 L1 c1 D → Q1 b H1) : At X W ρ m σ H G L c Q1 :=
  AtS.raw h fun x b c1 H1 G1 L1 e r1 f1 q1 q => hk x b c1 H1 G1 L1 e r1 f1 q1 (AtR.mv r r1 f1 q)
theorem AtS.fin {D : Ends} (r : Rl X.K σ H G L c) (h : AtS X W (pure .nx) σ H G L c D) : D.nx σ H := h σ H G L r (Fr.refl _ _ _ _)
/-- a statement, then the rest -/
theorem AtS.seq {m k : M Fl} {D : Ends} (r : Rl X.K σ H G L c) (h : AtS X W (thenM m k) σ H G L c D) : AtS X W m σ H G L c { D with nx := tS X W k D } := by
  unfold AtS thenM at h
  unfold AtS
  cases e : m c with
  | stuck =>
    rw [bnd_stuck e] at h
    exact h
  | ex x c' =>
    rw [bnd_ex e] at h
    exact h
  | ok fl c1 =>
    rw [bnd_ok e] at h
    cases fl with
    | nx => exact fun σ1 H1 G1 L1 r1 f1 => ⟨G1, L1, c1, r1, AtR.mv r r1 f1 h⟩
    | bk => exact h
    | ct => exact h
    | rt x => exact h
variable {st : Stmt} {sts : List Stmt}
theorem vss_cons {m k : M Fl} (h : VS X W st m) (hs : VSs X W sts k) : VSs X W (st :: sts) (thenM m k) := (pss_cons h hs).imp fun D σ H ⟨G, L, c, r, q⟩ => ⟨G, L, c, r, AtS.seq r q⟩
theorem vss_one {m : M Fl} (h : VS X W st m) : VSs X W [st] m := pss_one h
theorem vss_nil : VSs X W [] (pure .nx) := pss_nil.imp fun D σ H ⟨G, L, c, r, q⟩ => AtS.fin r q
theorem vs_pass : VS X W (.Pass pos) (pure .nx) := ps_pass.imp fun D σ H ⟨G, L, c, r, q⟩ => AtS.fin r q
theorem vs_break : VS X W (.Break pos) (pure .bk) := ps_break.imp fun D σ H ⟨G, L, c, r, q⟩ => q σ H G L r (Fr.refl _ _ _ _)
theorem vs_continue : VS X W (.Continue pos) (pure .ct) := ps_continue.imp fun D σ H ⟨G, L, c, r, q⟩ => q σ H G L r (Fr.refl _ _ _ _)
theorem vs_never : VS X W st stuckM := ps_never.imp fun D σ H ⟨G, L, c, r, q⟩ => q
theorem vs_expr {f : M EV} (h : VV X W e f) (hs : swapsWith e none pos.line X.env = pure false := by rfl) : VS X W (.Expr e pos) (f >>= fun _ => pure .nx) := (ps_expr h hs).imp fun D σ H ⟨G, L, c, r, q⟩ =>
  ⟨G, L, c, r, AtS.bind (ρ := rV) r q fun x v c1 H1 G1 L1 _ r1 _ p q1 => AtS.fin r1 q1⟩
theorem vs_ret {f : M EV} (h : VV X W e f) : VS X W (.Return (some e) pos) (f >>= fun x => pure (.rt x)) := (ps_ret h).imp fun D σ H ⟨G, L, c, r, q⟩ =>
  ⟨G, L, c, r, AtS.raw (ρ := rV) q fun x v c1 H1 G1 L1 _ r1 f1 p q1 => q1 σ H1 G1 L1 r1 f1 v p⟩
theorem vs_retN : VS X W (.Return none pos) (pure (.rt (.d .none))) := ps_retN.imp fun D σ H ⟨G, L, c, r, q⟩ => q σ H G L r (Fr.refl _ _ _ _) .non .non
theorem vs_if {t : Expr} {a b : List Stmt} {ft : M Bool} {ma mb : M Fl} (ht : VB X W t ft) (ha : VSs X W a ma) (hb : VSs X W b mb) : VS X W (.If t a b pos) (ft >>= fun x => if x then ma else mb) := (ps_if ht ha hb).imp fun D σ H ⟨G, L, c, r, q⟩ =>
  ⟨G, L, c, r, AtS.bind (ρ := rB) r q fun x v c1 H1 G1 L1 _ r1 _ p q1 => by
    cases p
    cases x with
    | true => exact ⟨G1, L1, c1, r1, q1⟩
    | false => exact ⟨G1, L1, c1, r1, q1⟩⟩

/-! ### stores -/
/-- a slot's new content: plain, an object of the store, a new own thing -/
def stV (i : Nat) (x : EV) : M Fl := fun c => match x with
  | .un => .stuck
  | x => if i < c.env.length then .ok .nx { c with env := c.env.set i x } else .stuck
theorem set_ok {σ0 : St} {c0 : Co} {H0 G0 : Hp} {L0 : List Addr} (r : Rl X.K σ H G L c) (f : Fr H0 G0 L0 (Ow σ0 c0) H G L (Ow σ c)) {i : Nat} {x : EV} {v : V} (hi : i < c.env.length) (p : VOk X.K (fun a => H0 a = none ∨ Ow σ0 c0 a) H G L (Ow σ c) x v) :
    Rl X.K (σ.set i (some v)) H G L { c with env := c.env.set i x } ∧ Fr H0 G0 L0 (Ow σ0 c0) H G L (Ow (σ.set i (some v)) { c with env := c.env.set i x }) := by
  have hσ : i < σ.length := by rw [r.len]; exact hi
  have own : ∀ j a, OwnAt (σ.set i (some v)) (c.env.set i x) j a → (j ≠ i ∧ OwnAt σ c.env j a) ∨ (j = i ∧ ∃ o, x = .own o ∧ v = .ref a) := by
    rintro j a ⟨o, h1, h2⟩
    by_cases hj : i = j
    · subst hj
      rw [List.getElem?_set_self hi] at h1
      rw [List.getElem?_set_self hσ] at h2
      cases h1
      cases h2
      exact .inr ⟨rfl, o, rfl, rfl⟩
    · rw [List.getElem?_set_ne hj] at h1 h2
      exact .inl ⟨fun e => hj e.symm, o, h1, h2⟩
  have nown : ∀ a o, x = .own o → v = .ref a → ¬ Ow σ c a ∧ G a = none ∧ a ∉ L ∧ (∃ ho, H a = some ho ∧ OKO X.K G ho o) ∧ (H0 a = none ∨ Ow σ0 c0 a) := by
    intro a o e1 e2
    subst e1
    obtain ⟨a', ho, z1, z2, z3, z4, z5, z6, z7⟩ := p
    rw [e2] at z1
    cases z1
    exact ⟨z6, z4, z5, ⟨ho, z2, z3⟩, z7⟩
  refine ⟨⟨r.sub, by simpa using r.len, fun j e q => ?_, fun j k a q1 q2 => ?_, r.sto⟩, f.g, f.l, fun a o q1 q2 q3 q4 => ?_⟩
  · by_cases hj : i = j
    · subst hj
      rw [List.getElem?_set_self hi] at q
      cases q
      rw [List.getElem?_set_self hσ]
      refine ⟨_, rfl, ?_⟩
      cases x with
      | un => trivial
      | d x => exact ⟨v, rfl, p⟩
      | loc n => obtain ⟨a, rfl, e⟩ := p; exact ⟨a, rfl, e⟩
      | scr n => obtain ⟨a, rfl, e⟩ := p; exact ⟨a, rfl, e⟩
      | own o => obtain ⟨a, ho, rfl, z2, z3, z4, z5, _⟩ := p; exact ⟨a, ho, rfl, z2, z3, z4, z5⟩
    · rw [List.getElem?_set_ne hj] at q ⊢
      exact r.env j e q
  · rcases own j a q1 with ⟨n1, h1⟩ | ⟨rfl, o, e1, e2⟩ <;> rcases own k a q2 with ⟨n2, h2⟩ | ⟨rfl, o', e3, e4⟩
    · exact r.dis j k a h1 h2
    · exact absurd ⟨j, h1⟩ (nown a o' e3 e4).1
    · exact absurd ⟨k, h2⟩ (nown a o e1 e2).1
    · rfl
  · obtain ⟨z1, z2, z3, z4⟩ := f.k a o q1 q2 q3 q4
    refine ⟨z1, z2, z3, ?_⟩
    rintro ⟨j, hj⟩
    rcases own j a hj with ⟨_, h1⟩ | ⟨_, o', e1, e2⟩
    · exact z4 ⟨j, h1⟩
    · rcases (nown a o' e1 e2).2.2.2.2 with z | z
      · rw [z] at q1; cases q1
      · exact q4 z
theorem AtR.stV {x : EV} {v : V} {i : Nat} {c1 : Co} {D : Ends} {H1 G1 : Hp} {L1 : List Addr} (q : AtR X W (DL.stV i x c1) σ H G L c D) (r1 : Rl X.K σ H1 G1 L1 c1) (f1 : Fr H G L (Ow σ c) H1 G1 L1 (Ow σ c1)) (p : VOk X.K (fun a => H a = none ∨ Ow σ c a) H1 G1 L1 (Ow σ c1) x v) : D.nx (σ.set i (some v)) H1 := by
  by_cases hi : i < c1.env.length
  · have e3 : DL.stV i x c1 = .ok .nx { c1 with env := c1.env.set i x } := by
      unfold DL.stV
      cases x with
      | un => exact (show False from p).elim
      | _ => dsimp only; rw [if_pos hi]
    rw [e3] at q
    obtain ⟨r2, f2⟩ := set_ok r1 f1 hi p
    exact q _ H1 G1 L1 r2 f2
  · have e3 : DL.stV i x c1 = .stuck := by
      unfold DL.stV
      cases x with
      | un => rfl
      | _ => dsimp only; rw [if_neg hi]
    rw [e3] at q
    exact (show False from q).elim
/-- behind an expression: its value goes to a slot -/
theorem asg_imp {f : M EV} {i : Nat} (D : Ends) (σ : St) (H : Hp) (h : tS X W (f >>= stV i) D σ H) : tAsg (tE X W rV f) (gName i) D σ H := by
  obtain ⟨G, L, c, r, q⟩ := h
  exact ⟨G, L, c, r, AtS.raw (ρ := rV) q fun x v c1 H1 G1 L1 _ r1 f1 p q1 => q1.stV r1 f1 p⟩
theorem vs_set {i : Nat} {x : Str} {pos' : Pos} {f : M EV} (hN : X.N.Nodup) (hi : X.N[i]? = some x) (hx : Loc X.env.scope x) (he : VV X W e f) (hs : swapsWith e (some (.Name x pos')) pos.line X.env = pure false := by rfl) (hf : X.fn x = true ∨ X.env.scope.names.lookup x = some .local := by first | exact .inl rfl | exact .inr rfl | assumption) :
    VS X W (.Assign [.Name x pos'] e pos) (f >>= stV i) := (ps_set hN hi hx he hs hf).imp asg_imp
end
end DL
end L2

/-! DL, part four: targets, loops, comprehensions, changes in place. -/
namespace L2
namespace DL
open PySem PySem.Spec PyProof.Rows

/-! ### targets -/
abbrev GT := PyData → Co → Option Co
def gN (i : Nat) : GT := fun x c => if i < c.env.length then some { c with env := c.env.set i (.d x) } else none
def gTs : List GT → List PyData → Co → Option Co
  | [], [], c => some c
  | g :: gs, x :: xs, c => (g x c).bind (gTs gs xs)
  | _, _, _ => none
/-- (a, b, ..) = a tuple -/
def gT (gs : List GT) : GT := fun x c => match x with
  | .tuple xs => gTs gs xs c
  | _ => none
def Off (ns : List Nat) (σ σ' : St) : Prop := σ'.length = σ.length ∧ ∀ j : Nat, j ∉ ns → σ'[j]? = σ[j]?
def tG (X : Cx) (g : GT) (ns : List Nat) : TG := fun v σ H Q => ∃ G L c x c', Rl X.K σ H G L c ∧ Rp X.K G v x ∧ g x c = some c' ∧ ∀ σ', Off ns σ σ' → Rl X.K σ' H G L c' → Fr H G L (Ow σ c) H G L (Ow σ' c') → Q σ' H
def tGs (X : Cx) (gs : List GT) (ns : List Nat) : TGs := fun vs σ H Q => ∃ G L c xs c', Rl X.K σ H G L c ∧ RpAll X.K G vs xs ∧ gTs gs xs c = some c' ∧ ∀ σ', Off ns σ σ' → Rl X.K σ' H G L c' → Fr H G L (Ow σ c) H G L (Ow σ' c') → Q σ' H
theorem _root_.L2.PG.imp {X : Cx} {e : Expr} {t t' : TG} (h : PG X e t) (i : ∀ v σ H Q, t' v σ H Q → t v σ H Q) : PG X e t' := ⟨fun pins s σ H v u Q I r q => h.run pins s σ H v u Q I r (i v σ H Q q)⟩
theorem _root_.L2.PGs.imp {X : Cx} {e : List Expr} {t t' : TGs} (h : PGs X e t) (i : ∀ v σ H Q, t' v σ H Q → t v σ H Q) : PGs X e t' := ⟨fun pins s σ H v u Q I r q => h.run pins s σ H v u Q I r (i v σ H Q q)⟩
theorem _root_.L2.PI.imp {X : Cx} {tg e : Expr} {t t' : TI} (h : PI X tg e t) (i : ∀ σ H R, t' σ H R → t σ H R) : PI X tg e t' := ⟨fun pins s σ H R I q => h.run pins s σ H R I (i σ H R q)⟩
abbrev VG (X : Cx) (e : Expr) (g : GT) (ns : List Nat) : Prop := PG X e (tG X g ns)
abbrev VGs (X : Cx) (es : List Expr) (gs : List GT) (ns : List Nat) : Prop := PGs X es (tGs X gs ns)
section
variable {X : Cx} {W : WX} {pos : Pos}
theorem vg_name {i : Nat} {x : Str} (hN : X.N.Nodup) (hi : X.N[i]? = some x) (hx : Loc X.env.scope x) (hf : X.fn x = true ∨ X.env.scope.names.lookup x = some .local := by first | exact .inl rfl | exact .inr rfl | assumption) : VG X (.Name x pos) (gN i) [i] :=
  (pg_name hN hi hx hf).imp fun v σ H Q ⟨G, L, c, x, c', r, p, e, q⟩ => by
    unfold gN at e
    by_cases hi : i < c.env.length
    · rw [if_pos hi] at e
      cases e
      obtain ⟨r2, f2⟩ := set_ok (x := .d x) r (Fr.refl _ _ _ _) hi p
      exact q _ ⟨by simp, fun j hj => List.getElem?_set_ne (by intro e; exact hj (by simp [e]))⟩ r2 f2
    · rw [if_neg hi] at e; cases e
theorem vgs_nil : VGs X [] [] [] := pgs_nil.imp fun vs σ H Q ⟨G, L, c, xs, c', r, p, e, q⟩ => by
  cases p with
  | nil =>
    have e : some c = some c' := e
    cases e
    exact ⟨rfl, q σ ⟨rfl, fun _ _ => rfl⟩ r (Fr.refl _ _ _ _)⟩
  | cons _ _ => cases e
theorem Off.trans {ns ms : List Nat} {a b c : St} (x : Off ns a b) (y : Off ms b c) : Off (ns ++ ms) a c :=
  ⟨y.1.trans x.1, fun j hj => (y.2 j fun h => hj (List.mem_append_right _ h)).trans (x.2 j fun h => hj (List.mem_append_left _ h))⟩
theorem vgs_cons {e : Expr} {es : List Expr} {g : GT} {gs : List GT} {ns ms : List Nat} (h1 : VG X e g ns) (h2 : VGs X es gs ms)
    (hs : (assignEach (e :: es) X.env).map (·.2) = assign e X.env :: (assignEach es X.env).map (·.2) := by rfl) : VGs X (e :: es) (g :: gs) (ns ++ ms) := (pgs_cons h1 h2 hs).imp fun vs σ H Q ⟨G, L, c, xs, c', r, p, e, q⟩ => by
  cases p with
  | nil => cases e
  | @cons v vs x xs p ps =>
    have e : (g x c).bind (gTs gs xs) = some c' := e
    cases e1 : g x c with
    | none => rw [e1] at e; cases e
    | some c1 =>
      rw [e1] at e
      have e : gTs gs xs c1 = some c' := e
      exact ⟨_, _, rfl, G, L, c, x, c1, r, p, e1, fun σ1 o1 r1 f1 => ⟨G, L, c1, xs, c', r1, ps, e, fun σ2 o2 r2 f2 => q σ2 (o1.trans o2) r2 (f1.trans f2)⟩⟩
theorem gTs_len : ∀ {gs : List GT} {xs : List PyData} {c c' : Co}, gTs gs xs c = some c' → xs.length = gs.length
  | [], [], _, _, _ => rfl
  | [], _ :: _, _, _, h => by cases h
  | _ :: _, [], _, _, h => by cases h
  | g :: gs, x :: xs, c, c', h => by
    have h : (g x c).bind (gTs gs xs) = some c' := h
    cases e : g x c with
    | none => rw [e] at h; cases h
    | some c1 =>
      rw [e] at h
      have h : gTs gs xs c1 = some c' := h
      rw [List.length_cons, List.length_cons, gTs_len h]
theorem vg_tup {es : List Expr} {k : Nat} {gs : List GT} {ns : List Nat} {n : Nat} (hc : X.calm = true) (h : VGs X es gs ns)
    (hn : (assignEach es X.env).length = n := by rfl) (hg : gs.length = n := by rfl) (hst : (assignEach es X.env).findIdx? (·.1) = none := by rfl) : VG X (.Tuple es k pos) (gT gs) ns := (pg_tup hc h hn hst).imp fun v σ H Q ⟨G, L, c, x, c', r, p, e, q⟩ => by
  cases p with
  | tup hs ps =>
    have e : gTs gs _ c = some c' := e
    refine ⟨_, _, rfl, r.sub.sqt hs, ?_, G, L, c, _, c', r, ps, e, q⟩
    rw [RpAll.length ps, gTs_len e, hg]
  | _ => cases e

/-! ### what is walked -/
structure Serves (K : PySem.W.Frag) (G : Hp) (J : It) (xs : List PyData) : Prop where
  go : ∀ H' G' i, Le G G' → Le G' H' → i < xs.length → J.go i H'
  stop : ∀ H' G' i, Le G G' → Le G' H' → xs.length ≤ i → J.stop i H'
  yld : ∀ H' G' (i : Nat) v H'', Le G G' → Le G' H' → i < xs.length → J.yld i H' v H'' → ∃ G'' x, xs[i]? = some x ∧ Gw H' G' H'' G'' ∧ Rp K G'' v x
def rI : Rho (List PyData) It := fun K _ _ G _ _ xs J => Serves K G J xs
theorem wdI : Wd rI := fun _ _ _ _ _ _ _ _ _ _ h => h
abbrev VI (X : Cx) (W : WX) (tg e : Expr) (f : M (List PyData)) : Prop := PI X tg e (tE X W rI f)
def signs (x : Str) : List PyData := x.cps.toList.map fun c => PyData.str ⟨#[c]⟩
/-- the items of what is walked: a list's, a tuple's, a text's signs -/
def itemsO : PyData → Option (List PyData)
  | .list xs => some xs
  | .tuple xs => some xs
  | .str x => some (signs x)
  | _ => none
theorem serves_listR {K : PySem.W.Frag} {G : Hp} {a : Addr} {vs : List V} {xs : List PyData} (h : SqL K G a vs) (p : RpAll K G vs xs) : Serves K G (Itl K a) xs where
  go := fun H' G' i l1 l2 hi => by
    obtain ⟨v, e, _⟩ := RpAll.get p (List.getElem?_eq_getElem hi)
    exact ⟨vs, v, l2.sql (l1.sql h), e⟩
  stop := fun H' G' i l1 l2 hi => ⟨vs, l2.sql (l1.sql h), by rw [RpAll.length p]; exact hi⟩
  yld := fun H' G' i v H'' l1 l2 hi y => by
    obtain ⟨rfl, y⟩ := y
    have e := y vs (l2.sql (l1.sql h))
    obtain ⟨x, ex, px⟩ := RpAll.get' p e
    exact ⟨G', x, ex, Gw.refl l2, px.mono l1⟩
theorem serves_tup {K : PySem.W.Frag} {G : Hp} {a : Addr} {vs : List V} {xs : List PyData} (h : SqT K G a vs) (p : RpAll K G vs xs) : Serves K G (Itt K a) xs where
  go := fun H' G' i l1 l2 hi => by
    obtain ⟨v, e, _⟩ := RpAll.get p (List.getElem?_eq_getElem hi)
    exact ⟨vs, v, l2.sqt (l1.sqt h), e⟩
  stop := fun H' G' i l1 l2 hi => ⟨vs, l2.sqt (l1.sqt h), by rw [RpAll.length p]; exact hi⟩
  yld := fun H' G' i v H'' l1 l2 hi y => by
    obtain ⟨rfl, y⟩ := y
    have e := y vs (l2.sqt (l1.sqt h))
    obtain ⟨x, ex, px⟩ := RpAll.get' p e
    exact ⟨G', x, ex, Gw.refl l2, px.mono l1⟩
theorem signs_length (x : Str) : (signs x).length = x.cps.size := by simp [signs]
theorem serves_str {K : PySem.W.Frag} {G : Hp} (x : Str) : Serves K G (Its x) (signs x) where
  go := fun H' G' i l1 l2 hi => by rw [signs_length] at hi; exact hi
  stop := fun H' G' i l1 l2 hi => by rw [signs_length] at hi; exact hi
  yld := fun H' G' i v H'' l1 l2 hi y => by
    obtain ⟨rfl, c, e, rfl⟩ := y
    exact ⟨G', .str ⟨#[c]⟩, by simp [signs, e], Gw.refl l2, .str _⟩
theorem serves_range {K : PySem.W.Frag} {G : Hp} (lo : Int) (n : Nat) : Serves K G (Itr lo n) ((List.range n).map fun i : Nat => PyData.int (lo + (i : Int))) where
  go := fun H' G' i l1 l2 hi => (show i < n by simpa using hi)
  stop := fun H' G' i l1 l2 hi => (show n ≤ i by simpa using hi)
  yld := fun H' G' i v H'' l1 l2 hi y => by
    obtain ⟨rfl, rfl⟩ := y
    have hi : i < n := by simpa using hi
    exact ⟨G', .int (lo + (i : Int)), by simp [hi], Gw.refl l2, .int _⟩
/-- a list, a tuple or a text is walked: which of them the denotation knows ahead -/
theorem vi_any {tg e : Expr} {f : M PyData} (h : VP X W e f) : VI X W tg e (f >>= fun x => ofO (itemsO x)) := by
  refine ⟨fun pins s σ H R I ⟨G, L, c, r, q⟩ => ?_⟩
  have use : ∀ {R1 : VK}, (∀ x v c1 H1 G1 L1, f c = .ok x c1 → Rl X.K σ H1 G1 L1 c1 → Rp X.K G1 v x → At X W rI (ofO (itemsO x)) σ H1 G1 L1 c1 R → R1 v H1) → tE X W rP f σ H R1 := fun hk =>
    ⟨G, L, c, r, At.bind wdI r q fun x v c1 H1 G1 L1 e1 r1 _ p q1 => hk x v c1 H1 G1 L1 e1 r1 p q1⟩
  cases hf : f c with
  | stuck => exact (pi_list h).run pins s σ H R I (use fun x v c1 H1 G1 L1 e1 => by rw [hf] at e1; cases e1)
  | ex x c1 => exact (pi_list h).run pins s σ H R I (use fun x v c1 H1 G1 L1 e1 => by rw [hf] at e1; cases e1)
  | ok x0 c0 =>
    cases x0 with
    | tuple xs =>
      refine (pi_tup h).run pins s σ H R I (use fun x v c1 H1 G1 L1 e1 r1 p q1 => ?_)
      rw [hf] at e1
      cases e1
      cases p with
      | tup h1 ps => exact ⟨_, rfl, ⟨_, r1.sub.sqt h1⟩, At.fin (ρ := rI) r1 q1 (serves_tup h1 ps)⟩
    | str z =>
      refine (pi_str h).run pins s σ H R I (use fun x v c1 H1 G1 L1 e1 r1 p q1 => ?_)
      rw [hf] at e1
      cases e1
      cases p
      exact ⟨z, rfl, At.fin (ρ := rI) r1 q1 (serves_str z)⟩
    | list xs =>
      refine (pi_list h).run pins s σ H R I (use fun x v c1 H1 G1 L1 e1 r1 p q1 => ?_)
      rw [hf] at e1
      cases e1
      cases p with
      | lst h1 ps => exact ⟨_, rfl, ⟨_, .inl (.inl (r1.sub _ _ h1))⟩, At.fin (ρ := rI) r1 q1 (serves_listR (.inl (.inl h1)) ps)⟩
    | _ =>
      refine (pi_list h).run pins s σ H R I (use fun x v c1 H1 G1 L1 e1 r1 p q1 => ?_)
      rw [hf] at e1
      cases e1
      exact (show False from q1).elim
def rng (lo : Int) (n : Nat) : List PyData := (List.range n).map fun i : Nat => PyData.int (lo + (i : Int))
def rng1O : List PyData → Option (List PyData)
  | [.int j] => if -(2 ^ 62) ≤ j ∧ j < 2 ^ 62 then some (rng 0 j.toNat) else none
  | _ => none
def rng2O : List PyData → Option (List PyData)
  | [.int i, .int j] => if -(2 ^ 62) ≤ i ∧ i < 2 ^ 62 ∧ -(2 ^ 62) ≤ j ∧ j < 2 ^ 62 then some (rng i (j - i).toNat) else none
  | _ => none
theorem vi_range1 {tg a : Expr} {f : M (List PyData)} {p : Pos} (hg : Gl X "range") (hm : X.mg "range" = none) (ha : VA X W [a] f) (hs : starEach [a] X.env = [(false, eval a X.env)] := by rfl) : VI X W tg (.Call (.Name "range" p) [a] [] pos) (f >>= fun xs => ofO (rng1O xs)) :=
  (pi_range1 hg hm ha hs).imp fun σ H R ⟨G, L, c, r, q⟩ => ⟨G, L, c, r, At.bind (ρ := rPs) wdI r q fun xs vs c1 H1 G1 L1 _ r1 _ p q1 => by
    obtain ⟨ys, ey, q2⟩ := At.opt q1
    unfold rng1O at ey
    split at ey
    · split at ey
      · rename_i hb
        cases ey
        cases p with
        | cons p ps =>
          cases p
          cases ps
          exact ⟨_, rfl, hb.1, hb.2, At.fin (ρ := rI) r1 q2 (serves_range _ _)⟩
      · cases ey
    · cases ey⟩
theorem vi_range2 {tg a b : Expr} {f : M (List PyData)} {p : Pos} (hg : Gl X "range") (hm : X.mg "range" = none) (ha : VA X W [a, b] f) (hs : starEach [a, b] X.env = [(false, eval a X.env), (false, eval b X.env)] := by rfl) (hs2 : starEach [b] X.env = [(false, eval b X.env)] := by rfl) : VI X W tg (.Call (.Name "range" p) [a, b] [] pos) (f >>= fun xs => ofO (rng2O xs)) :=
  (pi_range2 hg hm ha hs hs2).imp fun σ H R ⟨G, L, c, r, q⟩ => ⟨G, L, c, r, At.bind (ρ := rPs) wdI r q fun xs vs c1 H1 G1 L1 _ r1 _ p q1 => by
    obtain ⟨ys, ey, q2⟩ := At.opt q1
    unfold rng2O at ey
    split at ey
    · split at ey
      · rename_i hb
        cases ey
        cases p with
        | cons p ps =>
          cases p
          cases ps with
          | cons p ps =>
            cases p
            cases ps
            exact ⟨_, _, rfl, hb, At.fin (ρ := rI) r1 q2 (serves_range _ _)⟩
      · cases ey
    · cases ey⟩

/-! ### for -/
def forM (g : GT) (b : M Fl) : List PyData → M Fl
  | [] => pure .nx
  | x :: xs => fun c => match g x c with
    | none => .stuck
    | some c1 => (b >>= fun fl => match fl with
      | .nx => forM g b xs
      | .ct => forM g b xs
      | .bk => pure .nx
      | .rt v => pure (.rt v)) c1
theorem vs_for {tg iter : Expr} {body : List Stmt} {f : M (List PyData)} {g : GT} {ns : List Nat} {b : M Fl} (hp : PassesOwn (model X.prog X.w) X.A X.env X.xe) (hc : X.calm = true) (hi : VI X W tg iter f) (hg : VG X tg g ns) (hb : VSs X W body b)
    (hs : ∀ x, foldedSetIterable iter X.env x = pure x := by intro _; rfl) : VS X W (.For tg iter body [] pos) (f >>= forM g b) := (ps_for hp hc hi hg hb hs).imp fun D σ H ⟨G, L, c, r, q⟩ =>
  ⟨G, L, c, r, AtS.bind (ρ := rI) r q fun xs J c1 H1 G1 L1 _ r1 _ sv q1 => by
    refine ⟨fun i m σ' H' => m = xs.length - i ∧ i ≤ xs.length ∧ ∃ G' L' c', Rl X.K σ' H' G' L' c' ∧ Le G1 G' ∧ AtS X W (forM g b (xs.drop i)) σ' H' G' L' c' D, ⟨_, rfl, Nat.zero_le _, G1, L1, c1, r1, Le.refl _, q1⟩, ?_⟩
    rintro i m σ2 H2 ⟨rfl, hle, G2, L2, c2, r2, l2, q2⟩
    by_cases hlt : i < xs.length
    · refine .inr ⟨sv.go H2 G2 i l2 r2.sub hlt, fun σ' H' => ∃ G' L' c', Rl X.K σ' H' G' L' c' ∧ Le G1 G' ∧ AtS X W (forM g b (xs.drop (i + 1))) σ' H' G' L' c' D, fun σ' H' hN => ⟨xs.length - (i + 1), by omega, rfl, hlt, hN⟩, fun v H3 y => ?_⟩
      obtain ⟨G3, x, ex, gw, px⟩ := sv.yld H2 G2 i v H3 l2 r2.sub hlt y
      have r3 := r2.gw gw
      have ed : xs.drop i = x :: xs.drop (i + 1) := by
        rw [List.drop_eq_getElem_cons hlt]
        congr 1
        rw [List.getElem?_eq_getElem hlt] at ex
        exact Option.some.inj ex
      rw [ed] at q2
      unfold AtS forM at q2
      cases eg : g x c2 with
      | none => rw [eg] at q2; exact (show False from q2).elim
      | some c3 =>
        rw [eg] at q2
        dsimp only at q2
        refine ⟨G3, L2, c2, x, c3, r3, px, eg, fun σ4 o4 r4 f4 => ⟨G3, L2, c3, r4, ?_⟩⟩
        have q3 := AtR.mv r2 r4 (gw.fr.trans f4) q2
        unfold AtS
        cases eb : b c3 with
        | stuck => rw [bnd_stuck eb] at q3; exact q3
        | ex e c4 => rw [bnd_ex eb] at q3; exact q3
        | ok fl c4 =>
          rw [bnd_ok eb] at q3
          cases fl with
          | nx => exact fun σ' H' G' L' r' f' => ⟨G', L', c4, r', l2.trans (gw.g.trans f'.g), AtR.mv r4 r' f' q3⟩
          | ct => exact fun σ' H' G' L' r' f' => ⟨G', L', c4, r', l2.trans (gw.g.trans f'.g), AtR.mv r4 r' f' q3⟩
          | bk => exact q3
          | rt v => exact q3
    · have e : i = xs.length := by omega
      subst e
      rw [List.drop_length] at q2
      exact .inl ⟨sv.stop H2 G2 _ l2 r2.sub (Nat.le_refl _), AtS.fin r2 q2⟩⟩

/-! ### while -/
def whileM (t : M Bool) (b : M Fl) : Nat → M Fl
  | 0 => stuckM
  | n + 1 => t >>= fun x => if x then (b >>= fun fl => match fl with
      | .nx => whileM t b n
      | .ct => whileM t b n
      | .bk => pure .nx
      | .rt v => pure (.rt v)) else pure .nx
theorem vs_while {t : Expr} {body : List Stmt} {ft : M Bool} {b : M Fl} (n : Nat) (hp : PassesOwn (model X.prog X.w) X.A X.env X.xe) (ht : VB X W t ft) (hb : VSs X W body b) : VS X W (.While t body [] pos) (whileM ft b n) := (ps_while hp ht hb).imp fun D σ H ⟨G, L, c, r, q⟩ => by
  refine ⟨fun m σ' H' => ∃ G' L' c', Rl X.K σ' H' G' L' c' ∧ AtS X W (whileM ft b m) σ' H' G' L' c' D, ⟨n, G, L, c, r, q⟩, ?_⟩
  rintro m σ1 H1 ⟨G1, L1, c1, r1, q1⟩
  cases m with
  | zero => exact (show False from q1).elim
  | succ m =>
    refine ⟨G1, L1, c1, r1, AtS.bind (ρ := rB) r1 q1 fun x v c2 H2 G2 L2 _ r2 _ p q2 => ?_⟩
    cases p
    cases x with
    | false => exact AtS.fin r2 q2
    | true =>
      rw [if_pos rfl]
      refine ⟨fun σ' H' => ∃ G' L' c', Rl X.K σ' H' G' L' c' ∧ AtS X W (whileM ft b m) σ' H' G' L' c' D, fun σ' H' h => ⟨m, Nat.lt_succ_self _, h⟩, G2, L2, c2, r2, ?_⟩
      have q3 : AtR X W ((b >>= fun fl => match fl with
        | .nx => whileM ft b m
        | .ct => whileM ft b m
        | .bk => pure .nx
        | .rt v => pure (.rt v)) c2) σ1 H2 G2 L2 c2 D := q2
      unfold AtS
      cases eb : b c2 with
      | stuck => rw [bnd_stuck eb] at q3; exact q3
      | ex e c4 => rw [bnd_ex eb] at q3; exact q3
      | ok fl c4 =>
        rw [bnd_ok eb] at q3
        cases fl with
        | nx => exact fun σ' H' G' L' r' f' => ⟨G', L', c4, r', AtR.mv r2 r' f' q3⟩
        | ct => exact fun σ' H' G' L' r' f' => ⟨G', L', c4, r', AtR.mv r2 r' f' q3⟩
        | bk => exact q3
        | rt v => exact q3
end
end DL
end L2

/-! DL, part five: comprehensions. -/
namespace L2
namespace DL
open PySem PySem.Spec PyProof.Rows

def noex {α : Type} (m : M α) : M α := fun c => match m c with
  | .ex _ _ => .stuck
  | r => r
def wipeE (env : List EV) : List Nat → List EV
  | [] => env
  | v :: vs => (wipeE env vs).set v .un
def lcM (vs : List Nat) (g : GT) (t : M Bool) (e : M PyData) : List PyData → List PyData → M (List PyData)
  | [], acc => fun c => .ok acc { c with env := wipeE c.env vs }
  | x :: xs, acc => fun c => match g x { c with env := wipeE c.env vs } with
    | none => .stuck
    | some c1 => (noex t >>= fun b => if b then noex e >>= fun y => lcM vs g t e xs (acc ++ [y]) else lcM vs g t e xs acc) c1
abbrev W0 : WX := fun _ _ _ _ => False
section
variable {K : PySem.W.Frag} {σ : St} {H G : Hp} {L : List Addr} {c : Co}
theorem wipeE_length (env : List EV) : ∀ vs, (wipeE env vs).length = env.length
  | [] => rfl
  | v :: vs => by unfold wipeE; rw [List.length_set, wipeE_length env vs]
theorem wipeE_in {env : List EV} : ∀ {vs : List Nat} {i : Nat}, i ∈ vs → i < env.length → (wipeE env vs)[i]? = some .un
  | [], _, h, _ => by cases h
  | v :: vs, i, h, hl => by
    unfold wipeE
    by_cases e : v = i
    · subst e
      exact List.getElem?_set_self (by rw [wipeE_length]; exact hl)
    · rw [List.getElem?_set_ne e]
      rcases List.mem_cons.mp h with rfl | h
      · exact absurd rfl e
      · exact wipeE_in h hl
theorem wipeE_out {env : List EV} : ∀ {vs : List Nat} {i : Nat}, i ∉ vs → (wipeE env vs)[i]? = env[i]?
  | [], _, _ => rfl
  | v :: vs, i, h => by
    unfold wipeE
    rw [List.getElem?_set_ne fun e => h (by simp [e]), wipeE_out fun e => h (List.mem_cons_of_mem _ e)]
theorem wipe_in {σ : St} : ∀ {vs : List Nat} {i : Nat}, i ∈ vs → i < σ.length → (wipe σ vs)[i]? = some none
  | [], _, h, _ => by cases h
  | v :: vs, i, h, hl => by
    unfold wipe
    by_cases e : v = i
    · subst e
      exact List.getElem?_set_self (by rw [wipe_length]; exact hl)
    · rw [List.getElem?_set_ne e]
      rcases List.mem_cons.mp h with rfl | h
      · exact absurd rfl e
      · exact wipe_in h hl
theorem wipe_out {σ : St} : ∀ {vs : List Nat} {i : Nat}, i ∉ vs → (wipe σ vs)[i]? = σ[i]?
  | [], _, _ => rfl
  | v :: vs, i, h => by
    unfold wipe
    rw [List.getElem?_set_ne fun e => h (by simp [e]), wipe_out fun e => h (List.mem_cons_of_mem _ e)]
/-- two states alike but for wiped slots -/
theorem wipe_eq {σ σ' : St} {vs ns : List Nat} (hn : ∀ i ∈ ns, i ∈ vs) (o : Off ns (wipe σ vs) σ') : wipe σ' vs = wipe σ vs := by
  apply List.ext_getElem?
  intro i
  by_cases h : i ∈ vs
  · by_cases hl : i < σ.length
    · have hl' : i < σ'.length := by rw [o.1, wipe_length]; exact hl
      rw [wipe_in h hl, wipe_in h hl']
    · rw [List.getElem?_eq_none (by rw [wipe_length, o.1, wipe_length]; omega), List.getElem?_eq_none (by rw [wipe_length]; omega)]
  · rw [wipe_out h, wipe_out h, o.2 i fun e => h (hn i e), wipe_out h]
/-- slots wiped on both sides -/
theorem Rl.wiped (r : Rl K σ H G L c) (vs : List Nat) : Rl K (wipe σ vs) H G L { c with env := wipeE c.env vs } ∧ Fr H G L (Ow σ c) H G L (Ow (wipe σ vs) { c with env := wipeE c.env vs }) := by
  have own : ∀ j a, OwnAt (wipe σ vs) (wipeE c.env vs) j a → OwnAt σ c.env j a := by
    rintro j a ⟨o, h1, h2⟩
    by_cases h : j ∈ vs
    · by_cases hl : j < c.env.length
      · rw [wipeE_in h hl] at h1; cases h1
      · rw [List.getElem?_eq_none (by rw [wipeE_length]; omega)] at h1; cases h1
    · rw [wipeE_out h] at h1
      rw [wipe_out h] at h2
      exact ⟨o, h1, h2⟩
  refine ⟨⟨r.sub, by rw [wipe_length, wipeE_length]; exact r.len, fun i e q => ?_, fun i j a q1 q2 => r.dis i j a (own _ _ q1) (own _ _ q2), r.sto⟩, Le.refl _, ⟨[], by simp⟩, fun a o q1 q2 q3 q4 => ⟨q1, q2, q3, fun ⟨j, hj⟩ => q4 ⟨j, own _ _ hj⟩⟩⟩
  by_cases h : i ∈ vs
  · have hl : i < c.env.length := by
      have := (List.getElem?_eq_some_iff.mp q).1
      rw [wipeE_length] at this
      exact this
    rw [wipeE_in h hl] at q
    cases q
    exact ⟨_, wipe_in h (by rw [r.len]; exact hl), trivial⟩
  · rw [wipeE_out h] at q
    rw [wipe_out h]
    exact r.env i e q
/-- .. and back, where the slots are told as unknown -/
theorem Rl.unwipe {vs : List Nat} (r : Rl K (wipe σ vs) H G L { c with env := wipeE c.env vs }) : Rl K σ H G L { c with env := wipeE c.env vs } ∧ ∀ a, Ow σ { c with env := wipeE c.env vs } a → Ow (wipe σ vs) { c with env := wipeE c.env vs } a := by
  have own : ∀ j a, OwnAt σ (wipeE c.env vs) j a → OwnAt (wipe σ vs) (wipeE c.env vs) j a := by
    rintro j a ⟨o, h1, h2⟩
    by_cases h : j ∈ vs
    · by_cases hl : j < c.env.length
      · rw [wipeE_in h hl] at h1; cases h1
      · rw [List.getElem?_eq_none (by rw [wipeE_length]; omega)] at h1; cases h1
    · exact ⟨o, h1, by rw [wipe_out h]; exact h2⟩
  have hlen : σ.length = c.env.length := by
    have := r.len
    rw [wipe_length, wipeE_length] at this
    exact this
  refine ⟨⟨r.sub, by rw [wipeE_length]; exact hlen, fun i e q => ?_, fun i j a q1 q2 => r.dis i j a (own _ _ q1) (own _ _ q2), r.sto⟩, fun a ⟨j, hj⟩ => ⟨j, own _ _ hj⟩⟩
  by_cases h : i ∈ vs
  · have hl : i < c.env.length := by
      have := (List.getElem?_eq_some_iff.mp q).1
      rw [wipeE_length] at this
      exact this
    rw [wipeE_in h hl] at q
    cases q
    exact ⟨_, List.getElem?_eq_getElem (by rw [hlen]; exact hl), trivial⟩
  · obtain ⟨x, h1, h2⟩ := r.env i e q
    rw [wipe_out h] at h1
    exact ⟨x, h1, h2⟩
/-- an object of none of ours is written -/
theorem Rl.other (r : Rl K σ H G L c) {D : Addr} {o : HO} (g : G D = none) (l : D ∉ L) (n : ¬ Ow σ c D) : Rl K σ (upd H D o) G L c := by
  refine ⟨fun a u q => ?_, r.len, fun i e q => ?_, r.dis, ⟨r.sto.nd, r.sto.ll, fun k a u q1 q2 => ?_⟩⟩
  · rw [upd_ne fun e => by subst e; rw [g] at q; cases q]
    exact r.sub _ _ q
  · obtain ⟨x, h1, h2⟩ := r.env i e q
    refine ⟨x, h1, ?_⟩
    cases e with
    | un => trivial
    | d p => exact h2
    | loc n => exact h2
    | scr n => exact h2
    | own o =>
      obtain ⟨b, hb, z, w1, w2⟩ := h2
      subst z
      exact ⟨b, hb, rfl, by rw [upd_ne fun e => n (by subst e; exact ⟨i, o, q, h1⟩)]; exact w1, w2⟩
  · obtain ⟨z, hb, w1, w2⟩ := r.sto.at_ k a u q1 q2
    exact ⟨z, hb, by rw [upd_ne fun e => l (by rw [← e]; exact List.mem_of_getElem? q1)]; exact w1, w2⟩
end
section
variable {X : Cx} {W : WX} {pos : Pos}
theorem noex_imp {α β : Type} {Xb : Cx} {ρ : Rho α β} {m : M α} {σ : St} {H : Hp} {Q : β → Hp → Prop} {G : Hp} {L : List Addr} {c : Co} (h : At Xb W0 ρ (noex m) σ H G L c Q) : At Xb W0 ρ m σ H G L c Q := by
  unfold At noex at h
  unfold At
  cases e : m c with
  | stuck => rw [e] at h; exact h
  | ex x c' => rw [e] at h; exact (show False from h).elim
  | ok x c' => rw [e] at h; exact h
theorem noex_ok {α : Type} {m : M α} {c c' : Co} {x : α} (h : m c = .ok x c') : noex m c = .ok x c' := by
  unfold noex
  rw [h]
/-- the state within a comprehension: D the new list -/
structure LcAt (X : Cx) (vs : List Nat) (σ : St) (H1 G1 : Hp) (L1 : List Addr) (O1 : Addr → Prop) (D : Addr) (acc : List PyData) (H : Hp) (c : Co) (G : Hp) (L : List Addr) : Prop where
  r : Rl X.K (wipe σ vs) H G L { c with env := wipeE c.env vs }
  f : Fr H1 G1 L1 O1 H G L (Ow (wipe σ vs) { c with env := wipeE c.env vs })
  d : ∃ ws, H D = some (.lst ws) ∧ RpAll X.K G ws acc
  g : G D = none
  l : D ∉ L
  o : ¬ Ow (wipe σ vs) { c with env := wipeE c.env vs } D
theorem lc_imp {f : M (List PyData)} {g : GT} {ns vs : List Nat} {t : M Bool} {e : M PyData} (hn : ∀ i ∈ ns, i ∈ vs) (σ : St) (H : Hp) (Q : VK)
    (h : tE X W rV (f >>= fun xs => if xs.length ≤ sizeLine then lcM vs g t e xs [] >>= fun ys => pure (.own (.lst ys)) else stuckM) σ H Q) :
    tLc (tE X W rI f) (tG X g ns) (tE X W0 rB t) (tE X W0 rP e) vs σ H Q := by
  obtain ⟨G, L, c, r, q⟩ := h
  refine ⟨G, L, c, r, At.bind (ρ := rI) wdV r q fun xs J c1 H1 G1 L1 _ r1 _ sv q1 D hD => ?_⟩
  by_cases hz : xs.length ≤ sizeLine
  case neg =>
    rw [if_neg hz] at q1
    exact (show False from q1).elim
  rw [if_pos hz] at q1
  have gD : G1 D = none := by
    cases e : G1 D with
    | none => rfl
    | some u => rw [r1.sub _ _ e] at hD; cases hD
  have lD : D ∉ L1 := fun hm => by
    obtain ⟨_, ho, e⟩ := r1.sto.mem hm
    rw [hD] at e; cases e
  have oD : ¬ Ow σ c1 D := fun hm => by
    obtain ⟨_, _, ho, e⟩ := r1.ow hm
    rw [hD] at e; cases e
  obtain ⟨rw1, fw1⟩ := r1.wiped vs
  have oD' : ¬ Ow (wipe σ vs) { c1 with env := wipeE c1.env vs } D := fun ⟨j, hj⟩ => by
    obtain ⟨o, z1, z2⟩ := hj
    obtain ⟨a, ho, z3, z4, _⟩ := rw1.own z1
    rw [z2] at z3
    cases z3
    rw [hD] at z4; cases z4
  have start : LcAt X vs σ H1 G1 L1 (Ow σ c1) D [] (upd H1 D (.lst [])) c1 G1 L1 := by
    refine ⟨rw1.other gD lD oD', ⟨fw1.g, fw1.l, fun a o z1 z2 z3 z4 => ?_⟩, ⟨[], upd_same, .nil⟩, gD, lD, oD'⟩
    obtain ⟨y1, y2, y3, y4⟩ := fw1.k a o z1 z2 z3 z4
    exact ⟨by rw [upd_ne (ne_of_none z1 hD)]; exact z1, y2, y3, y4⟩
  have hres : ∃ ys c9, lcM vs g t e xs [] c1 = .ok ys c9 := by
    unfold At at q1
    cases eq : lcM vs g t e xs [] c1 with
    | stuck => rw [bnd_stuck eq] at q1; exact q1.elim
    | ok ys c9 => exact ⟨ys, c9, rfl⟩
    | ex x c9 =>
      exfalso
      have : ∀ (xs acc : List PyData) (c : Co) (x : Ex) (c9 : Co), lcM vs g t e xs acc c ≠ .ex x c9 := by
        intro xs
        induction xs with
        | nil => intro acc c x c9 h; cases h
        | cons y ys ih =>
          intro acc c x c9 h
          unfold lcM at h
          split at h
          · cases h
          · rename_i c2 _
            cases et : noex t c2 with
            | stuck => rw [bnd_stuck et] at h; cases h
            | ex z c3 =>
              unfold noex at et
              cases e4 : t c2 with
              | stuck => rw [e4] at et; cases et
              | ex z' c4 => rw [e4] at et; cases et
              | ok z' c4 => rw [e4] at et; cases et
            | ok b c3 =>
              rw [bnd_ok et] at h
              cases b with
              | false => exact ih _ _ _ _ h
              | true =>
                rw [if_pos rfl] at h
                cases ee : noex e c3 with
                | stuck => rw [bnd_stuck ee] at h; cases h
                | ex z c4 =>
                  unfold noex at ee
                  cases e4 : e c3 with
                  | stuck => rw [e4] at ee; cases ee
                  | ex z' c4 => rw [e4] at ee; cases ee
                  | ok z' c4 => rw [e4] at ee; cases ee
                | ok z c4 =>
                  rw [bnd_ok ee] at h
                  exact ih _ _ _ _ h
      exact this _ _ _ _ _ eq
  obtain ⟨ys, c9, hres⟩ := hres
  unfold At at q1
  rw [bnd_ok hres] at q1
  refine ⟨fun i m H' => m = xs.length - i ∧ i ≤ xs.length ∧ ∃ acc c' G' L', acc.length ≤ i ∧ LcAt X vs σ H1 G1 L1 (Ow σ c1) D acc H' c' G' L' ∧ lcM vs g t e (xs.drop i) acc c' = .ok ys c9, ⟨_, rfl, Nat.zero_le _, [], c1, G1, L1, Nat.le_refl _, start, hres⟩, ?_⟩
  rintro i m H2 ⟨rfl, hle, acc, c2, G2, L2, hacc, at2, e2⟩
  by_cases hlt : i < xs.length
  · refine .inr ⟨sv.go H2 G2 i at2.f.g at2.r.sub hlt, fun H' => ∃ acc c' G' L', acc.length ≤ i + 1 ∧ LcAt X vs σ H1 G1 L1 (Ow σ c1) D acc H' c' G' L' ∧ lcM vs g t e (xs.drop (i + 1)) acc c' = .ok ys c9, fun H' hN => ⟨xs.length - (i + 1), by omega, rfl, hlt, hN⟩, fun v H3 y => ?_⟩
    obtain ⟨G3, x, ex, gw, px⟩ := sv.yld H2 G2 i v H3 at2.f.g at2.r.sub hlt y
    have r3 := at2.r.gw gw
    have ed : xs.drop i = x :: xs.drop (i + 1) := by
      rw [List.drop_eq_getElem_cons hlt]
      congr 1
      rw [List.getElem?_eq_getElem hlt] at ex
      exact Option.some.inj ex
    rw [ed] at e2
    unfold lcM at e2
    cases eg : g x { c2 with env := wipeE c2.env vs } with
    | none => rw [eg] at e2; cases e2
    | some c3 =>
      rw [eg] at e2
      dsimp only at e2
      refine ⟨G3, L2, { c2 with env := wipeE c2.env vs }, x, c3, r3, px, eg, fun σ4 o4 r4 f4 => ⟨wipe_eq hn o4, G3, L2, c3, r4, ?_⟩⟩
      -- D through the steps
      obtain ⟨ws, hw, pw⟩ := at2.d
      have f3 := gw.fr (L := L2) (O := Ow (wipe σ vs) { c2 with env := wipeE c2.env vs })
      obtain ⟨d4, g4, l4, o4'⟩ := (f3.trans f4).k D _ hw at2.g at2.l at2.o
      have F4 := at2.f.trans (f3.trans f4)
      cases et : noex t c3 with
      | stuck => rw [bnd_stuck et] at e2; cases e2
      | ex z c5 => rw [bnd_ex et] at e2; cases e2
      | ok b c5 =>
        rw [bnd_ok et] at e2
        have et' : t c3 = .ok b c5 := by
          unfold noex at et
          cases e4 : t c3 with
          | stuck => rw [e4] at et; cases et
          | ex z' c4 => rw [e4] at et; cases et
          | ok z' c4 => rw [e4] at et; exact et
        unfold At
        rw [et']
        intro b' H5 G5 L5 r5 f5 eb
        obtain rfl : b' = b := eb
        obtain ⟨d5, g5, l5, o5⟩ := f5.k D _ d4 g4 l4 o4'
        have F5 := F4.trans f5
        cases b' with
        | false =>
          rw [if_neg Bool.false_ne_true]
          rw [if_neg Bool.false_ne_true] at e2
          obtain ⟨r6, f6⟩ := r5.wiped vs
          rw [wipe_eq hn o4] at r6 f6
          obtain ⟨d6, g6, l6, o6⟩ := f6.k D _ d5 g5 l5 o5
          exact ⟨acc, c5, G5, L5, by omega, ⟨r6, F5.trans f6, ⟨ws, d6, pw.mono (gw.g.trans (f4.g.trans f5.g))⟩, g6, l6, o6⟩, e2⟩
        | true =>
          rw [if_pos rfl]
          rw [if_pos rfl] at e2
          refine ⟨G5, L5, c5, r5, ?_⟩
          cases ee : noex e c5 with
          | stuck => rw [bnd_stuck ee] at e2; cases e2
          | ex z c6 => rw [bnd_ex ee] at e2; cases e2
          | ok z c6 =>
            rw [bnd_ok ee] at e2
            have ee' : e c5 = .ok z c6 := by
              unfold noex at ee
              cases e4 : e c5 with
              | stuck => rw [e4] at ee; cases ee
              | ex z' c4 => rw [e4] at ee; cases ee
              | ok z' c4 => rw [e4] at ee; exact ee
            unfold At
            rw [ee']
            intro u H6 G6 L6 r6 f6 pz
            obtain ⟨d6, g6, l6, o6⟩ := f6.k D _ d5 g5 l5 o5
            have F6 := F5.trans f6
            have pw6 := pw.mono (gw.g.trans (f4.g.trans (f5.g.trans f6.g)))
            have hal : ws.length = acc.length := RpAll.length pw
            refine ⟨ws, d6, by omega, ?_⟩
            obtain ⟨r7, f7⟩ := r6.wiped vs
            rw [wipe_eq hn o4] at r7 f7
            obtain ⟨d7, g7, l7, o7⟩ := f7.k D _ d6 g6 l6 o6
            have F7 := F6.trans f7
            refine ⟨acc ++ [z], c6, G6, L6, by rw [List.length_append, List.length_singleton]; omega, ⟨r7.other g7 l7 o7, ⟨F7.g, F7.l, fun a o z1 z2 z3 z4 => ?_⟩, ⟨_, upd_same, pw6.append (.cons pz .nil)⟩, g7, l7, o7⟩, e2⟩
            obtain ⟨y1, y2, y3, y4⟩ := F7.k a o z1 z2 z3 z4
            exact ⟨by rw [upd_ne (ne_of_none z1 hD)]; exact y1, y2, y3, y4⟩
  · have e : i = xs.length := by omega
    subst e
    rw [List.drop_length] at e2
    unfold lcM at e2
    cases e2
    refine .inl ⟨sv.stop H2 G2 _ at2.f.g at2.r.sub (Nat.le_refl _), ?_⟩
    obtain ⟨ws, hw, pw⟩ := at2.d
    obtain ⟨r9, ow9⟩ := at2.r.unwipe
    refine q1 (.ref D) H2 G2 L2 r9 ⟨at2.f.g, at2.f.l, fun a o z1 z2 z3 z4 => ?_⟩ ⟨D, _, rfl, hw, .lst pw, at2.g, at2.l, fun h => at2.o (ow9 D h), .inl hD⟩
    obtain ⟨y1, y2, y3, y4⟩ := at2.f.k a o z1 z2 z3 z4
    exact ⟨y1, y2, y3, fun h => y4 (ow9 a h)⟩
/-- the tests of a clause -/
theorem vts_nil {Xb : Cx} : PTs Xb [] (tE Xb W0 rB (pure true)) := ⟨fun pins s σ H Q I ⟨G, L, c, r, q⟩ => pts_nil.run pins s σ H Q I (At.fin (ρ := rB) r q rfl)⟩
theorem vts_one {Xb : Cx} {c : Expr} {f : M Bool} (h : VB Xb W0 c f) : PTs Xb [c] (tE Xb W0 rB f) := pts_one h
theorem vv_lc {elt tg iter : Expr} {ifs : List Expr} {scope : Scope} (own : List (Str × Nat)) {f : M (List PyData)} {g : GT} {ns : List Nat} {t : M Bool} {e : M PyData} (hc : X.calm = true) (hN : X.N.Nodup) (hi : VI X W tg iter f) (ok : BlkOk X.N X.env.scope scope own)
    (hg : ∀ (s : Shared) (H : Hp) (C : Addr) (cl : List (Str × Addr)) (fp : List Addr), VG (X.blk s H scope (compEnvC scope cl C X.env) fp) tg g ns) (ht : ∀ (s : Shared) (H : Hp) (C : Addr) (cl : List (Str × Addr)) (fp : List Addr), PTs (X.blk s H scope (compEnvC scope cl C X.env) fp) ifs (tE (X.blk s H scope (compEnvC scope cl C X.env) fp) W0 rB t))
    (he : ∀ (s : Shared) (H : Hp) (C : Addr) (cl : List (Str × Addr)) (fp : List Addr), VP (X.blk s H scope (compEnvC scope cl C X.env) fp) W0 elt e) (hn : ∀ i ∈ ns, i ∈ own.map (·.2) := by decide) (hs : ∀ x, foldedSetIterable iter X.env x = pure x := by intro _; rfl) :
    VV X W (.ListComp elt [⟨tg, iter, ifs, 0⟩] scope pos) (f >>= fun xs => if xs.length ≤ sizeLine then lcM (own.map (·.2)) g t e xs [] >>= fun ys => pure (.own (.lst ys)) else stuckM) :=
  (pe_lc (g := tG X g ns) (tt := tE X W0 rB t) (te := tE X W0 rP e) hc hN hi ok hg ht he hs).imp fun σ H Q h => lc_imp hn σ H Q h
/-- name = [..], the name a local -/
theorem vs_setLc {i : Nat} {y : Str} {py : Pos} {elt tg iter : Expr} {ifs : List Expr} {scope : Scope} (own : List (Str × Nat)) {spos : Pos} {f : M (List PyData)} {g : GT} {ns : List Nat} {t : M Bool} {e : M PyData} (hc : X.calm = true) (hN : X.N.Nodup) (hy : X.N[i]? = some y) (hyl : X.env.scope.names.lookup y = some .local)
    (hsw : swapsWith (.ListComp elt [⟨tg, iter, ifs, 0⟩] scope pos) (some (.Name y py)) spos.line X.env = pure true) (hi : VI X W tg iter f) (ok : BlkOk X.N X.env.scope scope own)
    (hg : ∀ (s : Shared) (H : Hp) (C : Addr) (cl : List (Str × Addr)) (fp : List Addr), VG (X.blk s H scope (compEnvC scope cl C X.env) fp) tg g ns) (ht : ∀ (s : Shared) (H : Hp) (C : Addr) (cl : List (Str × Addr)) (fp : List Addr), PTs (X.blk s H scope (compEnvC scope cl C X.env) fp) ifs (tE (X.blk s H scope (compEnvC scope cl C X.env) fp) W0 rB t))
    (he : ∀ (s : Shared) (H : Hp) (C : Addr) (cl : List (Str × Addr)) (fp : List Addr), VP (X.blk s H scope (compEnvC scope cl C X.env) fp) W0 elt e) (hn : ∀ i ∈ ns, i ∈ own.map (·.2) := by decide) (hs : ∀ x, foldedSetIterable iter X.env x = pure x := by intro _; rfl) :
    VS X W (.Assign [.Name y py] (.ListComp elt [⟨tg, iter, ifs, 0⟩] scope pos) spos) ((f >>= fun xs => if xs.length ≤ sizeLine then lcM (own.map (·.2)) g t e xs [] >>= fun ys => pure (.own (.lst ys)) else stuckM) >>= stV i) :=
  (ps_setLc (g := tG X g ns) (tt := tE X W0 rB t) (te := tE X W0 rP e) hc hN hy hyl hsw hi ok hg ht he hs).imp fun D σ H h => lc_imp hn σ H _ (asg_imp D σ H h)
end
end DL
end L2

/-! DL, part six: several stores, changes in place, the store's objects, a def's promise. -/
namespace L2
namespace DL
open PySem PySem.Spec PyProof.Rows

section
variable {X : Cx} {W : WX} {e a b : Expr} {es : List Expr} {pos : Pos}
def AtX {α β : Type} (X : Cx) (W : WX) (ρ : Rho α β) (m : R α) (σ : St) (H G : Hp) (L : List Addr) (c : Co) (Q : β → Hp → Prop) : Prop := match m with
  | .stuck => False
  | .ok x c' => ∀ b H' G' L', Rl X.K σ H' G' L' c' → Fr H G L (Ow σ c) H' G' L' (Ow σ c') → ρ X.K (fun a => H a = none ∨ Ow σ c a) H' G' L' (Ow σ c') x b → Q b H'
  | .ex e c' => ∀ cls d H' G' L', Rl X.K σ H' G' L' c' → Fr H G L (Ow σ c) H' G' L' (Ow σ c') → ExOk X.K X.mg H' G' e cls d → W cls d σ H'
theorem At.raw {α β γ δ : Type} {ρ : Rho α β} {ρ' : Rho γ δ} {m : M α} {k : α → M γ} {σ : St} {H G : Hp} {L : List Addr} {c : Co} {Q : δ → Hp → Prop} {Q1 : β → Hp → Prop} (h : At X W ρ' (m >>= k) σ H G L c Q)
    (hk : ∀ x b c1 H1 G1 L1, m c = .ok x c1 → Rl X.K σ H1 G1 L1 c1 → Fr H G L (Ow σ c) H1 G1 L1 (Ow σ c1) → ρ X.K (fun a => H a = none ∨ Ow σ c a) H1 G1 L1 (Ow σ c1) x b → AtX X W ρ' (k x c1) σ H G L c Q → Q1 b H1) : At X W ρ m σ H G L c Q1 := by
  unfold At at h
  unfold At
  cases e : m c with
  | stuck => rw [bnd_stuck e] at h; exact h
  | ex x c' => rw [bnd_ex e] at h; exact fun cls d H' G' L' r' f' => h cls d H' G' L' r' f'
  | ok x c1 => rw [bnd_ok e] at h; exact fun b H1 G1 L1 r1 f1 q1 => hk x b c1 H1 G1 L1 e r1 f1 q1 h

/-! ### several results, own ones among them -/
inductive AllO (K : PySem.W.Frag) (S : Addr → Prop) (H G : Hp) (L : List Addr) (O : Addr → Prop) : List EV → List V → Prop
  | nil : AllO K S H G L O [] []
  | cons {x : EV} {v : V} {xs : List EV} {vs : List V} : VOk K S H G L O x v → AllO K S H G L O xs vs → (∀ (a : Addr) (i : Nat) (o o' : OB), x = .own o → v = .ref a → xs[i]? = some (.own o') → vs[i]? ≠ some (.ref a)) → AllO K S H G L O (x :: xs) (v :: vs)
def rO' : Rho (List EV) (List V) := AllO
theorem VOk.mv {K : PySem.W.Frag} {S : Addr → Prop} {H G H' G' : Hp} {L L' : List Addr} {O O' : Addr → Prop} {x : EV} {v : V} (h : VOk K S H G L O x v) (f : Fr H G L O H' G' L' O') : VOk K S H' G' L' O' x v := by
  cases x with
  | un => exact h
  | d p => exact Rp.mono f.g h
  | loc n =>
    obtain ⟨a, z, w⟩ := h
    obtain ⟨N, eN⟩ := f.l
    exact ⟨a, z, by rw [eN, List.getElem?_append_left (List.getElem?_eq_some_iff.mp w).1]; exact w⟩
  | scr n => obtain ⟨a, z, w⟩ := h; exact ⟨a, z, f.g.sql w⟩
  | own o =>
    obtain ⟨a, ho, z1, z2, z3, z4, z5, z6, z7⟩ := h
    obtain ⟨k1, k2, k3, k4⟩ := f.k a ho z2 z4 z5 z6
    exact ⟨a, ho, z1, k1, z3.mono f.g, k2, k3, k4, z7⟩
theorem AllO.wd {K : PySem.W.Frag} {S S' : Addr → Prop} {H G : Hp} {L : List Addr} {O : Addr → Prop} (s : ∀ a, S a → S' a) : ∀ {xs : List EV} {vs : List V}, AllO K S H G L O xs vs → AllO K S' H G L O xs vs
  | _, _, .nil => .nil
  | _, _, .cons h r n => .cons (wdVOk s h) (AllO.wd s r) n
theorem AllO.get {K : PySem.W.Frag} {S : Addr → Prop} {H G : Hp} {L : List Addr} {O : Addr → Prop} : ∀ {xs : List EV} {vs : List V} {i : Nat} {x : EV}, AllO K S H G L O xs vs → xs[i]? = some x → ∃ v, vs[i]? = some v ∧ VOk K S H G L O x v
  | _, _, _, _, .nil, e => by simp at e
  | _, _, 0, _, .cons h _ _, e => by simp at e; subst e; exact ⟨_, rfl, h⟩
  | _, _, i + 1, x, .cons _ r _, e => by
    obtain ⟨v, h1, h2⟩ := AllO.get (i := i) (x := x) r (by simpa using e)
    exact ⟨v, by simpa using h1, h2⟩
theorem AllO.length {K : PySem.W.Frag} {S : Addr → Prop} {H G : Hp} {L : List Addr} {O : Addr → Prop} : ∀ {xs : List EV} {vs : List V}, AllO K S H G L O xs vs → vs.length = xs.length
  | _, _, .nil => rfl
  | _, _, .cons _ r _ => by rw [List.length_cons, List.length_cons, AllO.length r]
abbrev VO (X : Cx) (W : WX) (es : List Expr) (f : M (List EV)) : Prop := PA X es (tE X W rO' f)
theorem vo_nil : VO X W [] (pure []) := pa_nil.imp fun σ H Q ⟨G, L, c, r, q⟩ => At.fin (ρ := rO') r q .nil
theorem vo_cons {f : M EV} {fs : M (List EV)} (h : VV X W e f) (hs : VO X W es fs) (he : starEach (e :: es) X.env = (false, eval e X.env) :: starEach es X.env := by rfl) : VO X W (e :: es) (f >>= fun x => fs >>= fun xs => pure (x :: xs)) := (pa_cons h hs he).imp fun σ H Q ⟨G, L, c, r, q⟩ =>
  ⟨G, L, c, r, At.raw (ρ := rV) q fun x v c1 H1 G1 L1 _ r1 f1 p q1 => ⟨G1, L1, c1, r1, by
    unfold At
    cases e2 : fs c1 with
    | stuck => rw [bnd_stuck e2] at q1; exact q1
    | ex z c2 => rw [bnd_ex e2] at q1; exact fun cls d H' G' L' r' f' => q1 cls d H' G' L' r' (f1.trans f')
    | ok xs c2 =>
      rw [bnd_ok e2] at q1
      intro vs H2 G2 L2 r2 f2 ps
      refine q1 (v :: vs) H2 G2 L2 r2 (f1.trans f2) (.cons (VOk.mv p f2) (AllO.wd (fun a ha => ?_) ps) fun a i o o' e1 e2 e3 e4 => ?_)
      · rcases ha with ha | ha
        · exact Rl.back0 r.sto r1 f1 r.sub ha
        · exact r1.back f1 ha r.sub
      · subst e1 e2
        obtain ⟨a', ho, z1, z2, z3, z4, z5, z6, z7⟩ := p
        cases z1
        obtain ⟨w, w1, a2, ho2, y1, y2, y3, y4, y5, y6, y7⟩ := AllO.get ps e3
        rw [e4] at w1
        cases w1
        cases y1
        rcases y7 with y7 | y7
        · rw [y7] at z2; cases z2
        · exact z6 y7⟩⟩

/-! ### several stores -/
def stAll : List Nat → List EV → M Fl
  | [], [] => pure .nx
  | i :: is, x :: xs => thenM (stV i x) (stAll is xs)
  | _, _ => stuckM
def setAll : St → List Nat → List V → St
  | σ, i :: is, v :: vs => setAll (σ.set i (some v)) is vs
  | σ, _, _ => σ
theorem stAll_ok : ∀ {is : List Nat} {xs : List EV} {vs : List V} {σ0 σ : St} {c0 c : Co} {H0 G0 H G : Hp} {L0 L : List Addr} {D : Ends} (_ : Rl X.K σ H G L c) (_ : Fr H0 G0 L0 (Ow σ0 c0) H G L (Ow σ c)) (_ : AllO X.K (fun a => H0 a = none ∨ Ow σ0 c0 a) H G L (Ow σ c) xs vs) (_ : AtR X W (stAll is xs c) σ0 H0 G0 L0 c0 D), D.nx (setAll σ is vs) H
  | [], _, _, _, _, _, _, _, _, _, _, _, _, _, r, f, .nil, q => q _ _ _ _ r f
  | _ :: _, _, _, _, _, _, _, _, _, _, _, _, _, _, r, f, .nil, q => (show False from q).elim
  | [], _, _, _, _, _, _, _, _, _, _, _, _, _, r, f, .cons _ _ _, q => (show False from q).elim
  | i :: is, _, _, σ0, σ, c0, c, H0, G0, H, G, L0, L, D, r, f, @AllO.cons _ _ _ _ _ _ x v xs vs p ps n, q => by
    have q : AtR X W (thenM (stV i x) (stAll is xs) c) σ0 H0 G0 L0 c0 D := q
    by_cases hi : i < c.env.length
    · have e3 : stV i x c = .ok .nx { c with env := c.env.set i x } := by
        unfold stV
        cases x with
        | un => exact (show False from p).elim
        | _ => dsimp only; rw [if_pos hi]
      unfold thenM at q
      rw [bnd_ok e3] at q
      obtain ⟨r2, f2⟩ := set_ok r f hi p
      show D.nx (setAll (σ.set i (some v)) is vs) H
      refine stAll_ok r2 f2 ?_ q
      have own : ∀ a, Ow (σ.set i (some v)) { c with env := c.env.set i x } a → Ow σ c a ∨ ∃ o, x = .own o ∧ v = .ref a := by
        rintro a ⟨j, o, h1, h2⟩
        by_cases hj : i = j
        · subst hj
          have hσ : i < σ.length := by rw [r.len]; exact hi
          have h1 : (c.env.set i x)[i]? = some (.own o) := h1
          rw [List.getElem?_set_self hi] at h1
          rw [List.getElem?_set_self hσ] at h2
          cases h1
          cases h2
          exact .inr ⟨o, rfl, rfl⟩
        · have h1 : (c.env.set i x)[j]? = some (.own o) := h1
          rw [List.getElem?_set_ne hj] at h1 h2
          exact .inl ⟨j, o, h1, h2⟩
      have go : ∀ {ys : List EV} {ws : List V}, AllO X.K (fun a => H0 a = none ∨ Ow σ0 c0 a) H G L (Ow σ c) ys ws → (∀ (a : Addr) (k : Nat) (o o' : OB), x = .own o → v = .ref a → ys[k]? = some (.own o') → ws[k]? ≠ some (.ref a)) →
          AllO X.K (fun a => H0 a = none ∨ Ow σ0 c0 a) H G L (Ow (σ.set i (some v)) { c with env := c.env.set i x }) ys ws := by
        intro ys ws h
        induction h with
        | nil => exact fun _ => .nil
        | @cons y w ys ws p1 p2 n1 ih =>
          intro hn
          refine .cons ?_ (ih fun a k o o' e1 e2 e3 => hn a (k + 1) o o' e1 e2 (by simpa using e3)) n1
          cases y with
          | un => exact p1
          | d _ => exact p1
          | loc _ => exact p1
          | scr _ => exact p1
          | own o1 =>
            obtain ⟨a, ho, z1, z2, z3, z4, z5, z6, z7⟩ := p1
            refine ⟨a, ho, z1, z2, z3, z4, z5, fun hm => ?_, z7⟩
            rcases own a hm with hm | ⟨o, e1, e2⟩
            · exact z6 hm
            · exact hn a 0 o o1 e1 e2 rfl (by simp [z1])
      exact go ps n
    · have e3 : stV i x c = .stuck := by
        unfold stV
        cases x with
        | un => rfl
        | _ => dsimp only; rw [if_neg hi]
      unfold thenM at q
      rw [bnd_stuck e3] at q
      exact (show False from q).elim
theorem stV_cases (i : Nat) (x : EV) (c : Co) : stV i x c = .stuck ∨ ∃ c', stV i x c = .ok .nx c' := by
  unfold stV
  cases x with
  | un => exact .inl rfl
  | _ =>
    dsimp only
    by_cases h : i < c.env.length
    · rw [if_pos h]; exact .inr ⟨_, rfl⟩
    · rw [if_neg h]; exact .inl rfl
theorem stAll_len : ∀ (is : List Nat) (xs : List EV) (c : Co), stAll is xs c ≠ .stuck → xs.length = is.length
  | [], [], _, _ => rfl
  | [], _ :: _, _, h => absurd rfl h
  | _ :: _, [], _, h => absurd rfl h
  | i :: is, x :: xs, c, h => by
    have h : thenM (stV i x) (stAll is xs) c ≠ .stuck := h
    unfold thenM at h
    rcases stV_cases i x c with e | ⟨c', e⟩
    · rw [bnd_stuck e] at h; exact absurd rfl h
    · rw [bnd_ok e] at h
      rw [List.length_cons, List.length_cons, stAll_len is xs c' h]
theorem AtR.len {is : List Nat} {xs : List EV} {c : Co} {σ : St} {H G : Hp} {L : List Addr} {c0 : Co} {D : Ends} (q : AtR X W (stAll is xs c) σ H G L c0 D) : xs.length = is.length :=
  stAll_len is xs c fun e => by rw [e] at q; exact q
theorem vs_par {i j : Nat} {x y : Str} {px py pt : Pos} {kt k2 pt2} {f : M (List EV)} (hc : X.calm = true) (hN : X.N.Nodup) (hi : X.N[i]? = some x) (hj : X.N[j]? = some y) (hij : i ≠ j)
    (hx : X.env.scope.names.lookup x = some .local) (hy : X.env.scope.names.lookup y = some .local) (ha : VO X W [a, b] f)
    (hw : swappedStores [.Tuple [.Name x px, .Name y py] kt pt] (.Tuple [a, b] k2 pt2) X.env = pure (some [x, y]))
    (hs : swapsWithSole [.Tuple [.Name x px, .Name y py] kt pt] (.Tuple [a, b] k2 pt2) pos.line X.env = pure false := by rfl) :
    VS X W (.Assign [.Tuple [.Name x px, .Name y py] kt pt] (.Tuple [a, b] k2 pt2) pos) (f >>= stAll [i, j]) := (ps_par hc hN hi hj hij hx hy ha hw hs).imp fun D σ H ⟨G, L, c, r, q⟩ =>
  ⟨G, L, c, r, AtS.raw (ρ := rO') q fun xs vs c1 H1 G1 L1 _ r1 f1 p q1 => by
    have z := stAll_ok r1 f1 p q1
    have hl : vs.length = 2 := (AllO.length p).trans (AtR.len q1)
    match vs, hl with
    | [v, w], _ => exact ⟨v, w, rfl, z⟩⟩
theorem vs_par3 {i j l : Nat} {x y z : Str} {d : Expr} {px py pz pt : Pos} {kt k2 pt2} {f : M (List EV)} (hc : X.calm = true) (hN : X.N.Nodup) (hi : X.N[i]? = some x) (hj : X.N[j]? = some y) (hl : X.N[l]? = some z) (hij : i ≠ j) (hil : i ≠ l) (hjl : j ≠ l)
    (hx : X.env.scope.names.lookup x = some .local) (hy : X.env.scope.names.lookup y = some .local) (hz : X.env.scope.names.lookup z = some .local) (ha : VO X W [a, b, d] f)
    (hw : swappedStores [.Tuple [.Name x px, .Name y py, .Name z pz] kt pt] (.Tuple [a, b, d] k2 pt2) X.env = pure (some [x, y, z]))
    (hs : swapsWithSole [.Tuple [.Name x px, .Name y py, .Name z pz] kt pt] (.Tuple [a, b, d] k2 pt2) pos.line X.env = pure false := by rfl) :
    VS X W (.Assign [.Tuple [.Name x px, .Name y py, .Name z pz] kt pt] (.Tuple [a, b, d] k2 pt2) pos) (f >>= stAll [i, j, l]) := (ps_par3 hc hN hi hj hl hij hil hjl hx hy hz ha hw hs).imp fun D σ H ⟨G, L, c, r, q⟩ =>
  ⟨G, L, c, r, AtS.raw (ρ := rO') q fun xs vs c1 H1 G1 L1 _ r1 f1 p q1 => by
    have z := stAll_ok r1 f1 p q1
    have hl : vs.length = 3 := (AllO.length p).trans (AtR.len q1)
    match vs, hl with
    | [u, v, w], _ => exact ⟨u, v, w, rfl, z⟩⟩
/-- names by slots, from a tuple: plain stores -/
def gNames : List Nat → TGs
  | [] => gNil
  | i :: is => gCons (gName i) (gNames is)
theorem gNames_ok : ∀ {is : List Nat} {vs : List V} {σ : St} {H : Hp} {Q : St → Hp → Prop}, vs.length = is.length → Q (setAll σ is vs) H → gNames is vs σ H Q
  | [], [], _, _, _, _, q => ⟨rfl, q⟩
  | [], _ :: _, _, _, _, h, _ => by cases h
  | _ :: _, [], _, _, _, h, _ => by cases h
  | i :: is, v :: vs, σ, H, Q, h, q => ⟨v, vs, rfl, gNames_ok (by simpa using h) q⟩
/-- a, b, .. = (e1, e2, ..) where a tuple is made -/
theorem vs_parC {tg : Expr} {ts : List Expr} {is : List Nat} {kt k2 : Nat} {pt pt2 : Pos} {n : Nat} {f : M (List EV)} (hc : X.calm = true) (ha : VO X W es f) (hg : PGs X ts (gNames is)) (hl : is.length = n)
    (hs : swapsWithSole [.Tuple ts kt pt] (.Tuple es k2 pt2) pos.line X.env = pure false := by rfl) (hw : swappedStores [.Tuple ts kt pt] (.Tuple es k2 pt2) X.env = pure none := by rfl)
    (h1 : (assignEach [Expr.Tuple ts kt pt] X.env).map (·.2) = [assign (.Tuple ts kt pt) X.env] := by rfl) (hn : (assignEach ts X.env).length = n := by rfl) (hst : (assignEach ts X.env).findIdx? (·.1) = none := by rfl) (hz : n ≤ sizeLine := by decide) :
    VS X W (.Assign [.Tuple ts kt pt] (.Tuple es k2 pt2) pos) (f >>= stAll is) := (ps_asg (pe_tup ha) (pg_tup (n := n) hc hg hn hst) hs hw h1).imp fun D σ H ⟨G, L, c, r, q⟩ =>
  ⟨G, L, c, r, AtS.raw (ρ := rO') q fun xs vs c1 H1 G1 L1 _ r1 f1 p q1 => by
    have hlen : vs.length = is.length := (AllO.length p).trans (AtR.len q1)
    refine ⟨by rw [hlen, hl]; exact hz, fun t ht => ⟨t, vs, rfl, .inl (.inl upd_same), by rw [hlen, hl], gNames_ok hlen ?_⟩⟩
    have gt : G1 t = none := by
      cases e : G1 t with
      | none => rfl
      | some u => rw [r1.sub _ _ e] at ht; cases ht
    have lt : t ∉ L1 := fun hm => by
      obtain ⟨_, ho, e⟩ := r1.sto.mem hm
      rw [ht] at e; cases e
    have ot : ¬ Ow σ c1 t := fun hm => by
      obtain ⟨_, _, ho, e⟩ := r1.ow hm
      rw [ht] at e; cases e
    have r2 := r1.other (o := .tup vs) gt lt ot
    have k2 : ∀ a o, H1 a = some o → upd H1 t (.tup vs) a = some o := fun a o h => by rw [upd_ne (ne_of_none h ht)]; exact h
    refine stAll_ok r2 ⟨f1.g, f1.l, fun a o z1 z2 z3 z4 => ?_⟩ ?_ q1
    · obtain ⟨y1, y2, y3, y4⟩ := f1.k a o z1 z2 z3 z4
      exact ⟨k2 _ _ y1, y2, y3, y4⟩
    · have go : ∀ {ys : List EV} {ws : List V}, AllO X.K (fun a => H a = none ∨ Ow σ c a) H1 G1 L1 (Ow σ c1) ys ws → AllO X.K (fun a => H a = none ∨ Ow σ c a) (upd H1 t (.tup vs)) G1 L1 (Ow σ c1) ys ws := by
        intro ys ws h
        induction h with
        | nil => exact .nil
        | @cons y w ys ws p1 p2 n1 ih =>
          refine .cons ?_ ih n1
          cases y with
          | own o1 =>
            obtain ⟨a, ho, z1, z2, z3⟩ := p1
            exact ⟨a, ho, z1, k2 _ _ z2, z3⟩
          | un => exact p1
          | d _ => exact p1
          | loc _ => exact p1
          | scr _ => exact p1
      exact go p⟩

/-! ### changes in place -/
theorem Rl.write {K : PySem.W.Frag} {σ : St} {H G : Hp} {L : List Addr} {c : Co} (r : Rl K σ H G L c) {i : Nat} {o o' : OB} {a : Addr} {ho' : HO} (h : c.env[i]? = some (.own o)) (hs : σ[i]? = some (some (.ref a))) (ok : OKO K G ho' o') :
    Rl K σ (upd H a ho') G L { c with env := c.env.set i (.own o') } ∧ Fr H G L (Ow σ c) (upd H a ho') G L (Ow σ { c with env := c.env.set i (.own o') }) := by
  obtain ⟨a', ho, e1, e2, e3, e4, e5⟩ := r.own h
  rw [hs] at e1
  cases e1
  have hi := (List.getElem?_eq_some_iff.mp h).1
  have own : ∀ j b, OwnAt σ (c.env.set i (.own o')) j b → OwnAt σ c.env j b := by
    rintro j b ⟨u, h1, h2⟩
    by_cases hj : i = j
    · subst hj
      exact ⟨o, h, h2⟩
    · rw [List.getElem?_set_ne hj] at h1
      exact ⟨u, h1, h2⟩
  refine ⟨⟨fun b u q => ?_, by simpa using r.len, fun j e q => ?_, fun j k b q1 q2 => r.dis j k b (own _ _ q1) (own _ _ q2), ⟨r.sto.nd, r.sto.ll, fun n b u q1 q2 => ?_⟩⟩, Le.refl _, ⟨[], by simp⟩, fun b u q1 q2 q3 q4 => ⟨?_, q2, q3, fun ⟨j, hj⟩ => q4 ⟨j, own _ _ hj⟩⟩⟩
  · rw [upd_ne fun e => by subst e; rw [e4] at q; cases q]
    exact r.sub _ _ q
  · by_cases hj : i = j
    · subst hj
      rw [List.getElem?_set_self hi] at q
      cases q
      exact ⟨_, hs, a, ho', rfl, upd_same, ok, e4, e5⟩
    · rw [List.getElem?_set_ne hj] at q
      obtain ⟨x, h1, h2⟩ := r.env j e q
      refine ⟨x, h1, ?_⟩
      cases e with
      | un => trivial
      | d p => exact h2
      | loc n => exact h2
      | scr n => exact h2
      | own o2 =>
        obtain ⟨b, hb, z, w1, w2⟩ := h2
        subst z
        exact ⟨b, hb, rfl, by rw [upd_ne fun e => hj (by subst e; exact r.dis i j b ⟨o, h, hs⟩ ⟨o2, q, h1⟩)]; exact w1, w2⟩
  · obtain ⟨z, hb, w1, w2⟩ := r.sto.at_ n b u q1 q2
    exact ⟨z, hb, by rw [upd_ne fun e => e5 (by rw [← e]; exact List.mem_of_getElem? q1)]; exact w1, w2⟩
  · rw [upd_ne fun e => q4 (by subst e; exact ⟨i, o, h, hs⟩)]
    exact q1
/-- slot i holds an own list -/
def chk (i : Nat) : M Unit := fun c => match c.env[i]? with
  | some (.own (.lst _)) => .ok () c
  | _ => .stuck
def updL (i : Nat) (u : List PyData → Option (List PyData)) : M Fl := fun c => match c.env[i]? with
  | some (.own (.lst xs)) => match u xs with
    | some ys => .ok .nx { c with env := c.env.set i (.own (.lst ys)) }
    | none => .stuck
  | _ => .stuck
def appL (x : PyData) : List PyData → Option (List PyData) := fun xs => if xs.length < sizeLine then some (xs ++ [x]) else none
def extL : PyData → List PyData → Option (List PyData)
  | .list ys => fun xs => if xs.length + ys.length ≤ sizeLine then some (xs ++ ys) else none
  | _ => fun _ => none
theorem chk_ok {i : Nat} {c c' : Co} {u : Unit} (h : chk i c = .ok u c') : c' = c ∧ ∃ xs, c.env[i]? = some (.own (.lst xs)) := by
  unfold chk at h
  split at h
  · cases h; exact ⟨rfl, _, by assumption⟩
  · cases h
theorem AtS.chk {i : Nat} {k : M Fl} {σ : St} {H G : Hp} {L : List Addr} {c : Co} {D : Ends} (h : AtS X W (DL.chk i >>= fun _ => k) σ H G L c D) : (∃ xs, c.env[i]? = some (.own (.lst xs))) ∧ AtS X W k σ H G L c D := by
  unfold AtS at h
  cases e : DL.chk i c with
  | stuck => rw [bnd_stuck e] at h; exact h.elim
  | ex x c' => unfold DL.chk at e; split at e <;> cases e
  | ok u c' =>
    rw [bnd_ok e] at h
    obtain ⟨rfl, z⟩ := chk_ok e
    exact ⟨z, h⟩
theorem vs_append {i : Nat} {x : Str} {p apos cpos : Pos} {f : M PyData} (hv : PE X (.Name x p) (tVar i)) (ha : VP X W e f)
    (hbase : attributeBase (.Name x p) "append" X.env (eval (.Name x p) X.env) = eval (.Name x p) X.env := by rfl)
    (hfew : ((backTo cpos (starEach [e] X.env)).all (fun x => !x.1) && (backToKw cpos (keywordEach [] X.env)).all (fun x => x.1.isSome)
      && decide ([e].length + ([] : List Keyword).length + (if ([] : List Keyword).isEmpty then 0 else 1) < 30)) = true := by rfl)
    (hline : (apos.endLine == cpos.line) = true := by rfl) (hs : starEach [e] X.env = (false, eval e X.env) :: starEach [] X.env := by rfl) :
    VS X W (.Expr (.Call (.Attribute (.Name x p) "append" apos) [e] [] cpos) pos) (chk i >>= fun _ => f >>= fun y => updL i (appL y)) :=
  (ps_expr (pe_bm PySem.F.plainAttrs_list PySem.F.slot_list_append PySem.F.type_list_append mt_append hv (pa_cons ha pa_nil hs) hbase hfew hline hs)).imp fun D σ H ⟨G, L, c, r, q⟩ => by
    obtain ⟨⟨xs, ex⟩, q⟩ := AtS.chk q
    obtain ⟨a, ho, e1, e2, e3, e4, e5⟩ := r.own ex
    cases e3 with
    | @lst vs _ ps =>
      refine ⟨_, e1, .inl ⟨rfl, _, .inl (.inl e2)⟩, G, L, c, r, AtS.raw (ρ := rP) q fun y v c1 H1 G1 L1 _ r1 f1 p q1 => ?_⟩
      unfold updL at q1
      split at q1
      · rename_i ys ey
        obtain ⟨b, ho1, z1, z2, z3, z4, z5⟩ := r1.own ey
        rw [e1] at z1
        cases z1
        cases z3 with
        | @lst ws _ pw =>
          unfold appL at q1
          by_cases hl : ys.length < sizeLine
          · rw [if_pos hl] at q1
            obtain ⟨r2, f2⟩ := r1.write ey e1 (.lst (pw.append (.cons p .nil)))
            exact ⟨a, ws, v, rfl, rfl, z2, by rw [RpAll.length pw]; exact hl, q1 σ _ _ _ r2 (f1.trans f2)⟩
          · rw [if_neg hl] at q1
            exact (show False from q1).elim
      · exact (show False from q1).elim
theorem vs_extend {i : Nat} {x : Str} {p apos cpos : Pos} {f : M PyData} (hv : PE X (.Name x p) (tVar i)) (ha : VP X W e f)
    (hbase : attributeBase (.Name x p) "extend" X.env (eval (.Name x p) X.env) = eval (.Name x p) X.env := by rfl)
    (hfew : ((backTo cpos (starEach [e] X.env)).all (fun x => !x.1) && (backToKw cpos (keywordEach [] X.env)).all (fun x => x.1.isSome)
      && decide ([e].length + ([] : List Keyword).length + (if ([] : List Keyword).isEmpty then 0 else 1) < 30)) = true := by rfl)
    (hline : (apos.endLine == cpos.line) = true := by rfl) (hs : starEach [e] X.env = (false, eval e X.env) :: starEach [] X.env := by rfl) :
    VS X W (.Expr (.Call (.Attribute (.Name x p) "extend" apos) [e] [] cpos) pos) (chk i >>= fun _ => f >>= fun y => updL i (extL y)) :=
  (ps_expr (pe_bm PySem.F.plainAttrs_list PySem.F.slot_list_extend PySem.F.type_list_extend mt_extend hv (pa_cons ha pa_nil hs) hbase hfew hline hs)).imp fun D σ H ⟨G, L, c, r, q⟩ => by
    obtain ⟨⟨xs, ex⟩, q⟩ := AtS.chk q
    obtain ⟨a, ho, e1, e2, e3, e4, e5⟩ := r.own ex
    cases e3 with
    | @lst vs _ ps =>
      refine ⟨_, e1, .inl ⟨rfl, _, .inl (.inl e2)⟩, G, L, c, r, AtS.raw (ρ := rP) q fun y v c1 H1 G1 L1 _ r1 f1 p q1 => ?_⟩
      unfold updL at q1
      split at q1
      · rename_i ys ey
        obtain ⟨b, ho1, z1, z2, z3, z4, z5⟩ := r1.own ey
        rw [e1] at z1
        cases z1
        cases z3 with
        | @lst ws _ pw =>
          cases p with
          | @lst b us zs hb pu =>
            have q1 : AtR X W (match (if ys.length + zs.length ≤ sizeLine then some (ys ++ zs) else none) with | some ys => R.ok Fl.nx { c1 with env := c1.env.set i (.own (.lst ys)) } | none => .stuck) σ H G L c D := q1
            by_cases hl : ys.length + zs.length ≤ sizeLine
            · rw [if_pos hl] at q1
              obtain ⟨r2, f2⟩ := r1.write ey e1 (.lst (pw.append pu))
              exact ⟨a, b, ws, us, rfl, rfl, z2, r1.sub _ _ hb, by rw [RpAll.length pw, RpAll.length pu]; exact hl, q1 σ _ _ _ r2 (f1.trans f2)⟩
            · rw [if_neg hl] at q1
              exact (show False from q1).elim
          | _ => exact (show False from q1).elim
      · exact (show False from q1).elim
end
end DL
end L2

/-! DL, part seven: slots read in place, the store's objects, a def's promise. -/
namespace L2
namespace DL
open PySem PySem.Spec PyProof.Rows

/-- what a slot holds, as plain data, nothing told -/
def look (i : Nat) (c : Co) : Option PyData := match c.env[i]? with
  | some (.d x) => some x
  | some (.own o) => some (frozen o)
  | some (.loc n) => (c.sto[n]?).map frozen
  | _ => none
def ixD : PyData → PyData → Option PyData
  | .list xs, .int k => atI xs k
  | .tuple xs, .int k => atI xs k
  | .str z, .int k => if z.length ≤ sizeLine then (atI z.cps.toList k).map fun c => .str ⟨#[c]⟩ else none
  | _, _ => none
def lenD : PyData → Option PyData
  | .list xs => some (.int xs.length)
  | .tuple xs => some (.int xs.length)
  | .str z => if z.length ≤ sizeLine then some (.int z.length) else none
  | _ => none
def chkS (i : Nat) : M Unit := fun c => match look i c with
  | some _ => .ok () c
  | none => .stuck
def lookM (i : Nat) : M PyData := fun c => match look i c with
  | some x => .ok x c
  | none => .stuck
/-- at slot i stands x -/
inductive Lk (K : PySem.W.Frag) (H G : Hp) : V → PyData → Prop
  | d {v : V} {x : PyData} : Rp K G v x → Lk K H G v x
  | l {a : Addr} {vs : List V} {xs : List PyData} : H a = some (.lst vs) → RpAll K G vs xs → Lk K H G (.ref a) (.list xs)
theorem look_ok {K : PySem.W.Frag} {σ : St} {H G : Hp} {L : List Addr} {c : Co} (r : Rl K σ H G L c) {i : Nat} {x : PyData} (h : look i c = some x) : ∃ v, σ[i]? = some (some v) ∧ Lk K H G v x := by
  unfold look at h
  split at h
  · rename_i y e
    cases h
    obtain ⟨z, h1, v, rfl, h2⟩ := r.env i _ e
    exact ⟨v, h1, .d h2⟩
  · rename_i o e
    cases h
    obtain ⟨a, ho, h1, h2, h3, _⟩ := r.own e
    cases h3 with
    | lst p => exact ⟨_, h1, .l h2 p⟩
  · rename_i n e
    obtain ⟨z, h1, a, rfl, h2⟩ := r.env i _ e
    cases eo : c.sto[n]? with
    | none => rw [eo] at h; cases h
    | some o =>
      rw [eo] at h
      cases h
      obtain ⟨_, ho, w1, w2⟩ := r.sto.at_ n a o h2 eo
      cases w2 with
      | lst p => exact ⟨_, h1, .l w1 p⟩
  · cases h
theorem atI_map {K : PySem.W.Frag} {G : Hp} {vs : List V} {xs : List PyData} (p : RpAll K G vs xs) {k : Int} {z : PyData} (h : atI xs k = some z) : ∃ v, atI vs k = some v ∧ Rp K G v z := by
  unfold atI at h ⊢
  rw [RpAll.length p]
  cases e : ixN xs.length k with
  | none => rw [e] at h; cases h
  | some j =>
    rw [e] at h
    exact RpAll.get p h
section
variable {X : Cx} {W : WX} {e a b : Expr} {es : List Expr} {pos : Pos}
theorem chkS_ok {i : Nat} {c c' : Co} {u : Unit} (h : chkS i c = .ok u c') : c' = c ∧ ∃ x, look i c = some x := by
  unfold chkS at h
  split at h
  · cases h; exact ⟨rfl, _, by assumption⟩
  · cases h
theorem At.chkS {α β : Type} {ρ : Rho α β} {i : Nat} {k : M α} {σ : St} {H G : Hp} {L : List Addr} {c : Co} {Q : β → Hp → Prop} (h : At X W ρ (DL.chkS i >>= fun _ => k) σ H G L c Q) : (∃ x, look i c = some x) ∧ At X W ρ k σ H G L c Q := by
  unfold At at h
  cases e : DL.chkS i c with
  | stuck => rw [bnd_stuck e] at h; exact h.elim
  | ex x c' => unfold DL.chkS at e; split at e <;> cases e
  | ok u c' =>
    rw [bnd_ok e] at h
    obtain ⟨rfl, z⟩ := chkS_ok e
    exact ⟨z, h⟩
theorem AtS.chkS {i : Nat} {k : M Fl} {σ : St} {H G : Hp} {L : List Addr} {c : Co} {D : Ends} (h : AtS X W (DL.chkS i >>= fun _ => k) σ H G L c D) : (∃ x, look i c = some x) ∧ AtS X W k σ H G L c D := by
  unfold AtS at h
  cases e : DL.chkS i c with
  | stuck => rw [bnd_stuck e] at h; exact h.elim
  | ex x c' => unfold DL.chkS at e; split at e <;> cases e
  | ok u c' =>
    rw [bnd_ok e] at h
    obtain ⟨rfl, z⟩ := chkS_ok e
    exact ⟨z, h⟩
theorem At.lookM {β : Type} {ρ : Rho β V} {i : Nat} {k : PyData → M β} {σ : St} {H G : Hp} {L : List Addr} {c : Co} {Q : VK} (h : At X W ρ (DL.lookM i >>= k) σ H G L c Q) : ∃ x, look i c = some x ∧ At X W ρ (k x) σ H G L c Q := by
  unfold At at h
  cases e : look i c with
  | none => rw [bnd_stuck (show DL.lookM i c = .stuck by unfold DL.lookM; rw [e])] at h; exact h.elim
  | some x =>
    rw [bnd_ok (show DL.lookM i c = .ok x c by unfold DL.lookM; rw [e])] at h
    exact ⟨x, rfl, h⟩
/-- x[e], x a slot: nothing is told of x -/
def ixS (i : Nat) (f : M PyData) : M PyData := chkS i >>= fun _ => f >>= fun y => lookM i >>= fun x => ofO (ixD x y)
theorem ix_of {H G : Hp} (s : Le G H) {v w : V} {x y z : PyData} {Q : VK} (lk : Lk X.K H G v x) (p : Rp X.K G w y) (h : ixD x y = some z) (q : ∀ u, Rp X.K G u z → Q u H) : rIx X.K v w H Q := by
  unfold ixD at h
  split at h
  · rename_i xs k
    cases p
    cases lk with
    | d p =>
      cases p with
      | lst h1 ps =>
        obtain ⟨u, e1, e2⟩ := atI_map ps h
        exact .inl ⟨_, _, _, u, rfl, rfl, .inl (.inl (s _ _ h1)), e1, q u e2⟩
    | l h1 ps =>
      obtain ⟨u, e1, e2⟩ := atI_map ps h
      exact .inl ⟨_, _, _, u, rfl, rfl, .inl (.inl h1), e1, q u e2⟩
  · rename_i xs k
    cases p
    cases lk with
    | d p =>
      cases p with
      | tup h1 ps =>
        obtain ⟨u, e1, e2⟩ := atI_map ps h
        exact .inr (.inl ⟨_, _, _, u, rfl, rfl, s.sqt h1, e1, q u e2⟩)
  · rename_i z k
    cases p
    cases lk with
    | d p =>
      cases p
      by_cases hz : z.length ≤ sizeLine
      · rw [if_pos hz] at h
        cases ec : atI z.cps.toList k with
        | none => rw [ec] at h; cases h
        | some c =>
          rw [ec] at h
          cases h
          exact .inr (.inr ⟨z, k, c, rfl, rfl, hz, ec, q _ (.str _)⟩)
      · rw [if_neg hz] at h; cases h
  · cases h
theorem vp_ixS {i : Nat} {x : Str} {p : Pos} {f : M PyData} (hv : PE X (.Name x p) (tVar i)) (hb : VP X W b f) (hs : PlainIx b) : VP X W (.Subscript (.Name x p) b pos) (ixS i f) := (pe_ix ix_seq hv hb hs).imp fun σ H Q ⟨G, L, c, r, q⟩ => by
  obtain ⟨⟨x0, h0⟩, q⟩ := At.chkS q
  obtain ⟨v, hv, lk⟩ := look_ok r h0
  refine ⟨v, hv, G, L, c, r, At.bind (ρ := rP) wdP r q fun y w c1 H1 G1 L1 _ r1 _ p q1 => ?_⟩
  obtain ⟨x1, h1, q2⟩ := At.lookM q1
  obtain ⟨z, ez, q3⟩ := At.opt q2
  obtain ⟨v1, hv1, lk1⟩ := look_ok r1 h1
  rw [hv] at hv1
  cases hv1
  exact ix_of r1.sub lk1 p ez fun u pu => At.fin (ρ := rP) r1 q3 pu
theorem ix_seqO : IxR X (rO X.K ixD) := by
  intro value slice pins s σ H x y v u Q I rx ry h hs
  obtain ⟨G, dx, dy, z, l, px, py, e, q⟩ := h
  exact ix_seq value slice pins s σ H x y v u Q I rx ry (ix_of l (.d px) py e fun u pu => q u H G (Gw.refl l) pu) hs

/-! ### len -/
theorem len_plain : CallR X (.builtin "len") (fun xs H Q => ∃ G v x z, xs = [v] ∧ Le G H ∧ Lk X.K H G v x ∧ lenD x = some z ∧ ∀ u, Rp X.K G u z → Q u H) := by
  intro pins s σ H xs us Q I r h
  obtain ⟨G, v, x, z, rfl, l, lk, e, q⟩ := h
  unfold lenD at e
  split at e
  · rename_i ys
    cases e
    cases lk with
    | d p =>
      cases p with
      | lst h1 ps => exact call_len_seq pins s σ H _ us Q I r ⟨_, _, rfl, .inl (.inl (.inl (l _ _ h1))), by rw [RpAll.length ps]; exact q _ (.int _)⟩
    | l h1 ps => exact call_len_seq pins s σ H _ us Q I r ⟨_, _, rfl, .inl (.inl (.inl h1)), by rw [RpAll.length ps]; exact q _ (.int _)⟩
  · rename_i ys
    cases e
    cases lk with
    | d p =>
      cases p with
      | tup h1 ps => exact call_len_seq pins s σ H _ us Q I r ⟨_, _, rfl, .inr (l.sqt h1), by rw [RpAll.length ps]; exact q _ (.int _)⟩
  · rename_i y
    by_cases hz : y.length ≤ sizeLine
    · rw [if_pos hz] at e
      cases e
      cases lk with
      | d p =>
        cases p
        exact call_len_str pins s σ H _ us Q I r ⟨y, rfl, hz, q _ (.int _)⟩
    · rw [if_neg hz] at e; cases e
  · cases e
theorem len_O : CallR X (.builtin "len") (rC X.K fun xs => match xs with | [x] => lenD x | _ => none) := by
  intro pins s σ H xs us Q I r h
  obtain ⟨G, ds, z, l, p, e, q⟩ := h
  dsimp only at e
  split at e
  · cases p with
    | cons p ps =>
      cases ps
      exact len_plain pins s σ H _ us Q I r ⟨G, _, _, z, rfl, l, .d p, e, fun u pu => q u H G (Gw.refl l) pu⟩
  · cases e
theorem vp_len {f : M PyData} {p : Pos} (hm : X.mg "len" = none) (hg : Gl X "len") (ha : VP X W e f) (he : starEach [e] X.env = (false, eval e X.env) :: starEach [] X.env := by rfl) (hpl : (backTo pos (starEach [] X.env)).any (·.1) = false := by rfl) : VP X W (.Call (.Name "len" p) [e] [] pos) (f >>= fun x => ofO (lenD x)) :=
  (pe_callB len_plain hg hm PySem.boot_len (pa_cons ha pa_nil he) (by decide) (by decide) he hpl).imp fun σ H Q ⟨G, L, c, r, q⟩ => ⟨G, L, c, r, At.bind wdP r q fun x v c1 H1 G1 L1 _ r1 _ p q1 => by
    obtain ⟨z, ez, q2⟩ := At.opt q1
    exact ⟨G1, v, x, z, rfl, r1.sub, .d p, ez, fun u pu => At.fin (ρ := rP) r1 q2 pu⟩⟩
/-- len(x), x a slot: nothing is told of x -/
theorem vp_lenS {i : Nat} {x : Str} {p p2 : Pos} (hm : X.mg "len" = none) (hg : Gl X "len") (hv : PE X (.Name x p2) (tVar i)) (he : starEach [.Name x p2] X.env = (false, eval (.Name x p2) X.env) :: starEach [] X.env := by rfl) (hpl : (backTo pos (starEach [] X.env)).any (·.1) = false := by rfl) : VP X W (.Call (.Name "len" p) [.Name x p2] [] pos) (lookM i >>= fun x => ofO (lenD x)) :=
  (pe_callB len_plain hg hm PySem.boot_len (pa_cons hv pa_nil he) (by decide) (by decide) he hpl).imp fun σ H Q ⟨G, L, c, r, q⟩ => by
    obtain ⟨x1, h1, q2⟩ := At.lookM q
    obtain ⟨z, ez, q3⟩ := At.opt q2
    obtain ⟨v1, hv1, lk1⟩ := look_ok r h1
    exact ⟨v1, hv1, G, v1, x1, z, rfl, r.sub, lk1, ez, fun u pu => At.fin (ρ := rP) r q3 pu⟩

/-! ### x[i] = v -/
theorem Rl.writeLoc {K : PySem.W.Frag} {σ : St} {H G : Hp} {L : List Addr} {c : Co} (r : Rl K σ H G L c) {n : Nat} {o o' : OB} {a : Addr} {ho' : HO} (h : c.sto[n]? = some o) (hl : L[n]? = some a) (ok : OKO K G ho' o') :
    Rl K σ (upd H a ho') G L { c with sto := c.sto.set n o' } ∧ Fr H G L (Ow σ c) (upd H a ho') G L (Ow σ { c with sto := c.sto.set n o' }) := by
  obtain ⟨g0, ho, e2, e3⟩ := r.sto.at_ n a o hl h
  have hn := (List.getElem?_eq_some_iff.mp h).1
  have hm : a ∈ L := List.mem_of_getElem? hl
  refine ⟨⟨fun b u q => ?_, r.len, fun j e q => ?_, r.dis, ⟨r.sto.nd, by simpa using r.sto.ll, fun k b u q1 q2 => ?_⟩⟩, Le.refl _, ⟨[], by simp⟩, fun b u q1 q2 q3 q4 => ⟨?_, q2, q3, q4⟩⟩
  · rw [upd_ne fun e => by subst e; rw [g0] at q; cases q]
    exact r.sub _ _ q
  · obtain ⟨x, h1, h2⟩ := r.env j e q
    refine ⟨x, h1, ?_⟩
    cases e with
    | un => trivial
    | d p => exact h2
    | loc n => exact h2
    | scr n => exact h2
    | own o2 =>
      obtain ⟨b, hb, z, w1, w2, w3, w4⟩ := h2
      exact ⟨b, hb, z, by rw [upd_ne fun e => w4 (by rw [e]; exact hm)]; exact w1, w2, w3, w4⟩
  · by_cases hk : n = k
    · subst hk
      rw [List.getElem?_set_self hn] at q2
      cases q2
      rw [hl] at q1
      cases q1
      exact ⟨g0, ho', upd_same, ok⟩
    · rw [List.getElem?_set_ne hk] at q2
      obtain ⟨z, hb, w1, w2⟩ := r.sto.at_ k b u q1 q2
      refine ⟨z, hb, ?_, w2⟩
      rw [upd_ne fun e => hk ?_]
      · exact w1
      · subst e
        exact nodup_ix' r.sto.nd hl q1
  · rw [upd_ne fun e => q3 (by rw [e]; exact hm)]
    exact q1
where
  nodup_ix' {N : List Addr} (hN : N.Nodup) {i j : Nat} {x : Addr} (a : N[i]? = some x) (b : N[j]? = some x) : i = j := by
    obtain ⟨h1, e1⟩ := List.getElem?_eq_some_iff.mp a
    obtain ⟨h2, e2⟩ := List.getElem?_eq_some_iff.mp b
    exact (List.getElem_inj hN).mp (e1.trans e2.symm)
/-- slot i's list, own or of the store, changed at a place -/
def putAt (i : Nat) (k v : PyData) : M Fl := fun c => match k, c.env[i]? with
  | .int k, some (.own (.lst xs)) => match ixN xs.length k with
    | some j => .ok .nx { c with env := c.env.set i (.own (.lst (xs.set j v))) }
    | none => .stuck
  | .int k, some (.loc n) => match c.sto[n]? with
    | some (.lst xs) => match ixN xs.length k with
      | some j => .ok .nx { c with sto := c.sto.set n (.lst (xs.set j v)) }
      | none => .stuck
    | none => .stuck
  | _, _ => .stuck
theorem vs_put {i : Nat} {x : Str} {p tp : Pos} {f fi : M PyData} (hv : PE X (.Name x p) (tVar i)) (hb : VP X W b fi) (he : VP X W e f)
    (ha : ∀ v, assign (.Subscript (.Name x p) b tp) X.env v = (do
      let ov ← holding [v] (eval (.Name x p) X.env)
      let iv ← holding [v, ov] (eval b X.env)
      standAt tp
      holding [v, ov, iv] (setItem ov iv v)
      release [v, ov, iv] []) := by intro _; rfl)
    (hs : swapsWithSole [.Subscript (.Name x p) b tp] e pos.line X.env = pure false := by rfl) (hw : swappedStores [.Subscript (.Name x p) b tp] e X.env = pure none := by rfl)
    (h1 : (assignEach [Expr.Subscript (.Name x p) b tp] X.env).map (·.2) = [assign (.Subscript (.Name x p) b tp) X.env] := by rfl) :
    VS X W (.Assign [.Subscript (.Name x p) b tp] e pos) (f >>= fun v => chkS i >>= fun _ => fi >>= fun k => putAt i k v) := (ps_asg he (pg_sub hv hb set_list ha) hs hw h1).imp fun D σ H ⟨G, L, c, r, q⟩ => by
  refine ⟨G, L, c, r, AtS.bind (ρ := rP) r q fun y v c1 H1 G1 L1 _ r1 _ p1 q1 => ?_⟩
  obtain ⟨⟨x0, h0⟩, q1⟩ := AtS.chkS q1
  obtain ⟨o, ho, lk⟩ := look_ok r1 h0
  refine ⟨o, ho, G1, L1, c1, r1, AtS.raw (ρ := rP) q1 fun k w c2 H2 G2 L2 _ r2 f2 p2 q2 => ?_⟩
  unfold putAt at q2
  split at q2
  · rename_i k xs _ _
    have ey : c2.env[i]? = some (.own (.lst xs)) := by assumption
    split at q2
    · rename_i j ej
      obtain ⟨a, hob, z1, z2, z3, z4, z5⟩ := r2.own ey
      rw [ho] at z1
      cases z1
      cases z3 with
      | @lst ws _ pw =>
        cases p2
        obtain ⟨r3, f3⟩ := r2.write ey ho (.lst (RpAll.set (Rp.mono f2.g p1) j pw))
        exact ⟨a, ws, k, j, rfl, rfl, z2, by rw [RpAll.length pw]; exact ej, q2 σ _ _ _ r3 (f2.trans f3)⟩
    · exact (show False from q2).elim
  · rename_i k n _ _
    have ey : c2.env[i]? = some (.loc n) := by assumption
    split at q2
    · rename_i xs es
      split at q2
      · rename_i j ej
        obtain ⟨z, h1, a, rfl, h2⟩ := r2.env i _ ey
        rw [ho] at h1
        cases h1
        obtain ⟨_, hob, w1, w2⟩ := r2.sto.at_ n a _ h2 es
        cases w2 with
        | @lst ws _ pw =>
          cases p2
          obtain ⟨r3, f3⟩ := r2.writeLoc es h2 (.lst (RpAll.set (Rp.mono f2.g p1) j pw))
          exact ⟨a, ws, k, j, rfl, rfl, w1, by rw [RpAll.length pw]; exact ej, q2 σ _ _ _ r3 (f2.trans f3)⟩
      · exact (show False from q2).elim
    · exact (show False from q2).elim
  · exact (show False from q2).elim

/-! ### an own thing goes to the store -/
def stLoc (i : Nat) (x : EV) : M Fl := fun c => match x with
  | .own o => if i < c.env.length then .ok .nx ⟨c.env.set i (.loc c.sto.length), c.sto ++ [o]⟩ else .stuck
  | _ => .stuck
theorem vs_setLoc {i : Nat} {x : Str} {pos' : Pos} {f : M EV} (hN : X.N.Nodup) (hi : X.N[i]? = some x) (hx : Loc X.env.scope x) (he : VV X W e f) (hs : swapsWith e (some (.Name x pos')) pos.line X.env = pure false := by rfl) (hf : X.fn x = true ∨ X.env.scope.names.lookup x = some .local := by first | exact .inl rfl | exact .inr rfl | assumption) :
    VS X W (.Assign [.Name x pos'] e pos) (f >>= stLoc i) := (ps_set hN hi hx he hs hf).imp fun D σ H ⟨G, L, c, r, q⟩ => ⟨G, L, c, r, AtS.raw (ρ := rV) q fun y v c1 H1 G1 L1 _ r1 f1 p q1 => by
  unfold stLoc at q1
  split at q1
  · rename_i o
    by_cases hi : i < c1.env.length
    · rw [if_pos hi] at q1
      obtain ⟨a, ho, rfl, z2, z3, z4, z5, z6, z7⟩ := p
      have hσ : i < σ.length := by rw [r1.len]; exact hi
      have own : ∀ j b, OwnAt (σ.set i (some (.ref a))) (c1.env.set i (.loc c1.sto.length)) j b → OwnAt σ c1.env j b := by
        rintro j b ⟨u, h1, h2⟩
        by_cases hj : i = j
        · subst hj
          rw [List.getElem?_set_self hi] at h1; cases h1
        · rw [List.getElem?_set_ne hj] at h1 h2
          exact ⟨u, h1, h2⟩
      have app : ∀ {n : Nat} {b : Addr}, (L1 ++ [a])[n]? = some b → L1[n]? = some b ∨ (n = L1.length ∧ b = a) := fun {n b} h => by
        by_cases hn : n < L1.length
        · rw [List.getElem?_append_left hn] at h
          exact .inl h
        · rw [List.getElem?_append_right (by omega)] at h
          cases hk : n - L1.length with
          | zero => rw [hk] at h; exact .inr ⟨by omega, (Option.some.inj h).symm⟩
          | succ m => rw [hk] at h; simp at h
      refine q1 (σ.set i (some (.ref a))) H1 G1 (L1 ++ [a]) ⟨r1.sub, by simpa using r1.len, fun j e q => ?_, fun j k b h1 h2 => r1.dis j k b (own _ _ h1) (own _ _ h2), ⟨?_, by simp [r1.sto.ll], fun n b u h1 h2 => ?_⟩⟩ ⟨f1.g, ?_, fun b u h1 h2 h3 h4 => ?_⟩
      · by_cases hj : i = j
        · subst hj
          have q : (c1.env.set i (.loc c1.sto.length))[i]? = some e := q
          rw [List.getElem?_set_self hi] at q
          cases q
          rw [List.getElem?_set_self hσ]
          exact ⟨_, rfl, a, rfl, by rw [← r1.sto.ll, List.getElem?_append_right (Nat.le_refl _), Nat.sub_self]; rfl⟩
        · have q : (c1.env.set i (.loc c1.sto.length))[j]? = some e := q
          rw [List.getElem?_set_ne hj] at q ⊢
          obtain ⟨y, h1, h2⟩ := r1.env j e q
          refine ⟨y, h1, ?_⟩
          cases e with
          | un => trivial
          | d p => exact h2
          | scr n => exact h2
          | loc n =>
            obtain ⟨b, hb, w⟩ := h2
            exact ⟨b, hb, by rw [List.getElem?_append_left (List.getElem?_eq_some_iff.mp w).1]; exact w⟩
          | own o2 =>
            obtain ⟨b, hb, z, w1, w2, w3, w4⟩ := h2
            subst z
            refine ⟨b, hb, rfl, w1, w2, w3, fun hm => ?_⟩
            rcases List.mem_append.mp hm with hm | hm
            · exact w4 hm
            · have e : b = a := by simpa using hm
              subst e
              exact z6 ⟨j, o2, q, h1⟩
      · rw [List.nodup_append]
        refine ⟨r1.sto.nd, by simp, fun b hb d hd e => ?_⟩
        have e2 : d = a := by simpa using hd
        subst e e2
        exact z5 hb
      · rcases app h1 with h1 | ⟨rfl, rfl⟩
        · have hn : n < c1.sto.length := by rw [← r1.sto.ll]; exact (List.getElem?_eq_some_iff.mp h1).1
          rw [List.getElem?_append_left hn] at h2
          exact r1.sto.at_ n b u h1 h2
        · rw [r1.sto.ll, List.getElem?_append_right (Nat.le_refl _), Nat.sub_self] at h2
          cases h2
          exact ⟨z4, ho, z2, z3⟩
      · obtain ⟨N, eN⟩ := f1.l
        exact ⟨N ++ [a], by rw [eN, List.append_assoc]⟩
      · obtain ⟨y1, y2, y3, y4⟩ := f1.k b u h1 h2 h3 h4
        refine ⟨y1, y2, fun hm => ?_, fun ⟨j, hj⟩ => y4 ⟨j, own _ _ hj⟩⟩
        rcases List.mem_append.mp hm with hm | hm
        · exact y3 hm
        · have e : b = a := by simpa using hm
          subst e
          rcases z7 with z | z
          · rw [z] at h1; cases h1
          · exact h4 z
    · rw [if_neg hi] at q1
      exact (show False from q1).elim
  · exact (show False from q1).elim⟩
end

/-! ### a def -/
def fnD (n : Nat) (body : M Fl) : FD := fun args st => match body ⟨args ++ List.replicate (n - args.length) .un, st⟩ with
  | .stuck => .stuck
  | .ex e c => .ex e c.sto
  | .ok .nx c => .ok (.d .none) c.sto
  | .ok (.rt v) c => .ok v c.sto
  | .ok .bk _ => .stuck
  | .ok .ct _ => .stuck
theorem AllV.len {K : PySem.W.Frag} {G : Hp} {L : List Addr} : ∀ {es : List EV} {vs : List V}, AllV K G L es vs → vs.length = es.length
  | _, _, .nil => rfl
  | _, _, .d _ r => by rw [List.length_cons, List.length_cons, AllV.len r]
  | _, _, .loc _ r => by rw [List.length_cons, List.length_cons, AllV.len r]
  | _, _, .scr _ r => by rw [List.length_cons, List.length_cons, AllV.len r]
theorem AllV.at_ {K : PySem.W.Frag} {H G : Hp} {L : List Addr} : ∀ {es : List EV} {vs : List V} {i : Nat} {e : EV}, AllV K G L es vs → es[i]? = some e → ∃ v, vs[i]? = some v ∧ SlOk K H G L (some v) e ∧ ∀ o, e ≠ .own o
  | _, _, _, _, .nil, h => by simp at h
  | _, _, 0, _, .d p _, h => by simp at h; subst h; exact ⟨_, rfl, ⟨_, rfl, p⟩, fun _ => by nofun⟩
  | _, _, 0, _, .loc p _, h => by simp at h; subst h; exact ⟨_, rfl, ⟨_, rfl, p⟩, fun _ => by nofun⟩
  | _, _, 0, _, .scr p _, h => by simp at h; subst h; exact ⟨_, rfl, ⟨_, rfl, p⟩, fun _ => by nofun⟩
  | _, _, i + 1, e, .d _ r, h => AllV.at_ (i := i) (e := e) r (by simpa using h)
  | _, _, i + 1, e, .loc _ r, h => AllV.at_ (i := i) (e := e) r (by simpa using h)
  | _, _, i + 1, e, .scr _ r, h => AllV.at_ (i := i) (e := e) r (by simpa using h)
theorem rl_start {K : PySem.W.Frag} {H G : Hp} {L : List Addr} {st : List OB} {args : List EV} {vs : List V} {N : List Str} (s : Le G H) (so : StoOk K H G L st) (a : AllV K G L args vs) :
    Rl K (start N vs) H G L ⟨args ++ List.replicate (N.length - args.length) .un, st⟩ ∧ ∀ b, ¬ Ow (start N vs) ⟨args ++ List.replicate (N.length - args.length) .un, st⟩ b := by
  have hl := AllV.len a
  have at_ : ∀ (i : Nat) e, (args ++ List.replicate (N.length - args.length) EV.un)[i]? = some e → ∃ x, (start N vs)[i]? = some x ∧ SlOk K H G L x e ∧ ∀ o, e ≠ .own o := by
    intro i e h
    unfold start
    by_cases hi : i < args.length
    · rw [List.getElem?_append_left hi] at h
      rw [List.getElem?_append_left (by simpa [hl] using hi)]
      obtain ⟨v, h1, h2, h3⟩ := AllV.at_ (H := H) a h
      exact ⟨some v, by simp [h1], h2, h3⟩
    · rw [List.getElem?_append_right (by omega)] at h
      rw [List.getElem?_append_right (by simp [hl]; omega)]
      rw [List.getElem?_replicate] at h
      split at h
      · rename_i hk
        cases h
        refine ⟨none, ?_, trivial, fun _ => by nofun⟩
        rw [List.getElem?_replicate, if_pos (by simp [hl]; omega)]
      · cases h
  refine ⟨⟨s, ?_, fun i e h => let ⟨x, h1, h2, _⟩ := at_ i e h; ⟨x, h1, h2⟩, fun i j b ⟨o, h1, _⟩ _ => ?_, so⟩, fun b ⟨i, o, h1, _⟩ => ?_⟩
  · unfold start
    simp [hl]
  · obtain ⟨_, _, _, h3⟩ := at_ i _ h1
    exact absurd rfl (h3 o)
  · obtain ⟨_, _, _, h3⟩ := at_ i _ h1
    exact absurd rfl (h3 o)
theorem ok_fn {P : Program} {w : World} {K : PySem.W.Frag} {mg : Str → Option Value} {base : Heap} {x qual : Str} {st : Stmt} {f : Addr} {fd : FuncData} {N ps : List Str} {k : Nat} {body : M Fl} (F : Fun K x qual st f fd) (S : FnScope N ps (defScope st))
    (hb : ∀ (cdv : Value) (A : Around) (outer : List Env) (s : Shared) (H : Hp) (E : XK), Room k (A.deeper (envOfC qual (defScope st) s.heap.objs.size f cdv)) →
      VSs (cxOf (L2.CX P w) P w K mg base N qual (defScope st) f cdv A outer s H E) (fun cls d _ H => E cls d H) (defBody st) body) :
    FnOk P w K mg base (L2.CX P w) (k + 1) f fd ps (spF K mg ps.length (fnD N.length body)) := by
  refine F.okX S (fun vs H Q E h => h.1) fun cdv A outer s H vs Q E hr h => ?_
  refine ⟨_, hb cdv A outer s H E hr, ?_⟩
  obtain ⟨_, G, L, args, sto, sub, so, av, h⟩ := h
  obtain ⟨r, no⟩ := rl_start (N := N) sub so av
  refine ⟨G, L, _, r, ?_⟩
  unfold AtS
  unfold fnD at h
  have fr : ∀ {σ' : St} {H' G' : Hp} {L' : List Addr} {c' : Co}, Fr H G L (Ow (start N vs) ⟨args ++ List.replicate (N.length - args.length) .un, sto⟩) H' G' L' (Ow σ' c') → Fr H G L O0 H' G' L' O0 := fun {σ' H' G' L' c'} f =>
    ⟨f.g, f.l, fun a o h1 h2 h3 _ => let ⟨y1, y2, y3, _⟩ := f.k a o h1 h2 h3 (no a); ⟨y1, y2, y3, id⟩⟩
  cases e : body ⟨args ++ List.replicate (N.length - args.length) .un, sto⟩ with
  | stuck => rw [e] at h; exact h.elim
  | ex z c => rw [e] at h; exact fun cls d σ' H' G' L' r' f' ek => h cls d H' G' L' r'.sub r'.sto (fr f') ek
  | ok fl c =>
    rw [e] at h
    cases fl with
    | bk => exact h.elim
    | ct => exact h.elim
    | nx => exact fun σ' H' G' L' r' f' => h .non H' G' L' r'.sub r'.sto (fr f') .non
    | rt v =>
      refine fun σ' H' G' L' r' f' u ok => h u H' G' L' r'.sub r'.sto (fr f') ?_
      cases v with
      | un => exact ok
      | d p => exact ok
      | loc n => exact ok
      | scr n => exact ok
      | own o =>
        obtain ⟨a, ho, z1, z2, z3, z4, z5, z6, z7⟩ := ok
        exact ⟨a, ho, z1, z2, z3, z4, z5, id, z7.elim id fun z => (no a z).elim⟩
end DL
end L2

/-! DL, part eight: what the operations do to plain data. -/
namespace L2
namespace DL
open PySem PySem.Spec PyProof.Rows

section
variable {X : Cx} {W : WX} {pins : List (Addr × Obj)} {σ : St} {H G : Hp} {s : Shared}
theorem rp_reads (I : Inv X pins σ H s) (l : Le G H) {d : PyData} {v : V} {u : Value} (p : Rp X.K G v d) (r : RelV v u) : ∃ as, Reads s.heap u d as := Dp.reads I d v u ((p.mono l).dp) r
theorem rp_readsAll (I : Inv X pins σ H s) (l : Le G H) {ds : List PyData} {vs : List V} {us : List Value} (p : RpAll X.K G vs ds) (r : Vals vs us) : ∃ as, ReadsAll s.heap us ds as := Dp.readsAll I ds vs us ((p.mono l).dp) r

/-! ### comparisons -/
def okEq (x y : PyData) : Bool := x.plain && y.plain && decide (min x.depth y.depth ≤ 64)
def eqD (x y : PyData) : Option PyData := if okEq x y then some (.bool (PyData.eqv x y)) else none
def neD (x y : PyData) : Option PyData := if okEq x y then some (.bool (!PyData.eqv x y)) else none
def isNon : PyData → Bool
  | .none => true
  | _ => false
def okLt (x y : PyData) : Bool := PySem.W.alike x y && !isNon x && decide (min x.depth y.depth ≤ 64)
def ltD (x y : PyData) : Option PyData := if okLt x y then some (.bool (PySem.W.dataLt x y)) else none
def gtD (x y : PyData) : Option PyData := if okLt x y then some (.bool (PySem.W.dataLt y x)) else none
def leD (x y : PyData) : Option PyData := if okLt x y then some (.bool (!PySem.W.dataLt y x)) else none
def geD (x y : PyData) : Option PyData := if okLt x y then some (.bool (!PySem.W.dataLt x y)) else none
theorem okEq_iff {x y : PyData} (h : okEq x y = true) : x.plain = true ∧ y.plain = true ∧ min x.depth y.depth ≤ 64 := by
  unfold okEq at h
  simp only [Bool.and_eq_true, decide_eq_true_eq] at h
  exact ⟨h.1.1, h.1.2, h.2⟩
theorem okLt_iff {x y : PyData} (h : okLt x y = true) : PySem.W.alike x y = true ∧ x ≠ .none ∧ min x.depth y.depth ≤ 64 := by
  unfold okLt at h
  simp only [Bool.and_eq_true, decide_eq_true_eq, Bool.not_eq_true'] at h
  exact ⟨h.1.1, fun e => by rw [e] at h; exact absurd h.1.2 (by decide), h.2⟩
theorem op_eqP (hu : X.A.units + 100 < cLine) : OpR X (compareOp .Eq) (rO X.K eqD) := by
  intro pins s σ H x y v u Q I rx ry ⟨G, dx, dy, z, l, px, py, e, q⟩
  unfold eqD at e
  by_cases h : okEq dx dy = true
  · rw [if_pos h] at e
    cases e
    obtain ⟨h1, h2, h3⟩ := okEq_iff h
    obtain ⟨as, ra⟩ := rp_reads I l px rx
    obtain ⟨bs, rb⟩ := rp_reads I l py ry
    exact PySem.SeqAt.eq_plain ra rb h1 h2 (by omega) ⟨.bl _, H, I, rfl, q _ H G (Gw.refl l) (.bl _)⟩
  · rw [if_neg h] at e; cases e
theorem op_neP (hu : X.A.units + 100 < cLine) : OpR X (compareOp .NotEq) (rO X.K neD) := by
  intro pins s σ H x y v u Q I rx ry ⟨G, dx, dy, z, l, px, py, e, q⟩
  unfold neD at e
  by_cases h : okEq dx dy = true
  · rw [if_pos h] at e
    cases e
    obtain ⟨h1, h2, h3⟩ := okEq_iff h
    obtain ⟨as, ra⟩ := rp_reads I l px rx
    obtain ⟨bs, rb⟩ := rp_reads I l py ry
    exact PySem.SeqAt.ne_plain ra rb h1 h2 (by omega) ⟨.bl _, H, I, rfl, q _ H G (Gw.refl l) (.bl _)⟩
  · rw [if_neg h] at e; cases e
theorem op_ltP (hu : X.A.units + 100 < cLine) : OpR X (compareOp .Lt) (rO X.K ltD) := by
  intro pins s σ H x y v u Q I rx ry ⟨G, dx, dy, z, l, px, py, e, q⟩
  unfold ltD at e
  by_cases h : okLt dx dy = true
  · rw [if_pos h] at e
    cases e
    obtain ⟨h1, h2, h3⟩ := okLt_iff h
    obtain ⟨as, ra⟩ := rp_reads I l px rx
    obtain ⟨bs, rb⟩ := rp_reads I l py ry
    exact PySem.W.lt_data ra rb h1 h2 (by omega) ⟨.bl _, H, I, rfl, q _ H G (Gw.refl l) (.bl _)⟩
  · rw [if_neg h] at e; cases e
theorem op_gtP (hu : X.A.units + 100 < cLine) : OpR X (compareOp .Gt) (rO X.K gtD) := by
  intro pins s σ H x y v u Q I rx ry ⟨G, dx, dy, z, l, px, py, e, q⟩
  unfold gtD at e
  by_cases h : okLt dx dy = true
  · rw [if_pos h] at e
    cases e
    obtain ⟨h1, h2, h3⟩ := okLt_iff h
    obtain ⟨as, ra⟩ := rp_reads I l px rx
    obtain ⟨bs, rb⟩ := rp_reads I l py ry
    exact PySem.W.gt_data ra rb h1 h2 (by omega) ⟨.bl _, H, I, rfl, q _ H G (Gw.refl l) (.bl _)⟩
  · rw [if_neg h] at e; cases e
theorem op_leP (hu : X.A.units + 100 < cLine) : OpR X (compareOp .LtE) (rO X.K leD) := by
  intro pins s σ H x y v u Q I rx ry ⟨G, dx, dy, z, l, px, py, e, q⟩
  unfold leD at e
  by_cases h : okLt dx dy = true
  · rw [if_pos h] at e
    cases e
    obtain ⟨h1, h2, h3⟩ := okLt_iff h
    obtain ⟨as, ra⟩ := rp_reads I l px rx
    obtain ⟨bs, rb⟩ := rp_reads I l py ry
    exact PySem.W.le_data ra rb h1 h2 (by omega) ⟨.bl _, H, I, rfl, q _ H G (Gw.refl l) (.bl _)⟩
  · rw [if_neg h] at e; cases e
theorem op_geP (hu : X.A.units + 100 < cLine) : OpR X (compareOp .GtE) (rO X.K geD) := by
  intro pins s σ H x y v u Q I rx ry ⟨G, dx, dy, z, l, px, py, e, q⟩
  unfold geD at e
  by_cases h : okLt dx dy = true
  · rw [if_pos h] at e
    cases e
    obtain ⟨h1, h2, h3⟩ := okLt_iff h
    obtain ⟨as, ra⟩ := rp_reads I l px rx
    obtain ⟨bs, rb⟩ := rp_reads I l py ry
    exact PySem.W.ge_data ra rb h1 h2 (by omega) ⟨.bl _, H, I, rfl, q _ H G (Gw.refl l) (.bl _)⟩
  · rw [if_neg h] at e; cases e
/-- x in y: y a list, a tuple, a text (x one sign) -/
def inD (x : PyData) : PyData → Option PyData
  | .list xs => if PyData.plainAll xs && x.plain && decide (min (PyData.depthAll xs) x.depth ≤ 64) then some (.bool (xs.any fun y => PyData.eqv y x)) else none
  | .tuple xs => if PyData.plainAll xs && x.plain && decide (min (PyData.depthAll xs) x.depth ≤ 64) then some (.bool (xs.any fun y => PyData.eqv y x)) else none
  | .str z => match x with
    | .str y => some (.bool (!(Builtin.Str.occurrences z y 0 z.length 1).isEmpty))
    | _ => none
  | _ => none
def notD' : PyData → Option PyData
  | .bool b => some (.bool (!b))
  | _ => none
def notinD (x y : PyData) : Option PyData := (inD x y).bind notD'
theorem inD_bool {x y z : PyData} (h : inD x y = some z) : ∃ b, z = .bool b := by
  unfold inD at h
  split at h
  · split at h <;> cases h; exact ⟨_, rfl⟩
  · split at h <;> cases h; exact ⟨_, rfl⟩
  · split at h <;> cases h; exact ⟨_, rfl⟩
  · cases h
theorem op_inP (hu : X.A.units + 100 < cLine) : OpR X (compareOp .In) (rO X.K inD) := by
  intro pins s σ H x y v u Q I rx ry ⟨G, dx, dy, z, l, px, py, e, q⟩
  unfold inD at e
  split at e
  · rename_i xs
    by_cases h : (PyData.plainAll xs && dx.plain && decide (min (PyData.depthAll xs) dx.depth ≤ 64)) = true
    · rw [if_pos h] at e
      cases e
      simp only [Bool.and_eq_true, decide_eq_true_eq] at h
      obtain ⟨as, ra⟩ := rp_reads I l px rx
      obtain ⟨bs, rb⟩ := rp_reads I l py ry
      exact PySem.SeqAt.in_list_data rb ra h.1.1 h.1.2 (by omega) ⟨.bl _, H, I, rfl, q _ H G (Gw.refl l) (.bl _)⟩
    · rw [if_neg h] at e; cases e
  · rename_i xs
    by_cases h : (PyData.plainAll xs && dx.plain && decide (min (PyData.depthAll xs) dx.depth ≤ 64)) = true
    · rw [if_pos h] at e
      cases e
      simp only [Bool.and_eq_true, decide_eq_true_eq] at h
      obtain ⟨as, ra⟩ := rp_reads I l px rx
      obtain ⟨bs, rb⟩ := rp_reads I l py ry
      exact PySem.SeqAt.in_tuple_data rb ra h.1.1 h.1.2 (by omega) ⟨.bl _, H, I, rfl, q _ H G (Gw.refl l) (.bl _)⟩
    · rw [if_neg h] at e; cases e
  · rename_i zz
    split at e
    · rename_i yy
      cases e
      cases px
      cases py
      exact op_in_str pins s σ H _ _ v u Q I rx ry ⟨yy, zz, rfl, rfl, q _ H G (Gw.refl l) (.bl _)⟩
    · cases e
  · cases e
theorem op_notinP (hu : X.A.units + 100 < cLine) : OpR X (compareOp .NotIn) (rO X.K notinD) := by
  intro pins s σ H x y v u Q I rx ry ⟨G, dx, dy, z, l, px, py, e, q⟩
  unfold notinD inD at e
  split at e
  · rename_i xs
    by_cases h : (PyData.plainAll xs && dx.plain && decide (min (PyData.depthAll xs) dx.depth ≤ 64)) = true
    · rw [if_pos h] at e
      cases e
      simp only [Bool.and_eq_true, decide_eq_true_eq] at h
      obtain ⟨as, ra⟩ := rp_reads I l px rx
      obtain ⟨bs, rb⟩ := rp_reads I l py ry
      exact PySem.SeqAt.notIn_list_data rb ra h.1.1 h.1.2 (by omega) ⟨.bl _, H, I, rfl, q _ H G (Gw.refl l) (.bl _)⟩
    · rw [if_neg h] at e; cases e
  · rename_i xs
    by_cases h : (PyData.plainAll xs && dx.plain && decide (min (PyData.depthAll xs) dx.depth ≤ 64)) = true
    · rw [if_pos h] at e
      cases e
      simp only [Bool.and_eq_true, decide_eq_true_eq] at h
      obtain ⟨as, ra⟩ := rp_reads I l px rx
      obtain ⟨bs, rb⟩ := rp_reads I l py ry
      exact PySem.SeqAt.notIn_tuple_data rb ra h.1.1 h.1.2 (by omega) ⟨.bl _, H, I, rfl, q _ H G (Gw.refl l) (.bl _)⟩
    · rw [if_neg h] at e; cases e
  · rename_i zz
    split at e
    · rename_i yy
      cases e
      cases px
      cases py
      exact op_notin_str pins s σ H _ _ v u Q I rx ry ⟨yy, zz, rfl, rfl, q _ H G (Gw.refl l) (.bl _)⟩
    · cases e
  · cases e
/-- is, is not: None, and truth values -/
def isD : PyData → PyData → Option PyData
  | x, .none => some (.bool (isNon x))
  | .bool a, .bool b => some (.bool (decide (a = b)))
  | _, _ => none
def isnotD (x y : PyData) : Option PyData := (isD x y).bind notD'
theorem isNon_V {v : V} {x : PyData} (p : Rp X.K G v x) : decide (v = .non) = isNon x := by
  cases p <;> rfl
theorem op_isP : OpR X (compareOp .Is) (rO X.K isD) := by
  intro pins s σ H x y v u Q I rx ry ⟨G, dx, dy, z, l, px, py, e, q⟩
  unfold isD at e
  split at e
  · cases e
    cases py
    exact op_isN pins s σ H _ _ v u Q I rx ry ⟨rfl, by rw [isNon_V px]; exact q _ H G (Gw.refl l) (.bl _)⟩
  · cases e
    cases px
    cases py
    exact op_isBl pins s σ H _ _ v u Q I rx ry ⟨_, _, rfl, rfl, q _ H G (Gw.refl l) (.bl _)⟩
  · cases e
theorem op_isnotP : OpR X (compareOp .IsNot) (rO X.K isnotD) := by
  intro pins s σ H x y v u Q I rx ry ⟨G, dx, dy, z, l, px, py, e, q⟩
  unfold isnotD isD at e
  split at e
  · cases e
    cases py
    exact op_notN pins s σ H _ _ v u Q I rx ry ⟨rfl, by rw [isNon_V px]; exact q _ H G (Gw.refl l) (.bl _)⟩
  · cases e
    cases px
    cases py
    exact op_notBl pins s σ H _ _ v u Q I rx ry ⟨_, _, rfl, rfl, q _ H G (Gw.refl l) (.bl _)⟩
  · cases e

/-! ### arithmetic, joining -/
def addD : PyData → PyData → Option PyData
  | .int a, .int b => some (.int (a + b))
  | .str a, .str b => if a.length + b.length ≤ sizeLine then some (.str (a ++ b)) else none
  | .list a, .list b => if a.length + b.length ≤ sizeLine then some (.list (a ++ b)) else none
  | .tuple a, .tuple b => if a.length + b.length ≤ sizeLine then some (.tuple (a ++ b)) else none
  | _, _ => none
theorem op_addP : OpR X (binaryOp .Add) (rO X.K addD) := by
  intro pins s σ H x y v u Q I rx ry ⟨G, dx, dy, z, l, px, py, e, q⟩
  unfold addD at e
  split at e
  · cases e
    cases px
    cases py
    exact op_add pins s σ H _ _ v u Q I rx ry ⟨_, _, rfl, rfl, q _ H G (Gw.refl l) (.int _)⟩
  · rename_i a b
    by_cases h : a.length + b.length ≤ sizeLine
    · rw [if_pos h] at e
      cases e
      cases px
      cases py
      exact op_add_str pins s σ H _ _ v u Q I rx ry ⟨_, _, rfl, rfl, h, q _ H G (Gw.refl l) (.str _)⟩
    · rw [if_neg h] at e; cases e
  · rename_i a b
    by_cases h : a.length + b.length ≤ sizeLine
    · rw [if_pos h] at e
      cases e
      cases px with
      | lst h1 p1 =>
        cases py with
        | lst h2 p2 =>
          exact op_cat pins s σ H _ _ v u Q I rx ry ⟨_, _, _, _, rfl, rfl, l _ _ h1, l _ _ h2, by rw [RpAll.length p1, RpAll.length p2]; exact h, fun p hp => q _ _ _ (Gw.new l hp) (.lst upd_same (RpAll.mono (Gw.new l hp).g (p1.append p2)))⟩
    · rw [if_neg h] at e; cases e
  · rename_i a b
    by_cases h : a.length + b.length ≤ sizeLine
    · rw [if_pos h] at e
      cases e
      cases px with
      | tup h1 p1 =>
        cases py with
        | tup h2 p2 =>
          refine op_catA pins s σ H _ _ v u Q I rx ry ⟨_, _, _, _, rfl, rfl, l.sqt h1, l.sqt h2, by rw [RpAll.length p1, RpAll.length p2]; exact h, fun e => ?_, fun _ e => ?_, fun _ _ p hp => q _ _ _ (Gw.new l hp) (.tup (.inl (.inl upd_same)) (RpAll.mono (Gw.new l hp).g (p1.append p2)))⟩
          · subst e
            cases p1
            exact q _ H G (Gw.refl l) (.tup h2 p2)
          · subst e
            cases p2
            rw [List.append_nil] at q
            exact q _ H G (Gw.refl l) (.tup h1 p1)
    · rw [if_neg h] at e; cases e
  · cases e
def subD : PyData → PyData → Option PyData
  | .int a, .int b => some (.int (a - b))
  | _, _ => none
theorem op_subP : OpR X (binaryOp .Sub) (rO X.K subD) := by
  intro pins s σ H x y v u Q I rx ry ⟨G, dx, dy, z, l, px, py, e, q⟩
  unfold subD at e
  split at e
  · cases e
    cases px
    cases py
    exact op_sub pins s σ H _ _ v u Q I rx ry ⟨_, _, rfl, rfl, q _ H G (Gw.refl l) (.int _)⟩
  · cases e
def small64 (i : Int) : Bool := decide (-(2 ^ 64) < i ∧ i < 2 ^ 64)
def modD : PyData → PyData → Option PyData
  | .int a, .int b => if 0 < b then some (.int (a % b)) else none
  | _, _ => none
theorem op_modP : OpR X (binaryOp .Mod) (rO X.K modD) := by
  intro pins s σ H x y v u Q I rx ry ⟨G, dx, dy, z, l, px, py, e, q⟩
  unfold modD at e
  split at e
  · rename_i a b
    by_cases h : 0 < b
    · rw [if_pos h] at e
      cases e
      cases px
      cases py
      exact op_mod pins s σ H _ _ v u Q I rx ry ⟨_, _, rfl, rfl, h, q _ H G (Gw.refl l) (.int _)⟩
    · rw [if_neg h] at e; cases e
  · cases e
def negD : PyData → Option PyData
  | .int a => some (.int (-a))
  | _ => none
theorem un_negP : UnR X (unaryOp .USub) (rU1 X.K negD) := by
  intro pins s σ H x v Q I rx ⟨G, dx, z, l, px, e, q⟩
  unfold negD at e
  split at e
  · cases e
    cases px
    exact un_neg pins s σ H _ v Q I rx ⟨_, rfl, q _ H G (Gw.refl l) (.int _)⟩
  · cases e
end
end DL
end L2

/-! DL, part nine: defs called where no repr runs (what a repr within them wants), the law's own call. -/
namespace L2
namespace DL
open PySem PySem.Spec PyProof.Rows

/-- a def's promise where no repr is under way -/
structure FnG (P : Program) (w : World) (K : PySem.W.Frag) (mg : Str → Option Value) (base : Heap) (k : Nat) (f : Addr) (sp : Sp) : Prop where
  run : ∀ (A : Around) (outer : List Env) (s : Shared) (H : Hp) (us : List Value) (vs : List V) (Q : VK) (E : XK), A.guards = some [] → Room k A → Env0 P w K mg base A outer s H → Vals vs us → sp vs H Q E →
    codeAny (model P w) A (.call (.ref f) ⟨us, []⟩) (CR (L2.CX P w) outer P w H s Q E) s
section
variable {P : Program} {w : World} {K : PySem.W.Frag} {mg : Str → Option Value} {base : Heap}
theorem ok_fnG {x qual : Str} {st : Stmt} {f : Addr} {fd : FuncData} {N ps : List Str} {k : Nat} {body : M Fl} (F : Fun K x qual st f fd) (S : FnScope N ps (defScope st))
    (hbd : ∀ (kV doc pm : Value) (an : Option Addr) (cdv ct : Value) (us : List Value), us.length = ps.length → bindArgs (PySem.W.fnOf x qual (defArgs st) (defBody st) (defScope st) .none kV doc pm an cdv ct) ⟨us, []⟩ = pure (ps.zip us))
    (hb : ∀ (cdv : Value) (A : Around) (outer : List Env) (s : Shared) (H : Hp) (E : XK), (A.deeper (envOfC qual (defScope st) s.heap.objs.size f cdv)).guards = some [] → Room k (A.deeper (envOfC qual (defScope st) s.heap.objs.size f cdv)) →
      VSs (cxOf (L2.CX P w) P w K mg base N qual (defScope st) f cdv A outer s H E) (fun cls d _ H => E cls d H) (defBody st) body) :
    FnG P w K mg base (k + 1) f (spF K mg ps.length (fnD N.length body)) := by
  obtain ⟨oc, od, kV, doc, pm, an, cdv, ct, osl, rfl, lk, hcd⟩ := F.ex
  refine ⟨fun A outer s H us vs Q E hgd hr e0 r hsp => ?_⟩
  have hl : us.length = ps.length := r.length.symm.trans hsp.1
  have old : ∀ b o, base.get? b = some o → s.heap.get? b = some o := fun b o e => (e0.bs b o e).1
  have KX := e0.mod.kin.keeps old
  have places : ∀ y ∈ ps.zip us, (defScope st).names.lookup y.1 = some .local ∨ ((defScope st).names.lookup y.1 = some .cell ∧ ((cellsFrom (s.heap.objs.size + 1) (defScope st).names []).lookup y.1).isSome = true) := by
    rintro ⟨n, u⟩ hy
    have hn : n ∈ ps := (List.of_mem_zip hy).1
    exact (S.par n hn).imp id fun q => ⟨q, PySem.W.cellsFrom_some _ _ _ (.inl q)⟩
  refine codeAny_call_cells (binds := ps.zip us) hr.depth (KX f _ lk) rfl (e0.mod.nolimit.keeps old) (PySem.W.codeRec_of KX hcd) rfl (hbd _ _ _ _ _ _ us hl) rfl places (fun s1 x => ?_) S.co S.gen S.kind
  have I := inv_start (CX := L2.CX P w) (E := E) S hr.hd e0 hsp.1 r x
  have rd : tS (cxOf (L2.CX P w) P w K mg base N qual (defScope st) f cdv A outer s H E) (fun cls d _ H => E cls d H) body { nx := fun _ H' => Q .non H', rt := Q } (start N vs) H := by
    obtain ⟨_, G, L, args, sto, sub, so, av, h⟩ := hsp
    obtain ⟨rl, no⟩ := rl_start (N := N) sub so av
    refine ⟨G, L, _, rl, ?_⟩
    unfold AtS
    unfold fnD at h
    have fr : ∀ {σ' : St} {H' G' : Hp} {L' : List Addr} {c' : Co}, Fr H G L (Ow (start N vs) ⟨args ++ List.replicate (N.length - args.length) .un, sto⟩) H' G' L' (Ow σ' c') → Fr H G L O0 H' G' L' O0 := fun {σ' H' G' L' c'} f =>
      ⟨f.g, f.l, fun a o h1 h2 h3 _ => let ⟨y1, y2, y3, _⟩ := f.k a o h1 h2 h3 (no a); ⟨y1, y2, y3, id⟩⟩
    cases e : body ⟨args ++ List.replicate (N.length - args.length) .un, sto⟩ with
    | stuck => rw [e] at h; exact h.elim
    | ex z c => rw [e] at h; exact fun cls d σ' H' G' L' r' f' ek => h cls d H' G' L' r'.sub r'.sto (fr f') ek
    | ok fl c =>
      rw [e] at h
      cases fl with
      | bk => exact h.elim
      | ct => exact h.elim
      | nx => exact fun σ' H' G' L' r' f' => h .non H' G' L' r'.sub r'.sto (fr f') .non
      | rt v =>
        refine fun σ' H' G' L' r' f' u ok => h u H' G' L' r'.sub r'.sto (fr f') ?_
        cases v with
        | un => exact ok
        | d p => exact ok
        | loc n => exact ok
        | scr n => exact ok
        | own o =>
          obtain ⟨a, ho, z1, z2, z3, z4, z5, z6, z7⟩ := ok
          exact ⟨a, ho, z1, z2, z3, z4, z5, id, z7.elim id fun z => (no a z).elim⟩
  refine wpAny_mono ((hb cdv A outer s H E hgd (hr.deeper _)).run [] s1 (start N vs) H _ I rd) (fun fl s' q => ?_) fun e s' q => q
  cases fl with
  | next =>
    obtain ⟨σ', H', J, q⟩ := q
    exact ⟨.non, H', J.os, J.bare, J.base, J.hok, rfl, q⟩
  | ret u =>
    obtain ⟨v, σ', H', J, rv, q⟩ := q
    exact ⟨v, H', J.os, J.bare, J.base, J.hok, rv, q⟩
  | brk => obtain ⟨_, _, _, q⟩ := q; exact q.elim
  | cont => obtain ⟨_, _, _, q⟩ := q; exact q.elim
end
section
variable {X : Cx} {W : WX} {e : Expr} {es : List Expr} {pos : Pos}
theorem runG {k : Nat} {f : Addr} {sp : Sp} {pins : List (Addr × Obj)} {σ : St} {H : Hp} {s : Shared} {Q : VK} {us : List Value} {vs : List V} (FG : FnG X.prog X.w X.K X.mg X.base k f sp) (hg : X.A.guards = some []) (tk : Takes X W) (hr : Room k X.A)
    (I : Inv X pins σ H s) (r : Vals vs us) (h : sp vs H Q (WE W σ)) : wpAny (model X.prog X.w) X.A (call (.ref f) us) (EP X pins σ Q) X.xe s := by
  refine wpAny_call (codeAny_mono (FG.run X.A X.stack s H us vs Q (WE W σ) hg hr I.env0 r h) fun r s' q => ?_)
  match r, q with
  | .error e, q => exact passAt tk σ pins H s e s' I q
  | .ok (.ret u), q => exact I.after q
theorem pe_callG {k : Nat} {f : Addr} {x : Str} {p : Pos} {sp : Sp} {t : TA} (FG : FnG X.prog X.w X.K X.mg X.base k f sp) (hgd : X.A.guards = some []) (tk : Takes X W) (hr : Room k X.A) (hg : Gl X x) (hm : X.mg x = some (.ref f))
    (hk : PySem.W.keepIn X.K (.ref f) = true) (ha : PA X (e :: es) t) (hdb : (x == ("__debug__" : Str)) = false := by decide) (he : starEach (e :: es) X.env = (false, eval e X.env) :: starEach es X.env := by rfl) (hpl : (backTo pos (starEach es X.env)).any (·.1) = false := by rfl) :
    PE X (.Call (.Name x p) (e :: es) [] pos) (tCallS sp (WE W) t) :=
  ⟨fun pins s σ H Q I h => wpAny_Call_Name_kw (ld_glob I hg hm (PySem.W.callWith_K (h₀ := X.base) I.ok.mod.kin hk (thn (ha.run pos pins s σ H _ I h) fun us s1 ⟨vs, H1, I1, r, q⟩ => ⟨I1.kIn, runG FG hgd tk hr I1 r q⟩) he hpl) hdb)⟩
/-- what a call's promise is given, from the reading of its arguments -/
theorem call_imp {n : Nat} {F : FD} {fs : M (List EV)} (hlen : ∀ c xs c', fs c = .ok xs c' → xs.length = n) (σ : St) (H : Hp) (Q : VK) (h : tE X W rV (fs >>= callM F) σ H Q) : tCallS (spF X.K X.mg n F) (WE W) (tE X W rA fs) σ H Q := by
  obtain ⟨G, L, c, r, q⟩ := h
  refine ⟨G, L, c, r, At.bind (ρ := rA) wdV r q fun xs vs c1 H1 G1 L1 e1 r1 _ p q1 => ⟨(AllV.len p).trans (hlen _ _ _ e1), G1, L1, xs, c1.sto, r1.sub, r1.sto, p, ?_⟩⟩
  unfold At callM at q1
  cases eF : F xs c1.sto with
  | stuck => rw [eF] at q1; exact q1
  | ex x st => rw [eF] at q1; exact fun cls d H' G' L' s so f ek => q1 cls d H' G' L' (r1.call s so f).1 (r1.call s so f).2 ek
  | ok v st =>
    rw [eF] at q1
    refine fun u H' G' L' s so f ok => q1 u H' G' L' (r1.call s so f).1 (r1.call s so f).2 ?_
    cases v with
    | un => exact ok
    | d x => exact ok
    | loc n => exact ok
    | scr n => exact ok
    | own o =>
      obtain ⟨a, ho, z1, z2, z3, z4, z5, _, z7⟩ := ok
      refine ⟨a, ho, z1, z2, z3, z4, z5, fun hm => ?_, .inl z7⟩
      obtain ⟨_, _, ho', e'⟩ := r1.ow (c := c1) (a := a) hm
      have z7 : H1 a = none := z7
      rw [z7] at e'; cases e'
theorem vv_callG {k : Nat} {f : Addr} {x : Str} {p : Pos} {n : Nat} {F : FD} {fs : M (List EV)} (FG : FnG X.prog X.w X.K X.mg X.base k f (spF X.K X.mg n F)) (hgd : X.A.guards = some []) (tk : Takes X W) (hr : Room k X.A) (hg : Gl X x) (hm : X.mg x = some (.ref f))
    (hk : PySem.W.keepIn X.K (.ref f) = true) (ha : VAv X W (e :: es) fs) (hlen : ∀ c xs c', fs c = .ok xs c' → xs.length = n) (hdb : (x == ("__debug__" : Str)) = false := by decide) (he : starEach (e :: es) X.env = (false, eval e X.env) :: starEach es X.env := by rfl) (hpl : (backTo pos (starEach es X.env)).any (·.1) = false := by rfl) :
    VV X W (.Call (.Name x p) (e :: es) [] pos) (fs >>= callM F) := (pe_callG FG hgd tk hr hg hm hk ha hdb he hpl).imp (call_imp hlen)
end

/-! ### the law's call -/
section
open PySem.W
theorem law_callG {P : Program} {w : World} {K : PySem.W.Frag} {mg mb : Str → Option Value} {k : Nat} {fa a : Addr} {F : FD} {s₁ : Shared} {vs : List Value} {ns : List Int}
    (KX : K.In s₁.heap) (hns : s₁.heap.Ns mainGlobals mg) (hb : s₁.heap.Ns builtinsNs mb) (hbb : ∀ x : Str, x ≠ "__name__" → mb x = bootBuiltins x) (hlim : s₁.heap.NoLimit) (hg : s₁.gens = #[])
    (ha : s₁.heap.get? a = some { cls := .type "list", data := .seq vs.toArray }) (hi : IntsAre vs ns) (hl : ns.length ≤ sizeLine) (hr : Room k callerA)
    (FG : ∀ base : Heap, K.In base → base.Ns mainGlobals mg → FnG P w K mg base k fa (spF K mg 1 F)) (hF : ∃ st, F [.scr ns] [] = .ok (.d (.bool true)) st) :
    codeAny (model P w) callerA (.call (.ref fa) ⟨[.ref a], []⟩) (fun r s' => r = .ok (.ret (.bool true)) ∧ OldK s₁.heap s'.heap ∧ s'.os = s₁.os ∧ AllBare s'.gens) s₁ := by
  have rv := vals_ints hi
  have hsz : vs.length = ns.length := hi.length
  -- the abstract heap: the script, where it is no object of the module's own
  obtain ⟨H, hH, hS, ok, only, inK⟩ : ∃ H : Hp, (∀ b u, H b = some u → b = a ∧ u = .frz { cls := .type "list", data := .seq vs.toArray } (.lst (ns.map V.int))) ∧ SqL K H a (ns.map V.int) ∧ HOk P w H s₁.heap ∧
      (∀ b o, s₁.heap.get? b = some o → (∃ es ep, o.data = .dict es ep) → H b = none) ∧ ∀ b o, K.lookup b = some o → H b = none := by
    cases hk : K.lookup a with
    | some o =>
      refine ⟨fun _ => none, fun _ _ h => (nomatch h), ?_, fun _ _ h => (nomatch h), fun _ _ _ _ => rfl, fun _ _ _ => rfl⟩
      obtain rfl : o = _ := Option.some.inj ((KX a o hk).symm.trans ha)
      exact .inr ⟨_, vs.toArray, _, hk, rfl, rfl, rfl, by rw [List.size_toArray, hsz]; exact hl, rv⟩
    | none =>
      refine ⟨fun b => if b = a then some (.frz { cls := .type "list", data := .seq vs.toArray } (.lst (ns.map V.int))) else none, fun b u h => ?_, .inl (.inr ⟨_, if_pos rfl⟩), fun b u h => ?_, fun b o e ⟨es, ep, d⟩ => if_neg fun z => ?_, fun b o e => if_neg fun z => ?_⟩
      · dsimp only at h
        split at h
        · exact ⟨by assumption, (Option.some.inj h).symm⟩
        · cases h
      · dsimp only at h
        split at h
        · rename_i z
          subst z
          cases h
          exact ⟨ha, by rw [List.length_map]; exact hl, vs, _, rv, ha⟩
        · cases h
      · subst z
        rw [ha] at e
        cases e
        cases d
      · subst z
        rw [hk] at e; cases e
  have toB : ∀ {b : Addr} {o : Obj}, s₁.heap.get? b = some o → H b = none → (hidT s₁.heap H).get? b = some o := fun e n => hidT_get e n
  have nsB : ∀ {b : Addr} {m : Str → Option Value}, s₁.heap.Ns b m → (hidT s₁.heap H).Ns b m := by
    rintro b m ⟨o, es, ep, e, d, r⟩
    exact ⟨o, es, ep, toB e (only b o e ⟨es, ep, d⟩), d, r⟩
  have KB : K.In (hidT s₁.heap H) := fun b o e => toB (KX b o e) (inK b o e)
  have md : Mod K mg (hidT s₁.heap H) := by
    obtain ⟨mc, l1, l2⟩ := hlim
    exact ⟨KB, nsB hns, ⟨mb, nsB hb, hbb⟩, ⟨mc, nsB l1, l2⟩⟩
  have e0 : Env0 P w K mg (hidT s₁.heap H) callerA [] s₁ H := by
    refine ⟨rfl, md, fun b o e => of_hidT e, Nat.le_of_eq (hidT_size _ _), trivial, fun b hb => ?_, ok, .of_eq hg⟩
    exact absurd hb (by intro h; cases h)
  have hsp : spF K mg 1 F [.ref a] H (fun v _ => v = .bl true) (fun _ _ _ => False) := by
    refine ⟨rfl, H, [], [.scr ns], [], Le.refl _, ⟨List.nodup_nil, rfl, fun n a o h => by cases n <;> cases h⟩, .scr hS .nil, ?_⟩
    obtain ⟨st, e⟩ := hF
    rw [e]
    intro v H' G' L' _ _ _ ok
    cases ok
    rfl
  refine codeAny_mono ((FG _ KB (nsB hns)).run callerA [] s₁ H [.ref a] [.ref a] _ _ rfl hr e0 (.cons rfl .nil) hsp) fun r s' h => ?_
  match r, h with
  | .error e, h => obtain ⟨_, _, _, _, _, _, _, _, _, _, _, _, z⟩ := h; exact z.elim
  | .ok (.ret u), h =>
    obtain ⟨v, H', os, bare, un, ok', r', q⟩ := h
    obtain rfl : v = .bl true := q
    obtain rfl : u = Value.bool true := r'
    refine ⟨rfl, OldK.of_keep fun b o e => ?_, os, bare⟩
    cases q : H b with
    | none => exact un.keep b o e q (fun h => by cases h) (fun h => by cases h)
    | some u =>
      obtain ⟨rfl, rfl⟩ := hH b u q
      obtain ⟨e2, _⟩ := ok' b _ (un.frzs b _ _ q)
      exact e2.trans (ha.symm.trans e)
theorem walkG {l : PySem.W.OpenLaw} {n k : Nat} {q : Program} {loose : List Str} {XP : (Str → Option Value) → Heap → Prop} {YP : World → Heap → Prop} {d : DefRec} {K : Params → PySem.W.Frag} {F : FD}
    (hn : l.most = some n) (hn2 : n ≤ sizeLine) (hdf : d.params.defaults = []) (hr : Room k callerA) (hY : ∀ (w : World) (h : Heap), YP w h → (K w.params).In h)
    (FG : ∀ (w : World) (mg : Str → Option Value) (fa : Addr) (h : Heap), (K w.params).In h → h.Ns mainGlobals mg → mg d.name = some (.ref fa) →
      ∀ base : Heap, (K w.params).In base → base.Ns mainGlobals mg → FnG l.prog w (K w.params) mg base k fa (spF (K w.params) mg 1 F))
    (hF : ∀ ns : List Int, ns.length ≤ n → ∃ st, F [.scr ns] [] = .ok (.d (.bool true)) st) : PySem.W.WalkO q loose XP YP l.row.toRowW d [] (fun f vs => PySem.call f vs) :=
  Att.attach_call hn hdf fun w s₀ s₁ mg mb fa o pm cd doc a vs ns G Y ho hd hcd hmg hobj hints hlen hg =>
    law_callG (hY w _ Y) G.T.g G.T.b G.T.builtins G.T.nolimit hg hobj hints (Nat.le_trans hlen hn2) hr (FG w mg fa _ (hY w _ Y) G.T.g hmg) (hF ns hlen)
end
end DL
end L2

/-! DL, part ten: more operations and built-ins. -/
namespace L2
namespace DL
open PySem PySem.Spec PyProof.Rows

section
variable {X : Cx} {W : WX} {pins : List (Addr × Obj)} {σ : St} {H G : Hp} {s : Shared}
/-! ### times, whole parts, powers -/
instance (a b : Int) : Decidable (CMul a b) := inferInstanceAs (Decidable (_ ∨ _))
def mulD : PyData → PyData → Option PyData
  | .int a, .int b => if CMul a b ∨ a.natAbs.log2 + b.natAbs.log2 < 1000000 then some (.int (a * b)) else none
  | .str a, .int k => if 0 ≤ k ∧ k ≤ 1000 ∧ a.length ≤ 1000 then some (.str (Txt.mul a k)) else none
  | .list xs, .int k => if -(2 ^ 63) ≤ k ∧ k < 2 ^ 63 ∧ xs.length * k.toNat ≤ sizeLine then some (.list (List.replicate k.toNat xs).flatten) else none
  | .tuple xs, .int k => if xs ≠ [] ∧ 2 ≤ k ∧ k ≤ 1000 ∧ xs.length ≤ 1000 then some (.tuple (List.replicate k.toNat xs).flatten) else none
  | _, _ => none
theorem RpAll.rep {K : PySem.W.Frag} {vs : List V} {ds : List PyData} (p : RpAll K G vs ds) : ∀ k : Nat, RpAll K G (List.replicate k vs).flatten (List.replicate k ds).flatten
  | 0 => .nil
  | k + 1 => by
    rw [List.replicate_succ, List.replicate_succ, List.flatten_cons, List.flatten_cons]
    exact p.append (RpAll.rep p k)
theorem mulOk_small {x : Str} {k : Int} (h0 : 0 ≤ k) (h1 : k ≤ 1000) (h2 : x.length ≤ 1000) : PySem.MulOk x k := by
  have hs := sizeLine_eq
  have h3 : x.length * k.toNat ≤ 1000000 := Nat.le_trans (Nat.mul_le_mul h2 (by omega : k.toNat ≤ 1000)) (by decide)
  refine ⟨?_, fun h _ => ?_, fun h _ => ?_⟩
  · simp only [Bool.or_eq_false_iff, decide_eq_false_iff_not]
    omega
  · have h4 : (1000 : Int) ≤ (2 ^ 63 - 1) / k := by
      rw [Int.le_ediv_iff_mul_le (by omega)]
      omega
    omega
  · unfold Builtin.Str.tooLong
    rw [decide_eq_false_iff_not]
    omega
theorem op_mulP : OpR X (binaryOp .Mult) (rO X.K mulD) := by
  intro pins s σ H x y v u Q I rx ry ⟨G, dx, dy, z, l, px, py, e, q⟩
  unfold mulD at e
  split at e
  · rename_i a b
    by_cases h : CMul a b ∨ a.natAbs.log2 + b.natAbs.log2 < 1000000
    · rw [if_pos h] at e
      cases e
      cases px
      cases py
      rcases h with h | h
      · exact op_mul pins s σ H _ _ v u Q I rx ry ⟨_, _, rfl, rfl, h, q _ H G (Gw.refl l) (.int _)⟩
      · exact op_mulW pins s σ H _ _ v u Q I rx ry ⟨_, _, rfl, rfl, h, q _ H G (Gw.refl l) (.int _)⟩
    · rw [if_neg h] at e; cases e
  · rename_i a k
    by_cases h : 0 ≤ k ∧ k ≤ 1000 ∧ a.length ≤ 1000
    · rw [if_pos h] at e
      cases e
      cases px
      cases py
      obtain ⟨t, rfl⟩ := rx
      obtain ⟨t', rfl⟩ := ry
      exact PySem.SB.mul (mulOk_small h.1 h.2.1 h.2.2) fun t' k => ⟨.str _, H, I.tok k, ⟨t', rfl⟩, q _ H G (Gw.refl l) (.str _)⟩
    · rw [if_neg h] at e; cases e
  · rename_i xs k
    by_cases h : -(2 ^ 63) ≤ k ∧ k < 2 ^ 63 ∧ xs.length * k.toNat ≤ sizeLine
    · rw [if_pos h] at e
      cases e
      cases px with
      | lst h1 p1 =>
        cases py
        exact op_rep pins s σ H _ _ v u Q I rx ry ⟨_, _, _, rfl, rfl, l _ _ h1, h.1, h.2.1, by rw [RpAll.length p1]; exact h.2.2, fun p hp => q _ _ _ (Gw.new l hp) (.lst upd_same (RpAll.mono (Gw.new l hp).g (p1.rep _)))⟩
    · rw [if_neg h] at e; cases e
  · rename_i xs k
    by_cases h : xs ≠ [] ∧ 2 ≤ k ∧ k ≤ 1000 ∧ xs.length ≤ 1000
    · rw [if_pos h] at e
      cases e
      cases px with
      | tup h1 p1 =>
        cases py
        exact op_repT pins s σ H _ _ v u Q I rx ry ⟨_, _, _, rfl, rfl, l.sqt h1, fun e => h.1 (by rw [e] at p1; cases p1; rfl), h.2.1, h.2.2.1, by rw [RpAll.length p1]; exact h.2.2.2, fun p hp => q _ _ _ (Gw.new l hp) (.tup (.inl (.inl upd_same)) (RpAll.mono (Gw.new l hp).g (p1.rep _)))⟩
    · rw [if_neg h] at e; cases e
  · cases e
def fdivD : PyData → PyData → Option PyData
  | .int a, .int b => if 0 < b ∧ b < 1073741824 then some (.int (a / b)) else none
  | _, _ => none
theorem op_fdivP : OpR X (binaryOp .FloorDiv) (rO X.K fdivD) := by
  intro pins s σ H x y v u Q I rx ry ⟨G, dx, dy, z, l, px, py, e, q⟩
  unfold fdivD at e
  split at e
  · rename_i a b
    by_cases h : 0 < b ∧ b < 1073741824
    · rw [if_pos h] at e
      cases e
      cases px
      cases py
      exact op_fdiv pins s σ H _ _ v u Q I rx ry ⟨_, _, rfl, rfl, h, q _ H G (Gw.refl l) (.int _)⟩
    · rw [if_neg h] at e; cases e
  · cases e
def powD : PyData → PyData → Option PyData
  | .int a, .int b => if 0 ≤ b ∧ b ≤ 1000000 ∧ a.natAbs < 2 ^ 64 then some (.int (a ^ b.toNat)) else none
  | _, _ => none
theorem op_powP : OpR X (binaryOp .Pow) (rO X.K powD) := by
  intro pins s σ H x y v u Q I rx ry ⟨G, dx, dy, z, l, px, py, e, q⟩
  unfold powD at e
  split at e
  · rename_i a b
    by_cases h : 0 ≤ b ∧ b ≤ 1000000 ∧ a.natAbs < 2 ^ 64
    · rw [if_pos h] at e
      cases e
      cases px
      cases py
      exact op_pow pins s σ H _ _ v u Q I rx ry ⟨_, _, rfl, rfl, h, q _ H G (Gw.refl l) (.int _)⟩
    · rw [if_neg h] at e; cases e
  · cases e

/-! ### built-ins -/
theorem rpOne {K : PySem.W.Frag} {vs : List V} {d : PyData} (p : RpAll K G vs [d]) : ∃ v, vs = [v] ∧ Rp K G v d := by
  cases p with
  | cons h r => cases r; exact ⟨_, rfl, h⟩
theorem rpTwo {K : PySem.W.Frag} {vs : List V} {d d' : PyData} (p : RpAll K G vs [d, d']) : ∃ v v', vs = [v, v'] ∧ Rp K G v d ∧ Rp K G v' d' := by
  cases p with
  | cons h r =>
    obtain ⟨v', rfl, h'⟩ := rpOne r
    exact ⟨_, _, rfl, h, h'⟩
def absD : List PyData → Option PyData
  | [.int i] => some (.int (if i < 0 then -i else i))
  | _ => none
theorem call_absP : CallR X (.builtin "abs") (rC X.K absD) := by
  intro pins s σ H xs us Q I r ⟨G, ds, z, l, p, e, q⟩
  unfold absD at e
  split at e
  · cases e
    obtain ⟨v, rfl, p0⟩ := rpOne p
    clear p
    have p := p0
    clear p0
    cases p
    exact call_abs pins s σ H _ us Q I r ⟨_, rfl, q _ H G (Gw.refl l) (.int _)⟩
  · cases e
def intD : List PyData → Option PyData
  | [.int i] => some (.int i)
  | [.bool b] => some (.int (if b then 1 else 0))
  | _ => none
theorem call_intP : CallR X (.type "int") (rC X.K intD) := by
  intro pins s σ H xs us Q I r ⟨G, ds, z, l, p, e, q⟩
  unfold intD at e
  split at e
  · cases e
    obtain ⟨v, rfl, p0⟩ := rpOne p
    clear p
    have p := p0
    clear p0
    cases p
    exact call_int1 pins s σ H _ us Q I r (.inl ⟨_, rfl, q _ H G (Gw.refl l) (.int _)⟩)
  · cases e
    obtain ⟨v, rfl, p0⟩ := rpOne p
    clear p
    have p := p0
    clear p0
    cases p
    exact call_int1 pins s σ H _ us Q I r (.inr ⟨_, rfl, q _ H G (Gw.refl l) (.int _)⟩)
  · cases e
/-- the truth values of a list -/
def boolsOf : List PyData → Option (List Bool)
  | [] => some []
  | .bool b :: r => (boolsOf r).map (b :: ·)
  | _ :: _ => none
def intsOf : List PyData → Option (List Int)
  | [] => some []
  | .int b :: r => (intsOf r).map (b :: ·)
  | _ :: _ => none
def strsOf : List PyData → Option (List Str)
  | [] => some []
  | .str b :: r => (strsOf r).map (b :: ·)
  | _ :: _ => none
theorem boolsOf_eq : ∀ {ds : List PyData} {bs : List Bool}, boolsOf ds = some bs → ds = bs.map .bool
  | [], bs, h => by cases h; rfl
  | .bool b :: r, bs, h => by
    unfold boolsOf at h
    cases e : boolsOf r with
    | none => rw [e] at h; cases h
    | some q =>
      rw [e] at h
      cases h
      rw [boolsOf_eq e]
      rfl
  | .none :: _, _, h => by cases h
  | .int _ :: _, _, h => by cases h
  | .str _ :: _, _, h => by cases h
  | .list _ :: _, _, h => by cases h
  | .tuple _ :: _, _, h => by cases h
  | .dict _ :: _, _, h => by cases h
theorem intsOf_eq : ∀ {ds : List PyData} {bs : List Int}, intsOf ds = some bs → ds = bs.map .int
  | [], bs, h => by cases h; rfl
  | .int b :: r, bs, h => by
    unfold intsOf at h
    cases e : intsOf r with
    | none => rw [e] at h; cases h
    | some q =>
      rw [e] at h
      cases h
      rw [intsOf_eq e]
      rfl
  | .none :: _, _, h => by cases h
  | .bool _ :: _, _, h => by cases h
  | .str _ :: _, _, h => by cases h
  | .list _ :: _, _, h => by cases h
  | .tuple _ :: _, _, h => by cases h
  | .dict _ :: _, _, h => by cases h
theorem strsOf_eq : ∀ {ds : List PyData} {bs : List Str}, strsOf ds = some bs → ds = bs.map .str
  | [], bs, h => by cases h; rfl
  | .str b :: r, bs, h => by
    unfold strsOf at h
    cases e : strsOf r with
    | none => rw [e] at h; cases h
    | some q =>
      rw [e] at h
      cases h
      rw [strsOf_eq e]
      rfl
  | .none :: _, _, h => by cases h
  | .bool _ :: _, _, h => by cases h
  | .int _ :: _, _, h => by cases h
  | .list _ :: _, _, h => by cases h
  | .tuple _ :: _, _, h => by cases h
  | .dict _ :: _, _, h => by cases h
theorem boolsOf_map : ∀ bs : List Bool, boolsOf (bs.map .bool) = some bs
  | [] => rfl
  | b :: bs => by rw [List.map_cons, boolsOf, boolsOf_map bs]; rfl
theorem intsOf_map : ∀ bs : List Int, intsOf (bs.map .int) = some bs
  | [] => rfl
  | b :: bs => by rw [List.map_cons, intsOf, intsOf_map bs]; rfl
theorem strsOf_map : ∀ bs : List Str, strsOf (bs.map .str) = some bs
  | [] => rfl
  | b :: bs => by rw [List.map_cons, strsOf, strsOf_map bs]; rfl
def allD : List PyData → Option PyData
  | [.list ds] => (boolsOf ds).map fun bs => .bool (bs.all id)
  | _ => none
def anyD : List PyData → Option PyData
  | [.list ds] => (boolsOf ds).map fun bs => .bool (bs.any id)
  | _ => none
theorem call_allP (hc : X.calm = true) : CallR X (.builtin "all") (rC X.K allD) := by
  intro pins s σ H xs us Q I r ⟨G, ds, z, l, p, e, q⟩
  unfold allD at e
  split at e
  · rename_i ds
    obtain ⟨v, rfl, p0⟩ := rpOne p
    clear p
    have p := p0
    clear p0
    cases e2 : boolsOf ds with
    | none => rw [e2] at e; cases e
    | some bs =>
      rw [e2] at e
      cases e
      rw [boolsOf_eq e2] at p
      cases p with
      | lst h1 p1 =>
        rw [RpAll.of_bools p1] at h1
        exact cr_all hc pins s σ H _ us Q I r ⟨_, bs, rfl, .inl (.inl (l _ _ h1)), q _ H G (Gw.refl l) (.bl _)⟩
  · cases e
theorem call_anyP (hc : X.calm = true) : CallR X (.builtin "any") (rC X.K anyD) := by
  intro pins s σ H xs us Q I r ⟨G, ds, z, l, p, e, q⟩
  unfold anyD at e
  split at e
  · rename_i ds
    obtain ⟨v, rfl, p0⟩ := rpOne p
    clear p
    have p := p0
    clear p0
    cases e2 : boolsOf ds with
    | none => rw [e2] at e; cases e
    | some bs =>
      rw [e2] at e
      cases e
      rw [boolsOf_eq e2] at p
      cases p with
      | lst h1 p1 =>
        rw [RpAll.of_bools p1] at h1
        exact cr_any hc pins s σ H _ us Q I r ⟨_, bs, rfl, .inl (.inl (l _ _ h1)), q _ H G (Gw.refl l) (.bl _)⟩
  · cases e
theorem sum_rawT {prog : Program} {w : World} {A : Around} {E : Value → Shared → Prop} {s : Shared} {l : Addr} {its : List Value} {ns : List Int} {Q : Value → Shared → Prop} (hh : A.handled = none) (hl : s.heap.IsTuple l its.toArray) (hi : IntsAre its ns)
    (h : ∀ h' tk t', (∀ b o, s.heap.get? b = some o → h'.get? b = some o) → Q (.int ns.sum t') { s with heap := h', toks := tk }) : wpAny (model prog w) A (call (.builtin "sum") [.ref l]) Q E s := by
  obtain ⟨xs, e⟩ := hi.allInts.items
  have hn : numsOf (intItems xs).toList = ns := by rw [← e]; exact hi.numsOf
  rw [nums_intItems] at hn
  rw [e] at hl
  have hlt : l < s.heap.objs.size := by obtain ⟨_, e, _⟩ := hl; exact Heap.lt_size e
  refine call_sum_walkG (wpAny_pyIter_tuple hl ?_)
  refine ⟨_, _, _, _, _, _, numAt xs, rfl, Walks.tuple (A := A.in1) hh s.heap.objs.size l (Nat.ne_of_lt hlt) (intItems xs), ⟨⟨_, Heap.get?_push_size _ rfl, rfl, rfl⟩, hl.push _⟩, fun b hb => ?_, (fun _ _ => intItems_at), fun h' tk t' hk => ?_⟩
  · show b < (s.heap.push _).objs.size
    rw [Heap.size_push]
    rcases List.mem_cons.mp hb with rfl | hb
    · exact Nat.lt_succ_self _
    · rcases List.mem_cons.mp hb with rfl | hb
      · exact Nat.lt_succ_of_lt hlt
      · cases hb
  · have := h h' tk t' fun b o eo => hk b o (fun hm => absurd (Heap.lt_size eo) ((List.mem_singleton.mp hm) ▸ Nat.lt_irrefl _)) (Heap.get?_push_of_some _ eo)
    have e2 : (intItems xs).size = xs.size := by simp [intItems]
    rw [e2, preSum_eq, List.take_of_length_le (by simp), hn]
    exact this
def sumD : List PyData → Option PyData
  | [.list ds] => (intsOf ds).map fun bs => .int bs.sum
  | [.tuple ds] => (intsOf ds).map fun bs => .int bs.sum
  | _ => none
theorem call_sumP (hc : X.calm = true) : CallR X (.builtin "sum") (rC X.K sumD) := by
  intro pins s σ H xs us Q I r ⟨G, ds, z, l, p, e, q⟩
  unfold sumD at e
  split at e
  · rename_i ds
    obtain ⟨v, rfl, p0⟩ := rpOne p
    clear p
    have p := p0
    clear p0
    cases e2 : intsOf ds with
    | none => rw [e2] at e; cases e
    | some bs =>
      rw [e2] at e
      cases e
      rw [intsOf_eq e2] at p
      cases p with
      | lst h1 p1 =>
        rw [RpAll.of_ints p1] at h1
        exact cr_sum hc pins s σ H _ us Q I r ⟨_, bs, rfl, .inl (.inl (l _ _ h1)), q _ H G (Gw.refl l) (.int _)⟩
  · rename_i ds
    obtain ⟨v, rfl, p0⟩ := rpOne p
    clear p
    have p := p0
    clear p0
    cases e2 : intsOf ds with
    | none => rw [e2] at e; cases e
    | some bs =>
      rw [e2] at e
      cases e
      rw [intsOf_eq e2] at p
      cases p with
      | tup h1 p1 =>
        rw [RpAll.of_ints p1] at h1
        obtain ⟨its, rv, hl, _⟩ := I.tuple (l.sqt (K := X.K) h1)
        rw [Vals.ref1 r]
        exact sum_rawT (I.ok.hd hc) hl rv.ints fun h' tk t' hk => ⟨.int _, H, I.kept hk, ⟨_, rfl⟩, q _ H G (Gw.refl l) (.int _)⟩
  · cases e

/-! ### least, greatest -/
def alikeB (ds : List PyData) : Bool := (ds.all fun x => !isNon x && ds.all fun y => PySem.W.alike x y) && PyData.plainAll ds && decide (PyData.depthAll ds ≤ 64)
theorem alikeB_iff {ds : List PyData} (h : alikeB ds = true) : PySem.W.AlikeAll ds ∧ PyData.plainAll ds = true ∧ PyData.depthAll ds ≤ 64 := by
  unfold alikeB at h
  simp only [Bool.and_eq_true, decide_eq_true_eq, List.all_eq_true, Bool.not_eq_true'] at h
  exact ⟨⟨fun x hx y hy => (h.1.1 x hx).2 y hy, fun x hx e => by have := (h.1.1 x hx).1; rw [e] at this; cases this⟩, h.1.2, h.2⟩
def minOf : List PyData → Option PyData
  | [] => none
  | x :: xs => if alikeB (x :: xs) then some (PySem.W.minD x xs) else none
def maxOf : List PyData → Option PyData
  | [] => none
  | x :: xs => if alikeB (x :: xs) then some (PySem.W.maxD x xs) else none
def minD : List PyData → Option PyData
  | [.list ds] => minOf ds
  | [.tuple ds] => minOf ds
  | [.int i, .int j] => some (.int (if j < i then j else i))
  | _ => none
def maxD : List PyData → Option PyData
  | [.list ds] => maxOf ds
  | [.tuple ds] => maxOf ds
  | [.int i, .int j] => some (.int (if j > i then j else i))
  | _ => none
theorem plainAll_get : ∀ {ds : List PyData} {i : Nat} {d : PyData}, PyData.plainAll ds = true → ds[i]? = some d → d.plain = true
  | [], _, _, _, e => by simp at e
  | x :: xs, 0, d, h, e => by
    simp at e
    subst e
    simp only [PyData.plainAll, Bool.and_eq_true] at h
    exact h.1
  | x :: xs, i + 1, d, h, e => by
    simp only [PyData.plainAll, Bool.and_eq_true] at h
    exact plainAll_get (i := i) h.2 (by simpa using e)
theorem vals_get : ∀ {vs : List V} {us : List Value} {i : Nat} {u : Value}, Vals vs us → us[i]? = some u → ∃ v, vs[i]? = some v ∧ RelV v u
  | _, _, _, _, .nil, e => by simp at e
  | _, _, 0, _, .cons r _, e => by simp at e; subst e; exact ⟨_, rfl, r⟩
  | _, _, i + 1, u, .cons _ t, e => by
    obtain ⟨v, h1, h2⟩ := vals_get (i := i) (u := u) t (by simpa using e)
    exact ⟨v, by simpa using h1, h2⟩
/-- an item told by its place, and by what it reads as -/
theorem item_at (I : Inv X pins σ H s) (l : Le G H) {vs : List V} {us : List Value} {ds : List PyData} {i : Nat} {u : Value} {h' : Heap} {tk : Nat} {d : PyData} {bs : List Addr} (p : RpAll X.K G vs ds) (r : Vals vs us) (hp : PyData.plainAll ds = true) (e : us.toArray[i]? = some u)
    (hr : Reads h' u d bs) (hk : ∀ b o, s.heap.get? b = some o → h'.get? b = some o) : ∃ v, RelV v u ∧ Rp X.K G v d := by
  obtain ⟨v, e1, r1⟩ := vals_get r (by simpa using e)
  obtain ⟨d', e2, p1⟩ := RpAll.get' p e1
  obtain ⟨as, r2⟩ := rp_reads I l p1 r1
  have e3 := SeqAt.plain_unique d' d u as bs (plainAll_get hp e2) (Reads.keeps hk r2) hr
  subst e3
  exact ⟨v, r1, p1⟩
theorem call_minP (hc : X.calm = true) (hu : X.A.units + 100 < cLine) : CallR X (.builtin "min") (rC X.K minD) := by
  intro pins s σ H xs us Q I r ⟨G, ds, z, l, p, e, q⟩
  unfold minD at e
  split at e
  · rename_i ds
    obtain ⟨v, rfl, p0⟩ := rpOne p
    clear p
    have p := p0
    clear p0
    cases p with
    | lst h1 p1 =>
      rw [Vals.ref1 r]
      cases ds with
      | nil => cases e
      | cons x xs =>
        change (if alikeB (x :: xs) = true then some (PySem.W.minD x xs) else none) = some z at e
        by_cases h : alikeB (x :: xs) = true
        · rw [if_pos h] at e
          cases e
          obtain ⟨a1, a2, a3⟩ := alikeB_iff h
          obtain ⟨its, rv, hl, _⟩ := I.list (.inl (.inl (l _ _ h1)))
          obtain ⟨as, hr⟩ := rp_readsAll I l p1 rv
          refine PySem.W.min_list_data (I.ok.hd hc) hl.isList hr a1 (by omega) fun i v h' tk bs e1 r1 hk => ?_
          obtain ⟨v', rv', pv⟩ := item_at (tk := tk) I l p1 rv a2 e1 r1 hk
          exact ⟨v', H, I.kept hk, rv', q _ H G (Gw.refl l) pv⟩
        · rw [if_neg h] at e; cases e
  · rename_i ds
    obtain ⟨v, rfl, p0⟩ := rpOne p
    clear p
    have p := p0
    clear p0
    cases p with
    | tup h1 p1 =>
      rw [Vals.ref1 r]
      cases ds with
      | nil => cases e
      | cons x xs =>
        change (if alikeB (x :: xs) = true then some (PySem.W.minD x xs) else none) = some z at e
        by_cases h : alikeB (x :: xs) = true
        · rw [if_pos h] at e
          cases e
          obtain ⟨a1, a2, a3⟩ := alikeB_iff h
          obtain ⟨its, rv, hl, _⟩ := I.tuple (l.sqt (K := X.K) h1)
          obtain ⟨as, hr⟩ := rp_readsAll I l p1 rv
          refine PySem.W.min_tuple_data (I.ok.hd hc) hl hr a1 (by omega) fun i v h' tk bs e1 r1 hk => ?_
          obtain ⟨v', rv', pv⟩ := item_at (tk := tk) I l p1 rv a2 e1 r1 hk
          exact ⟨v', H, I.kept hk, rv', q _ H G (Gw.refl l) pv⟩
        · rw [if_neg h] at e; cases e
  · obtain ⟨v, v', rfl, p1, p2⟩ := rpTwo p
    cases e
    cases p1
    cases p2
    exact call_min2 hc pins s σ H _ us Q I r ⟨_, _, rfl, q _ H G (Gw.refl l) (.int _)⟩
  · cases e
theorem call_maxP (hc : X.calm = true) (hu : X.A.units + 100 < cLine) : CallR X (.builtin "max") (rC X.K maxD) := by
  intro pins s σ H xs us Q I r ⟨G, ds, z, l, p, e, q⟩
  unfold maxD at e
  split at e
  · rename_i ds
    obtain ⟨v, rfl, p0⟩ := rpOne p
    clear p
    have p := p0
    clear p0
    cases p with
    | lst h1 p1 =>
      rw [Vals.ref1 r]
      cases ds with
      | nil => cases e
      | cons x xs =>
        change (if alikeB (x :: xs) = true then some (PySem.W.maxD x xs) else none) = some z at e
        by_cases h : alikeB (x :: xs) = true
        · rw [if_pos h] at e
          cases e
          obtain ⟨a1, a2, a3⟩ := alikeB_iff h
          obtain ⟨its, rv, hl, _⟩ := I.list (.inl (.inl (l _ _ h1)))
          obtain ⟨as, hr⟩ := rp_readsAll I l p1 rv
          refine PySem.W.max_list_data (I.ok.hd hc) hl.isList hr a1 (by omega) fun i v h' tk bs e1 r1 hk => ?_
          obtain ⟨v', rv', pv⟩ := item_at (tk := tk) I l p1 rv a2 e1 r1 hk
          exact ⟨v', H, I.kept hk, rv', q _ H G (Gw.refl l) pv⟩
        · rw [if_neg h] at e; cases e
  · rename_i ds
    obtain ⟨v, rfl, p0⟩ := rpOne p
    clear p
    have p := p0
    clear p0
    cases p with
    | tup h1 p1 =>
      rw [Vals.ref1 r]
      cases ds with
      | nil => cases e
      | cons x xs =>
        change (if alikeB (x :: xs) = true then some (PySem.W.maxD x xs) else none) = some z at e
        by_cases h : alikeB (x :: xs) = true
        · rw [if_pos h] at e
          cases e
          obtain ⟨a1, a2, a3⟩ := alikeB_iff h
          obtain ⟨its, rv, hl, _⟩ := I.tuple (l.sqt (K := X.K) h1)
          obtain ⟨as, hr⟩ := rp_readsAll I l p1 rv
          refine PySem.W.max_tuple_data (I.ok.hd hc) hl hr a1 (by omega) fun i v h' tk bs e1 r1 hk => ?_
          obtain ⟨v', rv', pv⟩ := item_at (tk := tk) I l p1 rv a2 e1 r1 hk
          exact ⟨v', H, I.kept hk, rv', q _ H G (Gw.refl l) pv⟩
        · rw [if_neg h] at e; cases e
  · obtain ⟨v, v', rfl, p1, p2⟩ := rpTwo p
    cases e
    cases p1
    cases p2
    exact call_max2 hc pins s σ H _ us Q I r ⟨_, _, rfl, q _ H G (Gw.refl l) (.int _)⟩
  · cases e

/-! ### tuple(x), list(x) -/
def tupD : List PyData → Option PyData
  | [.list ds] => some (.tuple ds)
  | [.tuple ds] => some (.tuple ds)
  | _ => none
theorem call_tupP : CallR X (.type "tuple") (rC X.K tupD) := by
  intro pins s σ H xs us Q I r ⟨G, ds, z, l, p, e, q⟩
  unfold tupD at e
  split at e
  · obtain ⟨v, rfl, p0⟩ := rpOne p
    cases e
    cases p0 with
    | lst h1 p1 => exact call_tuple_of pins s σ H _ us Q I r ⟨_, _, rfl, .inl ⟨.inl (.inl (l _ _ h1)), fun a ha => q _ _ _ (Gw.new l ha) (.tup (.inl (.inl upd_same)) (RpAll.mono (Gw.new l ha).g p1))⟩⟩
  · obtain ⟨v, rfl, p0⟩ := rpOne p
    cases e
    cases p0 with
    | tup h1 p1 => exact call_tuple_of pins s σ H _ us Q I r ⟨_, _, rfl, .inr ⟨l.sqt h1, q _ H G (Gw.refl l) (.tup h1 p1)⟩⟩
  · cases e
def listD : List PyData → Option PyData
  | [.list ds] => some (.list ds)
  | [.tuple ds] => some (.list ds)
  | _ => none
theorem call_listP : CallR X (.type "list") (rC X.K listD) := by
  intro pins s σ H xs us Q I r ⟨G, ds, z, l, p, e, q⟩
  unfold listD at e
  split at e
  · obtain ⟨v, rfl, p0⟩ := rpOne p
    cases e
    cases p0 with
    | lst h1 p1 => exact call_list_of pins s σ H _ us Q I r ⟨_, _, rfl, .inl (.inl (.inl (l _ _ h1))), fun a ha => q _ _ _ (Gw.new l ha) (.lst upd_same (RpAll.mono (Gw.new l ha).g p1))⟩
  · obtain ⟨v, rfl, p0⟩ := rpOne p
    cases e
    cases p0 with
    | tup h1 p1 => exact call_list_of pins s σ H _ us Q I r ⟨_, _, rfl, .inr (l.sqt h1), fun a ha => q _ _ _ (Gw.new l ha) (.lst upd_same (RpAll.mono (Gw.new l ha).g p1))⟩
  · cases e
end
end DL
end L2

/-! DL, part eleven: read from behind. -/
namespace L2
namespace DL
open PySem PySem.Spec PyProof.Rows

section
variable {prog : Program} {w : World} {A : Around} {E : Value → Shared → Prop} {s : Shared}
theorem places_rev (n : Nat) : Builtin.Slice.slicePlaces ((n : Int) - 1) (-1) (-1) = n := by
  unfold Builtin.Slice.slicePlaces
  have h1 : ¬ ((-1 : Int) > 0) := by decide
  have h2 : (-(-1) : Int) = 1 := by decide
  simp only [h1, if_false, h2, Int.ediv_one]
  split <;> omega
theorem applied_rev {sl : Addr} {n : Nat} {t : Tok} {Q : Int × Int × Nat → Shared → Prop} (hs : s.heap.IsSliceOf sl .none .none (.int (-1) t)) (h : Q ((n : Int) - 1, -1, n) s) : wpAny (model prog w) A (Builtin.Slice.sliceApplied (.ref sl) (pure (n : Int))) Q E s := by
  obtain ⟨os, ho, hc, hd⟩ := id hs
  unfold Builtin.Slice.sliceApplied Builtin.Slice.sliceFields
  refine wpAny_bind (wpAny_bind (wpAny_field ho hd (x := Value.none) rfl (wpAny_bind (wpAny_field ho hd (x := Value.none) rfl (wpAny_bind (wpAny_field ho hd (x := Value.int (-1) t) rfl (wpAny_pure ?_)))))))
  refine wpAny_bind (slicePart_int ?_)
  show wpAny _ _ (if ((-1 : Int) == 0) = true then _ else _) _ _ s
  rw [if_neg (show ¬ ((-1 : Int) == 0) = true by decide)]
  refine wpAny_bind (slicePart_none (wpAny_bind (slicePart_none (wpAny_bind (wpAny_pure ?_)))))
  show wpAny _ _ (pure ((n : Int) - 1, (-1 : Int), Builtin.Slice.slicePlaces ((n : Int) - 1) (-1) (-1))) _ _ s
  rw [places_rev]
  exact wpAny_pure h
theorem pick_rev (xs : Array Value) : ((List.range xs.size).filterMap fun (m : Nat) => xs[(((xs.size : Nat) : Int) - 1 + (m : Int) * -1).toNat]?).toArray = xs.toList.reverse.toArray := by
  have e1 : ((List.range xs.size).filterMap fun (m : Nat) => xs[(((xs.size : Nat) : Int) - 1 + (m : Int) * -1).toNat]?) = ((List.range xs.size).map fun (m : Nat) => (((xs.size : Nat) : Int) - 1 + (m : Int) * -1).toNat).filterMap (xs[·]?) := by
    rw [List.filterMap_map]
    rfl
  have e2 : ((List.range xs.size).map fun (m : Nat) => (((xs.size : Nat) : Int) - 1 + (m : Int) * -1).toNat) = (List.range xs.size).reverse := by
    rw [← PySem.W.krv_range]
    apply List.map_congr_left
    intro k hk
    have := List.mem_range.mp hk
    omega
  rw [e1, e2, List.filterMap_reverse, PySem.W.krv_all]
theorem getItem_tuple_rev {t sl : Addr} {items : Array Value} {tk : Tok} {Q : Value → Shared → Prop} (ht : IsTup s.heap t items) (hs : s.heap.IsSliceOf sl .none .none (.int (-1) tk))
    (h : Q (.ref s.heap.objs.size) { s with heap := s.heap.push { cls := .type "tuple", data := .seq items.toList.reverse.toArray } }) (hsz : items.size ≤ sizeLine) : wpAny (model prog w) A (getItem (.ref t) (.ref sl)) Q E s := by
  have htake : sizeOk (.seq items.toList.reverse.toArray) := by
    show items.toList.reverse.toArray.size ≤ sizeLine
    rw [List.size_toArray, List.length_reverse, Array.length_toList]
    exact hsz
  obtain ⟨os, ho, hc, hd⟩ := id hs
  have hT : s.TypeIs (.ref sl) "slice" := ⟨os, ho, hc⟩
  unfold getItem
  try with_reducible refine wpAny_holding ?_
  first | refine wpAny_bind (wpAny_pure ?_) | skip
  refine wpAny_bind (wpAny_sequenceKey ht.typeIs (by decide) (wpAny_bind (wpAny_callSpecial?_slot (name := Str.ofString "__getitem__") ht.typeIs PyProof.Rows.slot_tuple_getitem (wpAny_call_entry PyProof.Rows.slot_tuple_getitem ht.typeIs entry_tuple_getitem ?_ (args_tuple_getitem _ _)))))
  show wpAny _ _ (Builtin.Tuple.tupleItemsOf (.ref t) >>= _) _ _ s
  refine wpAny_bind (tupleItemsOf_ ht (wpAny_bind (wpAny_typeOf hT ?_)))
  rw [if_pos (by decide)]
  refine wpAny_bind (applied_rev hs ?_)
  have hno : ¬ ((((items.size : Nat) : Int) - 1 == 0 && (-1 : Int) == 1 && items.size == items.size) = true) := by
    intro q
    rw [Bool.and_eq_true, Bool.and_eq_true] at q
    exact absurd q.1.2 (by decide)
  show wpAny _ _ (if (((items.size : Nat) : Int) - 1 == 0 && (-1 : Int) == 1 && items.size == items.size) = true then _ else _) _ _ s
  rw [if_neg hno, pick_rev]
  first
    | exact wpAny_bind (m := Builtin.Tuple.tupleExact _) (wpAny_newObj_type (wpAny_pure ⟨_, rfl, wpAny_pure h⟩) htake)
    | exact wpAny_bind (m := Builtin.Tuple.tupleExact _) (wpAny_newObj_type (wpAny_bind (wpAny_pure (wpAny_pure ⟨_, rfl, wpAny_pure h⟩))) htake)
    | exact wpAny_bind (wpAny_bind (m := Builtin.Tuple.tupleExact _) (wpAny_newObj_type (wpAny_pure (wpAny_pure ⟨_, rfl, wpAny_pure h⟩)) htake))
    | exact wpAny_bind (wpAny_bind (m := Builtin.Tuple.tupleExact _) (wpAny_newObj_type (wpAny_pure ⟨_, rfl, wpAny_pure h⟩) htake))
end
def revS (x : Str) : Str := ⟨x.cps.toList.reverse.toArray⟩
theorem picked_rev (x : Str) (tk : Tok) : ((slicePicked x none none (some (-1, tk))).filterMap (x.cps[·]?)).toArray = x.cps.toList.reverse.toArray := by
  have h := PySem.W.krv_sliceRange x.cps.size
  have e : slicePicked x none none (some (-1, tk)) = sliceRange ((x.cps.size : Int) - 1) (-1) (-1) := rfl
  rw [e, h, PySem.W.krv_range, List.filterMap_reverse]
  have h2 : (List.range x.cps.size).filterMap (x.cps[·]?) = x.cps.toList := PySem.W.krv_all x.cps
  rw [h2]
def revD : PyData → Option PyData
  | .list xs => some (.list xs.reverse)
  | .tuple xs => some (.tuple xs.reverse)
  | .str x => if x.length ≤ sizeLine then some (.str (revS x)) else none
  | _ => none
section
variable {X : Cx} {W : WX} {e : Expr} {pos p1 p2 p3 : Pos} {k : Nat}
theorem pe_rev {te : TE} (he : PE X e te) : PE X (.Subscript e (.Slice none none (some (.UnaryOp .USub (.Constant (.int 1) k p1) p2)) p3) pos) (fun σ H Q => te σ H fun x H1 => rU1 X.K revD x H1 Q) := by
  refine ⟨fun pins s σ H Q I h => Subscript_ (thn (he.run pins s σ H _ I h) fun v s1 ⟨x, H1, I1, r1, q1⟩ => ?_)⟩
  have hst : PO X (some (.UnaryOp .USub (.Constant (.int 1) k p1) p2)) (tPart (tUn (rU fun i => .int (-i)) (tC (.int 1)))) := po_some (pe_un un_neg pe_int)
  refine wpAny_Slice (thn (po_none.run pins s1 σ H1 (fun o H2 => o = none ∧ H2 = H1) I1 ⟨rfl, rfl⟩) fun vl s2 ⟨l, H2, I2, pl, el, e2⟩ => ?_)
  subst el e2
  refine thn (po_none.run pins s2 σ H2 (fun o H3 => o = none ∧ H3 = H2) I2 ⟨rfl, rfl⟩) fun vu s3 ⟨u, H3, I3, pu, eu, e3⟩ => ?_
  subst eu e3
  refine thn (hst.run pins s3 σ H3 (fun o H4 => o = some (-1) ∧ H4 = H3) I3 ⟨1, rfl, -1, rfl, rfl, rfl⟩) fun vs s4 ⟨o, H4, I4, ps, eo, e4⟩ => ?_
  subst eo e4
  cases pl
  cases pu
  cases ps with
  | int _ tk =>
  have I5 : Inv X pins σ H4 { s4 with heap := s4.heap.push { cls := .type "slice", data := .fields #[Value.none, Value.none, Value.int (-1) tk] } } := I4.kept (t' := s4.toks) fun b ob q => Heap.get?_push_of_some _ q
  have hs := Heap.IsSliceOf.new s4.heap Value.none Value.none (Value.int (-1) tk)
  show wpAny (model X.prog X.w) X.A (subscriptTail e (.Slice none none (some (.UnaryOp .USub (.Constant (.int 1) k p1) p2)) p3) v (.ref s4.heap.objs.size)) (EP X pins σ Q) X.xe { s4 with heap := s4.heap.push { cls := .type "slice", data := .fields #[Value.none, Value.none, Value.int (-1) tk] } }
  obtain ⟨G, dx, z, l, px, ez, q⟩ := q1
  unfold revD at ez
  split at ez
  · cases ez
    cases px with
    | lst h1 p1 =>
      cases r1
      obtain ⟨its, r, ht, hz⟩ := I5.list (.inl (.inl (l _ _ h1)))
      have hlen := r.length
      refine tail_any (ops := [.ref _, .ref s4.heap.objs.size]) ht.isList.typeIs (PySem.slot_list_getitem.lookup) ?_ (by with_unfolding_all rfl)
      refine wpAny_getItem_list_slice ht.isList hs .none .none (.int (-1) tk) (by decide) ?_ (by rw [List.size_toArray]; omega)
      rw [PySem.W.krv_pick]
      have hl : ∀ {xs : List V} (hx : xs.length ≤ sizeLine) (r : Vals xs its) {p : Addr} (hp : H4 p = none), True := fun _ _ _ _ => trivial
      refine ⟨.ref _, _, I5.laid (t' := s4.toks) (o := .lst _) (fun b ob q => Heap.get?_push_of_some _ q) (Nat.le_refl _) ?_, rfl, q _ _ _ (Gw.new l (I5.hok.fresh (Nat.le_refl _))) (.lst upd_same (RpAll.mono (Gw.new l (I5.hok.fresh (Nat.le_refl _))).g p1.reverse))⟩
      exact ⟨by rw [List.length_reverse]; exact hz, _, 0, r.reverse, Heap.get?_push_size _ rfl⟩
  · cases ez
    cases px with
    | tup h1 p1 =>
      cases r1
      obtain ⟨its, r, ht, hz⟩ := I5.tuple (l.sqt (K := X.K) h1)
      have hlen := r.length
      refine tail_any (ops := [.ref _, .ref s4.heap.objs.size]) ht.typeIs (PyProof.Rows.slot_tuple_getitem.lookup) ?_ (by with_unfolding_all rfl)
      refine getItem_tuple_rev ht hs ?_ (by rw [List.size_toArray]; omega)
      refine ⟨.ref _, _, I5.laid (t' := s4.toks) (o := .tup _) (fun b ob q => Heap.get?_push_of_some _ q) (Nat.le_refl _) ?_, rfl, q _ _ _ (Gw.new l (I5.hok.fresh (Nat.le_refl _))) (.tup (.inl (.inl upd_same)) (RpAll.mono (Gw.new l (I5.hok.fresh (Nat.le_refl _))).g p1.reverse))⟩
      exact ⟨by rw [List.length_reverse]; exact hz, _, r.reverse, IsTup.new _ _⟩
  · rename_i x
    by_cases hx : x.length ≤ sizeLine
    · rw [if_pos hx] at ez
      cases ez
      cases px
      obtain ⟨t, rfl⟩ := r1
      refine tail_any (ops := [.str x t, .ref s4.heap.objs.size]) (typeIs_str _ _ _) F.slot_str_getitem.lookup ?_ (by with_unfolding_all rfl)
      obtain ⟨os, ho, hc, hd⟩ := hs
      refine wpAny_getItem_str_slice (l := none) (u := none) (st := some (-1, tk)) ⟨os, ho, hc, hd⟩ (by simp) ?_
      have hno : ¬ (((-1 : Int) == 1 && (slicePicked x none none (some (-1, tk))).length == x.length) = true) := by
        intro q
        rw [Bool.and_eq_true] at q
        exact absurd q.1 (by decide)
      show Made.post (if ((-1 : Int) == 1 && (slicePicked x none none (some (-1, tk))).length == x.length) = true then _ else _) _ _
      rw [if_neg hno, picked_rev]
      refine ⟨?_, .str _, H4, I5.tok _, ⟨_, rfl⟩, q _ H4 G (Gw.refl l) (.str _)⟩
      show (x.cps.toList.reverse.toArray).size ≤ sizeLine
      rw [List.size_toArray, List.length_reverse, Array.length_toList]
      exact hx
    · rw [if_neg hx] at ez; cases ez
  · cases ez
theorem vp_rev {f : M PyData} (he : VP X W e f) : VP X W (.Subscript e (.Slice none none (some (.UnaryOp .USub (.Constant (.int 1) k p1) p2)) p3) pos) (f >>= fun x => ofO (revD x)) :=
  (pe_rev he).imp fun σ H Q h => by
    obtain ⟨G, L, c, r, q⟩ := h
    refine ⟨G, L, c, r, At.bind wdP r q fun x v c1 H1 G1 L1 _ r1 _ p q1 => ?_⟩
    obtain ⟨z, ez, q3⟩ := At.opt q1
    exact ⟨G1, x, z, r1.sub, p, ez, At.gwP r1 q3⟩
end
end DL
end L2

/-! DL, part twelve: enumerate and zip of lists, tuples, texts. -/
namespace L2
namespace DL
open PySem PySem.Spec PyProof.Rows

/-- what is drawn from -/
inductive Sr where
  | l (a : Addr) (vs : List V)
  | t (a : Addr) (vs : List V)
  | s (x : Str) (k : Tok)
def Sr.vals : Sr → List V
  | .l _ vs => vs
  | .t _ vs => vs
  | .s x _ => x.cps.toList.map fun c => V.str ⟨#[c]⟩
def Sr.val : Sr → Value
  | .l a _ => .ref a
  | .t a _ => .ref a
  | .s x k => .str x k
def Sr.ex : Sr → List Addr
  | .l a _ => [a]
  | .t a _ => [a]
  | .s _ _ => []
def Sr.itO : Sr → Obj
  | .l a _ => { cls := .type "list_iterator", data := .fields #[.ref a, .int 0 0] }
  | .t a _ => { cls := .type "tuple_iterator", data := .fields #[.ref a, .int 0 0] }
  | .s x k => { cls := .type (strIterType x), data := .fields #[.str x k, .int 0 0] }
def Sr.has (K : PySem.W.Frag) (H : Hp) : Sr → Prop
  | .l a vs => SqL K H a vs
  | .t a vs => SqT K H a vs
  | .s _ _ => True
def Sr.own (S : Sr) (it : Addr) (i : Nat) (h : Heap) : Prop := match S with
  | .l a _ => h.IsListIter it a i
  | .t a _ => h.IsTupleIter it a i
  | .s x k => h.IsStrIter it (strIterType x) x k i
theorem Sr.own_new (S : Sr) {it : Addr} {h : Heap} (e : h.get? it = some S.itO) : S.own it 0 h := by
  cases S with
  | l a vs => exact ⟨_, e, rfl, rfl⟩
  | t a vs => exact ⟨_, e, rfl, rfl⟩
  | s x k => exact ⟨_, e, rfl, rfl⟩
theorem Sr.own_keep (S : Sr) {it : Addr} {i : Nat} {h h' : Heap} (st : S.own it i h) (k : ∀ o, h.get? it = some o → h'.get? it = some o) : S.own it i h' := by
  cases S with
  | l a vs => obtain ⟨o, e, c, d⟩ := st; exact ⟨o, k o e, c, d⟩
  | t a vs => obtain ⟨o, e, c, d⟩ := st; exact ⟨o, k o e, c, d⟩
  | s x t => obtain ⟨o, e, c, d⟩ := st; exact ⟨o, k o e, c, d⟩
theorem Sr.own_obj (S : Sr) {it : Addr} {i : Nat} {h : Heap} (st : S.own it i h) : ∃ o, h.get? it = some o ∧ ∀ v, o.data ≠ .cell v := by
  cases S with
  | l a vs => obtain ⟨o, e, c, d⟩ := st; exact ⟨o, e, fun v q => by rw [d] at q; cases q⟩
  | t a vs => obtain ⟨o, e, c, d⟩ := st; exact ⟨o, e, fun v q => by rw [d] at q; cases q⟩
  | s x k => obtain ⟨o, e, c, d⟩ := st; exact ⟨o, e, fun v q => by rw [d] at q; cases q⟩
section
variable {X : Cx} {pins : List (Addr × Obj)} {σ : St} {H G : Hp} {s : Shared}
theorem Sr.begins (S : Sr) (I : Inv X pins σ H s) (h : S.has X.K H) : ∃ HP : Heap → Prop, Begins S.val S.itO HP ∧ HP s.heap := by
  cases S with
  | l a vs =>
    obtain ⟨its, rv, p, _⟩ := I.list h
    exact ⟨_, begins_list a its.toArray, p.isList⟩
  | t a vs =>
    obtain ⟨its, rv, p, _⟩ := I.tuple h
    exact ⟨_, begins_tuple a its.toArray, p⟩
  | s x k => exact ⟨_, begins_text x k, trivial⟩
theorem Sr.lt (S : Sr) (I : Inv X pins σ H s) (h : S.has X.K H) : ∀ b ∈ S.ex, b < s.heap.objs.size := by
  intro b hb
  cases S with
  | l a vs =>
    obtain ⟨its, rv, p, _⟩ := I.list h
    rw [List.mem_singleton.mp hb]
    exact p.lt
  | t a vs =>
    obtain ⟨its, rv, ⟨o, e, _⟩, _⟩ := I.tuple h
    rw [List.mem_singleton.mp hb]
    exact Heap.lt_size e
  | s x k => cases hb
theorem vals_at {vs : List V} {its : List Value} (rv : Vals vs its) {i : Nat} {u : Value} (e : its.toArray[i]? = some u) : ∃ v, vs[i]? = some v ∧ RelV v u := vals_get rv (by simpa using e)
theorem Sr.draws {A : Around} (S : Sr) {it : Addr} (hh : A.handled = none) (I : Inv X pins σ H s) (h : S.has X.K H) (hne : it ∉ S.ex) :
    ∃ P St, Draws X.prog X.w A it (it :: S.ex) S.vals.length P St ∧ (∀ i, S.own it i s.heap → St i s.heap) ∧ (∀ i h, St i h → S.own it i h) ∧ ∀ i u, P i u → ∃ v, S.vals[i]? = some v ∧ RelV v u := by
  cases S with
  | l a vs =>
    obtain ⟨its, rv, p, _⟩ := I.list h
    have D := Draws.list (prog := X.prog) (w := X.w) hh it a (fun e => hne (by rw [e]; exact List.mem_singleton.mpr rfl)) its.toArray
    have e : its.toArray.size = (Sr.l a vs).vals.length := by rw [List.size_toArray]; exact rv.length.symm
    rw [e] at D
    exact ⟨_, _, D, fun i o => ⟨o, p.isList⟩, fun i h st => st.1, fun i u q => vals_at rv q⟩
  | t a vs =>
    obtain ⟨its, rv, p, _⟩ := I.tuple h
    have D := Draws.tuple (prog := X.prog) (w := X.w) hh it a (fun e => hne (by rw [e]; exact List.mem_singleton.mpr rfl)) its.toArray
    have e : its.toArray.size = (Sr.t a vs).vals.length := by rw [List.size_toArray]; exact rv.length.symm
    rw [e] at D
    exact ⟨_, _, D, fun i o => ⟨o, p⟩, fun i h st => st.1, fun i u q => vals_at rv q⟩
  | s x k =>
    have D := Draws.text (prog := X.prog) (w := X.w) hh it x k
    have e : x.cps.size = (Sr.s x k).vals.length := by simp [Sr.vals]
    rw [e] at D
    exact ⟨_, _, D, fun i o => o, fun i h st => st, fun i u ⟨c, tk1, ec, eu⟩ => ⟨.str ⟨#[c]⟩, by simp [Sr.vals, ec], tk1, eu⟩⟩
end

/-! ### enumerate -/
def Itee (K : PySem.W.Frag) (S : Sr) : It := ⟨fun i H => S.has K H ∧ i < S.vals.length, fun i H v H' => ∃ T x, v = .ref T ∧ H T = none ∧ H' = upd H T (.tup [.int (i : Nat), x]) ∧ S.vals[i]? = some x, fun i H => S.has K H ∧ S.vals.length ≤ i⟩
theorem turn_enumS {P : Program} {w : World} {K : PySem.W.Frag} {elts : List Expr} {kk : Nat} {tpos : Pos} (S : Sr) (e it : Addr) (hei : e ≠ it) (hie : it ∉ S.ex) (hee : e ∉ S.ex) :
    Turn P w K (.Tuple elts kk tpos) (Itee K S) [e, it] e (fun i h => (∃ old, IsEnum h e it (0 + ((i : Nat) : Int)) old) ∧ S.own it i h ∧ i ≤ S.vals.length) where
  mem := by simp
  obj := fun i h st b hb => by
    obtain ⟨⟨old, he⟩, st, _⟩ := st
    have e' : b = e ∨ b = it := by simpa using hb
    rcases e' with z | z
    · rw [z]; exact ⟨_, he, fun v q => nomatch q⟩
    · rw [z]; exact S.own_obj st
  keep := fun i h h' st k => let ⟨⟨old, he⟩, hi, hn⟩ := st; ⟨⟨old, k e (by simp) _ he⟩, S.own_keep hi fun o q => k it (by simp) o q, hn⟩
  item := by
    intro X hP hw hK hc i pins s σ H E I hf st hg
    subst hP hw hK
    obtain ⟨he, hit, hle⟩ := st
    obtain ⟨P1, St, D, h1, h2, h3⟩ := S.draws (A := X.A.in1) (I.ok.hd hc) I hg.1 hie
    have Wk := GoesN.enumFrom (elts := elts) (x1 := kk) (pos := tpos) 0 D e hei (fun hm => (List.mem_cons.mp hm).elim hei hee) (List.mem_cons_self ..)
    refine Wk.goes i s _ E hg.2 ⟨he, h1 i hit⟩ fun v h' tk y st' hk htk => ?_
    obtain ⟨T, t, x, ev, hn, hx, hT⟩ := y
    obtain ⟨he', st'⟩ := st'
    obtain ⟨y, ey, ry⟩ := h3 i x hx
    subst ev
    have new : ObjOk X.prog X.w (upd H T (.tup [.int (i : Nat), y])) h' T (.tup [.int (i : Nat), y]) := by
      rw [Int.zero_add] at hT
      exact ⟨by show 2 ≤ sizeLine; decide, [.int i t, x], .cons ⟨_, rfl⟩ (.cons ry .nil), hT⟩
    have I1 : Inv X pins σ (upd H T (.tup [.int (i : Nat), y])) { s with heap := h', toks := tk } := I.turnedNew (ch := [e, it]) (fun b ob hb q => hk b ob hb q) hf hn new
    refine ⟨.ref T, _, I1, rfl, ⟨_, y, rfl, I.hok.fresh hn, rfl, ey⟩, ⟨he', h2 _ _ st', hg.2⟩, fun b hb => ?_⟩
    obtain ⟨old, he⟩ := he
    have hb' : b < s.heap.objs.size := by
      have e' : b = e ∨ b = it := by simpa using hb
      rcases e' with z | z
      · rw [z]; exact Heap.lt_size he
      · rw [z]; obtain ⟨_, q, _⟩ := S.own_obj hit; exact Heap.lt_size q
    rw [upd_ne (Nat.ne_of_lt (Nat.lt_of_lt_of_le hb' hn))]
    exact (hf b hb).1
  done := by
    intro X hP hw hK hc i pins s σ H E I hf st hg
    subst hP hw hK
    obtain ⟨he, hit, hle⟩ := st
    obtain ⟨P1, St, D, h1, h2, h3⟩ := S.draws (A := X.A.in1) (I.ok.hd hc) I hg.1 hie
    obtain rfl : i = S.vals.length := Nat.le_antisymm hle hg.2
    have Wk := GoesN.enumFrom (elts := elts) (x1 := kk) (pos := tpos) 0 D e hei (fun hm => (List.mem_cons.mp hm).elim hei hee) (List.mem_cons_self ..)
    exact Wk.stops s _ E ⟨he, h1 _ hit⟩ fun h' tk hk htk => I.turnedL (t' := tk) (ch := [e, it]) (fun b o hb q => hk b o hb q) hf
  self := fun A i s Q E st h => let ⟨⟨_, he⟩, _⟩ := st; wpAny_pyIter_enum he h
section
theorem meets_enum1 {v : Value} {o : Obj} {HP : Heap → Prop} (B : Begins v o HP) :
    Meets (Builtin.«enumerate.__new__» ⟨[.type "enumerate", v], []⟩) (fun _ R s => HP s.heap ∧
      R (.ok (.ret (.ref (s.heap.push o).objs.size))) { s with heap := (s.heap.push o).push { cls := .type "enumerate", data := .fields #[.none, .bool false, .ref s.heap.objs.size, rawInt 0, .none, .none] } }) :=
  .of_wp fun prog w A R s h => by
    obtain ⟨hp, g, d, tk, os⟩ := s
    obtain ⟨h1, h⟩ := h
    have hsub := sub_enumerate
    have walk1 : ∀ {A' : Around} {E : Value → Shared → Prop} {Q : Value → Shared → Prop}, Q (.ref hp.objs.size) ⟨hp.push o, g, d, tk, os⟩ → wpAny (model prog w) A' (pyIter v) Q E ⟨hp, g, d, tk, os⟩ :=
      fun q => B.iter prog w _ _ ⟨hp, g, d, tk, os⟩ _ h1 q
    wp_walk
    refine wpAny_stack_any fun st => wpAny_pure ?_
    split
    · rename_i c _ _ _ _ _
      cases (c == Value.type "enumerate")
      · wp_walk using walk1
        exact ⟨_, rfl, h⟩
      · wp_walk using walk1
        exact ⟨_, rfl, h⟩
    · wp_walk using walk1
      exact ⟨_, rfl, h⟩
variable {prog : Program} {w : World} {A : Around} {E : Value → Shared → Prop} {s : Shared}
theorem enum_begin1 {v : Value} {o : Obj} {HP : Heap → Prop} {Q : Value → Shared → Prop} (B : Begins v o HP) (h1 : HP s.heap)
    (h : ∀ h', IsEnum h' (s.heap.objs.size + 1) s.heap.objs.size 0 .none → h'.get? s.heap.objs.size = some o → h'.objs.size = s.heap.objs.size + 2 → (∀ b o, s.heap.get? b = some o → h'.get? b = some o) → Q (.ref (s.heap.objs.size + 1)) { s with heap := h' }) :
    wpAny (model prog w) A (call (.type "enumerate") [v]) Q E s := by
  refine callType_new F.called_enumerate (by decide) (F.typeCall_enumerate_1 _) (F.newCall_enumerate_1 _) (fun obj => F.args_object_init_2 obj _) F.entry_enumerate_new (meets_enum1 B) ⟨h1, ?_⟩
  have hz : (s.heap.push o).objs.size = s.heap.objs.size + 1 := Heap.size_push ..
  show _ ∧ _
  rw [hz]
  have he : IsEnum ((s.heap.push o).push { cls := .type "enumerate", data := .fields #[.none, .bool false, .ref s.heap.objs.size, rawInt 0, .none, .none] }) (s.heap.objs.size + 1) s.heap.objs.size 0 .none := by
    have z := Heap.get?_push_size (s.heap.push o) (o := { cls := .type "enumerate", data := .fields #[.none, .bool false, .ref s.heap.objs.size, rawInt 0, .none, .none] }) rfl
    rw [hz] at z; exact z
  exact ⟨⟨_, he, rfl⟩, h _ he (Heap.get?_push_of_some _ (Heap.get?_push_size _ B.free)) (by rw [Heap.size_push, hz]) fun b o x => Heap.get?_push_of_some _ (Heap.get?_push_of_some _ x)⟩
end
theorem rp_signs {K : PySem.W.Frag} {G : Hp} (x : Str) : RpAll K G (x.cps.toList.map fun c => V.str ⟨#[c]⟩) (signs x) := by
  unfold signs
  induction x.cps.toList with
  | nil => exact .nil
  | cons c cs ih => exact .cons (.str _) ih
theorem Sr.of {K : PySem.W.Frag} {G : Hp} {v : V} {u : Value} {x : PyData} {xs : List PyData} (p : Rp K G v x) (r : RelV v u) (e : itemsO x = some xs) : ∃ S : Sr, S.val = u ∧ RpAll K G S.vals xs ∧ ∀ H, Le G H → S.has K H := by
  cases p with
  | lst h ps => cases e; cases r; exact ⟨.l _ _, rfl, ps, fun H l => .inl (.inl (l _ _ h))⟩
  | tup h ps => cases e; cases r; exact ⟨.t _ _, rfl, ps, fun H l => l.sqt h⟩
  | str x => cases e; obtain ⟨tk1, rfl⟩ := r; exact ⟨.s x tk1, rfl, rp_signs x, fun H l => trivial⟩
  | _ => cases e
def enumL : Nat → List PyData → List PyData
  | _, [] => []
  | n, x :: xs => .tuple [.int (n : Nat), x] :: enumL (n + 1) xs
theorem enumL_get : ∀ (xs : List PyData) (n i : Nat), (enumL n xs)[i]? = xs[i]?.map fun x => PyData.tuple [.int ((n + i : Nat) : Int), x]
  | [], n, i => by simp [enumL]
  | x :: xs, n, 0 => by simp [enumL]
  | x :: xs, n, i + 1 => by
    show (enumL (n + 1) xs)[i]? = _
    rw [enumL_get xs (n + 1) i]
    have e : n + 1 + i = n + (i + 1) := by omega
    rw [e]
    rfl
theorem enumL_length : ∀ (xs : List PyData) (n : Nat), (enumL n xs).length = xs.length
  | [], _ => rfl
  | x :: xs, n => by
    show (enumL (n + 1) xs).length + 1 = _
    rw [enumL_length xs (n + 1)]
    rfl
def enumO : List PyData → Option (List PyData)
  | [x] => (itemsO x).map (enumL 0)
  | _ => none
theorem serves_enum {K : PySem.W.Frag} {G : Hp} {S : Sr} {xs : List PyData} (ps : RpAll K G S.vals xs) (hs : ∀ H, Le G H → S.has K H) : Serves K G (Itee K S) (enumL 0 xs) where
  go := fun H' G' i l1 l2 hi => ⟨hs H' (l1.trans l2), by rw [RpAll.length ps]; rw [enumL_length] at hi; exact hi⟩
  stop := fun H' G' i l1 l2 hi => ⟨hs H' (l1.trans l2), by rw [RpAll.length ps]; rw [enumL_length] at hi; exact hi⟩
  yld := fun H' G' i v H'' l1 l2 hi y => by
    obtain ⟨T, x, rfl, hT, rfl, ex⟩ := y
    obtain ⟨d, ed, pd⟩ := RpAll.get' ps ex
    refine ⟨_, .tuple [.int (i : Nat), d], by rw [enumL_get, ed, Nat.zero_add]; rfl, Gw.new l2 hT, .tup (.inl (.inl upd_same)) (.cons (.int _) (.cons (pd.mono (l1.trans (Gw.new l2 hT).g)) .nil))⟩
section
variable {X : Cx} {W : WX} {e : Expr} {p pos tpos : Pos} {elts : List Expr} {kk : Nat}
theorem vi_enum {f : M (List PyData)} (hc : X.calm = true) (hg : Gl X "enumerate") (hm : X.mg "enumerate" = none) (ha : VA X W [e] f) (hs : starEach [e] X.env = [(false, eval e X.env)] := by rfl) :
    VI X W (.Tuple elts kk tpos) (.Call (.Name "enumerate" p) [e] [] pos) (f >>= fun xs => ofO (enumO xs)) := by
  refine ⟨fun pins s σ H R I ⟨G, L, c, r, q⟩ => ?_⟩
  refine Call_ (ld_blt I hg hm boot_enumerate (PyProof.Rows.callWith_type1 (thn (ha.run pos pins s σ H (fun vs H1 => ∃ G1 L1 c1 xs, Rl X.K σ H1 G1 L1 c1 ∧ RpAll X.K G1 vs xs ∧ At X W rI (ofO (enumO xs)) σ H1 G1 L1 c1 R) I
    ⟨G, L, c, r, At.bind (ρ := rPs) wdI r q fun xs vs c1 H1 G1 L1 _ r1 _ p q1 => ⟨G1, L1, c1, xs, r1, p, q1⟩⟩) fun us s1 ⟨vs, H1, I1, rv, G1, L1, c1, xs, r1, ps, q1⟩ => ?_) hs rfl))
  obtain ⟨ys, ey, q2⟩ := At.opt q1
  unfold enumO at ey
  split at ey
  · rename_i x
    obtain ⟨v, rfl, px⟩ := rpOne ps
    obtain ⟨u, rfl, ru⟩ := vals1 rv
    cases ei : itemsO x with
    | none => rw [ei] at ey; cases ey
    | some zs =>
      rw [ei] at ey
      cases ey
      obtain ⟨S, rfl, pS, hS⟩ := Sr.of px ru ei
      have hH := hS H1 r1.sub
      obtain ⟨HP, B, b0⟩ := S.begins I1 hH
      refine enum_begin1 B b0 fun h' he hit hsz hk => wpAny_pyIter_enum he ?_
      have I2 : Inv X pins σ H1 { s1 with heap := h' } := I1.kept (t' := s1.toks) hk
      have lt := S.lt I1 hH
      refine ⟨s1.heap.objs.size + 1, [s1.heap.objs.size + 1, s1.heap.objs.size], _, _, H1, rfl, I2, turn_enumS S (s1.heap.objs.size + 1) s1.heap.objs.size (Nat.succ_ne_self _) (fun hm => absurd (lt _ hm) (Nat.lt_irrefl _)) (fun hm => absurd (lt _ hm) (Nat.not_lt.mpr (Nat.le_succ _))), ⟨⟨.none, he⟩, S.own_new hit, Nat.zero_le _⟩, fun b hb => ?_, At.fin (ρ := rI) r1 q2 (serves_enum pS hS)⟩
      have e' : b = s1.heap.objs.size + 1 ∨ b = s1.heap.objs.size := by simpa using hb
      have hle : s1.heap.objs.size ≤ b := by
        rcases e' with z | z
        · rw [z]; exact Nat.le_add_right _ _
        · rw [z]; exact Nat.le_refl _
      exact I1.fpOk hle (I1.hok.fresh hle)
  · cases ey
end

/-! ### zip -/
def Itzz (K : PySem.W.Frag) (S S2 : Sr) : It := ⟨fun i H => (S.has K H ∧ S2.has K H) ∧ i < min S.vals.length S2.vals.length, fun i H v H' => ∃ T x y, v = .ref T ∧ H T = none ∧ H' = upd H T (.tup [x, y]) ∧ S.vals[i]? = some x ∧ S2.vals[i]? = some y, fun i H => (S.has K H ∧ S2.has K H) ∧ min S.vals.length S2.vals.length ≤ i⟩
theorem turn_zipS {P : Program} {w : World} {K : PySem.W.Frag} {elts : List Expr} {kk : Nat} {tpos : Pos} (S S2 : Sr) {z TI TO i1 i2 : Addr} (D : ZipSep2 z TI TO i1 i2 (i1 :: S.ex) (i2 :: S2.ex)) (h1 : i1 ∉ S.ex) (h2 : i2 ∉ S2.ex) :
    Turn P w K (.Tuple elts kk tpos) (Itzz K S S2) [z, TI, TO, i1, i2] z (fun i h => IsZip h z TI TO .none ∧ IsTupOf2 h TI (.ref i1) (.ref i2) ∧ (∃ x y, IsTupOf2 h TO x y) ∧ S.own i1 i h ∧ S2.own i2 i h ∧ i ≤ min S.vals.length S2.vals.length) where
  mem := by simp
  obj := fun i h st c hc => by
    obtain ⟨hz, hTI, ⟨x, y, hTO⟩, o1, o2, _⟩ := st
    have e' : c = z ∨ c = TI ∨ c = TO ∨ c = i1 ∨ c = i2 := by simpa using hc
    rcases e' with q | q | q | q | q
    · rw [q]; exact ⟨_, hz, fun v q => nomatch q⟩
    · rw [q]; exact ⟨_, hTI, fun v q => nomatch q⟩
    · rw [q]; exact ⟨_, hTO, fun v q => nomatch q⟩
    · rw [q]; exact S.own_obj o1
    · rw [q]; exact S2.own_obj o2
  keep := fun i h h' st k => by
    obtain ⟨hz, hTI, ⟨x, y, hTO⟩, o1, o2, hn⟩ := st
    exact ⟨k z (by simp) _ hz, k TI (by simp) _ hTI, ⟨x, y, k TO (by simp) _ hTO⟩, S.own_keep o1 fun o q => k i1 (by simp) o q, S2.own_keep o2 fun o q => k i2 (by simp) o q, hn⟩
  item := by
    intro X hP hw hK hc i pins s σ H E I hf st hg
    subst hP hw hK
    obtain ⟨hz, hTI, hTO, o1, o2, hle⟩ := st
    obtain ⟨P1, St1, D1, a1, b1, c1⟩ := S.draws (A := X.A.in1) (I.ok.hd hc) I hg.1.1 h1
    obtain ⟨P2, St2, D2, a2, b2, c2⟩ := S2.draws (A := X.A.in1) (I.ok.hd hc) I hg.1.2 h2
    have Wk := GoesN.zip2 (elts := elts) (x1 := kk) (pos := tpos) D D1 D2
    refine Wk.goes i s _ E hg.2 ⟨hz, hTI, hTO, a1 i o1, a2 i o2⟩ fun v h' tk y st' hk htk => ?_
    obtain ⟨T, x, y, ev, hn, hx, hy, hT⟩ := y
    obtain ⟨hz', hTI', hTO', s1', s2'⟩ := st'
    obtain ⟨x', ex, rx⟩ := c1 i x hx
    obtain ⟨y', ey, ry⟩ := c2 i y hy
    subst ev
    have new : ObjOk X.prog X.w (upd H T (.tup [x', y'])) h' T (.tup [x', y']) := ⟨by show 2 ≤ sizeLine; decide, [x, y], .cons rx (.cons ry .nil), hT⟩
    have hk' : ∀ b o, b ∉ [z, TI, TO, i1, i2] → s.heap.get? b = some o → h'.get? b = some o := fun b o hb q => hk b o (fun hm => hb (by
      have e' : b = z ∨ b = TO ∨ b = i1 ∨ b = i2 := by simpa using hm
      rcases e' with q | q | q | q <;> simp [q])) q
    have I1 : Inv X pins σ (upd H T (.tup [x', y'])) { s with heap := h', toks := tk } := I.turnedNew (ch := [z, TI, TO, i1, i2]) hk' hf hn new
    refine ⟨.ref T, _, I1, rfl, ⟨_, x', y', rfl, I.hok.fresh hn, rfl, ex, ey⟩, ⟨hz', hTI', hTO', b1 _ _ s1', b2 _ _ s2', hg.2⟩, fun b hb => ?_⟩
    obtain ⟨xa, ya, hTO⟩ := hTO
    have hb' : b < s.heap.objs.size := by
      have e' : b = z ∨ b = TI ∨ b = TO ∨ b = i1 ∨ b = i2 := by simpa using hb
      rcases e' with q | q | q | q | q
      · rw [q]; exact Heap.lt_size hz
      · rw [q]; exact Heap.lt_size hTI
      · rw [q]; exact Heap.lt_size hTO
      · rw [q]; obtain ⟨_, q, _⟩ := S.own_obj o1; exact Heap.lt_size q
      · rw [q]; obtain ⟨_, q, _⟩ := S2.own_obj o2; exact Heap.lt_size q
    rw [upd_ne (Nat.ne_of_lt (Nat.lt_of_lt_of_le hb' hn))]
    exact (hf b hb).1
  done := by
    intro X hP hw hK hc i pins s σ H E I hf st hg
    subst hP hw hK
    obtain ⟨hz, hTI, hTO, o1, o2, hle⟩ := st
    obtain ⟨P1, St1, D1, a1, b1, c1⟩ := S.draws (A := X.A.in1) (I.ok.hd hc) I hg.1.1 h1
    obtain ⟨P2, St2, D2, a2, b2, c2⟩ := S2.draws (A := X.A.in1) (I.ok.hd hc) I hg.1.2 h2
    obtain rfl : i = min S.vals.length S2.vals.length := Nat.le_antisymm hle hg.2
    have Wk := GoesN.zip2 (elts := elts) (x1 := kk) (pos := tpos) D D1 D2
    exact Wk.stops s _ E ⟨hz, hTI, hTO, a1 _ o1, a2 _ o2⟩ fun h' tk hk htk => I.turnedL (t' := tk) (ch := [z, TI, TO, i1, i2]) (fun b o hb q => hk b o (fun hm => hb (by
      have e' : b = z ∨ b = TO ∨ b = i1 ∨ b = i2 := by simpa using hm
      rcases e' with q | q | q | q <;> simp [q])) q) hf
  self := fun A i s Q E st h => wpAny_pyIter_zip st.1 h
def zipL : List PyData → List PyData → List PyData
  | x :: xs, y :: ys => .tuple [x, y] :: zipL xs ys
  | _, _ => []
theorem zipL_length : ∀ xs ys : List PyData, (zipL xs ys).length = min xs.length ys.length
  | [], ys => by cases ys <;> simp [zipL]
  | x :: xs, [] => by simp [zipL]
  | x :: xs, y :: ys => by
    show (zipL xs ys).length + 1 = _
    rw [zipL_length xs ys, List.length_cons, List.length_cons]
    omega
theorem zipL_get : ∀ (xs ys : List PyData) (i : Nat) {x y : PyData}, xs[i]? = some x → ys[i]? = some y → (zipL xs ys)[i]? = some (.tuple [x, y])
  | [], _, _, _, _, h, _ => by simp at h
  | _ :: _, [], _, _, _, _, h => by simp at h
  | x :: xs, y :: ys, 0, _, _, h, h' => by simp at h h'; subst h h'; rfl
  | x :: xs, y :: ys, i + 1, _, _, h, h' => zipL_get xs ys i (by simpa using h) (by simpa using h')
def zipO : List PyData → Option (List PyData)
  | [x, y] => (itemsO x).bind fun xs => (itemsO y).map fun ys => zipL xs ys
  | _ => none
theorem serves_zip {K : PySem.W.Frag} {G : Hp} {S S2 : Sr} {xs ys : List PyData} (ps : RpAll K G S.vals xs) (hs : ∀ H, Le G H → S.has K H) (ps2 : RpAll K G S2.vals ys) (hs2 : ∀ H, Le G H → S2.has K H) : Serves K G (Itzz K S S2) (zipL xs ys) where
  go := fun H' G' i l1 l2 hi => ⟨⟨hs H' (l1.trans l2), hs2 H' (l1.trans l2)⟩, by rw [RpAll.length ps, RpAll.length ps2]; rw [zipL_length] at hi; exact hi⟩
  stop := fun H' G' i l1 l2 hi => ⟨⟨hs H' (l1.trans l2), hs2 H' (l1.trans l2)⟩, by rw [RpAll.length ps, RpAll.length ps2]; rw [zipL_length] at hi; exact hi⟩
  yld := fun H' G' i v H'' l1 l2 hi y => by
    obtain ⟨T, x, y, rfl, hT, rfl, ex, ey⟩ := y
    obtain ⟨d, ed, pd⟩ := RpAll.get' ps ex
    obtain ⟨d2, ed2, pd2⟩ := RpAll.get' ps2 ey
    exact ⟨_, .tuple [d, d2], zipL_get _ _ _ ed ed2, Gw.new l2 hT, .tup (.inl (.inl upd_same)) (.cons (pd.mono (l1.trans (Gw.new l2 hT).g)) (.cons (pd2.mono (l1.trans (Gw.new l2 hT).g)) .nil))⟩
section
variable {X : Cx} {W : WX} {e e2 : Expr} {p pos tpos : Pos} {elts : List Expr} {kk : Nat}
theorem vi_zip {f : M (List PyData)} (hc : X.calm = true) (hg : Gl X "zip") (hm : X.mg "zip" = none) (ha : VA X W [e, e2] f) (hs : starEach [e, e2] X.env = (false, eval e X.env) :: starEach [e2] X.env := by rfl) (hpl : (backTo pos (starEach [e2] X.env)).any (·.1) = false := by rfl) :
    VI X W (.Tuple elts kk tpos) (.Call (.Name "zip" p) [e, e2] [] pos) (f >>= fun xs => ofO (zipO xs)) := by
  refine ⟨fun pins s σ H R I ⟨G, L, c, r, q⟩ => ?_⟩
  refine Call_ (ld_blt I hg hm PyProof.Rows.boot_zip (PyProof.Rows.callWith_type1 (thn (ha.run pos pins s σ H (fun vs H1 => ∃ G1 L1 c1 xs, Rl X.K σ H1 G1 L1 c1 ∧ RpAll X.K G1 vs xs ∧ At X W rI (ofO (zipO xs)) σ H1 G1 L1 c1 R) I
    ⟨G, L, c, r, At.bind (ρ := rPs) wdI r q fun xs vs c1 H1 G1 L1 _ r1 _ p q1 => ⟨G1, L1, c1, xs, r1, p, q1⟩⟩) fun us s1 ⟨vs, H1, I1, rv, G1, L1, c1, xs, r1, ps, q1⟩ => ?_) hs hpl))
  obtain ⟨ys, ey, q2⟩ := At.opt q1
  unfold zipO at ey
  split at ey
  · rename_i x y
    obtain ⟨v, v2, rfl, px, py⟩ := rpTwo ps
    obtain ⟨u, u2, rfl, ru, ru2⟩ := vals2 rv
    cases ei : itemsO x with
    | none => rw [ei] at ey; cases ey
    | some zs =>
      cases ei2 : itemsO y with
      | none => rw [ei, ei2] at ey; cases ey
      | some zs2 =>
        rw [ei, ei2] at ey
        cases ey
        obtain ⟨S, rfl, pS, hS⟩ := Sr.of px ru ei
        obtain ⟨S2, rfl, pS2, hS2⟩ := Sr.of py ru2 ei2
        have hH := hS H1 r1.sub
        have hH2 := hS2 H1 r1.sub
        obtain ⟨HP, B, b0⟩ := S.begins I1 hH
        obtain ⟨HP2, B2, b2⟩ := S2.begins I1 hH2
        have lt := S.lt I1 hH
        have lt2 := S2.lt I1 hH2
        refine zip_begins2 B B2 b0 b2 fun h' hz hTI hTO g1 g2 hsz hk => wpAny_pyIter_zip hz ?_
        have I2 : Inv X pins σ H1 { s1 with heap := h' } := I1.kept (t' := s1.toks) hk
        refine ⟨s1.heap.objs.size + 4, [s1.heap.objs.size + 4, s1.heap.objs.size + 2, s1.heap.objs.size + 3, s1.heap.objs.size, s1.heap.objs.size + 1], _, _, H1, rfl, I2, turn_zipS S S2 (zip_sep2 lt lt2) (fun hm => absurd (lt _ hm) (Nat.lt_irrefl _)) (fun hm => absurd (lt2 _ hm) (Nat.not_lt.mpr (Nat.le_succ _))),
          ⟨hz, hTI, ⟨_, _, hTO⟩, S.own_new g1, S2.own_new g2, Nat.zero_le _⟩, fun b hb => ?_, At.fin (ρ := rI) r1 q2 (serves_zip pS hS pS2 hS2)⟩
        have e' : b = s1.heap.objs.size + 4 ∨ b = s1.heap.objs.size + 2 ∨ b = s1.heap.objs.size + 3 ∨ b = s1.heap.objs.size ∨ b = s1.heap.objs.size + 1 := by simpa using hb
        have hle : s1.heap.objs.size ≤ b := by
          rcases e' with z | z | z | z | z
          · rw [z]; exact Nat.le_add_right _ _
          · rw [z]; exact Nat.le_add_right _ _
          · rw [z]; exact Nat.le_add_right _ _
          · rw [z]; exact Nat.le_refl _
          · rw [z]; exact Nat.le_add_right _ _
        exact I1.fpOk hle (I1.hok.fresh hle)
  · cases ey
end
end DL
end L2

/-! DL, part thirteen: repr, isinstance, methods, slices. -/
namespace L2
namespace DL
open PySem PySem.Spec PyProof.Rows

section
variable {X : Cx} {W : WX} {pins : List (Addr × Obj)} {σ : St} {H G : Hp} {s : Shared}
/-! ### repr -/
def reprD : List PyData → Option PyData
  | [d] => if d.showable && !d.hasDict && decide (d.depth ≤ 64) && decide (d.shown.length ≤ sizeLine) then some (.str d.shown) else none
  | _ => none
theorem call_reprP (hg : X.A.guards = some []) (hu : X.A.units + 100 < cLine) : CallR X (.builtin "repr") (rC X.K reprD) := by
  intro pins s σ H xs us Q I r ⟨G, ds, z, l, p, e, q⟩
  unfold reprD at e
  split at e
  · rename_i d
    obtain ⟨v, rfl, p0⟩ := rpOne p
    clear p
    have p := p0
    clear p0
    by_cases h : (d.showable && !d.hasDict && decide (d.depth ≤ 64) && decide (d.shown.length ≤ sizeLine)) = true
    · rw [if_pos h] at e
      cases e
      simp only [Bool.and_eq_true, decide_eq_true_eq, Bool.not_eq_true'] at h
      obtain ⟨⟨⟨h1, h2⟩, h3⟩, h4⟩ := h
      obtain ⟨u, rfl, ru⟩ := vals1 r
      have fin : ∀ (t : Tok) (s' : Shared), Inv X pins σ H s' → EP X pins σ Q (.str d.shown t) s' := fun t s' I' => ⟨.str d.shown, H, I', ⟨t, rfl⟩, q _ H G (Gw.refl l) (.str _)⟩
      have two : ∀ a, u = .ref a → wpAny (model X.prog X.w) X.A (call (.builtin "repr") [u]) (EP X pins σ Q) X.xe s := fun a ea => by
        subst ea
        obtain ⟨as, rr⟩ := rp_reads I l p ru
        exact repr_of_reads' rr h1 (fun hd => by rw [h2] at hd; cases hd) hg (by omega) (fun _ _ e => e) (fun h' u tk hk => fin u _ (I.kept hk)) h4
      cases p with
      | non =>
        cases ru
        have fin := fin s.toks { s with toks := s.toks + 1 } (I.tok _)
        simp only [PyData.shown] at fin
        exact PySem.P.repr_of_none fin
      | bl b =>
        cases ru
        have fin := fin s.toks { s with toks := s.toks + 1 } (I.tok _)
        simp only [PyData.shown] at fin
        exact PySem.P.repr_of_bool fin
      | int i =>
        obtain ⟨t, rfl⟩ := ru
        have fin := fin s.toks { s with toks := s.toks + 1 } (I.tok _)
        simp only [PyData.shown] at fin
        exact PySem.P.repr_of_int (by simpa [PyData.showable] using h1) fin
      | str x =>
        obtain ⟨t, rfl⟩ := ru
        have fin := fin s.toks { s with toks := s.toks + 1 } (I.tok _)
        simp only [PyData.shown] at fin h4
        exact PySem.P.repr_of_str fin h4
      | lst hh hp => exact two _ ru
      | tup hh hp => exact two _ ru
    · rw [if_neg h] at e; cases e
  · cases e

/-! ### isinstance(x, T), T a built-in type -/
def isaD (T : String) : PyData → Option PyData := fun d => match T with
  | "tuple" => some (.bool d.isTuple)
  | "int" => some (.bool d.isInt)
  | "bool" => some (.bool d.isBool)
  | "str" => some (.bool d.isStr)
  | "list" => some (.bool d.isList)
  | "dict" => some (.bool d.isDict)
  | _ => none
theorem call_isaP : CallR X (.builtin "isinstance") (fun xs H Q => ∃ G v d T z, xs = [v, .ty T] ∧ Le G H ∧ Rp X.K G v d ∧ isaD T d = some z ∧ ∀ v H' G', Gw H G H' G' → Rp X.K G' v z → Q v H') := by
  intro pins s σ H xs us Q I r ⟨G, v, d, T, z, e0, l, p, e, q⟩
  subst e0
  obtain ⟨u, u2, rfl, ru, r2⟩ := vals2 r
  cases r2
  obtain ⟨as, rr⟩ := rp_reads I l p ru
  have fin : ∀ (b : Bool) (tk : Nat), z = .bool b → EP X pins σ Q (.bool b) { s with toks := tk } := fun b tk ez => ⟨.bl b, H, I.tok _, rfl, q _ H G (Gw.refl l) (by rw [ez]; exact .bl _)⟩
  unfold isaD at e
  split at e
  · cases e; exact PySem.W.isinstance_tuple_data rr fun tk _ => fin _ tk rfl
  · cases e; exact PySem.W.isinstance_int_data rr fun tk _ => fin _ tk rfl
  · cases e; exact PySem.W.isinstance_bool_data rr fun tk _ => fin _ tk rfl
  · cases e; exact PySem.W.isinstance_str_data rr fun tk _ => fin _ tk rfl
  · cases e; exact PySem.W.isinstance_list_data rr fun tk _ => fin _ tk rfl
  · cases e; exact PySem.W.isinstance_dict_data rr fun tk _ => fin _ tk rfl
  · cases e
end
section
variable {X : Cx} {W : WX} {e : Expr} {es : List Expr} {pos : Pos}
theorem vp_isa {x y : Str} {T : String} {p p2 : Pos} {f : M PyData} (hg : Gl X x) (hm : X.mg x = none) (hv : bootBuiltins x = some (.builtin "isinstance")) (hg2 : Gl X y) (hm2 : X.mg y = none) (hv2 : bootBuiltins y = some (.type T)) (ha : VP X W e f)
    (hn : x ≠ "__name__" := by decide) (hdb : (x == ("__debug__" : Str)) = false := by decide) (hn2 : y ≠ "__name__" := by decide) (hdb2 : (y == ("__debug__" : Str)) = false := by decide)
    (he0 : starEach [.Name y p2] X.env = (false, eval (.Name y p2) X.env) :: starEach [] X.env := by rfl) (he : starEach (e :: [.Name y p2]) X.env = (false, eval e X.env) :: starEach [.Name y p2] X.env := by rfl) (hpl : (backTo pos (starEach [.Name y p2] X.env)).any (·.1) = false := by rfl) :
    VP X W (.Call (.Name x p) [e, .Name y p2] [] pos) (f >>= fun d => ofO (isaD T d)) :=
  (pe_callB call_isaP hg hm hv (pa_cons ha (pa_cons (pe_bltn (v := .ty T) hg2 hm2 hv2 rfl hn2 hdb2) pa_nil he0) he) hn hdb he hpl).imp fun σ H Q ⟨G, L, c, r, q⟩ =>
    ⟨G, L, c, r, At.bind wdP r q fun x v c1 H1 G1 L1 _ r1 _ p q1 => by
      obtain ⟨z, ez, q2⟩ := At.opt q1
      exact ⟨G1, v, x, T, z, rfl, r1.sub, p, ez, At.gwP r1 q2⟩⟩

/-! ### methods -/
def chkT (T : String) : PyData → M Unit
  | .str _ => if T = "str" then pure () else stuckM
  | .int _ => if T = "int" then pure () else stuckM
  | .list _ => if T = "list" then pure () else stuckM
  | _ => stuckM
theorem At.chkT {α β : Type} {ρ : Rho α β} {T : String} {d : PyData} {k : M α} {σ : St} {H G : Hp} {L : List Addr} {c : Co} {Q : β → Hp → Prop} {v : V} (r : Rl X.K σ H G L c) (p : Rp X.K G v d) (h : At X W ρ (DL.chkT T d >>= fun _ => k) σ H G L c Q) : tyV X.K T v H ∧ At X W ρ k σ H G L c Q := by
  cases p with
  | str x =>
    by_cases e : T = "str"
    · have z : DL.chkT T (.str x) = pure () := by unfold DL.chkT; rw [if_pos e]
      rw [z] at h
      exact ⟨e, h⟩
    · have z : DL.chkT T (.str x) = stuckM := by unfold DL.chkT; rw [if_neg e]
      rw [z] at h
      exact (show False from h).elim
  | int x =>
    by_cases e : T = "int"
    · have z : DL.chkT T (.int x) = pure () := by unfold DL.chkT; rw [if_pos e]
      rw [z] at h
      exact ⟨e, h⟩
    · have z : DL.chkT T (.int x) = stuckM := by unfold DL.chkT; rw [if_neg e]
      rw [z] at h
      exact (show False from h).elim
  | @lst a vs ds hh ps =>
    by_cases e : T = "list"
    · have z : DL.chkT T (.list ds) = pure () := by unfold DL.chkT; rw [if_pos e]
      rw [z] at h
      exact ⟨.inl ⟨e, _, .inl (.inl (r.sub _ _ hh))⟩, h⟩
    · have z : DL.chkT T (.list ds) = stuckM := by unfold DL.chkT; rw [if_neg e]
      rw [z] at h
      exact (show False from h).elim
  | _ => exact (show False from h).elim
theorem mt_imp {T : String} {g : PyData → List PyData → Option PyData} {fo : M PyData} {fs : M (List PyData)} (σ : St) (H : Hp) (Q : VK) (h : tE X W rP (fo >>= fun d => chkT T d >>= fun _ => fs >>= fun xs => ofO (g d xs)) σ H Q) :
    tBM X.K T (rMt X.K g) (tE X W rP fo) (tE X W rPs fs) σ H Q := by
  obtain ⟨G, L, c, r, q⟩ := h
  refine ⟨G, L, c, r, At.bind wdP r q fun d v c1 H1 G1 L1 _ r1 _ p q1 => ?_⟩
  obtain ⟨ty, q2⟩ := At.chkT r1 p q1
  refine ⟨ty, G1, L1, c1, r1, At.bind (ρ := rPs) wdP r1 q2 fun xs vs c2 H2 G2 L2 _ r2 f2 ps q3 => ?_⟩
  obtain ⟨z, ez, q4⟩ := At.opt q3
  exact ⟨G2, d, xs, z, r2.sub, p.mono f2.g, ps, ez, At.gwP r2 q4⟩
theorem vp_mt {T id : String} {name : Str} {o : Expr} {apos cpos : Pos} {g : PyData → List PyData → Option PyData} {fo : M PyData} {fs : M (List PyData)} (pa : PlainAttrs T) (slot : Slot T name id) (hty : typeOf (.builtin id) = pure (.type "method_descriptor")) (hm : MtR X id (rMt X.K g)) (ho : VP X W o fo) (ha : VA X W (e :: es) fs)
    (hbase : attributeBase o name X.env (eval o X.env) = eval o X.env := by rfl)
    (hfew : ((backTo cpos (starEach (e :: es) X.env)).all (fun x => !x.1) && (backToKw cpos (keywordEach [] X.env)).all (fun x => x.1.isSome)
      && decide ((e :: es).length + ([] : List Keyword).length + (if ([] : List Keyword).isEmpty then 0 else 1) < 30)) = true := by rfl)
    (hline : (apos.endLine == cpos.line) = true := by rfl) (hs : starEach (e :: es) X.env = (false, eval e X.env) :: starEach es X.env := by rfl) (hplain : (backTo cpos (starEach es X.env)).any (·.1) = false := by rfl) :
    VP X W (.Call (.Attribute o name apos) (e :: es) [] cpos) (fo >>= fun d => chkT T d >>= fun _ => fs >>= fun xs => ofO (g d xs)) :=
  (pe_bm pa slot hty hm ho ha hbase hfew hline hs hplain).imp mt_imp
/-- sep.join(xs) -/
def joinD : PyData → List PyData → Option PyData
  | .str a, [.list ds] => (strsOf ds).bind fun ys => if (ys.map (·.length)).sum + ys.length * a.length ≤ 16777216 then some (.str (Txt.join a ys)) else none
  | .str a, [.tuple ds] => (strsOf ds).bind fun ys => if (ys.map (·.length)).sum + ys.length * a.length ≤ 16777216 then some (.str (Txt.join a ys)) else none
  | _, _ => none
theorem mt_joinP : MtR X "str.join" (rMt X.K joinD) := by
  intro pins s σ H x xs v us Q I rx rs ⟨G, d, ds, z, l, p, ps, e, q⟩
  unfold joinD at e
  split at e
  · rename_i a ds
    cases e2 : strsOf ds with
    | none => rw [e2] at e; cases e
    | some ys =>
      rw [e2] at e
      have e : (if (ys.map (·.length)).sum + ys.length * a.length ≤ 16777216 then some (PyData.str (Txt.join a ys)) else none) = some z := e
      by_cases hz : (ys.map (·.length)).sum + ys.length * a.length ≤ 16777216
      · rw [if_pos hz] at e
        cases e
        obtain ⟨w, rfl, pw⟩ := rpOne ps
        rw [strsOf_eq e2] at pw
        cases p
        cases pw with
        | lst h1 p1 =>
          rw [RpAll.of_strs p1] at h1
          exact mt_join pins s σ H _ _ v us Q I rx rs ⟨a, _, ys, rfl, rfl, .inl (.inl (.inl (l _ _ h1))), hz, q _ H G (Gw.refl l) (.str _)⟩
      · rw [if_neg hz] at e; cases e
  · rename_i a ds
    cases e2 : strsOf ds with
    | none => rw [e2] at e; cases e
    | some ys =>
      rw [e2] at e
      have e : (if (ys.map (·.length)).sum + ys.length * a.length ≤ 16777216 then some (PyData.str (Txt.join a ys)) else none) = some z := e
      by_cases hz : (ys.map (·.length)).sum + ys.length * a.length ≤ 16777216
      · rw [if_pos hz] at e
        cases e
        obtain ⟨w, rfl, pw⟩ := rpOne ps
        rw [strsOf_eq e2] at pw
        cases p
        cases pw with
        | tup h1 p1 =>
          rw [RpAll.of_strs p1] at h1
          exact mt_join pins s σ H _ _ v us Q I rx rs ⟨a, _, ys, rfl, rfl, .inr (l.sqt h1), hz, q _ H G (Gw.refl l) (.str _)⟩
      · rw [if_neg hz] at e; cases e
  · cases e
/-- xs.count(x), a list -/
def countD : PyData → List PyData → Option PyData
  | .list ds, [d] => if PyData.plainAll ds && d.plain && decide (min (PyData.depthAll ds) d.depth ≤ 64) then some (.int ((ds.countP fun y => PyData.eqv y d : Nat) : Int)) else none
  | _, _ => none
theorem mt_countP (hu : X.A.units + 100 < cLine) : MtR X "list.count" (rMt X.K countD) := by
  intro pins s σ H x xs v us Q I rx rs ⟨G, d, ds, z, l, p, ps, e, q⟩
  unfold countD at e
  split at e
  · rename_i ds d
    by_cases h : (PyData.plainAll ds && d.plain && decide (min (PyData.depthAll ds) d.depth ≤ 64)) = true
    · rw [if_pos h] at e
      cases e
      simp only [Bool.and_eq_true, decide_eq_true_eq] at h
      obtain ⟨w, rfl, pw⟩ := rpOne ps
      obtain ⟨u, rfl, ru⟩ := vals1 rs
      obtain ⟨bs, rb⟩ := rp_reads I l pw ru
      cases p with
      | lst h1 p1 =>
        cases rx
        obtain ⟨its, rv, hl, _⟩ := I.list (.inl (.inl (l _ _ h1)))
        obtain ⟨as, ra⟩ := rp_readsAll I l p1 rv
        exact SeqAt.count_list_data hl.isList ra rb h.1.1 h.1.2 (by omega) ⟨.int _, H, I.tok _, ⟨_, rfl⟩, q _ H G (Gw.refl l) (.int _)⟩
    · rw [if_neg h] at e; cases e
  · cases e

/-! ### x[lo:hi] of a list, a tuple, a text -/
def cutD (xs : List PyData) (lo hi : Option Int) : List PyData := (xs.drop (HT.sIx xs.length 0 lo)).take (HT.sIx xs.length xs.length hi - HT.sIx xs.length 0 lo)
def slD : PyData → Option Int → Option Int → Option PyData
  | .list xs, lo, hi => some (.list (cutD xs lo hi))
  | .tuple xs, lo, hi => some (.tuple (cutD xs lo hi))
  | .str x, lo, hi => if x.length ≤ sizeLine then some (.str (cutS x lo hi)) else none
  | _, _, _ => none
theorem RpAll.cut {K : PySem.W.Frag} {G : Hp} {vs : List V} {xs : List PyData} (p : RpAll K G vs xs) (lo hi : Option Int) : RpAll K G (cutV vs lo hi) (cutD xs lo hi) := by
  unfold cutV cutD
  rw [RpAll.length p]
  exact (p.drop _).take _
theorem sl_P : SlR X (rSl X.K slD) := by
  intro pins s σ H x v vl vu lo hi sl Q I rx hs pl pu ⟨G, d, z, l, p, e, q⟩
  cases p with
  | lst h1 p1 =>
    cases e
    exact sl_list pins s σ H _ v vl vu lo hi sl Q I rx hs pl pu ⟨_, _, rfl, .inl (.inl (l _ _ h1)), fun p hp => q _ _ _ (Gw.new l hp) (.lst upd_same (RpAll.mono (Gw.new l hp).g (p1.cut lo hi)))⟩
  | @tup a vs ds h1 p1 =>
    cases e
    refine sl_tupA pins s σ H _ v vl vu lo hi sl Q I rx hs pl pu ⟨_, _, rfl, l.sqt h1, fun hw => ?_, fun _ p hp => q _ _ _ (Gw.new l hp) (.tup (.inl (.inl upd_same)) (RpAll.mono (Gw.new l hp).g (p1.cut lo hi)))⟩
    have e : cutD ds lo hi = ds := by
      unfold cutD
      rw [← RpAll.length p1, hw.1, hw.2, List.drop_zero, Nat.sub_zero, RpAll.length p1, List.take_length]
    rw [e] at q
    exact q _ H G (Gw.refl l) (.tup h1 p1)
  | str x =>
    have e : (if x.length ≤ sizeLine then some (PyData.str (cutS x lo hi)) else none) = some z := e
    by_cases hx : x.length ≤ sizeLine
    · rw [if_pos hx] at e
      cases e
      exact sl_str pins s σ H _ v vl vu lo hi sl Q I rx hs pl pu ⟨x, rfl, hx, q _ H G (Gw.refl l) (.str _)⟩
    · rw [if_neg hx] at e; cases e
  | _ => cases e
/-- the script's first items, a plain list of them -/
def scrM (i : Nat) : M (List Int) := fun c => match c.env[i]? with
  | some (.scr ns) => .ok ns c
  | _ => .stuck
def cutI (ns : List Int) (lo hi : Option Int) : List Int := (ns.drop (HT.sIx ns.length 0 lo)).take (HT.sIx ns.length ns.length hi - HT.sIx ns.length 0 lo)
theorem vp_scr {i : Nat} {x : Str} {p p2 : Pos} {lo hi : Option Expr} {fl fh : M (Option Int)} (hv : PE X (.Name x p) (tVar i)) (hl : PO X lo (tE X W rOp fl)) (hu : PO X hi (tE X W rOp fh)) :
    VP X W (.Subscript (.Name x p) (.Slice lo hi none p2) pos) (scrM i >>= fun ns => fl >>= fun l => fh >>= fun h => pure (.list ((cutI ns l h).map .int))) := (pe_slice (sl_list (X := X)) hv hl hu).imp fun σ H Q ⟨G, L, c, r, q⟩ => by
  cases e : c.env[i]? with
  | none =>
    have z : scrM i c = .stuck := by unfold scrM; rw [e]
    unfold At at q
    rw [bnd_stuck z] at q
    exact q.elim
  | some ev =>
    cases ev with
    | scr ns =>
      have z : scrM i c = .ok ns c := by unfold scrM; rw [e]
      have q1 : At X W rP (fl >>= fun l => fh >>= fun h => pure (.list ((cutI ns l h).map .int))) σ H G L c Q := by
        unfold At at q ⊢
        rw [bnd_ok z] at q
        exact q
      obtain ⟨y, h1, a, h2, hs⟩ := r.env i _ e
      subst h2
      refine ⟨.ref a, h1, G, L, c, r, At.bind (ρ := rOp) wdP r q1 fun l l' c2 H2 G2 L2 _ r2 f2 p2 q2 => ⟨G2, L2, c2, r2, At.bind (ρ := rOp) wdP r2 q2 fun h h' c3 H3 G3 L3 _ r3 f3 p3 q3 => ?_⟩⟩
      cases p2
      cases p3
      refine ⟨a, _, rfl, r3.sub.sql (f3.g.sql (f2.g.sql hs)), fun p hp => At.gw (ρ := rP) r3 q3 (Gw.new r3.sub hp) (.lst upd_same ?_)⟩
      have e2 : cutV (ns.map V.int) l h = (cutI ns l h).map V.int := by
        unfold cutV cutI
        rw [List.map_take, List.map_drop, List.length_map]
      rw [e2]
      exact RpAll.ints _
    | _ =>
      have z : scrM i c = .stuck := by unfold scrM; rw [e]
      unfold At at q
      rw [bnd_stuck z] at q
      exact q.elim
end
end DL
end L2

/-! DL, part fourteen: the denotations' words, for printed texts. -/
namespace L2
namespace DL
open PySem PySem.Spec PyProof.Rows

def bin (g : PyData → PyData → Option PyData) (a b : M PyData) : M PyData := a >>= fun x => b >>= fun y => ofO (g x y)
def uno (g : PyData → Option PyData) (a : M PyData) : M PyData := a >>= fun x => ofO (g x)
def chn (g g' : PyData → PyData → Option PyData) (a b c : M PyData) : M PyData := a >>= fun x => b >>= fun y => andM (ofO (g x y)) (c >>= fun z => ofO (g' y z))
def nilA : M (List PyData) := pure []
def consA (f : M PyData) (fs : M (List PyData)) : M (List PyData) := f >>= fun x => fs >>= fun xs => pure (x :: xs)
def ca (g : List PyData → Option PyData) (fs : M (List PyData)) : M PyData := fs >>= fun xs => ofO (g xs)
def ci (g : List PyData → Option (List PyData)) (fs : M (List PyData)) : M (List PyData) := fs >>= fun xs => ofO (g xs)
def itm (f : M PyData) : M (List PyData) := f >>= fun x => ofO (itemsO x)
def tupM (fs : M (List PyData)) : M PyData := fs >>= fun xs => if xs.length ≤ sizeLine then pure (.tuple xs) else stuckM
def lstM (fs : M (List PyData)) : M EV := fs >>= fun xs => if xs.length ≤ sizeLine then pure (.own (.lst xs)) else stuckM
def frM (f : M EV) : M PyData := f >>= frz
def dM (f : M PyData) : M EV := f >>= fun x => pure (.d x)
def nilC : M (List EV) := pure []
def consC (f : M EV) (fs : M (List EV)) : M (List EV) := f >>= arg >>= fun x => fs >>= fun xs => pure (x :: xs)
def consO (f : M EV) (fs : M (List EV)) : M (List EV) := f >>= fun x => fs >>= fun xs => pure (x :: xs)
def cl (F : FD) (fs : M (List EV)) : M EV := fs >>= callM F
def iteM {α : Type} (t : M Bool) (a b : M α) : M α := t >>= fun x => if x then a else b
def tst (f : M PyData) : M Bool := f >>= asB
def andB (a b : M Bool) : M Bool := a >>= fun x => if x then b else pure false
def orB (a b : M Bool) : M Bool := a >>= fun x => if x then pure true else b
def notB (a : M Bool) : M Bool := a >>= fun x => pure (!x)
def noO : M (Option Int) := pure none
def soO (f : M PyData) : M (Option Int) := f >>= asI
def slM (fe : M PyData) (fl fh : M (Option Int)) : M PyData := fe >>= fun x => fl >>= fun l => fh >>= fun h => ofO (slD x l h)
def scM (i : Nat) (fl fh : M (Option Int)) : M PyData := scrM i >>= fun ns => fl >>= fun l => fh >>= fun h => pure (.list ((cutI ns l h).map .int))
def mtM (T : String) (g : PyData → List PyData → Option PyData) (fo : M PyData) (fs : M (List PyData)) : M PyData := fo >>= fun d => chkT T d >>= fun _ => fs >>= fun xs => ofO (g d xs)
def lnS (i : Nat) : M PyData := lookM i >>= fun x => ofO (lenD x)
def lnM (f : M PyData) : M PyData := f >>= fun x => ofO (lenD x)
def lc (own : List (Str × Nat)) (f : M (List PyData)) (g : GT) (t : M Bool) (e : M PyData) : M EV := f >>= fun xs => if xs.length ≤ sizeLine then lcM (own.map (·.2)) g t e xs [] >>= fun ys => pure (.own (.lst ys)) else stuckM
def setM (i : Nat) (f : M EV) : M Fl := f >>= stV i
def locM (i : Nat) (f : M EV) : M Fl := f >>= stLoc i
def parM (is : List Nat) (f : M (List EV)) : M Fl := f >>= stAll is
def retM (f : M EV) : M Fl := f >>= fun x => pure (.rt x)
def expM (f : M EV) : M Fl := f >>= fun _ => pure .nx
def forS (f : M (List PyData)) (g : GT) (b : M Fl) : M Fl := f >>= forM g b
def appM (i : Nat) (f : M PyData) : M Fl := chk i >>= fun _ => f >>= fun y => updL i (appL y)
def extM (i : Nat) (f : M PyData) : M Fl := chk i >>= fun _ => f >>= fun y => updL i (extL y)
def putM (i : Nat) (fi f : M PyData) : M Fl := f >>= fun v => chkS i >>= fun _ => fi >>= fun k => putAt i k v
theorem bt_len : bootBuiltins "len" = some (.builtin "len") := by decide +kernel
theorem bt_abs : bootBuiltins "abs" = some (.builtin "abs") := by decide +kernel
theorem bt_all : bootBuiltins "all" = some (.builtin "all") := by decide +kernel
theorem bt_any : bootBuiltins "any" = some (.builtin "any") := by decide +kernel
theorem bt_max : bootBuiltins "max" = some (.builtin "max") := by decide +kernel
theorem bt_min : bootBuiltins "min" = some (.builtin "min") := by decide +kernel
theorem bt_sum : bootBuiltins "sum" = some (.builtin "sum") := by decide +kernel
theorem bt_repr : bootBuiltins "repr" = some (.builtin "repr") := by decide +kernel
theorem bt_isinstance : bootBuiltins "isinstance" = some (.builtin "isinstance") := by decide +kernel
theorem bt_sorted : bootBuiltins "sorted" = some (.builtin "sorted") := by decide +kernel
theorem bt_int : bootBuiltins "int" = some (.type "int") := by decide +kernel
theorem bt_bool : bootBuiltins "bool" = some (.type "bool") := by decide +kernel
theorem bt_str : bootBuiltins "str" = some (.type "str") := by decide +kernel
theorem bt_tuple : bootBuiltins "tuple" = some (.type "tuple") := by decide +kernel
theorem bt_list : bootBuiltins "list" = some (.type "list") := by decide +kernel
theorem bt_dict : bootBuiltins "dict" = some (.type "dict") := by decide +kernel
theorem hu100 {A : Around} {k : Nat} (hr : Room k A) : A.units + 100 < cLine := by have := hr.un; omega
theorem al_nil : ∀ c xs c', nilC c = .ok xs c' → xs.length = 0 := fun c xs c' h => by
  cases h; rfl
theorem al_cons {n : Nat} {f : M EV} {fs : M (List EV)} (h : ∀ c xs c', fs c = .ok xs c' → xs.length = n) : ∀ c xs c', consC f fs c = .ok xs c' → xs.length = n + 1 := fun c xs c' e => by
  unfold consC at e
  rw [bnd_eq] at e
  cases e1 : (f >>= arg) c with
  | stuck => rw [e1] at e; cases e
  | ex x c1 => rw [e1] at e; cases e
  | ok x c1 =>
    rw [e1] at e
    have e : (fs >>= fun xs => pure (x :: xs)) c1 = .ok xs c' := e
    rw [bnd_eq] at e
    cases e2 : fs c1 with
    | stuck => rw [e2] at e; cases e
    | ex x c2 => rw [e2] at e; cases e
    | ok ys c2 =>
      rw [e2] at e
      cases e
      rw [List.length_cons, h _ _ _ e2]
def fzS (i : Nat) (c : Co) : Co := match c.env[i]? with
  | some (.own o) => { c with env := c.env.set i (.d (frozen o)) }
  | _ => c
def frzM (i : Nat) (m : M Fl) : M Fl := m >>= fun fl => match fl with
  | .nx => fun c => .ok .nx (fzS i c)
  | fl => fun c => .ok fl c
/-- targets = a value -/
def unpM (g : GT) (f : M PyData) : M Fl := f >>= fun x => fun c => match g x c with
  | none => .stuck
  | some c1 => .ok .nx c1
def gTL (gs : List GT) : GT := fun x c => match x with
  | .list xs => gTs gs xs c
  | _ => none
section
variable {X : Cx} {W : WX} {pos : Pos}
/-- a slot's own thing is told as plain behind a statement -/
theorem vs_frz (i : Nat) {st : Stmt} {m : M Fl} (h : VS X W st m) : VS X W st (frzM i m) := h.imp fun D σ H ⟨G, L, c, r, q⟩ => by
  refine ⟨G, L, c, r, ?_⟩
  unfold AtS at q ⊢
  unfold frzM at q
  rw [bnd_eq] at q
  cases e : m c with
  | stuck => rw [e] at q; exact q
  | ex x c' => rw [e] at q; exact q
  | ok fl c1 =>
    rw [e] at q
    cases fl with
    | bk => exact q
    | ct => exact q
    | rt v => exact q
    | nx =>
      intro σ' H' G' L' r' f'
      have q : AtR X W (.ok .nx (fzS i c1)) σ H G L c D := q
      unfold fzS at q
      split at q
      · rename_i o eo
        obtain ⟨a, G2, _, _, r2, f2⟩ := r'.freeze eo
        exact q σ' H' G2 L' r2 (f'.trans f2)
      · exact q σ' H' G' L' r' f'
theorem vs_unp {tg e : Expr} {g : GT} {ns : List Nat} {f : M PyData} (he : VP X W e f) (hg : VG X tg g ns) (hs : swapsWithSole [tg] e pos.line X.env = pure false := by rfl) (hw : swappedStores [tg] e X.env = pure none := by rfl)
    (h1 : (assignEach [tg] X.env).map (·.2) = [assign tg X.env] := by rfl) : VS X W (.Assign [tg] e pos) (unpM g f) := (ps_asg he hg hs hw h1).imp fun D σ H ⟨G, L, c, r, q⟩ =>
  ⟨G, L, c, r, AtS.raw (ρ := rP) q fun x v c1 H1 G1 L1 _ r1 f1 p q1 => by
    cases eg : g x c1 with
    | none => rw [eg] at q1; exact (show False from q1).elim
    | some c2 =>
      rw [eg] at q1
      exact ⟨G1, L1, c1, x, c2, r1, p, eg, fun σ2 o2 r2 f2 => q1 σ2 H1 G1 L1 r2 (f1.trans f2)⟩⟩
theorem vg_lst {es : List Expr} {k : Nat} {gs : List GT} {ns : List Nat} {n : Nat} (hc : X.calm = true) (h : VGs X es gs ns)
    (hn : (assignEach es X.env).length = n := by rfl) (hg : gs.length = n := by rfl) (hst : (assignEach es X.env).findIdx? (·.1) = none := by rfl) : VG X (.Tuple es k pos) (gTL gs) ns := (pg_lst hc h hn hst).imp fun v σ H Q ⟨G, L, c, x, c', r, p, e, q⟩ => by
  cases p with
  | lst hs ps =>
    have e : gTs gs _ c = some c' := e
    refine ⟨_, _, rfl, .inl (.inl (r.sub _ _ hs)), ?_, G, L, c, _, c', r, ps, e, q⟩
    rw [RpAll.length ps, gTs_len e, hg]
  | _ => cases e
theorem vp_ki {x : Str} {i : Int} (hg : Gl X x) (hm : ∃ t, X.mg x = some (.int i t)) (hd : (x == ("__debug__" : Str)) = false := by decide) : VP X W (.Name x pos) (pure (.int i)) := let ⟨_, h⟩ := hm; vp_gint hg h hd
theorem vp_ks {x : Str} {i : Str} (hg : Gl X x) (hm : ∃ t, X.mg x = some (.str i t)) (hd : (x == ("__debug__" : Str)) = false := by decide) : VP X W (.Name x pos) (pure (.str i)) := let ⟨_, h⟩ := hm; vp_gstr hg h hd
end
end DL
end L2

/-! DL, part fifteen: reckoning with denotations. -/
namespace L2
namespace DL
open PySem PySem.Spec PyProof.Rows

theorem pure_c {α : Type} (x : α) (c : Co) : (pure x : M α) c = .ok x c := rfl
theorem ret_c {α : Type} (x : α) (c : Co) : (M.ret x : M α) c = .ok x c := rfl
theorem stuck_c {α : Type} (c : Co) : (stuckM : M α) c = .stuck := rfl
theorem ofO_some {α : Type} (x : α) : ofO (some x) = M.ret x := rfl
/-- a step's result goes on -/
def R.go {α β : Type} (r : R α) (k : α → Co → R β) : R β := match r with
  | .stuck => .stuck
  | .ok a c => k a c
  | .ex e c => .ex e c
@[simp] theorem go_ok {α β : Type} (a : α) (c : Co) (k : α → Co → R β) : (R.ok a c).go k = k a c := id rfl
@[simp] theorem go_stuck {α β : Type} (k : α → Co → R β) : (R.stuck : R α).go k = .stuck := id rfl
@[simp] theorem go_ex {α β : Type} (e : Ex) (c : Co) (k : α → Co → R β) : (R.ex e c : R α).go k = .ex e c := id rfl
theorem bnd_go {α β : Type} (m : M α) (k : α → M β) (c : Co) : (m >>= k) c = (m c).go fun a c' => k a c' := rfl
/-! ### one rewriting for each word -/
def back (r : RF) (c : Co) : R EV := match r with
  | .stuck => .stuck
  | .ok v st => .ok v ⟨c.env, st⟩
  | .ex e st => .ex e ⟨c.env, st⟩
@[simp] theorem s_bko (v : EV) (st : List OB) (c : Co) : back (.ok v st) c = .ok v ⟨c.env, st⟩ := id rfl
def gO (r : Option Co) : R Fl := match r with
  | none => .stuck
  | some c => .ok .nx c
@[simp] theorem gO_some (c : Co) : gO (some c) = .ok .nx c := id rfl
def flK (k : M Fl) (fl : Fl) (c : Co) : R Fl := match fl with
  | .nx => k c
  | .bk => .ok .bk c
  | .ct => .ok .ct c
  | .rt v => .ok (.rt v) c
@[simp] theorem flK_nx (k : M Fl) (c : Co) : flK k .nx c = k c := id rfl
@[simp] theorem flK_rt (k : M Fl) (v : EV) (c : Co) : flK k (.rt v) c = .ok (.rt v) c := id rfl
def andK (x : PyData) (b : M PyData) (c : Co) : R PyData := match x with
  | .bool true => b c
  | .bool false => .ok (.bool false) c
  | _ => .stuck
def orK (x : PyData) (b : M PyData) (c : Co) : R PyData := match x with
  | .bool true => .ok (.bool true) c
  | .bool false => b c
  | _ => .stuck
@[simp] theorem andK_b (q : Bool) (b : M PyData) (c : Co) : andK (.bool q) b c = cond q (b c) (.ok (.bool false) c) := by cases q <;> rfl
@[simp] theorem orK_b (q : Bool) (b : M PyData) (c : Co) : orK (.bool q) b c = cond q (.ok (.bool true) c) (b c) := by cases q <;> rfl
def k1_iteM {α : Type} (a b : M α) (x : Bool) (c : Co) : R α := cond x (a c) (b c)
@[simp] theorem k1_iteM_eq {α : Type} (a b : M α) (x : Bool) (c : Co) : k1_iteM a b x c = cond x (a c) (b c) := id rfl
@[simp] theorem s_iteM {α : Type} (t : M Bool) (a b : M α) (c : Co) : iteM t a b c = (t c).go (k1_iteM a b) := by
  unfold iteM
  rw [bnd_go]
  congr 1
  funext x c1
  cases x <;> rfl
def k2_bin (g : PyData → PyData → Option PyData) (a : M PyData) (b : M PyData) (x : PyData) (y : PyData) (c : Co) : R (PyData) := ofO (g x y) c
def k1_bin (g : PyData → PyData → Option PyData) (a : M PyData) (b : M PyData)  (x : PyData) (c : Co) : R (PyData) := (b c).go (k2_bin g a b x)
@[simp] theorem k2_bin_eq (g : PyData → PyData → Option PyData) (a : M PyData) (b : M PyData) (x : PyData) (y : PyData) (c : Co) : k2_bin g a b x y c = ofO (g x y) c := id rfl
@[simp] theorem k1_bin_eq (g : PyData → PyData → Option PyData) (a : M PyData) (b : M PyData)  (x : PyData) (c : Co) : k1_bin g a b  x c = (b c).go (k2_bin g a b x) := id rfl
@[simp] theorem s_bin (g : PyData → PyData → Option PyData) (a : M PyData) (b : M PyData) (c : Co) : bin g a b c = (a c).go (k1_bin g a b) := id rfl
def k1_uno (g : PyData → Option PyData) (a : M PyData)  (x : PyData) (c : Co) : R (PyData) := ofO (g x) c
@[simp] theorem k1_uno_eq (g : PyData → Option PyData) (a : M PyData)  (x : PyData) (c : Co) : k1_uno g a  x c = ofO (g x) c := id rfl
@[simp] theorem s_uno (g : PyData → Option PyData) (a : M PyData) (c : Co) : uno g a c = (a c).go (k1_uno g a) := id rfl
def k1_andM (a : M PyData) (b : M PyData)  (x : PyData) (c : Co) : R (PyData) := andK x b c
@[simp] theorem k1_andM_eq (a : M PyData) (b : M PyData)  (x : PyData) (c : Co) : k1_andM a b  x c = andK x b c := id rfl
@[simp] theorem s_andM (a : M PyData) (b : M PyData) (c : Co) : andM a b c = (a c).go (k1_andM a b) := by
  unfold andM
  rw [bnd_go]
  congr 1
  funext x c1
  cases x with
    | bool q => cases q <;> rfl
    | _ => rfl
def k1_orM (a : M PyData) (b : M PyData)  (x : PyData) (c : Co) : R (PyData) := orK x b c
@[simp] theorem k1_orM_eq (a : M PyData) (b : M PyData)  (x : PyData) (c : Co) : k1_orM a b  x c = orK x b c := id rfl
@[simp] theorem s_orM (a : M PyData) (b : M PyData) (c : Co) : orM a b c = (a c).go (k1_orM a b) := by
  unfold orM
  rw [bnd_go]
  congr 1
  funext x c1
  cases x with
    | bool q => cases q <;> rfl
    | _ => rfl
def k2_chn (g : PyData → PyData → Option PyData) (h : PyData → PyData → Option PyData) (a : M PyData) (b : M PyData) (d : M PyData) (x : PyData) (y : PyData) (c : Co) : R (PyData) := andM (ofO (g x y)) (uno (h y) d) c
def k1_chn (g : PyData → PyData → Option PyData) (h : PyData → PyData → Option PyData) (a : M PyData) (b : M PyData) (d : M PyData)  (x : PyData) (c : Co) : R (PyData) := (b c).go (k2_chn g h a b d x)
@[simp] theorem k2_chn_eq (g : PyData → PyData → Option PyData) (h : PyData → PyData → Option PyData) (a : M PyData) (b : M PyData) (d : M PyData) (x : PyData) (y : PyData) (c : Co) : k2_chn g h a b d x y c = andM (ofO (g x y)) (uno (h y) d) c := id rfl
@[simp] theorem k1_chn_eq (g : PyData → PyData → Option PyData) (h : PyData → PyData → Option PyData) (a : M PyData) (b : M PyData) (d : M PyData)  (x : PyData) (c : Co) : k1_chn g h a b d  x c = (b c).go (k2_chn g h a b d x) := id rfl
@[simp] theorem s_chn (g : PyData → PyData → Option PyData) (h : PyData → PyData → Option PyData) (a : M PyData) (b : M PyData) (d : M PyData) (c : Co) : chn g h a b d c = (a c).go (k1_chn g h a b d) := id rfl
def k2_consA (f : M PyData) (fs : M (List PyData)) (x : PyData) (xs : List PyData) (c : Co) : R (List PyData) := .ok (x :: xs) c
def k1_consA (f : M PyData) (fs : M (List PyData))  (x : PyData) (c : Co) : R (List PyData) := (fs c).go (k2_consA f fs x)
@[simp] theorem k2_consA_eq (f : M PyData) (fs : M (List PyData)) (x : PyData) (xs : List PyData) (c : Co) : k2_consA f fs x xs c = .ok (x :: xs) c := id rfl
@[simp] theorem k1_consA_eq (f : M PyData) (fs : M (List PyData))  (x : PyData) (c : Co) : k1_consA f fs  x c = (fs c).go (k2_consA f fs x) := id rfl
@[simp] theorem s_consA (f : M PyData) (fs : M (List PyData)) (c : Co) : consA f fs c = (f c).go (k1_consA f fs) := id rfl
def k1_ca (g : List PyData → Option PyData) (fs : M (List PyData))  (xs : List PyData) (c : Co) : R (PyData) := ofO (g xs) c
@[simp] theorem k1_ca_eq (g : List PyData → Option PyData) (fs : M (List PyData))  (xs : List PyData) (c : Co) : k1_ca g fs  xs c = ofO (g xs) c := id rfl
@[simp] theorem s_ca (g : List PyData → Option PyData) (fs : M (List PyData)) (c : Co) : ca g fs c = (fs c).go (k1_ca g fs) := id rfl
def k1_ci (g : List PyData → Option (List PyData)) (fs : M (List PyData))  (xs : List PyData) (c : Co) : R (List PyData) := ofO (g xs) c
@[simp] theorem k1_ci_eq (g : List PyData → Option (List PyData)) (fs : M (List PyData))  (xs : List PyData) (c : Co) : k1_ci g fs  xs c = ofO (g xs) c := id rfl
@[simp] theorem s_ci (g : List PyData → Option (List PyData)) (fs : M (List PyData)) (c : Co) : ci g fs c = (fs c).go (k1_ci g fs) := id rfl
def k1_itm (f : M PyData)  (x : PyData) (c : Co) : R (List PyData) := ofO (itemsO x) c
@[simp] theorem k1_itm_eq (f : M PyData)  (x : PyData) (c : Co) : k1_itm f  x c = ofO (itemsO x) c := id rfl
@[simp] theorem s_itm (f : M PyData) (c : Co) : itm f c = (f c).go (k1_itm f) := id rfl
def k1_tupM (f : M (List PyData))  (xs : List PyData) (c : Co) : R (PyData) := if xs.length ≤ sizeLine then .ok (.tuple xs) c else .stuck
@[simp] theorem k1_tupM_eq (f : M (List PyData))  (xs : List PyData) (c : Co) : k1_tupM f  xs c = if xs.length ≤ sizeLine then .ok (.tuple xs) c else .stuck := id rfl
@[simp] theorem s_tupM (f : M (List PyData)) (c : Co) : tupM f c = (f c).go (k1_tupM f) := by
  unfold tupM
  rw [bnd_go]
  congr 1
  funext xs c1
  unfold k1_tupM
  split <;> rfl
def k1_lstM (f : M (List PyData))  (xs : List PyData) (c : Co) : R (EV) := if xs.length ≤ sizeLine then .ok (.own (.lst xs)) c else .stuck
@[simp] theorem k1_lstM_eq (f : M (List PyData))  (xs : List PyData) (c : Co) : k1_lstM f  xs c = if xs.length ≤ sizeLine then .ok (.own (.lst xs)) c else .stuck := id rfl
@[simp] theorem s_lstM (f : M (List PyData)) (c : Co) : lstM f c = (f c).go (k1_lstM f) := by
  unfold lstM
  rw [bnd_go]
  congr 1
  funext xs c1
  unfold k1_lstM
  split <;> rfl
def k1_frM (f : M EV)  (x : EV) (c : Co) : R (PyData) := frz x c
@[simp] theorem k1_frM_eq (f : M EV)  (x : EV) (c : Co) : k1_frM f  x c = frz x c := id rfl
@[simp] theorem s_frM (f : M EV) (c : Co) : frM f c = (f c).go (k1_frM f) := id rfl
def k1_dM (f : M PyData)  (x : PyData) (c : Co) : R (EV) := .ok (.d x) c
@[simp] theorem k1_dM_eq (f : M PyData)  (x : PyData) (c : Co) : k1_dM f  x c = .ok (.d x) c := id rfl
@[simp] theorem s_dM (f : M PyData) (c : Co) : dM f c = (f c).go (k1_dM f) := id rfl
def k3_consC (f : M EV) (fs : M (List EV)) (x : EV) (y : EV) (xs : List EV) (c : Co) : R (List EV) := .ok (y :: xs) c
def k2_consC (f : M EV) (fs : M (List EV)) (x : EV) (y : EV) (c : Co) : R (List EV) := (fs c).go (k3_consC f fs x y)
def k1_consC (f : M EV) (fs : M (List EV))  (x : EV) (c : Co) : R (List EV) := ((arg x) c).go (k2_consC f fs x)
@[simp] theorem k3_consC_eq (f : M EV) (fs : M (List EV)) (x : EV) (y : EV) (xs : List EV) (c : Co) : k3_consC f fs x y xs c = .ok (y :: xs) c := id rfl
@[simp] theorem k2_consC_eq (f : M EV) (fs : M (List EV)) (x : EV) (y : EV) (c : Co) : k2_consC f fs x y c = (fs c).go (k3_consC f fs x y) := id rfl
@[simp] theorem k1_consC_eq (f : M EV) (fs : M (List EV))  (x : EV) (c : Co) : k1_consC f fs  x c = ((arg x) c).go (k2_consC f fs x) := id rfl
@[simp] theorem s_consC (f : M EV) (fs : M (List EV)) (c : Co) : consC f fs c = (f c).go (k1_consC f fs) := by
  unfold consC
  rw [bnd_go, bnd_go]
  cases f c <;> rfl
def k2_consO (f : M EV) (fs : M (List EV)) (x : EV) (xs : List EV) (c : Co) : R (List EV) := .ok (x :: xs) c
def k1_consO (f : M EV) (fs : M (List EV))  (x : EV) (c : Co) : R (List EV) := (fs c).go (k2_consO f fs x)
@[simp] theorem k2_consO_eq (f : M EV) (fs : M (List EV)) (x : EV) (xs : List EV) (c : Co) : k2_consO f fs x xs c = .ok (x :: xs) c := id rfl
@[simp] theorem k1_consO_eq (f : M EV) (fs : M (List EV))  (x : EV) (c : Co) : k1_consO f fs  x c = (fs c).go (k2_consO f fs x) := id rfl
@[simp] theorem s_consO (f : M EV) (fs : M (List EV)) (c : Co) : consO f fs c = (f c).go (k1_consO f fs) := id rfl
def k1_cl (F : FD) (fs : M (List EV))  (xs : List EV) (c : Co) : R (EV) := back (F xs c.sto) c
@[simp] theorem k1_cl_eq (F : FD) (fs : M (List EV))  (xs : List EV) (c : Co) : k1_cl F fs  xs c = back (F xs c.sto) c := id rfl
@[simp] theorem s_cl (F : FD) (fs : M (List EV)) (c : Co) : cl F fs c = (fs c).go (k1_cl F fs) := by
  unfold cl
  rw [bnd_go]
  rfl
def k1_tst (f : M PyData)  (x : PyData) (c : Co) : R (Bool) := asB x c
@[simp] theorem k1_tst_eq (f : M PyData)  (x : PyData) (c : Co) : k1_tst f  x c = asB x c := id rfl
@[simp] theorem s_tst (f : M PyData) (c : Co) : tst f c = (f c).go (k1_tst f) := id rfl
def k1_andB (a : M Bool) (b : M Bool)  (x : Bool) (c : Co) : R (Bool) := cond x (b c) (.ok false c)
@[simp] theorem k1_andB_eq (a : M Bool) (b : M Bool)  (x : Bool) (c : Co) : k1_andB a b  x c = cond x (b c) (.ok false c) := id rfl
@[simp] theorem s_andB (a : M Bool) (b : M Bool) (c : Co) : andB a b c = (a c).go (k1_andB a b) := by
  unfold andB
  rw [bnd_go]
  congr 1
  funext x c1
  cases x <;> rfl
def k1_orB (a : M Bool) (b : M Bool)  (x : Bool) (c : Co) : R (Bool) := cond x (.ok true c) (b c)
@[simp] theorem k1_orB_eq (a : M Bool) (b : M Bool)  (x : Bool) (c : Co) : k1_orB a b  x c = cond x (.ok true c) (b c) := id rfl
@[simp] theorem s_orB (a : M Bool) (b : M Bool) (c : Co) : orB a b c = (a c).go (k1_orB a b) := by
  unfold orB
  rw [bnd_go]
  congr 1
  funext x c1
  cases x <;> rfl
def k1_notB (a : M Bool)  (x : Bool) (c : Co) : R (Bool) := .ok (!x) c
@[simp] theorem k1_notB_eq (a : M Bool)  (x : Bool) (c : Co) : k1_notB a  x c = .ok (!x) c := id rfl
@[simp] theorem s_notB (a : M Bool) (c : Co) : notB a c = (a c).go (k1_notB a) := id rfl
def k1_soO (f : M PyData)  (x : PyData) (c : Co) : R (Option Int) := asI x c
@[simp] theorem k1_soO_eq (f : M PyData)  (x : PyData) (c : Co) : k1_soO f  x c = asI x c := id rfl
@[simp] theorem s_soO (f : M PyData) (c : Co) : soO f c = (f c).go (k1_soO f) := id rfl
def k3_slM (fe : M PyData) (fl : M (Option Int)) (fh : M (Option Int)) (x : PyData) (l : Option Int) (h : Option Int) (c : Co) : R (PyData) := ofO (slD x l h) c
def k2_slM (fe : M PyData) (fl : M (Option Int)) (fh : M (Option Int)) (x : PyData) (l : Option Int) (c : Co) : R (PyData) := (fh c).go (k3_slM fe fl fh x l)
def k1_slM (fe : M PyData) (fl : M (Option Int)) (fh : M (Option Int))  (x : PyData) (c : Co) : R (PyData) := (fl c).go (k2_slM fe fl fh x)
@[simp] theorem k3_slM_eq (fe : M PyData) (fl : M (Option Int)) (fh : M (Option Int)) (x : PyData) (l : Option Int) (h : Option Int) (c : Co) : k3_slM fe fl fh x l h c = ofO (slD x l h) c := id rfl
@[simp] theorem k2_slM_eq (fe : M PyData) (fl : M (Option Int)) (fh : M (Option Int)) (x : PyData) (l : Option Int) (c : Co) : k2_slM fe fl fh x l c = (fh c).go (k3_slM fe fl fh x l) := id rfl
@[simp] theorem k1_slM_eq (fe : M PyData) (fl : M (Option Int)) (fh : M (Option Int))  (x : PyData) (c : Co) : k1_slM fe fl fh  x c = (fl c).go (k2_slM fe fl fh x) := id rfl
@[simp] theorem s_slM (fe : M PyData) (fl : M (Option Int)) (fh : M (Option Int)) (c : Co) : slM fe fl fh c = (fe c).go (k1_slM fe fl fh) := id rfl
def k3_scM (i : Nat) (fl : M (Option Int)) (fh : M (Option Int)) (ns : List Int) (l : Option Int) (h : Option Int) (c : Co) : R (PyData) := .ok (.list ((cutI ns l h).map .int)) c
def k2_scM (i : Nat) (fl : M (Option Int)) (fh : M (Option Int)) (ns : List Int) (l : Option Int) (c : Co) : R (PyData) := (fh c).go (k3_scM i fl fh ns l)
def k1_scM (i : Nat) (fl : M (Option Int)) (fh : M (Option Int))  (ns : List Int) (c : Co) : R (PyData) := (fl c).go (k2_scM i fl fh ns)
@[simp] theorem k3_scM_eq (i : Nat) (fl : M (Option Int)) (fh : M (Option Int)) (ns : List Int) (l : Option Int) (h : Option Int) (c : Co) : k3_scM i fl fh ns l h c = .ok (.list ((cutI ns l h).map .int)) c := id rfl
@[simp] theorem k2_scM_eq (i : Nat) (fl : M (Option Int)) (fh : M (Option Int)) (ns : List Int) (l : Option Int) (c : Co) : k2_scM i fl fh ns l c = (fh c).go (k3_scM i fl fh ns l) := id rfl
@[simp] theorem k1_scM_eq (i : Nat) (fl : M (Option Int)) (fh : M (Option Int))  (ns : List Int) (c : Co) : k1_scM i fl fh  ns c = (fl c).go (k2_scM i fl fh ns) := id rfl
@[simp] theorem s_scM (i : Nat) (fl : M (Option Int)) (fh : M (Option Int)) (c : Co) : scM i fl fh c = ((scrM i) c).go (k1_scM i fl fh) := id rfl
def k3_mtM (T : String) (g : PyData → List PyData → Option PyData) (fo : M PyData) (fs : M (List PyData)) (d : PyData) (u : Unit) (xs : List PyData) (c : Co) : R (PyData) := ofO (g d xs) c
def k2_mtM (T : String) (g : PyData → List PyData → Option PyData) (fo : M PyData) (fs : M (List PyData)) (d : PyData) (u : Unit) (c : Co) : R (PyData) := (fs c).go (k3_mtM T g fo fs d u)
def k1_mtM (T : String) (g : PyData → List PyData → Option PyData) (fo : M PyData) (fs : M (List PyData))  (d : PyData) (c : Co) : R (PyData) := ((chkT T d) c).go (k2_mtM T g fo fs d)
@[simp] theorem k3_mtM_eq (T : String) (g : PyData → List PyData → Option PyData) (fo : M PyData) (fs : M (List PyData)) (d : PyData) (u : Unit) (xs : List PyData) (c : Co) : k3_mtM T g fo fs d u xs c = ofO (g d xs) c := id rfl
@[simp] theorem k2_mtM_eq (T : String) (g : PyData → List PyData → Option PyData) (fo : M PyData) (fs : M (List PyData)) (d : PyData) (u : Unit) (c : Co) : k2_mtM T g fo fs d u c = (fs c).go (k3_mtM T g fo fs d u) := id rfl
@[simp] theorem k1_mtM_eq (T : String) (g : PyData → List PyData → Option PyData) (fo : M PyData) (fs : M (List PyData))  (d : PyData) (c : Co) : k1_mtM T g fo fs  d c = ((chkT T d) c).go (k2_mtM T g fo fs d) := id rfl
@[simp] theorem s_mtM (T : String) (g : PyData → List PyData → Option PyData) (fo : M PyData) (fs : M (List PyData)) (c : Co) : mtM T g fo fs c = (fo c).go (k1_mtM T g fo fs) := id rfl
def k1_lnS (i : Nat)  (x : PyData) (c : Co) : R (PyData) := ofO (lenD x) c
@[simp] theorem k1_lnS_eq (i : Nat)  (x : PyData) (c : Co) : k1_lnS i  x c = ofO (lenD x) c := id rfl
@[simp] theorem s_lnS (i : Nat) (c : Co) : lnS i c = ((lookM i) c).go (k1_lnS i) := id rfl
def k1_lnM (f : M PyData)  (x : PyData) (c : Co) : R (PyData) := ofO (lenD x) c
@[simp] theorem k1_lnM_eq (f : M PyData)  (x : PyData) (c : Co) : k1_lnM f  x c = ofO (lenD x) c := id rfl
@[simp] theorem s_lnM (f : M PyData) (c : Co) : lnM f c = (f c).go (k1_lnM f) := id rfl
def k3_ixS (i : Nat) (f : M PyData) (u : Unit) (y : PyData) (x : PyData) (c : Co) : R (PyData) := ofO (ixD x y) c
def k2_ixS (i : Nat) (f : M PyData) (u : Unit) (y : PyData) (c : Co) : R (PyData) := ((lookM i) c).go (k3_ixS i f u y)
def k1_ixS (i : Nat) (f : M PyData)  (u : Unit) (c : Co) : R (PyData) := (f c).go (k2_ixS i f u)
@[simp] theorem k3_ixS_eq (i : Nat) (f : M PyData) (u : Unit) (y : PyData) (x : PyData) (c : Co) : k3_ixS i f u y x c = ofO (ixD x y) c := id rfl
@[simp] theorem k2_ixS_eq (i : Nat) (f : M PyData) (u : Unit) (y : PyData) (c : Co) : k2_ixS i f u y c = ((lookM i) c).go (k3_ixS i f u y) := id rfl
@[simp] theorem k1_ixS_eq (i : Nat) (f : M PyData)  (u : Unit) (c : Co) : k1_ixS i f  u c = (f c).go (k2_ixS i f u) := id rfl
@[simp] theorem s_ixS (i : Nat) (f : M PyData) (c : Co) : ixS i f c = ((chkS i) c).go (k1_ixS i f) := id rfl
def k1_setM (i : Nat) (f : M EV)  (x : EV) (c : Co) : R (Fl) := stV i x c
@[simp] theorem k1_setM_eq (i : Nat) (f : M EV)  (x : EV) (c : Co) : k1_setM i f  x c = stV i x c := id rfl
@[simp] theorem s_setM (i : Nat) (f : M EV) (c : Co) : setM i f c = (f c).go (k1_setM i f) := id rfl
def k1_locM (i : Nat) (f : M EV)  (x : EV) (c : Co) : R (Fl) := stLoc i x c
@[simp] theorem k1_locM_eq (i : Nat) (f : M EV)  (x : EV) (c : Co) : k1_locM i f  x c = stLoc i x c := id rfl
@[simp] theorem s_locM (i : Nat) (f : M EV) (c : Co) : locM i f c = (f c).go (k1_locM i f) := id rfl
def k1_parM (is : List Nat) (f : M (List EV))  (xs : List EV) (c : Co) : R (Fl) := stAll is xs c
@[simp] theorem k1_parM_eq (is : List Nat) (f : M (List EV))  (xs : List EV) (c : Co) : k1_parM is f  xs c = stAll is xs c := id rfl
@[simp] theorem s_parM (is : List Nat) (f : M (List EV)) (c : Co) : parM is f c = (f c).go (k1_parM is f) := id rfl
def k1_retM (f : M EV)  (x : EV) (c : Co) : R (Fl) := .ok (.rt x) c
@[simp] theorem k1_retM_eq (f : M EV)  (x : EV) (c : Co) : k1_retM f  x c = .ok (.rt x) c := id rfl
@[simp] theorem s_retM (f : M EV) (c : Co) : retM f c = (f c).go (k1_retM f) := id rfl
def k1_expM (f : M EV)  (x : EV) (c : Co) : R (Fl) := .ok .nx c
@[simp] theorem k1_expM_eq (f : M EV)  (x : EV) (c : Co) : k1_expM f  x c = .ok .nx c := id rfl
@[simp] theorem s_expM (f : M EV) (c : Co) : expM f c = (f c).go (k1_expM f) := id rfl
def k1_forS (f : M (List PyData)) (g : GT) (b : M Fl)  (xs : List PyData) (c : Co) : R (Fl) := forM g b xs c
@[simp] theorem k1_forS_eq (f : M (List PyData)) (g : GT) (b : M Fl)  (xs : List PyData) (c : Co) : k1_forS f g b  xs c = forM g b xs c := id rfl
@[simp] theorem s_forS (f : M (List PyData)) (g : GT) (b : M Fl) (c : Co) : forS f g b c = (f c).go (k1_forS f g b) := id rfl
def k2_appM (i : Nat) (f : M PyData) (u : Unit) (y : PyData) (c : Co) : R (Fl) := updL i (appL y) c
def k1_appM (i : Nat) (f : M PyData)  (u : Unit) (c : Co) : R (Fl) := (f c).go (k2_appM i f u)
@[simp] theorem k2_appM_eq (i : Nat) (f : M PyData) (u : Unit) (y : PyData) (c : Co) : k2_appM i f u y c = updL i (appL y) c := id rfl
@[simp] theorem k1_appM_eq (i : Nat) (f : M PyData)  (u : Unit) (c : Co) : k1_appM i f  u c = (f c).go (k2_appM i f u) := id rfl
@[simp] theorem s_appM (i : Nat) (f : M PyData) (c : Co) : appM i f c = ((chk i) c).go (k1_appM i f) := id rfl
def k2_extM (i : Nat) (f : M PyData) (u : Unit) (y : PyData) (c : Co) : R (Fl) := updL i (extL y) c
def k1_extM (i : Nat) (f : M PyData)  (u : Unit) (c : Co) : R (Fl) := (f c).go (k2_extM i f u)
@[simp] theorem k2_extM_eq (i : Nat) (f : M PyData) (u : Unit) (y : PyData) (c : Co) : k2_extM i f u y c = updL i (extL y) c := id rfl
@[simp] theorem k1_extM_eq (i : Nat) (f : M PyData)  (u : Unit) (c : Co) : k1_extM i f  u c = (f c).go (k2_extM i f u) := id rfl
@[simp] theorem s_extM (i : Nat) (f : M PyData) (c : Co) : extM i f c = ((chk i) c).go (k1_extM i f) := id rfl
def k3_putM (i : Nat) (fi : M PyData) (f : M PyData) (v : PyData) (u : Unit) (k : PyData) (c : Co) : R (Fl) := putAt i k v c
def k2_putM (i : Nat) (fi : M PyData) (f : M PyData) (v : PyData) (u : Unit) (c : Co) : R (Fl) := (fi c).go (k3_putM i fi f v u)
def k1_putM (i : Nat) (fi : M PyData) (f : M PyData)  (v : PyData) (c : Co) : R (Fl) := ((chkS i) c).go (k2_putM i fi f v)
@[simp] theorem k3_putM_eq (i : Nat) (fi : M PyData) (f : M PyData) (v : PyData) (u : Unit) (k : PyData) (c : Co) : k3_putM i fi f v u k c = putAt i k v c := id rfl
@[simp] theorem k2_putM_eq (i : Nat) (fi : M PyData) (f : M PyData) (v : PyData) (u : Unit) (c : Co) : k2_putM i fi f v u c = (fi c).go (k3_putM i fi f v u) := id rfl
@[simp] theorem k1_putM_eq (i : Nat) (fi : M PyData) (f : M PyData)  (v : PyData) (c : Co) : k1_putM i fi f  v c = ((chkS i) c).go (k2_putM i fi f v) := id rfl
@[simp] theorem s_putM (i : Nat) (fi : M PyData) (f : M PyData) (c : Co) : putM i fi f c = (f c).go (k1_putM i fi f) := id rfl
def k1_unpM (g : GT) (f : M PyData)  (x : PyData) (c : Co) : R (Fl) := gO (g x c)
@[simp] theorem k1_unpM_eq (g : GT) (f : M PyData)  (x : PyData) (c : Co) : k1_unpM g f  x c = gO (g x c) := id rfl
@[simp] theorem s_unpM (g : GT) (f : M PyData) (c : Co) : unpM g f c = (f c).go (k1_unpM g f) := id rfl
def k1_thenM (m : M Fl) (k : M Fl)  (fl : Fl) (c : Co) : R (Fl) := flK k fl c
@[simp] theorem k1_thenM_eq (m : M Fl) (k : M Fl)  (fl : Fl) (c : Co) : k1_thenM m k  fl c = flK k fl c := id rfl
@[simp] theorem s_thenM (m : M Fl) (k : M Fl) (c : Co) : thenM m k c = (m c).go (k1_thenM m k) := by
  unfold thenM
  rw [bnd_go]
  congr 1
  funext fl c1
  cases fl <;> rfl
@[simp] theorem s_pure {α : Type} (x : α) (c : Co) : (pure x : M α) c = .ok x c := id rfl
@[simp] theorem s_ret {α : Type} (x : α) (c : Co) : (M.ret x : M α) c = .ok x c := id rfl
@[simp] theorem s_stuck {α : Type} (c : Co) : (stuckM : M α) c = .stuck := id rfl
@[simp] theorem s_ofO {α : Type} (x : α) (c : Co) : ofO (some x) c = .ok x c := id rfl
@[simp] theorem s_ofN {α : Type} (c : Co) : (ofO none : M α) c = .stuck := id rfl
@[simp] theorem s_nilA (c : Co) : nilA c = .ok [] c := id rfl
@[simp] theorem s_frzd (x : PyData) (c : Co) : frz (.d x) c = .ok x c := id rfl
@[simp] theorem s_frzo (x : List PyData) (c : Co) : frz (.own (.lst x)) c = .ok (.list x) c := id rfl
@[simp] theorem s_nilC (c : Co) : nilC c = .ok [] c := id rfl
@[simp] theorem s_argd (x : PyData) (c : Co) : arg (.d x) c = .ok (.d x) c := id rfl
@[simp] theorem s_argl (x : Nat) (c : Co) : arg (.loc x) c = .ok (.loc x) c := id rfl
@[simp] theorem s_args (x : List Int) (c : Co) : arg (.scr x) c = .ok (.scr x) c := id rfl
@[simp] theorem s_asB (b : Bool) (c : Co) : asB (.bool b) c = .ok b c := id rfl
@[simp] theorem s_noO (c : Co) : noO c = .ok none c := id rfl
@[simp] theorem s_asI (i : Int) (c : Co) : asI (.int i) c = .ok (some i) c := id rfl
@[simp] theorem s_chkTs (x : Str) (c : Co) : chkT "str" (.str x) c = .ok () c := id rfl
@[simp] theorem s_chkTl (x : List PyData) (c : Co) : chkT "list" (.list x) c = .ok () c := id rfl
@[simp] theorem s_rdP (i : Nat) (c : Co) : rdP i c = match c.env[i]? with
  | some (.d x) => .ok x c
  | some (.own o) => .ok (frozen o) { c with env := c.env.set i (.d (frozen o)) }
  | _ => .stuck := id rfl
@[simp] theorem s_rd (i : Nat) (c : Co) : rd i c = match c.env[i]? with
  | some (.d x) => .ok (.d x) c
  | some (.loc n) => .ok (.loc n) c
  | some (.scr n) => .ok (.scr n) c
  | some (.own o) => .ok (.d (frozen o)) { c with env := c.env.set i (.d (frozen o)) }
  | _ => .stuck := id rfl
@[simp] theorem s_frozen (xs : List PyData) : frozen (.lst xs) = .list xs := id rfl
@[simp] theorem s_lookM (i : Nat) (c : Co) : lookM i c = match look i c with | some x => .ok x c | none => .stuck := by
  unfold lookM
  cases look i c <;> rfl
@[simp] theorem s_chkS (i : Nat) (c : Co) : chkS i c = match look i c with | some x => .ok () c | none => .stuck := by
  unfold chkS
  cases look i c <;> rfl
@[simp] theorem s_look (i : Nat) (c : Co) : look i c = match c.env[i]? with
  | some (.d x) => some x
  | some (.own o) => some (frozen o)
  | some (.loc n) => (c.sto[n]?).map frozen
  | _ => none := by
  unfold look
  rcases c.env[i]? with _ | e
  · rfl
  · cases e <;> rfl
@[simp] theorem s_stVd (i : Nat) (x : PyData) (c : Co) : stV i (.d x) c = if i < c.env.length then .ok .nx { c with env := c.env.set i (.d x) } else .stuck := id rfl
@[simp] theorem s_stVo (i : Nat) (x : OB) (c : Co) : stV i (.own x) c = if i < c.env.length then .ok .nx { c with env := c.env.set i (.own x) } else .stuck := id rfl
@[simp] theorem s_stLo (i : Nat) (o : OB) (c : Co) : stLoc i (.own o) c = if i < c.env.length then .ok .nx ⟨c.env.set i (.loc c.sto.length), c.sto ++ [o]⟩ else .stuck := id rfl
@[simp] theorem s_stA0 (c : Co) : stAll [] [] c = .ok .nx c := id rfl
@[simp] theorem s_stA1 (i : Nat) (is : List Nat) (x : EV) (xs : List EV) (c : Co) : stAll (i :: is) (x :: xs) c = thenM (stV i x) (stAll is xs) c := id rfl
@[simp] theorem s_chk (i : Nat) (c : Co) : chk i c = match c.env[i]? with
  | some (.own (.lst _)) => .ok () c
  | _ => .stuck := id rfl
@[simp] theorem s_updL (i : Nat) (u : List PyData → Option (List PyData)) (c : Co) : updL i u c = match c.env[i]? with
  | some (.own (.lst xs)) => match u xs with
    | some ys => .ok .nx { c with env := c.env.set i (.own (.lst ys)) }
    | none => .stuck
  | _ => .stuck := id rfl
@[simp] theorem s_appL (x : PyData) (xs : List PyData) : appL x xs = if xs.length < sizeLine then some (xs ++ [x]) else none := id rfl
@[simp] theorem s_extL (ys xs : List PyData) : extL (.list ys) xs = if xs.length + ys.length ≤ sizeLine then some (xs ++ ys) else none := id rfl
@[simp] theorem s_gN (i : Nat) (x : PyData) (c : Co) : gN i x c = if i < c.env.length then some { c with env := c.env.set i (.d x) } else none := id rfl
@[simp] theorem s_gT (gs : List GT) (xs : List PyData) (c : Co) : gT gs (.tuple xs) c = gTs gs xs c := id rfl
@[simp] theorem s_gTL (gs : List GT) (xs : List PyData) (c : Co) : gTL gs (.list xs) c = gTs gs xs c := id rfl
@[simp] theorem s_gTs0 (c : Co) : gTs [] [] c = some c := id rfl
@[simp] theorem s_gTs1 (g : GT) (gs : List GT) (x : PyData) (xs : List PyData) (c : Co) : gTs (g :: gs) (x :: xs) c = (g x c).bind (gTs gs xs) := id rfl
/-! ### one for each operation on numbers -/
@[simp] theorem o_eqI (a b : Int) : eqD (.int a) (.int b) = some (.bool (decide (a = b))) := by
  unfold eqD
  rw [if_pos (by rfl)]
  simp only [PyData.eqv]
  congr 2
@[simp] theorem o_neI (a b : Int) : neD (.int a) (.int b) = some (.bool (!decide (a = b))) := by
  unfold neD
  rw [if_pos (by rfl)]
  simp only [PyData.eqv]
  congr 2
theorem ltInt (a b : Int) : PySem.W.dataLt (.int a) (.int b) = decide (a < b) := by
  unfold PySem.W.dataLt
  simp [PySem.W.keyToks, PyProof.Rows.lexLt, itemOrd, itemLt]
@[simp] theorem o_ltI (a b : Int) : ltD (.int a) (.int b) = some (.bool (decide (a < b))) := by
  unfold ltD
  rw [if_pos (by rfl), ltInt]
@[simp] theorem o_gtI (a b : Int) : gtD (.int a) (.int b) = some (.bool (decide (b < a))) := by
  unfold gtD
  rw [if_pos (by rfl), ltInt]
@[simp] theorem o_leI (a b : Int) : leD (.int a) (.int b) = some (.bool (decide (a ≤ b))) := by
  unfold leD
  rw [if_pos (by rfl), ltInt]
  congr 2
  by_cases h : a ≤ b
  · rw [decide_eq_true h, decide_eq_false (by omega)]; rfl
  · rw [decide_eq_false h, decide_eq_true (by omega)]; rfl
@[simp] theorem o_geI (a b : Int) : geD (.int a) (.int b) = some (.bool (decide (b ≤ a))) := by
  unfold geD
  rw [if_pos (by rfl), ltInt]
  congr 2
  by_cases h : b ≤ a
  · rw [decide_eq_true h, decide_eq_false (by omega)]; rfl
  · rw [decide_eq_false h, decide_eq_true (by omega)]; rfl
@[simp] theorem o_addI (a b : Int) : addD (.int a) (.int b) = some (.int (a + b)) := id rfl
@[simp] theorem o_subI (a b : Int) : subD (.int a) (.int b) = some (.int (a - b)) := id rfl
@[simp] theorem o_not (b : Bool) : notD (.bool b) = some (.bool (!b)) := id rfl
@[simp] theorem o_int (i : Int) : intD [.int i] = some (.int i) := id rfl
@[simp] theorem o_abs (i : Int) : absD [.int i] = some (.int (if i < 0 then -i else i)) := id rfl
@[simp] theorem o_lenL (xs : List PyData) : lenD (.list xs) = some (.int (xs.length : Nat)) := id rfl
@[simp] theorem o_lenT (xs : List PyData) : lenD (.tuple xs) = some (.int (xs.length : Nat)) := id rfl
@[simp] theorem o_itL (xs : List PyData) : itemsO (.list xs) = some xs := id rfl
@[simp] theorem o_itT (xs : List PyData) : itemsO (.tuple xs) = some xs := id rfl
@[simp] theorem o_tupL (xs : List PyData) : tupD [.list xs] = some (.tuple xs) := id rfl
@[simp] theorem o_revT (xs : List PyData) : revD (.tuple xs) = some (.tuple xs.reverse) := id rfl
@[simp] theorem o_revL (xs : List PyData) : revD (.list xs) = some (.list xs.reverse) := id rfl
@[simp] theorem o_allL (bs : List Bool) : allD [.list (bs.map .bool)] = some (.bool (bs.all id)) := by
  show (boolsOf _).map _ = _
  rw [boolsOf_map]
  rfl
@[simp] theorem o_anyL (bs : List Bool) : anyD [.list (bs.map .bool)] = some (.bool (bs.any id)) := by
  show (boolsOf _).map _ = _
  rw [boolsOf_map]
  rfl
@[simp] theorem o_sumL (bs : List Int) : sumD [.list (bs.map .int)] = some (.int bs.sum) := by
  show (intsOf _).map _ = _
  rw [intsOf_map]
  rfl
@[simp] theorem o_sumT (bs : List Int) : sumD [.tuple (bs.map .int)] = some (.int bs.sum) := by
  show (intsOf _).map _ = _
  rw [intsOf_map]
  rfl
@[simp] theorem cond_ok {α : Type} (q : Bool) (x y : α) (c : Co) : cond q (R.ok x c) (R.ok y c) = R.ok (cond q x y) c := by cases q <;> rfl
@[simp] theorem cond_and (q a : Bool) : cond q (PyData.bool a) (PyData.bool false) = .bool (q && a) := by cases q <;> rfl
@[simp] theorem cond_or (q a : Bool) : cond q (PyData.bool true) (PyData.bool a) = .bool (q || a) := by cases q <;> rfl
@[simp] theorem o_rng1 (k : Nat) (h : k ≤ 1000000) : rng1O [.int (k : Int)] = some ((List.range k).map fun i : Nat => PyData.int (i : Int)) := by
  have z : rng1O [.int (k : Int)] = if -(2 ^ 62) ≤ (k : Int) ∧ (k : Int) < 2 ^ 62 then some (rng 0 (k : Int).toNat) else none := rfl
  rw [z, if_pos ⟨by omega, by omega⟩]
  unfold rng
  simp
@[simp] theorem o_addT (a b : List PyData) (h : a.length + b.length ≤ sizeLine) : addD (.tuple a) (.tuple b) = some (.tuple (a ++ b)) := by
  exact if_pos h
@[simp] theorem o_addL (a b : List PyData) (h : a.length + b.length ≤ sizeLine) : addD (.list a) (.list b) = some (.list (a ++ b)) := by
  exact if_pos h
theorem o_ixT {xs : List PyData} {k : Nat} {z : PyData} (h : xs[k]? = some z) : ixD (.tuple xs) (.int (k : Int)) = some z := atI_nat h
theorem o_ixL {xs : List PyData} {k : Nat} {z : PyData} (h : xs[k]? = some z) : ixD (.list xs) (.int (k : Int)) = some z := atI_nat h
theorem ixT0 (x : PyData) (xs : List PyData) : ixD (.tuple (x :: xs)) (.int 0) = some x := atI_nat (j := 0) rfl
theorem ixL0 (x : PyData) (xs : List PyData) : ixD (.list (x :: xs)) (.int 0) = some x := atI_nat (j := 0) rfl
@[simp] theorem o_rng2 (a b : Nat) (ha : a ≤ 1000000) (h : b ≤ 1000000) : rng2O [.int (a : Int), .int (b : Int)] = some ((List.range (b - a)).map fun i : Nat => PyData.int ((a : Int) + (i : Int))) := by
  have z : rng2O [.int (a : Int), .int (b : Int)] = if -(2 ^ 62) ≤ (a : Int) ∧ (a : Int) < 2 ^ 62 ∧ -(2 ^ 62) ≤ (b : Int) ∧ (b : Int) < 2 ^ 62 then some (rng a ((b : Int) - a).toNat) else none := rfl
  rw [z, if_pos ⟨by omega, by omega, by omega, by omega⟩]
  unfold rng
  have e : ((b : Int) - a).toNat = b - a := by omega
  rw [e]
theorem zipL_map {α β : Type} (f : α → PyData) (g : β → PyData) : ∀ (xs : List α) (ys : List β), zipL (xs.map f) (ys.map g) = (xs.zip ys).map fun p => .tuple [f p.1, g p.2]
  | [], ys => by cases ys <;> simp [zipL]
  | x :: xs, [] => by simp [zipL]
  | x :: xs, y :: ys => by
    rw [List.map_cons, List.map_cons, zipL, zipL_map f g xs ys]
    rfl
@[simp] theorem o_zipTT (xs ys : List PyData) : zipO [.tuple xs, .tuple ys] = some (zipL xs ys) := id rfl
@[simp] theorem o_zipLL (xs ys : List PyData) : zipO [.list xs, .list ys] = some (zipL xs ys) := id rfl
@[simp] theorem o_zipLT (xs ys : List PyData) : zipO [.list xs, .tuple ys] = some (zipL xs ys) := id rfl
@[simp] theorem o_zipTL (xs ys : List PyData) : zipO [.tuple xs, .list ys] = some (zipL xs ys) := id rfl
@[simp] theorem o_enumT (xs : List PyData) : enumO [.tuple xs] = some (enumL 0 xs) := id rfl
@[simp] theorem o_enumL (xs : List PyData) : enumO [.list xs] = some (enumL 0 xs) := id rfl
/-! ### least, greatest of ints -/
def minL : List Int → Int
  | [] => 0
  | x :: xs => xs.foldl min x
def maxL : List Int → Int
  | [] => 0
  | x :: xs => xs.foldl max x
theorem alike_ints (xs : List Int) : alikeB (xs.map .int) = true := by
  unfold alikeB
  simp only [Bool.and_eq_true, decide_eq_true_eq, List.all_eq_true]
  refine ⟨⟨fun x hx => ⟨?_, fun y hy => ?_⟩, ?_⟩, ?_⟩
  · obtain ⟨a, _, rfl⟩ := List.mem_map.mp hx; rfl
  · obtain ⟨a, _, rfl⟩ := List.mem_map.mp hx
    obtain ⟨b, _, rfl⟩ := List.mem_map.mp hy
    rfl
  · induction xs with
    | nil => rfl
    | cons x xs ih => rw [List.map_cons, PyData.plainAll, ih]; rfl
  · rw [PySem.W.depth_ints]; decide
theorem minOf_ints {xs : List Int} (h : xs ≠ []) : minOf (xs.map .int) = some (.int (minL xs)) := by
  cases xs with
  | nil => exact absurd rfl h
  | cons x xs =>
    have z : minOf ((x :: xs).map .int) = if alikeB ((x :: xs).map .int) then some (PySem.W.minD (.int x) (xs.map .int)) else none := rfl
    rw [z, if_pos (alike_ints _), PySem.W.minD_ints]
    rfl
theorem maxOf_ints {xs : List Int} (h : xs ≠ []) : maxOf (xs.map .int) = some (.int (maxL xs)) := by
  cases xs with
  | nil => exact absurd rfl h
  | cons x xs =>
    have z : maxOf ((x :: xs).map .int) = if alikeB ((x :: xs).map .int) then some (PySem.W.maxD (.int x) (xs.map .int)) else none := rfl
    rw [z, if_pos (alike_ints _), PySem.W.maxD_ints]
    rfl
theorem o_minL {xs : List Int} (h : xs ≠ []) : DL.minD [.list (xs.map .int)] = some (.int (minL xs)) := minOf_ints h
theorem o_maxL {xs : List Int} (h : xs ≠ []) : DL.maxD [.list (xs.map .int)] = some (.int (maxL xs)) := maxOf_ints h
@[simp] theorem o_max2 (a b : Int) : DL.maxD [.int a, .int b] = some (.int (max a b)) := by
  have z : DL.maxD [.int a, .int b] = some (.int (if b > a then b else a)) := rfl
  rw [z]
  congr 2
  by_cases h : b > a
  · rw [if_pos h]; omega
  · rw [if_neg h]; omega
@[simp] theorem o_min2 (a b : Int) : DL.minD [.int a, .int b] = some (.int (min a b)) := by
  have z : DL.minD [.int a, .int b] = some (.int (if b < a then b else a)) := rfl
  rw [z]
  congr 2
  by_cases h : b < a
  · rw [if_pos h]; omega
  · rw [if_neg h]; omega
theorem foldMin_le : ∀ (xs : List Int) (x : Int), xs.foldl min x ≤ x ∧ (∀ y ∈ xs, xs.foldl min x ≤ y) ∧ (xs.foldl min x = x ∨ xs.foldl min x ∈ xs)
  | [], x => ⟨Int.le_refl _, fun y h => (by cases h), .inl rfl⟩
  | z :: xs, x => by
    obtain ⟨h1, h2, h3⟩ := foldMin_le xs (min x z)
    rw [List.foldl_cons]
    refine ⟨by omega, fun y hy => ?_, ?_⟩
    · rcases List.mem_cons.mp hy with rfl | hy
      · omega
      · exact h2 y hy
    · rcases h3 with h3 | h3
      · by_cases q : x ≤ z
        · left; rw [h3]; omega
        · right; rw [h3, show min x z = z by omega]; exact List.mem_cons_self ..
      · right; exact List.mem_cons_of_mem _ h3
theorem foldMax_le : ∀ (xs : List Int) (x : Int), x ≤ xs.foldl max x ∧ (∀ y ∈ xs, y ≤ xs.foldl max x) ∧ (xs.foldl max x = x ∨ xs.foldl max x ∈ xs)
  | [], x => ⟨Int.le_refl _, fun y h => (by cases h), .inl rfl⟩
  | z :: xs, x => by
    obtain ⟨h1, h2, h3⟩ := foldMax_le xs (max x z)
    rw [List.foldl_cons]
    refine ⟨by omega, fun y hy => ?_, ?_⟩
    · rcases List.mem_cons.mp hy with rfl | hy
      · omega
      · exact h2 y hy
    · rcases h3 with h3 | h3
      · by_cases q : z ≤ x
        · left; rw [h3]; omega
        · right; rw [h3, show max x z = z by omega]; exact List.mem_cons_self ..
      · right; exact List.mem_cons_of_mem _ h3
theorem minL_le {xs : List Int} {y : Int} (h : y ∈ xs) : minL xs ≤ y := by
  cases xs with
  | nil => cases h
  | cons x xs =>
    obtain ⟨h1, h2, _⟩ := foldMin_le xs x
    rcases List.mem_cons.mp h with rfl | h
    · exact h1
    · exact h2 y h
theorem minL_mem {xs : List Int} (h : xs ≠ []) : minL xs ∈ xs := by
  cases xs with
  | nil => exact absurd rfl h
  | cons x xs =>
    obtain ⟨_, _, h3⟩ := foldMin_le xs x
    rcases h3 with h3 | h3
    · show xs.foldl min x ∈ _; rw [h3]; exact List.mem_cons_self ..
    · exact List.mem_cons_of_mem _ h3
theorem le_maxL {xs : List Int} {y : Int} (h : y ∈ xs) : y ≤ maxL xs := by
  cases xs with
  | nil => cases h
  | cons x xs =>
    obtain ⟨h1, h2, _⟩ := foldMax_le xs x
    rcases List.mem_cons.mp h with rfl | h
    · exact h1
    · exact h2 y h
theorem maxL_mem {xs : List Int} (h : xs ≠ []) : maxL xs ∈ xs := by
  cases xs with
  | nil => exact absurd rfl h
  | cons x xs =>
    obtain ⟨_, _, h3⟩ := foldMax_le xs x
    rcases h3 with h3 | h3
    · show xs.foldl max x ∈ _; rw [h3]; exact List.mem_cons_self ..
    · exact List.mem_cons_of_mem _ h3
/-! ### equality of like data -/
mutual
theorem eqv_refl : ∀ d : PyData, d.plain = true → PyData.eqv d d = true
  | .none, _ => rfl
  | .bool b, _ => by simp [PyData.eqv]
  | .int b, _ => by simp [PyData.eqv]
  | .str b, _ => by simp [PyData.eqv]
  | .list xs, h => by
    rw [PyData.plain] at h
    simp only [PyData.eqv]
    exact eqvAll_refl xs h
  | .tuple xs, h => by
    rw [PyData.plain] at h
    simp only [PyData.eqv]
    exact eqvAll_refl xs h
  | .dict _, h => by rw [PyData.plain] at h; cases h
theorem eqvAll_refl : ∀ ds : List PyData, PyData.plainAll ds = true → PyData.eqvAll ds ds = true
  | [], _ => by simp only [PyData.eqvAll]
  | d :: ds, h => by
    rw [PyData.plainAll, Bool.and_eq_true] at h
    rw [PyData.eqvAll, eqv_refl d h.1, eqvAll_refl ds h.2]
    rfl
end
theorem eqD_self {d : PyData} (h : d.plain = true) (hd : d.depth ≤ 64) : eqD d d = some (.bool true) := by
  unfold eqD okEq
  rw [h, if_pos (by simp [hd]), eqv_refl d h]
theorem neD_self {d : PyData} (h : d.plain = true) (hd : d.depth ≤ 64) : neD d d = some (.bool false) := by
  unfold neD okEq
  rw [h, if_pos (by simp [hd]), eqv_refl d h]
  rfl
@[simp] theorem neS_self (x : Str) : neD (.str x) (.str x) = some (.bool false) := neD_self rfl (Nat.zero_le _)
theorem o_repr {d : PyData} (h1 : d.showable = true) (h2 : d.hasDict = false) (h3 : d.depth ≤ 64) (h4 : d.shown.length ≤ sizeLine) : reprD [d] = some (.str d.shown) := by
  have z : reprD [d] = if d.showable && !d.hasDict && decide (d.depth ≤ 64) && decide (d.shown.length ≤ sizeLine) then some (.str d.shown) else none := rfl
  rw [z, if_pos (by simp [h1, h2, h3, h4])]
theorem o_allF {α : Type} (xs : List α) (p : α → Bool) : allD [.list (xs.map fun a => .bool (p a))] = some (.bool (xs.all p)) := by
  have e : (xs.map fun a => PyData.bool (p a)) = (xs.map p).map .bool := by rw [List.map_map]; rfl
  rw [e, o_allL, List.all_map]
  rfl
theorem o_anyF {α : Type} (xs : List α) (p : α → Bool) : anyD [.list (xs.map fun a => .bool (p a))] = some (.bool (xs.any p)) := by
  have e : (xs.map fun a => PyData.bool (p a)) = (xs.map p).map .bool := by rw [List.map_map]; rfl
  rw [e, o_anyL, List.any_map]
  rfl
theorem o_sumF {α : Type} (xs : List α) (p : α → Int) : sumD [.list (xs.map fun a => .int (p a))] = some (.int (xs.map p).sum) := by
  have e : (xs.map fun a => PyData.int (p a)) = (xs.map p).map .int := by rw [List.map_map]; rfl
  rw [e, o_sumL]
@[simp] theorem o_allE : allD [.list []] = some (.bool true) := id rfl
theorem o_mulL {a : Int} (b : Int) (h1 : -(2 ^ 64) < a) (h2 : a < 2 ^ 64) : mulD (.int a) (.int b) = some (.int (a * b)) := if_pos (.inl (.inl ⟨h1, h2⟩))
theorem o_mulR (a : Int) {b : Int} (h1 : -(2 ^ 64) < b) (h2 : b < 2 ^ 64) : mulD (.int a) (.int b) = some (.int (a * b)) := if_pos (.inl (.inr ⟨h1, h2⟩))
theorem o_mod (a : Int) {b : Int} (h : 0 < b) : modD (.int a) (.int b) = some (.int (a % b)) := if_pos h
theorem o_fdiv (a : Int) {b : Int} (h : 0 < b) (h2 : b < 1073741824) : fdivD (.int a) (.int b) = some (.int (a / b)) := if_pos ⟨h, h2⟩
theorem o_pow10 : powD (.int 10) (.int 18) = some (.int 1000000000000000000) := id rfl
/-! ### the hand -/
theorem put_loc {i n j : Nat} {xs : List PyData} {v : PyData} {c : Co} (h1 : c.env[i]? = some (.loc n)) (h2 : c.sto[n]? = some (.lst xs)) (h3 : j < xs.length) : putAt i (.int (j : Nat)) v c = .ok .nx { c with sto := c.sto.set n (.lst (xs.set j v)) } := by
  have e : ixN xs.length (j : Int) = some j := by
    unfold ixN
    rw [if_pos (by omega), if_pos (by omega)]
    simp
  unfold putAt
  rw [h1]
  dsimp only
  rw [h2]
  dsimp only
  rw [e]
section
variable {a b d e f v : PyData} {en : List EV}
theorem hx0 : ixD (.list [a, b, d, e, f]) (.int 0) = some a := o_ixL (k := 0) rfl
theorem hx1 : ixD (.list [a, b, d, e, f]) (.int 1) = some b := o_ixL (k := 1) rfl
theorem hx2 : ixD (.list [a, b, d, e, f]) (.int 2) = some d := o_ixL (k := 2) rfl
theorem hx3 : ixD (.list [a, b, d, e, f]) (.int 3) = some e := o_ixL (k := 3) rfl
theorem hx4 : ixD (.list [a, b, d, e, f]) (.int 4) = some f := o_ixL (k := 4) rfl
theorem hp1 : putAt 0 (.int 1) v ⟨.loc 0 :: en, [.lst [a, b, d, e, f]]⟩ = .ok .nx ⟨.loc 0 :: en, [.lst [a, v, d, e, f]]⟩ := put_loc (i := 0) (n := 0) (j := 1) (xs := [a, b, d, e, f]) (v := v) (c := ⟨.loc 0 :: en, [.lst [a, b, d, e, f]]⟩) rfl rfl (show 1 < 5 by decide)
theorem hp2 : putAt 0 (.int 2) v ⟨.loc 0 :: en, [.lst [a, b, d, e, f]]⟩ = .ok .nx ⟨.loc 0 :: en, [.lst [a, b, v, e, f]]⟩ := put_loc (i := 0) (n := 0) (j := 2) (xs := [a, b, d, e, f]) (v := v) (c := ⟨.loc 0 :: en, [.lst [a, b, d, e, f]]⟩) rfl rfl (show 2 < 5 by decide)
theorem hp3 : putAt 0 (.int 3) v ⟨.loc 0 :: en, [.lst [a, b, d, e, f]]⟩ = .ok .nx ⟨.loc 0 :: en, [.lst [a, b, d, v, f]]⟩ := put_loc (i := 0) (n := 0) (j := 3) (xs := [a, b, d, e, f]) (v := v) (c := ⟨.loc 0 :: en, [.lst [a, b, d, e, f]]⟩) rfl rfl (show 3 < 5 by decide)
theorem hp4 : putAt 0 (.int 4) v ⟨.loc 0 :: en, [.lst [a, b, d, e, f]]⟩ = .ok .nx ⟨.loc 0 :: en, [.lst [a, b, d, e, v]]⟩ := put_loc (i := 0) (n := 0) (j := 4) (xs := [a, b, d, e, f]) (v := v) (c := ⟨.loc 0 :: en, [.lst [a, b, d, e, f]]⟩) rfl rfl (show 4 < 5 by decide)
end
def HandOk (hd : List PyData) : Prop := ∃ (cells : List Int) (i : Nat) (v a b : Int), hd = [.list (cells.map .int), .int (i : Nat), .int v, .int a, .int b] ∧ i ≤ cells.length ∧ (∀ x ∈ cells, 0 ≤ x) ∧ 0 ≤ v
theorem sizeLine_big : 1000000 ≤ sizeLine := by rw [sizeLine_eq]; decide
/-- a def's end -/
def finK (r : R Fl) : RF := match r with
  | .stuck => .stuck
  | .ex e c => .ex e c.sto
  | .ok .nx c => .ok (.d .none) c.sto
  | .ok (.rt v) c => .ok v c.sto
  | .ok .bk _ => .stuck
  | .ok .ct _ => .stuck
@[simp] theorem finK_rt (v : EV) (c : Co) : finK (.ok (.rt v) c) = .ok v c.sto := id rfl
@[simp] theorem finK_nx (c : Co) : finK (.ok .nx c) = .ok (.d .none) c.sto := id rfl
theorem fnD_eq (n : Nat) (b : M Fl) (args : List EV) (st : List OB) : fnD n b args st = finK (b ⟨args ++ List.replicate (n - args.length) .un, st⟩) := by
  unfold fnD finK
  cases b ⟨args ++ List.replicate (n - args.length) .un, st⟩ with
  | stuck => rfl
  | ex e c => rfl
  | ok fl c => cases fl <;> rfl
def k1_frzM (i : Nat) (fl : Fl) (c : Co) : R Fl := match fl with
  | .nx => .ok .nx (fzS i c)
  | fl => .ok fl c
@[simp] theorem k1_frzM_eq (i : Nat) (c : Co) : k1_frzM i .nx c = .ok .nx (fzS i c) := id rfl
@[simp] theorem s_fzS (i : Nat) (c : Co) : fzS i c = match c.env[i]? with
  | some (.own o) => { c with env := c.env.set i (.d (frozen o)) }
  | _ => c := id rfl
@[simp] theorem s_frzM (i : Nat) (m : M Fl) (c : Co) : frzM i m c = (m c).go (k1_frzM i) := by
  unfold frzM
  rw [bnd_go]
  congr 1
  funext fl c1
  cases fl <;> rfl
theorem c_rdP (i : Nat) (x : PyData) (c : Co) (h : c.env[i]? = some (.d x)) : rdP i c = .ok x c := by unfold rdP; rw [h]
theorem c_rdPo (i : Nat) (xs : List PyData) (c : Co) (h : c.env[i]? = some (.own (.lst xs))) : rdP i c = .ok (.list xs) { c with env := c.env.set i (.d (.list xs)) } := by unfold rdP; rw [h]; rfl
theorem c_rd (i : Nat) (x : PyData) (c : Co) (h : c.env[i]? = some (.d x)) : rd i c = .ok (.d x) c := by unfold rd; rw [h]
theorem c_rdo (i : Nat) (xs : List PyData) (c : Co) (h : c.env[i]? = some (.own (.lst xs))) : rd i c = .ok (.d (.list xs)) { c with env := c.env.set i (.d (.list xs)) } := by unfold rd; rw [h]; rfl
theorem c_rdl (i : Nat) (n : Nat) (c : Co) (h : c.env[i]? = some (.loc n)) : rd i c = .ok (.loc n) c := by unfold rd; rw [h]
theorem c_rds (i : Nat) (n : List Int) (c : Co) (h : c.env[i]? = some (.scr n)) : rd i c = .ok (.scr n) c := by unfold rd; rw [h]
theorem c_lookM (i : Nat) (x : PyData) (c : Co) (h : look i c = some x) : lookM i c = .ok x c := by unfold lookM; rw [h]
theorem c_chkS (i : Nat) (x : PyData) (c : Co) (h : look i c = some x) : chkS i c = .ok () c := by unfold chkS; rw [h]
theorem look_d (i : Nat) (x : PyData) (c : Co) (h : c.env[i]? = some (.d x)) : look i c = some x := by unfold look; rw [h]
theorem look_o (i : Nat) (xs : List PyData) (c : Co) (h : c.env[i]? = some (.own (.lst xs))) : look i c = some (.list xs) := by unfold look; rw [h]; rfl
theorem look_l (i n : Nat) (xs : List PyData) (c : Co) (h : c.env[i]? = some (.loc n)) (h2 : c.sto[n]? = some (.lst xs)) : look i c = some (.list xs) := by unfold look; rw [h]; dsimp only; rw [h2]; rfl
/-! ### loops -/
theorem for_ok {g : GT} {b : M Fl} (P : Nat → Co → Prop) : ∀ (xs : List PyData) (i : Nat) (c : Co), P i c → (∀ (j : Nat) x c, xs[j]? = some x → P (i + j) c → ∃ c1 c2, g x c = some c1 ∧ b c1 = .ok .nx c2 ∧ P (i + j + 1) c2) → ∃ c', forM g b xs c = .ok .nx c' ∧ P (i + xs.length) c'
  | [], i, c, h, _ => ⟨c, rfl, h⟩
  | x :: xs, i, c, h, hs => by
    obtain ⟨c1, c2, e1, e2, h2⟩ := hs 0 x c rfl h
    obtain ⟨c3, e3, h3⟩ := for_ok P xs (i + 1) c2 h2 fun j y c ey hy => by
      have := hs (j + 1) y c (by simpa using ey) (by rw [show i + (j + 1) = i + 1 + j by omega]; exact hy)
      rw [show i + (j + 1) + 1 = i + 1 + j + 1 by omega] at this
      exact this
    refine ⟨c3, ?_, by rw [List.length_cons, show i + (xs.length + 1) = i + 1 + xs.length by omega]; exact h3⟩
    unfold forM
    rw [e1]
    show (b >>= _) c1 = _
    rw [bnd_ok e2]
    exact e3
/-- a loop that hands back at a place, or goes through -/
theorem for_find {g : GT} {b : M Fl} (P : Co → Prop) (Z : R Fl → Prop) : ∀ (xs : List PyData) (c : Co), P c → (∀ x ∈ xs, ∀ c, P c → ∃ c1, g x c = some c1 ∧ ((∃ c2, b c1 = .ok .nx c2 ∧ P c2) ∨ (∃ v c2, b c1 = .ok (.rt v) c2 ∧ Z (.ok (.rt v) c2)))) → (∃ c', forM g b xs c = .ok .nx c' ∧ P c') ∨ Z (forM g b xs c)
  | [], c, h, _ => .inl ⟨c, rfl, h⟩
  | x :: xs, c, h, hs => by
    obtain ⟨c1, e1, h1⟩ := hs x (List.mem_cons_self ..) c h
    have e0 : forM g b (x :: xs) c = (b >>= fun fl => match fl with
      | .nx => forM g b xs
      | .ct => forM g b xs
      | .bk => pure .nx
      | .rt v => pure (.rt v)) c1 := by
      show (match g x c with | none => _ | some c1 => _) = _
      rw [e1] <;> rfl
    rcases h1 with ⟨c2, e2, h2⟩ | ⟨v, c2, e2, h2⟩
    · rw [e0, bnd_ok e2]
      exact for_find P Z xs c2 h2 fun y hy => hs y (List.mem_cons_of_mem _ hy)
    · right
      rw [e0, bnd_ok e2]
      exact h2
theorem for_step {g : GT} {b : M Fl} {x : PyData} {xs : List PyData} {c c1 c2 : Co} (h1 : g x c = some c1) (h2 : b c1 = .ok .nx c2) : forM g b (x :: xs) c = forM g b xs c2 := by
  show (match g x c with | none => R.stuck | some c1 => _) = _
  rw [h1]
  show (b >>= _) c1 = _
  rw [bnd_ok h2]
theorem for_nil {g : GT} {b : M Fl} {c : Co} : forM g b [] c = .ok .nx c := id rfl
theorem for_ret {g : GT} {b : M Fl} {x : PyData} {xs : List PyData} {c c1 c2 : Co} {v : EV} (h1 : g x c = some c1) (h2 : b c1 = .ok (.rt v) c2) : forM g b (x :: xs) c = .ok (.rt v) c2 := by
  show (match g x c with | none => R.stuck | some c1 => _) = _
  rw [h1]
  show (b >>= _) c1 = _
  rw [bnd_ok h2]
  rfl
/-! ### comprehensions -/
def wip (vs : List Nat) (c : Co) : Co := { c with env := wipeE c.env vs }
theorem wipeE_idem : ∀ (vs : List Nat) (env : List EV), wipeE (wipeE env vs) vs = wipeE env vs := by
  intro vs env
  apply List.ext_getElem?
  intro i
  by_cases h : i ∈ vs
  · by_cases hl : i < env.length
    · rw [wipeE_in h hl, wipeE_in h (by rw [wipeE_length]; exact hl)]
    · rw [List.getElem?_eq_none (by rw [wipeE_length, wipeE_length]; omega), List.getElem?_eq_none (by rw [wipeE_length]; omega)]
  · rw [wipeE_out h]
theorem wip_idem (vs : List Nat) (c : Co) : wip vs (wip vs c) = wip vs c := by
  unfold wip
  dsimp only
  rw [wipeE_idem]
theorem lcM_pure {α : Type} (enc : α → PyData) (p : α → Bool) (h : α → PyData) {vs : List Nat} {g : GT} {t : M Bool} {e : M PyData} : ∀ (as : List α) (acc : List PyData) (c : Co),
    (∀ a ∈ as, ∃ c2, g (enc a) (wip vs c) = some c2 ∧ wip vs c2 = wip vs c ∧ t c2 = .ok (p a) c2 ∧ (p a = true → e c2 = .ok (h a) c2)) → lcM vs g t e (as.map enc) acc c = .ok (acc ++ (as.filter p).map h) (wip vs c)
  | [], acc, c, _ => by simp [lcM, wip]
  | a :: as, acc, c, hb => by
    obtain ⟨c2, e1, e2, e3, e4⟩ := hb a (List.mem_cons_self ..)
    have ih := fun acc' => lcM_pure enc p h (vs := vs) (g := g) (t := t) (e := e) as acc' c2 fun b hm => by rw [e2]; exact hb b (List.mem_cons_of_mem _ hm)
    have e1 : g (enc a) { c with env := wipeE c.env vs } = some c2 := e1
    show (match g (enc a) { c with env := wipeE c.env vs } with | none => R.stuck | some c1 => _) = _
    rw [e1]
    show (noex t >>= _) c2 = _
    rw [bnd_ok (noex_ok e3)]
    cases hp : p a with
    | false =>
      rw [if_neg Bool.false_ne_true, ih, e2, List.filter_cons, if_neg (by rw [hp]; exact Bool.false_ne_true)]
    | true =>
      rw [if_pos rfl, bnd_ok (noex_ok (e4 hp)), ih, e2, List.filter_cons, if_pos hp, List.map_cons, List.append_assoc]
      rfl
theorem lc_pure {α : Type} (enc : α → PyData) (p : α → Bool) (h : α → PyData) {own : List (Str × Nat)} {f : M (List PyData)} {g : GT} {t : M Bool} {e : M PyData} {as : List α} {c c1 : Co} (hf : f c = .ok (as.map enc) c1) (hl : as.length ≤ sizeLine)
    (hb : ∀ a ∈ as, ∃ c2, g (enc a) (wip (own.map (·.2)) c1) = some c2 ∧ wip (own.map (·.2)) c2 = wip (own.map (·.2)) c1 ∧ t c2 = .ok (p a) c2 ∧ (p a = true → e c2 = .ok (h a) c2)) : lc own f g t e c = .ok (.own (.lst ((as.filter p).map h))) (wip (own.map (·.2)) c1) := by
  unfold lc
  rw [bnd_ok hf]
  rw [if_pos (by rw [List.length_map]; exact hl)]
  rw [bnd_ok (lcM_pure enc p h as [] c1 hb)]
  rfl
/-- .. all of them -/
theorem lc_map {α : Type} (enc : α → PyData) (h : α → PyData) {own : List (Str × Nat)} {f : M (List PyData)} {g : GT} {e : M PyData} {as : List α} {c c1 : Co} (hf : f c = .ok (as.map enc) c1) (hl : as.length ≤ sizeLine)
    (hb : ∀ a ∈ as, ∃ c2, g (enc a) (wip (own.map (·.2)) c1) = some c2 ∧ wip (own.map (·.2)) c2 = wip (own.map (·.2)) c1 ∧ e c2 = .ok (h a) c2) : lc own f g (pure true) e c = .ok (.own (.lst (as.map h))) (wip (own.map (·.2)) c1) := by
  have z := lc_pure enc (fun _ => true) h (t := pure true) hf hl fun a ha => by
    obtain ⟨c2, e1, e2, e3⟩ := hb a ha
    exact ⟨c2, e1, e2, rfl, fun _ => e3⟩
  rw [List.filter_eq_self.mpr (fun _ _ => rfl)] at z
  exact z
/-- .. with a state: each turn keeps I and gives something of which P holds -/
theorem lcM_st {vs : List Nat} {g : GT} {e : M PyData} (I : Co → Prop) (P : PyData → PyData → Prop) : ∀ (xs acc : List PyData) (c : Co), I (wip vs c) → (∀ x ∈ xs, ∀ c, I c → ∃ c1 y c2, g x c = some c1 ∧ e c1 = .ok y c2 ∧ P x y ∧ I (wip vs c2)) →
    ∃ ys c', lcM vs g (pure true) e xs acc c = .ok (acc ++ ys) c' ∧ I c' ∧ ys.length = xs.length ∧ ∀ (i : Nat) x y, xs[i]? = some x → ys[i]? = some y → P x y
  | [], acc, c, h, _ => ⟨[], wip vs c, by simp [lcM, wip], h, rfl, fun i x y h => by simp at h⟩
  | x :: xs, acc, c, h, hb => by
    obtain ⟨c1, y, c2, e1, e2, e3, e4⟩ := hb x (List.mem_cons_self ..) _ h
    obtain ⟨ys, c', i1, i2, i3, i4⟩ := lcM_st I P xs (acc ++ [y]) c2 e4 fun z hz => hb z (List.mem_cons_of_mem _ hz)
    refine ⟨y :: ys, c', ?_, i2, by rw [List.length_cons, List.length_cons, i3], fun i a b ha hb => ?_⟩
    · have e1 : g x { c with env := wipeE c.env vs } = some c1 := e1
      show (match g x { c with env := wipeE c.env vs } with | none => R.stuck | some c1 => _) = _
      rw [e1]
      show (noex (pure true) >>= _) c1 = _
      rw [bnd_ok (noex_ok (show (pure true : M Bool) c1 = .ok true c1 from rfl)), if_pos rfl, bnd_ok (noex_ok e2), i1, List.append_assoc]
      rfl
    · cases i with
      | zero => simp at ha hb; subst ha hb; exact e3
      | succ i => exact i4 i a b (by simpa using ha) (by simpa using hb)
theorem lc_st {own : List (Str × Nat)} {f : M (List PyData)} {g : GT} {e : M PyData} {xs : List PyData} {c c1 : Co} (I : Co → Prop) (P : PyData → PyData → Prop) (hf : f c = .ok xs c1) (hl : xs.length ≤ sizeLine) (h0 : I (wip (own.map (·.2)) c1))
    (hb : ∀ x ∈ xs, ∀ c, I c → ∃ c1 y c2, g x c = some c1 ∧ e c1 = .ok y c2 ∧ P x y ∧ I (wip (own.map (·.2)) c2)) :
    ∃ ys c', lc own f g (pure true) e c = .ok (.own (.lst ys)) c' ∧ I c' ∧ ys.length = xs.length ∧ ∀ (i : Nat) x y, xs[i]? = some x → ys[i]? = some y → P x y := by
  obtain ⟨ys, c', e1, e2⟩ := lcM_st (e := e) I P xs [] c1 h0 hb
  refine ⟨ys, c', ?_, e2⟩
  unfold lc
  rw [bnd_ok hf, if_pos hl, bnd_ok e1]
  rfl
/-- a comprehension that changes what stands: each turn keeps I and gives some dec b with Q b -/
theorem lcM_gen {β : Type} (dec : β → PyData) (Q : β → Prop) {vs : List Nat} {g : GT} {e : M PyData} (I : Co → Prop) : ∀ (xs acc : List PyData) (c : Co), I (wip vs c) → (∀ x ∈ xs, ∀ c, I c → ∃ c1 b c2, g x c = some c1 ∧ e c1 = .ok (dec b) c2 ∧ Q b ∧ I (wip vs c2)) →
    ∃ (bs : List β) (c' : Co), lcM vs g (pure true) e xs acc c = .ok (acc ++ bs.map dec) c' ∧ I c' ∧ bs.length = xs.length ∧ ∀ b ∈ bs, Q b
  | [], acc, c, h, _ => ⟨[], wip vs c, by simp [lcM, wip], h, rfl, fun b hb => by cases hb⟩
  | x :: xs, acc, c, h, hb => by
    obtain ⟨c1, b, c2, e1, e2, e3, e4⟩ := hb x (List.mem_cons_self ..) _ h
    obtain ⟨bs, c', i1, i2, i3, i4⟩ := lcM_gen dec Q I xs (acc ++ [dec b]) c2 e4 fun z hz => hb z (List.mem_cons_of_mem _ hz)
    refine ⟨b :: bs, c', ?_, i2, by rw [List.length_cons, List.length_cons, i3], fun a ha => ?_⟩
    · have e1 : g x { c with env := wipeE c.env vs } = some c1 := e1
      show (match g x { c with env := wipeE c.env vs } with | none => R.stuck | some c1 => _) = _
      rw [e1]
      show (noex (pure true) >>= _) c1 = _
      rw [bnd_ok (noex_ok (show (pure true : M Bool) c1 = .ok true c1 from rfl)), if_pos rfl, bnd_ok (noex_ok e2), i1, List.append_assoc]
      rfl
    · rcases List.mem_cons.mp ha with rfl | ha
      · exact e3
      · exact i4 a ha
theorem lc_gen {β : Type} (dec : β → PyData) (Q : β → Prop) {own : List (Str × Nat)} {f : M (List PyData)} {g : GT} {e : M PyData} {xs : List PyData} {c c1 : Co} (I : Co → Prop) (hf : f c = .ok xs c1) (hl : xs.length ≤ sizeLine) (h0 : I (wip (own.map (·.2)) c1))
    (hb : ∀ x ∈ xs, ∀ c, I c → ∃ c1 b c2, g x c = some c1 ∧ e c1 = .ok (dec b) c2 ∧ Q b ∧ I (wip (own.map (·.2)) c2)) :
    ∃ (bs : List β) (c' : Co), lc own f g (pure true) e c = .ok (.own (.lst (bs.map dec))) c' ∧ I c' ∧ bs.length = xs.length ∧ ∀ b ∈ bs, Q b := by
  obtain ⟨ys, c', e1, e2⟩ := lcM_gen (e := e) dec Q I xs [] c1 h0 hb
  refine ⟨ys, c', ?_, e2⟩
  unfold lc
  rw [bnd_ok hf, if_pos hl, bnd_ok e1]
  rfl
/-! ### repr of small things -/
theorem log2_small {n : Nat} (h : n < 10 ^ 12) : n.log2 < 40 := by
  by_cases h0 : n = 0
  · subst h0; decide
  · exact (Nat.log2_lt h0).mpr (Nat.lt_of_lt_of_le h (by decide))
theorem repr_int {i : Int} (h : i.natAbs < 10 ^ 12) : reprD [.int i] = some (.str (PyData.int i).shown) := by
  have h1 := log2_small h
  have h2 := PyData.shown_int_le h
  exact o_repr (by simp only [PyData.showable, decide_eq_true_eq]; omega) (by simp only [PyData.hasDict]) (Nat.zero_le _) (Nat.le_trans h2 (Nat.le_trans (by decide) sizeLine_big))
theorem ints_show : ∀ (xs : List Int), (∀ x ∈ xs, x.natAbs < 10 ^ 12) → PyData.showableAll (xs.map .int) = true ∧ PyData.hasDictAll (xs.map .int) = false ∧ PyData.leavesShortAll 13 (xs.map .int) = true ∧ PyData.weightAll (xs.map .int) ≤ xs.length * 50
  | [], _ => ⟨by simp only [List.map_nil, PyData.showableAll], by simp only [List.map_nil, PyData.hasDictAll], by simp only [List.map_nil, PyData.leavesShortAll], by simp only [List.map_nil, PyData.weightAll]; omega⟩
  | x :: xs, h => by
    obtain ⟨h1, h2, h3, h4⟩ := ints_show xs fun y hy => h y (List.mem_cons_of_mem _ hy)
    have hx := h x (List.mem_cons_self ..)
    have a1 := log2_small hx
    have a2 := PyData.shown_int_le hx
    refine ⟨?_, ?_, ?_, ?_⟩
    · simp only [List.map_cons, PyData.showableAll, PyData.showable, h1, Bool.and_true, decide_eq_true_eq]; omega
    · simp only [List.map_cons, PyData.hasDictAll, PyData.hasDict, h2, Bool.or_false]
    · simp only [List.map_cons, PyData.leavesShortAll, PyData.leavesShort, h3, Bool.and_true, decide_eq_true_eq]; exact a2
    · simp only [List.map_cons, PyData.weightAll, PyData.weight, List.length_cons]
      have : (if (x == 0) = true then 0 else x.natAbs.log2 + 1) ≤ 41 := by split <;> omega
      omega
theorem repr_ints {xs : List Int} (h : ∀ x ∈ xs, x.natAbs < 10 ^ 12) (hl : xs.length ≤ 20000) : reprD [.tuple (xs.map .int)] = some (.str (PyData.tuple (xs.map .int)).shown) := by
  obtain ⟨h1, h2, h3, h4⟩ := ints_show xs h
  refine o_repr (by simp only [PyData.showable, h1]) (by simp only [PyData.hasDict, h2]) (by simp only [PyData.depth, PySem.W.depth_ints]; omega) (PyData.shown_fits (B := 13) (by decide) (by decide) (by simp only [PyData.leavesShort, h3]) ?_)
  simp only [PyData.weight]
  have e : (2 : Nat) ^ 20 = 1048576 := by decide
  omega
theorem plain_ints (xs : List Int) : PyData.plainAll (xs.map .int) = true := by
  induction xs with
  | nil => rfl
  | cons x xs ih => rw [List.map_cons, PyData.plainAll, ih]; rfl
theorem ne_ints (xs : List Int) : neD (.tuple (xs.map .int)) (.tuple (xs.map .int)) = some (.bool false) := neD_self (by rw [PyData.plain]; exact plain_ints xs) (by simp only [PyData.depth, PySem.W.depth_ints]; omega)
/-- .. with what each item becomes -/
theorem lcM_rel {α β : Type} (enc : α → PyData) (dec : β → PyData) (Q : α → β → Prop) {vs : List Nat} {g : GT} {e : M PyData} (I : Co → Prop) : ∀ (as : List α) (acc : List PyData) (c : Co), I (wip vs c) → (∀ a ∈ as, ∀ c, I c → ∃ c1 b c2, g (enc a) c = some c1 ∧ e c1 = .ok (dec b) c2 ∧ Q a b ∧ I (wip vs c2)) →
    ∃ (ps : List (α × β)) (c' : Co), ps.map (·.1) = as ∧ lcM vs g (pure true) e (as.map enc) acc c = .ok (acc ++ ps.map fun p => dec p.2) c' ∧ I c' ∧ ∀ p ∈ ps, Q p.1 p.2
  | [], acc, c, h, _ => ⟨[], wip vs c, rfl, by simp [lcM, wip], h, fun b hb => by cases hb⟩
  | x :: xs, acc, c, h, hb => by
    obtain ⟨c1, b, c2, e1, e2, e3, e4⟩ := hb x (List.mem_cons_self ..) _ h
    obtain ⟨ps, c', i0, i1, i2, i4⟩ := lcM_rel enc dec Q I xs (acc ++ [dec b]) c2 e4 fun z hz => hb z (List.mem_cons_of_mem _ hz)
    refine ⟨(x, b) :: ps, c', by rw [List.map_cons, i0], ?_, i2, fun a ha => ?_⟩
    · have e1 : g (enc x) { c with env := wipeE c.env vs } = some c1 := e1
      show (match g (enc x) { c with env := wipeE c.env vs } with | none => R.stuck | some c1 => _) = _
      rw [e1]
      show (noex (pure true) >>= _) c1 = _
      rw [bnd_ok (noex_ok (show (pure true : M Bool) c1 = .ok true c1 from rfl)), if_pos rfl, bnd_ok (noex_ok e2), i1, List.append_assoc]
      rfl
    · rcases List.mem_cons.mp ha with rfl | ha
      · exact e3
      · exact i4 a ha
theorem lc_rel {α β : Type} (enc : α → PyData) (dec : β → PyData) (Q : α → β → Prop) {own : List (Str × Nat)} {f : M (List PyData)} {g : GT} {e : M PyData} {as : List α} {c c1 : Co} (I : Co → Prop) (hf : f c = .ok (as.map enc) c1) (hl : as.length ≤ sizeLine) (h0 : I (wip (own.map (·.2)) c1))
    (hb : ∀ a ∈ as, ∀ c, I c → ∃ c1 b c2, g (enc a) c = some c1 ∧ e c1 = .ok (dec b) c2 ∧ Q a b ∧ I (wip (own.map (·.2)) c2)) :
    ∃ (ps : List (α × β)) (c' : Co), ps.map (·.1) = as ∧ lc own f g (pure true) e c = .ok (.own (.lst (ps.map fun p => dec p.2))) c' ∧ I c' ∧ ∀ p ∈ ps, Q p.1 p.2 := by
  obtain ⟨ps, c', e0, e1, e2⟩ := lcM_rel (e := e) enc dec Q I as [] c1 h0 hb
  refine ⟨ps, c', e0, ?_, e2⟩
  unfold lc
  rw [bnd_ok hf, if_pos (by rw [List.length_map]; exact hl), bnd_ok e1]
  rfl
theorem range_getD {α β : Type} (f : α → β) (d : α) (xs : List α) : (List.range xs.length).map (fun i => f (xs.getD i d)) = xs.map f := by
  apply List.ext_getElem
  · simp
  · intro i h1 h2
    have hi : i < xs.length := by simpa using h1
    simp [List.getD_eq_getElem?_getD, List.getElem?_eq_getElem hi]
theorem getD_at {α : Type} {xs : List α} {i : Nat} (d : α) (h : i < xs.length) : xs[i]? = some (xs.getD i d) := by
  rw [List.getD_eq_getElem?_getD, List.getElem?_eq_getElem h]
  rfl
end DL
end L2

/-! DL, part sixteen: reckoning with texts; equality; slices. -/
namespace L2
namespace DL
open PySem PySem.Spec PyProof.Rows

/-- a text by its codes -/
def S (l : List Nat) : Str := ⟨l.toArray⟩
theorem S_len (l : List Nat) : (S l).length = l.length := by show l.toArray.size = _; simp
theorem S_list (l : List Nat) : (S l).cps.toList = l := by show l.toArray.toList = _; simp
theorem S_inj {a b : List Nat} (h : S a = S b) : a = b := by
  have := congrArg (fun s : Str => s.cps.toList) h
  simpa [S_list] using this
theorem S_app (a b : List Nat) : S a ++ S b = S (a ++ b) := by
  show (⟨a.toArray ++ b.toArray⟩ : Str) = ⟨(a ++ b).toArray⟩
  simp
theorem S_nil : ("" : Str) = S [] := by decide +kernel
theorem le1000 {n : Nat} (h : n ≤ 1000) : n ≤ sizeLine := Nat.le_trans h (Nat.le_trans (by decide) sizeLine_big)
theorem o_addS {a b : List Nat} (h : a.length + b.length ≤ 1000) : addD (.str (S a)) (.str (S b)) = some (.str (S (a ++ b))) := by
  have z : addD (.str (S a)) (.str (S b)) = if (S a).length + (S b).length ≤ sizeLine then some (.str (S a ++ S b)) else none := rfl
  rw [z, if_pos (by rw [S_len, S_len]; exact le1000 h), S_app]
theorem o_revS {a : List Nat} (h : a.length ≤ 1000) : revD (.str (S a)) = some (.str (S a.reverse)) := by
  have z : revD (.str (S a)) = if (S a).length ≤ sizeLine then some (.str (revS (S a))) else none := rfl
  rw [z, if_pos (by rw [S_len]; exact le1000 h)]
  unfold revS
  rw [S_list]
  rfl
theorem o_lenS {a : List Nat} (h : a.length ≤ 1000) : lenD (.str (S a)) = some (.int (a.length : Nat)) := by
  have z : lenD (.str (S a)) = if (S a).length ≤ sizeLine then some (.int (S a).length) else none := rfl
  rw [z, if_pos (by rw [S_len]; exact le1000 h), S_len]
theorem o_ixS {a : List Nat} {k x : Nat} (h : a.length ≤ 1000) (hk : a[k]? = some x) : ixD (.str (S a)) (.int (k : Nat)) = some (.str (S [x])) := by
  have z : ixD (.str (S a)) (.int (k : Nat)) = if (S a).length ≤ sizeLine then (atI (S a).cps.toList (k : Int)).map (fun c => PyData.str ⟨#[c]⟩) else none := rfl
  rw [z, if_pos (by rw [S_len]; exact le1000 h), S_list, atI_nat hk]
  rfl
theorem o_itS (a : List Nat) : itemsO (.str (S a)) = some (a.map fun c => .str (S [c])) := by
  have z : itemsO (.str (S a)) = some (signs (S a)) := rfl
  rw [z]
  unfold signs
  rw [S_list]
  rfl
theorem o_mul2 {a : List Nat} (h0 : 0 < a.length) (h : a.length ≤ 1000) : mulD (.str (S a)) (.int 2) = some (.str (S (a ++ a))) := by
  have z : mulD (.str (S a)) (.int 2) = if (0 : Int) ≤ 2 ∧ (2 : Int) ≤ 1000 ∧ (S a).length ≤ 1000 then some (.str (Txt.mul (S a) 2)) else none := rfl
  rw [z, if_pos ⟨by decide, by decide, by rw [S_len]; exact h⟩]
  have e : Txt.mul (S a) 2 = S (a ++ a) := by
    unfold Txt.mul
    rw [if_neg (by decide), if_neg (by rw [S_len]; simp; intro q; rw [q] at h0; simp at h0)]
    show (⟨([(S a).cps, (S a).cps].foldl (· ++ ·) #[])⟩ : Str) = _
    simp [S]
  rw [e]
/-! ### slices by numbers -/
theorem cutD_from (xs : List PyData) (k : Nat) : cutD xs (some (k : Int)) none = xs.drop k := by
  unfold cutD
  rw [show HT.sIx xs.length 0 (some (k : Int)) = min k xs.length from HT.sIx_nat xs.length 0 k, HT.sIx_none]
  by_cases h : k ≤ xs.length
  · rw [Nat.min_eq_left h]
    exact List.take_of_length_le (by rw [List.length_drop]; exact Nat.le_refl _)
  · rw [Nat.min_eq_right (by omega), List.drop_length, List.drop_eq_nil_of_le (by omega)]
    simp
theorem cutD_to (xs : List PyData) (k : Nat) : cutD xs none (some (k : Int)) = xs.take k := by
  unfold cutD
  rw [show HT.sIx xs.length xs.length (some (k : Int)) = min k xs.length from HT.sIx_nat xs.length xs.length k, HT.sIx_none, List.drop_zero, Nat.sub_zero]
  by_cases h : k ≤ xs.length
  · rw [Nat.min_eq_left h]
  · rw [Nat.min_eq_right (by omega), List.take_length, List.take_of_length_le (by omega)]
theorem cutS_from (a : List Nat) (k : Nat) : cutS (S a) (some (k : Int)) none = S (a.drop k) := by
  unfold cutS
  rw [S_len, S_list, show HT.sIx a.length 0 (some (k : Int)) = min k a.length from HT.sIx_nat a.length 0 k, HT.sIx_none]
  congr 1
  by_cases h : k ≤ a.length
  · rw [Nat.min_eq_left h, List.take_of_length_le (by rw [List.length_drop]; exact Nat.le_refl _)]
  · rw [Nat.min_eq_right (by omega), List.drop_length, List.drop_eq_nil_of_le (by omega)]
    simp
theorem cutS_to (a : List Nat) (k : Nat) : cutS (S a) none (some (k : Int)) = S (a.take k) := by
  unfold cutS
  rw [S_len, S_list, show HT.sIx a.length a.length (some (k : Int)) = min k a.length from HT.sIx_nat a.length a.length k, HT.sIx_none, List.drop_zero, Nat.sub_zero]
  congr 1
  by_cases h : k ≤ a.length
  · rw [Nat.min_eq_left h]
  · rw [Nat.min_eq_right (by omega), List.take_length, List.take_of_length_le (by omega)]
theorem o_fromL (xs : List PyData) (k : Nat) : slD (.list xs) (some (k : Int)) none = some (.list (xs.drop k)) := by
  show some (PyData.list (cutD xs _ _)) = _
  rw [cutD_from]
theorem o_toL (xs : List PyData) (k : Nat) : slD (.list xs) none (some (k : Int)) = some (.list (xs.take k)) := by
  show some (PyData.list (cutD xs _ _)) = _
  rw [cutD_to]
theorem o_fromT (xs : List PyData) (k : Nat) : slD (.tuple xs) (some (k : Int)) none = some (.tuple (xs.drop k)) := by
  show some (PyData.tuple (cutD xs _ _)) = _
  rw [cutD_from]
theorem o_toT (xs : List PyData) (k : Nat) : slD (.tuple xs) none (some (k : Int)) = some (.tuple (xs.take k)) := by
  show some (PyData.tuple (cutD xs _ _)) = _
  rw [cutD_to]
theorem o_fromS {a : List Nat} (h : a.length ≤ 1000) (k : Nat) : slD (.str (S a)) (some (k : Int)) none = some (.str (S (a.drop k))) := by
  have z : slD (.str (S a)) (some (k : Int)) none = if (S a).length ≤ sizeLine then some (.str (cutS (S a) (some (k : Int)) none)) else none := rfl
  rw [z, if_pos (by rw [S_len]; exact le1000 h), cutS_from]
theorem o_toS {a : List Nat} (h : a.length ≤ 1000) (k : Nat) : slD (.str (S a)) none (some (k : Int)) = some (.str (S (a.take k))) := by
  have z : slD (.str (S a)) none (some (k : Int)) = if (S a).length ≤ sizeLine then some (.str (cutS (S a) none (some (k : Int)))) else none := rfl
  rw [z, if_pos (by rw [S_len]; exact le1000 h), cutS_to]
/-! ### join -/
theorem join_cons2 (sep x y : Str) (r : List Str) : Str.join sep (x :: y :: r) = x ++ sep ++ Str.join sep (y :: r) := id rfl
theorem join_nil : ∀ ls : List (List Nat), Str.join (S []) (ls.map S) = S ls.flatten
  | [] => rfl
  | [a] => by simp [Str.join]
  | a :: b :: ls => by
    have ih := join_nil (b :: ls)
    rw [List.map_cons] at ih
    rw [List.map_cons, List.map_cons, join_cons2, ih, S_app, S_app]
    simp
theorem o_join0 {ls : List (List Nat)} (h : ls.flatten.length ≤ 1000) : joinD (.str (S [])) [.list ((ls.map S).map .str)] = some (.str (S ls.flatten)) := by
  have z : joinD (.str (S [])) [.list ((ls.map S).map .str)] = (strsOf ((ls.map S).map .str)).bind fun ys => if (ys.map (·.length)).sum + ys.length * (S []).length ≤ 16777216 then some (.str (Txt.join (S []) ys)) else none := rfl
  have hs : ((ls.map S).map (·.length)).sum = ls.flatten.length := by
    rw [List.map_map, List.length_flatten]
    congr 1
  rw [z, strsOf_map]
  show (if ((ls.map S).map (·.length)).sum + (ls.map S).length * (S []).length ≤ 16777216 then some (PyData.str (Txt.join (S []) (ls.map S))) else none) = _
  rw [if_pos (by rw [hs, S_len, List.length_nil, Nat.mul_zero]; omega)]
  congr 2
  exact (PySem.StrLaws.glued_eq_join _ _).trans (join_nil ls)
/-! ### equality where no truth values are -/
mutual
def noB : PyData → Bool
  | .none => true
  | .bool _ => false
  | .int _ => true
  | .str _ => true
  | .list xs => noBAll xs
  | .tuple xs => noBAll xs
  | .dict _ => false
def noBAll : List PyData → Bool
  | [] => true
  | x :: xs => noB x && noBAll xs
end
mutual
theorem eqv_iff : ∀ d e : PyData, noB d = true → noB e = true → (PyData.eqv d e = true ↔ d = e)
  | .bool _, _, h, _ => by rw [noB] at h; cases h
  | .dict _, _, h, _ => by rw [noB] at h; cases h
  | .none, e, _, h => by cases e <;> simp [PyData.eqv, noB] at *
  | .int i, e, _, h => by cases e <;> simp [PyData.eqv, noB] at *
  | .str x, e, _, h => by cases e <;> simp [PyData.eqv, noB] at *
  | .list xs, e, h1, h => by
    rw [noB] at h1
    cases e with
    | list ys =>
      rw [noB] at h
      simp only [PyData.eqv]
      rw [eqvAll_iff xs ys h1 h]
      simp
    | _ => simp [PyData.eqv]
  | .tuple xs, e, h1, h => by
    rw [noB] at h1
    cases e with
    | tuple ys =>
      rw [noB] at h
      simp only [PyData.eqv]
      rw [eqvAll_iff xs ys h1 h]
      simp
    | _ => simp [PyData.eqv]
theorem eqvAll_iff : ∀ ds es : List PyData, noBAll ds = true → noBAll es = true → (PyData.eqvAll ds es = true ↔ ds = es)
  | [], [], _, _ => by simp [PyData.eqvAll]
  | [], e :: es, _, _ => by simp [PyData.eqvAll]
  | d :: ds, [], _, _ => by simp [PyData.eqvAll]
  | d :: ds, e :: es, h1, h2 => by
    rw [noBAll, Bool.and_eq_true] at h1 h2
    rw [PyData.eqvAll, Bool.and_eq_true, eqv_iff d e h1.1 h2.1, eqvAll_iff ds es h1.2 h2.2]
    simp
end
mutual
theorem plain_noB : ∀ d : PyData, noB d = true → d.plain = true
  | .none, _ => rfl
  | .int _, _ => rfl
  | .str _, _ => rfl
  | .bool _, h => rfl
  | .dict _, h => by rw [noB] at h; cases h
  | .list xs, h => by rw [noB] at h; rw [PyData.plain]; exact plainAll_noB xs h
  | .tuple xs, h => by rw [noB] at h; rw [PyData.plain]; exact plainAll_noB xs h
theorem plainAll_noB : ∀ ds : List PyData, noBAll ds = true → PyData.plainAll ds = true
  | [], _ => rfl
  | d :: ds, h => by
    rw [noBAll, Bool.and_eq_true] at h
    rw [PyData.plainAll, plain_noB d h.1, plainAll_noB ds h.2]
    rfl
end
theorem noB_strs (xs : List Str) : noBAll (xs.map .str) = true := by
  induction xs with
  | nil => rfl
  | cons x xs ih => rw [List.map_cons, noBAll, ih]; rfl
theorem noB_ints (xs : List Int) : noBAll (xs.map .int) = true := by
  induction xs with
  | nil => rfl
  | cons x xs ih => rw [List.map_cons, noBAll, ih]; rfl
theorem noB_map {α : Type} (f : α → PyData) (h : ∀ a, noB (f a) = true) (xs : List α) : noBAll (xs.map f) = true := by
  induction xs with
  | nil => rfl
  | cons x xs ih => rw [List.map_cons, noBAll, ih, h]; rfl
theorem depth_strs : ∀ xs : List Str, PyData.depthAll (xs.map .str) = 0
  | [] => by simp [PyData.depthAll]
  | x :: xs => by rw [List.map_cons, PyData.depthAll, depth_strs xs]; simp [PyData.depth]
theorem eqD_val {d e : PyData} (h1 : noB d = true) (h2 : noB e = true) (h3 : d.depth ≤ 64) {b : Bool} (h : b = true ↔ d = e) : eqD d e = some (.bool b) := by
  unfold eqD okEq
  rw [plain_noB d h1, plain_noB e h2, if_pos (by simp; omega)]
  congr 2
  rw [Bool.eq_iff_iff, eqv_iff d e h1 h2, h]
theorem neD_val {d e : PyData} (h1 : noB d = true) (h2 : noB e = true) (h3 : d.depth ≤ 64) {b : Bool} (h : b = true ↔ d = e) : neD d e = some (.bool (!b)) := by
  unfold neD okEq
  rw [plain_noB d h1, plain_noB e h2, if_pos (by simp; omega)]
  congr 3
  rw [Bool.eq_iff_iff, eqv_iff d e h1 h2, h]
/-- x in xs -/
theorem inD_val {d : PyData} {xs : List PyData} (h1 : noB d = true) (h2 : noBAll xs = true) (h3 : d.depth ≤ 64) {b : Bool} (h : b = true ↔ d ∈ xs) : inD d (.list xs) = some (.bool b) := by
  have z : inD d (.list xs) = if PyData.plainAll xs && d.plain && decide (min (PyData.depthAll xs) d.depth ≤ 64) then some (.bool (xs.any fun y => PyData.eqv y d)) else none := rfl
  rw [z, plain_noB d h1, plainAll_noB xs h2, if_pos (by simp; omega)]
  congr 2
  rw [Bool.eq_iff_iff, h, List.any_eq_true]
  have mem : ∀ {xs : List PyData}, noBAll xs = true → ∀ y ∈ xs, noB y = true := by
    intro xs
    induction xs with
    | nil => intro _ y hy; cases hy
    | cons x xs ih =>
      intro h y hy
      rw [noBAll, Bool.and_eq_true] at h
      rcases List.mem_cons.mp hy with rfl | hy
      · exact h.1
      · exact ih h.2 y hy
  constructor
  · rintro ⟨y, hy, e⟩
    rw [eqv_iff y d (mem h2 y hy) h1] at e
    rw [← e]; exact hy
  · intro hd
    exact ⟨d, hd, (eqv_iff d d h1 h1).mpr rfl⟩
end DL
end L2

/-! DL, part seventeen: tuple and list of a range, how many unlike, index. -/
namespace L2
namespace DL
open PySem PySem.Spec PyProof.Rows

def tupRg (f : M PyData) : M PyData := f >>= fun x => match x with
  | .int n => if -(2 ^ 62) ≤ n ∧ n ≤ 1000000 then pure (.tuple (rng 0 n.toNat)) else stuckM
  | _ => stuckM
def lstRg (f : M PyData) : M PyData := f >>= fun x => match x with
  | .int n => if -(2 ^ 62) ≤ n ∧ n ≤ 1000000 then pure (.list (rng 0 n.toNat)) else stuckM
  | _ => stuckM
theorem rp_rng {K : PySem.W.Frag} {G : Hp} (n : Int) : RpAll K G (rgV 0 n) (rng 0 n.toNat) := by
  unfold rgV rng
  rw [Int.sub_zero]
  generalize List.range n.toNat = is
  induction is with
  | nil => exact .nil
  | cons i is ih => exact .cons (.int _) ih
theorem rgOk {n : Int} (h1 : -(2 ^ 62) ≤ n) (h2 : n ≤ 1000000) : RgOk 0 n := by
  have h3 : (2 : Nat) ^ 24 = 16777216 := by decide
  have h4 : (2 : Int) ^ 62 = 4611686018427387904 := by decide
  refine ⟨by omega, by omega, by omega, by omega, ?_⟩
  rw [Int.sub_zero]; omega
section
variable {X : Cx} {W : WX} {e : Expr} {p p2 pos q : Pos}
theorem vp_tupRg {f : M PyData} (hc : X.calm = true) (hg : Gl X "tuple") (hm : X.mg "tuple" = none) (hg2 : Gl X "range") (hm2 : X.mg "range" = none) (he : VP X W e f)
    (na : starEach [e] X.env = (false, eval e X.env) :: starEach [] X.env := by rfl) (na2 : starEach [.Call (.Name "range" p2) [e] [] q] X.env = (false, eval (.Call (.Name "range" p2) [e] [] q) X.env) :: starEach [] X.env := by rfl) :
    VP X W (.Call (.Name "tuple" p) [.Call (.Name "range" p2) [e] [] q] [] pos) (tupRg f) := (pe_tupRg hc hg hm (prg_1 hg2 hm2 he na) na2).imp fun σ H Q ⟨G, L, c, r, h⟩ =>
  ⟨G, L, c, r, At.bind wdP r h fun x v c1 H1 G1 L1 _ r1 _ px q1 => by
    cases px with
    | int n =>
      have q1 : At X W rP (if -(2 ^ 62) ≤ n ∧ n ≤ 1000000 then pure (.tuple (rng 0 n.toNat)) else stuckM) σ H1 G1 L1 c1 Q := q1
      by_cases hb : -(2 ^ 62) ≤ n ∧ n ≤ 1000000
      · rw [if_pos hb] at q1
        exact ⟨n, rfl, rgOk hb.1 hb.2, fun a ha => At.gw (ρ := rP) r1 q1 (Gw.new r1.sub ha) (.tup (.inl (.inl upd_same)) (rp_rng n))⟩
      · rw [if_neg hb] at q1
        exact (show False from q1).elim
    | _ => exact (show False from q1).elim⟩
theorem vp_lstRg {f : M PyData} (hc : X.calm = true) (hg : Gl X "list") (hm : X.mg "list" = none) (hg2 : Gl X "range") (hm2 : X.mg "range" = none) (he : VP X W e f)
    (na : starEach [e] X.env = (false, eval e X.env) :: starEach [] X.env := by rfl) (na2 : starEach [.Call (.Name "range" p2) [e] [] q] X.env = (false, eval (.Call (.Name "range" p2) [e] [] q) X.env) :: starEach [] X.env := by rfl) :
    VP X W (.Call (.Name "list" p) [.Call (.Name "range" p2) [e] [] q] [] pos) (lstRg f) := (pe_listRg hc hg hm (prg_1 hg2 hm2 he na) na2).imp fun σ H Q ⟨G, L, c, r, h⟩ =>
  ⟨G, L, c, r, At.bind wdP r h fun x v c1 H1 G1 L1 _ r1 _ px q1 => by
    cases px with
    | int n =>
      have q1 : At X W rP (if -(2 ^ 62) ≤ n ∧ n ≤ 1000000 then pure (.list (rng 0 n.toNat)) else stuckM) σ H1 G1 L1 c1 Q := q1
      by_cases hb : -(2 ^ 62) ≤ n ∧ n ≤ 1000000
      · rw [if_pos hb] at q1
        exact ⟨n, rfl, rgOk hb.1 hb.2, fun a ha => At.gw (ρ := rP) r1 q1 (Gw.new r1.sub ha) (.lst upd_same (rp_rng n))⟩
      · rw [if_neg hb] at q1
        exact (show False from q1).elim
    | _ => exact (show False from q1).elim⟩
/-! ### len(set(xs)) of ints -/
def setLenD : PyData → Option PyData
  | .list ds => (intsOf ds).bind fun ns => if ns.length ≤ 4000 then some (.int ((PyProof.Rows.firstMet (fun i => ns.getD i 0) ns.length).length : Nat)) else none
  | _ => none
def tSetLen (K : PySem.W.Frag) (ta : TE) : TE := fun σ H Q => ta σ H fun x H1 => ∃ (l : Addr) (ns : List Int), x = .ref l ∧ SqL K H1 l (ns.map V.int) ∧ ns.length ≤ 4000 ∧ Q (.int ((PyProof.Rows.firstMet (fun i => ns.getD i 0) ns.length).length : Nat)) H1
theorem pe_setLen {a : Expr} {ta : TE} (hg : Gl X "len") (hm : X.mg "len" = none) (hg2 : Gl X "set") (hm2 : X.mg "set" = none) (ha : PE X a ta) (hc : X.calm = true)
    (na : starEach [a] X.env = (false, eval a X.env) :: starEach [] X.env := by rfl) : PE X (.Call (.Name "len" p) [.Call (.Name "set" p2) [a] [] q] [] pos) (tSetLen X.K ta) := by
  refine ⟨fun pins s σ H Q I h => Call_ (ld_blt I hg hm PySem.boot_len (PyProof.Rows.callWith_builtin1 (PyProof.Rows.args_cons (Call_ (ld_blt I hg2 hm2 PyProof.Rows.boot_set ?_)) rfl) rfl rfl))⟩
  refine PyProof.Rows.callWith_type1 (PyProof.Rows.args_cons (thn (ha.run pins s σ H _ I h) fun v s1 ⟨x, H1, I1, r1, q1⟩ => PyProof.Rows.args_nil ?_) na) na rfl
  obtain ⟨l, ns, rfl, hq, hl, q1⟩ := q1
  cases r1
  obtain ⟨its, r, pl, hz⟩ := I1.list hq
  have hlen : its.toArray.size = ns.length := by rw [List.size_toArray, ← r.length, List.length_map]
  refine call_set_list (I1.ok.hd hc) pl.isList (by simpa using RZ.intsAre_vals r) (by rw [hlen]; unfold scanBound; omega) fun h' tk hS hk => PyProof.Rows.args_nil ?_
  rw [hlen] at hS
  obtain ⟨o, es, ep, t, ho, hex, hd, _, _, _, hf, hn⟩ := hS
  have I2 : Inv X pins σ H1 { s1 with heap := h', toks := tk } := I1.kept fun b o e => hk b o (Heap.lt_size e) e
  have hle := PyProof.Rows.firstMet_length_le (fun i => ns.getD i 0) ns.length
  exact call_len_set ho hex hd hf (by rw [hn] <;> omega) ⟨.int ((PyProof.Rows.firstMet (fun i => ns.getD i 0) ns.length).length : Nat), H1, I2.tok _, ⟨_, by rw [hn]⟩, q1⟩
theorem vp_setLen {f : M PyData} (hg : Gl X "len") (hm : X.mg "len" = none) (hg2 : Gl X "set") (hm2 : X.mg "set" = none) (hc : X.calm = true) (ha : VP X W e f)
    (na : starEach [e] X.env = (false, eval e X.env) :: starEach [] X.env := by rfl) : VP X W (.Call (.Name "len" p) [.Call (.Name "set" p2) [e] [] q] [] pos) (uno setLenD f) := (pe_setLen hg hm hg2 hm2 ha hc na).imp fun σ H Q ⟨G, L, c, r, h⟩ =>
  ⟨G, L, c, r, At.bind wdP r (show At X W rP (f >>= fun x => ofO (setLenD x)) σ H G L c Q from h) fun x v c1 H1 G1 L1 _ r1 _ px q1 => by
    obtain ⟨z, ez, q2⟩ := At.opt q1
    unfold setLenD at ez
    cases x with
    | list ds =>
      cases e2 : intsOf ds with
      | none => simp [e2] at ez
      | some ns =>
        simp only [e2, Option.bind_some] at ez
        have ez : (if ns.length ≤ 4000 then some (PyData.int ((PyProof.Rows.firstMet (fun i => ns.getD i 0) ns.length).length : Nat)) else none) = some z := ez
        by_cases hl : ns.length ≤ 4000
        · rw [if_pos hl] at ez
          cases ez
          rw [intsOf_eq e2] at px
          cases px with
          | lst h1 ps =>
            rw [RpAll.of_ints ps] at h1
            exact ⟨_, ns, rfl, .inl (.inl (r1.sub _ _ h1)), hl, At.fin (ρ := rP) r1 q2 (.int _)⟩
        · rw [if_neg hl] at ez; cases ez
    | _ => cases ez⟩
/-! ### xs.index(x), x in xs -/
def indexD : PyData → List PyData → Option PyData
  | .list ds, [d] => if SeqAt.shaped (.list ds) && SeqAt.shaped d then (ds.findIdx? fun y => PyData.eqv y d).map fun j => PyData.int (j : Nat) else none
  | _, _ => none
theorem mt_indexP (hu : X.A.units + 100 < cLine) : MtR X "list.index" (rMt X.K indexD) := by
  intro pins s σ H x xs v us Q I rx rs ⟨G, d, ds, z, l, p, ps, e, q⟩
  unfold indexD at e
  split at e
  · rename_i ds d
    by_cases h : (SeqAt.shaped (.list ds) && SeqAt.shaped d) = true
    · rw [if_pos h] at e
      rw [Bool.and_eq_true] at h
      cases ef : ds.findIdx? (fun y => PyData.eqv y d) with
      | none => rw [ef] at e; cases e
      | some j =>
        rw [ef] at e
        cases e
        obtain ⟨hj, e1, e2⟩ := List.findIdx?_eq_some_iff_getElem.mp ef
        obtain ⟨w, rfl, pw⟩ := rpOne ps
        have hp := (p.mono l).dp
        have hw := (pw.mono l).dp
        cases p with
        | lst h1 p1 =>
          exact mt_indexD (by omega) pins s σ H _ _ v us Q I rx rs ⟨_, _, d, ds, j, ds[j], rfl, rfl, hp, hw, h.1, h.2, List.getElem?_eq_getElem hj, e1, fun m z' hm ez => by
            obtain ⟨hl, rfl⟩ := List.getElem?_eq_some_iff.mp ez
            have := e2 m hm
            simpa using this, q _ H G (Gw.refl l) (.int _)⟩
    · rw [if_neg h] at e; cases e
  · cases e
end
def k1_tupRg (x : PyData) (c : Co) : R PyData := match x with
  | .int n => if -(2 ^ 62) ≤ n ∧ n ≤ 1000000 then .ok (.tuple (rng 0 n.toNat)) c else .stuck
  | _ => .stuck
theorem k1_tupRg_nat {n : Nat} (h : n ≤ 1000000) (c : Co) : k1_tupRg (.int (n : Nat)) c = .ok (.tuple ((List.range n).map fun i : Nat => PyData.int (i : Int))) c := by
  have z : k1_tupRg (.int (n : Nat)) c = if -(2 ^ 62) ≤ (n : Int) ∧ (n : Int) ≤ 1000000 then .ok (.tuple (rng 0 (n : Int).toNat)) c else .stuck := rfl
  rw [z, if_pos ⟨by omega, by omega⟩]
  simp [rng]
@[simp] theorem s_tupRg (f : M PyData) (c : Co) : tupRg f c = (f c).go k1_tupRg := by
  unfold tupRg
  rw [bnd_go]
  congr 1
  funext x c1
  cases x with
  | int n => unfold k1_tupRg; dsimp only; split <;> rfl
  | _ => rfl
/-! ### a comprehension whose test changes what stands -/
theorem lcM_flt {α : Type} (enc : α → PyData) (h : α → PyData) {vs : List Nat} {g : GT} {t : M Bool} {e : M PyData} (I : Co → Prop) : ∀ (as : List α) (acc : List PyData) (c : Co), I (wip vs c) → (∀ a ∈ as, ∀ c, I c → ∃ c1 b c2, g (enc a) c = some c1 ∧ t c1 = .ok b c2 ∧ (b = true → ∃ c3, e c2 = .ok (h a) c3 ∧ I (wip vs c3)) ∧ (b = false → I (wip vs c2))) →
    ∃ (bs : List α) (c' : Co), lcM vs g t e (as.map enc) acc c = .ok (acc ++ bs.map h) c' ∧ I c' ∧ bs.Sublist as
  | [], acc, c, hI, _ => ⟨[], wip vs c, by simp [lcM, wip], hI, .slnil⟩
  | x :: xs, acc, c, hI, hb => by
    obtain ⟨c1, b, c2, e1, e2, e3, e4⟩ := hb x (List.mem_cons_self ..) _ hI
    have e1 : g (enc x) { c with env := wipeE c.env vs } = some c1 := e1
    have e0 : lcM vs g t e ((x :: xs).map enc) acc c = (noex t >>= fun b => if b then noex e >>= fun y => lcM vs g t e (xs.map enc) (acc ++ [y]) else lcM vs g t e (xs.map enc) acc) c1 := by
      show (match g (enc x) { c with env := wipeE c.env vs } with | none => R.stuck | some c1 => _) = _
      rw [e1] <;> rfl
    cases b with
    | false =>
      obtain ⟨bs, c', i1, i2, i3⟩ := lcM_flt enc h I xs acc c2 (e4 rfl) fun z hz => hb z (List.mem_cons_of_mem _ hz)
      refine ⟨bs, c', ?_, i2, i3.cons _⟩
      rw [e0, bnd_ok (noex_ok e2), if_neg Bool.false_ne_true, i1]
    | true =>
      obtain ⟨c3, e5, e6⟩ := e3 rfl
      obtain ⟨bs, c', i1, i2, i3⟩ := lcM_flt enc h I xs (acc ++ [h x]) c3 e6 fun z hz => hb z (List.mem_cons_of_mem _ hz)
      refine ⟨x :: bs, c', ?_, i2, i3.cons₂ _⟩
      rw [e0, bnd_ok (noex_ok e2), if_pos rfl, bnd_ok (noex_ok e5), i1, List.append_assoc]
      rfl
theorem lc_flt {α : Type} (enc : α → PyData) (h : α → PyData) {own : List (Str × Nat)} {f : M (List PyData)} {g : GT} {t : M Bool} {e : M PyData} {as : List α} {c c1 : Co} (I : Co → Prop) (hf : f c = .ok (as.map enc) c1) (hl : as.length ≤ sizeLine) (h0 : I (wip (own.map (·.2)) c1))
    (hb : ∀ a ∈ as, ∀ c, I c → ∃ c1 b c2, g (enc a) c = some c1 ∧ t c1 = .ok b c2 ∧ (b = true → ∃ c3, e c2 = .ok (h a) c3 ∧ I (wip (own.map (·.2)) c3)) ∧ (b = false → I (wip (own.map (·.2)) c2))) :
    ∃ (bs : List α) (c' : Co), lc own f g t e c = .ok (.own (.lst (bs.map h))) c' ∧ I c' ∧ bs.Sublist as := by
  obtain ⟨bs, c', e1, e2⟩ := lcM_flt (t := t) (e := e) enc h I as [] c1 h0 hb
  refine ⟨bs, c', ?_, e2⟩
  unfold lc
  rw [bnd_ok hf, if_pos (by rw [List.length_map]; exact hl), bnd_ok e1]
  rfl
end DL
end L2

/-! DL, part eighteen: reckoning with tuples of whole numbers. -/
namespace L2
namespace DL
open PySem PySem.Spec PyProof.Rows

def iN (n : Nat) : PyData := .int (n : Int)
theorem iN_eq (n : Nat) : iN n = .int (n : Int) := id rfl
theorem iN_inj {a b : Nat} (h : iN a = iN b) : a = b := by
  unfold iN at h
  injection h with h
  exact Int.ofNat.inj h
theorem noBAll_mem : ∀ {xs : List PyData}, noBAll xs = true → ∀ y ∈ xs, noB y = true
  | [], _, y, hy => by cases hy
  | x :: xs, h, y, hy => by
    rw [noBAll, Bool.and_eq_true] at h
    rcases List.mem_cons.mp hy with rfl | hy
    · exact h.1
    · exact noBAll_mem h.2 y hy
theorem inD_valT {d : PyData} {xs : List PyData} (h1 : noB d = true) (h2 : noBAll xs = true) (h3 : d.depth ≤ 64) {b : Bool} (h : b = true ↔ d ∈ xs) : inD d (.tuple xs) = some (.bool b) := inD_val h1 h2 h3 h
theorem eqv_dec {d e : PyData} (h1 : noB d = true) (h2 : noB e = true) {b : Bool} (h : b = true ↔ d = e) : PyData.eqv d e = b := by
  rw [Bool.eq_iff_iff, eqv_iff d e h1 h2, h]
theorem countD_val {α : Type} {d : PyData} (f : α → PyData) (p : α → Bool) {xs : List α} (h1 : noB d = true) (h2 : ∀ a, noB (f a) = true) (h3 : d.depth ≤ 64) (h : ∀ a ∈ xs, p a = true ↔ f a = d) : countD (.list (xs.map f)) [d] = some (.int ((xs.filter p).length : Nat)) := by
  have z : countD (.list (xs.map f)) [d] = if PyData.plainAll (xs.map f) && d.plain && decide (min (PyData.depthAll (xs.map f)) d.depth ≤ 64) then some (.int (((xs.map f).countP fun y => PyData.eqv y d : Nat) : Int)) else none := rfl
  rw [z, plain_noB d h1, plainAll_noB _ (noB_map f h2 xs), if_pos (by simp; omega), List.countP_map, List.countP_eq_length_filter]
  have e : xs.filter ((fun y => PyData.eqv y d) ∘ f) = xs.filter p := by
    refine List.filter_congr fun a ha => ?_
    exact eqv_dec (h2 a) h1 (h a ha)
  rw [e]
theorem indexD_val {α : Type} {d : PyData} (f : α → PyData) (p : α → Bool) {xs : List α} {j : Nat} (h1 : noB d = true) (h2 : ∀ a, noB (f a) = true) (hs1 : SeqAt.shaped (.list (xs.map f)) = true) (hs2 : SeqAt.shaped d = true) (h : ∀ a ∈ xs, p a = true ↔ f a = d) (hj : xs.findIdx? p = some j) : indexD (.list (xs.map f)) [d] = some (.int (j : Nat)) := by
  have z : indexD (.list (xs.map f)) [d] = if SeqAt.shaped (.list (xs.map f)) && SeqAt.shaped d then ((xs.map f).findIdx? fun y => PyData.eqv y d).map fun j => PyData.int (j : Nat) else none := rfl
  rw [z, hs1, hs2, if_pos (by rfl), List.findIdx?_map]
  have e : xs.findIdx? ((fun y => PyData.eqv y d) ∘ f) = some j := by
    rw [← hj]
    clear z hs1 hj
    induction xs with
    | nil => rfl
    | cons x xs ih =>
      rw [List.findIdx?_cons, List.findIdx?_cons, ih fun a ha => h a (List.mem_cons_of_mem _ ha)]
      rw [show ((fun y => PyData.eqv y d) ∘ f) x = p x from eqv_dec (h2 x) h1 (h x (List.mem_cons_self ..))]
  rw [e]
  rfl
theorem noB_iN (n : Nat) : noB (iN n) = true := by unfold iN; rfl
theorem noB_nats (xs : List Nat) : noBAll (xs.map iN) = true := noB_map iN noB_iN xs
theorem depth_map0 {α : Type} (f : α → PyData) (k : Nat) (h : ∀ a, (f a).depth ≤ k) : ∀ xs : List α, PyData.depthAll (xs.map f) ≤ k
  | [] => by simp [PyData.depthAll]
  | x :: xs => by
    have := depth_map0 f k h xs
    have := h x
    rw [List.map_cons, PyData.depthAll]
    omega
theorem depth_iN (n : Nat) : (iN n).depth ≤ 0 := by unfold iN; simp [PyData.depth]
theorem map_inj {α : Type} {f : α → PyData} (hf : ∀ a b, f a = f b → a = b) : ∀ {xs ys : List α}, xs.map f = ys.map f → xs = ys
  | [], [], _ => rfl
  | [], y :: ys, h => by simp at h
  | x :: xs, [], h => by simp at h
  | x :: xs, y :: ys, h => by
    rw [List.map_cons, List.map_cons] at h
    injection h with h1 h2
    rw [hf _ _ h1, map_inj hf h2]
theorem o_inN (n : Nat) (p : List Nat) : inD (.int (n : Int)) (.tuple (p.map iN)) = some (.bool (p.contains n)) := by
  refine inD_valT (d := iN n) (noB_iN n) (noB_nats p) (Nat.le_trans (depth_iN n) (by decide)) ?_
  rw [List.contains_iff_mem, List.mem_map]
  exact ⟨fun h => ⟨n, h, rfl⟩, fun ⟨a, ha, e⟩ => iN_inj e ▸ ha⟩
theorem enumL_range {α : Type} (f : α → PyData) (d : α) : ∀ (xs : List α) (n : Nat), enumL n (xs.map f) = (List.range xs.length).map fun i => PyData.tuple [.int ((n + i : Nat) : Int), f (xs.getD i d)]
  | [], n => rfl
  | x :: xs, n => by
    rw [List.map_cons, List.length_cons, List.range_succ_eq_map, List.map_cons, List.map_map]
    show PyData.tuple [.int (n : Nat), f x] :: enumL (n + 1) (xs.map f) = _
    rw [enumL_range f d xs (n + 1)]
    congr 1
    apply List.map_congr_left
    intro i _
    show PyData.tuple [.int ((n + 1 + i : Nat) : Int), f (xs.getD i d)] = PyData.tuple [.int ((n + (i + 1) : Nat) : Int), f ((x :: xs).getD (i + 1) d)]
    rw [show n + 1 + i = n + (i + 1) by omega]
    rfl
/-! ### small data, for repr -/
structure Sm (w k : Nat) (d : PyData) : Prop where
  sh : d.showable = true
  nd : d.hasDict = false
  ls : PyData.leavesShort 13 d = true
  dp : d.depth ≤ k
  wt : d.weight ≤ w
theorem sm_int {i : Int} (h : i.natAbs < 10 ^ 12) : Sm 41 0 (.int i) := by
  have a1 := log2_small h
  have a2 := PyData.shown_int_le h
  refine ⟨?_, by simp only [PyData.hasDict], ?_, by simp [PyData.depth], ?_⟩
  · simp only [PyData.showable, decide_eq_true_eq]; omega
  · simp only [PyData.leavesShort, decide_eq_true_eq]; exact a2
  · simp only [PyData.weight]; split <;> omega
theorem sm_iN {n : Nat} (h : n < 10 ^ 12) : Sm 41 0 (iN n) := sm_int (i := (n : Int)) (by omega)
theorem sm_none : Sm 0 0 .none := ⟨by simp only [PyData.showable], by simp only [PyData.hasDict], by simp only [PyData.leavesShort], by simp [PyData.depth], by simp [PyData.weight]⟩
theorem sm_all {α : Type} (f : α → PyData) {w k : Nat} : ∀ {xs : List α}, (∀ x ∈ xs, Sm w k (f x)) → PyData.showableAll (xs.map f) = true ∧ PyData.hasDictAll (xs.map f) = false ∧ PyData.leavesShortAll 13 (xs.map f) = true ∧ PyData.depthAll (xs.map f) ≤ k ∧ PyData.weightAll (xs.map f) ≤ xs.length * (w + 1)
  | [], _ => ⟨by simp only [List.map_nil, PyData.showableAll], by simp only [List.map_nil, PyData.hasDictAll], by simp only [List.map_nil, PyData.leavesShortAll], by simp [PyData.depthAll], by simp only [List.map_nil, PyData.weightAll]; omega⟩
  | x :: xs, h => by
    obtain ⟨h1, h2, h3, h4, h5⟩ := sm_all f (xs := xs) fun y hy => h y (List.mem_cons_of_mem _ hy)
    have hx := h x (List.mem_cons_self ..)
    refine ⟨?_, ?_, ?_, ?_, ?_⟩
    · simp only [List.map_cons, PyData.showableAll, h1, hx.sh, Bool.and_true]
    · simp only [List.map_cons, PyData.hasDictAll, h2, hx.nd, Bool.or_false]
    · simp only [List.map_cons, PyData.leavesShortAll, h3, hx.ls, Bool.and_true]
    · have := hx.dp
      rw [List.map_cons, PyData.depthAll]; omega
    · have := hx.wt
      rw [List.map_cons, PyData.weightAll, List.length_cons, Nat.add_mul]; omega
theorem sm_tup {α : Type} (f : α → PyData) {w k n : Nat} {xs : List α} (h : ∀ x ∈ xs, Sm w k (f x)) (hn : xs.length ≤ n) : Sm (n * (w + 1)) (k + 1) (.tuple (xs.map f)) := by
  obtain ⟨h1, h2, h3, h4, h5⟩ := sm_all f h
  exact ⟨by simp only [PyData.showable, h1], by simp only [PyData.hasDict, h2], by simp only [PyData.leavesShort, h3], by simp only [PyData.depth]; omega, by simp only [PyData.weight]; exact Nat.le_trans h5 (Nat.mul_le_mul_right _ hn)⟩
theorem sm_lst {α : Type} (f : α → PyData) {w k n : Nat} {xs : List α} (h : ∀ x ∈ xs, Sm w k (f x)) (hn : xs.length ≤ n) : Sm (n * (w + 1)) (k + 1) (.list (xs.map f)) := by
  obtain ⟨h1, h2, h3, h4, h5⟩ := sm_all f h
  exact ⟨by simp only [PyData.showable, h1], by simp only [PyData.hasDict, h2], by simp only [PyData.leavesShort, h3], by simp only [PyData.depth]; omega, by simp only [PyData.weight]; exact Nat.le_trans h5 (Nat.mul_le_mul_right _ hn)⟩
theorem repr_sm {w k : Nat} {d : PyData} (h : Sm w k d) (hk : k ≤ 64) (hw : w ≤ 2 ^ 20) : reprD [d] = some (.str d.shown) :=
  o_repr h.sh h.nd (Nat.le_trans h.dp hk) (PyData.shown_fits (B := 13) (by decide) (by decide) h.ls (Nat.le_trans h.wt hw))
theorem neD_str (x : Str) : neD (.str x) (.str x) = some (.bool false) := neD_self rfl (Nat.zero_le _)
end DL
end L2

namespace Law
open PySem PySem.Spec PyProof.Rows L2 L2.DL
def topS (i : Nat) : Stmt := PySem.Challenge.pw_fewjewels_k53_whole_counts_of_keys_and_o.main.body.getD i (.Pass ⟨0, 0, 0, 0⟩)
abbrev s__law_hand : Stmt := topS 28
theorem sc__law_hand : FnScope ["script", "cells", "cell"] ["script"] (defScope s__law_hand) := ⟨rfl, rfl, rfl, by decide +kernel, rfl, by decide +kernel, by decide +kernel⟩
abbrev s_is_tuple : Stmt := topS 3
theorem sc_is_tuple : FnScope ["thing", "least", "most"] ["thing", "least", "most"] (defScope s_is_tuple) := ⟨rfl, rfl, rfl, by decide +kernel, rfl, by decide +kernel, by decide +kernel⟩
abbrev s_is_integer : Stmt := topS 1
theorem sc_is_integer : FnScope ["thing"] ["thing"] (defScope s_is_integer) := ⟨rfl, rfl, rfl, by decide +kernel, rfl, by decide +kernel, by decide +kernel⟩
abbrev s_is_within : Stmt := topS 2
theorem sc_is_within : FnScope ["thing", "low", "high"] ["thing", "low", "high"] (defScope s_is_within) := ⟨rfl, rfl, rfl, by decide +kernel, rfl, by decide +kernel, by decide +kernel⟩
abbrev s_is_lot : Stmt := topS 4
theorem sc_is_lot : FnScope ["thing", "many", "one", "other"] ["thing", "many"] (defScope s_is_lot) := ⟨rfl, rfl, rfl, by decide +kernel, rfl, by decide +kernel, by decide +kernel⟩
abbrev s_is_lock : Stmt := topS 16
theorem sc_is_lock : FnScope ["thing", "pin"] ["thing"] (defScope s_is_lock) := ⟨rfl, rfl, rfl, by decide +kernel, rfl, by decide +kernel, by decide +kernel⟩
abbrev s_check_locks : Stmt := topS 20
theorem sc_check_locks : FnScope ["locks", "lock"] ["locks"] (defScope s_check_locks) := ⟨rfl, rfl, rfl, by decide +kernel, rfl, by decide +kernel, by decide +kernel⟩
abbrev s_right_heights : Stmt := topS 21
theorem sc_right_heights : FnScope ["locks", "found", "i", "height", "lock"] ["locks"] (defScope s_right_heights) := ⟨rfl, rfl, rfl, by decide +kernel, rfl, by decide +kernel, by decide +kernel⟩
abbrev s_keys_count : Stmt := topS 23
theorem sc_keys_count : FnScope ["locks", "found", "heights"] ["locks"] (defScope s_keys_count) := ⟨rfl, rfl, rfl, by decide +kernel, rfl, by decide +kernel, by decide +kernel⟩
abbrev s_does_open : Stmt := topS 19
theorem sc_does_open : FnScope ["lock", "key", "height", "pin"] ["lock", "key"] (defScope s_does_open) := ⟨rfl, rfl, rfl, by decide +kernel, rfl, by decide +kernel, by decide +kernel⟩
abbrev s_own_key : Stmt := topS 24
theorem sc_own_key : FnScope ["locks", "k", "found", "pin", "longer", "key", "height", "others", "lock"] ["locks", "k"] (defScope s_own_key) := ⟨rfl, rfl, rfl, by decide +kernel, rfl, by decide +kernel, by decide +kernel⟩
abbrev s_is_key : Stmt := topS 18
theorem sc_is_key : FnScope ["thing", "many", "one"] ["thing", "many"] (defScope s_is_key) := ⟨rfl, rfl, rfl, by decide +kernel, rfl, by decide +kernel, by decide +kernel⟩
abbrev s_key_by_key : Stmt := topS 25
theorem sc_key_by_key : FnScope ["locks", "keys", "key", "at", "lock"] ["locks", "keys"] (defScope s_key_by_key) := ⟨rfl, rfl, rfl, by decide +kernel, rfl, by decide +kernel, by decide +kernel⟩
abbrev s__law_draw : Stmt := topS 29
theorem sc__law_draw : FnScope ["hand", "many", "cell", "digit", "number"] ["hand", "many"] (defScope s__law_draw) := ⟨rfl, rfl, rfl, by decide +kernel, rfl, by decide +kernel, by decide +kernel⟩
abbrev s__law_some : Stmt := topS 30
theorem sc__law_some : FnScope ["hand", "things"] ["hand", "things"] (defScope s__law_some) := ⟨rfl, rfl, rfl, by decide +kernel, rfl, by decide +kernel, by decide +kernel⟩
abbrev s__law_lot : Stmt := topS 31
theorem sc__law_lot : FnScope ["hand", "most", "found", "height"] ["hand", "most"] (defScope s__law_lot) := ⟨rfl, rfl, rfl, by decide +kernel, rfl, by decide +kernel, by decide +kernel⟩
abbrev s__law_locks : Stmt := topS 32
theorem sc__law_locks : FnScope ["hand", "many", "pins", "most", "pin", "lock"] ["hand", "many", "pins"] (defScope s__law_locks) := ⟨rfl, rfl, rfl, by decide +kernel, rfl, by decide +kernel, by decide +kernel⟩
abbrev s__law_keys : Stmt := topS 34
theorem sc__law_keys : FnScope ["pins", "found", "pin", "longer", "key", "height"] ["pins"] (defScope s__law_keys) := ⟨rfl, rfl, rfl, by decide +kernel, rfl, by decide +kernel, by decide +kernel⟩
abbrev s__law_opens : Stmt := topS 33
theorem sc__law_opens : FnScope ["lock", "key", "lot", "height"] ["lock", "key"] (defScope s__law_opens) := ⟨rfl, rfl, rfl, by decide +kernel, rfl, by decide +kernel, by decide +kernel⟩
abbrev s_key_or_pin : Stmt := topS 22
theorem sc_key_or_pin : FnScope ["locks", "some", "bad", "i", "heights"] ["locks"] (defScope s_key_or_pin) := ⟨rfl, rfl, rfl, by decide +kernel, rfl, by decide +kernel, by decide +kernel⟩
abbrev s_check_lock : Stmt := topS 17
theorem sc_check_lock : FnScope ["lock"] ["lock"] (defScope s_check_lock) := ⟨rfl, rfl, rfl, by decide +kernel, rfl, by decide +kernel, by decide +kernel⟩
abbrev s_same_lock : Stmt := topS 26
theorem sc_same_lock : FnScope ["one", "other"] ["one", "other"] (defScope s_same_lock) := ⟨rfl, rfl, rfl, by decide +kernel, rfl, by decide +kernel, by decide +kernel⟩
abbrev s__law_right : Stmt := topS 35
theorem sc__law_right : FnScope ["hand", "pins", "locks", "every", "lots", "at", "lock", "key", "whole", "product", "pin", "height", "k", "due", "keys", "turn", "own"] ["hand"] (defScope s__law_right) := ⟨rfl, rfl, rfl, by decide +kernel, rfl, by decide +kernel, by decide +kernel⟩
abbrev s_law : Stmt := topS 36
theorem sc_law : FnScope ["script", "hand", "two", "turn"] ["script"] (defScope s_law) := ⟨rfl, rfl, rfl, by decide +kernel, rfl, by decide +kernel, by decide +kernel⟩
/-- 0 script, 1 cells, 2 cell -/
def d__law_hand : M Fl :=
  (thenM (frzM 1 (setM 1 (lc [("cell", 2)] (itm (scM 0 noO (soO (pure (.int 63))))) (gN 2) (pure true) (ca absD (consA (ca intD (consA (rdP 2) nilA)) nilA)))))
  (retM (lstM (consA (rdP 1) (consA (pure (.int 0)) (consA (pure (.int 0)) (consA (bin addD (pure (.int 2011)) (bin mulD (pure (.int 157)) (lnS 1))) (consA (pure (.int 0)) nilA))))))))
def F__law_hand : FD := fnD 3 d__law_hand
theorem u__law_hand (c : Co) : d__law_hand c = (thenM (frzM 1 (setM 1 (lc [("cell", 2)] (itm (scM 0 noO (soO (pure (.int 63))))) (gN 2) (pure true) (ca absD (consA (ca intD (consA (rdP 2) nilA)) nilA)))))
  (retM (lstM (consA (rdP 1) (consA (pure (.int 0)) (consA (pure (.int 0)) (consA (bin addD (pure (.int 2011)) (bin mulD (pure (.int 157)) (lnS 1))) (consA (pure (.int 0)) nilA)))))))) c := id rfl
theorem e__law_hand (args : List EV) (st : List OB) : F__law_hand args st = finK (d__law_hand ⟨args ++ List.replicate (3 - args.length) .un, st⟩) := fnD_eq _ _ _ _
/-- 0 thing, 1 least, 2 most -/
def d_is_tuple : M Fl :=
  (retM (dM (andM (uno (isaD "tuple") (rdP 0)) (chn leD leD (rdP 1) (lnS 0) (rdP 2)))))
def F_is_tuple : FD := fnD 3 d_is_tuple
theorem u_is_tuple (c : Co) : d_is_tuple c = (retM (dM (andM (uno (isaD "tuple") (rdP 0)) (chn leD leD (rdP 1) (lnS 0) (rdP 2))))) c := id rfl
theorem e_is_tuple (args : List EV) (st : List OB) : F_is_tuple args st = finK (d_is_tuple ⟨args ++ List.replicate (3 - args.length) .un, st⟩) := fnD_eq _ _ _ _
/-- 0 thing -/
def d_is_integer : M Fl :=
  (retM (dM (andM (uno (isaD "int") (rdP 0)) (uno notD (uno (isaD "bool") (rdP 0))))))
def F_is_integer : FD := fnD 1 d_is_integer
theorem u_is_integer (c : Co) : d_is_integer c = (retM (dM (andM (uno (isaD "int") (rdP 0)) (uno notD (uno (isaD "bool") (rdP 0)))))) c := id rfl
theorem e_is_integer (args : List EV) (st : List OB) : F_is_integer args st = finK (d_is_integer ⟨args ++ List.replicate (1 - args.length) .un, st⟩) := fnD_eq _ _ _ _
/-- 0 thing, 1 low, 2 high -/
def d_is_within : M Fl :=
  (retM (dM (andM (frM (cl F_is_integer (consC (rd 0) nilC))) (chn leD leD (rdP 1) (rdP 0) (rdP 2)))))
def F_is_within : FD := fnD 3 d_is_within
theorem u_is_within (c : Co) : d_is_within c = (retM (dM (andM (frM (cl F_is_integer (consC (rd 0) nilC))) (chn leD leD (rdP 1) (rdP 0) (rdP 2))))) c := id rfl
theorem e_is_within (args : List EV) (st : List OB) : F_is_within args st = finK (d_is_within ⟨args ++ List.replicate (3 - args.length) .un, st⟩) := fnD_eq _ _ _ _
/-- 0 thing, 1 many, 2 one, 3 other -/
def d_is_lot : M Fl :=
  (thenM (iteM (orB (notB (tst (uno (isaD "tuple") (rdP 0)))) (notB (tst (ca allD (consA (frM (lc [("one", 2)] (itm (rdP 0)) (gN 2) (pure true) (frM (cl F_is_within (consC (rd 2) (consC (dM (pure (.int 0))) (consC (dM (bin subD (rdP 1) (pure (.int 1)))) nilC))))))) nilA))))) (retM (dM (pure (.bool false)))) (pure .nx))
  (retM (dM (ca allD (consA (frM (lc [("one", 2), ("other", 3)] (ci zipO (consA (rdP 0) (consA (slM (rdP 0) (soO (pure (.int 1))) noO) nilA))) (gT [(gN 2), (gN 3)]) (pure true) (bin ltD (rdP 2) (rdP 3)))) nilA)))))
def F_is_lot : FD := fnD 4 d_is_lot
theorem u_is_lot (c : Co) : d_is_lot c = (thenM (iteM (orB (notB (tst (uno (isaD "tuple") (rdP 0)))) (notB (tst (ca allD (consA (frM (lc [("one", 2)] (itm (rdP 0)) (gN 2) (pure true) (frM (cl F_is_within (consC (rd 2) (consC (dM (pure (.int 0))) (consC (dM (bin subD (rdP 1) (pure (.int 1)))) nilC))))))) nilA))))) (retM (dM (pure (.bool false)))) (pure .nx))
  (retM (dM (ca allD (consA (frM (lc [("one", 2), ("other", 3)] (ci zipO (consA (rdP 0) (consA (slM (rdP 0) (soO (pure (.int 1))) noO) nilA))) (gT [(gN 2), (gN 3)]) (pure true) (bin ltD (rdP 2) (rdP 3)))) nilA))))) c := id rfl
theorem e_is_lot (args : List EV) (st : List OB) : F_is_lot args st = finK (d_is_lot ⟨args ++ List.replicate (4 - args.length) .un, st⟩) := fnD_eq _ _ _ _
/-- 0 thing, 1 pin -/
def d_is_lock : M Fl :=
  (thenM (iteM (notB (tst (frM (cl F_is_tuple (consC (rd 0) (consC (dM (pure (.int 1))) (consC (dM (pure (.int 5))) nilC))))))) (retM (dM (pure (.bool false)))) (pure .nx))
  (retM (dM (ca allD (consA (frM (lc [("pin", 1)] (itm (rdP 0)) (gN 1) (pure true) (andM (frM (cl F_is_lot (consC (rd 1) (consC (dM (pure (.int 6))) nilC)))) (bin gtD (lnS 1) (pure (.int 0)))))) nilA)))))
def F_is_lock : FD := fnD 2 d_is_lock
theorem u_is_lock (c : Co) : d_is_lock c = (thenM (iteM (notB (tst (frM (cl F_is_tuple (consC (rd 0) (consC (dM (pure (.int 1))) (consC (dM (pure (.int 5))) nilC))))))) (retM (dM (pure (.bool false)))) (pure .nx))
  (retM (dM (ca allD (consA (frM (lc [("pin", 1)] (itm (rdP 0)) (gN 1) (pure true) (andM (frM (cl F_is_lot (consC (rd 1) (consC (dM (pure (.int 6))) nilC)))) (bin gtD (lnS 1) (pure (.int 0)))))) nilA))))) c := id rfl
theorem e_is_lock (args : List EV) (st : List OB) : F_is_lock args st = finK (d_is_lock ⟨args ++ List.replicate (2 - args.length) .un, st⟩) := fnD_eq _ _ _ _
/-- 0 locks, 1 lock -/
def d_check_locks : M Fl :=
  (thenM (iteM (orB (notB (tst (frM (cl F_is_tuple (consC (rd 0) (consC (dM (pure (.int 1))) (consC (dM (pure (.int 6))) nilC))))))) (notB (tst (ca allD (consA (frM (lc [("lock", 1)] (itm (rdP 0)) (gN 1) (pure true) (frM (cl F_is_lock (consC (rd 1) nilC))))) nilA))))) stuckM (pure .nx))
  (iteM (tst (bin gtD (uno setLenD (frM (lc [("lock", 1)] (itm (rdP 0)) (gN 1) (pure true) (lnS 1)))) (pure (.int 1)))) stuckM (pure .nx)))
def F_check_locks : FD := fnD 2 d_check_locks
theorem u_check_locks (c : Co) : d_check_locks c = (thenM (iteM (orB (notB (tst (frM (cl F_is_tuple (consC (rd 0) (consC (dM (pure (.int 1))) (consC (dM (pure (.int 6))) nilC))))))) (notB (tst (ca allD (consA (frM (lc [("lock", 1)] (itm (rdP 0)) (gN 1) (pure true) (frM (cl F_is_lock (consC (rd 1) nilC))))) nilA))))) stuckM (pure .nx))
  (iteM (tst (bin gtD (uno setLenD (frM (lc [("lock", 1)] (itm (rdP 0)) (gN 1) (pure true) (lnS 1)))) (pure (.int 1)))) stuckM (pure .nx))) c := id rfl
theorem e_check_locks (args : List EV) (st : List OB) : F_check_locks args st = finK (d_check_locks ⟨args ++ List.replicate (2 - args.length) .un, st⟩) := fnD_eq _ _ _ _
/-- 0 locks, 1 found, 2 i, 3 height, 4 lock -/
def d_right_heights : M Fl :=
  (thenM (setM 1 (lstM nilA))
  (thenM (forS (ci rng1O (consA (lnM (ixS 0 (pure (.int 0)))) nilA)) (gN 2) (appM 1 (frM (lc [("height", 3)] (ci rng1O (consA (pure (.int 6)) nilA)) (gN 3) (tst (ca allD (consA (frM (lc [("lock", 4)] (itm (rdP 0)) (gN 4) (pure true) (bin inD (rdP 3) (ixS 4 (rdP 2))))) nilA))) (rdP 3)))))
  (retM (rd 1))))
def F_right_heights : FD := fnD 5 d_right_heights
theorem u_right_heights (c : Co) : d_right_heights c = (thenM (setM 1 (lstM nilA))
  (thenM (forS (ci rng1O (consA (lnM (ixS 0 (pure (.int 0)))) nilA)) (gN 2) (appM 1 (frM (lc [("height", 3)] (ci rng1O (consA (pure (.int 6)) nilA)) (gN 3) (tst (ca allD (consA (frM (lc [("lock", 4)] (itm (rdP 0)) (gN 4) (pure true) (bin inD (rdP 3) (ixS 4 (rdP 2))))) nilA))) (rdP 3)))))
  (retM (rd 1)))) c := id rfl
theorem e_right_heights (args : List EV) (st : List OB) : F_right_heights args st = finK (d_right_heights ⟨args ++ List.replicate (5 - args.length) .un, st⟩) := fnD_eq _ _ _ _
/-- 0 locks, 1 found, 2 heights -/
def d_keys_count : M Fl :=
  (thenM (expM (cl F_check_locks (consC (rd 0) nilC)))
  (thenM (setM 1 (dM (pure (.int 1))))
  (thenM (forS (itm (frM (cl F_right_heights (consC (rd 0) nilC)))) (gN 2) (setM 1 (dM (bin mulD (rdP 1) (lnS 2)))))
  (retM (rd 1)))))
def F_keys_count : FD := fnD 3 d_keys_count
theorem u_keys_count (c : Co) : d_keys_count c = (thenM (expM (cl F_check_locks (consC (rd 0) nilC)))
  (thenM (setM 1 (dM (pure (.int 1))))
  (thenM (forS (itm (frM (cl F_right_heights (consC (rd 0) nilC)))) (gN 2) (setM 1 (dM (bin mulD (rdP 1) (lnS 2)))))
  (retM (rd 1))))) c := id rfl
theorem e_keys_count (args : List EV) (st : List OB) : F_keys_count args st = finK (d_keys_count ⟨args ++ List.replicate (3 - args.length) .un, st⟩) := fnD_eq _ _ _ _
/-- 0 lock, 1 key, 2 height, 3 pin -/
def d_does_open : M Fl :=
  (retM (dM (ca allD (consA (frM (lc [("height", 2), ("pin", 3)] (ci zipO (consA (rdP 1) (consA (rdP 0) nilA))) (gT [(gN 2), (gN 3)]) (pure true) (bin inD (rdP 2) (rdP 3)))) nilA))))
def F_does_open : FD := fnD 4 d_does_open
theorem u_does_open (c : Co) : d_does_open c = (retM (dM (ca allD (consA (frM (lc [("height", 2), ("pin", 3)] (ci zipO (consA (rdP 1) (consA (rdP 0) nilA))) (gT [(gN 2), (gN 3)]) (pure true) (bin inD (rdP 2) (rdP 3)))) nilA)))) c := id rfl
theorem e_does_open (args : List EV) (st : List OB) : F_does_open args st = finK (d_does_open ⟨args ++ List.replicate (4 - args.length) .un, st⟩) := fnD_eq _ _ _ _
/-- 0 locks, 1 k, 2 found, 3 pin, 4 longer, 5 key, 6 height, 7 others, 8 lock -/
def d_own_key : M Fl :=
  (thenM (expM (cl F_check_locks (consC (rd 0) nilC)))
  (thenM (iteM (notB (tst (frM (cl F_is_within (consC (rd 1) (consC (dM (pure (.int 0))) (consC (dM (bin subD (lnS 0) (pure (.int 1)))) nilC))))))) stuckM (pure .nx))
  (thenM (frzM 2 (setM 2 (lstM (consA (tupM nilA) nilA))))
  (thenM (forS (itm (ixS 0 (rdP 1))) (gN 3) (thenM (setM 4 (lstM nilA))
    (thenM (forS (itm (rdP 2)) (gN 5) (extM 4 (frM (lc [("height", 6)] (itm (rdP 3)) (gN 6) (pure true) (bin addD (rdP 5) (tupM (consA (rdP 6) nilA)))))))
    (setM 2 (rd 4)))))
  (thenM (setM 7 (dM (bin addD (slM (rdP 0) noO (soO (rdP 1))) (slM (rdP 0) (soO (bin addD (rdP 1) (pure (.int 1)))) noO))))
  (thenM (forS (itm (rdP 2)) (gN 5) (iteM (notB (tst (ca anyD (consA (frM (lc [("lock", 8)] (itm (rdP 7)) (gN 8) (pure true) (frM (cl F_does_open (consC (rd 8) (consC (rd 5) nilC)))))) nilA)))) (retM (rd 5)) (pure .nx)))
  (retM (dM (pure .none)))))))))
def F_own_key : FD := fnD 9 d_own_key
theorem u_own_key (c : Co) : d_own_key c = (thenM (expM (cl F_check_locks (consC (rd 0) nilC)))
  (thenM (iteM (notB (tst (frM (cl F_is_within (consC (rd 1) (consC (dM (pure (.int 0))) (consC (dM (bin subD (lnS 0) (pure (.int 1)))) nilC))))))) stuckM (pure .nx))
  (thenM (frzM 2 (setM 2 (lstM (consA (tupM nilA) nilA))))
  (thenM (forS (itm (ixS 0 (rdP 1))) (gN 3) (thenM (setM 4 (lstM nilA))
    (thenM (forS (itm (rdP 2)) (gN 5) (extM 4 (frM (lc [("height", 6)] (itm (rdP 3)) (gN 6) (pure true) (bin addD (rdP 5) (tupM (consA (rdP 6) nilA)))))))
    (setM 2 (rd 4)))))
  (thenM (setM 7 (dM (bin addD (slM (rdP 0) noO (soO (rdP 1))) (slM (rdP 0) (soO (bin addD (rdP 1) (pure (.int 1)))) noO))))
  (thenM (forS (itm (rdP 2)) (gN 5) (iteM (notB (tst (ca anyD (consA (frM (lc [("lock", 8)] (itm (rdP 7)) (gN 8) (pure true) (frM (cl F_does_open (consC (rd 8) (consC (rd 5) nilC)))))) nilA)))) (retM (rd 5)) (pure .nx)))
  (retM (dM (pure .none))))))))) c := id rfl
theorem e_own_key (args : List EV) (st : List OB) : F_own_key args st = finK (d_own_key ⟨args ++ List.replicate (9 - args.length) .un, st⟩) := fnD_eq _ _ _ _
/-- 0 thing, 1 many, 2 one -/
def d_is_key : M Fl :=
  (retM (dM (andM (frM (cl F_is_tuple (consC (rd 0) (consC (rd 1) (consC (rd 1) nilC))))) (ca allD (consA (frM (lc [("one", 2)] (itm (rdP 0)) (gN 2) (pure true) (frM (cl F_is_within (consC (rd 2) (consC (dM (pure (.int 0))) (consC (dM (bin subD (pure (.int 6)) (pure (.int 1)))) nilC))))))) nilA)))))
def F_is_key : FD := fnD 3 d_is_key
theorem u_is_key (c : Co) : d_is_key c = (retM (dM (andM (frM (cl F_is_tuple (consC (rd 0) (consC (rd 1) (consC (rd 1) nilC))))) (ca allD (consA (frM (lc [("one", 2)] (itm (rdP 0)) (gN 2) (pure true) (frM (cl F_is_within (consC (rd 2) (consC (dM (pure (.int 0))) (consC (dM (bin subD (pure (.int 6)) (pure (.int 1)))) nilC))))))) nilA))))) c := id rfl
theorem e_is_key (args : List EV) (st : List OB) : F_is_key args st = finK (d_is_key ⟨args ++ List.replicate (3 - args.length) .un, st⟩) := fnD_eq _ _ _ _
/-- 0 locks, 1 keys, 2 key, 3 at, 4 lock -/
def d_key_by_key : M Fl :=
  (thenM (expM (cl F_check_locks (consC (rd 0) nilC)))
  (thenM (iteM (orB (notB (tst (frM (cl F_is_tuple (consC (rd 1) (consC (dM (pure (.int 1))) (consC (dM (pure (.int 6))) nilC))))))) (notB (tst (ca allD (consA (frM (lc [("key", 2)] (itm (rdP 1)) (gN 2) (pure true) (frM (cl F_is_key (consC (rd 2) (consC (dM (lnM (ixS 0 (pure (.int 0))))) nilC)))))) nilA))))) stuckM (pure .nx))
  (retM (dM (ca tupD (consA (frM (lc [("key", 2)] (itm (rdP 1)) (gN 2) (pure true) (ca tupD (consA (frM (lc [("at", 3), ("lock", 4)] (ci enumO (consA (rdP 0) nilA)) (gT [(gN 3), (gN 4)]) (tst (frM (cl F_does_open (consC (rd 4) (consC (rd 2) nilC))))) (rdP 3))) nilA)))) nilA))))))
def F_key_by_key : FD := fnD 5 d_key_by_key
theorem u_key_by_key (c : Co) : d_key_by_key c = (thenM (expM (cl F_check_locks (consC (rd 0) nilC)))
  (thenM (iteM (orB (notB (tst (frM (cl F_is_tuple (consC (rd 1) (consC (dM (pure (.int 1))) (consC (dM (pure (.int 6))) nilC))))))) (notB (tst (ca allD (consA (frM (lc [("key", 2)] (itm (rdP 1)) (gN 2) (pure true) (frM (cl F_is_key (consC (rd 2) (consC (dM (lnM (ixS 0 (pure (.int 0))))) nilC)))))) nilA))))) stuckM (pure .nx))
  (retM (dM (ca tupD (consA (frM (lc [("key", 2)] (itm (rdP 1)) (gN 2) (pure true) (ca tupD (consA (frM (lc [("at", 3), ("lock", 4)] (ci enumO (consA (rdP 0) nilA)) (gT [(gN 3), (gN 4)]) (tst (frM (cl F_does_open (consC (rd 4) (consC (rd 2) nilC))))) (rdP 3))) nilA)))) nilA)))))) c := id rfl
theorem e_key_by_key (args : List EV) (st : List OB) : F_key_by_key args st = finK (d_key_by_key ⟨args ++ List.replicate (5 - args.length) .un, st⟩) := fnD_eq _ _ _ _
def t__law_draw : M Fl :=
  (thenM (iteM (tst (bin gtD (ixS 0 (pure (.int 2))) (pure (.int 0)))) (thenM (setM 3 (dM (bin modD (ca intD (consA (ixS 0 (pure (.int 2))) nilA)) (rdP 1))))
    (thenM (putM 0 (pure (.int 2)) (bin fdivD (ixS 0 (pure (.int 2))) (rdP 1)))
    (retM (rd 3)))) (pure .nx))
  (thenM (putM 0 (pure (.int 4)) (bin addD (ixS 0 (pure (.int 4))) (pure (.int 1))))
  (thenM (setM 4 (dM (bin modD (ca intD (consA (bin mulD (ca intD (consA (bin addD (ixS 0 (pure (.int 3))) (bin mulD (pure (.int 7877)) (ixS 0 (pure (.int 4))))) nilA)) (pure (.int 69621))) nilA)) (pure (.int 2147483647)))))
  (thenM (setM 4 (dM (bin modD (ca intD (consA (bin mulD (rdP 4) (bin addD (bin fdivD (rdP 4) (pure (.int 1103))) (pure (.int 40692)))) nilA)) (pure (.int 2147483399)))))
  (thenM (setM 4 (dM (bin modD (ca intD (consA (bin mulD (rdP 4) (bin addD (bin fdivD (rdP 4) (pure (.int 2311))) (pure (.int 48271)))) nilA)) (pure (.int 2147483629)))))
  (retM (dM (bin modD (ca intD (consA (bin fdivD (rdP 4) (pure (.int 16))) nilA)) (rdP 1)))))))))
theorem ut__law_draw (c : Co) : t__law_draw c = (thenM (iteM (tst (bin gtD (ixS 0 (pure (.int 2))) (pure (.int 0)))) (thenM (setM 3 (dM (bin modD (ca intD (consA (ixS 0 (pure (.int 2))) nilA)) (rdP 1))))
    (thenM (putM 0 (pure (.int 2)) (bin fdivD (ixS 0 (pure (.int 2))) (rdP 1)))
    (retM (rd 3)))) (pure .nx))
  (thenM (putM 0 (pure (.int 4)) (bin addD (ixS 0 (pure (.int 4))) (pure (.int 1))))
  (thenM (setM 4 (dM (bin modD (ca intD (consA (bin mulD (ca intD (consA (bin addD (ixS 0 (pure (.int 3))) (bin mulD (pure (.int 7877)) (ixS 0 (pure (.int 4))))) nilA)) (pure (.int 69621))) nilA)) (pure (.int 2147483647)))))
  (thenM (setM 4 (dM (bin modD (ca intD (consA (bin mulD (rdP 4) (bin addD (bin fdivD (rdP 4) (pure (.int 1103))) (pure (.int 40692)))) nilA)) (pure (.int 2147483399)))))
  (thenM (setM 4 (dM (bin modD (ca intD (consA (bin mulD (rdP 4) (bin addD (bin fdivD (rdP 4) (pure (.int 2311))) (pure (.int 48271)))) nilA)) (pure (.int 2147483629)))))
  (retM (dM (bin modD (ca intD (consA (bin fdivD (rdP 4) (pure (.int 16))) nilA)) (rdP 1))))))))) c := id rfl
/-- 0 hand, 1 many, 2 cell, 3 digit, 4 number -/
def d__law_draw : M Fl :=
  (thenM (iteM (andB (tst (bin eqD (ixS 0 (pure (.int 2))) (pure (.int 0)))) (tst (bin ltD (ixS 0 (pure (.int 1))) (lnM (ixS 0 (pure (.int 0))))))) (thenM (setM 2 (dM (bin ixD (ixS 0 (pure (.int 0))) (ixS 0 (pure (.int 1))))))
    (thenM (putM 0 (pure (.int 1)) (bin addD (ixS 0 (pure (.int 1))) (pure (.int 1))))
    (thenM (putM 0 (pure (.int 3)) (bin modD (ca intD (consA (bin addD (bin addD (bin mulD (ixS 0 (pure (.int 3))) (pure (.int 48271))) (bin mulD (rdP 2) (pure (.int 5)))) (pure (.int 29))) nilA)) (pure (.int 2147483587))))
    (putM 0 (pure (.int 2)) (iteM (tst (bin geD (rdP 2) (bin powD (pure (.int 10)) (pure (.int 18))))) (rdP 2) (pure (.int 0))))))) (pure .nx))
  t__law_draw)
def F__law_draw : FD := fnD 5 d__law_draw
theorem u__law_draw (c : Co) : d__law_draw c = (thenM (iteM (andB (tst (bin eqD (ixS 0 (pure (.int 2))) (pure (.int 0)))) (tst (bin ltD (ixS 0 (pure (.int 1))) (lnM (ixS 0 (pure (.int 0))))))) (thenM (setM 2 (dM (bin ixD (ixS 0 (pure (.int 0))) (ixS 0 (pure (.int 1))))))
    (thenM (putM 0 (pure (.int 1)) (bin addD (ixS 0 (pure (.int 1))) (pure (.int 1))))
    (thenM (putM 0 (pure (.int 3)) (bin modD (ca intD (consA (bin addD (bin addD (bin mulD (ixS 0 (pure (.int 3))) (pure (.int 48271))) (bin mulD (rdP 2) (pure (.int 5)))) (pure (.int 29))) nilA)) (pure (.int 2147483587))))
    (putM 0 (pure (.int 2)) (iteM (tst (bin geD (rdP 2) (bin powD (pure (.int 10)) (pure (.int 18))))) (rdP 2) (pure (.int 0))))))) (pure .nx))
  t__law_draw) c := id rfl
theorem e__law_draw (args : List EV) (st : List OB) : F__law_draw args st = finK (d__law_draw ⟨args ++ List.replicate (5 - args.length) .un, st⟩) := fnD_eq _ _ _ _
/-- 0 hand, 1 things -/
def d__law_some : M Fl :=
  (retM (dM (ixS 1 (frM (cl F__law_draw (consC (rd 0) (consC (dM (lnS 1)) nilC)))))))
def F__law_some : FD := fnD 2 d__law_some
theorem u__law_some (c : Co) : d__law_some c = (retM (dM (ixS 1 (frM (cl F__law_draw (consC (rd 0) (consC (dM (lnS 1)) nilC))))))) c := id rfl
theorem e__law_some (args : List EV) (st : List OB) : F__law_some args st = finK (d__law_some ⟨args ++ List.replicate (2 - args.length) .un, st⟩) := fnD_eq _ _ _ _
/-- 0 hand, 1 most, 2 found, 3 height -/
def d__law_lot : M Fl :=
  (thenM (setM 2 (dM (ca tupD (consA (frM (lc [("height", 3)] (ci rng1O (consA (rdP 1) nilA)) (gN 3) (tst (bin eqD (frM (cl F__law_draw (consC (rd 0) (consC (dM (pure (.int 2))) nilC)))) (pure (.int 0)))) (rdP 3))) nilA))))
  (retM (dM (iteM (tst (bin gtD (lnS 2) (pure (.int 0)))) (rdP 2) (tupM (consA (frM (cl F__law_draw (consC (rd 0) (consC (rd 1) nilC)))) nilA))))))
def F__law_lot : FD := fnD 4 d__law_lot
theorem u__law_lot (c : Co) : d__law_lot c = (thenM (setM 2 (dM (ca tupD (consA (frM (lc [("height", 3)] (ci rng1O (consA (rdP 1) nilA)) (gN 3) (tst (bin eqD (frM (cl F__law_draw (consC (rd 0) (consC (dM (pure (.int 2))) nilC)))) (pure (.int 0)))) (rdP 3))) nilA))))
  (retM (dM (iteM (tst (bin gtD (lnS 2) (pure (.int 0)))) (rdP 2) (tupM (consA (frM (cl F__law_draw (consC (rd 0) (consC (rd 1) nilC)))) nilA)))))) c := id rfl
theorem e__law_lot (args : List EV) (st : List OB) : F__law_lot args st = finK (d__law_lot ⟨args ++ List.replicate (4 - args.length) .un, st⟩) := fnD_eq _ _ _ _
/-- 0 hand, 1 many, 2 pins, 3 most, 4 pin, 5 lock -/
def d__law_locks : M Fl :=
  (thenM (frzM 3 (setM 3 (cl F__law_some (consC (rd 0) (consC (dM (frM (lstM (consA (pure (.int 2)) (consA (pure (.int 4)) (consA (pure (.int 6)) nilA)))))) nilC)))))
  (retM (dM (ca tupD (consA (frM (lc [("lock", 5)] (ci rng1O (consA (bin addD (pure (.int 1)) (frM (cl F__law_draw (consC (rd 0) (consC (rd 1) nilC))))) nilA)) (gN 5) (pure true) (ca tupD (consA (frM (lc [("pin", 4)] (ci rng1O (consA (rdP 2) nilA)) (gN 4) (pure true) (frM (cl F__law_lot (consC (rd 0) (consC (rd 3) nilC)))))) nilA)))) nilA)))))
def F__law_locks : FD := fnD 6 d__law_locks
theorem u__law_locks (c : Co) : d__law_locks c = (thenM (frzM 3 (setM 3 (cl F__law_some (consC (rd 0) (consC (dM (frM (lstM (consA (pure (.int 2)) (consA (pure (.int 4)) (consA (pure (.int 6)) nilA)))))) nilC)))))
  (retM (dM (ca tupD (consA (frM (lc [("lock", 5)] (ci rng1O (consA (bin addD (pure (.int 1)) (frM (cl F__law_draw (consC (rd 0) (consC (rd 1) nilC))))) nilA)) (gN 5) (pure true) (ca tupD (consA (frM (lc [("pin", 4)] (ci rng1O (consA (rdP 2) nilA)) (gN 4) (pure true) (frM (cl F__law_lot (consC (rd 0) (consC (rd 3) nilC)))))) nilA)))) nilA))))) c := id rfl
theorem e__law_locks (args : List EV) (st : List OB) : F__law_locks args st = finK (d__law_locks ⟨args ++ List.replicate (6 - args.length) .un, st⟩) := fnD_eq _ _ _ _
/-- 0 pins, 1 found, 2 pin, 3 longer, 4 key, 5 height -/
def d__law_keys : M Fl :=
  (thenM (frzM 1 (setM 1 (lstM (consA (tupM nilA) nilA))))
  (thenM (forS (ci rng1O (consA (rdP 0) nilA)) (gN 2) (thenM (setM 3 (lstM nilA))
    (thenM (forS (itm (rdP 1)) (gN 4) (extM 3 (frM (lc [("height", 5)] (ci rng1O (consA (pure (.int 6)) nilA)) (gN 5) (pure true) (bin addD (rdP 4) (tupM (consA (rdP 5) nilA)))))))
    (setM 1 (rd 3)))))
  (retM (rd 1))))
def F__law_keys : FD := fnD 6 d__law_keys
theorem u__law_keys (c : Co) : d__law_keys c = (thenM (frzM 1 (setM 1 (lstM (consA (tupM nilA) nilA))))
  (thenM (forS (ci rng1O (consA (rdP 0) nilA)) (gN 2) (thenM (setM 3 (lstM nilA))
    (thenM (forS (itm (rdP 1)) (gN 4) (extM 3 (frM (lc [("height", 5)] (ci rng1O (consA (pure (.int 6)) nilA)) (gN 5) (pure true) (bin addD (rdP 4) (tupM (consA (rdP 5) nilA)))))))
    (setM 1 (rd 3)))))
  (retM (rd 1)))) c := id rfl
theorem e__law_keys (args : List EV) (st : List OB) : F__law_keys args st = finK (d__law_keys ⟨args ++ List.replicate (6 - args.length) .un, st⟩) := fnD_eq _ _ _ _
/-- 0 lock, 1 key, 2 lot, 3 height -/
def d__law_opens : M Fl :=
  (retM (dM (ca allD (consA (frM (lc [("lot", 2), ("height", 3)] (ci zipO (consA (rdP 0) (consA (rdP 1) nilA))) (gT [(gN 2), (gN 3)]) (pure true) (bin inD (rdP 3) (rdP 2)))) nilA))))
def F__law_opens : FD := fnD 4 d__law_opens
theorem u__law_opens (c : Co) : d__law_opens c = (retM (dM (ca allD (consA (frM (lc [("lot", 2), ("height", 3)] (ci zipO (consA (rdP 0) (consA (rdP 1) nilA))) (gT [(gN 2), (gN 3)]) (pure true) (bin inD (rdP 3) (rdP 2)))) nilA)))) c := id rfl
theorem e__law_opens (args : List EV) (st : List OB) : F__law_opens args st = finK (d__law_opens ⟨args ++ List.replicate (4 - args.length) .un, st⟩) := fnD_eq _ _ _ _
/-- 0 locks, 1 some, 2 bad, 3 i, 4 heights -/
def d_key_or_pin : M Fl :=
  (thenM (expM (cl F_check_locks (consC (rd 0) nilC)))
  (thenM (frzM 1 (setM 1 (cl F_right_heights (consC (rd 0) nilC))))
  (thenM (frzM 2 (setM 2 (lc [("i", 3), ("heights", 4)] (ci enumO (consA (rdP 1) nilA)) (gT [(gN 3), (gN 4)]) (tst (bin eqD (lnS 4) (pure (.int 0)))) (rdP 3))))
  (retM (dM (iteM (tst (bin gtD (lnS 2) (pure (.int 0)))) (tupM (consA (pure (.str "pin")) (consA (ixS 2 (pure (.int 0))) nilA))) (tupM (consA (pure (.str "key")) (consA (ca tupD (consA (frM (lc [("heights", 4)] (itm (rdP 1)) (gN 4) (pure true) (ixS 4 (pure (.int 0))))) nilA)) nilA)))))))))
def F_key_or_pin : FD := fnD 5 d_key_or_pin
theorem u_key_or_pin (c : Co) : d_key_or_pin c = (thenM (expM (cl F_check_locks (consC (rd 0) nilC)))
  (thenM (frzM 1 (setM 1 (cl F_right_heights (consC (rd 0) nilC))))
  (thenM (frzM 2 (setM 2 (lc [("i", 3), ("heights", 4)] (ci enumO (consA (rdP 1) nilA)) (gT [(gN 3), (gN 4)]) (tst (bin eqD (lnS 4) (pure (.int 0)))) (rdP 3))))
  (retM (dM (iteM (tst (bin gtD (lnS 2) (pure (.int 0)))) (tupM (consA (pure (.str "pin")) (consA (ixS 2 (pure (.int 0))) nilA))) (tupM (consA (pure (.str "key")) (consA (ca tupD (consA (frM (lc [("heights", 4)] (itm (rdP 1)) (gN 4) (pure true) (ixS 4 (pure (.int 0))))) nilA)) nilA))))))))) c := id rfl
theorem e_key_or_pin (args : List EV) (st : List OB) : F_key_or_pin args st = finK (d_key_or_pin ⟨args ++ List.replicate (5 - args.length) .un, st⟩) := fnD_eq _ _ _ _
/-- 0 lock -/
def d_check_lock : M Fl :=
  (iteM (notB (tst (frM (cl F_is_lock (consC (rd 0) nilC))))) stuckM (pure .nx))
def F_check_lock : FD := fnD 1 d_check_lock
theorem u_check_lock (c : Co) : d_check_lock c = (iteM (notB (tst (frM (cl F_is_lock (consC (rd 0) nilC))))) stuckM (pure .nx)) c := id rfl
theorem e_check_lock (args : List EV) (st : List OB) : F_check_lock args st = finK (d_check_lock ⟨args ++ List.replicate (1 - args.length) .un, st⟩) := fnD_eq _ _ _ _
/-- 0 one, 1 other -/
def d_same_lock : M Fl :=
  (thenM (expM (cl F_check_lock (consC (rd 0) nilC)))
  (thenM (expM (cl F_check_lock (consC (rd 1) nilC)))
  (retM (dM (bin eqD (rdP 0) (rdP 1))))))
def F_same_lock : FD := fnD 2 d_same_lock
theorem u_same_lock (c : Co) : d_same_lock c = (thenM (expM (cl F_check_lock (consC (rd 0) nilC)))
  (thenM (expM (cl F_check_lock (consC (rd 1) nilC)))
  (retM (dM (bin eqD (rdP 0) (rdP 1)))))) c := id rfl
theorem e_same_lock (args : List EV) (st : List OB) : F_same_lock args st = finK (d_same_lock ⟨args ++ List.replicate (2 - args.length) .un, st⟩) := fnD_eq _ _ _ _
def t14__law_right : M Fl :=
  (retM (dM (orM (bin eqD (lnS 2) (pure (.int 1))) (orM (bin isD (rdP 16) (pure .none)) (bin isnotD (frM (cl F_same_lock (consC (dM (ixS 2 (pure (.int 0)))) (consC (dM (ixS 2 (pure (.int 1)))) nilC)))) (pure (.bool true)))))))
theorem ut14__law_right (c : Co) : t14__law_right c = (retM (dM (orM (bin eqD (lnS 2) (pure (.int 1))) (orM (bin isD (rdP 16) (pure .none)) (bin isnotD (frM (cl F_same_lock (consC (dM (ixS 2 (pure (.int 0)))) (consC (dM (ixS 2 (pure (.int 1)))) nilC)))) (pure (.bool true))))))) c := id rfl
def t13__law_right : M Fl :=
  (thenM (iteM (andB (tst (bin isnotD (rdP 16) (pure .none))) (tst (bin neD (frM (cl F_key_by_key (consC (rd 2) (consC (dM (tupM (consA (rdP 16) nilA))) nilC)))) (tupM (consA (tupM (consA (pure (.int 0)) nilA)) nilA))))) (retM (dM (pure (.bool false)))) (pure .nx)) t14__law_right)
theorem ut13__law_right (c : Co) : t13__law_right c = (thenM (iteM (andB (tst (bin isnotD (rdP 16) (pure .none))) (tst (bin neD (frM (cl F_key_by_key (consC (rd 2) (consC (dM (tupM (consA (rdP 16) nilA))) nilC)))) (tupM (consA (tupM (consA (pure (.int 0)) nilA)) nilA))))) (retM (dM (pure (.bool false)))) (pure .nx)) t14__law_right) c := id rfl
def t12__law_right : M Fl :=
  (thenM (frzM 16 (setM 16 (cl F_own_key (consC (rd 2) (consC (dM (pure (.int 0))) nilC))))) t13__law_right)
theorem ut12__law_right (c : Co) : t12__law_right c = (thenM (frzM 16 (setM 16 (cl F_own_key (consC (rd 2) (consC (dM (pure (.int 0))) nilC))))) t13__law_right) c := id rfl
def t11__law_right : M Fl :=
  (thenM (iteM (tst (bin neD (ca reprD (consA (frM (cl F_key_by_key (consC (rd 2) (consC (rd 14) nilC)))) nilA)) (ca reprD (consA (ca tupD (consA (frM (lc [("key", 7)] (itm (rdP 14)) (gN 7) (pure true) (ixS 4 (mtM "list" indexD (rdP 3) (consA (rdP 7) nilA))))) nilA)) nilA)))) (retM (dM (pure (.bool false)))) (pure .nx)) t12__law_right)
theorem ut11__law_right (c : Co) : t11__law_right c = (thenM (iteM (tst (bin neD (ca reprD (consA (frM (cl F_key_by_key (consC (rd 2) (consC (rd 14) nilC)))) nilA)) (ca reprD (consA (ca tupD (consA (frM (lc [("key", 7)] (itm (rdP 14)) (gN 7) (pure true) (ixS 4 (mtM "list" indexD (rdP 3) (consA (rdP 7) nilA))))) nilA)) nilA)))) (retM (dM (pure (.bool false)))) (pure .nx)) t12__law_right) c := id rfl
def t10__law_right : M Fl :=
  (thenM (setM 14 (dM (ca tupD (consA (frM (lc [("turn", 15)] (ci rng1O (consA (bin addD (pure (.int 1)) (frM (cl F__law_draw (consC (rd 0) (consC (dM (pure (.int 6))) nilC))))) nilA)) (gN 15) (pure true) (frM (cl F__law_some (consC (rd 0) (consC (rd 3) nilC)))))) nilA)))) t11__law_right)
theorem ut10__law_right (c : Co) : t10__law_right c = (thenM (setM 14 (dM (ca tupD (consA (frM (lc [("turn", 15)] (ci rng1O (consA (bin addD (pure (.int 1)) (frM (cl F__law_draw (consC (rd 0) (consC (dM (pure (.int 6))) nilC))))) nilA)) (gN 15) (pure true) (frM (cl F__law_some (consC (rd 0) (consC (rd 3) nilC)))))) nilA)))) t11__law_right) c := id rfl
def t9__law_right : M Fl :=
  (thenM (forS (ci rng1O (consA (lnS 2) nilA)) (gN 12) (thenM (setM 13 (dM (iteM (tst (bin inD (tupM (consA (rdP 12) nilA)) (rdP 4))) (ixS 3 (mtM "list" indexD (rdP 4) (consA (tupM (consA (rdP 12) nilA)) nilA))) (pure .none))))
    (iteM (tst (bin neD (ca reprD (consA (frM (cl F_own_key (consC (rd 2) (consC (rd 12) nilC)))) nilA)) (ca reprD (consA (rdP 13) nilA)))) (retM (dM (pure (.bool false)))) (pure .nx)))) t10__law_right)
theorem ut9__law_right (c : Co) : t9__law_right c = (thenM (forS (ci rng1O (consA (lnS 2) nilA)) (gN 12) (thenM (setM 13 (dM (iteM (tst (bin inD (tupM (consA (rdP 12) nilA)) (rdP 4))) (ixS 3 (mtM "list" indexD (rdP 4) (consA (tupM (consA (rdP 12) nilA)) nilA))) (pure .none))))
    (iteM (tst (bin neD (ca reprD (consA (frM (cl F_own_key (consC (rd 2) (consC (rd 12) nilC)))) nilA)) (ca reprD (consA (rdP 13) nilA)))) (retM (dM (pure (.bool false)))) (pure .nx)))) t10__law_right) c := id rfl
def t8__law_right : M Fl :=
  (thenM (iteM (tst (bin neD (bin gtD (rdP 9) (pure (.int 0))) (bin eqD (bin ixD (frM (cl F_key_or_pin (consC (rd 2) nilC))) (pure (.int 0))) (pure (.str "key"))))) (retM (dM (pure (.bool false)))) (pure .nx)) t9__law_right)
theorem ut8__law_right (c : Co) : t8__law_right c = (thenM (iteM (tst (bin neD (bin gtD (rdP 9) (pure (.int 0))) (bin eqD (bin ixD (frM (cl F_key_or_pin (consC (rd 2) nilC))) (pure (.int 0))) (pure (.str "key"))))) (retM (dM (pure (.bool false)))) (pure .nx)) t9__law_right) c := id rfl
def t7__law_right : M Fl :=
  (thenM (iteM (orB (tst (bin neD (ca reprD (consA (frM (cl F_keys_count (consC (rd 2) nilC))) nilA)) (ca reprD (consA (mtM "list" countD (rdP 4) (consA (rdP 8) nilA)) nilA)))) (tst (bin neD (mtM "list" countD (rdP 4) (consA (rdP 8) nilA)) (rdP 9)))) (retM (dM (pure (.bool false)))) (pure .nx)) t8__law_right)
theorem ut7__law_right (c : Co) : t7__law_right c = (thenM (iteM (orB (tst (bin neD (ca reprD (consA (frM (cl F_keys_count (consC (rd 2) nilC))) nilA)) (ca reprD (consA (mtM "list" countD (rdP 4) (consA (rdP 8) nilA)) nilA)))) (tst (bin neD (mtM "list" countD (rdP 4) (consA (rdP 8) nilA)) (rdP 9)))) (retM (dM (pure (.bool false)))) (pure .nx)) t8__law_right) c := id rfl
def t6__law_right : M Fl :=
  (thenM (forS (ci rng1O (consA (rdP 1) nilA)) (gN 10) (setM 9 (dM (bin mulD (rdP 9) (lnM (frM (lc [("height", 11)] (ci rng1O (consA (pure (.int 6)) nilA)) (gN 11) (tst (ca allD (consA (frM (lc [("lock", 6)] (itm (rdP 2)) (gN 6) (pure true) (bin inD (rdP 11) (ixS 6 (rdP 10))))) nilA))) (rdP 11)))))))) t7__law_right)
theorem ut6__law_right (c : Co) : t6__law_right c = (thenM (forS (ci rng1O (consA (rdP 1) nilA)) (gN 10) (setM 9 (dM (bin mulD (rdP 9) (lnM (frM (lc [("height", 11)] (ci rng1O (consA (pure (.int 6)) nilA)) (gN 11) (tst (ca allD (consA (frM (lc [("lock", 6)] (itm (rdP 2)) (gN 6) (pure true) (bin inD (rdP 11) (ixS 6 (rdP 10))))) nilA))) (rdP 11)))))))) t7__law_right) c := id rfl
def t5__law_right : M Fl :=
  (thenM (setM 9 (dM (pure (.int 1)))) t6__law_right)
theorem ut5__law_right (c : Co) : t5__law_right c = (thenM (setM 9 (dM (pure (.int 1)))) t6__law_right) c := id rfl
def t4__law_right : M Fl :=
  (thenM (setM 8 (dM (tupRg (lnS 2)))) t5__law_right)
theorem ut4__law_right (c : Co) : t4__law_right c = (thenM (setM 8 (dM (tupRg (lnS 2)))) t5__law_right) c := id rfl
def t3__law_right : M Fl :=
  (thenM (frzM 4 (setM 4 (lc [("key", 7)] (itm (rdP 3)) (gN 7) (pure true) (ca tupD (consA (frM (lc [("at", 5), ("lock", 6)] (ci enumO (consA (rdP 2) nilA)) (gT [(gN 5), (gN 6)]) (tst (frM (cl F__law_opens (consC (rd 6) (consC (rd 7) nilC))))) (rdP 5))) nilA))))) t4__law_right)
theorem ut3__law_right (c : Co) : t3__law_right c = (thenM (frzM 4 (setM 4 (lc [("key", 7)] (itm (rdP 3)) (gN 7) (pure true) (ca tupD (consA (frM (lc [("at", 5), ("lock", 6)] (ci enumO (consA (rdP 2) nilA)) (gT [(gN 5), (gN 6)]) (tst (frM (cl F__law_opens (consC (rd 6) (consC (rd 7) nilC))))) (rdP 5))) nilA))))) t4__law_right) c := id rfl
def t2__law_right : M Fl :=
  (thenM (frzM 3 (setM 3 (cl F__law_keys (consC (rd 1) nilC)))) t3__law_right)
theorem ut2__law_right (c : Co) : t2__law_right c = (thenM (frzM 3 (setM 3 (cl F__law_keys (consC (rd 1) nilC)))) t3__law_right) c := id rfl
def t1__law_right : M Fl :=
  (thenM (frzM 2 (setM 2 (cl F__law_locks (consC (rd 0) (consC (dM (pure (.int 5))) (consC (rd 1) nilC)))))) t2__law_right)
theorem ut1__law_right (c : Co) : t1__law_right c = (thenM (frzM 2 (setM 2 (cl F__law_locks (consC (rd 0) (consC (dM (pure (.int 5))) (consC (rd 1) nilC)))))) t2__law_right) c := id rfl
/-- 0 hand, 1 pins, 2 locks, 3 every, 4 lots, 5 at, 6 lock, 7 key, 8 whole, 9 product, 10 pin, 11 height, 12 k, 13 due, 14 keys, 15 turn, 16 own -/
def d__law_right : M Fl :=
  (thenM (setM 1 (dM (bin addD (pure (.int 1)) (frM (cl F__law_draw (consC (rd 0) (consC (dM (pure (.int 3))) nilC))))))) t1__law_right)
def F__law_right : FD := fnD 17 d__law_right
theorem u__law_right (c : Co) : d__law_right c = (thenM (setM 1 (dM (bin addD (pure (.int 1)) (frM (cl F__law_draw (consC (rd 0) (consC (dM (pure (.int 3))) nilC))))))) t1__law_right) c := id rfl
theorem e__law_right (args : List EV) (st : List OB) : F__law_right args st = finK (d__law_right ⟨args ++ List.replicate (17 - args.length) .un, st⟩) := fnD_eq _ _ _ _
def t4_law : M Fl :=
  (retM (dM (ca allD (consA (frM (lc [("turn", 3)] (ci rng1O (consA (pure (.int 5)) nilA)) (gN 3) (pure true) (frM (cl F__law_right (consC (rd 1) nilC))))) nilA))))
theorem ut4_law (c : Co) : t4_law c = (retM (dM (ca allD (consA (frM (lc [("turn", 3)] (ci rng1O (consA (pure (.int 5)) nilA)) (gN 3) (pure true) (frM (cl F__law_right (consC (rd 1) nilC))))) nilA)))) c := id rfl
def t3_law : M Fl :=
  (thenM (iteM (tst (bin neD (frM (cl F_key_by_key (consC (rd 2) (consC (dM (tupM (consA (tupM (consA (pure (.int 1)) (consA (pure (.int 2)) nilA))) (consA (tupM (consA (pure (.int 5)) (consA (pure (.int 5)) nilA))) nilA)))) nilC)))) (tupM (consA (tupM (consA (pure (.int 0)) (consA (pure (.int 1)) nilA))) (consA (tupM nilA) nilA))))) (retM (dM (pure (.bool false)))) (pure .nx)) t4_law)
theorem ut3_law (c : Co) : t3_law c = (thenM (iteM (tst (bin neD (frM (cl F_key_by_key (consC (rd 2) (consC (dM (tupM (consA (tupM (consA (pure (.int 1)) (consA (pure (.int 2)) nilA))) (consA (tupM (consA (pure (.int 5)) (consA (pure (.int 5)) nilA))) nilA)))) nilC)))) (tupM (consA (tupM (consA (pure (.int 0)) (consA (pure (.int 1)) nilA))) (consA (tupM nilA) nilA))))) (retM (dM (pure (.bool false)))) (pure .nx)) t4_law) c := id rfl
def t2_law : M Fl :=
  (thenM (iteM (orB (tst (bin neD (frM (cl F_keys_count (consC (rd 2) nilC))) (pure (.int 1)))) (orB (tst (bin neD (frM (cl F_own_key (consC (rd 2) (consC (dM (pure (.int 0))) nilC)))) (tupM (consA (pure (.int 0)) (consA (pure (.int 2)) nilA))))) (tst (bin neD (frM (cl F_own_key (consC (rd 2) (consC (dM (pure (.int 1))) nilC)))) (tupM (consA (pure (.int 1)) (consA (pure (.int 4)) nilA))))))) (retM (dM (pure (.bool false)))) (pure .nx)) t3_law)
theorem ut2_law (c : Co) : t2_law c = (thenM (iteM (orB (tst (bin neD (frM (cl F_keys_count (consC (rd 2) nilC))) (pure (.int 1)))) (orB (tst (bin neD (frM (cl F_own_key (consC (rd 2) (consC (dM (pure (.int 0))) nilC)))) (tupM (consA (pure (.int 0)) (consA (pure (.int 2)) nilA))))) (tst (bin neD (frM (cl F_own_key (consC (rd 2) (consC (dM (pure (.int 1))) nilC)))) (tupM (consA (pure (.int 1)) (consA (pure (.int 4)) nilA))))))) (retM (dM (pure (.bool false)))) (pure .nx)) t3_law) c := id rfl
def t1_law : M Fl :=
  (thenM (setM 2 (dM (tupM (consA (tupM (consA (tupM (consA (pure (.int 0)) (consA (pure (.int 1)) nilA))) (consA (tupM (consA (pure (.int 2)) nilA)) nilA))) (consA (tupM (consA (tupM (consA (pure (.int 1)) (consA (pure (.int 3)) nilA))) (consA (tupM (consA (pure (.int 2)) (consA (pure (.int 4)) nilA))) nilA))) nilA))))) t2_law)
theorem ut1_law (c : Co) : t1_law c = (thenM (setM 2 (dM (tupM (consA (tupM (consA (tupM (consA (pure (.int 0)) (consA (pure (.int 1)) nilA))) (consA (tupM (consA (pure (.int 2)) nilA)) nilA))) (consA (tupM (consA (tupM (consA (pure (.int 1)) (consA (pure (.int 3)) nilA))) (consA (tupM (consA (pure (.int 2)) (consA (pure (.int 4)) nilA))) nilA))) nilA))))) t2_law) c := id rfl
/-- 0 script, 1 hand, 2 two, 3 turn -/
def d_law : M Fl :=
  (thenM (locM 1 (cl F__law_hand (consC (rd 0) nilC))) t1_law)
def F_law : FD := fnD 4 d_law
theorem u_law (c : Co) : d_law c = (thenM (locM 1 (cl F__law_hand (consC (rd 0) nilC))) t1_law) c := id rfl
theorem e_law (args : List EV) (st : List OB) : F_law args st = finK (d_law ⟨args ++ List.replicate (4 - args.length) .un, st⟩) := fnD_eq _ _ _ _
end Law

namespace Law
open PySem PySem.Spec PyProof.Rows L2 L2.DL
abbrev Lot := List Nat
abbrev Lock := List Lot
def six : Lot := List.range 6
def opens : Lock → Lot → Bool
  | p :: l, h :: k => p.contains h && opens l k
  | _, _ => true
def prodC : List Lot → List Lot
  | [] => [[]]
  | p :: L => p.flatMap fun h => (prodC L).map (h :: ·)
theorem prodC_cons (p : Lot) (L : List Lot) : prodC (p :: L) = p.flatMap fun h => (prodC L).map (h :: ·) := rfl
def stepK (F : List Lot) (p : Lot) : List Lot := F.flatMap fun k => p.map fun h => k ++ [h]
theorem foldl_stepK : ∀ (L : List Lot) (F : List Lot), L.foldl stepK F = F.flatMap fun k => (prodC L).map fun t => k ++ t
  | [], F => by simp [prodC]
  | p :: L, F => by
    rw [List.foldl_cons, foldl_stepK L]
    rw [prodC_cons]
    unfold stepK
    simp [List.flatMap_assoc, List.flatMap_map, List.map_flatMap, Function.comp_def]
theorem prodK_eq (L : List Lot) : L.foldl stepK [[]] = prodC L := by
  rw [foldl_stepK]
  simp
theorem prodC_len : ∀ {L : List Lot} {k : Lot}, k ∈ prodC L → k.length = L.length
  | [], k, h => by simp [prodC] at h; subst h; rfl
  | p :: L, k, h => by
    simp only [prodC, List.mem_flatMap, List.mem_map] at h
    obtain ⟨a, _, t, ht, rfl⟩ := h
    rw [List.length_cons, List.length_cons, prodC_len ht]
theorem prodC_mem : ∀ {L : List Lot} {k : Lot}, k ∈ prodC L → ∀ x ∈ k, ∃ p ∈ L, x ∈ p
  | [], k, h, x, hx => by simp [prodC] at h; subst h; cases hx
  | p :: L, k, h, x, hx => by
    simp only [prodC, List.mem_flatMap, List.mem_map] at h
    obtain ⟨a, ha, t, ht, rfl⟩ := h
    rcases List.mem_cons.mp hx with rfl | hx
    · exact ⟨p, List.mem_cons_self .., ha⟩
    · obtain ⟨q, hq, e⟩ := prodC_mem ht x hx
      exact ⟨q, List.mem_cons_of_mem _ hq, e⟩
theorem prodC_count {L : List Lot} {B : Nat} : (∀ p ∈ L, p.length ≤ B) → (prodC L).length ≤ B ^ L.length := by
  induction L with
  | nil => intro _; simp [prodC]
  | cons p L ih =>
    intro h
    have i := ih fun q hq => h q (List.mem_cons_of_mem _ hq)
    have hp := h p (List.mem_cons_self ..)
    have e : (prodC (p :: L)).length = p.length * (prodC L).length := by
      rw [prodC_cons, List.length_flatMap]
      simp only [List.length_map]
      clear h hp
      induction p with
      | nil => simp
      | cons a p ihp => rw [List.map_cons, List.sum_cons, ihp, List.length_cons, Nat.add_mul]; omega
    rw [e, List.length_cons, Nat.pow_succ, Nat.mul_comm (B ^ L.length)]
    exact Nat.mul_le_mul hp i
/-! ### lots that ascend -/
structure GLot (p : Lot) : Prop where
  ne : p ≠ []
  asc : p.Pairwise (· < ·)
  lt : ∀ x ∈ p, x < 6
theorem eq_of_asc {a b : List Nat} (ha : a.Pairwise (· < ·)) (hb : b.Pairwise (· < ·)) (h : ∀ x, x ∈ a ↔ x ∈ b) : a = b := by
  have na : a.Nodup := ha.imp fun h => Nat.ne_of_lt h
  have nb : b.Nodup := hb.imp fun h => Nat.ne_of_lt h
  refine List.Perm.eq_of_pairwise (le := (· < ·)) (fun x y _ _ h1 h2 => absurd h2 (Nat.lt_asymm h1)) ha hb ((List.perm_ext_iff_of_nodup na nb).mpr h)
theorem GLot.six {p : Lot} (h : GLot p) : Law.six.filter (p.contains ·) = p := by
  refine eq_of_asc (List.Pairwise.filter _ List.pairwise_lt_range) h.asc fun x => ?_
  rw [List.mem_filter, List.contains_iff_mem]
  refine ⟨fun z => z.2, fun z => ⟨?_, z⟩⟩
  unfold Law.six
  exact List.mem_range.mpr (h.lt x z)
theorem GLot.len {p : Lot} (h : GLot p) : p.length ≤ 6 := by
  have e := congrArg List.length h.six
  have := List.length_filter_le (p.contains ·) Law.six
  rw [e] at this
  exact this
theorem opens_filter : ∀ {l : Lock}, (∀ p ∈ l, GLot p) → (prodC (List.replicate l.length six)).filter (opens l ·) = prodC l
  | [], _ => by simp [prodC, opens]
  | p :: l, h => by
    have ih := opens_filter fun q hq => h q (List.mem_cons_of_mem _ hq)
    have hp := (h p (List.mem_cons_self ..)).six
    rw [List.length_cons, List.replicate_succ]
    rw [prodC_cons, prodC_cons, List.filter_flatMap]
    have e : ∀ a : Nat, ((prodC (List.replicate l.length six)).map (a :: ·)).filter (opens (p :: l) ·) = if p.contains a then (prodC l).map (a :: ·) else [] := fun a => by
      rw [List.filter_map]
      have : ((opens (p :: l) ·) ∘ (a :: ·)) = fun k => p.contains a && opens l k := rfl
      rw [this]
      cases p.contains a with
      | true => simp only [Bool.true_and]; rw [ih, if_pos trivial]
      | false => simp
    simp only [e]
    conv => rhs; rw [← hp]
    generalize six = s
    induction s with
    | nil => rfl
    | cons a s is =>
      rw [List.flatMap_cons, is, List.filter_cons]
      cases p.contains a <;> simp
def prodN : List Nat → Nat := fun xs => xs.foldr (· * ·) 1
theorem prodN_foldl : ∀ (xs : List Nat) (a : Nat), xs.foldl (· * ·) a = a * prodN xs
  | [], a => by simp [prodN]
  | x :: xs, a => by
    rw [List.foldl_cons, prodN_foldl xs]
    simp [prodN, Nat.mul_assoc]
def rightAt (ls : List Lock) (i : Nat) : Lot := six.filter fun h => ls.all fun l => (l.getD i []).contains h
theorem opens_cons (p : Lot) (l : Lock) (h : Nat) (k : Lot) : opens (p :: l) (h :: k) = (p.contains h && opens l k) := rfl
theorem all_and {α : Type} (f g : α → Bool) : ∀ xs : List α, (xs.all fun x => f x && g x) = (xs.all f && xs.all g)
  | [] => rfl
  | x :: xs => by
    rw [List.all_cons, List.all_cons, List.all_cons, all_and f g xs]
    cases f x <;> cases g x <;> simp
theorem count_all : ∀ (n : Nat) (ls : List Lock), (∀ l ∈ ls, l.length = n) → ((prodC (List.replicate n six)).filter fun k => ls.all (opens · k)).length = prodN ((List.range n).map fun i => (rightAt ls i).length)
  | 0, ls, h => by
    have e : (ls.all (opens · [])) = true := List.all_eq_true.mpr fun l hl => by
      rw [List.eq_nil_of_length_eq_zero (h l hl)]; rfl
    show (([[]] : List Lot).filter fun k => ls.all (opens · k)).length = 1
    rw [List.filter_cons, if_pos e]
    rfl
  | n + 1, ls, h => by
    have ih := count_all n (ls.map List.tail) fun l hl => by
      obtain ⟨l', hl', rfl⟩ := List.mem_map.mp hl
      rw [List.length_tail, h l' hl']; rfl
    have e0 : ∀ (a : Nat) (k : Lot), (ls.all (opens · (a :: k))) = ((ls.all fun l => (l.getD 0 []).contains a) && ((ls.map List.tail).all (opens · k))) := fun a k => by
      rw [List.all_map, ← all_and]
      rw [Bool.eq_iff_iff, List.all_eq_true, List.all_eq_true]
      have : ∀ l ∈ ls, opens l (a :: k) = ((l.getD 0 []).contains a && (((opens · k) ∘ List.tail) l)) := fun l hl => by
        have hl := h l hl
        cases l with
        | nil => cases hl
        | cons p l => rfl
      exact ⟨fun z l hl => (this l hl).symm.trans (z l hl), fun z l hl => (this l hl).trans (z l hl)⟩
    rw [List.replicate_succ]
    rw [prodC_cons, List.filter_flatMap, List.range_succ_eq_map, List.map_cons, List.map_map]
    have e1 : prodN ((rightAt ls 0).length :: (List.range n).map ((fun i => (rightAt ls i).length) ∘ Nat.succ)) = (rightAt ls 0).length * prodN ((List.range n).map fun i => (rightAt (ls.map List.tail) i).length) := by
      unfold prodN
      rw [List.foldr_cons]
      congr 3
      funext i
      show (rightAt ls (i + 1)).length = _
      unfold rightAt
      congr 2
      funext a
      rw [List.all_map]
      congr 1
      funext l
      cases l <;> rfl
    rw [e1, ← ih]
    have e2 : ∀ a : Nat, (((prodC (List.replicate n six)).map (a :: ·)).filter fun k => ls.all (opens · k)).length = if (ls.all fun l => (l.getD 0 []).contains a) then ((prodC (List.replicate n six)).filter fun k => (ls.map List.tail).all (opens · k)).length else 0 := fun a => by
      rw [List.filter_map, List.length_map]
      have : ((fun k => ls.all (opens · k)) ∘ (a :: ·)) = fun k => (ls.all fun l => (l.getD 0 []).contains a) && ((ls.map List.tail).all (opens · k)) := funext fun k => e0 a k
      rw [this]
      cases (ls.all fun l => (l.getD 0 []).contains a) with
      | true => simp only [Bool.true_and]; rw [if_pos trivial]
      | false => simp
    rw [List.length_flatMap]
    simp only [e2]
    unfold rightAt
    generalize six = s
    generalize ((prodC (List.replicate n _)).filter fun k => (ls.map List.tail).all (opens · k)).length = N
    clear e2 e1 ih e0
    induction s with
    | nil => simp
    | cons a s is =>
      rw [List.map_cons, List.sum_cons, is, List.filter_cons]
      cases (ls.all fun l => (l.getD 0 []).contains a) with
      | true => simp [Nat.add_mul, Nat.add_comm]
      | false => simp
/-! ### who opens what -/
def who (ls : List Lock) (key : Lot) : Lot := (List.range ls.length).filter fun at_ => opens (ls.getD at_ []) key
theorem who_one {ls : List Lock} {k : Nat} (hk : k < ls.length) (key : Lot) : who ls key = [k] ↔ opens (ls.getD k []) key = true ∧ ∀ j, j < ls.length → j ≠ k → opens (ls.getD j []) key = false := by
  unfold who
  constructor
  · intro h
    have m : ∀ j, j ∈ (List.range ls.length).filter (fun at_ => opens (ls.getD at_ []) key) ↔ j = k := fun j => by rw [h, List.mem_singleton]
    refine ⟨(List.mem_filter.mp ((m k).mpr rfl)).2, fun j hj hn => ?_⟩
    cases e : opens (ls.getD j []) key with
    | false => rfl
    | true => exact absurd ((m j).mp (List.mem_filter.mpr ⟨List.mem_range.mpr hj, e⟩)) hn
  · rintro ⟨h1, h2⟩
    refine eq_of_asc (List.Pairwise.filter _ List.pairwise_lt_range) (List.pairwise_singleton _ _) fun j => ?_
    rw [List.mem_filter, List.mem_range, List.mem_singleton]
    constructor
    · rintro ⟨a, b⟩
      apply Classical.byContradiction
      intro hn
      rw [h2 j a hn] at b
      cases b
    · rintro rfl
      exact ⟨hk, h1⟩
theorem who_all {ls : List Lock} (key : Lot) : who ls key = List.range ls.length ↔ ls.all (opens · key) = true := by
  unfold who
  rw [List.filter_eq_self, List.all_eq_true]
  constructor
  · intro h l hl
    obtain ⟨i, hi, e⟩ := List.getElem_of_mem hl
    have := h i (List.mem_range.mpr hi)
    rw [List.getD_eq_getElem?_getD, List.getElem?_eq_getElem hi, e] at this
    exact this
  · intro h i hi
    have hi := List.mem_range.mp hi
    rw [List.getD_eq_getElem?_getD, List.getElem?_eq_getElem hi]
    exact h _ (List.getElem_mem hi)
def others (ls : List Lock) (k : Nat) : List Lock := ls.take k ++ ls.drop (k + 1)
theorem others_any {ls : List Lock} {k : Nat} (key : Lot) : (others ls k).any (opens · key) = false ↔ ∀ j, j < ls.length → j ≠ k → opens (ls.getD j []) key = false := by
  unfold others
  rw [List.any_append, Bool.or_eq_false_iff, List.any_eq_false, List.any_eq_false]
  constructor
  · rintro ⟨h1, h2⟩ j hj hn
    rw [List.getD_eq_getElem?_getD, List.getElem?_eq_getElem hj]
    show opens ls[j] key = false
    by_cases hl : j < k
    · have := h1 ls[j] (List.mem_take_iff_getElem.mpr ⟨j, by omega, rfl⟩)
      simpa using this
    · have := h2 ls[j] (List.mem_drop_iff_getElem.mpr ⟨j - (k + 1), by omega, by congr 1; omega⟩)
      simpa using this
  · intro h
    have g : ∀ (j : Nat) (hj : j < ls.length), j ≠ k → opens ls[j] key = false := fun j hj hn => by
      have := h j hj hn
      rw [List.getD_eq_getElem?_getD, List.getElem?_eq_getElem hj] at this
      exact this
    refine ⟨fun l hl => ?_, fun l hl => ?_⟩
    · obtain ⟨i, hi, rfl⟩ := List.mem_take_iff_getElem.mp hl
      rw [g i (by omega) (by omega)]; exact Bool.false_ne_true
    · obtain ⟨i, hi, rfl⟩ := List.mem_drop_iff_getElem.mp hl
      rw [g _ _ (by omega)]; exact Bool.false_ne_true
def everyK (n : Nat) : List Lot := prodC (List.replicate n six)
def ownK (ls : List Lock) (k : Nat) : Option Lot := (prodC (ls.getD k [])).find? fun key => !(others ls k).any (opens · key)
structure GLocks (n : Nat) (ls : List Lock) : Prop where
  n1 : 1 ≤ n
  n5 : n ≤ 5
  m1 : 1 ≤ ls.length
  m6 : ls.length ≤ 6
  len : ∀ l ∈ ls, l.length = n
  lot : ∀ l ∈ ls, ∀ p ∈ l, GLot p
theorem GLocks.at {n : Nat} {ls : List Lock} (h : GLocks n ls) {k : Nat} (hk : k < ls.length) : ls.getD k [] ∈ ls := by
  rw [List.getD_eq_getElem?_getD, List.getElem?_eq_getElem hk]
  exact List.getElem_mem hk
theorem own_due {n : Nat} {ls : List Lock} (h : GLocks n ls) {k : Nat} (hk : k < ls.length) : ownK ls k = (everyK n).find? fun key => decide (who ls key = [k]) := by
  unfold ownK everyK
  have hm := h.at hk
  have e := opens_filter (h.lot _ hm)
  rw [h.len _ hm] at e
  rw [← e, List.find?_filter]
  congr 1
  funext key
  rw [Bool.eq_iff_iff, decide_eq_true_iff, decide_eq_true_iff, who_one hk, ← others_any]
  simp only [Bool.not_eq_true']
end Law

namespace Law
open PySem PySem.Spec PyProof.Rows L2 L2.DL
def eK (k : Lot) : PyData := .tuple (k.map iN)
def eL (l : Lock) : PyData := .tuple (l.map eK)
def eLs (ls : List Lock) : PyData := .tuple (ls.map eL)
theorem noB_eK (k : Lot) : noB (eK k) = true := by unfold eK; rw [noB]; exact noB_nats k
theorem noB_eL (l : Lock) : noB (eL l) = true := by unfold eL; rw [noB]; exact noB_map eK noB_eK l
theorem eK_inj {a b : Lot} (h : eK a = eK b) : a = b := by
  unfold eK at h
  injection h with h
  exact map_inj (fun _ _ => iN_inj) h
theorem eL_inj {a b : Lock} (h : eL a = eL b) : a = b := by
  unfold eL at h
  injection h with h
  exact map_inj (fun _ _ => eK_inj) h
theorem dep_eK (k : Lot) : (eK k).depth ≤ 1 := by
  unfold eK
  have := depth_map0 iN 0 depth_iN k
  rw [PyData.depth]; omega
theorem dep_eL (l : Lock) : (eL l).depth ≤ 2 := by
  unfold eL
  have := depth_map0 eK 1 dep_eK l
  rw [PyData.depth]; omega
theorem le1000' {n : Nat} (h : n ≤ 1000) : n ≤ sizeLine := le1000 h
theorem len_le {n : Nat} (h : n ≤ 1000000) : n ≤ sizeLine := Nat.le_trans h sizeLine_big
section
variable {st : List OB}
theorem is_tuple_ok (xs : List PyData) (a b : Int) : F_is_tuple [.d (.tuple xs), .d (.int a), .d (.int b)] st = .ok (.d (.bool (decide (a ≤ (xs.length : Int)) && decide ((xs.length : Int) ≤ b)))) st := by
  have e : isaD "tuple" (.tuple xs) = some (.bool true) := rfl
  simp [e_is_tuple, u_is_tuple, e]
theorem is_integer_ok (i : Int) : F_is_integer [.d (.int i)] st = .ok (.d (.bool true)) st := by
  have e : isaD "int" (.int i) = some (.bool true) := rfl
  have e2 : isaD "bool" (.int i) = some (.bool false) := rfl
  simp [e_is_integer, u_is_integer, e, e2]
theorem is_within_ok (i a b : Int) : F_is_within [.d (.int i), .d (.int a), .d (.int b)] st = .ok (.d (.bool (decide (a ≤ i) && decide (i ≤ b)))) st := by
  simp [e_is_within, u_is_within, is_integer_ok]
theorem all_t {α : Type} (xs : List α) : allD [.list (xs.map fun _ => .bool true)] = some (.bool true) := by
  rw [o_allF xs fun _ => true]
  congr 2
  exact List.all_eq_true.mpr fun _ _ => rfl
theorem zip_tail_asc : ∀ {p : Lot}, p.Pairwise (· < ·) → ∀ q ∈ p.zip p.tail, q.1 < q.2
  | [], _, q, h => by simp at h
  | [x], _, q, h => by simp at h
  | x :: y :: p, h, q, hq => by
    rw [List.pairwise_cons] at h
    rw [List.tail_cons, List.zip_cons_cons] at hq
    rcases List.mem_cons.mp hq with rfl | hq
    · exact h.1 y (List.mem_cons_self ..)
    · exact zip_tail_asc h.2 q hq
theorem is_lot_ok {p : Lot} (h : GLot p) : F_is_lot [.d (eK p), .d (.int 6)] st = .ok (.d (.bool true)) st := by
  have hl := h.len
  have e : isaD "tuple" (eK p) = some (.bool true) := rfl
  have ei : itemsO (eK p) = some (p.map iN) := rfl
  have z1 : lc [("one", 2)] (itm (rdP 0)) (gN 2) (pure true) (frM (cl F_is_within (consC (rd 2) (consC (dM (pure (.int 0))) (consC (dM (bin subD (rdP 1) (pure (.int 1)))) nilC))))) ⟨[.d (eK p), .d (.int 6), .un, .un], st⟩ = .ok (.own (.lst (p.map fun _ => .bool true))) ⟨[.d (eK p), .d (.int 6), .un, .un], st⟩ := by
    rw [lc_map (c1 := ⟨[.d (eK p), .d (.int 6), .un, .un], st⟩) iN (fun _ => PyData.bool true) (as := p) (by simp [ei]) (le1000 (by omega)) fun x hx => ⟨⟨[.d (eK p), .d (.int 6), .d (iN x), .un], st⟩, by simp [wip, wipeE], by simp [wip, wipeE], by
      have := h.lt x hx
      have h1 : (0 : Int) ≤ (x : Int) := by omega
      have h2 : (x : Int) ≤ 5 := by omega
      simp [iN_eq, is_within_ok, h1, h2]⟩]
    simp [wip, wipeE]
  have ef : slD (eK p) (some 1) none = some (eK p.tail) := by
    have := o_fromT (p.map iN) 1
    unfold eK
    rw [← List.map_drop, List.drop_one] at this
    exact this
  have ez : zipO [eK p, eK p.tail] = some ((p.zip p.tail).map fun q => .tuple [iN q.1, iN q.2]) := by
    show some (zipL _ _) = _
    rw [zipL_map]
  have z2 : lc [("one", 2), ("other", 3)] (ci zipO (consA (rdP 0) (consA (slM (rdP 0) (soO (pure (.int 1))) noO) nilA))) (gT [(gN 2), (gN 3)]) (pure true) (bin ltD (rdP 2) (rdP 3)) ⟨[.d (eK p), .d (.int 6), .un, .un], st⟩ = .ok (.own (.lst ((p.zip p.tail).map fun _ => .bool true))) ⟨[.d (eK p), .d (.int 6), .un, .un], st⟩ := by
    rw [lc_map (c1 := ⟨[.d (eK p), .d (.int 6), .un, .un], st⟩) (fun q : Nat × Nat => PyData.tuple [iN q.1, iN q.2]) (fun _ => PyData.bool true) (as := p.zip p.tail) (by simp [ef, ez]) (le1000 (by rw [List.length_zip]; omega)) fun q hq => ⟨⟨[.d (eK p), .d (.int 6), .d (iN q.1), .d (iN q.2)], st⟩, by simp [wip, wipeE], by simp [wip, wipeE], by
      have := zip_tail_asc h.asc q hq
      have h1 : (q.1 : Int) < (q.2 : Int) := by omega
      simp [iN_eq, h1]⟩]
    simp [wip, wipeE]
  simp only [e_is_lot, u_is_lot]
  simp [e, z1, z2, all_t]
theorem is_lock_ok {l : Lock} (h1 : 1 ≤ l.length) (h5 : l.length ≤ 5) (h : ∀ p ∈ l, GLot p) : F_is_lock [.d (eL l)] st = .ok (.d (.bool true)) st := by
  have ei : itemsO (eL l) = some (l.map eK) := rfl
  have it : F_is_tuple [.d (eL l), .d (.int 1), .d (.int 5)] st = .ok (.d (.bool true)) st := by
    unfold eL
    rw [is_tuple_ok]
    have a1 : (1 : Int) ≤ (l.length : Int) := by omega
    have a2 : (l.length : Int) ≤ 5 := by omega
    simp [a1, a2]
  have z : lc [("pin", 1)] (itm (rdP 0)) (gN 1) (pure true) (andM (frM (cl F_is_lot (consC (rd 1) (consC (dM (pure (.int 6))) nilC)))) (bin gtD (lnS 1) (pure (.int 0)))) ⟨[.d (eL l), .un], st⟩ = .ok (.own (.lst (l.map fun _ => .bool true))) ⟨[.d (eL l), .un], st⟩ := by
    rw [lc_map (c1 := ⟨[.d (eL l), .un], st⟩) eK (fun _ => PyData.bool true) (as := l) (by simp [ei]) (le1000 (by omega)) fun p hp => ⟨⟨[.d (eL l), .d (eK p)], st⟩, by simp [wip, wipeE], by simp [wip, wipeE], by
      have g := h p hp
      have : 0 < p.length := List.length_pos_iff.mpr g.ne
      have h1 : (0 : Int) < (p.length : Int) := by omega
      have hl : lenD (eK p) = some (.int (p.length : Nat)) := by show some (PyData.int ((p.map iN).length : Nat)) = _; rw [List.length_map]
      simp [is_lot_ok g, hl, h1, this]⟩]
    simp [wip, wipeE]
  simp [e_is_lock, u_is_lock, it, z, all_t]
theorem dedup_same (v : Int) : ∀ (xs : List Int), (∀ x ∈ xs, x = v) → ∀ acc : List Int, (acc = [] ∨ acc = [v]) → (xs.foldl step_dedup acc).length ≤ 1
  | [], _, acc, h => by rcases h with rfl | rfl <;> simp
  | x :: xs, hx, acc, h => by
    rw [List.foldl_cons]
    refine dedup_same v xs (fun y hy => hx y (List.mem_cons_of_mem _ hy)) _ (.inr ?_)
    have := hx x (List.mem_cons_self ..)
    subst this
    rcases h with rfl | rfl <;> simp [step_dedup]
theorem set_one {α : Type} (v : Nat) {xs : List α} (f : α → Nat) (h : ∀ x ∈ xs, f x = v) (hl : xs.length ≤ 1000) : ∃ k : Nat, k ≤ 1 ∧ setLenD (.list (xs.map fun x => .int (f x : Int))) = some (.int (k : Nat)) := by
  have e : intsOf (xs.map fun x => PyData.int (f x : Int)) = some (xs.map fun x => (f x : Int)) := by
    clear h hl
    induction xs with
    | nil => rfl
    | cons x xs ih => simp only [List.map_cons, intsOf, ih]; rfl
  refine ⟨_, ?_, by simp only [setLenD, e, Option.bind_some]; rw [if_pos (by rw [List.length_map]; omega)]⟩
  unfold firstMet
  refine dedup_same (v : Int) _ (fun y hy => ?_) [] (.inl rfl)
  obtain ⟨i, hi, rfl⟩ := List.mem_map.mp hy
  rw [List.mem_range, List.length_map] at hi
  rw [List.getD_eq_getElem?_getD, List.getElem?_map, List.getElem?_eq_getElem hi]
  show (f xs[i] : Int) = v
  rw [h _ (List.getElem_mem hi)]
theorem check_locks_ok {n : Nat} {ls : List Lock} (h : GLocks n ls) : F_check_locks [.d (eLs ls)] st = .ok (.d .none) st := by
  have ei : itemsO (eLs ls) = some (ls.map eL) := rfl
  have m6 := h.m6
  have m1 := h.m1
  have it : F_is_tuple [.d (eLs ls), .d (.int 1), .d (.int 6)] st = .ok (.d (.bool true)) st := by
    unfold eLs
    rw [is_tuple_ok]
    have a1 : (1 : Int) ≤ (ls.length : Int) := by omega
    have a2 : (ls.length : Int) ≤ 6 := by omega
    simp [a1, a2]
  have z1 : lc [("lock", 1)] (itm (rdP 0)) (gN 1) (pure true) (frM (cl F_is_lock (consC (rd 1) nilC))) ⟨[.d (eLs ls), .un], st⟩ = .ok (.own (.lst (ls.map fun _ => .bool true))) ⟨[.d (eLs ls), .un], st⟩ := by
    rw [lc_map (c1 := ⟨[.d (eLs ls), .un], st⟩) eL (fun _ => PyData.bool true) (as := ls) (by simp [ei]) (le1000 (by omega)) fun l hl => ⟨⟨[.d (eLs ls), .d (eL l)], st⟩, by simp [wip, wipeE], by simp [wip, wipeE], by
      have hn := h.len l hl
      simp [is_lock_ok (l := l) (by have := h.n1; omega) (by have := h.n5; omega) (h.lot l hl)]⟩]
    simp [wip, wipeE]
  have z2 : lc [("lock", 1)] (itm (rdP 0)) (gN 1) (pure true) (lnS 1) ⟨[.d (eLs ls), .un], st⟩ = .ok (.own (.lst (ls.map fun l => .int (l.length : Int)))) ⟨[.d (eLs ls), .un], st⟩ := by
    rw [lc_map (c1 := ⟨[.d (eLs ls), .un], st⟩) eL (fun l => PyData.int (l.length : Int)) (as := ls) (by simp [ei]) (le1000 (by omega)) fun l hl => ⟨⟨[.d (eLs ls), .d (eL l)], st⟩, by simp [wip, wipeE], by simp [wip, wipeE], by
      have hl : lenD (eL l) = some (.int (l.length : Nat)) := by show some (PyData.int ((l.map eK).length : Nat)) = _; rw [List.length_map]
      simp [hl]⟩]
    simp [wip, wipeE]
  obtain ⟨k, hk, e⟩ := set_one n (xs := ls) (fun l => l.length) h.len (by omega)
  have hk : ¬ (1 : Int) < (k : Int) := by omega
  simp only [e_check_locks, u_check_locks]
  simp [it, z1, z2, all_t, e, hk]
end
end Law

namespace Law
open PySem PySem.Spec PyProof.Rows L2 L2.DL
def eH (p : Lot) : PyData := .list (p.map iN)
section
variable {st : List OB} {n : Nat} {ls : List Lock}
theorem ix_eL {l : Lock} {i : Nat} (h : i < l.length) : ixD (eL l) (.int (i : Int)) = some (eK (l.getD i [])) := by
  refine o_ixT ?_
  rw [List.getElem?_map, List.getElem?_eq_getElem h, List.getD_eq_getElem?_getD, List.getElem?_eq_getElem h]
  rfl
theorem ix_eLs {k : Nat} (h : k < ls.length) : ixD (eLs ls) (.int (k : Int)) = some (eL (ls.getD k [])) := by
  refine o_ixT ?_
  rw [List.getElem?_map, List.getElem?_eq_getElem h, List.getD_eq_getElem?_getD, List.getElem?_eq_getElem h]
  rfl
theorem len_eL (l : Lock) : lenD (eL l) = some (.int (l.length : Nat)) := by show some (PyData.int ((l.map eK).length : Nat)) = _; rw [List.length_map]
theorem len_eLs (l : List Lock) : lenD (eLs l) = some (.int (l.length : Nat)) := by show some (PyData.int ((l.map eL).length : Nat)) = _; rw [List.length_map]
theorem len_eK (l : Lot) : lenD (eK l) = some (.int (l.length : Nat)) := by show some (PyData.int ((l.map iN).length : Nat)) = _; rw [List.length_map]
theorem len_eH (l : Lot) : lenD (eH l) = some (.int (l.length : Nat)) := by show some (PyData.int ((l.map iN).length : Nat)) = _; rw [List.length_map]
theorem it_eL (l : Lock) : itemsO (eL l) = some (l.map eK) := id rfl
theorem it_eLs (l : List Lock) : itemsO (eLs l) = some (l.map eL) := id rfl
theorem it_eK (l : Lot) : itemsO (eK l) = some (l.map iN) := id rfl
theorem it_eH (l : Lot) : itemsO (eH l) = some (l.map iN) := id rfl
theorem in_eK (h : Nat) (p : Lot) : inD (.int (h : Int)) (eK p) = some (.bool (p.contains h)) := o_inN h p
theorem rng_iN (k : Nat) (h : k ≤ 1000000) : rng1O [.int (k : Int)] = some ((List.range k).map iN) := o_rng1 k h
theorem rng_6 : rng1O [.int 6] = some (six.map iN) := o_rng1 6 (by decide)
theorem all_map (xs : List Lock) (p : Lock → Bool) : allD [.list (xs.map fun a => .bool (p a))] = some (.bool (xs.all p)) := o_allF xs p
theorem any_map (xs : List Lock) (p : Lock → Bool) : anyD [.list (xs.map fun a => .bool (p a))] = some (.bool (xs.any p)) := o_anyF xs p
/-! ### right heights -/
theorem heights_loop (h : GLocks n ls) : ∀ (is : List Nat) (acc : List PyData) (e2 : EV), (∀ i ∈ is, i < n) → acc.length + is.length ≤ 1000 → ∃ e2', forM (gN 2) (appM 1 (frM (lc [("height", 3)] (ci rng1O (consA (pure (.int 6)) nilA)) (gN 3) (tst (ca allD (consA (frM (lc [("lock", 4)] (itm (rdP 0)) (gN 4) (pure true) (bin inD (rdP 3) (ixS 4 (rdP 2))))) nilA))) (rdP 3)))) (is.map iN) ⟨[.d (eLs ls), .own (.lst acc), e2, .un, .un], st⟩ =
    .ok .nx ⟨[.d (eLs ls), .own (.lst (acc ++ is.map fun i => eH (rightAt ls i))), e2', .un, .un], st⟩
  | [], acc, e2, _, _ => ⟨e2, by rw [List.map_nil, for_nil]; simp⟩
  | i :: is, acc, e2, hi, hl => by
    rw [List.length_cons] at hl
    obtain ⟨e2', ih⟩ := heights_loop h is (acc ++ [eH (rightAt ls i)]) (.d (iN i)) (fun j hj => hi j (List.mem_cons_of_mem _ hj)) (by rw [List.length_append, List.length_singleton]; omega)
    refine ⟨e2', ?_⟩
    have hin := hi i (List.mem_cons_self ..)
    have m6 := h.m6
    have z1 : ∀ a : Nat, lc [("lock", 4)] (itm (rdP 0)) (gN 4) (pure true) (bin inD (rdP 3) (ixS 4 (rdP 2))) ⟨[.d (eLs ls), .own (.lst acc), .d (iN i), .d (iN a), .un], st⟩ = .ok (.own (.lst (ls.map fun l => .bool ((l.getD i []).contains a)))) ⟨[.d (eLs ls), .own (.lst acc), .d (iN i), .d (iN a), .un], st⟩ := fun a => by
      rw [lc_map (c1 := ⟨[.d (eLs ls), .own (.lst acc), .d (iN i), .d (iN a), .un], st⟩) eL (fun l => PyData.bool ((l.getD i []).contains a)) (as := ls) (by simp [it_eLs]) (le1000 (by omega)) fun l hl => ⟨⟨[.d (eLs ls), .own (.lst acc), .d (iN i), .d (iN a), .d (eL l)], st⟩, by simp [wip, wipeE], by simp [wip, wipeE], by
        have := ix_eL (l := l) (i := i) (by rw [h.len l hl]; exact hin)
        simp [-List.contains_eq_mem, -List.getD_eq_getElem?_getD, iN_eq, this, in_eK]⟩]
      simp [wip, wipeE]
    have z2 : lc [("height", 3)] (ci rng1O (consA (pure (.int 6)) nilA)) (gN 3) (tst (ca allD (consA (frM (lc [("lock", 4)] (itm (rdP 0)) (gN 4) (pure true) (bin inD (rdP 3) (ixS 4 (rdP 2))))) nilA))) (rdP 3) ⟨[.d (eLs ls), .own (.lst acc), .d (iN i), .un, .un], st⟩ = .ok (.own (.lst ((rightAt ls i).map iN))) ⟨[.d (eLs ls), .own (.lst acc), .d (iN i), .un, .un], st⟩ := by
      rw [lc_pure (c1 := ⟨[.d (eLs ls), .own (.lst acc), .d (iN i), .un, .un], st⟩) iN (fun a => ls.all fun l => (l.getD i []).contains a) iN (as := six) (by simp [rng_6]) (le1000 (by decide)) fun a _ => ⟨⟨[.d (eLs ls), .own (.lst acc), .d (iN i), .d (iN a), .un], st⟩, by simp [wip, wipeE], by simp [wip, wipeE], by
        have := all_map ls fun l => (l.getD i []).contains a
        simp only [s_tst, s_ca, s_consA, s_frM, z1]
        simp [-List.contains_eq_mem, -List.getD_eq_getElem?_getD, this], fun _ => by simp⟩]
      simp [wip, wipeE, rightAt]
    have hsz : acc.length < sizeLine := Nat.lt_of_lt_of_le (Nat.lt_succ_self _) (le1000 (n := acc.length + 1) (by omega))
    rw [List.map_cons, for_step (c1 := ⟨[.d (eLs ls), .own (.lst acc), .d (iN i), .un, .un], st⟩) (c2 := ⟨[.d (eLs ls), .own (.lst (acc ++ [eH (rightAt ls i)])), .d (iN i), .un, .un], st⟩) (by simp) ?_, ih]
    · simp
    · simp [z2, hsz, eH]
theorem right_heights_ok (h : GLocks n ls) : F_right_heights [.d (eLs ls)] st = .ok (.d (.list ((List.range n).map fun i => eH (rightAt ls i)))) st := by
  have n5 := h.n5
  have hx := ix_eLs (ls := ls) (k := 0) (by have := h.m1; omega)
  have hn := h.len _ (h.at (k := 0) (by have := h.m1; omega))
  have hl := len_eL (ls.getD 0 [])
  rw [hn] at hl
  have hr := rng_iN n (by omega)
  obtain ⟨e2, z⟩ := heights_loop (st := st) h (List.range n) [] .un (fun i hi => List.mem_range.mp hi) (by simp; omega)
  rw [List.nil_append] at z
  have hx : ixD (eLs ls) (.int 0) = some (eL (ls.getD 0 [])) := hx
  simp only [e_right_heights, u_right_heights]
  simp [-List.getD_eq_getElem?_getD, hx, hl, hr, z]
def rightsL (ls : List Lock) (n : Nat) : List Lot := (List.range n).map (rightAt ls)
theorem rights_eq (ls : List Lock) (n : Nat) : ((List.range n).map fun i => eH (rightAt ls i)) = (rightsL ls n).map eH := by
  unfold rightsL
  rw [List.map_map]
  rfl
/-! ### how many keys -/
theorem count_loop {e0 : EV} : ∀ (xs : List Lot) (a : Int) (e2 : EV), (∀ p ∈ xs, p.length ≤ 6) → ∃ e2', forM (gN 2) (setM 1 (dM (bin mulD (rdP 1) (lnS 2)))) (xs.map eH) ⟨[e0, .d (.int a), e2], st⟩ = .ok .nx ⟨[e0, .d (.int (a * ((prodN (xs.map List.length) : Nat) : Int))), e2'], st⟩
  | [], a, e2, _ => ⟨e2, by rw [List.map_nil, for_nil]; simp [prodN]⟩
  | p :: xs, a, e2, h => by
    obtain ⟨e2', ih⟩ := count_loop xs (a * (p.length : Int)) (.d (eH p)) fun q hq => h q (List.mem_cons_of_mem _ hq)
    refine ⟨e2', ?_⟩
    have hp := h p (List.mem_cons_self ..)
    have hm := o_mulR a (b := (p.length : Int)) (by omega) (by omega)
    rw [List.map_cons, for_step (c1 := ⟨[e0, .d (.int a), .d (eH p)], st⟩) (c2 := ⟨[e0, .d (.int (a * (p.length : Int))), .d (eH p)], st⟩) (by simp) (by simp [len_eH, hm]), ih]
    have e : prodN ((p :: xs).map List.length) = p.length * prodN (xs.map List.length) := rfl
    rw [e, Int.natCast_mul, Int.mul_assoc]
theorem right_len (ls : List Lock) (i : Nat) : (rightAt ls i).length ≤ 6 := List.length_filter_le _ six
def howMany (ls : List Lock) (n : Nat) : Nat := prodN ((rightsL ls n).map List.length)
theorem keys_count_ok (h : GLocks n ls) : F_keys_count [.d (eLs ls)] st = .ok (.d (.int (howMany ls n : Nat))) st := by
  have hr := right_heights_ok h (st := st)
  rw [rights_eq] at hr
  obtain ⟨e2, z⟩ := count_loop (st := st) (e0 := .d (eLs ls)) (rightsL ls n) 1 .un fun p hp => by
    obtain ⟨i, _, rfl⟩ := List.mem_map.mp hp
    exact right_len ls i
  rw [Int.one_mul] at z
  simp only [e_keys_count, u_keys_count]
  simp [check_locks_ok h, hr, z, howMany]
theorem howMany_eq (h : GLocks n ls) : ((everyK n).filter fun key => decide (who ls key = List.range ls.length)).length = howMany ls n := by
  have := count_all n ls h.len
  unfold howMany rightsL
  rw [List.map_map]
  show _ = prodN ((List.range n).map fun i => (rightAt ls i).length)
  rw [← this]
  unfold everyK
  congr 2
  funext key
  rw [Bool.eq_iff_iff, decide_eq_true_iff, who_all]
/-! ### who opens -/
theorem opens_zip : ∀ (l : Lock) (k : Lot), ((k.zip l).all fun q => q.2.contains q.1) = opens l k
  | [], [] => rfl
  | [], h :: k => rfl
  | p :: l, [] => rfl
  | p :: l, h :: k => by
    rw [List.zip_cons_cons, List.all_cons, opens_zip l k]
    rfl
theorem opens_zip2 : ∀ (l : Lock) (k : Lot), ((l.zip k).all fun q => q.1.contains q.2) = opens l k
  | [], [] => rfl
  | [], h :: k => rfl
  | p :: l, [] => rfl
  | p :: l, h :: k => by
    rw [List.zip_cons_cons, List.all_cons, opens_zip2 l k]
    rfl
theorem does_open_ok {l : Lock} (hl : l.length ≤ 5) (k : Lot) : F_does_open [.d (eL l), .d (eK k)] st = .ok (.d (.bool (opens l k))) st := by
  have ez : zipO [eK k, eL l] = some ((k.zip l).map fun q => .tuple [iN q.1, eK q.2]) := by
    show some (zipL _ _) = _
    rw [zipL_map]
  have z : lc [("height", 2), ("pin", 3)] (ci zipO (consA (rdP 1) (consA (rdP 0) nilA))) (gT [(gN 2), (gN 3)]) (pure true) (bin inD (rdP 2) (rdP 3)) ⟨[.d (eL l), .d (eK k), .un, .un], st⟩ = .ok (.own (.lst ((k.zip l).map fun q => .bool (q.2.contains q.1)))) ⟨[.d (eL l), .d (eK k), .un, .un], st⟩ := by
    rw [lc_map (c1 := ⟨[.d (eL l), .d (eK k), .un, .un], st⟩) (fun q : Nat × Lot => PyData.tuple [iN q.1, eK q.2]) (fun q => PyData.bool (q.2.contains q.1)) (as := k.zip l) (by simp [ez]) (le1000 (by rw [List.length_zip]; omega)) fun q _ => ⟨⟨[.d (eL l), .d (eK k), .d (iN q.1), .d (eK q.2)], st⟩, by simp [wip, wipeE], by simp [wip, wipeE], by simp [-List.contains_eq_mem, iN_eq, in_eK]⟩]
    simp [wip, wipeE]
  have ha := o_allF (k.zip l) fun q : Nat × Lot => q.2.contains q.1
  rw [opens_zip] at ha
  simp only [e_does_open, u_does_open]
  simp [-List.contains_eq_mem, z, ha]
theorem law_opens_ok {l : Lock} (hl : l.length ≤ 5) (k : Lot) : F__law_opens [.d (eL l), .d (eK k)] st = .ok (.d (.bool (opens l k))) st := by
  have ez : zipO [eL l, eK k] = some ((l.zip k).map fun q => .tuple [eK q.1, iN q.2]) := by
    show some (zipL _ _) = _
    rw [zipL_map]
  have z : lc [("lot", 2), ("height", 3)] (ci zipO (consA (rdP 0) (consA (rdP 1) nilA))) (gT [(gN 2), (gN 3)]) (pure true) (bin inD (rdP 3) (rdP 2)) ⟨[.d (eL l), .d (eK k), .un, .un], st⟩ = .ok (.own (.lst ((l.zip k).map fun q => .bool (q.1.contains q.2)))) ⟨[.d (eL l), .d (eK k), .un, .un], st⟩ := by
    rw [lc_map (c1 := ⟨[.d (eL l), .d (eK k), .un, .un], st⟩) (fun q : Lot × Nat => PyData.tuple [eK q.1, iN q.2]) (fun q => PyData.bool (q.1.contains q.2)) (as := l.zip k) (by simp [ez]) (le1000 (by rw [List.length_zip]; omega)) fun q _ => ⟨⟨[.d (eL l), .d (eK k), .d (eK q.1), .d (iN q.2)], st⟩, by simp [wip, wipeE], by simp [wip, wipeE], by simp [-List.contains_eq_mem, iN_eq, in_eK]⟩]
    simp [wip, wipeE]
  have ha := o_allF (l.zip k) fun q : Lot × Nat => q.1.contains q.2
  rw [opens_zip2] at ha
  simp only [e__law_opens, u__law_opens]
  simp [-List.contains_eq_mem, z, ha]
end
end Law

namespace Law
open PySem PySem.Spec PyProof.Rows L2 L2.DL
section
variable {st : List OB} {n : Nat} {ls : List Lock}
theorem o_addK (g : Lot) (h : Nat) (hg : g.length ≤ 10) : addD (eK g) (.tuple [iN h]) = some (eK (g ++ [h])) := by
  have := o_addT (g.map iN) [iN h] (le1000 (by rw [List.length_map, List.length_singleton]; omega))
  unfold eK
  rw [this, List.map_append]
  rfl
theorem stepK_one (g : Lot) (p : Lot) (F : List Lot) : stepK (g :: F) p = (p.map fun h => g ++ [h]) ++ stepK F p := by
  unfold stepK
  rw [List.flatMap_cons]
/-! ### the keys of one lock -/
theorem own_comp {e0 e1 e2 e4 e7 e8 : EV} {g p : Lot} (hg : g.length ≤ 10) (hp : p.length ≤ 6) :
    lc [("height", 6)] (itm (rdP 3)) (gN 6) (pure true) (bin addD (rdP 5) (tupM (consA (rdP 6) nilA))) ⟨[e0, e1, e2, .d (eK p), e4, .d (eK g), .un, e7, e8], st⟩ = .ok (.own (.lst ((p.map fun h => g ++ [h]).map eK))) ⟨[e0, e1, e2, .d (eK p), e4, .d (eK g), .un, e7, e8], st⟩ := by
  rw [lc_map (c1 := ⟨[e0, e1, e2, .d (eK p), e4, .d (eK g), .un, e7, e8], st⟩) iN (fun h => eK (g ++ [h])) (as := p) (by simp [it_eK]) (le1000 (by omega)) fun h _ => ⟨⟨[e0, e1, e2, .d (eK p), e4, .d (eK g), .d (iN h), e7, e8], st⟩, by simp [wip, wipeE], by simp [wip, wipeE], by
    have h1 : (1 : Nat) ≤ sizeLine := le1000 (by decide)
    simp [o_addK g h hg, h1]⟩]
  rw [List.map_map]
  simp [wip, wipeE]
theorem own_in {e0 e1 e2 e7 e8 : EV} {p : Lot} (hp : p.length ≤ 6) : ∀ (gs : List Lot) (acc : List PyData) (e5 : EV), (∀ g ∈ gs, g.length ≤ 10) → acc.length + (stepK gs p).length ≤ 1000000 →
    ∃ e5', forM (gN 5) (extM 4 (frM (lc [("height", 6)] (itm (rdP 3)) (gN 6) (pure true) (bin addD (rdP 5) (tupM (consA (rdP 6) nilA)))))) (gs.map eK) ⟨[e0, e1, e2, .d (eK p), .own (.lst acc), e5, .un, e7, e8], st⟩ =
      .ok .nx ⟨[e0, e1, e2, .d (eK p), .own (.lst (acc ++ (stepK gs p).map eK)), e5', .un, e7, e8], st⟩
  | [], acc, e5, _, _ => ⟨e5, by rw [List.map_nil, for_nil]; simp [stepK]⟩
  | g :: gs, acc, e5, hg, hl => by
    rw [stepK_one, List.length_append, List.length_map] at hl
    obtain ⟨e5', ih⟩ := own_in hp gs (acc ++ (p.map fun h => g ++ [h]).map eK) (.d (eK g)) (fun a ha => hg a (List.mem_cons_of_mem _ ha)) (by rw [List.length_append, List.length_map, List.length_map]; omega)
    refine ⟨e5', ?_⟩
    rw [List.map_cons, for_step (c1 := ⟨[e0, e1, e2, .d (eK p), .own (.lst acc), .d (eK g), .un, e7, e8], st⟩) (c2 := ⟨[e0, e1, e2, .d (eK p), .own (.lst (acc ++ (p.map fun h => g ++ [h]).map eK)), .d (eK g), .un, e7, e8], st⟩) (by simp) ?_, ih]
    · rw [stepK_one, List.map_append, List.append_assoc]
    · have h2 : acc.length + p.length ≤ sizeLine := len_le (by omega)
      have z := own_comp (st := st) (e0 := e0) (e1 := e1) (e2 := e2) (e4 := .own (.lst acc)) (e7 := e7) (e8 := e8) (hg g (List.mem_cons_self ..)) hp
      simp [-List.map_map, z, h2]
theorem stepK_len (F : List Lot) (p : Lot) : (stepK F p).length = F.length * p.length := by
  induction F with
  | nil => simp [stepK]
  | cons g F ih => rw [stepK_one, List.length_append, ih, List.length_map, List.length_cons, Nat.add_mul]; omega
def lK (F : List Lot) : PyData := .list (F.map eK)
theorem own_out {e0 e1 e7 e8 : EV} : ∀ (l : Lock) (F : List Lot) (m : Nat) (fd e3 e4 e5 : EV), (∀ p ∈ l, p.length ≤ 6) → (∀ g ∈ F, g.length + l.length ≤ 10) → F.length ≤ 6 ^ m → m + l.length ≤ 6 → (fd = .d (lK F) ∨ fd = .own (.lst (F.map eK))) →
    ∃ fd' e3' e4' e5', forM (gN 3) (thenM (setM 4 (lstM nilA))
    (thenM (forS (itm (rdP 2)) (gN 5) (extM 4 (frM (lc [("height", 6)] (itm (rdP 3)) (gN 6) (pure true) (bin addD (rdP 5) (tupM (consA (rdP 6) nilA)))))))
    (setM 2 (rd 4)))) (l.map eK) ⟨[e0, e1, fd, e3, e4, e5, .un, e7, e8], st⟩ = .ok .nx ⟨[e0, e1, fd', e3', e4', e5', .un, e7, e8], st⟩ ∧ (fd' = .d (lK (l.foldl stepK F)) ∨ fd' = .own (.lst ((l.foldl stepK F).map eK)))
  | [], F, m, fd, e3, e4, e5, _, _, _, _, hf => ⟨fd, e3, e4, e5, by rw [List.map_nil, for_nil], hf⟩
  | p :: l, F, m, fd, e3, e4, e5, hp, hg, hF, hm, hf => by
    rw [List.length_cons] at hm
    have hp6 := hp p (List.mem_cons_self ..)
    have hlen : (stepK F p).length ≤ 6 ^ (m + 1) := by rw [stepK_len, Nat.pow_succ]; exact Nat.mul_le_mul hF hp6
    have hbig : 6 ^ (m + 1) ≤ 6 ^ 6 := Nat.pow_le_pow_right (by decide) (by omega)
    have h66 : 6 ^ 6 = 46656 := by decide
    obtain ⟨e5', z⟩ := own_in (st := st) (e0 := e0) (e1 := e1) (e2 := .d (lK F)) (e7 := e7) (e8 := e8) hp6 F [] e5 (fun g h => by have := hg g h; omega) (by simp; omega)
    rw [List.nil_append] at z
    obtain ⟨fd', a', b', c', z2, hf'⟩ := own_out (e0 := e0) (e1 := e1) (e7 := e7) (e8 := e8) l (stepK F p) (m + 1) (.d (lK (stepK F p))) (.d (eK p)) (.d (lK (stepK F p))) e5' (fun q hq => hp q (List.mem_cons_of_mem _ hq)) (fun g h => by
      unfold stepK at h
      rw [List.mem_flatMap] at h
      obtain ⟨k, hk, h⟩ := h
      obtain ⟨a, _, rfl⟩ := List.mem_map.mp h
      have := hg k hk
      rw [List.length_append, List.length_singleton]
      rw [List.length_cons] at this
      omega) hlen (by omega) (.inl rfl)
    refine ⟨fd', a', b', c', ?_, hf'⟩
    rw [List.map_cons, for_step (c1 := ⟨[e0, e1, fd, .d (eK p), e4, e5, .un, e7, e8], st⟩) (c2 := ⟨[e0, e1, .d (lK (stepK F p)), .d (eK p), .d (lK (stepK F p)), e5', .un, e7, e8], st⟩) (by simp) ?_, z2]
    have il : itemsO (lK F) = some (F.map eK) := rfl
    simp only [lK] at z il
    rcases hf with rfl | rfl
    · simp [z, il, lK]
    · simp [z, il, lK]
/-! ### the first that opens no other -/
theorem own_find {e0 e1 e2 e3 e4 : EV} {os : List Lock} (ho : os.length ≤ 12) (h5 : ∀ l ∈ os, l.length ≤ 5) : ∀ (F : List Lot) (e5 : EV),
    (∃ e5', forM (gN 5) (iteM (notB (tst (ca anyD (consA (frM (lc [("lock", 8)] (itm (rdP 7)) (gN 8) (pure true) (frM (cl F_does_open (consC (rd 8) (consC (rd 5) nilC)))))) nilA)))) (retM (rd 5)) (pure .nx)) (F.map eK) ⟨[e0, e1, e2, e3, e4, e5, .un, .d (eLs os), .un], st⟩ =
      (match F.find? fun key => !os.any (opens · key) with
        | some key => .ok (.rt (.d (eK key))) ⟨[e0, e1, e2, e3, e4, e5', .un, .d (eLs os), .un], st⟩
        | none => .ok .nx ⟨[e0, e1, e2, e3, e4, e5', .un, .d (eLs os), .un], st⟩))
  | [], e5 => ⟨e5, by rw [List.map_nil, for_nil]; rfl⟩
  | key :: F, e5 => by
    have z : lc [("lock", 8)] (itm (rdP 7)) (gN 8) (pure true) (frM (cl F_does_open (consC (rd 8) (consC (rd 5) nilC)))) ⟨[e0, e1, e2, e3, e4, .d (eK key), .un, .d (eLs os), .un], st⟩ = .ok (.own (.lst (os.map fun l => .bool (opens l key)))) ⟨[e0, e1, e2, e3, e4, .d (eK key), .un, .d (eLs os), .un], st⟩ := by
      rw [lc_map (c1 := ⟨[e0, e1, e2, e3, e4, .d (eK key), .un, .d (eLs os), .un], st⟩) eL (fun l => PyData.bool (opens l key)) (as := os) (by simp [it_eLs]) (le1000 (by omega)) fun l hl => ⟨⟨[e0, e1, e2, e3, e4, .d (eK key), .un, .d (eLs os), .d (eL l)], st⟩, by simp [wip, wipeE], by simp [wip, wipeE], by
        simp [does_open_ok (h5 l hl) key]⟩]
      simp [wip, wipeE]
    have ha := any_map os fun l => opens l key
    cases e : os.any fun l => opens l key with
    | false =>
      rw [e] at ha
      refine ⟨.d (eK key), ?_⟩
      rw [List.map_cons, for_ret (c1 := ⟨[e0, e1, e2, e3, e4, .d (eK key), .un, .d (eLs os), .un], st⟩) (c2 := ⟨[e0, e1, e2, e3, e4, .d (eK key), .un, .d (eLs os), .un], st⟩) (v := .d (eK key)) (by simp) (by simp [z, ha]), List.find?_cons, e]
      rfl
    | true =>
      rw [e] at ha
      obtain ⟨e5', ih⟩ := own_find (e0 := e0) (e1 := e1) (e2 := e2) (e3 := e3) (e4 := e4) ho h5 F (.d (eK key))
      refine ⟨e5', ?_⟩
      rw [List.map_cons, for_step (c1 := ⟨[e0, e1, e2, e3, e4, .d (eK key), .un, .d (eLs os), .un], st⟩) (c2 := ⟨[e0, e1, e2, e3, e4, .d (eK key), .un, .d (eLs os), .un], st⟩) (by simp) (by simp [z, ha]), ih, List.find?_cons, e]
      rfl
def optK : Option Lot → PyData
  | some k => eK k
  | none => .none
theorem own_key_ok (h : GLocks n ls) {k : Nat} (hk : k < ls.length) : F_own_key [.d (eLs ls), .d (.int (k : Int))] st = .ok (.d (optK (ownK ls k))) st := by
  have n5 := h.n5
  have m6 := h.m6
  have hm := h.at hk
  have hn := h.len _ hm
  have iw := is_within_ok (st := st) (k : Int) 0 ((ls.length : Int) - 1)
  rw [show decide ((0 : Int) ≤ (k : Int)) = true from decide_eq_true (by omega), show decide ((k : Int) ≤ (ls.length : Int) - 1) = true from decide_eq_true (by omega)] at iw
  have hx := ix_eLs hk
  obtain ⟨fd, e3, e4, e5, z, hf⟩ := own_out (st := st) (e0 := .d (eLs ls)) (e1 := .d (.int (k : Int))) (e7 := .un) (e8 := .un) (ls.getD k []) [[]] 0 (.d (lK [[]])) .un .un .un (fun p hp => (h.lot _ hm p hp).len) (fun g hg => by rw [List.mem_singleton.mp hg]; simp only [List.length_nil]; omega) (by decide) (by omega) (.inl rfl)
  rw [prodK_eq] at hf
  have hle : (others ls k).length ≤ 12 := by unfold others; rw [List.length_append, List.length_take, List.length_drop]; omega
  have h5 : ∀ l ∈ others ls k, l.length ≤ 5 := fun l hl => by
    have : l ∈ ls := by
      rcases List.mem_append.mp hl with q | q
      · exact List.mem_of_mem_take q
      · exact List.mem_of_mem_drop q
    rw [h.len l this]; exact n5
  obtain ⟨e5', z2⟩ := own_find (st := st) (e0 := .d (eLs ls)) (e1 := .d (.int (k : Int))) (e2 := .d (lK (prodC (ls.getD k [])))) (e3 := e3) (e4 := e4) (os := others ls k) hle h5 (prodC (ls.getD k [])) e5
  have f1 : slD (eLs ls) none (some (k : Int)) = some (eLs (ls.take k)) := by
    have := o_toT (ls.map eL) k
    rw [← List.map_take] at this
    exact this
  have f2 : slD (eLs ls) (some ((k : Int) + 1)) none = some (eLs (ls.drop (k + 1))) := by
    have := o_fromT (ls.map eL) (k + 1)
    rw [← List.map_drop] at this
    exact this
  have f3 : addD (eLs (ls.take k)) (eLs (ls.drop (k + 1))) = some (eLs (others ls k)) := by
    have := o_addT ((ls.take k).map eL) ((ls.drop (k + 1)).map eL) (le1000 (by rw [List.length_map, List.length_map, List.length_take, List.length_drop]; omega))
    rw [← List.map_append] at this
    exact this
  have il : itemsO (lK (prodC (ls.getD k []))) = some ((prodC (ls.getD k [])).map eK) := rfl
  have h1 : (1 : Nat) ≤ sizeLine := le1000 (by decide)
  have l0 : (PyData.list [.tuple []]) = lK [[]] := rfl
  have c0 := check_locks_ok h (st := st)
  unfold ownK
  generalize hR : (prodC (ls.getD k [])).find? (fun key => !(others ls k).any fun l => opens l key) = R at z2
  simp only [e_own_key, u_own_key]
  rcases hf with rfl | rfl
  · cases R with
    | none => simp [-List.getD_eq_getElem?_getD, c0, len_eLs, iw, l0, h1, hx, it_eL, z, f1, f2, f3, il, z2, optK]
    | some key => simp [-List.getD_eq_getElem?_getD, c0, len_eLs, iw, l0, h1, hx, it_eL, z, f1, f2, f3, il, z2, optK]
  · simp only [lK] at z2 il
    cases R with
    | none => simp [-List.getD_eq_getElem?_getD, c0, len_eLs, iw, l0, h1, hx, it_eL, z, f1, f2, f3, il, z2, optK]
    | some key => simp [-List.getD_eq_getElem?_getD, c0, len_eLs, iw, l0, h1, hx, it_eL, z, f1, f2, f3, il, z2, optK]
end
end Law

namespace Law
open PySem PySem.Spec PyProof.Rows L2 L2.DL
section
variable {st : List OB} {n : Nat} {ls : List Lock}
/-! ### keys one by one -/
structure GKey (n : Nat) (k : Lot) : Prop where
  len : k.length = n
  lt : ∀ x ∈ k, x < 6
theorem is_key_ok {k : Lot} (h : GKey n k) (hn : n ≤ 5) : F_is_key [.d (eK k), .d (.int (n : Int))] st = .ok (.d (.bool true)) st := by
  have it : F_is_tuple [.d (eK k), .d (.int (n : Int)), .d (.int (n : Int))] st = .ok (.d (.bool true)) st := by
    unfold eK
    rw [is_tuple_ok, List.length_map, h.len]
    simp
  have z : lc [("one", 2)] (itm (rdP 0)) (gN 2) (pure true) (frM (cl F_is_within (consC (rd 2) (consC (dM (pure (.int 0))) (consC (dM (bin subD (pure (.int 6)) (pure (.int 1)))) nilC))))) ⟨[.d (eK k), .d (.int (n : Int)), .un], st⟩ = .ok (.own (.lst (k.map fun _ => .bool true))) ⟨[.d (eK k), .d (.int (n : Int)), .un], st⟩ := by
    rw [lc_map (c1 := ⟨[.d (eK k), .d (.int (n : Int)), .un], st⟩) iN (fun _ => PyData.bool true) (as := k) (by simp [it_eK]) (le1000 (by have := h.len; omega)) fun x hx => ⟨⟨[.d (eK k), .d (.int (n : Int)), .d (iN x)], st⟩, by simp [wip, wipeE], by simp [wip, wipeE], by
      have := h.lt x hx
      have h1 : (0 : Int) ≤ (x : Int) := by omega
      have h2 : (x : Int) ≤ 5 := by omega
      simp [iN_eq, is_within_ok, h1, h2]⟩]
    simp [wip, wipeE]
  simp [e_is_key, u_is_key, it, z, all_t]
theorem tup_eK (p : Lot) : PyData.tuple (p.map iN) = eK p := id rfl
theorem enum_eLs (ls : List Lock) : enumO [eLs ls] = some ((List.range ls.length).map fun i => .tuple [iN i, eL (ls.getD i [])]) := by
  show some (enumL 0 (ls.map eL)) = _
  rw [enumL_range eL [] ls 0]
  simp only [Nat.zero_add]
  rfl
theorem who_sub (ls : List Lock) (key : Lot) : (who ls key).length ≤ ls.length := by
  have := List.length_filter_le (fun at_ => opens (ls.getD at_ []) key) (List.range ls.length)
  rw [List.length_range] at this
  exact this
theorem key_by_key_ok (h : GLocks n ls) {ks : List Lot} (h1 : 1 ≤ ks.length) (h6 : ks.length ≤ 6) (hk : ∀ k ∈ ks, GKey n k) : F_key_by_key [.d (eLs ls), .d (.tuple (ks.map eK))] st = .ok (.d (.tuple (ks.map fun k => eK (who ls k)))) st := by
  have n5 := h.n5
  have m6 := h.m6
  have hm := h.at (k := 0) (by have := h.m1; omega)
  have hx : ixD (eLs ls) (.int 0) = some (eL (ls.getD 0 [])) := ix_eLs (ls := ls) (k := 0) (by have := h.m1; omega)
  have hl := len_eL (ls.getD 0 [])
  rw [h.len _ hm] at hl
  have it : F_is_tuple [.d (.tuple (ks.map eK)), .d (.int 1), .d (.int 6)] st = .ok (.d (.bool true)) st := by
    rw [is_tuple_ok, List.length_map]
    have a1 : (1 : Int) ≤ (ks.length : Int) := by omega
    have a2 : (ks.length : Int) ≤ 6 := by omega
    simp [a1, a2]
  have z1 : lc [("key", 2)] (itm (rdP 1)) (gN 2) (pure true) (frM (cl F_is_key (consC (rd 2) (consC (dM (lnM (ixS 0 (pure (.int 0))))) nilC)))) ⟨[.d (eLs ls), .d (.tuple (ks.map eK)), .un, .un, .un], st⟩ = .ok (.own (.lst (ks.map fun _ => .bool true))) ⟨[.d (eLs ls), .d (.tuple (ks.map eK)), .un, .un, .un], st⟩ := by
    rw [lc_map (c1 := ⟨[.d (eLs ls), .d (.tuple (ks.map eK)), .un, .un, .un], st⟩) eK (fun _ => PyData.bool true) (as := ks) (by simp) (le1000 (by omega)) fun k hk' => ⟨⟨[.d (eLs ls), .d (.tuple (ks.map eK)), .d (eK k), .un, .un], st⟩, by simp [wip, wipeE], by simp [wip, wipeE], by
      simp [-List.getD_eq_getElem?_getD, hx, hl, is_key_ok (hk k hk') n5]⟩]
    simp [wip, wipeE]
  have z2 : ∀ k : Lot, lc [("at", 3), ("lock", 4)] (ci enumO (consA (rdP 0) nilA)) (gT [(gN 3), (gN 4)]) (tst (frM (cl F_does_open (consC (rd 4) (consC (rd 2) nilC))))) (rdP 3) ⟨[.d (eLs ls), .d (.tuple (ks.map eK)), .d (eK k), .un, .un], st⟩ = .ok (.own (.lst ((who ls k).map iN))) ⟨[.d (eLs ls), .d (.tuple (ks.map eK)), .d (eK k), .un, .un], st⟩ := fun k => by
    rw [lc_pure (c1 := ⟨[.d (eLs ls), .d (.tuple (ks.map eK)), .d (eK k), .un, .un], st⟩) (fun i => PyData.tuple [iN i, eL (ls.getD i [])]) (fun i => opens (ls.getD i []) k) iN (as := List.range ls.length) (by simp [enum_eLs]) (le1000 (by rw [List.length_range]; omega)) fun i hi => ⟨⟨[.d (eLs ls), .d (.tuple (ks.map eK)), .d (eK k), .d (iN i), .d (eL (ls.getD i []))], st⟩, by simp [wip, wipeE], by simp [wip, wipeE], by
      have hd := does_open_ok (st := st) (l := ls.getD i []) (by rw [h.len _ (h.at (List.mem_range.mp hi))]; exact n5) k
      simp [-List.getD_eq_getElem?_getD, hd], fun _ => by simp⟩]
    simp [wip, wipeE, who]
  have z3 : lc [("key", 2)] (itm (rdP 1)) (gN 2) (pure true) (ca tupD (consA (frM (lc [("at", 3), ("lock", 4)] (ci enumO (consA (rdP 0) nilA)) (gT [(gN 3), (gN 4)]) (tst (frM (cl F_does_open (consC (rd 4) (consC (rd 2) nilC))))) (rdP 3))) nilA)) ⟨[.d (eLs ls), .d (.tuple (ks.map eK)), .un, .un, .un], st⟩ = .ok (.own (.lst (ks.map fun k => eK (who ls k)))) ⟨[.d (eLs ls), .d (.tuple (ks.map eK)), .un, .un, .un], st⟩ := by
    rw [lc_map (c1 := ⟨[.d (eLs ls), .d (.tuple (ks.map eK)), .un, .un, .un], st⟩) eK (fun k => eK (who ls k)) (as := ks) (by simp) (le1000 (by omega)) fun k hk' => ⟨⟨[.d (eLs ls), .d (.tuple (ks.map eK)), .d (eK k), .un, .un], st⟩, by simp [wip, wipeE], by simp [wip, wipeE], by
      simp [z2, tup_eK]⟩]
    simp [wip, wipeE]
  simp only [e_key_by_key, u_key_by_key]
  simp [check_locks_ok h, it, z1, z3, all_t]
/-! ### a key, or a pin -/
theorem enum_eH (xs : List Lot) : enumL 0 (xs.map eH) = ((List.range xs.length).map fun i => .tuple [iN i, eH (xs.getD i [])]) := by
  rw [enumL_range eH [] xs 0]
  simp only [Nat.zero_add]
  rfl
theorem prod_pos : ∀ {xs : List Nat}, 0 < prodN xs ↔ ∀ x ∈ xs, 0 < x
  | [] => by simp [prodN]
  | x :: xs => by
    have e : prodN (x :: xs) = x * prodN xs := rfl
    rw [e]
    constructor
    · intro h y hy
      have h2 := Nat.pos_of_mul_pos_left h
      have h1 := Nat.pos_of_mul_pos_right h
      rcases List.mem_cons.mp hy with rfl | hy
      · first | exact h1 | exact h2
      · first | exact (prod_pos.mp h2) y hy | exact (prod_pos.mp h1) y hy
    · intro h
      exact Nat.mul_pos (h x (List.mem_cons_self ..)) (prod_pos.mpr fun y hy => h y (List.mem_cons_of_mem _ hy))
theorem key_or_pin_ok (h : GLocks n ls) : ∃ x, F_key_or_pin [.d (eLs ls)] st = .ok (.d (.tuple [.str (if 0 < howMany ls n then "key" else "pin"), x])) st := by
  have n5 := h.n5
  have hr := right_heights_ok h (st := st)
  rw [rights_eq] at hr
  obtain ⟨R, hR⟩ : ∃ R, R = rightsL ls n := ⟨_, rfl⟩
  have hRl : R.length ≤ 5 := by rw [hR]; unfold rightsL; rw [List.length_map, List.length_range]; exact n5
  unfold howMany
  rw [← hR] at hr ⊢
  have c0 := check_locks_ok h (st := st)
  have h2 : (2 : Nat) ≤ sizeLine := le1000 (by decide)
  obtain ⟨B, hB⟩ : ∃ B, B = (List.range R.length).filter fun i => decide ((R.getD i []).length = 0) := ⟨_, rfl⟩
  have hBl : B.length ≤ 5 := by
    have := List.length_filter_le (fun i => decide ((R.getD i []).length = 0)) (List.range R.length)
    rw [← hB, List.length_range] at this
    omega
  have z1 : lc [("i", 3), ("heights", 4)] (ci enumO (consA (rdP 1) nilA)) (gT [(gN 3), (gN 4)]) (tst (bin eqD (lnS 4) (pure (.int 0)))) (rdP 3) ⟨[.d (eLs ls), .d (.list (R.map eH)), .un, .un, .un], st⟩ = .ok (.own (.lst (B.map iN))) ⟨[.d (eLs ls), .d (.list (R.map eH)), .un, .un, .un], st⟩ := by
    rw [lc_pure (c1 := ⟨[.d (eLs ls), .d (.list (R.map eH)), .un, .un, .un], st⟩) (fun i => PyData.tuple [iN i, eH (R.getD i [])]) (fun i => decide ((R.getD i []).length = 0)) iN (as := List.range R.length) (by simp [-List.getD_eq_getElem?_getD, enum_eH]) (le1000 (by rw [List.length_range]; omega)) fun i hi => ⟨⟨[.d (eLs ls), .d (.list (R.map eH)), .un, .d (iN i), .d (eH (R.getD i []))], st⟩, by simp [wip, wipeE], by simp [wip, wipeE], by
      have e : decide (((R.getD i []).length : Int) = 0) = decide ((R.getD i []).length = 0) := by
        rw [Bool.eq_iff_iff, decide_eq_true_iff, decide_eq_true_iff]; omega
      simp only [s_tst, s_bin, s_pure, go_ok]
      simp [-List.getD_eq_getElem?_getD, len_eH], fun _ => by simp⟩]
    simp [wip, wipeE, hB]
  by_cases hb : B = []
  · have hp : 0 < prodN (R.map List.length) := prod_pos.mpr fun x hx => by
      obtain ⟨p, hp, rfl⟩ := List.mem_map.mp hx
      obtain ⟨i, hi, e⟩ := List.getElem_of_mem hp
      apply Classical.byContradiction
      intro hz
      have : i ∈ B := by
        rw [hB]
        refine List.mem_filter.mpr ⟨List.mem_range.mpr hi, ?_⟩
        rw [List.getD_eq_getElem?_getD, List.getElem?_eq_getElem hi, e]
        exact decide_eq_true (by show p.length = 0; omega)
      rw [hb] at this
      cases this
    have hpos := prod_pos.mp hp
    rw [if_pos hp]
    refine ⟨.tuple (R.map fun p => iN (p.getD 0 0)), ?_⟩
    have z2 : ∀ e3, lc [("heights", 4)] (itm (rdP 1)) (gN 4) (pure true) (ixS 4 (pure (.int 0))) ⟨[.d (eLs ls), .d (.list (R.map eH)), .d (.list []), e3, .un], st⟩ = .ok (.own (.lst (R.map fun p => iN (p.getD 0 0)))) ⟨[.d (eLs ls), .d (.list (R.map eH)), .d (.list []), e3, .un], st⟩ := fun e3 => by
      rw [lc_map (c1 := ⟨[.d (eLs ls), .d (.list (R.map eH)), .d (.list []), e3, .un], st⟩) eH (fun p => iN (p.getD 0 0)) (as := R) (by simp) (le1000 (by omega)) fun p hp => ⟨⟨[.d (eLs ls), .d (.list (R.map eH)), .d (.list []), e3, .d (eH p)], st⟩, by simp [wip, wipeE], by simp [wip, wipeE], by
        have := hpos p.length (List.mem_map.mpr ⟨p, hp, rfl⟩)
        have hx : ixD (eH p) (.int 0) = some (iN (p.getD 0 0)) := o_ixL (k := 0) (by rw [List.getElem?_map, List.getElem?_eq_getElem this, List.getD_eq_getElem?_getD, List.getElem?_eq_getElem this]; rfl)
        simp [-List.getD_eq_getElem?_getD, hx]⟩]
      simp [wip, wipeE]
    subst hb
    simp only [e_key_or_pin, u_key_or_pin]
    simp [-List.getD_eq_getElem?_getD, c0, hr, z1, z2, h2]
  · have hp : ¬ 0 < prodN (R.map List.length) := fun hp => by
      cases B with
      | nil => exact hb rfl
      | cons i B =>
        have hi : i ∈ (List.range R.length).filter fun i => decide ((R.getD i []).length = 0) := by rw [← hB]; exact List.mem_cons_self ..
        rw [List.mem_filter, List.mem_range, decide_eq_true_iff] at hi
        have := prod_pos.mp hp (R.getD i []).length (List.mem_map.mpr ⟨_, by rw [List.getD_eq_getElem?_getD, List.getElem?_eq_getElem hi.1]; exact List.getElem_mem hi.1, rfl⟩)
        omega
    rw [if_neg hp]
    cases B with
    | nil => exact absurd rfl hb
    | cons i B =>
      refine ⟨iN i, ?_⟩
      have hx : ixD (.list ((i :: B).map iN)) (.int 0) = some (iN i) := o_ixL (k := 0) rfl
      have hx' : ixD (.list (iN i :: B.map iN)) (.int 0) = some (iN i) := hx
      have hlt : (0 : Int) < (B.length : Int) + 1 := by omega
      simp only [e_key_or_pin, u_key_or_pin]
      simp [-List.getD_eq_getElem?_getD, c0, hr, z1, h2, hx', hlt]
/-! ### the same lock -/
theorem same_lock_ok {l m : Lock} (h1 : 1 ≤ l.length) (h5 : l.length ≤ 5) (h : ∀ p ∈ l, GLot p) (g1 : 1 ≤ m.length) (g5 : m.length ≤ 5) (g : ∀ p ∈ m, GLot p) : F_same_lock [.d (eL l), .d (eL m)] st = .ok (.d (.bool (decide (l = m)))) st := by
  have e : eqD (eL l) (eL m) = some (.bool (decide (l = m))) := eqD_val (noB_eL l) (noB_eL m) (Nat.le_trans (dep_eL l) (by decide)) (by rw [decide_eq_true_iff]; exact ⟨fun h => by rw [h], eL_inj⟩)
  simp [e_same_lock, u_same_lock, e_check_lock, u_check_lock, is_lock_ok h1 h5 h, is_lock_ok g1 g5 g, e]
end
end Law

namespace Law
open PySem PySem.Spec PyProof.Rows L2 L2.DL
theorem draw_tail {cells : List Int} {i : Nat} {v a b many : Int} {e2 e3 e4 : EV} (hi : i ≤ cells.length) (hc : ∀ x ∈ cells, 0 ≤ x) (hv : 0 ≤ v) (h1 : 1 ≤ many) (h2 : many < 1073741824) :
    ∃ x hd' c', t__law_draw ⟨[.loc 0, .d (.int many), e2, e3, e4], [.lst [.list (cells.map .int), .int (i : Nat), .int v, .int a, .int b]]⟩ = .ok (.rt (.d (.int x))) c' ∧ c'.sto = [.lst hd'] ∧ 0 ≤ x ∧ x < many ∧ HandOk hd' := by
  have m1 := fun x : Int => o_mod x (b := many) (by omega)
  have d1 := fun x : Int => o_fdiv x (b := many) (by omega) h2
  by_cases hp : 0 < v
  · refine ⟨v % many, [.list (cells.map .int), .int (i : Nat), .int (v / many), .int a, .int b], ⟨[.loc 0, .d (.int many), e2, .d (.int (v % many)), e4], [.lst [.list (cells.map .int), .int (i : Nat), .int (v / many), .int a, .int b]]⟩, ?_, rfl, Int.emod_nonneg _ (by omega), Int.emod_lt_of_pos _ (by omega), cells, i, v / many, a, b, rfl, hi, hc, Int.ediv_nonneg hv (by omega)⟩
    simp [ut__law_draw, hx2, hp, m1, d1, hp2]
  · have q0 : ∀ x : Int, 0 ≤ x % 2147483647 ∧ x % 2147483647 < 2147483647 := fun x => ⟨Int.emod_nonneg _ (by decide), Int.emod_lt_of_pos _ (by decide)⟩
    have q1 : ∀ x : Int, 0 ≤ x % 2147483399 ∧ x % 2147483399 < 2147483399 := fun x => ⟨Int.emod_nonneg _ (by decide), Int.emod_lt_of_pos _ (by decide)⟩
    obtain ⟨x1, hx1'⟩ : ∃ x1, x1 = ((a + 7877 * (b + 1)) * 69621) % 2147483647 := ⟨_, rfl⟩
    obtain ⟨x2, hx2'⟩ : ∃ x2, x2 = (x1 * (x1 / 1103 + 40692)) % 2147483399 := ⟨_, rfl⟩
    obtain ⟨x3, hx3'⟩ : ∃ x3, x3 = (x2 * (x2 / 2311 + 48271)) % 2147483629 := ⟨_, rfl⟩
    have b1 := q0 ((a + 7877 * (b + 1)) * 69621)
    have b2 := q1 (x1 * (x1 / 1103 + 40692))
    rw [← hx1'] at b1
    rw [← hx2'] at b2
    have w1 := fun y => o_mulL (a := 7877) y (by decide) (by decide)
    have w2 := fun y => o_mulR y (b := 69621) (by decide) (by decide)
    have w3 := fun y => o_mulL (a := x1) y (by omega) (by omega)
    have w4 := fun y => o_mulL (a := x2) y (by omega) (by omega)
    have n1 := fun y => o_mod y (b := 2147483647) (by decide)
    have n2 := fun y => o_mod y (b := 2147483399) (by decide)
    have n3 := fun y => o_mod y (b := 2147483629) (by decide)
    have f1 := fun y => o_fdiv y (b := 1103) (by decide) (by decide)
    have f2 := fun y => o_fdiv y (b := 2311) (by decide) (by decide)
    have f3 := fun y => o_fdiv y (b := 16) (by decide) (by decide)
    refine ⟨(x3 / 16) % many, [.list (cells.map .int), .int (i : Nat), .int v, .int a, .int (b + 1)], ⟨[.loc 0, .d (.int many), e2, e3, .d (.int x3)], [.lst [.list (cells.map .int), .int (i : Nat), .int v, .int a, .int (b + 1)]]⟩, ?_, rfl, Int.emod_nonneg _ (by omega), Int.emod_lt_of_pos _ (by omega), cells, i, v, a, b + 1, rfl, hi, hc, hv⟩
    simp [ut__law_draw, hx2, hx3, hx4, hp, m1, hp4, w1, w2, n1, n2, n3, f1, f2, f3, ← hx1', w3, ← hx2', w4, ← hx3']
theorem draw_ok {hd : List PyData} (h : HandOk hd) {many : Int} (h1 : 1 ≤ many) (h2 : many < 1073741824) : ∃ x hd', F__law_draw [.loc 0, .d (.int many)] [.lst hd] = .ok (.d (.int x)) [.lst hd'] ∧ 0 ≤ x ∧ x < many ∧ HandOk hd' := by
  obtain ⟨cells, i, v, a, b, rfl, hi, hc, hv⟩ := h
  by_cases q : v = 0 ∧ i < cells.length
  · obtain ⟨rfl, hl⟩ := q
    have hce : (cells.map PyData.int)[i]? = some (.int cells[i]) := by rw [List.getElem?_map, List.getElem?_eq_getElem hl]; rfl
    have hix : ixD (.list (cells.map .int)) (.int (i : Int)) = some (.int cells[i]) := o_ixL hce
    have hc0 := hc cells[i] (List.getElem_mem hl)
    obtain ⟨y, hy⟩ : ∃ y, y = cells[i] := ⟨_, rfl⟩
    rw [← hy] at hix hc0
    have w1 := fun z => o_mulR z (b := 48271) (by decide) (by decide)
    have w2 := fun z => o_mulR z (b := 5) (by decide) (by decide)
    have n1 := fun z => o_mod z (b := 2147483587) (by decide)
    have hlt : ((i : Int) < (cells.length : Int)) := by omega
    have hle : i + 1 ≤ cells.length := hl
    have tl := fun v' (hv' : 0 ≤ v') e2 => draw_tail (cells := cells) (i := i + 1) (v := v') (a := (a * 48271 + y * 5 + 29) % 2147483587) (b := b) (many := many) (e2 := e2) (e3 := .un) (e4 := .un) hle hc hv' h1 h2
    by_cases hb : (1000000000000000000 : Int) ≤ y
    · obtain ⟨x, hd', c', e, es, r⟩ := tl y hc0 (.d (.int y))
      refine ⟨x, hd', ?_, r⟩
      simp at e
      simp [e__law_draw, u__law_draw, hx0, hx1, hx2, hx3, hp1, hp2, hp3, hlt, hix, w1, w2, n1, o_pow10, hb, e, es]
    · obtain ⟨x, hd', c', e, es, r⟩ := tl 0 (by omega) (.d (.int y))
      refine ⟨x, hd', ?_, r⟩
      simp at e
      simp [e__law_draw, u__law_draw, hx0, hx1, hx2, hx3, hp1, hp2, hp3, hlt, hix, w1, w2, n1, o_pow10, hb, e, es]
  · obtain ⟨x, hd', c', e, es, r⟩ := draw_tail (e2 := .un) (e3 := .un) (e4 := .un) (a := a) (b := b) hi hc hv h1 h2
    refine ⟨x, hd', ?_, r⟩
    by_cases q0 : v = 0
    · have hlt : ¬ ((i : Int) < (cells.length : Int)) := fun z => q ⟨q0, by omega⟩
      subst q0
      simp [e__law_draw, u__law_draw, hx0, hx1, hx2, hlt, e, es]
    · simp [e__law_draw, u__law_draw, hx0, hx1, hx2, q0, e, es]
end Law

namespace Law
open PySem PySem.Spec PyProof.Rows L2 L2.DL
section
variable {st : List OB}
/-! ### all keys -/
theorem six_len : six.length = 6 := by decide
theorem law_comp {e0 e1 e2 e3 : EV} {g : Lot} (hg : g.length ≤ 10) :
    lc [("height", 5)] (ci rng1O (consA (pure (.int 6)) nilA)) (gN 5) (pure true) (bin addD (rdP 4) (tupM (consA (rdP 5) nilA))) ⟨[e0, e1, e2, e3, .d (eK g), .un], st⟩ = .ok (.own (.lst ((six.map fun h => g ++ [h]).map eK))) ⟨[e0, e1, e2, e3, .d (eK g), .un], st⟩ := by
  rw [lc_map (c1 := ⟨[e0, e1, e2, e3, .d (eK g), .un], st⟩) iN (fun h => eK (g ++ [h])) (as := six) (by simp [rng_6]) (le1000 (by decide)) fun h _ => ⟨⟨[e0, e1, e2, e3, .d (eK g), .d (iN h)], st⟩, by simp [wip, wipeE], by simp [wip, wipeE], by
    have h1 : (1 : Nat) ≤ sizeLine := le1000 (by decide)
    simp [o_addK g h hg, h1]⟩]
  rw [List.map_map]
  simp [wip, wipeE]
theorem law_in {e0 e1 e2 : EV} : ∀ (gs : List Lot) (acc : List PyData) (e4 : EV), (∀ g ∈ gs, g.length ≤ 10) → acc.length + (stepK gs six).length ≤ 1000000 →
    ∃ e4', forM (gN 4) (extM 3 (frM (lc [("height", 5)] (ci rng1O (consA (pure (.int 6)) nilA)) (gN 5) (pure true) (bin addD (rdP 4) (tupM (consA (rdP 5) nilA)))))) (gs.map eK) ⟨[e0, e1, e2, .own (.lst acc), e4, .un], st⟩ =
      .ok .nx ⟨[e0, e1, e2, .own (.lst (acc ++ (stepK gs six).map eK)), e4', .un], st⟩
  | [], acc, e4, _, _ => ⟨e4, by rw [List.map_nil, for_nil]; simp [stepK]⟩
  | g :: gs, acc, e4, hg, hl => by
    rw [stepK_one, List.length_append, List.length_map] at hl
    obtain ⟨e4', ih⟩ := law_in (e0 := e0) (e1 := e1) (e2 := e2) gs (acc ++ (six.map fun h => g ++ [h]).map eK) (.d (eK g)) (fun a ha => hg a (List.mem_cons_of_mem _ ha)) (by rw [List.length_append, List.length_map, List.length_map]; omega)
    refine ⟨e4', ?_⟩
    rw [List.map_cons, for_step (c1 := ⟨[e0, e1, e2, .own (.lst acc), .d (eK g), .un], st⟩) (c2 := ⟨[e0, e1, e2, .own (.lst (acc ++ (six.map fun h => g ++ [h]).map eK)), .d (eK g), .un], st⟩) (by simp) ?_, ih]
    · rw [stepK_one, List.map_append, List.append_assoc]
    · have h2 : acc.length + six.length ≤ sizeLine := len_le (by omega)
      have z := law_comp (st := st) (e0 := e0) (e1 := e1) (e2 := e2) (e3 := .own (.lst acc)) (hg g (List.mem_cons_self ..))
      simp [-List.map_map, z, h2]
theorem law_out {e0 : EV} : ∀ (is : List PyData) (F : List Lot) (m : Nat) (fd e2 e3 e4 : EV), (∀ g ∈ F, g.length + is.length ≤ 10) → F.length ≤ 6 ^ m → m + is.length ≤ 6 → (fd = .d (lK F) ∨ fd = .own (.lst (F.map eK))) →
    ∃ fd' e2' e3' e4', forM (gN 2) (thenM (setM 3 (lstM nilA))
    (thenM (forS (itm (rdP 1)) (gN 4) (extM 3 (frM (lc [("height", 5)] (ci rng1O (consA (pure (.int 6)) nilA)) (gN 5) (pure true) (bin addD (rdP 4) (tupM (consA (rdP 5) nilA)))))))
    (setM 1 (rd 3)))) is ⟨[e0, fd, e2, e3, e4, .un], st⟩ = .ok .nx ⟨[e0, fd', e2', e3', e4', .un], st⟩ ∧ (fd' = .d (lK ((List.replicate is.length six).foldl stepK F)) ∨ fd' = .own (.lst (((List.replicate is.length six).foldl stepK F).map eK)))
  | [], F, m, fd, e2, e3, e4, _, _, _, hf => ⟨fd, e2, e3, e4, for_nil, hf⟩
  | p :: is, F, m, fd, e2, e3, e4, hg, hF, hm, hf => by
    rw [List.length_cons] at hm
    have hlen : (stepK F six).length ≤ 6 ^ (m + 1) := by rw [stepK_len, Nat.pow_succ, six_len]; omega
    have hbig : 6 ^ (m + 1) ≤ 6 ^ 6 := Nat.pow_le_pow_right (by decide) (by omega)
    have h66 : 6 ^ 6 = 46656 := by decide
    obtain ⟨e5', z⟩ := law_in (st := st) (e0 := e0) (e1 := .d (lK F)) (e2 := .d p) F [] e4 (fun g h => by have := hg g h; omega) (by simp; omega)
    rw [List.nil_append] at z
    obtain ⟨fd', a', b', c', z2, hf'⟩ := law_out (e0 := e0) is (stepK F six) (m + 1) (.d (lK (stepK F six))) (.d p) (.d (lK (stepK F six))) e5' (fun g h => by
      unfold stepK at h
      rw [List.mem_flatMap] at h
      obtain ⟨k, hk, h⟩ := h
      obtain ⟨a, _, rfl⟩ := List.mem_map.mp h
      have := hg k hk
      rw [List.length_append, List.length_singleton]
      rw [List.length_cons] at this
      omega) hlen (by omega) (.inl rfl)
    refine ⟨fd', a', b', c', ?_, hf'⟩
    rw [for_step (c1 := ⟨[e0, fd, .d p, e3, e4, .un], st⟩) (c2 := ⟨[e0, .d (lK (stepK F six)), .d p, .d (lK (stepK F six)), e5', .un], st⟩) (by simp) ?_, z2]
    have il : itemsO (lK F) = some (F.map eK) := rfl
    simp only [lK] at z il
    rcases hf with rfl | rfl
    · simp [z, il, lK]
    · simp [z, il, lK]
theorem law_keys_ok {n : Nat} (hn : n ≤ 5) : F__law_keys [.d (.int (n : Int))] st = .ok (.d (lK (everyK n))) st := by
  have hr := rng_iN n (by omega)
  have h1 : (1 : Nat) ≤ sizeLine := le1000 (by decide)
  have l0 : (PyData.list [.tuple []]) = lK [[]] := rfl
  obtain ⟨fd, e2, e3, e4, z, hf⟩ := law_out (st := st) (e0 := .d (.int (n : Int))) ((List.range n).map iN) [[]] 0 (.d (lK [[]])) .un .un .un (fun g hg => by rw [List.mem_singleton.mp hg]; simp only [List.length_nil, List.length_map, List.length_range]; omega) (by decide) (by simp only [List.length_map, List.length_range]; omega) (.inl rfl)
  rw [List.length_map, List.length_range, prodK_eq] at hf
  simp only [e__law_keys, u__law_keys]
  rcases hf with rfl | rfl
  · simp [l0, h1, hr, z, everyK]
  · have l2 : PyData.list ((prodC (List.replicate n six)).map eK) = lK (prodC (List.replicate n six)) := rfl
    simp [l0, h1, hr, z, everyK, l2]
end
/-! ### what is drawn -/
theorem some_ok {hd : List PyData} (h : HandOk hd) {xs : List PyData} (h1 : 1 ≤ xs.length) (h2 : xs.length ≤ 1000000) : ∃ x hd', F__law_some [.loc 0, .d (.list xs)] [.lst hd] = .ok (.d x) [.lst hd'] ∧ x ∈ xs ∧ HandOk hd' := by
  obtain ⟨x, hd', e, q1, q2, q3⟩ := draw_ok h (many := (xs.length : Int)) (by omega) (by omega)
  have hl : x.toNat < xs.length := by omega
  have hx : ixD (.list xs) (.int x) = some xs[x.toNat] := by
    have := o_ixL (k := x.toNat) (List.getElem?_eq_getElem hl)
    rw [show ((x.toNat : Nat) : Int) = x by omega] at this
    exact this
  refine ⟨xs[x.toNat], hd', ?_, List.getElem_mem hl, q3⟩
  simp [e__law_some, u__law_some, e, hx]
theorem lot_ok {hd : List PyData} (h : HandOk hd) {m : Nat} (h2 : 2 ≤ m) (h6 : m ≤ 6) : ∃ p hd', F__law_lot [.loc 0, .d (.int (m : Int))] [.lst hd] = .ok (.d (eK p)) [.lst hd'] ∧ GLot p ∧ HandOk hd' := by
  have hr := rng_iN m (by omega)
  obtain ⟨bs, c', z, ⟨hd1, hh1, rfl⟩, hs⟩ := lc_flt (own := [("height", 3)]) (f := ci rng1O (consA (rdP 1) nilA)) (g := gN 3) (t := tst (bin eqD (frM (cl F__law_draw (consC (rd 0) (consC (dM (pure (.int 2))) nilC)))) (pure (.int 0)))) (e := rdP 3) (c := ⟨[.loc 0, .d (.int (m : Int)), .un, .un], [.lst hd]⟩) (c1 := ⟨[.loc 0, .d (.int (m : Int)), .un, .un], [.lst hd]⟩) iN iN (as := List.range m)
    (fun c => ∃ hd', HandOk hd' ∧ c = ⟨[.loc 0, .d (.int (m : Int)), .un, .un], [.lst hd']⟩) (by simp [hr]) (le1000 (by rw [List.length_range]; omega)) ⟨hd, h, by simp [wip, wipeE]⟩ fun a _ c ⟨hd0, hh0, hc⟩ => by
      subst hc
      obtain ⟨x, hd', e, _, _, hh'⟩ := draw_ok hh0 (many := 2) (by decide) (by decide)
      refine ⟨⟨[.loc 0, .d (.int (m : Int)), .un, .d (iN a)], [.lst hd0]⟩, decide (x = 0), ⟨[.loc 0, .d (.int (m : Int)), .un, .d (iN a)], [.lst hd']⟩, by simp, by simp [e], fun _ => ⟨⟨[.loc 0, .d (.int (m : Int)), .un, .d (iN a)], [.lst hd']⟩, by simp, hd', hh', by simp [wip, wipeE]⟩, fun _ => ⟨hd', hh', by simp [wip, wipeE]⟩⟩
  have hpw : bs.Pairwise (· < ·) := List.Pairwise.sublist hs List.pairwise_lt_range
  have hlt : ∀ x ∈ bs, x < 6 := fun x hx => by
    have := List.mem_range.mp (hs.subset hx)
    omega
  by_cases hb : bs = []
  · subst hb
    obtain ⟨x, hd', e, q1, q2, hh'⟩ := draw_ok hh1 (many := (m : Int)) (by omega) (by omega)
    obtain ⟨k, rfl⟩ : ∃ k : Nat, (k : Int) = x := ⟨x.toNat, by omega⟩
    have h1 : (1 : Nat) ≤ sizeLine := le1000 (by decide)
    refine ⟨[k], hd', ?_, ⟨by simp, List.pairwise_singleton _ _, fun y hy => by rw [List.mem_singleton.mp hy]; omega⟩, hh'⟩
    simp only [e__law_lot, u__law_lot]
    simp [z, e, h1, eK, iN]
  · refine ⟨bs, hd1, ?_, ⟨hb, hpw, hlt⟩, hh1⟩
    have : 0 < bs.length := List.length_pos_iff.mpr hb
    have hp : (0 : Int) < (bs.length : Int) := by omega
    simp only [e__law_lot, u__law_lot]
    simp [z, tup_eK, len_eK, this]
theorem locks_ok {hd : List PyData} (h : HandOk hd) {n : Nat} (h1 : 1 ≤ n) (h3 : n ≤ 3) : ∃ ls hd', F__law_locks [.loc 0, .d (.int 5), .d (.int (n : Int))] [.lst hd] = .ok (.d (eLs ls)) [.lst hd'] ∧ GLocks n ls ∧ ls.length ≤ 5 ∧ HandOk hd' := by
  obtain ⟨x, hd1, s1, hx, hh1⟩ := some_ok h (xs := [.int 2, .int 4, .int 6]) (by simp) (by simp)
  obtain ⟨m, rfl, m2, m6⟩ : ∃ m : Nat, x = .int (m : Int) ∧ 2 ≤ m ∧ m ≤ 6 := by
    simp only [List.mem_cons, List.not_mem_nil, or_false] at hx
    rcases hx with rfl | rfl | rfl
    · exact ⟨2, rfl, by decide, by decide⟩
    · exact ⟨4, rfl, by decide, by decide⟩
    · exact ⟨6, rfl, by decide, by decide⟩
  obtain ⟨y, hd2, s2, y0, y5, hh2⟩ := draw_ok hh1 (many := 5) (by decide) (by decide)
  obtain ⟨j, rfl⟩ : ∃ j : Nat, (j : Int) = y := ⟨y.toNat, by omega⟩
  have hr := rng_iN (1 + j) (by omega)
  have hrn := rng_iN n (by omega)
  have e1 : ((1 + j : Nat) : Int) = 1 + (j : Int) := by omega
  rw [e1] at hr
  obtain ⟨ls, c', z, ⟨hd3, hh3, rfl⟩, hl, hq⟩ := lc_gen eL (fun l : Lock => l.length = n ∧ ∀ p ∈ l, GLot p) (own := [("lock", 5)]) (f := ci rng1O (consA (bin addD (pure (.int 1)) (frM (cl F__law_draw (consC (rd 0) (consC (rd 1) nilC))))) nilA)) (g := gN 5)
    (e := ca tupD (consA (frM (lc [("pin", 4)] (ci rng1O (consA (rdP 2) nilA)) (gN 4) (pure true) (frM (cl F__law_lot (consC (rd 0) (consC (rd 3) nilC)))))) nilA)) (xs := (List.range (1 + j)).map iN) (c := ⟨[.loc 0, .d (.int 5), .d (.int (n : Int)), .d (.int (m : Int)), .un, .un], [.lst hd1]⟩) (c1 := ⟨[.loc 0, .d (.int 5), .d (.int (n : Int)), .d (.int (m : Int)), .un, .un], [.lst hd2]⟩)
    (fun c => ∃ hd', HandOk hd' ∧ c = ⟨[.loc 0, .d (.int 5), .d (.int (n : Int)), .d (.int (m : Int)), .un, .un], [.lst hd']⟩) (by simp [s2, hr]) (le1000 (by rw [List.length_map, List.length_range]; omega)) ⟨hd2, hh2, by simp [wip, wipeE]⟩ fun x _ c ⟨hd0, hh0, hc⟩ => by
      subst hc
      obtain ⟨l, c'', z', ⟨hd4, hh4, rfl⟩, hl', hq'⟩ := lc_gen eK GLot (own := [("pin", 4)]) (f := ci rng1O (consA (rdP 2) nilA)) (g := gN 4) (e := frM (cl F__law_lot (consC (rd 0) (consC (rd 3) nilC)))) (xs := (List.range n).map iN) (c := ⟨[.loc 0, .d (.int 5), .d (.int (n : Int)), .d (.int (m : Int)), .un, .d x], [.lst hd0]⟩) (c1 := ⟨[.loc 0, .d (.int 5), .d (.int (n : Int)), .d (.int (m : Int)), .un, .d x], [.lst hd0]⟩)
        (fun c => ∃ hd', HandOk hd' ∧ c = ⟨[.loc 0, .d (.int 5), .d (.int (n : Int)), .d (.int (m : Int)), .un, .d x], [.lst hd']⟩) (by simp [hrn]) (le1000 (by rw [List.length_map, List.length_range]; omega)) ⟨hd0, hh0, by simp [wip, wipeE]⟩ fun y _ c ⟨hd5, hh5, hc⟩ => by
          subst hc
          obtain ⟨p, hd6, s6, g6, hh6⟩ := lot_ok hh5 m2 m6
          exact ⟨⟨[.loc 0, .d (.int 5), .d (.int (n : Int)), .d (.int (m : Int)), .d y, .d x], [.lst hd5]⟩, p, ⟨[.loc 0, .d (.int 5), .d (.int (n : Int)), .d (.int (m : Int)), .d y, .d x], [.lst hd6]⟩, by simp, by simp [s6], g6, hd6, hh6, by simp [wip, wipeE]⟩
      rw [List.length_map, List.length_range] at hl'
      refine ⟨⟨[.loc 0, .d (.int 5), .d (.int (n : Int)), .d (.int (m : Int)), .un, .d x], [.lst hd0]⟩, l, ⟨[.loc 0, .d (.int 5), .d (.int (n : Int)), .d (.int (m : Int)), .un, .d x], [.lst hd4]⟩, by simp, by simp [z', eL], ⟨hl', hq'⟩, hd4, hh4, by simp [wip, wipeE]⟩
  rw [List.length_map, List.length_range] at hl
  have h3' : (3 : Nat) ≤ sizeLine := le1000 (by decide)
  refine ⟨ls, hd3, ?_, ⟨h1, by omega, by omega, by omega, fun l hl => (hq l hl).1, fun l hl => (hq l hl).2⟩, by omega, hh3⟩
  simp only [e__law_locks, u__law_locks]
  simp [h3', s1, z, eLs]
end Law

namespace Law
open PySem PySem.Spec PyProof.Rows L2 L2.DL
theorem every_len {n : Nat} (h3 : n ≤ 3) : (everyK n).length ≤ 216 := by
  have h := prodC_count (L := List.replicate n six) (B := 6) fun p hp => by
    rw [List.eq_of_mem_replicate hp]; decide
  rw [List.length_replicate] at h
  have : 6 ^ n ≤ 6 ^ 3 := Nat.pow_le_pow_right (by decide) h3
  have e : 6 ^ 3 = 216 := by decide
  unfold everyK
  omega
theorem every_mem {n : Nat} {k : Lot} (h : k ∈ everyK n) : GKey n k := by
  refine ⟨by rw [prodC_len h, List.length_replicate], fun x hx => ?_⟩
  obtain ⟨p, hp, hx⟩ := prodC_mem h x hx
  rw [List.eq_of_mem_replicate hp] at hx
  exact List.mem_range.mp hx
theorem every_ne (n : Nat) : 1 ≤ (everyK n).length := by
  unfold everyK
  induction n with
  | zero => decide
  | succ n ih =>
    rw [List.replicate_succ, prodC_cons, List.length_flatMap]
    generalize prodC (List.replicate n six) = P at ih ⊢
    have : six = 0 :: [1, 2, 3, 4, 5] := by decide
    rw [this, List.map_cons, List.sum_cons, List.length_map]
    omega
def eW (ls : List Lock) (key : Lot) : PyData := eK (who ls key)
def lW (ls : List Lock) (n : Nat) : PyData := .list ((everyK n).map (eW ls))
theorem noB_eW (ls : List Lock) (key : Lot) : noB (eW ls key) = true := noB_eK _
theorem eW_iff (ls : List Lock) (key w : Lot) : decide (who ls key = w) = true ↔ eW ls key = eK w := by
  rw [decide_eq_true_iff]
  exact ⟨fun h => by unfold eW; rw [h], fun h => eK_inj h⟩
theorem lay_nats : ∀ xs : List Nat, PyData.canLayAll0 (xs.map iN) = true
  | [] => by simp [PyData.canLayAll0]
  | x :: xs => by rw [List.map_cons, PyData.canLayAll0, lay_nats xs]; simp [iN, PyData.canLay0]
theorem lay_eK (k : Lot) : (eK k).canLay0 = true := by unfold eK; rw [PyData.canLay0]; exact lay_nats k
theorem lay_map {α : Type} (f : α → PyData) (h : ∀ a, (f a).canLay0 = true) : ∀ xs : List α, PyData.canLayAll0 (xs.map f) = true
  | [] => by simp [PyData.canLayAll0]
  | x :: xs => by rw [List.map_cons, PyData.canLayAll0, lay_map f h xs, h]; rfl
theorem shaped_eK (k : Lot) : SeqAt.shaped (eK k) = true := by
  have := dep_eK k
  unfold SeqAt.shaped
  rw [lay_eK, decide_eq_true (show (eK k).depth ≤ 64 by omega)]
  rfl
theorem shaped_list {α : Type} (f : α → PyData) (h : ∀ a, (f a).canLay0 = true) (h2 : ∀ a, (f a).depth ≤ 2) (xs : List α) : SeqAt.shaped (.list (xs.map f)) = true := by
  have h3 := depth_map0 f 2 h2 xs
  have h4 : (PyData.list (xs.map f)).depth ≤ 64 := by rw [PyData.depth]; omega
  have h5 : (PyData.list (xs.map f)).canLay0 = true := by rw [PyData.canLay0]; exact lay_map f h xs
  unfold SeqAt.shaped
  rw [h5, decide_eq_true h4]
  rfl
theorem find_idx {α : Type} (p : α → Bool) : ∀ xs : List α, (∃ j x, xs.find? p = some x ∧ xs.findIdx? p = some j ∧ xs[j]? = some x ∧ xs.any p = true) ∨ (xs.find? p = none ∧ xs.any p = false)
  | [] => .inr ⟨rfl, rfl⟩
  | x :: xs => by
    cases e : p x with
    | true => exact .inl ⟨0, x, by rw [List.find?_cons, e], by rw [List.findIdx?_cons, e]; rfl, rfl, by rw [List.any_cons, e]; rfl⟩
    | false =>
      rcases find_idx p xs with ⟨j, y, h1, h2, h3, h4⟩ | ⟨h1, h2⟩
      · exact .inl ⟨j + 1, y, by rw [List.find?_cons, e]; exact h1, by rw [List.findIdx?_cons, e, h2]; rfl, by simpa using h3, by rw [List.any_cons, e, h4]; rfl⟩
      · exact .inr ⟨by rw [List.find?_cons, e]; exact h1, by rw [List.any_cons, e, h2]; rfl⟩
theorem any_iff {ls : List Lock} {n : Nat} (w : Lot) : ((everyK n).any fun key => decide (who ls key = w)) = true ↔ eK w ∈ (everyK n).map (eW ls) := by
  rw [List.any_eq_true, List.mem_map]
  constructor
  · rintro ⟨k, hk, e⟩
    exact ⟨k, hk, (eW_iff ls k w).mp e⟩
  · rintro ⟨k, hk, e⟩
    exact ⟨k, hk, (eW_iff ls k w).mpr e⟩
theorem in_lW (ls : List Lock) (n : Nat) (w : Lot) : inD (eK w) (lW ls n) = some (.bool ((everyK n).any fun key => decide (who ls key = w))) :=
  inD_val (noB_eK w) (noB_map _ (noB_eW ls) _) (Nat.le_trans (dep_eK w) (by decide)) (any_iff w)
theorem count_lW (ls : List Lock) (n : Nat) (w : Lot) : countD (lW ls n) [eK w] = some (.int (((everyK n).filter fun key => decide (who ls key = w)).length : Nat)) :=
  countD_val (eW ls) (fun key => decide (who ls key = w)) (noB_eK w) (noB_eW ls) (Nat.le_trans (dep_eK w) (by decide)) fun k _ => eW_iff ls k w
theorem index_lW (ls : List Lock) (n : Nat) (w : Lot) {j : Nat} (h : (everyK n).findIdx? (fun key => decide (who ls key = w)) = some j) : indexD (lW ls n) [eK w] = some (.int (j : Nat)) :=
  indexD_val (eW ls) (fun key => decide (who ls key = w)) (noB_eK w) (noB_eW ls) (shaped_list _ (fun _ => lay_eK _) (fun _ => Nat.le_trans (dep_eK _) (by decide)) _) (shaped_eK w) (fun k _ => eW_iff ls k w) h
theorem index_lK (F : List Lot) (k : Lot) (hk : k ∈ F) : ∃ j, indexD (lK F) [eK k] = some (.int (j : Nat)) ∧ F[j]? = some k := by
  rcases find_idx (fun a => decide (a = k)) F with ⟨j, x, h1, h2, h3, h4⟩ | ⟨h1, h2⟩
  · have hx := List.find?_some h1
    rw [decide_eq_true_iff] at hx
    subst hx
    exact ⟨j, indexD_val eK (fun a => decide (a = x)) (noB_eK x) noB_eK (shaped_list _ lay_eK (fun _ => Nat.le_trans (dep_eK _) (by decide)) _) (shaped_eK x) (fun a _ => by rw [decide_eq_true_iff]; exact ⟨fun h => by rw [h], eK_inj⟩) h2, h3⟩
  · rw [List.any_eq_false] at h2
    exact absurd (decide_eq_true rfl) (h2 k hk)
theorem sm_eK {n : Nat} {k : Lot} (h : GKey n k) (hn : n ≤ 5) : Sm (5 * 42) 1 (eK k) := sm_tup iN (fun x hx => sm_iN (by have := h.lt x hx; omega)) (by have := h.len; omega)
theorem repr_opt {n : Nat} {o : Option Lot} (h : ∀ k, o = some k → GKey n k) (hn : n ≤ 5) : reprD [optK o] = some (.str (optK o).shown) := by
  cases o with
  | none => exact repr_sm sm_none (by decide) (by decide)
  | some k => exact repr_sm (sm_eK (h k rfl) hn) (by decide) (by decide)
theorem repr_nat {k : Nat} (h : k ≤ 1000) : reprD [.int (k : Int)] = some (.str (PyData.int (k : Int)).shown) := repr_sm (sm_iN (n := k) (by omega)) (by decide) (by decide)
theorem who_lt {ls : List Lock} {key : Lot} : ∀ x ∈ who ls key, x < ls.length := fun x hx => List.mem_range.mp (List.mem_filter.mp hx).1
theorem repr_whos {ls : List Lock} {ks : List Lot} (hl : ls.length ≤ 6) (h6 : ks.length ≤ 6) : reprD [.tuple (ks.map (eW ls))] = some (.str (PyData.tuple (ks.map (eW ls))).shown) :=
  repr_sm (sm_tup (eW ls) (w := 6 * 42) (k := 1) (n := 6) (fun k _ => sm_tup iN (fun x hx => sm_iN (by have := who_lt x hx; omega)) (Nat.le_trans (who_sub ls k) hl)) h6) (by decide) (by decide)
end Law

namespace Law
open PySem PySem.Spec PyProof.Rows L2 L2.DL
section
variable {st : List OB} {n : Nat} {ls : List Lock}
theorem chk_lW (c : Co) : chkT "list" (lW ls n) c = .ok () c := id rfl
theorem chk_lK (F : List Lot) (c : Co) : chkT "list" (lK F) c = .ok () c := id rfl
theorem it_lK (F : List Lot) : itemsO (lK F) = some (F.map eK) := id rfl
/-! ### who opens what: the list -/
theorem lots_ok (h : GLocks n ls) (h3 : n ≤ 3) {a : EV} : lc [("key", 7)] (itm (rdP 3)) (gN 7) (pure true) (ca tupD (consA (frM (lc [("at", 5), ("lock", 6)] (ci enumO (consA (rdP 2) nilA)) (gT [(gN 5), (gN 6)]) (tst (frM (cl F__law_opens (consC (rd 6) (consC (rd 7) nilC))))) (rdP 5))) nilA))
    ⟨[.loc 0, a, .d (eLs ls), .d (lK (everyK n)), .un, .un, .un, .un, .un, .un, .un, .un, .un, .un, .un, .un, .un], st⟩ = .ok (.own (.lst ((everyK n).map (eW ls)))) ⟨[.loc 0, a, .d (eLs ls), .d (lK (everyK n)), .un, .un, .un, .un, .un, .un, .un, .un, .un, .un, .un, .un, .un], st⟩ := by
  have hl := every_len h3
  have m6 := h.m6
  rw [lc_map (c1 := ⟨[.loc 0, a, .d (eLs ls), .d (lK (everyK n)), .un, .un, .un, .un, .un, .un, .un, .un, .un, .un, .un, .un, .un], st⟩) eK (eW ls) (as := everyK n) (by simp [it_lK]) (le1000 (by omega)) fun k hk => ⟨⟨[.loc 0, a, .d (eLs ls), .d (lK (everyK n)), .un, .un, .un, .d (eK k), .un, .un, .un, .un, .un, .un, .un, .un, .un], st⟩, by simp [wip, wipeE], by simp [wip, wipeE], by
    have z : lc [("at", 5), ("lock", 6)] (ci enumO (consA (rdP 2) nilA)) (gT [(gN 5), (gN 6)]) (tst (frM (cl F__law_opens (consC (rd 6) (consC (rd 7) nilC))))) (rdP 5) ⟨[.loc 0, a, .d (eLs ls), .d (lK (everyK n)), .un, .un, .un, .d (eK k), .un, .un, .un, .un, .un, .un, .un, .un, .un], st⟩ = .ok (.own (.lst ((who ls k).map iN))) ⟨[.loc 0, a, .d (eLs ls), .d (lK (everyK n)), .un, .un, .un, .d (eK k), .un, .un, .un, .un, .un, .un, .un, .un, .un], st⟩ := by
      rw [lc_pure (c1 := ⟨[.loc 0, a, .d (eLs ls), .d (lK (everyK n)), .un, .un, .un, .d (eK k), .un, .un, .un, .un, .un, .un, .un, .un, .un], st⟩) (fun i => PyData.tuple [iN i, eL (ls.getD i [])]) (fun i => opens (ls.getD i []) k) iN (as := List.range ls.length) (by simp [enum_eLs]) (le1000 (by rw [List.length_range]; omega)) fun i hi => ⟨⟨[.loc 0, a, .d (eLs ls), .d (lK (everyK n)), .un, .d (iN i), .d (eL (ls.getD i [])), .d (eK k), .un, .un, .un, .un, .un, .un, .un, .un, .un], st⟩, by simp [wip, wipeE], by simp [wip, wipeE], by
        have hd := law_opens_ok (st := st) (l := ls.getD i []) (by rw [h.len _ (h.at (List.mem_range.mp hi))]; exact h.n5) k
        simp [-List.getD_eq_getElem?_getD, hd], fun _ => by simp⟩]
      simp [wip, wipeE, who]
    simp [z, tup_eK, eW]⟩]
  simp [wip, wipeE]
/-! ### the product -/
theorem right_comp (h : GLocks n ls) {a e3 e4 e8 e9 : EV} {i : Nat} (hi : i < n) : lc [("height", 11)] (ci rng1O (consA (pure (.int 6)) nilA)) (gN 11) (tst (ca allD (consA (frM (lc [("lock", 6)] (itm (rdP 2)) (gN 6) (pure true) (bin inD (rdP 11) (ixS 6 (rdP 10))))) nilA))) (rdP 11)
    ⟨[.loc 0, a, .d (eLs ls), e3, e4, .un, .un, .un, e8, e9, .d (iN i), .un, .un, .un, .un, .un, .un], st⟩ = .ok (.own (.lst ((rightAt ls i).map iN))) ⟨[.loc 0, a, .d (eLs ls), e3, e4, .un, .un, .un, e8, e9, .d (iN i), .un, .un, .un, .un, .un, .un], st⟩ := by
  have m6 := h.m6
  rw [lc_pure (c1 := ⟨[.loc 0, a, .d (eLs ls), e3, e4, .un, .un, .un, e8, e9, .d (iN i), .un, .un, .un, .un, .un, .un], st⟩) iN (fun x => ls.all fun l => (l.getD i []).contains x) iN (as := six) (by simp [rng_6]) (le1000 (by decide)) fun x _ => ⟨⟨[.loc 0, a, .d (eLs ls), e3, e4, .un, .un, .un, e8, e9, .d (iN i), .d (iN x), .un, .un, .un, .un, .un], st⟩, by simp [wip, wipeE], by simp [wip, wipeE], by
    have z1 : lc [("lock", 6)] (itm (rdP 2)) (gN 6) (pure true) (bin inD (rdP 11) (ixS 6 (rdP 10))) ⟨[.loc 0, a, .d (eLs ls), e3, e4, .un, .un, .un, e8, e9, .d (iN i), .d (iN x), .un, .un, .un, .un, .un], st⟩ = .ok (.own (.lst (ls.map fun l => .bool ((l.getD i []).contains x)))) ⟨[.loc 0, a, .d (eLs ls), e3, e4, .un, .un, .un, e8, e9, .d (iN i), .d (iN x), .un, .un, .un, .un, .un], st⟩ := by
      rw [lc_map (c1 := ⟨[.loc 0, a, .d (eLs ls), e3, e4, .un, .un, .un, e8, e9, .d (iN i), .d (iN x), .un, .un, .un, .un, .un], st⟩) eL (fun l => PyData.bool ((l.getD i []).contains x)) (as := ls) (by simp [it_eLs]) (le1000 (by omega)) fun l hl => ⟨⟨[.loc 0, a, .d (eLs ls), e3, e4, .un, .d (eL l), .un, e8, e9, .d (iN i), .d (iN x), .un, .un, .un, .un, .un], st⟩, by simp [wip, wipeE], by simp [wip, wipeE], by
        have := ix_eL (l := l) (i := i) (by rw [h.len l hl]; exact hi)
        simp [-List.contains_eq_mem, -List.getD_eq_getElem?_getD, iN_eq, this, in_eK]⟩]
      simp [wip, wipeE]
    have := all_map ls fun l => (l.getD i []).contains x
    simp only [s_tst, s_ca, s_consA, s_frM, z1]
    simp [-List.contains_eq_mem, -List.getD_eq_getElem?_getD, this], fun _ => by simp⟩]
  simp [wip, wipeE, rightAt]
theorem product_loop (h : GLocks n ls) {a e3 e4 e8 : EV} : ∀ (is : List Nat) (v : Int) (e10 : EV), (∀ i ∈ is, i < n) → ∃ e10', forM (gN 10) (setM 9 (dM (bin mulD (rdP 9) (lnM (frM (lc [("height", 11)] (ci rng1O (consA (pure (.int 6)) nilA)) (gN 11) (tst (ca allD (consA (frM (lc [("lock", 6)] (itm (rdP 2)) (gN 6) (pure true) (bin inD (rdP 11) (ixS 6 (rdP 10))))) nilA))) (rdP 11))))))) (is.map iN)
    ⟨[.loc 0, a, .d (eLs ls), e3, e4, .un, .un, .un, e8, .d (.int v), e10, .un, .un, .un, .un, .un, .un], st⟩ = .ok .nx ⟨[.loc 0, a, .d (eLs ls), e3, e4, .un, .un, .un, e8, .d (.int (v * ((prodN (is.map fun i => (rightAt ls i).length) : Nat) : Int))), e10', .un, .un, .un, .un, .un, .un], st⟩
  | [], v, e10, _ => ⟨e10, by rw [List.map_nil, for_nil]; simp [prodN]⟩
  | i :: is, v, e10, hi => by
    obtain ⟨e10', ih⟩ := product_loop h (a := a) (e3 := e3) (e4 := e4) (e8 := e8) is (v * ((rightAt ls i).length : Int)) (.d (iN i)) fun j hj => hi j (List.mem_cons_of_mem _ hj)
    refine ⟨e10', ?_⟩
    have z := right_comp (st := st) h (a := a) (e3 := e3) (e4 := e4) (e8 := e8) (e9 := .d (.int v)) (hi i (List.mem_cons_self ..))
    have hl := right_len ls i
    have hm := o_mulR v (b := ((rightAt ls i).length : Int)) (by omega) (by omega)
    rw [List.map_cons, for_step (c1 := ⟨[.loc 0, a, .d (eLs ls), e3, e4, .un, .un, .un, e8, .d (.int v), .d (iN i), .un, .un, .un, .un, .un, .un], st⟩) (c2 := ⟨[.loc 0, a, .d (eLs ls), e3, e4, .un, .un, .un, e8, .d (.int (v * ((rightAt ls i).length : Int))), .d (iN i), .un, .un, .un, .un, .un, .un], st⟩) (by simp) (by simp [z, hm]), ih]
    have e : prodN ((i :: is).map fun i => (rightAt ls i).length) = (rightAt ls i).length * prodN (is.map fun i => (rightAt ls i).length) := rfl
    rw [e, Int.natCast_mul, Int.mul_assoc]
/-! ### each lock's own key -/
theorem own_good (h : GLocks n ls) {k : Nat} (hk : k < ls.length) : ∀ key, ownK ls k = some key → GKey n key := fun key e => by
  rw [own_due h hk] at e
  exact every_mem (List.mem_of_find?_eq_some e)
theorem own_loop (h : GLocks n ls) (h3 : n ≤ 3) {a e8 e9 e10 : EV} : ∀ (is : List Nat) (e12 e13 : EV), (∀ k ∈ is, k < ls.length) → ∃ e12' e13', forM (gN 12) (thenM (setM 13 (dM (iteM (tst (bin inD (tupM (consA (rdP 12) nilA)) (rdP 4))) (ixS 3 (mtM "list" indexD (rdP 4) (consA (tupM (consA (rdP 12) nilA)) nilA))) (pure .none))))
    (iteM (tst (bin neD (ca reprD (consA (frM (cl F_own_key (consC (rd 2) (consC (rd 12) nilC)))) nilA)) (ca reprD (consA (rdP 13) nilA)))) (retM (dM (pure (.bool false)))) (pure .nx))) (is.map iN)
    ⟨[.loc 0, a, .d (eLs ls), .d (lK (everyK n)), .d (lW ls n), .un, .un, .un, e8, e9, e10, .un, e12, e13, .un, .un, .un], st⟩ = .ok .nx ⟨[.loc 0, a, .d (eLs ls), .d (lK (everyK n)), .d (lW ls n), .un, .un, .un, e8, e9, e10, .un, e12', e13', .un, .un, .un], st⟩
  | [], e12, e13, _ => ⟨e12, e13, by rw [List.map_nil, for_nil]⟩
  | k :: is, e12, e13, hi => by
    have hk := hi k (List.mem_cons_self ..)
    obtain ⟨e12', e13', ih⟩ := own_loop h h3 (a := a) (e8 := e8) (e9 := e9) (e10 := e10) is (.d (iN k)) (.d (optK (ownK ls k))) fun j hj => hi j (List.mem_cons_of_mem _ hj)
    refine ⟨e12', e13', ?_⟩
    have h1 : (1 : Nat) ≤ sizeLine := le1000 (by decide)
    have z := own_key_ok (st := st) h hk
    have hrp := repr_opt (own_good h hk) (by omega)
    have hne := neD_str (optK (ownK ls k)).shown
    have ht : PyData.tuple [.int (k : Int)] = eK [k] := rfl
    have hin := in_lW ls n [k]
    rw [List.map_cons, for_step (c1 := ⟨[.loc 0, a, .d (eLs ls), .d (lK (everyK n)), .d (lW ls n), .un, .un, .un, e8, e9, e10, .un, .d (iN k), e13, .un, .un, .un], st⟩) (c2 := ⟨[.loc 0, a, .d (eLs ls), .d (lK (everyK n)), .d (lW ls n), .un, .un, .un, e8, e9, e10, .un, .d (iN k), .d (optK (ownK ls k)), .un, .un, .un], st⟩) (by simp) ?_, ih]
    have hd := own_due h hk
    rcases find_idx (fun key => decide (who ls key = [k])) (everyK n) with ⟨j, x, q1, q2, q3, q4⟩ | ⟨q1, q2⟩
    · rw [q1] at hd
      rw [q4] at hin
      have hix := index_lW ls n [k] q2
      have hx : ixD (lK (everyK n)) (.int (j : Nat)) = some (eK x) := o_ixL (by rw [List.getElem?_map, q3]; rfl)
      rw [hd] at z hrp hne ⊢
      simp only [optK] at z hrp hne ⊢
      simp only [iN_eq] at *
      simp [h1, ht, hin, hix, hx, chk_lW, z, hrp, hne]
    · rw [q1] at hd
      rw [q2] at hin
      rw [hd] at z hrp hne ⊢
      simp only [optK] at z hrp hne ⊢
      simp only [iN_eq] at *
      simp [h1, ht, hin, chk_lW, z, hrp, hne]
end
end Law

namespace Law
open PySem PySem.Spec PyProof.Rows L2 L2.DL
section
variable {st : List OB} {n : Nat} {ls : List Lock}
theorem due_keys (h : GLocks n ls) {a e8 e9 e10 e12 e13 : EV} {ks : List Lot} (h6 : ks.length ≤ 6) (hk : ∀ k ∈ ks, k ∈ everyK n) :
    lc [("key", 7)] (itm (rdP 14)) (gN 7) (pure true) (ixS 4 (mtM "list" indexD (rdP 3) (consA (rdP 7) nilA))) ⟨[.loc 0, a, .d (eLs ls), .d (lK (everyK n)), .d (lW ls n), .un, .un, .un, e8, e9, e10, .un, e12, e13, .d (.tuple (ks.map eK)), .un, .un], st⟩ =
      .ok (.own (.lst (ks.map (eW ls)))) ⟨[.loc 0, a, .d (eLs ls), .d (lK (everyK n)), .d (lW ls n), .un, .un, .un, e8, e9, e10, .un, e12, e13, .d (.tuple (ks.map eK)), .un, .un], st⟩ := by
  rw [lc_map (c1 := ⟨[.loc 0, a, .d (eLs ls), .d (lK (everyK n)), .d (lW ls n), .un, .un, .un, e8, e9, e10, .un, e12, e13, .d (.tuple (ks.map eK)), .un, .un], st⟩) eK (eW ls) (as := ks) (by simp) (le1000 (by omega)) fun k hk' => ⟨⟨[.loc 0, a, .d (eLs ls), .d (lK (everyK n)), .d (lW ls n), .un, .un, .d (eK k), e8, e9, e10, .un, e12, e13, .d (.tuple (ks.map eK)), .un, .un], st⟩, by simp [wip, wipeE], by simp [wip, wipeE], by
    obtain ⟨j, q1, q2⟩ := index_lK (everyK n) k (hk k hk')
    have hx : ixD (lW ls n) (.int (j : Nat)) = some (eW ls k) := o_ixL (by rw [List.getElem?_map, q2]; rfl)
    simp [q1, hx, chk_lK]⟩]
  simp [wip, wipeE]
end
theorem right_ok {hd : List PyData} (hh : HandOk hd) : ∃ hd', F__law_right [.loc 0] [.lst hd] = .ok (.d (.bool true)) [.lst hd'] ∧ HandOk hd' := by
  obtain ⟨y, hd1, z1, y0, y3, hh1⟩ := draw_ok hh (many := 3) (by decide) (by decide)
  obtain ⟨n, hn⟩ : ∃ n : Nat, (n : Int) = 1 + y := ⟨(1 + y).toNat, by omega⟩
  have n1 : 1 ≤ n := by omega
  have n3 : n ≤ 3 := by omega
  obtain ⟨ls, hd2, z2, h, m5, hh2⟩ := locks_ok hh1 n1 n3
  have m1 := h.m1
  have z3 := law_keys_ok (st := [.lst hd2]) (n := n) (by omega)
  have z4 := lots_ok (st := [.lst hd2]) h n3 (a := .d (.int (n : Int)))
  have hw : (PyData.tuple ((List.range ls.length).map fun i : Nat => PyData.int (i : Int))) = eK (List.range ls.length) := rfl
  obtain ⟨e10, z6⟩ := product_loop (st := [.lst hd2]) h (a := .d (.int (n : Int))) (e3 := .d (lK (everyK n))) (e4 := .d (lW ls n)) (e8 := .d (eK (List.range ls.length))) (List.range n) 1 .un fun i hi => List.mem_range.mp hi
  have hprod : prodN ((List.range n).map fun i => (rightAt ls i).length) = howMany ls n := by
    unfold howMany rightsL; rw [List.map_map]; rfl
  rw [Int.one_mul, hprod] at z6
  have hcnt := count_lW ls n (List.range ls.length)
  rw [howMany_eq h] at hcnt
  have hm216 : howMany ls n ≤ 1000 := by
    rw [← howMany_eq h]
    exact Nat.le_trans (List.length_filter_le _ _) (Nat.le_trans (every_len n3) (by decide))
  have z7 := keys_count_ok (st := [.lst hd2]) h
  have r7 := repr_nat hm216
  have s7 := neD_str (PyData.int (howMany ls n : Nat)).shown
  obtain ⟨x8, z8⟩ := key_or_pin_ok (st := [.lst hd2]) h
  obtain ⟨e12, e13, z9⟩ := own_loop (st := [.lst hd2]) h n3 (a := .d (.int (n : Int))) (e8 := .d (eK (List.range ls.length))) (e9 := .d (.int (howMany ls n : Nat))) (e10 := e10) (List.range ls.length) .un .un fun k hk => List.mem_range.mp hk
  -- the keys drawn
  obtain ⟨t, hd3, z10, t0, t6, hh3⟩ := draw_ok hh2 (many := 6) (by decide) (by decide)
  obtain ⟨j, rfl⟩ : ∃ j : Nat, (j : Int) = t := ⟨t.toNat, by omega⟩
  have hr := rng_iN (1 + j) (by omega)
  rw [show ((1 + j : Nat) : Int) = 1 + (j : Int) by omega] at hr
  obtain ⟨ks, c', z11, ⟨hd4, hh4, rfl⟩, hkl, hks⟩ := lc_gen eK (fun k : Lot => k ∈ everyK n) (own := [("turn", 15)]) (f := ci rng1O (consA (bin addD (pure (.int 1)) (frM (cl F__law_draw (consC (rd 0) (consC (dM (pure (.int 6))) nilC))))) nilA)) (g := gN 15) (e := frM (cl F__law_some (consC (rd 0) (consC (rd 3) nilC)))) (xs := (List.range (1 + j)).map iN)
    (c := ⟨[.loc 0, .d (.int (n : Int)), .d (eLs ls), .d (lK (everyK n)), .d (lW ls n), .un, .un, .un, .d (eK (List.range ls.length)), .d (.int (howMany ls n : Nat)), e10, .un, e12, e13, .un, .un, .un], [.lst hd2]⟩)
    (c1 := ⟨[.loc 0, .d (.int (n : Int)), .d (eLs ls), .d (lK (everyK n)), .d (lW ls n), .un, .un, .un, .d (eK (List.range ls.length)), .d (.int (howMany ls n : Nat)), e10, .un, e12, e13, .un, .un, .un], [.lst hd3]⟩)
    (fun c => ∃ hd', HandOk hd' ∧ c = ⟨[.loc 0, .d (.int (n : Int)), .d (eLs ls), .d (lK (everyK n)), .d (lW ls n), .un, .un, .un, .d (eK (List.range ls.length)), .d (.int (howMany ls n : Nat)), e10, .un, e12, e13, .un, .un, .un], [.lst hd']⟩)
    (by simp [z10, hr]) (le1000 (by rw [List.length_map, List.length_range]; omega)) ⟨hd3, hh3, by simp [wip, wipeE]⟩ fun x _ c ⟨hd5, hh5, hc⟩ => by
      subst hc
      obtain ⟨k, hd6, s6, hk6, hh6⟩ := some_ok hh5 (xs := (everyK n).map eK) (by rw [List.length_map]; exact every_ne n) (by rw [List.length_map]; have := every_len n3; omega)
      obtain ⟨k, hk, rfl⟩ := List.mem_map.mp hk6
      have s6 : F__law_some [.loc 0, .d (lK (everyK n))] [.lst hd5] = .ok (.d (eK k)) [.lst hd6] := s6
      exact ⟨⟨[.loc 0, .d (.int (n : Int)), .d (eLs ls), .d (lK (everyK n)), .d (lW ls n), .un, .un, .un, .d (eK (List.range ls.length)), .d (.int (howMany ls n : Nat)), e10, .un, e12, e13, .un, .d x, .un], [.lst hd5]⟩, k, ⟨[.loc 0, .d (.int (n : Int)), .d (eLs ls), .d (lK (everyK n)), .d (lW ls n), .un, .un, .un, .d (eK (List.range ls.length)), .d (.int (howMany ls n : Nat)), e10, .un, e12, e13, .un, .d x, .un], [.lst hd6]⟩, by simp, by simp [s6], hk, hd6, hh6, by simp [wip, wipeE]⟩
  rw [List.length_map, List.length_range] at hkl
  have z12 : F_key_by_key [.d (eLs ls), .d (.tuple (ks.map eK))] [.lst hd4] = .ok (.d (.tuple (ks.map (eW ls)))) [.lst hd4] := key_by_key_ok (st := [.lst hd4]) h (ks := ks) (by omega) (by omega) fun k hk => every_mem (hks k hk)
  have z13 := due_keys (st := [.lst hd4]) h (a := .d (.int (n : Int))) (e8 := .d (eK (List.range ls.length))) (e9 := .d (.int (howMany ls n : Nat))) (e10 := e10) (e12 := e12) (e13 := e13) (ks := ks) (by omega) hks
  have r13 := repr_whos (ls := ls) (ks := ks) (by omega) (by omega)
  have s13 := neD_str (PyData.tuple (ks.map (eW ls))).shown
  -- the first lock's own key
  have z14 := own_key_ok (st := [.lst hd4]) h (k := 0) (by omega)
  have hd0 := own_due h (k := 0) (by omega)
  have q14 : t12__law_right ⟨[.loc 0, .d (.int (n : Int)), .d (eLs ls), .d (lK (everyK n)), .d (lW ls n), .un, .un, .un, .d (eK (List.range ls.length)), .d (.int (howMany ls n : Nat)), e10, .un, e12, e13, .d (.tuple (ks.map eK)), .un, .un], [.lst hd4]⟩ = .ok (.rt (.d (.bool true))) ⟨[.loc 0, .d (.int (n : Int)), .d (eLs ls), .d (lK (everyK n)), .d (lW ls n), .un, .un, .un, .d (eK (List.range ls.length)), .d (.int (howMany ls n : Nat)), e10, .un, e12, e13, .d (.tuple (ks.map eK)), .un, .d (optK (ownK ls 0))], [.lst hd4]⟩ := by
    have h1 : (1 : Nat) ≤ sizeLine := le1000 (by decide)
    have z14 : F_own_key [.d (eLs ls), .d (.int 0)] [.lst hd4] = .ok (.d (optK (ownK ls 0))) [.lst hd4] := z14
    cases eo : ownK ls 0 with
    | none =>
      rw [eo] at z14
      simp only [optK] at z14 ⊢
      have i1 : isnotD .none .none = some (.bool false) := rfl
      have i2 : isD .none .none = some (.bool true) := rfl
      simp only [ut12__law_right]
      by_cases hm : ls.length = 1
      · simp [ut13__law_right, ut14__law_right, z14, i1, i2, len_eLs, hm]
      · simp [ut13__law_right, ut14__law_right, z14, i1, i2, len_eLs, hm]
    | some key =>
      rw [eo] at z14 hd0
      simp only [optK] at z14 ⊢
      have hwho : who ls key = [0] := by
        have := List.find?_some hd0.symm
        exact of_decide_eq_true this
      have hmem := List.mem_of_find?_eq_some hd0.symm
      have i1 : isnotD (eK key) .none = some (.bool true) := rfl
      have i2 : isD (eK key) .none = some (.bool false) := rfl
      have z15 := key_by_key_ok (st := [.lst hd4]) h (ks := [key]) (by simp) (by simp) fun k hk => by
        rw [List.mem_singleton.mp hk]; exact every_mem hmem
      simp only [List.map_cons, List.map_nil, hwho] at z15
      have l0 : PyData.tuple [.int 0] = eK [0] := rfl
      have ne : neD (.tuple [eK [0]]) (.tuple [eK [0]]) = some (.bool false) := neD_self (by decide +kernel) (by decide +kernel)
      simp only [ut12__law_right]
      by_cases hm : ls.length = 1
      · simp [ut13__law_right, ut14__law_right, z14, i1, i2, len_eLs, hm, z15, l0, ne, h1]
      · have x0 : ixD (eLs ls) (.int 0) = some (eL (ls.getD 0 [])) := ix_eLs (ls := ls) (k := 0) (by omega)
        have x1 : ixD (eLs ls) (.int 1) = some (eL (ls.getD 1 [])) := ix_eLs (ls := ls) (k := 1) (by omega)
        have m0 := h.at (k := 0) (by omega)
        have m1' := h.at (k := 1) (by omega)
        have hne : ls.getD 0 [] ≠ ls.getD 1 [] := fun e => by
          obtain ⟨q1, q2⟩ := (who_one (ls := ls) (k := 0) (by omega) key).mp hwho
          have q2 := q2 1 (by omega) (by decide)
          rw [← e, q1] at q2
          cases q2
        have l0n := h.len _ m0
        have l1n := h.len _ m1'
        have z16 := same_lock_ok (st := [.lst hd4]) (l := ls.getD 0 []) (m := ls.getD 1 []) (by omega) (by omega) (h.lot _ m0) (by omega) (by omega) (h.lot _ m1')
        rw [decide_eq_false hne] at z16
        have i3 : isnotD (.bool false) (.bool true) = some (.bool true) := rfl
        simp [-List.getD_eq_getElem?_getD, ut13__law_right, ut14__law_right, z14, i1, i2, len_eLs, hm, z15, l0, ne, h1, x0, x1, z16, i3]
  refine ⟨hd4, ?_, hh4⟩
  have hrn := rng_iN n (by omega)
  have hrm := rng_iN ls.length (by omega)
  have htr := fun c => k1_tupRg_nat (n := ls.length) (by omega) c
  have hlw : PyData.list ((everyK n).map (eW ls)) = lW ls n := rfl
  have x0 : ∀ (s : Str) (x : PyData), ixD (.tuple [.str s, x]) (.int 0) = some (.str s) := fun s x => o_ixT (k := 0) rfl
  have k1 : eqD (.str "key") (.str "key") = some (.bool true) := eqD_val rfl rfl (Nat.zero_le _) (by simp)
  have hpk : ¬ ("pin" : Str) = "key" := by decide +kernel
  have k2 : eqD (.str "pin") (.str "key") = some (.bool false) := eqD_val rfl rfl (Nat.zero_le _) ⟨fun h => absurd h (by decide), fun h => absurd (PyData.str.inj h) hpk⟩
  have nb : ∀ p : Bool, neD (.bool p) (.bool p) = some (.bool false) := fun p => neD_self rfl (Nat.zero_le _)
  simp only [e__law_right, u__law_right]
  by_cases hp : 0 < howMany ls n
  · rw [if_pos hp] at z8
    simp [-List.map_map, z1, ← hn, ut1__law_right, z2, ut2__law_right, z3, ut3__law_right, z4, hlw, ut4__law_right, len_eLs, htr, hw, ut5__law_right, ut6__law_right, hrn, z6, ut7__law_right, z7, r7, hcnt, s7, chk_lW, ut8__law_right, z8, hp, x0, k1, nb, ut9__law_right, hrm, z9, ut10__law_right, z11, ut11__law_right, z12, z13, r13, s13, q14]
    done
  · rw [if_neg hp] at z8
    have hp0 : howMany ls n = 0 := by omega
    simp [-List.map_map, z1, ← hn, ut1__law_right, z2, ut2__law_right, z3, ut3__law_right, z4, hlw, ut4__law_right, len_eLs, htr, hw, ut5__law_right, ut6__law_right, hrn, z6, ut7__law_right, z7, r7, hcnt, s7, chk_lW, ut8__law_right, z8, hp, x0, k2, nb, ut9__law_right, hrm, z9, ut10__law_right, z11, ut11__law_right, z12, z13, r13, s13, q14]
    done
end Law

namespace Law
open PySem PySem.Spec PyProof.Rows L2 L2.DL
theorem law_hand_ok (ns : List Int) (h : ns.length ≤ 63) : ∃ hd, F__law_hand [.scr ns] [] = .ok (.own (.lst hd)) [] ∧ HandOk hd := by
  have h5 : 5 ≤ sizeLine := len_le (by decide)
  have hcut : (cutI ns none (some 63)) = ns := by
    unfold cutI
    rw [show HT.sIx ns.length ns.length (some 63) = min 63 ns.length from HT.sIx_nat ns.length ns.length 63, HT.sIx_none, List.drop_zero, show min 63 ns.length - 0 = ns.length by omega, List.take_length]
  have z : lc [("cell", 2)] (itm (scM 0 noO (soO (pure (.int 63))))) (gN 2) (pure true) (ca absD (consA (ca intD (consA (rdP 2) nilA)) nilA)) ⟨[.scr ns, .un, .un], []⟩ = .ok (.own (.lst ((ns.map fun i => if i < 0 then -i else i).map .int))) ⟨[.scr ns, .un, .un], []⟩ := by
    rw [lc_map (c1 := ⟨[.scr ns, .un, .un], []⟩) (fun i => PyData.int i) (fun i => PyData.int (if i < 0 then -i else i)) (as := ns) (by simp [scrM, hcut]) (len_le (by omega)) fun i _ => ⟨⟨[.scr ns, .un, .d (.int i)], []⟩, by simp [wip, wipeE], by simp [wip, wipeE], by simp⟩]
    rw [List.map_map]
    simp [wip, wipeE]
  have w := fun y => o_mulL (a := 157) y (by decide) (by decide)
  refine ⟨[.list ((ns.map fun i => if i < 0 then -i else i).map .int), .int ((0 : Nat) : Int), .int 0, .int (2011 + 157 * (ns.length : Int)), .int 0], ?_, ns.map fun i => if i < 0 then -i else i, 0, 0, _, 0, rfl, Nat.zero_le _, fun x hx => ?_, Int.le_refl _⟩
  · simp [-List.map_map, e__law_hand, u__law_hand, z, w, h5]
  · obtain ⟨i, _, rfl⟩ := List.mem_map.mp hx
    split <;> omega
def two : List Lock := [[[0, 1], [2]], [[1, 3], [2, 4]]]
theorem two_ok : GLocks 2 two := by
  refine ⟨by decide, by decide, by decide, by decide, fun l hl => ?_, fun l hl p hp => ?_⟩
  · simp only [two, List.mem_cons, List.not_mem_nil, or_false] at hl
    rcases hl with rfl | rfl <;> rfl
  · simp only [two, List.mem_cons, List.not_mem_nil, or_false] at hl
    rcases hl with rfl | rfl
    · simp only [List.mem_cons, List.not_mem_nil, or_false] at hp
      rcases hp with rfl | rfl <;> exact ⟨by decide, by decide, by decide⟩
    · simp only [List.mem_cons, List.not_mem_nil, or_false] at hp
      rcases hp with rfl | rfl <;> exact ⟨by decide, by decide, by decide⟩
def twoD : PyData := .tuple [.tuple [.tuple [.int 0, .int 1], .tuple [.int 2]], .tuple [.tuple [.int 1, .int 3], .tuple [.int 2, .int 4]]]
theorem twoD_eq : twoD = eLs two := id rfl
theorem two_a (st : List OB) : F_keys_count [.d twoD] st = .ok (.d (.int 1)) st := by
  have z := keys_count_ok two_ok (st := st)
  rw [show howMany two 2 = 1 by decide +kernel] at z
  exact z
theorem two_b (st : List OB) : F_own_key [.d twoD, .d (.int 0)] st = .ok (.d (.tuple [.int 0, .int 2])) st := by
  have z := own_key_ok two_ok (st := st) (k := 0) (by decide)
  rw [show ownK two 0 = some [0, 2] by decide +kernel] at z
  exact z
theorem two_c (st : List OB) : F_own_key [.d twoD, .d (.int 1)] st = .ok (.d (.tuple [.int 1, .int 4])) st := by
  have z := own_key_ok two_ok (st := st) (k := 1) (by decide)
  rw [show ownK two 1 = some [1, 4] by decide +kernel] at z
  exact z
theorem two_d (st : List OB) : F_key_by_key [.d twoD, .d (.tuple [.tuple [.int 1, .int 2], .tuple [.int 5, .int 5]])] st = .ok (.d (.tuple [.tuple [.int 0, .int 1], .tuple []])) st := by
  have z := key_by_key_ok two_ok (st := st) (ks := [[1, 2], [5, 5]]) (by decide) (by decide) fun k hk => by
    simp only [List.mem_cons, List.not_mem_nil, or_false] at hk
    rcases hk with rfl | rfl <;> exact ⟨by decide, by decide⟩
  simp only [List.map_cons, List.map_nil] at z
  rw [show who two [1, 2] = [0, 1] by decide +kernel, show who two [5, 5] = [] by decide +kernel] at z
  exact z
theorem law_true : ∀ ns : List Int, ns.length ≤ 63 → ∃ st, F_law [.scr ns] [] = .ok (.d (.bool true)) st := by
  intro ns hns
  obtain ⟨hd, z, hh⟩ := law_hand_ok ns hns
  have h0 : 0 ≤ sizeLine := Nat.zero_le _
  have h1 : 1 ≤ sizeLine := len_le (by decide)
  have h2 : 2 ≤ sizeLine := len_le (by decide)
  have hr : rng1O [.int 5] = some ((List.range 5).map iN) := rng_iN 5 (by decide)
  obtain ⟨bs, c', z2, ⟨hd', hh', rfl⟩, hl, _⟩ := lc_gen (fun _ : Unit => PyData.bool true) (fun _ => True) (own := [("turn", 3)]) (f := ci rng1O (consA (pure (.int 5)) nilA)) (g := gN 3) (e := frM (cl F__law_right (consC (rd 1) nilC))) (xs := (List.range 5).map iN)
    (c := ⟨[.scr ns, .loc 0, .d twoD, .un], [.lst hd]⟩) (c1 := ⟨[.scr ns, .loc 0, .d twoD, .un], [.lst hd]⟩) (fun c => ∃ hd', HandOk hd' ∧ c = ⟨[.scr ns, .loc 0, .d twoD, .un], [.lst hd']⟩) (by simp [hr]) (le1000 (by simp)) ⟨hd, hh, by simp [wip, wipeE]⟩ fun x _ c ⟨hd0, hh0, hc⟩ => by
      subst hc
      obtain ⟨hd1, s1, hh1⟩ := right_ok hh0
      exact ⟨⟨[.scr ns, .loc 0, .d twoD, .d x], [.lst hd0]⟩, (), ⟨[.scr ns, .loc 0, .d twoD, .d x], [.lst hd1]⟩, by simp, by simp [s1], trivial, hd1, hh1, by simp [wip, wipeE]⟩
  have ha := all_t bs
  refine ⟨[.lst hd'], ?_⟩
  have e2 : PyData.tuple [.tuple [.tuple [.int 0, .int 1], .tuple [.int 2]], .tuple [.tuple [.int 1, .int 3], .tuple [.int 2, .int 4]]] = twoD := rfl
  have n1 : neD (.tuple [.int 0, .int 2]) (.tuple [.int 0, .int 2]) = some (.bool false) := neD_self (by decide +kernel) (by decide +kernel)
  have n2 : neD (.tuple [.int 1, .int 4]) (.tuple [.int 1, .int 4]) = some (.bool false) := neD_self (by decide +kernel) (by decide +kernel)
  have n3 : neD (.tuple [.tuple [.int 0, .int 1], .tuple []]) (.tuple [.tuple [.int 0, .int 1], .tuple []]) = some (.bool false) := neD_self (by decide +kernel) (by decide +kernel)
  simp only [e_law, u_law]
  simp [z, ut1_law, ut2_law, ut3_law, ut4_law, h0, h1, h2, e2, two_a, two_b, two_c, two_d, n1, n2, n3, z2, ha]
end Law

namespace Law
open PySem PySem.Spec PyProof.Rows L2 L2.DL
structure Tx (K : PySem.W.Frag) (mg : Str → Option Value) where
  f__law_hand : Addr
  fd__law_hand : FuncData
  F__law_hand : Fun K "_law_hand" "_law_hand" s__law_hand f__law_hand fd__law_hand
  m__law_hand : mg "_law_hand" = some (.ref f__law_hand)
  f_is_tuple : Addr
  fd_is_tuple : FuncData
  F_is_tuple : Fun K "is_tuple" "is_tuple" s_is_tuple f_is_tuple fd_is_tuple
  m_is_tuple : mg "is_tuple" = some (.ref f_is_tuple)
  f_is_integer : Addr
  fd_is_integer : FuncData
  F_is_integer : Fun K "is_integer" "is_integer" s_is_integer f_is_integer fd_is_integer
  m_is_integer : mg "is_integer" = some (.ref f_is_integer)
  f_is_within : Addr
  fd_is_within : FuncData
  F_is_within : Fun K "is_within" "is_within" s_is_within f_is_within fd_is_within
  m_is_within : mg "is_within" = some (.ref f_is_within)
  f_is_lot : Addr
  fd_is_lot : FuncData
  F_is_lot : Fun K "is_lot" "is_lot" s_is_lot f_is_lot fd_is_lot
  m_is_lot : mg "is_lot" = some (.ref f_is_lot)
  f_is_lock : Addr
  fd_is_lock : FuncData
  F_is_lock : Fun K "is_lock" "is_lock" s_is_lock f_is_lock fd_is_lock
  m_is_lock : mg "is_lock" = some (.ref f_is_lock)
  f_check_locks : Addr
  fd_check_locks : FuncData
  F_check_locks : Fun K "check_locks" "check_locks" s_check_locks f_check_locks fd_check_locks
  m_check_locks : mg "check_locks" = some (.ref f_check_locks)
  f_right_heights : Addr
  fd_right_heights : FuncData
  F_right_heights : Fun K "right_heights" "right_heights" s_right_heights f_right_heights fd_right_heights
  m_right_heights : mg "right_heights" = some (.ref f_right_heights)
  f_keys_count : Addr
  fd_keys_count : FuncData
  F_keys_count : Fun K "keys_count" "keys_count" s_keys_count f_keys_count fd_keys_count
  m_keys_count : mg "keys_count" = some (.ref f_keys_count)
  f_does_open : Addr
  fd_does_open : FuncData
  F_does_open : Fun K "does_open" "does_open" s_does_open f_does_open fd_does_open
  m_does_open : mg "does_open" = some (.ref f_does_open)
  f_own_key : Addr
  fd_own_key : FuncData
  F_own_key : Fun K "own_key" "own_key" s_own_key f_own_key fd_own_key
  m_own_key : mg "own_key" = some (.ref f_own_key)
  f_is_key : Addr
  fd_is_key : FuncData
  F_is_key : Fun K "is_key" "is_key" s_is_key f_is_key fd_is_key
  m_is_key : mg "is_key" = some (.ref f_is_key)
  f_key_by_key : Addr
  fd_key_by_key : FuncData
  F_key_by_key : Fun K "key_by_key" "key_by_key" s_key_by_key f_key_by_key fd_key_by_key
  m_key_by_key : mg "key_by_key" = some (.ref f_key_by_key)
  f__law_draw : Addr
  fd__law_draw : FuncData
  F__law_draw : Fun K "_law_draw" "_law_draw" s__law_draw f__law_draw fd__law_draw
  m__law_draw : mg "_law_draw" = some (.ref f__law_draw)
  f__law_some : Addr
  fd__law_some : FuncData
  F__law_some : Fun K "_law_some" "_law_some" s__law_some f__law_some fd__law_some
  m__law_some : mg "_law_some" = some (.ref f__law_some)
  f__law_lot : Addr
  fd__law_lot : FuncData
  F__law_lot : Fun K "_law_lot" "_law_lot" s__law_lot f__law_lot fd__law_lot
  m__law_lot : mg "_law_lot" = some (.ref f__law_lot)
  f__law_locks : Addr
  fd__law_locks : FuncData
  F__law_locks : Fun K "_law_locks" "_law_locks" s__law_locks f__law_locks fd__law_locks
  m__law_locks : mg "_law_locks" = some (.ref f__law_locks)
  f__law_keys : Addr
  fd__law_keys : FuncData
  F__law_keys : Fun K "_law_keys" "_law_keys" s__law_keys f__law_keys fd__law_keys
  m__law_keys : mg "_law_keys" = some (.ref f__law_keys)
  f__law_opens : Addr
  fd__law_opens : FuncData
  F__law_opens : Fun K "_law_opens" "_law_opens" s__law_opens f__law_opens fd__law_opens
  m__law_opens : mg "_law_opens" = some (.ref f__law_opens)
  f_key_or_pin : Addr
  fd_key_or_pin : FuncData
  F_key_or_pin : Fun K "key_or_pin" "key_or_pin" s_key_or_pin f_key_or_pin fd_key_or_pin
  m_key_or_pin : mg "key_or_pin" = some (.ref f_key_or_pin)
  f_check_lock : Addr
  fd_check_lock : FuncData
  F_check_lock : Fun K "check_lock" "check_lock" s_check_lock f_check_lock fd_check_lock
  m_check_lock : mg "check_lock" = some (.ref f_check_lock)
  f_same_lock : Addr
  fd_same_lock : FuncData
  F_same_lock : Fun K "same_lock" "same_lock" s_same_lock f_same_lock fd_same_lock
  m_same_lock : mg "same_lock" = some (.ref f_same_lock)
  f__law_right : Addr
  fd__law_right : FuncData
  F__law_right : Fun K "_law_right" "_law_right" s__law_right f__law_right fd__law_right
  m__law_right : mg "_law_right" = some (.ref f__law_right)
  f_law : Addr
  fd_law : FuncData
  F_law : Fun K "law" "law" s_law f_law fd_law
  m_law : mg "law" = some (.ref f_law)
  b_int : mg "int" = none
  b_abs : mg "abs" = none
  b_len : mg "len" = none
  b_isinstance : mg "isinstance" = none
  b_tuple : mg "tuple" = none
  b_bool : mg "bool" = none
  b_all : mg "all" = none
  b_zip : mg "zip" = none
  b_set : mg "set" = none
  b_range : mg "range" = none
  b_any : mg "any" = none
  b_enumerate : mg "enumerate" = none
  b_repr : mg "repr" = none
  c_MOST_PINS : ∃ t, mg "MOST_PINS" = some (.int 5 t)
  c_HEIGHTS : ∃ t, mg "HEIGHTS" = some (.int 6 t)
  c_MOST_LOCKS : ∃ t, mg "MOST_LOCKS" = some (.int 6 t)
  c_MOST_KEYS : ∃ t, mg "MOST_KEYS" = some (.int 6 t)
section
variable {P : Program} {w : World} {K : PySem.W.Frag} {mg : Str → Option Value} {base : Heap}
theorem bd__law_hand (T : Tx K mg) : Binds K T.fd__law_hand ["script"] [] := T.F__law_hand.binds (ps := ["script"]) fun _ _ _ _ _ _ us hl => match us, hl with | [_], _ => rfl
theorem ok__law_hand (T : Tx K mg) : FnOk P w K mg base (L2.CX P w) 1 T.f__law_hand T.fd__law_hand ["script"] (spF K mg 1 F__law_hand) := ok_fn T.F__law_hand sc__law_hand fun cdv A outer s H E hr =>
  (vss_cons (vs_frz 1 (vs_setLc (i := 1) [("cell", 2)] rfl sc__law_hand.nd rfl rfl (sw_true rfl rfl rfl (by decide +kernel)) (vi_any (vp_scr (pv 0) vo_none (vo_some vp_int))) (blkOk_by (by kernel_rfl)) (fun _ _ _ _ _ => (vg_name (i := 2) sc__law_hand.nd rfl (by first | exact .inl rfl | exact .inr rfl))) (fun _ _ _ _ _ => vts_nil) (fun _ _ _ _ _ => (vp_callB call_absP (by rfl) T.b_abs bt_abs (va_cons (vp_callTy call_intP (by rfl) T.b_int bt_int (va_cons (vp_var (pv 2)) va_nil)) va_nil)))))
  (vss_one (vs_ret (vv_lst (va_cons (vp_var (pv 1)) (va_cons vp_int (va_cons vp_int (va_cons (vp_bin op_addP vp_int (vp_bin op_mulP vp_int (vp_lenS T.b_len (by rfl) (pv 1)))) (va_cons vp_int va_nil)))))))))
theorem bd_is_tuple (T : Tx K mg) : Binds K T.fd_is_tuple ["thing", "least", "most"] [] := T.F_is_tuple.binds (ps := ["thing", "least", "most"]) fun _ _ _ _ _ _ us hl => match us, hl with | [_, _, _], _ => rfl
theorem ok_is_tuple (T : Tx K mg) : FnOk P w K mg base (L2.CX P w) 1 T.f_is_tuple T.fd_is_tuple ["thing", "least", "most"] (spF K mg 3 F_is_tuple) := ok_fn T.F_is_tuple sc_is_tuple fun cdv A outer s H E hr =>
  (vss_one (vs_ret (vv_of (vp_and (vp_isa (by rfl) T.b_isinstance bt_isinstance (by rfl) T.b_tuple bt_tuple (vp_var (pv 0))) (vp_one (vp_chain (op_leP (hu100 hr)) (op_leP (hu100 hr)) (vp_var (pv 1)) (vp_lenS T.b_len (by rfl) (pv 0)) (vp_var (pv 2))))))))
theorem bd_is_integer (T : Tx K mg) : Binds K T.fd_is_integer ["thing"] [] := T.F_is_integer.binds (ps := ["thing"]) fun _ _ _ _ _ _ us hl => match us, hl with | [_], _ => rfl
theorem ok_is_integer (T : Tx K mg) : FnOk P w K mg base (L2.CX P w) 1 T.f_is_integer T.fd_is_integer ["thing"] (spF K mg 1 F_is_integer) := ok_fn T.F_is_integer sc_is_integer fun cdv A outer s H E hr =>
  (vss_one (vs_ret (vv_of (vp_and (vp_isa (by rfl) T.b_isinstance bt_isinstance (by rfl) T.b_int bt_int (vp_var (pv 0))) (vp_one (vp_not (vp_isa (by rfl) T.b_isinstance bt_isinstance (by rfl) T.b_bool bt_bool (vp_var (pv 0)))))))))
theorem bd_is_within (T : Tx K mg) : Binds K T.fd_is_within ["thing", "low", "high"] [] := T.F_is_within.binds (ps := ["thing", "low", "high"]) fun _ _ _ _ _ _ us hl => match us, hl with | [_, _, _], _ => rfl
theorem ok_is_within (T : Tx K mg) : FnOk P w K mg base (L2.CX P w) 2 T.f_is_within T.fd_is_within ["thing", "low", "high"] (spF K mg 3 F_is_within) := ok_fn T.F_is_within sc_is_within fun cdv A outer s H E hr =>
  (vss_one (vs_ret (vv_of (vp_and (vp_frz (vv_call (ok_is_integer T) (takes_of rfl rfl rfl rfl) (hr.mono (by decide)) (by rfl) T.m_is_integer T.F_is_integer.kp (bd_is_integer T) (vav_cons (vv_var (pv 0)) (vav_nil)) (hlen := (al_cons al_nil)))) (vp_one (vp_chain (op_leP (hu100 hr)) (op_leP (hu100 hr)) (vp_var (pv 1)) (vp_var (pv 0)) (vp_var (pv 2))))))))
theorem bd_is_lot (T : Tx K mg) : Binds K T.fd_is_lot ["thing", "many"] [] := T.F_is_lot.binds (ps := ["thing", "many"]) fun _ _ _ _ _ _ us hl => match us, hl with | [_, _], _ => rfl
theorem ok_is_lot (T : Tx K mg) : FnOk P w K mg base (L2.CX P w) 3 T.f_is_lot T.fd_is_lot ["thing", "many"] (spF K mg 2 F_is_lot) := ok_fn T.F_is_lot sc_is_lot fun cdv A outer s H E hr =>
  (vss_cons (vs_if (vb_w (vw_or (vb_not (vb_val (vp_isa (by rfl) T.b_isinstance bt_isinstance (by rfl) T.b_tuple bt_tuple (vp_var (pv 0))))) (vw_or1 (vb_not (vb_val (vp_callB (call_allP rfl) (by rfl) T.b_all bt_all (va_cons (vp_frz (vv_lc [("one", 2)] rfl sc_is_lot.nd (vi_any (vp_var (pv 0))) (blkOk_by (by kernel_rfl)) (fun _ _ _ _ _ => (vg_name (i := 2) sc_is_lot.nd rfl (by first | exact .inl rfl | exact .inr rfl))) (fun _ _ _ _ _ => vts_nil) (fun _ _ _ _ _ => (vp_frz (vv_call (ok_is_within T) takes0 (hr.mono (by decide)) (by rfl) T.m_is_within T.F_is_within.kp (bd_is_within T) (vav_cons (vv_var (pv 2)) (vav_cons (vv_of vp_int) (vav_cons (vv_of (vp_bin op_subP (vp_var (pv 1)) vp_int)) (vav_nil)))) (hlen := (al_cons (al_cons (al_cons al_nil))))))))) va_nil))))))) (vss_one (vs_ret (vv_of vp_bl))) vss_nil)
  (vss_one (vs_ret (vv_of (vp_callB (call_allP rfl) (by rfl) T.b_all bt_all (va_cons (vp_frz (vv_lc [("one", 2), ("other", 3)] rfl sc_is_lot.nd (vi_zip rfl (by rfl) T.b_zip (va_cons (vp_var (pv 0)) (va_cons (vp_slice sl_P (vp_var (pv 0)) (vo_some vp_int) vo_none) va_nil))) (blkOk_by (by kernel_rfl)) (fun _ _ _ _ _ => (vg_tup rfl (vgs_cons (vg_name (i := 2) sc_is_lot.nd rfl (by first | exact .inl rfl | exact .inr rfl)) (vgs_cons (vg_name (i := 3) sc_is_lot.nd rfl (by first | exact .inl rfl | exact .inr rfl)) vgs_nil)))) (fun _ _ _ _ _ => vts_nil) (fun _ _ _ _ _ => (vp_cmp (op_ltP (hu100 hr)) (vp_var (pv 2)) (vp_var (pv 3)) (by first | exact nomark _ | rfl))))) va_nil))))))
theorem bd_is_lock (T : Tx K mg) : Binds K T.fd_is_lock ["thing"] [] := T.F_is_lock.binds (ps := ["thing"]) fun _ _ _ _ _ _ us hl => match us, hl with | [_], _ => rfl
theorem ok_is_lock (T : Tx K mg) : FnOk P w K mg base (L2.CX P w) 4 T.f_is_lock T.fd_is_lock ["thing"] (spF K mg 1 F_is_lock) := ok_fn T.F_is_lock sc_is_lock fun cdv A outer s H E hr =>
  (vss_cons (vs_if (vb_not (vb_val (vp_frz (vv_call (ok_is_tuple T) (takes_of rfl rfl rfl rfl) (hr.mono (by decide)) (by rfl) T.m_is_tuple T.F_is_tuple.kp (bd_is_tuple T) (vav_cons (vv_var (pv 0)) (vav_cons (vv_of vp_int) (vav_cons (vv_of (vp_ki (by rfl) T.c_MOST_PINS)) (vav_nil)))) (hlen := (al_cons (al_cons (al_cons al_nil)))))))) (vss_one (vs_ret (vv_of vp_bl))) vss_nil)
  (vss_one (vs_ret (vv_of (vp_callB (call_allP rfl) (by rfl) T.b_all bt_all (va_cons (vp_frz (vv_lc [("pin", 1)] rfl sc_is_lock.nd (vi_any (vp_var (pv 0))) (blkOk_by (by kernel_rfl)) (fun _ _ _ _ _ => (vg_name (i := 1) sc_is_lock.nd rfl (by first | exact .inl rfl | exact .inr rfl))) (fun _ _ _ _ _ => vts_nil) (fun _ _ _ _ _ => (vp_and (vp_frz (vv_call (ok_is_lot T) takes0 (hr.mono (by decide)) (by rfl) T.m_is_lot T.F_is_lot.kp (bd_is_lot T) (vav_cons (vv_var (pv 1)) (vav_cons (vv_of (vp_ki (by rfl) T.c_HEIGHTS)) (vav_nil))) (hlen := (al_cons (al_cons al_nil))))) (vp_one (vp_cmp (op_gtP (hu100 hr)) (vp_lenS T.b_len (by rfl) (pv 1)) vp_int (by first | exact nomark _ | rfl))))))) va_nil))))))
theorem bd_check_locks (T : Tx K mg) : Binds K T.fd_check_locks ["locks"] [] := T.F_check_locks.binds (ps := ["locks"]) fun _ _ _ _ _ _ us hl => match us, hl with | [_], _ => rfl
theorem ok_check_locks (T : Tx K mg) : FnOk P w K mg base (L2.CX P w) 5 T.f_check_locks T.fd_check_locks ["locks"] (spF K mg 1 F_check_locks) := ok_fn T.F_check_locks sc_check_locks fun cdv A outer s H E hr =>
  (vss_cons (vs_if (vb_w (vw_or (vb_not (vb_val (vp_frz (vv_call (ok_is_tuple T) (takes_of rfl rfl rfl rfl) (hr.mono (by decide)) (by rfl) T.m_is_tuple T.F_is_tuple.kp (bd_is_tuple T) (vav_cons (vv_var (pv 0)) (vav_cons (vv_of vp_int) (vav_cons (vv_of (vp_ki (by rfl) T.c_MOST_LOCKS)) (vav_nil)))) (hlen := (al_cons (al_cons (al_cons al_nil)))))))) (vw_or1 (vb_not (vb_val (vp_callB (call_allP rfl) (by rfl) T.b_all bt_all (va_cons (vp_frz (vv_lc [("lock", 1)] rfl sc_check_locks.nd (vi_any (vp_var (pv 0))) (blkOk_by (by kernel_rfl)) (fun _ _ _ _ _ => (vg_name (i := 1) sc_check_locks.nd rfl (by first | exact .inl rfl | exact .inr rfl))) (fun _ _ _ _ _ => vts_nil) (fun _ _ _ _ _ => (vp_frz (vv_call (ok_is_lock T) takes0 (hr.mono (by decide)) (by rfl) T.m_is_lock T.F_is_lock.kp (bd_is_lock T) (vav_cons (vv_var (pv 1)) (vav_nil)) (hlen := (al_cons al_nil))))))) va_nil))))))) (vss_one vs_never) vss_nil)
  (vss_one (vs_if (vb_cmp (op_gtP (hu100 hr)) (vp_setLen (by rfl) T.b_len (by rfl) T.b_set rfl (vp_frz (vv_lc [("lock", 1)] rfl sc_check_locks.nd (vi_any (vp_var (pv 0))) (blkOk_by (by kernel_rfl)) (fun _ _ _ _ _ => (vg_name (i := 1) sc_check_locks.nd rfl (by first | exact .inl rfl | exact .inr rfl))) (fun _ _ _ _ _ => vts_nil) (fun _ _ _ _ _ => (vp_lenS T.b_len (by rfl) (pv 1)))))) vp_int (by first | exact nomark _ | rfl)) (vss_one vs_never) vss_nil)))
theorem bd_right_heights (T : Tx K mg) : Binds K T.fd_right_heights ["locks"] [] := T.F_right_heights.binds (ps := ["locks"]) fun _ _ _ _ _ _ us hl => match us, hl with | [_], _ => rfl
theorem ok_right_heights (T : Tx K mg) : FnOk P w K mg base (L2.CX P w) 1 T.f_right_heights T.fd_right_heights ["locks"] (spF K mg 1 F_right_heights) := ok_fn T.F_right_heights sc_right_heights fun cdv A outer s H E hr =>
  (vss_cons (vs_set (i := 1) sc_right_heights.nd rfl (by first | exact .inl rfl | exact .inr rfl) (vv_lst va_nil))
  (vss_cons (vs_for (passes_of rfl) rfl (vi_range1 (by rfl) T.b_range (va_cons (vp_len T.b_len (by rfl) (vp_ixS (pv 0) vp_int (fun _ _ => rfl))) va_nil)) (vg_name (i := 2) sc_right_heights.nd rfl (by first | exact .inl rfl | exact .inr rfl)) (vss_one (vs_append (pv 1) (vp_frz (vv_lc [("height", 3)] rfl sc_right_heights.nd (vi_range1 (by rfl) T.b_range (va_cons (vp_ki (by rfl) T.c_HEIGHTS) va_nil)) (blkOk_by (by kernel_rfl)) (fun _ _ _ _ _ => (vg_name (i := 3) sc_right_heights.nd rfl (by first | exact .inl rfl | exact .inr rfl))) (fun _ _ _ _ _ => (vts_one (vb_val (vp_callB (call_allP rfl) (by rfl) T.b_all bt_all (va_cons (vp_frz (vv_lc [("lock", 4)] rfl sc_right_heights.nd (vi_any (vp_var (pv 0))) (blkOk_by (by kernel_rfl)) (fun _ _ _ _ _ => (vg_name (i := 4) sc_right_heights.nd rfl (by first | exact .inl rfl | exact .inr rfl))) (fun _ _ _ _ _ => vts_nil) (fun _ _ _ _ _ => (vp_cmp (op_inP (hu100 hr)) (vp_var (pv 3)) (vp_ixS (pv 4) (vp_var (pv 2)) (fun _ _ => rfl)) (by first | exact nomark _ | rfl))))) va_nil))))) (fun _ _ _ _ _ => (vp_var (pv 3))))))))
  (vss_one (vs_ret (vv_var (pv 1))))))
theorem bd_keys_count (T : Tx K mg) : Binds K T.fd_keys_count ["locks"] [] := T.F_keys_count.binds (ps := ["locks"]) fun _ _ _ _ _ _ us hl => match us, hl with | [_], _ => rfl
theorem ok_keys_count (T : Tx K mg) : FnOk P w K mg base (L2.CX P w) 6 T.f_keys_count T.fd_keys_count ["locks"] (spF K mg 1 F_keys_count) := ok_fn T.F_keys_count sc_keys_count fun cdv A outer s H E hr =>
  (vss_cons (vs_expr (vv_call (ok_check_locks T) (takes_of rfl rfl rfl rfl) (hr.mono (by decide)) (by rfl) T.m_check_locks T.F_check_locks.kp (bd_check_locks T) (vav_cons (vv_var (pv 0)) (vav_nil)) (hlen := (al_cons al_nil))))
  (vss_cons (vs_set (i := 1) sc_keys_count.nd rfl (by first | exact .inl rfl | exact .inr rfl) (vv_of vp_int))
  (vss_cons (vs_for (passes_of rfl) rfl (vi_any (vp_frz (vv_call (ok_right_heights T) (takes_of rfl rfl rfl rfl) (hr.mono (by decide)) (by rfl) T.m_right_heights T.F_right_heights.kp (bd_right_heights T) (vav_cons (vv_var (pv 0)) (vav_nil)) (hlen := (al_cons al_nil))))) (vg_name (i := 2) sc_keys_count.nd rfl (by first | exact .inl rfl | exact .inr rfl)) (vss_one (vs_set (i := 1) sc_keys_count.nd rfl (by first | exact .inl rfl | exact .inr rfl) (vv_of (vp_bin op_mulP (vp_var (pv 1)) (vp_lenS T.b_len (by rfl) (pv 2)))))))
  (vss_one (vs_ret (vv_var (pv 1)))))))
theorem bd_does_open (T : Tx K mg) : Binds K T.fd_does_open ["lock", "key"] [] := T.F_does_open.binds (ps := ["lock", "key"]) fun _ _ _ _ _ _ us hl => match us, hl with | [_, _], _ => rfl
theorem ok_does_open (T : Tx K mg) : FnOk P w K mg base (L2.CX P w) 1 T.f_does_open T.fd_does_open ["lock", "key"] (spF K mg 2 F_does_open) := ok_fn T.F_does_open sc_does_open fun cdv A outer s H E hr =>
  (vss_one (vs_ret (vv_of (vp_callB (call_allP rfl) (by rfl) T.b_all bt_all (va_cons (vp_frz (vv_lc [("height", 2), ("pin", 3)] rfl sc_does_open.nd (vi_zip rfl (by rfl) T.b_zip (va_cons (vp_var (pv 1)) (va_cons (vp_var (pv 0)) va_nil))) (blkOk_by (by kernel_rfl)) (fun _ _ _ _ _ => (vg_tup rfl (vgs_cons (vg_name (i := 2) sc_does_open.nd rfl (by first | exact .inl rfl | exact .inr rfl)) (vgs_cons (vg_name (i := 3) sc_does_open.nd rfl (by first | exact .inl rfl | exact .inr rfl)) vgs_nil)))) (fun _ _ _ _ _ => vts_nil) (fun _ _ _ _ _ => (vp_cmp (op_inP (hu100 hr)) (vp_var (pv 2)) (vp_var (pv 3)) (by first | exact nomark _ | rfl))))) va_nil)))))
theorem bd_own_key (T : Tx K mg) : Binds K T.fd_own_key ["locks", "k"] [] := T.F_own_key.binds (ps := ["locks", "k"]) fun _ _ _ _ _ _ us hl => match us, hl with | [_, _], _ => rfl
theorem ok_own_key (T : Tx K mg) : FnOk P w K mg base (L2.CX P w) 6 T.f_own_key T.fd_own_key ["locks", "k"] (spF K mg 2 F_own_key) := ok_fn T.F_own_key sc_own_key fun cdv A outer s H E hr =>
  (vss_cons (vs_expr (vv_call (ok_check_locks T) (takes_of rfl rfl rfl rfl) (hr.mono (by decide)) (by rfl) T.m_check_locks T.F_check_locks.kp (bd_check_locks T) (vav_cons (vv_var (pv 0)) (vav_nil)) (hlen := (al_cons al_nil))))
  (vss_cons (vs_if (vb_not (vb_val (vp_frz (vv_call (ok_is_within T) (takes_of rfl rfl rfl rfl) (hr.mono (by decide)) (by rfl) T.m_is_within T.F_is_within.kp (bd_is_within T) (vav_cons (vv_var (pv 1)) (vav_cons (vv_of vp_int) (vav_cons (vv_of (vp_bin op_subP (vp_lenS T.b_len (by rfl) (pv 0)) vp_int)) (vav_nil)))) (hlen := (al_cons (al_cons (al_cons al_nil)))))))) (vss_one vs_never) vss_nil)
  (vss_cons (vs_frz 2 (vs_set (i := 2) sc_own_key.nd rfl (by first | exact .inl rfl | exact .inr rfl) (vv_lst (va_cons (vp_tup va_nil) va_nil))))
  (vss_cons (vs_for (passes_of rfl) rfl (vi_any (vp_ixS (pv 0) (vp_var (pv 1)) (fun _ _ => rfl))) (vg_name (i := 3) sc_own_key.nd rfl (by first | exact .inl rfl | exact .inr rfl)) (vss_cons (vs_set (i := 4) sc_own_key.nd rfl (by first | exact .inl rfl | exact .inr rfl) (vv_lst va_nil))
    (vss_cons (vs_for (passes_of rfl) rfl (vi_any (vp_var (pv 2))) (vg_name (i := 5) sc_own_key.nd rfl (by first | exact .inl rfl | exact .inr rfl)) (vss_one (vs_extend (pv 4) (vp_frz (vv_lc [("height", 6)] rfl sc_own_key.nd (vi_any (vp_var (pv 3))) (blkOk_by (by kernel_rfl)) (fun _ _ _ _ _ => (vg_name (i := 6) sc_own_key.nd rfl (by first | exact .inl rfl | exact .inr rfl))) (fun _ _ _ _ _ => vts_nil) (fun _ _ _ _ _ => (vp_bin op_addP (vp_var (pv 5)) (vp_tup (va_cons (vp_var (pv 6)) va_nil)))))))))
    (vss_one (vs_set (i := 2) sc_own_key.nd rfl (by first | exact .inl rfl | exact .inr rfl) (vv_var (pv 4)))))))
  (vss_cons (vs_set (i := 7) sc_own_key.nd rfl (by first | exact .inl rfl | exact .inr rfl) (vv_of (vp_bin op_addP (vp_slice sl_P (vp_var (pv 0)) vo_none (vo_some (vp_var (pv 1)))) (vp_slice sl_P (vp_var (pv 0)) (vo_some (vp_bin op_addP (vp_var (pv 1)) vp_int)) vo_none))))
  (vss_cons (vs_for (passes_of rfl) rfl (vi_any (vp_var (pv 2))) (vg_name (i := 5) sc_own_key.nd rfl (by first | exact .inl rfl | exact .inr rfl)) (vss_one (vs_if (vb_not (vb_val (vp_callB (call_anyP rfl) (by rfl) T.b_any bt_any (va_cons (vp_frz (vv_lc [("lock", 8)] rfl sc_own_key.nd (vi_any (vp_var (pv 7))) (blkOk_by (by kernel_rfl)) (fun _ _ _ _ _ => (vg_name (i := 8) sc_own_key.nd rfl (by first | exact .inl rfl | exact .inr rfl))) (fun _ _ _ _ _ => vts_nil) (fun _ _ _ _ _ => (vp_frz (vv_call (ok_does_open T) takes0 (hr.mono (by decide)) (by rfl) T.m_does_open T.F_does_open.kp (bd_does_open T) (vav_cons (vv_var (pv 8)) (vav_cons (vv_var (pv 5)) (vav_nil))) (hlen := (al_cons (al_cons al_nil)))))))) va_nil)))) (vss_one (vs_ret (vv_var (pv 5)))) vss_nil)))
  (vss_one (vs_ret (vv_of vp_non)))))))))
theorem bd_is_key (T : Tx K mg) : Binds K T.fd_is_key ["thing", "many"] [] := T.F_is_key.binds (ps := ["thing", "many"]) fun _ _ _ _ _ _ us hl => match us, hl with | [_, _], _ => rfl
theorem ok_is_key (T : Tx K mg) : FnOk P w K mg base (L2.CX P w) 3 T.f_is_key T.fd_is_key ["thing", "many"] (spF K mg 2 F_is_key) := ok_fn T.F_is_key sc_is_key fun cdv A outer s H E hr =>
  (vss_one (vs_ret (vv_of (vp_and (vp_frz (vv_call (ok_is_tuple T) (takes_of rfl rfl rfl rfl) (hr.mono (by decide)) (by rfl) T.m_is_tuple T.F_is_tuple.kp (bd_is_tuple T) (vav_cons (vv_var (pv 0)) (vav_cons (vv_var (pv 1)) (vav_cons (vv_var (pv 1)) (vav_nil)))) (hlen := (al_cons (al_cons (al_cons al_nil)))))) (vp_one (vp_callB (call_allP rfl) (by rfl) T.b_all bt_all (va_cons (vp_frz (vv_lc [("one", 2)] rfl sc_is_key.nd (vi_any (vp_var (pv 0))) (blkOk_by (by kernel_rfl)) (fun _ _ _ _ _ => (vg_name (i := 2) sc_is_key.nd rfl (by first | exact .inl rfl | exact .inr rfl))) (fun _ _ _ _ _ => vts_nil) (fun _ _ _ _ _ => (vp_frz (vv_call (ok_is_within T) takes0 (hr.mono (by decide)) (by rfl) T.m_is_within T.F_is_within.kp (bd_is_within T) (vav_cons (vv_var (pv 2)) (vav_cons (vv_of vp_int) (vav_cons (vv_of (vp_bin op_subP (vp_ki (by rfl) T.c_HEIGHTS) vp_int)) (vav_nil)))) (hlen := (al_cons (al_cons (al_cons al_nil))))))))) va_nil)))))))
theorem bd_key_by_key (T : Tx K mg) : Binds K T.fd_key_by_key ["locks", "keys"] [] := T.F_key_by_key.binds (ps := ["locks", "keys"]) fun _ _ _ _ _ _ us hl => match us, hl with | [_, _], _ => rfl
theorem ok_key_by_key (T : Tx K mg) : FnOk P w K mg base (L2.CX P w) 6 T.f_key_by_key T.fd_key_by_key ["locks", "keys"] (spF K mg 2 F_key_by_key) := ok_fn T.F_key_by_key sc_key_by_key fun cdv A outer s H E hr =>
  (vss_cons (vs_expr (vv_call (ok_check_locks T) (takes_of rfl rfl rfl rfl) (hr.mono (by decide)) (by rfl) T.m_check_locks T.F_check_locks.kp (bd_check_locks T) (vav_cons (vv_var (pv 0)) (vav_nil)) (hlen := (al_cons al_nil))))
  (vss_cons (vs_if (vb_w (vw_or (vb_not (vb_val (vp_frz (vv_call (ok_is_tuple T) (takes_of rfl rfl rfl rfl) (hr.mono (by decide)) (by rfl) T.m_is_tuple T.F_is_tuple.kp (bd_is_tuple T) (vav_cons (vv_var (pv 1)) (vav_cons (vv_of vp_int) (vav_cons (vv_of (vp_ki (by rfl) T.c_MOST_KEYS)) (vav_nil)))) (hlen := (al_cons (al_cons (al_cons al_nil)))))))) (vw_or1 (vb_not (vb_val (vp_callB (call_allP rfl) (by rfl) T.b_all bt_all (va_cons (vp_frz (vv_lc [("key", 2)] rfl sc_key_by_key.nd (vi_any (vp_var (pv 1))) (blkOk_by (by kernel_rfl)) (fun _ _ _ _ _ => (vg_name (i := 2) sc_key_by_key.nd rfl (by first | exact .inl rfl | exact .inr rfl))) (fun _ _ _ _ _ => vts_nil) (fun _ _ _ _ _ => (vp_frz (vv_call (ok_is_key T) takes0 (hr.mono (by decide)) (by rfl) T.m_is_key T.F_is_key.kp (bd_is_key T) (vav_cons (vv_var (pv 2)) (vav_cons (vv_of (vp_len T.b_len (by rfl) (vp_ixS (pv 0) vp_int (fun _ _ => rfl)))) (vav_nil))) (hlen := (al_cons (al_cons al_nil)))))))) va_nil))))))) (vss_one vs_never) vss_nil)
  (vss_one (vs_ret (vv_of (vp_callTy call_tupP (by rfl) T.b_tuple bt_tuple (va_cons (vp_frz (vv_lc [("key", 2)] rfl sc_key_by_key.nd (vi_any (vp_var (pv 1))) (blkOk_by (by kernel_rfl)) (fun _ _ _ _ _ => (vg_name (i := 2) sc_key_by_key.nd rfl (by first | exact .inl rfl | exact .inr rfl))) (fun _ _ _ _ _ => vts_nil) (fun _ _ _ _ _ => (vp_callTy call_tupP (by rfl) T.b_tuple bt_tuple (va_cons (vp_frz (vv_lc [("at", 3), ("lock", 4)] rfl sc_key_by_key.nd (vi_enum rfl (by rfl) T.b_enumerate (va_cons (vp_var (pv 0)) va_nil)) (blkOk_by (by kernel_rfl)) (fun _ _ _ _ _ => (vg_tup rfl (vgs_cons (vg_name (i := 3) sc_key_by_key.nd rfl (by first | exact .inl rfl | exact .inr rfl)) (vgs_cons (vg_name (i := 4) sc_key_by_key.nd rfl (by first | exact .inl rfl | exact .inr rfl)) vgs_nil)))) (fun _ _ _ _ _ => (vts_one (vb_val (vp_frz (vv_call (ok_does_open T) takes0 (hr.mono (by decide)) (by rfl) T.m_does_open T.F_does_open.kp (bd_does_open T) (vav_cons (vv_var (pv 4)) (vav_cons (vv_var (pv 2)) (vav_nil))) (hlen := (al_cons (al_cons al_nil)))))))) (fun _ _ _ _ _ => (vp_var (pv 3))))) va_nil))))) va_nil)))))))
theorem bd__law_draw (T : Tx K mg) : Binds K T.fd__law_draw ["hand", "many"] [] := T.F__law_draw.binds (ps := ["hand", "many"]) fun _ _ _ _ _ _ us hl => match us, hl with | [_, _], _ => rfl
theorem ok__law_draw (T : Tx K mg) : FnOk P w K mg base (L2.CX P w) 1 T.f__law_draw T.fd__law_draw ["hand", "many"] (spF K mg 2 F__law_draw) := ok_fn T.F__law_draw sc__law_draw fun cdv A outer s H E hr =>
  (vss_cons (vs_if (vb_w (vw_and (vb_cmp (op_eqP (hu100 hr)) (vp_ixS (pv 0) vp_int (fun _ _ => rfl)) vp_int (by first | exact nomark _ | rfl)) (vw_and1 (vb_cmp (op_ltP (hu100 hr)) (vp_ixS (pv 0) vp_int (fun _ _ => rfl)) (vp_len T.b_len (by rfl) (vp_ixS (pv 0) vp_int (fun _ _ => rfl))) (by first | exact nomark _ | rfl))))) (vss_cons (vs_set (i := 2) sc__law_draw.nd rfl (by first | exact .inl rfl | exact .inr rfl) (vv_of (vp_ix ix_seqO (vp_ixS (pv 0) vp_int (fun _ _ => rfl)) (vp_ixS (pv 0) vp_int (fun _ _ => rfl)) (fun _ _ => rfl))))
    (vss_cons (vs_put (pv 0) vp_int (vp_bin op_addP (vp_ixS (pv 0) vp_int (fun _ _ => rfl)) vp_int))
    (vss_cons (vs_put (pv 0) vp_int (vp_bin op_modP (vp_callTy call_intP (by rfl) T.b_int bt_int (va_cons (vp_bin op_addP (vp_bin op_addP (vp_bin op_mulP (vp_ixS (pv 0) vp_int (fun _ _ => rfl)) vp_int) (vp_bin op_mulP (vp_var (pv 2)) vp_int)) vp_int) va_nil)) vp_int))
    (vss_one (vs_put (pv 0) vp_int (vp_if (vb_cmp (op_geP (hu100 hr)) (vp_var (pv 2)) (vp_bin op_powP vp_int vp_int) (by first | exact nomark _ | rfl)) (vp_var (pv 2)) vp_int)))))) vss_nil)
  (vss_cons (vs_if (vb_cmp (op_gtP (hu100 hr)) (vp_ixS (pv 0) vp_int (fun _ _ => rfl)) vp_int (by first | exact nomark _ | rfl)) (vss_cons (vs_set (i := 3) sc__law_draw.nd rfl (by first | exact .inl rfl | exact .inr rfl) (vv_of (vp_bin op_modP (vp_callTy call_intP (by rfl) T.b_int bt_int (va_cons (vp_ixS (pv 0) vp_int (fun _ _ => rfl)) va_nil)) (vp_var (pv 1)))))
    (vss_cons (vs_put (pv 0) vp_int (vp_bin op_fdivP (vp_ixS (pv 0) vp_int (fun _ _ => rfl)) (vp_var (pv 1))))
    (vss_one (vs_ret (vv_var (pv 3)))))) vss_nil)
  (vss_cons (vs_put (pv 0) vp_int (vp_bin op_addP (vp_ixS (pv 0) vp_int (fun _ _ => rfl)) vp_int))
  (vss_cons (vs_set (i := 4) sc__law_draw.nd rfl (by first | exact .inl rfl | exact .inr rfl) (vv_of (vp_bin op_modP (vp_callTy call_intP (by rfl) T.b_int bt_int (va_cons (vp_bin op_mulP (vp_callTy call_intP (by rfl) T.b_int bt_int (va_cons (vp_bin op_addP (vp_ixS (pv 0) vp_int (fun _ _ => rfl)) (vp_bin op_mulP vp_int (vp_ixS (pv 0) vp_int (fun _ _ => rfl)))) va_nil)) vp_int) va_nil)) vp_int)))
  (vss_cons (vs_set (i := 4) sc__law_draw.nd rfl (by first | exact .inl rfl | exact .inr rfl) (vv_of (vp_bin op_modP (vp_callTy call_intP (by rfl) T.b_int bt_int (va_cons (vp_bin op_mulP (vp_var (pv 4)) (vp_bin op_addP (vp_bin op_fdivP (vp_var (pv 4)) vp_int) vp_int)) va_nil)) vp_int)))
  (vss_cons (vs_set (i := 4) sc__law_draw.nd rfl (by first | exact .inl rfl | exact .inr rfl) (vv_of (vp_bin op_modP (vp_callTy call_intP (by rfl) T.b_int bt_int (va_cons (vp_bin op_mulP (vp_var (pv 4)) (vp_bin op_addP (vp_bin op_fdivP (vp_var (pv 4)) vp_int) vp_int)) va_nil)) vp_int)))
  (vss_one (vs_ret (vv_of (vp_bin op_modP (vp_callTy call_intP (by rfl) T.b_int bt_int (va_cons (vp_bin op_fdivP (vp_var (pv 4)) vp_int) va_nil)) (vp_var (pv 1))))))))))))
theorem bd__law_some (T : Tx K mg) : Binds K T.fd__law_some ["hand", "things"] [] := T.F__law_some.binds (ps := ["hand", "things"]) fun _ _ _ _ _ _ us hl => match us, hl with | [_, _], _ => rfl
theorem ok__law_some (T : Tx K mg) : FnOk P w K mg base (L2.CX P w) 2 T.f__law_some T.fd__law_some ["hand", "things"] (spF K mg 2 F__law_some) := ok_fn T.F__law_some sc__law_some fun cdv A outer s H E hr =>
  (vss_one (vs_ret (vv_of (vp_ixS (pv 1) (vp_frz (vv_call (ok__law_draw T) (takes_of rfl rfl rfl rfl) (hr.mono (by decide)) (by rfl) T.m__law_draw T.F__law_draw.kp (bd__law_draw T) (vav_cons (vv_var (pv 0)) (vav_cons (vv_of (vp_lenS T.b_len (by rfl) (pv 1))) (vav_nil))) (hlen := (al_cons (al_cons al_nil))))) (fun _ _ => rfl)))))
theorem bd__law_lot (T : Tx K mg) : Binds K T.fd__law_lot ["hand", "most"] [] := T.F__law_lot.binds (ps := ["hand", "most"]) fun _ _ _ _ _ _ us hl => match us, hl with | [_, _], _ => rfl
theorem ok__law_lot (T : Tx K mg) : FnOk P w K mg base (L2.CX P w) 2 T.f__law_lot T.fd__law_lot ["hand", "most"] (spF K mg 2 F__law_lot) := ok_fn T.F__law_lot sc__law_lot fun cdv A outer s H E hr =>
  (vss_cons (vs_set (i := 2) sc__law_lot.nd rfl (by first | exact .inl rfl | exact .inr rfl) (vv_of (vp_callTy call_tupP (by rfl) T.b_tuple bt_tuple (va_cons (vp_frz (vv_lc [("height", 3)] rfl sc__law_lot.nd (vi_range1 (by rfl) T.b_range (va_cons (vp_var (pv 1)) va_nil)) (blkOk_by (by kernel_rfl)) (fun _ _ _ _ _ => (vg_name (i := 3) sc__law_lot.nd rfl (by first | exact .inl rfl | exact .inr rfl))) (fun _ _ _ _ _ => (vts_one (vb_cmp (op_eqP (hu100 hr)) (vp_frz (vv_call (ok__law_draw T) takes0 (hr.mono (by decide)) (by rfl) T.m__law_draw T.F__law_draw.kp (bd__law_draw T) (vav_cons (vv_var (pv 0)) (vav_cons (vv_of vp_int) (vav_nil))) (hlen := (al_cons (al_cons al_nil))))) vp_int (by first | exact nomark _ | rfl)))) (fun _ _ _ _ _ => (vp_var (pv 3))))) va_nil))))
  (vss_one (vs_ret (vv_of (vp_if (vb_cmp (op_gtP (hu100 hr)) (vp_lenS T.b_len (by rfl) (pv 2)) vp_int (by first | exact nomark _ | rfl)) (vp_var (pv 2)) (vp_tup (va_cons (vp_frz (vv_call (ok__law_draw T) (takes_of rfl rfl rfl rfl) (hr.mono (by decide)) (by rfl) T.m__law_draw T.F__law_draw.kp (bd__law_draw T) (vav_cons (vv_var (pv 0)) (vav_cons (vv_var (pv 1)) (vav_nil))) (hlen := (al_cons (al_cons al_nil))))) va_nil)))))))
theorem bd__law_locks (T : Tx K mg) : Binds K T.fd__law_locks ["hand", "many", "pins"] [] := T.F__law_locks.binds (ps := ["hand", "many", "pins"]) fun _ _ _ _ _ _ us hl => match us, hl with | [_, _, _], _ => rfl
theorem ok__law_locks (T : Tx K mg) : FnOk P w K mg base (L2.CX P w) 3 T.f__law_locks T.fd__law_locks ["hand", "many", "pins"] (spF K mg 3 F__law_locks) := ok_fn T.F__law_locks sc__law_locks fun cdv A outer s H E hr =>
  (vss_cons (vs_frz 3 (vs_set (i := 3) sc__law_locks.nd rfl (by first | exact .inl rfl | exact .inr rfl) (vv_call (ok__law_some T) (takes_of rfl rfl rfl rfl) (hr.mono (by decide)) (by rfl) T.m__law_some T.F__law_some.kp (bd__law_some T) (vav_cons (vv_var (pv 0)) (vav_cons (vv_of (vp_frz (vv_lst (va_cons vp_int (va_cons vp_int (va_cons vp_int va_nil)))))) (vav_nil))) (hlen := (al_cons (al_cons al_nil))))))
  (vss_one (vs_ret (vv_of (vp_callTy call_tupP (by rfl) T.b_tuple bt_tuple (va_cons (vp_frz (vv_lc [("lock", 5)] rfl sc__law_locks.nd (vi_range1 (by rfl) T.b_range (va_cons (vp_bin op_addP vp_int (vp_frz (vv_call (ok__law_draw T) (takes_of rfl rfl rfl rfl) (hr.mono (by decide)) (by rfl) T.m__law_draw T.F__law_draw.kp (bd__law_draw T) (vav_cons (vv_var (pv 0)) (vav_cons (vv_var (pv 1)) (vav_nil))) (hlen := (al_cons (al_cons al_nil)))))) va_nil)) (blkOk_by (by kernel_rfl)) (fun _ _ _ _ _ => (vg_name (i := 5) sc__law_locks.nd rfl (by first | exact .inl rfl | exact .inr rfl))) (fun _ _ _ _ _ => vts_nil) (fun _ _ _ _ _ => (vp_callTy call_tupP (by rfl) T.b_tuple bt_tuple (va_cons (vp_frz (vv_lc [("pin", 4)] rfl sc__law_locks.nd (vi_range1 (by rfl) T.b_range (va_cons (vp_var (pv 2)) va_nil)) (blkOk_by (by kernel_rfl)) (fun _ _ _ _ _ => (vg_name (i := 4) sc__law_locks.nd rfl (by first | exact .inl rfl | exact .inr rfl))) (fun _ _ _ _ _ => vts_nil) (fun _ _ _ _ _ => (vp_frz (vv_call (ok__law_lot T) takes0 (hr.mono (by decide)) (by rfl) T.m__law_lot T.F__law_lot.kp (bd__law_lot T) (vav_cons (vv_var (pv 0)) (vav_cons (vv_var (pv 3)) (vav_nil))) (hlen := (al_cons (al_cons al_nil)))))))) va_nil))))) va_nil))))))
theorem bd__law_keys (T : Tx K mg) : Binds K T.fd__law_keys ["pins"] [] := T.F__law_keys.binds (ps := ["pins"]) fun _ _ _ _ _ _ us hl => match us, hl with | [_], _ => rfl
theorem ok__law_keys (T : Tx K mg) : FnOk P w K mg base (L2.CX P w) 1 T.f__law_keys T.fd__law_keys ["pins"] (spF K mg 1 F__law_keys) := ok_fn T.F__law_keys sc__law_keys fun cdv A outer s H E hr =>
  (vss_cons (vs_frz 1 (vs_set (i := 1) sc__law_keys.nd rfl (by first | exact .inl rfl | exact .inr rfl) (vv_lst (va_cons (vp_tup va_nil) va_nil))))
  (vss_cons (vs_for (passes_of rfl) rfl (vi_range1 (by rfl) T.b_range (va_cons (vp_var (pv 0)) va_nil)) (vg_name (i := 2) sc__law_keys.nd rfl (by first | exact .inl rfl | exact .inr rfl)) (vss_cons (vs_set (i := 3) sc__law_keys.nd rfl (by first | exact .inl rfl | exact .inr rfl) (vv_lst va_nil))
    (vss_cons (vs_for (passes_of rfl) rfl (vi_any (vp_var (pv 1))) (vg_name (i := 4) sc__law_keys.nd rfl (by first | exact .inl rfl | exact .inr rfl)) (vss_one (vs_extend (pv 3) (vp_frz (vv_lc [("height", 5)] rfl sc__law_keys.nd (vi_range1 (by rfl) T.b_range (va_cons vp_int va_nil)) (blkOk_by (by kernel_rfl)) (fun _ _ _ _ _ => (vg_name (i := 5) sc__law_keys.nd rfl (by first | exact .inl rfl | exact .inr rfl))) (fun _ _ _ _ _ => vts_nil) (fun _ _ _ _ _ => (vp_bin op_addP (vp_var (pv 4)) (vp_tup (va_cons (vp_var (pv 5)) va_nil)))))))))
    (vss_one (vs_set (i := 1) sc__law_keys.nd rfl (by first | exact .inl rfl | exact .inr rfl) (vv_var (pv 3)))))))
  (vss_one (vs_ret (vv_var (pv 1))))))
theorem bd__law_opens (T : Tx K mg) : Binds K T.fd__law_opens ["lock", "key"] [] := T.F__law_opens.binds (ps := ["lock", "key"]) fun _ _ _ _ _ _ us hl => match us, hl with | [_, _], _ => rfl
theorem ok__law_opens (T : Tx K mg) : FnOk P w K mg base (L2.CX P w) 1 T.f__law_opens T.fd__law_opens ["lock", "key"] (spF K mg 2 F__law_opens) := ok_fn T.F__law_opens sc__law_opens fun cdv A outer s H E hr =>
  (vss_one (vs_ret (vv_of (vp_callB (call_allP rfl) (by rfl) T.b_all bt_all (va_cons (vp_frz (vv_lc [("lot", 2), ("height", 3)] rfl sc__law_opens.nd (vi_zip rfl (by rfl) T.b_zip (va_cons (vp_var (pv 0)) (va_cons (vp_var (pv 1)) va_nil))) (blkOk_by (by kernel_rfl)) (fun _ _ _ _ _ => (vg_tup rfl (vgs_cons (vg_name (i := 2) sc__law_opens.nd rfl (by first | exact .inl rfl | exact .inr rfl)) (vgs_cons (vg_name (i := 3) sc__law_opens.nd rfl (by first | exact .inl rfl | exact .inr rfl)) vgs_nil)))) (fun _ _ _ _ _ => vts_nil) (fun _ _ _ _ _ => (vp_cmp (op_inP (hu100 hr)) (vp_var (pv 3)) (vp_var (pv 2)) (by first | exact nomark _ | rfl))))) va_nil)))))
theorem bd_key_or_pin (T : Tx K mg) : Binds K T.fd_key_or_pin ["locks"] [] := T.F_key_or_pin.binds (ps := ["locks"]) fun _ _ _ _ _ _ us hl => match us, hl with | [_], _ => rfl
theorem ok_key_or_pin (T : Tx K mg) : FnOk P w K mg base (L2.CX P w) 6 T.f_key_or_pin T.fd_key_or_pin ["locks"] (spF K mg 1 F_key_or_pin) := ok_fn T.F_key_or_pin sc_key_or_pin fun cdv A outer s H E hr =>
  (vss_cons (vs_expr (vv_call (ok_check_locks T) (takes_of rfl rfl rfl rfl) (hr.mono (by decide)) (by rfl) T.m_check_locks T.F_check_locks.kp (bd_check_locks T) (vav_cons (vv_var (pv 0)) (vav_nil)) (hlen := (al_cons al_nil))))
  (vss_cons (vs_frz 1 (vs_set (i := 1) sc_key_or_pin.nd rfl (by first | exact .inl rfl | exact .inr rfl) (vv_call (ok_right_heights T) (takes_of rfl rfl rfl rfl) (hr.mono (by decide)) (by rfl) T.m_right_heights T.F_right_heights.kp (bd_right_heights T) (vav_cons (vv_var (pv 0)) (vav_nil)) (hlen := (al_cons al_nil)))))
  (vss_cons (vs_frz 2 (vs_setLc (i := 2) [("i", 3), ("heights", 4)] rfl sc_key_or_pin.nd rfl rfl (sw_true rfl rfl rfl (by decide +kernel)) (vi_enum rfl (by rfl) T.b_enumerate (va_cons (vp_var (pv 1)) va_nil)) (blkOk_by (by kernel_rfl)) (fun _ _ _ _ _ => (vg_tup rfl (vgs_cons (vg_name (i := 3) sc_key_or_pin.nd rfl (by first | exact .inl rfl | exact .inr rfl)) (vgs_cons (vg_name (i := 4) sc_key_or_pin.nd rfl (by first | exact .inl rfl | exact .inr rfl)) vgs_nil)))) (fun _ _ _ _ _ => (vts_one (vb_cmp (op_eqP (hu100 hr)) (vp_lenS T.b_len (by rfl) (pv 4)) vp_int (by first | exact nomark _ | rfl)))) (fun _ _ _ _ _ => (vp_var (pv 3)))))
  (vss_one (vs_ret (vv_of (vp_if (vb_cmp (op_gtP (hu100 hr)) (vp_lenS T.b_len (by rfl) (pv 2)) vp_int (by first | exact nomark _ | rfl)) (vp_tup (va_cons vp_str (va_cons (vp_ixS (pv 2) vp_int (fun _ _ => rfl)) va_nil))) (vp_tup (va_cons vp_str (va_cons (vp_callTy call_tupP (by rfl) T.b_tuple bt_tuple (va_cons (vp_frz (vv_lc [("heights", 4)] rfl sc_key_or_pin.nd (vi_any (vp_var (pv 1))) (blkOk_by (by kernel_rfl)) (fun _ _ _ _ _ => (vg_name (i := 4) sc_key_or_pin.nd rfl (by first | exact .inl rfl | exact .inr rfl))) (fun _ _ _ _ _ => vts_nil) (fun _ _ _ _ _ => (vp_ixS (pv 4) vp_int (fun _ _ => rfl))))) va_nil)) va_nil))))))))))
theorem bd_check_lock (T : Tx K mg) : Binds K T.fd_check_lock ["lock"] [] := T.F_check_lock.binds (ps := ["lock"]) fun _ _ _ _ _ _ us hl => match us, hl with | [_], _ => rfl
theorem ok_check_lock (T : Tx K mg) : FnOk P w K mg base (L2.CX P w) 5 T.f_check_lock T.fd_check_lock ["lock"] (spF K mg 1 F_check_lock) := ok_fn T.F_check_lock sc_check_lock fun cdv A outer s H E hr =>
  (vss_one (vs_if (vb_not (vb_val (vp_frz (vv_call (ok_is_lock T) (takes_of rfl rfl rfl rfl) (hr.mono (by decide)) (by rfl) T.m_is_lock T.F_is_lock.kp (bd_is_lock T) (vav_cons (vv_var (pv 0)) (vav_nil)) (hlen := (al_cons al_nil)))))) (vss_one vs_never) vss_nil))
theorem bd_same_lock (T : Tx K mg) : Binds K T.fd_same_lock ["one", "other"] [] := T.F_same_lock.binds (ps := ["one", "other"]) fun _ _ _ _ _ _ us hl => match us, hl with | [_, _], _ => rfl
theorem ok_same_lock (T : Tx K mg) : FnOk P w K mg base (L2.CX P w) 6 T.f_same_lock T.fd_same_lock ["one", "other"] (spF K mg 2 F_same_lock) := ok_fn T.F_same_lock sc_same_lock fun cdv A outer s H E hr =>
  (vss_cons (vs_expr (vv_call (ok_check_lock T) (takes_of rfl rfl rfl rfl) (hr.mono (by decide)) (by rfl) T.m_check_lock T.F_check_lock.kp (bd_check_lock T) (vav_cons (vv_var (pv 0)) (vav_nil)) (hlen := (al_cons al_nil))))
  (vss_cons (vs_expr (vv_call (ok_check_lock T) (takes_of rfl rfl rfl rfl) (hr.mono (by decide)) (by rfl) T.m_check_lock T.F_check_lock.kp (bd_check_lock T) (vav_cons (vv_var (pv 1)) (vav_nil)) (hlen := (al_cons al_nil))))
  (vss_one (vs_ret (vv_of (vp_cmp (op_eqP (hu100 hr)) (vp_var (pv 0)) (vp_var (pv 1)) (by first | exact nomark _ | rfl)))))))
theorem ok__law_right (T : Tx K mg) : FnG P w K mg base 7 T.f__law_right (spF K mg 1 F__law_right) := ok_fnG T.F__law_right sc__law_right (fun _ _ _ _ _ _ us hl => match us, hl with | [_], _ => rfl) fun cdv A outer s H E hgd hr =>
  (vss_cons (vs_set (i := 1) sc__law_right.nd rfl (by first | exact .inl rfl | exact .inr rfl) (vv_of (vp_bin op_addP vp_int (vp_frz (vv_call (ok__law_draw T) (takes_of rfl rfl rfl rfl) (hr.mono (by decide)) (by rfl) T.m__law_draw T.F__law_draw.kp (bd__law_draw T) (vav_cons (vv_var (pv 0)) (vav_cons (vv_of vp_int) (vav_nil))) (hlen := (al_cons (al_cons al_nil))))))))
  (vss_cons (vs_frz 2 (vs_set (i := 2) sc__law_right.nd rfl (by first | exact .inl rfl | exact .inr rfl) (vv_call (ok__law_locks T) (takes_of rfl rfl rfl rfl) (hr.mono (by decide)) (by rfl) T.m__law_locks T.F__law_locks.kp (bd__law_locks T) (vav_cons (vv_var (pv 0)) (vav_cons (vv_of vp_int) (vav_cons (vv_var (pv 1)) (vav_nil)))) (hlen := (al_cons (al_cons (al_cons al_nil)))))))
  (vss_cons (vs_frz 3 (vs_set (i := 3) sc__law_right.nd rfl (by first | exact .inl rfl | exact .inr rfl) (vv_call (ok__law_keys T) (takes_of rfl rfl rfl rfl) (hr.mono (by decide)) (by rfl) T.m__law_keys T.F__law_keys.kp (bd__law_keys T) (vav_cons (vv_var (pv 1)) (vav_nil)) (hlen := (al_cons al_nil)))))
  (vss_cons (vs_frz 4 (vs_set (i := 4) sc__law_right.nd rfl (by first | exact .inl rfl | exact .inr rfl) (vv_lc [("key", 7)] rfl sc__law_right.nd (vi_any (vp_var (pv 3))) (blkOk_by (by kernel_rfl)) (fun _ _ _ _ _ => (vg_name (i := 7) sc__law_right.nd rfl (by first | exact .inl rfl | exact .inr rfl))) (fun _ _ _ _ _ => vts_nil) (fun _ _ _ _ _ => (vp_callTy call_tupP (by rfl) T.b_tuple bt_tuple (va_cons (vp_frz (vv_lc [("at", 5), ("lock", 6)] rfl sc__law_right.nd (vi_enum rfl (by rfl) T.b_enumerate (va_cons (vp_var (pv 2)) va_nil)) (blkOk_by (by kernel_rfl)) (fun _ _ _ _ _ => (vg_tup rfl (vgs_cons (vg_name (i := 5) sc__law_right.nd rfl (by first | exact .inl rfl | exact .inr rfl)) (vgs_cons (vg_name (i := 6) sc__law_right.nd rfl (by first | exact .inl rfl | exact .inr rfl)) vgs_nil)))) (fun _ _ _ _ _ => (vts_one (vb_val (vp_frz (vv_call (ok__law_opens T) takes0 (hr.mono (by decide)) (by rfl) T.m__law_opens T.F__law_opens.kp (bd__law_opens T) (vav_cons (vv_var (pv 6)) (vav_cons (vv_var (pv 7)) (vav_nil))) (hlen := (al_cons (al_cons al_nil)))))))) (fun _ _ _ _ _ => (vp_var (pv 5))))) va_nil))))))
  (vss_cons (vs_set (i := 8) sc__law_right.nd rfl (by first | exact .inl rfl | exact .inr rfl) (vv_of (vp_tupRg rfl (by rfl) T.b_tuple (by rfl) T.b_range (vp_lenS T.b_len (by rfl) (pv 2)))))
  (vss_cons (vs_set (i := 9) sc__law_right.nd rfl (by first | exact .inl rfl | exact .inr rfl) (vv_of vp_int))
  (vss_cons (vs_for (passes_of rfl) rfl (vi_range1 (by rfl) T.b_range (va_cons (vp_var (pv 1)) va_nil)) (vg_name (i := 10) sc__law_right.nd rfl (by first | exact .inl rfl | exact .inr rfl)) (vss_one (vs_set (i := 9) sc__law_right.nd rfl (by first | exact .inl rfl | exact .inr rfl) (vv_of (vp_bin op_mulP (vp_var (pv 9)) (vp_len T.b_len (by rfl) (vp_frz (vv_lc [("height", 11)] rfl sc__law_right.nd (vi_range1 (by rfl) T.b_range (va_cons vp_int va_nil)) (blkOk_by (by kernel_rfl)) (fun _ _ _ _ _ => (vg_name (i := 11) sc__law_right.nd rfl (by first | exact .inl rfl | exact .inr rfl))) (fun _ _ _ _ _ => (vts_one (vb_val (vp_callB (call_allP rfl) (by rfl) T.b_all bt_all (va_cons (vp_frz (vv_lc [("lock", 6)] rfl sc__law_right.nd (vi_any (vp_var (pv 2))) (blkOk_by (by kernel_rfl)) (fun _ _ _ _ _ => (vg_name (i := 6) sc__law_right.nd rfl (by first | exact .inl rfl | exact .inr rfl))) (fun _ _ _ _ _ => vts_nil) (fun _ _ _ _ _ => (vp_cmp (op_inP (hu100 hr)) (vp_var (pv 11)) (vp_ixS (pv 6) (vp_var (pv 10)) (fun _ _ => rfl)) (by first | exact nomark _ | rfl))))) va_nil))))) (fun _ _ _ _ _ => (vp_var (pv 11)))))))))))
  (vss_cons (vs_if (vb_w (vw_or (vb_cmp (op_neP (hu100 hr)) (vp_callB (call_reprP hgd (hu100 hr)) (by rfl) T.b_repr bt_repr (va_cons (vp_frz (vv_call (ok_keys_count T) (takes_of rfl rfl rfl rfl) (hr.mono (by decide)) (by rfl) T.m_keys_count T.F_keys_count.kp (bd_keys_count T) (vav_cons (vv_var (pv 2)) (vav_nil)) (hlen := (al_cons al_nil)))) va_nil)) (vp_callB (call_reprP hgd (hu100 hr)) (by rfl) T.b_repr bt_repr (va_cons (vp_mt PySem.F.plainAttrs_list PySem.F.slot_list_count PySem.F.type_list_count (mt_countP (hu100 hr)) (vp_var (pv 4)) (va_cons (vp_var (pv 8)) va_nil)) va_nil)) (by first | exact nomark _ | rfl)) (vw_or1 (vb_cmp (op_neP (hu100 hr)) (vp_mt PySem.F.plainAttrs_list PySem.F.slot_list_count PySem.F.type_list_count (mt_countP (hu100 hr)) (vp_var (pv 4)) (va_cons (vp_var (pv 8)) va_nil)) (vp_var (pv 9)) (by first | exact nomark _ | rfl))))) (vss_one (vs_ret (vv_of vp_bl))) vss_nil)
  (vss_cons (vs_if (vb_cmp (op_neP (hu100 hr)) (vp_cmp (op_gtP (hu100 hr)) (vp_var (pv 9)) vp_int (by first | exact nomark _ | rfl)) (vp_cmp (op_eqP (hu100 hr)) (vp_ix ix_seqO (vp_frz (vv_call (ok_key_or_pin T) (takes_of rfl rfl rfl rfl) (hr.mono (by decide)) (by rfl) T.m_key_or_pin T.F_key_or_pin.kp (bd_key_or_pin T) (vav_cons (vv_var (pv 2)) (vav_nil)) (hlen := (al_cons al_nil)))) vp_int (fun _ _ => rfl)) vp_str (by first | exact nomark _ | rfl)) (by first | exact nomark _ | rfl)) (vss_one (vs_ret (vv_of vp_bl))) vss_nil)
  (vss_cons (vs_for (passes_of rfl) rfl (vi_range1 (by rfl) T.b_range (va_cons (vp_lenS T.b_len (by rfl) (pv 2)) va_nil)) (vg_name (i := 12) sc__law_right.nd rfl (by first | exact .inl rfl | exact .inr rfl)) (vss_cons (vs_set (i := 13) sc__law_right.nd rfl (by first | exact .inl rfl | exact .inr rfl) (vv_of (vp_if (vb_cmp (op_inP (hu100 hr)) (vp_tup (va_cons (vp_var (pv 12)) va_nil)) (vp_var (pv 4)) (by first | exact nomark _ | rfl)) (vp_ixS (pv 3) (vp_mt PySem.F.plainAttrs_list PySem.F.slot_list_index PySem.F.type_list_index (mt_indexP (hu100 hr)) (vp_var (pv 4)) (va_cons (vp_tup (va_cons (vp_var (pv 12)) va_nil)) va_nil)) (fun _ _ => rfl)) vp_non)))
    (vss_one (vs_if (vb_cmp (op_neP (hu100 hr)) (vp_callB (call_reprP hgd (hu100 hr)) (by rfl) T.b_repr bt_repr (va_cons (vp_frz (vv_call (ok_own_key T) (takes_of rfl rfl rfl rfl) (hr.mono (by decide)) (by rfl) T.m_own_key T.F_own_key.kp (bd_own_key T) (vav_cons (vv_var (pv 2)) (vav_cons (vv_var (pv 12)) (vav_nil))) (hlen := (al_cons (al_cons al_nil))))) va_nil)) (vp_callB (call_reprP hgd (hu100 hr)) (by rfl) T.b_repr bt_repr (va_cons (vp_var (pv 13)) va_nil)) (by first | exact nomark _ | rfl)) (vss_one (vs_ret (vv_of vp_bl))) vss_nil))))
  (vss_cons (vs_set (i := 14) sc__law_right.nd rfl (by first | exact .inl rfl | exact .inr rfl) (vv_of (vp_callTy call_tupP (by rfl) T.b_tuple bt_tuple (va_cons (vp_frz (vv_lc [("turn", 15)] rfl sc__law_right.nd (vi_range1 (by rfl) T.b_range (va_cons (vp_bin op_addP vp_int (vp_frz (vv_call (ok__law_draw T) (takes_of rfl rfl rfl rfl) (hr.mono (by decide)) (by rfl) T.m__law_draw T.F__law_draw.kp (bd__law_draw T) (vav_cons (vv_var (pv 0)) (vav_cons (vv_of vp_int) (vav_nil))) (hlen := (al_cons (al_cons al_nil)))))) va_nil)) (blkOk_by (by kernel_rfl)) (fun _ _ _ _ _ => (vg_name (i := 15) sc__law_right.nd rfl (by first | exact .inl rfl | exact .inr rfl))) (fun _ _ _ _ _ => vts_nil) (fun _ _ _ _ _ => (vp_frz (vv_call (ok__law_some T) takes0 (hr.mono (by decide)) (by rfl) T.m__law_some T.F__law_some.kp (bd__law_some T) (vav_cons (vv_var (pv 0)) (vav_cons (vv_var (pv 3)) (vav_nil))) (hlen := (al_cons (al_cons al_nil)))))))) va_nil))))
  (vss_cons (vs_if (vb_cmp (op_neP (hu100 hr)) (vp_callB (call_reprP hgd (hu100 hr)) (by rfl) T.b_repr bt_repr (va_cons (vp_frz (vv_call (ok_key_by_key T) (takes_of rfl rfl rfl rfl) (hr.mono (by decide)) (by rfl) T.m_key_by_key T.F_key_by_key.kp (bd_key_by_key T) (vav_cons (vv_var (pv 2)) (vav_cons (vv_var (pv 14)) (vav_nil))) (hlen := (al_cons (al_cons al_nil))))) va_nil)) (vp_callB (call_reprP hgd (hu100 hr)) (by rfl) T.b_repr bt_repr (va_cons (vp_callTy call_tupP (by rfl) T.b_tuple bt_tuple (va_cons (vp_frz (vv_lc [("key", 7)] rfl sc__law_right.nd (vi_any (vp_var (pv 14))) (blkOk_by (by kernel_rfl)) (fun _ _ _ _ _ => (vg_name (i := 7) sc__law_right.nd rfl (by first | exact .inl rfl | exact .inr rfl))) (fun _ _ _ _ _ => vts_nil) (fun _ _ _ _ _ => (vp_ixS (pv 4) (vp_mt PySem.F.plainAttrs_list PySem.F.slot_list_index PySem.F.type_list_index (mt_indexP (hu100 hr)) (vp_var (pv 3)) (va_cons (vp_var (pv 7)) va_nil)) (fun _ _ => rfl))))) va_nil)) va_nil)) (by first | exact nomark _ | rfl)) (vss_one (vs_ret (vv_of vp_bl))) vss_nil)
  (vss_cons (vs_frz 16 (vs_set (i := 16) sc__law_right.nd rfl (by first | exact .inl rfl | exact .inr rfl) (vv_call (ok_own_key T) (takes_of rfl rfl rfl rfl) (hr.mono (by decide)) (by rfl) T.m_own_key T.F_own_key.kp (bd_own_key T) (vav_cons (vv_var (pv 2)) (vav_cons (vv_of vp_int) (vav_nil))) (hlen := (al_cons (al_cons al_nil))))))
  (vss_cons (vs_if (vb_w (vw_and (vb_cmp op_isnotP (vp_var (pv 16)) vp_non (by first | exact nomark _ | rfl)) (vw_and1 (vb_cmp (op_neP (hu100 hr)) (vp_frz (vv_call (ok_key_by_key T) (takes_of rfl rfl rfl rfl) (hr.mono (by decide)) (by rfl) T.m_key_by_key T.F_key_by_key.kp (bd_key_by_key T) (vav_cons (vv_var (pv 2)) (vav_cons (vv_of (vp_tup (va_cons (vp_var (pv 16)) va_nil))) (vav_nil))) (hlen := (al_cons (al_cons al_nil))))) (vp_tup (va_cons (vp_tup (va_cons vp_int va_nil)) va_nil)) (by first | exact nomark _ | rfl))))) (vss_one (vs_ret (vv_of vp_bl))) vss_nil)
  (vss_one (vs_ret (vv_of (vp_or (vp_cmp (op_eqP (hu100 hr)) (vp_lenS T.b_len (by rfl) (pv 2)) vp_int (by first | exact nomark _ | rfl)) (vp_or (vp_cmp op_isP (vp_var (pv 16)) vp_non (by first | exact nomark _ | rfl)) (vp_one (vp_cmp op_isnotP (vp_frz (vv_call (ok_same_lock T) (takes_of rfl rfl rfl rfl) (hr.mono (by decide)) (by rfl) T.m_same_lock T.F_same_lock.kp (bd_same_lock T) (vav_cons (vv_of (vp_ixS (pv 2) vp_int (fun _ _ => rfl))) (vav_cons (vv_of (vp_ixS (pv 2) vp_int (fun _ _ => rfl))) (vav_nil))) (hlen := (al_cons (al_cons al_nil))))) vp_bl (by first | exact nomark _ | rfl))))))))))))))))))))))
theorem ok_law (T : Tx K mg) : FnG P w K mg base 8 T.f_law (spF K mg 1 F_law) := ok_fnG T.F_law sc_law (fun _ _ _ _ _ _ us hl => match us, hl with | [_], _ => rfl) fun cdv A outer s H E hgd hr =>
  (vss_cons (vs_setLoc (i := 1) sc_law.nd rfl (by first | exact .inl rfl | exact .inr rfl) (vv_call (ok__law_hand T) (takes_of rfl rfl rfl rfl) (hr.mono (by decide)) (by rfl) T.m__law_hand T.F__law_hand.kp (bd__law_hand T) (vav_cons (vv_var (pv 0)) (vav_nil)) (hlen := (al_cons al_nil))))
  (vss_cons (vs_set (i := 2) sc_law.nd rfl (by first | exact .inl rfl | exact .inr rfl) (vv_of (vp_tup (va_cons (vp_tup (va_cons (vp_tup (va_cons vp_int (va_cons vp_int va_nil))) (va_cons (vp_tup (va_cons vp_int va_nil)) va_nil))) (va_cons (vp_tup (va_cons (vp_tup (va_cons vp_int (va_cons vp_int va_nil))) (va_cons (vp_tup (va_cons vp_int (va_cons vp_int va_nil))) va_nil))) va_nil)))))
  (vss_cons (vs_if (vb_w (vw_or (vb_cmp (op_neP (hu100 hr)) (vp_frz (vv_call (ok_keys_count T) (takes_of rfl rfl rfl rfl) (hr.mono (by decide)) (by rfl) T.m_keys_count T.F_keys_count.kp (bd_keys_count T) (vav_cons (vv_var (pv 2)) (vav_nil)) (hlen := (al_cons al_nil)))) vp_int (by first | exact nomark _ | rfl)) (vw_or (vb_cmp (op_neP (hu100 hr)) (vp_frz (vv_call (ok_own_key T) (takes_of rfl rfl rfl rfl) (hr.mono (by decide)) (by rfl) T.m_own_key T.F_own_key.kp (bd_own_key T) (vav_cons (vv_var (pv 2)) (vav_cons (vv_of vp_int) (vav_nil))) (hlen := (al_cons (al_cons al_nil))))) (vp_tup (va_cons vp_int (va_cons vp_int va_nil))) (by first | exact nomark _ | rfl)) (vw_or1 (vb_cmp (op_neP (hu100 hr)) (vp_frz (vv_call (ok_own_key T) (takes_of rfl rfl rfl rfl) (hr.mono (by decide)) (by rfl) T.m_own_key T.F_own_key.kp (bd_own_key T) (vav_cons (vv_var (pv 2)) (vav_cons (vv_of vp_int) (vav_nil))) (hlen := (al_cons (al_cons al_nil))))) (vp_tup (va_cons vp_int (va_cons vp_int va_nil))) (by first | exact nomark _ | rfl)))))) (vss_one (vs_ret (vv_of vp_bl))) vss_nil)
  (vss_cons (vs_if (vb_cmp (op_neP (hu100 hr)) (vp_frz (vv_call (ok_key_by_key T) (takes_of rfl rfl rfl rfl) (hr.mono (by decide)) (by rfl) T.m_key_by_key T.F_key_by_key.kp (bd_key_by_key T) (vav_cons (vv_var (pv 2)) (vav_cons (vv_of (vp_tup (va_cons (vp_tup (va_cons vp_int (va_cons vp_int va_nil))) (va_cons (vp_tup (va_cons vp_int (va_cons vp_int va_nil))) va_nil)))) (vav_nil))) (hlen := (al_cons (al_cons al_nil))))) (vp_tup (va_cons (vp_tup (va_cons vp_int (va_cons vp_int va_nil))) (va_cons (vp_tup va_nil) va_nil))) (by first | exact nomark _ | rfl)) (vss_one (vs_ret (vv_of vp_bl))) vss_nil)
  (vss_one (vs_ret (vv_of (vp_callB (call_allP rfl) (by rfl) T.b_all bt_all (va_cons (vp_frz (vv_lc [("turn", 3)] rfl sc_law.nd (vi_range1 (by rfl) T.b_range (va_cons vp_int va_nil)) (blkOk_by (by kernel_rfl)) (fun _ _ _ _ _ => (vg_name (i := 3) sc_law.nd rfl (by first | exact .inl rfl | exact .inr rfl))) (fun _ _ _ _ _ => vts_nil) (fun _ _ _ _ _ => (vp_frz (vv_callG (ok__law_right T) hgd takes0 (hr.mono (by decide)) (by rfl) T.m__law_right T.F__law_right.kp (vav_cons (vv_var (pv 1)) (vav_nil)) (al_cons al_nil)))))) va_nil)))))))))
end
theorem all_mk {P : Program} {w : World} {K : PySem.W.Frag} {h : Heap} {mg : Str → Option Value} {fa : Addr} {f0 : Addr} {od0 an0 : Option Addr} {sl0 : Array (Option Value)} {oc0 kV0 dc0 pm0 cd0 ct0 : Value} {f1 : Addr} {od1 an1 : Option Addr} {sl1 : Array (Option Value)} {oc1 kV1 dc1 pm1 cd1 ct1 : Value} {f2 : Addr} {od2 an2 : Option Addr} {sl2 : Array (Option Value)} {oc2 kV2 dc2 pm2 cd2 ct2 : Value} {f3 : Addr} {od3 an3 : Option Addr} {sl3 : Array (Option Value)} {oc3 kV3 dc3 pm3 cd3 ct3 : Value} {f4 : Addr} {od4 an4 : Option Addr} {sl4 : Array (Option Value)} {oc4 kV4 dc4 pm4 cd4 ct4 : Value} {f5 : Addr} {od5 an5 : Option Addr} {sl5 : Array (Option Value)} {oc5 kV5 dc5 pm5 cd5 ct5 : Value} {f6 : Addr} {od6 an6 : Option Addr} {sl6 : Array (Option Value)} {oc6 kV6 dc6 pm6 cd6 ct6 : Value} {f7 : Addr} {od7 an7 : Option Addr} {sl7 : Array (Option Value)} {oc7 kV7 dc7 pm7 cd7 ct7 : Value} {f8 : Addr} {od8 an8 : Option Addr} {sl8 : Array (Option Value)} {oc8 kV8 dc8 pm8 cd8 ct8 : Value} {f9 : Addr} {od9 an9 : Option Addr} {sl9 : Array (Option Value)} {oc9 kV9 dc9 pm9 cd9 ct9 : Value} {f10 : Addr} {od10 an10 : Option Addr} {sl10 : Array (Option Value)} {oc10 kV10 dc10 pm10 cd10 ct10 : Value} {f11 : Addr} {od11 an11 : Option Addr} {sl11 : Array (Option Value)} {oc11 kV11 dc11 pm11 cd11 ct11 : Value} {f12 : Addr} {od12 an12 : Option Addr} {sl12 : Array (Option Value)} {oc12 kV12 dc12 pm12 cd12 ct12 : Value} {f13 : Addr} {od13 an13 : Option Addr} {sl13 : Array (Option Value)} {oc13 kV13 dc13 pm13 cd13 ct13 : Value} {f14 : Addr} {od14 an14 : Option Addr} {sl14 : Array (Option Value)} {oc14 kV14 dc14 pm14 cd14 ct14 : Value} {f15 : Addr} {od15 an15 : Option Addr} {sl15 : Array (Option Value)} {oc15 kV15 dc15 pm15 cd15 ct15 : Value} {f16 : Addr} {od16 an16 : Option Addr} {sl16 : Array (Option Value)} {oc16 kV16 dc16 pm16 cd16 ct16 : Value} {f17 : Addr} {od17 an17 : Option Addr} {sl17 : Array (Option Value)} {oc17 kV17 dc17 pm17 cd17 ct17 : Value} {f18 : Addr} {od18 an18 : Option Addr} {sl18 : Array (Option Value)} {oc18 kV18 dc18 pm18 cd18 ct18 : Value} {f19 : Addr} {od19 an19 : Option Addr} {sl19 : Array (Option Value)} {oc19 kV19 dc19 pm19 cd19 ct19 : Value} {f20 : Addr} {od20 an20 : Option Addr} {sl20 : Array (Option Value)} {oc20 kV20 dc20 pm20 cd20 ct20 : Value} {f21 : Addr} {od21 an21 : Option Addr} {sl21 : Array (Option Value)} {oc21 kV21 dc21 pm21 cd21 ct21 : Value} {f22 : Addr} {od22 an22 : Option Addr} {sl22 : Array (Option Value)} {oc22 kV22 dc22 pm22 cd22 ct22 : Value} {f23 : Addr} {od23 an23 : Option Addr} {sl23 : Array (Option Value)} {oc23 kV23 dc23 pm23 cd23 ct23 : Value} {t_MOST_PINS : Tok} {t_HEIGHTS : Tok} {t_MOST_LOCKS : Tok} {t_MOST_KEYS : Tok} (X : K.In h) (G : h.Ns mainGlobals mg) (hfa : mg "law" = some (.ref fa))
    (a0 : PySem.W.nsIn K mainGlobals "_law_hand" = some (some (.ref f0))) (l0 : K.lookup f0 = some ⟨oc0, od0, .func (PySem.W.fnOf "_law_hand" "_law_hand" (defArgs s__law_hand) (defBody s__law_hand) (defScope s__law_hand) .none kV0 dc0 pm0 an0 cd0 ct0), sl0⟩) (c0 : PySem.W.codeIn K cd0 "_law_hand" = true) (k0 : PySem.W.keepIn K (.ref f0) = true)
    (a1 : PySem.W.nsIn K mainGlobals "is_tuple" = some (some (.ref f1))) (l1 : K.lookup f1 = some ⟨oc1, od1, .func (PySem.W.fnOf "is_tuple" "is_tuple" (defArgs s_is_tuple) (defBody s_is_tuple) (defScope s_is_tuple) .none kV1 dc1 pm1 an1 cd1 ct1), sl1⟩) (c1 : PySem.W.codeIn K cd1 "is_tuple" = true) (k1 : PySem.W.keepIn K (.ref f1) = true)
    (a2 : PySem.W.nsIn K mainGlobals "is_integer" = some (some (.ref f2))) (l2 : K.lookup f2 = some ⟨oc2, od2, .func (PySem.W.fnOf "is_integer" "is_integer" (defArgs s_is_integer) (defBody s_is_integer) (defScope s_is_integer) .none kV2 dc2 pm2 an2 cd2 ct2), sl2⟩) (c2 : PySem.W.codeIn K cd2 "is_integer" = true) (k2 : PySem.W.keepIn K (.ref f2) = true)
    (a3 : PySem.W.nsIn K mainGlobals "is_within" = some (some (.ref f3))) (l3 : K.lookup f3 = some ⟨oc3, od3, .func (PySem.W.fnOf "is_within" "is_within" (defArgs s_is_within) (defBody s_is_within) (defScope s_is_within) .none kV3 dc3 pm3 an3 cd3 ct3), sl3⟩) (c3 : PySem.W.codeIn K cd3 "is_within" = true) (k3 : PySem.W.keepIn K (.ref f3) = true)
    (a4 : PySem.W.nsIn K mainGlobals "is_lot" = some (some (.ref f4))) (l4 : K.lookup f4 = some ⟨oc4, od4, .func (PySem.W.fnOf "is_lot" "is_lot" (defArgs s_is_lot) (defBody s_is_lot) (defScope s_is_lot) .none kV4 dc4 pm4 an4 cd4 ct4), sl4⟩) (c4 : PySem.W.codeIn K cd4 "is_lot" = true) (k4 : PySem.W.keepIn K (.ref f4) = true)
    (a5 : PySem.W.nsIn K mainGlobals "is_lock" = some (some (.ref f5))) (l5 : K.lookup f5 = some ⟨oc5, od5, .func (PySem.W.fnOf "is_lock" "is_lock" (defArgs s_is_lock) (defBody s_is_lock) (defScope s_is_lock) .none kV5 dc5 pm5 an5 cd5 ct5), sl5⟩) (c5 : PySem.W.codeIn K cd5 "is_lock" = true) (k5 : PySem.W.keepIn K (.ref f5) = true)
    (a6 : PySem.W.nsIn K mainGlobals "check_locks" = some (some (.ref f6))) (l6 : K.lookup f6 = some ⟨oc6, od6, .func (PySem.W.fnOf "check_locks" "check_locks" (defArgs s_check_locks) (defBody s_check_locks) (defScope s_check_locks) .none kV6 dc6 pm6 an6 cd6 ct6), sl6⟩) (c6 : PySem.W.codeIn K cd6 "check_locks" = true) (k6 : PySem.W.keepIn K (.ref f6) = true)
    (a7 : PySem.W.nsIn K mainGlobals "right_heights" = some (some (.ref f7))) (l7 : K.lookup f7 = some ⟨oc7, od7, .func (PySem.W.fnOf "right_heights" "right_heights" (defArgs s_right_heights) (defBody s_right_heights) (defScope s_right_heights) .none kV7 dc7 pm7 an7 cd7 ct7), sl7⟩) (c7 : PySem.W.codeIn K cd7 "right_heights" = true) (k7 : PySem.W.keepIn K (.ref f7) = true)
    (a8 : PySem.W.nsIn K mainGlobals "keys_count" = some (some (.ref f8))) (l8 : K.lookup f8 = some ⟨oc8, od8, .func (PySem.W.fnOf "keys_count" "keys_count" (defArgs s_keys_count) (defBody s_keys_count) (defScope s_keys_count) .none kV8 dc8 pm8 an8 cd8 ct8), sl8⟩) (c8 : PySem.W.codeIn K cd8 "keys_count" = true) (k8 : PySem.W.keepIn K (.ref f8) = true)
    (a9 : PySem.W.nsIn K mainGlobals "does_open" = some (some (.ref f9))) (l9 : K.lookup f9 = some ⟨oc9, od9, .func (PySem.W.fnOf "does_open" "does_open" (defArgs s_does_open) (defBody s_does_open) (defScope s_does_open) .none kV9 dc9 pm9 an9 cd9 ct9), sl9⟩) (c9 : PySem.W.codeIn K cd9 "does_open" = true) (k9 : PySem.W.keepIn K (.ref f9) = true)
    (a10 : PySem.W.nsIn K mainGlobals "own_key" = some (some (.ref f10))) (l10 : K.lookup f10 = some ⟨oc10, od10, .func (PySem.W.fnOf "own_key" "own_key" (defArgs s_own_key) (defBody s_own_key) (defScope s_own_key) .none kV10 dc10 pm10 an10 cd10 ct10), sl10⟩) (c10 : PySem.W.codeIn K cd10 "own_key" = true) (k10 : PySem.W.keepIn K (.ref f10) = true)
    (a11 : PySem.W.nsIn K mainGlobals "is_key" = some (some (.ref f11))) (l11 : K.lookup f11 = some ⟨oc11, od11, .func (PySem.W.fnOf "is_key" "is_key" (defArgs s_is_key) (defBody s_is_key) (defScope s_is_key) .none kV11 dc11 pm11 an11 cd11 ct11), sl11⟩) (c11 : PySem.W.codeIn K cd11 "is_key" = true) (k11 : PySem.W.keepIn K (.ref f11) = true)
    (a12 : PySem.W.nsIn K mainGlobals "key_by_key" = some (some (.ref f12))) (l12 : K.lookup f12 = some ⟨oc12, od12, .func (PySem.W.fnOf "key_by_key" "key_by_key" (defArgs s_key_by_key) (defBody s_key_by_key) (defScope s_key_by_key) .none kV12 dc12 pm12 an12 cd12 ct12), sl12⟩) (c12 : PySem.W.codeIn K cd12 "key_by_key" = true) (k12 : PySem.W.keepIn K (.ref f12) = true)
    (a13 : PySem.W.nsIn K mainGlobals "_law_draw" = some (some (.ref f13))) (l13 : K.lookup f13 = some ⟨oc13, od13, .func (PySem.W.fnOf "_law_draw" "_law_draw" (defArgs s__law_draw) (defBody s__law_draw) (defScope s__law_draw) .none kV13 dc13 pm13 an13 cd13 ct13), sl13⟩) (c13 : PySem.W.codeIn K cd13 "_law_draw" = true) (k13 : PySem.W.keepIn K (.ref f13) = true)
    (a14 : PySem.W.nsIn K mainGlobals "_law_some" = some (some (.ref f14))) (l14 : K.lookup f14 = some ⟨oc14, od14, .func (PySem.W.fnOf "_law_some" "_law_some" (defArgs s__law_some) (defBody s__law_some) (defScope s__law_some) .none kV14 dc14 pm14 an14 cd14 ct14), sl14⟩) (c14 : PySem.W.codeIn K cd14 "_law_some" = true) (k14 : PySem.W.keepIn K (.ref f14) = true)
    (a15 : PySem.W.nsIn K mainGlobals "_law_lot" = some (some (.ref f15))) (l15 : K.lookup f15 = some ⟨oc15, od15, .func (PySem.W.fnOf "_law_lot" "_law_lot" (defArgs s__law_lot) (defBody s__law_lot) (defScope s__law_lot) .none kV15 dc15 pm15 an15 cd15 ct15), sl15⟩) (c15 : PySem.W.codeIn K cd15 "_law_lot" = true) (k15 : PySem.W.keepIn K (.ref f15) = true)
    (a16 : PySem.W.nsIn K mainGlobals "_law_locks" = some (some (.ref f16))) (l16 : K.lookup f16 = some ⟨oc16, od16, .func (PySem.W.fnOf "_law_locks" "_law_locks" (defArgs s__law_locks) (defBody s__law_locks) (defScope s__law_locks) .none kV16 dc16 pm16 an16 cd16 ct16), sl16⟩) (c16 : PySem.W.codeIn K cd16 "_law_locks" = true) (k16 : PySem.W.keepIn K (.ref f16) = true)
    (a17 : PySem.W.nsIn K mainGlobals "_law_keys" = some (some (.ref f17))) (l17 : K.lookup f17 = some ⟨oc17, od17, .func (PySem.W.fnOf "_law_keys" "_law_keys" (defArgs s__law_keys) (defBody s__law_keys) (defScope s__law_keys) .none kV17 dc17 pm17 an17 cd17 ct17), sl17⟩) (c17 : PySem.W.codeIn K cd17 "_law_keys" = true) (k17 : PySem.W.keepIn K (.ref f17) = true)
    (a18 : PySem.W.nsIn K mainGlobals "_law_opens" = some (some (.ref f18))) (l18 : K.lookup f18 = some ⟨oc18, od18, .func (PySem.W.fnOf "_law_opens" "_law_opens" (defArgs s__law_opens) (defBody s__law_opens) (defScope s__law_opens) .none kV18 dc18 pm18 an18 cd18 ct18), sl18⟩) (c18 : PySem.W.codeIn K cd18 "_law_opens" = true) (k18 : PySem.W.keepIn K (.ref f18) = true)
    (a19 : PySem.W.nsIn K mainGlobals "key_or_pin" = some (some (.ref f19))) (l19 : K.lookup f19 = some ⟨oc19, od19, .func (PySem.W.fnOf "key_or_pin" "key_or_pin" (defArgs s_key_or_pin) (defBody s_key_or_pin) (defScope s_key_or_pin) .none kV19 dc19 pm19 an19 cd19 ct19), sl19⟩) (c19 : PySem.W.codeIn K cd19 "key_or_pin" = true) (k19 : PySem.W.keepIn K (.ref f19) = true)
    (a20 : PySem.W.nsIn K mainGlobals "check_lock" = some (some (.ref f20))) (l20 : K.lookup f20 = some ⟨oc20, od20, .func (PySem.W.fnOf "check_lock" "check_lock" (defArgs s_check_lock) (defBody s_check_lock) (defScope s_check_lock) .none kV20 dc20 pm20 an20 cd20 ct20), sl20⟩) (c20 : PySem.W.codeIn K cd20 "check_lock" = true) (k20 : PySem.W.keepIn K (.ref f20) = true)
    (a21 : PySem.W.nsIn K mainGlobals "same_lock" = some (some (.ref f21))) (l21 : K.lookup f21 = some ⟨oc21, od21, .func (PySem.W.fnOf "same_lock" "same_lock" (defArgs s_same_lock) (defBody s_same_lock) (defScope s_same_lock) .none kV21 dc21 pm21 an21 cd21 ct21), sl21⟩) (c21 : PySem.W.codeIn K cd21 "same_lock" = true) (k21 : PySem.W.keepIn K (.ref f21) = true)
    (a22 : PySem.W.nsIn K mainGlobals "_law_right" = some (some (.ref f22))) (l22 : K.lookup f22 = some ⟨oc22, od22, .func (PySem.W.fnOf "_law_right" "_law_right" (defArgs s__law_right) (defBody s__law_right) (defScope s__law_right) .none kV22 dc22 pm22 an22 cd22 ct22), sl22⟩) (c22 : PySem.W.codeIn K cd22 "_law_right" = true) (k22 : PySem.W.keepIn K (.ref f22) = true)
    (a23 : PySem.W.nsIn K mainGlobals "law" = some (some (.ref f23))) (l23 : K.lookup f23 = some ⟨oc23, od23, .func (PySem.W.fnOf "law" "law" (defArgs s_law) (defBody s_law) (defScope s_law) .none kV23 dc23 pm23 an23 cd23 ct23), sl23⟩) (c23 : PySem.W.codeIn K cd23 "law" = true) (k23 : PySem.W.keepIn K (.ref f23) = true)
    (z_int : PySem.W.nsIn K mainGlobals "int" = some none)
    (z_abs : PySem.W.nsIn K mainGlobals "abs" = some none)
    (z_len : PySem.W.nsIn K mainGlobals "len" = some none)
    (z_isinstance : PySem.W.nsIn K mainGlobals "isinstance" = some none)
    (z_tuple : PySem.W.nsIn K mainGlobals "tuple" = some none)
    (z_bool : PySem.W.nsIn K mainGlobals "bool" = some none)
    (z_all : PySem.W.nsIn K mainGlobals "all" = some none)
    (z_zip : PySem.W.nsIn K mainGlobals "zip" = some none)
    (z_set : PySem.W.nsIn K mainGlobals "set" = some none)
    (z_range : PySem.W.nsIn K mainGlobals "range" = some none)
    (z_any : PySem.W.nsIn K mainGlobals "any" = some none)
    (z_enumerate : PySem.W.nsIn K mainGlobals "enumerate" = some none)
    (z_repr : PySem.W.nsIn K mainGlobals "repr" = some none)
    (q_MOST_PINS : PySem.W.nsIn K mainGlobals "MOST_PINS" = some (some (.int 5 t_MOST_PINS)))
    (q_HEIGHTS : PySem.W.nsIn K mainGlobals "HEIGHTS" = some (some (.int 6 t_HEIGHTS)))
    (q_MOST_LOCKS : PySem.W.nsIn K mainGlobals "MOST_LOCKS" = some (some (.int 6 t_MOST_LOCKS)))
    (q_MOST_KEYS : PySem.W.nsIn K mainGlobals "MOST_KEYS" = some (some (.int 6 t_MOST_KEYS))) :
    ∀ base : Heap, K.In base → base.Ns mainGlobals mg → FnG P w K mg base 8 fa (spF K mg 1 F_law) := by
  have e := hfa.symm.trans (PySem.W.mg_of X G a23)
  cases e
  exact fun base _ _ => ok_law (⟨f0, _, fun_mk (st := s__law_hand) l0 c0 k0, PySem.W.mg_of X G a0, f1, _, fun_mk (st := s_is_tuple) l1 c1 k1, PySem.W.mg_of X G a1, f2, _, fun_mk (st := s_is_integer) l2 c2 k2, PySem.W.mg_of X G a2, f3, _, fun_mk (st := s_is_within) l3 c3 k3, PySem.W.mg_of X G a3, f4, _, fun_mk (st := s_is_lot) l4 c4 k4, PySem.W.mg_of X G a4, f5, _, fun_mk (st := s_is_lock) l5 c5 k5, PySem.W.mg_of X G a5, f6, _, fun_mk (st := s_check_locks) l6 c6 k6, PySem.W.mg_of X G a6, f7, _, fun_mk (st := s_right_heights) l7 c7 k7, PySem.W.mg_of X G a7, f8, _, fun_mk (st := s_keys_count) l8 c8 k8, PySem.W.mg_of X G a8, f9, _, fun_mk (st := s_does_open) l9 c9 k9, PySem.W.mg_of X G a9, f10, _, fun_mk (st := s_own_key) l10 c10 k10, PySem.W.mg_of X G a10, f11, _, fun_mk (st := s_is_key) l11 c11 k11, PySem.W.mg_of X G a11, f12, _, fun_mk (st := s_key_by_key) l12 c12 k12, PySem.W.mg_of X G a12, f13, _, fun_mk (st := s__law_draw) l13 c13 k13, PySem.W.mg_of X G a13, f14, _, fun_mk (st := s__law_some) l14 c14 k14, PySem.W.mg_of X G a14, f15, _, fun_mk (st := s__law_lot) l15 c15 k15, PySem.W.mg_of X G a15, f16, _, fun_mk (st := s__law_locks) l16 c16 k16, PySem.W.mg_of X G a16, f17, _, fun_mk (st := s__law_keys) l17 c17 k17, PySem.W.mg_of X G a17, f18, _, fun_mk (st := s__law_opens) l18 c18 k18, PySem.W.mg_of X G a18, f19, _, fun_mk (st := s_key_or_pin) l19 c19 k19, PySem.W.mg_of X G a19, f20, _, fun_mk (st := s_check_lock) l20 c20 k20, PySem.W.mg_of X G a20, f21, _, fun_mk (st := s_same_lock) l21 c21 k21, PySem.W.mg_of X G a21, f22, _, fun_mk (st := s__law_right) l22 c22 k22, PySem.W.mg_of X G a22, fa, _, fun_mk (st := s_law) l23 c23 k23, PySem.W.mg_of X G a23, PySem.W.mg_none_of X G z_int, PySem.W.mg_none_of X G z_abs, PySem.W.mg_none_of X G z_len, PySem.W.mg_none_of X G z_isinstance, PySem.W.mg_none_of X G z_tuple, PySem.W.mg_none_of X G z_bool, PySem.W.mg_none_of X G z_all, PySem.W.mg_none_of X G z_zip, PySem.W.mg_none_of X G z_set, PySem.W.mg_none_of X G z_range, PySem.W.mg_none_of X G z_any, PySem.W.mg_none_of X G z_enumerate, PySem.W.mg_none_of X G z_repr, ⟨_, PySem.W.mg_of X G q_MOST_PINS⟩, ⟨_, PySem.W.mg_of X G q_HEIGHTS⟩, ⟨_, PySem.W.mg_of X G q_MOST_LOCKS⟩, ⟨_, PySem.W.mg_of X G q_MOST_KEYS⟩⟩ : Tx K mg)
end Law

open PySem PySem.W PyProof.Rows
set_option maxHeartbeats 0 in
theorem PySem.Challenge.cw_fewjewels_k53_whole_counts_of_keys_and_o_holds : PySem.Challenge.rw_fewjewels_k53_whole_counts_of_keys_and_o.Holds := by
  w_on; o_law; k_head; (case hw => w_witness2)
  k_fill
  refine L2.DL.walkG (l := PySem.Challenge.rw_fewjewels_k53_whole_counts_of_keys_and_o) (n := 63) (k := 8) (F := Law.F_law) rfl (by decide) rfl ⟨rfl, by decide, by decide⟩ (fun w h Y => PySem.W.kIn_of Y) ?F Law.law_true
  case F =>
    intro w mg fa h KX G hmg
    refine' Law.all_mk KX G hmg ?a0 ?l0 ?c0 ?k0 ?a1 ?l1 ?c1 ?k1 ?a2 ?l2 ?c2 ?k2 ?a3 ?l3 ?c3 ?k3 ?a4 ?l4 ?c4 ?k4 ?a5 ?l5 ?c5 ?k5 ?a6 ?l6 ?c6 ?k6 ?a7 ?l7 ?c7 ?k7 ?a8 ?l8 ?c8 ?k8 ?a9 ?l9 ?c9 ?k9 ?a10 ?l10 ?c10 ?k10 ?a11 ?l11 ?c11 ?k11 ?a12 ?l12 ?c12 ?k12 ?a13 ?l13 ?c13 ?k13 ?a14 ?l14 ?c14 ?k14 ?a15 ?l15 ?c15 ?k15 ?a16 ?l16 ?c16 ?k16 ?a17 ?l17 ?c17 ?k17 ?a18 ?l18 ?c18 ?k18 ?a19 ?l19 ?c19 ?k19 ?a20 ?l20 ?c20 ?k20 ?a21 ?l21 ?c21 ?k21 ?a22 ?l22 ?c22 ?k22 ?a23 ?l23 ?c23 ?k23 ?z_int ?z_abs ?z_len ?z_isinstance ?z_tuple ?z_bool ?z_all ?z_zip ?z_set ?z_range ?z_any ?z_enumerate ?z_repr ?q_MOST_PINS ?q_HEIGHTS ?q_MOST_LOCKS ?q_MOST_KEYS
    (case a0 => k_is)
    (case l0 => k_is)
    (case c0 => k_is)
    (case k0 => k_is)
    (case a1 => k_is)
    (case l1 => k_is)
    (case c1 => k_is)
    (case k1 => k_is)
    (case a2 => k_is)
    (case l2 => k_is)
    (case c2 => k_is)
    (case k2 => k_is)
    (case a3 => k_is)
    (case l3 => k_is)
    (case c3 => k_is)
    (case k3 => k_is)
    (case a4 => k_is)
    (case l4 => k_is)
    (case c4 => k_is)
    (case k4 => k_is)
    (case a5 => k_is)
    (case l5 => k_is)
    (case c5 => k_is)
    (case k5 => k_is)
    (case a6 => k_is)
    (case l6 => k_is)
    (case c6 => k_is)
    (case k6 => k_is)
    (case a7 => k_is)
    (case l7 => k_is)
    (case c7 => k_is)
    (case k7 => k_is)
    (case a8 => k_is)
    (case l8 => k_is)
    (case c8 => k_is)
    (case k8 => k_is)
    (case a9 => k_is)
    (case l9 => k_is)
    (case c9 => k_is)
    (case k9 => k_is)
    (case a10 => k_is)
    (case l10 => k_is)
    (case c10 => k_is)
    (case k10 => k_is)
    (case a11 => k_is)
    (case l11 => k_is)
    (case c11 => k_is)
    (case k11 => k_is)
    (case a12 => k_is)
    (case l12 => k_is)
    (case c12 => k_is)
    (case k12 => k_is)
    (case a13 => k_is)
    (case l13 => k_is)
    (case c13 => k_is)
    (case k13 => k_is)
    (case a14 => k_is)
    (case l14 => k_is)
    (case c14 => k_is)
    (case k14 => k_is)
    (case a15 => k_is)
    (case l15 => k_is)
    (case c15 => k_is)
    (case k15 => k_is)
    (case a16 => k_is)
    (case l16 => k_is)
    (case c16 => k_is)
    (case k16 => k_is)
    (case a17 => k_is)
    (case l17 => k_is)
    (case c17 => k_is)
    (case k17 => k_is)
    (case a18 => k_is)
    (case l18 => k_is)
    (case c18 => k_is)
    (case k18 => k_is)
    (case a19 => k_is)
    (case l19 => k_is)
    (case c19 => k_is)
    (case k19 => k_is)
    (case a20 => k_is)
    (case l20 => k_is)
    (case c20 => k_is)
    (case k20 => k_is)
    (case a21 => k_is)
    (case l21 => k_is)
    (case c21 => k_is)
    (case k21 => k_is)
    (case a22 => k_is)
    (case l22 => k_is)
    (case c22 => k_is)
    (case k22 => k_is)
    (case a23 => k_is)
    (case l23 => k_is)
    (case c23 => k_is)
    (case k23 => k_is)
    (case z_int => k_is)
    (case z_abs => k_is)
    (case z_len => k_is)
    (case z_isinstance => k_is)
    (case z_tuple => k_is)
    (case z_bool => k_is)
    (case z_all => k_is)
    (case z_zip => k_is)
    (case z_set => k_is)
    (case z_range => k_is)
    (case z_any => k_is)
    (case z_enumerate => k_is)
    (case z_repr => k_is)
    (case q_MOST_PINS => k_is)
    (case q_HEIGHTS => k_is)
    (case q_MOST_LOCKS => k_is)
    (case q_MOST_KEYS => k_is)

