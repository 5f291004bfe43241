import PyProof.Rows.All
import Wide.All
import OpenK.AllK
import Wide.FinOn
import KE.DataMinMax
import KE.KExcIs
import KE.KExcSuper
import HandS.WideBits
import HandS.DictComp
import KE.SortData
import HandS.ExcInit
import HandS.ExcIs
import HandS.ExcField
import HandS.Exc
import HandS.ForMost
import HandS.Walk
import HandS.ForExc
import HandS.Wide
import HandS.Deep
import HandS.TupAny
import HandS.Text
import HandS.More
import HandS.SortInts
import HandS.IsInst
import HandS.WordsDict
import HandS.Conv
import PyProof.Rows.InDataRows
import HandS.TupLen
import PySem.Challenge.RW_cluehunt_k90_carryings_refused
set_option Elab.async false
set_option linter.all false
set_option maxRecDepth 100000
namespace CH
open PySem

/-- values of the data-level reading: whole data, a cell (a list or dict that is changed), a caught error, the script, a def -/
inductive W where
  | d (x : PyData)
  | ref (n : Nat)
  | exc (c : Nat) (p : W)
  | scr (ns : List Int)
  | fn (i : Nat)

abbrev Cells := List (Option PyData)
abbrev Env := List (Option W)
inductive R (α : Type) where
  | ok (a : α) (h : Cells)
  | exc (c : Nat) (p : W) (h : Cells)
  | stk
inductive RS where
  | nx (env : Env) (h : Cells)
  | ret (w : W) (h : Cells)
  | brk (env : Env) (h : Cells)
  | cnt (env : Env) (h : Cells)
  | exc (c : Nat) (p : W) (env : Env) (h : Cells)
  | stk
abbrev E := Env → Cells → R W
abbrev T := Env → Cells → R Bool
abbrev S := Env → Cells → RS
abbrev FR := Nat → List W → Cells → R W

def R.bind {α β : Type} (r : R α) (f : α → Cells → R β) : R β :=
  match r with
  | .ok a h => f a h
  | .exc c p h => .exc c p h
  | .stk => .stk
/-- the data of a value -/
def lk (h : Cells) : W → Option PyData
  | .d x => some x
  | .ref n => h[n]?.join
  | _ => none
end CH

set_option Elab.async false
set_option linter.all false
set_option maxRecDepth 100000
namespace CH
open PySem L2

structure Glob where
  K : PySem.W.Frag
  cls : Nat → Addr
  fad : Nat → Addr
  top : Addr

/-- the data of a key -/
def keyD : Key → PyData
  | .inl i => .int i
  | .inr s => .str s

/-- F is a part of H -/
abbrev Le (F H : Hp) : Prop := ∀ a o, F a = some o → H a = some o

mutual
/-- v is the data, laid in F -/
inductive DR (F : Hp) : V → PyData → Prop
  | non : DR F .non .none
  | bl (b : Bool) : DR F (.bl b) (.bool b)
  | int (i : Int) : DR F (.int i) (.int i)
  | str (s : Str) : DR F (.str s) (.str s)
  | lst {a : Addr} {vs : List V} {ds : List PyData} : F a = some (.lst vs) → DRL F vs ds → DR F (.ref a) (.list ds)
  | tup {a : Addr} {vs : List V} {ds : List PyData} : F a = some (.tup vs) → DRL F vs ds → DR F (.ref a) (.tuple ds)
  | dK {a : Addr} {o : Obj} {kvs : List (Key × V)} {ps : List (PyData × PyData)} : F a = some (.frz o (.dK kvs)) → DRK F kvs ps → DR F (.ref a) (.dict ps)
  | dT {a : Addr} {o : Obj} {kvs : List (List Key × V)} {ps : List (PyData × PyData)} : F a = some (.frz o (.dT kvs)) → DRT F kvs ps → DR F (.ref a) (.dict ps)
inductive DRL (F : Hp) : List V → List PyData → Prop
  | nil : DRL F [] []
  | cons {v : V} {d : PyData} {vs : List V} {ds : List PyData} : DR F v d → DRL F vs ds → DRL F (v :: vs) (d :: ds)
inductive DRK (F : Hp) : List (Key × V) → List (PyData × PyData) → Prop
  | nil : DRK F [] []
  | cons {k : Key} {v : V} {d : PyData} {r : List (Key × V)} {ps : List (PyData × PyData)} : DR F v d → DRK F r ps → DRK F ((k, v) :: r) ((keyD k, d) :: ps)
inductive DRT (F : Hp) : List (List Key × V) → List (PyData × PyData) → Prop
  | nil : DRT F [] []
  | cons {k : List Key} {v : V} {d : PyData} {r : List (List Key × V)} {ps : List (PyData × PyData)} : DR F v d → DRT F r ps → DRT F ((k, v) :: r) ((.tuple (k.map keyD), d) :: ps)
end

section
variable {F F' : Hp}
mutual
theorem DR.mono (h : Le F F') : ∀ {v : V} {d : PyData}, DR F v d → DR F' v d
  | _, _, .non => .non
  | _, _, .bl b => .bl b
  | _, _, .int i => .int i
  | _, _, .str s => .str s
  | _, _, .lst e q => .lst (h _ _ e) (DRL.mono h q)
  | _, _, .tup e q => .tup (h _ _ e) (DRL.mono h q)
  | _, _, .dK e q => .dK (h _ _ e) (DRK.mono h q)
  | _, _, .dT e q => .dT (h _ _ e) (DRT.mono h q)
theorem DRL.mono (h : Le F F') : ∀ {v : List V} {d : List PyData}, DRL F v d → DRL F' v d
  | _, _, .nil => .nil
  | _, _, .cons e q => .cons (DR.mono h e) (DRL.mono h q)
theorem DRK.mono (h : Le F F') : ∀ {v : List (Key × V)} {d : List (PyData × PyData)}, DRK F v d → DRK F' v d
  | _, _, .nil => .nil
  | _, _, .cons e q => .cons (DR.mono h e) (DRK.mono h q)
theorem DRT.mono (h : Le F F') : ∀ {v : List (List Key × V)} {d : List (PyData × PyData)}, DRT F v d → DRT F' v d
  | _, _, .nil => .nil
  | _, _, .cons e q => .cons (DR.mono h e) (DRT.mono h q)
end
end
theorem DRL.length {F : Hp} : ∀ {vs : List V} {ds : List PyData}, DRL F vs ds → vs.length = ds.length
  | _, _, .nil => rfl
  | _, _, .cons _ q => congrArg (· + 1) (DRL.length q)
theorem DRL.append {F : Hp} : ∀ {vs us : List V} {ds es : List PyData}, DRL F vs ds → DRL F us es → DRL F (vs ++ us) (ds ++ es)
  | _, _, _, _, .nil, q => q
  | _, _, _, _, .cons a r, q => .cons a (DRL.append r q)
theorem DRL.get {F : Hp} : ∀ {vs : List V} {ds : List PyData} {i : Nat} {d : PyData}, DRL F vs ds → ds[i]? = some d → ∃ v, vs[i]? = some v ∧ DR F v d
  | _, _, i, _, .nil, e => by simp at e
  | _, _, 0, d, .cons a r, e => by
    simp at e
    subst e
    exact ⟨_, rfl, a⟩
  | _, _, i + 1, d, .cons a r, e => by
    obtain ⟨v, e1, h⟩ := DRL.get (i := i) r (by simpa using e)
    exact ⟨v, by simpa using e1, h⟩
theorem DRL.getV {F : Hp} : ∀ {vs : List V} {ds : List PyData} {i : Nat} {v : V}, DRL F vs ds → vs[i]? = some v → ∃ d, ds[i]? = some d ∧ DR F v d
  | _, _, i, _, .nil, e => by simp at e
  | _, _, 0, d, .cons a r, e => by
    simp at e
    subst e
    exact ⟨_, rfl, a⟩
  | _, _, i + 1, d, .cons a r, e => by
    obtain ⟨v, e1, h⟩ := DRL.getV (i := i) r (by simpa using e)
    exact ⟨v, by simpa using e1, h⟩
theorem DRL.take {F : Hp} : ∀ {vs : List V} {ds : List PyData} (n : Nat), DRL F vs ds → DRL F (vs.take n) (ds.take n)
  | _, _, 0, _ => .nil
  | _, _, _ + 1, .nil => .nil
  | _, _, n + 1, .cons a r => .cons a (DRL.take n r)
theorem DRL.drop {F : Hp} : ∀ {vs : List V} {ds : List PyData} (n : Nat), DRL F vs ds → DRL F (vs.drop n) (ds.drop n)
  | _, _, 0, r => r
  | _, _, _ + 1, .nil => .nil
  | _, _, n + 1, .cons _ r => DRL.drop n r
theorem DRL.set {F : Hp} {v : V} {d : PyData} (h : DR F v d) : ∀ {vs : List V} {ds : List PyData} (n : Nat), DRL F vs ds → DRL F (vs.set n v) (ds.set n d)
  | _, _, _, .nil => .nil
  | _, _, 0, .cons _ r => .cons h r
  | _, _, n + 1, .cons a r => .cons a (DRL.set h n r)
theorem DRL.eraseIdx {F : Hp} : ∀ {vs : List V} {ds : List PyData} (n : Nat), DRL F vs ds → DRL F (vs.eraseIdx n) (ds.eraseIdx n)
  | _, _, _, .nil => .nil
  | _, _, 0, .cons _ r => r
  | _, _, n + 1, .cons a r => .cons a (DRL.eraseIdx n r)
theorem DRL.rev {F : Hp} : ∀ {vs : List V} {ds : List PyData}, DRL F vs ds → DRL F vs.reverse ds.reverse
  | _, _, .nil => .nil
  | _, _, .cons a r => by
    rw [List.reverse_cons, List.reverse_cons]
    exact (DRL.rev r).append (.cons a .nil)

theorem sql_le {K : PySem.W.Frag} {F H : Hp} {a : Addr} {xs : List V} (le : Le F H) (h : SqL K F a xs) : SqL K H a xs := by
  rcases h with (h | ⟨o, h⟩) | h
  · exact .inl (.inl (le _ _ h))
  · exact .inl (.inr ⟨o, le _ _ h⟩)
  · exact .inr h
/-- a caught exception -/
def XO (cls : Value) (d a : Addr) : HO := .ext fun h => ∃ (oe : Obj) (vs : Array Value), h.get? a = some oe ∧ Zc cls (some d) oe ∧ oe.data = .fields vs
theorem xo_ok {P : Program} {w : World} {H : Hp} {h : Heap} {a d : Addr} {cls : Value} {oe : Obj} {vs : Array Value} (e : h.get? a = some oe) (z : Zc cls (some d) oe) (dd : oe.data = .fields vs) : ObjOk P w H h a (XO cls d a) :=
  ⟨⟨oe, vs, e, z, dd⟩, ⟨oe, e⟩, fun _ _ ⟨o, v, q, r⟩ k => ⟨o, v, k o q, r⟩⟩
/-- a value of the reading: data, a cell, .. -/
def WR (g : Glob) (F : Hp) (ρ : Nat → Option Addr) : V → W → Prop
  | v, .d x => DR F v x
  | v, .ref n => ∃ a, ρ n = some a ∧ v = .ref a
  | v, .exc c p => ∃ a d pv, v = .ref a ∧ F a = some (XO (.ref (g.cls c)) d a) ∧ F d = some (.xd [("value", pv)]) ∧ WR g F ρ pv p
  | v, .scr ns => ∃ a, v = .ref a ∧ SqL g.K F a (ns.map V.int)
  | v, .fn i => v = .ref (g.fad i)
theorem WR.mono {g : Glob} {F F' : Hp} {ρ ρ' : Nat → Option Addr} {v : V} {w : W} (h : WR g F ρ v w) (f : Le F F') (r : ∀ n a, ρ n = some a → ρ' n = some a) : WR g F' ρ' v w := by
  induction w generalizing v with
  | d x => exact DR.mono f h
  | ref n =>
    obtain ⟨a, e, q⟩ := h
    exact ⟨a, r _ _ e, q⟩
  | exc c p ih =>
    obtain ⟨a, d, pv, e, q1, q2, q3⟩ := h
    exact ⟨a, d, pv, e, f _ _ q1, f _ _ q2, ih q3⟩
  | scr ns =>
    obtain ⟨a, e, q⟩ := h
    exact ⟨a, e, sql_le f q⟩
  | fn i => exact h

/-- what a cell holds -/
def CR (F : Hp) (o : Option HO) : PyData → Prop
  | .list ds => ∃ vs, o = some (.lst vs) ∧ DRL F vs ds
  | .dict ps => (∃ kvs, o = some (.dK kvs) ∧ DRK F kvs ps) ∨ ∃ kvs, o = some (.dT kvs) ∧ DRT F kvs ps
  | _ => False
theorem CR.mono {F F' : Hp} {o : Option HO} {d : PyData} (h : CR F o d) (f : Le F F') : CR F' o d := by
  cases d with
  | list ds =>
    obtain ⟨vs, e, q⟩ := h
    exact ⟨vs, e, q.mono f⟩
  | dict ps =>
    rcases h with ⟨k, e, q⟩ | ⟨k, e, q⟩
    · exact .inl ⟨k, e, q.mono f⟩
    · exact .inr ⟨k, e, q.mono f⟩
  | _ => exact h
/-- the state: F the data, ρ where the cells stand -/
structure Rl (F : Hp) (ρ : Nat → Option Addr) (h : Cells) (H : Hp) : Prop where
  le : Le F H
  cel : ∀ n c, h[n]? = some (some c) → ∃ a, ρ n = some a ∧ F a = none ∧ CR F (H a) c
  inj : ∀ n m c d a, h[n]? = some (some c) → h[m]? = some (some d) → ρ n = some a → ρ m = some a → n = m
  top : ∀ n, h.length ≤ n → ρ n = none
  pl : ∀ n a, ρ n = some a → ∃ o, H a = some o
/-- what a piece of code may have changed -/
structure Ext (F : Hp) (ρ : Nat → Option Addr) (H : Hp) (F' : Hp) (ρ' : Nat → Option Addr) (H' : Hp) : Prop where
  f : Le F F'
  r : ∀ n a, ρ n = some a → ρ' n = some a
  fr : ∀ a o, H a = some o → (∀ n, ρ n ≠ some a) → H' a = some o
  nw : ∀ a, F' a ≠ none → F a ≠ none ∨ H a = none ∨ (∃ n, ρ n = some a) ∨ ∃ vs, H a = some (.tup vs)
  rn : ∀ n a, ρ' n = some a → (∃ m, ρ m = some a) ∨ H a = none
theorem Ext.refl {F : Hp} {ρ : Nat → Option Addr} {H : Hp} : Ext F ρ H F ρ H :=
  ⟨fun _ _ h => h, fun _ _ h => h, fun _ _ h _ => h, fun _ h => .inl h, fun n _ h => .inl ⟨n, h⟩⟩
theorem Ext.trans {F F1 F2 : Hp} {ρ ρ1 ρ2 : Nat → Option Addr} {H H1 H2 : Hp} (a : Ext F ρ H F1 ρ1 H1) (b : Ext F1 ρ1 H1 F2 ρ2 H2) : Ext F ρ H F2 ρ2 H2 := by
  have key : ∀ x, H1 x = none → H x = none ∨ ∃ n, ρ n = some x := fun x e => by
    by_cases hm : ∃ n, ρ n = some x
    · exact .inr hm
    · cases q : H x with
      | none => exact .inl rfl
      | some o =>
        have := a.fr x o q (fun n z => hm ⟨n, z⟩)
        rw [e] at this
        cases this
  refine ⟨fun x o h => b.f x o (a.f x o h), fun n x h => b.r n x (a.r n x h), fun x o h hn => b.fr x o (a.fr x o h hn) (fun n z => ?_), fun x h => ?_, fun n x h => ?_⟩
  · rcases a.rn n x z with ⟨m, e⟩ | e
    · exact hn m e
    · rw [h] at e; cases e
  · rcases b.nw x h with e | e | ⟨n, e⟩ | ⟨vs, e⟩
    · exact a.nw x e
    · rcases key x e with e | e
      · exact .inr (.inl e)
      · exact .inr (.inr (.inl e))
    · rcases a.rn n x e with e | e
      · exact .inr (.inr (.inl e))
      · exact .inr (.inl e)
    · by_cases hm : ∃ n, ρ n = some x
      · exact .inr (.inr (.inl hm))
      · cases q : H x with
        | none => exact .inr (.inl rfl)
        | some o =>
          have z := a.fr x o q (fun n z => hm ⟨n, z⟩)
          rw [e] at z
          cases z
          exact .inr (.inr (.inr ⟨vs, rfl⟩))
  · rcases b.rn n x h with ⟨m, e⟩ | e
    · exact a.rn m x e
    · rcases key x e with e | e
      · exact .inr e
      · exact .inl e
/-- the slots -/
structure ER (g : Glob) (F : Hp) (ρ : Nat → Option Addr) (σ : St) (env : Env) : Prop where
  len : σ.length = env.length
  get : ∀ (i : Nat) (w : W), env[i]? = some (some w) → ∃ v : V, σ[i]? = some (some v) ∧ WR g F ρ v w
theorem ER.ext {g : Glob} {F F' : Hp} {ρ ρ' : Nat → Option Addr} {H H' : Hp} {σ : St} {env : Env} (h : ER g F ρ σ env) (x : Ext F ρ H F' ρ' H') : ER g F' ρ' σ env :=
  ⟨h.len, fun i w e => by
    obtain ⟨v, e1, q⟩ := h.get i w e
    exact ⟨v, e1, q.mono x.f x.r⟩⟩
theorem ER.set {g : Glob} {F : Hp} {ρ : Nat → Option Addr} {σ : St} {env : Env} (h : ER g F ρ σ env) (i : Nat) {v : V} {w : W} (r : WR g F ρ v w) : ER g F ρ (σ.set i (some v)) (env.set i (some w)) := by
  refine ⟨by rw [List.length_set, List.length_set]; exact h.len, fun j u e => ?_⟩
  by_cases hij : i = j
  · subst hij
    by_cases hl : i < env.length
    · rw [List.getElem?_set_self hl] at e
      cases e
      exact ⟨v, List.getElem?_set_self (by rw [h.len]; exact hl), r⟩
    · rw [List.getElem?_eq_none (by simp; omega)] at e
      cases e
  · rw [List.getElem?_set_ne hij] at e
    rw [List.getElem?_set_ne hij]
    exact h.get j u e
theorem ER.clear {g : Glob} {F : Hp} {ρ : Nat → Option Addr} {σ : St} {env : Env} (h : ER g F ρ σ env) (i : Nat) (z : Option V) : ER g F ρ (σ.set i z) (env.set i none) := by
  refine ⟨by rw [List.length_set, List.length_set]; exact h.len, fun j u e => ?_⟩
  by_cases hij : i = j
  · subst hij
    by_cases hl : i < env.length
    · rw [List.getElem?_set_self hl] at e
      cases e
    · rw [List.getElem?_eq_none (by simp; omega)] at e
      cases e
  · rw [List.getElem?_set_ne hij] at e
    rw [List.getElem?_set_ne hij]
    exact h.get j u e
/-- the wish of an error: class, own dict, slots, heap -/
abbrev WX := Value → Option Addr → St → Hp → Prop

/-- what is wanted of an outcome: a value by rel, an error by Wx -/
def Po (g : Glob) (Wx : WX) (σ : St) {α β : Type} (rel : Hp → (Nat → Option Addr) → β → α → Prop) (H F : Hp) (ρ : Nat → Option Addr) (Q : β → Hp → Prop) : R α → Prop
  | .ok a h' => ∀ b H' F' ρ', Ext F ρ H F' ρ' H' → rel F' ρ' b a → Rl F' ρ' h' H' → Q b H'
  | .exc c p h' => ∀ v dd H' F' ρ', Ext F ρ H F' ρ' H' → WR g F' ρ' v p → Rl F' ρ' h' H' → F' dd = some (.xd [("value", v)]) → Wx (.ref (g.cls c)) (some dd) σ H'
  | .stk => False
theorem Po.ext {g : Glob} {Wx : WX} {σ : St} {α β : Type} {rel : Hp → (Nat → Option Addr) → β → α → Prop} {H F H1 F1 : Hp} {ρ ρ1 : Nat → Option Addr} {Q : β → Hp → Prop} {r : R α}
    (p : Po g Wx σ rel H F ρ Q r) (x : Ext F ρ H F1 ρ1 H1) : Po g Wx σ rel H1 F1 ρ1 Q r := by
  cases r with
  | ok a h => exact fun b H' F' ρ' y => p b H' F' ρ' (x.trans y)
  | exc c q h => exact fun v dd H' F' ρ' y => p v dd H' F' ρ' (x.trans y)
  | stk => exact p
theorem Po.bind {g : Glob} {Wx : WX} {σ : St} {α β γ δ : Type} {rel : Hp → (Nat → Option Addr) → β → α → Prop} {rel2 : Hp → (Nat → Option Addr) → δ → γ → Prop} {H F : Hp} {ρ : Nat → Option Addr} {Q : δ → Hp → Prop} {r : R α} {k : α → Cells → R γ}
    (p : Po g Wx σ rel2 H F ρ Q (r.bind k)) : Po g Wx σ rel H F ρ (fun x H1 => ∃ F1 ρ1 h1 w, Ext F ρ H F1 ρ1 H1 ∧ rel F1 ρ1 x w ∧ Rl F1 ρ1 h1 H1 ∧ Po g Wx σ rel2 H1 F1 ρ1 Q (k w h1)) r := by
  cases r with
  | ok a h => exact fun b H' F' ρ' x q l => ⟨F', ρ', h, a, x, q, l, Po.ext p x⟩
  | exc c q h => exact p
  | stk => exact p
theorem Po.mono {g : Glob} {Wx : WX} {σ : St} {α β : Type} {rel : Hp → (Nat → Option Addr) → β → α → Prop} {H F : Hp} {ρ : Nat → Option Addr} {Q Q' : β → Hp → Prop} {r : R α}
    (p : Po g Wx σ rel H F ρ Q r) (h : ∀ b H', Q b H' → Q' b H') : Po g Wx σ rel H F ρ Q' r := by
  cases r with
  | ok a _ => exact fun b H' F' ρ' x q l => h _ _ (p b H' F' ρ' x q l)
  | exc c q _ => exact p
  | stk => exact p
/-- a reading by a data-level meaning -/
def tG (g : Glob) (Wx : WX) {α β : Type} (rel : Hp → (Nat → Option Addr) → β → α → Prop) (s : Env → Cells → R α) : St → Hp → (β → Hp → Prop) → Prop := fun σ H Q =>
  ∃ F ρ env h, ER g F ρ σ env ∧ Rl F ρ h H ∧ Po g Wx σ rel H F ρ Q (s env h)
theorem tG.of {g : Glob} {Wx : WX} {α β γ δ : Type} {rel : Hp → (Nat → Option Addr) → β → α → Prop} {rel2 : Hp → (Nat → Option Addr) → δ → γ → Prop} {σ : St} {H : Hp} {Q : β → Hp → Prop} {s : Env → Cells → R α} {a : Env → Cells → R γ} {k : Env → γ → Cells → R α}
    (h : tG g Wx rel s σ H Q) (hs : ∀ env h, s env h = (a env h).bind (k env)) : tG g Wx rel2 a σ H (fun x H1 => ∃ F ρ env h w, ER g F ρ σ env ∧ Rl F ρ h H1 ∧ rel2 F ρ x w ∧ Po g Wx σ rel H1 F ρ Q (k env w h)) := by
  obtain ⟨F, ρ, env, h0, er, rl, p⟩ := h
  rw [hs] at p
  refine ⟨F, ρ, env, h0, er, rl, p.bind.mono ?_⟩
  rintro b H' ⟨F1, ρ1, h1, w, x, q, l, p'⟩
  exact ⟨F1, ρ1, env, h1, w, er.ext x, l, q, p'⟩
theorem tG.in {g : Glob} {Wx : WX} {α β γ δ : Type} {rel : Hp → (Nat → Option Addr) → β → α → Prop} {rel2 : Hp → (Nat → Option Addr) → δ → γ → Prop} {σ : St} {H F : Hp} {ρ : Nat → Option Addr} {env : Env} {h : Cells} {Q : β → Hp → Prop} {a : Env → Cells → R γ} {k : γ → Cells → R α}
    (er : ER g F ρ σ env) (rl : Rl F ρ h H) (p : Po g Wx σ rel H F ρ Q ((a env h).bind k)) : tG g Wx rel2 a σ H (fun x H1 => ∃ F1 ρ1 h1 w, Ext F ρ H F1 ρ1 H1 ∧ ER g F1 ρ1 σ env ∧ Rl F1 ρ1 h1 H1 ∧ rel2 F1 ρ1 x w ∧ Po g Wx σ rel H1 F1 ρ1 Q (k w h1)) := by
  refine ⟨F, ρ, env, h, er, rl, p.bind.mono ?_⟩
  rintro b H' ⟨F1, ρ1, h1, w, x, q, l, p'⟩
  exact ⟨F1, ρ1, h1, w, x, er.ext x, l, q, p'⟩
abbrev rB : Hp → (Nat → Option Addr) → Bool → Bool → Prop := fun _ _ a b => a = b
inductive WRL (g : Glob) (F : Hp) (ρ : Nat → Option Addr) : List V → List W → Prop
  | nil : WRL g F ρ [] []
  | cons {v : V} {w : W} {vs : List V} {ws : List W} : WR g F ρ v w → WRL g F ρ vs ws → WRL g F ρ (v :: vs) (w :: ws)
theorem WRL.mono {g : Glob} {F F' : Hp} {ρ ρ' : Nat → Option Addr} (f : Le F F') (r : ∀ n a, ρ n = some a → ρ' n = some a) : ∀ {vs : List V} {ws : List W}, WRL g F ρ vs ws → WRL g F' ρ' vs ws
  | _, _, .nil => .nil
  | _, _, .cons a t => .cons (a.mono f r) (WRL.mono f r t)
theorem WRL.length {g : Glob} {F : Hp} {ρ : Nat → Option Addr} : ∀ {vs : List V} {ws : List W}, WRL g F ρ vs ws → vs.length = ws.length
  | _, _, .nil => rfl
  | _, _, .cons _ t => congrArg (· + 1) (WRL.length t)
abbrev tD (g : Glob) (Wx : WX) (s : E) : TE := tG g Wx (WR g) s
abbrev tDT (g : Glob) (Wx : WX) (s : T) : TT := tG g Wx rB s
abbrev tDA (g : Glob) (Wx : WX) (s : Env → Cells → R (List W)) : TA := tG g Wx (WRL g) s
def tDS (g : Glob) (Wx : WX) (s : S) : TS := fun D σ H => ∃ F ρ env h, ER g F ρ σ env ∧ Rl F ρ h H ∧
  match s env h with
  | .nx env' h' => ∀ σ' H' F' ρ', Ext F ρ H F' ρ' H' → ER g F' ρ' σ' env' → Rl F' ρ' h' H' → D.nx σ' H'
  | .ret w h' => ∀ v H' F' ρ', Ext F ρ H F' ρ' H' → WR g F' ρ' v w → Rl F' ρ' h' H' → D.rt v H'
  | .brk env' h' => ∀ σ' H' F' ρ', Ext F ρ H F' ρ' H' → ER g F' ρ' σ' env' → Rl F' ρ' h' H' → D.bk σ' H'
  | .cnt env' h' => ∀ σ' H' F' ρ', Ext F ρ H F' ρ' H' → ER g F' ρ' σ' env' → Rl F' ρ' h' H' → D.ct σ' H'
  | .exc c p env' h' => ∀ v dd σ' H' F' ρ', Ext F ρ H F' ρ' H' → WR g F' ρ' v p → ER g F' ρ' σ' env' → Rl F' ρ' h' H' → F' dd = some (.xd [("value", v)]) → Wx (.ref (g.cls c)) (some dd) σ' H'
  | .stk => False
theorem pe_mono {X : Cx} {e : Expr} {t t' : TE} (p : PE X e t) (h : ∀ σ H Q, t' σ H Q → t σ H Q) : PE X e t' := ⟨fun pins s σ H Q I q => p.run pins s σ H Q I (h _ _ _ q)⟩
theorem pt_mono {X : Cx} {e : Expr} {t t' : TT} (p : PT X e t) (h : ∀ σ H Q, t' σ H Q → t σ H Q) : PT X e t' := ⟨fun pins s σ H Q I q => p.run pins s σ H Q I (h _ _ _ q)⟩
theorem pw_mono {X : Cx} {e : Expr} {t t' : TT} (p : PW X e t) (h : ∀ σ H Q, t' σ H Q → t σ H Q) : PW X e t' := ⟨fun wh pins s σ H Q I q => p.run wh pins s σ H Q I (h _ _ _ q)⟩
theorem pa_mono {X : Cx} {e : List Expr} {t t' : TA} (p : PA X e t) (h : ∀ σ H Q, t' σ H Q → t σ H Q) : PA X e t' := ⟨fun pos pins s σ H Q I q => p.run pos pins s σ H Q I (h _ _ _ q)⟩
theorem ps_mono {X : Cx} {e : Stmt} {t t' : TS} (p : PS X e t) (h : ∀ D σ H, t' D σ H → t D σ H) : PS X e t' := ⟨fun pins s σ H Q I q => p.run pins s σ H Q I (h _ _ _ q)⟩
theorem pss_mono {X : Cx} {e : List Stmt} {t t' : TS} (p : PSs X e t) (h : ∀ D σ H, t' D σ H → t D σ H) : PSs X e t' := ⟨fun pins s σ H Q I q => p.run pins s σ H Q I (h _ _ _ q)⟩
/-- code that the proof never comes to -/
def sDead {α : Type} : Env → Cells → R α := fun _ _ => .stk
theorem de_dead {X : Cx} {g : Glob} {Wx : WX} {e : Expr} : PE X e (tD g Wx sDead) := ⟨fun _ _ _ _ _ _ ⟨_, _, _, _, _, _, p⟩ => p.elim⟩
theorem dt_dead {X : Cx} {g : Glob} {Wx : WX} {e : Expr} : PT X e (tDT g Wx sDead) := ⟨fun _ _ _ _ _ _ ⟨_, _, _, _, _, _, p⟩ => p.elim⟩
def sDeadS : S := fun _ _ => .stk
theorem ds_dead {X : Cx} {g : Glob} {Wx : WX} {e : Stmt} : PS X e (tDS g Wx sDeadS) := ⟨fun _ _ _ _ _ _ ⟨_, _, _, _, _, _, p⟩ => p.elim⟩
theorem dss_dead {X : Cx} {g : Glob} {Wx : WX} {e : List Stmt} : PSs X e (tDS g Wx sDeadS) := ⟨fun _ _ _ _ _ _ ⟨_, _, _, _, _, _, p⟩ => p.elim⟩
end CH

set_option Elab.async false
set_option linter.all false
set_option maxRecDepth 100000
namespace CH
open PySem L2

/-! ### views: a value as data, its children in F -/
inductive Vw (F H : Hp) : V → PyData → Prop
  | non : Vw F H .non .none
  | bl (b : Bool) : Vw F H (.bl b) (.bool b)
  | int (i : Int) : Vw F H (.int i) (.int i)
  | str (s : Str) : Vw F H (.str s) (.str s)
  | lst {a : Addr} {vs : List V} {ds : List PyData} : H a = some (.lst vs) → DRL F vs ds → Vw F H (.ref a) (.list ds)
  | tup {a : Addr} {vs : List V} {ds : List PyData} : F a = some (.tup vs) → H a = some (.tup vs) → DRL F vs ds → Vw F H (.ref a) (.tuple ds)
  | dK {a : Addr} {kvs : List (Key × V)} {ps : List (PyData × PyData)} : Rd H a (.dK kvs) → DRK F kvs ps → Vw F H (.ref a) (.dict ps)
  | dT {a : Addr} {kvs : List (List Key × V)} {ps : List (PyData × PyData)} : Rd H a (.dT kvs) → DRT F kvs ps → Vw F H (.ref a) (.dict ps)
theorem DR.vw {F H : Hp} (le : Le F H) {v : V} {d : PyData} (h : DR F v d) : Vw F H v d := by
  cases h with
  | non => exact .non
  | bl b => exact .bl b
  | int i => exact .int i
  | str s => exact .str s
  | lst e q => exact .lst (le _ _ e) q
  | tup e q => exact .tup e (le _ _ e) q
  | dK e q => exact .dK (.inr ⟨_, le _ _ e⟩) q
  | dT e q => exact .dT (.inr ⟨_, le _ _ e⟩) q
theorem WR.vw {g : Glob} {F H : Hp} {ρ : Nat → Option Addr} {h : Cells} {v : V} {w : W} {d : PyData} (rl : Rl F ρ h H) (r : WR g F ρ v w) (e : lk h w = some d) : Vw F H v d := by
  cases w with
  | d x =>
    cases e
    exact DR.vw rl.le r
  | ref n =>
    obtain ⟨a, ea, rfl⟩ := r
    have e' : h[n]? = some (some d) := by
      have e : h[n]?.join = some d := e
      cases q : h[n]? with
      | none => rw [q] at e; cases e
      | some z =>
        rw [q] at e
        have e2 : z = some d := e
        rw [e2]
    obtain ⟨a', ea', _, c⟩ := rl.cel n d e'
    rw [ea] at ea'
    cases ea'
    cases d with
    | list ds =>
      obtain ⟨vs, e1, q⟩ := c
      exact .lst e1 q
    | dict ps =>
      rcases c with ⟨k, e1, q⟩ | ⟨k, e1, q⟩
      · exact .dK (.inl e1) q
      · exact .dT (.inl e1) q
    | _ => exact c.elim
  | exc c p => cases e
  | scr ns => cases e
  | fn i => cases e
/-- F and H have grown -/
structure Gr (F H F' H' : Hp) : Prop where
  f : Le F F'
  h : Le H H'
  le : Le F' H'
  nw : ∀ a, F' a ≠ none → F a ≠ none ∨ H a = none ∨ ∃ vs, H a = some (.tup vs)
theorem Gr.refl {F H : Hp} (le : Le F H) : Gr F H F H := ⟨fun _ _ h => h, fun _ _ h => h, le, fun _ h => .inl h⟩
theorem Gr.new {F H : Hp} (le : Le F H) {p : Addr} {o : HO} (hp : H p = none) : Gr F H (upd F p o) (upd H p o) := by
  have fp : F p = none := by
    cases q : F p with
    | none => rfl
    | some o => rw [le _ _ q] at hp; cases hp
  refine ⟨fun a u e => ?_, fun a u e => ?_, fun a u e => ?_, fun a e => ?_⟩
  · rw [upd_ne (ne_of_none e fp)]; exact e
  · rw [upd_ne (ne_of_none e hp)]; exact e
  · by_cases h : a = p
    · subst h; rw [upd_same] at e ⊢; exact e
    · rw [upd_ne h] at e ⊢; exact le _ _ e
  · by_cases h : a = p
    · subst h; exact .inr (.inl hp)
    · rw [upd_ne h] at e; exact .inl e
/-- a tuple that stands joins the data -/
theorem Gr.join {F H : Hp} (le : Le F H) {p : Addr} {vs : List V} (hp : H p = some (.tup vs)) : Gr F H (upd F p (.tup vs)) H := by
  refine ⟨fun a u e => ?_, fun a u e => e, fun a u e => ?_, fun a e => ?_⟩
  · by_cases h : a = p
    · subst h
      have z := le _ _ e
      rw [hp] at z
      rw [upd_same, z]
    · rw [upd_ne h]; exact e
  · by_cases h : a = p
    · subst h; rw [upd_same] at e; rw [← e]; exact hp
    · rw [upd_ne h] at e; exact le _ _ e
  · by_cases h : a = p
    · subst h; exact .inr (.inr ⟨vs, hp⟩)
    · rw [upd_ne h] at e; exact .inl e
theorem Gr.ext {F H F' H' : Hp} (x : Gr F H F' H') (ρ : Nat → Option Addr) : Ext F ρ H F' ρ H' :=
  ⟨x.f, fun _ _ h => h, fun a o h _ => x.h a o h, fun a h => (x.nw a h).imp_right fun z => z.imp_right .inr, fun n _ h => .inl ⟨n, h⟩⟩
theorem Gr.rl {F H F' H' : Hp} {ρ : Nat → Option Addr} {h : Cells} (x : Gr F H F' H') (rl : Rl F ρ h H) : Rl F' ρ h H' := by
  refine ⟨x.le, fun n c e => ?_, rl.inj, rl.top, fun n a e => (rl.pl n a e).imp fun o h => x.h a o h⟩
  obtain ⟨a, ea, fa, cr⟩ := rl.cel n c e
  have hs : ∃ o, H a = some o := by
    cases c with
    | list ds => obtain ⟨vs, e1, _⟩ := cr; exact ⟨_, e1⟩
    | dict ps => rcases cr with ⟨k, e1, _⟩ | ⟨k, e1, _⟩ <;> exact ⟨_, e1⟩
    | _ => exact cr.elim
  obtain ⟨o, ho⟩ := hs
  refine ⟨a, ea, ?_, ?_⟩
  · cases q : F' a with
    | none => rfl
    | some u =>
      rcases x.nw a (by rw [q]; simp) with e1 | e1 | ⟨us, e1⟩
      · exact absurd fa e1
      · rw [ho] at e1; cases e1
      · rw [e1] at cr
        cases c with
        | list ds => obtain ⟨vs, e2, _⟩ := cr; cases e2
        | dict ps => rcases cr with ⟨k, e2, _⟩ | ⟨k, e2, _⟩ <;> cases e2
        | _ => exact cr.elim
  · rw [x.h a o ho, ← ho]
    exact cr.mono x.f

/-- an operation of two values by data: what the value-level rule r asks, f answers -/
def OpS (f : PyData → PyData → Option PyData) (r : R2) : Prop := ∀ (F H : Hp) (x y : V) (dx dy z : PyData) (Q : VK), Le F H → Vw F H x dx → Vw F H y dy → f dx dy = some z →
  (∀ v H' F', Gr F H F' H' → DR F' v z → Q v H') → r x y H Q
def UnS (f : PyData → Option PyData) (r : V → Hp → VK → Prop) : Prop := ∀ (F H : Hp) (x : V) (dx z : PyData) (Q : VK), Le F H → Vw F H x dx → f dx = some z →
  (∀ v H' F', Gr F H F' H' → DR F' v z → Q v H') → r x H Q
inductive VwL (F H : Hp) : List V → List PyData → Prop
  | nil : VwL F H [] []
  | cons {v : V} {d : PyData} {vs : List V} {ds : List PyData} : Vw F H v d → VwL F H vs ds → VwL F H (v :: vs) (d :: ds)
def CaS (f : List PyData → Option PyData) (r : List V → Hp → VK → Prop) : Prop := ∀ (F H : Hp) (xs : List V) (ds : List PyData) (z : PyData) (Q : VK), Le F H → VwL F H xs ds → f ds = some z →
  (∀ v H' F', Gr F H F' H' → DR F' v z → Q v H') → r xs H Q
def OpD (X : Cx) (o : Value → Value → Sem Value) (f : PyData → PyData → Option PyData) : Prop := ∃ r, OpR X o r ∧ OpS f r
def CaD (X : Cx) (o : Value) (f : List PyData → Option PyData) : Prop := ∃ r, CallR X o r ∧ CaS f r
def IxD (X : Cx) (f : PyData → PyData → Option PyData) : Prop := ∃ r, IxR X r ∧ OpS f r
def UnD (X : Cx) (o : Value → Sem Value) (f : PyData → Option PyData) : Prop := ∃ r, UnR X o r ∧ UnS f r

/-! ### the combinators of operations -/
def fin2 (f : PyData → PyData → Option PyData) (h : Cells) (x y : W) : R W :=
  match lk h x, lk h y with
  | some a, some b => match f a b with
    | some z => .ok (.d z) h
    | none => .stk
  | _, _ => .stk
def fin1 (f : PyData → Option PyData) (h : Cells) (x : W) : R W :=
  match lk h x with
  | some a => match f a with
    | some z => .ok (.d z) h
    | none => .stk
  | none => .stk
def sBin (f : PyData → PyData → Option PyData) (a b : E) : E := fun env h => (a env h).bind fun x h1 => (b env h1).bind fun y h2 => fin2 f h2 x y
def sUn (f : PyData → Option PyData) (a : E) : E := fun env h => (a env h).bind fun x h1 => fin1 f h1 x
section
variable {X : Cx} {g : Glob} {Wx : WX} {σ : St} {H F : Hp} {ρ : Nat → Option Addr} {h : Cells} {Q : VK}
theorem fin2_ok {f : PyData → PyData → Option PyData} {r : R2} (s : OpS f r) (rl : Rl F ρ h H) {x y : V} {wx wy : W} (rx : WR g F ρ x wx) (ry : WR g F ρ y wy)
    (p : Po g Wx σ (WR g) H F ρ Q (fin2 f h wx wy)) : r x y H Q := by
  unfold fin2 at p
  cases ex : lk h wx with
  | none => rw [ex] at p; exact p.elim
  | some a =>
    cases ey : lk h wy with
    | none => rw [ex, ey] at p; exact p.elim
    | some b =>
      rw [ex, ey] at p
      dsimp only at p
      cases e : f a b with
      | none => rw [e] at p; exact p.elim
      | some z =>
        rw [e] at p
        exact s F H x y a b z Q rl.le (rx.vw rl ex) (ry.vw rl ey) e fun v H' F' gr q => p v H' F' ρ (gr.ext ρ) q (gr.rl rl)
theorem fin1_ok {f : PyData → Option PyData} {r : V → Hp → VK → Prop} (s : UnS f r) (rl : Rl F ρ h H) {x : V} {wx : W} (rx : WR g F ρ x wx)
    (p : Po g Wx σ (WR g) H F ρ Q (fin1 f h wx)) : r x H Q := by
  unfold fin1 at p
  cases ex : lk h wx with
  | none => rw [ex] at p; exact p.elim
  | some a =>
    rw [ex] at p
    dsimp only at p
    cases e : f a with
    | none => rw [e] at p; exact p.elim
    | some z =>
      rw [e] at p
      exact s F H x a z Q rl.le (rx.vw rl ex) e fun v H' F' gr q => p v H' F' ρ (gr.ext ρ) q (gr.rl rl)
end
theorem tG.mono {g : Glob} {Wx : WX} {α β : Type} {rel : Hp → (Nat → Option Addr) → β → α → Prop} {s : Env → Cells → R α} {σ : St} {H : Hp} {Q Q' : β → Hp → Prop} (h : tG g Wx rel s σ H Q) (q : ∀ b H', Q b H' → Q' b H') : tG g Wx rel s σ H Q' := by
  obtain ⟨F, ρ, env, h0, er, rl, p⟩ := h
  exact ⟨F, ρ, env, h0, er, rl, p.mono q⟩
section
variable {X : Cx} {g : Glob} {Wx : WX} {σ : St} {H : Hp} {Q : VK}
theorem top_ok {a b : E} {f : PyData → PyData → Option PyData} {r : R2} (s : OpS f r) (h : tD g Wx (sBin f a b) σ H Q) : tOp r (tD g Wx a) (tD g Wx b) σ H Q := by
  refine (tG.of (rel2 := WR g) (a := a) (k := fun env x h1 => (b env h1).bind fun y h2 => fin2 f h2 x y) h (fun _ _ => rfl)).mono ?_
  rintro x H1 ⟨F, ρ, env, h1, w, er, rl, rx, p⟩
  refine (tG.in (rel2 := WR g) er rl p).mono ?_
  rintro y H2 ⟨F1, ρ1, h2, w', ext, er1, rl1, ry, p1⟩
  exact fin2_ok s rl1 (rx.mono ext.f ext.r) ry p1
theorem tun_ok {a : E} {f : PyData → Option PyData} {r : V → Hp → VK → Prop} (s : UnS f r) (h : tD g Wx (sUn f a) σ H Q) : tD g Wx a σ H (fun x H1 => r x H1 Q) := by
  refine (tG.of (rel2 := WR g) (a := a) (k := fun env x h1 => fin1 f h1 x) h (fun _ _ => rfl)).mono ?_
  rintro x H1 ⟨F, ρ, env, h1, w, er, rl, rx, p⟩
  exact fin1_ok s rl rx p
end

/-! ### names, constants, operators -/
def sVar (i : Nat) : E := fun env h => match env[i]? with
  | some (some w) => .ok w h
  | _ => .stk
def sD (d : PyData) : E := fun _ h => .ok (.d d) h
section
variable {X : Cx} {g : Glob} {Wx : WX} {pos : Pos}
theorem de_var (i : Nat) {x : Str} (hN : X.N[i]? = some x := by rfl) (hv : Vis X.env.scope x := by first | exact Or.inl rfl | exact Or.inr (Or.inl rfl) | exact Or.inr (Or.inr rfl)) (hd : (x == ("__debug__" : Str)) = false := by decide) (hcd : (x == ("__classdict__" : Str)) = false := by decide) : PE X (.Name x pos) (tD g Wx (sVar i)) := by
  refine pe_mono (pe_var (i := i) hN hv hd hcd) fun σ H Q ⟨F, ρ, env, h, er, rl, p⟩ => ?_
  unfold sVar at p
  cases e : env[i]? with
  | none => rw [e] at p; exact p.elim
  | some z =>
    cases z with
    | none => rw [e] at p; exact p.elim
    | some w =>
      rw [e] at p
      obtain ⟨v, e1, r⟩ := er.get i w e
      exact ⟨v, e1, p v H F ρ Ext.refl r rl⟩
theorem de_con {e : Expr} {v : V} {d : PyData} (h : PE X e (tC v)) (r : ∀ F, DR F v d) : PE X e (tD g Wx (sD d)) :=
  pe_mono h fun σ H Q ⟨F, ρ, env, h, er, rl, p⟩ => p v H F ρ Ext.refl (r F) rl
theorem de_int {i : Int} {j : Nat} : PE X (.Constant (.int i) j pos) (tD g Wx (sD (.int i))) := de_con pe_int fun _ => .int i
theorem de_bl {b : Bool} {j : Nat} : PE X (.Constant (.bool b) j pos) (tD g Wx (sD (.bool b))) := de_con pe_bl fun _ => .bl b
theorem de_non {j : Nat} : PE X (.Constant .none j pos) (tD g Wx (sD .none)) := de_con pe_non fun _ => .non
theorem de_str {x : Str} (cs : List Nat) {j : Nat} (hx : x = ⟨⟨cs⟩⟩ := by decide +kernel) : PE X (.Constant (.str x) j pos) (tD g Wx (sD (.str ⟨⟨cs⟩⟩))) := by
  subst hx
  exact de_con pe_str fun _ => .str _
variable {a b : Expr} {sa sb : E}
theorem de_bin {op : Operator} {f : PyData → PyData → Option PyData} (o : OpD X (binaryOp op) f) (ha : PE X a (tD g Wx sa)) (hb : PE X b (tD g Wx sb)) : PE X (.BinOp a op b pos) (tD g Wx (sBin f sa sb)) := by
  obtain ⟨r, h1, h2⟩ := o
  exact pe_mono (pe_op h1 ha hb) fun σ H Q h => top_ok h2 h
theorem de_cmp {op : CmpOp} {f : PyData → PyData → Option PyData} (o : OpD X (compareOp op) f) (ha : PE X a (tD g Wx sa)) (hb : PE X b (tD g Wx sb)) (hm : behindInMarks op b = false := by first | exact nobehind _ (by decide) (by decide) | rfl) : PE X (.Compare a [op] [b] pos) (tD g Wx (sBin f sa sb)) := by
  obtain ⟨r, h1, h2⟩ := o
  exact pe_mono (pe_cmpR h1 ha hb hm) fun σ H Q h => top_ok h2 h
theorem de_ix {f : PyData → PyData → Option PyData} (o : IxD X f) (ha : PE X a (tD g Wx sa)) (hb : PE X b (tD g Wx sb)) (hs : PlainIx b := by exact fun _ _ => rfl) : PE X (.Subscript a b pos) (tD g Wx (sBin f sa sb)) := by
  obtain ⟨r, h1, h2⟩ := o
  exact pe_mono (pe_ix h1 ha hb hs) fun σ H Q h => top_ok h2 h
theorem de_un {op : UnaryOp} {f : PyData → Option PyData} (o : UnD X (unaryOp op) f) (ha : PE X a (tD g Wx sa)) : PE X (.UnaryOp op a pos) (tD g Wx (sUn f sa)) := by
  obtain ⟨r, h1, h2⟩ := o
  exact pe_mono (pe_un h1 ha) fun σ H Q h => tun_ok h2 h
end
end CH

set_option Elab.async false
set_option linter.all false
set_option maxRecDepth 100000
namespace CH
open PySem L2

/-! ### arguments -/
abbrev AE := Env → Cells → R (List W)
def sNil : AE := fun _ h => .ok [] h
def sCons (a : E) (as : AE) : AE := fun env h => (a env h).bind fun w h1 => (as env h1).bind fun ws h2 => .ok (w :: ws) h2
def lkL (h : Cells) : List W → Option (List PyData)
  | [] => some []
  | w :: ws => match lk h w, lkL h ws with
    | some d, some ds => some (d :: ds)
    | _, _ => none
def dsL : List W → Option (List PyData)
  | [] => some []
  | .d x :: ws => match dsL ws with
    | some ds => some (x :: ds)
    | none => none
  | _ :: _ => none
theorem WRL.vw {g : Glob} {F H : Hp} {ρ : Nat → Option Addr} {h : Cells} (rl : Rl F ρ h H) : ∀ {vs : List V} {ws : List W} {ds : List PyData}, WRL g F ρ vs ws → lkL h ws = some ds → VwL F H vs ds
  | _, _, ds, .nil, e => by
    cases e
    exact .nil
  | _, _, ds, .cons (w := w) (ws := ws) a r, e => by
    unfold lkL at e
    cases e1 : lk h w with
    | none => rw [e1] at e; cases e
    | some d =>
      cases e2 : lkL h ws with
      | none => rw [e1, e2] at e; cases e
      | some d2 =>
        rw [e1, e2] at e
        cases e
        exact .cons (a.vw rl e1) (WRL.vw rl r e2)
theorem WRL.dr {g : Glob} {F : Hp} {ρ : Nat → Option Addr} : ∀ {vs : List V} {ws : List W} {ds : List PyData}, WRL g F ρ vs ws → dsL ws = some ds → DRL F vs ds
  | _, _, ds, .nil, e => by
    cases e
    exact .nil
  | _, _, ds, .cons (w := w) (ws := ws) a r, e => by
    cases w with
    | d x =>
      unfold dsL at e
      cases e2 : dsL ws with
      | none => rw [e2] at e; cases e
      | some d2 =>
        rw [e2] at e
        cases e
        exact .cons a (WRL.dr r e2)
    | _ => unfold dsL at e; cases e
section
variable {X : Cx} {g : Glob} {Wx : WX} {σ : St} {H : Hp}
theorem tcons_ok {a : E} {as : AE} {Q : List V → Hp → Prop} (h : tDA g Wx (sCons a as) σ H Q) : tCons (tD g Wx a) (tDA g Wx as) σ H Q := by
  refine (tG.of (rel2 := WR g) (a := a) (k := fun env w h1 => (as env h1).bind fun ws h2 => .ok (w :: ws) h2) h (fun _ _ => rfl)).mono ?_
  rintro x H1 ⟨F, ρ, env, h1, w, er, rl, rx, p⟩
  refine (tG.in (rel2 := WRL g) er rl p).mono ?_
  rintro y H2 ⟨F1, ρ1, h2, w', ext, er1, rl1, ry, p1⟩
  exact p1 _ H2 F1 ρ1 Ext.refl (.cons (rx.mono ext.f ext.r) ry) rl1
theorem da_nil : PA X [] (tDA g Wx sNil) := pa_mono pa_nil fun σ H Q ⟨F, ρ, env, h, er, rl, p⟩ => p [] H F ρ Ext.refl .nil rl
theorem da_cons {e : Expr} {es : List Expr} {a : E} {as : AE} (ha : PE X e (tD g Wx a)) (hr : PA X es (tDA g Wx as)) (hs : starEach (e :: es) X.env = (false, eval e X.env) :: starEach es X.env := by rfl) : PA X (e :: es) (tDA g Wx (sCons a as)) :=
  pa_mono (pa_cons ha hr hs) fun σ H Q h => tcons_ok h
end

/-! ### displays -/
/-- new data laid: as whole data, or as a cell -/
def mk (c : Bool) (d : PyData) (h : Cells) : R W := if c then .ok (.ref h.length) (h ++ [some d]) else .ok (.d d) h
def sTup (as : AE) : E := fun env h => (as env h).bind fun ws h1 => match dsL ws with
  | some ds => if ds.length ≤ 1000 then .ok (.d (.tuple ds)) h1 else .stk
  | none => .stk
def sLst (c : Bool) (as : AE) : E := fun env h => (as env h).bind fun ws h1 => match dsL ws with
  | some ds => if ds.length ≤ 1000 then mk c (.list ds) h1 else .stk
  | none => .stk
theorem small_line {n : Nat} (h : n ≤ 1000) : n ≤ sizeLine := by
  have e : sizeLine = 16777216 := sizeLine_eq
  omega
theorem line_of {n : Nat} (h : n ≤ 16777216) : n ≤ sizeLine := by
  have e : sizeLine = 16777216 := sizeLine_eq
  omega
theorem lt_line_of {n : Nat} (h : n < 16777216) : n < sizeLine := by
  have e : sizeLine = 16777216 := sizeLine_eq
  omega
section
variable {g : Glob} {Wx : WX} {σ : St} {F H : Hp} {ρ : Nat → Option Addr} {h : Cells} {Q : VK}
theorem Rl.isSome {c : PyData} {F : Hp} {o : Option HO} (cr : CR F o c) : ∃ u, o = some u := by
  cases c with
  | list ds => obtain ⟨vs, e1, _⟩ := cr; exact ⟨_, e1⟩
  | dict ps => rcases cr with ⟨k, e1, _⟩ | ⟨k, e1, _⟩ <;> exact ⟨_, e1⟩
  | _ => exact cr.elim
/-- a new cell at p -/
theorem Rl.cellNew (rl : Rl F ρ h H) {p : Addr} {o : HO} {d : PyData} (hp : H p = none) (c : CR F (some o) d) :
    Rl F (fun n => if n = h.length then some p else ρ n) (h ++ [some d]) (upd H p o) ∧ Ext F ρ H F (fun n => if n = h.length then some p else ρ n) (upd H p o) := by
  have fp : F p = none := by
    cases q : F p with
    | none => rfl
    | some o => rw [rl.le _ _ q] at hp; cases hp
  have fresh : ∀ n c, h[n]? = some (some c) → ρ n ≠ some p := fun n c e z => by
    obtain ⟨a, ea, _, cr⟩ := rl.cel n c e
    rw [ea] at z; cases z
    obtain ⟨u, hu⟩ := Rl.isSome cr
    rw [hp] at hu; cases hu
  have old : ∀ n c, h[n]? = some (some c) → n ≠ h.length := fun n c e z => by
    subst z
    rw [List.getElem?_eq_none (Nat.le_refl _)] at e
    cases e
  have cas : ∀ (n : Nat) (c : PyData), (h ++ [some d])[n]? = some (some c) → (h[n]? = some (some c)) ∨ (n = h.length ∧ c = d) := fun n c e => by
    by_cases hn : n < h.length
    · rw [List.getElem?_append_left hn] at e
      exact .inl e
    · by_cases hn' : n = h.length
      · subst hn'
        rw [List.getElem?_append_right (Nat.le_refl _)] at e
        simp at e
        exact .inr ⟨rfl, e.symm⟩
      · rw [List.getElem?_eq_none (by simp; omega)] at e
        cases e
  refine ⟨⟨fun a u e => ?_, fun n c e => ?_, fun n m c e a h1 h2 h3 h4 => ?_, fun n hn => ?_, fun n a e => ?_⟩, ⟨fun _ _ e => e, fun n a e => ?_, fun a u e hn => ?_, fun _ e => .inl e, fun n a e => ?_⟩⟩
  · rw [upd_ne (ne_of_none e fp)]; exact rl.le _ _ e
  · rcases cas n c e with e1 | ⟨rfl, rfl⟩
    · obtain ⟨a, ea, fa, cr⟩ := rl.cel n c e1
      refine ⟨a, ?_, fa, ?_⟩
      · rw [if_neg (old n c e1)]; exact ea
      · obtain ⟨u, hu⟩ := Rl.isSome cr
        rw [upd_ne (ne_of_none hu hp)]; exact cr
    · exact ⟨p, if_pos rfl, fp, by rw [upd_same]; assumption⟩
  · rcases cas n c h1 with e1 | ⟨e1, _⟩
    · rcases cas m e h2 with e2 | ⟨e2, _⟩
      · rw [if_neg (old n c e1)] at h3
        rw [if_neg (old m e e2)] at h4
        exact rl.inj n m c e a e1 e2 h3 h4
      · rw [if_neg (old n c e1)] at h3
        rw [if_pos e2] at h4
        cases h4
        exact absurd h3 (fresh n c e1)
    · rcases cas m e h2 with e2 | ⟨e2, _⟩
      · rw [if_neg (old m e e2)] at h4
        rw [if_pos e1] at h3
        cases h3
        exact absurd h4 (fresh m e e2)
      · exact e1.trans e2.symm
  · rw [List.length_append, List.length_singleton] at hn
    rw [if_neg (by omega)]
    exact rl.top n (by omega)
  · by_cases hn : n = h.length
    · rw [if_pos hn] at e
      cases e
      exact ⟨_, upd_same⟩
    · rw [if_neg hn] at e
      obtain ⟨u, hu⟩ := rl.pl n a e
      exact ⟨u, by rw [upd_ne (ne_of_none hu hp)]; exact hu⟩
  · by_cases hn : n = h.length
    · subst hn
      rw [rl.top _ (Nat.le_refl _)] at e
      cases e
    · rw [if_neg hn]; exact e
  · rw [upd_ne (ne_of_none e hp)]; exact e
  · by_cases hn : n = h.length
    · rw [if_pos hn] at e
      cases e
      exact .inr hp
    · rw [if_neg hn] at e
      exact .inl ⟨n, e⟩
/-- what a new object's maker asks -/
theorem mk_ok {c : Bool} {d : PyData} (rl : Rl F ρ h H) (p : Po g Wx σ (WR g) H F ρ Q (mk c d h)) {o : HO} (hc : CR F (some o) d) (a : Addr) (hd : ∀ F', F' a = some o → Le F F' → DR F' (.ref a) d) (ha : H a = none) : Q (.ref a) (upd H a o) := by
  unfold mk at p
  cases c with
  | true =>
    obtain ⟨r1, x1⟩ := rl.cellNew ha hc
    rw [if_pos rfl] at p
    exact p (.ref a) _ F _ x1 ⟨a, if_pos rfl, rfl⟩ r1
  | false =>
    rw [if_neg (by decide)] at p
    have gr := Gr.new (o := o) rl.le ha
    exact p (.ref a) _ _ ρ (gr.ext ρ) (hd _ upd_same gr.f) (gr.rl rl)
end
section
variable {X : Cx} {g : Glob} {Wx : WX} {pos : Pos} {es : List Expr} {as : AE}
theorem de_tup {x1 : Nat} (h : PA X es (tDA g Wx as)) : PE X (.Tuple es x1 pos) (tD g Wx (sTup as)) := by
  refine pe_mono (pe_tup h) fun σ H Q hh => ?_
  refine (tG.of (rel2 := WRL g) (a := as) hh (fun _ _ => rfl)).mono ?_
  rintro xs H1 ⟨F, ρ, env, h1, ws, er, rl, rx, p⟩
  cases e : dsL ws with
  | none => rw [e] at p; exact p.elim
  | some ds =>
    rw [e] at p
    try dsimp only at p
    have dr := rx.dr e
    by_cases hl : ds.length ≤ 1000
    · rw [if_pos hl] at p
      refine ⟨small_line (by rw [dr.length]; exact hl), fun a ha => ?_⟩
      have gr := Gr.new (o := .tup xs) rl.le ha
      exact p (.ref a) _ _ ρ (gr.ext ρ) (.tup upd_same (dr.mono gr.f)) (gr.rl rl)
    · rw [if_neg hl] at p; exact p.elim
theorem de_lst (c : Bool) (h : PA X es (tDA g Wx as)) : PE X (.List es pos) (tD g Wx (sLst c as)) := by
  refine pe_mono (pe_lst h) fun σ H Q hh => ?_
  refine (tG.of (rel2 := WRL g) (a := as) hh (fun _ _ => rfl)).mono ?_
  rintro xs H1 ⟨F, ρ, env, h1, ws, er, rl, rx, p⟩
  cases e : dsL ws with
  | none => rw [e] at p; exact p.elim
  | some ds =>
    rw [e] at p
    try dsimp only at p
    have dr := rx.dr e
    by_cases hl : ds.length ≤ 1000
    · rw [if_pos hl] at p
      exact ⟨small_line (by rw [dr.length]; exact hl), fun a ha => mk_ok rl p ⟨xs, rfl, dr⟩ a (fun F' e le => .lst e (dr.mono le)) ha⟩
    · rw [if_neg hl] at p; exact p.elim
end

/-! ### built-ins called by name -/
def finL (f : List PyData → Option PyData) (h : Cells) (ws : List W) : R W :=
  match lkL h ws with
  | some ds => match f ds with
    | some z => .ok (.d z) h
    | none => .stk
  | none => .stk
def sCB (f : List PyData → Option PyData) (as : AE) : E := fun env h => (as env h).bind fun ws h1 => finL f h1 ws
section
variable {X : Cx} {g : Glob} {Wx : WX} {pos : Pos} {e : Expr} {es : List Expr} {as : AE}
theorem tcb_ok {f : List PyData → Option PyData} {r : List V → Hp → VK → Prop} (s : CaS f r) {σ : St} {H : Hp} {Q : VK} (h : tD g Wx (sCB f as) σ H Q) : tCB r (tDA g Wx as) σ H Q := by
  refine (tG.of (rel2 := WRL g) (a := as) h (fun _ _ => rfl)).mono ?_
  rintro xs H1 ⟨F, ρ, env, h1, ws, er, rl, rx, p⟩
  dsimp only [finL] at p
  cases e : lkL h1 ws with
  | none => rw [e] at p; exact p.elim
  | some ds =>
    rw [e] at p
    try dsimp only at p
    cases e2 : f ds with
    | none => rw [e2] at p; exact p.elim
    | some z =>
      rw [e2] at p
      exact s F H1 xs ds z Q rl.le (rx.vw rl e) e2 fun v H' F' gr q => p v H' F' ρ (gr.ext ρ) q (gr.rl rl)
theorem de_callB {id : String} {x : Str} {p : Pos} {f : List PyData → Option PyData} (o : CaD X (.builtin id) f) (hm : X.mg x = none) (ha : PA X (e :: es) (tDA g Wx as)) (hv : bootBuiltins x = some (.builtin id) := by decide +kernel) (hg : Gl X x := by rfl) (hn : x ≠ "__name__" := by decide) (hdb : (x == ("__debug__" : Str)) = false := by decide)
    (he : starEach (e :: es) X.env = (false, eval e X.env) :: starEach es X.env := by rfl) (hpl : (backTo pos (starEach es X.env)).any (·.1) = false := by rfl) : PE X (.Call (.Name x p) (e :: es) [] pos) (tD g Wx (sCB f as)) := by
  obtain ⟨r, h1, h2⟩ := o
  exact pe_mono (pe_callB h1 hg hm hv ha hn hdb he hpl) fun σ H Q h => tcb_ok h2 h
theorem de_callTy {T : String} {x : Str} {p : Pos} {f : List PyData → Option PyData} (o : CaD X (.type T) f) (hm : X.mg x = none) (ha : PA X (e :: es) (tDA g Wx as)) (hv : bootBuiltins x = some (.type T) := by decide +kernel) (hg : Gl X x := by rfl) (hn : x ≠ "__name__" := by decide) (hdb : (x == ("__debug__" : Str)) = false := by decide)
    (he : starEach (e :: es) X.env = (false, eval e X.env) :: starEach es X.env := by rfl) (hpl : (backTo pos (starEach es X.env)).any (·.1) = false := by rfl) : PE X (.Call (.Name x p) (e :: es) [] pos) (tD g Wx (sCB f as)) := by
  obtain ⟨r, h1, h2⟩ := o
  exact pe_mono (pe_callTy h1 hg hm hv ha hn hdb he hpl) fun σ H Q h => tcb_ok h2 h
end

/-! ### tests -/
def truD : PyData → Option Bool
  | .none => some false
  | .bool b => some b
  | .int i => some (i != 0)
  | .str s => if s.length ≤ 16777216 then some ((s.length : Int) != 0) else none
  | .list xs => some (!xs.isEmpty)
  | .tuple xs => some (!xs.isEmpty)
  | .dict _ => none
def sTru (a : E) : T := fun env h => (a env h).bind fun w h1 => match lk h1 w with
  | some d => match truD d with
    | some b => .ok b h1
    | none => .stk
  | none => .stk
def sAnd (a b : T) : T := fun env h => (a env h).bind fun c h1 => if c then b env h1 else .ok false h1
def sOr (a b : T) : T := fun env h => (a env h).bind fun c h1 => if c then .ok true h1 else b env h1
def sNot (a : T) : T := fun env h => (a env h).bind fun c h1 => .ok (!c) h1
def sIfE (t : T) (a b : E) : E := fun env h => (t env h).bind fun c h1 => if c then a env h1 else b env h1
/-- a bool as a value -/
def asB (h : Cells) : W → Option Bool
  | .d (.bool b) => some b
  | _ => none
def sAndV (a b : E) : E := fun env h => (a env h).bind fun w h1 => match asB h1 w with
  | some c => if c then b env h1 else .ok (.d (.bool false)) h1
  | none => .stk
def sOrV (a b : E) : E := fun env h => (a env h).bind fun w h1 => match asB h1 w with
  | some c => if c then .ok (.d (.bool true)) h1 else b env h1
  | none => .stk
def sNotV (a : E) : E := fun env h => (a env h).bind fun w h1 => match asB h1 w with
  | some c => .ok (.d (.bool (!c))) h1
  | none => .stk
def fin2B (f : PyData → PyData → Option PyData) (h : Cells) (x y : W) : R Bool :=
  match lk h x, lk h y with
  | some a, some b => match f a b with
    | some (.bool z) => .ok z h
    | _ => .stk
  | _, _ => .stk
def sCmpT (f : PyData → PyData → Option PyData) (a b : E) : T := fun env h => (a env h).bind fun x h1 => (b env h1).bind fun y h2 => fin2B f h2 x y
def sChain (f f' : PyData → PyData → Option PyData) (a b c : E) : E := fun env h => (a env h).bind fun x h1 => (b env h1).bind fun y h2 => (fin2B f h2 x y).bind fun k h3 => if k then (c env h3).bind fun z h4 => fin2 f' h4 y z else .ok (.d (.bool false)) h3
def sBoo (a : E) : T := fun env h => (a env h).bind fun w h1 => match asB h1 w with
  | some c => .ok c h1
  | none => .stk
theorem asB_ok {g : Glob} {F : Hp} {ρ : Nat → Option Addr} {v : V} {h : Cells} {w : W} {c : Bool} (r : WR g F ρ v w) (e : asB h w = some c) : v = .bl c := by
  cases w with
  | d x =>
    cases x with
    | bool b' =>
      cases e
      have r' : DR F v (.bool c) := r
      cases r'
      rfl
    | _ => cases e
  | _ => cases e
theorem isE {α : Type} (xs : List α) {β : Type} {ys : List β} (h : xs.length = ys.length) : xs.isEmpty = ys.isEmpty := by
  cases xs <;> cases ys <;> simp_all
theorem tru_vw {K : PySem.W.Frag} {F H : Hp} {v : V} {d : PyData} {b : Bool} (h : Vw F H v d) (e : truD d = some b) : TruV K v H b := by
  cases h with
  | non => cases e; rfl
  | bl b => cases e; rfl
  | int i => cases e; rfl
  | str s =>
    have e : (if s.length ≤ 16777216 then some ((s.length : Int) != 0) else none) = some b := e
    split at e
    · rename_i hl
      cases e
      exact ⟨line_of hl, rfl⟩
    · cases e
  | lst e1 q =>
    cases e
    exact .inl ⟨_, SqL.of e1, by rw [isE _ q.length]⟩
  | tup e1 e2 q =>
    cases e
    exact .inr (.inl ⟨_, SqT.of e2, by rw [isE _ q.length]⟩)
  | dK e1 q => cases e
  | dT e1 q => cases e
section
variable {X : Cx} {g : Glob} {Wx : WX} {pos : Pos} {a b c : Expr} {sa sb sc : E} {ta tb : T} {rest : List Expr}
theorem dt_tru (ha : PE X a (tD g Wx sa)) (he : ∀ whole, isTrue a X.env whole = (do let v ← whole; standAt a.pos; holding [v] (truthy v)) := by intro _; rfl) : PT X a (tDT g Wx (sTru sa)) := by
  refine pt_mono (pt_truth ha he) fun σ H Q h => ?_
  refine (tG.of (rel2 := WR g) (a := sa) h (fun _ _ => rfl)).mono ?_
  rintro x H1 ⟨F, ρ, env, h1, w, er, rl, rx, p⟩
  try dsimp only at p
  cases e : lk h1 w with
  | none => rw [e] at p; exact p.elim
  | some d =>
    rw [e] at p
    try dsimp only at p
    cases e2 : truD d with
    | none => rw [e2] at p; exact p.elim
    | some b =>
      rw [e2] at p
      exact ⟨b, tru_vw (rx.vw rl e) e2, p b H1 F ρ Ext.refl rfl rl⟩
theorem tbody {t : T} {a b : E} {σ : St} {H : Hp} {Q : VK} (h : tD g Wx (sIfE t a b) σ H Q) : tIf (tDT g Wx t) (tD g Wx a) (tD g Wx b) σ H Q := by
  refine (tG.of (rel2 := rB) (a := t) h (fun _ _ => rfl)).mono ?_
  rintro c H1 ⟨F, ρ, env, h1, w, er, rl, rfl, p⟩
  try dsimp only at p
  cases c with
  | true =>
    rw [if_pos rfl] at p ⊢
    exact ⟨F, ρ, env, h1, er, rl, p⟩
  | false =>
    rw [if_neg Bool.false_ne_true] at p ⊢
    exact ⟨F, ρ, env, h1, er, rl, p⟩
theorem de_ifE {t : Expr} {st : T} (ht : PT X t (tDT g Wx st)) (ha : PE X a (tD g Wx sa)) (hb : PE X b (tD g Wx sb)) : PE X (.IfExp t a b pos) (tD g Wx (sIfE st sa sb)) :=
  pe_mono (pe_ifExp ht ha hb) fun σ H Q h => tbody h
theorem dt_not (ha : PT X a (tDT g Wx ta)) : PT X (.UnaryOp .Not a pos) (tDT g Wx (sNot ta)) := by
  refine pt_mono (pt_not ha) fun σ H Q h => ?_
  refine (tG.of (rel2 := rB) (a := ta) h (fun _ _ => rfl)).mono ?_
  rintro c H1 ⟨F, ρ, env, h1, w, er, rl, rfl, p⟩
  exact p _ H1 F ρ Ext.refl rfl rl
theorem dw_and1 (ha : PT X a (tDT g Wx ta)) : PW X (.BoolOp .And [a] pos) (tDT g Wx ta) := pw_and1 ha
theorem dw_or1 (ha : PT X a (tDT g Wx ta)) : PW X (.BoolOp .Or [a] pos) (tDT g Wx ta) := pw_or1 ha
theorem dw_and (ha : PT X a (tDT g Wx ta)) (hb : PW X (.BoolOp .And (b :: rest) pos) (tDT g Wx tb)) : PW X (.BoolOp .And (a :: b :: rest) pos) (tDT g Wx (sAnd ta tb)) := by
  refine pw_mono (pw_and ha hb) fun σ H Q h => ?_
  refine (tG.of (rel2 := rB) (a := ta) h (fun _ _ => rfl)).mono ?_
  rintro c H1 ⟨F, ρ, env, h1, w, er, rl, rfl, p⟩
  try dsimp only at p
  cases c with
  | true =>
    rw [if_pos rfl] at p ⊢
    exact ⟨F, ρ, env, h1, er, rl, p⟩
  | false =>
    rw [if_neg Bool.false_ne_true] at p ⊢
    exact p _ H1 F ρ Ext.refl rfl rl
theorem dw_or (ha : PT X a (tDT g Wx ta)) (hb : PW X (.BoolOp .Or (b :: rest) pos) (tDT g Wx tb)) : PW X (.BoolOp .Or (a :: b :: rest) pos) (tDT g Wx (sOr ta tb)) := by
  refine pw_mono (pw_or ha hb) fun σ H Q h => ?_
  refine (tG.of (rel2 := rB) (a := ta) h (fun _ _ => rfl)).mono ?_
  rintro c H1 ⟨F, ρ, env, h1, w, er, rl, rfl, p⟩
  try dsimp only at p
  cases c with
  | true =>
    rw [if_pos rfl] at p ⊢
    exact p _ H1 F ρ Ext.refl rfl rl
  | false =>
    rw [if_neg Bool.false_ne_true] at p ⊢
    exact ⟨F, ρ, env, h1, er, rl, p⟩
theorem de_one {op : BoolOp} (h : PE X a (tD g Wx sa)) : PE X (.BoolOp op [a] pos) (tD g Wx sa) := pe_one h
theorem de_and (ha : PE X a (tD g Wx sa)) (hb : PE X (.BoolOp .And (b :: rest) pos) (tD g Wx sb)) : PE X (.BoolOp .And (a :: b :: rest) pos) (tD g Wx (sAndV sa sb)) := by
  refine pe_mono (pe_and ha hb) fun σ H Q h => ?_
  refine (tG.of (rel2 := WR g) (a := sa) h (fun _ _ => rfl)).mono ?_
  rintro x H1 ⟨F, ρ, env, h1, w, er, rl, rx, p⟩
  try dsimp only at p
  cases e : asB h1 w with
  | none => rw [e] at p; exact p.elim
  | some c =>
    rw [e] at p
    refine ⟨c, asB_ok rx e, ?_⟩
    try dsimp only at p
    cases c with
    | true =>
      rw [if_pos rfl] at p ⊢
      exact ⟨F, ρ, env, h1, er, rl, p⟩
    | false =>
      rw [if_neg Bool.false_ne_true] at p ⊢
      exact p _ H1 F ρ Ext.refl (.bl false) rl
theorem de_or (ha : PE X a (tD g Wx sa)) (hb : PE X (.BoolOp .Or (b :: rest) pos) (tD g Wx sb)) : PE X (.BoolOp .Or (a :: b :: rest) pos) (tD g Wx (sOrV sa sb)) := by
  refine pe_mono (pe_or ha hb) fun σ H Q h => ?_
  refine (tG.of (rel2 := WR g) (a := sa) h (fun _ _ => rfl)).mono ?_
  rintro x H1 ⟨F, ρ, env, h1, w, er, rl, rx, p⟩
  try dsimp only at p
  cases e : asB h1 w with
  | none => rw [e] at p; exact p.elim
  | some c =>
    rw [e] at p
    refine ⟨c, asB_ok rx e, ?_⟩
    try dsimp only at p
    cases c with
    | true =>
      rw [if_pos rfl] at p ⊢
      exact p _ H1 F ρ Ext.refl (.bl true) rl
    | false =>
      rw [if_neg Bool.false_ne_true] at p ⊢
      exact ⟨F, ρ, env, h1, er, rl, p⟩
theorem de_not (ha : PE X a (tD g Wx sa)) : PE X (.UnaryOp .Not a pos) (tD g Wx (sNotV sa)) := by
  refine pe_mono (pe_not ha) fun σ H Q h => ?_
  refine (tG.of (rel2 := WR g) (a := sa) h (fun _ _ => rfl)).mono ?_
  rintro x H1 ⟨F, ρ, env, h1, w, er, rl, rx, p⟩
  try dsimp only at p
  cases e : asB h1 w with
  | none => rw [e] at p; exact p.elim
  | some c =>
    rw [e] at p
    exact ⟨c, asB_ok rx e, p _ H1 F ρ Ext.refl (.bl _) rl⟩
theorem fin2B_ok {f : PyData → PyData → Option PyData} {r : R2} {Q : Bool → Hp → Prop} {σ : St} {F H : Hp} {ρ : Nat → Option Addr} {h : Cells} (s : OpS f r) (rl : Rl F ρ h H) {x y : V} {wx wy : W} (rx : WR g F ρ x wx) (ry : WR g F ρ y wy)
    (p : Po g Wx σ rB H F ρ Q (fin2B f h wx wy)) : r x y H (fun z H' => ∃ k, z = .bl k ∧ Q k H') := by
  unfold fin2B at p
  cases ex : lk h wx with
  | none => rw [ex] at p; exact p.elim
  | some a =>
    cases ey : lk h wy with
    | none => rw [ex, ey] at p; exact p.elim
    | some b =>
      rw [ex, ey] at p
      try dsimp only at p
      cases e : f a b with
      | none => rw [e] at p; exact p.elim
      | some z =>
        rw [e] at p
        cases z with
        | bool k =>
          refine s F H x y a b _ _ rl.le (rx.vw rl ex) (ry.vw rl ey) e fun v H' F' gr q => ?_
          cases q
          exact ⟨k, rfl, p k H' F' ρ (gr.ext ρ) rfl (gr.rl rl)⟩
        | _ => exact p.elim
theorem dt_cmp {op : CmpOp} {f : PyData → PyData → Option PyData} (o : OpD X (compareOp op) f) (ha : PE X a (tD g Wx sa)) (hb : PE X b (tD g Wx sb)) (hm : behindInMarks op b = false := by first | exact nobehind _ (by decide) (by decide) | rfl) : PT X (.Compare a [op] [b] pos) (tDT g Wx (sCmpT f sa sb)) := by
  obtain ⟨r, h1, h2⟩ := o
  refine pt_mono (pt_cmpR h1 ha hb hm) fun σ H Q h => ?_
  refine (tG.of (rel2 := WR g) (a := sa) (k := fun env x h1 => (sb env h1).bind fun y h2 => fin2B f h2 x y) h (fun _ _ => rfl)).mono ?_
  rintro x H1 ⟨F, ρ, env, h1, w, er, rl, rx, p⟩
  refine (tG.in (rel2 := WR g) er rl p).mono ?_
  rintro y H2 ⟨F1, ρ1, h2', w', ext, er1, rl1, ry, p1⟩
  exact fin2B_ok h2 rl1 (rx.mono ext.f ext.r) ry p1
theorem tchain_ok {f f' : PyData → PyData → Option PyData} {r r' : R2} (s : OpS f r) (s' : OpS f' r') {σ : St} {H : Hp} {Q : VK} (h : tD g Wx (sChain f f' sa sb sc) σ H Q) : tChain r r' (tD g Wx sa) (tD g Wx sb) (tD g Wx sc) σ H Q := by
  refine (tG.of (rel2 := WR g) (a := sa) h (fun _ _ => rfl)).mono ?_
  rintro x H1 ⟨F, ρ, env, h1, w, er, rl, rx, p⟩
  refine (tG.in (rel2 := WR g) er rl p).mono ?_
  rintro y H2 ⟨F1, ρ1, h2', w', ext, er1, rl1, ry, p1⟩
  refine fin2B_ok (g := g) (Wx := Wx) (σ := σ) (h := h2') (F := F1) (ρ := ρ1) s rl1 (rx.mono ext.f ext.r) ry ((Po.bind p1).mono ?_)
  rintro k H3 ⟨F2, ρ2, h3, w3, ext2, rfl, rl2, p2⟩
  try dsimp only at p2
  cases k with
  | true =>
    rw [if_pos rfl] at p2 ⊢
    refine (tG.in (rel2 := WR g) (er1.ext ext2) rl2 p2).mono ?_
    rintro z H4 ⟨F3, ρ3, h4, w4, ext3, er3, rl3, rz, p3⟩
    exact fin2_ok s' rl3 ((ry.mono ext2.f ext2.r).mono ext3.f ext3.r) rz p3
  | false =>
    rw [if_neg Bool.false_ne_true] at p2 ⊢
    exact p2 _ H3 F2 ρ2 Ext.refl (.bl false) rl2
theorem de_chain {op op' : CmpOp} {f f' : PyData → PyData → Option PyData} (o : OpD X (compareOp op) f) (o' : OpD X (compareOp op') f') (ha : PE X a (tD g Wx sa)) (hb : PE X b (tD g Wx sb)) (hc : PE X c (tD g Wx sc))
    (hm : lastMarks [op, op'] [b, c] = false := by with_unfolding_all rfl) : PE X (.Compare a [op, op'] [b, c] pos) (tD g Wx (sChain f f' sa sb sc)) := by
  obtain ⟨r, h1, h2⟩ := o
  obtain ⟨r', h1', h2'⟩ := o'
  exact pe_mono (pe_chain h1 h1' ha hb hc hm) fun σ H Q h => tchain_ok h2 h2' h
theorem tboo_ok {σ : St} {H : Hp} {Q : Bool → Hp → Prop} (h : tDT g Wx (sBoo sa) σ H Q) : tD g Wx sa σ H (fun x H' => ∃ k, x = .bl k ∧ Q k H') := by
  refine (tG.of (rel2 := WR g) (a := sa) h (fun _ _ => rfl)).mono ?_
  rintro x H1 ⟨F, ρ, env, h1, w, er, rl, rx, p⟩
  try dsimp only at p
  cases e : asB h1 w with
  | none => rw [e] at p; exact p.elim
  | some c =>
    rw [e] at p
    exact ⟨c, asB_ok rx e, p c H1 F ρ Ext.refl rfl rl⟩
theorem dt_chain {op op' : CmpOp} {f f' : PyData → PyData → Option PyData} (o : OpD X (compareOp op) f) (o' : OpD X (compareOp op') f') (ha : PE X a (tD g Wx sa)) (hb : PE X b (tD g Wx sb)) (hc : PE X c (tD g Wx sc))
    (hm : lastMarks [op, op'] [b, c] = false := by with_unfolding_all rfl) : PT X (.Compare a [op, op'] [b, c] pos) (tDT g Wx (sBoo (sChain f f' sa sb sc))) := by
  obtain ⟨r, h1, h2⟩ := o
  obtain ⟨r', h1', h2'⟩ := o'
  refine pt_mono (pt_chain h1 h1' ha hb hc hm) fun σ H Q h => ?_
  exact tchain_ok (Q := fun x H' => ∃ k, x = .bl k ∧ Q k H') h2 h2' (tboo_ok h)
end
end CH

set_option Elab.async false
set_option linter.all false
set_option maxRecDepth 100000
namespace CH
open PySem L2

/-- what is wanted of a statement's outcome -/
def PoS (g : Glob) (Wx : WX) (D : Ends) (H F : Hp) (ρ : Nat → Option Addr) : RS → Prop
  | .nx env' h' => ∀ σ' H' F' ρ', Ext F ρ H F' ρ' H' → ER g F' ρ' σ' env' → Rl F' ρ' h' H' → D.nx σ' H'
  | .ret w h' => ∀ v H' F' ρ', Ext F ρ H F' ρ' H' → WR g F' ρ' v w → Rl F' ρ' h' H' → D.rt v H'
  | .brk env' h' => ∀ σ' H' F' ρ', Ext F ρ H F' ρ' H' → ER g F' ρ' σ' env' → Rl F' ρ' h' H' → D.bk σ' H'
  | .cnt env' h' => ∀ σ' H' F' ρ', Ext F ρ H F' ρ' H' → ER g F' ρ' σ' env' → Rl F' ρ' h' H' → D.ct σ' H'
  | .exc c p env' h' => ∀ v dd σ' H' F' ρ', Ext F ρ H F' ρ' H' → WR g F' ρ' v p → ER g F' ρ' σ' env' → Rl F' ρ' h' H' → F' dd = some (.xd [("value", v)]) → Wx (.ref (g.cls c)) (some dd) σ' H'
  | .stk => False
theorem PoS.ext {g : Glob} {Wx : WX} {D : Ends} {H F H1 F1 : Hp} {ρ ρ1 : Nat → Option Addr} {r : RS} (p : PoS g Wx D H F ρ r) (x : Ext F ρ H F1 ρ1 H1) : PoS g Wx D H1 F1 ρ1 r := by
  cases r with
  | nx env h => exact fun σ' H' F' ρ' y => p σ' H' F' ρ' (x.trans y)
  | ret w h => exact fun v H' F' ρ' y => p v H' F' ρ' (x.trans y)
  | brk env h => exact fun σ' H' F' ρ' y => p σ' H' F' ρ' (x.trans y)
  | cnt env h => exact fun σ' H' F' ρ' y => p σ' H' F' ρ' (x.trans y)
  | exc c q env h => exact fun v dd σ' H' F' ρ' y => p v dd σ' H' F' ρ' (x.trans y)
  | stk => exact p
def tS (g : Glob) (Wx : WX) (s : S) : TS := fun D σ H => ∃ F ρ env h, ER g F ρ σ env ∧ Rl F ρ h H ∧ PoS g Wx D H F ρ (s env h)
/-- an expression within a statement -/
def R.st {α : Type} (r : R α) (env : Env) (k : α → Cells → RS) : RS :=
  match r with
  | .ok a h => k a h
  | .exc c p h => .exc c p env h
  | .stk => .stk
theorem PoS.bind {g : Glob} {Wx : WX} {D : Ends} {σ : St} {α β : Type} {rel : Hp → (Nat → Option Addr) → β → α → Prop} {H F : Hp} {ρ : Nat → Option Addr} {env : Env} {r : R α} {k : α → Cells → RS} (er : ER g F ρ σ env)
    (p : PoS g Wx D H F ρ (r.st env k)) : Po g Wx σ rel H F ρ (fun x H1 => ∃ F1 ρ1 h1 w, Ext F ρ H F1 ρ1 H1 ∧ ER g F1 ρ1 σ env ∧ rel F1 ρ1 x w ∧ Rl F1 ρ1 h1 H1 ∧ PoS g Wx D H1 F1 ρ1 (k w h1)) r := by
  cases r with
  | ok a h => exact fun b H' F' ρ' x q l => ⟨F', ρ', h, a, x, er.ext x, q, l, PoS.ext p x⟩
  | exc c q h => exact fun v dd H' F' ρ' x wr l e => p v dd σ H' F' ρ' x wr (er.ext x) l e
  | stk => exact p
theorem tS.in {g : Glob} {Wx : WX} {D : Ends} {σ : St} {H : Hp} {α β : Type} {rel : Hp → (Nat → Option Addr) → β → α → Prop} {a : Env → Cells → R α} {k : Env → α → Cells → RS} (h : tS g Wx (fun env h => (a env h).st env (k env)) D σ H) :
    tG g Wx rel a σ H (fun x H1 => ∃ F ρ env h w, ER g F ρ σ env ∧ Rl F ρ h H1 ∧ rel F ρ x w ∧ PoS g Wx D H1 F ρ (k env w h)) := by
  obtain ⟨F, ρ, env, h0, er, rl, p⟩ := h
  refine ⟨F, ρ, env, h0, er, rl, (PoS.bind (rel := rel) er p).mono ?_⟩
  rintro b H' ⟨F1, ρ1, h1, w, x, er1, q, l, p'⟩
  exact ⟨F1, ρ1, env, h1, w, er1, l, q, p'⟩
def sSeq (a b : S) : S := fun env h => match a env h with
  | .nx env' h' => b env' h'
  | .ret w h' => .ret w h'
  | .brk env' h' => .brk env' h'
  | .cnt env' h' => .cnt env' h'
  | .exc c p env' h' => .exc c p env' h'
  | .stk => .stk
def sNop : S := fun env h => .nx env h
def sSet (i : Nat) (e : E) : S := fun env h => (e env h).st env fun w h1 => .nx (env.set i (some w)) h1
def sDrop (e : E) : S := fun env h => (e env h).st env fun _ h1 => .nx env h1
def sRet (e : E) : S := fun env h => (e env h).st env fun w h1 => .ret w h1
def sRetN : S := fun _ h => .ret (.d .none) h
def sIf (t : T) (a b : S) : S := fun env h => (t env h).st env fun c h1 => if c then a env h1 else b env h1
def sBrk : S := fun env h => .brk env h
def sCnt : S := fun env h => .cnt env h
section
variable {X : Cx} {g : Glob} {Wx : WX} {pos : Pos} {st : Stmt} {rest : List Stmt} {a b : S} {e : Expr} {se : E}
theorem ds_deadS {X : Cx} {g : Glob} {Wx : WX} {e : Stmt} : PS X e (tS g Wx sDeadS) := ⟨fun _ _ _ _ _ _ ⟨_, _, _, _, _, _, p⟩ => p.elim⟩
theorem dss_deadS {X : Cx} {g : Glob} {Wx : WX} {e : List Stmt} : PSs X e (tS g Wx sDeadS) := ⟨fun _ _ _ _ _ _ ⟨_, _, _, _, _, _, p⟩ => p.elim⟩
theorem dss_cons (h1 : PS X st (tS g Wx a)) (h2 : PSs X rest (tS g Wx b)) : PSs X (st :: rest) (tS g Wx (sSeq a b)) := by
  refine pss_mono (pss_cons h1 h2) fun D σ H ⟨F, ρ, env, h, er, rl, p⟩ => ⟨F, ρ, env, h, er, rl, ?_⟩
  unfold sSeq at p
  cases q : a env h with
  | nx env' h' =>
    rw [q] at p
    exact fun σ' H' F' ρ' x er' rl' => ⟨F', ρ', env', h', er', rl', PoS.ext p x⟩
  | ret w h' => rw [q] at p; exact p
  | brk env' h' => rw [q] at p; exact p
  | cnt env' h' => rw [q] at p; exact p
  | exc c w env' h' => rw [q] at p; exact p
  | stk => rw [q] at p; exact p
theorem dss_one (h1 : PS X st (tS g Wx a)) : PSs X [st] (tS g Wx a) := pss_one h1
theorem dss_nil : PSs X [] (tS g Wx sNop) := pss_mono pss_nil fun D σ H ⟨F, ρ, env, h, er, rl, p⟩ => p σ H F ρ Ext.refl er rl
theorem ds_pass : PS X (.Pass pos) (tS g Wx sNop) := ps_mono ps_pass fun D σ H ⟨F, ρ, env, h, er, rl, p⟩ => p σ H F ρ Ext.refl er rl
theorem ds_brk : PS X (.Break pos) (tS g Wx sBrk) := ps_mono ps_break fun D σ H ⟨F, ρ, env, h, er, rl, p⟩ => p σ H F ρ Ext.refl er rl
theorem ds_cnt : PS X (.Continue pos) (tS g Wx sCnt) := ps_mono ps_continue fun D σ H ⟨F, ρ, env, h, er, rl, p⟩ => p σ H F ρ Ext.refl er rl
theorem ds_doc {x : Str} {j : Nat} {pos' : Pos} : PS X (.Expr (.Constant (.str x) j pos) pos') (tS g Wx sNop) := ps_mono ps_doc fun D σ H ⟨F, ρ, env, h, er, rl, p⟩ => p σ H F ρ Ext.refl er rl
theorem tset_ok {i : Nat} {D : Ends} {σ : St} {H : Hp} (h : tS g Wx (sSet i se) D σ H) : tAsg (tD g Wx se) (gName i) D σ H := by
  refine (tS.in (rel := WR g) h).mono ?_
  rintro v H1 ⟨F, ρ, env, h1, w, er, rl, r, p⟩
  exact p _ H1 F ρ Ext.refl (er.set i r) rl
theorem ds_set (i : Nat) {x : Str} {pos' : Pos} (hN : X.N.Nodup) (he : PE X e (tD g Wx se)) (hx : Loc X.env.scope x := by first | exact Or.inl rfl | exact Or.inr rfl) (hi : X.N[i]? = some x := by rfl) (hs : swapsWith e (some (.Name x pos')) pos.line X.env = pure false := by rfl)
    (hf : X.fn x = true ∨ X.env.scope.names.lookup x = some .local := by first | exact .inl rfl | exact .inr rfl) : PS X (.Assign [.Name x pos'] e pos) (tS g Wx (sSet i se)) :=
  ps_mono (ps_set (i := i) hN hi hx he hs hf) fun D σ H h => tset_ok h
theorem ds_expr (he : PE X e (tD g Wx se)) (hs : swapsWith e none pos.line X.env = pure false := by rfl) : PS X (.Expr e pos) (tS g Wx (sDrop se)) := by
  refine ps_mono (ps_expr he hs) fun D σ H h => ?_
  refine (tS.in (rel := WR g) (k := fun env _ h1 => .nx env h1) h).mono ?_
  rintro v H1 ⟨F, ρ, env, h1, w, er, rl, r, p⟩
  exact p _ H1 F ρ Ext.refl er rl
theorem ds_ret (he : PE X e (tD g Wx se)) : PS X (.Return (some e) pos) (tS g Wx (sRet se)) := by
  refine ps_mono (ps_ret he) fun D σ H h => ?_
  refine (tS.in (rel := WR g) (k := fun env w h1 => .ret w h1) h).mono ?_
  rintro v H1 ⟨F, ρ, env, h1, w, er, rl, r, p⟩
  exact p _ H1 F ρ Ext.refl r rl
theorem ds_retN : PS X (.Return none pos) (tS g Wx sRetN) := ps_mono ps_retN fun D σ H ⟨F, ρ, env, h, er, rl, p⟩ => p .non H F ρ Ext.refl .non rl
theorem ds_if {c : Expr} {p q : List Stmt} {st : T} (hc : PT X c (tDT g Wx st)) (ha : PSs X p (tS g Wx a)) (hb : PSs X q (tS g Wx b)) : PS X (.If c p q pos) (tS g Wx (sIf st a b)) := by
  refine ps_mono (ps_if hc ha hb) fun D σ H h => ?_
  refine (tS.in (rel := rB) (k := fun env c h1 => if c then a env h1 else b env h1) h).mono ?_
  rintro c H1 ⟨F, ρ, env, h1, w, er, rl, rfl, p⟩
  cases c with
  | true =>
    rw [if_pos rfl] at p ⊢
    exact ⟨F, ρ, env, h1, er, rl, p⟩
  | false =>
    rw [if_neg Bool.false_ne_true] at p ⊢
    exact ⟨F, ρ, env, h1, er, rl, p⟩
end

/-! ### targets -/
inductive Pat where
  | v (i : Nat)
  | t (ps : List Pat)
mutual
def Pat.bind : Pat → PyData → Env → Option Env
  | .v i, d, env => some (env.set i (some (.d d)))
  | .t ps, .tuple ds, env => Pat.binds ps ds env
  | .t _, _, _ => none
def Pat.binds : List Pat → List PyData → Env → Option Env
  | [], [], env => some env
  | p :: ps, d :: ds, env => match Pat.bind p d env with
    | some env' => Pat.binds ps ds env'
    | none => none
  | _, _, _ => none
end
/-- the slots outside of vs stay -/
def Keeps (vs : List Nat) (σ σ' : St) : Prop := wipe σ' vs = wipe σ vs
theorem wipe_set {v : Option V} : ∀ {vs : List Nat} {i : Nat} {σ : St}, i ∈ vs → wipe (σ.set i v) vs = wipe σ vs
  | w :: vs, i, σ, h => by
    unfold wipe
    by_cases e : i ∈ vs
    · rw [wipe_set e]
    · have ew : i = w := by
        rcases List.mem_cons.mp h with h | h
        · exact h
        · exact absurd h e
      subst ew
      have gen : ∀ (us : List Nat) (τ : St), i ∉ us → wipe (τ.set i v) us = (wipe τ us).set i v := by
        intro us
        induction us with
        | nil => intro τ _; rfl
        | cons u us ih =>
          intro τ hn
          have h1 : i ≠ u := fun z => hn (z ▸ List.mem_cons_self)
          have h2 : i ∉ us := fun z => hn (List.mem_cons_of_mem _ z)
          unfold wipe
          rw [ih τ h2, List.set_comm _ _ h1]
      rw [gen vs σ e, List.set_set]
def GOk (g : Glob) (vs : List Nat) (p : Pat) (t : TG) : Prop := ∀ (F H : Hp) (ρ : Nat → Option Addr) (σ : St) (env env' : Env) (v : V) (d : PyData) (Q : St → Hp → Prop), Le F H → ER g F ρ σ env → DR F v d → p.bind d env = some env' →
  (∀ σ', ER g F ρ σ' env' → (∀ us : List Nat, (∀ i ∈ vs, i ∈ us) → wipe σ' us = wipe σ us) → Q σ' H) → t v σ H Q
def GsOk (g : Glob) (vs : List Nat) (ps : List Pat) (t : TGs) : Prop := ∀ (F H : Hp) (ρ : Nat → Option Addr) (σ : St) (env env' : Env) (v : List V) (d : List PyData) (Q : St → Hp → Prop), Le F H → ER g F ρ σ env → DRL F v d → Pat.binds ps d env = some env' →
  (∀ σ', ER g F ρ σ' env' → (∀ us : List Nat, (∀ i ∈ vs, i ∈ us) → wipe σ' us = wipe σ us) → Q σ' H) → t v σ H Q
def DG (X : Cx) (g : Glob) (vs : List Nat) (p : Pat) (e : Expr) : Prop := ∃ t, PG X e t ∧ GOk g vs p t
def DGs (X : Cx) (g : Glob) (vs : List Nat) (p : List Pat) (e : List Expr) : Prop := ∃ t, PGs X e t ∧ GsOk g vs p t
theorem Pat.binds_len : ∀ {ps : List Pat} {ds : List PyData} {env env' : Env}, Pat.binds ps ds env = some env' → ds.length = ps.length
  | [], [], _, _, _ => rfl
  | [], _ :: _, _, _, h => by unfold Pat.binds at h; cases h
  | _ :: _, [], _, _, h => by unfold Pat.binds at h; cases h
  | p :: ps, d :: ds, env, env', h => by
    unfold Pat.binds at h
    cases e : Pat.bind p d env with
    | none => rw [e] at h; cases h
    | some e1 =>
      rw [e] at h
      exact congrArg (· + 1) (Pat.binds_len h)
section
variable {X : Cx} {g : Glob} {pos : Pos}
theorem dg_name (i : Nat) {x : Str} (hN : X.N.Nodup) (hx : Loc X.env.scope x := by first | exact Or.inl rfl | exact Or.inr rfl) (hi : X.N[i]? = some x := by rfl) (hf : X.fn x = true ∨ X.env.scope.names.lookup x = some .local := by first | exact .inl rfl | exact .inr rfl) : DG X g [i] (.v i) (.Name x pos) := by
  refine ⟨_, pg_name (i := i) hN hi hx hf, fun F H ρ σ env env' v d Q le er r e q => ?_⟩
  unfold Pat.bind at e
  cases e
  exact q _ (er.set i (w := .d d) r) fun us hu => wipe_set (hu i (by simp))
theorem dgs_nil : DGs X g [] [] [] := by
  refine ⟨_, pgs_nil, fun F H ρ σ env env' v d Q le er r e q => ?_⟩
  cases r with
  | nil =>
    unfold Pat.binds at e
    cases e
    exact ⟨rfl, q σ er fun _ _ => rfl⟩
  | cons a b => unfold Pat.binds at e; cases e
theorem dgs_cons {vs us : List Nat} {p : Pat} {ps : List Pat} {e : Expr} {es : List Expr} (h1 : DG X g vs p e) (h2 : DGs X g us ps es)
    (hs : (assignEach (e :: es) X.env).map (·.2) = assign e X.env :: (assignEach es X.env).map (·.2) := by rfl) : DGs X g (vs ++ us) (p :: ps) (e :: es) := by
  obtain ⟨t, k1, q1⟩ := h1
  obtain ⟨u, k2, q2⟩ := h2
  refine ⟨_, pgs_cons k1 k2 hs, fun F H ρ σ env env' v d Q le er r e q => ?_⟩
  cases r with
  | nil => unfold Pat.binds at e; cases e
  | cons a b =>
    rename_i v1 d1 vs1 ds1
    unfold Pat.binds at e
    cases z : Pat.bind p d1 env with
    | none => rw [z] at e; cases e
    | some env1 =>
      rw [z] at e
      refine ⟨_, _, rfl, q1 F H ρ σ env env1 v1 d1 _ le er a z fun σ1 er1 w1 => ?_⟩
      exact q2 F H ρ σ1 env1 env' vs1 ds1 _ le er1 b e fun σ2 er2 w2 => q σ2 er2 fun us' hu => (w2 us' fun i hi => hu i (List.mem_append_right _ hi)).trans (w1 us' fun i hi => hu i (List.mem_append_left _ hi))
theorem dg_tup {vs : List Nat} {ps : List Pat} {es : List Expr} {k : Nat} (hc : X.calm = true) (h : DGs X g vs ps es) (hn : (assignEach es X.env).length = ps.length := by rfl) (hst : (assignEach es X.env).findIdx? (·.1) = none := by rfl) : DG X g vs (.t ps) (.Tuple es k pos) := by
  obtain ⟨t, k1, q1⟩ := h
  refine ⟨_, pg_tup hc k1 hn hst, fun F H ρ σ env env' v d Q le er r e q => ?_⟩
  cases r with
  | tup e1 r1 =>
    unfold Pat.bind at e
    exact ⟨_, _, rfl, SqT.of (le _ _ e1), by rw [r1.length]; exact Pat.binds_len e, q1 F H ρ σ env env' _ _ Q le er r1 e q⟩
  | _ => unfold Pat.bind at e; cases e
variable {Wx : WX}
def sAsg (p : Pat) (e : E) : S := fun env h => (e env h).st env fun w h1 => match w with
  | .d x => match p.bind x env with
    | some env' => .nx env' h1
    | none => .stk
  | _ => .stk
theorem ds_asg {vs : List Nat} {p : Pat} {tg e : Expr} {se : E} (he : PE X e (tD g Wx se)) (hg : DG X g vs p tg) (hs : swapsWithSole [tg] e pos.line X.env = pure false := by rfl) (hw : swappedStores [tg] e X.env = pure none := by rfl)
    (h1 : (assignEach [tg] X.env).map (·.2) = [assign tg X.env] := by rfl) : PS X (.Assign [tg] e pos) (tS g Wx (sAsg p se)) := by
  obtain ⟨t, k1, q1⟩ := hg
  refine ps_mono (ps_asg he k1 hs hw h1) fun D σ H h => ?_
  refine (tS.in (rel := WR g) h).mono ?_
  rintro v H1 ⟨F, ρ, env, h1, w, er, rl, r, p⟩
  cases w with
  | d x =>
    dsimp only at p
    cases z : Pat.bind _ x env with
    | none => rw [z] at p; exact p.elim
    | some env' =>
      rw [z] at p
      exact q1 F H1 ρ σ env env' v x _ rl.le er r z fun σ' er' _ => p σ' H1 F ρ Ext.refl er' rl
  | _ => exact p.elim
/-- x, y = a, b -/
def sPar (i j : Nat) (as : AE) : S := fun env h => (as env h).st env fun ws h1 => match ws with
  | [a, b] => .nx ((env.set i (some a)).set j (some b)) h1
  | _ => .stk
theorem ds_par (i j : Nat) {x y : Str} {a b : Expr} {as : AE} {px py pt : Pos} {kt k2 : Nat} {pt2 : Pos} (hc : X.calm = true) (hN : X.N.Nodup) (ha : PA X [a, b] (tDA g Wx as)) (hi : X.N[i]? = some x := by rfl) (hj : X.N[j]? = some y := by rfl) (hij : i ≠ j := by decide)
    (hx : X.env.scope.names.lookup x = some .local := by rfl) (hy : X.env.scope.names.lookup y = some .local := by rfl)
    (hw : swappedStores [.Tuple [.Name x px, .Name y py] kt pt] (.Tuple [a, b] k2 pt2) X.env = pure (some [x, y]) := by rfl)
    (hs : swapsWithSole [.Tuple [.Name x px, .Name y py] kt pt] (.Tuple [a, b] k2 pt2) pos.line X.env = pure false := by rfl) :
    PS X (.Assign [.Tuple [.Name x px, .Name y py] kt pt] (.Tuple [a, b] k2 pt2) pos) (tS g Wx (sPar i j as)) := by
  refine ps_mono (ps_par (i := i) (j := j) hc hN hi hj hij hx hy ha hw hs) fun D σ H h => ?_
  refine (tS.in (rel := WRL g) h).mono ?_
  rintro vs H1 ⟨F, ρ, env, h1, ws, er, rl, r, p⟩
  cases r with
  | nil => exact p.elim
  | cons r1 r =>
    cases r with
    | nil => exact p.elim
    | cons r2 r =>
      cases r with
      | nil => exact ⟨_, _, rfl, p _ H1 F ρ Ext.refl ((er.set i r1).set j r2) rl⟩
      | cons _ _ => exact p.elim
end
end CH

set_option Elab.async false
set_option linter.all false
set_option maxRecDepth 100000
namespace CH
open PySem L2

/-! ### what is walked -/
/-- a walked thing: its items; the cell that must stay, if one is walked -/
structure Src where
  items : List PyData
  gd : Option (Nat × PyData)
mutual
def beqD : PyData → PyData → Bool
  | .none, .none => true
  | .bool a, .bool b => a == b
  | .int a, .int b => a == b
  | .str a, .str b => decide (a = b)
  | .list xs, .list ys => beqDs xs ys
  | .tuple xs, .tuple ys => beqDs xs ys
  | .dict xs, .dict ys => beqDk xs ys
  | _, _ => false
def beqDs : List PyData → List PyData → Bool
  | [], [] => true
  | x :: xs, y :: ys => beqD x y && beqDs xs ys
  | _, _ => false
def beqDk : List (PyData × PyData) → List (PyData × PyData) → Bool
  | [], [] => true
  | (x, a) :: xs, (y, b) :: ys => beqD x y && beqD a b && beqDk xs ys
  | _, _ => false
end
mutual
theorem beqD_eq : ∀ (a b : PyData), beqD a b = true → a = b
  | .none, .none, _ => rfl
  | .bool a, .bool b, h => by simp [beqD] at h; rw [h]
  | .int a, .int b, h => by simp [beqD] at h; rw [h]
  | .str a, .str b, h => by simp [beqD] at h; rw [h]
  | .list xs, .list ys, h => by simp only [beqD] at h; rw [beqDs_eq xs ys h]
  | .tuple xs, .tuple ys, h => by simp only [beqD] at h; rw [beqDs_eq xs ys h]
  | .dict xs, .dict ys, h => by simp only [beqD] at h; rw [beqDk_eq xs ys h]
  | .none, .bool _, h | .none, .int _, h | .none, .str _, h | .none, .list _, h | .none, .tuple _, h | .none, .dict _, h => by simp [beqD] at h
  | .bool _, .none, h | .bool _, .int _, h | .bool _, .str _, h | .bool _, .list _, h | .bool _, .tuple _, h | .bool _, .dict _, h => by simp [beqD] at h
  | .int _, .none, h | .int _, .bool _, h | .int _, .str _, h | .int _, .list _, h | .int _, .tuple _, h | .int _, .dict _, h => by simp [beqD] at h
  | .str _, .none, h | .str _, .bool _, h | .str _, .int _, h | .str _, .list _, h | .str _, .tuple _, h | .str _, .dict _, h => by simp [beqD] at h
  | .list _, .none, h | .list _, .bool _, h | .list _, .int _, h | .list _, .str _, h | .list _, .tuple _, h | .list _, .dict _, h => by simp [beqD] at h
  | .tuple _, .none, h | .tuple _, .bool _, h | .tuple _, .int _, h | .tuple _, .str _, h | .tuple _, .list _, h | .tuple _, .dict _, h => by simp [beqD] at h
  | .dict _, .none, h | .dict _, .bool _, h | .dict _, .int _, h | .dict _, .str _, h | .dict _, .list _, h | .dict _, .tuple _, h => by simp [beqD] at h
theorem beqDs_eq : ∀ (a b : List PyData), beqDs a b = true → a = b
  | [], [], _ => rfl
  | x :: xs, y :: ys, h => by
    simp only [beqDs, Bool.and_eq_true] at h
    rw [beqD_eq x y h.1, beqDs_eq xs ys h.2]
  | [], _ :: _, h => by simp [beqDs] at h
  | _ :: _, [], h => by simp [beqDs] at h
theorem beqDk_eq : ∀ (a b : List (PyData × PyData)), beqDk a b = true → a = b
  | [], [], _ => rfl
  | (x, a) :: xs, (y, b) :: ys, h => by
    simp only [beqDk, Bool.and_eq_true] at h
    rw [beqD_eq x y h.1.1, beqD_eq a b h.1.2, beqDk_eq xs ys h.2]
  | [], _ :: _, h => by simp [beqDk] at h
  | _ :: _, [], h => by simp [beqDk] at h
end
mutual
theorem beqD_refl : ∀ (a : PyData), beqD a a = true
  | .none => rfl
  | .bool a => by simp [beqD]
  | .int a => by simp [beqD]
  | .str a => by simp [beqD]
  | .list xs => by simp only [beqD]; exact beqDs_refl xs
  | .tuple xs => by simp only [beqD]; exact beqDs_refl xs
  | .dict xs => by simp only [beqD]; exact beqDk_refl xs
theorem beqDs_refl : ∀ (a : List PyData), beqDs a a = true
  | [] => rfl
  | x :: xs => by simp only [beqDs, beqD_refl x, beqDs_refl xs, Bool.and_self]
theorem beqDk_refl : ∀ (a : List (PyData × PyData)), beqDk a a = true
  | [] => rfl
  | (x, a) :: xs => by simp only [beqDk, beqD_refl x, beqD_refl a, beqDk_refl xs, Bool.and_self]
end
/-- the walked cell is as it was -/
def gdOk (gd : Option (Nat × PyData)) (h : Cells) : Bool := match gd with
  | none => true
  | some (n, c) => match h[n]? with
    | some (some d) => beqD d c
    | _ => false
abbrev I := Env → Cells → R Src
/-- J walks the items while F, the guard stand -/
def WkOk (F0 : Hp) (ρ : Nat → Option Addr) (s : Src) (J : It) : Prop := ∃ (G : Hp → Prop) (Y : Nat → Hp → V → Hp → Prop), Walk J s.items.length G Y ∧
  (∀ F ρ' h H, Le F0 F → (∀ n a, ρ n = some a → ρ' n = some a) → Rl F ρ' h H → gdOk s.gd h = true → G H) ∧
  ∀ F ρ' h H i x H', Le F0 F → (∀ n a, ρ n = some a → ρ' n = some a) → Rl F ρ' h H → gdOk s.gd h = true → i < s.items.length → Y i H x H' → ∃ F', Gr F H F' H' ∧ ∃ d, s.items[i]? = some d ∧ DR F' x d
def tI (g : Glob) (Wx : WX) (s : I) : TI := fun σ H R => tG g Wx (fun F ρ (J : It) (s : Src) => WkOk F ρ s J) s σ H fun J H' => R J H'
theorem pi_mono {X : Cx} {tg e : Expr} {t t' : TI} (p : PI X tg e t) (h : ∀ σ H R, t' σ H R → t σ H R) : PI X tg e t' := ⟨fun pins s σ H Q I q => p.run pins s σ H Q I (h _ _ _ q)⟩

/-! ### for -/
def forGo (p : Pat) (body : S) (gd : Option (Nat × PyData)) : List PyData → Env → Cells → RS
  | [], env, h => if gdOk gd h then .nx env h else .stk
  | d :: ds, env, h => if gdOk gd h then match p.bind d env with
    | some env1 => match body env1 h with
      | .nx env2 h2 => forGo p body gd ds env2 h2
      | .cnt env2 h2 => forGo p body gd ds env2 h2
      | .brk env2 h2 => .nx env2 h2
      | .ret w h2 => .ret w h2
      | .exc c q env2 h2 => .exc c q env2 h2
      | .stk => .stk
    | none => .stk
    else .stk
def sFor (p : Pat) (it : I) (body : S) : S := fun env h => (it env h).st env fun s h1 => forGo p body s.gd s.items env h1
theorem forGo_gd {p : Pat} {body : S} {gd : Option (Nat × PyData)} {ds : List PyData} {env : Env} {h : Cells} {g : Glob} {Wx : WX} {D : Ends} {H F : Hp} {ρ : Nat → Option Addr} (q : PoS g Wx D H F ρ (forGo p body gd ds env h)) : gdOk gd h = true := by
  cases e : gdOk gd h with
  | true => rfl
  | false =>
    cases ds with
    | nil => unfold forGo at q; rw [e] at q; exact q.elim
    | cons d ds => unfold forGo at q; rw [e] at q; exact q.elim
section
variable {X : Cx} {g : Glob} {Wx : WX} {pos : Pos}
theorem ds_for {vs : List Nat} {p : Pat} {tg iter : Expr} {si : I} {body : List Stmt} {sb : S} (hp : PassesOwn (model X.prog X.w) X.A X.env X.xe) (hc : X.calm = true) (hi : PI X tg iter (tI g Wx si)) (hg : DG X g vs p tg) (hb : PSs X body (tS g Wx sb))
    (hs : ∀ x, foldedSetIterable iter X.env x = pure x := by intro _; rfl) : PS X (.For tg iter body [] pos) (tS g Wx (sFor p si sb)) := by
  obtain ⟨t, k1, q1⟩ := hg
  refine ps_mono (ps_for hp hc hi k1 hb hs) fun D σ H h => ?_
  refine (tS.in (rel := fun F ρ (J : It) (s : Src) => WkOk F ρ s J) h).mono ?_
  rintro J H1 ⟨F0, ρ0, env0, h0, s, er0, rl0, ⟨G, Y, wk, hG, hY⟩, p0⟩
  refine for_it wk (fun i σ H => ∃ F ρ env h, Ext F0 ρ0 H1 F ρ H ∧ ER g F ρ σ env ∧ Rl F ρ h H ∧ PoS g Wx D H F ρ (forGo p sb s.gd (s.items.drop i) env h)) ⟨F0, ρ0, env0, h0, Ext.refl, er0, rl0, p0⟩ ?_ ?_ ?_
  · rintro i σ' H' hi' ⟨F, ρ, env, h', x, er, rl, q⟩
    exact hG F ρ h' H' x.f x.r rl (forGo_gd q)
  · rintro i x σ' H' H2 hi' ⟨F, ρ, env, h', xt, er, rl, q⟩ y
    have gd := forGo_gd q
    obtain ⟨F2, gr, d, ed, dr⟩ := hY F ρ h' H' i x H2 xt.f xt.r rl gd hi' y
    obtain ⟨hlt, ed'⟩ := List.getElem?_eq_some_iff.mp ed
    rw [List.drop_eq_getElem_cons hlt, ed'] at q
    unfold forGo at q
    rw [if_pos gd] at q
    cases z : Pat.bind p d env with
    | none => rw [z] at q; exact q.elim
    | some env1 =>
      rw [z] at q
      have x2 : Ext F ρ H' F2 ρ H2 := gr.ext ρ
      have rl2 := gr.rl rl
      refine q1 F2 H2 ρ σ' env env1 x d _ rl2.le (er.ext x2) dr z fun σ1 er1 _ => ?_
      refine ⟨F2, ρ, env1, h', er1, rl2, ?_⟩
      dsimp only at q
      cases zb : sb env1 h' with
      | nx env2 h2 =>
        rw [zb] at q
        exact fun σ3 H3 F3 ρ3 x3 er3 rl3 => ⟨F3, ρ3, env2, h2, (xt.trans x2).trans x3, er3, rl3, PoS.ext q (x2.trans x3)⟩
      | cnt env2 h2 =>
        rw [zb] at q
        exact fun σ3 H3 F3 ρ3 x3 er3 rl3 => ⟨F3, ρ3, env2, h2, (xt.trans x2).trans x3, er3, rl3, PoS.ext q (x2.trans x3)⟩
      | brk env2 h2 =>
        rw [zb] at q
        exact PoS.ext q x2
      | ret w h2 =>
        rw [zb] at q
        exact PoS.ext q x2
      | exc c w env2 h2 =>
        rw [zb] at q
        exact PoS.ext q x2
      | stk => rw [zb] at q; exact q.elim
  · rintro σ' H' ⟨F, ρ, env, h', xt, er, rl, q⟩
    have gd := forGo_gd q
    rw [List.drop_length] at q
    unfold forGo at q
    rw [if_pos gd] at q
    exact q σ' H' F ρ Ext.refl er rl
end

/-! ### while -/
def whileGo (t : T) (body : S) : Nat → Env → Cells → RS
  | 0, _, _ => .stk
  | n + 1, env, h => (t env h).st env fun c h1 => if c then match body env h1 with
      | .nx env2 h2 => whileGo t body n env2 h2
      | .cnt env2 h2 => whileGo t body n env2 h2
      | .brk env2 h2 => .nx env2 h2
      | .ret w h2 => .ret w h2
      | .exc c q env2 h2 => .exc c q env2 h2
      | .stk => .stk
    else .nx env h1
def sWhile (n : Nat) (t : T) (body : S) : S := whileGo t body n
section
variable {X : Cx} {g : Glob} {Wx : WX} {pos : Pos}
theorem ds_while (n : Nat) {c : Expr} {body : List Stmt} {st : T} {sb : S} (hp : PassesOwn (model X.prog X.w) X.A X.env X.xe) (hc : PT X c (tDT g Wx st)) (hb : PSs X body (tS g Wx sb)) : PS X (.While c body [] pos) (tS g Wx (sWhile n st sb)) := by
  refine ps_mono (ps_while hp hc hb) fun D σ H ⟨F0, ρ0, env0, h0, er0, rl0, p0⟩ => ?_
  refine ⟨fun m σ H => ∃ F ρ env h, ER g F ρ σ env ∧ Rl F ρ h H ∧ PoS g Wx D H F ρ (whileGo st sb m env h), ⟨n, F0, ρ0, env0, h0, er0, rl0, p0⟩, ?_⟩
  rintro m σ H ⟨F, ρ, env, h, er, rl, q⟩
  cases m with
  | zero => exact q.elim
  | succ m =>
    refine ⟨F, ρ, env, h, er, rl, (PoS.bind (rel := rB) er q).mono ?_⟩
    rintro b H1 ⟨F1, ρ1, h1, w, x, er1, rfl, rl1, q1⟩
    cases b with
    | false =>
      rw [if_neg Bool.false_ne_true] at q1 ⊢
      exact q1 σ H1 F1 ρ1 Ext.refl er1 rl1
    | true =>
      rw [if_pos rfl] at q1 ⊢
      refine ⟨fun σ H => ∃ F ρ env h, ER g F ρ σ env ∧ Rl F ρ h H ∧ PoS g Wx D H F ρ (whileGo st sb m env h), fun σ' H' hh => ⟨m, Nat.lt_succ_self m, hh⟩, F1, ρ1, env, h1, er1, rl1, ?_⟩
      try dsimp only at q1
      cases zb : sb env h1 with
      | nx env2 h2 =>
        rw [zb] at q1
        exact fun σ3 H3 F3 ρ3 x3 er3 rl3 => ⟨F3, ρ3, env2, h2, er3, rl3, PoS.ext q1 x3⟩
      | cnt env2 h2 =>
        rw [zb] at q1
        exact fun σ3 H3 F3 ρ3 x3 er3 rl3 => ⟨F3, ρ3, env2, h2, er3, rl3, PoS.ext q1 x3⟩
      | brk env2 h2 => rw [zb] at q1; exact q1
      | ret w h2 => rw [zb] at q1; exact q1
      | exc c w env2 h2 => rw [zb] at q1; exact q1
      | stk => rw [zb] at q1; exact q1.elim
end

/-! ### list comprehensions -/
def wipeE (env : Env) : List Nat → Env
  | [] => env
  | v :: vs => (wipeE env vs).set v none
theorem ER.wipe {g : Glob} {F : Hp} {ρ : Nat → Option Addr} {σ : St} {env : Env} (h : ER g F ρ σ env) : ∀ vs : List Nat, ER g F ρ (wipe σ vs) (wipeE env vs)
  | [] => h
  | v :: vs => (ER.wipe h vs).clear v none
abbrev Wx0 : WX := fun _ _ _ _ => False
def lcGo (p : Pat) (t : T) (e : E) (gd : Option (Nat × PyData)) (env : Env) : List PyData → List PyData → Cells → R (List PyData)
  | [], acc, h => if gdOk gd h then .ok acc h else .stk
  | d :: ds, acc, h => if gdOk gd h then match p.bind d env with
    | some env1 => match t env1 h with
      | .ok true h1 => match e env1 h1 with
        | .ok (.d y) h2 => if acc.length < 16777216 then lcGo p t e gd env ds (acc ++ [y]) h2 else .stk
        | _ => .stk
      | .ok false h1 => lcGo p t e gd env ds acc h1
      | _ => .stk
    | none => .stk
    else .stk
def sLc (c : Bool) (vs : List Nat) (p : Pat) (it : I) (t : T) (e : E) : E := fun env h => (it env h).bind fun s h1 => (lcGo p t e s.gd (wipeE env vs) s.items [] h1).bind fun ys h2 => mk c (.list ys) h2
def sYes : T := fun _ h => .ok true h
/-- a list that is made stands at D, seen by nothing else -/
structure Nw (F0 : Hp) (ρ0 : Nat → Option Addr) (H0 : Hp) (D : Addr) (F : Hp) (ρ : Nat → Option Addr) (H : Hp) (vs : List V) : Prop where
  x : Ext F0 ρ0 H0 F ρ H
  new : H0 D = none
  at_ : H D = some (.lst vs)
  f : F D = none
  r : ∀ n, ρ n ≠ some D
theorem Nw.step {F0 : Hp} {ρ0 : Nat → Option Addr} {H0 : Hp} {D : Addr} {F F' : Hp} {ρ ρ' : Nat → Option Addr} {H H' : Hp} {vs : List V} (m : Nw F0 ρ0 H0 D F ρ H vs) (x : Ext F ρ H F' ρ' H') : Nw F0 ρ0 H0 D F' ρ' H' vs := by
  refine ⟨m.x.trans x, m.new, x.fr D _ m.at_ m.r, ?_, fun n e => ?_⟩
  · cases q : F' D with
    | none => rfl
    | some o =>
      rcases x.nw D (by rw [q]; simp) with e | e | ⟨n, e⟩ | ⟨us, e⟩
      · exact absurd m.f e
      · rw [m.at_] at e; cases e
      · exact absurd e (m.r n)
      · rw [m.at_] at e; cases e
  · rcases x.rn n D e with ⟨k, e1⟩ | e1
    · exact m.r k e1
    · rw [m.at_] at e1; cases e1
theorem Nw.put {F0 : Hp} {ρ0 : Nat → Option Addr} {H0 : Hp} {D : Addr} {F : Hp} {ρ : Nat → Option Addr} {H : Hp} {vs : List V} (m : Nw F0 ρ0 H0 D F ρ H vs) (us : List V) : Nw F0 ρ0 H0 D F ρ (upd H D (.lst us)) us := by
  refine ⟨⟨m.x.f, m.x.r, fun a o e hn => ?_, m.x.nw, m.x.rn⟩, m.new, upd_same, m.f, m.r⟩
  rw [upd_ne (ne_of_none e m.new)]
  exact m.x.fr a o e hn
theorem Rl.put {F : Hp} {ρ : Nat → Option Addr} {h : Cells} {H : Hp} (rl : Rl F ρ h H) {D : Addr} {o : HO} (f : F D = none) (r : ∀ n, ρ n ≠ some D) : Rl F ρ h (upd H D o) := by
  refine ⟨fun a u e => ?_, fun n c e => ?_, rl.inj, rl.top, fun n a e => ?_⟩
  rotate_left 2
  · obtain ⟨u, hu⟩ := rl.pl n a e
    exact ⟨u, by rw [upd_ne (fun z => r n (by rw [← z]; exact e))]; exact hu⟩
  · rw [upd_ne (ne_of_none e f)]; exact rl.le _ _ e
  · obtain ⟨a, ea, fa, cr⟩ := rl.cel n c e
    refine ⟨a, ea, fa, ?_⟩
    rw [upd_ne (fun z => r n (by rw [← z]; exact ea))]
    exact cr
theorem Nw.fin {g : Glob} {Wx : WX} {σ : St} {F0 : Hp} {ρ0 : Nat → Option Addr} {H0 : Hp} {D : Addr} {F : Hp} {ρ : Nat → Option Addr} {H : Hp} {vs : List V} {ds : List PyData} {h : Cells} {c : Bool} {Q : VK} (m : Nw F0 ρ0 H0 D F ρ H vs) (rl : Rl F ρ h H) (dr : DRL F vs ds)
    (p : Po g Wx σ (WR g) H0 F0 ρ0 Q (CH.mk c (.list ds) h)) : Q (.ref D) H := by
  unfold CH.mk at p
  cases c with
  | false =>
    rw [if_neg (by decide)] at p
    have le : Le F (upd F D (.lst vs)) := fun a u e => by rw [upd_ne (ne_of_none e m.f)]; exact e
    refine p (.ref D) H (upd F D (.lst vs)) ρ ⟨fun a u e => le _ _ (m.x.f _ _ e), m.x.r, m.x.fr, fun a e => ?_, m.x.rn⟩ (.lst upd_same (dr.mono le)) ⟨fun a u e => ?_, fun n k e => ?_, rl.inj, rl.top, rl.pl⟩
    · by_cases hd : a = D
      · subst hd; exact .inr (.inl m.new)
      · rw [upd_ne hd] at e; exact m.x.nw a e
    · by_cases hd : a = D
      · subst hd; rw [upd_same] at e; rw [← e]; exact m.at_
      · rw [upd_ne hd] at e; exact rl.le _ _ e
    · obtain ⟨a, ea, fa, cr⟩ := rl.cel n k e
      refine ⟨a, ea, ?_, cr.mono le⟩
      rw [upd_ne (fun z => m.r n (by rw [← z]; exact ea))]
      exact fa
  | true =>
    rw [if_pos rfl] at p
    have old : ∀ n k, h[n]? = some (some k) → n ≠ h.length := fun n k e z => by
      subst z
      rw [List.getElem?_eq_none (Nat.le_refl _)] at e
      cases e
    have cas : ∀ (n : Nat) (k : PyData), (h ++ [some (.list ds)])[n]? = some (some k) → (h[n]? = some (some k)) ∨ (n = h.length ∧ k = .list ds) := fun n k e => by
      by_cases hn : n < h.length
      · rw [List.getElem?_append_left hn] at e
        exact .inl e
      · by_cases hn' : n = h.length
        · subst hn'
          rw [List.getElem?_append_right (Nat.le_refl _)] at e
          simp at e
          exact .inr ⟨rfl, e.symm⟩
        · rw [List.getElem?_eq_none (by simp; omega)] at e
          cases e
    refine p (.ref D) H F (fun n => if n = h.length then some D else ρ n) ⟨m.x.f, fun n a e => ?_, m.x.fr, m.x.nw, fun n a e => ?_⟩ ⟨D, if_pos rfl, rfl⟩ ⟨rl.le, fun n k e => ?_, fun n k c d a h1 h2 h3 h4 => ?_, fun n hn => ?_, fun n a e => ?_⟩
    · have e' := m.x.r n a e
      by_cases hn : n = h.length
      · subst hn
        rw [rl.top _ (Nat.le_refl _)] at e'
        cases e'
      · rw [if_neg hn]; exact e'
    · by_cases hn : n = h.length
      · rw [if_pos hn] at e
        cases e
        exact .inr m.new
      · rw [if_neg hn] at e
        exact m.x.rn n a e
    · rcases cas n k e with e1 | ⟨rfl, rfl⟩
      · obtain ⟨a, ea, fa, cr⟩ := rl.cel n k e1
        exact ⟨a, by rw [if_neg (old n k e1)]; exact ea, fa, cr⟩
      · exact ⟨D, if_pos rfl, m.f, vs, m.at_, dr⟩
    · rcases cas n c h1 with e1 | ⟨e1, _⟩
      · rcases cas k d h2 with e2 | ⟨e2, _⟩
        · rw [if_neg (old n c e1)] at h3
          rw [if_neg (old k d e2)] at h4
          exact rl.inj n k c d a e1 e2 h3 h4
        · rw [if_neg (old n c e1)] at h3
          rw [if_pos e2] at h4
          cases h4
          exact absurd h3 (m.r n)
      · rcases cas k d h2 with e2 | ⟨e2, _⟩
        · rw [if_neg (old k d e2)] at h4
          rw [if_pos e1] at h3
          cases h3
          exact absurd h4 (m.r k)
        · exact e1.trans e2.symm
    · rw [List.length_append, List.length_singleton] at hn
      rw [if_neg (by omega)]
      exact rl.top n (by omega)
    · by_cases hn : n = h.length
      · rw [if_pos hn] at e
        cases e
        exact ⟨_, m.at_⟩
      · rw [if_neg hn] at e
        exact rl.pl n a e
theorem Nw.start {F : Hp} {ρ : Nat → Option Addr} {h : Cells} {H : Hp} (rl : Rl F ρ h H) {D : Addr} (hD : H D = none) (vs : List V) : Nw F ρ H D F ρ (upd H D (.lst vs)) vs ∧ Rl F ρ h (upd H D (.lst vs)) := by
  have fD : F D = none := by
    cases q : F D with
    | none => rfl
    | some o => rw [rl.le _ _ q] at hD; cases hD
  have rD : ∀ n, ρ n ≠ some D := fun n e => by
    obtain ⟨o, ho⟩ := rl.pl n D e
    rw [hD] at ho; cases ho
  refine ⟨⟨⟨fun _ _ e => e, fun _ _ e => e, fun a o e _ => ?_, fun _ e => .inl e, fun n _ e => .inl ⟨n, e⟩⟩, hD, upd_same, fD, rD⟩, rl.put fD rD⟩
  rw [upd_ne (ne_of_none e hD)]
  exact e
end CH

set_option Elab.async false
set_option linter.all false
set_option maxRecDepth 100000
namespace CH
open PySem L2

/-! ### comprehensions, derived -/
def tP (g : Glob) (vs : List Nat) (p : Pat) : TG := fun v (σ : L2.St) H Q => ∃ F ρ env env' d, Le F H ∧ ER g F ρ σ env ∧ DR F v d ∧ p.bind d env = some env' ∧ ∀ σ', ER g F ρ σ' env' → (∀ us : List Nat, (∀ i ∈ vs, i ∈ us) → wipe σ' us = wipe σ us) → Q σ' H
theorem DG.pg {X : Cx} {g : Glob} {vs : List Nat} {p : Pat} {e : Expr} (h : DG X g vs p e) : PG X e (tP g vs p) := by
  obtain ⟨t, k, q⟩ := h
  exact ⟨fun pins s σ H v u Q I r ⟨F, ρ, env, env', d, le, er, dr, b, z⟩ => k.run pins s σ H v u Q I r (q F H ρ σ env env' v d Q le er dr b z)⟩
theorem lcGo_gd {p : Pat} {t : T} {e : E} {gd : Option (Nat × PyData)} {env : Env} {ds acc : List PyData} {h : Cells} {g : Glob} {Wx : WX} {σ : L2.St} {α β : Type} {rel : Hp → (Nat → Option Addr) → β → α → Prop} {H F : Hp} {ρ : Nat → Option Addr} {Q : β → Hp → Prop} {k : List PyData → Cells → R α}
    (q : Po g Wx σ rel H F ρ Q ((lcGo p t e gd env ds acc h).bind k)) : gdOk gd h = true := by
  cases e1 : gdOk gd h with
  | true => rfl
  | false =>
    cases ds with
    | nil => unfold lcGo at q; rw [e1] at q; exact q.elim
    | cons d ds => unfold lcGo at q; rw [e1] at q; exact q.elim
theorem wipe_get (σ : L2.St) (i : Nat) : ∀ vs : List Nat, (wipe σ vs)[i]? = if i ∈ vs then σ[i]?.map fun _ => none else σ[i]?
  | [] => by simp [wipe]
  | v :: vs => by
    unfold wipe
    rw [List.getElem?_set, wipe_get σ i vs, wipe_length]
    by_cases e : v = i
    · subst e
      by_cases h : v < σ.length
      · simp [h]
      · simp [h]
    · have e' : ¬ i = v := fun z => e z.symm
      simp [e, e']
theorem wipe_wipe {σ : L2.St} {vs : List Nat} : wipe (wipe σ vs) vs = wipe σ vs := by
  apply List.ext_getElem?
  intro i
  rw [wipe_get, wipe_get]
  by_cases h : i ∈ vs
  · simp [h, Function.comp_def]
  · simp [h]
section
variable {X : Cx} {g : Glob} {Wx : WX} {pos : Pos}
theorem tlc_ok {own us : List Nat} {c : Bool} {p : Pat} {si : I} {st : T} {se : E} (hsub : ∀ i ∈ us, i ∈ own) {σ : L2.St} {H : Hp} {Q : VK} (h : tD g Wx (sLc c own p si st se) σ H Q) : tLc (tI g Wx si) (tP g us p) (tDT g Wx0 st) (tD g Wx0 se) own σ H Q := by
  refine (tG.of (rel2 := fun F ρ (J : It) (s : Src) => WkOk F ρ s J) (a := si) h (fun _ _ => rfl)).mono ?_
  rintro J H1 ⟨F0, ρ0, env0, h0, s, er0, rl0, ⟨G, Y, wk, hG, hY⟩, p0⟩
  intro D hD
  refine lc_it (D := D) wk (fun i H => ∃ F ρ h vs acc, Nw F0 ρ0 H1 D F ρ H vs ∧ Rl F ρ h H ∧ DRL F vs acc ∧
    Po g Wx σ (WR g) H1 F0 ρ0 Q ((lcGo p st se s.gd (wipeE env0 own) (s.items.drop i) acc h).bind fun ys h2 => CH.mk c (.list ys) h2)) ?_ ?_ ?_ ?_
  · obtain ⟨n1, r1⟩ := Nw.start rl0 hD []
    exact ⟨F0, ρ0, h0, [], [], n1, r1, .nil, p0⟩
  · rintro i H' hi ⟨F, ρ, h', vs, acc, nw, rl, dr, q⟩
    exact hG F ρ h' H' nw.x.f nw.x.r rl (lcGo_gd q)
  · rintro i x H' H2 hi ⟨F, ρ, h', vs, acc, nw, rl, dr, q⟩ y
    have gd := lcGo_gd q
    obtain ⟨F2, gr, d, ed, drx⟩ := hY F ρ h' H' i x H2 nw.x.f nw.x.r rl gd hi y
    obtain ⟨hlt, ed'⟩ := List.getElem?_eq_some_iff.mp ed
    rw [List.drop_eq_getElem_cons hlt, ed'] at q
    unfold lcGo at q
    rw [if_pos gd] at q
    cases z : Pat.bind p d (wipeE env0 own) with
    | none => rw [z] at q; exact q.elim
    | some env1 =>
      rw [z] at q
      have x2 : Ext F ρ H' F2 ρ H2 := gr.ext ρ
      have rl2 := gr.rl rl
      have nw2 := nw.step x2
      have er2 : ER g F2 ρ (wipe σ own) (wipeE env0 own) := ((er0.ext nw.x).ext x2).wipe own
      refine ⟨F2, ρ, _, env1, d, rl2.le, er2, drx, z, fun σ2 er3 w3 => ⟨?_, ?_⟩⟩
      · rw [w3 own hsub]
        exact wipe_wipe
      · try dsimp only at q
        cases zt : st env1 h' with
        | stk => rw [zt] at q; exact q.elim
        | exc c p h => rw [zt] at q; exact q.elim
        | ok b h3 =>
          rw [zt] at q
          refine ⟨F2, ρ, env1, h', er3, rl2, ?_⟩
          rw [zt]
          intro b' H3 F3 ρ3 x3 eb rl3
          cases eb
          have nw3 := nw2.step x3
          cases b with
          | false =>
            rw [if_neg Bool.false_ne_true]
            exact ⟨F3, ρ3, h3, vs, acc, nw3, rl3, (dr.mono gr.f).mono x3.f, q⟩
          | true =>
            rw [if_pos rfl]
            try dsimp only at q
            cases ze : se env1 h3 with
            | stk => rw [ze] at q; exact q.elim
            | exc c p h => rw [ze] at q; exact q.elim
            | ok w h4 =>
              rw [ze] at q
              cases w with
              | d y =>
                try dsimp only at q
                by_cases hl : acc.length < 16777216
                · rw [if_pos hl] at q
                  refine ⟨F3, ρ3, env1, h3, er3.ext x3, rl3, ?_⟩
                  rw [ze]
                  intro v H4 F4 ρ4 x4 rv rl4
                  have nw4 := nw3.step x4
                  have dr4 := ((dr.mono gr.f).mono x3.f).mono x4.f
                  exact ⟨vs, nw4.at_, lt_line_of (by rw [dr4.length]; exact hl), F4, ρ4, h4, vs ++ [v], acc ++ [y], nw4.put _, rl4.put nw4.f nw4.r, dr4.append (.cons rv .nil), q⟩
                · rw [if_neg hl] at q; exact q.elim
              | _ => exact q.elim
  · rintro H' ⟨F, ρ, h', vs, acc, nw, rl, dr, q⟩
    have gd := lcGo_gd q
    rw [List.drop_length] at q
    unfold lcGo at q
    rw [if_pos gd] at q
    exact nw.fin rl dr q
theorem de_lc (c : Bool) {own : List (Str × Nat)} {us : List Nat} {p : Pat} {elt tg iter : Expr} {ifs : List Expr} {scope : Scope} {si : I} {st : T} {se : E} (hc : X.calm = true) (hN : X.N.Nodup) (hi : PI X tg iter (tI g Wx si)) (ok : BlkOk X.N X.env.scope scope own)
    (hg : ∀ (s : Shared) (H : Hp) (C : Addr) (cl : List (Str × Addr)) (fp : List Addr), DG (X.blk s H scope (compEnvC scope cl C X.env) fp) g us p tg)
    (ht : ∀ (s : Shared) (H : Hp) (C : Addr) (cl : List (Str × Addr)) (fp : List Addr), PTs (X.blk s H scope (compEnvC scope cl C X.env) fp) ifs (tDT g Wx0 st))
    (he : ∀ (s : Shared) (H : Hp) (C : Addr) (cl : List (Str × Addr)) (fp : List Addr), PE (X.blk s H scope (compEnvC scope cl C X.env) fp) elt (tD g Wx0 se))
    (hsub : ∀ i ∈ us, i ∈ own.map (·.2) := by decide) (hs : ∀ x, foldedSetIterable iter X.env x = pure x := by intro _; rfl) {ws : List Nat} (hws : own.map (·.2) = ws := by rfl) :
    PE X (.ListComp elt [⟨tg, iter, ifs, 0⟩] scope pos) (tD g Wx (sLc c ws p si st se)) :=
  hws ▸ pe_mono (pe_lc hc hN hi ok (fun s H C cl fp => (hg s H C cl fp).pg) ht he hs) fun σ H Q h => tlc_ok hsub h
theorem ds_setLc (c : Bool) (i : Nat) {y : Str} {py : Pos} {own : List (Str × Nat)} {us : List Nat} {p : Pat} {elt tg iter : Expr} {ifs : List Expr} {scope : Scope} {spos : Pos} {si : I} {st : T} {se : E} (hc : X.calm = true) (hN : X.N.Nodup) (hi : PI X tg iter (tI g Wx si)) (ok : BlkOk X.N X.env.scope scope own)
    (hg : ∀ (s : Shared) (H : Hp) (C : Addr) (cl : List (Str × Addr)) (fp : List Addr), DG (X.blk s H scope (compEnvC scope cl C X.env) fp) g us p tg)
    (ht : ∀ (s : Shared) (H : Hp) (C : Addr) (cl : List (Str × Addr)) (fp : List Addr), PTs (X.blk s H scope (compEnvC scope cl C X.env) fp) ifs (tDT g Wx0 st))
    (he : ∀ (s : Shared) (H : Hp) (C : Addr) (cl : List (Str × Addr)) (fp : List Addr), PE (X.blk s H scope (compEnvC scope cl C X.env) fp) elt (tD g Wx0 se))
    (hsw : swapsWith (.ListComp elt [⟨tg, iter, ifs, 0⟩] scope pos) (some (.Name y py)) spos.line X.env = pure true := by exact sw_true rfl rfl rfl (by decide +kernel))
    (hy : X.N[i]? = some y := by rfl) (hyl : X.env.scope.names.lookup y = some .local := by rfl)
    (hsub : ∀ i ∈ us, i ∈ own.map (·.2) := by decide) (hs : ∀ x, foldedSetIterable iter X.env x = pure x := by intro _; rfl) {ws : List Nat} (hws : own.map (·.2) = ws := by rfl) :
    PS X (.Assign [.Name y py] (.ListComp elt [⟨tg, iter, ifs, 0⟩] scope pos) spos) (tS g Wx (sSet i (sLc c ws p si st se))) :=
  hws ▸ ps_mono (ps_setLc hc hN hy hyl hsw hi ok (fun s H C cl fp => (hg s H C cl fp).pg) ht he hs) fun D σ H h => by
    have q := tset_ok h
    unfold tAsg at q ⊢
    exact tlc_ok hsub q
theorem dts_nil : PTs X [] (tDT g Wx sYes) := ⟨fun pins s σ H Q I ⟨F, ρ, env, h, er, rl, p⟩ => pts_nil.run pins s σ H Q I (p true H F ρ Ext.refl rfl rl)⟩
theorem dts_one {c : Expr} {t : T} (h : PT X c (tDT g Wx t)) : PTs X [c] (tDT g Wx t) := pts_one h
end

/-! ### what is walked: any list, tuple, text, standing dict -/
def listSrc (h : Cells) : W → Option Src
  | .d (.list xs) => some ⟨xs, none⟩
  | .d (.tuple xs) => some ⟨xs, none⟩
  | .d (.str s) => some ⟨s.cps.toList.map fun c => .str ⟨#[c]⟩, none⟩
  | .d (.dict ps) => some ⟨ps.map (·.1), none⟩
  | .ref n => match h[n]? with
    | some (some (.list xs)) => some ⟨xs, some (n, .list xs)⟩
    | _ => none
  | _ => none
def iAny (e : E) : I := fun env h => (e env h).bind fun w h1 => match listSrc h1 w with
  | some s => .ok s h1
  | none => .stk
def kAny (K : PySem.W.Frag) (x : V) (H : Hp) (R : It → Hp → Prop) : Prop :=
  (∃ a, x = .ref a ∧ (∃ xs, SqL K H a xs) ∧ R (Itl K a) H) ∨ (∃ a, x = .ref a ∧ (∃ xs, SqT K H a xs) ∧ R (Itt K a) H) ∨ (∃ z, x = .str z ∧ R (Its z) H) ∨
  ∃ d o, x = .ref d ∧ ((∃ kvs, H d = some (.frz o (.dK kvs)) ∧ R (Itk d o kvs) H) ∨ ∃ kvs, H d = some (.frz o (.dT kvs)) ∧ R (Itkt d o kvs) H)
theorem pi_any {X : Cx} {tg e : Expr} {te : TE} (he : PE X e te) : PI X tg e (fun σ H R => te σ H fun x H1 => kAny X.K x H1 R) := by
  refine ⟨fun pins s σ H R I h => ?_⟩
  refine thn (he.run pins s σ H _ I h) fun v s1 ⟨x, H1, I1, r1, q1⟩ => ?_
  rcases q1 with ⟨a, rfl, ⟨xs, hq⟩, q⟩ | ⟨a, rfl, ⟨xs, hq⟩, q⟩ | ⟨z, rfl, q⟩ | ⟨d, o, rfl, q⟩
  · cases r1
    obtain ⟨its, rv, p, hz⟩ := I1.list hq
    refine wpAny_pyIter_list p.isList ?_
    refine ⟨s1.heap.objs.size, [s1.heap.objs.size], _, _, H1, rfl, I1.kept (t' := s1.toks) fun b o e => Heap.get?_push_of_some _ e, turn_list a _, ⟨_, Heap.get?_push_size _ rfl, rfl, rfl⟩, fun b hb => ?_, q⟩
    have e : b = s1.heap.objs.size := by simpa using hb
    subst e
    exact I1.fpOk (Nat.le_refl _) (I1.hok.fresh (Nat.le_refl _))
  · cases r1
    obtain ⟨its, rv, p, hz⟩ := I1.tuple hq
    refine wpAny_pyIter_tuple (show s1.heap.IsTuple a its.toArray from p) ?_
    refine ⟨s1.heap.objs.size, [s1.heap.objs.size], _, _, H1, rfl, I1.kept (t' := s1.toks) fun b o e => Heap.get?_push_of_some _ e, turn_tuple a _, ⟨_, Heap.get?_push_size _ rfl, rfl, rfl⟩, fun b hb => ?_, q⟩
    have e : b = s1.heap.objs.size := by simpa using hb
    subst e
    exact I1.fpOk (Nat.le_refl _) (I1.hok.fresh (Nat.le_refl _))
  · obtain ⟨t, rfl⟩ := r1
    cases ha : z.cps.all (· < 128)
    · exact wpAny_pyIter_wide ha (pi_one (tk := s1.toks) I1 _ (turn_str _ z t "str_iterator" (.inr rfl)) ⟨_, Heap.get?_push_size _ rfl, rfl, rfl⟩ q)
    · exact wpAny_pyIter_ascii ha (pi_one (tk := s1.toks) I1 _ (turn_str _ z t "str_ascii_iterator" (.inl rfl)) ⟨_, Heap.get?_push_size _ rfl, rfl, rfl⟩ q)
  · obtain rfl : v = Value.ref d := r1
    rcases q with ⟨kvs, hd, q⟩ | ⟨kvs, hd, q⟩
    · obtain ⟨hs, hgd, hx, es, ep, vs, hdt, hsz, kv, hm⟩ := I1.frzK hd
      refine iter_keys hs hgd hx hdt (pi_one (tk := s1.toks) I1 _ (turn_keys _ hdt) ⟨_, Heap.get?_push_size _ rfl, rfl, ?_⟩ q)
      rw [hsz] <;> rfl
    · obtain ⟨hs, hgd, hx, es, ep, hdt, hsz, ent⟩ := I1.frzT hd
      refine iter_keys hs hgd hx hdt (pi_one (tk := s1.toks) I1 _ (turn_keysT _ hdt) ⟨_, Heap.get?_push_size _ rfl, rfl, ?_⟩ q)
      rw [hsz] <;> rfl
end CH

set_option Elab.async false
set_option linter.all false
set_option maxRecDepth 100000
namespace CH
open PySem L2

theorem DRK.get {F : Hp} : ∀ {vs : List (Key × V)} {ds : List (PyData × PyData)} {i : Nat} {k : Key} {v : V}, DRK F vs ds → vs[i]? = some (k, v) → ∃ d, ds[i]? = some (keyD k, d) ∧ DR F v d
  | _, _, i, _, _, .nil, e => by simp at e
  | _, _, 0, k, v, .cons a r, e => by
    simp at e
    obtain ⟨rfl, rfl⟩ := e
    exact ⟨_, rfl, a⟩
  | _, _, i + 1, k, v, .cons a r, e => by
    obtain ⟨d, e1, h⟩ := DRK.get (i := i) r (by simpa using e)
    exact ⟨d, by simpa using e1, h⟩
theorem DRT.get {F : Hp} : ∀ {vs : List (List Key × V)} {ds : List (PyData × PyData)} {i : Nat} {k : List Key} {v : V}, DRT F vs ds → vs[i]? = some (k, v) → ∃ d, ds[i]? = some (.tuple (k.map keyD), d) ∧ DR F v d
  | _, _, i, _, _, .nil, e => by simp at e
  | _, _, 0, k, v, .cons a r, e => by
    simp at e
    obtain ⟨rfl, rfl⟩ := e
    exact ⟨_, rfl, a⟩
  | _, _, i + 1, k, v, .cons a r, e => by
    obtain ⟨d, e1, h⟩ := DRT.get (i := i) r (by simpa using e)
    exact ⟨d, by simpa using e1, h⟩
theorem DRK.length {F : Hp} : ∀ {vs : List (Key × V)} {ds : List (PyData × PyData)}, DRK F vs ds → vs.length = ds.length
  | _, _, .nil => rfl
  | _, _, .cons _ q => congrArg (· + 1) (DRK.length q)
theorem DRT.length {F : Hp} : ∀ {vs : List (List Key × V)} {ds : List (PyData × PyData)}, DRT F vs ds → vs.length = ds.length
  | _, _, .nil => rfl
  | _, _, .cons _ q => congrArg (· + 1) (DRT.length q)
theorem dr_key {F : Hp} (k : Key) : DR F (kV k) (keyD k) := by
  cases k with
  | inl i => exact .int i
  | inr s => exact .str s
theorem drl_keys {F : Hp} : ∀ ks : List Key, DRL F (ks.map kV) (ks.map keyD)
  | [] => .nil
  | k :: ks => .cons (dr_key k) (drl_keys ks)
/-- a list's walk, whatever its values are called -/
theorem walk_any {K : PySem.W.Frag} {a : Addr} {n : Nat} : Walk (Itl K a) n (fun H => ∃ vs, SqL K H a vs ∧ vs.length = n) (fun i H x H' => H' = H ∧ ∀ vs, SqL K H a vs → vs[i]? = some x) := by
  refine ⟨fun i H hi ⟨vs, q, e⟩ => ?_, fun H ⟨vs, q, e⟩ => ⟨vs, q, by omega⟩, fun i H x H' hi _ y => y⟩
  exact ⟨vs, vs[i], q, by simp⟩
theorem WkOk.of {F0 : Hp} {ρ : Nat → Option Addr} {s : Src} {J : It} {n : Nat} {G : Hp → Prop} {Y : Nat → Hp → V → Hp → Prop} (wk : Walk J n G Y) (hn : n = s.items.length)
    (hG : ∀ F ρ' h H, Le F0 F → (∀ n a, ρ n = some a → ρ' n = some a) → Rl F ρ' h H → gdOk s.gd h = true → G H)
    (hY : ∀ F ρ' h H i x H', Le F0 F → (∀ n a, ρ n = some a → ρ' n = some a) → Rl F ρ' h H → gdOk s.gd h = true → i < s.items.length → Y i H x H' → ∃ F', Gr F H F' H' ∧ ∃ d, s.items[i]? = some d ∧ DR F' x d) : WkOk F0 ρ s J := by
  subst hn
  exact ⟨G, Y, wk, hG, hY⟩
theorem Rl.cell {F H : Hp} {ρ : Nat → Option Addr} {h : Cells} {n : Nat} {xs : List PyData} {a : Addr} (rl : Rl F ρ h H) (e : h[n]? = some (some (.list xs))) (ea : ρ n = some a) : ∃ vs, H a = some (.lst vs) ∧ DRL F vs xs := by
  obtain ⟨a', ea', _, vs, e1, q⟩ := rl.cel n _ e
  rw [ea] at ea'
  cases ea'
  exact ⟨vs, e1, q⟩
theorem src_ok {K : PySem.W.Frag} {g : Glob} {F H : Hp} {ρ : Nat → Option Addr} {h : Cells} {x : V} {w : W} {s : Src} {R : It → Hp → Prop} (rl : Rl F ρ h H) (r : WR g F ρ x w) (e : listSrc h w = some s) (q : ∀ J, WkOk F ρ s J → R J H) : kAny K x H R := by
  cases w with
  | d d =>
    cases r with
    | lst e1 r1 =>
      cases e
      refine .inl ⟨_, rfl, ⟨_, SqL.of (rl.le _ _ e1)⟩, q _ (WkOk.of (walk_list (xs := _)) r1.length (fun F1 ρ1 h1 H1 f _ rl1 _ => SqL.of (rl1.le _ _ (f _ _ e1))) ?_)⟩
      rintro F1 ρ1 h1 H1 i x H2 f _ rl1 _ hi ⟨rfl, hx⟩
      obtain ⟨d, ed, dr⟩ := (r1.mono f).getV hx
      exact ⟨F1, Gr.refl rl1.le, d, ed, dr⟩
    | tup e1 r1 =>
      cases e
      refine .inr (.inl ⟨_, rfl, ⟨_, SqT.of (rl.le _ _ e1)⟩, q _ (WkOk.of (walk_tup (xs := _)) r1.length (fun F1 ρ1 h1 H1 f _ rl1 _ => SqT.of (rl1.le _ _ (f _ _ e1))) ?_)⟩)
      rintro F1 ρ1 h1 H1 i x H2 f _ rl1 _ hi ⟨rfl, hx⟩
      obtain ⟨d, ed, dr⟩ := (r1.mono f).getV hx
      exact ⟨F1, Gr.refl rl1.le, d, ed, dr⟩
    | str z =>
      cases e
      refine .inr (.inr (.inl ⟨z, rfl, q _ (WkOk.of (walk_str (z := z)) (by simp) (fun _ _ _ _ _ _ _ _ => trivial) ?_)⟩))
      rintro F1 ρ1 h1 H1 i x H2 f _ rl1 _ hi ⟨rfl, c, hc, rfl⟩
      refine ⟨F1, Gr.refl rl1.le, .str ⟨#[c]⟩, ?_, .str _⟩
      have hc' : z.cps.toList[i]? = some c := by rw [Array.getElem?_toList]; exact hc
      show (z.cps.toList.map fun c => PyData.str ⟨#[c]⟩)[i]? = _
      rw [List.getElem?_map, hc']
      rfl
    | dK e1 r1 =>
      cases e
      refine .inr (.inr (.inr ⟨_, _, rfl, .inl ⟨_, rl.le _ _ e1, q _ (WkOk.of (walk_keys (kvs := _)) (by show _ = (List.map _ _).length; rw [List.length_map]; exact r1.length) (fun F1 ρ1 h1 H1 f _ rl1 _ => rl1.le _ _ (f _ _ e1)) ?_)⟩⟩))
      rintro F1 ρ1 h1 H1 i x H2 f _ rl1 _ hi ⟨rfl, k, v, hk, rfl⟩
      obtain ⟨d, ed, _⟩ := r1.get hk
      refine ⟨F1, Gr.refl rl1.le, keyD k, ?_, dr_key k⟩
      show (List.map _ _)[i]? = _
      rw [List.getElem?_map, ed]
      rfl
    | dT e1 r1 =>
      cases e
      refine .inr (.inr (.inr ⟨_, _, rfl, .inr ⟨_, rl.le _ _ e1, q _ (WkOk.of (walk_keysT (kvs := _)) (by show _ = (List.map _ _).length; rw [List.length_map]; exact r1.length) (fun F1 ρ1 h1 H1 f _ rl1 _ => rl1.le _ _ (f _ _ e1)) ?_)⟩⟩))
      rintro F1 ρ1 h1 H1 i x H2 f _ rl1 _ hi ⟨rfl, k, v, b, hk, rfl, hb⟩
      obtain ⟨d, ed, _⟩ := r1.get hk
      have gr := Gr.join rl1.le hb
      refine ⟨_, gr, .tuple (k.map keyD), ?_, .tup upd_same (drl_keys k)⟩
      show (List.map _ _)[i]? = _
      rw [List.getElem?_map, ed]
      rfl
    | non => cases e
    | bl b => cases e
    | int i => cases e
  | ref n =>
    obtain ⟨a, ea, rfl⟩ := r
    have e' : (match h[n]? with | some (some (.list xs)) => some (⟨xs, some (n, .list xs)⟩ : Src) | _ => none) = some s := e
    split at e'
    · rename_i xs hn
      cases e'
      obtain ⟨vs, e1, r1⟩ := rl.cell hn ea
      have cur : ∀ F1 ρ1 h1 H1, (∀ n a, ρ n = some a → ρ1 n = some a) → Rl F1 ρ1 h1 H1 → gdOk (some (n, .list xs)) h1 = true → ∃ vs, H1 a = some (.lst vs) ∧ DRL F1 vs xs := by
        intro F1 ρ1 h1 H1 r rl1 gd
        have gd' : (match h1[n]? with | some (some d) => beqD d (.list xs) | _ => false) = true := gd
        split at gd'
        · rename_i d hd
          cases beqD_eq _ _ gd'
          exact rl1.cell hd (r n a ea)
        · cases gd'
      refine .inl ⟨a, rfl, ⟨_, SqL.of e1⟩, q _ (WkOk.of (walk_any (n := xs.length)) rfl (fun F1 ρ1 h1 H1 f r rl1 gd => ?_) ?_)⟩
      · obtain ⟨us, h2, h3⟩ := cur F1 ρ1 h1 H1 r rl1 gd
        exact ⟨us, SqL.of h2, h3.length⟩
      · rintro F1 ρ1 h1 H1 i x H2 f r rl1 gd hi ⟨rfl, hx⟩
        obtain ⟨us, h2, h3⟩ := cur F1 ρ1 h1 H2 r rl1 gd
        obtain ⟨d, ed, dr⟩ := h3.getV (hx us (SqL.of h2))
        exact ⟨F1, Gr.refl rl1.le, d, ed, dr⟩
    · cases e'
  | scr ns => cases e
  | exc c p => cases e
  | fn i => cases e
end CH
namespace CH
open PySem L2
section
variable {X : Cx} {g : Glob} {Wx : WX} {tg e : Expr}
theorem ti_ok {K : PySem.W.Frag} {se : E} {σ : L2.St} {H : Hp} {R : It → Hp → Prop} (h : tI g Wx (iAny se) σ H R) : tD g Wx se σ H fun x H1 => kAny K x H1 R := by
  refine (tG.of (rel2 := WR g) (a := se) h (fun _ _ => rfl)).mono ?_
  rintro x H1 ⟨F, ρ, env, h1, w, er, rl, rx, p⟩
  cases e : listSrc h1 w with
  | none => rw [e] at p; exact p.elim
  | some s =>
    rw [e] at p
    exact src_ok rl rx e fun J wk => p J H1 F ρ Ext.refl wk rl
theorem di_any {se : E} (he : PE X e (tD g Wx se)) : PI X tg e (tI g Wx (iAny se)) := pi_mono (pi_any he) fun σ H R h => ti_ok h
/-- range(n), range(a, b) -/
def rangeL (lo : Int) (n : Nat) : List PyData := (List.range n).map fun (i : Nat) => .int (lo + i)
def small62 (i : Int) : Bool := decide (-(2 ^ 62) ≤ i) && decide (i < 2 ^ 62)
theorem small62_ok {i : Int} (h : small62 i = true) : -(2 ^ 62) ≤ i ∧ i < 2 ^ 62 := by
  simp only [small62, Bool.and_eq_true, decide_eq_true_eq] at h
  exact h
def iRange1 (as : AE) : I := fun env h => (as env h).bind fun ws h1 => match lkL h1 ws with
  | some [.int j] => if small62 j then .ok ⟨rangeL 0 j.toNat, none⟩ h1 else .stk
  | _ => .stk
def iRange2 (as : AE) : I := fun env h => (as env h).bind fun ws h1 => match lkL h1 ws with
  | some [.int i, .int j] => if small62 i && small62 j then .ok ⟨rangeL i (j - i).toNat, none⟩ h1 else .stk
  | _ => .stk
theorem wk_range {F : Hp} {ρ : Nat → Option Addr} {lo : Int} {n : Nat} : WkOk F ρ ⟨rangeL lo n, none⟩ (Itr lo n) := by
  refine WkOk.of (walk_range (lo := lo) (n := n)) (by simp [rangeL]) (fun _ _ _ _ _ _ _ _ => trivial) ?_
  rintro F1 ρ1 h1 H1 i x H2 f _ rl1 _ hi ⟨rfl, rfl⟩
  have hi' : i < n := by simpa [rangeL] using hi
  refine ⟨F1, Gr.refl rl1.le, .int (lo + i), ?_, .int _⟩
  show (List.map _ (List.range n))[i]? = _
  rw [List.getElem?_map, List.getElem?_range hi']
  rfl
theorem vw_int {F H : Hp} {v : V} {i : Int} (h : Vw F H v (.int i)) : v = .int i := by
  cases h
  rfl
theorem di_range1 {a : Expr} {as : AE} {p pos : Pos} (hm : X.mg "range" = none) (ha : PA X [a] (tDA g Wx as)) (hg : Gl X "range" := by rfl) (hs : starEach [a] X.env = [(false, eval a X.env)] := by rfl) : PI X tg (.Call (.Name "range" p) [a] [] pos) (tI g Wx (iRange1 as)) := by
  refine pi_mono (pi_range1 hg hm ha hs) fun σ H R h => ?_
  refine (tG.of (rel2 := WRL g) (a := as) h (fun _ _ => rfl)).mono ?_
  rintro xs H1 ⟨F, ρ, env, h1, ws, er, rl, rx, p⟩
  cases e : lkL h1 ws with
  | none => rw [e] at p; exact p.elim
  | some ds =>
    rw [e] at p
    have vw := rx.vw rl e
    try dsimp only at p
    split at p
    · rename_i j hj
      cases hj
      cases vw with
      | cons v1 vr =>
        cases vr
        cases vw_int v1
        split at p
        · rename_i hsm
          obtain ⟨h1, h2⟩ := small62_ok hsm
          exact ⟨j, rfl, h1, h2, p _ H1 F ρ Ext.refl wk_range rl⟩
        · exact p.elim
    · exact p.elim
theorem di_range2 {a b : Expr} {as : AE} {p pos : Pos} (hm : X.mg "range" = none) (ha : PA X [a, b] (tDA g Wx as)) (hg : Gl X "range" := by rfl) (hs : starEach [a, b] X.env = [(false, eval a X.env), (false, eval b X.env)] := by rfl) (hs2 : starEach [b] X.env = [(false, eval b X.env)] := by rfl) :
    PI X tg (.Call (.Name "range" p) [a, b] [] pos) (tI g Wx (iRange2 as)) := by
  refine pi_mono (pi_range2 hg hm ha hs hs2) fun σ H R h => ?_
  refine (tG.of (rel2 := WRL g) (a := as) h (fun _ _ => rfl)).mono ?_
  rintro xs H1 ⟨F, ρ, env, h1, ws, er, rl, rx, p⟩
  cases e : lkL h1 ws with
  | none => rw [e] at p; exact p.elim
  | some ds =>
    rw [e] at p
    have vw := rx.vw rl e
    try dsimp only at p
    split at p
    · rename_i i j hj
      cases hj
      cases vw with
      | cons v1 vr =>
        cases vr with
        | cons v2 vr =>
          cases vr
          cases vw_int v1
          cases vw_int v2
          split at p
          · rename_i hsm
            rw [Bool.and_eq_true] at hsm
            obtain ⟨h1, h2⟩ := small62_ok hsm.1
            obtain ⟨h3, h4⟩ := small62_ok hsm.2
            exact ⟨i, j, rfl, ⟨h1, h2, h3, h4⟩, p _ H1 F ρ Ext.refl wk_range rl⟩
          · exact p.elim
    · exact p.elim
/-- enumerate(xs), zip(xs, ys) of data lists -/
def listD (h : Cells) : W → Option (List PyData)
  | .d (.list xs) => some xs
  | _ => none
def enumL (xs : List PyData) : List PyData := xs.zipIdx.map fun p => .tuple [.int (p.2 : Nat), p.1]
def zipL (xs ys : List PyData) : List PyData := (xs.zip ys).map fun p => .tuple [p.1, p.2]
def iEnumD (as : AE) : I := fun env h => (as env h).bind fun ws h1 => match ws with
  | [.d (.list xs)] => .ok ⟨enumL xs, none⟩ h1
  | _ => .stk
def iZipD (as : AE) : I := fun env h => (as env h).bind fun ws h1 => match ws with
  | [.d (.list xs), .d (.list ys)] => .ok ⟨zipL xs ys, none⟩ h1
  | _ => .stk
theorem di_enum {elts : List Expr} {kk : Nat} {tpos p pos : Pos} {as : AE} (hm : X.mg "enumerate" = none) (ha : PA X [e] (tDA g Wx as)) (hg : Gl X "enumerate" := by rfl) (hs : starEach [e] X.env = [(false, eval e X.env)] := by rfl) :
    PI X (.Tuple elts kk tpos) (.Call (.Name "enumerate" p) [e] [] pos) (tI g Wx (iEnumD as)) := by
  refine pi_mono (pi_enum hg hm ha hs) fun σ H R h => ?_
  refine (tG.of (rel2 := WRL g) (a := as) h (fun _ _ => rfl)).mono ?_
  rintro xs H1 ⟨F, ρ, env, h1, ws, er, rl, rx, p⟩
  split at p
  · rename_i ds
    cases rx with
    | cons r1 rr =>
      cases rr
      cases r1 with
      | lst e1 dr =>
        refine ⟨_, _, rfl, SqL.of (rl.le _ _ e1), p _ H1 F ρ Ext.refl (WkOk.of (walk_enum (xs := _)) (by simp [enumL]; exact dr.length) (fun F1 ρ1 h1 H1 f _ rl1 _ => SqL.of (rl1.le _ _ (f _ _ e1))) ?_) rl⟩
        rintro F1 ρ1 h1 H1 i x H2 f _ rl1 _ hi ⟨T, a, b, rfl, hT, rfl, ha', hb'⟩
        cases ha'
        obtain ⟨d, ed, drd⟩ := (dr.mono f).getV hb'
        have gr := Gr.new (o := .tup [.int (i : Nat), b]) rl1.le hT
        refine ⟨_, gr, .tuple [.int (i : Nat), d], ?_, .tup upd_same (.cons (.int _) (.cons (drd.mono gr.f) .nil))⟩
        show (enumL ds)[i]? = _
        unfold enumL
        rw [List.getElem?_map, List.getElem?_zipIdx, ed]
        simp
  · exact p.elim
theorem di_zip {e2 : Expr} {elts : List Expr} {kk : Nat} {tpos p pos : Pos} {as : AE} (hm : X.mg "zip" = none) (ha : PA X [e, e2] (tDA g Wx as)) (hg : Gl X "zip" := by rfl)
    (hs : starEach [e, e2] X.env = (false, eval e X.env) :: starEach [e2] X.env := by rfl) (hpl : (backTo pos (starEach [e2] X.env)).any (·.1) = false := by rfl) :
    PI X (.Tuple elts kk tpos) (.Call (.Name "zip" p) [e, e2] [] pos) (tI g Wx (iZipD as)) := by
  refine pi_mono (pi_zip hg hm ha hs hpl) fun σ H R h => ?_
  refine (tG.of (rel2 := WRL g) (a := as) h (fun _ _ => rfl)).mono ?_
  rintro xs H1 ⟨F, ρ, env, h1, ws, er, rl, rx, p⟩
  split at p
  · rename_i xs ys
    cases rx with
    | cons r1 rr =>
      cases rr with
      | cons r2 rr =>
        cases rr
        cases r1 with
        | lst e1 dr1 =>
          cases r2 with
          | lst e2 dr2 =>
            refine ⟨_, _, _, _, rfl, SqL.of (rl.le _ _ e1), SqL.of (rl.le _ _ e2), p _ H1 F ρ Ext.refl (WkOk.of (walk_zip (xs := _) (ys := _) rfl) (by simp [zipL]; rw [dr1.length, dr2.length]) (fun F1 ρ1 h1 H1 f _ rl1 _ => ⟨SqL.of (rl1.le _ _ (f _ _ e1)), SqL.of (rl1.le _ _ (f _ _ e2))⟩) ?_) rl⟩
            rintro F1 ρ1 h1 H1 i x H2 f _ rl1 _ hi ⟨T, a, b, rfl, hT, rfl, ha', hb'⟩
            obtain ⟨d, ed, drd⟩ := (dr1.mono f).getV ha'
            obtain ⟨d2, ed2, drd2⟩ := (dr2.mono f).getV hb'
            have gr := Gr.new (o := .tup [a, b]) rl1.le hT
            refine ⟨_, gr, .tuple [d, d2], ?_, .tup upd_same (.cons (drd.mono gr.f) (.cons (drd2.mono gr.f) .nil))⟩
            show (zipL xs ys)[i]? = _
            unfold zipL
            rw [List.getElem?_map, (List.getElem?_zip_eq_some (z := (d, d2))).mpr ⟨ed, ed2⟩]
            rfl
  · exact p.elim
end
end CH

set_option Elab.async false
set_option linter.all false
set_option maxRecDepth 100000
namespace CH
open PySem L2

/-! ### calls of the program's defs -/
def refsOf : List W → List Nat
  | [] => []
  | .ref n :: ws => if n ∈ refsOf ws then refsOf ws else n :: refsOf ws
  | _ :: ws => refsOf ws
def idxOf (n : Nat) : List Nat → Nat
  | [] => 0
  | m :: ms => if n = m then 0 else idxOf n ms + 1
def into (ns : List Nat) : W → W
  | .ref n => .ref (idxOf n ns)
  | .d x => .d x
  | .exc c p => .exc c p
  | .scr l => .scr l
  | .fn i => .fn i
def back (ns : List Nat) : W → Option W
  | .ref j => match ns[j]? with
    | some n => some (.ref n)
    | none => none
  | .d x => some (.d x)
  | .scr l => some (.scr l)
  | .fn i => some (.fn i)
  | .exc _ _ => none
def pick (h : Cells) : List Nat → Option Cells
  | [] => some []
  | n :: ns => match h[n]?, pick h ns with
    | some (some c), some cs => some (some c :: cs)
    | _, _ => none
/-- the cells as the callee left them -/
def putBack (ns : List Nat) (h' : Cells) (h : Cells) : Cells := h.zipIdx.map fun p => if p.2 ∈ ns then (h'[idxOf p.2 ns]?).join else p.1
def isExc : W → Bool
  | .exc _ _ => true
  | _ => false
def callW (R' : FR) (i : Nat) (ws : List W) (h : Cells) : R W :=
  let ns := refsOf ws
  if ws.any isExc then .stk else
  match pick h ns with
  | none => .stk
  | some cs => match R' i (ws.map (into ns)) cs with
    | .ok w h' => match back ns w with
      | some w' => .ok w' (putBack ns h' h)
      | none => match w with
        | .ref j => if ns.length ≤ j then match h'[j]? with
            | some (some c) => .ok (.ref h.length) (putBack ns h' h ++ [some c])
            | _ => .stk
          else .stk
        | _ => .stk
    | .exc c p h' => match back ns p with
      | some p' => .exc c p' (putBack ns h' h)
      | none => .stk
    | .stk => .stk
def sCall (R' : FR) (i n : Nat) (as : AE) : E := fun env h => (as env h).bind fun ws h1 => if ws.length = n then callW R' i ws h1 else .stk
theorem refsOf_nodup : ∀ ws : List W, (refsOf ws).Nodup
  | [] => List.nodup_nil
  | .ref n :: ws => by
    unfold refsOf
    split
    · exact refsOf_nodup ws
    · rename_i h; exact List.nodup_cons.mpr ⟨h, refsOf_nodup ws⟩
  | .d _ :: ws => refsOf_nodup ws
  | .exc _ _ :: ws => refsOf_nodup ws
  | .scr _ :: ws => refsOf_nodup ws
  | .fn _ :: ws => refsOf_nodup ws
theorem mem_refsOf : ∀ {ws : List W} {n : Nat}, W.ref n ∈ ws → n ∈ refsOf ws
  | .ref m :: ws, n, h => by
    unfold refsOf
    rcases List.mem_cons.mp h with h | h
    · cases h
      split
      · assumption
      · exact List.mem_cons_self
    · split
      · exact mem_refsOf h
      · exact List.mem_cons_of_mem _ (mem_refsOf h)
  | .d _ :: ws, n, h => by
    rcases List.mem_cons.mp h with h | h
    · cases h
    · exact mem_refsOf (ws := ws) h
  | .exc _ _ :: ws, n, h => by
    rcases List.mem_cons.mp h with h | h
    · cases h
    · exact mem_refsOf (ws := ws) h
  | .scr _ :: ws, n, h => by
    rcases List.mem_cons.mp h with h | h
    · cases h
    · exact mem_refsOf (ws := ws) h
  | .fn _ :: ws, n, h => by
    rcases List.mem_cons.mp h with h | h
    · cases h
    · exact mem_refsOf (ws := ws) h
theorem idxOf_get : ∀ {ns : List Nat} {n : Nat}, n ∈ ns → ns[idxOf n ns]? = some n
  | m :: ms, n, h => by
    unfold idxOf
    by_cases e : n = m
    · rw [if_pos e, e]; rfl
    · rw [if_neg e]
      rcases List.mem_cons.mp h with h | h
      · exact absurd h e
      · simpa using idxOf_get h
theorem get_idxOf : ∀ {ns : List Nat} {n j : Nat}, ns.Nodup → ns[j]? = some n → idxOf n ns = j
  | m :: ms, n, 0, _, h => by
    simp at h
    unfold idxOf
    rw [if_pos h.symm]
  | m :: ms, n, j + 1, nd, h => by
    have h' : ms[j]? = some n := by simpa using h
    unfold idxOf
    have hm : n ∈ ms := List.mem_of_getElem? h'
    have hne : n ≠ m := fun z => (List.nodup_cons.mp nd).1 (z ▸ hm)
    rw [if_neg hne, get_idxOf (List.nodup_cons.mp nd).2 h']
  | [], _, _, _, h => by simp at h
theorem pick_get : ∀ {ns : List Nat} {h cs : Cells}, pick h ns = some cs → cs.length = ns.length ∧ ∀ j n : Nat, ns[j]? = some n → ∃ c, h[n]? = some (some c) ∧ cs[j]? = some (some c)
  | [], h, cs, e => by
    cases e
    exact ⟨rfl, fun j n q => by simp at q⟩
  | n :: ns, h, cs, e => by
    unfold pick at e
    cases e1 : h[n]? with
    | none => rw [e1] at e; cases e
    | some o =>
      cases o with
      | none => rw [e1] at e; cases e
      | some c =>
        cases e2 : pick h ns with
        | none => rw [e1, e2] at e; cases e
        | some cs2 =>
          rw [e1, e2] at e
          cases e
          obtain ⟨l, q⟩ := pick_get e2
          refine ⟨congrArg (· + 1) l, fun j m hj => ?_⟩
          cases j with
          | zero =>
            simp at hj
            subst hj
            exact ⟨c, e1, rfl⟩
          | succ j => simpa using q j m (by simpa using hj)
/-- the cells of the callee -/
def rhoIn (ρ : Nat → Option Addr) (ns : List Nat) : Nat → Option Addr := fun j => match ns[j]? with
  | some n => ρ n
  | none => none
theorem rhoIn_some {ρ : Nat → Option Addr} {ns : List Nat} {j : Nat} {a : Addr} (h : rhoIn ρ ns j = some a) : ∃ n, ns[j]? = some n ∧ ρ n = some a := by
  unfold rhoIn at h
  split at h
  · rename_i n e; exact ⟨n, e, h⟩
  · cases h
theorem rhoIn_idx {ρ : Nat → Option Addr} {ns : List Nat} {n : Nat} (h : n ∈ ns) : rhoIn ρ ns (idxOf n ns) = ρ n := by
  unfold rhoIn
  rw [idxOf_get h]
section
variable {g : Glob} {F F' H H' : Hp} {ρ ρ' : Nat → Option Addr} {h h' cs : Cells} {ns : List Nat}
theorem Rl.callee (rl : Rl F ρ h H) (nd : ns.Nodup) (e : pick h ns = some cs) : Rl F (rhoIn ρ ns) cs H := by
  obtain ⟨l, q⟩ := pick_get e
  refine ⟨rl.le, fun j c hj => ?_, fun i j c d a h1 h2 h3 h4 => ?_, fun j hj => ?_, fun j a hj => ?_⟩
  · have hlt : j < ns.length := by
      rw [← l]
      exact (List.getElem?_eq_some_iff.mp hj).1
    obtain ⟨c', h1, h2⟩ := q j ns[j] (List.getElem?_eq_getElem hlt)
    rw [h2] at hj
    cases hj
    obtain ⟨a, ea, fa, cr⟩ := rl.cel _ _ h1
    refine ⟨a, ?_, fa, cr⟩
    unfold rhoIn
    rw [List.getElem?_eq_getElem hlt]
    exact ea
  · obtain ⟨n, e1, r1⟩ := rhoIn_some h3
    obtain ⟨m, e2, r2⟩ := rhoIn_some h4
    obtain ⟨c1, q1, _⟩ := q i n e1
    obtain ⟨c2, q2, _⟩ := q j m e2
    have z := rl.inj n m c1 c2 a q1 q2 r1 r2
    subst z
    exact (get_idxOf nd e1).symm.trans (get_idxOf nd e2)
  · unfold rhoIn
    rw [List.getElem?_eq_none (by omega)]
  · obtain ⟨n, _, r⟩ := rhoIn_some hj
    exact rl.pl n a r
theorem WRL.into {vs : List V} {ws : List W} (r : WRL g F ρ vs ws) : ∀ ns : List Nat, ws.any isExc = false → (∀ n, W.ref n ∈ ws → n ∈ ns) → WRL g F (rhoIn ρ ns) vs (ws.map (CH.into ns)) := by
  intro ns hx hs
  induction r with
  | nil => exact .nil
  | @cons v w vs ws a t ih =>
    obtain ⟨hx1, hx2⟩ := Bool.or_eq_false_iff.mp (show (isExc w || ws.any isExc) = false from hx)
    refine .cons ?_ (ih hx2 fun n hn => hs n (List.mem_cons_of_mem _ hn))
    cases w with
    | exc c p => cases hx1
    | ref n =>
      obtain ⟨b, eb, rfl⟩ := a
      exact ⟨b, (rhoIn_idx (hs n List.mem_cons_self)).trans eb, rfl⟩
    | _ => exact a
theorem WR.back {v : V} {w w' : W} (r : WR g F' ρ' v w) (x : ∀ n a, rhoIn ρ ns n = some a → ρ' n = some a) (hns : ∀ n ∈ ns, ∃ a, ρ n = some a) (e : CH.back ns w = some w') : WR g F' ρ v w' := by
  cases w with
  | ref j =>
    obtain ⟨a, ea, rfl⟩ := r
    have e : (match ns[j]? with | some n => some (W.ref n) | none => none) = some w' := e
    split at e
    · rename_i n hn
      cases e
      obtain ⟨b, eb⟩ := hns n (List.mem_of_getElem? hn)
      have z : rhoIn ρ ns j = some b := by
        unfold rhoIn
        rw [hn]
        exact eb
      have y := x j b z
      rw [ea] at y
      cases y
      exact ⟨a, eb, rfl⟩
    · cases e
  | d x => cases e; exact r
  | scr l => cases e; exact r
  | fn i => cases e; exact r
  | exc c p => cases e
theorem putBack_get (n : Nat) : (putBack ns h' h)[n]? = (h[n]?).map fun o => if n ∈ ns then (h'[idxOf n ns]?).join else o := by
  unfold putBack
  rw [List.getElem?_map, List.getElem?_zipIdx]
  cases h[n]? with
  | none => rfl
  | some o => simp
theorem Rl.after (rl : Rl F ρ h H) (nd : ns.Nodup) (e : pick h ns = some cs) (x : Ext F (rhoIn ρ ns) H F' ρ' H') (rl' : Rl F' ρ' h' H') : Rl F' ρ (putBack ns h' h) H' ∧ Ext F ρ H F' ρ H' := by
  obtain ⟨l, q⟩ := pick_get e
  have live : ∀ n ∈ ns, ∃ c, h[n]? = some (some c) := fun n hn => by
    obtain ⟨c, h1, _⟩ := q (idxOf n ns) n (idxOf_get hn)
    exact ⟨c, h1⟩
  have fr : ∀ a o, H a = some o → (∀ n, n ∈ ns → ρ n ≠ some a) → H' a = some o := fun a o ho hn => x.fr a o ho fun j z => by
    obtain ⟨n, e1, r1⟩ := rhoIn_some z
    exact hn n (List.mem_of_getElem? e1) r1
  have there : ∀ n a, ρ n = some a → ∃ o, H' a = some o := fun n a r => by
    by_cases hn : ∃ m ∈ ns, ρ m = some a
    · obtain ⟨m, hm, rm⟩ := hn
      have z : rhoIn ρ ns (idxOf m ns) = some a := (rhoIn_idx hm).trans rm
      exact rl'.pl _ a (x.r _ a z)
    · obtain ⟨o, ho⟩ := rl.pl n a r
      exact ⟨o, fr a o ho fun m hm z => hn ⟨m, hm, z⟩⟩
  refine ⟨⟨rl'.le, fun n c hn => ?_, fun n m c d a h1 h2 h3 h4 => ?_, fun n hn => rl.top n (by simpa [putBack] using hn), there⟩, ⟨x.f, fun _ _ r => r, fun a o ho hn => fr a o ho fun n _ => hn n, fun a ha => ?_, fun n a r => .inl ⟨n, r⟩⟩⟩
  · rw [putBack_get] at hn
    cases hh : h[n]? with
    | none => rw [hh] at hn; cases hn
    | some o =>
      rw [hh] at hn
      by_cases hm : n ∈ ns
      · simp only [Option.map_some, if_pos hm, Option.some.injEq] at hn
        have hj : h'[idxOf n ns]? = some (some c) := by
          cases z : h'[idxOf n ns]? with
          | none => rw [z] at hn; cases hn
          | some y => rw [z] at hn; exact congrArg some hn
        obtain ⟨a, ea, fa, cr⟩ := rl'.cel _ _ hj
        obtain ⟨c0, hc0⟩ := live n hm
        obtain ⟨b, eb, _, _⟩ := rl.cel n c0 hc0
        have z := x.r _ b ((rhoIn_idx hm).trans eb)
        rw [ea] at z
        cases z
        exact ⟨a, eb, fa, cr⟩
      · simp only [Option.map_some, if_neg hm, Option.some.injEq] at hn
        subst hn
        obtain ⟨a, ea, fa, cr⟩ := rl.cel n c hh
        have off : ∀ m, m ∈ ns → ρ m ≠ some a := fun m hm' z => by
          obtain ⟨c1, hc1⟩ := live m hm'
          exact hm (rl.inj n m c c1 a hh hc1 ea z ▸ hm')
        obtain ⟨o, ho⟩ := Rl.isSome cr
        refine ⟨a, ea, ?_, ?_⟩
        · cases z : F' a with
          | none => rfl
          | some u =>
            rcases x.nw a (by rw [z]; simp) with e1 | e1 | ⟨j, e1⟩ | ⟨us, e1⟩
            · exact absurd fa e1
            · rw [ho] at e1; cases e1
            · obtain ⟨m, e2, r2⟩ := rhoIn_some e1
              exact absurd r2 (off m (List.mem_of_getElem? e2))
            · rw [e1] at cr
              cases c with
              | list ds => obtain ⟨vs, e2, _⟩ := cr; cases e2
              | dict ps => rcases cr with ⟨k, e2, _⟩ | ⟨k, e2, _⟩ <;> cases e2
              | _ => exact cr.elim
        · rw [fr a o ho off, ← ho]
          exact cr.mono x.f
  · have lv : ∀ k z, (putBack ns h' h)[k]? = some (some z) → ∃ y, h[k]? = some (some y) := fun k z hk => by
      rw [putBack_get] at hk
      cases hh : h[k]? with
      | none => rw [hh] at hk; cases hk
      | some o =>
        by_cases hm : k ∈ ns
        · obtain ⟨y, hy⟩ := live k hm
          exact ⟨y, hy⟩
        · rw [hh] at hk
          simp only [Option.map_some, if_neg hm, Option.some.injEq] at hk
          exact ⟨z, by rw [hh, hk]⟩
    obtain ⟨y1, k1⟩ := lv n c h1
    obtain ⟨y2, k2⟩ := lv m d h2
    exact rl.inj n m y1 y2 a k1 k2 h3 h4
  · rcases x.nw a ha with e1 | e1 | ⟨j, e1⟩ | e1
    · exact .inl e1
    · exact .inr (.inl e1)
    · obtain ⟨n, _, r⟩ := rhoIn_some e1
      exact .inr (.inr (.inl ⟨n, r⟩))
    · exact .inr (.inr (.inr e1))
theorem Rl.afterNew (rl : Rl F ρ h H) (nd : ns.Nodup) (e : pick h ns = some cs) (x : Ext F (rhoIn ρ ns) H F' ρ' H') (rl' : Rl F' ρ' h' H') {j : Nat} {c : PyData} (hj : ns.length ≤ j) (hc : h'[j]? = some (some c)) :
    ∃ a, ρ' j = some a ∧ Rl F' (fun n => if n = h.length then some a else ρ n) (putBack ns h' h ++ [some c]) H' ∧ Ext F ρ H F' (fun n => if n = h.length then some a else ρ n) H' := by
  obtain ⟨r1, x1⟩ := rl.after nd e x rl'
  obtain ⟨a, ea, fa, cr⟩ := rl'.cel j c hc
  have hlen : (putBack ns h' h).length = h.length := by simp [putBack]
  have notOld : ∀ m d, (putBack ns h' h)[m]? = some (some d) → ρ m ≠ some a := fun m d hm z => by
    obtain ⟨l, q⟩ := pick_get e
    have live : ∀ n ∈ ns, ∃ c, h[n]? = some (some c) := fun n hn => by
      obtain ⟨c, h1, _⟩ := q (idxOf n ns) n (idxOf_get hn)
      exact ⟨c, h1⟩
    rw [putBack_get] at hm
    cases hh : h[m]? with
    | none => rw [hh] at hm; cases hm
    | some o =>
      rw [hh] at hm
      by_cases hmn : m ∈ ns
      · simp only [Option.map_some, if_pos hmn, Option.some.injEq] at hm
        have hj' : h'[idxOf m ns]? = some (some d) := by
          cases z : h'[idxOf m ns]? with
          | none => rw [z] at hm; cases hm
          | some y => rw [z] at hm; exact congrArg some hm
        have z2 := x.r _ a ((rhoIn_idx hmn).trans z)
        have z3 := rl'.inj _ _ _ _ _ hj' hc z2 ea
        have z4 := idxOf_get hmn
        rw [z3] at z4
        rw [List.getElem?_eq_none hj] at z4
        cases z4
      · simp only [Option.map_some, if_neg hmn, Option.some.injEq] at hm
        subst hm
        rcases x.rn j a ea with ⟨k, hk⟩ | hk
        · obtain ⟨n, e1, r⟩ := rhoIn_some hk
          obtain ⟨c1, hc1⟩ := live n (List.mem_of_getElem? e1)
          exact hmn (rl.inj m n d c1 a hh hc1 z r ▸ List.mem_of_getElem? e1)
        · obtain ⟨o, ho⟩ := rl.pl m a z
          rw [ho] at hk; cases hk
  have cas : ∀ (n : Nat) (d : PyData), (putBack ns h' h ++ [some c])[n]? = some (some d) → ((putBack ns h' h)[n]? = some (some d) ∧ n ≠ h.length) ∨ (n = h.length ∧ d = c) := fun n d en => by
    by_cases hn : n < (putBack ns h' h).length
    · rw [List.getElem?_append_left hn] at en
      exact .inl ⟨en, by omega⟩
    · by_cases hn' : n = (putBack ns h' h).length
      · subst hn'
        rw [List.getElem?_append_right (Nat.le_refl _)] at en
        simp at en
        exact .inr ⟨hlen, en.symm⟩
      · rw [List.getElem?_eq_none (by simp; omega)] at en
        cases en
  refine ⟨a, ea, ⟨r1.le, fun n d en => ?_, fun n m d1 d2 b h1 h2 h3 h4 => ?_, fun n hn => ?_, fun n b eb => ?_⟩, ⟨x1.f, fun n b eb => ?_, x1.fr, x1.nw, fun n b eb => ?_⟩⟩
  · rcases cas n d en with ⟨e1, e2⟩ | ⟨rfl, rfl⟩
    · obtain ⟨b, eb, fb, cb⟩ := r1.cel n d e1
      exact ⟨b, by rw [if_neg e2]; exact eb, fb, cb⟩
    · exact ⟨a, if_pos rfl, fa, cr⟩
  · rcases cas n d1 h1 with ⟨e1, f1⟩ | ⟨e1, f1⟩
    · rcases cas m d2 h2 with ⟨e2, f2⟩ | ⟨e2, f2⟩
      · rw [if_neg f1] at h3
        rw [if_neg f2] at h4
        exact r1.inj n m d1 d2 b e1 e2 h3 h4
      · rw [if_neg f1] at h3
        rw [if_pos e2] at h4
        cases h4
        exact absurd h3 (notOld n d1 e1)
    · rcases cas m d2 h2 with ⟨e2, f2⟩ | ⟨e2, f2⟩
      · rw [if_neg f2] at h4
        rw [if_pos e1] at h3
        cases h3
        exact absurd h4 (notOld m d2 e2)
      · exact e1.trans e2.symm
  · rw [List.length_append, List.length_singleton, hlen] at hn
    rw [if_neg (by omega)]
    exact r1.top n (by omega)
  · by_cases hn : n = h.length
    · rw [if_pos hn] at eb
      cases eb
      exact rl'.pl j a ea
    · rw [if_neg hn] at eb
      exact r1.pl n b eb
  · by_cases hn : n = h.length
    · subst hn
      rw [rl.top _ (Nat.le_refl _)] at eb
      cases eb
    · rw [if_neg hn]; exact eb
  · by_cases hn : n = h.length
    · rw [if_pos hn] at eb
      cases eb
      rcases x.rn j a ea with ⟨k, hk⟩ | hk
      · obtain ⟨n', _, r⟩ := rhoIn_some hk
        exact .inl ⟨n', r⟩
      · exact .inr hk
    · rw [if_neg hn] at eb
      exact .inl ⟨n, eb⟩
end
/-- the promise of the i-th def -/
def spF (g : Glob) (n : Nat) (R' : FR) (i : Nat) : Sp := fun vs H Q Ex => vs.length = n ∧ ∃ F ρ h ws, WRL g F ρ vs ws ∧ Rl F ρ h H ∧ Po g (fun c d _ H' => Ex c d H') [] (WR g) H F ρ Q (R' i ws h)
/-- a promise that asks that no built-in guards anything about it -/
structure FnG (P : Program) (w : World) (K : PySem.W.Frag) (mg : Str → Option Value) (base : Heap) (CX : CXT) (k : Nat) (f : Addr) (fd : FuncData) (ps : List Str) (sp : Sp) : Prop where
  len : ∀ vs H Q E, sp vs H Q E → vs.length = ps.length
  run : ∀ (A : Around) (outer : List PySem.Env) (s : Shared) (H : Hp) (args : Args) (us : List Value) (vs : List V) (Q : VK) (E : XK), Room k A → A.guards = some [] → Env0 P w K mg base A outer s H → BindsTo s fd args (ps.zip us) → Vals vs us → sp vs H Q E →
    codeAny (model P w) A (.call (.ref f) args) (L2.CR CX outer P w H s Q E) s
theorem FnG.mono {P : Program} {w : World} {K : PySem.W.Frag} {mg : Str → Option Value} {base : Heap} {CX : CXT} {j k : Nat} {f : Addr} {fd : FuncData} {ps : List Str} {sp : Sp} (F : FnG P w K mg base CX j f fd ps sp) (h : j ≤ k) : FnG P w K mg base CX k f fd ps sp :=
  ⟨F.len, fun A outer s H args us vs Q E hr => F.run A outer s H args us vs Q E (hr.mono h)⟩
section
variable {X : Cx} {CX : CXT} {k : Nat} {f : Addr} {fd : FuncData} {ps : List Str} {sp : Sp} {E : L2.St → XK} {x : Str} {p pos : Pos} {e : Expr} {es : List Expr} {t : TA}
theorem pe_callG (F : FnG X.prog X.w X.K X.mg X.base CX k f fd ps sp) (hr : Room k X.A) (hgd : X.A.guards = some []) (hg : Gl X x) (hm : X.mg x = some (.ref f)) (hk : PySem.W.keepIn X.K (.ref f) = true) (hb : Binds X.K fd ps []) (hx : ∀ σ, PassesAt CX X σ (E σ))
    (ha : PA X (e :: es) t) (hdb : (x == ("__debug__" : Str)) = false := by decide) (he : starEach (e :: es) X.env = (false, eval e X.env) :: starEach es X.env := by rfl) (hpl : (backTo pos (starEach es X.env)).any (·.1) = false := by rfl) :
    PE X (.Call (.Name x p) (e :: es) [] pos) (tCallS sp E t) := by
  refine ⟨fun pins s σ H Q I h => ?_⟩
  refine wpAny_Call_Name_kw (ld_glob I hg hm ?_ hdb)
  refine PySem.W.callWith_K (h₀ := X.base) I.ok.mod.kin hk (thn (ha.run pos pins s σ H _ I h) fun us s1 ⟨vs, H1, I1, r, q⟩ => ⟨I1.kIn, ?_⟩) he hpl
  have hl : us.length = ps.length := by rw [← r.length]; exact F.len _ _ _ _ q
  have b := hb s1 us I1.kIn (by rw [List.append_nil]; exact hl)
  rw [List.append_nil] at b
  refine wpAny_call (codeAny_mono (F.run X.A X.stack s1 H1 ⟨us, []⟩ us vs Q (E σ) hr hgd I1.env0 b r q) fun r s' hq => ?_)
  cases r with
  | error e => exact hx σ pins H1 s1 e s' I1 hq
  | ok fl =>
    cases fl with
    | ret u => exact I1.after hq
    | next => exact False.elim hq
    | brk => exact False.elim hq
    | cont => exact False.elim hq
end
open PySem.Spec PyProof.Rows in
theorem fn_ofG {CX : CXT} {P : Program} {w : World} {K : PySem.W.Frag} {mg : Str → Option Value} {base : Heap} {k : Nat} {f : Addr} {name qual : Str} {params : Arguments} {body : List Stmt} {scope : Scope} {dV kV doc pm cdv ct oc : Value} {an od : Option Addr}
    {osl : Array (Option Value)} {N ps : List Str} {sp : Sp} (lk : K.lookup f = some ⟨oc, od, .func (PySem.W.fnOf name qual params body scope dV kV doc pm an cdv ct), osl⟩) (hcd : PySem.W.codeIn K cdv qual = true) (S : FnScope N ps scope)
    (len : ∀ vs H Q E, sp vs H Q E → vs.length = ps.length)
    (hbody : ∀ (A : Around) (outer : List PySem.Env) (s : Shared) (H : Hp) (vs : List V) (Q : VK) (E : XK), Room k (A.deeper (envOfC qual scope s.heap.objs.size f cdv)) → A.guards = some [] → sp vs H Q E →
      ∃ t, PSs (cxOf CX P w K mg base N qual scope f cdv A outer s H E) body t ∧ t { nx := fun _ H' => Q .non H', rt := Q } (L2.start N vs) H) :
    FnG P w K mg base CX (k + 1) f (PySem.W.fnOf name qual params body scope dV kV doc pm an cdv ct) ps sp := by
  refine ⟨len, fun A outer s H args us vs Q E hr hgd e0 hb r hsp => ?_⟩
  have hl := len _ _ _ _ hsp
  have old := fun b o e => (e0.bs b o e).1
  have KX : K.In s.heap := e0.mod.kin.keeps old
  have hkind : ∀ y ∈ ps.zip us, scope.names.lookup y.1 = some .local ∨ (scope.names.lookup y.1 = some .cell ∧ ((cellsFrom (s.heap.objs.size + 1) scope.names []).lookup y.1).isSome = true) := fun ⟨n, v⟩ hy => by
    rcases S.par n (List.of_mem_zip hy).1 with q | q
    · exact .inl q
    · exact .inr ⟨q, PySem.W.cellsFrom_some _ _ _ (.inl q)⟩
  refine codeAny_call_function hr.depth (KX _ _ lk) rfl S.co S.gen rfl (PySem.W.codeRec_of KX hcd) (hb _ _ _ _ ?_)
  refine wpAny_newFunctionEnv_cells S.kind hkind fun env he s1 x => ?_
  subst he
  refine ⟨(e0.mod.nolimit.keeps old).keeps x.toInCall.keep, codeAny_func ?_⟩
  obtain ⟨t, ht, hq⟩ := hbody A outer s H vs Q E (hr.deeper _) hgd hsp
  have I : Inv (cxOf CX P w K mg base N qual scope f cdv A outer s H E) [] (L2.start N vs) H s1 := inv_start S hr.hd e0 hl r x
  refine wpAny_mono (ht.run [] s1 (L2.start N vs) H _ I hq) (fun fl s' hs => ?_) fun e s' hs => hs
  have fin : ∀ {σ' : L2.St} {H' : Hp} {v : V} {u : Value}, Inv (cxOf CX P w K mg base N qual scope f cdv A outer s H E) [] σ' H' s' → RelV v u → Q v H' → CE outer P w H s Q u s' :=
    fun {σ' H' v u} J rv q => ⟨v, H', J.os, J.bare, J.base, J.hok, rv, q⟩
  cases fl with
  | ret u =>
    obtain ⟨v, σ', H', J, rv, q⟩ := hs
    exact fin J rv q
  | next =>
    obtain ⟨σ', H', J, q⟩ := hs
    exact fin (v := V.non) (u := Value.none) J rfl q
  | brk =>
    obtain ⟨_, _, _, q⟩ := hs
    exact False.elim q
  | cont =>
    obtain ⟨_, _, _, q⟩ := hs
    exact False.elim q
/-- the i-th def stands as a function that keeps its promise -/
structure FnT (P : Program) (w : World) (K : PySem.W.Frag) (mg : Str → Option Value) (base : Heap) (g : Glob) (R' : FR) (k : Nat) (i : Nat) (x : Str) (ps : List Str) : Prop where
  ok : ∃ fd, FnG P w K mg base (L2.CX P w) k (g.fad i) fd ps (spF g ps.length R' i) ∧ Binds K fd ps []
  mg : mg x = some (.ref (g.fad i))
  kp : PySem.W.keepIn K (.ref (g.fad i)) = true
theorem callW_ok {g : Glob} {Wx : WX} {σ : L2.St} {F H : Hp} {ρ : Nat → Option Addr} {h : Cells} {vs : List V} {ws : List W} {Q : VK} {R' : FR} {i n : Nat} (hn : vs.length = n) (rl : Rl F ρ h H) (r : WRL g F ρ vs ws)
    (p : Po g Wx σ (WR g) H F ρ Q (callW R' i ws h)) : spF g n R' i vs H Q (fun c d H' => Wx c d σ H') := by
  unfold callW at p
  try dsimp only at p
  cases hx : ws.any isExc with
  | true => rw [hx, if_pos rfl] at p; exact p.elim
  | false =>
  rw [hx, if_neg Bool.false_ne_true] at p
  cases e : pick h (refsOf ws) with
  | none => rw [e] at p; exact p.elim
  | some cs =>
    rw [e] at p
    try dsimp only at p
    have nd := refsOf_nodup ws
    have hns : ∀ n ∈ refsOf ws, ∃ a, ρ n = some a := fun n hm => by
      obtain ⟨_, q⟩ := pick_get e
      obtain ⟨c, h1, _⟩ := q _ n (idxOf_get hm)
      obtain ⟨a, ea, _⟩ := rl.cel n c h1
      exact ⟨a, ea⟩
    refine ⟨hn, F, rhoIn ρ (refsOf ws), cs, ws.map (into (refsOf ws)), r.into _ hx fun n hm => mem_refsOf hm, rl.callee nd e, ?_⟩
    cases z : R' i (ws.map (into (refsOf ws))) cs with
    | stk => rw [z] at p; exact p.elim
    | ok w h' =>
      rw [z] at p
      try dsimp only at p
      cases b : back (refsOf ws) w with
      | none =>
        rw [b] at p
        cases w with
        | ref j =>
          try dsimp only at p
          by_cases hj : (refsOf ws).length ≤ j
          · rw [if_pos hj] at p
            cases hc : h'[j]? with
            | none => rw [hc] at p; exact p.elim
            | some o =>
              cases o with
              | none => rw [hc] at p; exact p.elim
              | some c =>
                rw [hc] at p
                intro v H' F' ρ' x rw' rl'
                obtain ⟨a, ea, r1, x1⟩ := rl.afterNew nd e x rl' hj hc
                obtain ⟨a', ea', rfl⟩ := rw'
                rw [ea] at ea'
                cases ea'
                exact p _ H' F' _ x1 ⟨a, if_pos rfl, rfl⟩ r1
          · rw [if_neg hj] at p; exact p.elim
        | _ => exact p.elim
      | some w' =>
        rw [b] at p
        intro v H' F' ρ' x rw' rl'
        obtain ⟨r1, x1⟩ := rl.after nd e x rl'
        exact p v H' F' ρ x1 (rw'.back x.r hns b) r1
    | exc c w h' =>
      rw [z] at p
      try dsimp only at p
      cases b : back (refsOf ws) w with
      | none => rw [b] at p; exact p.elim
      | some w' =>
        rw [b] at p
        intro v dd H' F' ρ' x rw' rl' hd
        obtain ⟨r1, x1⟩ := rl.after nd e x rl'
        exact p v dd H' F' ρ x1 (rw'.back x.r hns b) r1 hd
section
variable {X : Cx} {g : Glob} {Wx : WX} {pos pos' : Pos} {e : Expr} {es : List Expr} {as : AE} {R' : FR} {k i : Nat} {x : Str} {ps : List Str}
theorem tcall_ok {n : Nat} {σ : L2.St} {H : Hp} {Q : VK} (h : tD g Wx (sCall R' i n as) σ H Q) : tCallS (spF g n R' i) (fun σ c d H => Wx c d σ H) (tDA g Wx as) σ H Q := by
  refine (tG.of (rel2 := WRL g) (a := as) h (fun _ _ => rfl)).mono ?_
  rintro vs H1 ⟨F, ρ, env, h1, ws, er, rl, r, p⟩
  by_cases hl : ws.length = n
  · rw [if_pos hl] at p
    exact callW_ok (r.length.trans hl) rl r p
  · rw [if_neg hl] at p
    exact p.elim
theorem de_call {n : Nat} (T : FnT X.prog X.w X.K X.mg X.base g R' k i x ps) (tk : Takes X Wx) (hr : Room k X.A) (hgd : X.A.guards = some []) (ha : PA X (e :: es) (tDA g Wx as)) (hg : Gl X x := by rfl) (hdb : (x == ("__debug__" : Str)) = false := by decide)
    (he : starEach (e :: es) X.env = (false, eval e X.env) :: starEach es X.env := by rfl) (hpl : (backTo pos (starEach es X.env)).any (·.1) = false := by rfl) (hn : ps.length = n := by rfl) : PE X (.Call (.Name x pos') (e :: es) [] pos) (tD g Wx (sCall R' i n as)) := by
  subst hn
  obtain ⟨fd, F, hb⟩ := T.ok
  exact pe_mono (pe_callG (E := fun σ c d H => Wx c d σ H) F hr hgd hg T.mg T.kp hb (fun σ => passAt tk σ) ha hdb he hpl) fun σ H Q h => tcall_ok h
end

/-! ### defs -/
/-- a def's body as a step of the run -/
def runBody (n len : Nat) (b : S) (ws : List W) (h : Cells) : R W :=
  if ws.length = n then match b (ws.map some ++ List.replicate (len - n) none) h with
    | .ret w h' => .ok w h'
    | .nx _ h' => .ok (.d .none) h'
    | .exc c p _ h' => .exc c p h'
    | _ => .stk
  else .stk
theorem er_start {g : Glob} {F : Hp} {ρ : Nat → Option Addr} {vs : List V} {ws : List W} (r : WRL g F ρ vs ws) (m : Nat) : ER g F ρ (vs.map some ++ List.replicate m none) (ws.map some ++ List.replicate m none) := by
  refine ⟨by simp [r.length], fun i w e => ?_⟩
  by_cases hi : i < ws.length
  · rw [List.getElem?_append_left (by simpa using hi)] at e
    rw [List.getElem?_append_left (by simpa [r.length] using hi)]
    rw [List.getElem?_map] at e ⊢
    have gen : ∀ {vs : List V} {ws : List W}, WRL g F ρ vs ws → ∀ (i : Nat) (w : W), ws[i]? = some w → ∃ v, vs[i]? = some v ∧ WR g F ρ v w := by
      intro vs ws r
      induction r with
      | nil => intro i w e; simp at e
      | cons a t ih =>
        intro i w e
        cases i with
        | zero => simp at e; subst e; exact ⟨_, rfl, a⟩
        | succ i => simpa using ih i w (by simpa using e)
    cases z : ws[i]? with
    | none => rw [z] at e; cases e
    | some w' =>
      rw [z] at e
      cases e
      obtain ⟨v, hv, q⟩ := gen r i w z
      exact ⟨v, by rw [hv]; rfl, q⟩
  · rw [List.getElem?_append_right (by simpa using hi)] at e
    rw [List.getElem?_replicate] at e
    split at e <;> cases e
theorem body_ok {g : Glob} {n : Nat} {N : List Str} {b : S} {i : Nat} {R1 : FR} (hR : ∀ ws h, R1 i ws h = runBody n N.length b ws h) {vs : List V} {H : Hp} {Q : VK} {Ex : XK} (h : spF g n R1 i vs H Q Ex) :
    tS g (fun c d _ H' => Ex c d H') b { nx := fun _ H' => Q .non H', rt := Q } (start N vs) H := by
  obtain ⟨hl, F, ρ, h0, ws, r, rl, p⟩ := h
  rw [hR] at p
  unfold runBody at p
  have hl' : ws.length = n := r.length.symm.trans hl
  rw [if_pos hl'] at p
  refine ⟨F, ρ, ws.map some ++ List.replicate (N.length - n) none, h0, ?_, rl, ?_⟩
  · unfold L2.start
    rw [hl]
    exact er_start r _
  · cases z : b (ws.map some ++ List.replicate (N.length - n) none) h0 with
    | ret w h' => rw [z] at p; exact p
    | nx env' h' =>
      rw [z] at p
      exact fun σ' H' F' ρ' x er rl' => p .non H' F' ρ' x .non rl'
    | exc c q env' h' =>
      rw [z] at p
      exact fun v dd σ' H' F' ρ' x wr er rl' hd => p v dd H' F' ρ' x wr rl' hd
    | brk env' h' => rw [z] at p; exact p.elim
    | cnt env' h' => rw [z] at p; exact p.elim
    | stk => rw [z] at p; exact p.elim
/-- THE RULE for a def: where its body has the reading b under R', its promise holds one level higher, of the run R1 -/
theorem fn_ok {P : Program} {w : World} {K : PySem.W.Frag} {mg : Str → Option Value} {base : Heap} {g : Glob} {x qual : Str} {st : Stmt} {f : Addr} {fd : FuncData} {N ps : List Str} {k : Nat} {R1 : FR} {i : Nat} {b : S} (F : Fun K x qual st f fd) (Sc : FnScope N ps (defScope st))
    (hR : ∀ ws h, R1 i ws h = runBody ps.length N.length b ws h)
    (hb : ∀ (cdv : Value) (A : Around) (outer : List PySem.Env) (s : Shared) (H : Hp) (E : XK), Room k (A.deeper (PyProof.Rows.envOfC qual (defScope st) s.heap.objs.size f cdv)) → A.guards = some [] →
      PSs (cxOf (L2.CX P w) P w K mg base N qual (defScope st) f cdv A outer s H E) (defBody st) (tS g (fun c d _ H' => E c d H') b)) :
    FnG P w K mg base (L2.CX P w) (k + 1) f fd ps (spF g ps.length R1 i) := by
  obtain ⟨oc, od, kV, doc, pm, an, cdv, ct, osl, rfl, lk, hcd⟩ := F.ex
  exact fn_ofG lk hcd Sc (fun vs H Q E h => h.1) fun A outer s H vs Q E hr hgd h => ⟨_, hb cdv A outer s H E hr hgd, body_ok hR h⟩
end CH

set_option Elab.async false
set_option linter.all false
set_option maxRecDepth 100000
namespace CH
open PySem L2

/-! ### operations by data -/
def rV (f : PyData → PyData → Option PyData) : R2 := fun x y H Q => ∃ F d e z, Le F H ∧ Vw F H x d ∧ Vw F H y e ∧ f d e = some z ∧ ∀ v H' F', Gr F H F' H' → DR F' v z → Q v H'
def rL (f : List PyData → Option PyData) : List V → Hp → VK → Prop := fun xs H Q => ∃ F ds z, Le F H ∧ VwL F H xs ds ∧ f ds = some z ∧ ∀ v H' F', Gr F H F' H' → DR F' v z → Q v H'
theorem OpD.of {X : Cx} {o : Value → Value → Sem Value} {f : PyData → PyData → Option PyData} (h : OpR X o (rV f)) : OpD X o f :=
  ⟨_, h, fun F H x y dx dy z Q le vx vy e q => ⟨F, dx, dy, z, le, vx, vy, e, q⟩⟩
theorem CaD.of {X : Cx} {o : Value} {f : List PyData → Option PyData} (h : CallR X o (rL f)) : CaD X o f :=
  ⟨_, h, fun F H xs ds z Q le vx e q => ⟨F, ds, z, le, vx, e, q⟩⟩
theorem IxD.of {X : Cx} {f : PyData → PyData → Option PyData} (h : IxR X (rV f)) : IxD X f :=
  ⟨_, h, fun F H x y dx dy z Q le vx vy e q => ⟨F, dx, dy, z, le, vx, vy, e, q⟩⟩
theorem DR.sc {F : Hp} {v : V} {z : PyData} (h : ∀ F : Hp, DR F v z) : DR F v z := h F
/-- the value is what it was -/
theorem q_sc {F H : Hp} {v : V} {z : PyData} {Q : VK} (le : Le F H) (q : ∀ v H' F', Gr F H F' H' → DR F' v z → Q v H') (h : DR F v z) : Q v H := q v H F (Gr.refl le) h
theorem q_new {F H : Hp} {p : Addr} {o : HO} {z : PyData} {Q : VK} (le : Le F H) (q : ∀ v H' F', Gr F H F' H' → DR F' v z → Q v H') (hp : H p = none) (h : ∀ F', F' p = some o → Le F F' → DR F' (.ref p) z) : Q (.ref p) (upd H p o) :=
  q _ _ _ (Gr.new le hp) (h _ upd_same (Gr.new (o := o) le hp).f)
/-! ### the data of a value, read off the heap -/
section
variable {X : Cx} {pins : List (Addr × Obj)} {σ : L2.St} {F H : Hp} {s : Shared}
theorem keyD_reads {h : Heap} {k : Key} {u : Value} (r : keyIs k u = true) : ∃ as, Reads h u (keyD k) as := by
  cases k with
  | inl i =>
    obtain ⟨t, rfl⟩ := Value.isInt_shape (k := i) (v := u) r
    exact ⟨_, Reads.int i t⟩
  | inr z =>
    obtain ⟨t, rfl⟩ := Value.isStrOf_shape (x := z) (v := u) r
    exact ⟨_, Reads.str z t⟩
end
/-! ### numbers -/
def pAdd : PyData → PyData → Option PyData
  | .int i, .int j => some (.int (i + j))
  | .str s, .str t => if s.length + t.length ≤ 16777216 then some (.str (s ++ t)) else none
  | .list xs, .list ys => if xs.length + ys.length ≤ 16777216 then some (.list (xs ++ ys)) else none
  | .tuple xs, .tuple ys => if xs.length + ys.length ≤ 16777216 then some (.tuple (xs ++ ys)) else none
  | _, _ => none
def pSub : PyData → PyData → Option PyData
  | .int i, .int j => some (.int (i - j))
  | _, _ => none
def small64 (i : Int) : Bool := decide (-(2 ^ 64) < i) && decide (i < 2 ^ 64)
def pMul : PyData → PyData → Option PyData
  | .int i, .int j => if small64 i || small64 j then some (.int (i * j)) else none
  | .list xs, .int k => if 0 ≤ k ∧ k ≤ 1000 ∧ xs.length ≤ 1000 then some (.list (List.replicate k.toNat xs).flatten) else none
  | _, _ => none
def pFdiv : PyData → PyData → Option PyData
  | .int i, .int j => if 0 < j ∧ j < 1073741824 then some (.int (i / j)) else none
  | _, _ => none
def pMod : PyData → PyData → Option PyData
  | .int i, .int j => if 0 < j then some (.int (i % j)) else none
  | _, _ => none
def pPow : PyData → PyData → Option PyData
  | .int i, .int j => if 0 ≤ j ∧ (Builtin.Int.intBits i : Int) * j ≤ 100000 then some (.int (i ^ j.toNat)) else none
  | _, _ => none
section
variable {X : Cx}
theorem od_add : OpD X (binaryOp .Add) pAdd := .of <| by
  intro pins s σ H x y v u Q I rx ry ⟨F, d, e, z, le, vx, vy, hf, q⟩
  cases vx with
  | int i =>
    cases vy with
    | int j =>
      cases hf
      exact op_add pins s σ H _ _ v u Q I rx ry ⟨i, j, rfl, rfl, q_sc le q (.int _)⟩
    | _ => cases hf
  | str a =>
    cases vy with
    | str b =>
      have hf : (if a.length + b.length ≤ 16777216 then some (PyData.str (a ++ b)) else none) = some z := hf
      split at hf
      · rename_i hl
        cases hf
        exact op_add_str pins s σ H _ _ v u Q I rx ry ⟨a, b, rfl, rfl, line_of hl, q_sc le q (.str _)⟩
      · cases hf
    | _ => cases hf
  | lst e1 r1 =>
    cases vy with
    | lst e2 r2 =>
      rename_i xs _ _ ys
      have hf : (if xs.length + ys.length ≤ 16777216 then some (PyData.list (xs ++ ys)) else none) = some z := hf
      split at hf
      · rename_i hl
        cases hf
        exact op_cat pins s σ H _ _ v u Q I rx ry ⟨_, _, _, _, rfl, rfl, e1, e2, line_of (by rw [r1.length, r2.length]; exact hl), fun p hp => q_new le q hp fun F' ep f => .lst ep ((r1.append r2).mono f)⟩
      · cases hf
    | _ => cases hf
  | tup e1 e1' r1 =>
    cases vy with
    | tup e2 e2' r2 =>
      rename_i xs _ _ ys
      have hf : (if xs.length + ys.length ≤ 16777216 then some (PyData.tuple (xs ++ ys)) else none) = some z := hf
      split at hf
      · rename_i hl
        cases hf
        refine op_catA pins s σ H _ _ v u Q I rx ry ⟨_, _, _, _, rfl, rfl, SqT.of e1', SqT.of e2', line_of (by rw [r1.length, r2.length]; exact hl), fun hx => ?_, fun hx hy => ?_, fun hx hy p hp => q_new le q hp fun F' ep f => .tup ep ((r1.append r2).mono f)⟩
        · subst hx
          cases r1
          exact q_sc le q (.tup e2 r2)
        · subst hy
          cases r2
          exact q_sc le q (by rw [List.append_nil]; exact .tup e1 r1)
      · cases hf
    | _ => cases hf
  | _ => cases hf
theorem od_sub : OpD X (binaryOp .Sub) pSub := .of <| by
  intro pins s σ H x y v u Q I rx ry ⟨F, d, e, z, le, vx, vy, hf, q⟩
  cases vx with
  | int i =>
    cases vy with
    | int j =>
      cases hf
      exact op_sub pins s σ H _ _ v u Q I rx ry ⟨i, j, rfl, rfl, q_sc le q (.int _)⟩
    | _ => cases hf
  | _ => cases hf
theorem small64_ok {i : Int} (h : small64 i = true) : -(2 ^ 64) < i ∧ i < 2 ^ 64 := by
  simp only [small64, Bool.and_eq_true, decide_eq_true_eq] at h
  exact h
theorem od_mul : OpD X (binaryOp .Mult) pMul := .of <| by
  intro pins s σ H x y v u Q I rx ry ⟨F, d, e, z, le, vx, vy, hf, q⟩
  cases vx with
  | int i =>
    cases vy with
    | int j =>
      have hf : (if small64 i || small64 j then some (PyData.int (i * j)) else none) = some z := hf
      split at hf
      · rename_i h
        cases hf
        rw [Bool.or_eq_true] at h
        exact op_mul pins s σ H _ _ v u Q I rx ry ⟨i, j, rfl, rfl, h.imp small64_ok small64_ok, q_sc le q (.int _)⟩
      · cases hf
    | _ => cases hf
  | lst e1 r1 =>
    rename_i xs
    cases vy with
    | int k =>
      have hf : (if 0 ≤ k ∧ k ≤ 1000 ∧ xs.length ≤ 1000 then some (PyData.list (List.replicate k.toNat xs).flatten) else none) = some z := hf
      split at hf
      · rename_i h
        cases hf
        have hrep : ∀ n : Nat, ∀ {vs : List V} {ds : List PyData}, DRL F vs ds → DRL F (List.replicate n vs).flatten (List.replicate n ds).flatten := by
          intro n vs ds r
          induction n with
          | zero => exact .nil
          | succ n ih =>
            rw [List.replicate_succ, List.replicate_succ, List.flatten_cons, List.flatten_cons]
            exact r.append ih
        refine op_rep pins s σ H _ _ v u Q I rx ry ⟨_, k, _, rfl, rfl, e1, by omega, by omega, ?_, fun p hp => q_new le q hp fun F' ep f => .lst ep ((hrep _ r1).mono f)⟩
        rw [r1.length]
        refine line_of (Nat.le_trans (Nat.mul_le_mul h.2.2 (show k.toNat ≤ 1000 by omega)) (by decide))
      · cases hf
    | _ => cases hf
  | _ => cases hf
theorem od_fdiv : OpD X (binaryOp .FloorDiv) pFdiv := .of <| by
  intro pins s σ H x y v u Q I rx ry ⟨F, d, e, z, le, vx, vy, hf, q⟩
  cases vx with
  | int i =>
    cases vy with
    | int j =>
      have hf : (if 0 < j ∧ j < 1073741824 then some (PyData.int (i / j)) else none) = some z := hf
      split at hf
      · rename_i h
        cases hf
        exact op_fdiv pins s σ H _ _ v u Q I rx ry ⟨i, j, rfl, rfl, h, q_sc le q (.int _)⟩
      · cases hf
    | _ => cases hf
  | _ => cases hf
theorem od_mod : OpD X (binaryOp .Mod) pMod := .of <| by
  intro pins s σ H x y v u Q I rx ry ⟨F, d, e, z, le, vx, vy, hf, q⟩
  cases vx with
  | int i =>
    cases vy with
    | int j =>
      have hf : (if 0 < j then some (PyData.int (i % j)) else none) = some z := hf
      split at hf
      · rename_i h
        cases hf
        exact op_mod pins s σ H _ _ v u Q I rx ry ⟨i, j, rfl, rfl, h, q_sc le q (.int _)⟩
      · cases hf
    | _ => cases hf
  | _ => cases hf
theorem od_pow : OpD X (binaryOp .Pow) pPow := .of <| by
  intro pins s σ H x y v u Q I rx ry ⟨F, d, e, z, le, vx, vy, hf, q⟩
  cases vx with
  | int i =>
    cases vy with
    | int j =>
      have hf : (if 0 ≤ j ∧ (Builtin.Int.intBits i : Int) * j ≤ 100000 then some (PyData.int (i ^ j.toNat)) else none) = some z := hf
      split at hf
      · rename_i h
        cases hf
        obtain ⟨t, rfl⟩ := rx
        obtain ⟨t', rfl⟩ := ry
        exact PyProof.Rows.pow_int h.1 (by have := h.2; omega) ⟨.int _, H, I.tok _, ⟨_, rfl⟩, q_sc le q (.int _)⟩
      · cases hf
    | _ => cases hf
  | _ => cases hf
end
/-! ### comparisons -/
def strLt (s t : Str) : Bool := decide (s.cps.toList < t.cps.toList)
def pLt : PyData → PyData → Option PyData
  | .int i, .int j => some (.bool (decide (i < j)))
  | .str s, .str t => some (.bool (strLt s t))
  | _, _ => none
def pLe : PyData → PyData → Option PyData
  | .int i, .int j => some (.bool (decide (i ≤ j)))
  | .str s, .str t => some (.bool (!strLt t s))
  | _, _ => none
def pGt : PyData → PyData → Option PyData
  | .int i, .int j => some (.bool (decide (j < i)))
  | .str s, .str t => some (.bool (strLt t s))
  | _, _ => none
def pGe : PyData → PyData → Option PyData
  | .int i, .int j => some (.bool (decide (j ≤ i)))
  | .str s, .str t => some (.bool (!strLt s t))
  | _, _ => none
section
variable {X : Cx}
theorem od_lt : OpD X (compareOp .Lt) pLt := .of <| by
  intro pins s σ H x y v u Q I rx ry ⟨F, d, e, z, le, vx, vy, hf, q⟩
  cases vx with
  | int i =>
    cases vy with
    | int j => cases hf; exact op_lt pins s σ H _ _ v u Q I rx ry ⟨i, j, rfl, rfl, q_sc le q (.bl _)⟩
    | _ => cases hf
  | str a =>
    cases vy with
    | str b => cases hf; exact op_lt_str pins s σ H _ _ v u Q I rx ry ⟨a, b, rfl, rfl, q_sc le q (.bl _)⟩
    | _ => cases hf
  | _ => cases hf
theorem od_le : OpD X (compareOp .LtE) pLe := .of <| by
  intro pins s σ H x y v u Q I rx ry ⟨F, d, e, z, le, vx, vy, hf, q⟩
  cases vx with
  | int i =>
    cases vy with
    | int j => cases hf; exact op_le pins s σ H _ _ v u Q I rx ry ⟨i, j, rfl, rfl, q_sc le q (.bl _)⟩
    | _ => cases hf
  | str a =>
    cases vy with
    | str b => cases hf; exact op_le_str pins s σ H _ _ v u Q I rx ry ⟨a, b, rfl, rfl, q_sc le q (.bl _)⟩
    | _ => cases hf
  | _ => cases hf
theorem od_gt : OpD X (compareOp .Gt) pGt := .of <| by
  intro pins s σ H x y v u Q I rx ry ⟨F, d, e, z, le, vx, vy, hf, q⟩
  cases vx with
  | int i =>
    cases vy with
    | int j => cases hf; exact op_gt pins s σ H _ _ v u Q I rx ry ⟨i, j, rfl, rfl, q_sc le q (.bl _)⟩
    | _ => cases hf
  | str a =>
    cases vy with
    | str b => cases hf; exact op_gt_str pins s σ H _ _ v u Q I rx ry ⟨a, b, rfl, rfl, q_sc le q (.bl _)⟩
    | _ => cases hf
  | _ => cases hf
theorem od_ge : OpD X (compareOp .GtE) pGe := .of <| by
  intro pins s σ H x y v u Q I rx ry ⟨F, d, e, z, le, vx, vy, hf, q⟩
  cases vx with
  | int i =>
    cases vy with
    | int j => cases hf; exact op_ge pins s σ H _ _ v u Q I rx ry ⟨i, j, rfl, rfl, q_sc le q (.bl _)⟩
    | _ => cases hf
  | str a =>
    cases vy with
    | str b => cases hf; exact op_ge_str pins s σ H _ _ v u Q I rx ry ⟨a, b, rfl, rfl, q_sc le q (.bl _)⟩
    | _ => cases hf
  | _ => cases hf
end
/-! ### == of data without dicts -/
mutual
theorem dp_of {K : PySem.W.Frag} {F H : Hp} (le : Le F H) : ∀ {d : PyData} {v : V}, d.canLay0 = true → DR F v d → Dp K H v d
  | _, _, _, .non => .non
  | _, _, _, .bl b => .bl b
  | _, _, _, .int i => .int i
  | _, _, _, .str s => .str s
  | _, _, h, .lst e r => .lst (SqL.of (le _ _ e)) (dps_of le h r)
  | _, _, h, .tup e r => .tup (SqT.of (le _ _ e)) (dps_of le h r)
  | _, _, h, .dK _ _ => by cases h
  | _, _, h, .dT _ _ => by cases h
theorem dps_of {K : PySem.W.Frag} {F H : Hp} (le : Le F H) : ∀ {d : List PyData} {v : List V}, PyData.canLayAll0 d = true → DRL F v d → DpAll K H v d
  | _, _, _, .nil => .nil
  | _, _, h, .cons a r => by
    unfold PyData.canLayAll0 at h
    rw [Bool.and_eq_true] at h
    exact .cons (dp_of le h.1 a) (dps_of le h.2 r)
end
theorem dp_vw {K : PySem.W.Frag} {F H : Hp} (le : Le F H) {d : PyData} {v : V} (h : d.canLay0 = true) (r : Vw F H v d) : Dp K H v d := by
  cases r with
  | non => exact .non
  | bl b => exact .bl b
  | int i => exact .int i
  | str s => exact .str s
  | lst e r => exact .lst (SqL.of e) (dps_of le h r)
  | tup e e' r => exact .tup (SqT.of e') (dps_of le h r)
  | dK _ _ => cases h
  | dT _ _ => cases h
def pEq (d e : PyData) : Option PyData := if SeqAt.shaped d && SeqAt.shaped e then some (.bool (PyData.eqv d e)) else none
def pNe (d e : PyData) : Option PyData := if SeqAt.shaped d && SeqAt.shaped e then some (.bool (!PyData.eqv d e)) else none
section
variable {X : Cx}
theorem od_eq (hu : X.A.units + 64 < cLine) : OpD X (compareOp .Eq) pEq := .of <| by
  intro pins s σ H x y v u Q I rx ry ⟨F, d, e, z, le, vx, vy, hf, q⟩
  unfold pEq at hf
  split at hf
  · rename_i h
    rw [Bool.and_eq_true] at h
    cases hf
    exact op_eqD hu pins s σ H _ _ v u Q I rx ry ⟨d, e, dp_vw le (SeqAt.canLay_of_shaped h.1) vx, dp_vw le (SeqAt.canLay_of_shaped h.2) vy, h.1, h.2, q_sc le q (.bl _)⟩
  · cases hf
theorem od_ne (hu : X.A.units + 64 < cLine) : OpD X (compareOp .NotEq) pNe := .of <| by
  intro pins s σ H x y v u Q I rx ry ⟨F, d, e, z, le, vx, vy, hf, q⟩
  unfold pNe at hf
  split at hf
  · rename_i h
    rw [Bool.and_eq_true] at h
    cases hf
    exact op_neD hu pins s σ H _ _ v u Q I rx ry ⟨d, e, dp_vw le (SeqAt.canLay_of_shaped h.1) vx, dp_vw le (SeqAt.canLay_of_shaped h.2) vy, h.1, h.2, q_sc le q (.bl _)⟩
  · cases hf
end
/-! ### is None -/
def isNon : W → Bool
  | .d .none => true
  | _ => false
def sIsN (a : E) : E := fun env h => (a env h).bind fun w h1 => .ok (.d (.bool (isNon w))) h1
def sNotN (a : E) : E := fun env h => (a env h).bind fun w h1 => .ok (.d (.bool (!isNon w))) h1
theorem isNon_ok {g : Glob} {F : Hp} {ρ : Nat → Option Addr} {v : V} {w : W} (r : WR g F ρ v w) : decide (v = .non) = isNon w := by
  cases w with
  | d x =>
    cases r with
    | non => rfl
    | _ => rfl
  | ref n =>
    obtain ⟨a, _, rfl⟩ := r
    rfl
  | exc c p =>
    obtain ⟨a, d, pv, rfl, _⟩ := r
    rfl
  | scr ns =>
    obtain ⟨a, rfl, _⟩ := r
    rfl
  | fn i =>
    have e : v = .ref (g.fad i) := r
    subst e
    rfl
section
variable {X : Cx} {g : Glob} {Wx : WX} {pos pos' : Pos} {a : Expr} {sa : E} {j : Nat}
theorem de_isN (ha : PE X a (tD g Wx sa)) : PE X (.Compare a [.Is] [.Constant .none j pos'] pos) (tD g Wx (sIsN sa)) := by
  refine pe_mono (pe_cmp (pc_isN ha)) fun σ H Q h => ?_
  refine (tG.of (rel2 := WR g) (a := sa) h (fun _ _ => rfl)).mono ?_
  rintro x H1 ⟨F, ρ, env, h1, w, er, rl, r, p⟩
  rw [isNon_ok r]
  exact p _ H1 F ρ Ext.refl (.bl _) rl
theorem de_notN (ha : PE X a (tD g Wx sa)) : PE X (.Compare a [.IsNot] [.Constant .none j pos'] pos) (tD g Wx (sNotN sa)) := by
  refine pe_mono (pe_cmp (pc_notN ha)) fun σ H Q h => ?_
  refine (tG.of (rel2 := WR g) (a := sa) h (fun _ _ => rfl)).mono ?_
  rintro x H1 ⟨F, ρ, env, h1, w, er, rl, r, p⟩
  rw [isNon_ok r]
  exact p _ H1 F ρ Ext.refl (.bl _) rl
theorem dt_isN (ha : PE X a (tD g Wx sa)) : PT X (.Compare a [.Is] [.Constant .none j pos'] pos) (tDT g Wx (sBoo (sIsN sa))) := by
  refine pt_mono (pt_cmp (pc_isN ha)) fun σ H Q h => ?_
  have h' := tboo_ok h
  refine (tG.of (rel2 := WR g) (a := sa) h' (fun _ _ => rfl)).mono ?_
  rintro x H1 ⟨F, ρ, env, h1, w, er, rl, r, p⟩
  rw [isNon_ok r]
  exact p _ H1 F ρ Ext.refl (.bl _) rl
theorem dt_notN (ha : PE X a (tD g Wx sa)) : PT X (.Compare a [.IsNot] [.Constant .none j pos'] pos) (tDT g Wx (sBoo (sNotN sa))) := by
  refine pt_mono (pt_cmp (pc_notN ha)) fun σ H Q h => ?_
  have h' := tboo_ok h
  refine (tG.of (rel2 := WR g) (a := sa) h' (fun _ _ => rfl)).mono ?_
  rintro x H1 ⟨F, ρ, env, h1, w, er, rl, r, p⟩
  rw [isNon_ok r]
  exact p _ H1 F ρ Ext.refl (.bl _) rl
end
end CH

set_option Elab.async false
set_option linter.all false
set_option maxRecDepth 100000
namespace CH
open PySem L2

/-! ### dicts by data -/
def flatKey : PyData → Option Key
  | .int i => some (.inl i)
  | .str s => some (.inr s)
  | _ => none
def flatKeys : List PyData → Option (List Key)
  | [] => some []
  | d :: ds => match flatKey d, flatKeys ds with
    | some k, some ks => some (k :: ks)
    | _, _ => none
theorem flatKey_eq : ∀ {d : PyData} {k : Key}, flatKey d = some k → d = keyD k
  | .int _, _, h => by cases h; rfl
  | .str _, _, h => by cases h; rfl
  | .none, _, h => by cases h
  | .bool _, _, h => by cases h
  | .list _, _, h => by cases h
  | .tuple _, _, h => by cases h
  | .dict _, _, h => by cases h
theorem flatKeys_eq : ∀ {ds : List PyData} {ks : List Key}, flatKeys ds = some ks → ds = ks.map keyD
  | [], ks, h => by cases h; rfl
  | d :: ds, ks, h => by
    unfold flatKeys at h
    cases e1 : flatKey d with
    | none => rw [e1] at h; cases h
    | some k =>
      cases e2 : flatKeys ds with
      | none => rw [e1, e2] at h; cases h
      | some ks2 =>
        rw [e1, e2] at h
        cases h
        rw [flatKey_eq e1, flatKeys_eq e2]
        rfl
/-- a key: an int, a text, or a tuple of such -/
def keyOf : PyData → Option (Key ⊕ List Key)
  | .tuple ds => match flatKeys ds with
    | some ks => some (.inr ks)
    | none => none
  | d => match flatKey d with
    | some k => some (.inl k)
    | none => none
theorem keyOf_eq {d : PyData} {k : Key ⊕ List Key} (h : keyOf d = some k) : (∃ j, k = .inl j ∧ d = keyD j) ∨ ∃ js, k = .inr js ∧ d = .tuple (js.map keyD) := by
  cases d with
  | tuple ds =>
    have h : (match flatKeys ds with | some ks => some (Sum.inr ks) | none => none) = some k := h
    cases e : flatKeys ds with
    | none => rw [e] at h; cases h
    | some ks =>
      rw [e] at h
      cases h
      exact .inr ⟨ks, rfl, by rw [flatKeys_eq e]⟩
  | int i => cases h; exact .inl ⟨_, rfl, rfl⟩
  | str s => cases h; exact .inl ⟨_, rfl, rfl⟩
  | none => cases h
  | bool b => cases h
  | list l => cases h
  | dict l => cases h
def isTupD : PyData → Bool
  | .tuple _ => true
  | _ => false
/-- the dict's keys are of the key's kind -/
def kindOk (ps : List (PyData × PyData)) (k : PyData) : Bool := match ps with
  | [] => true
  | p :: _ => isTupD p.1 == isTupD k
def dlook (ps : List (PyData × PyData)) (k : PyData) : Option PyData := (ps.find? fun p => beqD p.1 k).map (·.2)
/-- what the dict holds: none where it can't be asked so -/
def dget (ps : List (PyData × PyData)) (k : PyData) : Option (Option PyData) := if (keyOf k).isSome && kindOk ps k then some (dlook ps k) else none
def dput (ps : List (PyData × PyData)) (k v : PyData) : List (PyData × PyData) := if (ps.any fun p => beqD p.1 k) = true then ps.map fun p => if beqD p.1 k then (p.1, v) else p else ps ++ [(k, v)]
theorem keyD_inj {a b : Key} (h : keyD a = keyD b) : a = b := by
  cases a <;> cases b <;> simp_all [keyD]
theorem beqD_key (a b : Key) : beqD (keyD a) (keyD b) = decide (a = b) := by
  by_cases h : a = b
  · subst h
    rw [beqD_refl, decide_eq_true rfl]
  · rw [decide_eq_false h]
    cases q : beqD (keyD a) (keyD b) with
    | false => rfl
    | true => exact absurd (keyD_inj (beqD_eq _ _ q)) h
theorem map_keyD_inj : ∀ {a b : List Key}, a.map keyD = b.map keyD → a = b
  | [], [], _ => rfl
  | x :: a, y :: b, h => by
    simp only [List.map_cons, List.cons.injEq] at h
    rw [keyD_inj h.1, map_keyD_inj h.2]
  | [], _ :: _, h => by cases h
  | _ :: _, [], h => by cases h
theorem beqD_keyT (a b : List Key) : beqD (.tuple (a.map keyD)) (.tuple (b.map keyD)) = decide (a = b) := by
  by_cases h : a = b
  · subst h
    rw [beqD_refl, decide_eq_true rfl]
  · rw [decide_eq_false h]
    cases q : beqD (.tuple (a.map keyD)) (.tuple (b.map keyD)) with
    | false => rfl
    | true =>
      have z := beqD_eq _ _ q
      injection z with z
      exact absurd (map_keyD_inj z) h
theorem look_K {F : Hp} (k : Key) : ∀ {kvs : List (Key × V)} {ps : List (PyData × PyData)}, DRK F kvs ps → (valV kvs k = none ∧ dlook ps (keyD k) = none) ∨ ∃ v d, valV kvs k = some v ∧ dlook ps (keyD k) = some d ∧ DR F v d
  | _, _, .nil => .inl ⟨rfl, rfl⟩
  | _, _, .cons (k := j) (v := v) (d := d) (r := r) (ps := ps) a t => by
    by_cases e : j = k
    · subst e
      exact .inr ⟨v, d, valV_pos rfl, by simp [dlook, List.find?_cons, beqD_key], a⟩
    · rw [valV_neg (p := (j, v)) e]
      have e2 : dlook ((keyD j, d) :: ps) (keyD k) = dlook ps (keyD k) := by simp [dlook, List.find?_cons, beqD_key, e]
      rw [e2]
      exact look_K k t
theorem look_T {F : Hp} (k : List Key) : ∀ {kvs : List (List Key × V)} {ps : List (PyData × PyData)}, DRT F kvs ps → (valV kvs k = none ∧ dlook ps (.tuple (k.map keyD)) = none) ∨ ∃ v d, valV kvs k = some v ∧ dlook ps (.tuple (k.map keyD)) = some d ∧ DR F v d
  | _, _, .nil => .inl ⟨rfl, rfl⟩
  | _, _, .cons (k := j) (v := v) (d := d) (r := r) (ps := ps) a t => by
    by_cases e : j = k
    · subst e
      exact .inr ⟨v, d, valV_pos rfl, by simp [dlook, List.find?_cons, beqD_keyT], a⟩
    · rw [valV_neg (p := (j, v)) e]
      have e2 : dlook ((.tuple (j.map keyD), d) :: ps) (.tuple (k.map keyD)) = dlook ps (.tuple (k.map keyD)) := by simp [dlook, List.find?_cons, beqD_keyT, e]
      rw [e2]
      exact look_T k t
theorem any_K {F : Hp} (k : Key) : ∀ {kvs : List (Key × V)} {ps : List (PyData × PyData)}, DRK F kvs ps → (kvs.any fun kv => decide (kv.1 = k)) = ps.any fun p => beqD p.1 (keyD k)
  | _, _, .nil => rfl
  | _, _, .cons a t => by
    rw [List.any_cons, List.any_cons, any_K k t, beqD_key]
theorem any_T {F : Hp} (k : List Key) : ∀ {kvs : List (List Key × V)} {ps : List (PyData × PyData)}, DRT F kvs ps → (kvs.any fun kv => decide (kv.1 = k)) = ps.any fun p => beqD p.1 (.tuple (k.map keyD))
  | _, _, .nil => rfl
  | _, _, .cons a t => by
    rw [List.any_cons, List.any_cons, any_T k t, beqD_keyT]
theorem put_K {F : Hp} (k : Key) {v : V} {d : PyData} (hv : DR F v d) {kvs : List (Key × V)} {ps : List (PyData × PyData)} (r : DRK F kvs ps) : DRK F (putK kvs k v) (dput ps (keyD k) d) := by
  unfold putK dput
  rw [any_K k r]
  split
  · have gen : ∀ {kvs : List (Key × V)} {ps : List (PyData × PyData)}, DRK F kvs ps → DRK F (kvs.map fun kv => if kv.1 = k then (kv.1, v) else kv) (ps.map fun p => if beqD p.1 (keyD k) then (p.1, d) else p) := by
      intro kvs ps r
      induction kvs generalizing ps with
      | nil => cases r; exact .nil
      | cons x xs ih =>
        cases r with
        | cons a t =>
          rename_i j w d' ps'
          rw [List.map_cons, List.map_cons]
          dsimp only
          rw [beqD_key]
          by_cases e : j = k
          · rw [if_pos e, decide_eq_true e, if_pos rfl]
            exact .cons hv (ih t)
          · rw [if_neg e, decide_eq_false e, if_neg Bool.false_ne_true]
            exact .cons a (ih t)
    exact gen r
  · have gen : ∀ {kvs : List (Key × V)} {ps : List (PyData × PyData)}, DRK F kvs ps → DRK F (kvs ++ [(k, v)]) (ps ++ [(keyD k, d)]) := by
      intro kvs ps r
      induction kvs generalizing ps with
      | nil => cases r; exact .cons hv .nil
      | cons x xs ih =>
        cases r with
        | cons a t => exact .cons a (ih t)
    exact gen r
theorem put_T {F : Hp} (k : List Key) {v : V} {d : PyData} (hv : DR F v d) {kvs : List (List Key × V)} {ps : List (PyData × PyData)} (r : DRT F kvs ps) : DRT F (putK kvs k v) (dput ps (.tuple (k.map keyD)) d) := by
  unfold putK dput
  rw [any_T k r]
  split
  · have gen : ∀ {kvs : List (List Key × V)} {ps : List (PyData × PyData)}, DRT F kvs ps → DRT F (kvs.map fun kv => if kv.1 = k then (kv.1, v) else kv) (ps.map fun p => if beqD p.1 (.tuple (k.map keyD)) then (p.1, d) else p) := by
      intro kvs ps r
      induction kvs generalizing ps with
      | nil => cases r; exact .nil
      | cons x xs ih =>
        cases r with
        | cons a t =>
          rename_i j w d' ps'
          rw [List.map_cons, List.map_cons]
          dsimp only
          rw [beqD_keyT]
          by_cases e : j = k
          · rw [if_pos e, decide_eq_true e, if_pos rfl]
            exact .cons hv (ih t)
          · rw [if_neg e, decide_eq_false e, if_neg Bool.false_ne_true]
            exact .cons a (ih t)
    exact gen r
  · have gen : ∀ {kvs : List (List Key × V)} {ps : List (PyData × PyData)}, DRT F kvs ps → DRT F (kvs ++ [(k, v)]) (ps ++ [(.tuple (k.map keyD), d)]) := by
      intro kvs ps r
      induction kvs generalizing ps with
      | nil => cases r; exact .cons hv .nil
      | cons x xs ih =>
        cases r with
        | cons a t => exact .cons a (ih t)
    exact gen r
/-- the dict at a asked at y; an empty dict is asked at any key -/
def DGet2 (H : Hp) (a : Addr) (y : V) (o : Option V) : Prop := DGet H a y o ∨ (o = none ∧ ((Rd H a (.dK []) ∧ ∃ (b : Addr) (k : List Key), y = .ref b ∧ H b = some (.tup (k.map kV))) ∨ (Rd H a (.dT []) ∧ ∃ k : Key, y = kV k)))
theorem drl_flat {F : Hp} : ∀ {vs : List V} {ks : List Key}, DRL F vs (ks.map keyD) → vs = ks.map kV
  | [], [], _ => rfl
  | v :: vs, k :: ks, r => by
    cases r with
    | cons a t =>
      have e : v = kV k := by
        cases k with
        | inl i => cases a; rfl
        | inr s => cases a; rfl
      rw [e, drl_flat t]
      rfl
  | [], _ :: _, r => by cases r
  | _ :: _, [], r => by cases r
theorem vw_flat {F H : Hp} {v : V} {k : Key} (r : Vw F H v (keyD k)) : v = kV k := by
  cases k with
  | inl i => cases r; rfl
  | inr s => cases r; rfl
theorem vw_tup {F H : Hp} {v : V} {k : List Key} (r : Vw F H v (.tuple (k.map keyD))) : ∃ b, v = .ref b ∧ H b = some (.tup (k.map kV)) := by
  cases r with
  | tup e e' q =>
    rw [drl_flat q] at e'
    exact ⟨_, rfl, e'⟩
theorem kind_K {F : Hp} {kvs : List (Key × V)} {ps : List (PyData × PyData)} (r : DRK F kvs ps) {js : List Key} (h : kindOk ps (.tuple (js.map keyD)) = true) : kvs = [] ∧ ps = [] := by
  cases r with
  | nil => exact ⟨rfl, rfl⟩
  | cons a t =>
    rename_i k v d r ps
    cases k <;> (simp [kindOk, isTupD, keyD] at h)
theorem kind_T {F : Hp} {kvs : List (List Key × V)} {ps : List (PyData × PyData)} (r : DRT F kvs ps) {j : Key} (h : kindOk ps (keyD j) = true) : kvs = [] ∧ ps = [] := by
  cases r with
  | nil => exact ⟨rfl, rfl⟩
  | cons a t =>
    cases j <;> (simp [kindOk, isTupD, keyD] at h)
/-- what is asked, by data -/
theorem dget_ok {F H : Hp} {x y : V} {ps : List (PyData × PyData)} {k : PyData} {o : Option PyData} (vx : Vw F H x (.dict ps)) (vy : Vw F H y k) (h : dget ps k = some o) :
    ∃ a, x = .ref a ∧ IsD H a ∧ ((o = none ∧ DGet2 H a y none) ∨ ∃ v d, o = some d ∧ DGet H a y (some v) ∧ DR F v d) := by
  unfold dget at h
  split at h
  · rename_i hc
    rw [Bool.and_eq_true] at hc
    cases h
    cases e : keyOf k with
    | none => rw [e] at hc; cases hc.1
    | some kk =>
      cases vx with
      | dK rd r =>
        refine ⟨_, rfl, .inl ⟨_, rd⟩, ?_⟩
        rcases keyOf_eq e with ⟨j, _, rfl⟩ | ⟨js, _, rfl⟩
        · have ey := vw_flat vy
          subst ey
          rcases look_K j r with ⟨e1, e2⟩ | ⟨v, d, e1, e2, dr⟩
          · exact .inl ⟨e2, .inl (.inl ⟨_, j, rd, rfl, e1.symm⟩)⟩
          · exact .inr ⟨v, d, e2, .inl ⟨_, j, rd, rfl, e1.symm⟩, dr⟩
        · obtain ⟨rfl, rfl⟩ := kind_K r hc.2
          obtain ⟨b, rfl, hb⟩ := vw_tup vy
          exact .inl ⟨rfl, .inr ⟨rfl, .inl ⟨rd, b, js, rfl, hb⟩⟩⟩
      | dT rd r =>
        refine ⟨_, rfl, .inr ⟨_, rd⟩, ?_⟩
        rcases keyOf_eq e with ⟨j, _, rfl⟩ | ⟨js, _, rfl⟩
        · obtain ⟨rfl, rfl⟩ := kind_T r hc.2
          exact .inl ⟨rfl, .inr ⟨rfl, .inr ⟨rd, j, vw_flat vy⟩⟩⟩
        · obtain ⟨b, rfl, hb⟩ := vw_tup vy
          rcases look_T js r with ⟨e1, e2⟩ | ⟨v, d, e1, e2, dr⟩
          · exact .inl ⟨e2, .inl (.inr ⟨_, js, b, rd, rfl, hb, e1.symm⟩)⟩
          · exact .inr ⟨v, d, e2, .inr ⟨_, js, b, rd, rfl, hb, e1.symm⟩, dr⟩
  · cases h
section
variable {X : Cx} {pins : List (Addr × Obj)} {σ : L2.St} {H : Hp} {s : Shared} {a : Addr} {y v d : V} {u r : Value} {o : Option V} {A : Around} {E : Value → Shared → Prop}
theorem empty_KT {P : Program} {w : World} {h : Heap} {a : Addr} (dd : h.DictOf (mixKind P w) a ([] : List (Key × Value))) : h.DictOfH (tupleKind (mixKind P w)) a [] := by
  obtain ⟨ob, es, ep, h1, h2, h3, _, h4, _⟩ := dd
  refine ⟨ob, es, ep, h1, h2, h3, ?_, (fun x hx => absurd hx (by simp)), List.nodup_nil⟩
  cases q : es.toList with
  | nil => rfl
  | cons e r => rw [q] at h4; cases h4
theorem empty_TK {P : Program} {w : World} {h : Heap} {a : Addr} (dd : h.DictOfH (tupleKind (mixKind P w)) a []) : h.DictOf (mixKind P w) a ([] : List (Key × Value)) := by
  obtain ⟨ob, es, ep, h1, h2, h3, h4, _, _⟩ := dd
  have q : es.toList = [] := h4
  refine ⟨ob, es, ep, h1, h2, h3, fun e he => ?_, ?_, List.nodup_nil⟩
  · have z : e ∈ es.toList := by simpa using he
    rw [q] at z
    exact nomatch z
  · rw [q]
    exact .nil
theorem d_in2 {Q : Value → Shared → Prop} (hu : A.units + 1 < cLine) (I : Inv X pins σ H s) (g : DGet2 H a y o) (ry : RelV y u) (h : ∀ s', Inv X pins σ H s' → Q (.bool o.isSome) s') :
    wpAny (model X.prog X.w) A (compareOp .In u (.ref a)) Q E s := by
  rcases g with g | ⟨rfl, ⟨rd, b, k, ey, hb⟩ | ⟨rd, k, ey⟩⟩
  · exact d_in hu I g ry h
  · subst ey
    cases (show u = Value.ref b from ry)
    obtain ⟨z, hd, vs, rel, dd⟩ := dk_rd I.hok rd
    cases rel
    exact wpAny_in_heap (tupleKind_room_in1 hu) (key_of I.hok hb) hd (empty_KT dd) (h _ (I.tok _))
  · subst ey
    obtain ⟨z, hd, vs, rel, dd⟩ := dt_rd I.hok rd
    cases rel
    exact wpAny_in_of (kV_is ry) hd (empty_TK dd).mapOf (h _ (I.tok _))
theorem d_notIn2 {Q : Value → Shared → Prop} (hu : A.units + 1 < cLine) (I : Inv X pins σ H s) (g : DGet2 H a y o) (ry : RelV y u) (h : ∀ s', Inv X pins σ H s' → Q (.bool (!o.isSome)) s') :
    wpAny (model X.prog X.w) A (compareOp .NotIn u (.ref a)) Q E s := by
  rcases g with g | ⟨rfl, ⟨rd, b, k, ey, hb⟩ | ⟨rd, k, ey⟩⟩
  · exact d_notIn hu I g ry h
  · subst ey
    cases (show u = Value.ref b from ry)
    obtain ⟨z, hd, vs, rel, dd⟩ := dk_rd I.hok rd
    cases rel
    exact PyProof.Rows.wpAny_notIn_heap (tupleKind_room_in1 hu) (key_of I.hok hb) hd (empty_KT dd) (h _ (I.tok _))
  · subst ey
    obtain ⟨z, hd, vs, rel, dd⟩ := dt_rd I.hok rd
    cases rel
    exact wpAny_notIn_of (kV_is ry) hd (empty_TK dd).mapOf (h _ (I.tok _))
theorem d_get22 {Q : Value → Shared → Prop} (hu : A.units + 1 < cLine) (I : Inv X pins σ H s) (g : DGet2 H a y o) (ry : RelV y u) (rd' : RelV d r) (h : ∀ w' s', Inv X pins σ H s' → RelV (o.getD d) w' → Q w' s') :
    wpAny (model X.prog X.w) A (call (.builtin "dict.get") [.ref a, u, r]) Q E s := by
  rcases g with g | ⟨rfl, ⟨rd, b, k, ey, hb⟩ | ⟨rd, k, ey⟩⟩
  · exact d_get2 hu I g ry rd' h
  · subst ey
    cases (show u = Value.ref b from ry)
    obtain ⟨z, hd, vs, rel, dd⟩ := dk_rd I.hok rd
    cases rel
    exact call_meetsIn PySem.F.slot_dict_get dd.typeIs PySem.F.entry_dict_get (PySem.F.args_dict_get_3 _ _ _) (meetsH_dict_get_default (tupleKind (mixKind X.prog X.w)) a b hd r) ⟨tupleKind_room_in1 hu, k, [], key_of I.hok hb, empty_KT dd, h _ _ (I.tok _) rd'⟩
  · subst ey
    obtain ⟨z, hd, vs, rel, dd⟩ := dt_rd I.hok rd
    cases rel
    have dd' := empty_TK dd
    exact call_meetsIn PySem.F.slot_dict_get dd'.typeIs PySem.F.entry_dict_get (PySem.F.args_dict_get_3 _ _ _) (meets_dict_get_default (mixKind X.prog X.w) a (kV_is ry) hd r) ⟨_, dd'.mapOf, h _ _ (I.tok _) rd'⟩
/-- d[y] = v, also of a dict that is empty so far -/
def DPut2 (H : Hp) (a : Addr) (y v : V) (H' : Hp) : Prop :=
  DPut H a y v H' ∨ (∃ (b : Addr) (k : List Key), H a = some (.dK []) ∧ y = .ref b ∧ H b = some (.tup (k.map kV)) ∧ H' = upd H a (.dT [(k, v)])) ∨ ∃ k : Key, H a = some (.dT []) ∧ y = kV k ∧ H' = upd H a (.dK [(k, v)])
theorem Inv.relKT (I : Inv X pins σ H s) (e : H a = some (.dK [])) : Inv X pins σ (upd H a (.dT [])) s := by
  obtain ⟨z, hd, vs, rel, dd⟩ := dk_of I.hok e
  cases rel
  have dd' := dd
  obtain ⟨ob, es, ep, h1, h2, h3, _, h4, _⟩ := dd'
  have q : es.toList = [] := by
    cases q : es.toList with
    | nil => rfl
    | cons e r => rw [q] at h4; cases h4
  have := I.write (x := a) (e := a) (o := .dT []) (h' := s.heap) (t' := s.toks) (by rw [e]; trivial) (.inl rfl) (fun b u _ r => r) ⟨ob, h1⟩ ⟨Nat.zero_le _, hd, [], .nil, ob, es, ep, h1, h2, h3, q, List.nodup_nil⟩
  exact this
theorem Inv.relTK (I : Inv X pins σ H s) (e : H a = some (.dT [])) : Inv X pins σ (upd H a (.dK [])) s := by
  obtain ⟨z, hd, vs, rel, dd⟩ := dt_of I.hok e
  cases rel
  have dd' := dd
  obtain ⟨ob, es, ep, h1, _⟩ := dd'
  have := I.write (x := a) (e := a) (o := .dK []) (h' := s.heap) (t' := s.toks) (by rw [e]; trivial) (.inl rfl) (fun b u _ r => r) ⟨ob, h1⟩ ⟨Nat.zero_le _, hd, [], .nil, empty_TK dd⟩
  exact this
theorem d_setItem2 {H' : Hp} {Q : Unit → Shared → Prop} (hu : A.units + 1 < cLine) (I : Inv X pins σ H s) (g : DPut2 H a y v H') (ry : RelV y u) (rv : RelV v r) (h : ∀ s', Inv X pins σ H' s' → Q () s') :
    wpAny (model X.prog X.w) A (setItem (.ref a) u r) Q E s := by
  rcases g with g | ⟨b, k, e, ey, hb, eH⟩ | ⟨k, e, ey, eH⟩
  · exact d_setItem hu I g ry rv h
  · have hb' : (upd H a (.dT [])) b = some (.tup (k.map kV)) := by
      rw [upd_ne (ne_of hb e (by intro z; cases z))]
      exact hb
    refine d_setItem hu (Inv.relKT I e) (H' := H') ?_ ry rv h
    subst ey
    have := DPut.t (v := v) (H := upd H a (.dT [])) (a := a) (kvs := []) upd_same hb' (lt_line_of (by decide))
    rw [upd_upd] at this
    rw [eH]
    exact this
  · refine d_setItem hu (Inv.relTK I e) (H' := H') ?_ ry rv h
    subst ey
    have := DPut.k (v := v) (H := upd H a (.dK [])) (a := a) (kvs := []) (k := k) upd_same (lt_line_of (by decide))
    rw [upd_upd] at this
    rw [eH]
    exact this
end
end CH

set_option Elab.async false
set_option linter.all false
set_option maxRecDepth 100000
namespace CH
open PySem L2

/-! ### x in y, y[x] -/
def pIn : PyData → PyData → Option PyData
  | .str s, .str t => match s.cps.toList with
    | [c] => some (.bool (decide (c ∈ t.cps.toList)))
    | _ => none
  | x, .list ds => if SeqAt.shaped x && SeqAt.shaped (.list ds) then some (.bool (ds.any fun z => PyData.eqv z x)) else none
  | x, .tuple ds => if SeqAt.shaped x && SeqAt.shaped (.tuple ds) then some (.bool (ds.any fun z => PyData.eqv z x)) else none
  | k, .dict ps => match dget ps k with
    | some o => some (.bool o.isSome)
    | none => none
  | _, _ => none
def negB : Option PyData → Option PyData
  | some (.bool b) => some (.bool (!b))
  | _ => none
def pNotIn (x y : PyData) : Option PyData := negB (pIn x y)
section
variable {X : Cx}
theorem str_one {s : Str} {c : Nat} (h : s.cps.toList = [c]) : s = ⟨#[c]⟩ := by
  have e : s.cps = #[c] := by
    rw [← Array.toList_inj, h]
  cases s with
  | mk cps => exact congrArg Str.mk e
/-- both readings at once -/
theorem in_core (neg : Bool) (hu : X.A.units + 65 < cLine) {pins : List (Addr × Obj)} {s : Shared} {σ : L2.St} {H F : Hp} {x y : V} {v u : Value} {Q : VK} {d e : PyData} {b : Bool} (I : Inv X pins σ H s) (rx : RelV x v) (ry : RelV y u) (le : Le F H) (vx : Vw F H x d) (vy : Vw F H y e)
    (hf : pIn d e = some (.bool b)) (q : Q (.bl (if neg then !b else b)) H) : wpAny (model X.prog X.w) X.A (compareOp (if neg then .NotIn else .In) v u) (EP X pins σ Q) X.xe s := by
  have hu1 : X.A.units + 1 < cLine := by omega
  cases vy with
  | str t =>
    cases vx with
    | str z =>
      have hf : (match z.cps.toList with | [c] => some (PyData.bool (decide (c ∈ t.cps.toList))) | _ => none) = some (.bool b) := hf
      split at hf
      · rename_i c hc
        cases hf
        have ez := str_one hc
        subst ez
        cases neg with
        | false => exact op_in_sign pins s σ H _ _ v u Q I rx ry ⟨c, t, rfl, rfl, q⟩
        | true => exact op_notIn_sign pins s σ H _ _ v u Q I rx ry ⟨c, t, rfl, rfl, q⟩
      · cases hf
    | _ => cases hf
  | lst e1 r1 =>
    rename_i ds
    have hf : (if SeqAt.shaped d && SeqAt.shaped (.list ds) then some (PyData.bool (ds.any fun z => PyData.eqv z d)) else none) = some (.bool b) := by
      cases vx <;> exact hf
    split at hf
    · rename_i h
      rw [Bool.and_eq_true] at h
      cases hf
      have d1 := dp_vw (K := X.K) le (SeqAt.canLay_of_shaped h.1) vx
      have d2 := dp_vw (K := X.K) le (SeqAt.canLay_of_shaped h.2) (Vw.lst e1 r1)
      cases neg with
      | false => exact op_inD hu pins s σ H _ _ v u Q I rx ry ⟨d, ds, d1, d2, h.1, h.2, q⟩
      | true => exact op_notInD hu pins s σ H _ _ v u Q I rx ry ⟨d, ds, d1, d2, h.1, h.2, q⟩
    · cases hf
  | tup e1 e1' r1 =>
    rename_i ds
    have hf : (if SeqAt.shaped d && SeqAt.shaped (.tuple ds) then some (PyData.bool (ds.any fun z => PyData.eqv z d)) else none) = some (.bool b) := by
      cases vx <;> exact hf
    split at hf
    · rename_i h
      rw [Bool.and_eq_true] at h
      cases hf
      have d1 := dp_vw (K := X.K) le (SeqAt.canLay_of_shaped h.1) vx
      have d2 := dp_vw (K := X.K) le (SeqAt.canLay_of_shaped h.2) (Vw.tup e1 e1' r1)
      obtain ⟨as, r1⟩ := Dp.reads I _ _ v d1 rx
      obtain ⟨bs, r2⟩ := Dp.reads I _ _ u d2 ry
      cases neg with
      | false => exact SeqAt.in_tuple_reads r2 r1 (SeqAt.canLay_of_shaped h.2) (SeqAt.canLay_of_shaped h.1) (PyProof.Rows.room_in_shaped h.1 hu) ⟨.bl _, H, I, rfl, q⟩
      | true => exact SeqAt.notIn_tuple_reads r2 r1 (SeqAt.canLay_of_shaped h.2) (SeqAt.canLay_of_shaped h.1) (PyProof.Rows.room_in_shaped h.1 hu) ⟨.bl _, H, I, rfl, q⟩
    · cases hf
  | dK rd r1 =>
    rename_i a kvs ps
    have hf : (match dget ps d with | some o => some (PyData.bool o.isSome) | none => none) = some (.bool b) := by
      cases vx <;> exact hf
    cases hg : dget ps d with
    | none => rw [hg] at hf; cases hf
    | some o =>
      rw [hg] at hf
      cases hf
      obtain ⟨a', ea, _, c⟩ := dget_ok (Vw.dK rd r1) vx hg
      cases ea
      obtain rfl : u = Value.ref a := ry
      have g2 : DGet2 H a x (if o.isSome then (Classical.choice ⟨none⟩ : Option V) else none) ∨ True := .inr trivial
      rcases c with ⟨rfl, g⟩ | ⟨w, d', rfl, g, _⟩
      · cases neg with
        | false => exact d_in2 hu1 I g rx fun s' I' => ⟨.bl false, H, I', rfl, q⟩
        | true => exact d_notIn2 hu1 I g rx fun s' I' => ⟨.bl true, H, I', rfl, q⟩
      · cases neg with
        | false => exact d_in2 hu1 I (.inl g) rx fun s' I' => ⟨.bl true, H, I', rfl, q⟩
        | true => exact d_notIn2 hu1 I (.inl g) rx fun s' I' => ⟨.bl false, H, I', rfl, q⟩
  | dT rd r1 =>
    rename_i a kvs ps
    have hf : (match dget ps d with | some o => some (PyData.bool o.isSome) | none => none) = some (.bool b) := by
      cases vx <;> exact hf
    cases hg : dget ps d with
    | none => rw [hg] at hf; cases hf
    | some o =>
      rw [hg] at hf
      cases hf
      obtain ⟨a', ea, _, c⟩ := dget_ok (Vw.dT rd r1) vx hg
      cases ea
      obtain rfl : u = Value.ref a := ry
      rcases c with ⟨rfl, g⟩ | ⟨w, d', rfl, g, _⟩
      · cases neg with
        | false => exact d_in2 hu1 I g rx fun s' I' => ⟨.bl false, H, I', rfl, q⟩
        | true => exact d_notIn2 hu1 I g rx fun s' I' => ⟨.bl true, H, I', rfl, q⟩
      · cases neg with
        | false => exact d_in2 hu1 I (.inl g) rx fun s' I' => ⟨.bl true, H, I', rfl, q⟩
        | true => exact d_notIn2 hu1 I (.inl g) rx fun s' I' => ⟨.bl false, H, I', rfl, q⟩
  | non => cases vx <;> cases hf
  | bl _ => cases vx <;> cases hf
  | int _ => cases vx <;> cases hf
theorem pIn_bool {x y z : PyData} (h : pIn x y = some z) : ∃ b, z = .bool b := by
  unfold pIn at h
  split at h
  · split at h
    · cases h; exact ⟨_, rfl⟩
    · cases h
  · split at h
    · cases h; exact ⟨_, rfl⟩
    · cases h
  · split at h
    · cases h; exact ⟨_, rfl⟩
    · cases h
  · split at h
    · cases h; exact ⟨_, rfl⟩
    · cases h
  · cases h
theorem od_in (hu : X.A.units + 65 < cLine) : OpD X (compareOp .In) pIn := .of <| by
  intro pins s σ H x y v u Q I rx ry ⟨F, d, e, z, le, vx, vy, hf, q⟩
  obtain ⟨b, rfl⟩ := pIn_bool hf
  exact in_core false hu I rx ry le vx vy hf (q_sc le q (.bl b))
theorem od_notin (hu : X.A.units + 65 < cLine) : OpD X (compareOp .NotIn) pNotIn := .of <| by
  intro pins s σ H x y v u Q I rx ry ⟨F, d, e, z, le, vx, vy, hf, q⟩
  unfold pNotIn at hf
  cases h : pIn d e with
  | none => rw [h] at hf; cases hf
  | some w =>
    obtain ⟨b, rfl⟩ := pIn_bool h
    rw [h] at hf
    cases hf
    exact in_core true hu I rx ry le vx vy h (q_sc le q (.bl (!b)))
end
def pIx : PyData → PyData → Option PyData
  | .list xs, .int i => atI xs i
  | .tuple xs, .int i => atI xs i
  | .str s, .int i => if s.length ≤ 16777216 then match atI s.cps.toList i with
    | some c => some (.str ⟨#[c]⟩)
    | none => none
    else none
  | .dict ps, k => match dget ps k with
    | some o => o
    | none => none
  | _, _ => none
theorem DRL.atI {F : Hp} {vs : List V} {ds : List PyData} {i : Int} {d : PyData} (r : DRL F vs ds) (h : L2.atI ds i = some d) : ∃ v, L2.atI vs i = some v ∧ DR F v d := by
  unfold L2.atI at h ⊢
  rw [r.length]
  cases e : ixN ds.length i with
  | none => rw [e] at h; cases h
  | some j =>
    rw [e] at h
    exact r.get h
section
variable {X : Cx}
def rIxDict : R2 := fun x y H Q => ∃ a v, x = .ref a ∧ DGet H a y (some v) ∧ Q v H
theorem ix_dict (hu : X.A.units + 1 < cLine) : IxR X rIxDict := by
  intro value slice pins s σ H x y v u Q I rx ry ⟨a, w, ex, g, q⟩ hs
  subst ex
  obtain rfl : v = Value.ref a := rx
  have hT := dict_typeIs I g
  unfold PyProof.Rows.subscriptTail
  refine wpAny_bind ?_
  rw [getitemInPython_of_ne hT.not_modules]
  refine wpAny_bind (wpAny_specialOf hT PySem.F.slot_dict_getitem.lookup ?_)
  have fin : wpAny (model X.prog X.w) X.A (subscripted slice false (.ref a) u) (fun r s₃ => wpAny (model X.prog X.w) X.A (letTemporaryGo value (.ref a) r >>= fun _ => pure r) (EP X pins σ Q) X.xe s₃) X.xe s := by
    rw [hs]
    exact wpAny_operating (d_getItem hu I g ry fun w' s3 I3 rw' => wpAny_bind (wpAny_letTemporaryGo (wpAny_pure ⟨w, H, I3, rw', q⟩)))
  first
    | exact wpAny_pure (wpAny_bind fin)
    | exact wpAny_bind (wpAny_pure (wpAny_bind fin))
    | exact wpAny_bind fin
theorem xd_ix (hu : X.A.units + 1 < cLine) : IxD X pIx := .of <| by
  intro value slice pins s σ H x y v u Q I rx ry ⟨F, d, e, z, le, vx, vy, hf, q⟩ hs
  cases vx with
  | lst e1 r1 =>
    cases vy with
    | int i =>
      obtain ⟨w, hw, dr⟩ := r1.atI hf
      exact ix_list value slice pins s σ H _ _ v u Q I rx ry ⟨_, _, i, w, rfl, rfl, SqL.of e1, hw, q_sc le q dr⟩ hs
    | _ => cases hf
  | tup e1 e1' r1 =>
    cases vy with
    | int i =>
      obtain ⟨w, hw, dr⟩ := r1.atI hf
      exact ix_tup value slice pins s σ H _ _ v u Q I rx ry ⟨_, _, i, w, rfl, rfl, SqT.of e1', hw, q_sc le q dr⟩ hs
    | _ => cases hf
  | str t =>
    cases vy with
    | int i =>
      have hf : (if t.length ≤ 16777216 then match L2.atI t.cps.toList i with | some c => some (PyData.str ⟨#[c]⟩) | none => none else none) = some z := hf
      split at hf
      · rename_i hl
        split at hf
        · rename_i c hc
          cases hf
          exact ix_str value slice pins s σ H _ _ v u Q I rx ry ⟨t, i, c, rfl, rfl, line_of hl, hc, q_sc le q (.str _)⟩ hs
        · cases hf
      · cases hf
    | _ => cases hf
  | dK rd r1 =>
    rename_i a kvs ps
    have hf : (match dget ps e with | some o => o | none => none) = some z := hf
    cases hg : dget ps e with
    | none => rw [hg] at hf; cases hf
    | some o =>
      rw [hg] at hf
      have hf : o = some z := hf
      obtain ⟨a', ea, _, c⟩ := dget_ok (Vw.dK rd r1) vy hg
      rcases c with ⟨rfl, g⟩ | ⟨w, d', rfl, g, dr⟩
      · cases hf
      · cases hf
        exact ix_dict hu value slice pins s σ H _ _ v u Q I rx ry ⟨a', w, ea, g, q_sc le q dr⟩ hs
  | dT rd r1 =>
    rename_i a kvs ps
    have hf : (match dget ps e with | some o => o | none => none) = some z := hf
    cases hg : dget ps e with
    | none => rw [hg] at hf; cases hf
    | some o =>
      rw [hg] at hf
      have hf : o = some z := hf
      obtain ⟨a', ea, _, c⟩ := dget_ok (Vw.dT rd r1) vy hg
      rcases c with ⟨rfl, g⟩ | ⟨w, d', rfl, g, dr⟩
      · cases hf
      · cases hf
        exact ix_dict hu value slice pins s σ H _ _ v u Q I rx ry ⟨a', w, ea, g, q_sc le q dr⟩ hs
  | _ => cases hf
end
end CH

set_option Elab.async false
set_option linter.all false
set_option maxRecDepth 100000
namespace CH
open PySem L2

/-! ### slices -/
abbrev PE' := Env → Cells → R (Option Int)
def sNoP : PE' := fun _ h => .ok none h
def sP (e : E) : PE' := fun env h => (e env h).bind fun w h1 => match lk h1 w with
  | some (.int i) => .ok (some i) h1
  | _ => .stk
abbrev rO : Hp → (Nat → Option Addr) → Option Int → Option Int → Prop := fun _ _ a b => a = b
def cutD {α : Type} (xs : List α) (lo hi : Option Int) : List α := (xs.drop (HT.sIx xs.length 0 lo)).take (HT.sIx xs.length xs.length hi - HT.sIx xs.length 0 lo)
def pSl (x : PyData) (lo hi : Option Int) : Option PyData := match x with
  | .list xs => some (.list (cutD xs lo hi))
  | .tuple xs => some (.tuple (cutD xs lo hi))
  | .str z => if z.length ≤ 16777216 then some (.str (cutS z lo hi)) else none
  | _ => none
def sSl (a : E) (lo hi : PE') : E := fun env h => (a env h).bind fun x h1 => (lo env h1).bind fun l h2 => (hi env h2).bind fun u h3 => match lk h3 x with
  | some d => match pSl d l u with
    | some z => .ok (.d z) h3
    | none => .stk
  | none => .stk
def SlR' (X : Cx) (r : V → Option Int → Option Int → Hp → VK → Prop) : Prop := L2.SlR X r
def rSlV : V → Option Int → Option Int → Hp → VK → Prop := fun x lo hi H Q => ∃ F d z, Le F H ∧ Vw F H x d ∧ pSl d lo hi = some z ∧ ∀ v H' F', Gr F H F' H' → DR F' v z → Q v H'
theorem cutD_self {α : Type} {xs : List α} {lo hi : Option Int} (h : HT.sIx xs.length 0 lo = 0 ∧ HT.sIx xs.length xs.length hi = xs.length) : cutD xs lo hi = xs := by
  unfold cutD
  rw [h.1, h.2, List.drop_zero, Nat.sub_zero, List.take_length]
theorem cut_dr {F : Hp} {vs : List V} {ds : List PyData} (r : DRL F vs ds) (lo hi : Option Int) : DRL F (cutV vs lo hi) (cutD ds lo hi) := by
  unfold cutV cutD
  rw [r.length]
  exact (r.drop _).take _
theorem sl_all {X : Cx} : L2.SlR X rSlV := by
  intro pins s σ H x v vl vu lo hi sl Q I rx hs pl pu ⟨F, d, z, le, vx, hf, q⟩
  cases vx with
  | lst e1 r1 =>
    cases hf
    exact sl_list pins s σ H _ v vl vu lo hi sl Q I rx hs pl pu ⟨_, _, rfl, SqL.of e1, fun p hp => q_new le q hp fun F' ep f => .lst ep ((cut_dr r1 lo hi).mono f)⟩
  | tup e1 e1' r1 =>
    cases hf
    refine sl_tupA pins s σ H _ v vl vu lo hi sl Q I rx hs pl pu ⟨_, _, rfl, SqT.of e1', fun hw => ?_, fun hw p hp => q_new le q hp fun F' ep f => .tup ep ((cut_dr r1 lo hi).mono f)⟩
    refine q_sc le q ?_
    rw [r1.length] at hw
    rw [cutD_self hw]
    exact .tup e1 r1
  | str t =>
    have hf : (if t.length ≤ 16777216 then some (PyData.str (cutS t lo hi)) else none) = some z := hf
    split at hf
    · rename_i hl
      cases hf
      exact sl_str pins s σ H _ v vl vu lo hi sl Q I rx hs pl pu ⟨t, rfl, line_of hl, q_sc le q (.str _)⟩
    · cases hf
  | _ => cases hf
section
variable {X : Cx} {g : Glob} {Wx : WX} {pos p2 : Pos} {a e : Expr} {sa se : E} {lo hi : Option Expr} {sl sh : PE'}
def tDO (g : Glob) (Wx : WX) (s : PE') : TO := tG g Wx rO s
theorem do_none : PO X none (tDO g Wx sNoP) := ⟨fun pins s σ H Q I ⟨F, ρ, env, h, er, rl, p⟩ => po_none.run pins s σ H Q I (p none H F ρ Ext.refl rfl rl)⟩
theorem do_some (he : PE X e (tD g Wx se)) : PO X (some e) (tDO g Wx (sP se)) := by
  have h := po_some he
  refine ⟨fun pins s σ H Q I q => h.run pins s σ H Q I ?_⟩
  refine (tG.of (rel2 := WR g) (a := se) q (fun _ _ => rfl)).mono ?_
  rintro x H1 ⟨F, ρ, env, h1, w, er, rl, r, p⟩
  cases e2 : lk h1 w with
  | none => rw [e2] at p; exact p.elim
  | some d =>
    rw [e2] at p
    have vx := r.vw rl e2
    cases d with
    | int i =>
      cases vw_int vx
      exact ⟨i, rfl, p _ H1 F ρ Ext.refl rfl rl⟩
    | _ => exact p.elim
theorem de_slice (ha : PE X a (tD g Wx sa)) (hl : PO X lo (tDO g Wx sl)) (hh : PO X hi (tDO g Wx sh)) : PE X (.Subscript a (.Slice lo hi none p2) pos) (tD g Wx (sSl sa sl sh)) := by
  refine pe_mono (pe_slice sl_all ha hl hh) fun σ H Q h => ?_
  refine (tG.of (rel2 := WR g) (a := sa) h (fun _ _ => rfl)).mono ?_
  rintro x H1 ⟨F, ρ, env, h1, w, er, rl, r, p⟩
  refine (tG.in (rel2 := rO) er rl p).mono ?_
  rintro l H2 ⟨F2, ρ2, h2, w2, x2, er2, rl2, rfl, p2⟩
  refine (tG.in (rel2 := rO) er2 rl2 p2).mono ?_
  rintro u H3 ⟨F3, ρ3, h3, w3, x3, er3, rl3, rfl, p3⟩
  have r3 := (r.mono x2.f x2.r).mono x3.f x3.r
  try dsimp only at p3
  cases e2 : lk h3 w with
  | none => rw [e2] at p3; exact p3.elim
  | some d =>
    rw [e2] at p3
    try dsimp only at p3
    cases e3 : pSl d l u with
    | none => rw [e3] at p3; exact p3.elim
    | some z =>
      rw [e3] at p3
      exact ⟨F3, d, z, rl3.le, r3.vw rl3 e2, e3, fun v H' F' gr dr => p3 v H' F' ρ3 (gr.ext ρ3) dr (gr.rl rl3)⟩
end

/-! ### built-in functions of data -/
def pLen : List PyData → Option PyData
  | [.list xs] => some (.int xs.length)
  | [.tuple xs] => some (.int xs.length)
  | [.dict ps] => some (.int ps.length)
  | [.str s] => if s.length ≤ 16777216 then some (.int s.length) else none
  | _ => none
def pInt : List PyData → Option PyData
  | [.int i] => some (.int i)
  | [.bool b] => some (.int (if b then 1 else 0))
  | _ => none
def pMax2 : List PyData → Option PyData
  | [.int i, .int j] => some (.int (if j > i then j else i))
  | _ => none
def pMin2 : List PyData → Option PyData
  | [.int i, .int j] => some (.int (if j < i then j else i))
  | _ => none
def intsL : List PyData → Option (List Int)
  | [] => some []
  | .int i :: ds => match intsL ds with
    | some is => some (i :: is)
    | none => none
  | _ :: _ => none
def boolsL : List PyData → Option (List Bool)
  | [] => some []
  | .bool i :: ds => match boolsL ds with
    | some is => some (i :: is)
    | none => none
  | _ :: _ => none
def strsL : List PyData → Option (List Str)
  | [] => some []
  | .str i :: ds => match strsL ds with
    | some is => some (i :: is)
    | none => none
  | _ :: _ => none
def pSum : List PyData → Option PyData
  | [.list xs] => match intsL xs with
    | some is => some (.int is.sum)
    | none => none
  | _ => none
def pAll : List PyData → Option PyData
  | [.list xs] => match boolsL xs with
    | some is => some (.bool (is.all id))
    | none => none
  | _ => none
def pAny : List PyData → Option PyData
  | [.list xs] => match boolsL xs with
    | some is => some (.bool (is.any id))
    | none => none
  | _ => none
def lstMax : List Int → Option Int
  | [] => none
  | x :: xs => some (xs.foldl max x)
def lstMin : List Int → Option Int
  | [] => none
  | x :: xs => some (xs.foldl min x)
theorem foldl_max_spec : ∀ (xs : List Int) (x : Int), (xs.foldl max x = x ∨ xs.foldl max x ∈ xs) ∧ x ≤ xs.foldl max x ∧ ∀ y ∈ xs, y ≤ xs.foldl max x
  | [], x => ⟨.inl rfl, Int.le_refl _, fun _ h => nomatch h⟩
  | z :: xs, x => by
    obtain ⟨h1, h2, h3⟩ := foldl_max_spec xs (max x z)
    refine ⟨?_, Int.le_trans (Int.le_max_left x z) h2, fun y hy => ?_⟩
    · show xs.foldl max (max x z) = x ∨ xs.foldl max (max x z) ∈ z :: xs
      rcases h1 with h1 | h1
      · by_cases hz : z ≤ x
        · left; rw [h1]; omega
        · right; rw [h1, show max x z = z by omega]; exact List.mem_cons_self
      · exact .inr (List.mem_cons_of_mem _ h1)
    · rcases List.mem_cons.mp hy with rfl | hy
      · exact Int.le_trans (Int.le_max_right x y) h2
      · exact h3 y hy
theorem foldl_min_spec : ∀ (xs : List Int) (x : Int), (xs.foldl min x = x ∨ xs.foldl min x ∈ xs) ∧ xs.foldl min x ≤ x ∧ ∀ y ∈ xs, xs.foldl min x ≤ y
  | [], x => ⟨.inl rfl, Int.le_refl _, fun _ h => nomatch h⟩
  | z :: xs, x => by
    obtain ⟨h1, h2, h3⟩ := foldl_min_spec xs (min x z)
    refine ⟨?_, Int.le_trans h2 (Int.min_le_left x z), fun y hy => ?_⟩
    · show xs.foldl min (min x z) = x ∨ xs.foldl min (min x z) ∈ z :: xs
      rcases h1 with h1 | h1
      · by_cases hz : x ≤ z
        · left; rw [h1]; omega
        · right; rw [h1, show min x z = z by omega]; exact List.mem_cons_self
      · exact .inr (List.mem_cons_of_mem _ h1)
    · rcases List.mem_cons.mp hy with rfl | hy
      · exact Int.le_trans h2 (Int.min_le_right x y)
      · exact h3 y hy
def pMaxL : List PyData → Option PyData
  | [.list xs] => match intsL xs with
    | some is => (lstMax is).map .int
    | none => none
  | _ => none
def pMinL : List PyData → Option PyData
  | [.list xs] => match intsL xs with
    | some is => (lstMin is).map .int
    | none => none
  | _ => none
theorem intsL_eq : ∀ {ds : List PyData} {is : List Int}, intsL ds = some is → ds = is.map .int
  | [], is, h => by cases h; rfl
  | .int i :: ds, is, h => by
    unfold intsL at h
    cases e : intsL ds with
    | none => rw [e] at h; cases h
    | some js => rw [e] at h; cases h; rw [intsL_eq e]; rfl
  | .none :: _, is, h | .bool _ :: _, is, h | .str _ :: _, is, h | .list _ :: _, is, h | .tuple _ :: _, is, h | .dict _ :: _, is, h => by cases h
theorem boolsL_eq : ∀ {ds : List PyData} {is : List Bool}, boolsL ds = some is → ds = is.map .bool
  | [], is, h => by cases h; rfl
  | .bool i :: ds, is, h => by
    unfold boolsL at h
    cases e : boolsL ds with
    | none => rw [e] at h; cases h
    | some js => rw [e] at h; cases h; rw [boolsL_eq e]; rfl
  | .none :: _, is, h | .int _ :: _, is, h | .str _ :: _, is, h | .list _ :: _, is, h | .tuple _ :: _, is, h | .dict _ :: _, is, h => by cases h
theorem strsL_eq : ∀ {ds : List PyData} {is : List Str}, strsL ds = some is → ds = is.map .str
  | [], is, h => by cases h; rfl
  | .str i :: ds, is, h => by
    unfold strsL at h
    cases e : strsL ds with
    | none => rw [e] at h; cases h
    | some js => rw [e] at h; cases h; rw [strsL_eq e]; rfl
  | .none :: _, is, h | .int _ :: _, is, h | .bool _ :: _, is, h | .list _ :: _, is, h | .tuple _ :: _, is, h | .dict _ :: _, is, h => by cases h
theorem drl_ints {F : Hp} : ∀ {vs : List V} {is : List Int}, DRL F vs (is.map .int) → vs = is.map V.int
  | [], [], _ => rfl
  | v :: vs, i :: is, r => by
    cases r with
    | cons a t =>
      cases a
      rw [drl_ints t]
      rfl
  | [], _ :: _, r => by cases r
  | _ :: _, [], r => by cases r
theorem drl_bools {F : Hp} : ∀ {vs : List V} {is : List Bool}, DRL F vs (is.map .bool) → vs = is.map V.bl
  | [], [], _ => rfl
  | v :: vs, i :: is, r => by
    cases r with
    | cons a t =>
      cases a
      rw [drl_bools t]
      rfl
  | [], _ :: _, r => by cases r
  | _ :: _, [], r => by cases r
theorem drl_strs {F : Hp} : ∀ {vs : List V} {is : List Str}, DRL F vs (is.map .str) → vs = is.map V.str
  | [], [], _ => rfl
  | v :: vs, i :: is, r => by
    cases r with
    | cons a t =>
      cases a
      rw [drl_strs t]
      rfl
  | [], _ :: _, r => by cases r
  | _ :: _, [], r => by cases r
theorem mk_ints {F : Hp} : ∀ is : List Int, DRL F (is.map V.int) (is.map .int)
  | [] => .nil
  | i :: is => .cons (.int i) (mk_ints is)
theorem mk_strs {F : Hp} : ∀ is : List Str, DRL F (is.map V.str) (is.map .str)
  | [] => .nil
  | i :: is => .cons (.str i) (mk_strs is)
section
variable {X : Cx}
theorem cd_len : CaD X (.builtin "len") pLen := .of <| by
  intro pins s σ H xs us Q I r ⟨F, ds, z, le, vx, hf, q⟩
  cases vx with
  | nil => cases hf
  | cons v1 vr =>
    cases vr with
    | cons _ _ => cases v1 <;> cases hf
    | nil =>
      cases v1 with
      | lst e1 r1 => cases hf; exact call_len_seq pins s σ H _ us Q I r ⟨_, _, rfl, .inl (SqL.of e1), by rw [r1.length]; exact q_sc le q (.int _)⟩
      | tup e1 e1' r1 => cases hf; exact call_len_seq pins s σ H _ us Q I r ⟨_, _, rfl, .inr (SqT.of e1'), by rw [r1.length]; exact q_sc le q (.int _)⟩
      | str t =>
        have hf : (if t.length ≤ 16777216 then some (PyData.int t.length) else none) = some z := hf
        split at hf
        · rename_i hl
          cases hf
          exact call_len_str pins s σ H _ us Q I r ⟨t, rfl, line_of hl, q_sc le q (.int _)⟩
        · cases hf
      | dK rd r1 =>
        cases hf
        obtain ⟨u, rfl, ru⟩ := vals1 r
        cases ru
        exact d_len I rd fun t s' I' => ⟨.int _, H, I', ⟨t, rfl⟩, by rw [r1.length]; exact q_sc le q (.int _)⟩
      | dT rd r1 =>
        cases hf
        obtain ⟨u, rfl, ru⟩ := vals1 r
        cases ru
        obtain ⟨z, hd, ys, rel, dd⟩ := dt_rd I.hok rd
        have hl := Paired.length rel
        refine PySem.call_len_dictH hd dd (by rw [← hl]; rw [sizeLine_eq] at z; omega) ?_
        rw [← hl]
        exact ⟨.int _, H, I.tok _, ⟨_, rfl⟩, by rw [r1.length]; exact q_sc le q (.int _)⟩
      | _ => cases hf
theorem cd_int : CaD X (.type "int") pInt := .of <| by
  intro pins s σ H xs us Q I r ⟨F, ds, z, le, vx, hf, q⟩
  cases vx with
  | nil => cases hf
  | cons v1 vr =>
    cases vr with
    | cons _ _ => cases v1 <;> cases hf
    | nil =>
      cases v1 with
      | int i => cases hf; exact call_int1 pins s σ H _ us Q I r (.inl ⟨i, rfl, q_sc le q (.int _)⟩)
      | bl b => cases hf; exact call_int1 pins s σ H _ us Q I r (.inr ⟨b, rfl, q_sc le q (.int _)⟩)
      | _ => cases hf
theorem two_ints {F H : Hp} {xs : List V} {ds : List PyData} {i j : Int} (h : VwL F H xs ds) (e : ds = [.int i, .int j]) : xs = [.int i, .int j] := by
  subst e
  cases h with
  | cons a r =>
    cases r with
    | cons b r =>
      cases r
      cases a
      cases b
      rfl
theorem cd_max2 (hc : X.calm = true) : CaD X (.builtin "max") pMax2 := .of <| by
  intro pins s σ H xs us Q I r ⟨F, ds, z, le, vx, hf, q⟩
  unfold pMax2 at hf
  split at hf
  · rename_i i j
    cases hf
    exact call_max2 hc pins s σ H _ us Q I r ⟨i, j, two_ints vx rfl, q_sc le q (.int _)⟩
  · cases hf
theorem cd_min2 (hc : X.calm = true) : CaD X (.builtin "min") pMin2 := .of <| by
  intro pins s σ H xs us Q I r ⟨F, ds, z, le, vx, hf, q⟩
  unfold pMin2 at hf
  split at hf
  · rename_i i j
    cases hf
    exact call_min2 hc pins s σ H _ us Q I r ⟨i, j, two_ints vx rfl, q_sc le q (.int _)⟩
  · cases hf
theorem one_list {F H : Hp} {xs : List V} {ds : List PyData} (h : VwL F H xs [.list ds]) : ∃ a vs, xs = [.ref a] ∧ H a = some (.lst vs) ∧ DRL F vs ds := by
  cases h with
  | cons a r =>
    cases r
    cases a with
    | lst e r => exact ⟨_, _, rfl, e, r⟩
theorem cd_sum (hc : X.calm = true) : CaD X (.builtin "sum") pSum := .of <| by
  intro pins s σ H xs us Q I r ⟨F, ds, z, le, vx, hf, q⟩
  unfold pSum at hf
  split at hf
  · rename_i l
    split at hf
    · rename_i is hi
      cases hf
      obtain ⟨a, vs, rfl, e, dr⟩ := one_list vx
      rw [intsL_eq hi] at dr
      rw [drl_ints dr] at e
      exact cr_sum hc pins s σ H _ us Q I r ⟨a, is, rfl, SqL.of e, q_sc le q (.int _)⟩
    · cases hf
  · cases hf
theorem cd_all (hc : X.calm = true) : CaD X (.builtin "all") pAll := .of <| by
  intro pins s σ H xs us Q I r ⟨F, ds, z, le, vx, hf, q⟩
  unfold pAll at hf
  split at hf
  · rename_i l
    split at hf
    · rename_i is hi
      cases hf
      obtain ⟨a, vs, rfl, e, dr⟩ := one_list vx
      rw [boolsL_eq hi] at dr
      rw [drl_bools dr] at e
      exact cr_all hc pins s σ H _ us Q I r ⟨a, is, rfl, SqL.of e, q_sc le q (.bl _)⟩
    · cases hf
  · cases hf
theorem cd_any (hc : X.calm = true) : CaD X (.builtin "any") pAny := .of <| by
  intro pins s σ H xs us Q I r ⟨F, ds, z, le, vx, hf, q⟩
  unfold pAny at hf
  split at hf
  · rename_i l
    split at hf
    · rename_i is hi
      cases hf
      obtain ⟨a, vs, rfl, e, dr⟩ := one_list vx
      rw [boolsL_eq hi] at dr
      rw [drl_bools dr] at e
      exact cr_any hc pins s σ H _ us Q I r ⟨a, is, rfl, SqL.of e, q_sc le q (.bl _)⟩
    · cases hf
  · cases hf
theorem cd_maxL (hc : X.calm = true) : CaD X (.builtin "max") pMaxL := .of <| by
  intro pins s σ H xs us Q I r ⟨F, ds, z, le, vx, hf, q⟩
  unfold pMaxL at hf
  split at hf
  · rename_i l
    split at hf
    · rename_i is hi
      obtain ⟨a, vs, rfl, e, dr⟩ := one_list vx
      rw [intsL_eq hi] at dr
      rw [drl_ints dr] at e
      cases is with
      | nil => cases hf
      | cons x is =>
        cases hf
        refine cr_max hc pins s σ H _ us Q I r ⟨a, x :: is, rfl, SqL.of e, Nat.succ_pos _, fun m hm hy => ?_⟩
        obtain ⟨h1, h2, h3⟩ := foldl_max_spec is x
        have e1 : m = is.foldl max x := by
          have k1 : m ≤ is.foldl max x := by
            rcases List.mem_cons.mp hm with rfl | hm
            · exact h2
            · exact h3 m hm
          have k2 : is.foldl max x ≤ m := by
            rcases h1 with h1 | h1
            · rw [h1]; exact hy x List.mem_cons_self
            · exact hy _ (List.mem_cons_of_mem _ h1)
          omega
        rw [e1]
        exact q_sc le q (.int _)
    · cases hf
  · cases hf
theorem cd_minL (hc : X.calm = true) : CaD X (.builtin "min") pMinL := .of <| by
  intro pins s σ H xs us Q I r ⟨F, ds, z, le, vx, hf, q⟩
  unfold pMinL at hf
  split at hf
  · rename_i l
    split at hf
    · rename_i is hi
      obtain ⟨a, vs, rfl, e, dr⟩ := one_list vx
      rw [intsL_eq hi] at dr
      rw [drl_ints dr] at e
      cases is with
      | nil => cases hf
      | cons x is =>
        cases hf
        refine cr_min hc pins s σ H _ us Q I r ⟨a, x :: is, rfl, SqL.of e, Nat.succ_pos _, fun m hm hy => ?_⟩
        obtain ⟨h1, h2, h3⟩ := foldl_min_spec is x
        have e1 : m = is.foldl min x := by
          have k1 : is.foldl min x ≤ m := by
            rcases List.mem_cons.mp hm with rfl | hm
            · exact h2
            · exact h3 m hm
          have k2 : m ≤ is.foldl min x := by
            rcases h1 with h1 | h1
            · rw [h1]; exact hy x List.mem_cons_self
            · exact hy _ (List.mem_cons_of_mem _ h1)
          omega
        rw [e1]
        exact q_sc le q (.int _)
    · cases hf
  · cases hf
def pTuple : List PyData → Option PyData
  | [.list xs] => some (.tuple xs)
  | [.tuple xs] => some (.tuple xs)
  | _ => none
theorem cd_tuple : CaD X (.type "tuple") pTuple := .of <| by
  intro pins s σ H xs us Q I r ⟨F, ds, z, le, vx, hf, q⟩
  cases vx with
  | nil => cases hf
  | cons v1 vr =>
    cases vr with
    | cons _ _ => cases v1 <;> cases hf
    | nil =>
      cases v1 with
      | lst e1 r1 => cases hf; exact call_tuple_of pins s σ H _ us Q I r ⟨_, _, rfl, .inl ⟨SqL.of e1, fun p hp => q_new le q hp fun F' ep f => .tup ep (r1.mono f)⟩⟩
      | tup e1 e1' r1 => cases hf; exact call_tuple_of pins s σ H _ us Q I r ⟨_, _, rfl, .inr ⟨SqT.of e1', q_sc le q (.tup e1 r1)⟩⟩
      | _ => cases hf
end
/-! ### isinstance of a built-in type -/
def tyName : PyData → String
  | .none => "NoneType"
  | .bool _ => "bool"
  | .int _ => "int"
  | .str _ => "str"
  | .list _ => "list"
  | .tuple _ => "tuple"
  | .dict _ => "dict"
/-- 0 int, 1 bool, 2 str, 3 list, 4 tuple, 5 dict -/
def tyCode : Nat → String
  | 0 => "int"
  | 1 => "bool"
  | 2 => "str"
  | 3 => "list"
  | 4 => "tuple"
  | _ => "dict"
def isiD (T : Nat) : PyData → Bool
  | .none => false
  | .bool _ => T == 0 || T == 1
  | .int _ => T == 0
  | .str _ => T == 2
  | .list _ => T == 3
  | .tuple _ => T == 4
  | .dict _ => T == 5
theorem isi_tab : ∀ T : Nat, T ≤ 5 → ∀ d : PyData, kitB (tyName d) (tyCode T) = some (isiD T d) := by
  have h : ∀ T : Nat, T ≤ 5 → kitB "NoneType" (tyCode T) = some false ∧ kitB "bool" (tyCode T) = some (T == 0 || T == 1) ∧ kitB "int" (tyCode T) = some (T == 0) ∧ kitB "str" (tyCode T) = some (T == 2) ∧
      kitB "list" (tyCode T) = some (T == 3) ∧ kitB "tuple" (tyCode T) = some (T == 4) ∧ kitB "dict" (tyCode T) = some (T == 5) := by decide +kernel
  intro T hT d
  obtain ⟨h0, h1, h2, h3, h4, h5, h6⟩ := h T hT
  cases d <;> assumption
end CH

set_option Elab.async false
set_option linter.all false
set_option maxRecDepth 100000
namespace CH
open PySem L2

def rIsiV : List V → Hp → VK → Prop := fun xs H Q => ∃ F x d T, T ≤ 5 ∧ xs = [x, .ty (tyCode T)] ∧ Le F H ∧ Vw F H x d ∧ Q (.bl (isiD T d)) H
theorem call_isiV {X : Cx} : CallR X (.builtin "isinstance") rIsiV := by
  intro pins s σ H xs us Q I r ⟨F, x, d, T, hT, ex, le, vx, q⟩
  subst ex
  obtain ⟨u1, u2, rfl, r1, r2⟩ := vals2 r
  cases (show u2 = Value.type (tyCode T) from r2)
  have hk : PySem.W.kitOne X.K (.type (tyName d)) (.type (tyCode T)) = some (isiD T d) := kit_ty (isi_tab T hT d)
  have fin : ∀ t, PySem.W.kitOne X.K t (.type (tyCode T)) = some (isiD T d) → TyX X.K H x t → wpAny (model X.prog X.w) X.A (call (.builtin "isinstance") [u1, .type (tyCode T)]) (EP X pins σ Q) X.xe s := by
    intro t ht ty
    obtain ⟨P, Z, p, hx⟩ := kit_of I r1 ty
    exact PySem.W.kia_one Z I.kIn p ht hx fun tk => ⟨.bl _, H, I.tok tk, rfl, q⟩
  cases vx with
  | non => exact fin _ hk (.base .non)
  | bl b => exact fin _ hk (.base (.bl b))
  | int i => exact fin _ hk (.base (.int i))
  | str z => exact fin _ hk (.base (.str z))
  | lst e r => exact fin _ hk (.base (.lst e))
  | tup e e' r => exact fin _ hk (.base (.tup e'))
  | dK rd r =>
    rcases rd with e | ⟨o, e⟩
    · exact fin _ hk (.base (.dK e))
    · exact fin _ hk (.fDict e)
  | dT rd r =>
    obtain ⟨_, _, xs, _, o, es, ep, h1, h2, _⟩ := dt_rd I.hok rd
    cases (show u1 = Value.ref _ from r1)
    exact PySem.W.kia_one PySem.W.kitx_dict I.kIn ⟨o, h1, h2.1⟩ hk (fun z => nomatch z) fun tk => ⟨.bl _, H, I.tok tk, rfl, q⟩
section
variable {X : Cx} {g : Glob} {Wx : WX} {pos p p2 : Pos} {a : Expr} {sa : E}
theorem de_isi (T : Nat) {x : Str} (hm : X.mg "isinstance" = none) (hm2 : X.mg x = none) (ha : PE X a (tD g Wx sa)) (hT : T ≤ 5 := by decide) (hv2 : bootBuiltins x = some (.type (tyCode T)) := by decide +kernel)
    (hg : Gl X "isinstance" := by rfl) (hg2 : Gl X x := by rfl) (hn2 : x ≠ "__name__" := by decide) (hdb2 : (x == ("__debug__" : Str)) = false := by decide)
    (hv : bootBuiltins "isinstance" = some (.builtin "isinstance") := by decide +kernel)
    (hs : starEach [a, .Name x p2] X.env = (false, eval a X.env) :: starEach [.Name x p2] X.env := by rfl) (hs2 : starEach [.Name x p2] X.env = (false, eval (.Name x p2) X.env) :: starEach [] X.env := by rfl)
    (hpl : (backTo pos (starEach [.Name x p2] X.env)).any (·.1) = false := by rfl) :
    PE X (.Call (.Name "isinstance" p) [a, .Name x p2] [] pos) (tD g Wx (sUn (fun d => some (.bool (isiD T d))) sa)) := by
  refine pe_mono (pe_callB call_isiV hg hm hv (pa_cons ha (pa_cons (pe_bltn (v := .ty (tyCode T)) hg2 hm2 hv2 rfl hn2 hdb2) pa_nil hs2) hs) (by decide) (by decide) hs hpl) fun σ H Q h => ?_
  refine (tG.of (rel2 := WR g) (a := sa) h (fun _ _ => rfl)).mono ?_
  rintro v H1 ⟨F, ρ, env, h1, w, er, rl, r, q⟩
  unfold fin1 at q
  cases e : lk h1 w with
  | none => rw [e] at q; exact q.elim
  | some d =>
    rw [e] at q
    exact ⟨F, v, d, T, hT, rfl, rl.le, r.vw rl e, q _ H1 F ρ Ext.refl (.bl _) rl⟩
end

/-! ### new lists: list(x), sorted(x) -/
/-- a maker of a new object's data -/
def MkS (f : List PyData → Option PyData) (r : List V → Hp → VK → Prop) : Prop := ∀ (F H : Hp) (xs : List V) (ds : List PyData) (z : PyData) (Q : VK), Le F H → VwL F H xs ds → f ds = some z →
  (∀ (p : Addr) (o : HO), H p = none → CR F (some o) z → (∀ F', F' p = some o → Le F F' → DR F' (.ref p) z) → Q (.ref p) (upd H p o)) → r xs H Q
def MkD (X : Cx) (o : Value) (f : List PyData → Option PyData) : Prop := ∃ r, CallR X o r ∧ MkS f r
def rM (f : List PyData → Option PyData) : List V → Hp → VK → Prop := fun xs H Q => ∃ F ds z, Le F H ∧ VwL F H xs ds ∧ f ds = some z ∧
  ∀ (p : Addr) (o : HO), H p = none → CR F (some o) z → (∀ F', F' p = some o → Le F F' → DR F' (.ref p) z) → Q (.ref p) (upd H p o)
theorem MkD.of {X : Cx} {o : Value} {f : List PyData → Option PyData} (h : CallR X o (rM f)) : MkD X o f :=
  ⟨_, h, fun F H xs ds z Q le vx e q => ⟨F, ds, z, le, vx, e, q⟩⟩
def sMk (c : Bool) (f : List PyData → Option PyData) (as : AE) : E := fun env h => (as env h).bind fun ws h1 => match lkL h1 ws with
  | some ds => match f ds with
    | some z => mk c z h1
    | none => .stk
  | none => .stk
section
variable {X : Cx} {g : Glob} {Wx : WX} {pos : Pos} {e : Expr} {es : List Expr} {as : AE}
theorem tmk_ok {c : Bool} {f : List PyData → Option PyData} {r : List V → Hp → VK → Prop} (s : MkS f r) {σ : L2.St} {H : Hp} {Q : VK} (h : tD g Wx (sMk c f as) σ H Q) : tCB r (tDA g Wx as) σ H Q := by
  refine (tG.of (rel2 := WRL g) (a := as) h (fun _ _ => rfl)).mono ?_
  rintro xs H1 ⟨F, ρ, env, h1, ws, er, rl, rx, p⟩
  cases e : lkL h1 ws with
  | none => rw [e] at p; exact p.elim
  | some ds =>
    rw [e] at p
    try dsimp only at p
    cases e2 : f ds with
    | none => rw [e2] at p; exact p.elim
    | some z =>
      rw [e2] at p
      exact s F H1 xs ds z Q rl.le (rx.vw rl e) e2 fun a o ha cr dr => mk_ok rl p cr a dr ha
theorem de_mkTy (c : Bool) {T : String} {x : Str} {p : Pos} {f : List PyData → Option PyData} (o : MkD X (.type T) f) (hm : X.mg x = none) (ha : PA X (e :: es) (tDA g Wx as)) (hv : bootBuiltins x = some (.type T) := by decide +kernel) (hg : Gl X x := by rfl) (hn : x ≠ "__name__" := by decide) (hdb : (x == ("__debug__" : Str)) = false := by decide)
    (he : starEach (e :: es) X.env = (false, eval e X.env) :: starEach es X.env := by rfl) (hpl : (backTo pos (starEach es X.env)).any (·.1) = false := by rfl) : PE X (.Call (.Name x p) (e :: es) [] pos) (tD g Wx (sMk c f as)) := by
  obtain ⟨r, h1, h2⟩ := o
  exact pe_mono (pe_callTy h1 hg hm hv ha hn hdb he hpl) fun σ H Q h => tmk_ok h2 h
theorem de_mkB (c : Bool) {id : String} {x : Str} {p : Pos} {f : List PyData → Option PyData} (o : MkD X (.builtin id) f) (hm : X.mg x = none) (ha : PA X (e :: es) (tDA g Wx as)) (hv : bootBuiltins x = some (.builtin id) := by decide +kernel) (hg : Gl X x := by rfl) (hn : x ≠ "__name__" := by decide) (hdb : (x == ("__debug__" : Str)) = false := by decide)
    (he : starEach (e :: es) X.env = (false, eval e X.env) :: starEach es X.env := by rfl) (hpl : (backTo pos (starEach es X.env)).any (·.1) = false := by rfl) : PE X (.Call (.Name x p) (e :: es) [] pos) (tD g Wx (sMk c f as)) := by
  obtain ⟨r, h1, h2⟩ := o
  exact pe_mono (pe_callB h1 hg hm hv ha hn hdb he hpl) fun σ H Q h => tmk_ok h2 h
theorem mk_lst {F H : Hp} {vs : List V} {ds : List PyData} {Q : VK} (dr : DRL F vs ds) (q : ∀ (p : Addr) (o : HO), H p = none → CR F (some o) (.list ds) → (∀ F', F' p = some o → Le F F' → DR F' (.ref p) (.list ds)) → Q (.ref p) (upd H p o)) :
    ∀ p, H p = none → Q (.ref p) (upd H p (.lst vs)) := fun p hp => q p (.lst vs) hp ⟨vs, rfl, dr⟩ fun F' e f => .lst e (dr.mono f)
def pListOf : List PyData → Option PyData
  | [.list xs] => some (.list xs)
  | [.tuple xs] => some (.list xs)
  | _ => none
theorem md_list : MkD X (.type "list") pListOf := .of <| by
  intro pins s σ H xs us Q I r ⟨F, ds, z, le, vx, hf, q⟩
  cases vx with
  | nil => cases hf
  | cons v1 vr =>
    cases vr with
    | cons _ _ => cases v1 <;> cases hf
    | nil =>
      cases v1 with
      | lst e1 r1 => cases hf; exact call_list_of pins s σ H _ us Q I r ⟨_, _, rfl, .inl (SqL.of e1), mk_lst r1 q⟩
      | tup e1 e1' r1 => cases hf; exact call_list_of pins s σ H _ us Q I r ⟨_, _, rfl, .inr (SqT.of e1'), mk_lst r1 q⟩
      | _ => cases hf
end
end CH

set_option Elab.async false
set_option linter.all false
set_option maxRecDepth 100000
set_option maxHeartbeats 2000000
/-! an own error over ValueError whose __init__ says super().__init__(value); self.value = value, and the classes under it -/
namespace CHX
open PySem PySem.W PySem.Calls PyProof.Rows PySem.HandSPX
def iA (p1 p2 : Pos) : Arguments := { posonlyargs := [], args := [{ arg := "self", annotation := none, pos := p1 }, { arg := "value", annotation := none, pos := p2 }], vararg := none, kwonlyargs := [], kw_defaults := [], kwarg := none, defaults := [] }
def iB : List Stmt := [.Expr (.Call (.Attribute (.Call (.Name "super" ⟨5, 8, 5, 13⟩) [] [] ⟨5, 8, 5, 15⟩) "__init__" ⟨5, 8, 5, 24⟩) [.Name "value" ⟨5, 25, 5, 30⟩] [] ⟨5, 8, 5, 31⟩) ⟨5, 8, 5, 31⟩, .Assign [.Attribute (.Name "self" ⟨6, 8, 6, 12⟩) "value" ⟨6, 8, 6, 18⟩] (.Name "value" ⟨6, 21, 6, 26⟩) ⟨6, 8, 6, 26⟩]
def iS : Scope := { kind := .function, names := [(PySem.Str.ofString "self", .local), (PySem.Str.ofString "value", .local), (PySem.Str.ofString "__class__", .free), (PySem.Str.ofString "super", .globalImplicit)], isGenerator := false, isCoroutine := false, more := [] }
/-- the def __init__ at fI of the class at D -/
structure InitTxt (P : Program) (K : Frag) (D fI cc cda : Addr) : Prop where
  fn : ∃ (oc : Value) (od : Option Addr) (doc pm : Value) (an : Option Addr) (ct : Value) (osl : Array (Option Value)) (p1 p2 : Pos),
    K.lookup fI = some ⟨oc, od, .func (ksFn "__init__" "HuntError.__init__" (iA p1 p2) iB iS .none .none doc pm an (.ref cda) ct cc), osl⟩ ∧ codeIn K (.ref cda) "HuntError.__init__" = true
  code : ∃ ccl cdd vs ccs file tf, K.lookup cda = some ⟨ccl, cdd, .fields vs, ccs⟩ ∧ vs[2]? = some (.str file tf) ∧ ((P.main.file : Str) == file) = true
  cell : ∃ cl cld csl, K.lookup cc = some ⟨cl, cld, .cell (some (.ref D)), csl⟩
  dcl : ∃ cdD, clsIn K D = some cdD
  opq : nsIn K cStatics "thirdparty.any" = some none
  top : (P.main.scope.names.lookup ("super" : Str)).isSome = false
/-- a class C under D, no __init__ of its own -/
structure ErrC (K : Frag) (D C fI : Addr) : Prop where
  cls : ∃ nm q N bs bm sn sub ab col dd k0 k1 k2 k3 k5, K.lookup C = some (excClassObj nm q C N bs bm true sn sub ab col dd k0 k1 k2 k3 k5 "ValueError.__new__") ∧ refsVE bm = true
  sa : findIn K (.ref C) "__setattr__" = some (some (.builtin "object.__setattr__"))
  noN : findIn K (.ref C) "value" = some none
  iC : findIn K (.ref C) "__init__" = some (some (.ref fI))
  tC : typeIn K (.ref fI) = some (.type "function")
  kC : keepIn K (.ref C) = true
  exC : subIn K (.ref C) (.type "BaseException") = some true
  tyC : typeIn K (.ref C) = some (.type "type")
  sub : mroIn K C (.ref D) = some true
  sup : ks_superIn K C D "__init__" = some (some (.builtin "ValueError.__init__"))
  ve : subIn K (.ref C) (.type "ValueError") = some true
/-- what __init__ leaves of a fresh exception at x -/
structure InitEnd (h h' : Heap) (x C dx t1 : Addr) (v : Value) : Prop where
  keep : ∀ b o, b ≠ x → h.get? b = some o → h'.get? b = some o
  obj : h'.get? x = some { cls := .ref C, dict := some dx, data := .fields #[.ref t1, .none, .none, .none, .bool false, .none] }
  dbig : h.objs.size ≤ dx
  dne : dx ≠ x
  ns : h'.Ns1 dx (fun y => if y = "value" then some v else none)
structure Made (h h' : Heap) (e C d : Addr) (v : Value) : Prop where
  keep : ∀ b o, h.get? b = some o → h'.get? b = some o
  new : h.objs.size ≤ e
  obj : ∃ oe vs, h'.get? e = some oe ∧ oe.cls = .ref C ∧ oe.dict = some d ∧ oe.data = .fields vs ∧ vs[1]? = some .none
  dbig : h.objs.size ≤ d
  dne : d ≠ e
  ns : h'.Ns1 d (fun y => if y = "value" then some v else none)
theorem one_size (v : Value) : [v].length ≤ sizeLine := by
  rw [sizeLine_eq]
  exact (by decide : 1 ≤ 16777216)
section
variable {prog : Program} {w : World} {A : Around} {E : Value → Shared → Prop} {h : Heap} {g : Array GenState} {d : Drawn} {t : Nat} {os : OsState}
variable {nm q : Str} {C N : Addr} {bs bm : List Value} {hdct : Bool} {sn : List Str} {sub : List Value} {ab : Bool} {col : Option Bool} {dd : Option Addr} {k0 k1 k2 k3 k5 : Option Value}
theorem call_mw {u e t0 : Addr} {rest : List Value} {Q : Value → Shared → Prop}
    (hC : h.get? C = some (excClassObj nm q C N bs bm hdct sn sub ab col dd k0 k1 k2 k3 k5 "ValueError.__new__")) (he : h.get? e = some (excO C t0)) (hu : h.get? u = some (kxs_mw "ValueError.__init__" e)) (hrest : rest.length ≤ sizeLine)
    (hq : ∀ h' t1, (∀ b o, b ≠ e → h.get? b = some o → h'.get? b = some o) → h'.get? e = some (excO C t1) → Q .none ⟨h', g, d, t, os⟩) :
    wpAny (model prog w) A (call (.ref u) rest) Q E ⟨h, g, d, t, os⟩ := by
  refine wpAny_call (codeAny_of_tree ?_)
  show wpAny _ A.in1 (callAny (.ref u) ⟨rest, []⟩) _ _ _
  simp only [callAny]
  refine wpAny_bind (wpAny_load hu ?_)
  simp only [kxs_mw, show (Value.type "method-wrapper" == Value.type "method" || Value.type "method-wrapper" == Value.type "builtin_function_or_method" || Value.type "method-wrapper" == Value.type "method-wrapper") = true by decide, if_true]
  refine W.KFB.if_so (by decide) ?_
  refine wpAny_bind (check_bound_init F.excBase_ValueError.toExcCallFacts hC he rfl ?_)
  refine wpAny_bind (wpAny_pure (wpAny_pure ?_))
  refine ⟨plainId_quiet F.excBase_ValueError.init.plain _, codeAny_builtin F.excBase_ValueError.initEntry ?_⟩
  rw [Around.under_plainId F.excBase_ValueError.init.plain _]
  wp_walk
  refine hq _ h.objs.size (fun b o hb ho => ?_) ?_
  · rw [Heap.get?_update_other _ _ (Ne.symm hb)]
    exact Heap.get?_push_of_some _ ho
  · rw [Heap.get?_update_self _ (Heap.get?_push_of_some _ he) rfl]
    rfl
end
section
variable {P : Program} {w : World} {A : Around} {E : Value → Shared → Prop} {R : Result → Shared → Prop} {s : Shared} {K : Frag} {mg mb : Str → Option Value} {C D fI cc cda : Addr}
theorem init_run (T : InitTxt P K D fI cc cda) (TC : ErrC K D C fI) {x t0 : Addr} {v : Value} (X : K.In s.heap) (hG : s.heap.Ns mainGlobals mg) (hms : mg "super" = none) (hB : s.heap.Ns builtinsNs mb) (hbs : mb "super" = some (.type "super"))
    (hlim : s.heap.NoLimit) (hx : s.heap.get? x = some (excO C t0)) (hnx : K.lookup x = none) (hroom : A.depth < recursionLimit)
    (hq : ∀ h' tk dx t1, InitEnd s.heap h' x C dx t1 v → R (.ok (.ret .none)) { s with heap := h', toks := tk }) :
    codeAny (model P w) A (.call (.ref fI) ⟨[.ref x, v], []⟩) R s := by
  obtain ⟨oc, od, doc, pm, an, ct, osl, p1, p2, ho, hcd⟩ := T.fn
  obtain ⟨nm, q, N, bs, bm, sn, sub, ab, col, dd, k0, k1, k2, k3, k5, hC, hbm⟩ := TC.cls
  obtain ⟨ccl, cdd, cvs, ccs, file, tf, hcode, hvs, hfile⟩ := T.code
  obtain ⟨cl, cld, csl, hcell⟩ := T.cell
  obtain ⟨cdD, hD⟩ := T.dcl
  have hcl : clsIn K C = some { name := nm, bases := bs, mro := .ref C :: bm, ns := N, qualname := q, hasDict := true, slotNames := sn, subclasses := sub, abstract := ab, collection := col, hasDel := false } := by unfold clsIn; rw [hC] <;> rfl
  refine ks_codeAny_call_defAt (fd := ksFn "__init__" "HuntError.__init__" (iA p1 p2) iB iS .none .none doc pm an (.ref cda) ct cc) (body := iB) (binds := [("self", .ref x), ("value", v)])
    hroom (X _ _ ho) rfl hlim (codeRec_of X hcd) rfl (BindsTo.of_eq (by first | rfl | with_unfolding_all rfl)) (by intro y hy; revert y; exact (by decide : ∀ y ∈ iS.names, y.2 ≠ .cell)) (by first | rfl | exact locs rfl | with_unfolding_all rfl) (fun h₁ hn k => ?_) rfl rfl rfl
  have X₁ : K.In h₁ := X.keeps k
  have hx₁ := k _ _ hx
  have hxL : s.heap.objs.size ≠ x := Nat.ne_of_gt (Heap.lt_size hx)
  have hxC : x ≠ C := fun z => by rw [z] at hnx; rw [hC] at hnx; cases hnx
  obtain ⟨oD, hD1, hD2⟩ : ∃ oD, h₁.get? D = some oD ∧ oD.data = .cls cdD := by
    unfold clsIn at hD
    split at hD
    · rename_i c d cd' sl ho
      cases hD
      exact ⟨_, X₁ _ _ ho, rfl⟩
    · cases hD
  refine ks_wpAt_execs_cons (ks_wpAt_Expr_any (ks_wpAt_MethodCall ?_))
  refine ks_wpAt_super_base (env := callEnv (ksFn "__init__" "HuntError.__init__" (iA p1 p2) iB iS .none .none doc pm an (.ref cda) ct cc) s.heap.objs.size fI) (by rfl) (by rfl) (by decide) rfl (X₁ _ _ ho) rfl (by rfl) rfl (X₁ _ _ hcode) rfl hvs hfile T.top ?_
  refine ks_loadName_global (by rfl) (by rfl) (loadGlobal_builtin (hG.keeps k) hms (hB.keeps k) hbs ⟨rfl, ?_⟩)
  refine wpAny_loadName_free (by rfl) (by rfl) (by rfl) ⟨_, X₁ _ _ hcell, rfl⟩ ?_
  refine wpAny_loadName_local (by rfl) (by rfl) hn (v := .ref x) (by first | rfl | with_unfolding_all rfl | kernel_rfl) ?_
  refine ks_wpAny_isType_cls hD1 hD2 ⟨rfl, ?_⟩
  refine ks_wpAny_call_super hD1 hD2 hx₁ rfl (fun c e => by cases e) (looks_mroIn X₁ TC.sub) (fun h₂ e₂ k₂ => ?_)
  have X₂ : K.In h₂ := X₁.keeps k₂
  have hx₂ := k₂ _ _ hx₁
  have hI : Looks (model P w) h₂ (isInstance (.ref x) (.type "ValueError")) true := (show InstAt h₂ x (excO C t0) C none from ⟨hx₂, rfl, rfl, trivial⟩).type.andThen (looks_subIn X₂ TC.ve)
  have hsup := TC.sup
  unfold ks_superIn at hsup
  rw [hcl] at hsup
  refine kxs_getMethod kxs_ValueError e₂ (looks_opaque X₂ T.opq) (l₀ := .ref C :: bm) (fun A Q E s k q => wpAny_bind ((looks_clsIn X₂ hcl) A _ E s k (wpAny_pure q))) rfl X₂ hsup hI hxC (by decide) ?_
  have k₃ : ∀ b o, h₂.get? b = some o → (h₂.push (kxs_mw "ValueError.__init__" x)).get? b = some o := fun b o e => Heap.get?_push_of_some _ e
  have hmw : (h₂.push (kxs_mw "ValueError.__init__" x)).get? h₂.objs.size = some (kxs_mw "ValueError.__init__" x) := Heap.get?_push_at rfl rfl
  have hn₃ : (h₂.push (kxs_mw "ValueError.__init__" x)).Ns s.heap.objs.size _ := (hn.keeps k₂).keeps k₃
  refine kxs_callWith (i := "ValueError.__init__") (x := x) rfl ?_
  refine evalArgs_plain (spliced_cons (wpAny_Name (wpAny_loadName_local (by rfl) (by rfl) hn₃ (v := v) (by first | rfl | with_unfolding_all rfl | kernel_rfl) ?_) (by decide)))
  refine spliced_nil ⟨hmw, ?_⟩
  refine call_mw (k₃ _ _ (k₂ _ _ (k _ _ (X _ _ hC)))) (k₃ _ _ hx₂) hmw (one_size v) fun h₄ t1 k₄ hx₄ => ?_
  -- self.value = value
  have hn₄ : h₄.Ns s.heap.objs.size _ := hn₃.at fun o q => k₄ _ _ hxL q
  have X₄ : K.In h₄ := fun a o e => k₄ a o (fun z => by rw [z, hnx] at e; cases e) (k₃ _ _ (k₂ _ _ (k _ _ (X _ _ e))))
  refine ks_wpAt_execs_cons (wpAt_of_wpAny (plainObj_wpAny_Assign_Attribute ?_))
  refine wpAny_Name (wpAny_loadName_local (by rfl) (by rfl) hn₄ (v := v) (by first | rfl | with_unfolding_all rfl | kernel_rfl) ?_) (by decide)
  refine wpAny_Name (wpAny_loadName_local (by rfl) (by rfl) hn₄ (v := .ref x) (by first | rfl | with_unfolding_all rfl | kernel_rfl) ?_) (by decide)
  refine set_plain X₄ (ox := excO C t1) (od := none) ⟨hx₄, rfl, rfl, trivial⟩ TC.sa ?_
  refine exc_osa X₄ hx₄ hcl (show refsVE (.ref C :: bm) = true from hbm) rfl TC.noN (fun h₅ tk₅ dx k₅ dn dne hx₅ hn₅ => ?_)
  refine wpAt_of_wpAny (wpAny_execs_nil (hq h₅ tk₅ dx t1 ⟨fun b o hb e => k₅ b o hb (k₄ b o hb (k₃ _ _ (k₂ _ _ (k _ _ e)))), hx₅, ?_, dne, hn₅⟩))
  have z1 : s.heap.objs.size < h₄.objs.size := hn₄.lt
  exact Nat.le_of_lt (Nat.lt_of_lt_of_le z1 dn)
theorem made (T : InitTxt P K D fI cc cda) (TC : ErrC K D C fI) {v : Value} (X : K.In s.heap) (hG : s.heap.Ns mainGlobals mg) (hms : mg "super" = none) (hB : s.heap.Ns builtinsNs mb) (hbs : mb "super" = some (.type "super")) (hlim : s.heap.NoLimit) (hroom : A.depth + 1 < recursionLimit)
    (hq : ∀ h' tk e d, Made s.heap h' e C d v → R (.ok (.ret (.ref e))) { s with heap := h', toks := tk }) :
    codeAny (model P w) A (.call (.ref C) ⟨[v], []⟩) R s := by
  obtain ⟨nm, q, N, bs, bm, sn, sub, ab, col, dd, k0, k1, k2, k3, k5, hC, hbm⟩ := TC.cls
  obtain ⟨hp, g, dr, tk, os⟩ := s
  have k : ∀ b o, hp.get? b = some o → ((hp.push (kdv_tup [v])).push (excO C hp.objs.size)).get? b = some o := fun b o e => Heap.get?_push_of_some _ (Heap.get?_push_of_some _ e)
  have hget : ((hp.push (kdv_tup [v])).push (excO C hp.objs.size)).get? (hp.objs.size + 1) = some (excO C hp.objs.size) := by heap_get
  have hnx : K.lookup (hp.objs.size + 1) = none := by
    cases e : K.lookup (hp.objs.size + 1) with
    | none => rfl
    | some o =>
      have z : hp.get? (hp.objs.size + 1) = some o := X _ _ e
      exact absurd (Nat.lt_of_succ_lt (Heap.lt_size z)) (Nat.lt_irrefl _)
  refine call_own F.excBase_ValueError (fun X => refsVE_contains X bm hbm) (X _ _ hC) (looks_findIn X TC.iC) (fun self => bind_fn X self TC.tC) (one_size v) ?_
  refine init_run (s := ⟨(hp.push (kdv_tup [v])).push (excO C hp.objs.size), g, dr, tk, os⟩) T TC (X.keeps k) (hG.keeps k) hms (hB.keeps k) hbs (hlim.keeps k) hget hnx ?_ fun h' tk' dx t1 ⟨k', hx, dn, dne, hns⟩ => ?_
  · show A.depth + 1 < recursionLimit
    exact hroom
  · have old : ∀ b o, hp.get? b = some o → h'.get? b = some o := fun b o e => k' b o (Nat.ne_of_lt (Nat.lt_succ_of_lt (Heap.lt_size e))) (k b o e)
    have z : hp.objs.size + 1 + 1 ≤ dx := by
      first
        | (simpa only [Heap.size_push] using dn)
        | exact dn
        | (have q := dn; rw [Heap.size_push, Heap.size_push] at q; exact q)
    exact ⟨rfl, hq h' tk' (hp.objs.size + 1) dx ⟨old, Nat.le_succ _, ⟨_, _, hx, rfl, rfl, rfl, rfl⟩, Nat.le_trans (Nat.le_trans (Nat.le_succ _) (Nat.le_succ _)) z, dne, hns⟩⟩
end
end CHX
namespace L2
open PySem PySem.Spec PyProof.Rows
theorem relO_val {v : V} {v' : Value} (r : RelV v v') (f : Str) : RelO (List.lookup f [(("value" : Str), v)]) (if f = "value" then some v' else none) := by
  by_cases hw : f = "value"
  · subst hw
    rw [if_pos rfl]
    have q : List.lookup ("value" : Str) [(("value" : Str), v)] = some v := by simp [List.lookup]
    rw [q]
    exact r
  · rw [if_neg hw]
    have qw : (f == ("value" : Str)) = false := by simpa using hw
    have q2 : List.lookup f [(("value" : Str), v)] = none := by simp [List.lookup, qw]
    rw [q2]
    trivial
section
variable {X : Cx} {C D fI cc cda : Addr}
/-- C(e) -/
def tMkErr (C : Addr) (ta : TA) : L2.St → Hp → XK → Prop := fun σ H Q => ta σ H fun vs H1 => ∃ v, vs = [v] ∧ ∀ d, H1 d = none → Q (.ref C) (some d) (upd H1 d (.xd [(("value" : Str), v)]))
theorem pmk_err {x : Str} {a : Expr} {ta : TA} {p pos : Pos} {k : Nat} (T : CHX.InitTxt X.prog X.K D fI cc cda) (TC : CHX.ErrC X.K D C fI) (gC : X.mg x = some (.ref C)) (hms : X.mg "super" = none) (hr : Room k X.A) (ha : PA X [a] ta) (hg : Gl X x := by rfl) (hdb : (x == ("__debug__" : Str)) = false := by decide)
    (he : starEach (a :: []) X.env = (false, eval a X.env) :: starEach [] X.env := by rfl) (hpl : (backTo pos (starEach [] X.env)).any (·.1) = false := by rfl) :
    PMk X (.Call (.Name x p) [a] [] pos) (tMkErr C ta) := by
  intro pins s σ H Q I h
  refine wpAny_Call_Name_kw (ld_glob I hg gC ?_ hdb)
  refine PySem.W.callWith_K (h₀ := X.base) I.ok.mod.kin TC.kC (thn (ha.run pos pins s σ H _ I h) fun us s1 hh => ?_) he hpl
  obtain ⟨vs, H1, I1, r1, v, ev, q1⟩ := hh
  subst ev
  refine ⟨I1.kIn, ?_⟩
  cases r1 with
  | cons rv rn =>
    rename_i v' us'
    cases rn
    show wpAny _ _ (call (.ref C) [v']) _ _ _
    have hlim := I1.nolimit
    obtain ⟨mb, hb1, hb2⟩ := I1.mod.blt
    have hG := I1.mod.glob.keeps I1.bk
    have hB := hb1.keeps I1.bk
    have hbs : mb "super" = some (.type "super") := (hb2 _ (by decide)).trans (by decide +kernel)
    obtain ⟨hp, g, dr, tk, os⟩ := s1
    refine wpAny_call (CHX.made T TC I1.kIn hG hms hB hbs hlim (by have := hr.dp; omega) fun h' tk' e d M => ?_)
    show MkP X pins σ Q (.ref e) ⟨h', g, dr, tk', os⟩
    obtain ⟨oe, fv, hoe, hc, hd, hdat, h1⟩ := M.obj
    have hns := M.ns
    obtain ⟨G', g1, g2⟩ := restrict h' fun b => decide (b ≠ e)
    have gk : ∀ b, b ≠ e → G'.get? b = h'.get? b := fun b hb => g1 b (decide_eq_true hb)
    have ge : G'.get? e = none := g2 e (by simp)
    have old : ∀ b o, hp.get? b = some o → G'.get? b = some o := fun b o q => (gk b (Nat.ne_of_lt (Nat.lt_of_lt_of_le (Heap.lt_size q) M.new))).trans (M.keep b o q)
    have ob : ObjOk X.prog X.w (upd H1 d (.xd [(("value" : Str), v)])) G' d (.xd [(("value" : Str), v)]) :=
      ⟨_, hns.at (fun o q => (gk d M.dne).trans q), fun f => relO_val rv f⟩
    have J : Inv X pins σ (upd H1 d (.xd [(("value" : Str), v)])) ⟨G', g, dr, tk', os⟩ := I1.laid (t' := tk') old M.dbig ob
    refine ⟨e, oe, fv, ⟨G', g, dr, tk', os⟩, _, .ref C, some d, rfl, J, fun b o q => ?_, ge, hoe, ⟨hc, hd⟩, hdat, h1, ?_, rfl, I1.bare, raises_own TC.exC TC.tyC, q1 d (I1.hok.fresh M.dbig)⟩
    · by_cases hb : b = e
      · have q' : G'.get? b = some o := q
        rw [hb, ge] at q'; cases q'
      · exact (gk b hb).symm.trans q
    · rw [upd_ne (Ne.symm M.dne)]
      exact I1.hok.fresh M.new
/-! ### try: body, except x as n: y = n -/
/-- what the clause wishes of an exception of the body; it is always caught, and kept in slot j -/
def wCau (K : PySem.W.Frag) (c : Value) (i j : Nat) (D : Ends) : WX := fun cls d σ H => PySem.W.exmOne K cls c = some true ∧ ∃ dd, d = some dd ∧
  ∀ a, H a = none → D.nx (((σ.set i (some (.ref a))).set j (some (.ref a))).set i none) (upd H a (CH.XO cls dd a))
theorem ps_try_cau {x n y : Str} {c : Value} {i j : Nat} {body : List Stmt} {np yp qp pos' pos1 pos : Pos} {tb : WX → TS}
    (hs : X.stack = X.env :: X.outer) (hf : X.env.frame = some X.env.locals) (hex : X.ex = []) (hN : X.N.Nodup) (hi : X.N[i]? = some n) (hln : X.env.kindOf n = some .local) (hj : X.N[j]? = some y) (hly : X.env.kindOf y = some .local) (hij : i ≠ j) (hc : Names X x c) (hdn : (n == ("__debug__" : Str)) = false) (hcn : (n == ("__classdict__" : Str)) = false)
    (hb : ∀ (W : WX) (pn : List (Addr × Obj)) (xe : Value → Shared → Prop), Takes (X.tr pn xe) W → PassesOwn (model X.prog X.w) X.A X.env xe → PSs (X.tr pn xe) body (tb W)) :
    PS X (.Try body [.ExceptHandler (some (.Name x np)) (some n) [.Assign [.Name y yp] (.Name n qp) pos1] pos'] [] [] pos) (fun D σ H => tb (wCau X.K c i j D) D σ H) := by
  refine ⟨fun pins s σ H D I h => ?_⟩
  have ok := I.ok
  have hfr : X.A.frames = some (X.env :: X.outer) := by rw [ok.frames, hs]
  have hloc : Loc X.env.scope n := .inl hln
  refine wpAny_Try_except ?_
  refine wpAny_mono ((hb (wCau X.K c i j D) (X.pn ++ pins) (fun e s₁ => wpAny (model X.prog X.w) X.A (noteFrame e X.env) (fun _ s₂ => wpAny (model X.prog X.w) X.A (setFlight e none) (fun _ s₃ =>
    wpAny (model X.prog X.w) X.A (handleBy e X.env [.ExceptHandler (some (.Name x np)) (some n) [.Assign [.Name y yp] (.Name n qp) pos1] pos']) (SP X pins D) X.xe s₃) X.xe s₂) X.xe s₁) (fun u s' xx => ?_) PassesOwn.looking).run [] s σ H D (I.toTry _) h) (fun f s1 hsp => ?_) (fun e s1 he => he)
  · -- the catch
    obtain ⟨a, B, sI, pins', σ', H', cls, d, rfl, J', nb, up, sky, na, os, ag, hb1, dd, rfl, hyes⟩ := xx
    have J : Inv X pins σ' H' sI := J'.ofTry ok
    have sky' : Sky B (X.env :: X.outer) a (Zc cls (some dd)) X.env.locals s'.heap := by rw [← hs]; exact sky
    show wpAny (model X.prog X.w) X.A (noteFrame (.ref a) X.env) _ _ _
    refine Sky.land Zc.steady hfr hf sky' fun h3 fl3 up3 => ?_
    have J3 : Inv X pins σ' H' { s' with heap := h3 } := J.landed nb fl3.1 (up.trans up3) os ag
    obtain ⟨oe3, vs3, he3, hz3, hd3⟩ := fl3.there
    have notFr : ∀ {h : Heap} {o : Obj} {vs : Array Value}, h.FunFrames B (X.env :: X.outer) → h.get? a = some o → o.data = .fields vs → a ∉ frs (X.env :: X.outer) := fun {h o vs} ff e dd hm => by
      obtain ⟨_, o', e', hnf⟩ := ff.mem hm
      rw [e] at e'; cases e'
      exact hnf _ dd
    have nfr := notFr fl3.2.2.1 he3 hd3
    have nL : a ≠ X.env.locals := fun z => nfr (List.mem_filterMap.mpr ⟨X.env, List.mem_cons_self, by rw [hf, z]⟩)
    have nF : a ∉ X.fs := fun hm => by
      obtain ⟨e, he, q⟩ := List.mem_filterMap.mp hm
      exact nfr (List.mem_filterMap.mpr ⟨e, List.mem_cons_of_mem _ he, q⟩)
    have aB : B.get? a = none := fl3.2.1
    have aI : sI.heap.get? a = none := by
      cases e : sI.heap.get? a with
      | none => rfl
      | some o =>
        have z := nb a o e (by rw [hs]; exact nfr)
        rw [aB] at z; cases z
    have S3 := J3.suite he3 hd3 na nL nF
    refine wpAny_handleBy_cons (codeAny_handlers_test ?_) (by intro q; cases q)
    have LT : PySem.W.Looks (model X.prog X.w) h3 (typeOf (.ref a)) cls := fun A Q E s k q => wpAny_typeOf_ref (k _ _ he3) (by rw [hz3.1]; exact q)
    have LM := PySem.W.exm_one (M := model X.prog X.w) (J3.kIn) LT hb1
    have test : ∀ {Q : Value → Shared → Prop} {E : Value → Shared → Prop}, Q c { s' with heap := h3 } → wpAny (model X.prog X.w) (X.A.mark (some (.ref a))) (eval (.Name x np) X.env) Q E { s' with heap := h3 } := fun {Q E} q => by
      obtain ⟨hg, hdbg, hm | ⟨hm, hv, hnn⟩⟩ := hc
      · exact ld_glob (X := X.suite a ((a, oe3) :: (X.pn ++ pins))) S3 hg hm q hdbg
      · exact ld_blt (X := X.suite a ((a, oe3) :: (X.pn ++ pins))) S3 hg hm hv q hnn hdbg
    refine test (LM.here ?_)
    refine codeAny_handlers_suite_as ?_
    refine HandSPX.lands_againZ fl3 fun h4 fl4 up4 => ?_
    have J4 : Inv X pins σ' H' { s' with heap := h4 } := J.landed nb fl4.1 ((up.trans up3).trans up4) os ag
    obtain ⟨oe4, vs4, he4, hz4, hd4⟩ := fl4.there
    have S4 := J4.suite he4 hd4 na nL nF
    refine store_ok (X := X.suite a ((a, oe4) :: (X.pn ++ pins))) (v := .ref a) S4 hN hi hloc rfl (fun s5 S5 => ?_) (.inr hln)
    -- the suite: y = n
    have hsu : PSs (X.suite a ((a, oe4) :: (X.pn ++ pins))) [.Assign [.Name y yp] (.Name n qp) pos1] (tAsg (tVar i) (gName j)) :=
      pss_one (ps_set (X := X.suite a ((a, oe4) :: (X.pn ++ pins))) (i := j) hN hj (.inl hly) (pe_var (X := X.suite a ((a, oe4) :: (X.pn ++ pins))) hi (.inl hln) hdn hcn) (by rfl) (.inr hly))
    refine wpAny_mono (hsu.run [] s5 _ H' { nx := fun σ6 H6 => H6 = H' ∧ σ6 = (σ'.set i (some (V.ref a))).set j (some (.ref a)), rt := fun _ _ => False, bk := fun _ _ => False, ct := fun _ _ => False } S5 ?_) (fun f s6 hsp => ?_) (fun _ _ z => False.elim z)
    · have hl : i < σ'.length := by rw [J4.len]; exact (List.getElem?_eq_some_iff.mp hi).1
      exact ⟨.ref a, by rw [List.getElem?_set_self hl], rfl, rfl⟩
    cases f with
    | next =>
      obtain ⟨σ6, H6, S6, rfl, rfl⟩ := hsp
      refine gone_ok (X := X.suite a ((a, oe4) :: (X.pn ++ pins))) S6 hN hi hln fun s7 S7 => ?_
      have J7 : Inv X pins _ H6 s7 := S7.unsuite ok
      obtain ⟨p1, p2, p3, p4, p5⟩ := S7.pin (a, oe4) (by simp)
      refine ⟨_, upd H6 a (CH.XO cls dd a), ?_, hyes a na⟩
      have a0 : X.s_0.heap.get? a = none := by
        cases e : X.s_0.heap.get? a with
        | none => rfl
        | some o =>
          obtain ⟨o', z⟩ := J.base.there a o e (by rw [hex]; exact fun z => nomatch z)
          rw [aI] at z; cases z
      have ne0 : ∀ b o, X.s_0.heap.get? b = some o → b ≠ a := fun b o e z => by rw [z, a0] at e; cases e
      have neN : ∀ {b u}, H6 b = some u → b ≠ a := fun {b u} e z => by rw [z, p2] at e; cases e
      refine ⟨J7.ok, J7.os, J7.bare, ⟨J7.base.keep, J7.base.slot, fun b o e n hx => ?_, J7.base.there, fun b xs e => ?_, fun b o u e => ?_, fun b ps e => ?_⟩, J7.loc, J7.cell, ?_, fun y c e => ?_, fun q hq => ?_, fun b u e => ?_, J7.len⟩
      · rw [upd_ne (ne0 b o e)]; exact J7.base.free b o e n hx
      · have z := J7.base.tups b xs e
        rw [upd_ne (neN z)]; exact z
      · have z := J7.base.frzs b o u e
        rw [upd_ne (neN z)]; exact z
      · obtain ⟨m, z⟩ := J7.base.tbls b ps e
        exact ⟨m, by rw [upd_ne (neN z)]; exact z⟩
      · rw [upd_ne (Ne.symm nL)]; exact J7.free
      · have hc : c ≠ a := fun z => by
          obtain ⟨v, o, ho, hd⟩ := J7.cell y c e
          rw [z, p1] at ho
          cases ho
          exact p5 _ hd
        rw [upd_ne hc]; exact J7.freeC y c e
      · obtain ⟨z1, z2, z3, z4, z5⟩ := J7.pin q hq
        have hqa : q.1 ≠ a := fun z => by
          have z6 := (J.pin q hq).1
          rw [z, aI] at z6; cases z6
        exact ⟨z1, by rw [upd_ne hqa]; exact z2, z3, z4, z5⟩
      · by_cases hb : b = a
        · subst hb
          rw [upd_same] at e
          cases e
          exact CH.xo_ok p1 hz4 hd4
        · rw [upd_ne hb] at e
          exact (J7.hok b u e).stay (fun _ _ _ q => q) (fun c q => by rw [upd_ne (neN q)]; exact q) fun c xs q => by rw [upd_ne (neN q)]; exact q
    | brk =>
      obtain ⟨σ6, H6, S6, q6⟩ := hsp
      exact q6.elim
    | cont =>
      obtain ⟨σ6, H6, S6, q6⟩ := hsp
      exact q6.elim
    | ret u =>
      obtain ⟨v6, σ6, H6, S6, r6, q6⟩ := hsp
      exact q6.elim
  · cases f with
    | next =>
      obtain ⟨σ', H', J', q⟩ := hsp
      exact wpAny_execs_nil ⟨σ', H', J'.ofTry ok, q⟩
    | brk =>
      obtain ⟨σ', H', J', q⟩ := hsp
      exact ⟨σ', H', J'.ofTry ok, q⟩
    | cont =>
      obtain ⟨σ', H', J', q⟩ := hsp
      exact ⟨σ', H', J'.ofTry ok, q⟩
    | ret u =>
      obtain ⟨v, σ', H', J', r, q⟩ := hsp
      exact ⟨v, σ', H', J'.ofTry ok, r, q⟩
end
end L2

set_option Elab.async false
set_option linter.all false
set_option maxRecDepth 100000
namespace CH
open PySem L2
/-- what the written part says of the errors' classes: n of them, g.cls tells where -/
structure ErrX (P : Program) (K : PySem.W.Frag) (mg : Str → Option Value) (g : Glob) (n : Nat) (D : Addr) : Prop where
  init : ∃ fI cc cda, CHX.InitTxt P K D fI cc cda ∧ ∀ c, CHX.ErrC K D (g.cls c) fI
  nosup : mg "super" = none
  hcl : ∀ c, (PySem.W.clsIn K (g.cls c)).isSome = true
  ga : ∀ c, PySem.W.findIn K (.ref (g.cls c)) "__getattribute__" = some (some (.builtin "BaseException.__getattribute__"))
  gg : ∀ c, PySem.W.findIn K (.ref (g.cls c)) "__getattr__" = some none
  exC : ∀ c, PySem.W.subIn K (.ref (g.cls c)) (.type "BaseException") = some true
  hdC : ∀ c, PySem.W.hasDictIn K (g.cls c) = true
  ha : ∀ c, PySem.W.findIn K (.ref (g.cls c)) "__class__" = some (some (.builtin "object.__class__"))
  hn : PySem.W.specialIn K (.builtin "object.__class__") "__get__" = some (some (.builtin "getset_descriptor.__get__"))
  ht : PySem.W.takesIn K (.builtin "object.__class__") = some true
  hm : ∀ c, PySem.W.mroIn K (g.cls c) (.type "object") = some true
  kit : ∀ c d, c < n → d < n → PySem.W.kitOne K (.ref (g.cls c)) (.ref (g.cls d)) = some (decide (c = d))
  exm : ∀ c, PySem.W.exmOne K (.ref (g.cls c)) (.ref D) = some true
  mgD : mg "HuntError" = some (.ref D)
  hno : ∀ c, PySem.W.findIn K (.ref (g.cls c)) "value" = some none
def sRaise (c : Nat) (a : E) : S := fun env h => (a env h).st env fun w h1 => .exc c w env h1
def sTry (i j : Nat) (b : S) : S := fun env h => match b env h with
  | .exc c p env' h' => .nx (((env'.set i none).set j (some (.exc c p))).set i none) h'
  | .nx env' h' => .nx env' h'
  | .ret w h' => .ret w h'
  | .brk env' h' => .brk env' h'
  | .cnt env' h' => .cnt env' h'
  | .stk => .stk
def sIsX (n d : Nat) (a : E) : E := fun env h => (a env h).bind fun w h1 => match w with
  | .exc c _ => if c < n then .ok (.d (.bool (decide (c = d)))) h1 else .stk
  | _ => .stk
def sVal (a : E) : E := fun env h => (a env h).bind fun w h1 => match w with
  | .exc _ p => .ok p h1
  | _ => .stk
section
variable {X : Cx} {g : Glob} {Wx : WX} {n : Nat} {D : Addr} {x : Str} {a : Expr} {sa : E} {p pos pos2 : Pos} {k : Nat}
theorem ds_raise (c : Nat) (T : ErrX X.prog X.K X.mg g n D) (gC : X.mg x = some (.ref (g.cls c))) (hr : Room k X.A) (tk : Takes X Wx) (hc : X.calm = true) (ha : PE X a (tD g Wx sa)) (hg : Gl X x := by rfl) (hdb : (x == ("__debug__" : Str)) = false := by decide)
    (hs : starEach [a] X.env = (false, eval a X.env) :: starEach [] X.env := by rfl) (hpl : (backTo pos (starEach [] X.env)).any (·.1) = false := by rfl) :
    PS X (.Raise (some (.Call (.Name x p) [a] [] pos)) none pos2) (tS g Wx (sRaise c sa)) := by
  obtain ⟨fI, cc, cda, hi, hC⟩ := T.init
  refine ps_mono (ps_raise hc tk (pmk_err hi (hC c) gC T.nosup hr (pa_cons ha pa_nil hs) hg hdb hs hpl)) fun D σ H h => ?_
  refine (tS.in (rel := WR g) (k := fun env w h1 => .exc c w env h1) h).mono ?_
  rintro v H1 ⟨F, ρ, env, h1, w, er, rl, r, p⟩
  refine ⟨v, rfl, fun d hd => ?_⟩
  have gr := Gr.new (o := .xd [(("value" : Str), v)]) rl.le hd
  exact p v d σ _ _ ρ (gr.ext ρ) (r.mono gr.f fun _ _ z => z) (er.ext (gr.ext ρ)) (gr.rl rl) upd_same
theorem ds_try {nm y : Str} {i j : Nat} {body : List Stmt} {np yp qp pos' pos1 : Pos} {sb : S} (T : ErrX X.prog X.K X.mg g n D)
    (hs : X.stack = X.env :: X.outer) (hf : X.env.frame = some X.env.locals) (hex : X.ex = []) (hN : X.N.Nodup) (hi : X.N[i]? = some nm) (hln : X.env.kindOf nm = some .local) (hj : X.N[j]? = some y) (hly : X.env.kindOf y = some .local) (hij : i ≠ j) (hg : Gl X "HuntError") (hdn : (nm == ("__debug__" : Str)) = false) (hcn : (nm == ("__classdict__" : Str)) = false)
    (hb : ∀ (W : WX) (pn : List (Addr × Obj)) (xe : Value → Shared → Prop), Takes (X.tr pn xe) W → PassesOwn (model X.prog X.w) X.A X.env xe → PSs (X.tr pn xe) body (tS g W sb)) :
    PS X (.Try body [.ExceptHandler (some (.Name "HuntError" np)) (some nm) [.Assign [.Name y yp] (.Name nm qp) pos1] pos'] [] [] pos) (tS g Wx (sTry i j sb)) := by
  refine ps_mono (ps_try_cau (tb := fun W => tS g W sb) hs hf hex hN hi hln hj hly hij ⟨hg, by decide, .inl T.mgD⟩ hdn hcn hb) fun Dn σ H ⟨F, ρ, env, h, er, rl, p⟩ => ?_
  refine ⟨F, ρ, env, h, er, rl, ?_⟩
  unfold sTry at p
  cases z : sb env h with
  | nx env' h' => rw [z] at p; exact p
  | ret w h' => rw [z] at p; exact p
  | brk env' h' => rw [z] at p; exact p
  | cnt env' h' => rw [z] at p; exact p
  | stk => rw [z] at p; exact p.elim
  | exc c q env' h' =>
    rw [z] at p
    intro v dd σ' H' F' ρ' x wr er' rl' hd
    refine ⟨T.exm c, dd, rfl, fun e he => ?_⟩
    have gr := Gr.new (o := XO (.ref (g.cls c)) dd e) rl'.le he
    have er2 := er'.ext (gr.ext ρ')
    refine p _ _ _ ρ' (x.trans (gr.ext ρ')) ?_ (gr.rl rl')
    exact ((er2.clear i (some (V.ref e))).set j (w := .exc c q) ⟨e, dd, v, rfl, upd_same, gr.f _ _ hd, wr.mono gr.f fun _ _ z => z⟩).clear i none
theorem inst_of {P : Program} {w : World} {H : Hp} {h : Heap} {e dd C : Addr} {v : V} (hok : HOk P w H h) (he : H e = some (XO (.ref C) dd e)) (hd : H dd = some (.xd [("value", v)])) : ∃ oe od u, PySem.W.InstAt h e oe C (some od) ∧ RelV v u ∧ PySem.W.lookIn "value" od = some (some u) := by
  obtain ⟨⟨oe, vs, h1, hz, h2⟩, _⟩ := (show ObjOk P w H h e (XO (.ref C) dd e) from hok e _ he)
  obtain ⟨mA, hns, hr⟩ := (show ObjOk P w H h dd (.xd [("value", v)]) from hok dd _ hd)
  obtain ⟨od, ho, hl⟩ := lookIn_ns hns
  have l : List.lookup ("value" : Str) [(("value" : Str), v)] = some v := by simp [List.lookup]
  obtain ⟨u, hu, ru⟩ := RelO.some_of (v := v) (o := mA "value") (by rw [← l]; exact hr "value")
  exact ⟨oe, od, u, ⟨h1, hz.1, by unfold PySem.W.notCls; rw [h2] <;> rfl, by rw [hz.2]; exact ho⟩, ru, by rw [hl, hu]⟩
def rIsX (X : Cx) (g : Glob) (n : Nat) : List V → Hp → VK → Prop := fun xs H Q => ∃ e dd c d v, c < n ∧ d < n ∧ xs = [.ref e, .ref (g.cls d)] ∧ H e = some (XO (.ref (g.cls c)) dd e) ∧ H dd = some (.xd [("value", v)]) ∧ Q (.bl (decide (c = d))) H
theorem call_isX (T : ErrX X.prog X.K X.mg g n D) : CallR X (.builtin "isinstance") (rIsX X g n) := by
  intro pins s σ H xs us Q I r h
  obtain ⟨e, dd, c, d, v, hc, hd, rfl, he, hdd, q⟩ := h
  obtain ⟨u1, u2, rfl, r1, r2⟩ := vals2 r
  cases (show u1 = Value.ref e from r1)
  cases (show u2 = Value.ref (g.cls d) from r2)
  obtain ⟨oe, od, u, J, _⟩ := inst_of I.hok he hdd
  exact PySem.W.kia_one (PySem.W.kitx_exc (T.hcl c) (T.ga c) (T.gg c) (T.exC c) (T.ha c) T.hn T.ht (T.hm c)) I.kIn J (T.kit c d hc hd) (fun z => nomatch z) fun tk => ⟨.bl _, H, I.tok tk, rfl, q⟩
theorem de_isX (d : Nat) (T : ErrX X.prog X.K X.mg g n D) (gC : X.mg x = some (.ref (g.cls d))) (hd : d < n) (hm : X.mg "isinstance" = none) (ha : PE X a (tD g Wx sa)) {p2 : Pos} (hg : Gl X "isinstance" := by rfl) (hg2 : Gl X x := by rfl) (hdb2 : (x == ("__debug__" : Str)) = false := by decide)
    (hv : bootBuiltins "isinstance" = some (.builtin "isinstance") := by decide +kernel)
    (hs : starEach [a, .Name x p2] X.env = (false, eval a X.env) :: starEach [.Name x p2] X.env := by rfl) (hs2 : starEach [.Name x p2] X.env = (false, eval (.Name x p2) X.env) :: starEach [] X.env := by rfl)
    (hpl : (backTo pos (starEach [.Name x p2] X.env)).any (·.1) = false := by rfl) :
    PE X (.Call (.Name "isinstance" p) [a, .Name x p2] [] pos) (tD g Wx (sIsX n d sa)) := by
  refine pe_mono (pe_callB (call_isX T) hg hm hv (pa_cons ha (pa_cons (pe_glob (v := .ref (g.cls d)) hg2 gC rfl hdb2) pa_nil hs2) hs) (by decide) (by decide) hs hpl) fun σ H Q h => ?_
  refine (tG.of (rel2 := WR g) (a := sa) h (fun _ _ => rfl)).mono ?_
  rintro v H1 ⟨F, ρ, env, h1, w, er, rl, r, q⟩
  cases w with
  | exc c pv =>
    obtain ⟨e, dd, v', rfl, h2, h3, _⟩ := r
    by_cases hc : c < n
    · have q : Po g Wx σ (WR g) H1 F ρ Q (if c < n then .ok (.d (.bool (decide (c = d)))) h1 else .stk) := q
      rw [if_pos hc] at q
      exact ⟨e, dd, c, d, v', hc, hd, rfl, rl.le _ _ h2, rl.le _ _ h3, q _ H1 F ρ Ext.refl (.bl _) rl⟩
    · have q : Po g Wx σ (WR g) H1 F ρ Q (if c < n then .ok (.d (.bool (decide (c = d)))) h1 else .stk) := q
      rw [if_neg hc] at q
      exact q.elim
  | _ => exact q.elim
theorem de_value (T : ErrX X.prog X.K X.mg g n D) (ha : PE X a (tD g Wx sa)) (hb : attributeBase a "value" X.env (eval a X.env) = eval a X.env := by rfl) :
    PE X (.Attribute a "value" pos) (tD g Wx (sVal sa)) := by
  refine ⟨fun pins s σ H Q I h => ?_⟩
  refine attr_of hb (thn (ha.run pins s σ H _ I (tG.of (rel2 := WR g) (a := sa) h (fun _ _ => rfl))) fun u s1 hh => ?_)
  obtain ⟨v, H1, I1, rx, F, ρ, env, h1, w, er, rl, r, q⟩ := hh
  cases w with
  | exc c pv =>
    obtain ⟨e, dd, v', rfl, h2, h3, r'⟩ := r
    cases (show u = Value.ref e from rx)
    obtain ⟨oe, od, u, J, ru, hl⟩ := inst_of I1.hok (rl.le _ _ h2) (rl.le _ _ h3)
    exact HandSPX.exc_get I1.kIn J (T.ga c) (T.gg c) (T.exC c) (PySem.W.findObj_own (T.hdC c) (T.hno c) rfl hl) (handed_of ru) ⟨v', H1, I1.tok _, ru, q _ H1 F ρ Ext.refl r' rl⟩
  | _ => exact q.elim
end
end CH

set_option Elab.async false
set_option linter.all false
set_option maxRecDepth 100000
namespace CH
open PySem L2
/-! ### sorting data -/
section
variable {α β : Type}
def insL (le : α → α → Bool) (x : α) : List α → List α
  | [] => [x]
  | y :: ys => if le x y then x :: y :: ys else y :: insL le x ys
def isrt (le : α → α → Bool) : List α → List α
  | [] => []
  | x :: xs => insL le x (isrt le xs)
theorem insL_map (le : α → α → Bool) (le' : β → β → Bool) (f : α → β) (h : ∀ a b, le a b = le' (f a) (f b)) (x : α) : ∀ l : List α, (insL le x l).map f = insL le' (f x) (l.map f)
  | [] => rfl
  | y :: ys => by
    unfold insL
    rw [List.map_cons]
    show List.map f (if le x y = true then x :: y :: ys else y :: insL le x ys) = if le' (f x) (f y) = true then f x :: f y :: ys.map f else f y :: insL le' (f x) (ys.map f)
    rw [← h x y]
    split
    · rfl
    · rw [List.map_cons, insL_map le le' f h x ys]
theorem isrt_map (le : α → α → Bool) (le' : β → β → Bool) (f : α → β) (h : ∀ a b, le a b = le' (f a) (f b)) : ∀ l : List α, (isrt le l).map f = isrt le' (l.map f)
  | [] => rfl
  | x :: xs => by
    show (insL le x (isrt le xs)).map f = insL le' (f x) (isrt le' (xs.map f))
    rw [insL_map le le' f h, isrt_map le le' f h xs]
theorem insL_at (le : α → α → Bool) (x : α) : ∀ (l1 l2 : List α), (∀ b ∈ l1, le x b = false) → (∀ b ∈ l2, le x b = true) → insL le x (l1 ++ l2) = l1 ++ x :: l2
  | [], [], _, _ => rfl
  | [], y :: ys, _, h => by
    show insL le x (y :: ys) = _
    unfold insL
    rw [if_pos (h y List.mem_cons_self)] <;> rfl
  | y :: ys, l2, h1, h2 => by
    show insL le x (y :: (ys ++ l2)) = _
    unfold insL
    rw [if_neg (by rw [h1 y List.mem_cons_self]; exact Bool.false_ne_true), insL_at le x ys l2 (fun b hb => h1 b (List.mem_cons_of_mem _ hb)) h2] <;> rfl
theorem isrt_merge (le : α → α → Bool) (T : PySem.W.TotalLe le) : ∀ l : List α, l.mergeSort le = isrt le l
  | [] => by simp [isrt]
  | x :: xs => by
    obtain ⟨l1, l2, e1, e2, h⟩ := List.mergeSort_cons (le := le) (fun a b c h1 h2 => T.trans a b c h1 h2) (fun a b => Bool.or_eq_true_iff.mpr (T.total a b)) x xs
    have hs := PySem.W.sort_pairwise T (x :: xs)
    rw [e1] at hs
    rw [e1]
    show _ = insL le x (isrt le xs)
    rw [← isrt_merge le T xs, e2]
    refine (insL_at le x l1 l2 (fun b hb => by simpa using h b hb) fun b hb => ?_).symm
    have h3 := (List.pairwise_append.mp hs).2.1
    exact (List.pairwise_cons.mp h3).1 b hb
end
def leD (a b : PyData) : Bool := !PySem.W.dataLt b a
def sortD (ds : List PyData) : List PyData := isrt leD ds
def isTupC : PyData → Bool
  | .tuple (_ :: _) => true
  | _ => false
def flatSrt : PyData → Bool
  | .none => false
  | .tuple _ => false
  | _ => true
def okSrt (ds : List PyData) : Bool := decide (ds.length ≤ 16777216) && (ds.all SeqAt.shaped && ((ds.all fun a => ds.all fun b => PySem.W.alike a b) && (ds.all isTupC || ds.all flatSrt)))
theorem okSrt_1 {ds : List PyData} (h : okSrt ds = true) : ds.length ≤ sizeLine ∧ (∀ d ∈ ds, SeqAt.shaped d = true) ∧ PySem.W.AllAlike ds ∧ PySem.W.Sortable ds := by
  unfold okSrt at h
  obtain ⟨h1, h⟩ := Bool.and_eq_true_iff.mp h
  obtain ⟨h2, h⟩ := Bool.and_eq_true_iff.mp h
  obtain ⟨h3, h4⟩ := Bool.and_eq_true_iff.mp h
  refine ⟨line_of (of_decide_eq_true h1), fun d hd => List.all_eq_true.mp h2 d hd, fun d hd d' hd' => List.all_eq_true.mp (List.all_eq_true.mp h3 d hd) d' hd', ?_⟩
  rcases Bool.or_eq_true_iff.mp h4 with h | h
  · refine .inl fun d hd => ?_
    have z := List.all_eq_true.mp h d hd
    cases d with
    | tuple xs => cases xs with
      | nil => cases z
      | cons x r => exact ⟨x, r, rfl⟩
    | _ => cases z
  · refine Or.inr fun d hd => ?_
    have z := List.all_eq_true.mp h d hd
    exact ⟨fun e => (by rw [e] at z; cases z), fun xs e => (by rw [e] at z; cases z)⟩
theorem zip_of {F : Hp} : ∀ {vs : List V} {ds : List PyData} {us : List Value}, DRL F vs ds → Vals vs us → ∃ bs : List (V × PyData), bs.map (·.1) = vs ∧ bs.map (·.2) = ds ∧ PySem.W.EachIs (fun u (b : V × PyData) => RelV b.1 u ∧ DR F b.1 b.2) us bs
  | _, _, _, .nil, h => by
    cases h
    exact ⟨[], rfl, rfl, .nil⟩
  | _, _, _, .cons (v := v) (d := d) a r, h => by
    cases h with
    | cons r1 r2 =>
      obtain ⟨bs, e1, e2, e3⟩ := zip_of r r2
      exact ⟨(v, d) :: bs, by rw [List.map_cons, e1], by rw [List.map_cons, e2], .cons ⟨r1, a⟩ e3⟩
theorem unzip_of {F : Hp} : ∀ {bs : List (V × PyData)} {us : List Value}, PySem.W.EachIs (fun u (b : V × PyData) => RelV b.1 u ∧ DR F b.1 b.2) us bs → Vals (bs.map (·.1)) us ∧ DRL F (bs.map (·.1)) (bs.map (·.2))
  | _, _, .nil => ⟨.nil, .nil⟩
  | _, _, .cons h t => by
    obtain ⟨a, b⟩ := unzip_of t
    exact ⟨.cons h.1 a, .cons h.2 b⟩
theorem dataLe_snd : ∀ a b : V × PyData, PySem.W.dataLe false (fun p : V × PyData => p.2) a b = leD a.2 b.2 := fun a b => by
  rw [PySem.W.dataLe_eq]
  rfl
theorem sorted_map {F : Hp} {bs : List (V × PyData)} : (bs.mergeSort (PySem.W.dataLe false fun p => p.2)).map (·.2) = sortD (bs.map (·.2)) := by
  rw [isrt_merge _ (show PySem.W.TotalLe (PySem.W.dataLe false fun p : V × PyData => p.2) from PySem.W.sortLe_total _ _ _)]
  exact isrt_map _ _ _ dataLe_snd bs
def pSorted : List PyData → Option PyData
  | [.list xs] => if okSrt xs then some (.list (sortD xs)) else none
  | _ => none
theorem md_sorted {X : Cx} (hu : X.A.units + 70 < cLine) : MkD X (.builtin "sorted") pSorted := .of <| by
  intro pins s σ H xs us Q I r ⟨F, ds, z, le, vx, hf, q⟩
  cases vx with
  | nil => cases hf
  | cons v1 vr =>
    cases vr with
    | cons _ _ => cases v1 <;> cases hf
    | nil =>
      cases v1 with
      | @lst a vs ds e1 r1 =>
        by_cases hok : okSrt ds = true
        · have hf : (if okSrt ds = true then some (PyData.list (sortD ds)) else none) = some z := hf
          rw [if_pos hok] at hf
          cases hf
          obtain ⟨o1, o2, o3, o4⟩ := okSrt_1 hok
          obtain ⟨u, rfl, rx⟩ := vals1 r
          cases (show u = Value.ref a from rx)
          obtain ⟨hz, its, n, rv, hlen, hget⟩ := I.lstM e1
          obtain ⟨bs, b1, b2, b3⟩ := zip_of r1 rv
          have er : PySem.W.EachIs (fun u (b : V × PyData) => ∃ as, PySem.Reads s.heap u b.2 as) its bs := by
            refine (PySem.W.each_mem b3).mono fun u b ⟨⟨h1, h2⟩, hb⟩ => ?_
            have hd : b.2 ∈ ds := by rw [← b2]; exact List.mem_map_of_mem hb
            exact Dp.reads I _ _ u (dp_of le (SeqAt.canLay_of_shaped (o2 _ hd)) h2) h1
          have hbl : bs.length = ds.length := by rw [← b2, List.length_map]
          refine PySem.W.sorted_data (enc := fun p => p.2) (vs := its) ⟨_, hget, rfl, n, rfl⟩ b3 er (by rw [b2]; exact o3) (by rw [b2]; exact o4) (by rw [hbl]; exact o1) (fun b hb => ?_) fun out ho eo => ?_
          · have hd : b.2 ∈ ds := by rw [← b2]; exact List.mem_map_of_mem hb
            have := SeqAt.depth_of_shaped (o2 _ hd)
            omega
          · obtain ⟨w1, w2⟩ := unzip_of eo
            rw [sorted_map (F := F), b2] at w2
            obtain ⟨c, hc⟩ := PyProof.Rows.sortedAll_at s.heap its out.toArray
            have hn : H (s.heap.objs.size + 1) = none := I.hok.fresh (Nat.le_succ _)
            refine ⟨.ref (s.heap.objs.size + 1), _, I.laid (t' := s.toks) (o := .lst _) (fun b o e => PyProof.Rows.sortedAll_old e) (Nat.le_succ _) (show ObjOk X.prog X.w _ _ _ (.lst _) from ⟨?_, out, c, w1, hc⟩), rfl, mk_lst w2 q _ hn⟩
            rw [w1.length, ho, hbl]
            exact o1
        · have hf : (if okSrt ds = true then some (PyData.list (sortD ds)) else none) = some z := hf
          rw [if_neg hok] at hf
          cases hf
      | _ => cases hf

theorem reads_key {h : Heap} {k : Key} {u : Value} (r : RelV (kV k) u) : PySem.Reads h u (keyD k) [] := by
  cases k with
  | inl i =>
    obtain ⟨t, rfl⟩ := r
    exact .int i t
  | inr s =>
    obtain ⟨t, rfl⟩ := r
    exact .str s t
/-- sorted(d), d a dict of keys that are no tuples -/
def pSortedD : List PyData → Option PyData
  | [.dict ps] => if okSrt (ps.map (·.1)) && (ps.all (fun p => flatSrt p.1) && !ps.isEmpty) then some (.list (sortD (ps.map (·.1)))) else none
  | [.list xs] => pSorted [.list xs]
  | _ => none
theorem each_key {h : Heap} {a : Addr} : ∀ {us : List Value} {kvs : List (Key × V)}, Vals (kvs.map fun p => kV p.1) us →
    PySem.W.EachIs (fun v (b : V × PyData) => ∃ as, PySem.Reads h v b.2 as ∧ a ∉ as) us (kvs.map fun p => (kV p.1, keyD p.1))
  | _, [], h => by
    cases h
    exact .nil
  | _, p :: r, h => by
    cases h with
    | cons a b => exact .cons ⟨[], reads_key a, by simp⟩ (each_key b)
theorem each_key2 {F : Hp} : ∀ {us : List Value} {kvs : List (Key × V)}, Vals (kvs.map fun p => kV p.1) us →
    PySem.W.EachIs (fun u (b : V × PyData) => RelV b.1 u ∧ DR F b.1 b.2) us (kvs.map fun p => (kV p.1, keyD p.1))
  | _, [], h => by
    cases h
    exact .nil
  | _, p :: r, h => by
    cases h with
    | cons a b => exact .cons ⟨a, dr_key p.1⟩ (each_key2 b)
theorem drk_fst {F : Hp} : ∀ {kvs : List (Key × V)} {ps : List (PyData × PyData)}, DRK F kvs ps → ps.map (·.1) = kvs.map fun p => keyD p.1
  | _, _, .nil => rfl
  | _, _, .cons _ r => by rw [List.map_cons, List.map_cons, drk_fst r]
section
open PyProof.Rows
theorem md_sortedD {X : Cx} (hcalm : X.calm = true) (hu : X.A.units + 70 < cLine) : MkD X (.builtin "sorted") pSortedD := .of <| by
  intro pins s σ H xs us Q I r ⟨F, ds, z, le, vx, hf, q⟩
  cases vx with
  | nil => cases hf
  | cons v1 vr =>
    cases vr with
    | cons _ _ => cases v1 <;> cases hf
    | nil =>
      cases v1 with
      | lst e1 r1 =>
        obtain ⟨rr, h1, h2⟩ := md_sorted (X := X) hu
        exact h1 pins s σ H _ us Q I r (h2 F H _ _ z Q le (.cons (.lst e1 r1) .nil) hf q)
      | @dT a kvs ps rd rk =>
        have hf : (if (okSrt (ps.map (·.1)) && (ps.all (fun p => flatSrt p.1) && !ps.isEmpty)) = true then some (PyData.list (sortD (ps.map (·.1)))) else none) = some z := hf
        split at hf
        · rename_i hc
          obtain ⟨_, hc⟩ := Bool.and_eq_true_iff.mp hc
          obtain ⟨hc1, hc2⟩ := Bool.and_eq_true_iff.mp hc
          cases rk with
          | nil => cases hc2
          | cons a r => cases hc1
        · cases hf
      | @dK a kvs ps rd rk =>
        have hf : (if (okSrt (ps.map (·.1)) && (ps.all (fun p => flatSrt p.1) && !ps.isEmpty)) = true then some (PyData.list (sortD (ps.map (·.1)))) else none) = some z := hf
        split at hf
        · rename_i hc
          cases hf
          obtain ⟨hok, _⟩ := Bool.and_eq_true_iff.mp hc
          rw [drk_fst rk] at hok q
          obtain ⟨o1, o2, o3, o4⟩ := okSrt_1 hok
          obtain ⟨u, eu, rx⟩ := vals1 r
          subst eu
          cases rx
          obtain ⟨z, lo, vs, rel, dd⟩ := dk_rd I.hok rd
          obtain ⟨ep, hat⟩ := dd.dictAt
          have h16 : vs.length ≤ sizeLine := by rw [← rel.length]; exact z
          have ek : (kvs.map fun kv => kV kv.1) = vs.map fun p => kV p.1 := by
            have e := congrArg (List.map kV) rel.keys
            rw [List.map_map, List.map_map] at e
            exact e
          refine Calls.call_function_entry PyProof.Rows.kind_sorted PyProof.Rows.plain_sorted PyProof.Rows.entry_sorted (PyProof.Rows.args_sorted1 _) ?_
          unfold Builtin.«sorted»
          refine wpAny_bind (m := checkCount "sorted" 1 1 _) (wpAny_pure ?_)
          refine wpAny_bind (PySem.W.kdu_collect (A := X.A.in1) (PySem.W.kdl_dict (knd := mixKind X.prog X.w) (kvs := vs) (ep := ep) lo) (I.ok.hd hcalm) hat h16 fun h' tk acc hk hacc => ?_)
          have hv : Vals (kvs.map fun p => kV p.1) acc.toList := by
            rw [ek]
            exact keys_at (by rw [Array.length_toList]; exact hacc.1) fun j v e => hacc.2 j v (by rw [← Array.getElem?_toList]; exact e)
          have hal : acc.toList.length = kvs.length := by rw [← hv.length, List.length_map]
          have I1 : Inv X pins σ H { s with heap := h', toks := tk } := I.kept hk
          refine wpAny_bind (wpAny_newList ?_ (by rw [hal]; exact z))
          have hoL : (h'.push (seqObj "list" acc.toList.toArray 0)).get? h'.objs.size = some (seqObj "list" acc.toList.toArray 0) := Heap.get?_push_size _ rfl
          show wpAny _ _ _ _ _ { s with heap := h'.push (seqObj "list" acc.toList.toArray 0), toks := tk }
          have bl : (kvs.map fun p => (kV p.1, keyD p.1)).map (fun b : V × PyData => b.2) = kvs.map fun p => keyD p.1 := by rw [List.map_map]; rfl
          refine wpAny_bind (wpAny_holding (PySem.W.list_sort_data (s := { s with heap := h'.push (seqObj "list" acc.toList.toArray 0), toks := tk }) (enc := fun p : V × PyData => p.2) (vs := acc.toList) hoL (each_key2 (F := F) hv) (each_key hv) (by rw [bl]; exact o3) (by rw [bl]; exact o4) (by rw [List.length_map]; exact z) (fun b hb => ?_) fun out ho eo => ?_))
          · have hd : b.2 ∈ kvs.map fun p => keyD p.1 := by rw [← bl]; exact List.mem_map_of_mem hb
            have := SeqAt.depth_of_shaped (o2 _ hd)
            show X.A.in1.units + 1 + b.2.depth < cLine
            have e : X.A.in1.units ≤ X.A.units + 1 := by first | exact Nat.le_refl _ | exact Nat.le_succ _ | (show X.A.units + 0 ≤ _; omega)
            omega
          · obtain ⟨w1, w2⟩ := unzip_of eo
            rw [sorted_map (F := F), bl] at w2
            obtain ⟨e', he'⟩ := PyProof.Rows.sortedHeap_at (vs := acc.toList) (out := out.toArray) hoL
            have hn : H h'.objs.size = none := I1.hok.fresh (Nat.le_refl _)
            refine wpAny_pure ⟨_, rfl, .ref h'.objs.size, _, I1.laid (t' := tk) (o := .lst _) (fun b u e => ?_) (Nat.le_refl _)
              (show ObjOk X.prog X.w _ _ _ (.lst _) from ⟨?_, out, e', w1, he'⟩), rfl, mk_lst w2 q _ hn⟩
            · have hb : b < h'.objs.size := Heap.lt_size e
              rw [PyProof.Rows.sortedHeap_old (Nat.ne_of_lt hb) (by rw [size_push']; exact Nat.lt_succ_of_lt hb)]
              exact Heap.get?_push_of_some _ e
            · rw [w1.length, ho, List.length_map]
              exact z
        · cases hf
      | _ => cases hf
end
end CH

set_option Elab.async false
set_option linter.all false
set_option maxRecDepth 100000
namespace CH
open PySem L2
section
variable {F H : Hp} {ρ : Nat → Option Addr} {h : Cells}
theorem CR.mut {F : Hp} {o : HO} {c : PyData} (cr : CR F (some o) c) : Mut (some o) := by
  cases c with
  | list ds => obtain ⟨vs, e, _⟩ := cr; cases e; trivial
  | dict ps => rcases cr with ⟨k, e, _⟩ | ⟨k, e, _⟩ <;> (cases e; trivial)
  | _ => exact cr.elim
theorem set_live {h : Cells} {n m : Nat} {o : Option PyData} {d : PyData} (e : (h.set n o)[m]? = some (some d)) : (m = n ∧ o = some d) ∨ (m ≠ n ∧ h[m]? = some (some d)) := by
  by_cases hm : n = m
  · subst hm
    by_cases hl : n < h.length
    · rw [List.getElem?_set_self hl] at e
      cases e
      exact .inl ⟨rfl, rfl⟩
    · rw [List.getElem?_eq_none (by simp; omega)] at e
      cases e
  · rw [List.getElem?_set_ne hm] at e
    exact .inr ⟨Ne.symm hm, e⟩
/-- a cell written -/
theorem Rl.setCell (rl : Rl F ρ h H) {n : Nat} {a : Addr} {c d : PyData} {o : HO} (hn : h[n]? = some (some c)) (ea : ρ n = some a) (cr : CR F (some o) d) :
    Rl F ρ (h.set n (some d)) (upd H a o) ∧ Ext F ρ H F ρ (upd H a o) := by
  obtain ⟨a', ea', fa, _⟩ := rl.cel n c hn
  rw [ea] at ea'
  cases ea'
  refine ⟨⟨fun b u e => ?_, fun m d' e => ?_, fun m k d1 d2 b h1 h2 h3 h4 => ?_, fun m hm => rl.top m (by simpa using hm), fun m b e => ?_⟩, ⟨fun _ _ e => e, fun _ _ e => e, fun b u e hb => ?_, fun b e => .inl e, fun m b e => .inl ⟨m, e⟩⟩⟩
  · rw [upd_ne (ne_of_none e fa)]; exact rl.le _ _ e
  · rcases set_live e with ⟨rfl, e1⟩ | ⟨hm, e1⟩
    · cases e1
      exact ⟨a, ea, fa, by rw [upd_same]; exact cr⟩
    · obtain ⟨b, eb, fb, cb⟩ := rl.cel m d' e1
      refine ⟨b, eb, fb, ?_⟩
      rw [upd_ne (fun z => hm (rl.inj m n d' c b e1 hn eb (by rw [z]; exact ea)))]
      exact cb
  · have old : ∀ {k : Nat} {z : PyData}, (h.set n (some d))[k]? = some (some z) → ∃ y, h[k]? = some (some y) := fun {k z} e => by
      rcases set_live e with ⟨rfl, _⟩ | ⟨_, e1⟩
      · exact ⟨c, hn⟩
      · exact ⟨z, e1⟩
    obtain ⟨y1, k1⟩ := old h1
    obtain ⟨y2, k2⟩ := old h2
    exact rl.inj m k y1 y2 b k1 k2 h3 h4
  · by_cases hb : b = a
    · exact ⟨o, by rw [hb, upd_same]⟩
    · obtain ⟨u, hu⟩ := rl.pl m b e
      exact ⟨u, by rw [upd_ne hb]; exact hu⟩
  · rw [upd_ne (fun z => hb n (by rw [z]; exact ea))]; exact e
/-- a cell becomes data: o stands in F and H from now on -/
theorem Rl.frz (rl : Rl F ρ h H) {n : Nat} {a : Addr} {c : PyData} {o : HO} (hn : h[n]? = some (some c)) (ea : ρ n = some a) :
    Rl (upd F a o) ρ (h.set n none) (upd H a o) ∧ Ext F ρ H (upd F a o) ρ (upd H a o) ∧ Le F (upd F a o) := by
  obtain ⟨a', ea', fa, _⟩ := rl.cel n c hn
  rw [ea] at ea'
  cases ea'
  have lef : Le F (upd F a o) := fun b u e => by rw [upd_ne (ne_of_none e fa)]; exact e
  refine ⟨⟨fun b u e => ?_, fun m d' e => ?_, fun m k d1 d2 b h1 h2 h3 h4 => ?_, fun m hm => rl.top m (by simpa using hm), fun m b e => ?_⟩, ⟨lef, fun _ _ e => e, fun b u e hb => ?_, fun b e => ?_, fun m b e => .inl ⟨m, e⟩⟩, lef⟩
  · by_cases hb : b = a
    · rw [hb, upd_same] at e ⊢; exact e
    · rw [upd_ne hb] at e ⊢; exact rl.le _ _ e
  · rcases set_live e with ⟨_, e1⟩ | ⟨hm, e1⟩
    · cases e1
    · obtain ⟨b, eb, fb, cb⟩ := rl.cel m d' e1
      have hb : b ≠ a := fun z => hm (rl.inj m n d' c b e1 hn eb (by rw [z]; exact ea))
      exact ⟨b, eb, by rw [upd_ne hb]; exact fb, by rw [upd_ne hb]; exact cb.mono lef⟩
  · rcases set_live h1 with ⟨_, e1⟩ | ⟨_, e1⟩
    · cases e1
    · rcases set_live h2 with ⟨_, e2⟩ | ⟨_, e2⟩
      · cases e2
      · exact rl.inj m k d1 d2 b e1 e2 h3 h4
  · by_cases hb : b = a
    · exact ⟨o, by rw [hb, upd_same]⟩
    · obtain ⟨u, hu⟩ := rl.pl m b e
      exact ⟨u, by rw [upd_ne hb]; exact hu⟩
  · rw [upd_ne (fun z => hb n (by rw [z]; exact ea))]; exact e
  · by_cases hb : b = a
    · exact .inr (.inr (.inl ⟨n, by rw [hb]; exact ea⟩))
    · rw [upd_ne hb] at e; exact .inl e
end
/-! ### freezing -/
def sFrz (e : E) : E := fun env h => (e env h).bind fun w h1 => match w with
  | .ref n => match h1[n]? with
    | some (some c) => .ok (.d c) (h1.set n none)
    | _ => .stk
  | w => .ok w h1
def tLock (te : TE) : TE := fun σ H Q => te σ H fun x H1 => Q x H1 ∨ ∃ a u, x = .ref a ∧ H1 a = some u ∧ Mut (some u) ∧ ∀ od, Q x (upd H1 a (.frz od u))
theorem pe_lock {X : Cx} {e : Expr} {te : TE} (he : PE X e te) : PE X e (tLock te) := by
  refine ⟨fun pins s σ H Q I h => thn (he.run pins s σ H _ I h) fun v s1 ⟨x, H1, I1, r1, q⟩ => ?_⟩
  rcases q with q | ⟨a, u, rfl, ha, mu, q⟩
  · exact ⟨x, H1, I1, r1, q⟩
  · obtain ⟨od, I2⟩ := I1.lock ha mu
    exact ⟨.ref a, _, I2, r1, q od⟩
theorem upd_id {H : Hp} {a : Addr} {o : HO} (h : H a = some o) : upd H a o = H := by
  funext b
  by_cases e : b = a
  · rw [e, upd_same, h]
  · rw [upd_ne e]
section
variable {X : Cx} {g : Glob} {Wx : WX} {e o i value : Expr} {se so si sv : E} {pos pos' apos cpos : Pos}
theorem de_frz (he : PE X e (tD g Wx se)) : PE X e (tD g Wx (sFrz se)) := by
  refine pe_mono (pe_lock he) fun σ H Q h => ?_
  refine (tG.of (rel2 := WR g) (a := se) h (fun _ _ => rfl)).mono ?_
  rintro v H1 ⟨F, ρ, env, h1, w, er, rl, r, p⟩
  cases w with
  | ref n =>
    obtain ⟨a, ea, rfl⟩ := r
    try dsimp only at p
    cases hn : h1[n]? with
    | none => rw [hn] at p; exact p.elim
    | some o =>
      cases o with
      | none => rw [hn] at p; exact p.elim
      | some c =>
        rw [hn] at p
        obtain ⟨a', ea', fa, cr⟩ := rl.cel n c hn
        rw [ea] at ea'
        cases ea'
        cases c with
        | list ds =>
          obtain ⟨vs, e1, dr⟩ := cr
          obtain ⟨rl2, x2, le2⟩ := rl.frz (o := .lst vs) hn ea
          rw [upd_id e1] at rl2 x2
          exact .inl (p _ _ _ _ x2 (.lst upd_same (dr.mono le2)) rl2)
        | dict ps =>
          rcases cr with ⟨k, e1, dr⟩ | ⟨k, e1, dr⟩
          · refine .inr ⟨a, _, rfl, e1, trivial, fun od => ?_⟩
            obtain ⟨rl2, x2, le2⟩ := rl.frz (o := .frz od (.dK k)) hn ea
            exact p _ _ _ _ x2 (.dK upd_same (dr.mono le2)) rl2
          · refine .inr ⟨a, _, rfl, e1, trivial, fun od => ?_⟩
            obtain ⟨rl2, x2, le2⟩ := rl.frz (o := .frz od (.dT k)) hn ea
            exact p _ _ _ _ x2 (.dT upd_same (dr.mono le2)) rl2
        | _ => exact cr.elim
  | d x => exact .inl (p _ H1 F ρ Ext.refl r rl)
  | exc c q => exact .inl (p _ H1 F ρ Ext.refl r rl)
  | scr l => exact .inl (p _ H1 F ρ Ext.refl r rl)
  | fn j => exact .inl (p _ H1 F ρ Ext.refl r rl)
/-! ### o[i] = v -/
def dput2 (ps : List (PyData × PyData)) (k v : PyData) : Option (List (PyData × PyData)) := if (keyOf k).isSome && (kindOk ps k && decide (ps.length < 16777216)) then some (dput ps k v) else none
theorem dput_ok {F H : Hp} {a : Addr} {y v : V} {ps ps' : List (PyData × PyData)} {k d : PyData} (le : Le F H) (cr : CR F (H a) (.dict ps)) (vy : Vw F H y k) (dv : DR F v d) (e : dput2 ps k d = some ps') :
    ∃ o, CR F (some o) (.dict ps') ∧ DPut2 H a y v (upd H a o) := by
  unfold dput2 at e
  split at e
  · rename_i hc
    cases e
    obtain ⟨h1, hc⟩ := Bool.and_eq_true_iff.mp hc
    obtain ⟨h2, h3⟩ := Bool.and_eq_true_iff.mp hc
    have hlt := of_decide_eq_true h3
    cases e : keyOf k with
    | none => rw [e] at h1; cases h1
    | some kk =>
      rcases keyOf_eq e with ⟨j, _, rfl⟩ | ⟨js, _, rfl⟩
      · have ey := vw_flat vy
        subst ey
        rcases cr with ⟨kvs, e1, r⟩ | ⟨kvs, e1, r⟩
        · have hl : kvs.length = ps.length := r.length
          exact ⟨.dK (putK kvs j v), .inl ⟨_, rfl, put_K j dv r⟩, .inl (.inl ⟨kvs, j, e1, rfl, lt_line_of (by omega), rfl⟩)⟩
        · obtain ⟨rfl, rfl⟩ := kind_T r h2
          refine ⟨.dK [(j, v)], .inl ⟨_, rfl, ?_⟩, .inr (.inr ⟨j, e1, rfl, rfl⟩)⟩
          exact .cons dv .nil
      · obtain ⟨b, rfl, hb⟩ := vw_tup vy
        rcases cr with ⟨kvs, e1, r⟩ | ⟨kvs, e1, r⟩
        · obtain ⟨rfl, rfl⟩ := kind_K r h2
          refine ⟨.dT [(js, v)], .inr ⟨_, rfl, ?_⟩, .inr (.inl ⟨b, js, e1, rfl, hb, rfl⟩)⟩
          exact .cons dv .nil
        · have hl : kvs.length = ps.length := r.length
          exact ⟨.dT (putK kvs js v), .inr ⟨_, rfl, put_T js dv r⟩, .inl (.inr ⟨kvs, js, b, e1, rfl, hb, lt_line_of (by omega), rfl⟩)⟩
  · cases e
/-- what a store makes of a cell -/
def putC (c k v : PyData) : Option PyData := match c, k with
  | .dict ps, k => (dput2 ps k v).map .dict
  | .list ds, .int i => match ixN ds.length i with
    | some j => some (.list (ds.set j v))
    | none => none
  | _, _ => none
def sPut (so si sv : E) : S := fun env h => (sv env h).st env fun v h1 => (so env h1).st env fun o h2 => (si env h2).st env fun k h3 => match o, v, lk h3 k with
  | .ref n, .d dv, some dk => match h3[n]? with
    | some (some c) => match putC c dk dv with
      | some c' => .nx env (h3.set n (some c'))
      | none => .stk
    | _ => .stk
  | _, _, _ => .stk
theorem ps_put2 {td ty tv : TE} (hu : X.A.units + 1 < cLine) (ho : PE X o td) (hi : PE X i ty) (hv : PE X value tv) (hs : swapsWith value (some (.Subscript o i pos')) pos.line X.env = pure false) :
    PS X (.Assign [.Subscript o i pos'] value pos) (fun D σ H => tv σ H fun v H1 => td σ H1 fun x H2 => ty σ H2 fun y H3 => (∃ a H4, x = .ref a ∧ DPut2 H3 a y v H4 ∧ D.nx σ H4) ∨ rSetL x y v H3 fun H4 => D.nx σ H4) := by
  refine ⟨fun pins s σ H D I h => ?_⟩
  refine wpAny_Assign_Subscript (thn (hv.run pins s σ H _ I h) fun r s1 ⟨v, H1, I1, rv, q1⟩ => thn (ho.run pins s1 σ H1 _ I1 q1) fun u s2 ⟨x, H2, I2, rx, q2⟩ => thn (hi.run pins s2 σ H2 _ I2 q2) fun iv s3 ⟨y, H3, I3, ry, q3⟩ => ?_) hs
  rcases q3 with ⟨a, H4, ex, g, q⟩ | q
  · subst ex
    obtain rfl : u = Value.ref a := rx
    exact d_setItem2 hu I3 g ry rv fun s4 I4 => ⟨σ, H4, I4, q⟩
  · exact thn (set_list pins s3 σ H3 x y v u iv r _ I3 rx ry rv q) fun _ s4 ⟨H4, I4, q4⟩ => ⟨σ, H4, I4, q4⟩
theorem ds_put (hu : X.A.units + 1 < cLine) (ho : PE X o (tD g Wx so)) (hi : PE X i (tD g Wx si)) (hv : PE X value (tD g Wx sv)) (hs : swapsWith value (some (.Subscript o i pos')) pos.line X.env = pure false := by rfl) :
    PS X (.Assign [.Subscript o i pos'] value pos) (tS g Wx (sPut so si sv)) := by
  refine ps_mono (ps_put2 hu ho hi hv hs) fun D σ H h => ?_
  refine (tS.in (rel := WR g) (k := fun env v h1 => (so env h1).st env fun o h2 => (si env h2).st env fun k h3 => match o, v, lk h3 k with
    | .ref n, .d dv, some dk => match h3[n]? with
      | some (some c) => match putC c dk dv with
        | some c' => .nx env (h3.set n (some c'))
        | none => .stk
      | _ => .stk
    | _, _, _ => .stk) h).mono ?_
  rintro v H1 ⟨F, ρ, env, h1, wv, er, rl, rv, p⟩
  refine ⟨F, ρ, env, h1, er, rl, (PoS.bind (rel := WR g) er p).mono ?_⟩
  rintro x H2 ⟨F2, ρ2, h2, wo, x2, er2, ro, rl2, p2⟩
  refine ⟨F2, ρ2, env, h2, er2, rl2, (PoS.bind (rel := WR g) er2 p2).mono ?_⟩
  rintro y H3 ⟨F3, ρ3, h3, wk, x3, er3, rk, rl3, p3⟩
  cases wo with
  | ref n =>
    cases wv with
    | d dv =>
      cases ek : lk h3 wk with
      | none => rw [ek] at p3; exact p3.elim
      | some dk =>
        rw [ek] at p3
        try dsimp only at p3
        cases hn : h3[n]? with
        | none => rw [hn] at p3; exact p3.elim
        | some oc =>
          cases oc with
          | none => rw [hn] at p3; exact p3.elim
          | some c =>
            rw [hn] at p3
            try dsimp only at p3
            cases ep : putC c dk dv with
            | none => rw [ep] at p3; exact p3.elim
            | some c' =>
              rw [ep] at p3
              obtain ⟨a, ea, rfl⟩ := ro.mono x3.f x3.r
              obtain ⟨a', ea', fa, cr⟩ := rl3.cel n c hn
              rw [ea] at ea'
              cases ea'
              have dr : DR F3 v dv := (rv.mono x2.f x2.r).mono x3.f x3.r
              have vk := rk.vw rl3 ek
              cases c with
              | dict ps =>
                have ep : (dput2 ps dk dv).map PyData.dict = some c' := by cases dk <;> exact ep
                cases e2 : dput2 ps dk dv with
                | none => rw [e2] at ep; cases ep
                | some ps' =>
                  rw [e2] at ep
                  cases ep
                  obtain ⟨o, co, g2⟩ := dput_ok rl3.le cr vk dr e2
                  obtain ⟨rl4, x4⟩ := rl3.setCell hn ea co
                  exact .inl ⟨a, _, rfl, g2, p3 σ _ _ _ x4 (er3.ext x4) rl4⟩
              | list ds =>
                cases dk with
                | int i =>
                  have ep : (match ixN ds.length i with | some j => some (PyData.list (ds.set j dv)) | none => none) = some c' := ep
                  cases e2 : ixN ds.length i with
                  | none => rw [e2] at ep; cases ep
                  | some j =>
                    rw [e2] at ep
                    cases ep
                    obtain ⟨vs, e1, dl⟩ := cr
                    have ev := vw_int vk
                    subst ev
                    obtain ⟨rl4, x4⟩ := rl3.setCell (o := .lst (vs.set j v)) (d := .list (ds.set j dv)) hn ea ⟨_, rfl, DRL.set dr j dl⟩
                    exact .inr ⟨a, vs, i, j, rfl, rfl, e1, by rw [dl.length]; exact e2, p3 σ _ _ _ x4 (er3.ext x4) rl4⟩
                | _ => cases ep
              | _ => exact cr.elim
    | _ => exact p3.elim
  | _ => exact p3.elim
/-! ### methods of a list that is a cell -/
def MeS (f : List PyData → List PyData → Option (PyData × List PyData)) (r : V → List V → Hp → VK → Prop) : Prop := ∀ (F H : Hp) (a : Addr) (xs vs : List V) (ds as : List PyData) (z : PyData) (ds' : List PyData) (Q : VK), Le F H → H a = some (.lst xs) → DRL F xs ds → DRL F vs as → f ds as = some (z, ds') →
  (∀ v xs', DR F v z → DRL F xs' ds' → Q v (upd H a (.lst xs'))) → r (.ref a) vs H Q
def sMeth (f : List PyData → List PyData → Option (PyData × List PyData)) (so : E) (as : AE) : E := fun env h => (so env h).bind fun o h1 => match o with
  | .ref n => match h1[n]? with
    | some (some (.list _)) => (as env h1).bind fun ws h2 => match dsL ws, h2[n]? with
      | some args, some (some (.list ds)) => match f ds args with
        | some (z, ds') => .ok (.d z) (h2.set n (some (.list ds')))
        | none => .stk
      | _, _ => .stk
    | _ => .stk
  | _ => .stk
theorem de_meth {es : List Expr} {as : AE} {id : String} {name : Str} {r : V → List V → Hp → VK → Prop} {f : List PyData → List PyData → Option (PyData × List PyData)} (slot : Slot "list" name id) (hty : typeOf (.builtin id) = pure (.type "method_descriptor")) (hm : MtR X id r) (hf : MeS f r)
    (ho : PE X o (tD g Wx so)) (ha : PA X (e :: es) (tDA g Wx as)) (hbase : attributeBase o name X.env (eval o X.env) = eval o X.env := by rfl)
    (hfew : ((backTo cpos (starEach (e :: es) X.env)).all (fun x => !x.1) && (backToKw cpos (keywordEach [] X.env)).all (fun x => x.1.isSome)
      && decide ((e :: es).length + ([] : List Keyword).length + (if ([] : List Keyword).isEmpty then 0 else 1) < 30)) = true := by rfl)
    (hline : (apos.endLine == cpos.line) = true := by rfl) (hs : starEach (e :: es) X.env = (false, eval e X.env) :: starEach es X.env := by rfl) (hplain : (backTo cpos (starEach es X.env)).any (·.1) = false := by rfl) :
    PE X (.Call (.Attribute o name apos) (e :: es) [] cpos) (tD g Wx (sMeth f so as)) := by
  refine pe_mono (pe_bm PySem.F.plainAttrs_list slot hty hm ho ha hbase hfew hline hs hplain) fun σ H Q h => ?_
  refine (tG.of (rel2 := WR g) (a := so) h (fun _ _ => rfl)).mono ?_
  rintro x H1 ⟨F, ρ, env, h1, wo, er, rl, ro, p⟩
  cases wo with
  | ref n =>
    try dsimp only at p
    cases hn : h1[n]? with
    | none => rw [hn] at p; exact p.elim
    | some oc =>
      cases oc with
      | none => rw [hn] at p; exact p.elim
      | some c =>
        cases c with
        | list ds0 =>
          rw [hn] at p
          obtain ⟨a, ea, rfl⟩ := ro
          obtain ⟨a', ea', fa, cr⟩ := rl.cel n _ hn
          rw [ea] at ea'
          cases ea'
          obtain ⟨vs0, e0, _⟩ := cr
          refine ⟨.inl ⟨rfl, vs0, SqL.of e0⟩, ?_⟩
          refine (tG.in (rel2 := WRL g) (a := as) er rl p).mono ?_
          rintro vs H2 ⟨F2, ρ2, h2, ws, x2, er2, rl2, rw2, p2⟩
          cases ed : dsL ws with
          | none => rw [ed] at p2; exact p2.elim
          | some args =>
            rw [ed] at p2
            try dsimp only at p2
            cases hn2 : h2[n]? with
            | none => rw [hn2] at p2; exact p2.elim
            | some oc2 =>
              cases oc2 with
              | none => rw [hn2] at p2; exact p2.elim
              | some c2 =>
                cases c2 with
                | list ds =>
                  rw [hn2] at p2
                  try dsimp only at p2
                  cases ef : f ds args with
                  | none => rw [ef] at p2; exact p2.elim
                  | some zz =>
                    obtain ⟨z, ds'⟩ := zz
                    rw [ef] at p2
                    obtain ⟨b, eb, fb, cb⟩ := rl2.cel n _ hn2
                    have eb' := x2.r n a ea
                    rw [eb'] at eb
                    cases eb
                    obtain ⟨xs, e1, dl⟩ := cb
                    refine hf F2 H2 a xs vs ds args z ds' Q rl2.le e1 dl (rw2.dr ed) ef fun v xs' dz dx => ?_
                    obtain ⟨rl3, x3⟩ := rl2.setCell (o := .lst xs') (d := .list ds') hn2 eb' ⟨_, rfl, dx⟩
                    exact p2 v _ _ _ x3 dz rl3
                | _ => rw [hn2] at p2; exact p2.elim
        | _ => rw [hn] at p; exact p.elim
  | _ => exact p.elim
end
def fApp (ds as : List PyData) : Option (PyData × List PyData) := match as with
  | [d] => if ds.length < 16777216 then some (.none, ds ++ [d]) else none
  | _ => none
theorem me_app : MeS fApp rAppend := by
  intro F H a xs vs ds as z ds' Q le e dl da hf q
  cases da with
  | nil => cases hf
  | cons d1 r =>
    cases r with
    | cons _ _ => cases hf
    | nil =>
      unfold fApp at hf
      dsimp only at hf
      split at hf
      · rename_i hl
        cases hf
        exact ⟨a, xs, _, rfl, rfl, e, lt_line_of (by rw [dl.length]; exact hl), q .non _ .non (dl.append (.cons d1 .nil))⟩
      · cases hf
def fPopAt (ds as : List PyData) : Option (PyData × List PyData) := match as with
  | [.int i] => if -(2 ^ 62) ≤ i ∧ i < 2 ^ 62 then match seqIndex? i ds.length with
      | some k => match ds[k]? with
        | some d => some (d, ds.eraseIdx k)
        | none => none
      | none => none
    else none
  | _ => none
theorem me_popAt : MeS fPopAt rPopAt := by
  intro F H a xs vs ds as z ds' Q le e dl da hf q
  cases da with
  | nil => cases hf
  | cons d1 r =>
    cases r with
    | cons _ _ => cases d1 <;> cases hf
    | nil =>
      cases d1 with
      | int i =>
        unfold fPopAt at hf
        dsimp only at hf
        split at hf
        · rename_i hb
          split at hf
          · rename_i k hk
            split at hf
            · rename_i d hd
              cases hf
              obtain ⟨v, hv, dv⟩ := dl.get hd
              exact ⟨a, xs, i, k, v, rfl, rfl, e, by omega, by omega, by rw [dl.length]; exact hk, hv, q v _ dv (dl.eraseIdx k)⟩
            · cases hf
          · cases hf
        · cases hf
      | _ => cases hf
end CH

set_option Elab.async false
set_option linter.all false
set_option maxRecDepth 100000
namespace CH
open PySem L2
/-! ### dict displays -/
section
variable {X : Cx} {pins : List (Addr × Obj)} {σ : L2.St} {H : Hp} {s : Shared} {a : Addr} {y v : V} {u r : Value} {E : Value → Shared → Prop}
theorem d_dictSet2 {H' : Hp} {Q : Unit → Shared → Prop} (hu : X.A.units + 2 < cLine) (I : Inv X pins σ H s) (g : DPut2 H a y v H') (ry : RelV y u) (rv : RelV v r) (h : ∀ s', Inv X pins σ H' s' → Q () s') :
    wpAny (model X.prog X.w) X.A (dictSet a u r) Q E s := by
  have key : ∀ {H H' : Hp}, Inv X pins σ H s → DPut H a y v H' → (∀ s', Inv X pins σ H' s' → Q () s') → wpAny (model X.prog X.w) X.A (dictSet a u r) Q E s := fun {H H'} I g h => by
    rcases g with ⟨kvs, k, e, ey, l, eH⟩ | ⟨kvs, k, b, e, ey, eb, l, eH⟩
    · subst ey eH
      exact d_dictSet I e l ry rv h
    · subst ey eH
      cases (show u = Value.ref b from ry)
      obtain ⟨z, hd, xs, rel, dd⟩ := dt_of I.hok e
      have hz : xs.length ≤ sizeLine := by rw [← Paired.length rel]; exact z
      have hl : (putK kvs k v).length ≤ sizeLine := by have := length_putK kvs k v; omega
      refine wpAny_dictSet_heap (hsz := hz) (show X.A.units < cLine by omega) (key_of I.hok eb) dd fun h' dd' hs => h _ ?_
      obtain ⟨q, es, ep, hq, h2, h3, h4, _, h5⟩ := dd'
      refine d_write I (by rw [e]; exact True.intro) hs ⟨q, hq⟩ ⟨hl, hd, _, (rel.put k eb rv).keeps fun c ys ec => ?_, q, es, ep, hq, h2, h3, h4, h5⟩
      rw [upd_ne (ne_of ec e (fun z => nomatch z))]
      exact ec
  rcases g with g | ⟨b, k, e, ey, hb, eH⟩ | ⟨k, e, ey, eH⟩
  · exact key I g h
  · have hb' : (upd H a (.dT [])) b = some (.tup (k.map kV)) := by
      rw [upd_ne (ne_of hb e (by intro z; cases z))]
      exact hb
    refine key (Inv.relKT I e) (H' := H') ?_ h
    subst ey
    have := DPut.t (v := v) (H := upd H a (.dT [])) (a := a) (kvs := []) upd_same hb' (lt_line_of (by decide))
    rw [upd_upd] at this
    rw [eH]
    exact this
  · refine key (Inv.relTK I e) (H' := H') ?_ h
    subst ey
    have := DPut.k (v := v) (H := upd H a (.dK [])) (a := a) (kvs := []) (k := k) upd_same (lt_line_of (by decide))
    rw [upd_upd] at this
    rw [eH]
    exact this
end
inductive Stores (a : Addr) : Hp → List (V × V) → Hp → Prop
  | nil {H : Hp} : Stores a H [] H
  | cons {H H1 H2 : Hp} {y v : V} {r : List (V × V)} : DPut2 H a y v H1 → Stores a H1 r H2 → Stores a H ((y, v) :: r) H2
theorem stores_run {X : Cx} {pins : List (Addr × Obj)} {σ : L2.St} {a : Addr} (hu : X.A.units + 2 < cLine) {E : Value → Shared → Prop} {Q : PUnit → Shared → Prop} : ∀ {ps : List (V × V)} {us : List (Value × Value)} {H H' : Hp} {s : Shared}, Stores a H ps H' → Inv X pins σ H s → VV ps us →
    (∀ s', Inv X pins σ H' s' → Q PUnit.unit s') → wpAny (model X.prog X.w) X.A (forIn us PUnit.unit fun (x : Value × Value) (_ : PUnit) => (do dictSet a x.1 x.2; pure (ForInStep.yield PUnit.unit) : Sem (ForInStep PUnit))) Q E s
  | _, _, _, _, s, .nil, I, rv, h => by
    cases rv
    rw [List.forIn_nil]
    exact wpAny_pure (h s I)
  | _, _, _, _, s, .cons g r, I, rv, h => by
    cases rv with
    | cons h1 h2 =>
      rw [List.forIn_cons]
      exact wpAny_bind (wpAny_bind (d_dictSet2 hu I g h1.1 h1.2 fun s1 I1 => wpAny_pure (stores_run hu r I1 h2 h)))
def tDisp2 (trs : List (TE × TE)) : TE := fun σ H Q => ∀ p, H p = none → tPairs trs σ (upd H p (.dK [])) fun ps H2 => ∃ H3, Stores p H2 ps H3 ∧ Q (.ref p) H3
theorem pe_disp2 {X : Cx} (hu : X.A.units + 2 < cLine) {pos : Pos} {keys : List (Option Expr)} {values : List Expr} {trs : List (TE × TE)} (h : PPs X pos keys values trs) (hall : keys.all (·.isSome) = true) (hl : keys.length = values.length) (h0 : keys ≠ [])
    (h15 : keys.length ≤ 15) : PE X (.Dict keys values pos) (tDisp2 trs) := by
  refine ⟨fun pins s σ H Q I q => ?_⟩
  have hn := I.hok.fresh (Nat.le_refl s.heap.objs.size)
  have I1 := I.laid (a := s.heap.objs.size) (o := .dK []) (h' := s.heap.push { cls := .type "dict", data := .dict #[] }) (t' := s.toks) (fun _ _ q => Heap.get?_push_of_some _ q) (Nat.le_refl _) (dk_empty s.heap I.big)
  have hn2 := pairTrees_length keys values X.env pos hall hl
  have hne : pairTrees keys values X.env pos ≠ [] := fun z => by
    rw [z] at hn2
    exact h0 (List.length_eq_zero_iff.mp hn2.symm)
  rw [arm_eval_Dict, zip_pairTrees keys values X.env pos hall hl, dictDisplay_pairs _ hne (by rw [hn2]; omega)]
  refine wpAny_bind (wpAny_standAt (wpAny_bind ?_))
  unfold subDict
  refine wpAny_bind (wpAny_alloc ?_)
  refine wpAny_bind (wpAny_holding ?_)
  rw [if_pos (by rw [hn2]; exact h15)]
  refine wpAny_bind (thn (h.run pins _ σ _ _ I1 (q _ hn)) fun ws s2 ⟨ps, H2, I2, rel, H3, st, q2⟩ => ?_)
  refine wpAny_holding ?_
  refine wpAny_bind (stores_run hu st I2 rel fun s3 I3 => wpAny_pure (wpAny_pure (wpAny_pure ⟨.ref s.heap.objs.size, H3, I3, rfl, q2⟩)))
/-! the same over data -/
def sPairs : List (E × E) → Env → Cells → R (List (W × W))
  | [], _, h => .ok [] h
  | (k, v) :: r, env, h => (k env h).bind fun wk h1 => (v env h1).bind fun wv h2 => (sPairs r env h2).bind fun ps h3 => .ok ((wk, wv) :: ps) h3
inductive WRP (g : Glob) (F : Hp) (ρ : Nat → Option Addr) : List (V × V) → List (W × W) → Prop
  | nil : WRP g F ρ [] []
  | cons {k v : V} {wk wv : W} {r : List (V × V)} {ws : List (W × W)} : WR g F ρ k wk → WR g F ρ v wv → WRP g F ρ r ws → WRP g F ρ ((k, v) :: r) ((wk, wv) :: ws)
theorem WRP.mono {g : Glob} {F F' : Hp} {ρ ρ' : Nat → Option Addr} (f : Le F F') (r : ∀ n a, ρ n = some a → ρ' n = some a) : ∀ {vs : List (V × V)} {ws : List (W × W)}, WRP g F ρ vs ws → WRP g F' ρ' vs ws
  | _, _, .nil => .nil
  | _, _, .cons a b t => .cons (a.mono f r) (b.mono f r) (WRP.mono f r t)
theorem tpairs_ok {g : Glob} {Wx : WX} {σ : L2.St} : ∀ (es : List (E × E)) {H F : Hp} {ρ : Nat → Option Addr} {env : Env} {h : Cells} {Q : List (V × V) → Hp → Prop}, ER g F ρ σ env → Rl F ρ h H → Po g Wx σ (WRP g) H F ρ Q (sPairs es env h) →
    tPairs (es.map fun p => (tD g Wx p.1, tD g Wx p.2)) σ H Q
  | [], H, F, ρ, env, h, Q, er, rl, p => p [] H F ρ Ext.refl .nil rl
  | (k, v) :: r, H, F, ρ, env, h, Q, er, rl, p => by
    show tD g Wx k σ H fun x H1 => tD g Wx v σ H1 fun y H2 => tPairs _ σ H2 fun ps H3 => Q ((x, y) :: ps) H3
    refine (tG.in (rel2 := WR g) er rl p).mono ?_
    rintro x H1 ⟨F1, ρ1, h1, wk, x1, er1, rl1, rx, p1⟩
    refine (tG.in (rel2 := WR g) er1 rl1 p1).mono ?_
    rintro y H2 ⟨F2, ρ2, h2, wv, x2, er2, rl2, ry, p2⟩
    refine tpairs_ok r er2 rl2 ((Po.bind (rel := WRP g) p2).mono ?_)
    rintro ps H3 ⟨F3, ρ3, h3, ws, x3, rp, rl3, p3⟩
    exact p3 _ H3 F3 ρ3 Ext.refl (.cons ((rx.mono x2.f x2.r).mono x3.f x3.r) (ry.mono x3.f x3.r) rp) rl3
def storeD : PyData → List (W × W) → Option PyData
  | c, [] => some c
  | .dict ps, (.d k, .d v) :: r => match dput2 ps k v with
    | some ps' => storeD (.dict ps') r
    | none => none
  | _, _ => none
def sDisp (es : List (E × E)) : E := fun env h => (sPairs es env (h ++ [some (.dict [])])).bind fun ps h2 => match h2[h.length]? with
  | some (some c) => match storeD c ps with
    | some c' => .ok (.ref h.length) (h2.set h.length (some c'))
    | none => .stk
  | _ => .stk
theorem store_ok2 {g : Glob} {a : Addr} {n : Nat} : ∀ {ps : List (V × V)} {ws : List (W × W)} {F H : Hp} {ρ : Nat → Option Addr} {h : Cells} {c c' : PyData}, WRP g F ρ ps ws → Rl F ρ h H → ρ n = some a → h[n]? = some (some c) → storeD c ws = some c' →
    ∃ H', Stores a H ps H' ∧ Rl F ρ (h.set n (some c')) H' ∧ Ext F ρ H F ρ H'
  | _, _, F, H, ρ, h, c, c', .nil, rl, ea, hn, e => by
    cases c with
    | dict ps =>
      have e' : some (PyData.dict ps) = some c' := e
      cases e'
      refine ⟨H, .nil, ?_, Ext.refl⟩
      rw [show h.set n (some (PyData.dict ps)) = h from by
        apply List.ext_getElem?
        intro i
        by_cases hi : n = i
        · subst hi
          have hl := (List.getElem?_eq_some_iff.mp hn).1
          rw [List.getElem?_set_self hl, hn]
        · rw [List.getElem?_set_ne hi]]
      exact rl
    | _ =>
      have e' : some _ = some c' := e
      cases e'
      obtain ⟨a', _, _, cr⟩ := rl.cel n _ hn
      first
        | exact cr.elim
        | (refine ⟨H, .nil, ?_, Ext.refl⟩
           rw [show h.set n (some _) = h from by
             apply List.ext_getElem?
             intro i
             by_cases hi : n = i
             · subst hi
               have hl := (List.getElem?_eq_some_iff.mp hn).1
               rw [List.getElem?_set_self hl, hn]
             · rw [List.getElem?_set_ne hi]]
           exact rl)
  | _, _, F, H, ρ, h, c, c', .cons (wk := wk) (wv := wv) rk rv t, rl, ea, hn, e => by
    cases c with
    | dict ps =>
      cases wk with
      | d k =>
        cases wv with
        | d v =>
          unfold storeD at e
          cases e2 : dput2 ps k v with
          | none => rw [e2] at e; cases e
          | some ps' =>
            rw [e2] at e
            obtain ⟨a', ea', _, cr⟩ := rl.cel n _ hn
            rw [ea] at ea'
            cases ea'
            obtain ⟨o, co, g2⟩ := dput_ok rl.le cr (DR.vw rl.le rk) rv e2
            obtain ⟨rl1, x1⟩ := rl.setCell hn ea co
            have hl := (List.getElem?_eq_some_iff.mp hn).1
            obtain ⟨H', st, rl2, x2⟩ := store_ok2 t rl1 ea (List.getElem?_set_self hl) e
            rw [List.set_set] at rl2
            exact ⟨H', .cons g2 st, rl2, x1.trans x2⟩
        | _ => cases e
      | _ => cases e
    | _ => (cases wk <;> cases wv <;> simp [storeD] at e)
section
variable {X : Cx} {g : Glob} {Wx : WX} {pos : Pos}
/-- the derivation of the pairs -/
inductive DPs (X : Cx) (g : Glob) (Wx : WX) : List (Option Expr) → List Expr → List (E × E) → Prop
  | nil : DPs X g Wx [] [] []
  | cons {k v : Expr} {ks : List (Option Expr)} {vs : List Expr} {sk sv : E} {r : List (E × E)} : PE X k (tD g Wx sk) → PE X v (tD g Wx sv) → DPs X g Wx ks vs r → DPs X g Wx (some k :: ks) (v :: vs) ((sk, sv) :: r)
theorem DPs.pps : ∀ {ks : List (Option Expr)} {vs : List Expr} {r : List (E × E)}, DPs X g Wx ks vs r → PPs X pos ks vs (r.map fun p => (tD g Wx p.1, tD g Wx p.2))
  | _, _, _, .nil => pps_nil
  | _, _, _, .cons a b t => pps_cons a b (DPs.pps t)
theorem de_disp {keys : List (Option Expr)} {values : List Expr} {es : List (E × E)} (hu : X.A.units + 2 < cLine) (h : DPs X g Wx keys values es) (hall : keys.all (·.isSome) = true := by rfl) (hl : keys.length = values.length := by rfl) (h0 : keys ≠ [] := by simp) (h15 : keys.length ≤ 15 := by decide) :
    PE X (.Dict keys values pos) (tD g Wx (sDisp es)) := by
  refine pe_mono (pe_disp2 hu (DPs.pps h) hall hl h0 h15) fun σ H Q ⟨F, ρ, env, h0, er, rl, p⟩ => ?_
  intro d hd
  obtain ⟨rl1, x1⟩ := rl.cellNew (o := .dK []) (d := .dict []) hd (.inl ⟨[], rfl, .nil⟩)
  refine tpairs_ok es (er.ext x1) rl1 ((Po.bind (rel := WRP g) (Po.ext p x1)).mono ?_)
  rintro ps H2 ⟨F2, ρ2, h2, ws, x2, rp, rl2, p2⟩
  have ea : ρ2 h0.length = some d := x2.r _ _ (if_pos rfl)
  cases hn : h2[h0.length]? with
  | none => rw [hn] at p2; exact p2.elim
  | some oc =>
    cases oc with
    | none => rw [hn] at p2; exact p2.elim
    | some c =>
      rw [hn] at p2
      try dsimp only at p2
      cases es : storeD c ws with
      | none => rw [es] at p2; exact p2.elim
      | some c' =>
        rw [es] at p2
        obtain ⟨H3, st, rl3, x3⟩ := store_ok2 rp rl2 ea hn es
        exact ⟨H3, st, p2 _ _ _ _ x3 ⟨d, ea, rfl⟩ rl3⟩
/-- {} -/
def sDNew : E := fun _ h => .ok (.ref h.length) (h ++ [some (.dict [])])
theorem de_dnew : PE X (.Dict [] [] pos) (tD g Wx sDNew) := by
  refine pe_mono pe_dnewK fun σ H Q ⟨F, ρ, env, h, er, rl, p⟩ => ?_
  intro d hd
  obtain ⟨rl1, x1⟩ := rl.cellNew (o := .dK []) (d := .dict []) hd (.inl ⟨[], rfl, .nil⟩)
  exact p _ _ _ _ x1 ⟨d, if_pos rfl, rfl⟩ rl1
/-- d.get(k, x) -/
def sGet3 (so sk sx : E) : E := fun env h => (so env h).bind fun o h1 => match lk h1 o with
  | some (.dict _) => (sk env h1).bind fun k h2 => (sx env h2).bind fun x h3 => match lk h3 o, lk h3 k, x with
    | some (.dict ps), some dk, .d dx => match dget ps dk with
      | some (some d) => .ok (.d d) h3
      | some none => .ok (.d dx) h3
      | none => .stk
    | _, _, _ => .stk
  | _ => .stk
theorem pe_dget3 {o e f : Expr} {apos cpos : Pos} {td ty tx : TE} (hu : X.A.units + 1 < cLine) (ho : PE X o td) (he : PE X e ty) (hf : PE X f tx) (m : M2 X o "get" apos e f cpos) :
    PE X (.Call (.Attribute o "get" apos) [e, f] [] cpos) (fun σ H Q => td σ H fun x H1 => ∃ a, x = .ref a ∧ IsD H1 a ∧ ty σ H1 fun y H2 => tx σ H2 fun z H3 => ∃ o, DGet2 H3 a y o ∧ Q (o.getD z) H3) := by
  refine ⟨fun pins s σ H Q I h => ?_⟩
  refine wpAny_Call_method m.base m.few m.line PySem.F.plainAttrs_dict PySem.F.slot_dict_get PySem.F.type_dict_get (thn (ho.run pins s σ H _ I h) fun u s1 ⟨x, H1, I1, rx, a, ex, d, q1⟩ => ?_)
  subst ex
  obtain rfl : u = Value.ref a := rx
  obtain ⟨t1, t2, _⟩ := isD_at I1 d
  refine ⟨t1, t2, ?_⟩
  rw [m.trees]
  refine Calls.callWith_builtin rfl (Calls.evalArgs_plain (Calls.spliced_cons (thn (he.run pins s1 σ H1 _ I1 q1) fun iv s2 ⟨y, H2, I2, ry, q2⟩ =>
    Calls.spliced_cons (thn (hf.run pins s2 σ H2 _ I2 q2) fun fv s3 ⟨z, H3, I3, rz, ov, g, q3⟩ => Calls.spliced_nil ?_))))
  exact d_get22 hu I3 g ry rz fun w' s4 I4 rw' => ⟨_, H3, I4, rw', q3⟩
theorem de_get3 {o e f : Expr} {apos cpos : Pos} {so sk sx : E} (hu : X.A.units + 1 < cLine) (ho : PE X o (tD g Wx so)) (he : PE X e (tD g Wx sk)) (hf : PE X f (tD g Wx sx)) (m : M2 X o "get" apos e f cpos := by exact ⟨rfl, rfl, rfl, rfl⟩) :
    PE X (.Call (.Attribute o "get" apos) [e, f] [] cpos) (tD g Wx (sGet3 so sk sx)) := by
  refine pe_mono (pe_dget3 hu ho he hf m) fun σ H Q h => ?_
  refine (tG.of (rel2 := WR g) (a := so) h (fun _ _ => rfl)).mono ?_
  rintro x H1 ⟨F, ρ, env, h1, wo, er, rl, ro, p⟩
  cases eo : lk h1 wo with
  | none => rw [eo] at p; exact p.elim
  | some d =>
    rw [eo] at p
    cases d with
    | dict ps0 =>
      have vo := ro.vw rl eo
      obtain ⟨a, rfl, isd⟩ : ∃ a, x = .ref a ∧ IsD H1 a := by
        cases vo with
        | dK rd r => exact ⟨_, rfl, .inl ⟨_, rd⟩⟩
        | dT rd r => exact ⟨_, rfl, .inr ⟨_, rd⟩⟩
      refine ⟨a, rfl, isd, ?_⟩
      refine (tG.in (rel2 := WR g) (a := sk) er rl p).mono ?_
      rintro y H2 ⟨F2, ρ2, h2, wk, x2, er2, rl2, rk, p2⟩
      refine (tG.in (rel2 := WR g) (a := sx) er2 rl2 p2).mono ?_
      rintro z H3 ⟨F3, ρ3, h3, wx, x3, er3, rl3, rx, p3⟩
      cases e1 : lk h3 wo with
      | none => rw [e1] at p3; exact p3.elim
      | some d1 =>
        cases e2 : lk h3 wk with
        | none => rw [e1, e2] at p3; cases d1 <;> exact p3.elim
        | some dk =>
          rw [e1, e2] at p3
          cases d1 with
          | dict ps =>
            cases wx with
            | d dx =>
              try dsimp only at p3
              cases e3 : dget ps dk with
              | none => rw [e3] at p3; exact p3.elim
              | some od =>
                rw [e3] at p3
                have vo3 := ((ro.mono x2.f x2.r).mono x3.f x3.r).vw rl3 e1
                have vk3 := (rk.mono x3.f x3.r).vw rl3 e2
                obtain ⟨a', ea, _, hcase⟩ := dget_ok vo3 vk3 e3
                cases ea
                rcases hcase with ⟨rfl, g2⟩ | ⟨v, d, rfl, g2, dv⟩
                · exact ⟨none, g2, p3 _ H3 F3 ρ3 Ext.refl rx rl3⟩
                · exact ⟨some v, .inl g2, p3 _ H3 F3 ρ3 Ext.refl dv rl3⟩
            | _ => exact p3.elim
          | _ => exact p3.elim
    | _ => exact p.elim
end
end CH

set_option Elab.async false
set_option linter.all false
set_option maxRecDepth 100000
namespace CH
open PySem L2
/-! ### dict comprehensions -/
def dcGo (p : Pat) (t : T) (ek ev : E) (gd : Option (Nat × PyData)) (env : Env) : List PyData → List (PyData × PyData) → Cells → R (List (PyData × PyData))
  | [], acc, h => if gdOk gd h then .ok acc h else .stk
  | d :: ds, acc, h => if gdOk gd h then match p.bind d env with
    | some env1 => match t env1 h with
      | .ok true h1 => match ek env1 h1 with
        | .ok (.d k) h2 => match ev env1 h2 with
          | .ok (.d y) h3 => if (flatKey k).isSome && decide (acc.length < 16777216) then dcGo p t ek ev gd env ds (dput acc k y) h3 else .stk
          | _ => .stk
        | _ => .stk
      | .ok false h1 => dcGo p t ek ev gd env ds acc h1
      | _ => .stk
    | none => .stk
    else .stk
def sDc (vs : List Nat) (p : Pat) (it : I) (t : T) (ek ev : E) : E := fun env h => (it env h).bind fun s h1 => (dcGo p t ek ev s.gd (wipeE env vs) s.items [] h1).bind fun ps h2 => .ok (.ref h2.length) (h2 ++ [some (.dict ps)])
/-- a dict that is made stands at D, seen by nothing else -/
structure NwK (F0 : Hp) (ρ0 : Nat → Option Addr) (H0 : Hp) (D : Addr) (F : Hp) (ρ : Nat → Option Addr) (H : Hp) (vs : List (Key × V)) : Prop where
  x : Ext F0 ρ0 H0 F ρ H
  new : H0 D = none
  at_ : H D = some (.dK vs)
  f : F D = none
  r : ∀ n, ρ n ≠ some D
section
variable {F0 F F' H0 H H' : Hp} {ρ0 ρ ρ' : Nat → Option Addr} {D : Addr} {vs : List (Key × V)}
theorem NwK.step (m : NwK F0 ρ0 H0 D F ρ H vs) (x : Ext F ρ H F' ρ' H') : NwK F0 ρ0 H0 D F' ρ' H' vs := by
  have hne : H D ≠ none := by rw [m.at_]; simp
  have ht : ∀ us, H D ≠ some (.tup us) := fun us z => by rw [m.at_] at z; cases z
  refine ⟨m.x.trans x, m.new, x.fr D _ m.at_ m.r, ?_, fun n e => ?_⟩
  · cases q : F' D with
    | none => rfl
    | some o =>
      rcases x.nw D (by rw [q]; simp) with e | e | ⟨n, e⟩ | ⟨us, e⟩
      · exact absurd m.f e
      · exact absurd e hne
      · exact absurd e (m.r n)
      · exact absurd e (ht us)
  · rcases x.rn n D e with ⟨k, e1⟩ | e1
    · exact m.r k e1
    · exact absurd e1 hne
theorem NwK.put (m : NwK F0 ρ0 H0 D F ρ H vs) (us : List (Key × V)) : NwK F0 ρ0 H0 D F ρ (upd H D (.dK us)) us :=
  ⟨⟨m.x.f, m.x.r, fun a o e hn => by rw [upd_ne (ne_of_none e m.new)]; exact m.x.fr a o e hn, m.x.nw, m.x.rn⟩, m.new, upd_same, m.f, m.r⟩
theorem NwK.start {h : Cells} (rl : Rl F ρ h H) (hD : H D = none) (us : List (Key × V)) : NwK F ρ H D F ρ (upd H D (.dK us)) us ∧ Rl F ρ h (upd H D (.dK us)) := by
  have fD : F D = none := by
    cases q : F D with
    | none => rfl
    | some o => rw [rl.le _ _ q] at hD; cases hD
  have rD : ∀ n, ρ n ≠ some D := fun n e => by
    obtain ⟨o, ho⟩ := rl.pl n D e
    rw [hD] at ho; cases ho
  exact ⟨⟨⟨fun _ _ e => e, fun _ _ e => e, fun a o e _ => by rw [upd_ne (ne_of_none e hD)]; exact e, fun _ e => .inl e, fun n _ e => .inl ⟨n, e⟩⟩, hD, upd_same, fD, rD⟩, rl.put fD rD⟩
theorem NwK.fin {g : Glob} {Wx : WX} {σ : L2.St} {ds : List (PyData × PyData)} {h : Cells} {Q : VK} (m : NwK F0 ρ0 H0 D F ρ H vs) (rl : Rl F ρ h H) (dr : DRK F vs ds)
    (p : Po g Wx σ (WR g) H0 F0 ρ0 Q (.ok (.ref h.length) (h ++ [some (.dict ds)]))) : Q (.ref D) H := by
  have old : ∀ n k, h[n]? = some (some k) → n ≠ h.length := fun n k e z => by
    subst z
    rw [List.getElem?_eq_none (Nat.le_refl _)] at e
    cases e
  have cas : ∀ (n : Nat) (k : PyData), (h ++ [some (.dict ds)])[n]? = some (some k) → (h[n]? = some (some k)) ∨ (n = h.length ∧ k = .dict ds) := fun n k e => by
    by_cases hn : n < h.length
    · rw [List.getElem?_append_left hn] at e
      exact .inl e
    · by_cases hn' : n = h.length
      · subst hn'
        rw [List.getElem?_append_right (Nat.le_refl _)] at e
        simp at e
        exact .inr ⟨rfl, e.symm⟩
      · rw [List.getElem?_eq_none (by simp; omega)] at e
        cases e
  refine p (.ref D) H F (fun n => if n = h.length then some D else ρ n) ⟨m.x.f, fun n a e => ?_, m.x.fr, m.x.nw, fun n a e => ?_⟩ ⟨D, if_pos rfl, rfl⟩ ⟨rl.le, fun n k e => ?_, fun n k c d a h1 h2 h3 h4 => ?_, fun n hn => ?_, fun n a e => ?_⟩
  · have e' := m.x.r n a e
    by_cases hn : n = h.length
    · subst hn
      rw [rl.top _ (Nat.le_refl _)] at e'
      cases e'
    · rw [if_neg hn]; exact e'
  · by_cases hn : n = h.length
    · rw [if_pos hn] at e
      cases e
      exact .inr m.new
    · rw [if_neg hn] at e
      exact m.x.rn n a e
  · rcases cas n k e with e1 | ⟨rfl, rfl⟩
    · obtain ⟨a, ea, fa, cr⟩ := rl.cel n k e1
      exact ⟨a, by rw [if_neg (old n k e1)]; exact ea, fa, cr⟩
    · exact ⟨D, if_pos rfl, m.f, .inl ⟨vs, m.at_, dr⟩⟩
  · rcases cas n c h1 with e1 | ⟨e1, _⟩
    · rcases cas k d h2 with e2 | ⟨e2, _⟩
      · rw [if_neg (old n c e1)] at h3
        rw [if_neg (old k d e2)] at h4
        exact rl.inj n k c d a e1 e2 h3 h4
      · rw [if_neg (old n c e1)] at h3
        rw [if_pos e2] at h4
        cases h4
        exact absurd h3 (m.r n)
    · rcases cas k d h2 with e2 | ⟨e2, _⟩
      · rw [if_neg (old k d e2)] at h4
        rw [if_pos e1] at h3
        cases h3
        exact absurd h4 (m.r k)
      · exact e1.trans e2.symm
  · rw [List.length_append, List.length_singleton] at hn
    rw [if_neg (by omega)]
    exact rl.top n (by omega)
  · by_cases hn : n = h.length
    · rw [if_pos hn] at e
      cases e
      exact ⟨_, m.at_⟩
    · rw [if_neg hn] at e
      exact rl.pl n a e
end
theorem dcGo_gd {p : Pat} {t : T} {ek ev : E} {gd : Option (Nat × PyData)} {env : Env} {ds : List PyData} {acc : List (PyData × PyData)} {h : Cells} {g : Glob} {Wx : WX} {σ : L2.St} {α β : Type} {rel : Hp → (Nat → Option Addr) → β → α → Prop} {H F : Hp} {ρ : Nat → Option Addr} {Q : β → Hp → Prop} {k : List (PyData × PyData) → Cells → R α}
    (q : Po g Wx σ rel H F ρ Q ((dcGo p t ek ev gd env ds acc h).bind k)) : gdOk gd h = true := by
  cases e1 : gdOk gd h with
  | true => rfl
  | false =>
    cases ds with
    | nil => unfold dcGo at q; rw [e1] at q; exact q.elim
    | cons d ds => unfold dcGo at q; rw [e1] at q; exact q.elim
section
variable {X : Cx} {g : Glob} {Wx : WX} {pos : Pos}
theorem tdc_ok {own us : List Nat} {p : Pat} {si : I} {st : T} {sk sv : E} (hsub : ∀ i ∈ us, i ∈ own) {σ : L2.St} {H : Hp} {Q : VK} (h : tD g Wx (sDc own p si st sk sv) σ H Q) : tDc (tI g Wx si) (tP g us p) (tDT g Wx0 st) (tD g Wx0 sk) (tD g Wx0 sv) own σ H Q := by
  refine (tG.of (rel2 := fun F ρ (J : It) (s : Src) => WkOk F ρ s J) (a := si) h (fun _ _ => rfl)).mono ?_
  rintro J H1 ⟨F0, ρ0, env0, h0, s, er0, rl0, ⟨G, Y, wk, hG, hY⟩, p0⟩
  intro D hD
  refine ⟨fun i m H => m = s.items.length - i ∧ i ≤ s.items.length ∧ ∃ F ρ h vs acc, NwK F0 ρ0 H1 D F ρ H vs ∧ Rl F ρ h H ∧ DRK F vs acc ∧
    Po g Wx σ (WR g) H1 F0 ρ0 Q ((dcGo p st sk sv s.gd (wipeE env0 own) (s.items.drop i) acc h).bind fun ps h2 => .ok (.ref h2.length) (h2 ++ [some (.dict ps)])), ⟨s.items.length, by simp, Nat.zero_le _, ?_⟩, ?_⟩
  · obtain ⟨n1, r1⟩ := NwK.start rl0 hD []
    exact ⟨F0, ρ0, h0, [], [], n1, r1, .nil, p0⟩
  · rintro i m H' ⟨rfl, hile, F, ρ, h', vs, acc, nw, rl, dr, q⟩
    have gd := dcGo_gd q
    have hg := hG F ρ h' H' nw.x.f nw.x.r rl gd
    by_cases hlt0 : i < s.items.length
    · refine .inr ⟨wk.goes i H' hlt0 hg, fun H => ∃ F ρ h vs acc, NwK F0 ρ0 H1 D F ρ H vs ∧ Rl F ρ h H ∧ DRK F vs acc ∧
        Po g Wx σ (WR g) H1 F0 ρ0 Q ((dcGo p st sk sv s.gd (wipeE env0 own) (s.items.drop (i + 1)) acc h).bind fun ps h2 => .ok (.ref h2.length) (h2 ++ [some (.dict ps)])), fun H' p' => ⟨s.items.length - (i + 1), by omega, rfl, hlt0, p'⟩, fun x H2 y => ?_⟩
      obtain ⟨F2, gr, d, ed, drx⟩ := hY F ρ h' H' i x H2 nw.x.f nw.x.r rl gd hlt0 (wk.yields i H' x H2 hlt0 hg y)
      obtain ⟨hlt, ed'⟩ := List.getElem?_eq_some_iff.mp ed
      rw [List.drop_eq_getElem_cons hlt, ed'] at q
      unfold dcGo at q
      rw [if_pos gd] at q
      cases z : Pat.bind p d (wipeE env0 own) with
      | none => rw [z] at q; exact q.elim
      | some env1 =>
        rw [z] at q
        have x2 : Ext F ρ H' F2 ρ H2 := gr.ext ρ
        have rl2 := gr.rl rl
        have nw2 := nw.step x2
        have er2 : ER g F2 ρ (wipe σ own) (wipeE env0 own) := ((er0.ext nw.x).ext x2).wipe own
        refine ⟨F2, ρ, _, env1, d, rl2.le, er2, drx, z, fun σ2 er3 w3 => ⟨?_, ?_⟩⟩
        · rw [w3 own hsub]
          exact wipe_wipe
        · try dsimp only at q
          cases zt : st env1 h' with
          | stk => rw [zt] at q; exact q.elim
          | exc c p h => rw [zt] at q; exact q.elim
          | ok b h3 =>
            rw [zt] at q
            refine ⟨F2, ρ, env1, h', er3, rl2, ?_⟩
            rw [zt]
            intro b' H3 F3 ρ3 x3 eb rl3
            cases eb
            have nw3 := nw2.step x3
            cases b with
            | false =>
              rw [if_neg Bool.false_ne_true]
              exact ⟨F3, ρ3, h3, vs, acc, nw3, rl3, (DRK.mono gr.f dr).mono x3.f, q⟩
            | true =>
              rw [if_pos rfl]
              try dsimp only at q
              cases zk : sk env1 h3 with
              | stk => rw [zk] at q; exact q.elim
              | exc c p h => rw [zk] at q; exact q.elim
              | ok wk h4 =>
                rw [zk] at q
                cases wk with
                | d k =>
                  try dsimp only at q
                  refine ⟨F3, ρ3, env1, h3, er3.ext x3, rl3, ?_⟩
                  rw [zk]
                  intro y H4 F4 ρ4 x4 ry rl4
                  have nw4 := nw3.step x4
                  cases zv : sv env1 h4 with
                  | stk => rw [zv] at q; exact q.elim
                  | exc c p h => rw [zv] at q; exact q.elim
                  | ok wv h5 =>
                    rw [zv] at q
                    cases wv with
                    | d dv =>
                      try dsimp only at q
                      cases hc : (flatKey k).isSome && decide (acc.length < 16777216) with
                      | false => rw [hc, if_neg Bool.false_ne_true] at q; exact q.elim
                      | true =>
                        rw [hc, if_pos rfl] at q
                        obtain ⟨hc1, hc2⟩ := Bool.and_eq_true_iff.mp hc
                        obtain ⟨kk, ekk⟩ := Option.isSome_iff_exists.mp hc1
                        have ek := flatKey_eq ekk
                        subst ek
                        refine ⟨F4, ρ4, env1, h4, (er3.ext x3).ext x4, rl4, ?_⟩
                        rw [zv]
                        intro v H5 F5 ρ5 x5 rv rl5
                        have nw5 := nw4.step x5
                        have dr5 : DRK F5 vs acc := (((DRK.mono gr.f dr).mono x3.f).mono x4.f).mono x5.f
                        have ey : y = kV kk := vw_flat (DR.vw rl4.le ry)
                        have hl : vs.length = acc.length := dr5.length
                        exact ⟨vs, kk, ey, nw5.at_, lt_line_of (by rw [hl]; exact of_decide_eq_true hc2), F5, ρ5, h5, putK vs kk v, dput acc (keyD kk) dv, nw5.put _, rl5.put nw5.f nw5.r, put_K kk rv dr5, q⟩
                    | _ => exact q.elim
                | _ => exact q.elim
    · have ei : i = s.items.length := by omega
      subst ei
      rw [List.drop_length] at q
      unfold dcGo at q
      rw [if_pos gd] at q
      exact .inl ⟨wk.stops H' hg, nw.fin rl dr q⟩
theorem de_dc {own : List (Str × Nat)} {us : List Nat} {p : Pat} {kx vx tg iter : Expr} {ifs : List Expr} {scope : Scope} {si : I} {st : T} {sk sv : E} (hc : X.calm = true) (hN : X.N.Nodup) (hi : PI X tg iter (tI g Wx si)) (ok : BlkOk X.N X.env.scope scope own)
    (hg : ∀ (s : Shared) (H : Hp) (C : Addr) (cl : List (Str × Addr)) (fp : List Addr), DG (X.blk s H scope (compEnvC scope cl C X.env) fp) g us p tg)
    (ht : ∀ (s : Shared) (H : Hp) (C : Addr) (cl : List (Str × Addr)) (fp : List Addr), PTs (X.blk s H scope (compEnvC scope cl C X.env) fp) ifs (tDT g Wx0 st))
    (hk : ∀ (s : Shared) (H : Hp) (C : Addr) (cl : List (Str × Addr)) (fp : List Addr), PE (X.blk s H scope (compEnvC scope cl C X.env) fp) kx (tD g Wx0 sk))
    (hv : ∀ (s : Shared) (H : Hp) (C : Addr) (cl : List (Str × Addr)) (fp : List Addr), PE (X.blk s H scope (compEnvC scope cl C X.env) fp) vx (tD g Wx0 sv))
    (hsub : ∀ i ∈ us, i ∈ own.map (·.2) := by decide) (hs : ∀ x, foldedSetIterable iter X.env x = pure x := by intro _; rfl) {ws : List Nat} (hws : own.map (·.2) = ws := by rfl) :
    PE X (.DictComp kx vx [⟨tg, iter, ifs, 0⟩] scope pos) (tD g Wx (sDc ws p si st sk sv)) :=
  hws ▸ pe_mono (pe_dc hc hN hi ok (fun s H C cl fp => (hg s H C cl fp).pg) ht hk hv hs) fun σ H Q h => tdc_ok hsub h
end
end CH

set_option Elab.async false
set_option linter.all false
set_option maxRecDepth 100000
namespace CH
open PySem L2
/-! ### the script -/
def sLenS (a : E) : E := fun env h => (a env h).bind fun w h1 => match w with
  | .scr ns => .ok (.d (.int ns.length)) h1
  | _ => .stk
def sIxS (a b : E) : E := fun env h => (a env h).bind fun w h1 => (b env h1).bind fun i h2 => match w, lk h2 i with
  | .scr ns, some (.int i) => match atI ns i with
    | some n => .ok (.d (.int n)) h2
    | none => .stk
  | _, _ => .stk
def sSlS (a : E) (lo hi : PE') : E := fun env h => (a env h).bind fun x h1 => (lo env h1).bind fun l h2 => (hi env h2).bind fun u h3 => match x with
  | .scr ns => .ok (.d (.list ((cutD ns l u).map .int))) h3
  | _ => .stk
section
variable {X : Cx} {g : Glob} {Wx : WX} {pos p2 p : Pos} {a b e o : Expr} {sa sb se so : E} {lo hi : Option Expr} {sl sh : PE'}
theorem drl_int {F : Hp} : ∀ ns : List Int, DRL F (ns.map V.int) (ns.map .int)
  | [] => .nil
  | n :: ns => .cons (.int n) (drl_int ns)
theorem cut_map {α β : Type} (f : α → β) (xs : List α) (lo hi : Option Int) : cutD (xs.map f) lo hi = (cutD xs lo hi).map f := by
  unfold cutD
  rw [List.length_map, ← List.map_drop, ← List.map_take]
theorem de_lenS (hK : g.K = X.K) (hm : X.mg "len" = none) (ha : PE X a (tD g Wx sa)) (hg : Gl X "len" := by rfl) (hv : bootBuiltins "len" = some (.builtin "len") := by decide +kernel)
    (hs : starEach [a] X.env = (false, eval a X.env) :: starEach [] X.env := by rfl) (hpl : (backTo pos (starEach [] X.env)).any (·.1) = false := by rfl) : PE X (.Call (.Name "len" p) [a] [] pos) (tD g Wx (sLenS sa)) := by
  refine pe_mono (pe_callB call_len_seq hg hm hv (pa_cons ha pa_nil hs) (by decide) (by decide) hs hpl) fun σ H Q h => ?_
  refine (tG.of (rel2 := WR g) (a := sa) h (fun _ _ => rfl)).mono ?_
  rintro v H1 ⟨F, ρ, env, h1, w, er, rl, r, q⟩
  cases w with
  | scr ns =>
    obtain ⟨l, rfl, hl⟩ := r
    rw [hK] at hl
    refine ⟨l, ns.map V.int, rfl, .inl (sql_le rl.le hl), ?_⟩
    rw [List.length_map]
    exact q _ H1 F ρ Ext.refl (.int _) rl
  | _ => exact q.elim
theorem at_map {ns : List Int} {i : Int} {n : Int} (h : atI ns i = some n) : atI (ns.map V.int) i = some (.int n) := by
  unfold atI at h ⊢
  rw [List.length_map]
  cases e : ixN ns.length i with
  | none => rw [e] at h; cases h
  | some j =>
    rw [e] at h
    have h : ns[j]? = some n := h
    show (ns.map V.int)[j]? = _
    rw [List.getElem?_map, h]
    rfl
theorem de_ixS (hK : g.K = X.K) (ha : PE X a (tD g Wx sa)) (hb : PE X b (tD g Wx sb)) (hs : PlainIx b := by exact fun _ _ => rfl) : PE X (.Subscript a b pos) (tD g Wx (sIxS sa sb)) := by
  refine pe_mono (pe_ix ix_seq ha hb hs) fun σ H Q h => ?_
  refine (tG.of (rel2 := WR g) (a := sa) h (fun _ _ => rfl)).mono ?_
  rintro v H1 ⟨F, ρ, env, h1, w, er, rl, r, q⟩
  refine (tG.in (rel2 := WR g) (a := sb) er rl q).mono ?_
  rintro y H2 ⟨F2, ρ2, h2, wi, x2, er2, rl2, ri, q2⟩
  cases w with
  | scr ns =>
    obtain ⟨l, rfl, hl⟩ := r
    rw [hK] at hl
    cases ei : lk h2 wi with
    | none => rw [ei] at q2; exact q2.elim
    | some d =>
      rw [ei] at q2
      cases d with
      | int i =>
        have ev := vw_int (ri.vw rl2 ei)
        subst ev
        try dsimp only at q2
        cases en : atI ns i with
        | none => rw [en] at q2; exact q2.elim
        | some n =>
          rw [en] at q2
          exact .inl ⟨l, _, _, _, rfl, rfl, sql_le rl2.le (sql_le x2.f hl), at_map en, q2 _ H2 F2 ρ2 Ext.refl (.int _) rl2⟩
      | _ => exact q2.elim
  | _ => exact q2.elim
theorem de_sliceS (hK : g.K = X.K) (ha : PE X a (tD g Wx sa)) (hl : PO X lo (tDO g Wx sl)) (hh : PO X hi (tDO g Wx sh)) : PE X (.Subscript a (.Slice lo hi none p2) pos) (tD g Wx (sSlS sa sl sh)) := by
  refine pe_mono (pe_slice sl_list ha hl hh) fun σ H Q h => ?_
  refine (tG.of (rel2 := WR g) (a := sa) h (fun _ _ => rfl)).mono ?_
  rintro x H1 ⟨F, ρ, env, h1, w, er, rl, r, p⟩
  refine (tG.in (rel2 := rO) er rl p).mono ?_
  rintro l H2 ⟨F2, ρ2, h2, w2, x2, er2, rl2, rfl, p2⟩
  refine (tG.in (rel2 := rO) er2 rl2 p2).mono ?_
  rintro u H3 ⟨F3, ρ3, h3, w3, x3, er3, rl3, rfl, p3⟩
  cases w with
  | scr ns =>
    obtain ⟨b, rfl, hb⟩ := (r.mono x2.f x2.r).mono x3.f x3.r
    rw [hK] at hb
    refine ⟨b, ns.map V.int, rfl, sql_le rl3.le hb, fun q hq => ?_⟩
    have gr := Gr.new (o := .lst (cutV (ns.map V.int) l u)) rl3.le hq
    refine p3 _ _ _ ρ3 (gr.ext ρ3) (.lst upd_same ?_) (gr.rl rl3)
    have := cut_dr (F := F3) (drl_int ns) l u
    rw [cut_map] at this
    exact this.mono gr.f
  | _ => exact p3.elim
/-! ### a module's constant -/
theorem de_globI (i : Int) {x : Str} {t : Tok} (hm : X.mg x = some (.int i t)) (hg : Gl X x := by rfl) (hd : (x == ("__debug__" : Str)) = false := by decide) : PE X (.Name x pos) (tD g Wx fun _ h => .ok (.d (.int i)) h) :=
  pe_mono (pe_glob (v := .int i) hg hm ⟨t, rfl⟩ hd) fun σ H Q ⟨F, ρ, env, h, er, rl, p⟩ => p _ H F ρ Ext.refl (.int i) rl
theorem de_globS (z : Str) {x : Str} {t : Tok} (hm : X.mg x = some (.str z t)) (hg : Gl X x := by rfl) (hd : (x == ("__debug__" : Str)) = false := by decide) : PE X (.Name x pos) (tD g Wx fun _ h => .ok (.d (.str z)) h) :=
  pe_mono (pe_glob (v := .str z) hg hm ⟨t, rfl⟩ hd) fun σ H Q ⟨F, ρ, env, h, er, rl, p⟩ => p _ H F ρ Ext.refl (.str z) rl
/-! ### i.bit_length(), x += e -/
def sBits (a : E) : E := fun env h => (a env h).bind fun w h1 => match lk h1 w with
  | some (.int i) => .ok (.d (.int (Builtin.Int.intBits i : Nat))) h1
  | _ => .stk
theorem de_bits {apos : Pos} (ha : PE X o (tD g Wx so)) (hbase : attributeBase o "bit_length" X.env (eval o X.env) = eval o X.env := by rfl) (hline : (apos.endLine == pos.line) = true := by rfl) : PE X (.Call (.Attribute o "bit_length" apos) [] [] pos) (tD g Wx (sBits so)) := by
  refine pe_mono (pe_bits ha hbase hline) fun σ H Q h => ?_
  refine (tG.of (rel2 := WR g) (a := so) h (fun _ _ => rfl)).mono ?_
  rintro v H1 ⟨F, ρ, env, h1, w, er, rl, r, q⟩
  cases e : lk h1 w with
  | none => rw [e] at q; exact q.elim
  | some d =>
    rw [e] at q
    cases d with
    | int i => exact ⟨i, vw_int (r.vw rl e), q _ H1 F ρ Ext.refl (.int _) rl⟩
    | _ => exact q.elim
def sAug (f : Int → Int → Int) (i : Nat) (e : E) : S := fun env h => match env[i]? with
  | some (some (.d (.int x))) => (e env h).st env fun w h1 => match lk h1 w with
    | some (.int y) => .nx (env.set i (some (.d (.int (f x y))))) h1
    | _ => .stk
  | _ => .stk
theorem ds_aug (i : Nat) {x : Str} {op : Operator} {f : Int → Int → Int} (ho : PIp X op (ipI f)) (hN : X.N.Nodup) (he : PE X e (tD g Wx se)) (hx : Loc X.env.scope x := by first | exact Or.inl rfl | exact Or.inr rfl) (hi : X.N[i]? = some x := by rfl)
    (hf : X.fn x = true ∨ X.env.scope.names.lookup x = some .local := by first | exact .inl rfl | exact .inr rfl) : PS X (.AugAssign (.Name x p) op e pos) (tS g Wx (sAug f i se)) := by
  refine ps_mono (ps_aug (i := i) hN hi hx he ho hf) fun D σ H ⟨F, ρ, env, h, er, rl, q⟩ => ?_
  unfold sAug at q
  cases ee : env[i]? with
  | none => rw [ee] at q; exact q.elim
  | some ow =>
    cases ow with
    | none => rw [ee] at q; exact q.elim
    | some w =>
      cases w with
      | d dd =>
        cases dd with
        | int x =>
          rw [ee] at q
          obtain ⟨v, ev, rv⟩ := er.get i _ ee
          cases rv
          refine ⟨.int x, ev, ?_⟩
          refine ⟨F, ρ, env, h, er, rl, (PoS.bind (rel := WR g) er q).mono ?_⟩
          rintro y H1 ⟨F1, ρ1, h1, w, x1, er1, rw1, rl1, q1⟩
          cases e1 : lk h1 w with
          | none => rw [e1] at q1; exact q1.elim
          | some d =>
            rw [e1] at q1
            cases d with
            | int y =>
              have ev := vw_int (rw1.vw rl1 e1)
              subst ev
              exact ⟨x, y, rfl, rfl, q1 _ H1 F1 ρ1 Ext.refl (er1.set i (w := .d (.int (f x y))) (.int _)) rl1⟩
            | _ => exact q1.elim
        | _ => rw [ee] at q; exact q.elim
      | _ => rw [ee] at q; exact q.elim
/-! ### list(range(..)) -/
def sRg1 (c : Bool) (a : E) : E := fun env h => (a env h).bind fun w h1 => match w with
  | .d (.int n) => if 0 ≤ n ∧ n ≤ 16777216 then mk c (.list (rangeL 0 n.toNat)) h1 else .stk
  | _ => .stk
theorem drl_rg {F : Hp} (n : Nat) : DRL F (rgV 0 n) (rangeL 0 n) := by
  unfold rgV rangeL
  have e : ((n : Int) - 0).toNat = n := by omega
  rw [e]
  generalize List.range n = l
  induction l with
  | nil => exact .nil
  | cons x xs ih => exact .cons (.int _) ih
theorem de_rg1 (c : Bool) {x : Expr} {pr : Pos} (hc : X.calm = true) (hm : X.mg "list" = none) (hmr : X.mg "range" = none) (hx : PE X x (tD g Wx sa)) (hg : Gl X "list" := by rfl) (hgr : Gl X "range" := by rfl)
    (nx : starEach [x] X.env = (false, eval x X.env) :: starEach [] X.env := by rfl) (na : starEach [.Call (.Name "range" pr) [x] [] p2] X.env = (false, eval (.Call (.Name "range" pr) [x] [] p2) X.env) :: starEach [] X.env := by rfl) :
    PE X (.Call (.Name "list" p) [.Call (.Name "range" pr) [x] [] p2] [] pos) (tD g Wx (sRg1 c sa)) := by
  refine pe_mono (pe_listRg hc hg hm (prg_1 hgr hmr hx nx) na) fun σ H Q h => ?_
  refine (tG.of (rel2 := WR g) (a := sa) h (fun _ _ => rfl)).mono ?_
  rintro v H1 ⟨F, ρ, env, h1, w, er, rl, r, q⟩
  cases w with
  | d d =>
    cases d with
    | int n =>
      cases r
      have q : Po g Wx σ (WR g) H1 F ρ Q (if 0 ≤ n ∧ n ≤ 16777216 then mk c (.list (rangeL 0 n.toNat)) h1 else .stk) := q
      by_cases hn : 0 ≤ n ∧ n ≤ 16777216
      · rw [if_pos hn] at q
        have en : ((n.toNat : Nat) : Int) = n := by omega
        refine ⟨n, rfl, RgOk.of_le (by omega) hn.2 (by omega) hn.1, fun p hp => ?_⟩
        have dr := drl_rg (F := F) n.toNat
        rw [en] at dr
        exact mk_ok rl q ⟨_, rfl, dr⟩ p (fun F' e le => .lst e (dr.mono le)) hp
      · rw [if_neg hn] at q
        exact q.elim
    | _ => exact q.elim
  | _ => exact q.elim
end
/-! ### min(xs) of alike data -/
def okMin (xs : List PyData) : Bool := xs.all SeqAt.shaped && ((xs.all fun a => xs.all fun b => PySem.W.alike a b) && xs.all fun a => match a with
  | .none => false
  | _ => true)
def pMinD : List PyData → Option PyData
  | [.list (x :: xs)] => if okMin (x :: xs) then some (PySem.W.minD x xs) else none
  | _ => none
theorem depthAll_le {n : Nat} : ∀ {xs : List PyData}, (∀ x ∈ xs, x.depth ≤ n) → PyData.depthAll xs ≤ n
  | [], _ => by simp [PyData.depthAll]
  | x :: xs, h => by
    have h1 := h x List.mem_cons_self
    have h2 := depthAll_le (n := n) (xs := xs) fun y hy => h y (List.mem_cons_of_mem _ hy)
    simp only [PyData.depthAll]
    omega
theorem canLay_all : ∀ {xs : List PyData}, (∀ x ∈ xs, SeqAt.shaped x = true) → PyData.canLayAll0 xs = true
  | [], _ => by simp [PyData.canLayAll0]
  | x :: xs, h => by
    unfold PyData.canLayAll0
    rw [SeqAt.canLay_of_shaped (h x List.mem_cons_self), canLay_all fun y hy => h y (List.mem_cons_of_mem _ hy)]
    rfl
theorem drl_of_reads {F H : Hp} {X : Cx} {pins : List (Addr × Obj)} {σ : L2.St} {s : Shared} (I : Inv X pins σ H s) (le : Le F H) : ∀ {vs : List V} {ds : List PyData} {us : List Value}, DRL F vs ds → Vals vs us → (∀ d ∈ ds, SeqAt.shaped d = true) → ∀ {i : Nat} {u : Value}, us[i]? = some u →
    ∃ v d, vs[i]? = some v ∧ ds[i]? = some d ∧ RelV v u ∧ DR F v d ∧ ∃ as, PySem.Reads s.heap u d as
  | _, _, _, .nil, rv, _, i, u, hu => by cases rv; simp at hu
  | _, _, _, .cons (v := v) (d := d) a t, rv, sh, i, u, hu => by
    cases rv with
    | cons r1 r2 =>
      cases i with
      | zero =>
        simp at hu
        subst hu
        exact ⟨v, d, rfl, rfl, r1, a, Dp.reads I _ _ _ (dp_of le (SeqAt.canLay_of_shaped (sh d List.mem_cons_self)) a) r1⟩
      | succ i => simpa using drl_of_reads I le t r2 (fun d hd => sh d (List.mem_cons_of_mem _ hd)) (i := i) (u := u) (by simpa using hu)
theorem cd_minD {X : Cx} (hc : X.calm = true) (hu : X.A.units + 70 < cLine) : CaD X (.builtin "min") pMinD := .of <| by
  intro pins s σ H xs us Q I r ⟨F, ds, z, le, vx, hf, q⟩
  cases vx with
  | nil => cases hf
  | cons v1 vr =>
    cases vr with
    | cons _ _ =>
      cases v1 with
      | lst e r =>
        rename_i ds
        cases ds <;> cases hf
      | _ => cases hf
    | nil =>
      cases v1 with
      | @lst a vs ds e1 r1 =>
        cases ds with
        | nil => cases hf
        | cons x xs =>
          have hf : (if okMin (x :: xs) = true then some (PySem.W.minD x xs) else none) = some z := hf
          by_cases hok : okMin (x :: xs) = true
          · rw [if_pos hok] at hf
            cases hf
            unfold okMin at hok
            obtain ⟨k1, hok⟩ := Bool.and_eq_true_iff.mp hok
            obtain ⟨k2, k3⟩ := Bool.and_eq_true_iff.mp hok
            have sh : ∀ d ∈ x :: xs, SeqAt.shaped d = true := fun d hd => List.all_eq_true.mp k1 d hd
            have al : PySem.W.AlikeAll (x :: xs) := ⟨fun a ha b hb => List.all_eq_true.mp (List.all_eq_true.mp k2 a ha) b hb, fun a ha z => by
              have := List.all_eq_true.mp k3 a ha
              rw [z] at this
              cases this⟩
            obtain ⟨u, rfl, rx⟩ := vals1 r
            cases (show u = Value.ref a from rx)
            obtain ⟨hz, its, n, rv, hlen, hget⟩ := I.lstM e1
            obtain ⟨as, ra⟩ := Dp.readsAll I _ _ its (dps_of le (canLay_all sh) r1) rv
            have hd : PyData.depthAll (x :: xs) ≤ 64 := depthAll_le fun d hd => SeqAt.depth_of_shaped (sh d hd)
            refine PySem.W.min_list_data (vs := its.toArray) (I.ok.hd hc) ⟨_, hget, rfl, n, rfl⟩ ra al (by omega) fun i v h' tk bs hv rd keep => ?_
            have hv' : its[i]? = some v := by simpa using hv
            obtain ⟨v0, d0, hv0, hd0, rv0, dr0, as0, rd0⟩ := drl_of_reads I le r1 rv sh hv'
            have ed := (PyProof.Rows.reads_det (fun b o e _ => keep b o e) rd0 rd).1
            rw [ed] at q
            exact ⟨v0, H, I.kept (t' := tk) keep, rv0, q_sc le q dr0⟩
          · rw [if_neg hok] at hf
            cases hf
      | _ => cases hf
def pNeg : PyData → Option PyData
  | .int i => some (.int (-i))
  | _ => none
theorem ud_neg {X : Cx} : UnD X (unaryOp .USub) pNeg := ⟨_, un_neg, fun F H x dx z Q le vx hf q => by
  cases vx with
  | int i => cases hf; exact ⟨i, rfl, q_sc le q (.int _)⟩
  | _ => cases hf⟩
end CH

set_option Elab.async false
set_option linter.all false
set_option maxRecDepth 100000
namespace CH
open PySem L2
/-! ### repr -/
section
variable {P : Program} {w : World} {F H : Hp} {h : Heap}
theorem readsAll_vals : ∀ {ks : List Key} {us : List Value}, Vals (ks.map kV) us → PySem.ReadsAll h us (ks.map keyD) []
  | [], _, r => by cases r; exact .nil
  | k :: ks, _, r => by
    cases r with
    | cons a b => exact .cons (as := []) (bs := []) (reads_key a) (readsAll_vals b)
theorem keyIs_val {P : Program} {w : World} {k : Key} {u : Value} (h : (mixKind P w).is k u = true) : RelV (kV k) u := keyIs_rel h
theorem pairs_keys {P : Program} {w : World} : ∀ {es : List DictEntry} {vs : List (Key × Value)} {kvs : List (Key × V)} {ps : List (PyData × PyData)}, Pairs (mixKind P w) es vs → KV kvs vs → DRK F kvs ps → PySem.ReadsAll h (es.map (·.key)) (ps.map (·.1)) []
  | _, _, _, _, .nil, k, r => by cases k; cases r; exact .nil
  | _, _, _, _, .cons h1 h2 t, k, r => by
    cases k with
    | cons a b =>
      cases r with
      | cons d r =>
        refine .cons (as := []) (bs := []) (reads_key (keyIs_val (P := P) (w := w) ?_)) (pairs_keys t b r)
        have e := a.1
        rw [← e] at h1
        exact h1
theorem pairs_vals {P : Program} {w : World} : ∀ {es : List DictEntry} {vs : List (Key × Value)}, Pairs (mixKind P w) es vs → es.map (·.val) = vs.map (·.2)
  | _, _, .nil => rfl
  | _, _, .cons _ h2 t => by rw [List.map_cons, List.map_cons, h2, pairs_vals t]
theorem kv_vals : ∀ {kvs : List (Key × V)} {vs : List (Key × Value)}, KV kvs vs → Vals (kvs.map (·.2)) (vs.map (·.2))
  | _, _, .nil => .nil
  | _, _, .cons a t => .cons a.2 (kv_vals t)
mutual
theorem dr_reads (hok : HOk P w H h) (le : Le F H) (hs : H sysModules = none) : ∀ {v : V} {d : PyData} {u : Value}, DR F v d → RelV v u → ∃ as, PySem.Reads h u d as ∧ sysModules ∉ as
  | _, _, _, .non, r => by cases r; exact ⟨[], .none, by simp⟩
  | _, _, _, .bl b, r => by cases (show _ = Value.bool b from r); exact ⟨[], .bool b, by simp⟩
  | _, _, _, .int i, r => by obtain ⟨t, rfl⟩ := r; exact ⟨[], .int i t, by simp⟩
  | _, _, _, .str s, r => by obtain ⟨t, rfl⟩ := r; exact ⟨[], .str s t, by simp⟩
  | _, _, _, .lst (a := a) e q, r => by
    cases r
    have ha := le _ _ e
    obtain ⟨z, its, n, rv, hg⟩ := hok a _ ha
    obtain ⟨as, ra, hn⟩ := drl_reads hok le hs q rv
    refine ⟨a :: as, .list hg rfl rfl (by simpa using ra), fun hm => ?_⟩
    rcases List.mem_cons.mp hm with e | e
    · rw [e, ha] at hs; cases hs
    · exact hn e
  | _, _, _, .tup (a := a) e q, r => by
    cases r
    have ha := le _ _ e
    obtain ⟨z, its, rv, o, hg, hc, n, hd⟩ := hok a _ ha
    obtain ⟨as, ra, hn⟩ := drl_reads hok le hs q rv
    exact ⟨as, .tuple hg hc hd (by simpa using ra), hn⟩
  | _, _, _, .dK (a := a) (kvs := kvs) e q, r => by
    cases r
    have ha := le _ _ e
    obtain ⟨z, lo, vs, rel, o, es, ep, hg, hx, hd, _, hp, _⟩ := dk_rd hok (.inr ⟨_, ha⟩)
    obtain ⟨bs, rb, hn⟩ := drk_reads hok le hs q rel
    refine ⟨a :: [] ++ bs, .dict hg hx.1 hd (pairs_keys hp rel q) (by rw [pairs_vals hp]; exact rb), fun hm => ?_⟩
    rcases List.mem_cons.mp hm with e | e
    · rw [e, ha] at hs; cases hs
    · exact hn e
  | _, _, _, .dT (a := a) (kvs := kvs) e q, r => by
    cases r
    have ha := le _ _ e
    obtain ⟨z, lo, xs, rel, o, es, ep, hg, hx, hd, he, _, _⟩ := dt_rd hok (.inr ⟨_, ha⟩)
    obtain ⟨as, bs, ra, rb, hn1, hn2⟩ := drt_reads hok le hs q rel
    refine ⟨a :: as ++ bs, .dict hg hx.1 hd (by rw [he]; simpa [List.map_map, Function.comp_def, entryOfKey] using ra) (by rw [he]; simpa [List.map_map, Function.comp_def, entryOfKey] using rb), fun hm => ?_⟩
    rcases List.mem_cons.mp hm with e | e
    · rw [e, ha] at hs; cases hs
    · rcases List.mem_append.mp e with e | e
      · exact hn1 e
      · exact hn2 e
theorem drl_reads (hok : HOk P w H h) (le : Le F H) (hs : H sysModules = none) : ∀ {vs : List V} {ds : List PyData} {us : List Value}, DRL F vs ds → Vals vs us → ∃ as, PySem.ReadsAll h us ds as ∧ sysModules ∉ as
  | _, _, _, .nil, r => by cases r; exact ⟨[], .nil, by simp⟩
  | _, _, _, .cons a t, r => by
    cases r with
    | cons r1 r2 =>
      obtain ⟨as, h1, n1⟩ := dr_reads hok le hs a r1
      obtain ⟨bs, h2, n2⟩ := drl_reads hok le hs t r2
      exact ⟨as ++ bs, .cons h1 h2, fun z => (List.mem_append.mp z).elim n1 n2⟩
theorem drk_reads (hok : HOk P w H h) (le : Le F H) (hs : H sysModules = none) : ∀ {kvs : List (Key × V)} {ps : List (PyData × PyData)} {vs : List (Key × Value)}, DRK F kvs ps → KV kvs vs → ∃ as, PySem.ReadsAll h (vs.map (·.2)) (ps.map (·.2)) as ∧ sysModules ∉ as
  | _, _, _, .nil, r => by cases r; exact ⟨[], .nil, by simp⟩
  | _, _, _, .cons a t, r => by
    cases r with
    | cons r1 r2 =>
      obtain ⟨as, h1, n1⟩ := dr_reads hok le hs a r1.2
      obtain ⟨bs, h2, n2⟩ := drk_reads hok le hs t r2
      exact ⟨as ++ bs, .cons h1 h2, fun z => (List.mem_append.mp z).elim n1 n2⟩
theorem drt_reads (hok : HOk P w H h) (le : Le F H) (hs : H sysModules = none) : ∀ {kvs : List (List Key × V)} {ps : List (PyData × PyData)} {xs : List (List Key × Addr × Value)}, DRT F kvs ps → KT H kvs xs → ∃ as bs, PySem.ReadsAll h (xs.map fun x => .ref x.2.1) (ps.map (·.1)) as ∧ PySem.ReadsAll h (xs.map fun x => x.2.2) (ps.map (·.2)) bs ∧ sysModules ∉ as ∧ sysModules ∉ bs
  | _, _, _, .nil, r => by cases r; exact ⟨[], [], .nil, .nil, by simp, by simp⟩
  | _, _, _, .cons (k := k) a t, r => by
    cases r with
    | @cons _ q _ _ r1 r2 =>
      obtain ⟨bs, h1, n1⟩ := dr_reads hok le hs a r1.2.2
      obtain ⟨as', bs', h2, h3, n2, n3⟩ := drt_reads hok le hs t r2
      obtain ⟨z, its, rv, o, hg, hc, n, hd⟩ := (show ObjOk P w H h q.2.1 (.tup (k.map kV)) from hok _ _ r1.2.1)
      exact ⟨[] ++ as', bs ++ bs', .cons (as := []) (.tuple hg hc hd (by simpa using readsAll_vals rv)) h2, .cons h1 h3, by simpa using n2, fun z => (List.mem_append.mp z).elim n1 n3⟩
end
end
def pRepr : List PyData → Option PyData
  | [d] => if d.showable && (decide (d.shown.length ≤ 16777216) && decide (d.depth ≤ 64)) then some (.str d.shown) else none
  | _ => none
/-- a cell's reads -/
theorem vw_reads {P : Program} {w : World} {F H : Hp} {h : Heap} (hok : HOk P w H h) (le : Le F H) (hs : H sysModules = none) {v : V} {d : PyData} {u : Value} (x : Vw F H v d) (r : RelV v u) : ∃ as, PySem.Reads h u d as ∧ sysModules ∉ as := by
  cases x with
  | non => exact dr_reads hok le hs .non r
  | bl b => exact dr_reads hok le hs (.bl b) r
  | int i => exact dr_reads hok le hs (.int i) r
  | str s => exact dr_reads hok le hs (.str s) r
  | @lst a vs ds e q =>
    cases r
    obtain ⟨z, its, n, rv, hg⟩ := hok a _ e
    obtain ⟨as, ra, hn⟩ := drl_reads hok le hs q rv
    refine ⟨a :: as, .list hg rfl rfl (by simpa using ra), fun hm => ?_⟩
    rcases List.mem_cons.mp hm with e' | e'
    · rw [e', e] at hs; cases hs
    · exact hn e'
  | tup e e' q => exact dr_reads hok le hs (.tup e q) r
  | @dK a kvs ps rd q =>
    cases r
    obtain ⟨z, lo, vs, rel, o, es, ep, hg, hx, hd, _, hp, _⟩ := dk_rd hok rd
    obtain ⟨bs, rb, hn⟩ := drk_reads hok le hs q rel
    refine ⟨a :: [] ++ bs, .dict hg hx.1 hd (pairs_keys hp rel q) (by rw [pairs_vals hp]; exact rb), fun hm => ?_⟩
    rcases List.mem_cons.mp hm with e' | e'
    · rw [← e'] at lo; cases lo
    · exact hn e'
  | @dT a kvs ps rd q =>
    cases r
    obtain ⟨z, lo, xs, rel, o, es, ep, hg, hx, hd, he, _, _⟩ := dt_rd hok rd
    obtain ⟨as, bs, ra, rb, hn1, hn2⟩ := drt_reads hok le hs q rel
    refine ⟨a :: as ++ bs, .dict hg hx.1 hd (by rw [he]; simpa [List.map_map, Function.comp_def, entryOfKey] using ra) (by rw [he]; simpa [List.map_map, Function.comp_def, entryOfKey] using rb), fun hm => ?_⟩
    rcases List.mem_cons.mp hm with e' | e'
    · rw [← e'] at lo; cases lo
    · rcases List.mem_append.mp e' with e' | e'
      · exact hn1 e'
      · exact hn2 e'
theorem cd_repr {X : Cx} (hsy : ∃ o, X.base.get? sysModules = some o) (hgd : X.A.guards = some []) (hu : X.A.units + 70 < cLine) : CaD X (.builtin "repr") pRepr := .of <| by
  intro pins s σ H xs us Q I r ⟨F, ds, z, le, vx, hf, q⟩
  obtain ⟨o, ho⟩ := hsy
  have hs : H sysModules = none := (I.bs _ _ ho).2
  cases vx with
  | nil => cases hf
  | cons v1 vr =>
    cases vr with
    | cons _ _ => cases hf
    | nil =>
      rename_i v d
      have hf : (if (d.showable && (decide (d.shown.length ≤ 16777216) && decide (d.depth ≤ 64))) = true then some (PyData.str d.shown) else none) = some z := hf
      split at hf
      · rename_i hc
        cases hf
        obtain ⟨c1, hc⟩ := Bool.and_eq_true_iff.mp hc
        obtain ⟨c2, c3⟩ := Bool.and_eq_true_iff.mp hc
        have c2 := line_of (of_decide_eq_true c2)
        have c3 := of_decide_eq_true c3
        obtain ⟨u, rfl, rx⟩ := vals1 r
        obtain ⟨as, rd, hn⟩ := vw_reads I.hok le hs v1 rx
        have fin : ∀ h' t tk, (∀ b o, s.heap.get? b = some o → h'.get? b = some o) → EP X pins σ Q (.str d.shown t) { s with heap := h', toks := tk } := fun h' t tk k => ⟨.str d.shown, H, I.kept (t' := tk) k, ⟨t, rfl⟩, q_sc le q (.str _)⟩
        cases rd with
        | none => exact PySem.P.repr_of_none (fin s.heap _ _ fun _ _ e => e)
        | bool b => exact PySem.P.repr_of_bool (fin s.heap _ _ fun _ _ e => e)
        | int i t => exact PySem.P.repr_of_int (by simpa [PyData.showable] using c1) (fin s.heap _ _ fun _ _ e => e)
        | str x t => exact PySem.P.repr_of_str (fin s.heap _ _ fun _ _ e => e) c2
        | list h1 h2 h3 h4 => exact repr_of_reads' (.list h1 h2 h3 h4) c1 (fun _ => hn) hgd (by omega) (fun _ _ e => e) (fun h' u tk k => fin h' u tk k) c2
        | tuple h1 h2 h3 h4 => exact repr_of_reads' (.tuple h1 h2 h3 h4) c1 (fun _ => hn) hgd (by omega) (fun _ _ e => e) (fun h' u tk k => fin h' u tk k) c2
        | dict h1 h2 h3 h4 h5 => exact repr_of_reads' (.dict h1 h2 h3 h4 h5) c1 (fun _ => hn) hgd (by omega) (fun _ _ e => e) (fun h' u tk k => fin h' u tk k) c2
      · cases hf
end CH

set_option Elab.async false
set_option linter.all false
set_option maxRecDepth 100000
namespace CH
open PySem L2
/-! ### list comprehensions with two loops -/
def lc2Go (p : Pat) (t : T) (it1 : I) (p1 : Pat) (t1 : T) (e : E) (vs1 : List Nat) (gd : Option (Nat × PyData)) (env : Env) : List PyData → List PyData → Cells → R (List PyData)
  | [], acc, h => if gdOk gd h then .ok acc h else .stk
  | d :: ds, acc, h => if gdOk gd h then match p.bind d env with
    | some env1 => match t env1 h with
      | .ok true h1 => match it1 env1 h1 with
        | .ok s1 h2 => (lcGo p1 t1 e s1.gd (wipeE env1 vs1) s1.items acc h2).bind fun acc' h3 => lc2Go p t it1 p1 t1 e vs1 gd env ds acc' h3
        | _ => .stk
      | .ok false h1 => lc2Go p t it1 p1 t1 e vs1 gd env ds acc h1
      | _ => .stk
    | none => .stk
    else .stk
def sLc2 (c : Bool) (vs vs1 : List Nat) (p : Pat) (it : I) (t : T) (p1 : Pat) (it1 : I) (t1 : T) (e : E) : E := fun env h => (it env h).bind fun s h1 => (lc2Go p t it1 p1 t1 e vs1 s.gd (wipeE env vs) s.items [] h1).bind fun ys h2 => mk c (.list ys) h2
theorem R.bind_assoc {α β γ : Type} (r : R α) (f : α → Cells → R β) (k : β → Cells → R γ) : (r.bind f).bind k = r.bind fun a h => (f a h).bind k := by cases r <;> rfl
theorem ER.le {g : Glob} {F F' : Hp} {ρ ρ' : Nat → Option Addr} {σ : L2.St} {env : Env} (h : ER g F ρ σ env) (f : Le F F') (r : ∀ n a, ρ n = some a → ρ' n = some a) : ER g F' ρ' σ env :=
  ⟨h.len, fun i w e => by
    obtain ⟨v, e1, q⟩ := h.get i w e
    exact ⟨v, e1, q.mono f r⟩⟩
theorem lc2Go_gd {p : Pat} {t : T} {it1 : I} {p1 : Pat} {t1 : T} {e : E} {vs1 : List Nat} {gd : Option (Nat × PyData)} {env : Env} {ds acc : List PyData} {h : Cells} {g : Glob} {Wx : WX} {σ : L2.St} {α β : Type} {rel : Hp → (Nat → Option Addr) → β → α → Prop} {H F : Hp} {ρ : Nat → Option Addr} {Q : β → Hp → Prop} {k : List PyData → Cells → R α}
    (q : Po g Wx σ rel H F ρ Q ((lc2Go p t it1 p1 t1 e vs1 gd env ds acc h).bind k)) : gdOk gd h = true := by
  cases e1 : gdOk gd h with
  | true => rfl
  | false =>
    cases ds with
    | nil => unfold lc2Go at q; rw [e1] at q; exact q.elim
    | cons d ds => unfold lc2Go at q; rw [e1] at q; exact q.elim
section
variable {X : Cx} {g : Glob} {Wx : WX} {pos : Pos}
theorem tlc2_ok {own us us1 vs1 : List Nat} {c : Bool} {p p1 : Pat} {si si1 : I} {st st1 : T} {se : E} (hsub : ∀ i ∈ us, i ∈ own) (hsub1 : ∀ i ∈ us1, i ∈ vs1) {σ : L2.St} {H : Hp} {Q : VK} (h : tD g Wx (sLc2 c own vs1 p si st p1 si1 st1 se) σ H Q) :
    tLc2 (tI g Wx si) (tP g us p) (tDT g Wx0 st) (tI g Wx0 si1) (tP g us1 p1) (tDT g Wx0 st1) (tD g Wx0 se) own vs1 σ H Q := by
  refine (tG.of (rel2 := fun F ρ (J : It) (s : Src) => WkOk F ρ s J) (a := si) h (fun _ _ => rfl)).mono ?_
  rintro J H1 ⟨F0, ρ0, env0, h0, s, er0, rl0, ⟨G, Y, wk, hG, hY⟩, p0⟩
  intro D hD
  refine ⟨fun i m H => m = s.items.length - i ∧ i ≤ s.items.length ∧ ∃ F ρ h vs acc, Nw F0 ρ0 H1 D F ρ H vs ∧ Rl F ρ h H ∧ DRL F vs acc ∧
    Po g Wx σ (WR g) H1 F0 ρ0 Q ((lc2Go p st si1 p1 st1 se vs1 s.gd (wipeE env0 own) (s.items.drop i) acc h).bind fun ys h2 => CH.mk c (.list ys) h2), ⟨s.items.length, by simp, Nat.zero_le _, ?_⟩, ?_⟩
  · obtain ⟨n1, r1⟩ := Nw.start rl0 hD []
    exact ⟨F0, ρ0, h0, [], [], n1, r1, .nil, p0⟩
  · rintro i m H' ⟨rfl, hile, F, ρ, h', vs, acc, nw, rl, dr, q⟩
    have gd := lc2Go_gd q
    have hg := hG F ρ h' H' nw.x.f nw.x.r rl gd
    by_cases hlt0 : i < s.items.length
    · refine .inr ⟨wk.goes i H' hlt0 hg, fun H => ∃ F ρ h vs acc, Nw F0 ρ0 H1 D F ρ H vs ∧ Rl F ρ h H ∧ DRL F vs acc ∧
        Po g Wx σ (WR g) H1 F0 ρ0 Q ((lc2Go p st si1 p1 st1 se vs1 s.gd (wipeE env0 own) (s.items.drop (i + 1)) acc h).bind fun ys h2 => CH.mk c (.list ys) h2), fun H' p' => ⟨s.items.length - (i + 1), by omega, rfl, hlt0, p'⟩, fun x H2 y => ?_⟩
      obtain ⟨F2, gr, d, ed, drx⟩ := hY F ρ h' H' i x H2 nw.x.f nw.x.r rl gd hlt0 (wk.yields i H' x H2 hlt0 hg y)
      obtain ⟨hlt, ed'⟩ := List.getElem?_eq_some_iff.mp ed
      rw [List.drop_eq_getElem_cons hlt, ed'] at q
      unfold lc2Go at q
      rw [if_pos gd] at q
      cases z : Pat.bind p d (wipeE env0 own) with
      | none => rw [z] at q; exact q.elim
      | some env1 =>
        rw [z] at q
        have x2 : Ext F ρ H' F2 ρ H2 := gr.ext ρ
        have rl2 := gr.rl rl
        have nw2 := nw.step x2
        have er2 : ER g F2 ρ (wipe σ own) (wipeE env0 own) := ((er0.ext nw.x).ext x2).wipe own
        refine ⟨F2, ρ, _, env1, d, rl2.le, er2, drx, z, fun σ2 er3 w3 => ⟨?_, ?_⟩⟩
        · rw [w3 own hsub]
          exact wipe_wipe
        · try dsimp only at q
          cases zt : st env1 h' with
          | stk => rw [zt] at q; exact q.elim
          | exc c p h => rw [zt] at q; exact q.elim
          | ok b h3 =>
            rw [zt] at q
            refine ⟨F2, ρ, env1, h', er3, rl2, ?_⟩
            rw [zt]
            intro b' H3 F3 ρ3 x3 eb rl3
            cases eb
            have nw3 := nw2.step x3
            cases b with
            | false =>
              rw [if_neg Bool.false_ne_true]
              exact ⟨F3, ρ3, h3, vs, acc, nw3, rl3, (dr.mono gr.f).mono x3.f, q⟩
            | true =>
              rw [if_pos rfl]
              try dsimp only at q
              cases zi : si1 env1 h3 with
              | stk => rw [zi] at q; exact q.elim
              | exc c p h => rw [zi] at q; exact q.elim
              | ok s1 h4 =>
                rw [zi] at q
                try dsimp only at q
                rw [R.bind_assoc] at q
                refine ⟨F3, ρ3, env1, h3, er3.ext x3, rl3, ?_⟩
                rw [zi]
                rintro J1 H4 F4 ρ4 x4 ⟨G1, Y1, wk1, hG1, hY1⟩ rl4
                have nw4 := nw3.step x4
                have er4 : ER g F4 ρ4 σ2 env1 := (er3.ext x3).ext x4
                refine ⟨fun j k H => k = s1.items.length - j ∧ j ≤ s1.items.length ∧ ∃ F ρ h vs acc, (Le F4 F ∧ ∀ n a, ρ4 n = some a → ρ n = some a) ∧ Nw F0 ρ0 H1 D F ρ H vs ∧ Rl F ρ h H ∧ DRL F vs acc ∧
                  Po g Wx σ (WR g) H1 F0 ρ0 Q ((lcGo p1 st1 se s1.gd (wipeE env1 vs1) (s1.items.drop j) acc h).bind fun acc' h3 => (lc2Go p st si1 p1 st1 se vs1 s.gd (wipeE env0 own) (s.items.drop (i + 1)) acc' h3).bind fun ys h2 => CH.mk c (.list ys) h2), ⟨s1.items.length, by simp, Nat.zero_le _, ?_⟩, ?_⟩
                · exact ⟨F4, ρ4, h4, vs, acc, ⟨fun _ _ z => z, fun _ _ z => z⟩, nw4, rl4, ((dr.mono gr.f).mono x3.f).mono x4.f, q⟩
                · rintro j k H5 ⟨rfl, hjle, F5, ρ5, h5, vs5, acc5, xx5, nw5, rl5, dr5, q5⟩
                  have gd5 := lcGo_gd q5
                  have hg5 := hG1 F5 ρ5 h5 H5 xx5.1 xx5.2 rl5 gd5
                  by_cases hlt5 : j < s1.items.length
                  · refine .inr ⟨wk1.goes j H5 hlt5 hg5, fun H => ∃ F ρ h vs acc, (Le F4 F ∧ ∀ n a, ρ4 n = some a → ρ n = some a) ∧ Nw F0 ρ0 H1 D F ρ H vs ∧ Rl F ρ h H ∧ DRL F vs acc ∧
                      Po g Wx σ (WR g) H1 F0 ρ0 Q ((lcGo p1 st1 se s1.gd (wipeE env1 vs1) (s1.items.drop (j + 1)) acc h).bind fun acc' h3 => (lc2Go p st si1 p1 st1 se vs1 s.gd (wipeE env0 own) (s.items.drop (i + 1)) acc' h3).bind fun ys h2 => CH.mk c (.list ys) h2), fun H' p' => ⟨s1.items.length - (j + 1), by omega, rfl, hlt5, p'⟩, fun x H6 y => ?_⟩
                    obtain ⟨F6, gr6, d6, ed6, drx6⟩ := hY1 F5 ρ5 h5 H5 j x H6 xx5.1 xx5.2 rl5 gd5 hlt5 (wk1.yields j H5 x H6 hlt5 hg5 y)
                    obtain ⟨hlt6, ed6'⟩ := List.getElem?_eq_some_iff.mp ed6
                    rw [List.drop_eq_getElem_cons hlt6, ed6'] at q5
                    unfold lcGo at q5
                    rw [if_pos gd5] at q5
                    cases z6 : Pat.bind p1 d6 (wipeE env1 vs1) with
                    | none => rw [z6] at q5; exact q5.elim
                    | some env6 =>
                      rw [z6] at q5
                      have x6 : Ext F5 ρ5 H5 F6 ρ5 H6 := gr6.ext ρ5
                      have rl6 := gr6.rl rl5
                      have nw6 := nw5.step x6
                      have xx6 : Le F4 F6 ∧ ∀ n a, ρ4 n = some a → ρ5 n = some a := ⟨fun a o z => x6.f a o (xx5.1 a o z), fun n a z => x6.r n a (xx5.2 n a z)⟩
                      have er6 : ER g F6 ρ5 (wipe σ2 vs1) (wipeE env1 vs1) := (er4.le xx6.1 xx6.2).wipe vs1
                      refine ⟨F6, ρ5, _, env6, d6, rl6.le, er6, drx6, z6, fun σ3 er7 w7 => ⟨?_, ?_⟩⟩
                      · rw [w7 vs1 hsub1]
                        exact wipe_wipe
                      · try dsimp only at q5
                        cases zt6 : st1 env6 h5 with
                        | stk => rw [zt6] at q5; exact q5.elim
                        | exc c p h => rw [zt6] at q5; exact q5.elim
                        | ok b6 h7 =>
                          rw [zt6] at q5
                          refine ⟨F6, ρ5, env6, h5, er7, rl6, ?_⟩
                          rw [zt6]
                          intro b' H7 F7 ρ7 x7 eb rl7
                          cases eb
                          have nw7 := nw6.step x7
                          have xx7 : Le F4 F7 ∧ ∀ n a, ρ4 n = some a → ρ7 n = some a := ⟨fun a o z => x7.f a o (xx6.1 a o z), fun n a z => x7.r n a (xx6.2 n a z)⟩
                          cases b6 with
                          | false =>
                            rw [if_neg Bool.false_ne_true]
                            exact ⟨F7, ρ7, h7, vs5, acc5, xx7, nw7, rl7, (dr5.mono gr6.f).mono x7.f, q5⟩
                          | true =>
                            rw [if_pos rfl]
                            try dsimp only at q5
                            cases ze : se env6 h7 with
                            | stk => rw [ze] at q5; exact q5.elim
                            | exc c p h => rw [ze] at q5; exact q5.elim
                            | ok w h8 =>
                              rw [ze] at q5
                              cases w with
                              | d y =>
                                try dsimp only at q5
                                by_cases hl : acc5.length < 16777216
                                · rw [if_pos hl] at q5
                                  refine ⟨F7, ρ7, env6, h7, er7.ext x7, rl7, ?_⟩
                                  rw [ze]
                                  intro v H8 F8 ρ8 x8 rv rl8
                                  have nw8 := nw7.step x8
                                  have dr8 := ((dr5.mono gr6.f).mono x7.f).mono x8.f
                                  refine ⟨vs5, nw8.at_, lt_line_of (by rw [dr8.length]; exact hl), F8, ρ8, h8, vs5 ++ [v], acc5 ++ [y], ?_, nw8.put _, rl8.put nw8.f nw8.r, dr8.append (.cons rv .nil), q5⟩
                                  exact ⟨fun a o z => x8.f a o (xx7.1 a o z), fun n a z => x8.r n a (xx7.2 n a z)⟩
                                · rw [if_neg hl] at q5; exact q5.elim
                              | _ => exact q5.elim
                  · have ei : j = s1.items.length := by omega
                    subst ei
                    rw [List.drop_length] at q5
                    unfold lcGo at q5
                    rw [if_pos gd5] at q5
                    exact .inl ⟨wk1.stops H5 hg5, F5, ρ5, h5, vs5, acc5, nw5, rl5, dr5, q5⟩
    · have ei : i = s.items.length := by omega
      subst ei
      rw [List.drop_length] at q
      unfold lc2Go at q
      rw [if_pos gd] at q
      exact .inl ⟨wk.stops H' hg, nw.fin rl dr q⟩
theorem de_lc2 (c : Bool) {own : List (Str × Nat)} {us us1 vs1 : List Nat} {p p1 : Pat} {elt tg iter tg1 iter1 : Expr} {ifs ifs1 : List Expr} {scope : Scope} {si si1 : I} {st st1 : T} {se : E} (hc : X.calm = true) (hN : X.N.Nodup) (hi : PI X tg iter (tI g Wx si)) (ok : BlkOk X.N X.env.scope scope own)
    (hg : ∀ (s : Shared) (H : Hp) (C : Addr) (cl : List (Str × Addr)) (fp : List Addr), DG (X.blk s H scope (compEnvC scope cl C X.env) fp) g us p tg)
    (ht : ∀ (s : Shared) (H : Hp) (C : Addr) (cl : List (Str × Addr)) (fp : List Addr), PTs (X.blk s H scope (compEnvC scope cl C X.env) fp) ifs (tDT g Wx0 st))
    (hi1 : ∀ (s : Shared) (H : Hp) (C : Addr) (cl : List (Str × Addr)) (fp : List Addr), PI (X.blk s H scope (compEnvC scope cl C X.env) fp) tg1 iter1 (tI g Wx0 si1))
    (hg1 : ∀ (s : Shared) (H : Hp) (C : Addr) (cl : List (Str × Addr)) (fp : List Addr), DG (X.blk s H scope (compEnvC scope cl C X.env) fp) g us1 p1 tg1)
    (ht1 : ∀ (s : Shared) (H : Hp) (C : Addr) (cl : List (Str × Addr)) (fp : List Addr), PTs (X.blk s H scope (compEnvC scope cl C X.env) fp) ifs1 (tDT g Wx0 st1))
    (he : ∀ (s : Shared) (H : Hp) (C : Addr) (cl : List (Str × Addr)) (fp : List Addr), PE (X.blk s H scope (compEnvC scope cl C X.env) fp) elt (tD g Wx0 se))
    (hv : ∀ i ∈ vs1, i ∈ own.map (·.2) := by decide) (hsub : ∀ i ∈ us, i ∈ own.map (·.2) := by decide) (hsub1 : ∀ i ∈ us1, i ∈ vs1 := by decide) (hs : ∀ x, foldedSetIterable iter X.env x = pure x := by intro _; rfl) (hs1 : ∀ env x, foldedSetIterable iter1 env x = pure x := by intro _ _; rfl) {ws : List Nat} (hws : own.map (·.2) = ws := by rfl) :
    PE X (.ListComp elt [⟨tg, iter, ifs, 0⟩, ⟨tg1, iter1, ifs1, 0⟩] scope pos) (tD g Wx (sLc2 c ws vs1 p si st p1 si1 st1 se)) :=
  hws ▸ pe_mono (pe_lc2 hc hN hi ok hv (fun s H C cl fp => (hg s H C cl fp).pg) ht hi1 (fun s H C cl fp => (hg1 s H C cl fp).pg) ht1 he hs hs1) fun σ H Q h => tlc2_ok hsub hsub1 h
theorem ds_setLc2 (c : Bool) (i : Nat) {y : Str} {py : Pos} {own : List (Str × Nat)} {us us1 vs1 : List Nat} {p p1 : Pat} {elt tg iter tg1 iter1 : Expr} {ifs ifs1 : List Expr} {scope : Scope} {spos : Pos} {si si1 : I} {st st1 : T} {se : E} (hc : X.calm = true) (hN : X.N.Nodup) (hi : PI X tg iter (tI g Wx si)) (ok : BlkOk X.N X.env.scope scope own)
    (hg : ∀ (s : Shared) (H : Hp) (C : Addr) (cl : List (Str × Addr)) (fp : List Addr), DG (X.blk s H scope (compEnvC scope cl C X.env) fp) g us p tg)
    (ht : ∀ (s : Shared) (H : Hp) (C : Addr) (cl : List (Str × Addr)) (fp : List Addr), PTs (X.blk s H scope (compEnvC scope cl C X.env) fp) ifs (tDT g Wx0 st))
    (hi1 : ∀ (s : Shared) (H : Hp) (C : Addr) (cl : List (Str × Addr)) (fp : List Addr), PI (X.blk s H scope (compEnvC scope cl C X.env) fp) tg1 iter1 (tI g Wx0 si1))
    (hg1 : ∀ (s : Shared) (H : Hp) (C : Addr) (cl : List (Str × Addr)) (fp : List Addr), DG (X.blk s H scope (compEnvC scope cl C X.env) fp) g us1 p1 tg1)
    (ht1 : ∀ (s : Shared) (H : Hp) (C : Addr) (cl : List (Str × Addr)) (fp : List Addr), PTs (X.blk s H scope (compEnvC scope cl C X.env) fp) ifs1 (tDT g Wx0 st1))
    (he : ∀ (s : Shared) (H : Hp) (C : Addr) (cl : List (Str × Addr)) (fp : List Addr), PE (X.blk s H scope (compEnvC scope cl C X.env) fp) elt (tD g Wx0 se))
    (hsw : swapsWith (.ListComp elt [⟨tg, iter, ifs, 0⟩, ⟨tg1, iter1, ifs1, 0⟩] scope pos) (some (.Name y py)) spos.line X.env = pure true := by exact sw_true rfl rfl rfl (by decide +kernel))
    (hy : X.N[i]? = some y := by rfl) (hyl : X.env.scope.names.lookup y = some .local := by rfl)
    (hv : ∀ i ∈ vs1, i ∈ own.map (·.2) := by decide) (hsub : ∀ i ∈ us, i ∈ own.map (·.2) := by decide) (hsub1 : ∀ i ∈ us1, i ∈ vs1 := by decide) (hs : ∀ x, foldedSetIterable iter X.env x = pure x := by intro _; rfl) (hs1 : ∀ env x, foldedSetIterable iter1 env x = pure x := by intro _ _; rfl) {ws : List Nat} (hws : own.map (·.2) = ws := by rfl) :
    PS X (.Assign [.Name y py] (.ListComp elt [⟨tg, iter, ifs, 0⟩, ⟨tg1, iter1, ifs1, 0⟩] scope pos) spos) (tS g Wx (sSet i (sLc2 c ws vs1 p si st p1 si1 st1 se))) :=
  hws ▸ ps_mono (ps_setLc2 hc hN hy hyl hsw hi ok hv (fun s H C cl fp => (hg s H C cl fp).pg) ht hi1 (fun s H C cl fp => (hg1 s H C cl fp).pg) ht1 he hs hs1) fun D σ H h => by
    have q := tset_ok h
    unfold tAsg at q ⊢
    exact tlc2_ok hsub hsub1 q
end
end CH

set_option Elab.async false
set_option linter.all false
set_option maxRecDepth 100000
namespace CH
open PySem L2
/-- the facts of a law's text, at the level k of its run R -/
structure Ctx (tab : List (Str × List Str)) (bn cn : List Str) (cI : List (Str × Int)) (cS : List (Str × List Nat)) (P : Program) (w : World) (K : PySem.W.Frag) (mg : Str → Option Value) (base : Heap) (g : Glob) (k : Nat) (R : FR) : Prop where
  fn : ∀ j x ps, tab[j]? = some (x, ps) → FnT P w K mg base g R k j x ps
  bn : ∀ x ∈ bn, mg x = none
  hK : g.K = K
  sys : ∃ o, base.get? sysModules = some o
  err : ErrX P K mg g cn.length g.top
  gC : ∀ c x, cn[c]? = some x → mg x = some (.ref (g.cls c))
  cI : ∀ x i, (x, i) ∈ cI → ∃ t, mg x = some (.int i t)
  cS : ∀ x s, (x, s) ∈ cS → ∃ t, mg x = some (.str ⟨⟨s⟩⟩ t)
theorem gI {mg : Str → Option Value} {x : Str} {i : Int} (h : ∃ t, mg x = some (.int i t)) {X : Cx} {g : Glob} {Wx : WX} {pos : Pos} (e : X.mg = mg) (hg : Gl X x := by rfl) (hd : (x == ("__debug__" : Str)) = false := by decide) : PE X (.Name x pos) (tD g Wx (sD (.int i))) := by
  obtain ⟨t, h⟩ := h
  exact de_globI i (by rw [e]; exact h) hg hd
theorem gS {mg : Str → Option Value} {x : Str} {s : List Nat} (h : ∃ t, mg x = some (.str ⟨⟨s⟩⟩ t)) {X : Cx} {g : Glob} {Wx : WX} {pos : Pos} (e : X.mg = mg) (hg : Gl X x := by rfl) (hd : (x == ("__debug__" : Str)) = false := by decide) : PE X (.Name x pos) (tD g Wx (sD (.str ⟨⟨s⟩⟩))) := by
  obtain ⟨t, h⟩ := h
  exact de_globS _ (by rw [e]; exact h) hg hd
end CH

set_option Elab.async false
set_option linter.all false
set_option maxRecDepth 100000
set_option maxHeartbeats 0
namespace K90
open PySem L2 CH
/-! 0 is_whole: value -/
def b0 (R : FR) : S :=
  (sRet (sAndV (sUn (fun d => some (.bool (isiD 0 d))) (sVar 0)) (sNotV (sUn (fun d => some (.bool (isiD 1 d))) (sVar 0)))))
/-! 1 is_count: value -/
def b1 (R : FR) : S :=
  (sRet (sAndV (sCall R 0 1 (sCons (sVar 0) sNil)) (sBin pGe (sVar 0) (sD (.int 0)))))
/-! 2 is_signs: value signs sign -/
def b2 (R : FR) : S :=
  (sRet (sAndV (sUn (fun d => some (.bool (isiD 2 d))) (sVar 0)) (sBin pEq (sLc false [2] (.v 2) (iAny (sVar 0)) (sCmpT pNotIn (sVar 2) (sVar 1)) (sVar 2)) (sLst false sNil))))
/-! 3 is_name: value -/
def b3 (R : FR) : S :=
  (sRet (sAndV (sCall R 2 2 (sCons (sVar 0) (sCons (sBin pAdd (sD (.str ⟨⟨[97, 98, 99, 100, 101, 102, 103, 104, 105, 106, 107, 108, 109, 110, 111, 112, 113, 114, 115, 116, 117, 118, 119, 120, 121, 122]⟩⟩)) (sD (.str ⟨⟨[48, 49, 50, 51, 52, 53, 54, 55, 56, 57]⟩⟩))) sNil))) (sAndV (sChain pLt pLe (sD (.int 0)) (sCB pLen (sCons (sVar 0) sNil)) (sD (.int 8))) (sBin pIn (sBin pIx (sVar 0) (sD (.int 0))) (sD (.str ⟨⟨[97, 98, 99, 100, 101, 102, 103, 104, 105, 106, 107, 108, 109, 110, 111, 112, 113, 114, 115, 116, 117, 118, 119, 120, 121, 122]⟩⟩))))))
/-! 4 ascends: items at -/
def b4 (R : FR) : S :=
  (sRet (sBin pEq (sLc false [1] (.v 1) (iRange2 (sCons (sD (.int 1)) (sCons (sCB pLen (sCons (sVar 0) sNil)) sNil))) (sCmpT pGe (sBin pIx (sVar 0) (sBin pSub (sVar 1) (sD (.int 1)))) (sBin pIx (sVar 0) (sVar 1))) (sVar 1)) (sLst false sNil)))
/-! 5 is_names: value item -/
def b5 (R : FR) : S :=
  (sSeq (sIf (sOr (sNot (sTru (sUn (fun d => some (.bool (isiD 3 d))) (sVar 0)))) (sCmpT pNe (sLc false [1] (.v 1) (iAny (sVar 0)) (sNot (sTru (sCall R 3 1 (sCons (sVar 1) sNil)))) (sVar 1)) (sLst false sNil))) (sRet (sD (.bool false))) sNop) (sRet (sCall R 4 1 (sCons (sVar 0) sNil))))
/-! 6 is_find: value -/
def b6 (R : FR) : S :=
  (sRet (sAndV (sUn (fun d => some (.bool (isiD 4 d))) (sVar 0)) (sAndV (sBin pEq (sCB pLen (sCons (sVar 0) sNil)) (sD (.int 2))) (sAndV (sCall R 1 1 (sCons (sBin pIx (sVar 0) (sD (.int 0))) sNil)) (sAndV (sBin pGt (sBin pIx (sVar 0) (sD (.int 0))) (sD (.int 0))) (sCall R 1 1 (sCons (sBin pIx (sVar 0) (sD (.int 1))) sNil)))))))
/-! 7 check_finds: finds name -/
def b7 (R : FR) : S :=
  (sSeq (sIf (sOr (sNot (sTru (sUn (fun d => some (.bool (isiD 5 d))) (sVar 0)))) (sCmpT pEq (sCB pLen (sCons (sVar 0) sNil)) (sD (.int 0)))) (sRaise 1 (sVar 0)) sNop) (sIf (sNot (sTru (sCB pAll (sCons (sLc false [1] (.v 1) (iAny (sVar 0)) sYes (sAndV (sCall R 3 1 (sCons (sVar 1) sNil)) (sCall R 6 1 (sCons (sBin pIx (sVar 0) (sVar 1)) sNil)))) sNil)))) (sRaise 1 (sVar 0)) sNop))
/-! 8 check_bags: finds bags bag -/
def b8 (R : FR) : S :=
  (sSeq (sDrop (sCall R 7 1 (sCons (sVar 0) sNil))) (sSeq (sIf (sOr (sNot (sTru (sUn (fun d => some (.bool (isiD 5 d))) (sVar 1)))) (sCmpT pEq (sCB pLen (sCons (sVar 1) sNil)) (sD (.int 0)))) (sRaise 2 (sVar 1)) sNop) (sIf (sNot (sTru (sCB pAll (sCons (sLc false [2] (.v 2) (iAny (sVar 1)) sYes (sAndV (sCall R 3 1 (sCons (sVar 2) sNil)) (sCall R 1 1 (sCons (sBin pIx (sVar 1) (sVar 2)) sNil)))) sNil)))) (sRaise 2 (sVar 1)) sNop)))
/-! 9 weight_in: finds lot name -/
def b9 (R : FR) : S :=
  (sRet (sCB pSum (sCons (sLc false [2] (.v 2) (iAny (sVar 1)) sYes (sBin pIx (sBin pIx (sVar 0) (sVar 2)) (sD (.int 0)))) sNil)))
/-! 10 are_lots_of: finds lots names lot name -/
def b10 (R : FR) : S :=
  (sSeq (sIf (sNot (sTru (sCB pAll (sCons (sLc false [3] (.v 3) (iAny (sVar 1)) sYes (sAndV (sCall R 5 1 (sCons (sVar 3) sNil)) (sCB pAll (sCons (sLc false [4] (.v 4) (iAny (sVar 3)) sYes (sBin pIn (sVar 4) (sVar 0))) sNil)))) sNil)))) (sRet (sD (.bool false))) sNop) (sSeq (sSet 2 (sLc2 false [3, 4] [4] (.v 3) (iAny (sVar 1)) sYes (.v 4) (iAny (sVar 3)) sYes (sVar 4))) (sRet (sBin pEq (sCB pLen (sCons (sDc [4] (.v 4) (iAny (sVar 2)) sYes (sVar 4) (sD (.bool true))) sNil)) (sCB pLen (sCons (sVar 2) sNil))))))
/-! 11 is_carrying_of: finds bags value bag -/
def b11 (R : FR) : S :=
  (sSeq (sIf (sOr (sNot (sTru (sUn (fun d => some (.bool (isiD 5 d))) (sVar 2)))) (sOr (sCmpT pNe (sCB pLen (sCons (sVar 2) sNil)) (sCB pLen (sCons (sVar 1) sNil))) (sNot (sTru (sCB pAll (sCons (sLc false [3] (.v 3) (iAny (sVar 1)) sYes (sBin pIn (sVar 3) (sVar 2))) sNil)))))) (sRet (sD (.bool false))) sNop) (sSeq (sIf (sNot (sTru (sCall R 10 2 (sCons (sVar 0) (sCons (sLc false [3] (.v 3) (iAny (sVar 1)) sYes (sBin pIx (sVar 2) (sVar 3))) sNil))))) (sRet (sD (.bool false))) sNop) (sRet (sCB pAll (sCons (sLc false [3] (.v 3) (iAny (sVar 1)) sYes (sBin pLe (sCall R 9 2 (sCons (sVar 0) (sCons (sBin pIx (sVar 2) (sVar 3)) sNil))) (sBin pIx (sVar 1) (sVar 3)))) sNil)))))
/-! 12 is_carrying: finds bags value -/
def b12 (R : FR) : S :=
  (sSeq (sDrop (sCall R 8 2 (sCons (sVar 0) (sCons (sVar 1) sNil)))) (sRet (sCall R 11 3 (sCons (sVar 0) (sCons (sVar 1) (sCons (sVar 2) sNil))))))
/-! 13 worth_of_carrying: finds carrying bag name -/
def b13 (R : FR) : S :=
  (sRet (sCB pSum (sCons (sLc2 false [2, 3] [3] (.v 2) (iAny (sVar 1)) sYes (.v 3) (iAny (sBin pIx (sVar 1) (sVar 2))) sYes (sBin pIx (sBin pIx (sVar 0) (sVar 3)) (sD (.int 1)))) sNil)))
/-! 14 worth_carried: finds bags carrying -/
def b14 (R : FR) : S :=
  (sSeq (sDrop (sCall R 8 2 (sCons (sVar 0) (sCons (sVar 1) sNil)))) (sSeq (sIf (sNot (sTru (sCall R 11 3 (sCons (sVar 0) (sCons (sVar 1) (sCons (sVar 2) sNil)))))) (sRaise 3 (sVar 2)) sNop) (sRet (sCall R 13 2 (sCons (sVar 0) (sCons (sVar 2) sNil))))))
/-! 15 rooms_of: bags bag -/
def b15 (R : FR) : S :=
  (sRet (sCB pTuple (sCons (sLc false [1] (.v 1) (iAny (sMk false pSortedD (sCons (sVar 0) sNil))) sYes (sBin pIx (sVar 0) (sVar 1))) sNil)))
/-! 16 put_in: room at weight -/
def b16 (R : FR) : S :=
  (sRet (sBin pAdd (sBin pAdd (sSl (sVar 0) sNoP (sP (sVar 1))) (sTup (sCons (sBin pSub (sBin pIx (sVar 0) (sVar 1)) (sVar 2)) sNil))) (sSl (sVar 0) (sP (sBin pAdd (sVar 1) (sD (.int 1)))) sNoP)))
/-! 17 rooms_behind: room weight at -/
def b17 (R : FR) : S :=
  (sRet (sLc false [2] (.v 2) (iRange1 (sCons (sCB pLen (sCons (sVar 0) sNil)) sNil)) (sCmpT pGe (sBin pIx (sVar 0) (sVar 2)) (sVar 1)) (sTup (sCons (sVar 2) (sCons (sCall R 16 3 (sCons (sVar 0) (sCons (sVar 2) (sCons (sVar 1) sNil)))) sNil)))))
/-! 18 ways_table: finds bags table name later room at left -/
def b18 (R : FR) : S :=
  (sSeq (sSet 2 (sFrz (sDisp [((sCall R 15 1 (sCons (sVar 1) sNil)), (sD (.int 1)))]))) (sSeq (sFor (.v 3) (iAny (sMk false pSortedD (sCons (sVar 0) sNil))) (sSeq (sSet 4 sDNew) (sSeq (sFor (.v 5) (iAny (sVar 2)) (sFor (.t [(.v 6), (.v 7)]) (iAny (sCall R 17 2 (sCons (sVar 5) (sCons (sBin pIx (sBin pIx (sVar 0) (sVar 3)) (sD (.int 0))) sNil)))) (sPut (sVar 4) (sVar 7) (sBin pAdd (sGet3 (sVar 4) (sVar 7) (sD (.int 0))) (sBin pIx (sVar 2) (sVar 5)))))) (sSet 2 (sFrz (sVar 4)))))) (sRet (sVar 2))))
/-! 19 how_many_carryings: finds bags table room -/
def b19 (R : FR) : S :=
  (sSeq (sDrop (sCall R 8 2 (sCons (sVar 0) (sCons (sVar 1) sNil)))) (sSeq (sSet 2 (sCall R 18 2 (sCons (sVar 0) (sCons (sVar 1) sNil)))) (sRet (sCB pSum (sCons (sLc false [3] (.v 3) (iAny (sVar 2)) sYes (sBin pIx (sVar 2) (sVar 3))) sNil)))))
/-! 20 worth_tables: finds rooms names tables name weight worth later room at left -/
def b20 (R : FR) : S :=
  (sSeq (sSet 3 (sLst true (sCons (sFrz (sDisp [((sVar 1), (sD (.int 0)))])) sNil))) (sSeq (sFor (.v 4) (iAny (sVar 2)) (sSeq (sAsg (.t [(.v 5), (.v 6)]) (sBin pIx (sVar 0) (sVar 4))) (sSeq (sSet 7 sDead) (sSeq (sFor (.v 8) (iAny (sBin pIx (sVar 3) (sUn pNeg (sD (.int 1))))) (sFor (.t [(.v 9), (.v 10)]) (iAny (sCall R 17 2 (sCons (sVar 8) (sCons (sVar 5) sNil)))) (sPut (sVar 7) (sVar 10) (sCB pMax2 (sCons (sGet3 (sVar 7) (sVar 10) (sD (.int 0))) (sCons (sBin pAdd (sBin pIx (sBin pIx (sVar 3) (sUn pNeg (sD (.int 1)))) (sVar 8)) (sVar 6)) sNil)))))) (sDrop (sMeth fApp (sVar 3) (sCons (sFrz (sVar 7)) sNil))))))) (sRet (sFrz (sVar 3)))))
/-! 21 most_with: finds rooms names last room -/
def b21 (R : FR) : S :=
  (sSeq (sSet 3 (sBin pIx (sCall R 20 3 (sCons (sVar 0) (sCons (sVar 1) (sCons (sVar 2) sNil)))) (sUn pNeg (sD (.int 1))))) (sRet (sCB pMaxL (sCons (sLc false [4] (.v 4) (iAny (sVar 3)) sYes (sBin pIx (sVar 3) (sVar 4))) sNil))))
/-! 22 most_worth: finds bags -/
def b22 (R : FR) : S :=
  (sSeq (sDrop (sCall R 8 2 (sCons (sVar 0) (sCons (sVar 1) sNil)))) (sRet (sCall R 21 3 (sCons (sVar 0) (sCons (sCall R 15 1 (sCons (sVar 1) sNil)) (sCons (sMk false pSortedD (sCons (sVar 0) sNil)) sNil))))))
/-! 23 carried_by: finds bags told names found name bag -/
def b23 (R : FR) : S :=
  (sSeq (sSet 3 (sMk false pSortedD (sCons (sVar 1) sNil))) (sSeq sDeadS (sSeq (sFor (.v 5) (iAny (sMk false pSortedD (sCons (sVar 2) sNil))) (sDrop (sMeth fApp (sBin pIx (sVar 4) (sBin pIx (sVar 3) (sBin pIx (sVar 2) (sVar 5)))) (sCons (sVar 5) sNil)))) (sRet (sVar 4)))))
/-! 24 full_rows: finds bags table name later room at left -/
def b24 (R : FR) : S :=
  (sSeq (sSet 2 (sFrz (sDisp [((sCall R 15 1 (sCons (sVar 1) sNil)), (sFrz sDNew))]))) (sSeq (sFor (.v 3) (iAny (sMk false pSortedD (sCons (sVar 0) sNil))) (sSeq (sSet 4 sDNew) (sSeq (sFor (.v 5) (iAny (sVar 2)) (sFor (.t [(.v 6), (.v 7)]) (iAny (sCall R 17 2 (sCons (sVar 5) (sCons (sBin pIx (sBin pIx (sVar 0) (sVar 3)) (sD (.int 0))) sNil)))) (sPut (sVar 4) (sVar 7) (sFrz sDead)))) (sSet 2 (sFrz (sVar 4)))))) (sRet (sVar 2))))
/-! 25 all_carried: finds bags rows -/
def b25 (R : FR) : S :=
  (sSeq (sDrop (sCall R 8 2 (sCons (sVar 0) (sCons (sVar 1) sNil)))) (sSeq (sSet 2 (sCall R 24 2 (sCons (sVar 0) (sCons (sVar 1) sNil)))) (sRet (sIfE (sCmpT pGt (sCB pLen (sCons (sVar 2) sNil)) (sD (.int 0))) (sCall R 23 3 (sCons (sVar 0) (sCons (sVar 1) (sCons (sBin pIx (sVar 2) (sCB pMinD (sCons (sVar 2) sNil))) sNil)))) (sD .none)))))
/-! 26 best_row: finds bags names tables told room step weight worth before due fits at elder -/
def b26 (R : FR) : S :=
  (sSeq (sSet 2 (sMk false pSortedD (sCons (sVar 0) sNil))) (sSeq sDeadS (sSeq (sSet 5 sDead) (sSeq sDeadS (sRet (sVar 4))))))
/-! 27 best_carrying: finds bags -/
def b27 (R : FR) : S :=
  (sSeq (sDrop (sCall R 8 2 (sCons (sVar 0) (sCons (sVar 1) sNil)))) (sRet (sCall R 23 3 (sCons (sVar 0) (sCons (sVar 1) (sCons (sCall R 26 2 (sCons (sVar 0) (sCons (sVar 1) sNil))) sNil))))))
/-! 28 is_best_carrying: finds bags value -/
def b28 (R : FR) : S :=
  (sSeq (sDrop (sCall R 8 2 (sCons (sVar 0) (sCons (sVar 1) sNil)))) (sSeq (sIf (sNot (sTru (sCall R 11 3 (sCons (sVar 0) (sCons (sVar 1) (sCons (sVar 2) sNil)))))) (sRet (sD (.bool false))) sNop) (sRet (sBin pEq (sCall R 13 2 (sCons (sVar 0) (sCons (sVar 2) sNil))) (sCall R 21 3 (sCons (sVar 0) (sCons (sCall R 15 1 (sCons (sVar 1) sNil)) (sCons (sMk false pSortedD (sCons (sVar 0) sNil)) sNil))))))))
/-! 29 needed_finds: finds bags names rooms most name other -/
def b29 (R : FR) : S :=
  (sSeq (sDrop (sCall R 8 2 (sCons (sVar 0) (sCons (sVar 1) sNil)))) (sSeq sDeadS (sSeq (sSet 4 (sCall R 21 3 (sCons (sVar 0) (sCons (sVar 3) (sCons (sVar 2) sNil))))) (sRet (sLc false [5] (.v 5) (iAny (sVar 2)) (sCmpT pLt (sCall R 21 3 (sCons (sVar 0) (sCons (sVar 3) (sCons (sLc false [6] (.v 6) (iAny (sVar 2)) (sCmpT pNe (sVar 6) (sVar 5)) (sVar 6)) sNil)))) (sVar 4)) (sVar 5))))))
/-! 30 is_in_some: finds rooms names name most others at left other -/
def b30 (R : FR) : S :=
  (sSeq (sSet 5 (sLc false [8] (.v 8) (iAny (sVar 2)) (sCmpT pNe (sVar 8) (sVar 3)) (sVar 8))) (sSeq (sFor (.t [(.v 6), (.v 7)]) (iAny (sCall R 17 2 (sCons (sVar 1) (sCons (sBin pIx (sBin pIx (sVar 0) (sVar 3)) (sD (.int 0))) sNil)))) (sIf (sCmpT pEq (sBin pAdd (sCall R 21 3 (sCons (sVar 0) (sCons (sVar 7) (sCons (sVar 5) sNil)))) (sBin pIx (sBin pIx (sVar 0) (sVar 3)) (sD (.int 1)))) (sVar 4)) (sRet (sD (.bool true))) sNop)) (sRet (sD (.bool false)))))
/-! 31 left_finds: finds bags names rooms most name -/
def b31 (R : FR) : S :=
  (sSeq (sDrop (sCall R 8 2 (sCons (sVar 0) (sCons (sVar 1) sNil)))) (sSeq sDeadS (sSeq (sSet 4 (sCall R 21 3 (sCons (sVar 0) (sCons (sVar 3) (sCons (sVar 2) sNil))))) (sRet (sLc false [5] (.v 5) (iAny (sVar 2)) (sNot (sTru (sCall R 30 5 (sCons (sVar 0) (sCons (sVar 3) (sCons (sVar 2) (sCons (sVar 5) (sCons (sVar 4) sNil)))))))) (sVar 5))))))
/-! 32 check_many_bags: finds many -/
def b32 (R : FR) : S :=
  (sSeq (sDrop (sCall R 7 1 (sCons (sVar 0) sNil))) (sIf (sOr (sNot (sTru (sCall R 1 1 (sCons (sVar 1) sNil)))) (sCmpT pLt (sVar 1) (sD (.int 1)))) (sRaise 0 (sVar 1)) sNop))
/-! 33 lots_by_weights: finds many table name later weights at lots told bag place lot weight -/
def b33 (R : FR) : S :=
  (sSeq (sSet 2 (sFrz (sDisp [((sCB pTuple (sCons (sBin pMul (sLst false (sCons (sD (.int 0)) sNil)) (sVar 1)) sNil)), (sLc false [9] (.v 9) (iRange1 (sCons (sVar 1) sNil)) sYes (sLst false sNil)))]))) (sSeq (sFor (.v 3) (iAny (sMk false pSortedD (sCons (sVar 0) sNil))) (sSeq (sSet 4 sDNew) (sSeq (sFor (.v 5) (iAny (sVar 2)) (sFor (.v 6) (iRange1 (sCons (sVar 1) sNil)) (sIf (sOr (sCmpT pEq (sVar 6) (sD (.int 0))) (sCmpT pNe (sBin pIx (sVar 5) (sVar 6)) (sBin pIx (sVar 5) (sBin pSub (sVar 6) (sD (.int 1)))))) (sSeq (sSet 7 (sLc false [10, 11] (.t [(.v 10), (.v 11)]) (iEnumD (sCons (sBin pIx (sVar 2) (sVar 5)) sNil)) sYes (sIfE (sCmpT pEq (sVar 10) (sVar 6)) (sBin pAdd (sVar 11) (sLst false (sCons (sVar 3) sNil))) (sVar 11)))) (sSeq (sSet 8 (sMk false pSortedD (sCons (sLc false [11] (.v 11) (iAny (sVar 7)) sYes (sTup (sCons (sCall R 9 2 (sCons (sVar 0) (sCons (sVar 11) sNil))) (sCons (sVar 11) sNil)))) sNil))) (sPut (sVar 4) (sCB pTuple (sCons (sLc false [12, 11] (.t [(.v 12), (.v 11)]) (iAny (sVar 8)) sYes (sVar 12)) sNil)) (sLc false [12, 11] (.t [(.v 12), (.v 11)]) (iAny (sVar 8)) sYes (sVar 11))))) sNop))) (sSet 2 (sFrz (sVar 4)))))) (sRet (sVar 2))))
/-! 34 least_of_all: finds many weights -/
def b34 (R : FR) : S :=
  (sRet (sCB pMinD (sCons (sLc false [2] (.v 2) (iAny (sCall R 33 2 (sCons (sVar 0) (sCons (sVar 1) sNil)))) sYes (sBin pIx (sVar 2) (sUn pNeg (sD (.int 1))))) sNil)))
/-! 35 least_heaviest: finds many -/
def b35 (R : FR) : S :=
  (sSeq (sDrop (sCall R 32 2 (sCons (sVar 0) (sCons (sVar 1) sNil)))) (sRet (sCall R 34 2 (sCons (sVar 0) (sCons (sVar 1) sNil)))))
/-! 36 in_order_of: lots lot -/
def b36 (R : FR) : S :=
  (sRet (sBin pAdd (sMk false pSortedD (sCons (sLc false [1] (.v 1) (iAny (sVar 0)) (sCmpT pNe (sVar 1) (sLst false sNil)) (sVar 1)) sNil)) (sLc false [1] (.v 1) (iAny (sVar 0)) (sCmpT pEq (sVar 1) (sLst false sNil)) (sLst false sNil))))
/-! 37 even_lots: finds many table weights lot -/
def b37 (R : FR) : S :=
  (sSeq (sDrop (sCall R 32 2 (sCons (sVar 0) (sCons (sVar 1) sNil)))) (sSeq (sSet 2 (sCall R 33 2 (sCons (sVar 0) (sCons (sVar 1) sNil)))) (sSeq (sSet 3 sDead) (sRet (sCall R 36 1 (sCons (sLc false [4] (.v 4) (iAny (sBin pIx (sVar 2) (sVar 3))) sYes (sMk false pListOf (sCons (sVar 4) sNil))) sNil))))))
/-! 38 are_shared_lots: finds value lot -/
def b38 (R : FR) : S :=
  (sSeq (sIf (sOr (sNot (sTru (sUn (fun d => some (.bool (isiD 3 d))) (sVar 1)))) (sNot (sTru (sCall R 10 2 (sCons (sVar 0) (sCons (sVar 1) sNil)))))) (sRet (sD (.bool false))) sNop) (sRet (sAndV (sBin pEq (sCB pSum (sCons (sLc false [2] (.v 2) (iAny (sVar 1)) sYes (sCB pLen (sCons (sVar 2) sNil))) sNil)) (sCB pLen (sCons (sVar 0) sNil))) (sBin pEq (sVar 1) (sCall R 36 1 (sCons (sVar 1) sNil))))))
/-! 39 are_even_lots: finds many value lot -/
def b39 (R : FR) : S :=
  (sSeq (sDrop (sCall R 32 2 (sCons (sVar 0) (sCons (sVar 1) sNil)))) (sSeq (sIf (sOr (sNot (sTru (sCall R 38 2 (sCons (sVar 0) (sCons (sVar 2) sNil))))) (sCmpT pNe (sCB pLen (sCons (sVar 2) sNil)) (sVar 1))) (sRet (sD (.bool false))) sNop) (sRet (sBin pEq (sCB pMaxL (sCons (sLc false [3] (.v 3) (iAny (sVar 2)) sYes (sCall R 9 2 (sCons (sVar 0) (sCons (sVar 3) sNil)))) sNil)) (sCall R 34 2 (sCons (sVar 0) (sCons (sVar 1) sNil)))))))
/-! 40 dealt_lots: finds many lots name at bag place lot -/
def b40 (R : FR) : S :=
  (sSeq (sDrop (sCall R 32 2 (sCons (sVar 0) (sCons (sVar 1) sNil)))) (sSeq (sSet 2 (sLc true [5] (.v 5) (iRange1 (sCons (sVar 1) sNil)) sYes (sLst false sNil))) (sSeq (sFor (.v 3) (iAny sDead) (sSeq (sSet 4 (sBin pIx (sCB pMinD (sCons (sLc false [6, 7] (.t [(.v 6), (.v 7)]) (iEnumD (sCons (sFrz (sVar 2)) sNil)) sYes (sTup (sCons (sCall R 9 2 (sCons (sVar 0) (sCons (sVar 7) sNil))) (sCons (sVar 6) sNil)))) sNil)) (sD (.int 1)))) (sPut (sVar 2) (sVar 4) (sMk false pSortedD (sCons (sBin pAdd (sBin pIx (sVar 2) (sVar 4)) (sLst false (sCons (sVar 3) sNil))) sNil))))) (sRet (sFrz (sVar 2))))))
/-! 41 check_most: finds most -/
def b41 (R : FR) : S :=
  (sSeq (sDrop (sCall R 7 1 (sCons (sVar 0) sNil))) (sIf (sNot (sTru (sCall R 1 1 (sCons (sVar 1) sNil)))) (sRaise 0 (sVar 1)) sNop))
/-! 42 trips_in: finds most many name -/
def b42 (R : FR) : S :=
  (sSeq (sIf (sTru (sCB pAny (sCons (sLc false [3] (.v 3) (iAny (sVar 0)) sYes (sBin pGt (sBin pIx (sBin pIx (sVar 0) (sVar 3)) (sD (.int 0))) (sVar 1))) sNil))) (sRet (sD .none)) sNop) (sSeq (sSet 2 (sD (.int 1))) (sSeq (sWhile 100 (sCmpT pGt (sCall R 34 2 (sCons (sVar 0) (sCons (sVar 2) sNil))) (sVar 1)) (sAug (fun i j => i + j) 2 (sD (.int 1)))) (sRet (sVar 2)))))
/-! 43 fewest_trips: finds most -/
def b43 (R : FR) : S :=
  (sSeq (sDrop (sCall R 41 2 (sCons (sVar 0) (sCons (sVar 1) sNil)))) (sRet (sCall R 42 2 (sCons (sVar 0) (sCons (sVar 1) sNil)))))
/-! 44 first_trips: finds most many table weights told lot -/
def b44 (R : FR) : S :=
  (sSeq (sDrop (sCall R 41 2 (sCons (sVar 0) (sCons (sVar 1) sNil)))) (sSeq (sSet 2 (sCall R 42 2 (sCons (sVar 0) (sCons (sVar 1) sNil)))) (sSeq (sIf (sBoo (sIsN (sVar 2))) (sRet (sD .none)) sNop) (sSeq (sSet 3 (sCall R 33 2 (sCons (sVar 0) (sCons (sVar 2) sNil)))) (sSeq (sSet 4 (sCB pMinD (sCons (sLc false [5] (.v 5) (iAny (sVar 3)) (sCmpT pLe (sBin pIx (sVar 5) (sUn pNeg (sD (.int 1)))) (sVar 1)) (sVar 5)) sNil))) (sRet (sCall R 36 1 (sCons (sLc false [6] (.v 6) (iAny (sBin pIx (sVar 3) (sVar 4))) sYes (sMk false pListOf (sCons (sVar 6) sNil))) sNil))))))))
/-! 45 are_fewest_trips: finds most value many lot -/
def b45 (R : FR) : S :=
  (sSeq (sDrop (sCall R 41 2 (sCons (sVar 0) (sCons (sVar 1) sNil)))) (sSeq (sSet 3 (sCall R 42 2 (sCons (sVar 0) (sCons (sVar 1) sNil)))) (sSeq (sIf (sOr (sBoo (sIsN (sVar 3))) (sOr (sNot (sTru (sCall R 38 2 (sCons (sVar 0) (sCons (sVar 2) sNil))))) (sCmpT pNe (sCB pLen (sCons (sVar 2) sNil)) (sVar 3)))) (sRet (sD (.bool false))) sNop) (sRet (sCB pAll (sCons (sLc false [4] (.v 4) (iAny (sVar 2)) sYes (sAndV (sBin pNe (sVar 4) (sLst false sNil)) (sBin pLe (sCall R 9 2 (sCons (sVar 0) (sCons (sVar 4) sNil))) (sVar 1)))) sNil))))))
/-! 46 _law_hash: seed index mixed -/
def b46 (R : FR) : S :=
  (sSeq (sSet 2 (sBin pMod (sCB pInt (sCons (sBin pAdd (sBin pAdd (sBin pAdd (sBin pMul (sVar 0) (sD (.int 1140671))) (sBin pMul (sBin pMul (sD (.int 27644437)) (sVar 1)) (sVar 1))) (sBin pMul (sD (.int 131)) (sVar 1))) (sD (.int 19))) sNil)) (sD (.int 2147483629)))) (sSeq (sSet 2 (sBin pMod (sCB pInt (sCons (sBin pAdd (sBin pAdd (sBin pMul (sVar 2) (sVar 2)) (sBin pMul (sD (.int 62089)) (sVar 1))) (sD (.int 32416187))) sNil)) (sD (.int 2147483587)))) (sRet (sBin pMod (sCB pInt (sCons (sBin pMul (sVar 2) (sD (.int 48271))) sNil)) (sD (.int 2147483647))))))
/-! 47 _law_cell: script index -/
def b47 (R : FR) : S :=
  (sSeq (sIf (sCmpT pLt (sVar 1) (sLenS (sVar 0))) (sRet (sIxS (sVar 0) (sVar 1))) sNop) (sRet (sBin pMod (sCB pSum (sCons (sSlS (sVar 0) sNoP (sP (sD (.int 1)))) sNil)) (sD (.int 1000003)))))
/-! 48 _law_generator: script index seed -/
def b48 (R : FR) : S :=
  (sSeq (sSet 2 (sCall R 47 2 (sCons (sVar 0) (sCons (sVar 1) sNil)))) (sRet (sLst true (sCons (sBin pMod (sCB pInt (sCons (sCB pMax2 (sCons (sBin pSub (sVar 2) (sBin pPow (sD (.int 10)) (sD (.int 18)))) (sCons (sD (.int 0)) sNil))) sNil)) (sBin pPow (sBin pPow (sD (.int 10)) (sD (.int 60))) (sD (.int 10)))) (sCons (sBin pMod (sCB pInt (sCons (sVar 2) sNil)) (sD (.int 2147483647))) (sCons (sBin pMul (sD (.int 1000)) (sVar 1)) sNil))))))
/-! 49 _law_random: generator bound drawn turn -/
def b49 (R : FR) : S :=
  (sSeq (sIf (sCmpT pGt (sBin pIx (sVar 0) (sD (.int 0))) (sD (.int 0))) (sSeq (sSet 2 (sBin pMod (sCB pInt (sCons (sBin pIx (sVar 0) (sD (.int 0))) sNil)) (sVar 1))) (sSeq (sPut (sVar 0) (sD (.int 0)) (sBin pFdiv (sBin pIx (sVar 0) (sD (.int 0))) (sVar 1))) (sRet (sVar 2)))) sNop) (sSeq (sSet 2 (sD (.int 0))) (sSeq (sFor (.v 3) (iRange1 (sCons (sBin pAdd (sD (.int 1)) (sBin pFdiv (sBits (sVar 1)) (sD (.int 30)))) sNil)) (sSeq (sPut (sVar 0) (sD (.int 2)) (sBin pAdd (sBin pIx (sVar 0) (sD (.int 2))) (sD (.int 1)))) (sSet 2 (sBin pAdd (sBin pMul (sVar 2) (sD (.int 2147483587))) (sCall R 46 2 (sCons (sBin pIx (sVar 0) (sD (.int 1))) (sCons (sBin pIx (sVar 0) (sD (.int 2))) sNil))))))) (sRet (sBin pMod (sCB pInt (sCons (sVar 2) sNil)) (sVar 1))))))
/-! 50 _law_drawn_order: generator things left found -/
def b50 (R : FR) : S :=
  (sSeq (sPar 2 3 (sCons (sMk true pListOf (sCons (sVar 1) sNil)) (sCons (sLst true sNil) sNil))) (sSeq (sWhile 100 (sCmpT pNe (sVar 2) (sLst false sNil)) (sDrop (sMeth fApp (sVar 3) (sCons (sMeth fPopAt (sVar 2) (sCons (sCall R 49 2 (sCons (sVar 0) (sCons (sCB pLen (sCons (sVar 2) sNil)) sNil))) sNil)) sNil)))) (sRet (sFrz (sVar 3)))))
/-! 51 _law_call: door finds bags other -/
def b51 (R : FR) : S :=
  (sSeq (sIf (sCmpT pEq (sVar 0) (sD (.int 0))) (sRet (sCall R 12 3 (sCons (sVar 3) (sCons (sD .none) (sCons (sD .none) sNil))))) sNop) (sSeq (sIf (sCmpT pEq (sVar 0) (sD (.int 1))) (sRet (sCall R 12 3 (sCons (sVar 1) (sCons (sVar 3) (sCons (sD .none) sNil))))) sNop) (sSeq (sIf (sCmpT pEq (sVar 0) (sD (.int 2))) (sRet (sCall R 14 3 (sCons (sVar 3) (sCons (sD .none) (sCons (sD .none) sNil))))) sNop) (sSeq (sIf (sCmpT pEq (sVar 0) (sD (.int 3))) (sRet (sCall R 14 3 (sCons (sVar 1) (sCons (sVar 3) (sCons (sD .none) sNil))))) sNop) (sSeq (sIf (sCmpT pEq (sVar 0) (sD (.int 4))) (sRet (sCall R 14 3 (sCons (sVar 1) (sCons (sVar 2) (sCons (sVar 3) sNil))))) sNop) (sSeq (sIf (sCmpT pEq (sVar 0) (sD (.int 5))) (sRet (sCall R 19 2 (sCons (sVar 3) (sCons (sD .none) sNil)))) sNop) (sSeq (sIf (sCmpT pEq (sVar 0) (sD (.int 6))) (sRet (sCall R 19 2 (sCons (sVar 1) (sCons (sVar 3) sNil)))) sNop) (sSeq (sIf (sCmpT pEq (sVar 0) (sD (.int 7))) (sRet (sCall R 25 2 (sCons (sVar 3) (sCons (sD .none) sNil)))) sNop) (sSeq (sIf (sCmpT pEq (sVar 0) (sD (.int 8))) (sRet (sCall R 25 2 (sCons (sVar 1) (sCons (sVar 3) sNil)))) sNop) (sSeq (sIf (sCmpT pEq (sVar 0) (sD (.int 9))) (sRet (sCall R 22 2 (sCons (sVar 3) (sCons (sD .none) sNil)))) sNop) (sSeq (sIf (sCmpT pEq (sVar 0) (sD (.int 10))) (sRet (sCall R 22 2 (sCons (sVar 1) (sCons (sVar 3) sNil)))) sNop) (sSeq (sIf (sCmpT pEq (sVar 0) (sD (.int 11))) (sRet (sCall R 27 2 (sCons (sVar 3) (sCons (sD .none) sNil)))) sNop) (sSeq (sIf (sCmpT pEq (sVar 0) (sD (.int 12))) (sRet (sCall R 27 2 (sCons (sVar 1) (sCons (sVar 3) sNil)))) sNop) (sSeq (sIf (sCmpT pEq (sVar 0) (sD (.int 13))) (sRet (sCall R 28 3 (sCons (sVar 3) (sCons (sD .none) (sCons (sD .none) sNil))))) sNop) (sSeq (sIf (sCmpT pEq (sVar 0) (sD (.int 14))) (sRet (sCall R 28 3 (sCons (sVar 1) (sCons (sVar 3) (sCons (sD .none) sNil))))) sNop) (sSeq (sIf (sCmpT pEq (sVar 0) (sD (.int 15))) (sRet (sCall R 29 2 (sCons (sVar 3) (sCons (sD .none) sNil)))) sNop) (sSeq (sIf (sCmpT pEq (sVar 0) (sD (.int 16))) (sRet (sCall R 29 2 (sCons (sVar 1) (sCons (sVar 3) sNil)))) sNop) (sRet (sCall R 52 3 (sCons (sVar 0) (sCons (sVar 1) (sCons (sVar 3) sNil))))))))))))))))))))))
/-! 52 _law_further: door finds other -/
def b52 (R : FR) : S :=
  (sSeq (sIf (sCmpT pEq (sVar 0) (sD (.int 17))) (sRet (sCall R 31 2 (sCons (sVar 2) (sCons (sD .none) sNil)))) sNop) (sSeq (sIf (sCmpT pEq (sVar 0) (sD (.int 18))) (sRet (sCall R 31 2 (sCons (sVar 1) (sCons (sVar 2) sNil)))) sNop) (sSeq (sIf (sCmpT pEq (sVar 0) (sD (.int 19))) (sRet (sCall R 35 2 (sCons (sVar 2) (sCons (sD .none) sNil)))) sNop) (sSeq (sIf (sCmpT pEq (sVar 0) (sD (.int 20))) (sRet (sCall R 35 2 (sCons (sVar 1) (sCons (sVar 2) sNil)))) sNop) (sSeq (sIf (sCmpT pEq (sVar 0) (sD (.int 21))) (sRet (sCall R 37 2 (sCons (sVar 2) (sCons (sD .none) sNil)))) sNop) (sSeq (sIf (sCmpT pEq (sVar 0) (sD (.int 22))) (sRet (sCall R 37 2 (sCons (sVar 1) (sCons (sVar 2) sNil)))) sNop) (sSeq (sIf (sCmpT pEq (sVar 0) (sD (.int 23))) (sRet (sCall R 39 3 (sCons (sVar 2) (sCons (sD .none) (sCons (sD .none) sNil))))) sNop) (sSeq (sIf (sCmpT pEq (sVar 0) (sD (.int 24))) (sRet (sCall R 39 3 (sCons (sVar 1) (sCons (sVar 2) (sCons (sD .none) sNil))))) sNop) (sSeq (sIf (sCmpT pEq (sVar 0) (sD (.int 25))) (sRet (sCall R 40 2 (sCons (sVar 2) (sCons (sD .none) sNil)))) sNop) (sSeq (sIf (sCmpT pEq (sVar 0) (sD (.int 26))) (sRet (sCall R 40 2 (sCons (sVar 1) (sCons (sVar 2) sNil)))) sNop) (sSeq (sIf (sCmpT pEq (sVar 0) (sD (.int 27))) (sRet (sCall R 43 2 (sCons (sVar 2) (sCons (sD .none) sNil)))) sNop) (sSeq (sIf (sCmpT pEq (sVar 0) (sD (.int 28))) (sRet (sCall R 43 2 (sCons (sVar 1) (sCons (sVar 2) sNil)))) sNop) (sSeq (sIf (sCmpT pEq (sVar 0) (sD (.int 29))) (sRet (sCall R 44 2 (sCons (sVar 2) (sCons (sD .none) sNil)))) sNop) (sSeq (sIf (sCmpT pEq (sVar 0) (sD (.int 30))) (sRet (sCall R 44 2 (sCons (sVar 1) (sCons (sVar 2) sNil)))) sNop) (sRet (sIfE (sCmpT pEq (sVar 0) (sD (.int 31))) (sCall R 45 3 (sCons (sVar 2) (sCons (sD .none) (sCons (sD .none) sNil)))) (sCall R 45 3 (sCons (sVar 1) (sCons (sVar 2) (sCons (sD .none) sNil))))))))))))))))))))
/-! 53 _law_caught: door finds bags other caught shown error kinds -/
def b53 (R : FR) : S :=
  (sSeq (sPar 4 5 (sCons (sD .none) (sCons (sCB pRepr (sCons (sLst false (sCons (sVar 1) (sCons (sVar 2) (sCons (sVar 3) sNil)))) sNil)) sNil))) (sSeq (sTry 6 4 (sDrop (sCall R 51 4 (sCons (sVar 0) (sCons (sVar 1) (sCons (sVar 2) (sCons (sVar 3) sNil))))))) (sSeq (sIf (sOr (sCmpT pNe (sCB pRepr (sCons (sLst false (sCons (sVar 1) (sCons (sVar 2) (sCons (sVar 3) sNil)))) sNil)) (sVar 5)) (sBoo (sIsN (sVar 4)))) (sRet (sD .none)) sNop) (sSeq (sSet 7 (sLst false (sCons (sIsX 4 1 (sVar 4)) (sCons (sIsX 4 2 (sVar 4)) (sCons (sIsX 4 3 (sVar 4)) (sCons (sIsX 4 0 (sVar 4)) sNil)))))) (sRet (sBin pAdd (sVar 7) (sLst false (sCons (sCB pRepr (sCons (sVal (sVar 4)) sNil)) sNil))))))))
/-! 54 _law_odds: kind found -/
def b54 (R : FR) : S :=
  (sSeq (sIf (sCmpT pEq (sVar 0) (sD (.int 0))) (sSeq (sSet 1 (sLst false (sCons (sD .none) (sCons (sD (.int 7)) (sCons (sLst false sNil) (sCons (sFrz sDNew) (sCons (sD (.str ⟨⟨[103, 101, 109]⟩⟩)) (sCons (sFrz (sDisp [((sD (.str ⟨⟨[103, 101, 109]⟩⟩)), (sD .none))])) (sCons (sFrz (sDisp [((sD (.str ⟨⟨[103, 101, 109]⟩⟩)), (sTup (sCons (sD (.int 0)) (sCons (sD (.int 1)) sNil))))])) (sCons (sFrz (sDisp [((sD (.str ⟨⟨[103, 101, 109]⟩⟩)), (sTup (sCons (sD (.int 1)) (sCons (sBin pSub (sD (.int 0)) (sD (.int 1))) sNil))))])) (sCons (sFrz (sDisp [((sD (.str ⟨⟨[103, 101, 109]⟩⟩)), (sTup (sCons (sD (.int 1)) sNil)))])) (sCons (sFrz (sDisp [((sD (.str ⟨⟨[103, 101, 109]⟩⟩)), (sTup (sCons (sD (.int 1)) (sCons (sD (.int 2)) (sCons (sD (.int 3)) sNil)))))])) (sCons (sFrz (sDisp [((sD (.str ⟨⟨[103, 101, 109]⟩⟩)), (sLst false (sCons (sD (.int 1)) (sCons (sD (.int 2)) sNil))))])) (sCons (sFrz (sDisp [((sD (.str ⟨⟨[103, 101, 109]⟩⟩)), (sTup (sCons (sD (.bool true)) (sCons (sD (.int 1)) sNil))))])) (sCons (sFrz (sDisp [((sD (.str ⟨⟨[103, 101, 109]⟩⟩)), (sTup (sCons (sD (.int 1)) (sCons (sD (.bool true)) sNil))))])) sNil))))))))))))))) (sRet (sBin pAdd (sVar 1) (sLst false (sCons (sFrz (sDisp [((sD (.str ⟨⟨[71, 101, 109]⟩⟩)), (sTup (sCons (sD (.int 1)) (sCons (sD (.int 1)) sNil))))])) (sCons (sFrz (sDisp [((sD (.int 7)), (sTup (sCons (sD (.int 1)) (sCons (sD (.int 1)) sNil))))])) (sCons (sFrz (sDisp [((sD (.str ⟨⟨[103, 101, 109]⟩⟩)), (sTup (sCons (sD (.int 1)) (sCons (sD (.int 1)) sNil)))), ((sD (.int 7)), (sTup (sCons (sD (.int 1)) (sCons (sD (.int 1)) sNil))))])) (sCons (sFrz (sDisp [((sD (.str ⟨⟨[97, 32, 98]⟩⟩)), (sTup (sCons (sD (.int 1)) (sCons (sD (.int 1)) sNil))))])) (sCons (sFrz (sDisp [((sD (.str ⟨⟨[103, 101, 109]⟩⟩)), (sTup (sCons (sD (.str ⟨⟨[49]⟩⟩)) (sCons (sD (.int 1)) sNil))))])) (sCons (sFrz (sDisp [((sD (.str ⟨⟨[99, 117, 112]⟩⟩)), (sTup (sCons (sD (.int 0)) (sCons (sD (.int 1)) sNil)))), ((sD (.str ⟨⟨[103, 101, 109]⟩⟩)), (sTup (sCons (sD (.int 1)) (sCons (sD (.int 1)) sNil))))])) (sCons (sFrz (sDisp [((sD (.str ⟨⟨[103, 101, 109]⟩⟩)), (sTup (sCons (sD (.int 1)) (sCons (sD (.int 1)) sNil)))), ((sD (.str ⟨⟨[97, 98, 99, 100, 101, 102, 103, 104, 105]⟩⟩)), (sTup (sCons (sD (.int 1)) (sCons (sD (.int 1)) sNil))))])) sNil))))))))))) sNop) (sSeq (sIf (sCmpT pEq (sVar 0) (sD (.int 1))) (sSeq (sSet 1 (sLst false (sCons (sD .none) (sCons (sD (.int 7)) (sCons (sLst false sNil) (sCons (sFrz sDNew) (sCons (sD (.str ⟨⟨[97, 110, 110]⟩⟩)) (sCons (sFrz (sDisp [((sD (.str ⟨⟨[97, 110, 110]⟩⟩)), (sD .none))])) (sCons (sFrz (sDisp [((sD (.str ⟨⟨[97, 110, 110]⟩⟩)), (sBin pSub (sD (.int 0)) (sD (.int 1))))])) (sCons (sFrz (sDisp [((sD (.str ⟨⟨[97, 110, 110]⟩⟩)), (sD (.bool true)))])) (sCons (sFrz (sDisp [((sD (.str ⟨⟨[97, 110, 110]⟩⟩)), (sD (.str ⟨⟨[49]⟩⟩)))])) (sCons (sFrz (sDisp [((sD (.str ⟨⟨[97, 110, 110]⟩⟩)), (sLst false (sCons (sD (.int 1)) sNil)))])) (sCons (sFrz (sDisp [((sD (.str ⟨⟨[65, 110, 110]⟩⟩)), (sD (.int 1)))])) (sCons (sFrz (sDisp [((sD (.int 7)), (sD (.int 1)))])) (sCons (sFrz (sDisp [((sD (.str ⟨⟨[97, 110, 110]⟩⟩)), (sD (.int 1))), ((sD (.int 7)), (sD (.int 1)))])) sNil))))))))))))))) (sRet (sBin pAdd (sVar 1) (sLst false (sCons (sFrz (sDisp [((sD (.str ⟨⟨[97, 110, 110]⟩⟩)), (sBin pSub (sD (.int 0)) (sD (.int 1)))), ((sD (.str ⟨⟨[98, 111, 98]⟩⟩)), (sD (.int 1)))])) (sCons (sFrz (sDisp [((sD (.str ⟨⟨[97, 95, 98]⟩⟩)), (sD (.int 1)))])) (sCons (sFrz (sDisp [((sD (.str ⟨⟨[]⟩⟩)), (sD (.int 1)))])) sNil))))))) sNop) (sSeq (sIf (sCmpT pEq (sVar 0) (sD (.int 2))) (sSeq (sSet 1 (sLst false (sCons (sD .none) (sCons (sD (.int 7)) (sCons (sLst false sNil) (sCons (sFrz sDNew) (sCons (sFrz (sDisp [((sD (.str ⟨⟨[97, 110, 110]⟩⟩)), (sLst false sNil))])) (sCons (sFrz (sDisp [((sD (.str ⟨⟨[97, 110, 110]⟩⟩)), (sLst false sNil)), ((sD (.str ⟨⟨[98, 111, 98]⟩⟩)), (sLst false (sCons (sD (.str ⟨⟨[117, 114, 110]⟩⟩)) sNil)))])) (sCons (sFrz (sDisp [((sD (.str ⟨⟨[97, 110, 110]⟩⟩)), (sLst false (sCons (sD (.str ⟨⟨[103, 101, 109]⟩⟩)) (sCons (sD (.str ⟨⟨[99, 117, 112]⟩⟩)) sNil)))), ((sD (.str ⟨⟨[98, 111, 98]⟩⟩)), (sLst false sNil))])) (sCons (sFrz (sDisp [((sD (.str ⟨⟨[97, 110, 110]⟩⟩)), (sLst false (sCons (sD (.str ⟨⟨[103, 101, 109]⟩⟩)) sNil))), ((sD (.str ⟨⟨[98, 111, 98]⟩⟩)), (sLst false (sCons (sD (.str ⟨⟨[103, 101, 109]⟩⟩)) sNil)))])) (sCons (sFrz (sDisp [((sD (.str ⟨⟨[97, 110, 110]⟩⟩)), (sLst false (sCons (sD (.str ⟨⟨[99, 117, 112]⟩⟩)) (sCons (sD (.str ⟨⟨[103, 101, 109]⟩⟩)) sNil)))), ((sD (.str ⟨⟨[98, 111, 98]⟩⟩)), (sLst false sNil))])) sNil))))))))))) (sRet (sBin pAdd (sVar 1) (sLst false (sCons (sFrz (sDisp [((sD (.str ⟨⟨[97, 110, 110]⟩⟩)), (sTup (sCons (sD (.str ⟨⟨[103, 101, 109]⟩⟩)) sNil))), ((sD (.str ⟨⟨[98, 111, 98]⟩⟩)), (sLst false sNil))])) (sCons (sFrz (sDisp [((sD (.str ⟨⟨[97, 110, 110]⟩⟩)), (sD .none)), ((sD (.str ⟨⟨[98, 111, 98]⟩⟩)), (sLst false sNil))])) (sCons (sFrz (sDisp [((sD (.str ⟨⟨[97, 110, 110]⟩⟩)), (sLst false sNil)), ((sD (.str ⟨⟨[98, 111, 98]⟩⟩)), (sLst false sNil)), ((sD (.str ⟨⟨[99, 121]⟩⟩)), (sLst false sNil))])) (sCons (sFrz (sDisp [((sD (.int 7)), (sLst false sNil)), ((sD (.str ⟨⟨[97, 110, 110]⟩⟩)), (sLst false sNil))])) (sCons (sFrz (sDisp [((sD (.str ⟨⟨[97, 110, 110]⟩⟩)), (sLst false (sCons (sD (.str ⟨⟨[110, 111, 110, 101]⟩⟩)) sNil))), ((sD (.str ⟨⟨[98, 111, 98]⟩⟩)), (sLst false sNil))])) (sCons (sFrz (sDisp [((sD (.str ⟨⟨[97, 110, 110]⟩⟩)), (sLst false (sCons (sLst false (sCons (sD (.str ⟨⟨[103, 101, 109]⟩⟩)) sNil)) sNil))), ((sD (.str ⟨⟨[98, 111, 98]⟩⟩)), (sLst false sNil))])) sNil)))))))))) sNop) (sSeq (sIf (sCmpT pEq (sVar 0) (sD (.int 3))) (sRet (sLst false (sCons (sD .none) (sCons (sD (.bool true)) (sCons (sD (.int 0)) (sCons (sBin pSub (sD (.int 0)) (sD (.int 1))) (sCons (sD (.str ⟨⟨[49]⟩⟩)) (sCons (sLst false (sCons (sD (.int 1)) sNil)) (sCons (sTup (sCons (sD (.int 1)) sNil)) (sCons (sFrz sDNew) sNil)))))))))) sNop) (sRet (sLst false (sCons (sD .none) (sCons (sD (.bool true)) (sCons (sBin pSub (sD (.int 0)) (sD (.int 1))) (sCons (sD (.str ⟨⟨[49]⟩⟩)) (sCons (sLst false (sCons (sD (.int 1)) sNil)) (sCons (sTup (sCons (sD (.int 1)) sNil)) (sCons (sFrz sDNew) sNil)))))))))))))
/-! 55 law: script generator finds bags kinds door kind odd caught error good -/
def b55 (R : FR) : S :=
  (sSeq (sSet 1 (sCall R 48 2 (sCons (sVar 0) (sCons (sD (.int 0)) sNil)))) (sSeq (sSet 2 (sFrz (sDisp [((sD (.str ⟨⟨[103, 101, 109]⟩⟩)), (sTup (sCons (sD (.int 2)) (sCons (sBin pAdd (sD (.int 1)) (sCall R 49 2 (sCons (sVar 1) (sCons (sD (.int 9)) sNil)))) sNil)))), ((sD (.str ⟨⟨[99, 117, 112]⟩⟩)), (sTup (sCons (sD (.int 3)) (sCons (sD (.int 4)) sNil)))), ((sD (.str ⟨⟨[117, 114, 110]⟩⟩)), (sTup (sCons (sD (.int 6)) (sCons (sCall R 49 2 (sCons (sVar 1) (sCons (sD (.int 9)) sNil))) sNil))))]))) (sSeq (sSet 3 (sFrz (sDisp [((sD (.str ⟨⟨[98, 111, 98]⟩⟩)), (sD (.int 3))), ((sD (.str ⟨⟨[97, 110, 110]⟩⟩)), (sD (.int 4)))]))) (sSeq (sSet 4 (sLst false (sCons (sD (.int 0)) (sCons (sD (.int 1)) (sCons (sD (.int 0)) (sCons (sD (.int 1)) (sCons (sD (.int 2)) (sCons (sD (.int 0)) (sCons (sD (.int 1)) (sCons (sD (.int 0)) (sCons (sD (.int 1)) (sCons (sD (.int 0)) (sCons (sD (.int 1)) (sCons (sD (.int 0)) (sCons (sD (.int 1)) (sCons (sD (.int 0)) (sCons (sD (.int 1)) (sCons (sD (.int 0)) (sCons (sD (.int 1)) (sCons (sD (.int 0)) (sCons (sD (.int 1)) (sCons (sD (.int 0)) (sCons (sD (.int 3)) (sCons (sD (.int 0)) (sCons (sD (.int 3)) (sCons (sD (.int 0)) (sCons (sD (.int 3)) (sCons (sD (.int 0)) (sCons (sD (.int 3)) (sCons (sD (.int 0)) (sCons (sD (.int 4)) (sCons (sD (.int 0)) (sCons (sD (.int 4)) (sCons (sD (.int 0)) (sCons (sD (.int 4)) sNil))))))))))))))))))))))))))))))))))) (sSeq (sFor (.v 5) (iAny (sCall R 50 2 (sCons (sVar 1) (sCons (sRg1 false (sD (.int 33))) sNil)))) (sSeq (sSet 6 (sBin pIx (sVar 4) (sVar 5))) (sFor (.v 7) (iAny (sCall R 54 1 (sCons (sVar 6) sNil))) (sIf (sCmpT pNe (sCall R 53 4 (sCons (sVar 5) (sCons (sVar 2) (sCons (sVar 3) (sCons (sVar 7) sNil))))) (sLst false (sCons (sBin pEq (sVar 6) (sD (.int 0))) (sCons (sBin pEq (sVar 6) (sD (.int 1))) (sCons (sBin pEq (sVar 6) (sD (.int 2))) (sCons (sBin pIn (sVar 6) (sLst false (sCons (sD (.int 3)) (sCons (sD (.int 4)) sNil)))) (sCons (sCB pRepr (sCons (sVar 7) sNil)) sNil))))))) (sRet (sD (.bool false))) sNop)))) (sSeq (sFor (.v 5) (iAny (sLst false (sCons (sD (.int 0)) (sCons (sD (.int 1)) (sCons (sD (.int 2)) (sCons (sD (.int 3)) (sCons (sD (.int 4)) (sCons (sD (.int 5)) (sCons (sD (.int 6)) (sCons (sD (.int 13)) (sCons (sD (.int 19)) (sCons (sD (.int 27)) sNil)))))))))))) (sSeq (sPar 7 8 (sCons (sLst true (sCons (sD (.str ⟨⟨[111, 100, 100]⟩⟩)) sNil)) (sCons (sD .none) sNil))) (sSeq (sTry 9 8 (sDrop (sCall R 51 4 (sCons (sVar 5) (sCons (sVar 2) (sCons (sVar 3) (sCons (sVar 7) sNil))))))) (sSeq (sDrop (sMeth fApp (sVar 7) (sCons (sD (.str ⟨⟨[109, 111, 114, 101]⟩⟩)) sNil))) (sIf (sOr (sBoo (sIsN (sVar 8))) (sCmpT pNe (sCB pRepr (sCons (sVal (sVar 8)) sNil)) (sCB pRepr (sCons (sVar 7) sNil)))) (sRet (sD (.bool false))) sNop))))) (sSeq (sFor (.t [(.v 5), (.v 10)]) (iAny (sLst false (sCons (sTup (sCons (sD (.int 1)) (sCons (sFrz (sDisp [((sD (.str ⟨⟨[97, 110, 110]⟩⟩)), (sD (.int 0)))])) sNil))) (sCons (sTup (sCons (sD (.int 4)) (sCons (sFrz (sDisp [((sD (.str ⟨⟨[97, 110, 110]⟩⟩)), (sLst false sNil)), ((sD (.str ⟨⟨[98, 111, 98]⟩⟩)), (sLst false sNil))])) sNil))) (sCons (sTup (sCons (sD (.int 6)) (sCons (sFrz (sDisp [((sD (.str ⟨⟨[97, 110, 110]⟩⟩)), (sBin pPow (sD (.int 10)) (sD (.int 11))))])) sNil))) (sCons (sTup (sCons (sD (.int 20)) (sCons (sD (.int 1)) sNil))) (sCons (sTup (sCons (sD (.int 28)) (sCons (sD (.int 0)) sNil))) (sCons (sTup (sCons (sD (.int 30)) (sCons (sBin pPow (sD (.int 10)) (sD (.int 11))) sNil))) sNil)))))))) (sIf (sBoo (sNotN (sCall R 53 4 (sCons (sVar 5) (sCons (sVar 2) (sCons (sVar 3) (sCons (sVar 10) sNil))))))) (sRet (sD (.bool false))) sNop)) (sRet (sD (.bool true))))))))))
def run : Nat → FR
  | 0 => fun _ _ _ => .stk
  | k + 1 => fun i ws h => match i with
    | 0 => runBody 1 1 (b0 (run k)) ws h
    | 1 => runBody 1 1 (b1 (run k)) ws h
    | 2 => runBody 2 3 (b2 (run k)) ws h
    | 3 => runBody 1 1 (b3 (run k)) ws h
    | 4 => runBody 1 2 (b4 (run k)) ws h
    | 5 => runBody 1 2 (b5 (run k)) ws h
    | 6 => runBody 1 1 (b6 (run k)) ws h
    | 7 => runBody 1 2 (b7 (run k)) ws h
    | 8 => runBody 2 3 (b8 (run k)) ws h
    | 9 => runBody 2 3 (b9 (run k)) ws h
    | 10 => runBody 2 5 (b10 (run k)) ws h
    | 11 => runBody 3 4 (b11 (run k)) ws h
    | 12 => runBody 3 3 (b12 (run k)) ws h
    | 13 => runBody 2 4 (b13 (run k)) ws h
    | 14 => runBody 3 3 (b14 (run k)) ws h
    | 15 => runBody 1 2 (b15 (run k)) ws h
    | 16 => runBody 3 3 (b16 (run k)) ws h
    | 17 => runBody 2 3 (b17 (run k)) ws h
    | 18 => runBody 2 8 (b18 (run k)) ws h
    | 19 => runBody 2 4 (b19 (run k)) ws h
    | 20 => runBody 3 11 (b20 (run k)) ws h
    | 21 => runBody 3 5 (b21 (run k)) ws h
    | 22 => runBody 2 2 (b22 (run k)) ws h
    | 23 => runBody 3 7 (b23 (run k)) ws h
    | 24 => runBody 2 8 (b24 (run k)) ws h
    | 25 => runBody 2 3 (b25 (run k)) ws h
    | 26 => runBody 2 14 (b26 (run k)) ws h
    | 27 => runBody 2 2 (b27 (run k)) ws h
    | 28 => runBody 3 3 (b28 (run k)) ws h
    | 29 => runBody 2 7 (b29 (run k)) ws h
    | 30 => runBody 5 9 (b30 (run k)) ws h
    | 31 => runBody 2 6 (b31 (run k)) ws h
    | 32 => runBody 2 2 (b32 (run k)) ws h
    | 33 => runBody 2 13 (b33 (run k)) ws h
    | 34 => runBody 2 3 (b34 (run k)) ws h
    | 35 => runBody 2 2 (b35 (run k)) ws h
    | 36 => runBody 1 2 (b36 (run k)) ws h
    | 37 => runBody 2 5 (b37 (run k)) ws h
    | 38 => runBody 2 3 (b38 (run k)) ws h
    | 39 => runBody 3 4 (b39 (run k)) ws h
    | 40 => runBody 2 8 (b40 (run k)) ws h
    | 41 => runBody 2 2 (b41 (run k)) ws h
    | 42 => runBody 2 4 (b42 (run k)) ws h
    | 43 => runBody 2 2 (b43 (run k)) ws h
    | 44 => runBody 2 7 (b44 (run k)) ws h
    | 45 => runBody 3 5 (b45 (run k)) ws h
    | 46 => runBody 2 3 (b46 (run k)) ws h
    | 47 => runBody 2 2 (b47 (run k)) ws h
    | 48 => runBody 2 3 (b48 (run k)) ws h
    | 49 => runBody 2 4 (b49 (run k)) ws h
    | 50 => runBody 2 4 (b50 (run k)) ws h
    | 51 => runBody 4 4 (b51 (run k)) ws h
    | 52 => runBody 3 3 (b52 (run k)) ws h
    | 53 => runBody 4 8 (b53 (run k)) ws h
    | 54 => runBody 1 2 (b54 (run k)) ws h
    | 55 => runBody 1 11 (b55 (run k)) ws h
    | _ => .stk
end K90

set_option Elab.async false
set_option linter.all false
set_option maxRecDepth 100000
set_option maxHeartbeats 0
namespace K90
open PySem L2 CH
def top (i : Nat) : Stmt := PySem.Challenge.pw_cluehunt_k90_carryings_refused.main.body.getD i (.Pass ⟨0, 0, 0, 0⟩)
def tab : List (Str × List Str) := [(("is_whole" : Str), (["value"] : List Str)), (("is_count" : Str), (["value"] : List Str)), (("is_signs" : Str), (["value", "signs"] : List Str)), (("is_name" : Str), (["value"] : List Str)), (("ascends" : Str), (["items"] : List Str)), (("is_names" : Str), (["value"] : List Str)), (("is_find" : Str), (["value"] : List Str)), (("check_finds" : Str), (["finds"] : List Str)), (("check_bags" : Str), (["finds", "bags"] : List Str)), (("weight_in" : Str), (["finds", "lot"] : List Str)), (("are_lots_of" : Str), (["finds", "lots"] : List Str)), (("is_carrying_of" : Str), (["finds", "bags", "value"] : List Str)), (("is_carrying" : Str), (["finds", "bags", "value"] : List Str)), (("worth_of_carrying" : Str), (["finds", "carrying"] : List Str)), (("worth_carried" : Str), (["finds", "bags", "carrying"] : List Str)), (("rooms_of" : Str), (["bags"] : List Str)), (("put_in" : Str), (["room", "at", "weight"] : List Str)), (("rooms_behind" : Str), (["room", "weight"] : List Str)), (("ways_table" : Str), (["finds", "bags"] : List Str)), (("how_many_carryings" : Str), (["finds", "bags"] : List Str)), (("worth_tables" : Str), (["finds", "rooms", "names"] : List Str)), (("most_with" : Str), (["finds", "rooms", "names"] : List Str)), (("most_worth" : Str), (["finds", "bags"] : List Str)), (("carried_by" : Str), (["finds", "bags", "told"] : List Str)), (("full_rows" : Str), (["finds", "bags"] : List Str)), (("all_carried" : Str), (["finds", "bags"] : List Str)), (("best_row" : Str), (["finds", "bags"] : List Str)), (("best_carrying" : Str), (["finds", "bags"] : List Str)), (("is_best_carrying" : Str), (["finds", "bags", "value"] : List Str)), (("needed_finds" : Str), (["finds", "bags"] : List Str)), (("is_in_some" : Str), (["finds", "rooms", "names", "name", "most"] : List Str)), (("left_finds" : Str), (["finds", "bags"] : List Str)), (("check_many_bags" : Str), (["finds", "many"] : List Str)), (("lots_by_weights" : Str), (["finds", "many"] : List Str)), (("least_of_all" : Str), (["finds", "many"] : List Str)), (("least_heaviest" : Str), (["finds", "many"] : List Str)), (("in_order_of" : Str), (["lots"] : List Str)), (("even_lots" : Str), (["finds", "many"] : List Str)), (("are_shared_lots" : Str), (["finds", "value"] : List Str)), (("are_even_lots" : Str), (["finds", "many", "value"] : List Str)), (("dealt_lots" : Str), (["finds", "many"] : List Str)), (("check_most" : Str), (["finds", "most"] : List Str)), (("trips_in" : Str), (["finds", "most"] : List Str)), (("fewest_trips" : Str), (["finds", "most"] : List Str)), (("first_trips" : Str), (["finds", "most"] : List Str)), (("are_fewest_trips" : Str), (["finds", "most", "value"] : List Str)), (("_law_hash" : Str), (["seed", "index"] : List Str)), (("_law_cell" : Str), (["script", "index"] : List Str)), (("_law_generator" : Str), (["script", "index"] : List Str)), (("_law_random" : Str), (["generator", "bound"] : List Str)), (("_law_drawn_order" : Str), (["generator", "things"] : List Str)), (("_law_call" : Str), (["door", "finds", "bags", "other"] : List Str)), (("_law_further" : Str), (["door", "finds", "other"] : List Str)), (("_law_caught" : Str), (["door", "finds", "bags", "other"] : List Str)), (("_law_odds" : Str), (["kind"] : List Str)), (("law" : Str), (["script"] : List Str))]
def bnL : List Str := ["len", "isinstance", "range", "sorted", "sum", "all", "any", "max", "min", "int", "bool", "str", "list", "tuple", "dict", "repr", "enumerate", "zip"]
def cnL : List Str := ["InvalidNumber", "InvalidFinds", "InvalidBags", "InvalidCarrying"]
def cIL : List (Str × Int) := [(("MOST_NAME" : Str), 8)]
def cSL : List (Str × List Nat) := [(("SMALL" : Str), [97, 98, 99, 100, 101, 102, 103, 104, 105, 106, 107, 108, 109, 110, 111, 112, 113, 114, 115, 116, 117, 118, 119, 120, 121, 122]), (("FIGURES" : Str), [48, 49, 50, 51, 52, 53, 54, 55, 56, 57])]
abbrev Cxt (P : Program) (w : World) (K : PySem.W.Frag) (mg : Str → Option Value) (base : Heap) (g : Glob) (k : Nat) (R : FR) : Prop := Ctx tab bnL cnL cIL cSL P w K mg base g k R
/-! ### is_whole -/
abbrev s0 : Stmt := top 10
abbrev N0 : List Str := ["value"]
theorem sc0 : FnScope N0 ["value"] (defScope s0) := ⟨rfl, rfl, rfl, by decide +kernel, rfl, by decide +kernel, by decide +kernel⟩
theorem d0 {P : Program} {w : World} {K : PySem.W.Frag} {mg : Str → Option Value} {base : Heap} {g : Glob} {k : Nat} {R : FR} (C : Cxt P w K mg base g k R) {f : Addr} (cdv : Value) (A : Around) (outer : List PySem.Env) (s : Shared) (H : Hp) (E : XK) (hr : Room k (A.deeper (PyProof.Rows.envOfC "is_whole" (defScope s0) s.heap.objs.size f cdv))) (hgd : A.guards = some []) :
    PSs (cxOf (L2.CX P w) P w K mg base N0 "is_whole" (defScope s0) f cdv A outer s H E) (defBody s0) (tS g (fun c d _ H' => E c d H') (b0 R)) := by
  have tk : Takes (cxOf (L2.CX P w) P w K mg base N0 "is_whole" (defScope s0) f cdv A outer s H E) (fun c d _ H' => E c d H') := takes_of rfl rfl rfl rfl
  have hp : PassesOwn (model P w) (cxOf (L2.CX P w) P w K mg base N0 "is_whole" (defScope s0) f cdv A outer s H E).A (cxOf (L2.CX P w) P w K mg base N0 "is_whole" (defScope s0) f cdv A outer s H E).env (cxOf (L2.CX P w) P w K mg base N0 "is_whole" (defScope s0) f cdv A outer s H E).xe := passes_of rfl
  have nd : N0.Nodup := sc0.nd
  have hc : (cxOf (L2.CX P w) P w K mg base N0 "is_whole" (defScope s0) f cdv A outer s H E).calm = true := rfl
  have uu : (A.deeper (PyProof.Rows.envOfC "is_whole" (defScope s0) s.heap.objs.size f cdv)).units + 100 < cLine := by have := hr.un; omega
  have u1 : (A.deeper (PyProof.Rows.envOfC "is_whole" (defScope s0) s.heap.objs.size f cdv)).units + 1 < cLine := by omega
  have u2 : (A.deeper (PyProof.Rows.envOfC "is_whole" (defScope s0) s.heap.objs.size f cdv)).units + 2 < cLine := by omega
  have u64 : (A.deeper (PyProof.Rows.envOfC "is_whole" (defScope s0) s.heap.objs.size f cdv)).units + 64 < cLine := by omega
  have u65 : (A.deeper (PyProof.Rows.envOfC "is_whole" (defScope s0) s.heap.objs.size f cdv)).units + 65 < cLine := by omega
  have u70 : (A.deeper (PyProof.Rows.envOfC "is_whole" (defScope s0) s.heap.objs.size f cdv)).units + 70 < cLine := by omega
  exact (dss_one (ds_ret (de_and (de_isi 0 (C.bn "isinstance" (by decide)) (C.bn "int" (by decide)) (de_var 0)) (de_one (de_not (de_isi 1 (C.bn "isinstance" (by decide)) (C.bn "bool" (by decide)) (de_var 0)))))))
/-! ### is_count -/
abbrev s1 : Stmt := top 11
abbrev N1 : List Str := ["value"]
theorem sc1 : FnScope N1 ["value"] (defScope s1) := ⟨rfl, rfl, rfl, by decide +kernel, rfl, by decide +kernel, by decide +kernel⟩
theorem d1 {P : Program} {w : World} {K : PySem.W.Frag} {mg : Str → Option Value} {base : Heap} {g : Glob} {k : Nat} {R : FR} (C : Cxt P w K mg base g k R) {f : Addr} (cdv : Value) (A : Around) (outer : List PySem.Env) (s : Shared) (H : Hp) (E : XK) (hr : Room k (A.deeper (PyProof.Rows.envOfC "is_count" (defScope s1) s.heap.objs.size f cdv))) (hgd : A.guards = some []) :
    PSs (cxOf (L2.CX P w) P w K mg base N1 "is_count" (defScope s1) f cdv A outer s H E) (defBody s1) (tS g (fun c d _ H' => E c d H') (b1 R)) := by
  have tk : Takes (cxOf (L2.CX P w) P w K mg base N1 "is_count" (defScope s1) f cdv A outer s H E) (fun c d _ H' => E c d H') := takes_of rfl rfl rfl rfl
  have hp : PassesOwn (model P w) (cxOf (L2.CX P w) P w K mg base N1 "is_count" (defScope s1) f cdv A outer s H E).A (cxOf (L2.CX P w) P w K mg base N1 "is_count" (defScope s1) f cdv A outer s H E).env (cxOf (L2.CX P w) P w K mg base N1 "is_count" (defScope s1) f cdv A outer s H E).xe := passes_of rfl
  have nd : N1.Nodup := sc1.nd
  have hc : (cxOf (L2.CX P w) P w K mg base N1 "is_count" (defScope s1) f cdv A outer s H E).calm = true := rfl
  have uu : (A.deeper (PyProof.Rows.envOfC "is_count" (defScope s1) s.heap.objs.size f cdv)).units + 100 < cLine := by have := hr.un; omega
  have u1 : (A.deeper (PyProof.Rows.envOfC "is_count" (defScope s1) s.heap.objs.size f cdv)).units + 1 < cLine := by omega
  have u2 : (A.deeper (PyProof.Rows.envOfC "is_count" (defScope s1) s.heap.objs.size f cdv)).units + 2 < cLine := by omega
  have u64 : (A.deeper (PyProof.Rows.envOfC "is_count" (defScope s1) s.heap.objs.size f cdv)).units + 64 < cLine := by omega
  have u65 : (A.deeper (PyProof.Rows.envOfC "is_count" (defScope s1) s.heap.objs.size f cdv)).units + 65 < cLine := by omega
  have u70 : (A.deeper (PyProof.Rows.envOfC "is_count" (defScope s1) s.heap.objs.size f cdv)).units + 70 < cLine := by omega
  exact (dss_one (ds_ret (de_and (de_call (C.fn 0 "is_whole" ["value"] rfl) tk hr hgd (da_cons (de_var 0) da_nil)) (de_one (de_cmp od_ge (de_var 0) de_int)))))
/-! ### is_signs -/
abbrev s2 : Stmt := top 12
abbrev N2 : List Str := ["value", "signs", "sign"]
theorem sc2 : FnScope N2 ["value", "signs"] (defScope s2) := ⟨rfl, rfl, rfl, by decide +kernel, rfl, by decide +kernel, by decide +kernel⟩
theorem d2 {P : Program} {w : World} {K : PySem.W.Frag} {mg : Str → Option Value} {base : Heap} {g : Glob} {k : Nat} {R : FR} (C : Cxt P w K mg base g k R) {f : Addr} (cdv : Value) (A : Around) (outer : List PySem.Env) (s : Shared) (H : Hp) (E : XK) (hr : Room k (A.deeper (PyProof.Rows.envOfC "is_signs" (defScope s2) s.heap.objs.size f cdv))) (hgd : A.guards = some []) :
    PSs (cxOf (L2.CX P w) P w K mg base N2 "is_signs" (defScope s2) f cdv A outer s H E) (defBody s2) (tS g (fun c d _ H' => E c d H') (b2 R)) := by
  have tk : Takes (cxOf (L2.CX P w) P w K mg base N2 "is_signs" (defScope s2) f cdv A outer s H E) (fun c d _ H' => E c d H') := takes_of rfl rfl rfl rfl
  have hp : PassesOwn (model P w) (cxOf (L2.CX P w) P w K mg base N2 "is_signs" (defScope s2) f cdv A outer s H E).A (cxOf (L2.CX P w) P w K mg base N2 "is_signs" (defScope s2) f cdv A outer s H E).env (cxOf (L2.CX P w) P w K mg base N2 "is_signs" (defScope s2) f cdv A outer s H E).xe := passes_of rfl
  have nd : N2.Nodup := sc2.nd
  have hc : (cxOf (L2.CX P w) P w K mg base N2 "is_signs" (defScope s2) f cdv A outer s H E).calm = true := rfl
  have uu : (A.deeper (PyProof.Rows.envOfC "is_signs" (defScope s2) s.heap.objs.size f cdv)).units + 100 < cLine := by have := hr.un; omega
  have u1 : (A.deeper (PyProof.Rows.envOfC "is_signs" (defScope s2) s.heap.objs.size f cdv)).units + 1 < cLine := by omega
  have u2 : (A.deeper (PyProof.Rows.envOfC "is_signs" (defScope s2) s.heap.objs.size f cdv)).units + 2 < cLine := by omega
  have u64 : (A.deeper (PyProof.Rows.envOfC "is_signs" (defScope s2) s.heap.objs.size f cdv)).units + 64 < cLine := by omega
  have u65 : (A.deeper (PyProof.Rows.envOfC "is_signs" (defScope s2) s.heap.objs.size f cdv)).units + 65 < cLine := by omega
  have u70 : (A.deeper (PyProof.Rows.envOfC "is_signs" (defScope s2) s.heap.objs.size f cdv)).units + 70 < cLine := by omega
  exact (dss_one (ds_ret (de_and (de_isi 2 (C.bn "isinstance" (by decide)) (C.bn "str" (by decide)) (de_var 0)) (de_one (de_cmp (od_eq u64) (de_lc false hc nd (di_any (de_var 0)) (blkOk_by (own := [("sign", 2)]) (by rfl)) (fun _ _ _ _ _ => (dg_name 2 nd)) (fun _ _ _ _ _ => (dts_one (dt_cmp (od_notin u65) (de_var 2) (de_var 1)))) (fun _ _ _ _ _ => (de_var 2))) (de_lst false da_nil))))))
/-! ### is_name -/
abbrev s3 : Stmt := top 13
abbrev N3 : List Str := ["value"]
theorem sc3 : FnScope N3 ["value"] (defScope s3) := ⟨rfl, rfl, rfl, by decide +kernel, rfl, by decide +kernel, by decide +kernel⟩
theorem d3 {P : Program} {w : World} {K : PySem.W.Frag} {mg : Str → Option Value} {base : Heap} {g : Glob} {k : Nat} {R : FR} (C : Cxt P w K mg base g k R) {f : Addr} (cdv : Value) (A : Around) (outer : List PySem.Env) (s : Shared) (H : Hp) (E : XK) (hr : Room k (A.deeper (PyProof.Rows.envOfC "is_name" (defScope s3) s.heap.objs.size f cdv))) (hgd : A.guards = some []) :
    PSs (cxOf (L2.CX P w) P w K mg base N3 "is_name" (defScope s3) f cdv A outer s H E) (defBody s3) (tS g (fun c d _ H' => E c d H') (b3 R)) := by
  have tk : Takes (cxOf (L2.CX P w) P w K mg base N3 "is_name" (defScope s3) f cdv A outer s H E) (fun c d _ H' => E c d H') := takes_of rfl rfl rfl rfl
  have hp : PassesOwn (model P w) (cxOf (L2.CX P w) P w K mg base N3 "is_name" (defScope s3) f cdv A outer s H E).A (cxOf (L2.CX P w) P w K mg base N3 "is_name" (defScope s3) f cdv A outer s H E).env (cxOf (L2.CX P w) P w K mg base N3 "is_name" (defScope s3) f cdv A outer s H E).xe := passes_of rfl
  have nd : N3.Nodup := sc3.nd
  have hc : (cxOf (L2.CX P w) P w K mg base N3 "is_name" (defScope s3) f cdv A outer s H E).calm = true := rfl
  have uu : (A.deeper (PyProof.Rows.envOfC "is_name" (defScope s3) s.heap.objs.size f cdv)).units + 100 < cLine := by have := hr.un; omega
  have u1 : (A.deeper (PyProof.Rows.envOfC "is_name" (defScope s3) s.heap.objs.size f cdv)).units + 1 < cLine := by omega
  have u2 : (A.deeper (PyProof.Rows.envOfC "is_name" (defScope s3) s.heap.objs.size f cdv)).units + 2 < cLine := by omega
  have u64 : (A.deeper (PyProof.Rows.envOfC "is_name" (defScope s3) s.heap.objs.size f cdv)).units + 64 < cLine := by omega
  have u65 : (A.deeper (PyProof.Rows.envOfC "is_name" (defScope s3) s.heap.objs.size f cdv)).units + 65 < cLine := by omega
  have u70 : (A.deeper (PyProof.Rows.envOfC "is_name" (defScope s3) s.heap.objs.size f cdv)).units + 70 < cLine := by omega
  exact (dss_one (ds_ret (de_and (de_call (C.fn 2 "is_signs" ["value", "signs"] rfl) tk hr hgd (da_cons (de_var 0) (da_cons (de_bin od_add (gS (C.cS "SMALL" [97, 98, 99, 100, 101, 102, 103, 104, 105, 106, 107, 108, 109, 110, 111, 112, 113, 114, 115, 116, 117, 118, 119, 120, 121, 122] (by decide)) rfl) (gS (C.cS "FIGURES" [48, 49, 50, 51, 52, 53, 54, 55, 56, 57] (by decide)) rfl)) da_nil))) (de_and (de_chain od_lt od_le de_int (de_callB cd_len (C.bn "len" (by decide)) (da_cons (de_var 0) da_nil)) (gI (C.cI "MOST_NAME" 8 (by decide)) rfl)) (de_one (de_cmp (od_in u65) (de_ix (xd_ix u1) (de_var 0) de_int) (gS (C.cS "SMALL" [97, 98, 99, 100, 101, 102, 103, 104, 105, 106, 107, 108, 109, 110, 111, 112, 113, 114, 115, 116, 117, 118, 119, 120, 121, 122] (by decide)) rfl)))))))
/-! ### ascends -/
abbrev s4 : Stmt := top 14
abbrev N4 : List Str := ["items", "at"]
theorem sc4 : FnScope N4 ["items"] (defScope s4) := ⟨rfl, rfl, rfl, by decide +kernel, rfl, by decide +kernel, by decide +kernel⟩
theorem d4 {P : Program} {w : World} {K : PySem.W.Frag} {mg : Str → Option Value} {base : Heap} {g : Glob} {k : Nat} {R : FR} (C : Cxt P w K mg base g k R) {f : Addr} (cdv : Value) (A : Around) (outer : List PySem.Env) (s : Shared) (H : Hp) (E : XK) (hr : Room k (A.deeper (PyProof.Rows.envOfC "ascends" (defScope s4) s.heap.objs.size f cdv))) (hgd : A.guards = some []) :
    PSs (cxOf (L2.CX P w) P w K mg base N4 "ascends" (defScope s4) f cdv A outer s H E) (defBody s4) (tS g (fun c d _ H' => E c d H') (b4 R)) := by
  have tk : Takes (cxOf (L2.CX P w) P w K mg base N4 "ascends" (defScope s4) f cdv A outer s H E) (fun c d _ H' => E c d H') := takes_of rfl rfl rfl rfl
  have hp : PassesOwn (model P w) (cxOf (L2.CX P w) P w K mg base N4 "ascends" (defScope s4) f cdv A outer s H E).A (cxOf (L2.CX P w) P w K mg base N4 "ascends" (defScope s4) f cdv A outer s H E).env (cxOf (L2.CX P w) P w K mg base N4 "ascends" (defScope s4) f cdv A outer s H E).xe := passes_of rfl
  have nd : N4.Nodup := sc4.nd
  have hc : (cxOf (L2.CX P w) P w K mg base N4 "ascends" (defScope s4) f cdv A outer s H E).calm = true := rfl
  have uu : (A.deeper (PyProof.Rows.envOfC "ascends" (defScope s4) s.heap.objs.size f cdv)).units + 100 < cLine := by have := hr.un; omega
  have u1 : (A.deeper (PyProof.Rows.envOfC "ascends" (defScope s4) s.heap.objs.size f cdv)).units + 1 < cLine := by omega
  have u2 : (A.deeper (PyProof.Rows.envOfC "ascends" (defScope s4) s.heap.objs.size f cdv)).units + 2 < cLine := by omega
  have u64 : (A.deeper (PyProof.Rows.envOfC "ascends" (defScope s4) s.heap.objs.size f cdv)).units + 64 < cLine := by omega
  have u65 : (A.deeper (PyProof.Rows.envOfC "ascends" (defScope s4) s.heap.objs.size f cdv)).units + 65 < cLine := by omega
  have u70 : (A.deeper (PyProof.Rows.envOfC "ascends" (defScope s4) s.heap.objs.size f cdv)).units + 70 < cLine := by omega
  exact (dss_one (ds_ret (de_cmp (od_eq u64) (de_lc false hc nd (di_range2 (C.bn "range" (by decide)) (da_cons de_int (da_cons (de_callB cd_len (C.bn "len" (by decide)) (da_cons (de_var 0) da_nil)) da_nil))) (blkOk_by (own := [("at", 1)]) (by rfl)) (fun _ _ _ _ _ => (dg_name 1 nd)) (fun _ _ _ _ _ => (dts_one (dt_cmp od_ge (de_ix (xd_ix u1) (de_var 0) (de_bin od_sub (de_var 1) de_int)) (de_ix (xd_ix u1) (de_var 0) (de_var 1))))) (fun _ _ _ _ _ => (de_var 1))) (de_lst false da_nil))))
/-! ### is_names -/
abbrev s5 : Stmt := top 15
abbrev N5 : List Str := ["value", "item"]
theorem sc5 : FnScope N5 ["value"] (defScope s5) := ⟨rfl, rfl, rfl, by decide +kernel, rfl, by decide +kernel, by decide +kernel⟩
theorem d5 {P : Program} {w : World} {K : PySem.W.Frag} {mg : Str → Option Value} {base : Heap} {g : Glob} {k : Nat} {R : FR} (C : Cxt P w K mg base g k R) {f : Addr} (cdv : Value) (A : Around) (outer : List PySem.Env) (s : Shared) (H : Hp) (E : XK) (hr : Room k (A.deeper (PyProof.Rows.envOfC "is_names" (defScope s5) s.heap.objs.size f cdv))) (hgd : A.guards = some []) :
    PSs (cxOf (L2.CX P w) P w K mg base N5 "is_names" (defScope s5) f cdv A outer s H E) (defBody s5) (tS g (fun c d _ H' => E c d H') (b5 R)) := by
  have tk : Takes (cxOf (L2.CX P w) P w K mg base N5 "is_names" (defScope s5) f cdv A outer s H E) (fun c d _ H' => E c d H') := takes_of rfl rfl rfl rfl
  have hp : PassesOwn (model P w) (cxOf (L2.CX P w) P w K mg base N5 "is_names" (defScope s5) f cdv A outer s H E).A (cxOf (L2.CX P w) P w K mg base N5 "is_names" (defScope s5) f cdv A outer s H E).env (cxOf (L2.CX P w) P w K mg base N5 "is_names" (defScope s5) f cdv A outer s H E).xe := passes_of rfl
  have nd : N5.Nodup := sc5.nd
  have hc : (cxOf (L2.CX P w) P w K mg base N5 "is_names" (defScope s5) f cdv A outer s H E).calm = true := rfl
  have uu : (A.deeper (PyProof.Rows.envOfC "is_names" (defScope s5) s.heap.objs.size f cdv)).units + 100 < cLine := by have := hr.un; omega
  have u1 : (A.deeper (PyProof.Rows.envOfC "is_names" (defScope s5) s.heap.objs.size f cdv)).units + 1 < cLine := by omega
  have u2 : (A.deeper (PyProof.Rows.envOfC "is_names" (defScope s5) s.heap.objs.size f cdv)).units + 2 < cLine := by omega
  have u64 : (A.deeper (PyProof.Rows.envOfC "is_names" (defScope s5) s.heap.objs.size f cdv)).units + 64 < cLine := by omega
  have u65 : (A.deeper (PyProof.Rows.envOfC "is_names" (defScope s5) s.heap.objs.size f cdv)).units + 65 < cLine := by omega
  have u70 : (A.deeper (PyProof.Rows.envOfC "is_names" (defScope s5) s.heap.objs.size f cdv)).units + 70 < cLine := by omega
  exact (dss_cons (ds_if (PW.pt (dw_or (dt_not (dt_tru (de_isi 3 (C.bn "isinstance" (by decide)) (C.bn "list" (by decide)) (de_var 0)))) (dw_or1 (dt_cmp (od_ne u64) (de_lc false hc nd (di_any (de_var 0)) (blkOk_by (own := [("item", 1)]) (by rfl)) (fun _ _ _ _ _ => (dg_name 1 nd)) (fun _ _ _ _ _ => (dts_one (dt_not (dt_tru (de_call (C.fn 3 "is_name" ["value"] rfl) takes0 hr hgd (da_cons (de_var 1) da_nil)))))) (fun _ _ _ _ _ => (de_var 1))) (de_lst false da_nil))))) (dss_one (ds_ret de_bl)) dss_nil) (dss_one (ds_ret (de_call (C.fn 4 "ascends" ["items"] rfl) tk hr hgd (da_cons (de_var 0) da_nil)))))
/-! ### is_find -/
abbrev s6 : Stmt := top 17
abbrev N6 : List Str := ["value"]
theorem sc6 : FnScope N6 ["value"] (defScope s6) := ⟨rfl, rfl, rfl, by decide +kernel, rfl, by decide +kernel, by decide +kernel⟩
theorem d6 {P : Program} {w : World} {K : PySem.W.Frag} {mg : Str → Option Value} {base : Heap} {g : Glob} {k : Nat} {R : FR} (C : Cxt P w K mg base g k R) {f : Addr} (cdv : Value) (A : Around) (outer : List PySem.Env) (s : Shared) (H : Hp) (E : XK) (hr : Room k (A.deeper (PyProof.Rows.envOfC "is_find" (defScope s6) s.heap.objs.size f cdv))) (hgd : A.guards = some []) :
    PSs (cxOf (L2.CX P w) P w K mg base N6 "is_find" (defScope s6) f cdv A outer s H E) (defBody s6) (tS g (fun c d _ H' => E c d H') (b6 R)) := by
  have tk : Takes (cxOf (L2.CX P w) P w K mg base N6 "is_find" (defScope s6) f cdv A outer s H E) (fun c d _ H' => E c d H') := takes_of rfl rfl rfl rfl
  have hp : PassesOwn (model P w) (cxOf (L2.CX P w) P w K mg base N6 "is_find" (defScope s6) f cdv A outer s H E).A (cxOf (L2.CX P w) P w K mg base N6 "is_find" (defScope s6) f cdv A outer s H E).env (cxOf (L2.CX P w) P w K mg base N6 "is_find" (defScope s6) f cdv A outer s H E).xe := passes_of rfl
  have nd : N6.Nodup := sc6.nd
  have hc : (cxOf (L2.CX P w) P w K mg base N6 "is_find" (defScope s6) f cdv A outer s H E).calm = true := rfl
  have uu : (A.deeper (PyProof.Rows.envOfC "is_find" (defScope s6) s.heap.objs.size f cdv)).units + 100 < cLine := by have := hr.un; omega
  have u1 : (A.deeper (PyProof.Rows.envOfC "is_find" (defScope s6) s.heap.objs.size f cdv)).units + 1 < cLine := by omega
  have u2 : (A.deeper (PyProof.Rows.envOfC "is_find" (defScope s6) s.heap.objs.size f cdv)).units + 2 < cLine := by omega
  have u64 : (A.deeper (PyProof.Rows.envOfC "is_find" (defScope s6) s.heap.objs.size f cdv)).units + 64 < cLine := by omega
  have u65 : (A.deeper (PyProof.Rows.envOfC "is_find" (defScope s6) s.heap.objs.size f cdv)).units + 65 < cLine := by omega
  have u70 : (A.deeper (PyProof.Rows.envOfC "is_find" (defScope s6) s.heap.objs.size f cdv)).units + 70 < cLine := by omega
  exact (dss_one (ds_ret (de_and (de_isi 4 (C.bn "isinstance" (by decide)) (C.bn "tuple" (by decide)) (de_var 0)) (de_and (de_cmp (od_eq u64) (de_callB cd_len (C.bn "len" (by decide)) (da_cons (de_var 0) da_nil)) de_int) (de_and (de_call (C.fn 1 "is_count" ["value"] rfl) tk hr hgd (da_cons (de_ix (xd_ix u1) (de_var 0) de_int) da_nil)) (de_and (de_cmp od_gt (de_ix (xd_ix u1) (de_var 0) de_int) de_int) (de_one (de_call (C.fn 1 "is_count" ["value"] rfl) tk hr hgd (da_cons (de_ix (xd_ix u1) (de_var 0) de_int) da_nil)))))))))
/-! ### check_finds -/
abbrev s7 : Stmt := top 18
abbrev N7 : List Str := ["finds", "name"]
theorem sc7 : FnScope N7 ["finds"] (defScope s7) := ⟨rfl, rfl, rfl, by decide +kernel, rfl, by decide +kernel, by decide +kernel⟩
theorem d7 {P : Program} {w : World} {K : PySem.W.Frag} {mg : Str → Option Value} {base : Heap} {g : Glob} {k : Nat} {R : FR} (C : Cxt P w K mg base g k R) {f : Addr} (cdv : Value) (A : Around) (outer : List PySem.Env) (s : Shared) (H : Hp) (E : XK) (hr : Room k (A.deeper (PyProof.Rows.envOfC "check_finds" (defScope s7) s.heap.objs.size f cdv))) (hgd : A.guards = some []) :
    PSs (cxOf (L2.CX P w) P w K mg base N7 "check_finds" (defScope s7) f cdv A outer s H E) (defBody s7) (tS g (fun c d _ H' => E c d H') (b7 R)) := by
  have tk : Takes (cxOf (L2.CX P w) P w K mg base N7 "check_finds" (defScope s7) f cdv A outer s H E) (fun c d _ H' => E c d H') := takes_of rfl rfl rfl rfl
  have hp : PassesOwn (model P w) (cxOf (L2.CX P w) P w K mg base N7 "check_finds" (defScope s7) f cdv A outer s H E).A (cxOf (L2.CX P w) P w K mg base N7 "check_finds" (defScope s7) f cdv A outer s H E).env (cxOf (L2.CX P w) P w K mg base N7 "check_finds" (defScope s7) f cdv A outer s H E).xe := passes_of rfl
  have nd : N7.Nodup := sc7.nd
  have hc : (cxOf (L2.CX P w) P w K mg base N7 "check_finds" (defScope s7) f cdv A outer s H E).calm = true := rfl
  have uu : (A.deeper (PyProof.Rows.envOfC "check_finds" (defScope s7) s.heap.objs.size f cdv)).units + 100 < cLine := by have := hr.un; omega
  have u1 : (A.deeper (PyProof.Rows.envOfC "check_finds" (defScope s7) s.heap.objs.size f cdv)).units + 1 < cLine := by omega
  have u2 : (A.deeper (PyProof.Rows.envOfC "check_finds" (defScope s7) s.heap.objs.size f cdv)).units + 2 < cLine := by omega
  have u64 : (A.deeper (PyProof.Rows.envOfC "check_finds" (defScope s7) s.heap.objs.size f cdv)).units + 64 < cLine := by omega
  have u65 : (A.deeper (PyProof.Rows.envOfC "check_finds" (defScope s7) s.heap.objs.size f cdv)).units + 65 < cLine := by omega
  have u70 : (A.deeper (PyProof.Rows.envOfC "check_finds" (defScope s7) s.heap.objs.size f cdv)).units + 70 < cLine := by omega
  exact (dss_cons (ds_if (PW.pt (dw_or (dt_not (dt_tru (de_isi 5 (C.bn "isinstance" (by decide)) (C.bn "dict" (by decide)) (de_var 0)))) (dw_or1 (dt_cmp (od_eq u64) (de_callB cd_len (C.bn "len" (by decide)) (da_cons (de_var 0) da_nil)) de_int)))) (dss_one (ds_raise 1 C.err (C.gC 1 "InvalidFinds" rfl) hr tk hc (de_var 0))) dss_nil) (dss_one (ds_if (dt_not (dt_tru (de_callB (cd_all hc) (C.bn "all" (by decide)) (da_cons (de_lc false hc nd (di_any (de_var 0)) (blkOk_by (own := [("name", 1)]) (by rfl)) (fun _ _ _ _ _ => (dg_name 1 nd)) (fun _ _ _ _ _ => dts_nil) (fun _ _ _ _ _ => (de_and (de_call (C.fn 3 "is_name" ["value"] rfl) takes0 hr hgd (da_cons (de_var 1) da_nil)) (de_one (de_call (C.fn 6 "is_find" ["value"] rfl) takes0 hr hgd (da_cons (de_ix (xd_ix u1) (de_var 0) (de_var 1)) da_nil)))))) da_nil)))) (dss_one (ds_raise 1 C.err (C.gC 1 "InvalidFinds" rfl) hr tk hc (de_var 0))) dss_nil)))
/-! ### check_bags -/
abbrev s8 : Stmt := top 19
abbrev N8 : List Str := ["finds", "bags", "bag"]
theorem sc8 : FnScope N8 ["finds", "bags"] (defScope s8) := ⟨rfl, rfl, rfl, by decide +kernel, rfl, by decide +kernel, by decide +kernel⟩
theorem d8 {P : Program} {w : World} {K : PySem.W.Frag} {mg : Str → Option Value} {base : Heap} {g : Glob} {k : Nat} {R : FR} (C : Cxt P w K mg base g k R) {f : Addr} (cdv : Value) (A : Around) (outer : List PySem.Env) (s : Shared) (H : Hp) (E : XK) (hr : Room k (A.deeper (PyProof.Rows.envOfC "check_bags" (defScope s8) s.heap.objs.size f cdv))) (hgd : A.guards = some []) :
    PSs (cxOf (L2.CX P w) P w K mg base N8 "check_bags" (defScope s8) f cdv A outer s H E) (defBody s8) (tS g (fun c d _ H' => E c d H') (b8 R)) := by
  have tk : Takes (cxOf (L2.CX P w) P w K mg base N8 "check_bags" (defScope s8) f cdv A outer s H E) (fun c d _ H' => E c d H') := takes_of rfl rfl rfl rfl
  have hp : PassesOwn (model P w) (cxOf (L2.CX P w) P w K mg base N8 "check_bags" (defScope s8) f cdv A outer s H E).A (cxOf (L2.CX P w) P w K mg base N8 "check_bags" (defScope s8) f cdv A outer s H E).env (cxOf (L2.CX P w) P w K mg base N8 "check_bags" (defScope s8) f cdv A outer s H E).xe := passes_of rfl
  have nd : N8.Nodup := sc8.nd
  have hc : (cxOf (L2.CX P w) P w K mg base N8 "check_bags" (defScope s8) f cdv A outer s H E).calm = true := rfl
  have uu : (A.deeper (PyProof.Rows.envOfC "check_bags" (defScope s8) s.heap.objs.size f cdv)).units + 100 < cLine := by have := hr.un; omega
  have u1 : (A.deeper (PyProof.Rows.envOfC "check_bags" (defScope s8) s.heap.objs.size f cdv)).units + 1 < cLine := by omega
  have u2 : (A.deeper (PyProof.Rows.envOfC "check_bags" (defScope s8) s.heap.objs.size f cdv)).units + 2 < cLine := by omega
  have u64 : (A.deeper (PyProof.Rows.envOfC "check_bags" (defScope s8) s.heap.objs.size f cdv)).units + 64 < cLine := by omega
  have u65 : (A.deeper (PyProof.Rows.envOfC "check_bags" (defScope s8) s.heap.objs.size f cdv)).units + 65 < cLine := by omega
  have u70 : (A.deeper (PyProof.Rows.envOfC "check_bags" (defScope s8) s.heap.objs.size f cdv)).units + 70 < cLine := by omega
  exact (dss_cons (ds_expr (de_call (C.fn 7 "check_finds" ["finds"] rfl) tk hr hgd (da_cons (de_var 0) da_nil))) (dss_cons (ds_if (PW.pt (dw_or (dt_not (dt_tru (de_isi 5 (C.bn "isinstance" (by decide)) (C.bn "dict" (by decide)) (de_var 1)))) (dw_or1 (dt_cmp (od_eq u64) (de_callB cd_len (C.bn "len" (by decide)) (da_cons (de_var 1) da_nil)) de_int)))) (dss_one (ds_raise 2 C.err (C.gC 2 "InvalidBags" rfl) hr tk hc (de_var 1))) dss_nil) (dss_one (ds_if (dt_not (dt_tru (de_callB (cd_all hc) (C.bn "all" (by decide)) (da_cons (de_lc false hc nd (di_any (de_var 1)) (blkOk_by (own := [("bag", 2)]) (by rfl)) (fun _ _ _ _ _ => (dg_name 2 nd)) (fun _ _ _ _ _ => dts_nil) (fun _ _ _ _ _ => (de_and (de_call (C.fn 3 "is_name" ["value"] rfl) takes0 hr hgd (da_cons (de_var 2) da_nil)) (de_one (de_call (C.fn 1 "is_count" ["value"] rfl) takes0 hr hgd (da_cons (de_ix (xd_ix u1) (de_var 1) (de_var 2)) da_nil)))))) da_nil)))) (dss_one (ds_raise 2 C.err (C.gC 2 "InvalidBags" rfl) hr tk hc (de_var 1))) dss_nil))))
/-! ### weight_in -/
abbrev s9 : Stmt := top 20
abbrev N9 : List Str := ["finds", "lot", "name"]
theorem sc9 : FnScope N9 ["finds", "lot"] (defScope s9) := ⟨rfl, rfl, rfl, by decide +kernel, rfl, by decide +kernel, by decide +kernel⟩
theorem d9 {P : Program} {w : World} {K : PySem.W.Frag} {mg : Str → Option Value} {base : Heap} {g : Glob} {k : Nat} {R : FR} (C : Cxt P w K mg base g k R) {f : Addr} (cdv : Value) (A : Around) (outer : List PySem.Env) (s : Shared) (H : Hp) (E : XK) (hr : Room k (A.deeper (PyProof.Rows.envOfC "weight_in" (defScope s9) s.heap.objs.size f cdv))) (hgd : A.guards = some []) :
    PSs (cxOf (L2.CX P w) P w K mg base N9 "weight_in" (defScope s9) f cdv A outer s H E) (defBody s9) (tS g (fun c d _ H' => E c d H') (b9 R)) := by
  have tk : Takes (cxOf (L2.CX P w) P w K mg base N9 "weight_in" (defScope s9) f cdv A outer s H E) (fun c d _ H' => E c d H') := takes_of rfl rfl rfl rfl
  have hp : PassesOwn (model P w) (cxOf (L2.CX P w) P w K mg base N9 "weight_in" (defScope s9) f cdv A outer s H E).A (cxOf (L2.CX P w) P w K mg base N9 "weight_in" (defScope s9) f cdv A outer s H E).env (cxOf (L2.CX P w) P w K mg base N9 "weight_in" (defScope s9) f cdv A outer s H E).xe := passes_of rfl
  have nd : N9.Nodup := sc9.nd
  have hc : (cxOf (L2.CX P w) P w K mg base N9 "weight_in" (defScope s9) f cdv A outer s H E).calm = true := rfl
  have uu : (A.deeper (PyProof.Rows.envOfC "weight_in" (defScope s9) s.heap.objs.size f cdv)).units + 100 < cLine := by have := hr.un; omega
  have u1 : (A.deeper (PyProof.Rows.envOfC "weight_in" (defScope s9) s.heap.objs.size f cdv)).units + 1 < cLine := by omega
  have u2 : (A.deeper (PyProof.Rows.envOfC "weight_in" (defScope s9) s.heap.objs.size f cdv)).units + 2 < cLine := by omega
  have u64 : (A.deeper (PyProof.Rows.envOfC "weight_in" (defScope s9) s.heap.objs.size f cdv)).units + 64 < cLine := by omega
  have u65 : (A.deeper (PyProof.Rows.envOfC "weight_in" (defScope s9) s.heap.objs.size f cdv)).units + 65 < cLine := by omega
  have u70 : (A.deeper (PyProof.Rows.envOfC "weight_in" (defScope s9) s.heap.objs.size f cdv)).units + 70 < cLine := by omega
  exact (dss_one (ds_ret (de_callB (cd_sum hc) (C.bn "sum" (by decide)) (da_cons (de_lc false hc nd (di_any (de_var 1)) (blkOk_by (own := [("name", 2)]) (by rfl)) (fun _ _ _ _ _ => (dg_name 2 nd)) (fun _ _ _ _ _ => dts_nil) (fun _ _ _ _ _ => (de_ix (xd_ix u1) (de_ix (xd_ix u1) (de_var 0) (de_var 2)) de_int))) da_nil))))
/-! ### are_lots_of -/
abbrev s10 : Stmt := top 21
abbrev N10 : List Str := ["finds", "lots", "names", "lot", "name"]
theorem sc10 : FnScope N10 ["finds", "lots"] (defScope s10) := ⟨rfl, rfl, rfl, by decide +kernel, rfl, by decide +kernel, by decide +kernel⟩
theorem d10 {P : Program} {w : World} {K : PySem.W.Frag} {mg : Str → Option Value} {base : Heap} {g : Glob} {k : Nat} {R : FR} (C : Cxt P w K mg base g k R) {f : Addr} (cdv : Value) (A : Around) (outer : List PySem.Env) (s : Shared) (H : Hp) (E : XK) (hr : Room k (A.deeper (PyProof.Rows.envOfC "are_lots_of" (defScope s10) s.heap.objs.size f cdv))) (hgd : A.guards = some []) :
    PSs (cxOf (L2.CX P w) P w K mg base N10 "are_lots_of" (defScope s10) f cdv A outer s H E) (defBody s10) (tS g (fun c d _ H' => E c d H') (b10 R)) := by
  have tk : Takes (cxOf (L2.CX P w) P w K mg base N10 "are_lots_of" (defScope s10) f cdv A outer s H E) (fun c d _ H' => E c d H') := takes_of rfl rfl rfl rfl
  have hp : PassesOwn (model P w) (cxOf (L2.CX P w) P w K mg base N10 "are_lots_of" (defScope s10) f cdv A outer s H E).A (cxOf (L2.CX P w) P w K mg base N10 "are_lots_of" (defScope s10) f cdv A outer s H E).env (cxOf (L2.CX P w) P w K mg base N10 "are_lots_of" (defScope s10) f cdv A outer s H E).xe := passes_of rfl
  have nd : N10.Nodup := sc10.nd
  have hc : (cxOf (L2.CX P w) P w K mg base N10 "are_lots_of" (defScope s10) f cdv A outer s H E).calm = true := rfl
  have uu : (A.deeper (PyProof.Rows.envOfC "are_lots_of" (defScope s10) s.heap.objs.size f cdv)).units + 100 < cLine := by have := hr.un; omega
  have u1 : (A.deeper (PyProof.Rows.envOfC "are_lots_of" (defScope s10) s.heap.objs.size f cdv)).units + 1 < cLine := by omega
  have u2 : (A.deeper (PyProof.Rows.envOfC "are_lots_of" (defScope s10) s.heap.objs.size f cdv)).units + 2 < cLine := by omega
  have u64 : (A.deeper (PyProof.Rows.envOfC "are_lots_of" (defScope s10) s.heap.objs.size f cdv)).units + 64 < cLine := by omega
  have u65 : (A.deeper (PyProof.Rows.envOfC "are_lots_of" (defScope s10) s.heap.objs.size f cdv)).units + 65 < cLine := by omega
  have u70 : (A.deeper (PyProof.Rows.envOfC "are_lots_of" (defScope s10) s.heap.objs.size f cdv)).units + 70 < cLine := by omega
  exact (dss_cons (ds_if (dt_not (dt_tru (de_callB (cd_all hc) (C.bn "all" (by decide)) (da_cons (de_lc false hc nd (di_any (de_var 1)) (blkOk_by (own := [("lot", 3)]) (by rfl)) (fun _ _ _ _ _ => (dg_name 3 nd)) (fun _ _ _ _ _ => dts_nil) (fun _ _ _ _ _ => (de_and (de_call (C.fn 5 "is_names" ["value"] rfl) takes0 hr hgd (da_cons (de_var 3) da_nil)) (de_one (de_callB (cd_all (by rfl)) (C.bn "all" (by decide)) (da_cons (de_lc false (by rfl) nd (di_any (de_var 3)) (blkOk_by (own := [("name", 4)]) (by rfl)) (fun _ _ _ _ _ => (dg_name 4 nd)) (fun _ _ _ _ _ => dts_nil) (fun _ _ _ _ _ => (de_cmp (od_in u65) (de_var 4) (de_var 0)))) da_nil)))))) da_nil)))) (dss_one (ds_ret de_bl)) dss_nil) (dss_cons (ds_setLc2 false 2 hc nd (di_any (de_var 1)) (blkOk_by (own := [("lot", 3), ("name", 4)]) (by rfl)) (fun _ _ _ _ _ => (dg_name 3 nd)) (fun _ _ _ _ _ => dts_nil) (fun _ _ _ _ _ => (di_any (de_var 3))) (fun _ _ _ _ _ => (dg_name 4 nd)) (fun _ _ _ _ _ => dts_nil) (fun _ _ _ _ _ => (de_var 4))) (dss_one (ds_ret (de_cmp (od_eq u64) (de_callB cd_len (C.bn "len" (by decide)) (da_cons (de_dc hc nd (di_any (de_var 2)) (blkOk_by (own := [("name", 4)]) (by rfl)) (fun _ _ _ _ _ => (dg_name 4 nd)) (fun _ _ _ _ _ => dts_nil) (fun _ _ _ _ _ => (de_var 4)) (fun _ _ _ _ _ => de_bl)) da_nil)) (de_callB cd_len (C.bn "len" (by decide)) (da_cons (de_var 2) da_nil)))))))
/-! ### is_carrying_of -/
abbrev s11 : Stmt := top 22
abbrev N11 : List Str := ["finds", "bags", "value", "bag"]
theorem sc11 : FnScope N11 ["finds", "bags", "value"] (defScope s11) := ⟨rfl, rfl, rfl, by decide +kernel, rfl, by decide +kernel, by decide +kernel⟩
theorem d11 {P : Program} {w : World} {K : PySem.W.Frag} {mg : Str → Option Value} {base : Heap} {g : Glob} {k : Nat} {R : FR} (C : Cxt P w K mg base g k R) {f : Addr} (cdv : Value) (A : Around) (outer : List PySem.Env) (s : Shared) (H : Hp) (E : XK) (hr : Room k (A.deeper (PyProof.Rows.envOfC "is_carrying_of" (defScope s11) s.heap.objs.size f cdv))) (hgd : A.guards = some []) :
    PSs (cxOf (L2.CX P w) P w K mg base N11 "is_carrying_of" (defScope s11) f cdv A outer s H E) (defBody s11) (tS g (fun c d _ H' => E c d H') (b11 R)) := by
  have tk : Takes (cxOf (L2.CX P w) P w K mg base N11 "is_carrying_of" (defScope s11) f cdv A outer s H E) (fun c d _ H' => E c d H') := takes_of rfl rfl rfl rfl
  have hp : PassesOwn (model P w) (cxOf (L2.CX P w) P w K mg base N11 "is_carrying_of" (defScope s11) f cdv A outer s H E).A (cxOf (L2.CX P w) P w K mg base N11 "is_carrying_of" (defScope s11) f cdv A outer s H E).env (cxOf (L2.CX P w) P w K mg base N11 "is_carrying_of" (defScope s11) f cdv A outer s H E).xe := passes_of rfl
  have nd : N11.Nodup := sc11.nd
  have hc : (cxOf (L2.CX P w) P w K mg base N11 "is_carrying_of" (defScope s11) f cdv A outer s H E).calm = true := rfl
  have uu : (A.deeper (PyProof.Rows.envOfC "is_carrying_of" (defScope s11) s.heap.objs.size f cdv)).units + 100 < cLine := by have := hr.un; omega
  have u1 : (A.deeper (PyProof.Rows.envOfC "is_carrying_of" (defScope s11) s.heap.objs.size f cdv)).units + 1 < cLine := by omega
  have u2 : (A.deeper (PyProof.Rows.envOfC "is_carrying_of" (defScope s11) s.heap.objs.size f cdv)).units + 2 < cLine := by omega
  have u64 : (A.deeper (PyProof.Rows.envOfC "is_carrying_of" (defScope s11) s.heap.objs.size f cdv)).units + 64 < cLine := by omega
  have u65 : (A.deeper (PyProof.Rows.envOfC "is_carrying_of" (defScope s11) s.heap.objs.size f cdv)).units + 65 < cLine := by omega
  have u70 : (A.deeper (PyProof.Rows.envOfC "is_carrying_of" (defScope s11) s.heap.objs.size f cdv)).units + 70 < cLine := by omega
  exact (dss_cons (ds_if (PW.pt (dw_or (dt_not (dt_tru (de_isi 5 (C.bn "isinstance" (by decide)) (C.bn "dict" (by decide)) (de_var 2)))) (dw_or (dt_cmp (od_ne u64) (de_callB cd_len (C.bn "len" (by decide)) (da_cons (de_var 2) da_nil)) (de_callB cd_len (C.bn "len" (by decide)) (da_cons (de_var 1) da_nil))) (dw_or1 (dt_not (dt_tru (de_callB (cd_all hc) (C.bn "all" (by decide)) (da_cons (de_lc false hc nd (di_any (de_var 1)) (blkOk_by (own := [("bag", 3)]) (by rfl)) (fun _ _ _ _ _ => (dg_name 3 nd)) (fun _ _ _ _ _ => dts_nil) (fun _ _ _ _ _ => (de_cmp (od_in u65) (de_var 3) (de_var 2)))) da_nil)))))))) (dss_one (ds_ret de_bl)) dss_nil) (dss_cons (ds_if (dt_not (dt_tru (de_call (C.fn 10 "are_lots_of" ["finds", "lots"] rfl) tk hr hgd (da_cons (de_var 0) (da_cons (de_lc false hc nd (di_any (de_var 1)) (blkOk_by (own := [("bag", 3)]) (by rfl)) (fun _ _ _ _ _ => (dg_name 3 nd)) (fun _ _ _ _ _ => dts_nil) (fun _ _ _ _ _ => (de_ix (xd_ix u1) (de_var 2) (de_var 3)))) da_nil))))) (dss_one (ds_ret de_bl)) dss_nil) (dss_one (ds_ret (de_callB (cd_all hc) (C.bn "all" (by decide)) (da_cons (de_lc false hc nd (di_any (de_var 1)) (blkOk_by (own := [("bag", 3)]) (by rfl)) (fun _ _ _ _ _ => (dg_name 3 nd)) (fun _ _ _ _ _ => dts_nil) (fun _ _ _ _ _ => (de_cmp od_le (de_call (C.fn 9 "weight_in" ["finds", "lot"] rfl) takes0 hr hgd (da_cons (de_var 0) (da_cons (de_ix (xd_ix u1) (de_var 2) (de_var 3)) da_nil))) (de_ix (xd_ix u1) (de_var 1) (de_var 3))))) da_nil))))))
/-! ### is_carrying -/
abbrev s12 : Stmt := top 23
abbrev N12 : List Str := ["finds", "bags", "value"]
theorem sc12 : FnScope N12 ["finds", "bags", "value"] (defScope s12) := ⟨rfl, rfl, rfl, by decide +kernel, rfl, by decide +kernel, by decide +kernel⟩
theorem d12 {P : Program} {w : World} {K : PySem.W.Frag} {mg : Str → Option Value} {base : Heap} {g : Glob} {k : Nat} {R : FR} (C : Cxt P w K mg base g k R) {f : Addr} (cdv : Value) (A : Around) (outer : List PySem.Env) (s : Shared) (H : Hp) (E : XK) (hr : Room k (A.deeper (PyProof.Rows.envOfC "is_carrying" (defScope s12) s.heap.objs.size f cdv))) (hgd : A.guards = some []) :
    PSs (cxOf (L2.CX P w) P w K mg base N12 "is_carrying" (defScope s12) f cdv A outer s H E) (defBody s12) (tS g (fun c d _ H' => E c d H') (b12 R)) := by
  have tk : Takes (cxOf (L2.CX P w) P w K mg base N12 "is_carrying" (defScope s12) f cdv A outer s H E) (fun c d _ H' => E c d H') := takes_of rfl rfl rfl rfl
  have hp : PassesOwn (model P w) (cxOf (L2.CX P w) P w K mg base N12 "is_carrying" (defScope s12) f cdv A outer s H E).A (cxOf (L2.CX P w) P w K mg base N12 "is_carrying" (defScope s12) f cdv A outer s H E).env (cxOf (L2.CX P w) P w K mg base N12 "is_carrying" (defScope s12) f cdv A outer s H E).xe := passes_of rfl
  have nd : N12.Nodup := sc12.nd
  have hc : (cxOf (L2.CX P w) P w K mg base N12 "is_carrying" (defScope s12) f cdv A outer s H E).calm = true := rfl
  have uu : (A.deeper (PyProof.Rows.envOfC "is_carrying" (defScope s12) s.heap.objs.size f cdv)).units + 100 < cLine := by have := hr.un; omega
  have u1 : (A.deeper (PyProof.Rows.envOfC "is_carrying" (defScope s12) s.heap.objs.size f cdv)).units + 1 < cLine := by omega
  have u2 : (A.deeper (PyProof.Rows.envOfC "is_carrying" (defScope s12) s.heap.objs.size f cdv)).units + 2 < cLine := by omega
  have u64 : (A.deeper (PyProof.Rows.envOfC "is_carrying" (defScope s12) s.heap.objs.size f cdv)).units + 64 < cLine := by omega
  have u65 : (A.deeper (PyProof.Rows.envOfC "is_carrying" (defScope s12) s.heap.objs.size f cdv)).units + 65 < cLine := by omega
  have u70 : (A.deeper (PyProof.Rows.envOfC "is_carrying" (defScope s12) s.heap.objs.size f cdv)).units + 70 < cLine := by omega
  exact (dss_cons (ds_expr (de_call (C.fn 8 "check_bags" ["finds", "bags"] rfl) tk hr hgd (da_cons (de_var 0) (da_cons (de_var 1) da_nil)))) (dss_one (ds_ret (de_call (C.fn 11 "is_carrying_of" ["finds", "bags", "value"] rfl) tk hr hgd (da_cons (de_var 0) (da_cons (de_var 1) (da_cons (de_var 2) da_nil)))))))
/-! ### worth_of_carrying -/
abbrev s13 : Stmt := top 24
abbrev N13 : List Str := ["finds", "carrying", "bag", "name"]
theorem sc13 : FnScope N13 ["finds", "carrying"] (defScope s13) := ⟨rfl, rfl, rfl, by decide +kernel, rfl, by decide +kernel, by decide +kernel⟩
theorem d13 {P : Program} {w : World} {K : PySem.W.Frag} {mg : Str → Option Value} {base : Heap} {g : Glob} {k : Nat} {R : FR} (C : Cxt P w K mg base g k R) {f : Addr} (cdv : Value) (A : Around) (outer : List PySem.Env) (s : Shared) (H : Hp) (E : XK) (hr : Room k (A.deeper (PyProof.Rows.envOfC "worth_of_carrying" (defScope s13) s.heap.objs.size f cdv))) (hgd : A.guards = some []) :
    PSs (cxOf (L2.CX P w) P w K mg base N13 "worth_of_carrying" (defScope s13) f cdv A outer s H E) (defBody s13) (tS g (fun c d _ H' => E c d H') (b13 R)) := by
  have tk : Takes (cxOf (L2.CX P w) P w K mg base N13 "worth_of_carrying" (defScope s13) f cdv A outer s H E) (fun c d _ H' => E c d H') := takes_of rfl rfl rfl rfl
  have hp : PassesOwn (model P w) (cxOf (L2.CX P w) P w K mg base N13 "worth_of_carrying" (defScope s13) f cdv A outer s H E).A (cxOf (L2.CX P w) P w K mg base N13 "worth_of_carrying" (defScope s13) f cdv A outer s H E).env (cxOf (L2.CX P w) P w K mg base N13 "worth_of_carrying" (defScope s13) f cdv A outer s H E).xe := passes_of rfl
  have nd : N13.Nodup := sc13.nd
  have hc : (cxOf (L2.CX P w) P w K mg base N13 "worth_of_carrying" (defScope s13) f cdv A outer s H E).calm = true := rfl
  have uu : (A.deeper (PyProof.Rows.envOfC "worth_of_carrying" (defScope s13) s.heap.objs.size f cdv)).units + 100 < cLine := by have := hr.un; omega
  have u1 : (A.deeper (PyProof.Rows.envOfC "worth_of_carrying" (defScope s13) s.heap.objs.size f cdv)).units + 1 < cLine := by omega
  have u2 : (A.deeper (PyProof.Rows.envOfC "worth_of_carrying" (defScope s13) s.heap.objs.size f cdv)).units + 2 < cLine := by omega
  have u64 : (A.deeper (PyProof.Rows.envOfC "worth_of_carrying" (defScope s13) s.heap.objs.size f cdv)).units + 64 < cLine := by omega
  have u65 : (A.deeper (PyProof.Rows.envOfC "worth_of_carrying" (defScope s13) s.heap.objs.size f cdv)).units + 65 < cLine := by omega
  have u70 : (A.deeper (PyProof.Rows.envOfC "worth_of_carrying" (defScope s13) s.heap.objs.size f cdv)).units + 70 < cLine := by omega
  exact (dss_one (ds_ret (de_callB (cd_sum hc) (C.bn "sum" (by decide)) (da_cons (de_lc2 false hc nd (di_any (de_var 1)) (blkOk_by (own := [("bag", 2), ("name", 3)]) (by rfl)) (fun _ _ _ _ _ => (dg_name 2 nd)) (fun _ _ _ _ _ => dts_nil) (fun _ _ _ _ _ => (di_any (de_ix (xd_ix u1) (de_var 1) (de_var 2)))) (fun _ _ _ _ _ => (dg_name 3 nd)) (fun _ _ _ _ _ => dts_nil) (fun _ _ _ _ _ => (de_ix (xd_ix u1) (de_ix (xd_ix u1) (de_var 0) (de_var 3)) de_int))) da_nil))))
/-! ### worth_carried -/
abbrev s14 : Stmt := top 25
abbrev N14 : List Str := ["finds", "bags", "carrying"]
theorem sc14 : FnScope N14 ["finds", "bags", "carrying"] (defScope s14) := ⟨rfl, rfl, rfl, by decide +kernel, rfl, by decide +kernel, by decide +kernel⟩
theorem d14 {P : Program} {w : World} {K : PySem.W.Frag} {mg : Str → Option Value} {base : Heap} {g : Glob} {k : Nat} {R : FR} (C : Cxt P w K mg base g k R) {f : Addr} (cdv : Value) (A : Around) (outer : List PySem.Env) (s : Shared) (H : Hp) (E : XK) (hr : Room k (A.deeper (PyProof.Rows.envOfC "worth_carried" (defScope s14) s.heap.objs.size f cdv))) (hgd : A.guards = some []) :
    PSs (cxOf (L2.CX P w) P w K mg base N14 "worth_carried" (defScope s14) f cdv A outer s H E) (defBody s14) (tS g (fun c d _ H' => E c d H') (b14 R)) := by
  have tk : Takes (cxOf (L2.CX P w) P w K mg base N14 "worth_carried" (defScope s14) f cdv A outer s H E) (fun c d _ H' => E c d H') := takes_of rfl rfl rfl rfl
  have hp : PassesOwn (model P w) (cxOf (L2.CX P w) P w K mg base N14 "worth_carried" (defScope s14) f cdv A outer s H E).A (cxOf (L2.CX P w) P w K mg base N14 "worth_carried" (defScope s14) f cdv A outer s H E).env (cxOf (L2.CX P w) P w K mg base N14 "worth_carried" (defScope s14) f cdv A outer s H E).xe := passes_of rfl
  have nd : N14.Nodup := sc14.nd
  have hc : (cxOf (L2.CX P w) P w K mg base N14 "worth_carried" (defScope s14) f cdv A outer s H E).calm = true := rfl
  have uu : (A.deeper (PyProof.Rows.envOfC "worth_carried" (defScope s14) s.heap.objs.size f cdv)).units + 100 < cLine := by have := hr.un; omega
  have u1 : (A.deeper (PyProof.Rows.envOfC "worth_carried" (defScope s14) s.heap.objs.size f cdv)).units + 1 < cLine := by omega
  have u2 : (A.deeper (PyProof.Rows.envOfC "worth_carried" (defScope s14) s.heap.objs.size f cdv)).units + 2 < cLine := by omega
  have u64 : (A.deeper (PyProof.Rows.envOfC "worth_carried" (defScope s14) s.heap.objs.size f cdv)).units + 64 < cLine := by omega
  have u65 : (A.deeper (PyProof.Rows.envOfC "worth_carried" (defScope s14) s.heap.objs.size f cdv)).units + 65 < cLine := by omega
  have u70 : (A.deeper (PyProof.Rows.envOfC "worth_carried" (defScope s14) s.heap.objs.size f cdv)).units + 70 < cLine := by omega
  exact (dss_cons (ds_expr (de_call (C.fn 8 "check_bags" ["finds", "bags"] rfl) tk hr hgd (da_cons (de_var 0) (da_cons (de_var 1) da_nil)))) (dss_cons (ds_if (dt_not (dt_tru (de_call (C.fn 11 "is_carrying_of" ["finds", "bags", "value"] rfl) tk hr hgd (da_cons (de_var 0) (da_cons (de_var 1) (da_cons (de_var 2) da_nil)))))) (dss_one (ds_raise 3 C.err (C.gC 3 "InvalidCarrying" rfl) hr tk hc (de_var 2))) dss_nil) (dss_one (ds_ret (de_call (C.fn 13 "worth_of_carrying" ["finds", "carrying"] rfl) tk hr hgd (da_cons (de_var 0) (da_cons (de_var 2) da_nil)))))))
/-! ### rooms_of -/
abbrev s15 : Stmt := top 26
abbrev N15 : List Str := ["bags", "bag"]
theorem sc15 : FnScope N15 ["bags"] (defScope s15) := ⟨rfl, rfl, rfl, by decide +kernel, rfl, by decide +kernel, by decide +kernel⟩
theorem d15 {P : Program} {w : World} {K : PySem.W.Frag} {mg : Str → Option Value} {base : Heap} {g : Glob} {k : Nat} {R : FR} (C : Cxt P w K mg base g k R) {f : Addr} (cdv : Value) (A : Around) (outer : List PySem.Env) (s : Shared) (H : Hp) (E : XK) (hr : Room k (A.deeper (PyProof.Rows.envOfC "rooms_of" (defScope s15) s.heap.objs.size f cdv))) (hgd : A.guards = some []) :
    PSs (cxOf (L2.CX P w) P w K mg base N15 "rooms_of" (defScope s15) f cdv A outer s H E) (defBody s15) (tS g (fun c d _ H' => E c d H') (b15 R)) := by
  have tk : Takes (cxOf (L2.CX P w) P w K mg base N15 "rooms_of" (defScope s15) f cdv A outer s H E) (fun c d _ H' => E c d H') := takes_of rfl rfl rfl rfl
  have hp : PassesOwn (model P w) (cxOf (L2.CX P w) P w K mg base N15 "rooms_of" (defScope s15) f cdv A outer s H E).A (cxOf (L2.CX P w) P w K mg base N15 "rooms_of" (defScope s15) f cdv A outer s H E).env (cxOf (L2.CX P w) P w K mg base N15 "rooms_of" (defScope s15) f cdv A outer s H E).xe := passes_of rfl
  have nd : N15.Nodup := sc15.nd
  have hc : (cxOf (L2.CX P w) P w K mg base N15 "rooms_of" (defScope s15) f cdv A outer s H E).calm = true := rfl
  have uu : (A.deeper (PyProof.Rows.envOfC "rooms_of" (defScope s15) s.heap.objs.size f cdv)).units + 100 < cLine := by have := hr.un; omega
  have u1 : (A.deeper (PyProof.Rows.envOfC "rooms_of" (defScope s15) s.heap.objs.size f cdv)).units + 1 < cLine := by omega
  have u2 : (A.deeper (PyProof.Rows.envOfC "rooms_of" (defScope s15) s.heap.objs.size f cdv)).units + 2 < cLine := by omega
  have u64 : (A.deeper (PyProof.Rows.envOfC "rooms_of" (defScope s15) s.heap.objs.size f cdv)).units + 64 < cLine := by omega
  have u65 : (A.deeper (PyProof.Rows.envOfC "rooms_of" (defScope s15) s.heap.objs.size f cdv)).units + 65 < cLine := by omega
  have u70 : (A.deeper (PyProof.Rows.envOfC "rooms_of" (defScope s15) s.heap.objs.size f cdv)).units + 70 < cLine := by omega
  exact (dss_one (ds_ret (de_callTy cd_tuple (C.bn "tuple" (by decide)) (da_cons (de_lc false hc nd (di_any (de_mkB false (md_sortedD hc u70) (C.bn "sorted" (by decide)) (da_cons (de_var 0) da_nil))) (blkOk_by (own := [("bag", 1)]) (by rfl)) (fun _ _ _ _ _ => (dg_name 1 nd)) (fun _ _ _ _ _ => dts_nil) (fun _ _ _ _ _ => (de_ix (xd_ix u1) (de_var 0) (de_var 1)))) da_nil))))
/-! ### put_in -/
abbrev s16 : Stmt := top 27
abbrev N16 : List Str := ["room", "at", "weight"]
theorem sc16 : FnScope N16 ["room", "at", "weight"] (defScope s16) := ⟨rfl, rfl, rfl, by decide +kernel, rfl, by decide +kernel, by decide +kernel⟩
theorem d16 {P : Program} {w : World} {K : PySem.W.Frag} {mg : Str → Option Value} {base : Heap} {g : Glob} {k : Nat} {R : FR} (C : Cxt P w K mg base g k R) {f : Addr} (cdv : Value) (A : Around) (outer : List PySem.Env) (s : Shared) (H : Hp) (E : XK) (hr : Room k (A.deeper (PyProof.Rows.envOfC "put_in" (defScope s16) s.heap.objs.size f cdv))) (hgd : A.guards = some []) :
    PSs (cxOf (L2.CX P w) P w K mg base N16 "put_in" (defScope s16) f cdv A outer s H E) (defBody s16) (tS g (fun c d _ H' => E c d H') (b16 R)) := by
  have tk : Takes (cxOf (L2.CX P w) P w K mg base N16 "put_in" (defScope s16) f cdv A outer s H E) (fun c d _ H' => E c d H') := takes_of rfl rfl rfl rfl
  have hp : PassesOwn (model P w) (cxOf (L2.CX P w) P w K mg base N16 "put_in" (defScope s16) f cdv A outer s H E).A (cxOf (L2.CX P w) P w K mg base N16 "put_in" (defScope s16) f cdv A outer s H E).env (cxOf (L2.CX P w) P w K mg base N16 "put_in" (defScope s16) f cdv A outer s H E).xe := passes_of rfl
  have nd : N16.Nodup := sc16.nd
  have hc : (cxOf (L2.CX P w) P w K mg base N16 "put_in" (defScope s16) f cdv A outer s H E).calm = true := rfl
  have uu : (A.deeper (PyProof.Rows.envOfC "put_in" (defScope s16) s.heap.objs.size f cdv)).units + 100 < cLine := by have := hr.un; omega
  have u1 : (A.deeper (PyProof.Rows.envOfC "put_in" (defScope s16) s.heap.objs.size f cdv)).units + 1 < cLine := by omega
  have u2 : (A.deeper (PyProof.Rows.envOfC "put_in" (defScope s16) s.heap.objs.size f cdv)).units + 2 < cLine := by omega
  have u64 : (A.deeper (PyProof.Rows.envOfC "put_in" (defScope s16) s.heap.objs.size f cdv)).units + 64 < cLine := by omega
  have u65 : (A.deeper (PyProof.Rows.envOfC "put_in" (defScope s16) s.heap.objs.size f cdv)).units + 65 < cLine := by omega
  have u70 : (A.deeper (PyProof.Rows.envOfC "put_in" (defScope s16) s.heap.objs.size f cdv)).units + 70 < cLine := by omega
  exact (dss_one (ds_ret (de_bin od_add (de_bin od_add (de_slice (de_var 0) do_none (do_some (de_var 1))) (de_tup (da_cons (de_bin od_sub (de_ix (xd_ix u1) (de_var 0) (de_var 1)) (de_var 2)) da_nil))) (de_slice (de_var 0) (do_some (de_bin od_add (de_var 1) de_int)) do_none))))
/-! ### rooms_behind -/
abbrev s17 : Stmt := top 28
abbrev N17 : List Str := ["room", "weight", "at"]
theorem sc17 : FnScope N17 ["room", "weight"] (defScope s17) := ⟨rfl, rfl, rfl, by decide +kernel, rfl, by decide +kernel, by decide +kernel⟩
theorem d17 {P : Program} {w : World} {K : PySem.W.Frag} {mg : Str → Option Value} {base : Heap} {g : Glob} {k : Nat} {R : FR} (C : Cxt P w K mg base g k R) {f : Addr} (cdv : Value) (A : Around) (outer : List PySem.Env) (s : Shared) (H : Hp) (E : XK) (hr : Room k (A.deeper (PyProof.Rows.envOfC "rooms_behind" (defScope s17) s.heap.objs.size f cdv))) (hgd : A.guards = some []) :
    PSs (cxOf (L2.CX P w) P w K mg base N17 "rooms_behind" (defScope s17) f cdv A outer s H E) (defBody s17) (tS g (fun c d _ H' => E c d H') (b17 R)) := by
  have tk : Takes (cxOf (L2.CX P w) P w K mg base N17 "rooms_behind" (defScope s17) f cdv A outer s H E) (fun c d _ H' => E c d H') := takes_of rfl rfl rfl rfl
  have hp : PassesOwn (model P w) (cxOf (L2.CX P w) P w K mg base N17 "rooms_behind" (defScope s17) f cdv A outer s H E).A (cxOf (L2.CX P w) P w K mg base N17 "rooms_behind" (defScope s17) f cdv A outer s H E).env (cxOf (L2.CX P w) P w K mg base N17 "rooms_behind" (defScope s17) f cdv A outer s H E).xe := passes_of rfl
  have nd : N17.Nodup := sc17.nd
  have hc : (cxOf (L2.CX P w) P w K mg base N17 "rooms_behind" (defScope s17) f cdv A outer s H E).calm = true := rfl
  have uu : (A.deeper (PyProof.Rows.envOfC "rooms_behind" (defScope s17) s.heap.objs.size f cdv)).units + 100 < cLine := by have := hr.un; omega
  have u1 : (A.deeper (PyProof.Rows.envOfC "rooms_behind" (defScope s17) s.heap.objs.size f cdv)).units + 1 < cLine := by omega
  have u2 : (A.deeper (PyProof.Rows.envOfC "rooms_behind" (defScope s17) s.heap.objs.size f cdv)).units + 2 < cLine := by omega
  have u64 : (A.deeper (PyProof.Rows.envOfC "rooms_behind" (defScope s17) s.heap.objs.size f cdv)).units + 64 < cLine := by omega
  have u65 : (A.deeper (PyProof.Rows.envOfC "rooms_behind" (defScope s17) s.heap.objs.size f cdv)).units + 65 < cLine := by omega
  have u70 : (A.deeper (PyProof.Rows.envOfC "rooms_behind" (defScope s17) s.heap.objs.size f cdv)).units + 70 < cLine := by omega
  exact (dss_one (ds_ret (de_lc false hc nd (di_range1 (C.bn "range" (by decide)) (da_cons (de_callB cd_len (C.bn "len" (by decide)) (da_cons (de_var 0) da_nil)) da_nil)) (blkOk_by (own := [("at", 2)]) (by rfl)) (fun _ _ _ _ _ => (dg_name 2 nd)) (fun _ _ _ _ _ => (dts_one (dt_cmp od_ge (de_ix (xd_ix u1) (de_var 0) (de_var 2)) (de_var 1)))) (fun _ _ _ _ _ => (de_tup (da_cons (de_var 2) (da_cons (de_call (C.fn 16 "put_in" ["room", "at", "weight"] rfl) takes0 hr hgd (da_cons (de_var 0) (da_cons (de_var 2) (da_cons (de_var 1) da_nil)))) da_nil)))))))
/-! ### ways_table -/
abbrev s18 : Stmt := top 29
abbrev N18 : List Str := ["finds", "bags", "table", "name", "later", "room", "at", "left"]
theorem sc18 : FnScope N18 ["finds", "bags"] (defScope s18) := ⟨rfl, rfl, rfl, by decide +kernel, rfl, by decide +kernel, by decide +kernel⟩
theorem d18 {P : Program} {w : World} {K : PySem.W.Frag} {mg : Str → Option Value} {base : Heap} {g : Glob} {k : Nat} {R : FR} (C : Cxt P w K mg base g k R) {f : Addr} (cdv : Value) (A : Around) (outer : List PySem.Env) (s : Shared) (H : Hp) (E : XK) (hr : Room k (A.deeper (PyProof.Rows.envOfC "ways_table" (defScope s18) s.heap.objs.size f cdv))) (hgd : A.guards = some []) :
    PSs (cxOf (L2.CX P w) P w K mg base N18 "ways_table" (defScope s18) f cdv A outer s H E) (defBody s18) (tS g (fun c d _ H' => E c d H') (b18 R)) := by
  have tk : Takes (cxOf (L2.CX P w) P w K mg base N18 "ways_table" (defScope s18) f cdv A outer s H E) (fun c d _ H' => E c d H') := takes_of rfl rfl rfl rfl
  have hp : PassesOwn (model P w) (cxOf (L2.CX P w) P w K mg base N18 "ways_table" (defScope s18) f cdv A outer s H E).A (cxOf (L2.CX P w) P w K mg base N18 "ways_table" (defScope s18) f cdv A outer s H E).env (cxOf (L2.CX P w) P w K mg base N18 "ways_table" (defScope s18) f cdv A outer s H E).xe := passes_of rfl
  have nd : N18.Nodup := sc18.nd
  have hc : (cxOf (L2.CX P w) P w K mg base N18 "ways_table" (defScope s18) f cdv A outer s H E).calm = true := rfl
  have uu : (A.deeper (PyProof.Rows.envOfC "ways_table" (defScope s18) s.heap.objs.size f cdv)).units + 100 < cLine := by have := hr.un; omega
  have u1 : (A.deeper (PyProof.Rows.envOfC "ways_table" (defScope s18) s.heap.objs.size f cdv)).units + 1 < cLine := by omega
  have u2 : (A.deeper (PyProof.Rows.envOfC "ways_table" (defScope s18) s.heap.objs.size f cdv)).units + 2 < cLine := by omega
  have u64 : (A.deeper (PyProof.Rows.envOfC "ways_table" (defScope s18) s.heap.objs.size f cdv)).units + 64 < cLine := by omega
  have u65 : (A.deeper (PyProof.Rows.envOfC "ways_table" (defScope s18) s.heap.objs.size f cdv)).units + 65 < cLine := by omega
  have u70 : (A.deeper (PyProof.Rows.envOfC "ways_table" (defScope s18) s.heap.objs.size f cdv)).units + 70 < cLine := by omega
  exact (dss_cons (ds_set 2 nd (de_frz (de_disp u2 (.cons (de_call (C.fn 15 "rooms_of" ["bags"] rfl) tk hr hgd (da_cons (de_var 1) da_nil)) de_int .nil)))) (dss_cons (ds_for hp hc (di_any (de_mkB false (md_sortedD hc u70) (C.bn "sorted" (by decide)) (da_cons (de_var 0) da_nil))) (dg_name 3 nd) (dss_cons (ds_set 4 nd de_dnew) (dss_cons (ds_for hp hc (di_any (de_var 2)) (dg_name 5 nd) (dss_one (ds_for hp hc (di_any (de_call (C.fn 17 "rooms_behind" ["room", "weight"] rfl) tk hr hgd (da_cons (de_var 5) (da_cons (de_ix (xd_ix u1) (de_ix (xd_ix u1) (de_var 0) (de_var 3)) de_int) da_nil)))) (dg_tup (by rfl) (dgs_cons (dg_name 6 nd) (dgs_cons (dg_name 7 nd) dgs_nil))) (dss_one (ds_put u1 (de_var 4) (de_var 7) (de_bin od_add (de_get3 u1 (de_var 4) (de_var 7) de_int) (de_ix (xd_ix u1) (de_var 2) (de_var 5)))))))) (dss_one (ds_set 2 nd (de_frz (de_var 4))))))) (dss_one (ds_ret (de_var 2)))))
/-! ### how_many_carryings -/
abbrev s19 : Stmt := top 30
abbrev N19 : List Str := ["finds", "bags", "table", "room"]
theorem sc19 : FnScope N19 ["finds", "bags"] (defScope s19) := ⟨rfl, rfl, rfl, by decide +kernel, rfl, by decide +kernel, by decide +kernel⟩
theorem d19 {P : Program} {w : World} {K : PySem.W.Frag} {mg : Str → Option Value} {base : Heap} {g : Glob} {k : Nat} {R : FR} (C : Cxt P w K mg base g k R) {f : Addr} (cdv : Value) (A : Around) (outer : List PySem.Env) (s : Shared) (H : Hp) (E : XK) (hr : Room k (A.deeper (PyProof.Rows.envOfC "how_many_carryings" (defScope s19) s.heap.objs.size f cdv))) (hgd : A.guards = some []) :
    PSs (cxOf (L2.CX P w) P w K mg base N19 "how_many_carryings" (defScope s19) f cdv A outer s H E) (defBody s19) (tS g (fun c d _ H' => E c d H') (b19 R)) := by
  have tk : Takes (cxOf (L2.CX P w) P w K mg base N19 "how_many_carryings" (defScope s19) f cdv A outer s H E) (fun c d _ H' => E c d H') := takes_of rfl rfl rfl rfl
  have hp : PassesOwn (model P w) (cxOf (L2.CX P w) P w K mg base N19 "how_many_carryings" (defScope s19) f cdv A outer s H E).A (cxOf (L2.CX P w) P w K mg base N19 "how_many_carryings" (defScope s19) f cdv A outer s H E).env (cxOf (L2.CX P w) P w K mg base N19 "how_many_carryings" (defScope s19) f cdv A outer s H E).xe := passes_of rfl
  have nd : N19.Nodup := sc19.nd
  have hc : (cxOf (L2.CX P w) P w K mg base N19 "how_many_carryings" (defScope s19) f cdv A outer s H E).calm = true := rfl
  have uu : (A.deeper (PyProof.Rows.envOfC "how_many_carryings" (defScope s19) s.heap.objs.size f cdv)).units + 100 < cLine := by have := hr.un; omega
  have u1 : (A.deeper (PyProof.Rows.envOfC "how_many_carryings" (defScope s19) s.heap.objs.size f cdv)).units + 1 < cLine := by omega
  have u2 : (A.deeper (PyProof.Rows.envOfC "how_many_carryings" (defScope s19) s.heap.objs.size f cdv)).units + 2 < cLine := by omega
  have u64 : (A.deeper (PyProof.Rows.envOfC "how_many_carryings" (defScope s19) s.heap.objs.size f cdv)).units + 64 < cLine := by omega
  have u65 : (A.deeper (PyProof.Rows.envOfC "how_many_carryings" (defScope s19) s.heap.objs.size f cdv)).units + 65 < cLine := by omega
  have u70 : (A.deeper (PyProof.Rows.envOfC "how_many_carryings" (defScope s19) s.heap.objs.size f cdv)).units + 70 < cLine := by omega
  exact (dss_cons (ds_expr (de_call (C.fn 8 "check_bags" ["finds", "bags"] rfl) tk hr hgd (da_cons (de_var 0) (da_cons (de_var 1) da_nil)))) (dss_cons (ds_set 2 nd (de_call (C.fn 18 "ways_table" ["finds", "bags"] rfl) tk hr hgd (da_cons (de_var 0) (da_cons (de_var 1) da_nil)))) (dss_one (ds_ret (de_callB (cd_sum hc) (C.bn "sum" (by decide)) (da_cons (de_lc false hc nd (di_any (de_var 2)) (blkOk_by (own := [("room", 3)]) (by rfl)) (fun _ _ _ _ _ => (dg_name 3 nd)) (fun _ _ _ _ _ => dts_nil) (fun _ _ _ _ _ => (de_ix (xd_ix u1) (de_var 2) (de_var 3)))) da_nil))))))
/-! ### worth_tables -/
abbrev s20 : Stmt := top 31
abbrev N20 : List Str := ["finds", "rooms", "names", "tables", "name", "weight", "worth", "later", "room", "at", "left"]
theorem sc20 : FnScope N20 ["finds", "rooms", "names"] (defScope s20) := ⟨rfl, rfl, rfl, by decide +kernel, rfl, by decide +kernel, by decide +kernel⟩
theorem d20 {P : Program} {w : World} {K : PySem.W.Frag} {mg : Str → Option Value} {base : Heap} {g : Glob} {k : Nat} {R : FR} (C : Cxt P w K mg base g k R) {f : Addr} (cdv : Value) (A : Around) (outer : List PySem.Env) (s : Shared) (H : Hp) (E : XK) (hr : Room k (A.deeper (PyProof.Rows.envOfC "worth_tables" (defScope s20) s.heap.objs.size f cdv))) (hgd : A.guards = some []) :
    PSs (cxOf (L2.CX P w) P w K mg base N20 "worth_tables" (defScope s20) f cdv A outer s H E) (defBody s20) (tS g (fun c d _ H' => E c d H') (b20 R)) := by
  have tk : Takes (cxOf (L2.CX P w) P w K mg base N20 "worth_tables" (defScope s20) f cdv A outer s H E) (fun c d _ H' => E c d H') := takes_of rfl rfl rfl rfl
  have hp : PassesOwn (model P w) (cxOf (L2.CX P w) P w K mg base N20 "worth_tables" (defScope s20) f cdv A outer s H E).A (cxOf (L2.CX P w) P w K mg base N20 "worth_tables" (defScope s20) f cdv A outer s H E).env (cxOf (L2.CX P w) P w K mg base N20 "worth_tables" (defScope s20) f cdv A outer s H E).xe := passes_of rfl
  have nd : N20.Nodup := sc20.nd
  have hc : (cxOf (L2.CX P w) P w K mg base N20 "worth_tables" (defScope s20) f cdv A outer s H E).calm = true := rfl
  have uu : (A.deeper (PyProof.Rows.envOfC "worth_tables" (defScope s20) s.heap.objs.size f cdv)).units + 100 < cLine := by have := hr.un; omega
  have u1 : (A.deeper (PyProof.Rows.envOfC "worth_tables" (defScope s20) s.heap.objs.size f cdv)).units + 1 < cLine := by omega
  have u2 : (A.deeper (PyProof.Rows.envOfC "worth_tables" (defScope s20) s.heap.objs.size f cdv)).units + 2 < cLine := by omega
  have u64 : (A.deeper (PyProof.Rows.envOfC "worth_tables" (defScope s20) s.heap.objs.size f cdv)).units + 64 < cLine := by omega
  have u65 : (A.deeper (PyProof.Rows.envOfC "worth_tables" (defScope s20) s.heap.objs.size f cdv)).units + 65 < cLine := by omega
  have u70 : (A.deeper (PyProof.Rows.envOfC "worth_tables" (defScope s20) s.heap.objs.size f cdv)).units + 70 < cLine := by omega
  exact (dss_cons (ds_set 3 nd (de_lst true (da_cons (de_frz (de_disp u2 (.cons (de_var 1) de_int .nil))) da_nil))) (dss_cons (ds_for hp hc (di_any (de_var 2)) (dg_name 4 nd) (dss_cons (ds_asg (de_ix (xd_ix u1) (de_var 0) (de_var 4)) (dg_tup (by rfl) (dgs_cons (dg_name 5 nd) (dgs_cons (dg_name 6 nd) dgs_nil)))) (dss_cons (ds_set 7 nd de_dead) (dss_cons (ds_for hp hc (di_any (de_ix (xd_ix u1) (de_var 3) (de_un ud_neg de_int))) (dg_name 8 nd) (dss_one (ds_for hp hc (di_any (de_call (C.fn 17 "rooms_behind" ["room", "weight"] rfl) tk hr hgd (da_cons (de_var 8) (da_cons (de_var 5) da_nil)))) (dg_tup (by rfl) (dgs_cons (dg_name 9 nd) (dgs_cons (dg_name 10 nd) dgs_nil))) (dss_one (ds_put u1 (de_var 7) (de_var 10) (de_callB (cd_max2 hc) (C.bn "max" (by decide)) (da_cons (de_get3 u1 (de_var 7) (de_var 10) de_int) (da_cons (de_bin od_add (de_ix (xd_ix u1) (de_ix (xd_ix u1) (de_var 3) (de_un ud_neg de_int)) (de_var 8)) (de_var 6)) da_nil)))))))) (dss_one (ds_expr (de_meth PySem.F.slot_list_append PySem.F.type_list_append mt_append me_app (de_var 3) (da_cons (de_frz (de_var 7)) da_nil)))))))) (dss_one (ds_ret (de_frz (de_var 3))))))
/-! ### most_with -/
abbrev s21 : Stmt := top 32
abbrev N21 : List Str := ["finds", "rooms", "names", "last", "room"]
theorem sc21 : FnScope N21 ["finds", "rooms", "names"] (defScope s21) := ⟨rfl, rfl, rfl, by decide +kernel, rfl, by decide +kernel, by decide +kernel⟩
theorem d21 {P : Program} {w : World} {K : PySem.W.Frag} {mg : Str → Option Value} {base : Heap} {g : Glob} {k : Nat} {R : FR} (C : Cxt P w K mg base g k R) {f : Addr} (cdv : Value) (A : Around) (outer : List PySem.Env) (s : Shared) (H : Hp) (E : XK) (hr : Room k (A.deeper (PyProof.Rows.envOfC "most_with" (defScope s21) s.heap.objs.size f cdv))) (hgd : A.guards = some []) :
    PSs (cxOf (L2.CX P w) P w K mg base N21 "most_with" (defScope s21) f cdv A outer s H E) (defBody s21) (tS g (fun c d _ H' => E c d H') (b21 R)) := by
  have tk : Takes (cxOf (L2.CX P w) P w K mg base N21 "most_with" (defScope s21) f cdv A outer s H E) (fun c d _ H' => E c d H') := takes_of rfl rfl rfl rfl
  have hp : PassesOwn (model P w) (cxOf (L2.CX P w) P w K mg base N21 "most_with" (defScope s21) f cdv A outer s H E).A (cxOf (L2.CX P w) P w K mg base N21 "most_with" (defScope s21) f cdv A outer s H E).env (cxOf (L2.CX P w) P w K mg base N21 "most_with" (defScope s21) f cdv A outer s H E).xe := passes_of rfl
  have nd : N21.Nodup := sc21.nd
  have hc : (cxOf (L2.CX P w) P w K mg base N21 "most_with" (defScope s21) f cdv A outer s H E).calm = true := rfl
  have uu : (A.deeper (PyProof.Rows.envOfC "most_with" (defScope s21) s.heap.objs.size f cdv)).units + 100 < cLine := by have := hr.un; omega
  have u1 : (A.deeper (PyProof.Rows.envOfC "most_with" (defScope s21) s.heap.objs.size f cdv)).units + 1 < cLine := by omega
  have u2 : (A.deeper (PyProof.Rows.envOfC "most_with" (defScope s21) s.heap.objs.size f cdv)).units + 2 < cLine := by omega
  have u64 : (A.deeper (PyProof.Rows.envOfC "most_with" (defScope s21) s.heap.objs.size f cdv)).units + 64 < cLine := by omega
  have u65 : (A.deeper (PyProof.Rows.envOfC "most_with" (defScope s21) s.heap.objs.size f cdv)).units + 65 < cLine := by omega
  have u70 : (A.deeper (PyProof.Rows.envOfC "most_with" (defScope s21) s.heap.objs.size f cdv)).units + 70 < cLine := by omega
  exact (dss_cons (ds_set 3 nd (de_ix (xd_ix u1) (de_call (C.fn 20 "worth_tables" ["finds", "rooms", "names"] rfl) tk hr hgd (da_cons (de_var 0) (da_cons (de_var 1) (da_cons (de_var 2) da_nil)))) (de_un ud_neg de_int))) (dss_one (ds_ret (de_callB (cd_maxL hc) (C.bn "max" (by decide)) (da_cons (de_lc false hc nd (di_any (de_var 3)) (blkOk_by (own := [("room", 4)]) (by rfl)) (fun _ _ _ _ _ => (dg_name 4 nd)) (fun _ _ _ _ _ => dts_nil) (fun _ _ _ _ _ => (de_ix (xd_ix u1) (de_var 3) (de_var 4)))) da_nil)))))
/-! ### most_worth -/
abbrev s22 : Stmt := top 33
abbrev N22 : List Str := ["finds", "bags"]
theorem sc22 : FnScope N22 ["finds", "bags"] (defScope s22) := ⟨rfl, rfl, rfl, by decide +kernel, rfl, by decide +kernel, by decide +kernel⟩
theorem d22 {P : Program} {w : World} {K : PySem.W.Frag} {mg : Str → Option Value} {base : Heap} {g : Glob} {k : Nat} {R : FR} (C : Cxt P w K mg base g k R) {f : Addr} (cdv : Value) (A : Around) (outer : List PySem.Env) (s : Shared) (H : Hp) (E : XK) (hr : Room k (A.deeper (PyProof.Rows.envOfC "most_worth" (defScope s22) s.heap.objs.size f cdv))) (hgd : A.guards = some []) :
    PSs (cxOf (L2.CX P w) P w K mg base N22 "most_worth" (defScope s22) f cdv A outer s H E) (defBody s22) (tS g (fun c d _ H' => E c d H') (b22 R)) := by
  have tk : Takes (cxOf (L2.CX P w) P w K mg base N22 "most_worth" (defScope s22) f cdv A outer s H E) (fun c d _ H' => E c d H') := takes_of rfl rfl rfl rfl
  have hp : PassesOwn (model P w) (cxOf (L2.CX P w) P w K mg base N22 "most_worth" (defScope s22) f cdv A outer s H E).A (cxOf (L2.CX P w) P w K mg base N22 "most_worth" (defScope s22) f cdv A outer s H E).env (cxOf (L2.CX P w) P w K mg base N22 "most_worth" (defScope s22) f cdv A outer s H E).xe := passes_of rfl
  have nd : N22.Nodup := sc22.nd
  have hc : (cxOf (L2.CX P w) P w K mg base N22 "most_worth" (defScope s22) f cdv A outer s H E).calm = true := rfl
  have uu : (A.deeper (PyProof.Rows.envOfC "most_worth" (defScope s22) s.heap.objs.size f cdv)).units + 100 < cLine := by have := hr.un; omega
  have u1 : (A.deeper (PyProof.Rows.envOfC "most_worth" (defScope s22) s.heap.objs.size f cdv)).units + 1 < cLine := by omega
  have u2 : (A.deeper (PyProof.Rows.envOfC "most_worth" (defScope s22) s.heap.objs.size f cdv)).units + 2 < cLine := by omega
  have u64 : (A.deeper (PyProof.Rows.envOfC "most_worth" (defScope s22) s.heap.objs.size f cdv)).units + 64 < cLine := by omega
  have u65 : (A.deeper (PyProof.Rows.envOfC "most_worth" (defScope s22) s.heap.objs.size f cdv)).units + 65 < cLine := by omega
  have u70 : (A.deeper (PyProof.Rows.envOfC "most_worth" (defScope s22) s.heap.objs.size f cdv)).units + 70 < cLine := by omega
  exact (dss_cons (ds_expr (de_call (C.fn 8 "check_bags" ["finds", "bags"] rfl) tk hr hgd (da_cons (de_var 0) (da_cons (de_var 1) da_nil)))) (dss_one (ds_ret (de_call (C.fn 21 "most_with" ["finds", "rooms", "names"] rfl) tk hr hgd (da_cons (de_var 0) (da_cons (de_call (C.fn 15 "rooms_of" ["bags"] rfl) tk hr hgd (da_cons (de_var 1) da_nil)) (da_cons (de_mkB false (md_sortedD hc u70) (C.bn "sorted" (by decide)) (da_cons (de_var 0) da_nil)) da_nil)))))))
/-! ### carried_by -/
abbrev s23 : Stmt := top 34
abbrev N23 : List Str := ["finds", "bags", "told", "names", "found", "name", "bag"]
theorem sc23 : FnScope N23 ["finds", "bags", "told"] (defScope s23) := ⟨rfl, rfl, rfl, by decide +kernel, rfl, by decide +kernel, by decide +kernel⟩
theorem d23 {P : Program} {w : World} {K : PySem.W.Frag} {mg : Str → Option Value} {base : Heap} {g : Glob} {k : Nat} {R : FR} (C : Cxt P w K mg base g k R) {f : Addr} (cdv : Value) (A : Around) (outer : List PySem.Env) (s : Shared) (H : Hp) (E : XK) (hr : Room k (A.deeper (PyProof.Rows.envOfC "carried_by" (defScope s23) s.heap.objs.size f cdv))) (hgd : A.guards = some []) :
    PSs (cxOf (L2.CX P w) P w K mg base N23 "carried_by" (defScope s23) f cdv A outer s H E) (defBody s23) (tS g (fun c d _ H' => E c d H') (b23 R)) := by
  have tk : Takes (cxOf (L2.CX P w) P w K mg base N23 "carried_by" (defScope s23) f cdv A outer s H E) (fun c d _ H' => E c d H') := takes_of rfl rfl rfl rfl
  have hp : PassesOwn (model P w) (cxOf (L2.CX P w) P w K mg base N23 "carried_by" (defScope s23) f cdv A outer s H E).A (cxOf (L2.CX P w) P w K mg base N23 "carried_by" (defScope s23) f cdv A outer s H E).env (cxOf (L2.CX P w) P w K mg base N23 "carried_by" (defScope s23) f cdv A outer s H E).xe := passes_of rfl
  have nd : N23.Nodup := sc23.nd
  have hc : (cxOf (L2.CX P w) P w K mg base N23 "carried_by" (defScope s23) f cdv A outer s H E).calm = true := rfl
  have uu : (A.deeper (PyProof.Rows.envOfC "carried_by" (defScope s23) s.heap.objs.size f cdv)).units + 100 < cLine := by have := hr.un; omega
  have u1 : (A.deeper (PyProof.Rows.envOfC "carried_by" (defScope s23) s.heap.objs.size f cdv)).units + 1 < cLine := by omega
  have u2 : (A.deeper (PyProof.Rows.envOfC "carried_by" (defScope s23) s.heap.objs.size f cdv)).units + 2 < cLine := by omega
  have u64 : (A.deeper (PyProof.Rows.envOfC "carried_by" (defScope s23) s.heap.objs.size f cdv)).units + 64 < cLine := by omega
  have u65 : (A.deeper (PyProof.Rows.envOfC "carried_by" (defScope s23) s.heap.objs.size f cdv)).units + 65 < cLine := by omega
  have u70 : (A.deeper (PyProof.Rows.envOfC "carried_by" (defScope s23) s.heap.objs.size f cdv)).units + 70 < cLine := by omega
  exact (dss_cons (ds_set 3 nd (de_mkB false (md_sortedD hc u70) (C.bn "sorted" (by decide)) (da_cons (de_var 1) da_nil))) (dss_cons ds_deadS (dss_cons (ds_for hp hc (di_any (de_mkB false (md_sortedD hc u70) (C.bn "sorted" (by decide)) (da_cons (de_var 2) da_nil))) (dg_name 5 nd) (dss_one (ds_expr (de_meth PySem.F.slot_list_append PySem.F.type_list_append mt_append me_app (de_ix (xd_ix u1) (de_var 4) (de_ix (xd_ix u1) (de_var 3) (de_ix (xd_ix u1) (de_var 2) (de_var 5)))) (da_cons (de_var 5) da_nil))))) (dss_one (ds_ret (de_var 4))))))
/-! ### full_rows -/
abbrev s24 : Stmt := top 35
abbrev N24 : List Str := ["finds", "bags", "table", "name", "later", "room", "at", "left"]
theorem sc24 : FnScope N24 ["finds", "bags"] (defScope s24) := ⟨rfl, rfl, rfl, by decide +kernel, rfl, by decide +kernel, by decide +kernel⟩
theorem d24 {P : Program} {w : World} {K : PySem.W.Frag} {mg : Str → Option Value} {base : Heap} {g : Glob} {k : Nat} {R : FR} (C : Cxt P w K mg base g k R) {f : Addr} (cdv : Value) (A : Around) (outer : List PySem.Env) (s : Shared) (H : Hp) (E : XK) (hr : Room k (A.deeper (PyProof.Rows.envOfC "full_rows" (defScope s24) s.heap.objs.size f cdv))) (hgd : A.guards = some []) :
    PSs (cxOf (L2.CX P w) P w K mg base N24 "full_rows" (defScope s24) f cdv A outer s H E) (defBody s24) (tS g (fun c d _ H' => E c d H') (b24 R)) := by
  have tk : Takes (cxOf (L2.CX P w) P w K mg base N24 "full_rows" (defScope s24) f cdv A outer s H E) (fun c d _ H' => E c d H') := takes_of rfl rfl rfl rfl
  have hp : PassesOwn (model P w) (cxOf (L2.CX P w) P w K mg base N24 "full_rows" (defScope s24) f cdv A outer s H E).A (cxOf (L2.CX P w) P w K mg base N24 "full_rows" (defScope s24) f cdv A outer s H E).env (cxOf (L2.CX P w) P w K mg base N24 "full_rows" (defScope s24) f cdv A outer s H E).xe := passes_of rfl
  have nd : N24.Nodup := sc24.nd
  have hc : (cxOf (L2.CX P w) P w K mg base N24 "full_rows" (defScope s24) f cdv A outer s H E).calm = true := rfl
  have uu : (A.deeper (PyProof.Rows.envOfC "full_rows" (defScope s24) s.heap.objs.size f cdv)).units + 100 < cLine := by have := hr.un; omega
  have u1 : (A.deeper (PyProof.Rows.envOfC "full_rows" (defScope s24) s.heap.objs.size f cdv)).units + 1 < cLine := by omega
  have u2 : (A.deeper (PyProof.Rows.envOfC "full_rows" (defScope s24) s.heap.objs.size f cdv)).units + 2 < cLine := by omega
  have u64 : (A.deeper (PyProof.Rows.envOfC "full_rows" (defScope s24) s.heap.objs.size f cdv)).units + 64 < cLine := by omega
  have u65 : (A.deeper (PyProof.Rows.envOfC "full_rows" (defScope s24) s.heap.objs.size f cdv)).units + 65 < cLine := by omega
  have u70 : (A.deeper (PyProof.Rows.envOfC "full_rows" (defScope s24) s.heap.objs.size f cdv)).units + 70 < cLine := by omega
  exact (dss_cons (ds_set 2 nd (de_frz (de_disp u2 (.cons (de_call (C.fn 15 "rooms_of" ["bags"] rfl) tk hr hgd (da_cons (de_var 1) da_nil)) (de_frz de_dnew) .nil)))) (dss_cons (ds_for hp hc (di_any (de_mkB false (md_sortedD hc u70) (C.bn "sorted" (by decide)) (da_cons (de_var 0) da_nil))) (dg_name 3 nd) (dss_cons (ds_set 4 nd de_dnew) (dss_cons (ds_for hp hc (di_any (de_var 2)) (dg_name 5 nd) (dss_one (ds_for hp hc (di_any (de_call (C.fn 17 "rooms_behind" ["room", "weight"] rfl) tk hr hgd (da_cons (de_var 5) (da_cons (de_ix (xd_ix u1) (de_ix (xd_ix u1) (de_var 0) (de_var 3)) de_int) da_nil)))) (dg_tup (by rfl) (dgs_cons (dg_name 6 nd) (dgs_cons (dg_name 7 nd) dgs_nil))) (dss_one (ds_put u1 (de_var 4) (de_var 7) (de_frz de_dead)))))) (dss_one (ds_set 2 nd (de_frz (de_var 4))))))) (dss_one (ds_ret (de_var 2)))))
/-! ### all_carried -/
abbrev s25 : Stmt := top 36
abbrev N25 : List Str := ["finds", "bags", "rows"]
theorem sc25 : FnScope N25 ["finds", "bags"] (defScope s25) := ⟨rfl, rfl, rfl, by decide +kernel, rfl, by decide +kernel, by decide +kernel⟩
theorem d25 {P : Program} {w : World} {K : PySem.W.Frag} {mg : Str → Option Value} {base : Heap} {g : Glob} {k : Nat} {R : FR} (C : Cxt P w K mg base g k R) {f : Addr} (cdv : Value) (A : Around) (outer : List PySem.Env) (s : Shared) (H : Hp) (E : XK) (hr : Room k (A.deeper (PyProof.Rows.envOfC "all_carried" (defScope s25) s.heap.objs.size f cdv))) (hgd : A.guards = some []) :
    PSs (cxOf (L2.CX P w) P w K mg base N25 "all_carried" (defScope s25) f cdv A outer s H E) (defBody s25) (tS g (fun c d _ H' => E c d H') (b25 R)) := by
  have tk : Takes (cxOf (L2.CX P w) P w K mg base N25 "all_carried" (defScope s25) f cdv A outer s H E) (fun c d _ H' => E c d H') := takes_of rfl rfl rfl rfl
  have hp : PassesOwn (model P w) (cxOf (L2.CX P w) P w K mg base N25 "all_carried" (defScope s25) f cdv A outer s H E).A (cxOf (L2.CX P w) P w K mg base N25 "all_carried" (defScope s25) f cdv A outer s H E).env (cxOf (L2.CX P w) P w K mg base N25 "all_carried" (defScope s25) f cdv A outer s H E).xe := passes_of rfl
  have nd : N25.Nodup := sc25.nd
  have hc : (cxOf (L2.CX P w) P w K mg base N25 "all_carried" (defScope s25) f cdv A outer s H E).calm = true := rfl
  have uu : (A.deeper (PyProof.Rows.envOfC "all_carried" (defScope s25) s.heap.objs.size f cdv)).units + 100 < cLine := by have := hr.un; omega
  have u1 : (A.deeper (PyProof.Rows.envOfC "all_carried" (defScope s25) s.heap.objs.size f cdv)).units + 1 < cLine := by omega
  have u2 : (A.deeper (PyProof.Rows.envOfC "all_carried" (defScope s25) s.heap.objs.size f cdv)).units + 2 < cLine := by omega
  have u64 : (A.deeper (PyProof.Rows.envOfC "all_carried" (defScope s25) s.heap.objs.size f cdv)).units + 64 < cLine := by omega
  have u65 : (A.deeper (PyProof.Rows.envOfC "all_carried" (defScope s25) s.heap.objs.size f cdv)).units + 65 < cLine := by omega
  have u70 : (A.deeper (PyProof.Rows.envOfC "all_carried" (defScope s25) s.heap.objs.size f cdv)).units + 70 < cLine := by omega
  exact (dss_cons (ds_expr (de_call (C.fn 8 "check_bags" ["finds", "bags"] rfl) tk hr hgd (da_cons (de_var 0) (da_cons (de_var 1) da_nil)))) (dss_cons (ds_set 2 nd (de_call (C.fn 24 "full_rows" ["finds", "bags"] rfl) tk hr hgd (da_cons (de_var 0) (da_cons (de_var 1) da_nil)))) (dss_one (ds_ret (de_ifE (dt_cmp od_gt (de_callB cd_len (C.bn "len" (by decide)) (da_cons (de_var 2) da_nil)) de_int) (de_call (C.fn 23 "carried_by" ["finds", "bags", "told"] rfl) tk hr hgd (da_cons (de_var 0) (da_cons (de_var 1) (da_cons (de_ix (xd_ix u1) (de_var 2) (de_callB (cd_minD hc u70) (C.bn "min" (by decide)) (da_cons (de_var 2) da_nil))) da_nil)))) de_non)))))
/-! ### best_row -/
abbrev s26 : Stmt := top 37
abbrev N26 : List Str := ["finds", "bags", "names", "tables", "told", "room", "step", "weight", "worth", "before", "due", "fits", "at", "elder"]
theorem sc26 : FnScope N26 ["finds", "bags"] (defScope s26) := ⟨rfl, rfl, rfl, by decide +kernel, rfl, by decide +kernel, by decide +kernel⟩
theorem d26 {P : Program} {w : World} {K : PySem.W.Frag} {mg : Str → Option Value} {base : Heap} {g : Glob} {k : Nat} {R : FR} (C : Cxt P w K mg base g k R) {f : Addr} (cdv : Value) (A : Around) (outer : List PySem.Env) (s : Shared) (H : Hp) (E : XK) (hr : Room k (A.deeper (PyProof.Rows.envOfC "best_row" (defScope s26) s.heap.objs.size f cdv))) (hgd : A.guards = some []) :
    PSs (cxOf (L2.CX P w) P w K mg base N26 "best_row" (defScope s26) f cdv A outer s H E) (defBody s26) (tS g (fun c d _ H' => E c d H') (b26 R)) := by
  have tk : Takes (cxOf (L2.CX P w) P w K mg base N26 "best_row" (defScope s26) f cdv A outer s H E) (fun c d _ H' => E c d H') := takes_of rfl rfl rfl rfl
  have hp : PassesOwn (model P w) (cxOf (L2.CX P w) P w K mg base N26 "best_row" (defScope s26) f cdv A outer s H E).A (cxOf (L2.CX P w) P w K mg base N26 "best_row" (defScope s26) f cdv A outer s H E).env (cxOf (L2.CX P w) P w K mg base N26 "best_row" (defScope s26) f cdv A outer s H E).xe := passes_of rfl
  have nd : N26.Nodup := sc26.nd
  have hc : (cxOf (L2.CX P w) P w K mg base N26 "best_row" (defScope s26) f cdv A outer s H E).calm = true := rfl
  have uu : (A.deeper (PyProof.Rows.envOfC "best_row" (defScope s26) s.heap.objs.size f cdv)).units + 100 < cLine := by have := hr.un; omega
  have u1 : (A.deeper (PyProof.Rows.envOfC "best_row" (defScope s26) s.heap.objs.size f cdv)).units + 1 < cLine := by omega
  have u2 : (A.deeper (PyProof.Rows.envOfC "best_row" (defScope s26) s.heap.objs.size f cdv)).units + 2 < cLine := by omega
  have u64 : (A.deeper (PyProof.Rows.envOfC "best_row" (defScope s26) s.heap.objs.size f cdv)).units + 64 < cLine := by omega
  have u65 : (A.deeper (PyProof.Rows.envOfC "best_row" (defScope s26) s.heap.objs.size f cdv)).units + 65 < cLine := by omega
  have u70 : (A.deeper (PyProof.Rows.envOfC "best_row" (defScope s26) s.heap.objs.size f cdv)).units + 70 < cLine := by omega
  exact (dss_cons (ds_set 2 nd (de_mkB false (md_sortedD hc u70) (C.bn "sorted" (by decide)) (da_cons (de_var 0) da_nil))) (dss_cons ds_deadS (dss_cons (ds_set 5 nd de_dead) (dss_cons ds_deadS (dss_one (ds_ret (de_var 4)))))))
/-! ### best_carrying -/
abbrev s27 : Stmt := top 38
abbrev N27 : List Str := ["finds", "bags"]
theorem sc27 : FnScope N27 ["finds", "bags"] (defScope s27) := ⟨rfl, rfl, rfl, by decide +kernel, rfl, by decide +kernel, by decide +kernel⟩
theorem d27 {P : Program} {w : World} {K : PySem.W.Frag} {mg : Str → Option Value} {base : Heap} {g : Glob} {k : Nat} {R : FR} (C : Cxt P w K mg base g k R) {f : Addr} (cdv : Value) (A : Around) (outer : List PySem.Env) (s : Shared) (H : Hp) (E : XK) (hr : Room k (A.deeper (PyProof.Rows.envOfC "best_carrying" (defScope s27) s.heap.objs.size f cdv))) (hgd : A.guards = some []) :
    PSs (cxOf (L2.CX P w) P w K mg base N27 "best_carrying" (defScope s27) f cdv A outer s H E) (defBody s27) (tS g (fun c d _ H' => E c d H') (b27 R)) := by
  have tk : Takes (cxOf (L2.CX P w) P w K mg base N27 "best_carrying" (defScope s27) f cdv A outer s H E) (fun c d _ H' => E c d H') := takes_of rfl rfl rfl rfl
  have hp : PassesOwn (model P w) (cxOf (L2.CX P w) P w K mg base N27 "best_carrying" (defScope s27) f cdv A outer s H E).A (cxOf (L2.CX P w) P w K mg base N27 "best_carrying" (defScope s27) f cdv A outer s H E).env (cxOf (L2.CX P w) P w K mg base N27 "best_carrying" (defScope s27) f cdv A outer s H E).xe := passes_of rfl
  have nd : N27.Nodup := sc27.nd
  have hc : (cxOf (L2.CX P w) P w K mg base N27 "best_carrying" (defScope s27) f cdv A outer s H E).calm = true := rfl
  have uu : (A.deeper (PyProof.Rows.envOfC "best_carrying" (defScope s27) s.heap.objs.size f cdv)).units + 100 < cLine := by have := hr.un; omega
  have u1 : (A.deeper (PyProof.Rows.envOfC "best_carrying" (defScope s27) s.heap.objs.size f cdv)).units + 1 < cLine := by omega
  have u2 : (A.deeper (PyProof.Rows.envOfC "best_carrying" (defScope s27) s.heap.objs.size f cdv)).units + 2 < cLine := by omega
  have u64 : (A.deeper (PyProof.Rows.envOfC "best_carrying" (defScope s27) s.heap.objs.size f cdv)).units + 64 < cLine := by omega
  have u65 : (A.deeper (PyProof.Rows.envOfC "best_carrying" (defScope s27) s.heap.objs.size f cdv)).units + 65 < cLine := by omega
  have u70 : (A.deeper (PyProof.Rows.envOfC "best_carrying" (defScope s27) s.heap.objs.size f cdv)).units + 70 < cLine := by omega
  exact (dss_cons (ds_expr (de_call (C.fn 8 "check_bags" ["finds", "bags"] rfl) tk hr hgd (da_cons (de_var 0) (da_cons (de_var 1) da_nil)))) (dss_one (ds_ret (de_call (C.fn 23 "carried_by" ["finds", "bags", "told"] rfl) tk hr hgd (da_cons (de_var 0) (da_cons (de_var 1) (da_cons (de_call (C.fn 26 "best_row" ["finds", "bags"] rfl) tk hr hgd (da_cons (de_var 0) (da_cons (de_var 1) da_nil))) da_nil)))))))
/-! ### is_best_carrying -/
abbrev s28 : Stmt := top 39
abbrev N28 : List Str := ["finds", "bags", "value"]
theorem sc28 : FnScope N28 ["finds", "bags", "value"] (defScope s28) := ⟨rfl, rfl, rfl, by decide +kernel, rfl, by decide +kernel, by decide +kernel⟩
theorem d28 {P : Program} {w : World} {K : PySem.W.Frag} {mg : Str → Option Value} {base : Heap} {g : Glob} {k : Nat} {R : FR} (C : Cxt P w K mg base g k R) {f : Addr} (cdv : Value) (A : Around) (outer : List PySem.Env) (s : Shared) (H : Hp) (E : XK) (hr : Room k (A.deeper (PyProof.Rows.envOfC "is_best_carrying" (defScope s28) s.heap.objs.size f cdv))) (hgd : A.guards = some []) :
    PSs (cxOf (L2.CX P w) P w K mg base N28 "is_best_carrying" (defScope s28) f cdv A outer s H E) (defBody s28) (tS g (fun c d _ H' => E c d H') (b28 R)) := by
  have tk : Takes (cxOf (L2.CX P w) P w K mg base N28 "is_best_carrying" (defScope s28) f cdv A outer s H E) (fun c d _ H' => E c d H') := takes_of rfl rfl rfl rfl
  have hp : PassesOwn (model P w) (cxOf (L2.CX P w) P w K mg base N28 "is_best_carrying" (defScope s28) f cdv A outer s H E).A (cxOf (L2.CX P w) P w K mg base N28 "is_best_carrying" (defScope s28) f cdv A outer s H E).env (cxOf (L2.CX P w) P w K mg base N28 "is_best_carrying" (defScope s28) f cdv A outer s H E).xe := passes_of rfl
  have nd : N28.Nodup := sc28.nd
  have hc : (cxOf (L2.CX P w) P w K mg base N28 "is_best_carrying" (defScope s28) f cdv A outer s H E).calm = true := rfl
  have uu : (A.deeper (PyProof.Rows.envOfC "is_best_carrying" (defScope s28) s.heap.objs.size f cdv)).units + 100 < cLine := by have := hr.un; omega
  have u1 : (A.deeper (PyProof.Rows.envOfC "is_best_carrying" (defScope s28) s.heap.objs.size f cdv)).units + 1 < cLine := by omega
  have u2 : (A.deeper (PyProof.Rows.envOfC "is_best_carrying" (defScope s28) s.heap.objs.size f cdv)).units + 2 < cLine := by omega
  have u64 : (A.deeper (PyProof.Rows.envOfC "is_best_carrying" (defScope s28) s.heap.objs.size f cdv)).units + 64 < cLine := by omega
  have u65 : (A.deeper (PyProof.Rows.envOfC "is_best_carrying" (defScope s28) s.heap.objs.size f cdv)).units + 65 < cLine := by omega
  have u70 : (A.deeper (PyProof.Rows.envOfC "is_best_carrying" (defScope s28) s.heap.objs.size f cdv)).units + 70 < cLine := by omega
  exact (dss_cons (ds_expr (de_call (C.fn 8 "check_bags" ["finds", "bags"] rfl) tk hr hgd (da_cons (de_var 0) (da_cons (de_var 1) da_nil)))) (dss_cons (ds_if (dt_not (dt_tru (de_call (C.fn 11 "is_carrying_of" ["finds", "bags", "value"] rfl) tk hr hgd (da_cons (de_var 0) (da_cons (de_var 1) (da_cons (de_var 2) da_nil)))))) (dss_one (ds_ret de_bl)) dss_nil) (dss_one (ds_ret (de_cmp (od_eq u64) (de_call (C.fn 13 "worth_of_carrying" ["finds", "carrying"] rfl) tk hr hgd (da_cons (de_var 0) (da_cons (de_var 2) da_nil))) (de_call (C.fn 21 "most_with" ["finds", "rooms", "names"] rfl) tk hr hgd (da_cons (de_var 0) (da_cons (de_call (C.fn 15 "rooms_of" ["bags"] rfl) tk hr hgd (da_cons (de_var 1) da_nil)) (da_cons (de_mkB false (md_sortedD hc u70) (C.bn "sorted" (by decide)) (da_cons (de_var 0) da_nil)) da_nil)))))))))
/-! ### needed_finds -/
abbrev s29 : Stmt := top 40
abbrev N29 : List Str := ["finds", "bags", "names", "rooms", "most", "name", "other"]
theorem sc29 : FnScope N29 ["finds", "bags"] (defScope s29) := ⟨rfl, rfl, rfl, by decide +kernel, rfl, by decide +kernel, by decide +kernel⟩
theorem d29 {P : Program} {w : World} {K : PySem.W.Frag} {mg : Str → Option Value} {base : Heap} {g : Glob} {k : Nat} {R : FR} (C : Cxt P w K mg base g k R) {f : Addr} (cdv : Value) (A : Around) (outer : List PySem.Env) (s : Shared) (H : Hp) (E : XK) (hr : Room k (A.deeper (PyProof.Rows.envOfC "needed_finds" (defScope s29) s.heap.objs.size f cdv))) (hgd : A.guards = some []) :
    PSs (cxOf (L2.CX P w) P w K mg base N29 "needed_finds" (defScope s29) f cdv A outer s H E) (defBody s29) (tS g (fun c d _ H' => E c d H') (b29 R)) := by
  have tk : Takes (cxOf (L2.CX P w) P w K mg base N29 "needed_finds" (defScope s29) f cdv A outer s H E) (fun c d _ H' => E c d H') := takes_of rfl rfl rfl rfl
  have hp : PassesOwn (model P w) (cxOf (L2.CX P w) P w K mg base N29 "needed_finds" (defScope s29) f cdv A outer s H E).A (cxOf (L2.CX P w) P w K mg base N29 "needed_finds" (defScope s29) f cdv A outer s H E).env (cxOf (L2.CX P w) P w K mg base N29 "needed_finds" (defScope s29) f cdv A outer s H E).xe := passes_of rfl
  have nd : N29.Nodup := sc29.nd
  have hc : (cxOf (L2.CX P w) P w K mg base N29 "needed_finds" (defScope s29) f cdv A outer s H E).calm = true := rfl
  have uu : (A.deeper (PyProof.Rows.envOfC "needed_finds" (defScope s29) s.heap.objs.size f cdv)).units + 100 < cLine := by have := hr.un; omega
  have u1 : (A.deeper (PyProof.Rows.envOfC "needed_finds" (defScope s29) s.heap.objs.size f cdv)).units + 1 < cLine := by omega
  have u2 : (A.deeper (PyProof.Rows.envOfC "needed_finds" (defScope s29) s.heap.objs.size f cdv)).units + 2 < cLine := by omega
  have u64 : (A.deeper (PyProof.Rows.envOfC "needed_finds" (defScope s29) s.heap.objs.size f cdv)).units + 64 < cLine := by omega
  have u65 : (A.deeper (PyProof.Rows.envOfC "needed_finds" (defScope s29) s.heap.objs.size f cdv)).units + 65 < cLine := by omega
  have u70 : (A.deeper (PyProof.Rows.envOfC "needed_finds" (defScope s29) s.heap.objs.size f cdv)).units + 70 < cLine := by omega
  exact (dss_cons (ds_expr (de_call (C.fn 8 "check_bags" ["finds", "bags"] rfl) tk hr hgd (da_cons (de_var 0) (da_cons (de_var 1) da_nil)))) (dss_cons ds_deadS (dss_cons (ds_set 4 nd (de_call (C.fn 21 "most_with" ["finds", "rooms", "names"] rfl) tk hr hgd (da_cons (de_var 0) (da_cons (de_var 3) (da_cons (de_var 2) da_nil))))) (dss_one (ds_ret (de_lc false hc nd (di_any (de_var 2)) (blkOk_by (own := [("name", 5)]) (by rfl)) (fun _ _ _ _ _ => (dg_name 5 nd)) (fun _ _ _ _ _ => (dts_one (dt_cmp od_lt (de_call (C.fn 21 "most_with" ["finds", "rooms", "names"] rfl) takes0 hr hgd (da_cons (de_var 0) (da_cons (de_var 3) (da_cons (de_lc false (by rfl) nd (di_any (de_var 2)) (blkOk_by (own := [("other", 6)]) (by rfl)) (fun _ _ _ _ _ => (dg_name 6 nd)) (fun _ _ _ _ _ => (dts_one (dt_cmp (od_ne u64) (de_var 6) (de_var 5)))) (fun _ _ _ _ _ => (de_var 6))) da_nil)))) (de_var 4)))) (fun _ _ _ _ _ => (de_var 5))))))))
/-! ### is_in_some -/
abbrev s30 : Stmt := top 41
abbrev N30 : List Str := ["finds", "rooms", "names", "name", "most", "others", "at", "left", "other"]
theorem sc30 : FnScope N30 ["finds", "rooms", "names", "name", "most"] (defScope s30) := ⟨rfl, rfl, rfl, by decide +kernel, rfl, by decide +kernel, by decide +kernel⟩
theorem d30 {P : Program} {w : World} {K : PySem.W.Frag} {mg : Str → Option Value} {base : Heap} {g : Glob} {k : Nat} {R : FR} (C : Cxt P w K mg base g k R) {f : Addr} (cdv : Value) (A : Around) (outer : List PySem.Env) (s : Shared) (H : Hp) (E : XK) (hr : Room k (A.deeper (PyProof.Rows.envOfC "is_in_some" (defScope s30) s.heap.objs.size f cdv))) (hgd : A.guards = some []) :
    PSs (cxOf (L2.CX P w) P w K mg base N30 "is_in_some" (defScope s30) f cdv A outer s H E) (defBody s30) (tS g (fun c d _ H' => E c d H') (b30 R)) := by
  have tk : Takes (cxOf (L2.CX P w) P w K mg base N30 "is_in_some" (defScope s30) f cdv A outer s H E) (fun c d _ H' => E c d H') := takes_of rfl rfl rfl rfl
  have hp : PassesOwn (model P w) (cxOf (L2.CX P w) P w K mg base N30 "is_in_some" (defScope s30) f cdv A outer s H E).A (cxOf (L2.CX P w) P w K mg base N30 "is_in_some" (defScope s30) f cdv A outer s H E).env (cxOf (L2.CX P w) P w K mg base N30 "is_in_some" (defScope s30) f cdv A outer s H E).xe := passes_of rfl
  have nd : N30.Nodup := sc30.nd
  have hc : (cxOf (L2.CX P w) P w K mg base N30 "is_in_some" (defScope s30) f cdv A outer s H E).calm = true := rfl
  have uu : (A.deeper (PyProof.Rows.envOfC "is_in_some" (defScope s30) s.heap.objs.size f cdv)).units + 100 < cLine := by have := hr.un; omega
  have u1 : (A.deeper (PyProof.Rows.envOfC "is_in_some" (defScope s30) s.heap.objs.size f cdv)).units + 1 < cLine := by omega
  have u2 : (A.deeper (PyProof.Rows.envOfC "is_in_some" (defScope s30) s.heap.objs.size f cdv)).units + 2 < cLine := by omega
  have u64 : (A.deeper (PyProof.Rows.envOfC "is_in_some" (defScope s30) s.heap.objs.size f cdv)).units + 64 < cLine := by omega
  have u65 : (A.deeper (PyProof.Rows.envOfC "is_in_some" (defScope s30) s.heap.objs.size f cdv)).units + 65 < cLine := by omega
  have u70 : (A.deeper (PyProof.Rows.envOfC "is_in_some" (defScope s30) s.heap.objs.size f cdv)).units + 70 < cLine := by omega
  exact (dss_cons (ds_setLc false 5 hc nd (di_any (de_var 2)) (blkOk_by (own := [("other", 8)]) (by rfl)) (fun _ _ _ _ _ => (dg_name 8 nd)) (fun _ _ _ _ _ => (dts_one (dt_cmp (od_ne u64) (de_var 8) (de_var 3)))) (fun _ _ _ _ _ => (de_var 8))) (dss_cons (ds_for hp hc (di_any (de_call (C.fn 17 "rooms_behind" ["room", "weight"] rfl) tk hr hgd (da_cons (de_var 1) (da_cons (de_ix (xd_ix u1) (de_ix (xd_ix u1) (de_var 0) (de_var 3)) de_int) da_nil)))) (dg_tup (by rfl) (dgs_cons (dg_name 6 nd) (dgs_cons (dg_name 7 nd) dgs_nil))) (dss_one (ds_if (dt_cmp (od_eq u64) (de_bin od_add (de_call (C.fn 21 "most_with" ["finds", "rooms", "names"] rfl) tk hr hgd (da_cons (de_var 0) (da_cons (de_var 7) (da_cons (de_var 5) da_nil)))) (de_ix (xd_ix u1) (de_ix (xd_ix u1) (de_var 0) (de_var 3)) de_int)) (de_var 4)) (dss_one (ds_ret de_bl)) dss_nil))) (dss_one (ds_ret de_bl))))
/-! ### left_finds -/
abbrev s31 : Stmt := top 42
abbrev N31 : List Str := ["finds", "bags", "names", "rooms", "most", "name"]
theorem sc31 : FnScope N31 ["finds", "bags"] (defScope s31) := ⟨rfl, rfl, rfl, by decide +kernel, rfl, by decide +kernel, by decide +kernel⟩
theorem d31 {P : Program} {w : World} {K : PySem.W.Frag} {mg : Str → Option Value} {base : Heap} {g : Glob} {k : Nat} {R : FR} (C : Cxt P w K mg base g k R) {f : Addr} (cdv : Value) (A : Around) (outer : List PySem.Env) (s : Shared) (H : Hp) (E : XK) (hr : Room k (A.deeper (PyProof.Rows.envOfC "left_finds" (defScope s31) s.heap.objs.size f cdv))) (hgd : A.guards = some []) :
    PSs (cxOf (L2.CX P w) P w K mg base N31 "left_finds" (defScope s31) f cdv A outer s H E) (defBody s31) (tS g (fun c d _ H' => E c d H') (b31 R)) := by
  have tk : Takes (cxOf (L2.CX P w) P w K mg base N31 "left_finds" (defScope s31) f cdv A outer s H E) (fun c d _ H' => E c d H') := takes_of rfl rfl rfl rfl
  have hp : PassesOwn (model P w) (cxOf (L2.CX P w) P w K mg base N31 "left_finds" (defScope s31) f cdv A outer s H E).A (cxOf (L2.CX P w) P w K mg base N31 "left_finds" (defScope s31) f cdv A outer s H E).env (cxOf (L2.CX P w) P w K mg base N31 "left_finds" (defScope s31) f cdv A outer s H E).xe := passes_of rfl
  have nd : N31.Nodup := sc31.nd
  have hc : (cxOf (L2.CX P w) P w K mg base N31 "left_finds" (defScope s31) f cdv A outer s H E).calm = true := rfl
  have uu : (A.deeper (PyProof.Rows.envOfC "left_finds" (defScope s31) s.heap.objs.size f cdv)).units + 100 < cLine := by have := hr.un; omega
  have u1 : (A.deeper (PyProof.Rows.envOfC "left_finds" (defScope s31) s.heap.objs.size f cdv)).units + 1 < cLine := by omega
  have u2 : (A.deeper (PyProof.Rows.envOfC "left_finds" (defScope s31) s.heap.objs.size f cdv)).units + 2 < cLine := by omega
  have u64 : (A.deeper (PyProof.Rows.envOfC "left_finds" (defScope s31) s.heap.objs.size f cdv)).units + 64 < cLine := by omega
  have u65 : (A.deeper (PyProof.Rows.envOfC "left_finds" (defScope s31) s.heap.objs.size f cdv)).units + 65 < cLine := by omega
  have u70 : (A.deeper (PyProof.Rows.envOfC "left_finds" (defScope s31) s.heap.objs.size f cdv)).units + 70 < cLine := by omega
  exact (dss_cons (ds_expr (de_call (C.fn 8 "check_bags" ["finds", "bags"] rfl) tk hr hgd (da_cons (de_var 0) (da_cons (de_var 1) da_nil)))) (dss_cons ds_deadS (dss_cons (ds_set 4 nd (de_call (C.fn 21 "most_with" ["finds", "rooms", "names"] rfl) tk hr hgd (da_cons (de_var 0) (da_cons (de_var 3) (da_cons (de_var 2) da_nil))))) (dss_one (ds_ret (de_lc false hc nd (di_any (de_var 2)) (blkOk_by (own := [("name", 5)]) (by rfl)) (fun _ _ _ _ _ => (dg_name 5 nd)) (fun _ _ _ _ _ => (dts_one (dt_not (dt_tru (de_call (C.fn 30 "is_in_some" ["finds", "rooms", "names", "name", "most"] rfl) takes0 hr hgd (da_cons (de_var 0) (da_cons (de_var 3) (da_cons (de_var 2) (da_cons (de_var 5) (da_cons (de_var 4) da_nil)))))))))) (fun _ _ _ _ _ => (de_var 5))))))))
/-! ### check_many_bags -/
abbrev s32 : Stmt := top 44
abbrev N32 : List Str := ["finds", "many"]
theorem sc32 : FnScope N32 ["finds", "many"] (defScope s32) := ⟨rfl, rfl, rfl, by decide +kernel, rfl, by decide +kernel, by decide +kernel⟩
theorem d32 {P : Program} {w : World} {K : PySem.W.Frag} {mg : Str → Option Value} {base : Heap} {g : Glob} {k : Nat} {R : FR} (C : Cxt P w K mg base g k R) {f : Addr} (cdv : Value) (A : Around) (outer : List PySem.Env) (s : Shared) (H : Hp) (E : XK) (hr : Room k (A.deeper (PyProof.Rows.envOfC "check_many_bags" (defScope s32) s.heap.objs.size f cdv))) (hgd : A.guards = some []) :
    PSs (cxOf (L2.CX P w) P w K mg base N32 "check_many_bags" (defScope s32) f cdv A outer s H E) (defBody s32) (tS g (fun c d _ H' => E c d H') (b32 R)) := by
  have tk : Takes (cxOf (L2.CX P w) P w K mg base N32 "check_many_bags" (defScope s32) f cdv A outer s H E) (fun c d _ H' => E c d H') := takes_of rfl rfl rfl rfl
  have hp : PassesOwn (model P w) (cxOf (L2.CX P w) P w K mg base N32 "check_many_bags" (defScope s32) f cdv A outer s H E).A (cxOf (L2.CX P w) P w K mg base N32 "check_many_bags" (defScope s32) f cdv A outer s H E).env (cxOf (L2.CX P w) P w K mg base N32 "check_many_bags" (defScope s32) f cdv A outer s H E).xe := passes_of rfl
  have nd : N32.Nodup := sc32.nd
  have hc : (cxOf (L2.CX P w) P w K mg base N32 "check_many_bags" (defScope s32) f cdv A outer s H E).calm = true := rfl
  have uu : (A.deeper (PyProof.Rows.envOfC "check_many_bags" (defScope s32) s.heap.objs.size f cdv)).units + 100 < cLine := by have := hr.un; omega
  have u1 : (A.deeper (PyProof.Rows.envOfC "check_many_bags" (defScope s32) s.heap.objs.size f cdv)).units + 1 < cLine := by omega
  have u2 : (A.deeper (PyProof.Rows.envOfC "check_many_bags" (defScope s32) s.heap.objs.size f cdv)).units + 2 < cLine := by omega
  have u64 : (A.deeper (PyProof.Rows.envOfC "check_many_bags" (defScope s32) s.heap.objs.size f cdv)).units + 64 < cLine := by omega
  have u65 : (A.deeper (PyProof.Rows.envOfC "check_many_bags" (defScope s32) s.heap.objs.size f cdv)).units + 65 < cLine := by omega
  have u70 : (A.deeper (PyProof.Rows.envOfC "check_many_bags" (defScope s32) s.heap.objs.size f cdv)).units + 70 < cLine := by omega
  exact (dss_cons (ds_expr (de_call (C.fn 7 "check_finds" ["finds"] rfl) tk hr hgd (da_cons (de_var 0) da_nil))) (dss_one (ds_if (PW.pt (dw_or (dt_not (dt_tru (de_call (C.fn 1 "is_count" ["value"] rfl) tk hr hgd (da_cons (de_var 1) da_nil)))) (dw_or1 (dt_cmp od_lt (de_var 1) de_int)))) (dss_one (ds_raise 0 C.err (C.gC 0 "InvalidNumber" rfl) hr tk hc (de_var 1))) dss_nil)))
/-! ### lots_by_weights -/
abbrev s33 : Stmt := top 45
abbrev N33 : List Str := ["finds", "many", "table", "name", "later", "weights", "at", "lots", "told", "bag", "place", "lot", "weight"]
theorem sc33 : FnScope N33 ["finds", "many"] (defScope s33) := ⟨rfl, rfl, rfl, by decide +kernel, rfl, by decide +kernel, by decide +kernel⟩
theorem d33 {P : Program} {w : World} {K : PySem.W.Frag} {mg : Str → Option Value} {base : Heap} {g : Glob} {k : Nat} {R : FR} (C : Cxt P w K mg base g k R) {f : Addr} (cdv : Value) (A : Around) (outer : List PySem.Env) (s : Shared) (H : Hp) (E : XK) (hr : Room k (A.deeper (PyProof.Rows.envOfC "lots_by_weights" (defScope s33) s.heap.objs.size f cdv))) (hgd : A.guards = some []) :
    PSs (cxOf (L2.CX P w) P w K mg base N33 "lots_by_weights" (defScope s33) f cdv A outer s H E) (defBody s33) (tS g (fun c d _ H' => E c d H') (b33 R)) := by
  have tk : Takes (cxOf (L2.CX P w) P w K mg base N33 "lots_by_weights" (defScope s33) f cdv A outer s H E) (fun c d _ H' => E c d H') := takes_of rfl rfl rfl rfl
  have hp : PassesOwn (model P w) (cxOf (L2.CX P w) P w K mg base N33 "lots_by_weights" (defScope s33) f cdv A outer s H E).A (cxOf (L2.CX P w) P w K mg base N33 "lots_by_weights" (defScope s33) f cdv A outer s H E).env (cxOf (L2.CX P w) P w K mg base N33 "lots_by_weights" (defScope s33) f cdv A outer s H E).xe := passes_of rfl
  have nd : N33.Nodup := sc33.nd
  have hc : (cxOf (L2.CX P w) P w K mg base N33 "lots_by_weights" (defScope s33) f cdv A outer s H E).calm = true := rfl
  have uu : (A.deeper (PyProof.Rows.envOfC "lots_by_weights" (defScope s33) s.heap.objs.size f cdv)).units + 100 < cLine := by have := hr.un; omega
  have u1 : (A.deeper (PyProof.Rows.envOfC "lots_by_weights" (defScope s33) s.heap.objs.size f cdv)).units + 1 < cLine := by omega
  have u2 : (A.deeper (PyProof.Rows.envOfC "lots_by_weights" (defScope s33) s.heap.objs.size f cdv)).units + 2 < cLine := by omega
  have u64 : (A.deeper (PyProof.Rows.envOfC "lots_by_weights" (defScope s33) s.heap.objs.size f cdv)).units + 64 < cLine := by omega
  have u65 : (A.deeper (PyProof.Rows.envOfC "lots_by_weights" (defScope s33) s.heap.objs.size f cdv)).units + 65 < cLine := by omega
  have u70 : (A.deeper (PyProof.Rows.envOfC "lots_by_weights" (defScope s33) s.heap.objs.size f cdv)).units + 70 < cLine := by omega
  exact (dss_cons (ds_set 2 nd (de_frz (de_disp u2 (.cons (de_callTy cd_tuple (C.bn "tuple" (by decide)) (da_cons (de_bin od_mul (de_lst false (da_cons de_int da_nil)) (de_var 1)) da_nil)) (de_lc false hc nd (di_range1 (C.bn "range" (by decide)) (da_cons (de_var 1) da_nil)) (blkOk_by (own := [("bag", 9)]) (by rfl)) (fun _ _ _ _ _ => (dg_name 9 nd)) (fun _ _ _ _ _ => dts_nil) (fun _ _ _ _ _ => (de_lst false da_nil))) .nil)))) (dss_cons (ds_for hp hc (di_any (de_mkB false (md_sortedD hc u70) (C.bn "sorted" (by decide)) (da_cons (de_var 0) da_nil))) (dg_name 3 nd) (dss_cons (ds_set 4 nd de_dnew) (dss_cons (ds_for hp hc (di_any (de_var 2)) (dg_name 5 nd) (dss_one (ds_for hp hc (di_range1 (C.bn "range" (by decide)) (da_cons (de_var 1) da_nil)) (dg_name 6 nd) (dss_one (ds_if (PW.pt (dw_or (dt_cmp (od_eq u64) (de_var 6) de_int) (dw_or1 (dt_cmp (od_ne u64) (de_ix (xd_ix u1) (de_var 5) (de_var 6)) (de_ix (xd_ix u1) (de_var 5) (de_bin od_sub (de_var 6) de_int)))))) (dss_cons (ds_setLc false 7 hc nd (di_enum (C.bn "enumerate" (by decide)) (da_cons (de_ix (xd_ix u1) (de_var 2) (de_var 5)) da_nil)) (blkOk_by (own := [("place", 10), ("lot", 11)]) (by rfl)) (fun _ _ _ _ _ => (dg_tup (by rfl) (dgs_cons (dg_name 10 nd) (dgs_cons (dg_name 11 nd) dgs_nil)))) (fun _ _ _ _ _ => dts_nil) (fun _ _ _ _ _ => (de_ifE (dt_cmp (od_eq u64) (de_var 10) (de_var 6)) (de_bin od_add (de_var 11) (de_lst false (da_cons (de_var 3) da_nil))) (de_var 11)))) (dss_cons (ds_set 8 nd (de_mkB false (md_sortedD hc u70) (C.bn "sorted" (by decide)) (da_cons (de_lc false hc nd (di_any (de_var 7)) (blkOk_by (own := [("lot", 11)]) (by rfl)) (fun _ _ _ _ _ => (dg_name 11 nd)) (fun _ _ _ _ _ => dts_nil) (fun _ _ _ _ _ => (de_tup (da_cons (de_call (C.fn 9 "weight_in" ["finds", "lot"] rfl) takes0 hr hgd (da_cons (de_var 0) (da_cons (de_var 11) da_nil))) (da_cons (de_var 11) da_nil))))) da_nil))) (dss_one (ds_put u1 (de_var 4) (de_callTy cd_tuple (C.bn "tuple" (by decide)) (da_cons (de_lc false hc nd (di_any (de_var 8)) (blkOk_by (own := [("weight", 12), ("lot", 11)]) (by rfl)) (fun _ _ _ _ _ => (dg_tup (by rfl) (dgs_cons (dg_name 12 nd) (dgs_cons (dg_name 11 nd) dgs_nil)))) (fun _ _ _ _ _ => dts_nil) (fun _ _ _ _ _ => (de_var 12))) da_nil)) (de_lc false hc nd (di_any (de_var 8)) (blkOk_by (own := [("weight", 12), ("lot", 11)]) (by rfl)) (fun _ _ _ _ _ => (dg_tup (by rfl) (dgs_cons (dg_name 12 nd) (dgs_cons (dg_name 11 nd) dgs_nil)))) (fun _ _ _ _ _ => dts_nil) (fun _ _ _ _ _ => (de_var 11))))))) dss_nil))))) (dss_one (ds_set 2 nd (de_frz (de_var 4))))))) (dss_one (ds_ret (de_var 2)))))
/-! ### least_of_all -/
abbrev s34 : Stmt := top 46
abbrev N34 : List Str := ["finds", "many", "weights"]
theorem sc34 : FnScope N34 ["finds", "many"] (defScope s34) := ⟨rfl, rfl, rfl, by decide +kernel, rfl, by decide +kernel, by decide +kernel⟩
theorem d34 {P : Program} {w : World} {K : PySem.W.Frag} {mg : Str → Option Value} {base : Heap} {g : Glob} {k : Nat} {R : FR} (C : Cxt P w K mg base g k R) {f : Addr} (cdv : Value) (A : Around) (outer : List PySem.Env) (s : Shared) (H : Hp) (E : XK) (hr : Room k (A.deeper (PyProof.Rows.envOfC "least_of_all" (defScope s34) s.heap.objs.size f cdv))) (hgd : A.guards = some []) :
    PSs (cxOf (L2.CX P w) P w K mg base N34 "least_of_all" (defScope s34) f cdv A outer s H E) (defBody s34) (tS g (fun c d _ H' => E c d H') (b34 R)) := by
  have tk : Takes (cxOf (L2.CX P w) P w K mg base N34 "least_of_all" (defScope s34) f cdv A outer s H E) (fun c d _ H' => E c d H') := takes_of rfl rfl rfl rfl
  have hp : PassesOwn (model P w) (cxOf (L2.CX P w) P w K mg base N34 "least_of_all" (defScope s34) f cdv A outer s H E).A (cxOf (L2.CX P w) P w K mg base N34 "least_of_all" (defScope s34) f cdv A outer s H E).env (cxOf (L2.CX P w) P w K mg base N34 "least_of_all" (defScope s34) f cdv A outer s H E).xe := passes_of rfl
  have nd : N34.Nodup := sc34.nd
  have hc : (cxOf (L2.CX P w) P w K mg base N34 "least_of_all" (defScope s34) f cdv A outer s H E).calm = true := rfl
  have uu : (A.deeper (PyProof.Rows.envOfC "least_of_all" (defScope s34) s.heap.objs.size f cdv)).units + 100 < cLine := by have := hr.un; omega
  have u1 : (A.deeper (PyProof.Rows.envOfC "least_of_all" (defScope s34) s.heap.objs.size f cdv)).units + 1 < cLine := by omega
  have u2 : (A.deeper (PyProof.Rows.envOfC "least_of_all" (defScope s34) s.heap.objs.size f cdv)).units + 2 < cLine := by omega
  have u64 : (A.deeper (PyProof.Rows.envOfC "least_of_all" (defScope s34) s.heap.objs.size f cdv)).units + 64 < cLine := by omega
  have u65 : (A.deeper (PyProof.Rows.envOfC "least_of_all" (defScope s34) s.heap.objs.size f cdv)).units + 65 < cLine := by omega
  have u70 : (A.deeper (PyProof.Rows.envOfC "least_of_all" (defScope s34) s.heap.objs.size f cdv)).units + 70 < cLine := by omega
  exact (dss_one (ds_ret (de_callB (cd_minD hc u70) (C.bn "min" (by decide)) (da_cons (de_lc false hc nd (di_any (de_call (C.fn 33 "lots_by_weights" ["finds", "many"] rfl) tk hr hgd (da_cons (de_var 0) (da_cons (de_var 1) da_nil)))) (blkOk_by (own := [("weights", 2)]) (by rfl)) (fun _ _ _ _ _ => (dg_name 2 nd)) (fun _ _ _ _ _ => dts_nil) (fun _ _ _ _ _ => (de_ix (xd_ix u1) (de_var 2) (de_un ud_neg de_int)))) da_nil))))
/-! ### least_heaviest -/
abbrev s35 : Stmt := top 47
abbrev N35 : List Str := ["finds", "many"]
theorem sc35 : FnScope N35 ["finds", "many"] (defScope s35) := ⟨rfl, rfl, rfl, by decide +kernel, rfl, by decide +kernel, by decide +kernel⟩
theorem d35 {P : Program} {w : World} {K : PySem.W.Frag} {mg : Str → Option Value} {base : Heap} {g : Glob} {k : Nat} {R : FR} (C : Cxt P w K mg base g k R) {f : Addr} (cdv : Value) (A : Around) (outer : List PySem.Env) (s : Shared) (H : Hp) (E : XK) (hr : Room k (A.deeper (PyProof.Rows.envOfC "least_heaviest" (defScope s35) s.heap.objs.size f cdv))) (hgd : A.guards = some []) :
    PSs (cxOf (L2.CX P w) P w K mg base N35 "least_heaviest" (defScope s35) f cdv A outer s H E) (defBody s35) (tS g (fun c d _ H' => E c d H') (b35 R)) := by
  have tk : Takes (cxOf (L2.CX P w) P w K mg base N35 "least_heaviest" (defScope s35) f cdv A outer s H E) (fun c d _ H' => E c d H') := takes_of rfl rfl rfl rfl
  have hp : PassesOwn (model P w) (cxOf (L2.CX P w) P w K mg base N35 "least_heaviest" (defScope s35) f cdv A outer s H E).A (cxOf (L2.CX P w) P w K mg base N35 "least_heaviest" (defScope s35) f cdv A outer s H E).env (cxOf (L2.CX P w) P w K mg base N35 "least_heaviest" (defScope s35) f cdv A outer s H E).xe := passes_of rfl
  have nd : N35.Nodup := sc35.nd
  have hc : (cxOf (L2.CX P w) P w K mg base N35 "least_heaviest" (defScope s35) f cdv A outer s H E).calm = true := rfl
  have uu : (A.deeper (PyProof.Rows.envOfC "least_heaviest" (defScope s35) s.heap.objs.size f cdv)).units + 100 < cLine := by have := hr.un; omega
  have u1 : (A.deeper (PyProof.Rows.envOfC "least_heaviest" (defScope s35) s.heap.objs.size f cdv)).units + 1 < cLine := by omega
  have u2 : (A.deeper (PyProof.Rows.envOfC "least_heaviest" (defScope s35) s.heap.objs.size f cdv)).units + 2 < cLine := by omega
  have u64 : (A.deeper (PyProof.Rows.envOfC "least_heaviest" (defScope s35) s.heap.objs.size f cdv)).units + 64 < cLine := by omega
  have u65 : (A.deeper (PyProof.Rows.envOfC "least_heaviest" (defScope s35) s.heap.objs.size f cdv)).units + 65 < cLine := by omega
  have u70 : (A.deeper (PyProof.Rows.envOfC "least_heaviest" (defScope s35) s.heap.objs.size f cdv)).units + 70 < cLine := by omega
  exact (dss_cons (ds_expr (de_call (C.fn 32 "check_many_bags" ["finds", "many"] rfl) tk hr hgd (da_cons (de_var 0) (da_cons (de_var 1) da_nil)))) (dss_one (ds_ret (de_call (C.fn 34 "least_of_all" ["finds", "many"] rfl) tk hr hgd (da_cons (de_var 0) (da_cons (de_var 1) da_nil))))))
/-! ### in_order_of -/
abbrev s36 : Stmt := top 48
abbrev N36 : List Str := ["lots", "lot"]
theorem sc36 : FnScope N36 ["lots"] (defScope s36) := ⟨rfl, rfl, rfl, by decide +kernel, rfl, by decide +kernel, by decide +kernel⟩
theorem d36 {P : Program} {w : World} {K : PySem.W.Frag} {mg : Str → Option Value} {base : Heap} {g : Glob} {k : Nat} {R : FR} (C : Cxt P w K mg base g k R) {f : Addr} (cdv : Value) (A : Around) (outer : List PySem.Env) (s : Shared) (H : Hp) (E : XK) (hr : Room k (A.deeper (PyProof.Rows.envOfC "in_order_of" (defScope s36) s.heap.objs.size f cdv))) (hgd : A.guards = some []) :
    PSs (cxOf (L2.CX P w) P w K mg base N36 "in_order_of" (defScope s36) f cdv A outer s H E) (defBody s36) (tS g (fun c d _ H' => E c d H') (b36 R)) := by
  have tk : Takes (cxOf (L2.CX P w) P w K mg base N36 "in_order_of" (defScope s36) f cdv A outer s H E) (fun c d _ H' => E c d H') := takes_of rfl rfl rfl rfl
  have hp : PassesOwn (model P w) (cxOf (L2.CX P w) P w K mg base N36 "in_order_of" (defScope s36) f cdv A outer s H E).A (cxOf (L2.CX P w) P w K mg base N36 "in_order_of" (defScope s36) f cdv A outer s H E).env (cxOf (L2.CX P w) P w K mg base N36 "in_order_of" (defScope s36) f cdv A outer s H E).xe := passes_of rfl
  have nd : N36.Nodup := sc36.nd
  have hc : (cxOf (L2.CX P w) P w K mg base N36 "in_order_of" (defScope s36) f cdv A outer s H E).calm = true := rfl
  have uu : (A.deeper (PyProof.Rows.envOfC "in_order_of" (defScope s36) s.heap.objs.size f cdv)).units + 100 < cLine := by have := hr.un; omega
  have u1 : (A.deeper (PyProof.Rows.envOfC "in_order_of" (defScope s36) s.heap.objs.size f cdv)).units + 1 < cLine := by omega
  have u2 : (A.deeper (PyProof.Rows.envOfC "in_order_of" (defScope s36) s.heap.objs.size f cdv)).units + 2 < cLine := by omega
  have u64 : (A.deeper (PyProof.Rows.envOfC "in_order_of" (defScope s36) s.heap.objs.size f cdv)).units + 64 < cLine := by omega
  have u65 : (A.deeper (PyProof.Rows.envOfC "in_order_of" (defScope s36) s.heap.objs.size f cdv)).units + 65 < cLine := by omega
  have u70 : (A.deeper (PyProof.Rows.envOfC "in_order_of" (defScope s36) s.heap.objs.size f cdv)).units + 70 < cLine := by omega
  exact (dss_one (ds_ret (de_bin od_add (de_mkB false (md_sortedD hc u70) (C.bn "sorted" (by decide)) (da_cons (de_lc false hc nd (di_any (de_var 0)) (blkOk_by (own := [("lot", 1)]) (by rfl)) (fun _ _ _ _ _ => (dg_name 1 nd)) (fun _ _ _ _ _ => (dts_one (dt_cmp (od_ne u64) (de_var 1) (de_lst false da_nil)))) (fun _ _ _ _ _ => (de_var 1))) da_nil)) (de_lc false hc nd (di_any (de_var 0)) (blkOk_by (own := [("lot", 1)]) (by rfl)) (fun _ _ _ _ _ => (dg_name 1 nd)) (fun _ _ _ _ _ => (dts_one (dt_cmp (od_eq u64) (de_var 1) (de_lst false da_nil)))) (fun _ _ _ _ _ => (de_lst false da_nil))))))
/-! ### even_lots -/
abbrev s37 : Stmt := top 49
abbrev N37 : List Str := ["finds", "many", "table", "weights", "lot"]
theorem sc37 : FnScope N37 ["finds", "many"] (defScope s37) := ⟨rfl, rfl, rfl, by decide +kernel, rfl, by decide +kernel, by decide +kernel⟩
theorem d37 {P : Program} {w : World} {K : PySem.W.Frag} {mg : Str → Option Value} {base : Heap} {g : Glob} {k : Nat} {R : FR} (C : Cxt P w K mg base g k R) {f : Addr} (cdv : Value) (A : Around) (outer : List PySem.Env) (s : Shared) (H : Hp) (E : XK) (hr : Room k (A.deeper (PyProof.Rows.envOfC "even_lots" (defScope s37) s.heap.objs.size f cdv))) (hgd : A.guards = some []) :
    PSs (cxOf (L2.CX P w) P w K mg base N37 "even_lots" (defScope s37) f cdv A outer s H E) (defBody s37) (tS g (fun c d _ H' => E c d H') (b37 R)) := by
  have tk : Takes (cxOf (L2.CX P w) P w K mg base N37 "even_lots" (defScope s37) f cdv A outer s H E) (fun c d _ H' => E c d H') := takes_of rfl rfl rfl rfl
  have hp : PassesOwn (model P w) (cxOf (L2.CX P w) P w K mg base N37 "even_lots" (defScope s37) f cdv A outer s H E).A (cxOf (L2.CX P w) P w K mg base N37 "even_lots" (defScope s37) f cdv A outer s H E).env (cxOf (L2.CX P w) P w K mg base N37 "even_lots" (defScope s37) f cdv A outer s H E).xe := passes_of rfl
  have nd : N37.Nodup := sc37.nd
  have hc : (cxOf (L2.CX P w) P w K mg base N37 "even_lots" (defScope s37) f cdv A outer s H E).calm = true := rfl
  have uu : (A.deeper (PyProof.Rows.envOfC "even_lots" (defScope s37) s.heap.objs.size f cdv)).units + 100 < cLine := by have := hr.un; omega
  have u1 : (A.deeper (PyProof.Rows.envOfC "even_lots" (defScope s37) s.heap.objs.size f cdv)).units + 1 < cLine := by omega
  have u2 : (A.deeper (PyProof.Rows.envOfC "even_lots" (defScope s37) s.heap.objs.size f cdv)).units + 2 < cLine := by omega
  have u64 : (A.deeper (PyProof.Rows.envOfC "even_lots" (defScope s37) s.heap.objs.size f cdv)).units + 64 < cLine := by omega
  have u65 : (A.deeper (PyProof.Rows.envOfC "even_lots" (defScope s37) s.heap.objs.size f cdv)).units + 65 < cLine := by omega
  have u70 : (A.deeper (PyProof.Rows.envOfC "even_lots" (defScope s37) s.heap.objs.size f cdv)).units + 70 < cLine := by omega
  exact (dss_cons (ds_expr (de_call (C.fn 32 "check_many_bags" ["finds", "many"] rfl) tk hr hgd (da_cons (de_var 0) (da_cons (de_var 1) da_nil)))) (dss_cons (ds_set 2 nd (de_call (C.fn 33 "lots_by_weights" ["finds", "many"] rfl) tk hr hgd (da_cons (de_var 0) (da_cons (de_var 1) da_nil)))) (dss_cons (ds_set 3 nd de_dead) (dss_one (ds_ret (de_call (C.fn 36 "in_order_of" ["lots"] rfl) tk hr hgd (da_cons (de_lc false hc nd (di_any (de_ix (xd_ix u1) (de_var 2) (de_var 3))) (blkOk_by (own := [("lot", 4)]) (by rfl)) (fun _ _ _ _ _ => (dg_name 4 nd)) (fun _ _ _ _ _ => dts_nil) (fun _ _ _ _ _ => (de_mkTy false md_list (C.bn "list" (by decide)) (da_cons (de_var 4) da_nil)))) da_nil)))))))
/-! ### are_shared_lots -/
abbrev s38 : Stmt := top 50
abbrev N38 : List Str := ["finds", "value", "lot"]
theorem sc38 : FnScope N38 ["finds", "value"] (defScope s38) := ⟨rfl, rfl, rfl, by decide +kernel, rfl, by decide +kernel, by decide +kernel⟩
theorem d38 {P : Program} {w : World} {K : PySem.W.Frag} {mg : Str → Option Value} {base : Heap} {g : Glob} {k : Nat} {R : FR} (C : Cxt P w K mg base g k R) {f : Addr} (cdv : Value) (A : Around) (outer : List PySem.Env) (s : Shared) (H : Hp) (E : XK) (hr : Room k (A.deeper (PyProof.Rows.envOfC "are_shared_lots" (defScope s38) s.heap.objs.size f cdv))) (hgd : A.guards = some []) :
    PSs (cxOf (L2.CX P w) P w K mg base N38 "are_shared_lots" (defScope s38) f cdv A outer s H E) (defBody s38) (tS g (fun c d _ H' => E c d H') (b38 R)) := by
  have tk : Takes (cxOf (L2.CX P w) P w K mg base N38 "are_shared_lots" (defScope s38) f cdv A outer s H E) (fun c d _ H' => E c d H') := takes_of rfl rfl rfl rfl
  have hp : PassesOwn (model P w) (cxOf (L2.CX P w) P w K mg base N38 "are_shared_lots" (defScope s38) f cdv A outer s H E).A (cxOf (L2.CX P w) P w K mg base N38 "are_shared_lots" (defScope s38) f cdv A outer s H E).env (cxOf (L2.CX P w) P w K mg base N38 "are_shared_lots" (defScope s38) f cdv A outer s H E).xe := passes_of rfl
  have nd : N38.Nodup := sc38.nd
  have hc : (cxOf (L2.CX P w) P w K mg base N38 "are_shared_lots" (defScope s38) f cdv A outer s H E).calm = true := rfl
  have uu : (A.deeper (PyProof.Rows.envOfC "are_shared_lots" (defScope s38) s.heap.objs.size f cdv)).units + 100 < cLine := by have := hr.un; omega
  have u1 : (A.deeper (PyProof.Rows.envOfC "are_shared_lots" (defScope s38) s.heap.objs.size f cdv)).units + 1 < cLine := by omega
  have u2 : (A.deeper (PyProof.Rows.envOfC "are_shared_lots" (defScope s38) s.heap.objs.size f cdv)).units + 2 < cLine := by omega
  have u64 : (A.deeper (PyProof.Rows.envOfC "are_shared_lots" (defScope s38) s.heap.objs.size f cdv)).units + 64 < cLine := by omega
  have u65 : (A.deeper (PyProof.Rows.envOfC "are_shared_lots" (defScope s38) s.heap.objs.size f cdv)).units + 65 < cLine := by omega
  have u70 : (A.deeper (PyProof.Rows.envOfC "are_shared_lots" (defScope s38) s.heap.objs.size f cdv)).units + 70 < cLine := by omega
  exact (dss_cons (ds_if (PW.pt (dw_or (dt_not (dt_tru (de_isi 3 (C.bn "isinstance" (by decide)) (C.bn "list" (by decide)) (de_var 1)))) (dw_or1 (dt_not (dt_tru (de_call (C.fn 10 "are_lots_of" ["finds", "lots"] rfl) tk hr hgd (da_cons (de_var 0) (da_cons (de_var 1) da_nil)))))))) (dss_one (ds_ret de_bl)) dss_nil) (dss_one (ds_ret (de_and (de_cmp (od_eq u64) (de_callB (cd_sum hc) (C.bn "sum" (by decide)) (da_cons (de_lc false hc nd (di_any (de_var 1)) (blkOk_by (own := [("lot", 2)]) (by rfl)) (fun _ _ _ _ _ => (dg_name 2 nd)) (fun _ _ _ _ _ => dts_nil) (fun _ _ _ _ _ => (de_callB cd_len (C.bn "len" (by decide)) (da_cons (de_var 2) da_nil)))) da_nil)) (de_callB cd_len (C.bn "len" (by decide)) (da_cons (de_var 0) da_nil))) (de_one (de_cmp (od_eq u64) (de_var 1) (de_call (C.fn 36 "in_order_of" ["lots"] rfl) tk hr hgd (da_cons (de_var 1) da_nil))))))))
/-! ### are_even_lots -/
abbrev s39 : Stmt := top 51
abbrev N39 : List Str := ["finds", "many", "value", "lot"]
theorem sc39 : FnScope N39 ["finds", "many", "value"] (defScope s39) := ⟨rfl, rfl, rfl, by decide +kernel, rfl, by decide +kernel, by decide +kernel⟩
theorem d39 {P : Program} {w : World} {K : PySem.W.Frag} {mg : Str → Option Value} {base : Heap} {g : Glob} {k : Nat} {R : FR} (C : Cxt P w K mg base g k R) {f : Addr} (cdv : Value) (A : Around) (outer : List PySem.Env) (s : Shared) (H : Hp) (E : XK) (hr : Room k (A.deeper (PyProof.Rows.envOfC "are_even_lots" (defScope s39) s.heap.objs.size f cdv))) (hgd : A.guards = some []) :
    PSs (cxOf (L2.CX P w) P w K mg base N39 "are_even_lots" (defScope s39) f cdv A outer s H E) (defBody s39) (tS g (fun c d _ H' => E c d H') (b39 R)) := by
  have tk : Takes (cxOf (L2.CX P w) P w K mg base N39 "are_even_lots" (defScope s39) f cdv A outer s H E) (fun c d _ H' => E c d H') := takes_of rfl rfl rfl rfl
  have hp : PassesOwn (model P w) (cxOf (L2.CX P w) P w K mg base N39 "are_even_lots" (defScope s39) f cdv A outer s H E).A (cxOf (L2.CX P w) P w K mg base N39 "are_even_lots" (defScope s39) f cdv A outer s H E).env (cxOf (L2.CX P w) P w K mg base N39 "are_even_lots" (defScope s39) f cdv A outer s H E).xe := passes_of rfl
  have nd : N39.Nodup := sc39.nd
  have hc : (cxOf (L2.CX P w) P w K mg base N39 "are_even_lots" (defScope s39) f cdv A outer s H E).calm = true := rfl
  have uu : (A.deeper (PyProof.Rows.envOfC "are_even_lots" (defScope s39) s.heap.objs.size f cdv)).units + 100 < cLine := by have := hr.un; omega
  have u1 : (A.deeper (PyProof.Rows.envOfC "are_even_lots" (defScope s39) s.heap.objs.size f cdv)).units + 1 < cLine := by omega
  have u2 : (A.deeper (PyProof.Rows.envOfC "are_even_lots" (defScope s39) s.heap.objs.size f cdv)).units + 2 < cLine := by omega
  have u64 : (A.deeper (PyProof.Rows.envOfC "are_even_lots" (defScope s39) s.heap.objs.size f cdv)).units + 64 < cLine := by omega
  have u65 : (A.deeper (PyProof.Rows.envOfC "are_even_lots" (defScope s39) s.heap.objs.size f cdv)).units + 65 < cLine := by omega
  have u70 : (A.deeper (PyProof.Rows.envOfC "are_even_lots" (defScope s39) s.heap.objs.size f cdv)).units + 70 < cLine := by omega
  exact (dss_cons (ds_expr (de_call (C.fn 32 "check_many_bags" ["finds", "many"] rfl) tk hr hgd (da_cons (de_var 0) (da_cons (de_var 1) da_nil)))) (dss_cons (ds_if (PW.pt (dw_or (dt_not (dt_tru (de_call (C.fn 38 "are_shared_lots" ["finds", "value"] rfl) tk hr hgd (da_cons (de_var 0) (da_cons (de_var 2) da_nil))))) (dw_or1 (dt_cmp (od_ne u64) (de_callB cd_len (C.bn "len" (by decide)) (da_cons (de_var 2) da_nil)) (de_var 1))))) (dss_one (ds_ret de_bl)) dss_nil) (dss_one (ds_ret (de_cmp (od_eq u64) (de_callB (cd_maxL hc) (C.bn "max" (by decide)) (da_cons (de_lc false hc nd (di_any (de_var 2)) (blkOk_by (own := [("lot", 3)]) (by rfl)) (fun _ _ _ _ _ => (dg_name 3 nd)) (fun _ _ _ _ _ => dts_nil) (fun _ _ _ _ _ => (de_call (C.fn 9 "weight_in" ["finds", "lot"] rfl) takes0 hr hgd (da_cons (de_var 0) (da_cons (de_var 3) da_nil))))) da_nil)) (de_call (C.fn 34 "least_of_all" ["finds", "many"] rfl) tk hr hgd (da_cons (de_var 0) (da_cons (de_var 1) da_nil))))))))
/-! ### dealt_lots -/
abbrev s40 : Stmt := top 52
abbrev N40 : List Str := ["finds", "many", "lots", "name", "at", "bag", "place", "lot"]
theorem sc40 : FnScope N40 ["finds", "many"] (defScope s40) := ⟨rfl, rfl, rfl, by decide +kernel, rfl, by decide +kernel, by decide +kernel⟩
theorem d40 {P : Program} {w : World} {K : PySem.W.Frag} {mg : Str → Option Value} {base : Heap} {g : Glob} {k : Nat} {R : FR} (C : Cxt P w K mg base g k R) {f : Addr} (cdv : Value) (A : Around) (outer : List PySem.Env) (s : Shared) (H : Hp) (E : XK) (hr : Room k (A.deeper (PyProof.Rows.envOfC "dealt_lots" (defScope s40) s.heap.objs.size f cdv))) (hgd : A.guards = some []) :
    PSs (cxOf (L2.CX P w) P w K mg base N40 "dealt_lots" (defScope s40) f cdv A outer s H E) (defBody s40) (tS g (fun c d _ H' => E c d H') (b40 R)) := by
  have tk : Takes (cxOf (L2.CX P w) P w K mg base N40 "dealt_lots" (defScope s40) f cdv A outer s H E) (fun c d _ H' => E c d H') := takes_of rfl rfl rfl rfl
  have hp : PassesOwn (model P w) (cxOf (L2.CX P w) P w K mg base N40 "dealt_lots" (defScope s40) f cdv A outer s H E).A (cxOf (L2.CX P w) P w K mg base N40 "dealt_lots" (defScope s40) f cdv A outer s H E).env (cxOf (L2.CX P w) P w K mg base N40 "dealt_lots" (defScope s40) f cdv A outer s H E).xe := passes_of rfl
  have nd : N40.Nodup := sc40.nd
  have hc : (cxOf (L2.CX P w) P w K mg base N40 "dealt_lots" (defScope s40) f cdv A outer s H E).calm = true := rfl
  have uu : (A.deeper (PyProof.Rows.envOfC "dealt_lots" (defScope s40) s.heap.objs.size f cdv)).units + 100 < cLine := by have := hr.un; omega
  have u1 : (A.deeper (PyProof.Rows.envOfC "dealt_lots" (defScope s40) s.heap.objs.size f cdv)).units + 1 < cLine := by omega
  have u2 : (A.deeper (PyProof.Rows.envOfC "dealt_lots" (defScope s40) s.heap.objs.size f cdv)).units + 2 < cLine := by omega
  have u64 : (A.deeper (PyProof.Rows.envOfC "dealt_lots" (defScope s40) s.heap.objs.size f cdv)).units + 64 < cLine := by omega
  have u65 : (A.deeper (PyProof.Rows.envOfC "dealt_lots" (defScope s40) s.heap.objs.size f cdv)).units + 65 < cLine := by omega
  have u70 : (A.deeper (PyProof.Rows.envOfC "dealt_lots" (defScope s40) s.heap.objs.size f cdv)).units + 70 < cLine := by omega
  exact (dss_cons (ds_expr (de_call (C.fn 32 "check_many_bags" ["finds", "many"] rfl) tk hr hgd (da_cons (de_var 0) (da_cons (de_var 1) da_nil)))) (dss_cons (ds_setLc true 2 hc nd (di_range1 (C.bn "range" (by decide)) (da_cons (de_var 1) da_nil)) (blkOk_by (own := [("bag", 5)]) (by rfl)) (fun _ _ _ _ _ => (dg_name 5 nd)) (fun _ _ _ _ _ => dts_nil) (fun _ _ _ _ _ => (de_lst false da_nil))) (dss_cons (ds_for hp hc (di_any de_dead) (dg_name 3 nd) (dss_cons (ds_set 4 nd (de_ix (xd_ix u1) (de_callB (cd_minD hc u70) (C.bn "min" (by decide)) (da_cons (de_lc false hc nd (di_enum (C.bn "enumerate" (by decide)) (da_cons (de_frz (de_var 2)) da_nil)) (blkOk_by (own := [("place", 6), ("lot", 7)]) (by rfl)) (fun _ _ _ _ _ => (dg_tup (by rfl) (dgs_cons (dg_name 6 nd) (dgs_cons (dg_name 7 nd) dgs_nil)))) (fun _ _ _ _ _ => dts_nil) (fun _ _ _ _ _ => (de_tup (da_cons (de_call (C.fn 9 "weight_in" ["finds", "lot"] rfl) takes0 hr hgd (da_cons (de_var 0) (da_cons (de_var 7) da_nil))) (da_cons (de_var 6) da_nil))))) da_nil)) de_int)) (dss_one (ds_put u1 (de_var 2) (de_var 4) (de_mkB false (md_sortedD hc u70) (C.bn "sorted" (by decide)) (da_cons (de_bin od_add (de_ix (xd_ix u1) (de_var 2) (de_var 4)) (de_lst false (da_cons (de_var 3) da_nil))) da_nil)))))) (dss_one (ds_ret (de_frz (de_var 2)))))))
/-! ### check_most -/
abbrev s41 : Stmt := top 53
abbrev N41 : List Str := ["finds", "most"]
theorem sc41 : FnScope N41 ["finds", "most"] (defScope s41) := ⟨rfl, rfl, rfl, by decide +kernel, rfl, by decide +kernel, by decide +kernel⟩
theorem d41 {P : Program} {w : World} {K : PySem.W.Frag} {mg : Str → Option Value} {base : Heap} {g : Glob} {k : Nat} {R : FR} (C : Cxt P w K mg base g k R) {f : Addr} (cdv : Value) (A : Around) (outer : List PySem.Env) (s : Shared) (H : Hp) (E : XK) (hr : Room k (A.deeper (PyProof.Rows.envOfC "check_most" (defScope s41) s.heap.objs.size f cdv))) (hgd : A.guards = some []) :
    PSs (cxOf (L2.CX P w) P w K mg base N41 "check_most" (defScope s41) f cdv A outer s H E) (defBody s41) (tS g (fun c d _ H' => E c d H') (b41 R)) := by
  have tk : Takes (cxOf (L2.CX P w) P w K mg base N41 "check_most" (defScope s41) f cdv A outer s H E) (fun c d _ H' => E c d H') := takes_of rfl rfl rfl rfl
  have hp : PassesOwn (model P w) (cxOf (L2.CX P w) P w K mg base N41 "check_most" (defScope s41) f cdv A outer s H E).A (cxOf (L2.CX P w) P w K mg base N41 "check_most" (defScope s41) f cdv A outer s H E).env (cxOf (L2.CX P w) P w K mg base N41 "check_most" (defScope s41) f cdv A outer s H E).xe := passes_of rfl
  have nd : N41.Nodup := sc41.nd
  have hc : (cxOf (L2.CX P w) P w K mg base N41 "check_most" (defScope s41) f cdv A outer s H E).calm = true := rfl
  have uu : (A.deeper (PyProof.Rows.envOfC "check_most" (defScope s41) s.heap.objs.size f cdv)).units + 100 < cLine := by have := hr.un; omega
  have u1 : (A.deeper (PyProof.Rows.envOfC "check_most" (defScope s41) s.heap.objs.size f cdv)).units + 1 < cLine := by omega
  have u2 : (A.deeper (PyProof.Rows.envOfC "check_most" (defScope s41) s.heap.objs.size f cdv)).units + 2 < cLine := by omega
  have u64 : (A.deeper (PyProof.Rows.envOfC "check_most" (defScope s41) s.heap.objs.size f cdv)).units + 64 < cLine := by omega
  have u65 : (A.deeper (PyProof.Rows.envOfC "check_most" (defScope s41) s.heap.objs.size f cdv)).units + 65 < cLine := by omega
  have u70 : (A.deeper (PyProof.Rows.envOfC "check_most" (defScope s41) s.heap.objs.size f cdv)).units + 70 < cLine := by omega
  exact (dss_cons (ds_expr (de_call (C.fn 7 "check_finds" ["finds"] rfl) tk hr hgd (da_cons (de_var 0) da_nil))) (dss_one (ds_if (dt_not (dt_tru (de_call (C.fn 1 "is_count" ["value"] rfl) tk hr hgd (da_cons (de_var 1) da_nil)))) (dss_one (ds_raise 0 C.err (C.gC 0 "InvalidNumber" rfl) hr tk hc (de_var 1))) dss_nil)))
/-! ### trips_in -/
abbrev s42 : Stmt := top 54
abbrev N42 : List Str := ["finds", "most", "many", "name"]
theorem sc42 : FnScope N42 ["finds", "most"] (defScope s42) := ⟨rfl, rfl, rfl, by decide +kernel, rfl, by decide +kernel, by decide +kernel⟩
theorem d42 {P : Program} {w : World} {K : PySem.W.Frag} {mg : Str → Option Value} {base : Heap} {g : Glob} {k : Nat} {R : FR} (C : Cxt P w K mg base g k R) {f : Addr} (cdv : Value) (A : Around) (outer : List PySem.Env) (s : Shared) (H : Hp) (E : XK) (hr : Room k (A.deeper (PyProof.Rows.envOfC "trips_in" (defScope s42) s.heap.objs.size f cdv))) (hgd : A.guards = some []) :
    PSs (cxOf (L2.CX P w) P w K mg base N42 "trips_in" (defScope s42) f cdv A outer s H E) (defBody s42) (tS g (fun c d _ H' => E c d H') (b42 R)) := by
  have tk : Takes (cxOf (L2.CX P w) P w K mg base N42 "trips_in" (defScope s42) f cdv A outer s H E) (fun c d _ H' => E c d H') := takes_of rfl rfl rfl rfl
  have hp : PassesOwn (model P w) (cxOf (L2.CX P w) P w K mg base N42 "trips_in" (defScope s42) f cdv A outer s H E).A (cxOf (L2.CX P w) P w K mg base N42 "trips_in" (defScope s42) f cdv A outer s H E).env (cxOf (L2.CX P w) P w K mg base N42 "trips_in" (defScope s42) f cdv A outer s H E).xe := passes_of rfl
  have nd : N42.Nodup := sc42.nd
  have hc : (cxOf (L2.CX P w) P w K mg base N42 "trips_in" (defScope s42) f cdv A outer s H E).calm = true := rfl
  have uu : (A.deeper (PyProof.Rows.envOfC "trips_in" (defScope s42) s.heap.objs.size f cdv)).units + 100 < cLine := by have := hr.un; omega
  have u1 : (A.deeper (PyProof.Rows.envOfC "trips_in" (defScope s42) s.heap.objs.size f cdv)).units + 1 < cLine := by omega
  have u2 : (A.deeper (PyProof.Rows.envOfC "trips_in" (defScope s42) s.heap.objs.size f cdv)).units + 2 < cLine := by omega
  have u64 : (A.deeper (PyProof.Rows.envOfC "trips_in" (defScope s42) s.heap.objs.size f cdv)).units + 64 < cLine := by omega
  have u65 : (A.deeper (PyProof.Rows.envOfC "trips_in" (defScope s42) s.heap.objs.size f cdv)).units + 65 < cLine := by omega
  have u70 : (A.deeper (PyProof.Rows.envOfC "trips_in" (defScope s42) s.heap.objs.size f cdv)).units + 70 < cLine := by omega
  exact (dss_cons (ds_if (dt_tru (de_callB (cd_any hc) (C.bn "any" (by decide)) (da_cons (de_lc false hc nd (di_any (de_var 0)) (blkOk_by (own := [("name", 3)]) (by rfl)) (fun _ _ _ _ _ => (dg_name 3 nd)) (fun _ _ _ _ _ => dts_nil) (fun _ _ _ _ _ => (de_cmp od_gt (de_ix (xd_ix u1) (de_ix (xd_ix u1) (de_var 0) (de_var 3)) de_int) (de_var 1)))) da_nil))) (dss_one (ds_ret de_non)) dss_nil) (dss_cons (ds_set 2 nd de_int) (dss_cons (ds_while 100 hp (dt_cmp od_gt (de_call (C.fn 34 "least_of_all" ["finds", "many"] rfl) tk hr hgd (da_cons (de_var 0) (da_cons (de_var 2) da_nil))) (de_var 1)) (dss_one (ds_aug 2 ip_add nd de_int))) (dss_one (ds_ret (de_var 2))))))
/-! ### fewest_trips -/
abbrev s43 : Stmt := top 55
abbrev N43 : List Str := ["finds", "most"]
theorem sc43 : FnScope N43 ["finds", "most"] (defScope s43) := ⟨rfl, rfl, rfl, by decide +kernel, rfl, by decide +kernel, by decide +kernel⟩
theorem d43 {P : Program} {w : World} {K : PySem.W.Frag} {mg : Str → Option Value} {base : Heap} {g : Glob} {k : Nat} {R : FR} (C : Cxt P w K mg base g k R) {f : Addr} (cdv : Value) (A : Around) (outer : List PySem.Env) (s : Shared) (H : Hp) (E : XK) (hr : Room k (A.deeper (PyProof.Rows.envOfC "fewest_trips" (defScope s43) s.heap.objs.size f cdv))) (hgd : A.guards = some []) :
    PSs (cxOf (L2.CX P w) P w K mg base N43 "fewest_trips" (defScope s43) f cdv A outer s H E) (defBody s43) (tS g (fun c d _ H' => E c d H') (b43 R)) := by
  have tk : Takes (cxOf (L2.CX P w) P w K mg base N43 "fewest_trips" (defScope s43) f cdv A outer s H E) (fun c d _ H' => E c d H') := takes_of rfl rfl rfl rfl
  have hp : PassesOwn (model P w) (cxOf (L2.CX P w) P w K mg base N43 "fewest_trips" (defScope s43) f cdv A outer s H E).A (cxOf (L2.CX P w) P w K mg base N43 "fewest_trips" (defScope s43) f cdv A outer s H E).env (cxOf (L2.CX P w) P w K mg base N43 "fewest_trips" (defScope s43) f cdv A outer s H E).xe := passes_of rfl
  have nd : N43.Nodup := sc43.nd
  have hc : (cxOf (L2.CX P w) P w K mg base N43 "fewest_trips" (defScope s43) f cdv A outer s H E).calm = true := rfl
  have uu : (A.deeper (PyProof.Rows.envOfC "fewest_trips" (defScope s43) s.heap.objs.size f cdv)).units + 100 < cLine := by have := hr.un; omega
  have u1 : (A.deeper (PyProof.Rows.envOfC "fewest_trips" (defScope s43) s.heap.objs.size f cdv)).units + 1 < cLine := by omega
  have u2 : (A.deeper (PyProof.Rows.envOfC "fewest_trips" (defScope s43) s.heap.objs.size f cdv)).units + 2 < cLine := by omega
  have u64 : (A.deeper (PyProof.Rows.envOfC "fewest_trips" (defScope s43) s.heap.objs.size f cdv)).units + 64 < cLine := by omega
  have u65 : (A.deeper (PyProof.Rows.envOfC "fewest_trips" (defScope s43) s.heap.objs.size f cdv)).units + 65 < cLine := by omega
  have u70 : (A.deeper (PyProof.Rows.envOfC "fewest_trips" (defScope s43) s.heap.objs.size f cdv)).units + 70 < cLine := by omega
  exact (dss_cons (ds_expr (de_call (C.fn 41 "check_most" ["finds", "most"] rfl) tk hr hgd (da_cons (de_var 0) (da_cons (de_var 1) da_nil)))) (dss_one (ds_ret (de_call (C.fn 42 "trips_in" ["finds", "most"] rfl) tk hr hgd (da_cons (de_var 0) (da_cons (de_var 1) da_nil))))))
/-! ### first_trips -/
abbrev s44 : Stmt := top 56
abbrev N44 : List Str := ["finds", "most", "many", "table", "weights", "told", "lot"]
theorem sc44 : FnScope N44 ["finds", "most"] (defScope s44) := ⟨rfl, rfl, rfl, by decide +kernel, rfl, by decide +kernel, by decide +kernel⟩
theorem d44 {P : Program} {w : World} {K : PySem.W.Frag} {mg : Str → Option Value} {base : Heap} {g : Glob} {k : Nat} {R : FR} (C : Cxt P w K mg base g k R) {f : Addr} (cdv : Value) (A : Around) (outer : List PySem.Env) (s : Shared) (H : Hp) (E : XK) (hr : Room k (A.deeper (PyProof.Rows.envOfC "first_trips" (defScope s44) s.heap.objs.size f cdv))) (hgd : A.guards = some []) :
    PSs (cxOf (L2.CX P w) P w K mg base N44 "first_trips" (defScope s44) f cdv A outer s H E) (defBody s44) (tS g (fun c d _ H' => E c d H') (b44 R)) := by
  have tk : Takes (cxOf (L2.CX P w) P w K mg base N44 "first_trips" (defScope s44) f cdv A outer s H E) (fun c d _ H' => E c d H') := takes_of rfl rfl rfl rfl
  have hp : PassesOwn (model P w) (cxOf (L2.CX P w) P w K mg base N44 "first_trips" (defScope s44) f cdv A outer s H E).A (cxOf (L2.CX P w) P w K mg base N44 "first_trips" (defScope s44) f cdv A outer s H E).env (cxOf (L2.CX P w) P w K mg base N44 "first_trips" (defScope s44) f cdv A outer s H E).xe := passes_of rfl
  have nd : N44.Nodup := sc44.nd
  have hc : (cxOf (L2.CX P w) P w K mg base N44 "first_trips" (defScope s44) f cdv A outer s H E).calm = true := rfl
  have uu : (A.deeper (PyProof.Rows.envOfC "first_trips" (defScope s44) s.heap.objs.size f cdv)).units + 100 < cLine := by have := hr.un; omega
  have u1 : (A.deeper (PyProof.Rows.envOfC "first_trips" (defScope s44) s.heap.objs.size f cdv)).units + 1 < cLine := by omega
  have u2 : (A.deeper (PyProof.Rows.envOfC "first_trips" (defScope s44) s.heap.objs.size f cdv)).units + 2 < cLine := by omega
  have u64 : (A.deeper (PyProof.Rows.envOfC "first_trips" (defScope s44) s.heap.objs.size f cdv)).units + 64 < cLine := by omega
  have u65 : (A.deeper (PyProof.Rows.envOfC "first_trips" (defScope s44) s.heap.objs.size f cdv)).units + 65 < cLine := by omega
  have u70 : (A.deeper (PyProof.Rows.envOfC "first_trips" (defScope s44) s.heap.objs.size f cdv)).units + 70 < cLine := by omega
  exact (dss_cons (ds_expr (de_call (C.fn 41 "check_most" ["finds", "most"] rfl) tk hr hgd (da_cons (de_var 0) (da_cons (de_var 1) da_nil)))) (dss_cons (ds_set 2 nd (de_call (C.fn 42 "trips_in" ["finds", "most"] rfl) tk hr hgd (da_cons (de_var 0) (da_cons (de_var 1) da_nil)))) (dss_cons (ds_if (dt_isN (de_var 2)) (dss_one (ds_ret de_non)) dss_nil) (dss_cons (ds_set 3 nd (de_call (C.fn 33 "lots_by_weights" ["finds", "many"] rfl) tk hr hgd (da_cons (de_var 0) (da_cons (de_var 2) da_nil)))) (dss_cons (ds_set 4 nd (de_callB (cd_minD hc u70) (C.bn "min" (by decide)) (da_cons (de_lc false hc nd (di_any (de_var 3)) (blkOk_by (own := [("told", 5)]) (by rfl)) (fun _ _ _ _ _ => (dg_name 5 nd)) (fun _ _ _ _ _ => (dts_one (dt_cmp od_le (de_ix (xd_ix u1) (de_var 5) (de_un ud_neg de_int)) (de_var 1)))) (fun _ _ _ _ _ => (de_var 5))) da_nil))) (dss_one (ds_ret (de_call (C.fn 36 "in_order_of" ["lots"] rfl) tk hr hgd (da_cons (de_lc false hc nd (di_any (de_ix (xd_ix u1) (de_var 3) (de_var 4))) (blkOk_by (own := [("lot", 6)]) (by rfl)) (fun _ _ _ _ _ => (dg_name 6 nd)) (fun _ _ _ _ _ => dts_nil) (fun _ _ _ _ _ => (de_mkTy false md_list (C.bn "list" (by decide)) (da_cons (de_var 6) da_nil)))) da_nil)))))))))
/-! ### are_fewest_trips -/
abbrev s45 : Stmt := top 57
abbrev N45 : List Str := ["finds", "most", "value", "many", "lot"]
theorem sc45 : FnScope N45 ["finds", "most", "value"] (defScope s45) := ⟨rfl, rfl, rfl, by decide +kernel, rfl, by decide +kernel, by decide +kernel⟩
theorem d45 {P : Program} {w : World} {K : PySem.W.Frag} {mg : Str → Option Value} {base : Heap} {g : Glob} {k : Nat} {R : FR} (C : Cxt P w K mg base g k R) {f : Addr} (cdv : Value) (A : Around) (outer : List PySem.Env) (s : Shared) (H : Hp) (E : XK) (hr : Room k (A.deeper (PyProof.Rows.envOfC "are_fewest_trips" (defScope s45) s.heap.objs.size f cdv))) (hgd : A.guards = some []) :
    PSs (cxOf (L2.CX P w) P w K mg base N45 "are_fewest_trips" (defScope s45) f cdv A outer s H E) (defBody s45) (tS g (fun c d _ H' => E c d H') (b45 R)) := by
  have tk : Takes (cxOf (L2.CX P w) P w K mg base N45 "are_fewest_trips" (defScope s45) f cdv A outer s H E) (fun c d _ H' => E c d H') := takes_of rfl rfl rfl rfl
  have hp : PassesOwn (model P w) (cxOf (L2.CX P w) P w K mg base N45 "are_fewest_trips" (defScope s45) f cdv A outer s H E).A (cxOf (L2.CX P w) P w K mg base N45 "are_fewest_trips" (defScope s45) f cdv A outer s H E).env (cxOf (L2.CX P w) P w K mg base N45 "are_fewest_trips" (defScope s45) f cdv A outer s H E).xe := passes_of rfl
  have nd : N45.Nodup := sc45.nd
  have hc : (cxOf (L2.CX P w) P w K mg base N45 "are_fewest_trips" (defScope s45) f cdv A outer s H E).calm = true := rfl
  have uu : (A.deeper (PyProof.Rows.envOfC "are_fewest_trips" (defScope s45) s.heap.objs.size f cdv)).units + 100 < cLine := by have := hr.un; omega
  have u1 : (A.deeper (PyProof.Rows.envOfC "are_fewest_trips" (defScope s45) s.heap.objs.size f cdv)).units + 1 < cLine := by omega
  have u2 : (A.deeper (PyProof.Rows.envOfC "are_fewest_trips" (defScope s45) s.heap.objs.size f cdv)).units + 2 < cLine := by omega
  have u64 : (A.deeper (PyProof.Rows.envOfC "are_fewest_trips" (defScope s45) s.heap.objs.size f cdv)).units + 64 < cLine := by omega
  have u65 : (A.deeper (PyProof.Rows.envOfC "are_fewest_trips" (defScope s45) s.heap.objs.size f cdv)).units + 65 < cLine := by omega
  have u70 : (A.deeper (PyProof.Rows.envOfC "are_fewest_trips" (defScope s45) s.heap.objs.size f cdv)).units + 70 < cLine := by omega
  exact (dss_cons (ds_expr (de_call (C.fn 41 "check_most" ["finds", "most"] rfl) tk hr hgd (da_cons (de_var 0) (da_cons (de_var 1) da_nil)))) (dss_cons (ds_set 3 nd (de_call (C.fn 42 "trips_in" ["finds", "most"] rfl) tk hr hgd (da_cons (de_var 0) (da_cons (de_var 1) da_nil)))) (dss_cons (ds_if (PW.pt (dw_or (dt_isN (de_var 3)) (dw_or (dt_not (dt_tru (de_call (C.fn 38 "are_shared_lots" ["finds", "value"] rfl) tk hr hgd (da_cons (de_var 0) (da_cons (de_var 2) da_nil))))) (dw_or1 (dt_cmp (od_ne u64) (de_callB cd_len (C.bn "len" (by decide)) (da_cons (de_var 2) da_nil)) (de_var 3)))))) (dss_one (ds_ret de_bl)) dss_nil) (dss_one (ds_ret (de_callB (cd_all hc) (C.bn "all" (by decide)) (da_cons (de_lc false hc nd (di_any (de_var 2)) (blkOk_by (own := [("lot", 4)]) (by rfl)) (fun _ _ _ _ _ => (dg_name 4 nd)) (fun _ _ _ _ _ => dts_nil) (fun _ _ _ _ _ => (de_and (de_cmp (od_ne u64) (de_var 4) (de_lst false da_nil)) (de_one (de_cmp od_le (de_call (C.fn 9 "weight_in" ["finds", "lot"] rfl) takes0 hr hgd (da_cons (de_var 0) (da_cons (de_var 4) da_nil))) (de_var 1)))))) da_nil)))))))
/-! ### _law_hash -/
abbrev s46 : Stmt := top 59
abbrev N46 : List Str := ["seed", "index", "mixed"]
theorem sc46 : FnScope N46 ["seed", "index"] (defScope s46) := ⟨rfl, rfl, rfl, by decide +kernel, rfl, by decide +kernel, by decide +kernel⟩
theorem d46 {P : Program} {w : World} {K : PySem.W.Frag} {mg : Str → Option Value} {base : Heap} {g : Glob} {k : Nat} {R : FR} (C : Cxt P w K mg base g k R) {f : Addr} (cdv : Value) (A : Around) (outer : List PySem.Env) (s : Shared) (H : Hp) (E : XK) (hr : Room k (A.deeper (PyProof.Rows.envOfC "_law_hash" (defScope s46) s.heap.objs.size f cdv))) (hgd : A.guards = some []) :
    PSs (cxOf (L2.CX P w) P w K mg base N46 "_law_hash" (defScope s46) f cdv A outer s H E) (defBody s46) (tS g (fun c d _ H' => E c d H') (b46 R)) := by
  have tk : Takes (cxOf (L2.CX P w) P w K mg base N46 "_law_hash" (defScope s46) f cdv A outer s H E) (fun c d _ H' => E c d H') := takes_of rfl rfl rfl rfl
  have hp : PassesOwn (model P w) (cxOf (L2.CX P w) P w K mg base N46 "_law_hash" (defScope s46) f cdv A outer s H E).A (cxOf (L2.CX P w) P w K mg base N46 "_law_hash" (defScope s46) f cdv A outer s H E).env (cxOf (L2.CX P w) P w K mg base N46 "_law_hash" (defScope s46) f cdv A outer s H E).xe := passes_of rfl
  have nd : N46.Nodup := sc46.nd
  have hc : (cxOf (L2.CX P w) P w K mg base N46 "_law_hash" (defScope s46) f cdv A outer s H E).calm = true := rfl
  have uu : (A.deeper (PyProof.Rows.envOfC "_law_hash" (defScope s46) s.heap.objs.size f cdv)).units + 100 < cLine := by have := hr.un; omega
  have u1 : (A.deeper (PyProof.Rows.envOfC "_law_hash" (defScope s46) s.heap.objs.size f cdv)).units + 1 < cLine := by omega
  have u2 : (A.deeper (PyProof.Rows.envOfC "_law_hash" (defScope s46) s.heap.objs.size f cdv)).units + 2 < cLine := by omega
  have u64 : (A.deeper (PyProof.Rows.envOfC "_law_hash" (defScope s46) s.heap.objs.size f cdv)).units + 64 < cLine := by omega
  have u65 : (A.deeper (PyProof.Rows.envOfC "_law_hash" (defScope s46) s.heap.objs.size f cdv)).units + 65 < cLine := by omega
  have u70 : (A.deeper (PyProof.Rows.envOfC "_law_hash" (defScope s46) s.heap.objs.size f cdv)).units + 70 < cLine := by omega
  exact (dss_cons (ds_set 2 nd (de_bin od_mod (de_callTy cd_int (C.bn "int" (by decide)) (da_cons (de_bin od_add (de_bin od_add (de_bin od_add (de_bin od_mul (de_var 0) de_int) (de_bin od_mul (de_bin od_mul de_int (de_var 1)) (de_var 1))) (de_bin od_mul de_int (de_var 1))) de_int) da_nil)) de_int)) (dss_cons (ds_set 2 nd (de_bin od_mod (de_callTy cd_int (C.bn "int" (by decide)) (da_cons (de_bin od_add (de_bin od_add (de_bin od_mul (de_var 2) (de_var 2)) (de_bin od_mul de_int (de_var 1))) de_int) da_nil)) de_int)) (dss_one (ds_ret (de_bin od_mod (de_callTy cd_int (C.bn "int" (by decide)) (da_cons (de_bin od_mul (de_var 2) de_int) da_nil)) de_int)))))
/-! ### _law_cell -/
abbrev s47 : Stmt := top 60
abbrev N47 : List Str := ["script", "index"]
theorem sc47 : FnScope N47 ["script", "index"] (defScope s47) := ⟨rfl, rfl, rfl, by decide +kernel, rfl, by decide +kernel, by decide +kernel⟩
theorem d47 {P : Program} {w : World} {K : PySem.W.Frag} {mg : Str → Option Value} {base : Heap} {g : Glob} {k : Nat} {R : FR} (C : Cxt P w K mg base g k R) {f : Addr} (cdv : Value) (A : Around) (outer : List PySem.Env) (s : Shared) (H : Hp) (E : XK) (hr : Room k (A.deeper (PyProof.Rows.envOfC "_law_cell" (defScope s47) s.heap.objs.size f cdv))) (hgd : A.guards = some []) :
    PSs (cxOf (L2.CX P w) P w K mg base N47 "_law_cell" (defScope s47) f cdv A outer s H E) (defBody s47) (tS g (fun c d _ H' => E c d H') (b47 R)) := by
  have tk : Takes (cxOf (L2.CX P w) P w K mg base N47 "_law_cell" (defScope s47) f cdv A outer s H E) (fun c d _ H' => E c d H') := takes_of rfl rfl rfl rfl
  have hp : PassesOwn (model P w) (cxOf (L2.CX P w) P w K mg base N47 "_law_cell" (defScope s47) f cdv A outer s H E).A (cxOf (L2.CX P w) P w K mg base N47 "_law_cell" (defScope s47) f cdv A outer s H E).env (cxOf (L2.CX P w) P w K mg base N47 "_law_cell" (defScope s47) f cdv A outer s H E).xe := passes_of rfl
  have nd : N47.Nodup := sc47.nd
  have hc : (cxOf (L2.CX P w) P w K mg base N47 "_law_cell" (defScope s47) f cdv A outer s H E).calm = true := rfl
  have uu : (A.deeper (PyProof.Rows.envOfC "_law_cell" (defScope s47) s.heap.objs.size f cdv)).units + 100 < cLine := by have := hr.un; omega
  have u1 : (A.deeper (PyProof.Rows.envOfC "_law_cell" (defScope s47) s.heap.objs.size f cdv)).units + 1 < cLine := by omega
  have u2 : (A.deeper (PyProof.Rows.envOfC "_law_cell" (defScope s47) s.heap.objs.size f cdv)).units + 2 < cLine := by omega
  have u64 : (A.deeper (PyProof.Rows.envOfC "_law_cell" (defScope s47) s.heap.objs.size f cdv)).units + 64 < cLine := by omega
  have u65 : (A.deeper (PyProof.Rows.envOfC "_law_cell" (defScope s47) s.heap.objs.size f cdv)).units + 65 < cLine := by omega
  have u70 : (A.deeper (PyProof.Rows.envOfC "_law_cell" (defScope s47) s.heap.objs.size f cdv)).units + 70 < cLine := by omega
  exact (dss_cons (ds_if (dt_cmp od_lt (de_var 1) (de_lenS C.hK (C.bn "len" (by decide)) (de_var 0))) (dss_one (ds_ret (de_ixS C.hK (de_var 0) (de_var 1)))) dss_nil) (dss_one (ds_ret (de_bin od_mod (de_callB (cd_sum hc) (C.bn "sum" (by decide)) (da_cons (de_sliceS C.hK (de_var 0) do_none (do_some de_int)) da_nil)) de_int))))
/-! ### _law_generator -/
abbrev s48 : Stmt := top 61
abbrev N48 : List Str := ["script", "index", "seed"]
theorem sc48 : FnScope N48 ["script", "index"] (defScope s48) := ⟨rfl, rfl, rfl, by decide +kernel, rfl, by decide +kernel, by decide +kernel⟩
theorem d48 {P : Program} {w : World} {K : PySem.W.Frag} {mg : Str → Option Value} {base : Heap} {g : Glob} {k : Nat} {R : FR} (C : Cxt P w K mg base g k R) {f : Addr} (cdv : Value) (A : Around) (outer : List PySem.Env) (s : Shared) (H : Hp) (E : XK) (hr : Room k (A.deeper (PyProof.Rows.envOfC "_law_generator" (defScope s48) s.heap.objs.size f cdv))) (hgd : A.guards = some []) :
    PSs (cxOf (L2.CX P w) P w K mg base N48 "_law_generator" (defScope s48) f cdv A outer s H E) (defBody s48) (tS g (fun c d _ H' => E c d H') (b48 R)) := by
  have tk : Takes (cxOf (L2.CX P w) P w K mg base N48 "_law_generator" (defScope s48) f cdv A outer s H E) (fun c d _ H' => E c d H') := takes_of rfl rfl rfl rfl
  have hp : PassesOwn (model P w) (cxOf (L2.CX P w) P w K mg base N48 "_law_generator" (defScope s48) f cdv A outer s H E).A (cxOf (L2.CX P w) P w K mg base N48 "_law_generator" (defScope s48) f cdv A outer s H E).env (cxOf (L2.CX P w) P w K mg base N48 "_law_generator" (defScope s48) f cdv A outer s H E).xe := passes_of rfl
  have nd : N48.Nodup := sc48.nd
  have hc : (cxOf (L2.CX P w) P w K mg base N48 "_law_generator" (defScope s48) f cdv A outer s H E).calm = true := rfl
  have uu : (A.deeper (PyProof.Rows.envOfC "_law_generator" (defScope s48) s.heap.objs.size f cdv)).units + 100 < cLine := by have := hr.un; omega
  have u1 : (A.deeper (PyProof.Rows.envOfC "_law_generator" (defScope s48) s.heap.objs.size f cdv)).units + 1 < cLine := by omega
  have u2 : (A.deeper (PyProof.Rows.envOfC "_law_generator" (defScope s48) s.heap.objs.size f cdv)).units + 2 < cLine := by omega
  have u64 : (A.deeper (PyProof.Rows.envOfC "_law_generator" (defScope s48) s.heap.objs.size f cdv)).units + 64 < cLine := by omega
  have u65 : (A.deeper (PyProof.Rows.envOfC "_law_generator" (defScope s48) s.heap.objs.size f cdv)).units + 65 < cLine := by omega
  have u70 : (A.deeper (PyProof.Rows.envOfC "_law_generator" (defScope s48) s.heap.objs.size f cdv)).units + 70 < cLine := by omega
  exact (dss_cons (ds_set 2 nd (de_call (C.fn 47 "_law_cell" ["script", "index"] rfl) tk hr hgd (da_cons (de_var 0) (da_cons (de_var 1) da_nil)))) (dss_one (ds_ret (de_lst true (da_cons (de_bin od_mod (de_callTy cd_int (C.bn "int" (by decide)) (da_cons (de_callB (cd_max2 hc) (C.bn "max" (by decide)) (da_cons (de_bin od_sub (de_var 2) (de_bin od_pow de_int de_int)) (da_cons de_int da_nil))) da_nil)) (de_bin od_pow (de_bin od_pow de_int de_int) de_int)) (da_cons (de_bin od_mod (de_callTy cd_int (C.bn "int" (by decide)) (da_cons (de_var 2) da_nil)) de_int) (da_cons (de_bin od_mul de_int (de_var 1)) da_nil)))))))
/-! ### _law_random -/
abbrev s49 : Stmt := top 62
abbrev N49 : List Str := ["generator", "bound", "drawn", "turn"]
theorem sc49 : FnScope N49 ["generator", "bound"] (defScope s49) := ⟨rfl, rfl, rfl, by decide +kernel, rfl, by decide +kernel, by decide +kernel⟩
theorem d49 {P : Program} {w : World} {K : PySem.W.Frag} {mg : Str → Option Value} {base : Heap} {g : Glob} {k : Nat} {R : FR} (C : Cxt P w K mg base g k R) {f : Addr} (cdv : Value) (A : Around) (outer : List PySem.Env) (s : Shared) (H : Hp) (E : XK) (hr : Room k (A.deeper (PyProof.Rows.envOfC "_law_random" (defScope s49) s.heap.objs.size f cdv))) (hgd : A.guards = some []) :
    PSs (cxOf (L2.CX P w) P w K mg base N49 "_law_random" (defScope s49) f cdv A outer s H E) (defBody s49) (tS g (fun c d _ H' => E c d H') (b49 R)) := by
  have tk : Takes (cxOf (L2.CX P w) P w K mg base N49 "_law_random" (defScope s49) f cdv A outer s H E) (fun c d _ H' => E c d H') := takes_of rfl rfl rfl rfl
  have hp : PassesOwn (model P w) (cxOf (L2.CX P w) P w K mg base N49 "_law_random" (defScope s49) f cdv A outer s H E).A (cxOf (L2.CX P w) P w K mg base N49 "_law_random" (defScope s49) f cdv A outer s H E).env (cxOf (L2.CX P w) P w K mg base N49 "_law_random" (defScope s49) f cdv A outer s H E).xe := passes_of rfl
  have nd : N49.Nodup := sc49.nd
  have hc : (cxOf (L2.CX P w) P w K mg base N49 "_law_random" (defScope s49) f cdv A outer s H E).calm = true := rfl
  have uu : (A.deeper (PyProof.Rows.envOfC "_law_random" (defScope s49) s.heap.objs.size f cdv)).units + 100 < cLine := by have := hr.un; omega
  have u1 : (A.deeper (PyProof.Rows.envOfC "_law_random" (defScope s49) s.heap.objs.size f cdv)).units + 1 < cLine := by omega
  have u2 : (A.deeper (PyProof.Rows.envOfC "_law_random" (defScope s49) s.heap.objs.size f cdv)).units + 2 < cLine := by omega
  have u64 : (A.deeper (PyProof.Rows.envOfC "_law_random" (defScope s49) s.heap.objs.size f cdv)).units + 64 < cLine := by omega
  have u65 : (A.deeper (PyProof.Rows.envOfC "_law_random" (defScope s49) s.heap.objs.size f cdv)).units + 65 < cLine := by omega
  have u70 : (A.deeper (PyProof.Rows.envOfC "_law_random" (defScope s49) s.heap.objs.size f cdv)).units + 70 < cLine := by omega
  exact (dss_cons (ds_if (dt_cmp od_gt (de_ix (xd_ix u1) (de_var 0) de_int) de_int) (dss_cons (ds_set 2 nd (de_bin od_mod (de_callTy cd_int (C.bn "int" (by decide)) (da_cons (de_ix (xd_ix u1) (de_var 0) de_int) da_nil)) (de_var 1))) (dss_cons (ds_put u1 (de_var 0) de_int (de_bin od_fdiv (de_ix (xd_ix u1) (de_var 0) de_int) (de_var 1))) (dss_one (ds_ret (de_var 2))))) dss_nil) (dss_cons (ds_set 2 nd de_int) (dss_cons (ds_for hp hc (di_range1 (C.bn "range" (by decide)) (da_cons (de_bin od_add de_int (de_bin od_fdiv (de_bits (de_var 1)) de_int)) da_nil)) (dg_name 3 nd) (dss_cons (ds_put u1 (de_var 0) de_int (de_bin od_add (de_ix (xd_ix u1) (de_var 0) de_int) de_int)) (dss_one (ds_set 2 nd (de_bin od_add (de_bin od_mul (de_var 2) de_int) (de_call (C.fn 46 "_law_hash" ["seed", "index"] rfl) tk hr hgd (da_cons (de_ix (xd_ix u1) (de_var 0) de_int) (da_cons (de_ix (xd_ix u1) (de_var 0) de_int) da_nil)))))))) (dss_one (ds_ret (de_bin od_mod (de_callTy cd_int (C.bn "int" (by decide)) (da_cons (de_var 2) da_nil)) (de_var 1)))))))
/-! ### _law_drawn_order -/
abbrev s50 : Stmt := top 63
abbrev N50 : List Str := ["generator", "things", "left", "found"]
theorem sc50 : FnScope N50 ["generator", "things"] (defScope s50) := ⟨rfl, rfl, rfl, by decide +kernel, rfl, by decide +kernel, by decide +kernel⟩
theorem d50 {P : Program} {w : World} {K : PySem.W.Frag} {mg : Str → Option Value} {base : Heap} {g : Glob} {k : Nat} {R : FR} (C : Cxt P w K mg base g k R) {f : Addr} (cdv : Value) (A : Around) (outer : List PySem.Env) (s : Shared) (H : Hp) (E : XK) (hr : Room k (A.deeper (PyProof.Rows.envOfC "_law_drawn_order" (defScope s50) s.heap.objs.size f cdv))) (hgd : A.guards = some []) :
    PSs (cxOf (L2.CX P w) P w K mg base N50 "_law_drawn_order" (defScope s50) f cdv A outer s H E) (defBody s50) (tS g (fun c d _ H' => E c d H') (b50 R)) := by
  have tk : Takes (cxOf (L2.CX P w) P w K mg base N50 "_law_drawn_order" (defScope s50) f cdv A outer s H E) (fun c d _ H' => E c d H') := takes_of rfl rfl rfl rfl
  have hp : PassesOwn (model P w) (cxOf (L2.CX P w) P w K mg base N50 "_law_drawn_order" (defScope s50) f cdv A outer s H E).A (cxOf (L2.CX P w) P w K mg base N50 "_law_drawn_order" (defScope s50) f cdv A outer s H E).env (cxOf (L2.CX P w) P w K mg base N50 "_law_drawn_order" (defScope s50) f cdv A outer s H E).xe := passes_of rfl
  have nd : N50.Nodup := sc50.nd
  have hc : (cxOf (L2.CX P w) P w K mg base N50 "_law_drawn_order" (defScope s50) f cdv A outer s H E).calm = true := rfl
  have uu : (A.deeper (PyProof.Rows.envOfC "_law_drawn_order" (defScope s50) s.heap.objs.size f cdv)).units + 100 < cLine := by have := hr.un; omega
  have u1 : (A.deeper (PyProof.Rows.envOfC "_law_drawn_order" (defScope s50) s.heap.objs.size f cdv)).units + 1 < cLine := by omega
  have u2 : (A.deeper (PyProof.Rows.envOfC "_law_drawn_order" (defScope s50) s.heap.objs.size f cdv)).units + 2 < cLine := by omega
  have u64 : (A.deeper (PyProof.Rows.envOfC "_law_drawn_order" (defScope s50) s.heap.objs.size f cdv)).units + 64 < cLine := by omega
  have u65 : (A.deeper (PyProof.Rows.envOfC "_law_drawn_order" (defScope s50) s.heap.objs.size f cdv)).units + 65 < cLine := by omega
  have u70 : (A.deeper (PyProof.Rows.envOfC "_law_drawn_order" (defScope s50) s.heap.objs.size f cdv)).units + 70 < cLine := by omega
  exact (dss_cons (ds_par 2 3 hc nd (da_cons (de_mkTy true md_list (C.bn "list" (by decide)) (da_cons (de_var 1) da_nil)) (da_cons (de_lst true da_nil) da_nil))) (dss_cons (ds_while 100 hp (dt_cmp (od_ne u64) (de_var 2) (de_lst false da_nil)) (dss_one (ds_expr (de_meth PySem.F.slot_list_append PySem.F.type_list_append mt_append me_app (de_var 3) (da_cons (de_meth PySem.F.slot_list_pop PySem.F.type_list_pop mt_popAt me_popAt (de_var 2) (da_cons (de_call (C.fn 49 "_law_random" ["generator", "bound"] rfl) tk hr hgd (da_cons (de_var 0) (da_cons (de_callB cd_len (C.bn "len" (by decide)) (da_cons (de_var 2) da_nil)) da_nil))) da_nil)) da_nil))))) (dss_one (ds_ret (de_frz (de_var 3))))))
/-! ### _law_call -/
abbrev s51 : Stmt := top 64
abbrev N51 : List Str := ["door", "finds", "bags", "other"]
theorem sc51 : FnScope N51 ["door", "finds", "bags", "other"] (defScope s51) := ⟨rfl, rfl, rfl, by decide +kernel, rfl, by decide +kernel, by decide +kernel⟩
theorem d51 {P : Program} {w : World} {K : PySem.W.Frag} {mg : Str → Option Value} {base : Heap} {g : Glob} {k : Nat} {R : FR} (C : Cxt P w K mg base g k R) {f : Addr} (cdv : Value) (A : Around) (outer : List PySem.Env) (s : Shared) (H : Hp) (E : XK) (hr : Room k (A.deeper (PyProof.Rows.envOfC "_law_call" (defScope s51) s.heap.objs.size f cdv))) (hgd : A.guards = some []) :
    PSs (cxOf (L2.CX P w) P w K mg base N51 "_law_call" (defScope s51) f cdv A outer s H E) (defBody s51) (tS g (fun c d _ H' => E c d H') (b51 R)) := by
  have tk : Takes (cxOf (L2.CX P w) P w K mg base N51 "_law_call" (defScope s51) f cdv A outer s H E) (fun c d _ H' => E c d H') := takes_of rfl rfl rfl rfl
  have hp : PassesOwn (model P w) (cxOf (L2.CX P w) P w K mg base N51 "_law_call" (defScope s51) f cdv A outer s H E).A (cxOf (L2.CX P w) P w K mg base N51 "_law_call" (defScope s51) f cdv A outer s H E).env (cxOf (L2.CX P w) P w K mg base N51 "_law_call" (defScope s51) f cdv A outer s H E).xe := passes_of rfl
  have nd : N51.Nodup := sc51.nd
  have hc : (cxOf (L2.CX P w) P w K mg base N51 "_law_call" (defScope s51) f cdv A outer s H E).calm = true := rfl
  have uu : (A.deeper (PyProof.Rows.envOfC "_law_call" (defScope s51) s.heap.objs.size f cdv)).units + 100 < cLine := by have := hr.un; omega
  have u1 : (A.deeper (PyProof.Rows.envOfC "_law_call" (defScope s51) s.heap.objs.size f cdv)).units + 1 < cLine := by omega
  have u2 : (A.deeper (PyProof.Rows.envOfC "_law_call" (defScope s51) s.heap.objs.size f cdv)).units + 2 < cLine := by omega
  have u64 : (A.deeper (PyProof.Rows.envOfC "_law_call" (defScope s51) s.heap.objs.size f cdv)).units + 64 < cLine := by omega
  have u65 : (A.deeper (PyProof.Rows.envOfC "_law_call" (defScope s51) s.heap.objs.size f cdv)).units + 65 < cLine := by omega
  have u70 : (A.deeper (PyProof.Rows.envOfC "_law_call" (defScope s51) s.heap.objs.size f cdv)).units + 70 < cLine := by omega
  exact (dss_cons (ds_if (dt_cmp (od_eq u64) (de_var 0) de_int) (dss_one (ds_ret (de_call (C.fn 12 "is_carrying" ["finds", "bags", "value"] rfl) tk hr hgd (da_cons (de_var 3) (da_cons de_non (da_cons de_non da_nil)))))) dss_nil) (dss_cons (ds_if (dt_cmp (od_eq u64) (de_var 0) de_int) (dss_one (ds_ret (de_call (C.fn 12 "is_carrying" ["finds", "bags", "value"] rfl) tk hr hgd (da_cons (de_var 1) (da_cons (de_var 3) (da_cons de_non da_nil)))))) dss_nil) (dss_cons (ds_if (dt_cmp (od_eq u64) (de_var 0) de_int) (dss_one (ds_ret (de_call (C.fn 14 "worth_carried" ["finds", "bags", "carrying"] rfl) tk hr hgd (da_cons (de_var 3) (da_cons de_non (da_cons de_non da_nil)))))) dss_nil) (dss_cons (ds_if (dt_cmp (od_eq u64) (de_var 0) de_int) (dss_one (ds_ret (de_call (C.fn 14 "worth_carried" ["finds", "bags", "carrying"] rfl) tk hr hgd (da_cons (de_var 1) (da_cons (de_var 3) (da_cons de_non da_nil)))))) dss_nil) (dss_cons (ds_if (dt_cmp (od_eq u64) (de_var 0) de_int) (dss_one (ds_ret (de_call (C.fn 14 "worth_carried" ["finds", "bags", "carrying"] rfl) tk hr hgd (da_cons (de_var 1) (da_cons (de_var 2) (da_cons (de_var 3) da_nil)))))) dss_nil) (dss_cons (ds_if (dt_cmp (od_eq u64) (de_var 0) de_int) (dss_one (ds_ret (de_call (C.fn 19 "how_many_carryings" ["finds", "bags"] rfl) tk hr hgd (da_cons (de_var 3) (da_cons de_non da_nil))))) dss_nil) (dss_cons (ds_if (dt_cmp (od_eq u64) (de_var 0) de_int) (dss_one (ds_ret (de_call (C.fn 19 "how_many_carryings" ["finds", "bags"] rfl) tk hr hgd (da_cons (de_var 1) (da_cons (de_var 3) da_nil))))) dss_nil) (dss_cons (ds_if (dt_cmp (od_eq u64) (de_var 0) de_int) (dss_one (ds_ret (de_call (C.fn 25 "all_carried" ["finds", "bags"] rfl) tk hr hgd (da_cons (de_var 3) (da_cons de_non da_nil))))) dss_nil) (dss_cons (ds_if (dt_cmp (od_eq u64) (de_var 0) de_int) (dss_one (ds_ret (de_call (C.fn 25 "all_carried" ["finds", "bags"] rfl) tk hr hgd (da_cons (de_var 1) (da_cons (de_var 3) da_nil))))) dss_nil) (dss_cons (ds_if (dt_cmp (od_eq u64) (de_var 0) de_int) (dss_one (ds_ret (de_call (C.fn 22 "most_worth" ["finds", "bags"] rfl) tk hr hgd (da_cons (de_var 3) (da_cons de_non da_nil))))) dss_nil) (dss_cons (ds_if (dt_cmp (od_eq u64) (de_var 0) de_int) (dss_one (ds_ret (de_call (C.fn 22 "most_worth" ["finds", "bags"] rfl) tk hr hgd (da_cons (de_var 1) (da_cons (de_var 3) da_nil))))) dss_nil) (dss_cons (ds_if (dt_cmp (od_eq u64) (de_var 0) de_int) (dss_one (ds_ret (de_call (C.fn 27 "best_carrying" ["finds", "bags"] rfl) tk hr hgd (da_cons (de_var 3) (da_cons de_non da_nil))))) dss_nil) (dss_cons (ds_if (dt_cmp (od_eq u64) (de_var 0) de_int) (dss_one (ds_ret (de_call (C.fn 27 "best_carrying" ["finds", "bags"] rfl) tk hr hgd (da_cons (de_var 1) (da_cons (de_var 3) da_nil))))) dss_nil) (dss_cons (ds_if (dt_cmp (od_eq u64) (de_var 0) de_int) (dss_one (ds_ret (de_call (C.fn 28 "is_best_carrying" ["finds", "bags", "value"] rfl) tk hr hgd (da_cons (de_var 3) (da_cons de_non (da_cons de_non da_nil)))))) dss_nil) (dss_cons (ds_if (dt_cmp (od_eq u64) (de_var 0) de_int) (dss_one (ds_ret (de_call (C.fn 28 "is_best_carrying" ["finds", "bags", "value"] rfl) tk hr hgd (da_cons (de_var 1) (da_cons (de_var 3) (da_cons de_non da_nil)))))) dss_nil) (dss_cons (ds_if (dt_cmp (od_eq u64) (de_var 0) de_int) (dss_one (ds_ret (de_call (C.fn 29 "needed_finds" ["finds", "bags"] rfl) tk hr hgd (da_cons (de_var 3) (da_cons de_non da_nil))))) dss_nil) (dss_cons (ds_if (dt_cmp (od_eq u64) (de_var 0) de_int) (dss_one (ds_ret (de_call (C.fn 29 "needed_finds" ["finds", "bags"] rfl) tk hr hgd (da_cons (de_var 1) (da_cons (de_var 3) da_nil))))) dss_nil) (dss_one (ds_ret (de_call (C.fn 52 "_law_further" ["door", "finds", "other"] rfl) tk hr hgd (da_cons (de_var 0) (da_cons (de_var 1) (da_cons (de_var 3) da_nil)))))))))))))))))))))))
/-! ### _law_further -/
abbrev s52 : Stmt := top 65
abbrev N52 : List Str := ["door", "finds", "other"]
theorem sc52 : FnScope N52 ["door", "finds", "other"] (defScope s52) := ⟨rfl, rfl, rfl, by decide +kernel, rfl, by decide +kernel, by decide +kernel⟩
theorem d52 {P : Program} {w : World} {K : PySem.W.Frag} {mg : Str → Option Value} {base : Heap} {g : Glob} {k : Nat} {R : FR} (C : Cxt P w K mg base g k R) {f : Addr} (cdv : Value) (A : Around) (outer : List PySem.Env) (s : Shared) (H : Hp) (E : XK) (hr : Room k (A.deeper (PyProof.Rows.envOfC "_law_further" (defScope s52) s.heap.objs.size f cdv))) (hgd : A.guards = some []) :
    PSs (cxOf (L2.CX P w) P w K mg base N52 "_law_further" (defScope s52) f cdv A outer s H E) (defBody s52) (tS g (fun c d _ H' => E c d H') (b52 R)) := by
  have tk : Takes (cxOf (L2.CX P w) P w K mg base N52 "_law_further" (defScope s52) f cdv A outer s H E) (fun c d _ H' => E c d H') := takes_of rfl rfl rfl rfl
  have hp : PassesOwn (model P w) (cxOf (L2.CX P w) P w K mg base N52 "_law_further" (defScope s52) f cdv A outer s H E).A (cxOf (L2.CX P w) P w K mg base N52 "_law_further" (defScope s52) f cdv A outer s H E).env (cxOf (L2.CX P w) P w K mg base N52 "_law_further" (defScope s52) f cdv A outer s H E).xe := passes_of rfl
  have nd : N52.Nodup := sc52.nd
  have hc : (cxOf (L2.CX P w) P w K mg base N52 "_law_further" (defScope s52) f cdv A outer s H E).calm = true := rfl
  have uu : (A.deeper (PyProof.Rows.envOfC "_law_further" (defScope s52) s.heap.objs.size f cdv)).units + 100 < cLine := by have := hr.un; omega
  have u1 : (A.deeper (PyProof.Rows.envOfC "_law_further" (defScope s52) s.heap.objs.size f cdv)).units + 1 < cLine := by omega
  have u2 : (A.deeper (PyProof.Rows.envOfC "_law_further" (defScope s52) s.heap.objs.size f cdv)).units + 2 < cLine := by omega
  have u64 : (A.deeper (PyProof.Rows.envOfC "_law_further" (defScope s52) s.heap.objs.size f cdv)).units + 64 < cLine := by omega
  have u65 : (A.deeper (PyProof.Rows.envOfC "_law_further" (defScope s52) s.heap.objs.size f cdv)).units + 65 < cLine := by omega
  have u70 : (A.deeper (PyProof.Rows.envOfC "_law_further" (defScope s52) s.heap.objs.size f cdv)).units + 70 < cLine := by omega
  exact (dss_cons (ds_if (dt_cmp (od_eq u64) (de_var 0) de_int) (dss_one (ds_ret (de_call (C.fn 31 "left_finds" ["finds", "bags"] rfl) tk hr hgd (da_cons (de_var 2) (da_cons de_non da_nil))))) dss_nil) (dss_cons (ds_if (dt_cmp (od_eq u64) (de_var 0) de_int) (dss_one (ds_ret (de_call (C.fn 31 "left_finds" ["finds", "bags"] rfl) tk hr hgd (da_cons (de_var 1) (da_cons (de_var 2) da_nil))))) dss_nil) (dss_cons (ds_if (dt_cmp (od_eq u64) (de_var 0) de_int) (dss_one (ds_ret (de_call (C.fn 35 "least_heaviest" ["finds", "many"] rfl) tk hr hgd (da_cons (de_var 2) (da_cons de_non da_nil))))) dss_nil) (dss_cons (ds_if (dt_cmp (od_eq u64) (de_var 0) de_int) (dss_one (ds_ret (de_call (C.fn 35 "least_heaviest" ["finds", "many"] rfl) tk hr hgd (da_cons (de_var 1) (da_cons (de_var 2) da_nil))))) dss_nil) (dss_cons (ds_if (dt_cmp (od_eq u64) (de_var 0) de_int) (dss_one (ds_ret (de_call (C.fn 37 "even_lots" ["finds", "many"] rfl) tk hr hgd (da_cons (de_var 2) (da_cons de_non da_nil))))) dss_nil) (dss_cons (ds_if (dt_cmp (od_eq u64) (de_var 0) de_int) (dss_one (ds_ret (de_call (C.fn 37 "even_lots" ["finds", "many"] rfl) tk hr hgd (da_cons (de_var 1) (da_cons (de_var 2) da_nil))))) dss_nil) (dss_cons (ds_if (dt_cmp (od_eq u64) (de_var 0) de_int) (dss_one (ds_ret (de_call (C.fn 39 "are_even_lots" ["finds", "many", "value"] rfl) tk hr hgd (da_cons (de_var 2) (da_cons de_non (da_cons de_non da_nil)))))) dss_nil) (dss_cons (ds_if (dt_cmp (od_eq u64) (de_var 0) de_int) (dss_one (ds_ret (de_call (C.fn 39 "are_even_lots" ["finds", "many", "value"] rfl) tk hr hgd (da_cons (de_var 1) (da_cons (de_var 2) (da_cons de_non da_nil)))))) dss_nil) (dss_cons (ds_if (dt_cmp (od_eq u64) (de_var 0) de_int) (dss_one (ds_ret (de_call (C.fn 40 "dealt_lots" ["finds", "many"] rfl) tk hr hgd (da_cons (de_var 2) (da_cons de_non da_nil))))) dss_nil) (dss_cons (ds_if (dt_cmp (od_eq u64) (de_var 0) de_int) (dss_one (ds_ret (de_call (C.fn 40 "dealt_lots" ["finds", "many"] rfl) tk hr hgd (da_cons (de_var 1) (da_cons (de_var 2) da_nil))))) dss_nil) (dss_cons (ds_if (dt_cmp (od_eq u64) (de_var 0) de_int) (dss_one (ds_ret (de_call (C.fn 43 "fewest_trips" ["finds", "most"] rfl) tk hr hgd (da_cons (de_var 2) (da_cons de_non da_nil))))) dss_nil) (dss_cons (ds_if (dt_cmp (od_eq u64) (de_var 0) de_int) (dss_one (ds_ret (de_call (C.fn 43 "fewest_trips" ["finds", "most"] rfl) tk hr hgd (da_cons (de_var 1) (da_cons (de_var 2) da_nil))))) dss_nil) (dss_cons (ds_if (dt_cmp (od_eq u64) (de_var 0) de_int) (dss_one (ds_ret (de_call (C.fn 44 "first_trips" ["finds", "most"] rfl) tk hr hgd (da_cons (de_var 2) (da_cons de_non da_nil))))) dss_nil) (dss_cons (ds_if (dt_cmp (od_eq u64) (de_var 0) de_int) (dss_one (ds_ret (de_call (C.fn 44 "first_trips" ["finds", "most"] rfl) tk hr hgd (da_cons (de_var 1) (da_cons (de_var 2) da_nil))))) dss_nil) (dss_one (ds_ret (de_ifE (dt_cmp (od_eq u64) (de_var 0) de_int) (de_call (C.fn 45 "are_fewest_trips" ["finds", "most", "value"] rfl) tk hr hgd (da_cons (de_var 2) (da_cons de_non (da_cons de_non da_nil)))) (de_call (C.fn 45 "are_fewest_trips" ["finds", "most", "value"] rfl) tk hr hgd (da_cons (de_var 1) (da_cons (de_var 2) (da_cons de_non da_nil)))))))))))))))))))))
/-! ### _law_caught -/
abbrev s53 : Stmt := top 66
abbrev N53 : List Str := ["door", "finds", "bags", "other", "caught", "shown", "error", "kinds"]
theorem sc53 : FnScope N53 ["door", "finds", "bags", "other"] (defScope s53) := ⟨rfl, rfl, rfl, by decide +kernel, rfl, by decide +kernel, by decide +kernel⟩
theorem d53 {P : Program} {w : World} {K : PySem.W.Frag} {mg : Str → Option Value} {base : Heap} {g : Glob} {k : Nat} {R : FR} (C : Cxt P w K mg base g k R) {f : Addr} (cdv : Value) (A : Around) (outer : List PySem.Env) (s : Shared) (H : Hp) (E : XK) (hr : Room k (A.deeper (PyProof.Rows.envOfC "_law_caught" (defScope s53) s.heap.objs.size f cdv))) (hgd : A.guards = some []) :
    PSs (cxOf (L2.CX P w) P w K mg base N53 "_law_caught" (defScope s53) f cdv A outer s H E) (defBody s53) (tS g (fun c d _ H' => E c d H') (b53 R)) := by
  have tk : Takes (cxOf (L2.CX P w) P w K mg base N53 "_law_caught" (defScope s53) f cdv A outer s H E) (fun c d _ H' => E c d H') := takes_of rfl rfl rfl rfl
  have hp : PassesOwn (model P w) (cxOf (L2.CX P w) P w K mg base N53 "_law_caught" (defScope s53) f cdv A outer s H E).A (cxOf (L2.CX P w) P w K mg base N53 "_law_caught" (defScope s53) f cdv A outer s H E).env (cxOf (L2.CX P w) P w K mg base N53 "_law_caught" (defScope s53) f cdv A outer s H E).xe := passes_of rfl
  have nd : N53.Nodup := sc53.nd
  have hc : (cxOf (L2.CX P w) P w K mg base N53 "_law_caught" (defScope s53) f cdv A outer s H E).calm = true := rfl
  have uu : (A.deeper (PyProof.Rows.envOfC "_law_caught" (defScope s53) s.heap.objs.size f cdv)).units + 100 < cLine := by have := hr.un; omega
  have u1 : (A.deeper (PyProof.Rows.envOfC "_law_caught" (defScope s53) s.heap.objs.size f cdv)).units + 1 < cLine := by omega
  have u2 : (A.deeper (PyProof.Rows.envOfC "_law_caught" (defScope s53) s.heap.objs.size f cdv)).units + 2 < cLine := by omega
  have u64 : (A.deeper (PyProof.Rows.envOfC "_law_caught" (defScope s53) s.heap.objs.size f cdv)).units + 64 < cLine := by omega
  have u65 : (A.deeper (PyProof.Rows.envOfC "_law_caught" (defScope s53) s.heap.objs.size f cdv)).units + 65 < cLine := by omega
  have u70 : (A.deeper (PyProof.Rows.envOfC "_law_caught" (defScope s53) s.heap.objs.size f cdv)).units + 70 < cLine := by omega
  exact (dss_cons (ds_par 4 5 hc nd (da_cons de_non (da_cons (de_callB (cd_repr C.sys hgd u70) (C.bn "repr" (by decide)) (da_cons (de_lst false (da_cons (de_var 1) (da_cons (de_var 2) (da_cons (de_var 3) da_nil)))) da_nil)) da_nil))) (dss_cons (ds_try (i := 6) (j := 4) C.err rfl rfl rfl nd rfl rfl rfl rfl (by decide) rfl (by decide) (by decide) (fun W pn xe tk' hp' => (dss_one (ds_expr (de_call (C.fn 51 "_law_call" ["door", "finds", "bags", "other"] rfl) tk' hr hgd (da_cons (de_var 0) (da_cons (de_var 1) (da_cons (de_var 2) (da_cons (de_var 3) da_nil))))))))) (dss_cons (ds_if (PW.pt (dw_or (dt_cmp (od_ne u64) (de_callB (cd_repr C.sys hgd u70) (C.bn "repr" (by decide)) (da_cons (de_lst false (da_cons (de_var 1) (da_cons (de_var 2) (da_cons (de_var 3) da_nil)))) da_nil)) (de_var 5)) (dw_or1 (dt_isN (de_var 4))))) (dss_one (ds_ret de_non)) dss_nil) (dss_cons (ds_set 7 nd (de_lst false (da_cons (de_isX 1 C.err (C.gC 1 "InvalidFinds" rfl) (by decide) (C.bn "isinstance" (by decide)) (de_var 4)) (da_cons (de_isX 2 C.err (C.gC 2 "InvalidBags" rfl) (by decide) (C.bn "isinstance" (by decide)) (de_var 4)) (da_cons (de_isX 3 C.err (C.gC 3 "InvalidCarrying" rfl) (by decide) (C.bn "isinstance" (by decide)) (de_var 4)) (da_cons (de_isX 0 C.err (C.gC 0 "InvalidNumber" rfl) (by decide) (C.bn "isinstance" (by decide)) (de_var 4)) da_nil)))))) (dss_one (ds_ret (de_bin od_add (de_var 7) (de_lst false (da_cons (de_callB (cd_repr C.sys hgd u70) (C.bn "repr" (by decide)) (da_cons (de_value C.err (de_var 4)) da_nil)) da_nil)))))))))
/-! ### _law_odds -/
abbrev s54 : Stmt := top 67
abbrev N54 : List Str := ["kind", "found"]
theorem sc54 : FnScope N54 ["kind"] (defScope s54) := ⟨rfl, rfl, rfl, by decide +kernel, rfl, by decide +kernel, by decide +kernel⟩
theorem d54 {P : Program} {w : World} {K : PySem.W.Frag} {mg : Str → Option Value} {base : Heap} {g : Glob} {k : Nat} {R : FR} (C : Cxt P w K mg base g k R) {f : Addr} (cdv : Value) (A : Around) (outer : List PySem.Env) (s : Shared) (H : Hp) (E : XK) (hr : Room k (A.deeper (PyProof.Rows.envOfC "_law_odds" (defScope s54) s.heap.objs.size f cdv))) (hgd : A.guards = some []) :
    PSs (cxOf (L2.CX P w) P w K mg base N54 "_law_odds" (defScope s54) f cdv A outer s H E) (defBody s54) (tS g (fun c d _ H' => E c d H') (b54 R)) := by
  have tk : Takes (cxOf (L2.CX P w) P w K mg base N54 "_law_odds" (defScope s54) f cdv A outer s H E) (fun c d _ H' => E c d H') := takes_of rfl rfl rfl rfl
  have hp : PassesOwn (model P w) (cxOf (L2.CX P w) P w K mg base N54 "_law_odds" (defScope s54) f cdv A outer s H E).A (cxOf (L2.CX P w) P w K mg base N54 "_law_odds" (defScope s54) f cdv A outer s H E).env (cxOf (L2.CX P w) P w K mg base N54 "_law_odds" (defScope s54) f cdv A outer s H E).xe := passes_of rfl
  have nd : N54.Nodup := sc54.nd
  have hc : (cxOf (L2.CX P w) P w K mg base N54 "_law_odds" (defScope s54) f cdv A outer s H E).calm = true := rfl
  have uu : (A.deeper (PyProof.Rows.envOfC "_law_odds" (defScope s54) s.heap.objs.size f cdv)).units + 100 < cLine := by have := hr.un; omega
  have u1 : (A.deeper (PyProof.Rows.envOfC "_law_odds" (defScope s54) s.heap.objs.size f cdv)).units + 1 < cLine := by omega
  have u2 : (A.deeper (PyProof.Rows.envOfC "_law_odds" (defScope s54) s.heap.objs.size f cdv)).units + 2 < cLine := by omega
  have u64 : (A.deeper (PyProof.Rows.envOfC "_law_odds" (defScope s54) s.heap.objs.size f cdv)).units + 64 < cLine := by omega
  have u65 : (A.deeper (PyProof.Rows.envOfC "_law_odds" (defScope s54) s.heap.objs.size f cdv)).units + 65 < cLine := by omega
  have u70 : (A.deeper (PyProof.Rows.envOfC "_law_odds" (defScope s54) s.heap.objs.size f cdv)).units + 70 < cLine := by omega
  exact (dss_cons (ds_if (dt_cmp (od_eq u64) (de_var 0) de_int) (dss_cons (ds_set 1 nd (de_lst false (da_cons de_non (da_cons de_int (da_cons (de_lst false da_nil) (da_cons (de_frz de_dnew) (da_cons (de_str [103, 101, 109]) (da_cons (de_frz (de_disp u2 (.cons (de_str [103, 101, 109]) de_non .nil))) (da_cons (de_frz (de_disp u2 (.cons (de_str [103, 101, 109]) (de_tup (da_cons de_int (da_cons de_int da_nil))) .nil))) (da_cons (de_frz (de_disp u2 (.cons (de_str [103, 101, 109]) (de_tup (da_cons de_int (da_cons (de_bin od_sub de_int de_int) da_nil))) .nil))) (da_cons (de_frz (de_disp u2 (.cons (de_str [103, 101, 109]) (de_tup (da_cons de_int da_nil)) .nil))) (da_cons (de_frz (de_disp u2 (.cons (de_str [103, 101, 109]) (de_tup (da_cons de_int (da_cons de_int (da_cons de_int da_nil)))) .nil))) (da_cons (de_frz (de_disp u2 (.cons (de_str [103, 101, 109]) (de_lst false (da_cons de_int (da_cons de_int da_nil))) .nil))) (da_cons (de_frz (de_disp u2 (.cons (de_str [103, 101, 109]) (de_tup (da_cons de_bl (da_cons de_int da_nil))) .nil))) (da_cons (de_frz (de_disp u2 (.cons (de_str [103, 101, 109]) (de_tup (da_cons de_int (da_cons de_bl da_nil))) .nil))) da_nil))))))))))))))) (dss_one (ds_ret (de_bin od_add (de_var 1) (de_lst false (da_cons (de_frz (de_disp u2 (.cons (de_str [71, 101, 109]) (de_tup (da_cons de_int (da_cons de_int da_nil))) .nil))) (da_cons (de_frz (de_disp u2 (.cons de_int (de_tup (da_cons de_int (da_cons de_int da_nil))) .nil))) (da_cons (de_frz (de_disp u2 (.cons (de_str [103, 101, 109]) (de_tup (da_cons de_int (da_cons de_int da_nil))) (.cons de_int (de_tup (da_cons de_int (da_cons de_int da_nil))) .nil)))) (da_cons (de_frz (de_disp u2 (.cons (de_str [97, 32, 98]) (de_tup (da_cons de_int (da_cons de_int da_nil))) .nil))) (da_cons (de_frz (de_disp u2 (.cons (de_str [103, 101, 109]) (de_tup (da_cons (de_str [49]) (da_cons de_int da_nil))) .nil))) (da_cons (de_frz (de_disp u2 (.cons (de_str [99, 117, 112]) (de_tup (da_cons de_int (da_cons de_int da_nil))) (.cons (de_str [103, 101, 109]) (de_tup (da_cons de_int (da_cons de_int da_nil))) .nil)))) (da_cons (de_frz (de_disp u2 (.cons (de_str [103, 101, 109]) (de_tup (da_cons de_int (da_cons de_int da_nil))) (.cons (de_str [97, 98, 99, 100, 101, 102, 103, 104, 105]) (de_tup (da_cons de_int (da_cons de_int da_nil))) .nil)))) da_nil)))))))))))) dss_nil) (dss_cons (ds_if (dt_cmp (od_eq u64) (de_var 0) de_int) (dss_cons (ds_set 1 nd (de_lst false (da_cons de_non (da_cons de_int (da_cons (de_lst false da_nil) (da_cons (de_frz de_dnew) (da_cons (de_str [97, 110, 110]) (da_cons (de_frz (de_disp u2 (.cons (de_str [97, 110, 110]) de_non .nil))) (da_cons (de_frz (de_disp u2 (.cons (de_str [97, 110, 110]) (de_bin od_sub de_int de_int) .nil))) (da_cons (de_frz (de_disp u2 (.cons (de_str [97, 110, 110]) de_bl .nil))) (da_cons (de_frz (de_disp u2 (.cons (de_str [97, 110, 110]) (de_str [49]) .nil))) (da_cons (de_frz (de_disp u2 (.cons (de_str [97, 110, 110]) (de_lst false (da_cons de_int da_nil)) .nil))) (da_cons (de_frz (de_disp u2 (.cons (de_str [65, 110, 110]) de_int .nil))) (da_cons (de_frz (de_disp u2 (.cons de_int de_int .nil))) (da_cons (de_frz (de_disp u2 (.cons (de_str [97, 110, 110]) de_int (.cons de_int de_int .nil)))) da_nil))))))))))))))) (dss_one (ds_ret (de_bin od_add (de_var 1) (de_lst false (da_cons (de_frz (de_disp u2 (.cons (de_str [97, 110, 110]) (de_bin od_sub de_int de_int) (.cons (de_str [98, 111, 98]) de_int .nil)))) (da_cons (de_frz (de_disp u2 (.cons (de_str [97, 95, 98]) de_int .nil))) (da_cons (de_frz (de_disp u2 (.cons (de_str []) de_int .nil))) da_nil)))))))) dss_nil) (dss_cons (ds_if (dt_cmp (od_eq u64) (de_var 0) de_int) (dss_cons (ds_set 1 nd (de_lst false (da_cons de_non (da_cons de_int (da_cons (de_lst false da_nil) (da_cons (de_frz de_dnew) (da_cons (de_frz (de_disp u2 (.cons (de_str [97, 110, 110]) (de_lst false da_nil) .nil))) (da_cons (de_frz (de_disp u2 (.cons (de_str [97, 110, 110]) (de_lst false da_nil) (.cons (de_str [98, 111, 98]) (de_lst false (da_cons (de_str [117, 114, 110]) da_nil)) .nil)))) (da_cons (de_frz (de_disp u2 (.cons (de_str [97, 110, 110]) (de_lst false (da_cons (de_str [103, 101, 109]) (da_cons (de_str [99, 117, 112]) da_nil))) (.cons (de_str [98, 111, 98]) (de_lst false da_nil) .nil)))) (da_cons (de_frz (de_disp u2 (.cons (de_str [97, 110, 110]) (de_lst false (da_cons (de_str [103, 101, 109]) da_nil)) (.cons (de_str [98, 111, 98]) (de_lst false (da_cons (de_str [103, 101, 109]) da_nil)) .nil)))) (da_cons (de_frz (de_disp u2 (.cons (de_str [97, 110, 110]) (de_lst false (da_cons (de_str [99, 117, 112]) (da_cons (de_str [103, 101, 109]) da_nil))) (.cons (de_str [98, 111, 98]) (de_lst false da_nil) .nil)))) da_nil))))))))))) (dss_one (ds_ret (de_bin od_add (de_var 1) (de_lst false (da_cons (de_frz (de_disp u2 (.cons (de_str [97, 110, 110]) (de_tup (da_cons (de_str [103, 101, 109]) da_nil)) (.cons (de_str [98, 111, 98]) (de_lst false da_nil) .nil)))) (da_cons (de_frz (de_disp u2 (.cons (de_str [97, 110, 110]) de_non (.cons (de_str [98, 111, 98]) (de_lst false da_nil) .nil)))) (da_cons (de_frz (de_disp u2 (.cons (de_str [97, 110, 110]) (de_lst false da_nil) (.cons (de_str [98, 111, 98]) (de_lst false da_nil) (.cons (de_str [99, 121]) (de_lst false da_nil) .nil))))) (da_cons (de_frz (de_disp u2 (.cons de_int (de_lst false da_nil) (.cons (de_str [97, 110, 110]) (de_lst false da_nil) .nil)))) (da_cons (de_frz (de_disp u2 (.cons (de_str [97, 110, 110]) (de_lst false (da_cons (de_str [110, 111, 110, 101]) da_nil)) (.cons (de_str [98, 111, 98]) (de_lst false da_nil) .nil)))) (da_cons (de_frz (de_disp u2 (.cons (de_str [97, 110, 110]) (de_lst false (da_cons (de_lst false (da_cons (de_str [103, 101, 109]) da_nil)) da_nil)) (.cons (de_str [98, 111, 98]) (de_lst false da_nil) .nil)))) da_nil))))))))))) dss_nil) (dss_cons (ds_if (dt_cmp (od_eq u64) (de_var 0) de_int) (dss_one (ds_ret (de_lst false (da_cons de_non (da_cons de_bl (da_cons de_int (da_cons (de_bin od_sub de_int de_int) (da_cons (de_str [49]) (da_cons (de_lst false (da_cons de_int da_nil)) (da_cons (de_tup (da_cons de_int da_nil)) (da_cons (de_frz de_dnew) da_nil))))))))))) dss_nil) (dss_one (ds_ret (de_lst false (da_cons de_non (da_cons de_bl (da_cons (de_bin od_sub de_int de_int) (da_cons (de_str [49]) (da_cons (de_lst false (da_cons de_int da_nil)) (da_cons (de_tup (da_cons de_int da_nil)) (da_cons (de_frz de_dnew) da_nil))))))))))))))
/-! ### law -/
abbrev s55 : Stmt := top 68
abbrev N55 : List Str := ["script", "generator", "finds", "bags", "kinds", "door", "kind", "odd", "caught", "error", "good"]
theorem sc55 : FnScope N55 ["script"] (defScope s55) := ⟨rfl, rfl, rfl, by decide +kernel, rfl, by decide +kernel, by decide +kernel⟩
theorem d55 {P : Program} {w : World} {K : PySem.W.Frag} {mg : Str → Option Value} {base : Heap} {g : Glob} {k : Nat} {R : FR} (C : Cxt P w K mg base g k R) {f : Addr} (cdv : Value) (A : Around) (outer : List PySem.Env) (s : Shared) (H : Hp) (E : XK) (hr : Room k (A.deeper (PyProof.Rows.envOfC "law" (defScope s55) s.heap.objs.size f cdv))) (hgd : A.guards = some []) :
    PSs (cxOf (L2.CX P w) P w K mg base N55 "law" (defScope s55) f cdv A outer s H E) (defBody s55) (tS g (fun c d _ H' => E c d H') (b55 R)) := by
  have tk : Takes (cxOf (L2.CX P w) P w K mg base N55 "law" (defScope s55) f cdv A outer s H E) (fun c d _ H' => E c d H') := takes_of rfl rfl rfl rfl
  have hp : PassesOwn (model P w) (cxOf (L2.CX P w) P w K mg base N55 "law" (defScope s55) f cdv A outer s H E).A (cxOf (L2.CX P w) P w K mg base N55 "law" (defScope s55) f cdv A outer s H E).env (cxOf (L2.CX P w) P w K mg base N55 "law" (defScope s55) f cdv A outer s H E).xe := passes_of rfl
  have nd : N55.Nodup := sc55.nd
  have hc : (cxOf (L2.CX P w) P w K mg base N55 "law" (defScope s55) f cdv A outer s H E).calm = true := rfl
  have uu : (A.deeper (PyProof.Rows.envOfC "law" (defScope s55) s.heap.objs.size f cdv)).units + 100 < cLine := by have := hr.un; omega
  have u1 : (A.deeper (PyProof.Rows.envOfC "law" (defScope s55) s.heap.objs.size f cdv)).units + 1 < cLine := by omega
  have u2 : (A.deeper (PyProof.Rows.envOfC "law" (defScope s55) s.heap.objs.size f cdv)).units + 2 < cLine := by omega
  have u64 : (A.deeper (PyProof.Rows.envOfC "law" (defScope s55) s.heap.objs.size f cdv)).units + 64 < cLine := by omega
  have u65 : (A.deeper (PyProof.Rows.envOfC "law" (defScope s55) s.heap.objs.size f cdv)).units + 65 < cLine := by omega
  have u70 : (A.deeper (PyProof.Rows.envOfC "law" (defScope s55) s.heap.objs.size f cdv)).units + 70 < cLine := by omega
  exact (dss_cons (ds_set 1 nd (de_call (C.fn 48 "_law_generator" ["script", "index"] rfl) tk hr hgd (da_cons (de_var 0) (da_cons de_int da_nil)))) (dss_cons (ds_set 2 nd (de_frz (de_disp u2 (.cons (de_str [103, 101, 109]) (de_tup (da_cons de_int (da_cons (de_bin od_add de_int (de_call (C.fn 49 "_law_random" ["generator", "bound"] rfl) tk hr hgd (da_cons (de_var 1) (da_cons de_int da_nil)))) da_nil))) (.cons (de_str [99, 117, 112]) (de_tup (da_cons de_int (da_cons de_int da_nil))) (.cons (de_str [117, 114, 110]) (de_tup (da_cons de_int (da_cons (de_call (C.fn 49 "_law_random" ["generator", "bound"] rfl) tk hr hgd (da_cons (de_var 1) (da_cons de_int da_nil))) da_nil))) .nil)))))) (dss_cons (ds_set 3 nd (de_frz (de_disp u2 (.cons (de_str [98, 111, 98]) de_int (.cons (de_str [97, 110, 110]) de_int .nil))))) (dss_cons (ds_set 4 nd (de_lst false (da_cons de_int (da_cons de_int (da_cons de_int (da_cons de_int (da_cons de_int (da_cons de_int (da_cons de_int (da_cons de_int (da_cons de_int (da_cons de_int (da_cons de_int (da_cons de_int (da_cons de_int (da_cons de_int (da_cons de_int (da_cons de_int (da_cons de_int (da_cons de_int (da_cons de_int (da_cons de_int (da_cons de_int (da_cons de_int (da_cons de_int (da_cons de_int (da_cons de_int (da_cons de_int (da_cons de_int (da_cons de_int (da_cons de_int (da_cons de_int (da_cons de_int (da_cons de_int (da_cons de_int da_nil))))))))))))))))))))))))))))))))))) (dss_cons (ds_for hp hc (di_any (de_call (C.fn 50 "_law_drawn_order" ["generator", "things"] rfl) tk hr hgd (da_cons (de_var 1) (da_cons (de_rg1 false hc (C.bn "list" (by decide)) (C.bn "range" (by decide)) de_int) da_nil)))) (dg_name 5 nd) (dss_cons (ds_set 6 nd (de_ix (xd_ix u1) (de_var 4) (de_var 5))) (dss_one (ds_for hp hc (di_any (de_call (C.fn 54 "_law_odds" ["kind"] rfl) tk hr hgd (da_cons (de_var 6) da_nil))) (dg_name 7 nd) (dss_one (ds_if (dt_cmp (od_ne u64) (de_call (C.fn 53 "_law_caught" ["door", "finds", "bags", "other"] rfl) tk hr hgd (da_cons (de_var 5) (da_cons (de_var 2) (da_cons (de_var 3) (da_cons (de_var 7) da_nil))))) (de_lst false (da_cons (de_cmp (od_eq u64) (de_var 6) de_int) (da_cons (de_cmp (od_eq u64) (de_var 6) de_int) (da_cons (de_cmp (od_eq u64) (de_var 6) de_int) (da_cons (de_cmp (od_in u65) (de_var 6) (de_lst false (da_cons de_int (da_cons de_int da_nil)))) (da_cons (de_callB (cd_repr C.sys hgd u70) (C.bn "repr" (by decide)) (da_cons (de_var 7) da_nil)) da_nil))))))) (dss_one (ds_ret de_bl)) dss_nil)))))) (dss_cons (ds_for hp hc (di_any (de_lst false (da_cons de_int (da_cons de_int (da_cons de_int (da_cons de_int (da_cons de_int (da_cons de_int (da_cons de_int (da_cons de_int (da_cons de_int (da_cons de_int da_nil)))))))))))) (dg_name 5 nd) (dss_cons (ds_par 7 8 hc nd (da_cons (de_lst true (da_cons (de_str [111, 100, 100]) da_nil)) (da_cons de_non da_nil))) (dss_cons (ds_try (i := 9) (j := 8) C.err rfl rfl rfl nd rfl rfl rfl rfl (by decide) rfl (by decide) (by decide) (fun W pn xe tk' hp' => (dss_one (ds_expr (de_call (C.fn 51 "_law_call" ["door", "finds", "bags", "other"] rfl) tk' hr hgd (da_cons (de_var 5) (da_cons (de_var 2) (da_cons (de_var 3) (da_cons (de_var 7) da_nil))))))))) (dss_cons (ds_expr (de_meth PySem.F.slot_list_append PySem.F.type_list_append mt_append me_app (de_var 7) (da_cons (de_str [109, 111, 114, 101]) da_nil))) (dss_one (ds_if (PW.pt (dw_or (dt_isN (de_var 8)) (dw_or1 (dt_cmp (od_ne u64) (de_callB (cd_repr C.sys hgd u70) (C.bn "repr" (by decide)) (da_cons (de_value C.err (de_var 8)) da_nil)) (de_callB (cd_repr C.sys hgd u70) (C.bn "repr" (by decide)) (da_cons (de_var 7) da_nil)))))) (dss_one (ds_ret de_bl)) dss_nil)))))) (dss_cons (ds_for hp hc (di_any (de_lst false (da_cons (de_tup (da_cons de_int (da_cons (de_frz (de_disp u2 (.cons (de_str [97, 110, 110]) de_int .nil))) da_nil))) (da_cons (de_tup (da_cons de_int (da_cons (de_frz (de_disp u2 (.cons (de_str [97, 110, 110]) (de_lst false da_nil) (.cons (de_str [98, 111, 98]) (de_lst false da_nil) .nil)))) da_nil))) (da_cons (de_tup (da_cons de_int (da_cons (de_frz (de_disp u2 (.cons (de_str [97, 110, 110]) (de_bin od_pow de_int de_int) .nil))) da_nil))) (da_cons (de_tup (da_cons de_int (da_cons de_int da_nil))) (da_cons (de_tup (da_cons de_int (da_cons de_int da_nil))) (da_cons (de_tup (da_cons de_int (da_cons (de_bin od_pow de_int de_int) da_nil))) da_nil)))))))) (dg_tup (by rfl) (dgs_cons (dg_name 5 nd) (dgs_cons (dg_name 10 nd) dgs_nil))) (dss_one (ds_if (dt_notN (de_call (C.fn 53 "_law_caught" ["door", "finds", "bags", "other"] rfl) tk hr hgd (da_cons (de_var 5) (da_cons (de_var 2) (da_cons (de_var 3) (da_cons (de_var 10) da_nil)))))) (dss_one (ds_ret de_bl)) dss_nil))) (dss_one (ds_ret de_bl)))))))))
end K90

set_option Elab.async false
set_option linter.all false
set_option maxRecDepth 100000
namespace CH
open PySem PySem.Spec PyProof.Rows L2
/-- the call of the law, from a promise that asks that nothing is guarded -/
theorem law_callG {P : Program} {w : World} {K : PySem.W.Frag} {mg mb : Str → Option Value} {CX : CXT} {k : Nat} {fa a : Addr} {fd : FuncData} {x : Str} {sp : Sp} {s₁ : Shared} {vs : List Value} {ns : List Int}
    (KX : K.In s₁.heap) (hns : s₁.heap.Ns mainGlobals mg) (hb : s₁.heap.Ns builtinsNs mb) (hbb : ∀ x : Str, x ≠ "__name__" → mb x = bootBuiltins x) (hlim : s₁.heap.NoLimit) (hsy : ∃ mm, s₁.heap.Ns sysModules mm) (hg : s₁.gens = #[])
    (ha : s₁.heap.get? a = some { cls := .type "list", data := .seq vs.toArray }) (hi : IntsAre vs ns) (hl : ns.length ≤ sizeLine) (hr : Room k callerA)
    (F : ∀ base : Heap, K.In base → base.Ns mainGlobals mg → (∃ o, base.get? sysModules = some o) → FnG P w K mg base CX k fa fd [x] sp) (hbind : ∀ (s : Shared) (u : Value), BindsTo s fd ⟨[u], []⟩ [(x, u)])
    (hsp : ∀ H : Hp, SqL K H a (ns.map V.int) → sp [.ref a] H (fun v _ => v = .bl true) fun _ _ _ => False)
    (hCX : ∀ H e s', CX [] H s₁ (fun _ _ _ => False) e s' → False) :
    codeAny (model P w) callerA (.call (.ref fa) ⟨[.ref a], []⟩) (fun r s' => r = .ok (.ret (.bool true)) ∧ OldK s₁.heap s'.heap ∧ s'.os = s₁.os ∧ AllBare s'.gens) s₁ := by
  have rv := vals_ints hi
  have lenV := hi.length
  have core : ∀ H : Hp, (∀ b, H b = none ∨ ∃ o xs, H b = some (.frz o (.lst xs))) → SqL K H a (ns.map V.int) → HOk P w H s₁.heap → (∀ b, H b ≠ none → b = a) → (H a ≠ none → K.lookup a = none) →
      codeAny (model P w) callerA (.call (.ref fa) ⟨[.ref a], []⟩) (fun r s' => r = .ok (.ret (.bool true)) ∧ OldK s₁.heap s'.heap ∧ s'.os = s₁.os ∧ AllBare s'.gens) s₁ := by
    intro H hO hS hok hA hK
    have stay : ∀ {b : Addr} {o : Obj}, s₁.heap.get? b = some o → H b = none → (hidT s₁.heap H).get? b = some o := fun e n => hidT_get e n
    have isA : ∀ {b : Addr}, H b = none ∨ b = a := fun {b} => (Classical.em (H b = none)).elim .inl fun n => .inr (hA b n)
    have dict0 : ∀ {b : Addr} {o : Obj} {es : Array DictEntry} {ep : Nat}, s₁.heap.get? b = some o → o.data = .dict es ep → H b = none := fun {b o es ep} e d => by
      rcases isA (b := b) with q | rfl
      · exact q
      · rw [ha] at e
        cases e
        exact nomatch d
    have nsK : ∀ {b : Addr} {m : Str → Option Value}, s₁.heap.Ns b m → (hidT s₁.heap H).Ns b m := fun {b m} ⟨o, es, ep, e, d, r⟩ => ⟨o, es, ep, stay e (dict0 e d), d, r⟩
    have hKb : K.In (hidT s₁.heap H) := fun b o e => by
      rcases isA (b := b) with q | rfl
      · exact stay (KX b o e) q
      · cases q : H b with
        | none => exact stay (KX b o e) q
        | some u => rw [hK (by rw [q]; simp)] at e; cases e
    have hM : Mod K mg (hidT s₁.heap H) := ⟨hKb, nsK hns, ⟨mb, nsK hb, hbb⟩, let ⟨mc, h1, h2⟩ := hlim; ⟨mc, nsK h1, h2⟩⟩
    have hsb : ∃ o, (hidT s₁.heap H).get? sysModules = some o := let ⟨_, m⟩ := hsy; let ⟨o, _, _, e, _⟩ := nsK m; ⟨o, e⟩
    have e0 : Env0 P w K mg (hidT s₁.heap H) callerA [] s₁ H := ⟨rfl, hM, fun b o e => of_hidT e, Nat.le_of_eq (hidT_size _ _), trivial, (fun b hb => nomatch hb), hok, .of_eq hg⟩
    refine codeAny_mono ((F _ hKb (nsK hns) hsb).run callerA [] s₁ H ⟨[.ref a], []⟩ [.ref a] [.ref a] _ _ hr rfl e0 (hbind s₁ (.ref a)) (.cons rfl .nil) (hsp H hS)) fun r s' h => ?_
    rcases r with e | fl
    · exact (hCX H e s' h).elim
    cases fl with
    | next => exact False.elim h
    | brk => exact False.elim h
    | cont => exact False.elim h
    | ret u =>
      obtain ⟨v, H', os, bare, un, hok', r', q⟩ := h
      cases (show v = .bl true from q)
      cases (show u = Value.bool true from r')
      refine ⟨rfl, OldK.of_keep fun b o e => ?_, os, bare⟩
      cases q : H b with
      | none => exact un.keep b o e q (fun z => nomatch z) (fun z => nomatch z)
      | some u =>
        rcases hO b with z | ⟨ob, xs, z⟩
        · rw [q] at z; cases z
        · have e1 := (hok b _ z).1
          have e2 := (hok' b _ (un.frzs b ob _ z)).1
          rw [e] at e1; cases e1
          exact e2
  cases hk : K.lookup a with
  | some o =>
    have e := KX a o hk
    rw [ha] at e
    cases e
    exact core (fun _ => none) (fun _ => .inl rfl) (.inr ⟨_, vs.toArray, _, hk, rfl, rfl, rfl, by rw [List.size_toArray, lenV]; exact hl, by simpa using rv⟩) (fun b u z => nomatch (show (none : Option HO) = some u from z)) (fun b z => absurd rfl z) fun z => absurd rfl z
  | none =>
    have here : ∀ {b : Addr} {u : HO}, (if b = a then some (HO.frz { cls := .type "list", data := .seq vs.toArray } (.lst (ns.map V.int))) else none) = some u → b = a := fun {b u} z => by
      by_cases hb : b = a
      · exact hb
      · rw [if_neg hb] at z; cases z
    refine core (fun b => if b = a then some (.frz { cls := .type "list", data := .seq vs.toArray } (.lst (ns.map V.int))) else none) (fun b => ?_) (.inl (.inr ⟨_, if_pos rfl⟩)) (fun b u z => ?_) (fun b z => ?_) fun _ => hk
    · by_cases hb : b = a
      · exact .inr ⟨_, _, if_pos hb⟩
      · exact .inl (if_neg hb)
    · have hb := here z
      subst hb
      have z' := (if_pos rfl).symm.trans z
      cases z'
      exact ⟨ha, by rw [List.length_map]; exact hl, vs, _, rv, ha⟩
    · cases q : (if b = a then some (HO.frz { cls := .type "list", data := .seq vs.toArray } (.lst (ns.map V.int))) else none) with
      | none => exact absurd q z
      | some u => exact here q
/-- the goal that the head leaves -/
theorem walk_G {l : PySem.W.OpenLaw} {n k : Nat} {q : Program} {loose : List Str} {XP : (Str → Option Value) → Heap → Prop} {YP : World → Heap → Prop} {d : DefRec} {K : Params → PySem.W.Frag} {x : Str} {sp : World → Addr → (Str → Option Value) → Sp}
    (hn : l.most = some n) (hn2 : n ≤ sizeLine) (hdf : d.params.defaults = []) (hq : importsNone q = true) (hr : Room k callerA)
    (hY : ∀ (w : World) (h : Heap), YP w h → (K w.params).In h)
    (F : ∀ (w : World) (mg : Str → Option Value) (fa : Addr) (h : Heap), (K w.params).In h → h.Ns mainGlobals mg → mg d.name = some (.ref fa) →
      ∃ fd : FuncData, (∀ (s : Shared) (u : Value), BindsTo s fd ⟨[u], []⟩ [(x, u)]) ∧
        ∀ base : Heap, (K w.params).In base → base.Ns mainGlobals mg → (∃ o, base.get? sysModules = some o) → FnG l.prog w (K w.params) mg base (L2.CX l.prog w) k fa fd [x] (sp w fa mg))
    (hsp : ∀ (w : World) (mg : Str → Option Value) (fa : Addr) (H : Hp) (a : Addr) (ns : List Int), ns.length ≤ n → SqL (K w.params) H a (ns.map V.int) → sp w fa mg [.ref a] H (fun v _ => v = .bl true) fun _ _ _ => False) :
    PySem.W.WalkO q loose XP YP l.row.toRowW d [] (fun f vs => PySem.call f vs) := by
  refine Att.attach_call hn hdf fun w s₀ s₁ mg mb fa o pm cd doc a vs ns G Y ho hd hcd hmg hobj hints hlen hg => ?_
  have KX := hY w _ Y
  obtain ⟨fd, hb, hF⟩ := F w mg fa _ KX G.T.g hmg
  obtain ⟨mm, hm, _⟩ := (G.T.seer hq).mods
  refine law_callG KX G.T.g G.T.b G.T.builtins G.T.nolimit ⟨mm, hm⟩ hg hobj hints (Nat.le_trans hlen hn2) hr hF hb (fun H hS => hsp w mg fa H a ns hlen hS) fun H e s' h => ?_
  obtain ⟨_, _, _, _, _, _, _, _, _, _, _, _, z⟩ := h
  exact z
/-- the run's answer to the script, as the law's promise -/
theorem sp_of {K : PySem.W.Frag} {g : Glob} {R : FR} {i : Nat} {H : Hp} {a : Addr} {ns : List Int} {h' : Cells} (hK : g.K = K) (hS : SqL K H a (ns.map V.int)) (e : R i [.scr ns] [] = .ok (.d (.bool true)) h') : spF g 1 R i [.ref a] H (fun v _ => v = .bl true) fun _ _ _ => False := by
  refine ⟨rfl, H, fun _ => none, [], [.scr ns], .cons ⟨a, rfl, by rw [hK]; exact hS⟩ .nil, ⟨fun _ _ z => z, fun n c z => by simp at z, fun n m c d b z => by simp at z, fun _ _ => rfl, fun _ _ z => nomatch z⟩, ?_⟩
  rw [e]
  intro b H2 F2 ρ2 x r l
  cases r
  rfl
end CH

set_option Elab.async false
set_option linter.all false
set_option maxRecDepth 100000
set_option maxHeartbeats 0
namespace K90
open PySem L2 CH
structure Txt (P : Program) (K : PySem.W.Frag) (mg : Str → Option Value) (g : Glob) : Prop where
  f0 : mg "is_whole" = some (.ref (g.fad 0)) ∧ ∃ fd, Fun K "is_whole" "is_whole" s0 (g.fad 0) fd
  f1 : mg "is_count" = some (.ref (g.fad 1)) ∧ ∃ fd, Fun K "is_count" "is_count" s1 (g.fad 1) fd
  f2 : mg "is_signs" = some (.ref (g.fad 2)) ∧ ∃ fd, Fun K "is_signs" "is_signs" s2 (g.fad 2) fd
  f3 : mg "is_name" = some (.ref (g.fad 3)) ∧ ∃ fd, Fun K "is_name" "is_name" s3 (g.fad 3) fd
  f4 : mg "ascends" = some (.ref (g.fad 4)) ∧ ∃ fd, Fun K "ascends" "ascends" s4 (g.fad 4) fd
  f5 : mg "is_names" = some (.ref (g.fad 5)) ∧ ∃ fd, Fun K "is_names" "is_names" s5 (g.fad 5) fd
  f6 : mg "is_find" = some (.ref (g.fad 6)) ∧ ∃ fd, Fun K "is_find" "is_find" s6 (g.fad 6) fd
  f7 : mg "check_finds" = some (.ref (g.fad 7)) ∧ ∃ fd, Fun K "check_finds" "check_finds" s7 (g.fad 7) fd
  f8 : mg "check_bags" = some (.ref (g.fad 8)) ∧ ∃ fd, Fun K "check_bags" "check_bags" s8 (g.fad 8) fd
  f9 : mg "weight_in" = some (.ref (g.fad 9)) ∧ ∃ fd, Fun K "weight_in" "weight_in" s9 (g.fad 9) fd
  f10 : mg "are_lots_of" = some (.ref (g.fad 10)) ∧ ∃ fd, Fun K "are_lots_of" "are_lots_of" s10 (g.fad 10) fd
  f11 : mg "is_carrying_of" = some (.ref (g.fad 11)) ∧ ∃ fd, Fun K "is_carrying_of" "is_carrying_of" s11 (g.fad 11) fd
  f12 : mg "is_carrying" = some (.ref (g.fad 12)) ∧ ∃ fd, Fun K "is_carrying" "is_carrying" s12 (g.fad 12) fd
  f13 : mg "worth_of_carrying" = some (.ref (g.fad 13)) ∧ ∃ fd, Fun K "worth_of_carrying" "worth_of_carrying" s13 (g.fad 13) fd
  f14 : mg "worth_carried" = some (.ref (g.fad 14)) ∧ ∃ fd, Fun K "worth_carried" "worth_carried" s14 (g.fad 14) fd
  f15 : mg "rooms_of" = some (.ref (g.fad 15)) ∧ ∃ fd, Fun K "rooms_of" "rooms_of" s15 (g.fad 15) fd
  f16 : mg "put_in" = some (.ref (g.fad 16)) ∧ ∃ fd, Fun K "put_in" "put_in" s16 (g.fad 16) fd
  f17 : mg "rooms_behind" = some (.ref (g.fad 17)) ∧ ∃ fd, Fun K "rooms_behind" "rooms_behind" s17 (g.fad 17) fd
  f18 : mg "ways_table" = some (.ref (g.fad 18)) ∧ ∃ fd, Fun K "ways_table" "ways_table" s18 (g.fad 18) fd
  f19 : mg "how_many_carryings" = some (.ref (g.fad 19)) ∧ ∃ fd, Fun K "how_many_carryings" "how_many_carryings" s19 (g.fad 19) fd
  f20 : mg "worth_tables" = some (.ref (g.fad 20)) ∧ ∃ fd, Fun K "worth_tables" "worth_tables" s20 (g.fad 20) fd
  f21 : mg "most_with" = some (.ref (g.fad 21)) ∧ ∃ fd, Fun K "most_with" "most_with" s21 (g.fad 21) fd
  f22 : mg "most_worth" = some (.ref (g.fad 22)) ∧ ∃ fd, Fun K "most_worth" "most_worth" s22 (g.fad 22) fd
  f23 : mg "carried_by" = some (.ref (g.fad 23)) ∧ ∃ fd, Fun K "carried_by" "carried_by" s23 (g.fad 23) fd
  f24 : mg "full_rows" = some (.ref (g.fad 24)) ∧ ∃ fd, Fun K "full_rows" "full_rows" s24 (g.fad 24) fd
  f25 : mg "all_carried" = some (.ref (g.fad 25)) ∧ ∃ fd, Fun K "all_carried" "all_carried" s25 (g.fad 25) fd
  f26 : mg "best_row" = some (.ref (g.fad 26)) ∧ ∃ fd, Fun K "best_row" "best_row" s26 (g.fad 26) fd
  f27 : mg "best_carrying" = some (.ref (g.fad 27)) ∧ ∃ fd, Fun K "best_carrying" "best_carrying" s27 (g.fad 27) fd
  f28 : mg "is_best_carrying" = some (.ref (g.fad 28)) ∧ ∃ fd, Fun K "is_best_carrying" "is_best_carrying" s28 (g.fad 28) fd
  f29 : mg "needed_finds" = some (.ref (g.fad 29)) ∧ ∃ fd, Fun K "needed_finds" "needed_finds" s29 (g.fad 29) fd
  f30 : mg "is_in_some" = some (.ref (g.fad 30)) ∧ ∃ fd, Fun K "is_in_some" "is_in_some" s30 (g.fad 30) fd
  f31 : mg "left_finds" = some (.ref (g.fad 31)) ∧ ∃ fd, Fun K "left_finds" "left_finds" s31 (g.fad 31) fd
  f32 : mg "check_many_bags" = some (.ref (g.fad 32)) ∧ ∃ fd, Fun K "check_many_bags" "check_many_bags" s32 (g.fad 32) fd
  f33 : mg "lots_by_weights" = some (.ref (g.fad 33)) ∧ ∃ fd, Fun K "lots_by_weights" "lots_by_weights" s33 (g.fad 33) fd
  f34 : mg "least_of_all" = some (.ref (g.fad 34)) ∧ ∃ fd, Fun K "least_of_all" "least_of_all" s34 (g.fad 34) fd
  f35 : mg "least_heaviest" = some (.ref (g.fad 35)) ∧ ∃ fd, Fun K "least_heaviest" "least_heaviest" s35 (g.fad 35) fd
  f36 : mg "in_order_of" = some (.ref (g.fad 36)) ∧ ∃ fd, Fun K "in_order_of" "in_order_of" s36 (g.fad 36) fd
  f37 : mg "even_lots" = some (.ref (g.fad 37)) ∧ ∃ fd, Fun K "even_lots" "even_lots" s37 (g.fad 37) fd
  f38 : mg "are_shared_lots" = some (.ref (g.fad 38)) ∧ ∃ fd, Fun K "are_shared_lots" "are_shared_lots" s38 (g.fad 38) fd
  f39 : mg "are_even_lots" = some (.ref (g.fad 39)) ∧ ∃ fd, Fun K "are_even_lots" "are_even_lots" s39 (g.fad 39) fd
  f40 : mg "dealt_lots" = some (.ref (g.fad 40)) ∧ ∃ fd, Fun K "dealt_lots" "dealt_lots" s40 (g.fad 40) fd
  f41 : mg "check_most" = some (.ref (g.fad 41)) ∧ ∃ fd, Fun K "check_most" "check_most" s41 (g.fad 41) fd
  f42 : mg "trips_in" = some (.ref (g.fad 42)) ∧ ∃ fd, Fun K "trips_in" "trips_in" s42 (g.fad 42) fd
  f43 : mg "fewest_trips" = some (.ref (g.fad 43)) ∧ ∃ fd, Fun K "fewest_trips" "fewest_trips" s43 (g.fad 43) fd
  f44 : mg "first_trips" = some (.ref (g.fad 44)) ∧ ∃ fd, Fun K "first_trips" "first_trips" s44 (g.fad 44) fd
  f45 : mg "are_fewest_trips" = some (.ref (g.fad 45)) ∧ ∃ fd, Fun K "are_fewest_trips" "are_fewest_trips" s45 (g.fad 45) fd
  f46 : mg "_law_hash" = some (.ref (g.fad 46)) ∧ ∃ fd, Fun K "_law_hash" "_law_hash" s46 (g.fad 46) fd
  f47 : mg "_law_cell" = some (.ref (g.fad 47)) ∧ ∃ fd, Fun K "_law_cell" "_law_cell" s47 (g.fad 47) fd
  f48 : mg "_law_generator" = some (.ref (g.fad 48)) ∧ ∃ fd, Fun K "_law_generator" "_law_generator" s48 (g.fad 48) fd
  f49 : mg "_law_random" = some (.ref (g.fad 49)) ∧ ∃ fd, Fun K "_law_random" "_law_random" s49 (g.fad 49) fd
  f50 : mg "_law_drawn_order" = some (.ref (g.fad 50)) ∧ ∃ fd, Fun K "_law_drawn_order" "_law_drawn_order" s50 (g.fad 50) fd
  f51 : mg "_law_call" = some (.ref (g.fad 51)) ∧ ∃ fd, Fun K "_law_call" "_law_call" s51 (g.fad 51) fd
  f52 : mg "_law_further" = some (.ref (g.fad 52)) ∧ ∃ fd, Fun K "_law_further" "_law_further" s52 (g.fad 52) fd
  f53 : mg "_law_caught" = some (.ref (g.fad 53)) ∧ ∃ fd, Fun K "_law_caught" "_law_caught" s53 (g.fad 53) fd
  f54 : mg "_law_odds" = some (.ref (g.fad 54)) ∧ ∃ fd, Fun K "_law_odds" "_law_odds" s54 (g.fad 54) fd
  f55 : mg "law" = some (.ref (g.fad 55)) ∧ ∃ fd, Fun K "law" "law" s55 (g.fad 55) fd
  bn : ∀ x ∈ bnL, mg x = none
  hK : g.K = K
  err : ErrX P K mg g cnL.length g.top
  gC : ∀ c x, cnL[c]? = some x → mg x = some (.ref (g.cls c))
  cI : ∀ x i, (x, i) ∈ cIL → ∃ t, mg x = some (.int i t)
  cS : ∀ x s, (x, s) ∈ cSL → ∃ t, mg x = some (.str ⟨⟨s⟩⟩ t)
section
variable {P : Program} {w : World} {K : PySem.W.Frag} {mg : Str → Option Value} {base : Heap} {g : Glob}
theorem step {k : Nat} (T : Txt P K mg g) (C : Cxt P w K mg base g k (run k)) : ∀ j x ps, tab[j]? = some (x, ps) → FnT P w K mg base g (run (k + 1)) (k + 1) j x ps
  | 0, x, ps, e => by
    have e1 : (("is_whole" : Str), (["value"] : List Str)) = (x, ps) := Option.some.inj e
    cases e1
    obtain ⟨hm, fd, F⟩ := T.f0
    exact ⟨⟨fd, fn_ok F sc0 (fun _ _ => rfl) (fun cdv A outer s H E hr hgd => d0 C cdv A outer s H E hr hgd), F.binds fun _ _ _ _ _ _ us hl => match us, hl with | [_], _ => rfl⟩, hm, F.kp⟩
  | 1, x, ps, e => by
    have e1 : (("is_count" : Str), (["value"] : List Str)) = (x, ps) := Option.some.inj e
    cases e1
    obtain ⟨hm, fd, F⟩ := T.f1
    exact ⟨⟨fd, fn_ok F sc1 (fun _ _ => rfl) (fun cdv A outer s H E hr hgd => d1 C cdv A outer s H E hr hgd), F.binds fun _ _ _ _ _ _ us hl => match us, hl with | [_], _ => rfl⟩, hm, F.kp⟩
  | 2, x, ps, e => by
    have e1 : (("is_signs" : Str), (["value", "signs"] : List Str)) = (x, ps) := Option.some.inj e
    cases e1
    obtain ⟨hm, fd, F⟩ := T.f2
    exact ⟨⟨fd, fn_ok F sc2 (fun _ _ => rfl) (fun cdv A outer s H E hr hgd => d2 C cdv A outer s H E hr hgd), F.binds fun _ _ _ _ _ _ us hl => match us, hl with | [_, _], _ => rfl⟩, hm, F.kp⟩
  | 3, x, ps, e => by
    have e1 : (("is_name" : Str), (["value"] : List Str)) = (x, ps) := Option.some.inj e
    cases e1
    obtain ⟨hm, fd, F⟩ := T.f3
    exact ⟨⟨fd, fn_ok F sc3 (fun _ _ => rfl) (fun cdv A outer s H E hr hgd => d3 C cdv A outer s H E hr hgd), F.binds fun _ _ _ _ _ _ us hl => match us, hl with | [_], _ => rfl⟩, hm, F.kp⟩
  | 4, x, ps, e => by
    have e1 : (("ascends" : Str), (["items"] : List Str)) = (x, ps) := Option.some.inj e
    cases e1
    obtain ⟨hm, fd, F⟩ := T.f4
    exact ⟨⟨fd, fn_ok F sc4 (fun _ _ => rfl) (fun cdv A outer s H E hr hgd => d4 C cdv A outer s H E hr hgd), F.binds fun _ _ _ _ _ _ us hl => match us, hl with | [_], _ => rfl⟩, hm, F.kp⟩
  | 5, x, ps, e => by
    have e1 : (("is_names" : Str), (["value"] : List Str)) = (x, ps) := Option.some.inj e
    cases e1
    obtain ⟨hm, fd, F⟩ := T.f5
    exact ⟨⟨fd, fn_ok F sc5 (fun _ _ => rfl) (fun cdv A outer s H E hr hgd => d5 C cdv A outer s H E hr hgd), F.binds fun _ _ _ _ _ _ us hl => match us, hl with | [_], _ => rfl⟩, hm, F.kp⟩
  | 6, x, ps, e => by
    have e1 : (("is_find" : Str), (["value"] : List Str)) = (x, ps) := Option.some.inj e
    cases e1
    obtain ⟨hm, fd, F⟩ := T.f6
    exact ⟨⟨fd, fn_ok F sc6 (fun _ _ => rfl) (fun cdv A outer s H E hr hgd => d6 C cdv A outer s H E hr hgd), F.binds fun _ _ _ _ _ _ us hl => match us, hl with | [_], _ => rfl⟩, hm, F.kp⟩
  | 7, x, ps, e => by
    have e1 : (("check_finds" : Str), (["finds"] : List Str)) = (x, ps) := Option.some.inj e
    cases e1
    obtain ⟨hm, fd, F⟩ := T.f7
    exact ⟨⟨fd, fn_ok F sc7 (fun _ _ => rfl) (fun cdv A outer s H E hr hgd => d7 C cdv A outer s H E hr hgd), F.binds fun _ _ _ _ _ _ us hl => match us, hl with | [_], _ => rfl⟩, hm, F.kp⟩
  | 8, x, ps, e => by
    have e1 : (("check_bags" : Str), (["finds", "bags"] : List Str)) = (x, ps) := Option.some.inj e
    cases e1
    obtain ⟨hm, fd, F⟩ := T.f8
    exact ⟨⟨fd, fn_ok F sc8 (fun _ _ => rfl) (fun cdv A outer s H E hr hgd => d8 C cdv A outer s H E hr hgd), F.binds fun _ _ _ _ _ _ us hl => match us, hl with | [_, _], _ => rfl⟩, hm, F.kp⟩
  | 9, x, ps, e => by
    have e1 : (("weight_in" : Str), (["finds", "lot"] : List Str)) = (x, ps) := Option.some.inj e
    cases e1
    obtain ⟨hm, fd, F⟩ := T.f9
    exact ⟨⟨fd, fn_ok F sc9 (fun _ _ => rfl) (fun cdv A outer s H E hr hgd => d9 C cdv A outer s H E hr hgd), F.binds fun _ _ _ _ _ _ us hl => match us, hl with | [_, _], _ => rfl⟩, hm, F.kp⟩
  | 10, x, ps, e => by
    have e1 : (("are_lots_of" : Str), (["finds", "lots"] : List Str)) = (x, ps) := Option.some.inj e
    cases e1
    obtain ⟨hm, fd, F⟩ := T.f10
    exact ⟨⟨fd, fn_ok F sc10 (fun _ _ => rfl) (fun cdv A outer s H E hr hgd => d10 C cdv A outer s H E hr hgd), F.binds fun _ _ _ _ _ _ us hl => match us, hl with | [_, _], _ => rfl⟩, hm, F.kp⟩
  | 11, x, ps, e => by
    have e1 : (("is_carrying_of" : Str), (["finds", "bags", "value"] : List Str)) = (x, ps) := Option.some.inj e
    cases e1
    obtain ⟨hm, fd, F⟩ := T.f11
    exact ⟨⟨fd, fn_ok F sc11 (fun _ _ => rfl) (fun cdv A outer s H E hr hgd => d11 C cdv A outer s H E hr hgd), F.binds fun _ _ _ _ _ _ us hl => match us, hl with | [_, _, _], _ => rfl⟩, hm, F.kp⟩
  | 12, x, ps, e => by
    have e1 : (("is_carrying" : Str), (["finds", "bags", "value"] : List Str)) = (x, ps) := Option.some.inj e
    cases e1
    obtain ⟨hm, fd, F⟩ := T.f12
    exact ⟨⟨fd, fn_ok F sc12 (fun _ _ => rfl) (fun cdv A outer s H E hr hgd => d12 C cdv A outer s H E hr hgd), F.binds fun _ _ _ _ _ _ us hl => match us, hl with | [_, _, _], _ => rfl⟩, hm, F.kp⟩
  | 13, x, ps, e => by
    have e1 : (("worth_of_carrying" : Str), (["finds", "carrying"] : List Str)) = (x, ps) := Option.some.inj e
    cases e1
    obtain ⟨hm, fd, F⟩ := T.f13
    exact ⟨⟨fd, fn_ok F sc13 (fun _ _ => rfl) (fun cdv A outer s H E hr hgd => d13 C cdv A outer s H E hr hgd), F.binds fun _ _ _ _ _ _ us hl => match us, hl with | [_, _], _ => rfl⟩, hm, F.kp⟩
  | 14, x, ps, e => by
    have e1 : (("worth_carried" : Str), (["finds", "bags", "carrying"] : List Str)) = (x, ps) := Option.some.inj e
    cases e1
    obtain ⟨hm, fd, F⟩ := T.f14
    exact ⟨⟨fd, fn_ok F sc14 (fun _ _ => rfl) (fun cdv A outer s H E hr hgd => d14 C cdv A outer s H E hr hgd), F.binds fun _ _ _ _ _ _ us hl => match us, hl with | [_, _, _], _ => rfl⟩, hm, F.kp⟩
  | 15, x, ps, e => by
    have e1 : (("rooms_of" : Str), (["bags"] : List Str)) = (x, ps) := Option.some.inj e
    cases e1
    obtain ⟨hm, fd, F⟩ := T.f15
    exact ⟨⟨fd, fn_ok F sc15 (fun _ _ => rfl) (fun cdv A outer s H E hr hgd => d15 C cdv A outer s H E hr hgd), F.binds fun _ _ _ _ _ _ us hl => match us, hl with | [_], _ => rfl⟩, hm, F.kp⟩
  | 16, x, ps, e => by
    have e1 : (("put_in" : Str), (["room", "at", "weight"] : List Str)) = (x, ps) := Option.some.inj e
    cases e1
    obtain ⟨hm, fd, F⟩ := T.f16
    exact ⟨⟨fd, fn_ok F sc16 (fun _ _ => rfl) (fun cdv A outer s H E hr hgd => d16 C cdv A outer s H E hr hgd), F.binds fun _ _ _ _ _ _ us hl => match us, hl with | [_, _, _], _ => rfl⟩, hm, F.kp⟩
  | 17, x, ps, e => by
    have e1 : (("rooms_behind" : Str), (["room", "weight"] : List Str)) = (x, ps) := Option.some.inj e
    cases e1
    obtain ⟨hm, fd, F⟩ := T.f17
    exact ⟨⟨fd, fn_ok F sc17 (fun _ _ => rfl) (fun cdv A outer s H E hr hgd => d17 C cdv A outer s H E hr hgd), F.binds fun _ _ _ _ _ _ us hl => match us, hl with | [_, _], _ => rfl⟩, hm, F.kp⟩
  | 18, x, ps, e => by
    have e1 : (("ways_table" : Str), (["finds", "bags"] : List Str)) = (x, ps) := Option.some.inj e
    cases e1
    obtain ⟨hm, fd, F⟩ := T.f18
    exact ⟨⟨fd, fn_ok F sc18 (fun _ _ => rfl) (fun cdv A outer s H E hr hgd => d18 C cdv A outer s H E hr hgd), F.binds fun _ _ _ _ _ _ us hl => match us, hl with | [_, _], _ => rfl⟩, hm, F.kp⟩
  | 19, x, ps, e => by
    have e1 : (("how_many_carryings" : Str), (["finds", "bags"] : List Str)) = (x, ps) := Option.some.inj e
    cases e1
    obtain ⟨hm, fd, F⟩ := T.f19
    exact ⟨⟨fd, fn_ok F sc19 (fun _ _ => rfl) (fun cdv A outer s H E hr hgd => d19 C cdv A outer s H E hr hgd), F.binds fun _ _ _ _ _ _ us hl => match us, hl with | [_, _], _ => rfl⟩, hm, F.kp⟩
  | 20, x, ps, e => by
    have e1 : (("worth_tables" : Str), (["finds", "rooms", "names"] : List Str)) = (x, ps) := Option.some.inj e
    cases e1
    obtain ⟨hm, fd, F⟩ := T.f20
    exact ⟨⟨fd, fn_ok F sc20 (fun _ _ => rfl) (fun cdv A outer s H E hr hgd => d20 C cdv A outer s H E hr hgd), F.binds fun _ _ _ _ _ _ us hl => match us, hl with | [_, _, _], _ => rfl⟩, hm, F.kp⟩
  | 21, x, ps, e => by
    have e1 : (("most_with" : Str), (["finds", "rooms", "names"] : List Str)) = (x, ps) := Option.some.inj e
    cases e1
    obtain ⟨hm, fd, F⟩ := T.f21
    exact ⟨⟨fd, fn_ok F sc21 (fun _ _ => rfl) (fun cdv A outer s H E hr hgd => d21 C cdv A outer s H E hr hgd), F.binds fun _ _ _ _ _ _ us hl => match us, hl with | [_, _, _], _ => rfl⟩, hm, F.kp⟩
  | 22, x, ps, e => by
    have e1 : (("most_worth" : Str), (["finds", "bags"] : List Str)) = (x, ps) := Option.some.inj e
    cases e1
    obtain ⟨hm, fd, F⟩ := T.f22
    exact ⟨⟨fd, fn_ok F sc22 (fun _ _ => rfl) (fun cdv A outer s H E hr hgd => d22 C cdv A outer s H E hr hgd), F.binds fun _ _ _ _ _ _ us hl => match us, hl with | [_, _], _ => rfl⟩, hm, F.kp⟩
  | 23, x, ps, e => by
    have e1 : (("carried_by" : Str), (["finds", "bags", "told"] : List Str)) = (x, ps) := Option.some.inj e
    cases e1
    obtain ⟨hm, fd, F⟩ := T.f23
    exact ⟨⟨fd, fn_ok F sc23 (fun _ _ => rfl) (fun cdv A outer s H E hr hgd => d23 C cdv A outer s H E hr hgd), F.binds fun _ _ _ _ _ _ us hl => match us, hl with | [_, _, _], _ => rfl⟩, hm, F.kp⟩
  | 24, x, ps, e => by
    have e1 : (("full_rows" : Str), (["finds", "bags"] : List Str)) = (x, ps) := Option.some.inj e
    cases e1
    obtain ⟨hm, fd, F⟩ := T.f24
    exact ⟨⟨fd, fn_ok F sc24 (fun _ _ => rfl) (fun cdv A outer s H E hr hgd => d24 C cdv A outer s H E hr hgd), F.binds fun _ _ _ _ _ _ us hl => match us, hl with | [_, _], _ => rfl⟩, hm, F.kp⟩
  | 25, x, ps, e => by
    have e1 : (("all_carried" : Str), (["finds", "bags"] : List Str)) = (x, ps) := Option.some.inj e
    cases e1
    obtain ⟨hm, fd, F⟩ := T.f25
    exact ⟨⟨fd, fn_ok F sc25 (fun _ _ => rfl) (fun cdv A outer s H E hr hgd => d25 C cdv A outer s H E hr hgd), F.binds fun _ _ _ _ _ _ us hl => match us, hl with | [_, _], _ => rfl⟩, hm, F.kp⟩
  | 26, x, ps, e => by
    have e1 : (("best_row" : Str), (["finds", "bags"] : List Str)) = (x, ps) := Option.some.inj e
    cases e1
    obtain ⟨hm, fd, F⟩ := T.f26
    exact ⟨⟨fd, fn_ok F sc26 (fun _ _ => rfl) (fun cdv A outer s H E hr hgd => d26 C cdv A outer s H E hr hgd), F.binds fun _ _ _ _ _ _ us hl => match us, hl with | [_, _], _ => rfl⟩, hm, F.kp⟩
  | 27, x, ps, e => by
    have e1 : (("best_carrying" : Str), (["finds", "bags"] : List Str)) = (x, ps) := Option.some.inj e
    cases e1
    obtain ⟨hm, fd, F⟩ := T.f27
    exact ⟨⟨fd, fn_ok F sc27 (fun _ _ => rfl) (fun cdv A outer s H E hr hgd => d27 C cdv A outer s H E hr hgd), F.binds fun _ _ _ _ _ _ us hl => match us, hl with | [_, _], _ => rfl⟩, hm, F.kp⟩
  | 28, x, ps, e => by
    have e1 : (("is_best_carrying" : Str), (["finds", "bags", "value"] : List Str)) = (x, ps) := Option.some.inj e
    cases e1
    obtain ⟨hm, fd, F⟩ := T.f28
    exact ⟨⟨fd, fn_ok F sc28 (fun _ _ => rfl) (fun cdv A outer s H E hr hgd => d28 C cdv A outer s H E hr hgd), F.binds fun _ _ _ _ _ _ us hl => match us, hl with | [_, _, _], _ => rfl⟩, hm, F.kp⟩
  | 29, x, ps, e => by
    have e1 : (("needed_finds" : Str), (["finds", "bags"] : List Str)) = (x, ps) := Option.some.inj e
    cases e1
    obtain ⟨hm, fd, F⟩ := T.f29
    exact ⟨⟨fd, fn_ok F sc29 (fun _ _ => rfl) (fun cdv A outer s H E hr hgd => d29 C cdv A outer s H E hr hgd), F.binds fun _ _ _ _ _ _ us hl => match us, hl with | [_, _], _ => rfl⟩, hm, F.kp⟩
  | 30, x, ps, e => by
    have e1 : (("is_in_some" : Str), (["finds", "rooms", "names", "name", "most"] : List Str)) = (x, ps) := Option.some.inj e
    cases e1
    obtain ⟨hm, fd, F⟩ := T.f30
    exact ⟨⟨fd, fn_ok F sc30 (fun _ _ => rfl) (fun cdv A outer s H E hr hgd => d30 C cdv A outer s H E hr hgd), F.binds fun _ _ _ _ _ _ us hl => match us, hl with | [_, _, _, _, _], _ => rfl⟩, hm, F.kp⟩
  | 31, x, ps, e => by
    have e1 : (("left_finds" : Str), (["finds", "bags"] : List Str)) = (x, ps) := Option.some.inj e
    cases e1
    obtain ⟨hm, fd, F⟩ := T.f31
    exact ⟨⟨fd, fn_ok F sc31 (fun _ _ => rfl) (fun cdv A outer s H E hr hgd => d31 C cdv A outer s H E hr hgd), F.binds fun _ _ _ _ _ _ us hl => match us, hl with | [_, _], _ => rfl⟩, hm, F.kp⟩
  | 32, x, ps, e => by
    have e1 : (("check_many_bags" : Str), (["finds", "many"] : List Str)) = (x, ps) := Option.some.inj e
    cases e1
    obtain ⟨hm, fd, F⟩ := T.f32
    exact ⟨⟨fd, fn_ok F sc32 (fun _ _ => rfl) (fun cdv A outer s H E hr hgd => d32 C cdv A outer s H E hr hgd), F.binds fun _ _ _ _ _ _ us hl => match us, hl with | [_, _], _ => rfl⟩, hm, F.kp⟩
  | 33, x, ps, e => by
    have e1 : (("lots_by_weights" : Str), (["finds", "many"] : List Str)) = (x, ps) := Option.some.inj e
    cases e1
    obtain ⟨hm, fd, F⟩ := T.f33
    exact ⟨⟨fd, fn_ok F sc33 (fun _ _ => rfl) (fun cdv A outer s H E hr hgd => d33 C cdv A outer s H E hr hgd), F.binds fun _ _ _ _ _ _ us hl => match us, hl with | [_, _], _ => rfl⟩, hm, F.kp⟩
  | 34, x, ps, e => by
    have e1 : (("least_of_all" : Str), (["finds", "many"] : List Str)) = (x, ps) := Option.some.inj e
    cases e1
    obtain ⟨hm, fd, F⟩ := T.f34
    exact ⟨⟨fd, fn_ok F sc34 (fun _ _ => rfl) (fun cdv A outer s H E hr hgd => d34 C cdv A outer s H E hr hgd), F.binds fun _ _ _ _ _ _ us hl => match us, hl with | [_, _], _ => rfl⟩, hm, F.kp⟩
  | 35, x, ps, e => by
    have e1 : (("least_heaviest" : Str), (["finds", "many"] : List Str)) = (x, ps) := Option.some.inj e
    cases e1
    obtain ⟨hm, fd, F⟩ := T.f35
    exact ⟨⟨fd, fn_ok F sc35 (fun _ _ => rfl) (fun cdv A outer s H E hr hgd => d35 C cdv A outer s H E hr hgd), F.binds fun _ _ _ _ _ _ us hl => match us, hl with | [_, _], _ => rfl⟩, hm, F.kp⟩
  | 36, x, ps, e => by
    have e1 : (("in_order_of" : Str), (["lots"] : List Str)) = (x, ps) := Option.some.inj e
    cases e1
    obtain ⟨hm, fd, F⟩ := T.f36
    exact ⟨⟨fd, fn_ok F sc36 (fun _ _ => rfl) (fun cdv A outer s H E hr hgd => d36 C cdv A outer s H E hr hgd), F.binds fun _ _ _ _ _ _ us hl => match us, hl with | [_], _ => rfl⟩, hm, F.kp⟩
  | 37, x, ps, e => by
    have e1 : (("even_lots" : Str), (["finds", "many"] : List Str)) = (x, ps) := Option.some.inj e
    cases e1
    obtain ⟨hm, fd, F⟩ := T.f37
    exact ⟨⟨fd, fn_ok F sc37 (fun _ _ => rfl) (fun cdv A outer s H E hr hgd => d37 C cdv A outer s H E hr hgd), F.binds fun _ _ _ _ _ _ us hl => match us, hl with | [_, _], _ => rfl⟩, hm, F.kp⟩
  | 38, x, ps, e => by
    have e1 : (("are_shared_lots" : Str), (["finds", "value"] : List Str)) = (x, ps) := Option.some.inj e
    cases e1
    obtain ⟨hm, fd, F⟩ := T.f38
    exact ⟨⟨fd, fn_ok F sc38 (fun _ _ => rfl) (fun cdv A outer s H E hr hgd => d38 C cdv A outer s H E hr hgd), F.binds fun _ _ _ _ _ _ us hl => match us, hl with | [_, _], _ => rfl⟩, hm, F.kp⟩
  | 39, x, ps, e => by
    have e1 : (("are_even_lots" : Str), (["finds", "many", "value"] : List Str)) = (x, ps) := Option.some.inj e
    cases e1
    obtain ⟨hm, fd, F⟩ := T.f39
    exact ⟨⟨fd, fn_ok F sc39 (fun _ _ => rfl) (fun cdv A outer s H E hr hgd => d39 C cdv A outer s H E hr hgd), F.binds fun _ _ _ _ _ _ us hl => match us, hl with | [_, _, _], _ => rfl⟩, hm, F.kp⟩
  | 40, x, ps, e => by
    have e1 : (("dealt_lots" : Str), (["finds", "many"] : List Str)) = (x, ps) := Option.some.inj e
    cases e1
    obtain ⟨hm, fd, F⟩ := T.f40
    exact ⟨⟨fd, fn_ok F sc40 (fun _ _ => rfl) (fun cdv A outer s H E hr hgd => d40 C cdv A outer s H E hr hgd), F.binds fun _ _ _ _ _ _ us hl => match us, hl with | [_, _], _ => rfl⟩, hm, F.kp⟩
  | 41, x, ps, e => by
    have e1 : (("check_most" : Str), (["finds", "most"] : List Str)) = (x, ps) := Option.some.inj e
    cases e1
    obtain ⟨hm, fd, F⟩ := T.f41
    exact ⟨⟨fd, fn_ok F sc41 (fun _ _ => rfl) (fun cdv A outer s H E hr hgd => d41 C cdv A outer s H E hr hgd), F.binds fun _ _ _ _ _ _ us hl => match us, hl with | [_, _], _ => rfl⟩, hm, F.kp⟩
  | 42, x, ps, e => by
    have e1 : (("trips_in" : Str), (["finds", "most"] : List Str)) = (x, ps) := Option.some.inj e
    cases e1
    obtain ⟨hm, fd, F⟩ := T.f42
    exact ⟨⟨fd, fn_ok F sc42 (fun _ _ => rfl) (fun cdv A outer s H E hr hgd => d42 C cdv A outer s H E hr hgd), F.binds fun _ _ _ _ _ _ us hl => match us, hl with | [_, _], _ => rfl⟩, hm, F.kp⟩
  | 43, x, ps, e => by
    have e1 : (("fewest_trips" : Str), (["finds", "most"] : List Str)) = (x, ps) := Option.some.inj e
    cases e1
    obtain ⟨hm, fd, F⟩ := T.f43
    exact ⟨⟨fd, fn_ok F sc43 (fun _ _ => rfl) (fun cdv A outer s H E hr hgd => d43 C cdv A outer s H E hr hgd), F.binds fun _ _ _ _ _ _ us hl => match us, hl with | [_, _], _ => rfl⟩, hm, F.kp⟩
  | 44, x, ps, e => by
    have e1 : (("first_trips" : Str), (["finds", "most"] : List Str)) = (x, ps) := Option.some.inj e
    cases e1
    obtain ⟨hm, fd, F⟩ := T.f44
    exact ⟨⟨fd, fn_ok F sc44 (fun _ _ => rfl) (fun cdv A outer s H E hr hgd => d44 C cdv A outer s H E hr hgd), F.binds fun _ _ _ _ _ _ us hl => match us, hl with | [_, _], _ => rfl⟩, hm, F.kp⟩
  | 45, x, ps, e => by
    have e1 : (("are_fewest_trips" : Str), (["finds", "most", "value"] : List Str)) = (x, ps) := Option.some.inj e
    cases e1
    obtain ⟨hm, fd, F⟩ := T.f45
    exact ⟨⟨fd, fn_ok F sc45 (fun _ _ => rfl) (fun cdv A outer s H E hr hgd => d45 C cdv A outer s H E hr hgd), F.binds fun _ _ _ _ _ _ us hl => match us, hl with | [_, _, _], _ => rfl⟩, hm, F.kp⟩
  | 46, x, ps, e => by
    have e1 : (("_law_hash" : Str), (["seed", "index"] : List Str)) = (x, ps) := Option.some.inj e
    cases e1
    obtain ⟨hm, fd, F⟩ := T.f46
    exact ⟨⟨fd, fn_ok F sc46 (fun _ _ => rfl) (fun cdv A outer s H E hr hgd => d46 C cdv A outer s H E hr hgd), F.binds fun _ _ _ _ _ _ us hl => match us, hl with | [_, _], _ => rfl⟩, hm, F.kp⟩
  | 47, x, ps, e => by
    have e1 : (("_law_cell" : Str), (["script", "index"] : List Str)) = (x, ps) := Option.some.inj e
    cases e1
    obtain ⟨hm, fd, F⟩ := T.f47
    exact ⟨⟨fd, fn_ok F sc47 (fun _ _ => rfl) (fun cdv A outer s H E hr hgd => d47 C cdv A outer s H E hr hgd), F.binds fun _ _ _ _ _ _ us hl => match us, hl with | [_, _], _ => rfl⟩, hm, F.kp⟩
  | 48, x, ps, e => by
    have e1 : (("_law_generator" : Str), (["script", "index"] : List Str)) = (x, ps) := Option.some.inj e
    cases e1
    obtain ⟨hm, fd, F⟩ := T.f48
    exact ⟨⟨fd, fn_ok F sc48 (fun _ _ => rfl) (fun cdv A outer s H E hr hgd => d48 C cdv A outer s H E hr hgd), F.binds fun _ _ _ _ _ _ us hl => match us, hl with | [_, _], _ => rfl⟩, hm, F.kp⟩
  | 49, x, ps, e => by
    have e1 : (("_law_random" : Str), (["generator", "bound"] : List Str)) = (x, ps) := Option.some.inj e
    cases e1
    obtain ⟨hm, fd, F⟩ := T.f49
    exact ⟨⟨fd, fn_ok F sc49 (fun _ _ => rfl) (fun cdv A outer s H E hr hgd => d49 C cdv A outer s H E hr hgd), F.binds fun _ _ _ _ _ _ us hl => match us, hl with | [_, _], _ => rfl⟩, hm, F.kp⟩
  | 50, x, ps, e => by
    have e1 : (("_law_drawn_order" : Str), (["generator", "things"] : List Str)) = (x, ps) := Option.some.inj e
    cases e1
    obtain ⟨hm, fd, F⟩ := T.f50
    exact ⟨⟨fd, fn_ok F sc50 (fun _ _ => rfl) (fun cdv A outer s H E hr hgd => d50 C cdv A outer s H E hr hgd), F.binds fun _ _ _ _ _ _ us hl => match us, hl with | [_, _], _ => rfl⟩, hm, F.kp⟩
  | 51, x, ps, e => by
    have e1 : (("_law_call" : Str), (["door", "finds", "bags", "other"] : List Str)) = (x, ps) := Option.some.inj e
    cases e1
    obtain ⟨hm, fd, F⟩ := T.f51
    exact ⟨⟨fd, fn_ok F sc51 (fun _ _ => rfl) (fun cdv A outer s H E hr hgd => d51 C cdv A outer s H E hr hgd), F.binds fun _ _ _ _ _ _ us hl => match us, hl with | [_, _, _, _], _ => rfl⟩, hm, F.kp⟩
  | 52, x, ps, e => by
    have e1 : (("_law_further" : Str), (["door", "finds", "other"] : List Str)) = (x, ps) := Option.some.inj e
    cases e1
    obtain ⟨hm, fd, F⟩ := T.f52
    exact ⟨⟨fd, fn_ok F sc52 (fun _ _ => rfl) (fun cdv A outer s H E hr hgd => d52 C cdv A outer s H E hr hgd), F.binds fun _ _ _ _ _ _ us hl => match us, hl with | [_, _, _], _ => rfl⟩, hm, F.kp⟩
  | 53, x, ps, e => by
    have e1 : (("_law_caught" : Str), (["door", "finds", "bags", "other"] : List Str)) = (x, ps) := Option.some.inj e
    cases e1
    obtain ⟨hm, fd, F⟩ := T.f53
    exact ⟨⟨fd, fn_ok F sc53 (fun _ _ => rfl) (fun cdv A outer s H E hr hgd => d53 C cdv A outer s H E hr hgd), F.binds fun _ _ _ _ _ _ us hl => match us, hl with | [_, _, _, _], _ => rfl⟩, hm, F.kp⟩
  | 54, x, ps, e => by
    have e1 : (("_law_odds" : Str), (["kind"] : List Str)) = (x, ps) := Option.some.inj e
    cases e1
    obtain ⟨hm, fd, F⟩ := T.f54
    exact ⟨⟨fd, fn_ok F sc54 (fun _ _ => rfl) (fun cdv A outer s H E hr hgd => d54 C cdv A outer s H E hr hgd), F.binds fun _ _ _ _ _ _ us hl => match us, hl with | [_], _ => rfl⟩, hm, F.kp⟩
  | 55, x, ps, e => by
    have e1 : (("law" : Str), (["script"] : List Str)) = (x, ps) := Option.some.inj e
    cases e1
    obtain ⟨hm, fd, F⟩ := T.f55
    exact ⟨⟨fd, fn_ok F sc55 (fun _ _ => rfl) (fun cdv A outer s H E hr hgd => d55 C cdv A outer s H E hr hgd), F.binds fun _ _ _ _ _ _ us hl => match us, hl with | [_], _ => rfl⟩, hm, F.kp⟩
  | n + 56, x, ps, e => nomatch (show (none : Option (Str × List Str)) = some (x, ps) from e)
theorem stuck0 {f : Addr} {fd : FuncData} {n i : Nat} {ps : List Str} (hn : n = ps.length) : FnG P w K mg base (L2.CX P w) 0 f fd ps (spF g n (run 0) i) := ⟨fun vs H Q E h => hn ▸ h.1, fun A outer s H args us vs Q E hr hgd he hb hv h => by obtain ⟨_, _, _, _, _, _, _, z⟩ := h; exact z.elim⟩
theorem step0 (T : Txt P K mg g) : ∀ j x ps, tab[j]? = some (x, ps) → FnT P w K mg base g (run 0) 0 j x ps
  | 0, x, ps, e => by
    have e1 : (("is_whole" : Str), (["value"] : List Str)) = (x, ps) := Option.some.inj e
    cases e1
    obtain ⟨hm, fd, F⟩ := T.f0
    exact ⟨⟨fd, stuck0 rfl, F.binds fun _ _ _ _ _ _ us hl => match us, hl with | [_], _ => rfl⟩, hm, F.kp⟩
  | 1, x, ps, e => by
    have e1 : (("is_count" : Str), (["value"] : List Str)) = (x, ps) := Option.some.inj e
    cases e1
    obtain ⟨hm, fd, F⟩ := T.f1
    exact ⟨⟨fd, stuck0 rfl, F.binds fun _ _ _ _ _ _ us hl => match us, hl with | [_], _ => rfl⟩, hm, F.kp⟩
  | 2, x, ps, e => by
    have e1 : (("is_signs" : Str), (["value", "signs"] : List Str)) = (x, ps) := Option.some.inj e
    cases e1
    obtain ⟨hm, fd, F⟩ := T.f2
    exact ⟨⟨fd, stuck0 rfl, F.binds fun _ _ _ _ _ _ us hl => match us, hl with | [_, _], _ => rfl⟩, hm, F.kp⟩
  | 3, x, ps, e => by
    have e1 : (("is_name" : Str), (["value"] : List Str)) = (x, ps) := Option.some.inj e
    cases e1
    obtain ⟨hm, fd, F⟩ := T.f3
    exact ⟨⟨fd, stuck0 rfl, F.binds fun _ _ _ _ _ _ us hl => match us, hl with | [_], _ => rfl⟩, hm, F.kp⟩
  | 4, x, ps, e => by
    have e1 : (("ascends" : Str), (["items"] : List Str)) = (x, ps) := Option.some.inj e
    cases e1
    obtain ⟨hm, fd, F⟩ := T.f4
    exact ⟨⟨fd, stuck0 rfl, F.binds fun _ _ _ _ _ _ us hl => match us, hl with | [_], _ => rfl⟩, hm, F.kp⟩
  | 5, x, ps, e => by
    have e1 : (("is_names" : Str), (["value"] : List Str)) = (x, ps) := Option.some.inj e
    cases e1
    obtain ⟨hm, fd, F⟩ := T.f5
    exact ⟨⟨fd, stuck0 rfl, F.binds fun _ _ _ _ _ _ us hl => match us, hl with | [_], _ => rfl⟩, hm, F.kp⟩
  | 6, x, ps, e => by
    have e1 : (("is_find" : Str), (["value"] : List Str)) = (x, ps) := Option.some.inj e
    cases e1
    obtain ⟨hm, fd, F⟩ := T.f6
    exact ⟨⟨fd, stuck0 rfl, F.binds fun _ _ _ _ _ _ us hl => match us, hl with | [_], _ => rfl⟩, hm, F.kp⟩
  | 7, x, ps, e => by
    have e1 : (("check_finds" : Str), (["finds"] : List Str)) = (x, ps) := Option.some.inj e
    cases e1
    obtain ⟨hm, fd, F⟩ := T.f7
    exact ⟨⟨fd, stuck0 rfl, F.binds fun _ _ _ _ _ _ us hl => match us, hl with | [_], _ => rfl⟩, hm, F.kp⟩
  | 8, x, ps, e => by
    have e1 : (("check_bags" : Str), (["finds", "bags"] : List Str)) = (x, ps) := Option.some.inj e
    cases e1
    obtain ⟨hm, fd, F⟩ := T.f8
    exact ⟨⟨fd, stuck0 rfl, F.binds fun _ _ _ _ _ _ us hl => match us, hl with | [_, _], _ => rfl⟩, hm, F.kp⟩
  | 9, x, ps, e => by
    have e1 : (("weight_in" : Str), (["finds", "lot"] : List Str)) = (x, ps) := Option.some.inj e
    cases e1
    obtain ⟨hm, fd, F⟩ := T.f9
    exact ⟨⟨fd, stuck0 rfl, F.binds fun _ _ _ _ _ _ us hl => match us, hl with | [_, _], _ => rfl⟩, hm, F.kp⟩
  | 10, x, ps, e => by
    have e1 : (("are_lots_of" : Str), (["finds", "lots"] : List Str)) = (x, ps) := Option.some.inj e
    cases e1
    obtain ⟨hm, fd, F⟩ := T.f10
    exact ⟨⟨fd, stuck0 rfl, F.binds fun _ _ _ _ _ _ us hl => match us, hl with | [_, _], _ => rfl⟩, hm, F.kp⟩
  | 11, x, ps, e => by
    have e1 : (("is_carrying_of" : Str), (["finds", "bags", "value"] : List Str)) = (x, ps) := Option.some.inj e
    cases e1
    obtain ⟨hm, fd, F⟩ := T.f11
    exact ⟨⟨fd, stuck0 rfl, F.binds fun _ _ _ _ _ _ us hl => match us, hl with | [_, _, _], _ => rfl⟩, hm, F.kp⟩
  | 12, x, ps, e => by
    have e1 : (("is_carrying" : Str), (["finds", "bags", "value"] : List Str)) = (x, ps) := Option.some.inj e
    cases e1
    obtain ⟨hm, fd, F⟩ := T.f12
    exact ⟨⟨fd, stuck0 rfl, F.binds fun _ _ _ _ _ _ us hl => match us, hl with | [_, _, _], _ => rfl⟩, hm, F.kp⟩
  | 13, x, ps, e => by
    have e1 : (("worth_of_carrying" : Str), (["finds", "carrying"] : List Str)) = (x, ps) := Option.some.inj e
    cases e1
    obtain ⟨hm, fd, F⟩ := T.f13
    exact ⟨⟨fd, stuck0 rfl, F.binds fun _ _ _ _ _ _ us hl => match us, hl with | [_, _], _ => rfl⟩, hm, F.kp⟩
  | 14, x, ps, e => by
    have e1 : (("worth_carried" : Str), (["finds", "bags", "carrying"] : List Str)) = (x, ps) := Option.some.inj e
    cases e1
    obtain ⟨hm, fd, F⟩ := T.f14
    exact ⟨⟨fd, stuck0 rfl, F.binds fun _ _ _ _ _ _ us hl => match us, hl with | [_, _, _], _ => rfl⟩, hm, F.kp⟩
  | 15, x, ps, e => by
    have e1 : (("rooms_of" : Str), (["bags"] : List Str)) = (x, ps) := Option.some.inj e
    cases e1
    obtain ⟨hm, fd, F⟩ := T.f15
    exact ⟨⟨fd, stuck0 rfl, F.binds fun _ _ _ _ _ _ us hl => match us, hl with | [_], _ => rfl⟩, hm, F.kp⟩
  | 16, x, ps, e => by
    have e1 : (("put_in" : Str), (["room", "at", "weight"] : List Str)) = (x, ps) := Option.some.inj e
    cases e1
    obtain ⟨hm, fd, F⟩ := T.f16
    exact ⟨⟨fd, stuck0 rfl, F.binds fun _ _ _ _ _ _ us hl => match us, hl with | [_, _, _], _ => rfl⟩, hm, F.kp⟩
  | 17, x, ps, e => by
    have e1 : (("rooms_behind" : Str), (["room", "weight"] : List Str)) = (x, ps) := Option.some.inj e
    cases e1
    obtain ⟨hm, fd, F⟩ := T.f17
    exact ⟨⟨fd, stuck0 rfl, F.binds fun _ _ _ _ _ _ us hl => match us, hl with | [_, _], _ => rfl⟩, hm, F.kp⟩
  | 18, x, ps, e => by
    have e1 : (("ways_table" : Str), (["finds", "bags"] : List Str)) = (x, ps) := Option.some.inj e
    cases e1
    obtain ⟨hm, fd, F⟩ := T.f18
    exact ⟨⟨fd, stuck0 rfl, F.binds fun _ _ _ _ _ _ us hl => match us, hl with | [_, _], _ => rfl⟩, hm, F.kp⟩
  | 19, x, ps, e => by
    have e1 : (("how_many_carryings" : Str), (["finds", "bags"] : List Str)) = (x, ps) := Option.some.inj e
    cases e1
    obtain ⟨hm, fd, F⟩ := T.f19
    exact ⟨⟨fd, stuck0 rfl, F.binds fun _ _ _ _ _ _ us hl => match us, hl with | [_, _], _ => rfl⟩, hm, F.kp⟩
  | 20, x, ps, e => by
    have e1 : (("worth_tables" : Str), (["finds", "rooms", "names"] : List Str)) = (x, ps) := Option.some.inj e
    cases e1
    obtain ⟨hm, fd, F⟩ := T.f20
    exact ⟨⟨fd, stuck0 rfl, F.binds fun _ _ _ _ _ _ us hl => match us, hl with | [_, _, _], _ => rfl⟩, hm, F.kp⟩
  | 21, x, ps, e => by
    have e1 : (("most_with" : Str), (["finds", "rooms", "names"] : List Str)) = (x, ps) := Option.some.inj e
    cases e1
    obtain ⟨hm, fd, F⟩ := T.f21
    exact ⟨⟨fd, stuck0 rfl, F.binds fun _ _ _ _ _ _ us hl => match us, hl with | [_, _, _], _ => rfl⟩, hm, F.kp⟩
  | 22, x, ps, e => by
    have e1 : (("most_worth" : Str), (["finds", "bags"] : List Str)) = (x, ps) := Option.some.inj e
    cases e1
    obtain ⟨hm, fd, F⟩ := T.f22
    exact ⟨⟨fd, stuck0 rfl, F.binds fun _ _ _ _ _ _ us hl => match us, hl with | [_, _], _ => rfl⟩, hm, F.kp⟩
  | 23, x, ps, e => by
    have e1 : (("carried_by" : Str), (["finds", "bags", "told"] : List Str)) = (x, ps) := Option.some.inj e
    cases e1
    obtain ⟨hm, fd, F⟩ := T.f23
    exact ⟨⟨fd, stuck0 rfl, F.binds fun _ _ _ _ _ _ us hl => match us, hl with | [_, _, _], _ => rfl⟩, hm, F.kp⟩
  | 24, x, ps, e => by
    have e1 : (("full_rows" : Str), (["finds", "bags"] : List Str)) = (x, ps) := Option.some.inj e
    cases e1
    obtain ⟨hm, fd, F⟩ := T.f24
    exact ⟨⟨fd, stuck0 rfl, F.binds fun _ _ _ _ _ _ us hl => match us, hl with | [_, _], _ => rfl⟩, hm, F.kp⟩
  | 25, x, ps, e => by
    have e1 : (("all_carried" : Str), (["finds", "bags"] : List Str)) = (x, ps) := Option.some.inj e
    cases e1
    obtain ⟨hm, fd, F⟩ := T.f25
    exact ⟨⟨fd, stuck0 rfl, F.binds fun _ _ _ _ _ _ us hl => match us, hl with | [_, _], _ => rfl⟩, hm, F.kp⟩
  | 26, x, ps, e => by
    have e1 : (("best_row" : Str), (["finds", "bags"] : List Str)) = (x, ps) := Option.some.inj e
    cases e1
    obtain ⟨hm, fd, F⟩ := T.f26
    exact ⟨⟨fd, stuck0 rfl, F.binds fun _ _ _ _ _ _ us hl => match us, hl with | [_, _], _ => rfl⟩, hm, F.kp⟩
  | 27, x, ps, e => by
    have e1 : (("best_carrying" : Str), (["finds", "bags"] : List Str)) = (x, ps) := Option.some.inj e
    cases e1
    obtain ⟨hm, fd, F⟩ := T.f27
    exact ⟨⟨fd, stuck0 rfl, F.binds fun _ _ _ _ _ _ us hl => match us, hl with | [_, _], _ => rfl⟩, hm, F.kp⟩
  | 28, x, ps, e => by
    have e1 : (("is_best_carrying" : Str), (["finds", "bags", "value"] : List Str)) = (x, ps) := Option.some.inj e
    cases e1
    obtain ⟨hm, fd, F⟩ := T.f28
    exact ⟨⟨fd, stuck0 rfl, F.binds fun _ _ _ _ _ _ us hl => match us, hl with | [_, _, _], _ => rfl⟩, hm, F.kp⟩
  | 29, x, ps, e => by
    have e1 : (("needed_finds" : Str), (["finds", "bags"] : List Str)) = (x, ps) := Option.some.inj e
    cases e1
    obtain ⟨hm, fd, F⟩ := T.f29
    exact ⟨⟨fd, stuck0 rfl, F.binds fun _ _ _ _ _ _ us hl => match us, hl with | [_, _], _ => rfl⟩, hm, F.kp⟩
  | 30, x, ps, e => by
    have e1 : (("is_in_some" : Str), (["finds", "rooms", "names", "name", "most"] : List Str)) = (x, ps) := Option.some.inj e
    cases e1
    obtain ⟨hm, fd, F⟩ := T.f30
    exact ⟨⟨fd, stuck0 rfl, F.binds fun _ _ _ _ _ _ us hl => match us, hl with | [_, _, _, _, _], _ => rfl⟩, hm, F.kp⟩
  | 31, x, ps, e => by
    have e1 : (("left_finds" : Str), (["finds", "bags"] : List Str)) = (x, ps) := Option.some.inj e
    cases e1
    obtain ⟨hm, fd, F⟩ := T.f31
    exact ⟨⟨fd, stuck0 rfl, F.binds fun _ _ _ _ _ _ us hl => match us, hl with | [_, _], _ => rfl⟩, hm, F.kp⟩
  | 32, x, ps, e => by
    have e1 : (("check_many_bags" : Str), (["finds", "many"] : List Str)) = (x, ps) := Option.some.inj e
    cases e1
    obtain ⟨hm, fd, F⟩ := T.f32
    exact ⟨⟨fd, stuck0 rfl, F.binds fun _ _ _ _ _ _ us hl => match us, hl with | [_, _], _ => rfl⟩, hm, F.kp⟩
  | 33, x, ps, e => by
    have e1 : (("lots_by_weights" : Str), (["finds", "many"] : List Str)) = (x, ps) := Option.some.inj e
    cases e1
    obtain ⟨hm, fd, F⟩ := T.f33
    exact ⟨⟨fd, stuck0 rfl, F.binds fun _ _ _ _ _ _ us hl => match us, hl with | [_, _], _ => rfl⟩, hm, F.kp⟩
  | 34, x, ps, e => by
    have e1 : (("least_of_all" : Str), (["finds", "many"] : List Str)) = (x, ps) := Option.some.inj e
    cases e1
    obtain ⟨hm, fd, F⟩ := T.f34
    exact ⟨⟨fd, stuck0 rfl, F.binds fun _ _ _ _ _ _ us hl => match us, hl with | [_, _], _ => rfl⟩, hm, F.kp⟩
  | 35, x, ps, e => by
    have e1 : (("least_heaviest" : Str), (["finds", "many"] : List Str)) = (x, ps) := Option.some.inj e
    cases e1
    obtain ⟨hm, fd, F⟩ := T.f35
    exact ⟨⟨fd, stuck0 rfl, F.binds fun _ _ _ _ _ _ us hl => match us, hl with | [_, _], _ => rfl⟩, hm, F.kp⟩
  | 36, x, ps, e => by
    have e1 : (("in_order_of" : Str), (["lots"] : List Str)) = (x, ps) := Option.some.inj e
    cases e1
    obtain ⟨hm, fd, F⟩ := T.f36
    exact ⟨⟨fd, stuck0 rfl, F.binds fun _ _ _ _ _ _ us hl => match us, hl with | [_], _ => rfl⟩, hm, F.kp⟩
  | 37, x, ps, e => by
    have e1 : (("even_lots" : Str), (["finds", "many"] : List Str)) = (x, ps) := Option.some.inj e
    cases e1
    obtain ⟨hm, fd, F⟩ := T.f37
    exact ⟨⟨fd, stuck0 rfl, F.binds fun _ _ _ _ _ _ us hl => match us, hl with | [_, _], _ => rfl⟩, hm, F.kp⟩
  | 38, x, ps, e => by
    have e1 : (("are_shared_lots" : Str), (["finds", "value"] : List Str)) = (x, ps) := Option.some.inj e
    cases e1
    obtain ⟨hm, fd, F⟩ := T.f38
    exact ⟨⟨fd, stuck0 rfl, F.binds fun _ _ _ _ _ _ us hl => match us, hl with | [_, _], _ => rfl⟩, hm, F.kp⟩
  | 39, x, ps, e => by
    have e1 : (("are_even_lots" : Str), (["finds", "many", "value"] : List Str)) = (x, ps) := Option.some.inj e
    cases e1
    obtain ⟨hm, fd, F⟩ := T.f39
    exact ⟨⟨fd, stuck0 rfl, F.binds fun _ _ _ _ _ _ us hl => match us, hl with | [_, _, _], _ => rfl⟩, hm, F.kp⟩
  | 40, x, ps, e => by
    have e1 : (("dealt_lots" : Str), (["finds", "many"] : List Str)) = (x, ps) := Option.some.inj e
    cases e1
    obtain ⟨hm, fd, F⟩ := T.f40
    exact ⟨⟨fd, stuck0 rfl, F.binds fun _ _ _ _ _ _ us hl => match us, hl with | [_, _], _ => rfl⟩, hm, F.kp⟩
  | 41, x, ps, e => by
    have e1 : (("check_most" : Str), (["finds", "most"] : List Str)) = (x, ps) := Option.some.inj e
    cases e1
    obtain ⟨hm, fd, F⟩ := T.f41
    exact ⟨⟨fd, stuck0 rfl, F.binds fun _ _ _ _ _ _ us hl => match us, hl with | [_, _], _ => rfl⟩, hm, F.kp⟩
  | 42, x, ps, e => by
    have e1 : (("trips_in" : Str), (["finds", "most"] : List Str)) = (x, ps) := Option.some.inj e
    cases e1
    obtain ⟨hm, fd, F⟩ := T.f42
    exact ⟨⟨fd, stuck0 rfl, F.binds fun _ _ _ _ _ _ us hl => match us, hl with | [_, _], _ => rfl⟩, hm, F.kp⟩
  | 43, x, ps, e => by
    have e1 : (("fewest_trips" : Str), (["finds", "most"] : List Str)) = (x, ps) := Option.some.inj e
    cases e1
    obtain ⟨hm, fd, F⟩ := T.f43
    exact ⟨⟨fd, stuck0 rfl, F.binds fun _ _ _ _ _ _ us hl => match us, hl with | [_, _], _ => rfl⟩, hm, F.kp⟩
  | 44, x, ps, e => by
    have e1 : (("first_trips" : Str), (["finds", "most"] : List Str)) = (x, ps) := Option.some.inj e
    cases e1
    obtain ⟨hm, fd, F⟩ := T.f44
    exact ⟨⟨fd, stuck0 rfl, F.binds fun _ _ _ _ _ _ us hl => match us, hl with | [_, _], _ => rfl⟩, hm, F.kp⟩
  | 45, x, ps, e => by
    have e1 : (("are_fewest_trips" : Str), (["finds", "most", "value"] : List Str)) = (x, ps) := Option.some.inj e
    cases e1
    obtain ⟨hm, fd, F⟩ := T.f45
    exact ⟨⟨fd, stuck0 rfl, F.binds fun _ _ _ _ _ _ us hl => match us, hl with | [_, _, _], _ => rfl⟩, hm, F.kp⟩
  | 46, x, ps, e => by
    have e1 : (("_law_hash" : Str), (["seed", "index"] : List Str)) = (x, ps) := Option.some.inj e
    cases e1
    obtain ⟨hm, fd, F⟩ := T.f46
    exact ⟨⟨fd, stuck0 rfl, F.binds fun _ _ _ _ _ _ us hl => match us, hl with | [_, _], _ => rfl⟩, hm, F.kp⟩
  | 47, x, ps, e => by
    have e1 : (("_law_cell" : Str), (["script", "index"] : List Str)) = (x, ps) := Option.some.inj e
    cases e1
    obtain ⟨hm, fd, F⟩ := T.f47
    exact ⟨⟨fd, stuck0 rfl, F.binds fun _ _ _ _ _ _ us hl => match us, hl with | [_, _], _ => rfl⟩, hm, F.kp⟩
  | 48, x, ps, e => by
    have e1 : (("_law_generator" : Str), (["script", "index"] : List Str)) = (x, ps) := Option.some.inj e
    cases e1
    obtain ⟨hm, fd, F⟩ := T.f48
    exact ⟨⟨fd, stuck0 rfl, F.binds fun _ _ _ _ _ _ us hl => match us, hl with | [_, _], _ => rfl⟩, hm, F.kp⟩
  | 49, x, ps, e => by
    have e1 : (("_law_random" : Str), (["generator", "bound"] : List Str)) = (x, ps) := Option.some.inj e
    cases e1
    obtain ⟨hm, fd, F⟩ := T.f49
    exact ⟨⟨fd, stuck0 rfl, F.binds fun _ _ _ _ _ _ us hl => match us, hl with | [_, _], _ => rfl⟩, hm, F.kp⟩
  | 50, x, ps, e => by
    have e1 : (("_law_drawn_order" : Str), (["generator", "things"] : List Str)) = (x, ps) := Option.some.inj e
    cases e1
    obtain ⟨hm, fd, F⟩ := T.f50
    exact ⟨⟨fd, stuck0 rfl, F.binds fun _ _ _ _ _ _ us hl => match us, hl with | [_, _], _ => rfl⟩, hm, F.kp⟩
  | 51, x, ps, e => by
    have e1 : (("_law_call" : Str), (["door", "finds", "bags", "other"] : List Str)) = (x, ps) := Option.some.inj e
    cases e1
    obtain ⟨hm, fd, F⟩ := T.f51
    exact ⟨⟨fd, stuck0 rfl, F.binds fun _ _ _ _ _ _ us hl => match us, hl with | [_, _, _, _], _ => rfl⟩, hm, F.kp⟩
  | 52, x, ps, e => by
    have e1 : (("_law_further" : Str), (["door", "finds", "other"] : List Str)) = (x, ps) := Option.some.inj e
    cases e1
    obtain ⟨hm, fd, F⟩ := T.f52
    exact ⟨⟨fd, stuck0 rfl, F.binds fun _ _ _ _ _ _ us hl => match us, hl with | [_, _, _], _ => rfl⟩, hm, F.kp⟩
  | 53, x, ps, e => by
    have e1 : (("_law_caught" : Str), (["door", "finds", "bags", "other"] : List Str)) = (x, ps) := Option.some.inj e
    cases e1
    obtain ⟨hm, fd, F⟩ := T.f53
    exact ⟨⟨fd, stuck0 rfl, F.binds fun _ _ _ _ _ _ us hl => match us, hl with | [_, _, _, _], _ => rfl⟩, hm, F.kp⟩
  | 54, x, ps, e => by
    have e1 : (("_law_odds" : Str), (["kind"] : List Str)) = (x, ps) := Option.some.inj e
    cases e1
    obtain ⟨hm, fd, F⟩ := T.f54
    exact ⟨⟨fd, stuck0 rfl, F.binds fun _ _ _ _ _ _ us hl => match us, hl with | [_], _ => rfl⟩, hm, F.kp⟩
  | 55, x, ps, e => by
    have e1 : (("law" : Str), (["script"] : List Str)) = (x, ps) := Option.some.inj e
    cases e1
    obtain ⟨hm, fd, F⟩ := T.f55
    exact ⟨⟨fd, stuck0 rfl, F.binds fun _ _ _ _ _ _ us hl => match us, hl with | [_], _ => rfl⟩, hm, F.kp⟩
  | n + 56, x, ps, e => nomatch (show (none : Option (Str × List Str)) = some (x, ps) from e)
theorem ctx (T : Txt P K mg g) (sys : ∃ o, base.get? sysModules = some o) : ∀ k, Cxt P w K mg base g k (run k)
  | 0 => ⟨step0 T, T.bn, T.hK, sys, T.err, T.gC, T.cI, T.cS⟩
  | k + 1 => ⟨step T (ctx T sys k), T.bn, T.hK, sys, T.err, T.gC, T.cI, T.cS⟩
end
end K90

set_option Elab.async false
set_option linter.all false
set_option maxRecDepth 100000
set_option maxHeartbeats 0
namespace K90
open PySem L2 CH
def zS (cs : List Nat) : PyData := .str ⟨⟨cs⟩⟩
def findsD (m n : Nat) : PyData := .dict [(zS [103, 101, 109], .tuple [.int 2, .int (Int.ofNat m)]), (zS [99, 117, 112], .tuple [.int 3, .int 4]), (zS [117, 114, 110], .tuple [.int 6, .int (Int.ofNat n)])]
def bagsD : PyData := .dict [(zS [98, 111, 98], .int 3), (zS [97, 110, 110], .int 4)]
def kinds : List Nat := [0, 1, 0, 1, 2, 0, 1, 0, 1, 0, 1, 0, 1, 0, 1, 0, 1, 0, 1, 0, 3, 0, 3, 0, 3, 0, 3, 0, 4, 0, 4, 0, 4]
def clsOf : Nat → Nat
  | 0 => 1
  | 1 => 2
  | 2 => 3
  | _ => 0
def odds (kind : Nat) : List PyData := match run 19 54 [.d (.int kind)] [] with
  | .ok (.d (.list xs)) _ => xs
  | _ => []
def isEx (r : R W) (c : Nat) (odd : PyData) : Bool := match r with
  | .exc c' (.d o) _ => decide (c' = c) && beqD o odd
  | _ => false
def isOk (r : R W) : Bool := match r with
  | .ok (.d _) _ => true
  | _ => false
def test1 (m n door : Nat) : Bool := (odds (kinds.getD door 0)).all fun odd => isEx (run 18 51 [.d (.int door), .d (findsD m n), .d bagsD, .d odd] []) (clsOf (kinds.getD door 0)) odd
theorem t1 : ∀ m n : Nat, ((List.range 33).all fun door => test1 m n door) = true := by intro m n; kernel_rfl
def doors2 : List Nat := [0, 1, 2, 3, 4, 5, 6, 13, 19, 27]
def isEx2 (r : R W) : Bool := match r with
  | .exc c (.ref 0) [some d] => decide (c < 4) && beqD d (.list [zS [111, 100, 100]])
  | _ => false
theorem t2 : ∀ m n : Nat, (doors2.all fun door => isEx2 (run 18 51 [.d (.int door), .d (findsD m n), .d bagsD, .ref 0] [some (.list [zS [111, 100, 100]])])) = true := by intro m n; kernel_rfl
def goods : List (Nat × PyData) := [(1, .dict [(zS [97, 110, 110], .int 0)]), (4, .dict [(zS [97, 110, 110], .list []), (zS [98, 111, 98], .list [])]), (6, .dict [(zS [97, 110, 110], .int (10 ^ 11))]), (20, .int 1), (28, .int 0), (30, .int (10 ^ 11))]
theorem t3 : ∀ m n : Nat, (goods.all fun p => isOk (run 18 51 [.d (.int p.1), .d (findsD m n), .d bagsD, .d p.2] [])) = true := by intro m n; kernel_rfl
end K90

set_option Elab.async false
set_option linter.all false
set_option maxRecDepth 100000
set_option maxHeartbeats 0
namespace K90
open PySem L2 CH
/-! draws -/
theorem hash (k : Nat) (B C : Int) (hB : 0 ≤ B) (hC : 0 ≤ C) (hB2 : B < 2147483647) (hC2 : C < 2000) : ∃ m : Int, run (k + 1) 46 [.d (.int B), .d (.int C)] [] = .ok (.d (.int m)) [] := by
  have h1 : CH.small64 1140671 = true := by decide
  have h2 : CH.small64 27644437 = true := by decide
  have h3 : CH.small64 C = true := by simp only [CH.small64, Bool.and_eq_true, decide_eq_true_eq]; omega
  have h4 : CH.small64 131 = true := by decide
  have h5 : CH.small64 62089 = true := by decide
  have h6 : CH.small64 48271 = true := by decide
  have h7 : ∀ i : Int, CH.small64 (i % 2147483629) = true := fun i => by simp only [CH.small64, Bool.and_eq_true, decide_eq_true_eq]; omega
  simp [run, runBody, b46, sSeq, sSet, sBin, sCB, sVar, sD, sCons, sNil, sRet, CH.R.bind, CH.R.st, fin2, finL, lk, lkL, pMul, pAdd, pMod, pInt, h1, h2, h3, h4, h5, h6, h7]
theorem bits1 : ∀ n < 34, (1 + (Builtin.Int.intBits (Int.ofNat n) : Int) / 30) = 1 := by decide
theorem r47 (k : Nat) (ws : List W) (h : Cells) : run (k + 1) 47 ws h = runBody 2 2 (b47 (run k)) ws h := by simp only [run]
theorem r48 (k : Nat) (ws : List W) (h : Cells) : run (k + 1) 48 ws h = runBody 2 3 (b48 (run k)) ws h := by simp only [run]
theorem r49 (k : Nat) (ws : List W) (h : Cells) : run (k + 1) 49 ws h = runBody 2 4 (b49 (run k)) ws h := by simp only [run]
theorem r50 (k : Nat) (ws : List W) (h : Cells) : run (k + 1) 50 ws h = runBody 2 4 (b50 (run k)) ws h := by simp only [run]
theorem r53 (k : Nat) (ws : List W) (h : Cells) : run (k + 1) 53 ws h = runBody 4 8 (b53 (run k)) ws h := by simp only [run]
theorem r55 (k : Nat) (ws : List W) (h : Cells) : run (k + 1) 55 ws h = runBody 1 11 (b55 (run k)) ws h := by simp only [run]
theorem bits2 (b : Int) (hb : 1 ≤ b) (hb2 : b ≤ 33) : (1 + (Builtin.Int.intBits b : Int) / 30) = 1 := by
  have := bits1 b.toNat (by omega)
  have e : Int.ofNat b.toNat = b := Int.toNat_of_nonneg (by omega)
  rw [e] at this
  exact this
theorem rnd1 (k : Nat) (A B C b : Int) (e1 : 0 < b) (e2 : b < 1073741824) (hp : A > 0) : run (k + 1) 49 [.ref 0, .d (.int b)] [some (.list [.int A, .int B, .int C])] = .ok (.d (.int (A % b))) [some (.list [.int (A / b), .int B, .int C])] := by
  rw [r49]
  simp [runBody, b49, sSeq, sSet, sBin, sCB, sVar, sD, sCons, sNil, sRet, CH.R.bind, CH.R.st, fin2, finL, lk, lkL, pMod, pInt, sIf, sCmpT, fin2B, sPut, putC, pFdiv, pGt, pIx, ixN, atI, hp, e1, e2]
def lpB (fr : FR) : S := (sSeq (sPut (sVar 0) (sD (.int 2)) (sBin pAdd (sBin pIx (sVar 0) (sD (.int 2))) (sD (.int 1)))) (sSet 2 (sBin pAdd (sBin pMul (sVar 2) (sD (.int 2147483587))) (sCall fr 46 2 (sCons (sBin pIx (sVar 0) (sD (.int 1))) (sCons (sBin pIx (sVar 0) (sD (.int 2))) sNil))))))
theorem call46 (fr : FR) (B C m : Int) (hm : fr 46 [.d (.int B), .d (.int C)] [] = .ok (.d (.int m)) []) (h : Cells) : callW fr 46 [.d (.int B), .d (.int C)] h = .ok (.d (.int m)) h := by
  have e : putBack [] [] h = h := by
    unfold putBack
    apply List.ext_getElem?
    intro i
    rw [List.getElem?_map, List.getElem?_zipIdx]
    cases h[i]? <;> simp
  simp [callW, refsOf, pick, into, isExc, hm, back, e]
theorem lpB_ok (fr : FR) (A B C b m : Int) (w : Option W) (hm : fr 46 [.d (.int B), .d (.int (C + 1))] [] = .ok (.d (.int m)) []) : lpB fr [some (.ref 0), some (.d (.int b)), some (.d (.int 0)), w] [some (.list [.int A, .int B, .int C])] = .nx [some (.ref 0), some (.d (.int b)), some (.d (.int m)), w] [some (.list [.int A, .int B, .int (C + 1)])] := by
  have h2 : pMul (.int 0) (.int 2147483587) = some (.int 0) := by rfl
  simp [lpB, sSeq, sSet, sBin, sVar, sD, sCons, sNil, CH.R.bind, CH.R.st, fin2, lk, lkL, sPut, putC, pAdd, h2, pIx, ixN, atI, sCall, call46 fr B (C + 1) m hm]
theorem bound1 (bb : Int) (h : bb = 1) : small62 bb = true ∧ rangeL 0 bb.toNat = [.int 0] := by subst h; exact ⟨rfl, rfl⟩
theorem fdiv30 (i : Int) : pFdiv (.int i) (.int 30) = some (.int (i / 30)) := by
  have e : (0 : Int) < 30 ∧ (30 : Int) < 1073741824 := by omega
  simp only [pFdiv, e, and_self, if_true]
theorem it_ok0 (sb : E) (z : Int) (env : CH.Env) (h : Cells) (hs : sb env h = .ok (.d (.int z)) h) (hz : 1 + z / 30 = 1) : iRange1 (sCons (sBin pAdd (sD (.int 1)) (sBin pFdiv sb (sD (.int 30)))) sNil) env h = .ok ⟨[.int 0], none⟩ h := by
  obtain ⟨h1, h3⟩ := bound1 _ hz
  simp only [iRange1, sCons, sBin, sD, hs, sNil, CH.R.bind, fin2, lk, lkL, fdiv30, pAdd, h1, h3, if_true]
theorem bit_ok (b : Int) (w w2 w3 : Option W) (h : Cells) : sBits (sVar 1) [w, some (.d (.int b)), w2, w3] h = .ok (.d (.int (Builtin.Int.intBits b : Int))) h := by
  simp only [sBits, sVar, List.getElem?_cons_succ, List.getElem?_cons_zero, CH.R.bind, lk]
theorem it_ok (b : Int) (hbb : (1 + (Builtin.Int.intBits b : Int) / 30) = 1) (w w2 w3 : Option W) (h : Cells) : iRange1 (sCons (sBin pAdd (sD (.int 1)) (sBin pFdiv (sBits (sVar 1)) (sD (.int 30)))) sNil) [w, some (.d (.int b)), w2, w3] h = .ok ⟨[.int 0], none⟩ h :=
  it_ok0 (sBits (sVar 1)) (Builtin.Int.intBits b : Int) [w, some (.d (.int b)), w2, w3] h (bit_ok b w w2 w3 h) hbb
def b49' (it : I) (lb : S) : S := sSeq (sIf (sCmpT pGt (sBin pIx (sVar 0) (sD (.int 0))) (sD (.int 0))) (sSeq (sSet 2 (sBin pMod (sCB pInt (sCons (sBin pIx (sVar 0) (sD (.int 0))) sNil)) (sVar 1))) (sSeq (sPut (sVar 0) (sD (.int 0)) (sBin pFdiv (sBin pIx (sVar 0) (sD (.int 0))) (sVar 1))) (sRet (sVar 2)))) sNop) (sSeq (sSet 2 (sD (.int 0))) (sSeq (sFor (.v 3) it lb) (sRet (sBin pMod (sCB pInt (sCons (sVar 2) sNil)) (sVar 1)))))
def it49 : I := iRange1 (sCons (sBin pAdd (sD (.int 1)) (sBin pFdiv (sBits (sVar 1)) (sD (.int 30)))) sNil)
theorem b49_eq (fr : FR) : b49 fr = b49' it49 (lpB fr) := by
  unfold b49 b49' it49 lpB
  rfl
theorem rnd0 (it : I) (lb : S) (c c' : PyData) (A b m : Int) (e1 : 0 < b) (hp : ¬ A > 0) (hc : pIx c (.int 0) = some (.int A))
    (l1 : lb [some (.ref 0), some (.d (.int b)), some (.d (.int 0)), some (.d (.int 0))] [some c] = .nx [some (.ref 0), some (.d (.int b)), some (.d (.int m)), some (.d (.int 0))] [some c'])
    (i1 : it [some (.ref 0), some (.d (.int b)), some (.d (.int 0)), none] [some c] = .ok ⟨[.int 0], none⟩ [some c]) :
    runBody 2 4 (b49' it lb) [.ref 0, .d (.int b)] [some c] = .ok (.d (.int (m % b))) [some c'] := by
  simp [runBody, b49', sSeq, sSet, sBin, sCB, sVar, sD, sCons, sNil, sRet, sNop, CH.R.bind, CH.R.st, fin2, finL, lk, lkL, pMod, pInt, sIf, sCmpT, fin2B, pGt, hc, hp, e1, sFor, i1, forGo, gdOk, Pat.bind, l1]
theorem rnd2 (fr : FR) (A B C b m : Int) (e1 : 0 < b) (hp : ¬ A > 0) (hbb : (1 + (Builtin.Int.intBits b : Int) / 30) = 1)
    (hm : fr 46 [.d (.int B), .d (.int (C + 1))] [] = .ok (.d (.int m)) []) : runBody 2 4 (b49 fr) [.ref 0, .d (.int b)] [some (.list [.int A, .int B, .int C])] = .ok (.d (.int (m % b))) [some (.list [.int A, .int B, .int (C + 1)])] := by
  rw [b49_eq]
  exact rnd0 it49 (lpB fr) _ _ A b m e1 hp rfl (lpB_ok fr A B C b m (some (.d (.int 0))) hm) (it_ok b hbb (some (.ref 0)) (some (.d (.int 0))) none [some (.list [.int A, .int B, .int C])])
theorem rnd (k : Nat) (A B C b : Int) (hA : 0 ≤ A) (hB : 0 ≤ B) (hB2 : B < 2147483647) (hC : 0 ≤ C) (hC2 : C < 1000) (hb : 1 ≤ b) (hb2 : b ≤ 33) :
    ∃ r A' C' : Int, run (k + 2) 49 [.ref 0, .d (.int b)] [some (.list [.int A, .int B, .int C])] = .ok (.d (.int r)) [some (.list [.int A', .int B, .int C'])] ∧ 0 ≤ r ∧ r < b ∧ 0 ≤ A' ∧ C ≤ C' ∧ C' ≤ C + 1 := by
  have e1 : (0 : Int) < b := by omega
  have e2 : b < 1073741824 := by omega
  by_cases hp : A > 0
  · exact ⟨A % b, A / b, C, rnd1 (k + 1) A B C b e1 e2 hp, Int.emod_nonneg _ (by omega), Int.emod_lt_of_pos _ (by omega), Int.ediv_nonneg hA (by omega), by omega, by omega⟩
  · obtain ⟨m, hm⟩ := hash k B (C + 1) hB (by omega) hB2 (by omega)
    refine ⟨m % b, A, C + 1, ?_, Int.emod_nonneg _ (by omega), Int.emod_lt_of_pos _ (by omega), hA, by omega, by omega⟩
    rw [r49]
    exact rnd2 _ A B C b m e1 hp (bits2 b hb hb2) hm
/-- what a draw keeps -/
def Gen (o : Option PyData) (c : Int) : Prop := ∃ A B C : Int, o = some (.list [.int A, .int B, .int C]) ∧ 0 ≤ A ∧ 0 ≤ B ∧ B < 2147483647 ∧ 0 ≤ C ∧ C ≤ c
theorem gen0 (k : Nat) (ns : List Int) : ∃ o, Gen o 0 ∧ run (k + 2) 48 [.scr ns, .d (.int 0)] [] = .ok (.ref 0) [o] := by
  have hc : ∃ v : Int, run (k + 1) 47 [.scr ns, .d (.int 0)] [] = .ok (.d (.int v)) [] := by
    cases ns with
    | nil => exact ⟨0, by rfl⟩
    | cons a l => 
      refine ⟨a, ?_⟩
      have e : (0 : Int) < (l.length : Int) + 1 := by omega
      rw [r47]
      simp [runBody, b47, sSeq, sIf, sCmpT, sVar, sLenS, sRet, sIxS, CH.R.bind, CH.R.st, fin2B, lk, pLt, atI, ixN, e]
  obtain ⟨v, hv⟩ := hc
  have h1 : CH.small64 1000 = true := by decide
  have hp1 : pPow (.int 10) (.int 18) = some (.int (10 ^ 18)) := by kernel_rfl
  have hp2 : pPow (.int 10) (.int 60) = some (.int (10 ^ 60)) := by kernel_rfl
  have hp3 : ∃ b : Int, 0 < b ∧ pPow (.int (10 ^ 60)) (.int 10) = some (.int b) := ⟨(10 ^ 60) ^ 10, by decide, by kernel_rfl⟩
  obtain ⟨b, hb, hp3⟩ := hp3
  generalize (10 : Int) ^ 60 = q at hp2 hp3
  generalize (10 : Int) ^ 18 = t at hp1
  refine ⟨some (.list [.int ((if 0 > v - t then 0 else v - t) % b), .int (v % 2147483647), .int 0]), ⟨_, _, _, rfl, ?_, ?_, ?_, ?_, ?_⟩, ?_⟩
  rotate_left 5
  · rw [r48]
    generalize run (k + 1) = fr at hv
    simp [runBody, b48, sSeq, sSet, sBin, sCB, sVar, sD, sCons, sNil, sRet, CH.R.bind, CH.R.st, fin2, finL, lk, lkL, dsL, pMod, pInt, pMax2, pSub, pMul, hp1, hp2, hp3, hb, sLst, mk, sCall, callW, refsOf, pick, into, back, putBack, isExc, idxOf, hv, h1]
  · exact Int.emod_nonneg _ (by omega)
  · omega
  · omega
  · omega
  · omega
end K90

set_option Elab.async false
set_option linter.all false
set_option maxRecDepth 100000
set_option maxHeartbeats 0
namespace K90
open PySem L2 CH
/-! what _law_caught answers -/
theorem call51 (fr : FR) (d f b o : PyData) (c : Nat) (hh h : Cells) (hr : fr 51 [.d d, .d f, .d b, .d o] [] = .exc c (.d o) hh) : callW fr 51 [.d d, .d f, .d b, .d o] h = .exc c (.d o) h := by
  have e : putBack [] hh h = h := by
    unfold putBack
    apply List.ext_getElem?
    intro i
    rw [List.getElem?_map, List.getElem?_zipIdx]
    cases h[i]? <;> simp
  simp [callW, refsOf, pick, into, isExc, hr, back, e]
theorem call51' (fr : FR) (d f b o y : PyData) (hh h : Cells) (hr : fr 51 [.d d, .d f, .d b, .d o] [] = .ok (.d y) hh) : callW fr 51 [.d d, .d f, .d b, .d o] h = .ok (.d y) h := by
  have e : putBack [] hh h = h := by
    unfold putBack
    apply List.ext_getElem?
    intro i
    rw [List.getElem?_map, List.getElem?_zipIdx]
    cases h[i]? <;> simp
  simp [callW, refsOf, pick, into, isExc, hr, back, e]
theorem ne_self (z : Str) (hz : PyData.strOk z = true) : pNe (.str z) (.str z) = some (.bool false) := by
  simp [pNe, SeqAt.shaped, PyData.eqv, PyData.canLay0, PyData.depth, hz]
theorem caught (fr : FR) (d f b o : PyData) (c : Nat) (hh : Cells) (z1 z2 : Str) (hz : PyData.strOk z1 = true) (hc : c < 4) (hr : fr 51 [.d d, .d f, .d b, .d o] [] = .exc c (.d o) hh)
    (s1 : pRepr [.list [f, b, o]] = some (.str z1)) (s2 : pRepr [o] = some (.str z2)) :
    runBody 4 8 (b53 fr) [.d d, .d f, .d b, .d o] [] = .ok (.d (.list [.bool (decide (c = 1)), .bool (decide (c = 2)), .bool (decide (c = 3)), .bool (decide (c = 0)), .str z2])) [] := by
  have h1 := ne_self z1 hz
  generalize hpR : pRepr = q at s1 s2
  generalize hpN : pNe = n at h1
  simp [runBody, b53, hpR, hpN, sSeq, sPar, sTry, sDrop, sSet, sIf, sOr, sCmpT, sBoo, sIsN, CH.isNon, sRet, sNop, sBin, sCB, sLst, mk, sVar, sD, sCons, sNil, CH.R.bind, CH.R.st, fin2, fin2B, finL, lk, lkL, dsL, asB, sIsX, sVal, sCall, call51 fr d f b o c hh _ hr, s1, s2, h1, hc, pAdd]
theorem caught' (fr : FR) (d f b o y : PyData) (hh : Cells) (z1 : Str) (hz : PyData.strOk z1 = true) (hr : fr 51 [.d d, .d f, .d b, .d o] [] = .ok (.d y) hh)
    (s1 : pRepr [.list [f, b, o]] = some (.str z1)) :
    runBody 4 8 (b53 fr) [.d d, .d f, .d b, .d o] [] = .ok (.d .none) [] := by
  have h1 := ne_self z1 hz
  generalize hpR : pRepr = q at s1
  generalize hpN : pNe = n at h1
  simp [runBody, b53, hpR, hpN, sSeq, sPar, sTry, sDrop, sSet, sIf, sOr, sCmpT, sBoo, sIsN, CH.isNon, sRet, sNop, sBin, sCB, sLst, mk, sVar, sD, sCons, sNil, CH.R.bind, CH.R.st, fin2, fin2B, finL, lk, lkL, dsL, asB, sIsX, sVal, sCall, call51' fr d f b o y hh _ hr, s1, h1, pAdd]
/-! the drawn order -/
theorem call49 (k : Nat) (g : Option PyData) (c b : Int) (hg : Gen g c) (hc : c < 1000) (hb : 1 ≤ b) (hb2 : b ≤ 33) :
    ∃ (r : Int) (g' : Option PyData), (∀ h, callW (run (k + 2)) 49 [.ref 0, .d (.int b)] (g :: h) = .ok (.d (.int r)) (g' :: h)) ∧ Gen g' (c + 1) ∧ 0 ≤ r ∧ r < b := by
  obtain ⟨A, B, C, rfl, hA, hB, hB2, hC, hC2⟩ := hg
  obtain ⟨r, A', C', e, h1, h2, h3, h4, h5⟩ := rnd k A B C b hA hB hB2 hC (by omega) hb hb2
  refine ⟨r, _, fun h => ?_, ⟨A', B, C', rfl, h3, hB, hB2, by omega, by omega⟩, h1, h2⟩
  have e2 : putBack [0] [some (.list [.int A', .int B, .int C'])] (some (.list [.int A, .int B, .int C]) :: h) = some (.list [.int A', .int B, .int C']) :: h := by
    unfold putBack
    apply List.ext_getElem?
    intro i
    rw [List.getElem?_map, List.getElem?_zipIdx]
    cases i with
    | zero => simp [idxOf]
    | succ i => cases e3 : h[i]? <;> simp [e3]
  simp [callW, refsOf, pick, into, idxOf, isExc, e, back, e2]
def drB (fr : FR) : S := sDrop (sMeth fApp (sVar 3) (sCons (sMeth fPopAt (sVar 2) (sCons (sCall fr 49 2 (sCons (sVar 0) (sCons (sCB pLen (sCons (sVar 2) sNil)) sNil))) sNil)) sNil))
def drT : T := sCmpT pNe (sVar 2) (sLst false sNil)
theorem pop_ok (xs : List PyData) (x : PyData) (r : Nat) (hr : r < xs.length) (hx : xs[r]? = some x) (hl : xs.length ≤ 33) : fPopAt xs [.int r] = some (x, xs.eraseIdx r) := by
  have e1 : -(2 ^ 62) ≤ (r : Int) ∧ (r : Int) < 2 ^ 62 := by omega
  have e2 : seqIndex? (r : Int) xs.length = some r := by
    have h1 : ¬ (r : Int) < 0 := by omega
    have h2 : (0 : Int) ≤ r := by omega
    have h3 : (r : Int) < xs.length := by omega
    simp only [seqIndex?, h1, if_false, h2, h3, decide_true, Bool.and_self, if_true, Int.toNat_natCast]
  unfold fPopAt
  dsimp only
  rw [if_pos e1, e2]
  dsimp only
  rw [hx]
theorem app_ok (ys : List PyData) (x : PyData) (hy : ys.length < 100) : fApp ys [x] = some (.none, ys ++ [x]) := by
  have : ys.length < 16777216 := Nat.lt_of_lt_of_le hy (by decide)
  exact if_pos this
theorem drB_gen (p q : List PyData → List PyData → Option (PyData × List PyData)) (fr : FR) (g g' : Option PyData) (w : W) (xs ys xs' ys' : List PyData) (x z : PyData) (r : Nat)
    (hp : p xs [.int r] = some (x, xs')) (hq : q ys [x] = some (z, ys'))
    (hc : ∀ h, callW fr 49 [.ref 0, .d (.int xs.length)] (g :: h) = .ok (.d (.int r)) (g' :: h)) :
    sDrop (sMeth q (sVar 3) (sCons (sMeth p (sVar 2) (sCons (sCall fr 49 2 (sCons (sVar 0) (sCons (sCB pLen (sCons (sVar 2) sNil)) sNil))) sNil)) sNil)) [some (.ref 0), some w, some (.ref 1), some (.ref 2)] [g, some (.list xs), some (.list ys)] = .nx [some (.ref 0), some w, some (.ref 1), some (.ref 2)] [g', some (.list xs'), some (.list ys')] := by
  have hL : pLen [.list xs] = some (.int xs.length) := rfl
  generalize pLen = L at hL ⊢
  simp [sDrop, sMeth, sVar, sCons, sNil, sCall, sCB, finL, lk, lkL, dsL, CH.R.bind, CH.R.st, hc, hp, hq, hL]
theorem drB_ok (fr : FR) (g g' : Option PyData) (w : W) (xs ys : List PyData) (x : PyData) (r : Nat) (hr : r < xs.length) (hx : xs[r]? = some x) (hl : xs.length ≤ 33) (hy : ys.length < 100)
    (hc : ∀ h, callW fr 49 [.ref 0, .d (.int xs.length)] (g :: h) = .ok (.d (.int r)) (g' :: h)) :
    drB fr [some (.ref 0), some w, some (.ref 1), some (.ref 2)] [g, some (.list xs), some (.list ys)] = .nx [some (.ref 0), some w, some (.ref 1), some (.ref 2)] [g', some (.list (xs.eraseIdx r)), some (.list (ys ++ [x]))] :=
  drB_gen _ _ fr g g' w xs ys _ _ x _ r (pop_ok xs x r hr hx hl) (app_ok ys x hy) hc
theorem Gen.mono {o : Option PyData} {a b : Int} (h : Gen o a) (e : a ≤ b) : Gen o b := by
  obtain ⟨A, B, C, h0, h1, h2, h3, h4, h5⟩ := h
  exact ⟨A, B, C, h0, h1, h2, h3, h4, by omega⟩
theorem drT_ok (q : PyData → PyData → Option PyData) (w : W) (g : Option PyData) (xs ys : List PyData) (b : Bool) (hq : q (.list xs) (.list []) = some (.bool b)) :
    sCmpT q (sVar 2) (sLst false sNil) [some (.ref 0), some w, some (.ref 1), some (.ref 2)] [g, some (.list xs), some (.list ys)] = .ok b [g, some (.list xs), some (.list ys)] := by
  simp [sCmpT, sVar, sLst, sNil, dsL, mk, CH.R.bind, fin2B, lk, hq]
/-- the numbers of doors -/
def IsD (n : Nat) (d : PyData) : Prop := ∃ i : Nat, i < n ∧ d = .int i
theorem drGo (k : Nat) (w : W) : ∀ (f : Nat) (g : Option PyData) (c : Int) (xs ys : List PyData), xs.length < f → xs.length ≤ 33 → ys.length + xs.length < 100 → Gen g c → c + xs.length < 900 →
    (∀ d ∈ xs, IsD 33 d) → (∀ d ∈ ys, IsD 33 d) → (∀ xs : List PyData, (∀ d ∈ xs, IsD 33 d) → xs.length ≤ 33 → pNe (.list xs) (.list []) = some (.bool (decide (xs ≠ [])))) →
    ∃ g' zs, whileGo drT (drB (run (k + 2))) f [some (.ref 0), some w, some (.ref 1), some (.ref 2)] [g, some (.list xs), some (.list ys)] = .nx [some (.ref 0), some w, some (.ref 1), some (.ref 2)] [g', some (.list []), some (.list zs)] ∧ Gen g' (c + xs.length) ∧ ∀ d ∈ zs, IsD 33 d
  | 0, g, c, xs, ys, h1, h2, h3, hg, h4, hx, hy, hn => absurd h1 (Nat.not_lt_zero _)
  | f + 1, g, c, [], ys, h1, h2, h3, hg, h4, hx, hy, hn => by
    refine ⟨g, ys, ?_, by simpa using hg, hy⟩
    have t := drT_ok pNe w g [] ys _ (hn [] hx h2)
    unfold whileGo
    unfold drT
    rw [t]
    simp [CH.R.st]
  | f + 1, g, c, x0 :: xs0, ys, h1, h2, h3, hg, h4, hx, hy, hn => by
    generalize hxs : x0 :: xs0 = xs at *
    have hpos : 0 < xs.length := by rw [← hxs]; simp
    obtain ⟨r, g', hcl, hg', hr0, hr1⟩ : ∃ (r : Int) (g' : Option PyData), (∀ h, callW (run (k + 2)) 49 [.ref 0, .d (.int xs.length)] (g :: h) = .ok (.d (.int r)) (g' :: h)) ∧ Gen g' (c + 1) ∧ 0 ≤ r ∧ r < xs.length := by
      exact call49 k g c xs.length hg (by omega) (by omega) (by omega)
    obtain ⟨n, rfl⟩ : ∃ n : Nat, r = n := ⟨r.toNat, by omega⟩
    have hn1 : n < xs.length := by omega
    have hb := drB_ok (run (k + 2)) g g' w xs ys (xs[n]) n hn1 (List.getElem?_eq_getElem hn1) h2 (by omega) hcl
    have hle : (xs.eraseIdx n).length = xs.length - 1 := by rw [List.length_eraseIdx, if_pos hn1]
    obtain ⟨g2, zs, e, hg2, hz⟩ := drGo k w f g' (c + 1) (xs.eraseIdx n) (ys ++ [xs[n]]) (by omega) (by omega) (by simp; omega) hg' (by omega) (fun d hd => hx d (List.mem_of_mem_eraseIdx hd)) (fun d hd => by
      rcases List.mem_append.mp hd with h | h
      · exact hy d h
      · rw [List.mem_singleton.mp h]; exact hx _ (List.getElem_mem hn1)) hn
    refine ⟨g2, zs, ?_, hg2.mono (by omega), hz⟩
    have t := drT_ok pNe w g xs ys _ (hn xs hx h2)
    have hne : decide (xs ≠ []) = true := by rw [← hxs]; rfl
    unfold whileGo
    rw [show drT [some (.ref 0), some w, some (.ref 1), some (.ref 2)] [g, some (.list xs), some (.list ys)] = _ from t, hne]
    simp only [CH.R.st, if_true]
    rw [hb]
    exact e
theorem lay_ints : ∀ xs : List PyData, (∀ d ∈ xs, IsD 33 d) → PyData.canLayAll0 xs = true ∧ PyData.depthAll xs ≤ 1
  | [], _ => ⟨rfl, by decide⟩
  | x :: xs, h => by
    obtain ⟨h1, h2⟩ := lay_ints xs fun d hd => h d (List.mem_cons_of_mem _ hd)
    obtain ⟨i, _, rfl⟩ := h x List.mem_cons_self
    refine ⟨?_, ?_⟩
    · simp [PyData.canLayAll0, PyData.canLay0, h1]
    · simp [PyData.depthAll, PyData.depth]
      omega
theorem ne_nil (xs : List PyData) (hx : ∀ d ∈ xs, IsD 33 d) (hl : xs.length ≤ 33) : pNe (.list xs) (.list []) = some (.bool (decide (xs ≠ []))) := by
  obtain ⟨h1, h2⟩ := lay_ints xs hx
  have h3 : 1 + PyData.depthAll xs ≤ 64 := by omega
  cases xs with
  | nil => rfl
  | cons x xs =>
    have e : PyData.eqvAll (x :: xs) [] = false := by simp [PyData.eqvAll]
    have s1 : SeqAt.shaped (.list (x :: xs)) = true := by
      unfold SeqAt.shaped
      rw [Bool.and_eq_true, decide_eq_true_eq]
      refine ⟨by rw [PyData.canLay0]; exact h1, by rw [PyData.depth]; omega⟩
    have s2 : SeqAt.shaped (.list []) = true := by rfl
    unfold pNe
    rw [s1, s2, PyData.eqv, e]
    rfl
theorem drawn (k : Nat) (g : Option PyData) (c : Int) (hg : Gen g c) (hc : c < 800) : ∃ g' zs, run (k + 3) 50 [.ref 0, .d (.list (rangeL 0 33))] [g] = .ok (.d (.list zs)) [g', some (.list []), none] ∧ Gen g' (c + 33) ∧ ∀ d ∈ zs, IsD 33 d := by
  have hr : ∀ d ∈ rangeL 0 33, IsD 33 d := fun d hd => by
    obtain ⟨i, hi, e⟩ := List.mem_map.mp hd
    exact ⟨i, List.mem_range.mp hi, by rw [← e, Int.zero_add]⟩
  have hlen : (rangeL 0 33).length = 33 := rfl
  obtain ⟨g', zs, e, h1, h2⟩ := drGo k (.d (.list (rangeL 0 33))) 100 g c (rangeL 0 33) [] (by omega) (by omega) (by rw [hlen]; decide) hg (by rw [hlen]; omega) hr (fun d hd => absurd hd List.not_mem_nil) ne_nil
  refine ⟨g', zs, ?_, by rw [hlen] at h1; exact h1, h2⟩
  rw [r50]
  generalize run (k + 2) = fr at e
  have eb : b50 fr = sSeq (sPar 2 3 (sCons (sMk true pListOf (sCons (sVar 1) sNil)) (sCons (sLst true sNil) sNil))) (sSeq (whileGo drT (drB fr) 100) (sRet (sFrz (sVar 3)))) := rfl
  rw [eb]
  generalize rangeL 0 33 = L at e
  generalize whileGo drT (drB fr) 100 = S0 at e
  have hL : pListOf [.list L] = some (.list L) := rfl
  generalize pListOf = P0 at hL ⊢
  simp [runBody, sSeq, sPar, sMk, sLst, mk, sCons, sNil, sVar, sRet, sFrz, CH.R.bind, CH.R.st, lk, lkL, dsL, hL, e]
end K90

set_option Elab.async false
set_option linter.all false
set_option maxRecDepth 100000
set_option maxHeartbeats 0
namespace K90
open PySem L2 CH
/-! the shown texts are short -/
def fok (d : PyData) : Bool := d.showable && (decide (d.shown.length ≤ 1000) && (decide (d.depth ≤ 10) && PyData.strOk d.shown))
theorem ok_app (x y : Str) (h1 : PyData.strOk x = true) (h2 : PyData.strOk y = true) : PyData.strOk (x ++ y) = true := by
  unfold PyData.strOk at *
  show (x.cps ++ y.cps).all _ = true
  rw [Array.all_append, h1, h2]
  rfl
theorem ok_from : ∀ (ts : List Str) (k : Nat) (acc : Str), PyData.strOk acc = true → (∀ t ∈ ts, PyData.strOk t = true) → PyData.strOk (textFrom k acc ts) = true
  | [], k, acc, h, _ => h
  | t :: r, k, acc, h, ht => by
    show PyData.strOk (textFrom (k + 1) _ r) = true
    refine ok_from r (k + 1) _ (ok_app _ _ (ok_app _ _ h ?_) (ht t List.mem_cons_self)) fun t' h' => ht t' (List.mem_cons_of_mem _ h')
    split
    · kernel_rfl
    · kernel_rfl
theorem fok_list (a b c : PyData) (ha : fok a = true) (hb : fok b = true) (hc : fok c = true) : ∃ z, pRepr [.list [a, b, c]] = some (.str z) ∧ PyData.strOk z = true := by
  simp only [fok, Bool.and_eq_true, decide_eq_true_eq] at ha hb hc
  obtain ⟨a1, a2, a3, a4⟩ := ha
  obtain ⟨b1, b2, b3, b4⟩ := hb
  obtain ⟨c1, c2, c3, c4⟩ := hc
  have hl := listText_len_le [a.shown, b.shown, c.shown]
  simp only [List.map_cons, List.map_nil, List.sum_cons, List.sum_nil, List.length_cons, List.length_nil] at hl
  have e : (PyData.list [a, b, c]).shown = listText [a.shown, b.shown, c.shown] := by rw [PyData.shown]; rfl
  have h1 : (PyData.list [a, b, c]).showable = true := by
    show PyData.showableAll [a, b, c] = true
    simp only [PyData.showableAll, a1, b1, c1, Bool.and_self]
  have h2 : (PyData.list [a, b, c]).shown.length ≤ 16777216 := by
    rw [e]
    refine Nat.le_trans hl (Nat.le_trans (m := 4000) ?_ (by decide))
    omega
  have h3 : (PyData.list [a, b, c]).depth ≤ 64 := by
    simp only [PyData.depth, PyData.depthAll]
    omega
  refine ⟨(PyData.list [a, b, c]).shown, ?_, ?_⟩
  · unfold pRepr
    dsimp only
    rw [h1, decide_eq_true h2, decide_eq_true h3]
    rfl
  · rw [e]
    refine ok_app _ _ (ok_from _ 0 _ (by kernel_rfl) ?_) (by kernel_rfl)
    intro t ht
    simp only [List.mem_cons, List.not_mem_nil, or_false] at ht
    rcases ht with rfl | rfl | rfl
    · exact a4
    · exact b4
    · exact c4
theorem fok_one (d : PyData) (h : fok d = true) : ∃ z, pRepr [d] = some (.str z) ∧ PyData.strOk z = true := by
  simp only [fok, Bool.and_eq_true, decide_eq_true_eq] at h
  obtain ⟨h1, h2, h3, h4⟩ := h
  have h5 : d.shown.length ≤ 16777216 := Nat.le_trans h2 (by decide)
  have h6 : d.depth ≤ 64 := by omega
  refine ⟨d.shown, ?_, h4⟩
  unfold pRepr
  dsimp only
  rw [h1, decide_eq_true h5, decide_eq_true h6]
  rfl
end K90

set_option Elab.async false
set_option linter.all false
set_option maxRecDepth 100000
set_option maxHeartbeats 0
namespace K90
open PySem L2 CH
/-! the law's parts -/
def p0 (R : FR) : S :=
  (sSet 1 (sCall R 48 2 (sCons (sVar 0) (sCons (sD (.int 0)) sNil))))
def p1 (R : FR) : S :=
  (sSet 2 (sFrz (sDisp [((sD (.str ⟨⟨[103, 101, 109]⟩⟩)), (sTup (sCons (sD (.int 2)) (sCons (sBin pAdd (sD (.int 1)) (sCall R 49 2 (sCons (sVar 1) (sCons (sD (.int 9)) sNil)))) sNil)))), ((sD (.str ⟨⟨[99, 117, 112]⟩⟩)), (sTup (sCons (sD (.int 3)) (sCons (sD (.int 4)) sNil)))), ((sD (.str ⟨⟨[117, 114, 110]⟩⟩)), (sTup (sCons (sD (.int 6)) (sCons (sCall R 49 2 (sCons (sVar 1) (sCons (sD (.int 9)) sNil))) sNil))))])))
def p2 (R : FR) : S :=
  (sSet 3 (sFrz (sDisp [((sD (.str ⟨⟨[98, 111, 98]⟩⟩)), (sD (.int 3))), ((sD (.str ⟨⟨[97, 110, 110]⟩⟩)), (sD (.int 4)))])))
def p3 (R : FR) : S :=
  (sSet 4 (sLst false (sCons (sD (.int 0)) (sCons (sD (.int 1)) (sCons (sD (.int 0)) (sCons (sD (.int 1)) (sCons (sD (.int 2)) (sCons (sD (.int 0)) (sCons (sD (.int 1)) (sCons (sD (.int 0)) (sCons (sD (.int 1)) (sCons (sD (.int 0)) (sCons (sD (.int 1)) (sCons (sD (.int 0)) (sCons (sD (.int 1)) (sCons (sD (.int 0)) (sCons (sD (.int 1)) (sCons (sD (.int 0)) (sCons (sD (.int 1)) (sCons (sD (.int 0)) (sCons (sD (.int 1)) (sCons (sD (.int 0)) (sCons (sD (.int 3)) (sCons (sD (.int 0)) (sCons (sD (.int 3)) (sCons (sD (.int 0)) (sCons (sD (.int 3)) (sCons (sD (.int 0)) (sCons (sD (.int 3)) (sCons (sD (.int 0)) (sCons (sD (.int 4)) (sCons (sD (.int 0)) (sCons (sD (.int 4)) (sCons (sD (.int 0)) (sCons (sD (.int 4)) sNil)))))))))))))))))))))))))))))))))))
def p4 (R : FR) : S :=
  (sFor (.v 5) (iAny (sCall R 50 2 (sCons (sVar 1) (sCons (sRg1 false (sD (.int 33))) sNil)))) (sSeq (sSet 6 (sBin pIx (sVar 4) (sVar 5))) (sFor (.v 7) (iAny (sCall R 54 1 (sCons (sVar 6) sNil))) (sIf (sCmpT pNe (sCall R 53 4 (sCons (sVar 5) (sCons (sVar 2) (sCons (sVar 3) (sCons (sVar 7) sNil))))) (sLst false (sCons (sBin pEq (sVar 6) (sD (.int 0))) (sCons (sBin pEq (sVar 6) (sD (.int 1))) (sCons (sBin pEq (sVar 6) (sD (.int 2))) (sCons (sBin pIn (sVar 6) (sLst false (sCons (sD (.int 3)) (sCons (sD (.int 4)) sNil)))) (sCons (sCB pRepr (sCons (sVar 7) sNil)) sNil))))))) (sRet (sD (.bool false))) sNop))))
def p5 (R : FR) : S :=
  (sFor (.v 5) (iAny (sLst false (sCons (sD (.int 0)) (sCons (sD (.int 1)) (sCons (sD (.int 2)) (sCons (sD (.int 3)) (sCons (sD (.int 4)) (sCons (sD (.int 5)) (sCons (sD (.int 6)) (sCons (sD (.int 13)) (sCons (sD (.int 19)) (sCons (sD (.int 27)) sNil)))))))))))) (sSeq (sPar 7 8 (sCons (sLst true (sCons (sD (.str ⟨⟨[111, 100, 100]⟩⟩)) sNil)) (sCons (sD .none) sNil))) (sSeq (sTry 9 8 (sDrop (sCall R 51 4 (sCons (sVar 5) (sCons (sVar 2) (sCons (sVar 3) (sCons (sVar 7) sNil))))))) (sSeq (sDrop (sMeth fApp (sVar 7) (sCons (sD (.str ⟨⟨[109, 111, 114, 101]⟩⟩)) sNil))) (sIf (sOr (sBoo (sIsN (sVar 8))) (sCmpT pNe (sCB pRepr (sCons (sVal (sVar 8)) sNil)) (sCB pRepr (sCons (sVar 7) sNil)))) (sRet (sD (.bool false))) sNop)))))
def p6 (R : FR) : S :=
  (sFor (.t [(.v 5), (.v 10)]) (iAny (sLst false (sCons (sTup (sCons (sD (.int 1)) (sCons (sFrz (sDisp [((sD (.str ⟨⟨[97, 110, 110]⟩⟩)), (sD (.int 0)))])) sNil))) (sCons (sTup (sCons (sD (.int 4)) (sCons (sFrz (sDisp [((sD (.str ⟨⟨[97, 110, 110]⟩⟩)), (sLst false sNil)), ((sD (.str ⟨⟨[98, 111, 98]⟩⟩)), (sLst false sNil))])) sNil))) (sCons (sTup (sCons (sD (.int 6)) (sCons (sFrz (sDisp [((sD (.str ⟨⟨[97, 110, 110]⟩⟩)), (sBin pPow (sD (.int 10)) (sD (.int 11))))])) sNil))) (sCons (sTup (sCons (sD (.int 20)) (sCons (sD (.int 1)) sNil))) (sCons (sTup (sCons (sD (.int 28)) (sCons (sD (.int 0)) sNil))) (sCons (sTup (sCons (sD (.int 30)) (sCons (sBin pPow (sD (.int 10)) (sD (.int 11))) sNil))) sNil)))))))) (sIf (sBoo (sNotN (sCall R 53 4 (sCons (sVar 5) (sCons (sVar 2) (sCons (sVar 3) (sCons (sVar 10) sNil))))))) (sRet (sD (.bool false))) sNop))
def p7 (R : FR) : S :=
  (sRet (sD (.bool true)))
theorem b55_eq (fr : FR) : b55 fr = sSeq (p0 fr) (sSeq (p1 fr) (sSeq (p2 fr) (sSeq (p3 fr) (sSeq (p4 fr) (sSeq (p5 fr) (sSeq (p6 fr) (p7 fr))))))) := rfl

def kindsD : PyData := .list (kinds.map fun (i : Nat) => .int i)
def oddL : Option PyData := some (.list [zS [111, 100, 100], zS [109, 111, 114, 101]])
theorem l2 : ∀ (m n : Nat) (gn : Option PyData) (w0 : W) (x5 x6 x7 : Option W), p5 (run 19) [some w0, some (.ref 0), some (.d (findsD m n)), some (.d bagsD), some (.d kindsD), x5, x6, x7, none, none, none] [gn, none, none]
    = .nx [some w0, some (.ref 0), some (.d (findsD m n)), some (.d bagsD), some (.d kindsD), some (.d (.int 27)), x6, some (.ref 12), some (.exc 1 (.ref 12)), none, none] [gn, none, none, oddL, oddL, oddL, oddL, oddL, oddL, oddL, oddL, oddL, oddL] := by intro m n gn w0 x5 x6 x7; kernel_rfl
def bd3 (R : FR) : S := sIf (sBoo (sNotN (sCall R 53 4 (sCons (sVar 5) (sCons (sVar 2) (sCons (sVar 3) (sCons (sVar 10) sNil))))))) (sRet (sD (.bool false))) sNop
theorem p6_it (fr : FR) (env : CH.Env) (gn : Option PyData) : ∃ (it : I) (h' : Cells), p6 fr = sFor (.t [(.v 5), (.v 10)]) it (bd3 fr) ∧ it env [gn, none, none, oddL, oddL, oddL, oddL, oddL, oddL, oddL, oddL, oddL, oddL] = .ok ⟨goods.map fun p => .tuple [.int p.1, p.2], none⟩ h' :=
  ⟨_, [gn, none, none, oddL, oddL, oddL, oddL, oddL, oddL, oddL, oddL, oddL, oddL, none, none, none], rfl, by kernel_rfl⟩
theorem forGo_step {p : Pat} {body : S} {d : PyData} {ds : List PyData} {env env1 env2 : CH.Env} {h h2 : Cells} (hb : p.bind d env = some env1) (hn : body env1 h = .nx env2 h2) : forGo p body none (d :: ds) env h = forGo p body none ds env2 h2 := by
  rw [forGo]
  simp [gdOk, hb, hn]
theorem l3go (fr : FR) (F B : PyData) (e0 e1 e4 e6 e7 e8 e9 : Option W) (h : Cells) : ∀ (ds : List (Nat × PyData)) (e5 e10 : Option W), (∀ p ∈ ds, callW fr 53 [.d (.int p.1), .d F, .d B, .d p.2] h = .ok (.d .none) h) →
    ∃ e5' e10', forGo (.t [(.v 5), (.v 10)]) (bd3 fr) none (ds.map fun p => .tuple [.int p.1, p.2]) [e0, e1, some (.d F), some (.d B), e4, e5, e6, e7, e8, e9, e10] h = .nx [e0, e1, some (.d F), some (.d B), e4, e5', e6, e7, e8, e9, e10'] h
  | [], e5, e10, _ => ⟨e5, e10, rfl⟩
  | p :: ds, e5, e10, hp => by
    obtain ⟨x, y, e⟩ := l3go fr F B e0 e1 e4 e6 e7 e8 e9 h ds (some (.d (.int p.1))) (some (.d p.2)) fun q hq => hp q (List.mem_cons_of_mem _ hq)
    refine ⟨x, y, ?_⟩
    have h0 := hp p List.mem_cons_self
    have hb : bd3 fr [e0, e1, some (.d F), some (.d B), e4, some (.d (.int p.1)), e6, e7, e8, e9, some (.d p.2)] h = .nx [e0, e1, some (.d F), some (.d B), e4, some (.d (.int p.1)), e6, e7, e8, e9, some (.d p.2)] h := by
      simp [bd3, sIf, sBoo, sNotN, sCall, sCons, sNil, sVar, CH.R.bind, CH.R.st, h0, CH.isNon, asB, sNop, lk]
    rw [List.map_cons, forGo_step rfl hb]
    exact e
end K90

set_option Elab.async false
set_option linter.all false
set_option maxRecDepth 100000
set_option maxHeartbeats 0
namespace K90
open PySem L2 CH
theorem fk : ((List.range 10).all fun m => (List.range 9).all fun n => fok (findsD m n)) = true := by kernel_rfl
theorem fb : fok bagsD = true := by kernel_rfl
theorem fo : (([0, 1, 2, 3, 4] : List Nat).all fun i => (odds i).all fok) = true := by kernel_rfl
theorem fg : (goods.all fun p => fok p.2) = true := by kernel_rfl
end K90

set_option Elab.async false
set_option linter.all false
set_option maxRecDepth 100000
set_option maxHeartbeats 0
namespace K90
open PySem L2 CH
theorem back_nil (hh h : Cells) : putBack [] hh h = h := by
  unfold putBack
  apply List.ext_getElem?
  intro i
  rw [List.getElem?_map, List.getElem?_zipIdx]
  cases h[i]? <;> simp
theorem callD (fr : FR) (i : Nat) (a b c d y : PyData) (hh h : Cells) (hr : fr i [.d a, .d b, .d c, .d d] [] = .ok (.d y) hh) : callW fr i [.d a, .d b, .d c, .d d] h = .ok (.d y) h := by
  simp [callW, refsOf, pick, into, isExc, hr, back, back_nil]
theorem fkD (m n : Nat) (hm : m < 10) (hn : n < 9) : fok (findsD m n) = true := by
  have h := List.all_eq_true.mp (List.all_eq_true.mp fk m (List.mem_range.mpr hm)) n (List.mem_range.mpr hn)
  exact h
theorem isOk_ok {r : R W} (h : isOk r = true) : ∃ y hh, r = .ok (.d y) hh := by
  unfold isOk at h
  split at h
  · exact ⟨_, _, rfl⟩
  · cases h
theorem c53g (m n : Nat) (hm : m < 10) (hn : n < 9) (h : Cells) (p : Nat × PyData) (hp : p ∈ goods) : callW (run 19) 53 [.d (.int p.1), .d (findsD m n), .d bagsD, .d p.2] h = .ok (.d .none) h := by
  obtain ⟨y, hh, e⟩ := isOk_ok (List.all_eq_true.mp (t3 m n) p hp)
  obtain ⟨z, s1, hz⟩ := fok_list (findsD m n) bagsD p.2 (fkD m n hm hn) fb (List.all_eq_true.mp fg p hp)
  refine callD (run 19) 53 _ _ _ _ .none [] h ?_
  rw [r53]
  exact caught' (run 18) _ _ _ _ y hh z hz e s1
theorem isEx_ex {r : R W} {c : Nat} {o : PyData} (h : isEx r c o = true) : ∃ hh, r = .exc c (.d o) hh := by
  unfold isEx at h
  split at h
  · rename_i c' o' hh
    rw [Bool.and_eq_true, decide_eq_true_eq] at h
    obtain ⟨rfl, h2⟩ := h
    rw [beqD_eq _ _ h2]
    exact ⟨hh, rfl⟩
  · cases h
theorem kinds5 : ∀ door < 33, kinds.getD door 0 ∈ ([0, 1, 2, 3, 4] : List Nat) := by decide
theorem cls4 : ∀ i ∈ ([0, 1, 2, 3, 4] : List Nat), clsOf i < 4 := by decide
theorem c53o (m n : Nat) (hm : m < 10) (hn : n < 9) (h : Cells) (door : Nat) (hd : door < 33) (odd : PyData) (ho : odd ∈ odds (kinds.getD door 0)) :
    ∃ z, pRepr [odd] = some (.str z) ∧ PyData.strOk z = true ∧ callW (run 19) 53 [.d (.int door), .d (findsD m n), .d bagsD, .d odd] h = .ok (.d (.list [.bool (decide (clsOf (kinds.getD door 0) = 1)), .bool (decide (clsOf (kinds.getD door 0) = 2)), .bool (decide (clsOf (kinds.getD door 0) = 3)), .bool (decide (clsOf (kinds.getD door 0) = 0)), .str z])) h := by
  have h1 := List.all_eq_true.mp (t1 m n) door (List.mem_range.mpr hd)
  obtain ⟨hh, e⟩ := isEx_ex (List.all_eq_true.mp (show (odds (kinds.getD door 0)).all _ = true from h1) odd ho)
  have hk := kinds5 door hd
  have ho1 : fok odd = true := List.all_eq_true.mp (List.all_eq_true.mp fo _ hk) odd ho
  obtain ⟨z, s1, hz⟩ := fok_list (findsD m n) bagsD odd (fkD m n hm hn) fb ho1
  obtain ⟨z2, s2, hz2⟩ := fok_one odd ho1
  refine ⟨z2, s2, hz2, callD (run 19) 53 _ _ _ _ _ [] h ?_⟩
  rw [r53]
  exact caught (run 18) _ _ _ _ _ hh z z2 hz (cls4 _ hk) e s1 s2
end K90

set_option Elab.async false
set_option linter.all false
set_option maxRecDepth 100000
set_option maxHeartbeats 0
namespace K90
open PySem L2 CH
theorem p1_ok (fr : FR) (g g1 g2 : Option PyData) (m n : Nat) (w : W) (h1 : ∀ h, callW fr 49 [.ref 0, .d (.int 9)] (g :: h) = .ok (.d (.int m)) (g1 :: h)) (h2 : ∀ h, callW fr 49 [.ref 0, .d (.int 9)] (g1 :: h) = .ok (.d (.int n)) (g2 :: h)) :
    p1 fr [some w, some (.ref 0), none, none, none, none, none, none, none, none, none] [g] = .nx [some w, some (.ref 0), some (.d (findsD (1 + m) n)), none, none, none, none, none, none, none, none] [g2, none] := by
  simp [p1, sSet, sFrz, sDisp, sPairs, sTup, sBin, sCall, sVar, sD, sCons, sNil, CH.R.bind, CH.R.st, lk, fin2, dsL, pAdd, h1, h2]
  rfl
end K90

set_option Elab.async false
set_option linter.all false
set_option maxRecDepth 100000
set_option maxHeartbeats 0
namespace K90
open PySem L2 CH
theorem ne_L (a b c d : Bool) (z : Str) (hz : PyData.strOk z = true) : pNe (.list [.bool a, .bool b, .bool c, .bool d, .str z]) (.list [.bool a, .bool b, .bool c, .bool d, .str z]) = some (.bool false) := by
  have e : (PyData.list [.bool a, .bool b, .bool c, .bool d, .str z]).eqv (.list [.bool a, .bool b, .bool c, .bool d, .str z]) = true := by
    simp [PyData.eqv, PyData.eqvAll]
  have s : SeqAt.shaped (.list [.bool a, .bool b, .bool c, .bool d, .str z]) = true := by
    simp [SeqAt.shaped, PyData.canLay0, PyData.canLayAll0, PyData.depth, PyData.depthAll, hz]
  unfold pNe
  rw [s, e]
  rfl
end K90

set_option Elab.async false
set_option linter.all false
set_option maxRecDepth 100000
set_option maxHeartbeats 0
namespace K90
open PySem L2 CH
def bd1 (R : FR) : S := sIf (sCmpT pNe (sCall R 53 4 (sCons (sVar 5) (sCons (sVar 2) (sCons (sVar 3) (sCons (sVar 7) sNil))))) (sLst false (sCons (sBin pEq (sVar 6) (sD (.int 0))) (sCons (sBin pEq (sVar 6) (sD (.int 1))) (sCons (sBin pEq (sVar 6) (sD (.int 2))) (sCons (sBin pIn (sVar 6) (sLst false (sCons (sD (.int 3)) (sCons (sD (.int 4)) sNil)))) (sCons (sCB pRepr (sCons (sVar 7) sNil)) sNil))))))) (sRet (sD (.bool false))) sNop
theorem p4_eq (fr : FR) : p4 fr = sFor (.v 5) (iAny (sCall fr 50 2 (sCons (sVar 1) (sCons (sRg1 false (sD (.int 33))) sNil)))) (sSeq (sSet 6 (sBin pIx (sVar 4) (sVar 5))) (sFor (.v 7) (iAny (sCall fr 54 1 (sCons (sVar 6) sNil))) (bd1 fr))) := rfl
theorem bd1_ok (fr : FR) (h : Cells) (door kind : Nat) (hk : kind ∈ ([0, 1, 2, 3, 4] : List Nat)) (F B odd : PyData) (w0 w1 e4 e8 e9 e10 : Option W) (z : Str) (hz : PyData.strOk z = true) (hr : pRepr [odd] = some (.str z))
    (hc : callW fr 53 [.d (.int door), .d F, .d B, .d odd] h = .ok (.d (.list [.bool (decide (clsOf kind = 1)), .bool (decide (clsOf kind = 2)), .bool (decide (clsOf kind = 3)), .bool (decide (clsOf kind = 0)), .str z])) h) :
    bd1 fr [w0, w1, some (.d F), some (.d B), e4, some (.d (.int door)), some (.d (.int kind)), some (.d odd), e8, e9, e10] h = .nx [w0, w1, some (.d F), some (.d B), e4, some (.d (.int door)), some (.d (.int kind)), some (.d odd), e8, e9, e10] h := by
  have h1 := fun a b c d => ne_L a b c d z hz
  simp only [List.mem_cons, List.not_mem_nil, or_false] at hk
  have key : ∀ (a b c d : Bool), clsOf kind = clsOf kind → (pEq (.int kind) (.int 0) = some (.bool a)) → (pEq (.int kind) (.int 1) = some (.bool b)) → (pEq (.int kind) (.int 2) = some (.bool c)) → (pIn (.int kind) (.list [.int 3, .int 4]) = some (.bool d)) →
      callW fr 53 [.d (.int door), .d F, .d B, .d odd] h = .ok (.d (.list [.bool a, .bool b, .bool c, .bool d, .str z])) h →
      bd1 fr [w0, w1, some (.d F), some (.d B), e4, some (.d (.int door)), some (.d (.int kind)), some (.d odd), e8, e9, e10] h = .nx [w0, w1, some (.d F), some (.d B), e4, some (.d (.int door)), some (.d (.int kind)), some (.d odd), e8, e9, e10] h := by
    intro a b c d _ ea eb ec ed hc'
    have h1' := h1 a b c d
    unfold bd1
    generalize pRepr = q at hr ⊢
    generalize pNe = n at h1' ⊢
    generalize pEq = pe at ea eb ec ⊢
    generalize pIn = pi at ed ⊢
    simp [sIf, sCmpT, sCall, sLst, mk, sBin, sCB, sVar, sD, sCons, sNil, sNop, CH.R.bind, CH.R.st, fin2, fin2B, finL, lk, lkL, dsL, hc', ea, eb, ec, ed, hr, h1']
  rcases hk with rfl | rfl | rfl | rfl | rfl
  · exact key _ _ _ _ rfl rfl rfl rfl rfl hc
  · exact key _ _ _ _ rfl rfl rfl rfl rfl hc
  · exact key _ _ _ _ rfl rfl rfl rfl rfl hc
  · exact key _ _ _ _ rfl rfl rfl rfl rfl hc
  · exact key _ _ _ _ rfl rfl rfl rfl rfl hc
end K90

set_option Elab.async false
set_option linter.all false
set_option maxRecDepth 100000
set_option maxHeartbeats 0
namespace K90
open PySem L2 CH
/-! the first loop -/
theorem l1in (m n : Nat) (hm : m < 10) (hn : n < 9) (h : Cells) (door : Nat) (hd : door < 33) (w0 w1 e4 e8 e9 e10 : Option W) : ∀ (ds : List PyData) (e7 : Option W), (∀ d ∈ ds, d ∈ odds (kinds.getD door 0)) →
    ∃ e7', forGo (.v 7) (bd1 (run 19)) none ds [w0, w1, some (.d (findsD m n)), some (.d bagsD), e4, some (.d (.int door)), some (.d (.int (kinds.getD door 0))), e7, e8, e9, e10] h
      = .nx [w0, w1, some (.d (findsD m n)), some (.d bagsD), e4, some (.d (.int door)), some (.d (.int (kinds.getD door 0))), e7', e8, e9, e10] h
  | [], e7, _ => ⟨e7, rfl⟩
  | d :: ds, e7, hds => by
    obtain ⟨x, e⟩ := l1in m n hm hn h door hd w0 w1 e4 e8 e9 e10 ds (some (.d d)) fun q hq => hds q (List.mem_cons_of_mem _ hq)
    obtain ⟨z, s1, hz, hc⟩ := c53o m n hm hn h door hd d (hds d List.mem_cons_self)
    have hb := bd1_ok (run 19) h door (kinds.getD door 0) (kinds5 door hd) (findsD m n) bagsD d w0 w1 e4 e8 e9 e10 z hz s1 hc
    refine ⟨x, ?_⟩
    rw [forGo_step rfl hb]
    exact e
theorem odds54a : ([0, 1, 2, 3, 4] : List Nat).all (fun i => match run 19 54 [.d (.int i)] [] with | .ok (.d (.list _)) _ => true | _ => false) = true := by kernel_rfl
theorem odds54 (i : Nat) (hi : i ∈ ([0, 1, 2, 3, 4] : List Nat)) : ∃ hh, run 19 54 [.d (.int i)] [] = .ok (.d (.list (odds i))) hh := by
  have h := List.all_eq_true.mp odds54a i hi
  unfold odds
  revert h
  generalize run 19 54 [.d (.int i)] [] = r
  intro h
  split at h
  · exact ⟨_, rfl⟩
  · cases h
end K90

set_option Elab.async false
set_option linter.all false
set_option maxRecDepth 100000
set_option maxHeartbeats 0
namespace K90
open PySem L2 CH
theorem ix_kinds : ∀ i < 33, pIx kindsD (.int (i : Nat)) = some (.int (kinds.getD i 0 : Nat)) := by
  intro i hi
  have : ((List.range 33).all fun i => match pIx kindsD (.int (i : Nat)) with | some (.int j) => decide (j = (kinds.getD i 0 : Nat)) | _ => false) = true := by kernel_rfl
  have h := List.all_eq_true.mp this i (List.mem_range.mpr hi)
  split at h
  · rename_i j e
    rw [e, of_decide_eq_true h]
  · cases h
theorem call54 (i : Nat) (hi : i ∈ ([0, 1, 2, 3, 4] : List Nat)) (h : Cells) : callW (run 19) 54 [.d (.int i)] h = .ok (.d (.list (odds i))) h := by
  obtain ⟨hh, e⟩ := odds54 i hi
  simp [callW, refsOf, pick, into, isExc, e, back, back_nil]
def bd0 (fr : FR) : S := sSeq (sSet 6 (sBin pIx (sVar 4) (sVar 5))) (sFor (.v 7) (iAny (sCall fr 54 1 (sCons (sVar 6) sNil))) (bd1 fr))
theorem bd0_ok (m n : Nat) (hm : m < 10) (hn : n < 9) (h : Cells) (door : Nat) (hd : door < 33) (w0 w1 e6 e7 e8 e9 e10 : Option W) :
    ∃ e6' e7', bd0 (run 19) [w0, w1, some (.d (findsD m n)), some (.d bagsD), some (.d kindsD), some (.d (.int door)), e6, e7, e8, e9, e10] h
      = .nx [w0, w1, some (.d (findsD m n)), some (.d bagsD), some (.d kindsD), some (.d (.int door)), e6', e7', e8, e9, e10] h := by
  obtain ⟨x, e⟩ := l1in m n hm hn h door hd w0 w1 (some (.d kindsD)) e8 e9 e10 (odds (kinds.getD door 0)) e7 fun d hd => hd
  have c4 := call54 (kinds.getD door 0) (kinds5 door hd) h
  have k4 := ix_kinds door hd
  refine ⟨some (.d (.int (kinds.getD door 0))), x, ?_⟩
  unfold bd0
  generalize bd1 (run 19) = b at e ⊢
  generalize run 19 = fr at c4 ⊢
  generalize pIx = px at k4 ⊢
  generalize kinds.getD door 0 = kk at *
  generalize odds kk = oo at *
  generalize kindsD = kD at *
  have s1 : sSet 6 (sBin px (sVar 4) (sVar 5)) [w0, w1, some (.d (findsD m n)), some (.d bagsD), some (.d kD), some (.d (.int door)), e6, e7, e8, e9, e10] h = .nx [w0, w1, some (.d (findsD m n)), some (.d bagsD), some (.d kD), some (.d (.int door)), some (.d (.int kk)), e7, e8, e9, e10] h := by
    simp [sSet, sBin, sVar, CH.R.bind, CH.R.st, fin2, lk, k4]
  have s2 : iAny (sCall fr 54 1 (sCons (sVar 6) sNil)) [w0, w1, some (.d (findsD m n)), some (.d bagsD), some (.d kD), some (.d (.int door)), some (.d (.int kk)), e7, e8, e9, e10] h = .ok ⟨oo, none⟩ h := by
    simp [iAny, sCall, sCons, sNil, sVar, CH.R.bind, c4, listSrc]
  simp only [sSeq, s1, sFor, s2, CH.R.st]
  exact e
end K90

set_option Elab.async false
set_option linter.all false
set_option maxRecDepth 100000
set_option maxHeartbeats 0
namespace K90
open PySem L2 CH
theorem l1out (m n : Nat) (hm : m < 10) (hn : n < 9) (h : Cells) (w0 w1 e8 e9 e10 : Option W) : ∀ (zs : List PyData) (e5 e6 e7 : Option W), (∀ d ∈ zs, IsD 33 d) →
    ∃ e5' e6' e7', forGo (.v 5) (bd0 (run 19)) none zs [w0, w1, some (.d (findsD m n)), some (.d bagsD), some (.d kindsD), e5, e6, e7, e8, e9, e10] h
      = .nx [w0, w1, some (.d (findsD m n)), some (.d bagsD), some (.d kindsD), e5', e6', e7', e8, e9, e10] h
  | [], e5, e6, e7, _ => ⟨e5, e6, e7, rfl⟩
  | d :: zs, e5, e6, e7, hz => by
    obtain ⟨i, hi, rfl⟩ := hz d List.mem_cons_self
    obtain ⟨a, b, hb⟩ := bd0_ok m n hm hn h i hi w0 w1 e6 e7 e8 e9 e10
    obtain ⟨x, y, z, e⟩ := l1out m n hm hn h w0 w1 e8 e9 e10 zs (some (.d (.int i))) a b fun q hq => hz q (List.mem_cons_of_mem _ hq)
    refine ⟨x, y, z, ?_⟩
    rw [forGo_step rfl hb]
    exact e
theorem put0 (g g' : Option PyData) (hh h : Cells) : putBack [0] (g' :: hh) (g :: h) = (g'.map some).join :: h := by
  unfold putBack
  apply List.ext_getElem?
  intro i
  rw [List.getElem?_map, List.getElem?_zipIdx]
  cases i with
  | zero => cases g' <;> simp [idxOf]
  | succ i => cases e3 : h[i]? <;> simp [e3]
theorem call50 (g : Option PyData) (c : Int) (hg : Gen g c) (hc : c < 800) (h : Cells) : ∃ g' zs, callW (run 19) 50 [.ref 0, .d (.list (rangeL 0 33))] (g :: h) = .ok (.d (.list zs)) (g' :: h) ∧ ∀ d ∈ zs, IsD 33 d := by
  obtain ⟨g', zs, e, hg', hz⟩ := drawn 16 g c hg hc
  obtain ⟨A, B, C, hA, _⟩ := hg
  subst hA
  refine ⟨g', zs, ?_, hz⟩
  generalize rangeL 0 33 = L at e ⊢
  have p0 := put0 (some (.list [.int A, .int B, .int C])) g' [some (.list []), none] h
  have q : (g'.map some).join = g' := by cases g' <;> rfl
  rw [q] at p0
  simp [callW, refsOf, pick, into, idxOf, isExc, e, back, p0]
theorem p4_ok (m n : Nat) (hm : m < 10) (hn : n < 9) (w0 : W) (g : Option PyData) (c : Int) (hg : Gen g c) (hc : c < 800) (h : Cells) : ∃ g' e5 e6 e7,
    p4 (run 19) [some w0, some (.ref 0), some (.d (findsD m n)), some (.d bagsD), some (.d kindsD), none, none, none, none, none, none] (g :: h)
      = .nx [some w0, some (.ref 0), some (.d (findsD m n)), some (.d bagsD), some (.d kindsD), e5, e6, e7, none, none, none] (g' :: h) := by
  obtain ⟨g', zs, e, hz⟩ := call50 g c hg hc h
  obtain ⟨x, y, z, e1⟩ := l1out m n hm hn (g' :: h) (some w0) (some (.ref 0)) none none none zs none none none hz
  refine ⟨g', x, y, z, ?_⟩
  rw [p4_eq]
  have e1' : forGo (.v 5) (sSeq (sSet 6 (sBin pIx (sVar 4) (sVar 5))) (sFor (.v 7) (iAny (sCall (run 19) 54 1 (sCons (sVar 6) sNil))) (bd1 (run 19)))) none zs [some w0, some (.ref 0), some (.d (findsD m n)), some (.d bagsD), some (.d kindsD), none, none, none, none, none, none] (g' :: h) = _ := e1
  generalize sSeq (sSet 6 (sBin pIx (sVar 4) (sVar 5))) (sFor (.v 7) (iAny (sCall (run 19) 54 1 (sCons (sVar 6) sNil))) (bd1 (run 19))) = bb at e1' ⊢
  generalize run 19 = fr at e ⊢
  have rr : (0 : Int) ≤ 33 ∧ (33 : Int) ≤ 16777216 := by omega
  have s2 : iAny (sCall fr 50 2 (sCons (sVar 1) (sCons (sRg1 false (sD (.int 33))) sNil))) [some w0, some (.ref 0), some (.d (findsD m n)), some (.d bagsD), some (.d kindsD), none, none, none, none, none, none] (g :: h) = .ok ⟨zs, none⟩ (g' :: h) := by
    simp [iAny, sCall, sCons, sNil, sVar, sRg1, sD, mk, CH.R.bind, rr, e, listSrc]
  simp only [sFor, s2, CH.R.st]
  exact e1'
theorem p6_ok (m n : Nat) (hm : m < 10) (hn : n < 9) (w0 w1 : Option W) (gn : Option PyData) (e4 e5 e6 e7 e8 e9 e10 : Option W) : ∃ e5' e10' h',
    p6 (run 19) [w0, w1, some (.d (findsD m n)), some (.d bagsD), e4, e5, e6, e7, e8, e9, e10] [gn, none, none, oddL, oddL, oddL, oddL, oddL, oddL, oddL, oddL, oddL, oddL]
      = .nx [w0, w1, some (.d (findsD m n)), some (.d bagsD), e4, e5', e6, e7, e8, e9, e10'] h' := by
  obtain ⟨it, h', e1, e2⟩ := p6_it (run 19) [w0, w1, some (.d (findsD m n)), some (.d bagsD), e4, e5, e6, e7, e8, e9, e10] gn
  obtain ⟨x, y, e3⟩ := l3go (run 19) (findsD m n) bagsD w0 w1 e4 e6 e7 e8 e9 h' goods e5 e10 fun p hp => c53g m n hm hn h' p hp
  refine ⟨x, y, h', ?_⟩
  rw [e1]
  generalize bd3 (run 19) = bb at e3 ⊢
  simp only [sFor, e2, CH.R.st]
  exact e3
theorem law_true (ns : List Int) : ∃ h', run 20 55 [.scr ns] [] = .ok (.d (.bool true)) h' := by
  obtain ⟨g0, hg0, e0⟩ := gen0 17 ns
  obtain ⟨r1, g1, c1, hg1, a1, b1⟩ := call49 17 g0 0 9 hg0 (by omega) (by omega) (by omega)
  obtain ⟨r2, g2, c2, hg2, a2, b2⟩ := call49 17 g1 (0 + 1) 9 hg1 (by omega) (by omega) (by omega)
  obtain ⟨m, rfl⟩ : ∃ m : Nat, r1 = m := ⟨r1.toNat, by omega⟩
  obtain ⟨n, rfl⟩ : ∃ n : Nat, r2 = n := ⟨r2.toNat, by omega⟩
  have q0 : p0 (run 19) [some (.scr ns), none, none, none, none, none, none, none, none, none, none] [] = .nx [some (.scr ns), some (.ref 0), none, none, none, none, none, none, none, none, none] [g0] := by
    obtain ⟨A, B, C, hA, _⟩ := hg0
    subst hA
    have e0' : run 19 48 [.scr ns, .d (.int 0)] [] = .ok (.ref 0) [some (.list [.int A, .int B, .int C])] := e0
    generalize run 19 = fr at e0' ⊢
    simp [p0, sSet, sCall, sCons, sNil, sVar, sD, CH.R.bind, CH.R.st, callW, refsOf, pick, into, back, putBack, isExc, e0']
  have q1 := p1_ok (run 19) g0 g1 g2 m n (.scr ns) c1 c2
  have q2 : p2 (run 19) [some (.scr ns), some (.ref 0), some (.d (findsD (1 + m) n)), none, none, none, none, none, none, none, none] [g2, none] = .nx [some (.scr ns), some (.ref 0), some (.d (findsD (1 + m) n)), some (.d bagsD), none, none, none, none, none, none, none] [g2, none, none] := by rfl
  have q3 : p3 (run 19) [some (.scr ns), some (.ref 0), some (.d (findsD (1 + m) n)), some (.d bagsD), none, none, none, none, none, none, none] [g2, none, none] = .nx [some (.scr ns), some (.ref 0), some (.d (findsD (1 + m) n)), some (.d bagsD), some (.d kindsD), none, none, none, none, none, none] [g2, none, none] := by rfl
  obtain ⟨g3, e5, e6, e7, q4⟩ := p4_ok (1 + m) n (by omega) (by omega) (.scr ns) g2 _ hg2 (by omega) [none, none]
  have q5 := l2 (1 + m) n g3 (.scr ns) e5 e6 e7
  obtain ⟨x5, x10, h', q6⟩ := p6_ok (1 + m) n (by omega) (by omega) (some (.scr ns)) (some (.ref 0)) g3 (some (.d kindsD)) (some (.d (.int 27))) e6 (some (.ref 12)) (some (.exc 1 (.ref 12))) none none
  refine ⟨h', ?_⟩
  rw [r55, b55_eq]
  generalize p0 (run 19) = s0 at q0 ⊢
  generalize p1 (run 19) = s1 at q1 ⊢
  generalize p2 (run 19) = s2 at q2 ⊢
  generalize p3 (run 19) = s3 at q3 ⊢
  generalize p4 (run 19) = s4 at q4 ⊢
  generalize p5 (run 19) = s5 at q5 ⊢
  generalize p6 (run 19) = s6 at q6 ⊢
  have en : ([W.scr ns].map some ++ List.replicate (11 - 1) none : CH.Env) = [some (.scr ns), none, none, none, none, none, none, none, none, none, none] := rfl
  have hl : ([W.scr ns] : List W).length = 1 := rfl
  unfold runBody
  rw [if_pos hl, en]
  simp only [sSeq, q0, q1, q2, q3, q4, q5, q6]
  rfl
end K90

set_option Elab.async false
set_option linter.all false
set_option maxRecDepth 100000
namespace CH
open PySem PySem.Spec PySem.Calls PyProof.Rows PySem.HandSPX L2
/-- what the written part says of one def -/
structure DefF (K : PySem.W.Frag) (x : Str) (st : Stmt) (f : Addr) : Prop where
  a : PySem.W.nsIn K mainGlobals x = some (some (.ref f))
  F : ∃ fd, Fun K x x st f fd
theorem df {K : PySem.W.Frag} {x : Str} {st : Stmt} {f : Addr} {oc : Value} {od an : Option Addr} {osl : Array (Option Value)} {kV doc pm cdv ct : Value} (a : PySem.W.nsIn K mainGlobals x = some (some (.ref f)))
    (l : K.lookup f = some ⟨oc, od, .func (PySem.W.fnOf x x (defArgs st) (defBody st) (defScope st) .none kV doc pm an cdv ct), osl⟩)
    (c : PySem.W.codeIn K cdv x = true) (k : PySem.W.keepIn K (.ref f) = true) : DefF K x st f := ⟨a, _, fun_mk l c k⟩
/-- what the written part says of one error class -/
structure ClsF (K : PySem.W.Frag) (D fI : Addr) (x : Str) (C : Addr) : Prop extends CHX.ErrC K D C fI where
  a : PySem.W.nsIn K mainGlobals x = some (some (.ref C))
  hcl : (PySem.W.clsIn K C).isSome = true
  ga : PySem.W.findIn K (.ref C) "__getattribute__" = some (some (.builtin "BaseException.__getattribute__"))
  gg : PySem.W.findIn K (.ref C) "__getattr__" = some none
  hdC : PySem.W.hasDictIn K C = true
  ha : PySem.W.findIn K (.ref C) "__class__" = some (some (.builtin "object.__class__"))
  hm : PySem.W.mroIn K C (.type "object") = some true
  exm : PySem.W.exmOne K (.ref C) (.ref D) = some true
theorem clsF {K : PySem.W.Frag} {D C fI : Addr} {x : Str} {nm q : Str} {N : Addr} {bs bm : List Value} {sn : List Str} {sub : List Value} {ab : Bool} {col : Option Bool} {dd : Option Addr} {k0 k1 k2 k3 k5 : Option Value} {cd : ClassData}
    (a : PySem.W.nsIn K mainGlobals x = some (some (.ref C)))
    (l : K.lookup C = some (excClassObj nm q C N bs bm true sn sub ab col dd k0 k1 k2 k3 k5 "ValueError.__new__")) (r : refsVE bm = true)
    (sa : PySem.W.findIn K (.ref C) "__setattr__" = some (some (.builtin "object.__setattr__")))
    (nb : PySem.W.findIn K (.ref C) "value" = some none)
    (ic : PySem.W.findIn K (.ref C) "__init__" = some (some (.ref fI)))
    (tc : PySem.W.typeIn K (.ref fI) = some (.type "function"))
    (kc : PySem.W.keepIn K (.ref C) = true)
    (ex : PySem.W.subIn K (.ref C) (.type "BaseException") = some true)
    (ty : PySem.W.typeIn K (.ref C) = some (.type "type"))
    (sb : PySem.W.mroIn K C (.ref D) = some true)
    (sp : PySem.W.ks_superIn K C D "__init__" = some (some (.builtin "ValueError.__init__")))
    (ve : PySem.W.subIn K (.ref C) (.type "ValueError") = some true)
    (hc : PySem.W.clsIn K C = some cd)
    (ga : PySem.W.findIn K (.ref C) "__getattribute__" = some (some (.builtin "BaseException.__getattribute__")))
    (gg : PySem.W.findIn K (.ref C) "__getattr__" = some none)
    (hd : PySem.W.hasDictIn K C = true)
    (ha : PySem.W.findIn K (.ref C) "__class__" = some (some (.builtin "object.__class__")))
    (hm : PySem.W.mroIn K C (.type "object") = some true)
    (dx : PySem.W.subIn K (.ref D) (.type "BaseException") = some true)
    (dh : PySem.W.hasDictIn K D = true)
    (dt : PySem.W.typeIn K (.ref D) = some (.type "type"))
    (ds : PySem.W.subIn K (.ref C) (.ref D) = some true) : ClsF K D fI x C :=
  { cls := ⟨nm, q, N, bs, bm, sn, sub, ab, col, dd, k0, k1, k2, k3, k5, l, r⟩, sa := sa, noN := nb, iC := ic, tC := tc, kC := kc, exC := ex, tyC := ty, sub := sb, sup := sp, ve := ve, a := a, hcl := by rw [hc]; rfl, ga := ga, gg := gg, hdC := hd, ha := ha, hm := hm, exm := PySem.W.exm_ref dx dh dt ds }
theorem initF {P : Program} {K : PySem.W.Frag} {D fI cc cda : Addr} {oc : Value} {od an : Option Addr} {doc pm ct : Value} {osl : Array (Option Value)} {p1 p2 : Pos} {ccl : Value} {cdd : Option Addr} {vs : Array Value} {ccs : Array (Option Value)} {file : Str} {tf : Tok} {cl : Value} {cld : Option Addr} {csl : Array (Option Value)} {cdD : ClassData}
    (l : K.lookup fI = some ⟨oc, od, .func (PySem.W.ksFn "__init__" "HuntError.__init__" (CHX.iA p1 p2) CHX.iB CHX.iS .none .none doc pm an (.ref cda) ct cc), osl⟩)
    (c : PySem.W.codeIn K (.ref cda) "HuntError.__init__" = true)
    (lc : K.lookup cda = some ⟨ccl, cdd, .fields vs, ccs⟩) (v2 : vs[2]? = some (.str file tf)) (pf : ((P.main.file : Str) == file) = true)
    (lo : K.lookup cc = some ⟨cl, cld, .cell (some (.ref D)), csl⟩)
    (dc : PySem.W.clsIn K D = some cdD)
    (op : PySem.W.nsIn K cStatics "thirdparty.any" = some none)
    (tp : (P.main.scope.names.lookup ("super" : Str)).isSome = false) : CHX.InitTxt P K D fI cc cda :=
  ⟨⟨oc, od, doc, pm, an, ct, osl, p1, p2, l, c⟩, ⟨ccl, cdd, vs, ccs, file, tf, lc, v2, pf⟩, ⟨cl, cld, csl, lo⟩, ⟨cdD, dc⟩, op, tp⟩
/-- the law's promise -/
def spLaw (K : PySem.W.Frag) : Sp := fun vs H Q _ => ∃ (a : Addr) (ns : List Int), vs = [.ref a] ∧ SqL K H a (ns.map V.int) ∧ ∀ v H', v = .bl true → Q v H'
theorem fnG_law {P : Program} {w : World} {K : PySem.W.Frag} {mg : Str → Option Value} {base : Heap} {CX : CXT} {k : Nat} {f : Addr} {fd : FuncData} {x : Str} {g : Glob} {R : FR} {i : Nat} (hK : g.K = K)
    (F : FnG P w K mg base CX k f fd [x] (spF g 1 R i)) (e : ∀ ns : List Int, ∃ h', R i [.scr ns] [] = .ok (.d (.bool true)) h') : FnG P w K mg base CX k f fd [x] (spLaw K) := by
  refine ⟨fun vs H Q E h => ?_, fun A outer s H args us vs Q E hr hgd he hb hv h => ?_⟩
  · obtain ⟨a, ns, rfl, _⟩ := h
    rfl
  · refine F.run A outer s H args us vs Q E hr hgd he hb hv ?_
    obtain ⟨a, ns, rfl, hS, q⟩ := h
    obtain ⟨h', e'⟩ := e ns
    refine ⟨rfl, H, fun _ => none, [], [.scr ns], .cons ⟨a, rfl, by rw [hK]; exact hS⟩ .nil, ⟨fun _ _ z => z, fun n c z => by simp at z, fun n m c d b z => by simp at z, fun _ _ => rfl, fun _ _ z => nomatch z⟩, ?_⟩
    rw [e']
    intro b H2 F2 ρ2 x r l
    cases r
    exact q _ _ rfl
end CH

set_option Elab.async false
set_option linter.all false
set_option maxRecDepth 100000
set_option maxHeartbeats 0
namespace K90
open PySem PySem.Spec PyProof.Rows L2 CH
def fadL (fs : List Addr) : Nat → Addr := fun i => fs.getD i 0
theorem all_mk {P : Program} {w : World} {K : PySem.W.Frag} {h : Heap} {mg : Str → Option Value} {fa D fI cc cda f0 f1 f2 f3 f4 f5 f6 f7 f8 f9 f10 f11 f12 f13 f14 f15 f16 f17 f18 f19 f20 f21 f22 f23 f24 f25 f26 f27 f28 f29 f30 f31 f32 f33 f34 f35 f36 f37 f38 f39 f40 f41 f42 f43 f44 f45 f46 f47 f48 f49 f50 f51 f52 f53 f54 f55 c0 c1 c2 c3 : Addr} (X : K.In h) (G : h.Ns mainGlobals mg) (hfa : mg "law" = some (.ref fa))
    (D0 : DefF K "is_whole" s0 f0)
    (D1 : DefF K "is_count" s1 f1)
    (D2 : DefF K "is_signs" s2 f2)
    (D3 : DefF K "is_name" s3 f3)
    (D4 : DefF K "ascends" s4 f4)
    (D5 : DefF K "is_names" s5 f5)
    (D6 : DefF K "is_find" s6 f6)
    (D7 : DefF K "check_finds" s7 f7)
    (D8 : DefF K "check_bags" s8 f8)
    (D9 : DefF K "weight_in" s9 f9)
    (D10 : DefF K "are_lots_of" s10 f10)
    (D11 : DefF K "is_carrying_of" s11 f11)
    (D12 : DefF K "is_carrying" s12 f12)
    (D13 : DefF K "worth_of_carrying" s13 f13)
    (D14 : DefF K "worth_carried" s14 f14)
    (D15 : DefF K "rooms_of" s15 f15)
    (D16 : DefF K "put_in" s16 f16)
    (D17 : DefF K "rooms_behind" s17 f17)
    (D18 : DefF K "ways_table" s18 f18)
    (D19 : DefF K "how_many_carryings" s19 f19)
    (D20 : DefF K "worth_tables" s20 f20)
    (D21 : DefF K "most_with" s21 f21)
    (D22 : DefF K "most_worth" s22 f22)
    (D23 : DefF K "carried_by" s23 f23)
    (D24 : DefF K "full_rows" s24 f24)
    (D25 : DefF K "all_carried" s25 f25)
    (D26 : DefF K "best_row" s26 f26)
    (D27 : DefF K "best_carrying" s27 f27)
    (D28 : DefF K "is_best_carrying" s28 f28)
    (D29 : DefF K "needed_finds" s29 f29)
    (D30 : DefF K "is_in_some" s30 f30)
    (D31 : DefF K "left_finds" s31 f31)
    (D32 : DefF K "check_many_bags" s32 f32)
    (D33 : DefF K "lots_by_weights" s33 f33)
    (D34 : DefF K "least_of_all" s34 f34)
    (D35 : DefF K "least_heaviest" s35 f35)
    (D36 : DefF K "in_order_of" s36 f36)
    (D37 : DefF K "even_lots" s37 f37)
    (D38 : DefF K "are_shared_lots" s38 f38)
    (D39 : DefF K "are_even_lots" s39 f39)
    (D40 : DefF K "dealt_lots" s40 f40)
    (D41 : DefF K "check_most" s41 f41)
    (D42 : DefF K "trips_in" s42 f42)
    (D43 : DefF K "fewest_trips" s43 f43)
    (D44 : DefF K "first_trips" s44 f44)
    (D45 : DefF K "are_fewest_trips" s45 f45)
    (D46 : DefF K "_law_hash" s46 f46)
    (D47 : DefF K "_law_cell" s47 f47)
    (D48 : DefF K "_law_generator" s48 f48)
    (D49 : DefF K "_law_random" s49 f49)
    (D50 : DefF K "_law_drawn_order" s50 f50)
    (D51 : DefF K "_law_call" s51 f51)
    (D52 : DefF K "_law_further" s52 f52)
    (D53 : DefF K "_law_caught" s53 f53)
    (D54 : DefF K "_law_odds" s54 f54)
    (D55 : DefF K "law" s55 f55)
    (e0 : ClsF K D fI "InvalidNumber" c0)
    (e1 : ClsF K D fI "InvalidFinds" c1)
    (e2 : ClsF K D fI "InvalidBags" c2)
    (e3 : ClsF K D fI "InvalidCarrying" c3)
    (eI : CHX.InitTxt P K D fI cc cda) (aD : PySem.W.nsIn K mainGlobals "HuntError" = some (some (.ref D))) (aS : PySem.W.nsIn K mainGlobals "super" = some none)
    (kn : PySem.W.specialIn K (.builtin "object.__class__") "__get__" = some (some (.builtin "getset_descriptor.__get__"))) (kt : PySem.W.takesIn K (.builtin "object.__class__") = some true)
    (k0_0 : PySem.W.kitOne K (.ref c0) (.ref c0) = some true) (k0_1 : PySem.W.kitOne K (.ref c0) (.ref c1) = some false) (k0_2 : PySem.W.kitOne K (.ref c0) (.ref c2) = some false) (k0_3 : PySem.W.kitOne K (.ref c0) (.ref c3) = some false)
    (k1_0 : PySem.W.kitOne K (.ref c1) (.ref c0) = some false) (k1_1 : PySem.W.kitOne K (.ref c1) (.ref c1) = some true) (k1_2 : PySem.W.kitOne K (.ref c1) (.ref c2) = some false) (k1_3 : PySem.W.kitOne K (.ref c1) (.ref c3) = some false)
    (k2_0 : PySem.W.kitOne K (.ref c2) (.ref c0) = some false) (k2_1 : PySem.W.kitOne K (.ref c2) (.ref c1) = some false) (k2_2 : PySem.W.kitOne K (.ref c2) (.ref c2) = some true) (k2_3 : PySem.W.kitOne K (.ref c2) (.ref c3) = some false)
    (k3_0 : PySem.W.kitOne K (.ref c3) (.ref c0) = some false) (k3_1 : PySem.W.kitOne K (.ref c3) (.ref c1) = some false) (k3_2 : PySem.W.kitOne K (.ref c3) (.ref c2) = some false) (k3_3 : PySem.W.kitOne K (.ref c3) (.ref c3) = some true)
    (z_len : PySem.W.nsIn K mainGlobals "len" = some none)
    (z_isinstance : PySem.W.nsIn K mainGlobals "isinstance" = some none)
    (z_range : PySem.W.nsIn K mainGlobals "range" = some none)
    (z_sorted : PySem.W.nsIn K mainGlobals "sorted" = some none)
    (z_sum : PySem.W.nsIn K mainGlobals "sum" = some none)
    (z_all : PySem.W.nsIn K mainGlobals "all" = some none)
    (z_any : PySem.W.nsIn K mainGlobals "any" = some none)
    (z_max : PySem.W.nsIn K mainGlobals "max" = some none)
    (z_min : PySem.W.nsIn K mainGlobals "min" = some none)
    (z_int : PySem.W.nsIn K mainGlobals "int" = some none)
    (z_bool : PySem.W.nsIn K mainGlobals "bool" = some none)
    (z_str : PySem.W.nsIn K mainGlobals "str" = some none)
    (z_list : PySem.W.nsIn K mainGlobals "list" = some none)
    (z_tuple : PySem.W.nsIn K mainGlobals "tuple" = some none)
    (z_dict : PySem.W.nsIn K mainGlobals "dict" = some none)
    (z_repr : PySem.W.nsIn K mainGlobals "repr" = some none)
    (z_enumerate : PySem.W.nsIn K mainGlobals "enumerate" = some none)
    (z_zip : PySem.W.nsIn K mainGlobals "zip" = some none)
    {t_SMALL : Tok} (v_SMALL : PySem.W.nsIn K mainGlobals "SMALL" = some (some (.str ⟨⟨[97, 98, 99, 100, 101, 102, 103, 104, 105, 106, 107, 108, 109, 110, 111, 112, 113, 114, 115, 116, 117, 118, 119, 120, 121, 122]⟩⟩ t_SMALL)))
    {t_FIGURES : Tok} (v_FIGURES : PySem.W.nsIn K mainGlobals "FIGURES" = some (some (.str ⟨⟨[48, 49, 50, 51, 52, 53, 54, 55, 56, 57]⟩⟩ t_FIGURES)))
    {t_MOST_NAME : Tok} (v_MOST_NAME : PySem.W.nsIn K mainGlobals "MOST_NAME" = some (some (.int 8 t_MOST_NAME)))
    : ∃ fd : FuncData, (∀ (s : Shared) (u : Value), BindsTo s fd ⟨[u], []⟩ [("script", u)]) ∧
      ∀ base : Heap, K.In base → base.Ns mainGlobals mg → (∃ o, base.get? sysModules = some o) → FnG P w K mg base (L2.CX P w) 20 fa fd ["script"] (spLaw K) := by
  let g : Glob := ⟨K, fun c => ([c0, c1, c2, c3] : List Addr).getD c c3, fun i => ([f0, f1, f2, f3, f4, f5, f6, f7, f8, f9, f10, f11, f12, f13, f14, f15, f16, f17, f18, f19, f20, f21, f22, f23, f24, f25, f26, f27, f28, f29, f30, f31, f32, f33, f34, f35, f36, f37, f38, f39, f40, f41, f42, f43, f44, f45, f46, f47, f48, f49, f50, f51, f52, f53, f54, f55] : List Addr).getD i f0, D⟩
  have cl : ∀ (Q : Addr → Prop), Q c0 → Q c1 → Q c2 → Q c3 → ∀ c, Q (g.cls c) := by
    intro Q q0 q1 q2 q3 c
    match c with
    | 0 => exact q0
    | 1 => exact q1
    | 2 => exact q2
    | 3 => exact q3
    | _ + 4 => exact q3
  have hF : ∀ {x st f}, DefF K x st f → mg x = some (.ref f) ∧ ∃ fd, Fun K x x st f fd := fun d => ⟨PySem.W.mg_of X G d.a, d.F⟩
  have err : ErrX P K mg g 4 D := {
    init := ⟨fI, cc, cda, eI, cl (fun C => CHX.ErrC K D C fI) e0.toErrC e1.toErrC e2.toErrC e3.toErrC⟩
    nosup := PySem.W.mg_none_of X G aS
    hcl := cl (fun C => (PySem.W.clsIn K C).isSome = true) e0.hcl e1.hcl e2.hcl e3.hcl
    ga := cl (fun C => PySem.W.findIn K (.ref C) "__getattribute__" = some (some (.builtin "BaseException.__getattribute__"))) e0.ga e1.ga e2.ga e3.ga
    gg := cl (fun C => PySem.W.findIn K (.ref C) "__getattr__" = some none) e0.gg e1.gg e2.gg e3.gg
    exC := cl (fun C => PySem.W.subIn K (.ref C) (.type "BaseException") = some true) e0.toErrC.exC e1.toErrC.exC e2.toErrC.exC e3.toErrC.exC
    hdC := cl (fun C => PySem.W.hasDictIn K C = true) e0.hdC e1.hdC e2.hdC e3.hdC
    ha := cl (fun C => PySem.W.findIn K (.ref C) "__class__" = some (some (.builtin "object.__class__"))) e0.ha e1.ha e2.ha e3.ha
    hm := cl (fun C => PySem.W.mroIn K C (.type "object") = some true) e0.hm e1.hm e2.hm e3.hm
    exm := cl (fun C => PySem.W.exmOne K (.ref C) (.ref D) = some true) e0.exm e1.exm e2.exm e3.exm
    hno := cl (fun C => PySem.W.findIn K (.ref C) "value" = some none) e0.toErrC.noN e1.toErrC.noN e2.toErrC.noN e3.toErrC.noN
    hn := kn
    ht := kt
    mgD := PySem.W.mg_of X G aD
    kit := fun c d hc hd => by
      match c, d, hc, hd with
      | 0, 0, _, _ => exact k0_0
      | 0, 1, _, _ => exact k0_1
      | 0, 2, _, _ => exact k0_2
      | 0, 3, _, _ => exact k0_3
      | 0, d + 4, _, hd => exact absurd hd (by omega)
      | 1, 0, _, _ => exact k1_0
      | 1, 1, _, _ => exact k1_1
      | 1, 2, _, _ => exact k1_2
      | 1, 3, _, _ => exact k1_3
      | 1, d + 4, _, hd => exact absurd hd (by omega)
      | 2, 0, _, _ => exact k2_0
      | 2, 1, _, _ => exact k2_1
      | 2, 2, _, _ => exact k2_2
      | 2, 3, _, _ => exact k2_3
      | 2, d + 4, _, hd => exact absurd hd (by omega)
      | 3, 0, _, _ => exact k3_0
      | 3, 1, _, _ => exact k3_1
      | 3, 2, _, _ => exact k3_2
      | 3, 3, _, _ => exact k3_3
      | 3, d + 4, _, hd => exact absurd hd (by omega)
      | c + 4, _, hc, _ => exact absurd hc (by omega) }
  have T : Txt P K mg g := {
    f0 := hF D0
    f1 := hF D1
    f2 := hF D2
    f3 := hF D3
    f4 := hF D4
    f5 := hF D5
    f6 := hF D6
    f7 := hF D7
    f8 := hF D8
    f9 := hF D9
    f10 := hF D10
    f11 := hF D11
    f12 := hF D12
    f13 := hF D13
    f14 := hF D14
    f15 := hF D15
    f16 := hF D16
    f17 := hF D17
    f18 := hF D18
    f19 := hF D19
    f20 := hF D20
    f21 := hF D21
    f22 := hF D22
    f23 := hF D23
    f24 := hF D24
    f25 := hF D25
    f26 := hF D26
    f27 := hF D27
    f28 := hF D28
    f29 := hF D29
    f30 := hF D30
    f31 := hF D31
    f32 := hF D32
    f33 := hF D33
    f34 := hF D34
    f35 := hF D35
    f36 := hF D36
    f37 := hF D37
    f38 := hF D38
    f39 := hF D39
    f40 := hF D40
    f41 := hF D41
    f42 := hF D42
    f43 := hF D43
    f44 := hF D44
    f45 := hF D45
    f46 := hF D46
    f47 := hF D47
    f48 := hF D48
    f49 := hF D49
    f50 := hF D50
    f51 := hF D51
    f52 := hF D52
    f53 := hF D53
    f54 := hF D54
    f55 := hF D55
    bn := by
      intro x hx
      simp only [bnL, List.mem_cons, List.not_mem_nil, or_false] at hx
      rcases hx with rfl | rfl | rfl | rfl | rfl | rfl | rfl | rfl | rfl | rfl | rfl | rfl | rfl | rfl | rfl | rfl | rfl | rfl
      · exact PySem.W.mg_none_of X G z_len
      · exact PySem.W.mg_none_of X G z_isinstance
      · exact PySem.W.mg_none_of X G z_range
      · exact PySem.W.mg_none_of X G z_sorted
      · exact PySem.W.mg_none_of X G z_sum
      · exact PySem.W.mg_none_of X G z_all
      · exact PySem.W.mg_none_of X G z_any
      · exact PySem.W.mg_none_of X G z_max
      · exact PySem.W.mg_none_of X G z_min
      · exact PySem.W.mg_none_of X G z_int
      · exact PySem.W.mg_none_of X G z_bool
      · exact PySem.W.mg_none_of X G z_str
      · exact PySem.W.mg_none_of X G z_list
      · exact PySem.W.mg_none_of X G z_tuple
      · exact PySem.W.mg_none_of X G z_dict
      · exact PySem.W.mg_none_of X G z_repr
      · exact PySem.W.mg_none_of X G z_enumerate
      · exact PySem.W.mg_none_of X G z_zip
    hK := rfl
    err := err
    gC := fun c x e => by
      match c, e with
      | 0, e => cases e; exact PySem.W.mg_of X G e0.a
      | 1, e => cases e; exact PySem.W.mg_of X G e1.a
      | 2, e => cases e; exact PySem.W.mg_of X G e2.a
      | 3, e => cases e; exact PySem.W.mg_of X G e3.a
      | _ + 4, e => cases e
    cI := fun x i e => by
      simp only [cIL, List.mem_cons, List.not_mem_nil, or_false, Prod.mk.injEq] at e
      rcases e with ⟨rfl, rfl⟩
      · exact ⟨_, PySem.W.mg_of X G v_MOST_NAME⟩
    cS := fun x i e => by
      simp only [cSL, List.mem_cons, List.not_mem_nil, or_false, Prod.mk.injEq] at e
      rcases e with ⟨rfl, rfl⟩ | ⟨rfl, rfl⟩
      · exact ⟨_, PySem.W.mg_of X G v_SMALL⟩
      · exact ⟨_, PySem.W.mg_of X G v_FIGURES⟩
  }
  obtain ⟨fd, F⟩ := D55.F
  have e := hfa.symm.trans (PySem.W.mg_of X G D55.a)
  cases e
  refine ⟨fd, ?_, fun base _ _ sys => ?_⟩
  · obtain ⟨oc, od, kV, doc, pm, an, cdv, ct, osl, rfl, lk, hcd⟩ := F.ex
    exact fun s u => .of_eq rfl
  · exact fnG_law (g := g) rfl (fn_ok F sc55 (fun _ _ => rfl) (fun cdv A outer s H E hr hgd => d55 (ctx T sys 19) cdv A outer s H E hr hgd)) (fun ns => law_true ns)
end K90
open PySem PySem.W PyProof.Rows
theorem PySem.Challenge.cw_cluehunt_k90_carryings_refused_holds : PySem.Challenge.rw_cluehunt_k90_carryings_refused.Holds := by
  w_on; o_law; k_head; (case hw => w_witness2)
  k_fill
  refine CH.walk_G (l := PySem.Challenge.rw_cluehunt_k90_carryings_refused) (n := 63) (k := 20) (x := "script") (sp := fun w _ _ => CH.spLaw _) rfl (by decide) rfl rfl ⟨rfl, by decide, by decide⟩ (fun w h Y => PySem.W.km_in_of Y) ?F (fun _ _ _ _ a ns hl hS => ⟨a, ns, rfl, hS, fun _ _ z => z⟩)
  case F =>
    intro w mg fa h KX G hmg
    refine' K90.all_mk KX G hmg ?D0 ?D1 ?D2 ?D3 ?D4 ?D5 ?D6 ?D7 ?D8 ?D9 ?D10 ?D11 ?D12 ?D13 ?D14 ?D15 ?D16 ?D17 ?D18 ?D19 ?D20 ?D21 ?D22 ?D23 ?D24 ?D25 ?D26 ?D27 ?D28 ?D29 ?D30 ?D31 ?D32 ?D33 ?D34 ?D35 ?D36 ?D37 ?D38 ?D39 ?D40 ?D41 ?D42 ?D43 ?D44 ?D45 ?D46 ?D47 ?D48 ?D49 ?D50 ?D51 ?D52 ?D53 ?D54 ?D55 ?e0 ?e1 ?e2 ?e3 ?eI ?aD ?aS ?kn ?kt ?k0_0 ?k0_1 ?k0_2 ?k0_3 ?k1_0 ?k1_1 ?k1_2 ?k1_3 ?k2_0 ?k2_1 ?k2_2 ?k2_3 ?k3_0 ?k3_1 ?k3_2 ?k3_3 ?z_len ?z_isinstance ?z_range ?z_sorted ?z_sum ?z_all ?z_any ?z_max ?z_min ?z_int ?z_bool ?z_str ?z_list ?z_tuple ?z_dict ?z_repr ?z_enumerate ?z_zip ?v_SMALL ?v_FIGURES ?v_MOST_NAME
    (case D0 => refine' CH.df ?a ?l ?c ?k; (case a => k_is); (case l => k_is); (case c => k_is); (case k => k_is))
    (case D1 => refine' CH.df ?a ?l ?c ?k; (case a => k_is); (case l => k_is); (case c => k_is); (case k => k_is))
    (case D2 => refine' CH.df ?a ?l ?c ?k; (case a => k_is); (case l => k_is); (case c => k_is); (case k => k_is))
    (case D3 => refine' CH.df ?a ?l ?c ?k; (case a => k_is); (case l => k_is); (case c => k_is); (case k => k_is))
    (case D4 => refine' CH.df ?a ?l ?c ?k; (case a => k_is); (case l => k_is); (case c => k_is); (case k => k_is))
    (case D5 => refine' CH.df ?a ?l ?c ?k; (case a => k_is); (case l => k_is); (case c => k_is); (case k => k_is))
    (case D6 => refine' CH.df ?a ?l ?c ?k; (case a => k_is); (case l => k_is); (case c => k_is); (case k => k_is))
    (case D7 => refine' CH.df ?a ?l ?c ?k; (case a => k_is); (case l => k_is); (case c => k_is); (case k => k_is))
    (case D8 => refine' CH.df ?a ?l ?c ?k; (case a => k_is); (case l => k_is); (case c => k_is); (case k => k_is))
    (case D9 => refine' CH.df ?a ?l ?c ?k; (case a => k_is); (case l => k_is); (case c => k_is); (case k => k_is))
    (case D10 => refine' CH.df ?a ?l ?c ?k; (case a => k_is); (case l => k_is); (case c => k_is); (case k => k_is))
    (case D11 => refine' CH.df ?a ?l ?c ?k; (case a => k_is); (case l => k_is); (case c => k_is); (case k => k_is))
    (case D12 => refine' CH.df ?a ?l ?c ?k; (case a => k_is); (case l => k_is); (case c => k_is); (case k => k_is))
    (case D13 => refine' CH.df ?a ?l ?c ?k; (case a => k_is); (case l => k_is); (case c => k_is); (case k => k_is))
    (case D14 => refine' CH.df ?a ?l ?c ?k; (case a => k_is); (case l => k_is); (case c => k_is); (case k => k_is))
    (case D15 => refine' CH.df ?a ?l ?c ?k; (case a => k_is); (case l => k_is); (case c => k_is); (case k => k_is))
    (case D16 => refine' CH.df ?a ?l ?c ?k; (case a => k_is); (case l => k_is); (case c => k_is); (case k => k_is))
    (case D17 => refine' CH.df ?a ?l ?c ?k; (case a => k_is); (case l => k_is); (case c => k_is); (case k => k_is))
    (case D18 => refine' CH.df ?a ?l ?c ?k; (case a => k_is); (case l => k_is); (case c => k_is); (case k => k_is))
    (case D19 => refine' CH.df ?a ?l ?c ?k; (case a => k_is); (case l => k_is); (case c => k_is); (case k => k_is))
    (case D20 => refine' CH.df ?a ?l ?c ?k; (case a => k_is); (case l => k_is); (case c => k_is); (case k => k_is))
    (case D21 => refine' CH.df ?a ?l ?c ?k; (case a => k_is); (case l => k_is); (case c => k_is); (case k => k_is))
    (case D22 => refine' CH.df ?a ?l ?c ?k; (case a => k_is); (case l => k_is); (case c => k_is); (case k => k_is))
    (case D23 => refine' CH.df ?a ?l ?c ?k; (case a => k_is); (case l => k_is); (case c => k_is); (case k => k_is))
    (case D24 => refine' CH.df ?a ?l ?c ?k; (case a => k_is); (case l => k_is); (case c => k_is); (case k => k_is))
    (case D25 => refine' CH.df ?a ?l ?c ?k; (case a => k_is); (case l => k_is); (case c => k_is); (case k => k_is))
    (case D26 => refine' CH.df ?a ?l ?c ?k; (case a => k_is); (case l => k_is); (case c => k_is); (case k => k_is))
    (case D27 => refine' CH.df ?a ?l ?c ?k; (case a => k_is); (case l => k_is); (case c => k_is); (case k => k_is))
    (case D28 => refine' CH.df ?a ?l ?c ?k; (case a => k_is); (case l => k_is); (case c => k_is); (case k => k_is))
    (case D29 => refine' CH.df ?a ?l ?c ?k; (case a => k_is); (case l => k_is); (case c => k_is); (case k => k_is))
    (case D30 => refine' CH.df ?a ?l ?c ?k; (case a => k_is); (case l => k_is); (case c => k_is); (case k => k_is))
    (case D31 => refine' CH.df ?a ?l ?c ?k; (case a => k_is); (case l => k_is); (case c => k_is); (case k => k_is))
    (case D32 => refine' CH.df ?a ?l ?c ?k; (case a => k_is); (case l => k_is); (case c => k_is); (case k => k_is))
    (case D33 => refine' CH.df ?a ?l ?c ?k; (case a => k_is); (case l => k_is); (case c => k_is); (case k => k_is))
    (case D34 => refine' CH.df ?a ?l ?c ?k; (case a => k_is); (case l => k_is); (case c => k_is); (case k => k_is))
    (case D35 => refine' CH.df ?a ?l ?c ?k; (case a => k_is); (case l => k_is); (case c => k_is); (case k => k_is))
    (case D36 => refine' CH.df ?a ?l ?c ?k; (case a => k_is); (case l => k_is); (case c => k_is); (case k => k_is))
    (case D37 => refine' CH.df ?a ?l ?c ?k; (case a => k_is); (case l => k_is); (case c => k_is); (case k => k_is))
    (case D38 => refine' CH.df ?a ?l ?c ?k; (case a => k_is); (case l => k_is); (case c => k_is); (case k => k_is))
    (case D39 => refine' CH.df ?a ?l ?c ?k; (case a => k_is); (case l => k_is); (case c => k_is); (case k => k_is))
    (case D40 => refine' CH.df ?a ?l ?c ?k; (case a => k_is); (case l => k_is); (case c => k_is); (case k => k_is))
    (case D41 => refine' CH.df ?a ?l ?c ?k; (case a => k_is); (case l => k_is); (case c => k_is); (case k => k_is))
    (case D42 => refine' CH.df ?a ?l ?c ?k; (case a => k_is); (case l => k_is); (case c => k_is); (case k => k_is))
    (case D43 => refine' CH.df ?a ?l ?c ?k; (case a => k_is); (case l => k_is); (case c => k_is); (case k => k_is))
    (case D44 => refine' CH.df ?a ?l ?c ?k; (case a => k_is); (case l => k_is); (case c => k_is); (case k => k_is))
    (case D45 => refine' CH.df ?a ?l ?c ?k; (case a => k_is); (case l => k_is); (case c => k_is); (case k => k_is))
    (case D46 => refine' CH.df ?a ?l ?c ?k; (case a => k_is); (case l => k_is); (case c => k_is); (case k => k_is))
    (case D47 => refine' CH.df ?a ?l ?c ?k; (case a => k_is); (case l => k_is); (case c => k_is); (case k => k_is))
    (case D48 => refine' CH.df ?a ?l ?c ?k; (case a => k_is); (case l => k_is); (case c => k_is); (case k => k_is))
    (case D49 => refine' CH.df ?a ?l ?c ?k; (case a => k_is); (case l => k_is); (case c => k_is); (case k => k_is))
    (case D50 => refine' CH.df ?a ?l ?c ?k; (case a => k_is); (case l => k_is); (case c => k_is); (case k => k_is))
    (case D51 => refine' CH.df ?a ?l ?c ?k; (case a => k_is); (case l => k_is); (case c => k_is); (case k => k_is))
    (case D52 => refine' CH.df ?a ?l ?c ?k; (case a => k_is); (case l => k_is); (case c => k_is); (case k => k_is))
    (case D53 => refine' CH.df ?a ?l ?c ?k; (case a => k_is); (case l => k_is); (case c => k_is); (case k => k_is))
    (case D54 => refine' CH.df ?a ?l ?c ?k; (case a => k_is); (case l => k_is); (case c => k_is); (case k => k_is))
    (case D55 => refine' CH.df ?a ?l ?c ?k; (case a => k_is); (case l => k_is); (case c => k_is); (case k => k_is))
    (case aD => k_is)
    (case e0 => refine' CH.clsF ?zq_a ?zq_l ?zq_r ?zq_sa ?zq_nb ?zq_ic ?zq_tc ?zq_kc ?zq_ex ?zq_ty ?zq_sb ?zq_sp ?zq_ve ?zq_hc ?zq_ga ?zq_gg ?zq_hd ?zq_ha ?zq_hm ?zq_dx ?zq_dh ?zq_dt ?zq_ds; (case zq_a => k_is); (case zq_l => k_is); (case zq_r => decide +kernel); (case zq_ic => k_is); (case zq_tc => k_is); (case zq_sa => k_is); (case zq_nb => k_is); (case zq_kc => k_is); (case zq_ex => k_is); (case zq_ty => k_is); (case zq_sb => k_is); (case zq_sp => ks_is); (case zq_ve => k_is); (case zq_hc => k_is); (case zq_ga => k_is); (case zq_gg => k_is); (case zq_hd => k_is); (case zq_ha => k_is); (case zq_hm => k_is); (case zq_dx => k_is); (case zq_dh => k_is); (case zq_dt => k_is); (case zq_ds => k_is))
    (case e1 => refine' CH.clsF ?zq_a ?zq_l ?zq_r ?zq_sa ?zq_nb ?zq_ic ?zq_tc ?zq_kc ?zq_ex ?zq_ty ?zq_sb ?zq_sp ?zq_ve ?zq_hc ?zq_ga ?zq_gg ?zq_hd ?zq_ha ?zq_hm ?zq_dx ?zq_dh ?zq_dt ?zq_ds; (case zq_a => k_is); (case zq_l => k_is); (case zq_r => decide +kernel); (case zq_ic => k_is); (case zq_tc => k_is); (case zq_sa => k_is); (case zq_nb => k_is); (case zq_kc => k_is); (case zq_ex => k_is); (case zq_ty => k_is); (case zq_sb => k_is); (case zq_sp => ks_is); (case zq_ve => k_is); (case zq_hc => k_is); (case zq_ga => k_is); (case zq_gg => k_is); (case zq_hd => k_is); (case zq_ha => k_is); (case zq_hm => k_is); (case zq_dx => k_is); (case zq_dh => k_is); (case zq_dt => k_is); (case zq_ds => k_is))
    (case e2 => refine' CH.clsF ?zq_a ?zq_l ?zq_r ?zq_sa ?zq_nb ?zq_ic ?zq_tc ?zq_kc ?zq_ex ?zq_ty ?zq_sb ?zq_sp ?zq_ve ?zq_hc ?zq_ga ?zq_gg ?zq_hd ?zq_ha ?zq_hm ?zq_dx ?zq_dh ?zq_dt ?zq_ds; (case zq_a => k_is); (case zq_l => k_is); (case zq_r => decide +kernel); (case zq_ic => k_is); (case zq_tc => k_is); (case zq_sa => k_is); (case zq_nb => k_is); (case zq_kc => k_is); (case zq_ex => k_is); (case zq_ty => k_is); (case zq_sb => k_is); (case zq_sp => ks_is); (case zq_ve => k_is); (case zq_hc => k_is); (case zq_ga => k_is); (case zq_gg => k_is); (case zq_hd => k_is); (case zq_ha => k_is); (case zq_hm => k_is); (case zq_dx => k_is); (case zq_dh => k_is); (case zq_dt => k_is); (case zq_ds => k_is))
    (case e3 => refine' CH.clsF ?zq_a ?zq_l ?zq_r ?zq_sa ?zq_nb ?zq_ic ?zq_tc ?zq_kc ?zq_ex ?zq_ty ?zq_sb ?zq_sp ?zq_ve ?zq_hc ?zq_ga ?zq_gg ?zq_hd ?zq_ha ?zq_hm ?zq_dx ?zq_dh ?zq_dt ?zq_ds; (case zq_a => k_is); (case zq_l => k_is); (case zq_r => decide +kernel); (case zq_ic => k_is); (case zq_tc => k_is); (case zq_sa => k_is); (case zq_nb => k_is); (case zq_kc => k_is); (case zq_ex => k_is); (case zq_ty => k_is); (case zq_sb => k_is); (case zq_sp => ks_is); (case zq_ve => k_is); (case zq_hc => k_is); (case zq_ga => k_is); (case zq_gg => k_is); (case zq_hd => k_is); (case zq_ha => k_is); (case zq_hm => k_is); (case zq_dx => k_is); (case zq_dh => k_is); (case zq_dt => k_is); (case zq_ds => k_is))
    (case eI => refine' CH.initF ?zq_l ?zq_c ?zq_lc ?zq_v2 ?zq_pf ?zq_lo ?zq_dc ?zq_op ?zq_tp; (case zq_l => k_is); (case zq_c => k_is); (case zq_lc => k_is); (case zq_v2 => rfl); (case zq_pf => decide +kernel); (case zq_lo => k_is); (case zq_dc => k_is); (case zq_op => k_is); (case zq_tp => rfl))
    (case aS => k_is)
    (case kn => k_is)
    (case kt => k_is)
    (case k0_0 => kit_is)
    (case k0_1 => kit_is)
    (case k0_2 => kit_is)
    (case k0_3 => kit_is)
    (case k1_0 => kit_is)
    (case k1_1 => kit_is)
    (case k1_2 => kit_is)
    (case k1_3 => kit_is)
    (case k2_0 => kit_is)
    (case k2_1 => kit_is)
    (case k2_2 => kit_is)
    (case k2_3 => kit_is)
    (case k3_0 => kit_is)
    (case k3_1 => kit_is)
    (case k3_2 => kit_is)
    (case k3_3 => kit_is)
    (case z_len => k_is)
    (case z_isinstance => k_is)
    (case z_range => k_is)
    (case z_sorted => k_is)
    (case z_sum => k_is)
    (case z_all => k_is)
    (case z_any => k_is)
    (case z_max => k_is)
    (case z_min => k_is)
    (case z_int => k_is)
    (case z_bool => k_is)
    (case z_str => k_is)
    (case z_list => k_is)
    (case z_tuple => k_is)
    (case z_dict => k_is)
    (case z_repr => k_is)
    (case z_enumerate => k_is)
    (case z_zip => k_is)
    (case v_SMALL => k_is)
    (case v_FIGURES => k_is)
    (case v_MOST_NAME => k_is)
