import PyProof.Rows.All
import Wide.All
import OpenK.AllK
import Wide.FinOn
import HandS.ForMost
import HandS.Exc
import HandS.TryOnly
import HandS.ExcOwn
import HandS.WordsExc
import HandS.CallSlots
import HandS.ExcIs
import HandS.HotCalls
import HandS.Defaults
import HandS.Wide
import HandS.Flow
import HandS.IsInst
import HandS.Deep
import HandS.Conv
import HandS.TupAny
import HandS.Small
import HandS.Head0
import HandS.Head1
import HandS.Head2
import HandS.HeadEnd
import HandS.HeadHook1
import HandS.HeadHook2
import HandS.More
import HandS.Flt
import KE.GoesMore
import KE.GoesZip
import KE.GoesEnum
import HandS.Comp
import KE.KStateDown
import HandS.SortInts
import HandS.SetFor
import PySem.Challenge.RW_tongueshelf_k07_whole_none_is_cheaper
set_option Elab.async false
set_option linter.all false
set_option maxRecDepth 100000
namespace Vi
open PySem PySem.Spec PyProof.Rows L2

/-! ### values, states, results -/
inductive T where
  | non | bl (b : Bool) | int (i : Int) | str (x : List Nat)
  | tup (ts : List T) | lst (ts : List T)
  | dk (ks : List Key) (ts : List T)
  | dt (ks : List (List Key)) (ts : List T)
  | glo (n : Nat) | ktup (ts : List T) | scr (ns : List Int) | opq (a : Addr)
inductive Slot where
  | no | val (t : T) | bor (t : T) | own (t : T)
inductive DV where
  | val (t : T) | bor (t : T) | ali (i : Nat) | new (t : T)
structure S where
  sl : List Slot
  ce : List T
inductive Res (α : Type) where
  | ok (a : α) (s : S) | ex (c : Nat) (s : S) | bad
def Res.bind {α β : Type} (r : Res α) (k : α → S → Res β) : Res β := match r with
  | .ok a s => k a s
  | .ex c s => .ex c s
  | .bad => .bad
@[simp] theorem Res.bind_ok {α β : Type} (a : α) (s : S) (k : α → S → Res β) : (Res.ok a s).bind k = k a s := rfl
@[simp] theorem Res.bind_ex {α β : Type} (c : Nat) (s : S) (k : α → S → Res β) : (Res.ex c s : Res α).bind k = .ex c s := rfl
@[simp] theorem Res.bind_bad {α β : Type} (k : α → S → Res β) : (Res.bad : Res α).bind k = .bad := rfl
abbrev M := S → Res DV

/-! ### how a value of the heap reads -/
mutual
inductive Rp (K : PySem.W.Frag) (G : Hp) (ψ : List Addr) : V → T → Prop
  | non : Rp K G ψ .non .non
  | bl (b : Bool) : Rp K G ψ (.bl b) (.bl b)
  | int (i : Int) : Rp K G ψ (.int i) (.int i)
  | str {x : List Nat} : x.all (· < 0x110000) = true → Rp K G ψ (.str ⟨x.toArray⟩) (.str x)
  | tup {a : Addr} {xs : List V} {ts : List T} : G a = some (.tup xs) → RpA K G ψ xs ts → Rp K G ψ (.ref a) (.tup ts)
  | lst {a : Addr} {xs : List V} {ts : List T} : G a = some (.lst xs) → RpA K G ψ xs ts → Rp K G ψ (.ref a) (.lst ts)
  | dk {a : Addr} {kvs : List (Key × V)} {ks : List Key} {ts : List T} : G a = some (.dK kvs) → ks = kvs.map (·.1) → RpA K G ψ (kvs.map (·.2)) ts → Rp K G ψ (.ref a) (.dk ks ts)
  | dt {a : Addr} {kvs : List (List Key × V)} {ks : List (List Key)} {ts : List T} : G a = some (.dT kvs) → ks = kvs.map (·.1) → RpA K G ψ (kvs.map (·.2)) ts → Rp K G ψ (.ref a) (.dt ks ts)
  | glo {a : Addr} {n : Nat} : ψ[n]? = some a → Rp K G ψ (.ref a) (.glo n)
  | ktup {a : Addr} {xs : List V} {ts : List T} : (∀ H, SqT K H a xs) → RpA K G ψ xs ts → Rp K G ψ (.ref a) (.ktup ts)
  | scr {a : Addr} {ns : List Int} : SqL K G a (ns.map V.int) → Rp K G ψ (.ref a) (.scr ns)
  | opq (a : Addr) : Rp K G ψ (.ref a) (.opq a)
inductive RpA (K : PySem.W.Frag) (G : Hp) (ψ : List Addr) : List V → List T → Prop
  | nil : RpA K G ψ [] []
  | cons {v : V} {vs : List V} {t : T} {ts : List T} : Rp K G ψ v t → RpA K G ψ vs ts → RpA K G ψ (v :: vs) (t :: ts)
end
/-- the content of a list, a dict -/
inductive Ct (K : PySem.W.Frag) (G : Hp) (ψ : List Addr) : HO → T → Prop
  | lst {xs : List V} {ts : List T} : RpA K G ψ xs ts → Ct K G ψ (.lst xs) (.lst ts)
  | dk {kvs : List (Key × V)} {ks : List Key} {ts : List T} : ks = kvs.map (·.1) → RpA K G ψ (kvs.map (·.2)) ts → Ct K G ψ (.dK kvs) (.dk ks ts)
  | dt {kvs : List (List Key × V)} {ks : List (List Key)} {ts : List T} : ks = kvs.map (·.1) → RpA K G ψ (kvs.map (·.2)) ts → Ct K G ψ (.dT kvs) (.dt ks ts)
/-- whose an address is -/
inductive Ow where
  | slot (i : Nat) | cell (n : Nat) | hold (o : HO) | keep (o : HO)

theorem rd_same {G G' : Hp} {a : Addr} {u : HO} (h : Same G G') (r : Rd G a u) : Rd G' a u := by
  rcases r with r | ⟨o, r⟩
  · exact .inl (h _ _ r)
  · exact .inr ⟨o, h _ _ r⟩
theorem sqT_same {K : PySem.W.Frag} {G G' : Hp} {a : Addr} {xs : List V} (h : Same G G') (r : SqT K G a xs) : SqT K G' a xs := by
  rcases r with r | r
  · exact .inl (rd_same h r)
  · exact .inr r
theorem sqL_same {K : PySem.W.Frag} {G G' : Hp} {a : Addr} {xs : List V} (h : Same G G') (r : SqL K G a xs) : SqL K G' a xs := by
  rcases r with r | r
  · exact .inl (rd_same h r)
  · exact .inr r
theorem pre_get {α : Type} {l l' : List α} {n : Nat} {a : α} (h : l <+: l') (e : l[n]? = some a) : l'[n]? = some a := by
  obtain ⟨r, rfl⟩ := h
  rw [List.getElem?_append_left]
  · exact e
  · exact (List.getElem?_eq_some_iff.mp e).1
section
variable {K : PySem.W.Frag} {G G' : Hp} {ψ ψ' : List Addr}
mutual
theorem Rp.mono (h : Same G G') (p : ψ <+: ψ') : ∀ {v : V} {t : T}, Rp K G ψ v t → Rp K G' ψ' v t
  | _, _, .non => .non
  | _, _, .bl b => .bl b
  | _, _, .int i => .int i
  | _, _, .str e => .str e
  | _, _, .tup s r => .tup (h _ _ s) (RpA.mono h p r)
  | _, _, .lst s r => .lst (h _ _ s) (RpA.mono h p r)
  | _, _, .dk s e r => .dk (h _ _ s) e (RpA.mono h p r)
  | _, _, .dt s e r => .dt (h _ _ s) e (RpA.mono h p r)
  | _, _, .glo e => .glo (pre_get p e)
  | _, _, .ktup e r => .ktup e (RpA.mono h p r)
  | _, _, .scr e => .scr (sqL_same h e)
  | _, _, .opq a => .opq a
theorem RpA.mono (h : Same G G') (p : ψ <+: ψ') : ∀ {vs : List V} {ts : List T}, RpA K G ψ vs ts → RpA K G' ψ' vs ts
  | _, _, .nil => .nil
  | _, _, .cons r rs => .cons (Rp.mono h p r) (RpA.mono h p rs)
end
theorem Ct.mono (h : Same G G') (p : ψ <+: ψ') {o : HO} {t : T} (c : Ct K G ψ o t) : Ct K G' ψ' o t := by
  cases c with
  | lst r => exact .lst (r.mono h p)
  | dk e r => exact .dk e (r.mono h p)
  | dt e r => exact .dt e (r.mono h p)
theorem RpA.len : ∀ {vs : List V} {ts : List T}, RpA K G ψ vs ts → vs.length = ts.length
  | _, _, .nil => rfl
  | _, _, .cons _ rs => by simp [RpA.len rs]
theorem RpA.append : ∀ {vs : List V} {ts : List T} {vs' : List V} {ts' : List T}, RpA K G ψ vs ts → RpA K G ψ vs' ts' → RpA K G ψ (vs ++ vs') (ts ++ ts')
  | _, _, _, _, .nil, h => h
  | _, _, _, _, .cons r rs, h => .cons r (RpA.append rs h)
theorem RpA.get : ∀ {vs : List V} {ts : List T} {i : Nat} {t : T}, RpA K G ψ vs ts → ts[i]? = some t → ∃ v, vs[i]? = some v ∧ Rp K G ψ v t
  | _, _, _, _, .nil, e => by simp at e
  | _, _, 0, _, .cons r _, e => by simp at e; subst e; exact ⟨_, rfl, r⟩
  | _, _, i + 1, _, .cons _ rs, e => by
    obtain ⟨v, h1, h2⟩ := RpA.get (i := i) rs (by simpa using e)
    exact ⟨v, by simpa using h1, h2⟩
theorem RpA.getV : ∀ {vs : List V} {ts : List T} {i : Nat} {v : V}, RpA K G ψ vs ts → vs[i]? = some v → ∃ t, ts[i]? = some t ∧ Rp K G ψ v t
  | _, _, _, _, .nil, e => by simp at e
  | _, _, 0, _, .cons r _, e => by simp at e; subst e; exact ⟨_, rfl, r⟩
  | _, _, i + 1, _, .cons _ rs, e => by
    obtain ⟨v, h1, h2⟩ := RpA.getV (i := i) rs (by simpa using e)
    exact ⟨v, by simpa using h1, h2⟩
theorem RpA.take : ∀ {vs : List V} {ts : List T} (n : Nat), RpA K G ψ vs ts → RpA K G ψ (vs.take n) (ts.take n)
  | _, _, 0, _ => .nil
  | _, _, _ + 1, .nil => .nil
  | _, _, n + 1, .cons r rs => .cons r (RpA.take n rs)
theorem RpA.drop : ∀ {vs : List V} {ts : List T} (n : Nat), RpA K G ψ vs ts → RpA K G ψ (vs.drop n) (ts.drop n)
  | _, _, 0, h => h
  | _, _, _ + 1, .nil => .nil
  | _, _, n + 1, .cons _ rs => RpA.drop n rs
theorem RpA.set : ∀ {vs : List V} {ts : List T} (n : Nat) {v : V} {t : T}, RpA K G ψ vs ts → Rp K G ψ v t → RpA K G ψ (vs.set n v) (ts.set n t)
  | _, _, _, _, _, .nil, _ => .nil
  | _, _, 0, _, _, .cons _ rs, h => .cons h rs
  | _, _, n + 1, _, _, .cons r rs, h => .cons r (RpA.set n rs h)
end

/-! ### the state's meaning -/
def SlotOk (K : PySem.W.Frag) (G : Hp) (ψ : List Addr) (ω : Addr → Option Ow) (H : Hp) (i : Nat) (x : Option (Option V)) : Slot → Prop
  | .no => True
  | .val t => ∃ v, x = some (some v) ∧ Rp K G ψ v t
  | .bor t => ∃ a o, x = some (some (.ref a)) ∧ ω a = some (.hold o) ∧ Ct K G ψ o t
  | .own t => ∃ a o, x = some (some (.ref a)) ∧ ω a = some (.slot i) ∧ H a = some o ∧ Ct K G ψ o t
structure Rel (K : PySem.W.Frag) (G : Hp) (ψ : List Addr) (ω : Addr → Option Ow) (s : S) (σ : L2.St) (H : Hp) : Prop where
  le : Same G H
  gw : ∀ a o, G a = some o → ω a = none
  hold : ∀ a o, ω a = some (.hold o) → H a = some o
  keep : ∀ a o, ω a = some (.keep o) → H a = some o
  tr : ∀ a, H a = none → ω a = none
  slots : ∀ i x, s.sl[i]? = some x → SlotOk K G ψ ω H i σ[i]? x
  len : s.sl.length = σ.length
  psi : ψ.length = s.ce.length
  cells : ∀ n t, s.ce[n]? = some t → ∃ a o, ψ[n]? = some a ∧ ω a = some (.cell n) ∧ H a = some o ∧ Ct K G ψ o t
/-- how the ghosts go on -/
structure Mo (G : Hp) (ψ : List Addr) (ω : Addr → Option Ow) (G' : Hp) (ψ' : List Addr) (ω' : Addr → Option Ow) : Prop where
  g : Same G G'
  p : ψ <+: ψ'
  h : ∀ a o, ω a = some (.hold o) → ω' a = some (.hold o)
  k : ∀ a o, ω a = some (.keep o) → ω' a = some (.keep o)
theorem Mo.refl {G : Hp} {ψ : List Addr} {ω : Addr → Option Ow} : Mo G ψ ω G ψ ω := ⟨Same.refl _, List.prefix_refl _, fun _ _ h => h, fun _ _ h => h⟩
theorem Mo.trans {G G1 G2 : Hp} {ψ ψ1 ψ2 : List Addr} {ω ω1 ω2 : Addr → Option Ow} (a : Mo G ψ ω G1 ψ1 ω1) (b : Mo G1 ψ1 ω1 G2 ψ2 ω2) : Mo G ψ ω G2 ψ2 ω2 :=
  ⟨a.g.trans b.g, a.p.trans b.p, fun x o h => b.h x o (a.h x o h), fun x o h => b.k x o (a.k x o h)⟩
/-- what a told value is -/
def RD (K : PySem.W.Frag) (G : Hp) (ψ : List Addr) (ω : Addr → Option Ow) (σ : L2.St) (H : Hp) (v : V) : DV → Prop
  | .val t => Rp K G ψ v t
  | .bor t => ∃ a o, v = .ref a ∧ ω a = some (.hold o) ∧ Ct K G ψ o t
  | .ali i => σ[i]? = some (some v)
  | .new t => ∃ a o, v = .ref a ∧ G a = none ∧ ω a = none ∧ H a = some o ∧ Ct K G ψ o t

/-- the exceptions' classes, by number -/
abbrev CV := Nat → Value
def Fin (K : PySem.W.Frag) (W : WX) (cv : CV) (σ : L2.St) (G : Hp) (ψ : List Addr) (ω : Addr → Option Ow) {α : Type} (r : Res α) (Z : α → Hp → List Addr → (Addr → Option Ow) → S → Hp → Prop) : Prop := match r with
  | .ok a s => ∀ G' ψ' ω' H', Mo G ψ ω G' ψ' ω' → Rel K G' ψ' ω' s σ H' → Z a G' ψ' ω' s H'
  | .ex c s => ∀ G' ψ' ω' H', Mo G ψ ω G' ψ' ω' → Rel K G' ψ' ω' s σ H' → W (cv c) none σ H'
  | .bad => False
section
variable {K : PySem.W.Frag} {W : WX} {cv : CV} {σ : L2.St} {G G1 : Hp} {ψ ψ1 : List Addr} {ω ω1 : Addr → Option Ow} {α β : Type}
theorem Fin.on {r : Res α} {Z : α → Hp → List Addr → (Addr → Option Ow) → S → Hp → Prop} (f : Fin K W cv σ G ψ ω r Z) (m : Mo G ψ ω G1 ψ1 ω1) : Fin K W cv σ G1 ψ1 ω1 r Z := by
  cases r with
  | ok a s => exact fun G' ψ' ω' H' m' R => f G' ψ' ω' H' (m.trans m') R
  | ex c s => exact fun G' ψ' ω' H' m' R => f G' ψ' ω' H' (m.trans m') R
  | bad => exact f
theorem Fin.imp {r : Res α} {Z Z' : α → Hp → List Addr → (Addr → Option Ow) → S → Hp → Prop} (f : Fin K W cv σ G ψ ω r Z) (h : ∀ a G' ψ' ω' s H', Mo G ψ ω G' ψ' ω' → Rel K G' ψ' ω' s σ H' → Z a G' ψ' ω' s H' → Z' a G' ψ' ω' s H') : Fin K W cv σ G ψ ω r Z' := by
  cases r with
  | ok a s => exact fun G' ψ' ω' H' m' R => h _ _ _ _ _ _ m' R (f G' ψ' ω' H' m' R)
  | ex c s => exact f
  | bad => exact f
theorem Fin.bind {r : Res α} {k : α → S → Res β} {Z : β → Hp → List Addr → (Addr → Option Ow) → S → Hp → Prop} (f : Fin K W cv σ G ψ ω (r.bind k) Z) :
    Fin K W cv σ G ψ ω r fun a G' ψ' ω' s H' => Fin K W cv σ G' ψ' ω' (k a s) Z := by
  cases r with
  | ok a s => exact fun G' ψ' ω' H' m' _ => Fin.on f m'
  | ex c s => exact f
  | bad => exact f
end
/-- an expression's reading -/
def tI (K : PySem.W.Frag) (W : WX) (cv : CV) (m : M) : TE := fun σ H Q => ∃ G ψ ω s, Rel K G ψ ω s σ H ∧ Fin K W cv σ G ψ ω (m s) fun d G' ψ' ω' _ H' => ∀ v, RD K G' ψ' ω' σ H' v d → Q v H'
structure Ev (X : Cx) (W : WX) (cv : CV) (e : Expr) (m : M) : Prop where
  pe : PE X e (tI X.K W cv m)
theorem pe_w {X : Cx} {e : Expr} {t t' : TE} (h : PE X e t) (w : ∀ σ H Q, t' σ H Q → t σ H Q) : PE X e t' := ⟨fun pins s σ H Q I q => h.run pins s σ H Q I (w σ H Q q)⟩
section
variable {K : PySem.W.Frag} {W : WX} {cv : CV} {σ : L2.St} {G : Hp} {ψ : List Addr} {ω : Addr → Option Ow} {s : S} {H : Hp}
/-- one expression, then what follows -/
theorem tI_on {m : M} {β : Type} {k : DV → S → Res β} {Z : β → Hp → List Addr → (Addr → Option Ow) → S → Hp → Prop} {P : VK} (R : Rel K G ψ ω s σ H) (f : Fin K W cv σ G ψ ω ((m s).bind k) Z)
    (h : ∀ d s1 G1 ψ1 ω1 H1 v, Mo G ψ ω G1 ψ1 ω1 → Rel K G1 ψ1 ω1 s1 σ H1 → RD K G1 ψ1 ω1 σ H1 v d → Fin K W cv σ G1 ψ1 ω1 (k d s1) Z → P v H1) : tI K W cv m σ H P :=
  ⟨G, ψ, ω, s, R, f.bind.imp fun d G' ψ' ω' s' H' mo R' q v rd => h d s' G' ψ' ω' H' v mo R' rd q⟩
end

/-! ### steps of the heap -/
/-- something new: G, H go on to G', H' -/
structure Al (G H G' H' : Hp) : Prop where
  g : Same G G'
  h : Same H H'
  le : Same G' H'
  nw : ∀ a o, G' a = some o → G a = some o ∨ H a = none
theorem Al.refl {G H : Hp} (le : Same G H) : Al G H G H := ⟨Same.refl _, Same.refl _, le, fun _ _ h => .inl h⟩
theorem same_upd {H : Hp} {p : Addr} {o : HO} (h : H p = none) : Same H (upd H p o) := fun b u e => by rw [upd_ne (ne_of_none e h)]; exact e
theorem Al.new {G H : Hp} {p : Addr} {o : HO} (le : Same G H) (h : H p = none) : Al G H G (upd H p o) := ⟨Same.refl _, same_upd h, le.trans (same_upd h), fun _ _ h => .inl h⟩
theorem Al.frz {G H : Hp} {p : Addr} {o : HO} (le : Same G H) (h : H p = none) : Al G H (upd G p o) (upd H p o) :=
  ⟨same_upd (le.free h), same_upd h, fun b u e => by
    by_cases hb : b = p
    · subst hb; rw [upd_same] at e ⊢; exact e
    · rw [upd_ne hb] at e ⊢; exact le _ _ e, fun b u e => by
    by_cases hb : b = p
    · subst hb; exact .inr h
    · rw [upd_ne hb] at e; exact .inl e⟩
section
variable {K : PySem.W.Frag} {σ : L2.St} {G G' : Hp} {ψ : List Addr} {ω : Addr → Option Ow} {s : S} {H H' : Hp}
theorem SlotOk.mono {G' : Hp} {ψ' : List Addr} {ω' : Addr → Option Ow} {i : Nat} {x : Option (Option V)} {y : Slot} (g : Same G G') (p : ψ <+: ψ') (w : ∀ a o, ω a = some (.hold o) → ω' a = some (.hold o))
    (w2 : ∀ a o, x = some (some (.ref a)) → ω a = some (.slot i) → H a = some o → ω' a = some (.slot i) ∧ H' a = some o) (h : SlotOk K G ψ ω H i x y) : SlotOk K G' ψ' ω' H' i x y := by
  cases y with
  | no => trivial
  | val t => obtain ⟨v, e, r⟩ := h; exact ⟨v, e, r.mono g p⟩
  | bor t => obtain ⟨a, o, e, w1, c⟩ := h; exact ⟨a, o, e, w _ _ w1, c.mono g p⟩
  | own t => obtain ⟨a, o, e, w1, h1, c⟩ := h; obtain ⟨q1, q2⟩ := w2 a o e w1 h1; exact ⟨a, o, e, q1, q2, c.mono g p⟩
theorem Rel.al (R : Rel K G ψ ω s σ H) (a : Al G H G' H') : Rel K G' ψ ω s σ H' where
  le := a.le
  gw := fun b o e => by
    rcases a.nw b o e with q | q
    · exact R.gw b o q
    · exact R.tr b q
  hold := fun b o e => a.h _ _ (R.hold b o e)
  keep := fun b o e => a.h _ _ (R.keep b o e)
  tr := fun b e => R.tr b (a.h.free e)
  slots := fun i x e => (R.slots i x e).mono a.g (List.prefix_refl _) (fun _ _ h => h) fun b o _ w h => ⟨w, a.h _ _ h⟩
  len := R.len
  psi := R.psi
  cells := fun n t e => by
    obtain ⟨b, o, e1, e2, e3, c⟩ := R.cells n t e
    exact ⟨b, o, e1, e2, a.h _ _ e3, c.mono a.g (List.prefix_refl _)⟩
theorem Al.mo (a : Al G H G' H') : Mo G ψ ω G' ψ ω := ⟨a.g, List.prefix_refl _, fun _ _ h => h, fun _ _ h => h⟩
theorem Rel.wn (R : Rel K G ψ ω s σ H) {a : Addr} {w : Ow} (h : ω a = some w) : G a = none := by
  cases e : G a with
  | none => rfl
  | some o => rw [R.gw a o e] at h; cases h
/-- a thing of one's own is locked for good -/
theorem Rel.freeze (R : Rel K G ψ ω s σ H) {a : Addr} {o : HO} (h : H a = some o) (hg : G a = none) (hw : ω a = none) : Rel K (upd G a o) ψ ω s σ H where
  le := fun b u e => by
    by_cases hb : b = a
    · subst hb; rw [upd_same] at e; rw [← e]; exact h
    · rw [upd_ne hb] at e; exact R.le _ _ e
  gw := fun b u e => by
    by_cases hb : b = a
    · subst hb; exact hw
    · rw [upd_ne hb] at e; exact R.gw _ _ e
  hold := R.hold
  keep := R.keep
  tr := R.tr
  slots := fun i x e => (R.slots i x e).mono (same_upd hg) (List.prefix_refl _) (fun _ _ h => h) fun b o _ w h => ⟨w, h⟩
  len := R.len
  psi := R.psi
  cells := fun n t e => by
    obtain ⟨b, o, e1, e2, e3, c⟩ := R.cells n t e
    exact ⟨b, o, e1, e2, e3, c.mono (same_upd hg) (List.prefix_refl _)⟩
theorem Ct.rp {a : Addr} {o : HO} {t : T} (c : Ct K G ψ o t) (e : G a = some o) : Rp K G ψ (.ref a) t := by
  cases c with
  | lst r => exact .lst e r
  | dk q r => exact .dk e q r
  | dt q r => exact .dt e q r
/-- a new thing becomes a plain value -/
def dz : DV → DV
  | .new t => .val t
  | d => d
theorem Rel.dz (R : Rel K G ψ ω s σ H) {v : V} {d : DV} (r : RD K G ψ ω σ H v d) : ∃ G', Mo G ψ ω G' ψ ω ∧ Rel K G' ψ ω s σ H ∧ RD K G' ψ ω σ H v (dz d) := by
  cases d with
  | new t =>
    obtain ⟨a, o, rfl, hg, hw, h, c⟩ := r
    exact ⟨upd G a o, ⟨same_upd hg, List.prefix_refl _, fun _ _ h => h, fun _ _ h => h⟩, R.freeze h hg hw, (c.mono (same_upd hg) (List.prefix_refl _)).rp upd_same⟩
  | val t => exact ⟨G, Mo.refl, R, r⟩
  | bor t => exact ⟨G, Mo.refl, R, r⟩
  | ali i => exact ⟨G, Mo.refl, R, r⟩
theorem RD.mono {G' : Hp} {ψ' : List Addr} {ω' : Addr → Option Ow} {v : V} {d : DV} (m : Mo G ψ ω G' ψ' ω') (r : RD K G ψ ω σ H v (Vi.dz d)) : RD K G' ψ' ω' σ H' v (Vi.dz d) := by
  cases d with
  | new t => exact Rp.mono m.g m.p r
  | val t => exact Rp.mono m.g m.p r
  | bor t => obtain ⟨a, o, e, w, c⟩ := r; exact ⟨a, o, e, m.h _ _ w, c.mono m.g m.p⟩
  | ali i => exact r
end

/-! ### what is read -/
def rd (s : S) : DV → Option T
  | .val (.glo n) => s.ce[n]?
  | .val t => some t
  | .bor t => some t
  | .new t => some t
  | .ali i => match s.sl[i]? with
    | some (.own t) => some t
    | some (.val (.glo n)) => s.ce[n]?
    | some (.val t) => some t
    | _ => none
/-- v reads as t -/
def RdT (K : PySem.W.Frag) (G : Hp) (ψ : List Addr) (H : Hp) (v : V) (t : T) : Prop := Rp K G ψ v t ∨ ∃ a o, v = .ref a ∧ H a = some o ∧ Ct K G ψ o t
def RdA (K : PySem.W.Frag) (G : Hp) (ψ : List Addr) (H : Hp) : List V → List T → Prop
  | [], [] => True
  | v :: vs, t :: ts => RdT K G ψ H v t ∧ RdA K G ψ H vs ts
  | _, _ => False
section
variable {K : PySem.W.Frag} {σ : L2.St} {G G' : Hp} {ψ : List Addr} {ω : Addr → Option Ow} {s : S} {H H' : Hp}
theorem Rel.cell (R : Rel K G ψ ω s σ H) {v : V} {n : Nat} {t : T} (r : Rp K G ψ v (.glo n)) (e : s.ce[n]? = some t) : ∃ a o, v = .ref a ∧ ψ[n]? = some a ∧ ω a = some (.cell n) ∧ H a = some o ∧ Ct K G ψ o t := by
  cases r with
  | glo q =>
    obtain ⟨b, o, e1, e2, e3, c⟩ := R.cells n t e
    rw [q] at e1; cases e1
    exact ⟨_, o, rfl, q, e2, e3, c⟩
theorem Rel.rdVal (R : Rel K G ψ ω s σ H) {v : V} {t t' : T} (r : Rp K G ψ v t) (e : rd s (.val t) = some t') : RdT K G ψ H v t' := by
  cases t with
  | glo n => obtain ⟨a, o, e1, _, _, e3, c⟩ := R.cell r (show s.ce[n]? = some t' from e); exact .inr ⟨a, o, e1, e3, c⟩
  | non => cases e; exact .inl r
  | bl => cases e; exact .inl r
  | int => cases e; exact .inl r
  | str => cases e; exact .inl r
  | tup => cases e; exact .inl r
  | lst => cases e; exact .inl r
  | dk => cases e; exact .inl r
  | dt => cases e; exact .inl r
  | ktup => cases e; exact .inl r
  | scr => cases e; exact .inl r
  | opq => cases e; exact .inl r
theorem Rel.rd (R : Rel K G ψ ω s σ H) {v : V} {d : DV} {t : T} (r : RD K G ψ ω σ H v d) (e : Vi.rd s d = some t) : RdT K G ψ H v t := by
  cases d with
  | val t' => exact R.rdVal r e
  | bor t' => obtain ⟨a, o, e1, e2, c⟩ := r; cases e; exact .inr ⟨a, o, e1, R.hold _ _ e2, c⟩
  | new t' => obtain ⟨a, o, e1, _, _, e2, c⟩ := r; cases e; exact .inr ⟨a, o, e1, e2, c⟩
  | ali i =>
    cases q : s.sl[i]? with
    | none => simp [Vi.rd, q] at e
    | some x =>
      have so := R.slots i x q
      have hv : σ[i]? = some (some v) := r
      cases x with
      | no => simp [Vi.rd, q] at e
      | bor t' => simp [Vi.rd, q] at e
      | own t' =>
        simp [Vi.rd, q] at e
        subst e
        obtain ⟨a, o, e1, e2, e3, c⟩ := so
        rw [hv] at e1
        exact .inr ⟨a, o, by simpa using e1, e3, c⟩
      | val t' =>
        obtain ⟨v', e1, rp⟩ := so
        rw [hv] at e1
        have ev : v = v' := by simpa using e1
        subst ev
        refine R.rdVal (t := t') rp ?_
        cases t' <;> simpa [Vi.rd, q] using e
end
end Vi

set_option Elab.async false
set_option linter.all false
set_option maxRecDepth 100000
namespace Vi
open PySem PySem.Spec PyProof.Rows L2

/-! ### operations on values -/
/-- what an operation hands on: an old or scalar value, or a new thing -/
def RN (K : PySem.W.Frag) (G : Hp) (ψ : List Addr) (H H' : Hp) (v : V) : DV → Prop
  | .val t => Rp K G ψ v t
  | .new t => ∃ a o, v = .ref a ∧ H a = none ∧ G a = none ∧ H' a = some o ∧ Ct K G ψ o t
  | _ => False
def RQ (K : PySem.W.Frag) (G : Hp) (ψ : List Addr) (H : Hp) (d : DV) (Q : VK) : Prop := ∀ v G' H', Al G H G' H' → RN K G' ψ H H' v d → Q v H'
/-- the cells stand -/
def Cel (K : PySem.W.Frag) (G : Hp) (ψ : List Addr) (ce : List T) (H : Hp) : Prop := ∀ (n : Nat) (t : T), ce[n]? = some t → ∃ a o, ψ[n]? = some a ∧ H a = some o ∧ Ct K G ψ o t
def PR2c (K : PySem.W.Frag) (r : R2) (g : List T → T → T → Option DV) : Prop := ∀ G ψ H ce x y tx ty d Q, Same G H → Cel K G ψ ce H → RdT K G ψ H x tx → RdT K G ψ H y ty → g ce tx ty = some d → RQ K G ψ H d Q → r x y H Q
def PR2 (K : PySem.W.Frag) (r : R2) (g : T → T → Option DV) : Prop := ∀ G ψ H x y tx ty d Q, Same G H → RdT K G ψ H x tx → RdT K G ψ H y ty → g tx ty = some d → RQ K G ψ H d Q → r x y H Q
theorem PR2.c {K : PySem.W.Frag} {r : R2} {g : T → T → Option DV} (h : PR2 K r g) : PR2c K r (fun _ => g) := fun G ψ H _ x y tx ty d Q hs _ hx hy e q => h G ψ H x y tx ty d Q hs hx hy e q
def PRn (K : PySem.W.Frag) (r : List V → Hp → VK → Prop) (g : List T → Option DV) : Prop := ∀ G ψ H xs ts d Q, Same G H → RdA K G ψ H xs ts → g ts = some d → RQ K G ψ H d Q → r xs H Q
theorem _root_.Vi.Rel.cel {K : PySem.W.Frag} {G : Hp} {ψ : List Addr} {ω : Addr → Option Ow} {s : S} {σ : L2.St} {H : Hp} (R : Rel K G ψ ω s σ H) : Cel K G ψ s.ce H := fun n t e => by
  obtain ⟨a, o, e1, _, e2, c⟩ := R.cells n t e
  exact ⟨a, o, e1, e2, c⟩
def gr (r : Option DV) (s : S) : Res DV := match r with
  | some d => .ok d s
  | none => .bad
@[simp] theorem gr_some (d : DV) (s : S) : gr (some d) s = .ok d s := rfl
@[simp] theorem gr_none (s : S) : gr none s = .bad := rfl
section
variable {K : PySem.W.Frag} {W : WX} {cv : CV} {σ : L2.St} {G G1 : Hp} {ψ ψ1 : List Addr} {ω ω1 : Addr → Option Ow} {s : S} {H : Hp}
theorem RN.rd {G' H' : Hp} {v : V} {d : DV} (R : Rel K G ψ ω s σ H) (a : Al G H G' H') (r : RN K G' ψ H H' v d) : RD K G' ψ ω σ H' v d := by
  cases d with
  | val t => exact r
  | new t => obtain ⟨b, o, e, h, g, h', c⟩ := r; exact ⟨b, o, e, g, R.tr b h, h', c⟩
  | bor t => exact r.elim
  | ali i => exact r.elim
/-- an operation's result, handed on -/
theorem Fin.rq {o : Option DV} {Q : VK} (R : Rel K G ψ ω s σ H) (f : Fin K W cv σ G ψ ω (gr o s) fun d G' ψ' ω' _ H' => ∀ v, RD K G' ψ' ω' σ H' v d → Q v H') : ∃ d, o = some d ∧ RQ K G ψ H d Q := by
  cases o with
  | none => exact f.elim
  | some d => exact ⟨d, rfl, fun v G' H' a r => f G' ψ ω H' a.mo (R.al a) v (r.rd R a)⟩
end
/-- two operands, then the operation -/
def mOp2c (g : List T → T → T → Option DV) (ma mb : M) : M := fun s => (ma s).bind fun d s1 => (mb s1).bind fun e s2 => match rd s2 (dz d), rd s2 (dz e) with
  | some x, some y => gr (g s2.ce x y) s2
  | _, _ => .bad
abbrev mOp2 (g : T → T → Option DV) : M → M → M := mOp2c fun _ => g
def mOp1 (g : T → Option DV) (ma : M) : M := fun s => (ma s).bind fun d s1 => match rd s1 (dz d) with
  | some x => gr (g x) s1
  | _ => .bad
def evs : List M → S → Res (List DV)
  | [], s => .ok [] s
  | m :: ms, s => (m s).bind fun d s1 => (evs ms s1).bind fun ds s2 => .ok (dz d :: ds) s2
def rds (s : S) : List DV → Option (List T)
  | [] => some []
  | d :: ds => match rd s d, rds s ds with
    | some t, some ts => some (t :: ts)
    | _, _ => none
def mOpN (g : List T → Option DV) (ms : List M) : M := fun s => (evs ms s).bind fun ds s1 => match rds s1 ds with
  | some ts => gr (g ts) s1
  | none => .bad
/-- an argument list's reading -/
def RDs (K : PySem.W.Frag) (G : Hp) (ψ : List Addr) (ω : Addr → Option Ow) (σ : L2.St) (H : Hp) : List V → List DV → Prop
  | [], [] => True
  | v :: vs, d :: ds => RD K G ψ ω σ H v (dz d) ∧ (∃ e, d = dz e) ∧ RDs K G ψ ω σ H vs ds
  | _, _ => False
def tAs (K : PySem.W.Frag) (W : WX) (cv : CV) (ms : List M) : TA := fun σ H Q => ∃ G ψ ω s, Rel K G ψ ω s σ H ∧ Fin K W cv σ G ψ ω (evs ms s) fun ds G' ψ' ω' _ H' => ∀ vs, RDs K G' ψ' ω' σ H' vs ds → Q vs H'
structure EvA (X : Cx) (W : WX) (cv : CV) (es : List Expr) (ms : List M) : Prop where
  pa : PA X es (tAs X.K W cv ms)
theorem pa_w {X : Cx} {es : List Expr} {t t' : TA} (h : PA X es t) (w : ∀ σ H Q, t' σ H Q → t σ H Q) : PA X es t' := ⟨fun pos pins s σ H Q I q => h.run pos pins s σ H Q I (w σ H Q q)⟩
@[simp] theorem dz_dz (d : DV) : dz (dz d) = dz d := by cases d <;> rfl
section
variable {X : Cx} {W : WX} {cv : CV}
theorem eva_nil : EvA X W cv [] [] := ⟨pa_w pa_nil fun σ H Q ⟨G, ψ, ω, s, R, f⟩ => f G ψ ω H Mo.refl R [] trivial⟩
theorem eva_cons {e : Expr} {es : List Expr} {m : M} {ms : List M} (h : Ev X W cv e m) (hs : EvA X W cv es ms) (hst : starEach (e :: es) X.env = (false, eval e X.env) :: starEach es X.env := by rfl) : EvA X W cv (e :: es) (m :: ms) := by
  refine ⟨pa_w (pa_cons h.pe hs.pa hst) fun σ H Q ⟨G, ψ, ω, s, R, f⟩ => ?_⟩
  refine tI_on (k := fun d s1 => (evs ms s1).bind fun ds s2 => .ok (dz d :: ds) s2) R f fun d s1 G1 ψ1 ω1 H1 v mo R1 rv f1 => ?_
  obtain ⟨G2, mo2, R2, rv2⟩ := R1.dz rv
  refine ⟨G2, ψ1, ω1, s1, R2, (Fin.on f1 mo2).bind.imp fun ds G3 ψ3 ω3 s3 H3 mo3 R3 f3 vs rvs => ?_⟩
  exact f3 G3 ψ3 ω3 H3 Mo.refl R3 (v :: vs) ⟨by rw [dz_dz]; exact RD.mono mo3 rv2, ⟨d, rfl⟩, rvs⟩
theorem RDs.rds {K : PySem.W.Frag} {G : Hp} {ψ : List Addr} {ω : Addr → Option Ow} {s : S} {σ : L2.St} {H : Hp} (R : Rel K G ψ ω s σ H) : ∀ {vs : List V} {ds : List DV} {ts : List T}, RDs K G ψ ω σ H vs ds → Vi.rds s ds = some ts → RdA K G ψ H vs ts
  | [], [], ts, _, e => by
    have : ts = [] := by simpa [Vi.rds] using e.symm
    subst this; trivial
  | v :: vs, d :: ds, ts, ⟨r, ⟨d', hd⟩, rs⟩, e => by
    subst hd
    cases e1 : Vi.rd s (dz d') with
    | none => simp [Vi.rds, e1] at e
    | some t =>
      cases e2 : Vi.rds s ds with
      | none => simp [Vi.rds, e1, e2] at e
      | some ts' =>
        have : ts = t :: ts' := by simpa [Vi.rds, e1, e2] using e.symm
        subst this
        exact ⟨R.rd (by rw [dz_dz] at r; exact r) e1, RDs.rds R rs e2⟩
  | [], _ :: _, _, h, _ => h.elim
  | _ :: _, [], _, h, _ => h.elim

/-- a binary operation's term -/
theorem tOp_on {K : PySem.W.Frag} {ta tb : TE} {ma mb : M} {g : List T → T → T → Option DV} {r : R2} (p : PR2c K r g) (ha : ta = tI K W cv ma) (hb : tb = tI K W cv mb) (σ : L2.St) (H : Hp) (Q : VK) (h : tI K W cv (mOp2c g ma mb) σ H Q) : tOp r ta tb σ H Q := by
  subst ha hb
  obtain ⟨G, ψ, ω, s, R, f⟩ := h
  refine tI_on (k := fun d s1 => (mb s1).bind fun e s2 => match rd s2 (dz d), rd s2 (dz e) with
    | some x, some y => gr (g s2.ce x y) s2
    | _, _ => .bad) R f fun d s1 G1 ψ1 ω1 H1 x mo R1 rv f1 => ?_
  obtain ⟨G2, mo2, R2, rv2⟩ := R1.dz rv
  refine tI_on (k := fun e s2 => match rd s2 (dz d), rd s2 (dz e) with
    | some x, some y => gr (g s2.ce x y) s2
    | _, _ => .bad) R2 (Fin.on f1 mo2) fun e s3 G3 ψ3 ω3 H3 y mo3 R3 rv3 f3 => ?_
  obtain ⟨G4, mo4, R4, rv4⟩ := R3.dz rv3
  have rx : RD K G4 ψ3 ω3 σ H3 x (dz d) := RD.mono (mo3.trans mo4) rv2
  cases e1 : rd s3 (dz d) with
  | none => rw [e1] at f3; exact f3.elim
  | some tx =>
    cases e2 : rd s3 (dz e) with
    | none => rw [e1, e2] at f3; exact f3.elim
    | some ty =>
      rw [e1, e2] at f3
      obtain ⟨dd, ed, rq⟩ := Fin.rq R4 (Fin.on f3 mo4)
      exact p G4 ψ3 H3 s3.ce x y tx ty dd Q R4.le R4.cel (R4.rd rx e1) (R4.rd rv4 e2) ed rq
variable {a b : Expr} {ma mb : M} {pos : Pos} {g : List T → T → T → Option DV} {r : R2}
theorem ev_op {op : Operator} (ho : OpR X (binaryOp op) r) (p : PR2c X.K r g) (ha : Ev X W cv a ma) (hb : Ev X W cv b mb) : Ev X W cv (.BinOp a op b pos) (mOp2c g ma mb) :=
  ⟨pe_w (pe_op ho ha.pe hb.pe) fun σ H Q h => tOp_on p rfl rfl σ H Q h⟩
theorem ev_cmp {op : CmpOp} (ho : OpR X (compareOp op) r) (p : PR2c X.K r g) (ha : Ev X W cv a ma) (hb : Ev X W cv b mb) (hm : behindInMarks op b = false := by first | exact nomark _ | rfl) : Ev X W cv (.Compare a [op] [b] pos) (mOp2c g ma mb) :=
  ⟨pe_w (pe_cmpR ho ha.pe hb.pe hm) fun σ H Q h => tOp_on p rfl rfl σ H Q h⟩
theorem ev_ix (hr : IxR X r) (p : PR2c X.K r g) (ha : Ev X W cv a ma) (hb : Ev X W cv b mb) (hs : PlainIx b := by exact fun _ _ => rfl) : Ev X W cv (.Subscript a b pos) (mOp2c g ma mb) :=
  ⟨pe_w (pe_ix hr ha.pe hb.pe hs) fun σ H Q h => tOp_on p rfl rfl σ H Q h⟩
end

/-! ### shapes of what reads -/
section
variable {K : PySem.W.Frag} {G : Hp} {ψ : List Addr} {H : Hp} {v : V}
theorem RdT.non (h : RdT K G ψ H v .non) : v = .non := by
  rcases h with h | ⟨a, o, _, _, c⟩
  · cases h; rfl
  · cases c
theorem RdT.bl {b : Bool} (h : RdT K G ψ H v (.bl b)) : v = .bl b := by
  rcases h with h | ⟨a, o, _, _, c⟩
  · cases h; rfl
  · cases c
theorem RdT.int {i : Int} (h : RdT K G ψ H v (.int i)) : v = .int i := by
  rcases h with h | ⟨a, o, _, _, c⟩
  · cases h; rfl
  · cases c
theorem RdT.str {x : List Nat} (h : RdT K G ψ H v (.str x)) : v = .str ⟨x.toArray⟩ ∧ x.all (· < 0x110000) = true := by
  rcases h with h | ⟨a, o, _, _, c⟩
  · cases h with
    | str e => exact ⟨rfl, e⟩
  · cases c
theorem RdT.lst {ts : List T} (hs : Same G H) (h : RdT K G ψ H v (.lst ts)) : ∃ a xs, v = .ref a ∧ H a = some (.lst xs) ∧ RpA K G ψ xs ts := by
  rcases h with h | ⟨a, o, e, h, c⟩
  · cases h with
    | lst e r => exact ⟨_, _, rfl, hs _ _ e, r⟩
  · cases c with
    | lst r => exact ⟨a, _, e, h, r⟩
theorem RdT.tup {ts : List T} (h : RdT K G ψ H v (.tup ts)) : ∃ a xs, v = .ref a ∧ G a = some (.tup xs) ∧ RpA K G ψ xs ts := by
  rcases h with h | ⟨a, o, e, h, c⟩
  · cases h with
    | tup e r => exact ⟨_, _, rfl, e, r⟩
  · cases c
theorem RdT.ktup {ts : List T} (h : RdT K G ψ H v (.ktup ts)) : ∃ a xs, v = .ref a ∧ (∀ H, SqT K H a xs) ∧ RpA K G ψ xs ts := by
  rcases h with h | ⟨a, o, e, h, c⟩
  · cases h with
    | ktup e r => exact ⟨_, _, rfl, e, r⟩
  · cases c
theorem RdT.scr {ns : List Int} (h : RdT K G ψ H v (.scr ns)) : ∃ a, v = .ref a ∧ SqL K G a (ns.map V.int) := by
  rcases h with h | ⟨a, o, e, h, c⟩
  · cases h with
    | scr e => exact ⟨_, rfl, e⟩
  · cases c
theorem RdT.dk {ks : List Key} {ts : List T} (hs : Same G H) (h : RdT K G ψ H v (.dk ks ts)) : ∃ a kvs, v = .ref a ∧ H a = some (.dK kvs) ∧ ks = kvs.map (·.1) ∧ RpA K G ψ (kvs.map (·.2)) ts := by
  rcases h with h | ⟨a, o, e, h, c⟩
  · cases h with
    | dk e q r => exact ⟨_, _, rfl, hs _ _ e, q, r⟩
  · cases c with
    | dk q r => exact ⟨a, _, e, h, q, r⟩
theorem RdT.dt {ks : List (List Key)} {ts : List T} (hs : Same G H) (h : RdT K G ψ H v (.dt ks ts)) : ∃ a kvs, v = .ref a ∧ H a = some (.dT kvs) ∧ ks = kvs.map (·.1) ∧ RpA K G ψ (kvs.map (·.2)) ts := by
  rcases h with h | ⟨a, o, e, h, c⟩
  · cases h with
    | dt e q r => exact ⟨_, _, rfl, hs _ _ e, q, r⟩
  · cases c with
    | dt q r => exact ⟨a, _, e, h, q, r⟩
/-- ways to answer -/
theorem RQ.val {Q : VK} {t : T} {v : V} (hs : Same G H) (q : RQ K G ψ H (.val t) Q) (r : Rp K G ψ v t) : Q v H := q v G H (Al.refl hs) r
theorem RQ.new {Q : VK} {t : T} {o : HO} {p : Addr} (hs : Same G H) (q : RQ K G ψ H (.new t) Q) (hp : H p = none) (c : Ct K G ψ o t) : Q (.ref p) (upd H p o) :=
  q (.ref p) G _ (Al.new hs hp) ⟨p, o, rfl, hp, hs.free hp, upd_same, c⟩
theorem RQ.tup {Q : VK} {ts : List T} {xs : List V} {p : Addr} (hs : Same G H) (q : RQ K G ψ H (.val (.tup ts)) Q) (hp : H p = none) (c : RpA K G ψ xs ts) : Q (.ref p) (upd H p (.tup xs)) :=
  q (.ref p) _ _ (Al.frz hs hp) (Rp.tup upd_same (c.mono (same_upd (hs.free hp)) (List.prefix_refl _)))
end

/-! ### sums, products, .. -/
def line : Nat := 16777216
def gAdd : T → T → Option DV
  | .int i, .int j => some (.val (.int (i + j)))
  | .str x, .str y => if x.length + y.length ≤ line then some (.val (.str (x ++ y))) else none
  | .lst xs, .lst ys => if xs.length + ys.length ≤ line then some (.new (.lst (xs ++ ys))) else none
  | .tup xs, .tup ys => if xs.length + ys.length ≤ line then some (.val (.tup (xs ++ ys))) else none
  | _, _ => none
theorem line_eq : sizeLine = line := sizeLine_eq
abbrev rAdd (K : PySem.W.Frag) : R2 := fun x y H Q => (∃ i j, x = .int i ∧ y = .int j ∧ Q (.int (i + j)) H) ∨ (∃ i j, x = .str i ∧ y = .str j ∧ i.length + j.length ≤ sizeLine ∧ Q (.str (i ++ j)) H) ∨ rCat x y H Q ∨ rCatA K x y H Q
theorem op_addT {X : Cx} : OpR X (binaryOp .Add) (rAdd X.K) := OpR.or op_add (OpR.or op_add_str (OpR.or op_cat op_catA))
theorem str_app (x y : List Nat) : (⟨x.toArray⟩ : Str) ++ (⟨y.toArray⟩ : Str) = ⟨(x ++ y).toArray⟩ := by
  show (⟨x.toArray ++ y.toArray⟩ : Str) = _
  simp
theorem str_len (x : List Nat) : (⟨x.toArray⟩ : Str).length = x.length := by
  show x.toArray.size = _
  simp
theorem pr_add {K : PySem.W.Frag} : PR2 K (rAdd K) gAdd := by
  intro G ψ H x y tx ty d Q hs hx hy e q
  cases tx with
  | int i => cases ty with
    | int j =>
      cases hx.int; cases hy.int; cases e
      exact .inl ⟨i, j, rfl, rfl, q.val hs (.int _)⟩
    | _ => cases e
  | str i => cases ty with
    | str j =>
      obtain ⟨rfl, h1⟩ := hx.str
      obtain ⟨rfl, h2⟩ := hy.str
      simp only [gAdd] at e
      split at e
      · cases e
        rename_i hl
        refine .inr (.inl ⟨_, _, rfl, rfl, by rw [str_len, str_len, line_eq]; exact hl, ?_⟩)
        rw [str_app]
        exact q.val hs (.str (by rw [List.all_append, h1, h2]; rfl))
      · cases e
    | _ => cases e
  | lst i => cases ty with
    | lst j =>
      obtain ⟨a, xs, rfl, h1, r1⟩ := hx.lst hs
      obtain ⟨b, ys, rfl, h2, r2⟩ := hy.lst hs
      simp only [gAdd] at e
      split at e
      · cases e
        rename_i hl
        exact .inr (.inr (.inl ⟨a, b, xs, ys, rfl, rfl, h1, h2, by rw [r1.len, r2.len, line_eq]; exact hl, fun p hp => q.new hs hp (.lst (r1.append r2))⟩))
      · cases e
    | _ => cases e
  | tup i => cases ty with
    | tup j =>
      obtain ⟨a, xs, rfl, h1, r1⟩ := hx.tup
      obtain ⟨b, ys, rfl, h2, r2⟩ := hy.tup
      simp only [gAdd] at e
      split at e
      · cases e
        rename_i hl
        refine .inr (.inr (.inr ⟨a, b, xs, ys, rfl, rfl, SqT.of (hs _ _ h1), SqT.of (hs _ _ h2), by rw [r1.len, r2.len, line_eq]; exact hl, fun e => ?_, fun _ e => ?_, fun _ _ p hp => q.tup hs hp (r1.append r2)⟩))
        · subst e
          cases r1
          exact q.val hs (.tup h2 (by simpa using r2))
        · subst e
          cases r2
          exact q.val hs (.tup h1 (by simpa using r1))
      · cases e
    | _ => cases e
  | _ => cases e
def gSub : T → T → Option DV
  | .int i, .int j => some (.val (.int (i - j)))
  | _, _ => none
theorem pr_sub {K : PySem.W.Frag} : PR2 K (rI0 fun i j => .int (i - j)) gSub := by
  intro G ψ H x y tx ty d Q hs hx hy e q
  cases tx with
  | int i => cases ty with
    | int j => cases hx.int; cases hy.int; cases e; exact ⟨i, j, rfl, rfl, q.val hs (.int _)⟩
    | _ => cases e
  | _ => cases e
def gMod : T → T → Option DV
  | .int i, .int j => if 0 < j then some (.val (.int (i % j))) else none
  | _, _ => none
theorem pr_mod {K : PySem.W.Frag} : PR2 K (rI (fun _ j => 0 < j) fun i j => .int (i % j)) gMod := by
  intro G ψ H x y tx ty d Q hs hx hy e q
  cases tx with
  | int i => cases ty with
    | int j =>
      simp only [gMod] at e
      split at e
      · cases hx.int; cases hy.int; cases e; exact ⟨i, j, rfl, rfl, by assumption, q.val hs (.int _)⟩
      · cases e
    | _ => cases e
  | _ => cases e
def gDiv : T → T → Option DV
  | .int i, .int j => if 0 < j ∧ j < 2 ^ 80 then some (.val (.int (i / j))) else none
  | _, _ => none
theorem pr_div {K : PySem.W.Frag} : PR2 K (rI CDivW fun i j => .int (i / j)) gDiv := by
  intro G ψ H x y tx ty d Q hs hx hy e q
  cases tx with
  | int i => cases ty with
    | int j =>
      simp only [gDiv] at e
      split at e
      · rename_i hj
        cases hx.int; cases hy.int; cases e
        exact ⟨i, j, rfl, rfl, wide_div (b := 80) hj.1 (by omega) (by decide) (by decide), q.val hs (.int _)⟩
      · cases e
    | _ => cases e
  | _ => cases e
/-- the parts of a list, so often -/
def reps {α : Type} (k : Nat) (xs : List α) : List α := (List.replicate k xs).flatten
theorem RpA.reps {K : PySem.W.Frag} {G : Hp} {ψ : List Addr} {xs : List V} {ts : List T} (h : RpA K G ψ xs ts) : ∀ k : Nat, RpA K G ψ (List.replicate k xs).flatten (Vi.reps k ts)
  | 0 => .nil
  | k + 1 => by
    show RpA K G ψ (List.replicate (k + 1) xs).flatten (List.replicate (k + 1) ts).flatten
    rw [List.replicate_succ, List.replicate_succ, List.flatten_cons, List.flatten_cons]
    exact h.append (RpA.reps h k)
def gMul : T → T → Option DV
  | .int i, .int j => if -(2 ^ 64) < i ∧ i < 2 ^ 64 then some (.val (.int (i * j))) else none
  | .lst xs, .int j => if -(2 ^ 30) ≤ j ∧ j < 2 ^ 30 ∧ xs.length * j.toNat ≤ line then some (.new (.lst (reps j.toNat xs))) else none
  | .str x, .int j => if -(2 ^ 30) ≤ j ∧ j < 2 ^ 20 ∧ x.length < 2 ^ 10 ∧ x.length * j.toNat ≤ line then some (.val (.str (reps j.toNat x))) else none
  | _, _ => none
theorem op_mul_str {X : Cx} : OpR X (binaryOp .Mult) (fun x y H Q => ∃ (a : Str) (n : Int), x = .str a ∧ y = .int n ∧ MulOk a n ∧ Q (.str (Txt.mul a n)) H) := by
  intro pins s σ H x y v u Q I rx ry h
  obtain ⟨a, n, rfl, rfl, ok, q⟩ := h
  obtain ⟨t, rfl⟩ := rx
  obtain ⟨t', rfl⟩ := ry
  exact SB.mul ok fun t1 k => ⟨.str _, H, I.tok _, ⟨_, rfl⟩, q⟩
theorem foldl_app (l : List (Array Nat)) (a : Array Nat) : (l.foldl (· ++ ·) a).toList = a.toList ++ (l.map Array.toList).flatten := by
  induction l generalizing a with
  | nil => simp
  | cons x xs ih => simp [ih]
theorem txt_mul (x : List Nat) (n : Int) : Txt.mul ⟨x.toArray⟩ n = ⟨(reps n.toNat x).toArray⟩ := by
  unfold Txt.mul
  by_cases h1 : n < 1
  · rw [if_pos h1]
    have e : n.toNat = 0 := by omega
    rw [e]
    rfl
  · rw [if_neg h1]
    by_cases h2 : (n == 1 || (⟨x.toArray⟩ : Str).length == 0) = true
    · rw [if_pos h2]
      rw [str_len, Bool.or_eq_true] at h2
      rcases h2 with h2 | h2
      · have e : n.toNat = 1 := by
          have := eq_of_beq h2
          omega
        rw [e]
        simp [reps]
      · have e : x = [] := by
          have := eq_of_beq h2
          exact List.eq_nil_of_length_eq_zero this
        subst e
        have : ∀ k : Nat, reps k ([] : List Nat) = [] := fun k => by simp [reps]
        rw [this]
    · rw [if_neg h2]
      have e : ((List.replicate n.toNat x.toArray).foldl (· ++ ·) #[]) = (reps n.toNat x).toArray := by
        apply Array.ext'
        rw [foldl_app]
        simp [reps]
      show (⟨(List.replicate n.toNat x.toArray).foldl (· ++ ·) #[]⟩ : Str) = _
      rw [e]
theorem all_reps {p : Nat → Bool} {x : List Nat} (h : x.all p = true) : ∀ k : Nat, (reps k x).all p = true
  | 0 => rfl
  | k + 1 => by
    show (List.replicate (k + 1) x).flatten.all p = true
    rw [List.replicate_succ, List.flatten_cons, List.all_append, h]
    exact all_reps h k
theorem reps_len {α : Type} (k : Nat) (x : List α) : (reps k x).length = k * x.length := by simp [reps]
abbrev rMul : R2 := fun x y H Q => rI CMul (fun i j => .int (i * j)) x y H Q ∨ rRep x y H Q ∨ (∃ (a : Str) (n : Int), x = .str a ∧ y = .int n ∧ MulOk a n ∧ Q (.str (Txt.mul a n)) H)
theorem op_mulT {X : Cx} : OpR X (binaryOp .Mult) rMul := OpR.or op_mul (OpR.or op_rep op_mul_str)
theorem mulOk_of {x : List Nat} {n : Int} (h1 : -(2 ^ 30) ≤ n) (h2 : n < 2 ^ 20) (h3 : x.length < 2 ^ 10) (h4 : x.length * n.toNat ≤ line) : MulOk ⟨x.toArray⟩ n := by
  refine ⟨?_, fun hn _ => ?_, fun hn _ => ?_⟩
  · rw [decide_eq_false (by omega), decide_eq_false (by omega)]; rfl
  · rw [str_len]
    have hpos : 0 < n := by omega
    have : (2 ^ 63 - 1 : Int) / n ≥ 2 ^ 10 := by
      apply Int.le_ediv_of_mul_le hpos
      omega
    omega
  · rw [str_len]
    have hz := line_eq
    have h5 : ¬ (x.length * n.toNat > sizeLine) := by rw [hz]; omega
    first
      | exact decide_eq_false h5
      | simpa [Builtin.tooLong] using h5
theorem pr_mul {K : PySem.W.Frag} : PR2 K rMul gMul := by
  intro G ψ H x y tx ty d Q hs hx hy e q
  cases tx with
  | int i => cases ty with
    | int j =>
      simp only [gMul] at e
      split at e
      · cases hx.int; cases hy.int; cases e; exact .inl ⟨i, j, rfl, rfl, .inl (by assumption), q.val hs (.int _)⟩
      · cases e
    | _ => cases e
  | lst i => cases ty with
    | int j =>
      simp only [gMul] at e
      split at e
      · rename_i hj
        obtain ⟨a, xs, rfl, h1, r1⟩ := hx.lst hs
        cases hy.int; cases e
        exact .inr (.inl ⟨a, j, xs, rfl, rfl, h1, by omega, by omega, by rw [r1.len, line_eq]; exact hj.2.2, fun p hp => q.new hs hp (.lst (r1.reps _))⟩)
      · cases e
    | _ => cases e
  | str i => cases ty with
    | int j =>
      simp only [gMul] at e
      split at e
      · rename_i hj
        obtain ⟨rfl, h1⟩ := hx.str
        cases hy.int; cases e
        refine .inr (.inr ⟨_, j, rfl, rfl, mulOk_of hj.1 hj.2.1 hj.2.2.1 hj.2.2.2, ?_⟩)
        rw [txt_mul]
        exact q.val hs (.str (all_reps h1 _))
      · cases e
    | _ => cases e
  | _ => cases e
def gPow : T → T → Option DV
  | .int i, .int j => if 0 ≤ j ∧ j ≤ 1000000 ∧ i.natAbs < 2 ^ 64 then some (.val (.int (i ^ j.toNat))) else none
  | _, _ => none
theorem pr_pow {K : PySem.W.Frag} : PR2 K (rI CPow fun i j => .int (i ^ j.toNat)) gPow := by
  intro G ψ H x y tx ty d Q hs hx hy e q
  cases tx with
  | int i => cases ty with
    | int j =>
      simp only [gPow] at e
      split at e
      · cases hx.int; cases hy.int; cases e; exact ⟨i, j, rfl, rfl, by assumption, q.val hs (.int _)⟩
      · cases e
    | _ => cases e
  | _ => cases e
end Vi

set_option Elab.async false
set_option linter.all false
set_option maxRecDepth 100000
namespace Vi
open PySem PySem.Spec PyProof.Rows L2

/-! ### data, for == and in -/
def allSome {α : Type} : List (Option α) → Option (List α)
  | [] => some []
  | some a :: r => (allSome r).map (a :: ·)
  | none :: _ => none
def dat (ce : List T) : Nat → T → Option PyData
  | _, .non => some .none
  | _, .bl b => some (.bool b)
  | _, .int i => some (.int i)
  | _, .str x => some (.str ⟨x.toArray⟩)
  | n + 1, .tup ts => (allSome (ts.map (dat ce n))).map .tuple
  | n + 1, .ktup ts => (allSome (ts.map (dat ce n))).map .tuple
  | n + 1, .lst ts => (allSome (ts.map (dat ce n))).map .list
  | n + 1, .glo k => match ce[k]? with
    | some (.lst ts) => (allSome (ts.map (dat ce n))).map .list
    | _ => none
  | _, _ => none
/-- v is data d, of at most n within one another -/
def DOk (K : PySem.W.Frag) (H : Hp) (v : V) (d : PyData) (n : Nat) : Prop := Dp K H v d ∧ d.canLay0 = true ∧ d.depth ≤ n
def DOkA (K : PySem.W.Frag) (H : Hp) (vs : List V) (ds : List PyData) (n : Nat) : Prop := DpAll K H vs ds ∧ PyData.canLayAll0 ds = true ∧ PyData.depthAll ds ≤ n
section
variable {K : PySem.W.Frag} {G : Hp} {ψ : List Addr} {H : Hp} {ce : List T}
theorem datA {n : Nat} (ih : ∀ {v : V} {t : T} {d : PyData}, Rp K G ψ v t → dat ce n t = some d → DOk K H v d n) : ∀ {vs : List V} {ts : List T} {ds : List PyData}, RpA K G ψ vs ts → allSome (ts.map (dat ce n)) = some ds → DOkA K H vs ds n
  | _, _, ds, .nil, e => by
    have : ds = [] := by simpa [allSome] using e.symm
    subst this
    exact ⟨.nil, by simp [PyData.canLayAll0], by simp [PyData.depthAll]⟩
  | _, _, ds, .cons (t := t) (ts := ts) r rs, e => by
    rw [List.map_cons] at e
    cases e1 : dat ce n t with
    | none => rw [e1] at e; simp [allSome] at e
    | some d =>
      rw [e1] at e
      cases e2 : allSome (ts.map (dat ce n)) with
      | none => simp [allSome, e2] at e
      | some ds' =>
        have : ds = d :: ds' := by simpa [allSome, e2] using e.symm
        subst this
        obtain ⟨a1, a2, a3⟩ := ih r e1
        obtain ⟨b1, b2, b3⟩ := datA ih rs e2
        exact ⟨.cons a1 b1, by simp [PyData.canLayAll0, a2, b2], by simp only [PyData.depthAll]; omega⟩
theorem dok_lst {n : Nat} {a : Addr} {xs : List V} {ts : List T} {d : PyData} (ih : ∀ {v : V} {t : T} {d : PyData}, Rp K G ψ v t → dat ce n t = some d → DOk K H v d n) (h : H a = some (.lst xs)) (r : RpA K G ψ xs ts) (e : (allSome (ts.map (dat ce n))).map PyData.list = some d) : DOk K H (.ref a) d (n + 1) := by
  obtain ⟨ds, e1, rfl⟩ := Option.map_eq_some_iff.mp e
  obtain ⟨b1, b2, b3⟩ := datA ih r e1
  exact ⟨.lst (SqL.of h) b1, by simpa [PyData.canLay0] using b2, by simp only [PyData.depth]; omega⟩
theorem dok_tup {n : Nat} {a : Addr} {xs : List V} {ts : List T} {d : PyData} (ih : ∀ {v : V} {t : T} {d : PyData}, Rp K G ψ v t → dat ce n t = some d → DOk K H v d n) (h : SqT K H a xs) (r : RpA K G ψ xs ts) (e : (allSome (ts.map (dat ce n))).map PyData.tuple = some d) : DOk K H (.ref a) d (n + 1) := by
  obtain ⟨ds, e1, rfl⟩ := Option.map_eq_some_iff.mp e
  obtain ⟨b1, b2, b3⟩ := datA ih r e1
  exact ⟨.tup h b1, by simpa [PyData.canLay0] using b2, by simp only [PyData.depth]; omega⟩
theorem dat_str {x : List Nat} (h : x.all (· < 0x110000) = true) : PyData.canLay0 (.str ⟨x.toArray⟩) = true := by
  simp only [PyData.canLay0]
  show (x.toArray).all (· < 0x110000) = true
  simpa using h
theorem dat_ok (hs : Same G H) (c : Cel K G ψ ce H) : ∀ (n : Nat) {v : V} {t : T} {d : PyData}, Rp K G ψ v t → dat ce n t = some d → DOk K H v d n := by
  intro n
  induction n with
  | zero =>
    intro v t d r e
    cases r with
    | non => cases e; exact ⟨.non, by simp [PyData.canLay0], by simp [PyData.depth]⟩
    | bl => cases e; exact ⟨.bl _, by simp [PyData.canLay0], by simp [PyData.depth]⟩
    | int => cases e; exact ⟨.int _, by simp [PyData.canLay0], by simp [PyData.depth]⟩
    | str h => cases e; exact ⟨.str _, dat_str h, by simp [PyData.depth]⟩
    | _ => cases e
  | succ n ih =>
    intro v t d r e
    cases r with
    | non => cases e; exact ⟨.non, by simp [PyData.canLay0], by simp [PyData.depth]⟩
    | bl => cases e; exact ⟨.bl _, by simp [PyData.canLay0], by simp [PyData.depth]⟩
    | int => cases e; exact ⟨.int _, by simp [PyData.canLay0], by simp [PyData.depth]⟩
    | str h => cases e; exact ⟨.str _, dat_str h, by simp [PyData.depth]⟩
    | tup h r => exact dok_tup ih (SqT.of (hs _ _ h)) r e
    | ktup h r => exact dok_tup ih (h H) r e
    | lst h r => exact dok_lst ih (hs _ _ h) r e
    | glo h =>
      rename_i a k
      cases q : ce[k]? with
      | none => simp [dat, q] at e
      | some t =>
        obtain ⟨b, o, e1, e2, ct⟩ := c k t q
        rw [h] at e1; cases e1
        cases ct with
        | lst r => exact dok_lst ih e2 r (by simpa [dat, q] using e)
        | dk => simp [dat, q] at e
        | dt => simp [dat, q] at e
    | _ => cases e
theorem dat_rd (hs : Same G H) (c : Cel K G ψ ce H) {n : Nat} {v : V} {t : T} {d : PyData} (r : RdT K G ψ H v t) (e : dat ce n t = some d) : DOk K H v d n := by
  rcases r with r | ⟨a, o, rfl, h, ct⟩
  · exact dat_ok hs c n r e
  · cases ct with
    | lst r => cases n with
      | zero => cases e
      | succ n => exact dok_lst (dat_ok hs c n) h r e
    | dk => cases n <;> cases e
    | dt => cases n <;> cases e
theorem shaped_of {d : PyData} {n : Nat} (h1 : d.canLay0 = true) (h2 : d.depth ≤ n) (h3 : n ≤ 64) : SeqAt.shaped d = true := by
  show (d.canLay0 && decide (d.depth ≤ 64)) = true
  rw [h1, decide_eq_true (by omega)]
  rfl
end
def eqT (ce : List T) (x y : T) : Option Bool := match dat ce 40 x, dat ce 40 y with
  | some a, some b => some (PyData.eqv a b)
  | _, _ => none
def gEq (ce : List T) (x y : T) : Option DV := (eqT ce x y).map fun b => .val (.bl b)
def gNe (ce : List T) (x y : T) : Option DV := (eqT ce x y).map fun b => .val (.bl (!b))
theorem pr_eq {K : PySem.W.Frag} : PR2c K (rEqD K) gEq := by
  intro G ψ H ce x y tx ty d Q hs hc hx hy e q
  obtain ⟨b, e1, rfl⟩ := Option.map_eq_some_iff.mp e
  unfold eqT at e1
  cases h1 : dat ce 40 tx with
  | none => rw [h1] at e1; cases e1
  | some dx => cases h2 : dat ce 40 ty with
    | none => rw [h1, h2] at e1; cases e1
    | some dy =>
      rw [h1, h2] at e1
      cases e1
      obtain ⟨a1, a2, a3⟩ := dat_rd hs hc hx h1
      obtain ⟨b1, b2, b3⟩ := dat_rd hs hc hy h2
      exact ⟨dx, dy, a1, b1, shaped_of a2 a3 (by decide), shaped_of b2 b3 (by decide), q.val hs (.bl _)⟩
theorem pr_ne {K : PySem.W.Frag} : PR2c K (rNeD K) gNe := by
  intro G ψ H ce x y tx ty d Q hs hc hx hy e q
  obtain ⟨b, e1, rfl⟩ := Option.map_eq_some_iff.mp e
  unfold eqT at e1
  cases h1 : dat ce 40 tx with
  | none => rw [h1] at e1; cases e1
  | some dx => cases h2 : dat ce 40 ty with
    | none => rw [h1, h2] at e1; cases e1
    | some dy =>
      rw [h1, h2] at e1
      cases e1
      obtain ⟨a1, a2, a3⟩ := dat_rd hs hc hx h1
      obtain ⟨b1, b2, b3⟩ := dat_rd hs hc hy h2
      exact ⟨dx, dy, a1, b1, shaped_of a2 a3 (by decide), shaped_of b2 b3 (by decide), q.val hs (.bl _)⟩

/-! ### in -/
def rInDT (K : PySem.W.Frag) (neg : Bool) : R2 := fun x y H Q => ∃ d ds, Dp K H x d ∧ Dp K H y (.tuple ds) ∧ SeqAt.shaped d = true ∧ SeqAt.shaped (.tuple ds) = true ∧ Q (.bl (if neg then !ds.any fun z => PyData.eqv z d else ds.any fun z => PyData.eqv z d)) H
theorem room_inT {X : Cx} {d : PyData} {ds : List PyData} (h : SeqAt.shaped d = true) (hu : X.A.units + 65 < cLine) : X.A.units + 1 + min (PyData.depthAll ds) d.depth < cLine := by
  have h1 := SeqAt.depth_of_shaped h
  have h2 : min (PyData.depthAll ds) d.depth ≤ d.depth := Nat.min_le_right _ _
  omega
theorem canT {ds : List PyData} (h : SeqAt.shaped (.tuple ds) = true) : PyData.canLayAll0 ds = true := by
  have := SeqAt.canLay_of_shaped h
  simpa [PyData.canLay0] using this
theorem op_inDT {X : Cx} (hu : X.A.units + 65 < cLine) : OpR X (compareOp .In) (rInDT X.K false) := by
  intro pins s σ H x y v u Q I rx ry h
  obtain ⟨d, ds, hd, he, sd, se, q⟩ := h
  obtain ⟨as, r1⟩ := Dp.reads I d x v hd rx
  obtain ⟨bs, r2⟩ := Dp.reads I (.tuple ds) y u he ry
  exact SeqAt.in_tuple_reads r2 r1 (canT se) (SeqAt.canLay_of_shaped sd) (room_inT sd hu) ⟨.bl _, H, I, rfl, q⟩
theorem op_notInDT {X : Cx} (hu : X.A.units + 65 < cLine) : OpR X (compareOp .NotIn) (rInDT X.K true) := by
  intro pins s σ H x y v u Q I rx ry h
  obtain ⟨d, ds, hd, he, sd, se, q⟩ := h
  obtain ⟨as, r1⟩ := Dp.reads I d x v hd rx
  obtain ⟨bs, r2⟩ := Dp.reads I (.tuple ds) y u he ry
  exact SeqAt.notIn_tuple_reads r2 r1 (canT se) (SeqAt.canLay_of_shaped sd) (room_inT sd hu) ⟨.bl _, H, I, rfl, q⟩
def rInDct (neg : Bool) : R2 := fun x y H Q => ∃ a ov, y = .ref a ∧ DGet H a x ov ∧ Q (.bl (if neg then !ov.isSome else ov.isSome)) H
theorem op_inDct {X : Cx} (hu : X.A.units + 65 < cLine) : OpR X (compareOp .In) (rInDct false) := by
  intro pins s σ H x y v u Q I rx ry h
  obtain ⟨a, ov, rfl, g, q⟩ := h
  obtain rfl : u = Value.ref a := ry
  exact d_in (by omega) I g rx fun s3 I3 => ⟨.bl ov.isSome, H, I3, rfl, q⟩
theorem op_notInDct {X : Cx} (hu : X.A.units + 65 < cLine) : OpR X (compareOp .NotIn) (rInDct true) := by
  intro pins s σ H x y v u Q I rx ry h
  obtain ⟨a, ov, rfl, g, q⟩ := h
  obtain rfl : u = Value.ref a := ry
  exact d_notIn (by omega) I g rx fun s3 I3 => ⟨.bl (!ov.isSome), H, I3, rfl, q⟩
def keyOf : T → Option Key
  | .int i => some (.inl i)
  | .str x => some (.inr ⟨x.toArray⟩)
  | _ => none
def keysOf : T → Option (List Key)
  | .tup ts => allSome (ts.map keyOf)
  | _ => none
theorem keyOf_v {K : PySem.W.Frag} {G : Hp} {ψ : List Addr} {v : V} {t : T} {k : Key} (r : Rp K G ψ v t) (e : keyOf t = some k) : v = kV k := by
  cases r with
  | int i => cases e; rfl
  | str h => cases e; rfl
  | _ => cases e
theorem keyOf_rd {K : PySem.W.Frag} {G : Hp} {ψ : List Addr} {H : Hp} {v : V} {t : T} {k : Key} (r : RdT K G ψ H v t) (e : keyOf t = some k) : v = kV k := by
  rcases r with r | ⟨a, o, rfl, h, ct⟩
  · exact keyOf_v r e
  · cases ct <;> cases e
theorem keysA {K : PySem.W.Frag} {G : Hp} {ψ : List Addr} : ∀ {vs : List V} {ts : List T} {ks : List Key}, RpA K G ψ vs ts → allSome (ts.map keyOf) = some ks → vs = ks.map kV
  | _, _, ks, .nil, e => by
    have : ks = [] := by simpa [allSome] using e.symm
    subst this; rfl
  | _, _, ks, .cons (t := t) (ts := ts) r rs, e => by
    rw [List.map_cons] at e
    cases e1 : keyOf t with
    | none => rw [e1] at e; simp [allSome] at e
    | some d =>
      rw [e1] at e
      cases e2 : allSome (ts.map keyOf) with
      | none => simp [allSome, e2] at e
      | some ds' =>
        have : ks = d :: ds' := by simpa [allSome, e2] using e.symm
        subst this
        rw [keyOf_v r e1, keysA rs e2]
        rfl
theorem keysOf_rd {K : PySem.W.Frag} {G : Hp} {ψ : List Addr} {H : Hp} {v : V} {t : T} {k : List Key} (hs : Same G H) (r : RdT K G ψ H v t) (e : keysOf t = some k) : ∃ b, v = .ref b ∧ H b = some (.tup (k.map kV)) := by
  cases t with
  | tup ts =>
    obtain ⟨a, xs, rfl, h, r⟩ := r.tup
    exact ⟨a, rfl, by rw [← keysA r e]; exact hs _ _ h⟩
  | _ => cases e
def lookT {κ : Type} [DecidableEq κ] : List κ → List T → κ → Option T
  | k :: ks, t :: ts, j => if k = j then some t else lookT ks ts j
  | _, _, _ => none
theorem lookT_v {κ : Type} [DecidableEq κ] {K : PySem.W.Frag} {G : Hp} {ψ : List Addr} {k : κ} : ∀ {kvs : List (κ × V)} {ts : List T}, RpA K G ψ (kvs.map (·.2)) ts →
    (lookT (kvs.map (·.1)) ts k = none ∧ valV kvs k = none) ∨ ∃ t v, lookT (kvs.map (·.1)) ts k = some t ∧ valV kvs k = some v ∧ Rp K G ψ v t
  | [], _, .nil => .inl ⟨rfl, rfl⟩
  | (k', v') :: r, _, .cons (t := t') (ts := ts') h hs => by
    by_cases e : k' = k
    · subst e
      exact .inr ⟨t', v', by simp [lookT], by rw [valV_pos rfl], h⟩
    · rcases lookT_v (k := k) hs with ⟨q1, q2⟩ | ⟨t, v, q1, q2, q3⟩
      · refine .inl ⟨by simpa [lookT, e] using q1, ?_⟩
        simpa [valV, List.find?_cons, e] using q2
      · refine .inr ⟨t, v, by simpa [lookT, e] using q1, ?_, q3⟩
        simpa [valV, List.find?_cons, e] using q2
/-- what a dict has at a key -/
def dgetT (c y : T) : Option (Option T) := match c with
  | .dk ks ts => (keyOf y).map (lookT ks ts)
  | .dt ks ts => (keysOf y).map (lookT ks ts)
  | _ => none
theorem dget_ok {K : PySem.W.Frag} {G : Hp} {ψ : List Addr} {H : Hp} {x y : V} {tx ty : T} {o : Option T} (hs : Same G H) (hx : RdT K G ψ H x tx) (hy : RdT K G ψ H y ty) (e : dgetT tx ty = some o) :
    ∃ a ov, x = .ref a ∧ DGet H a y ov ∧ ((o = none ∧ ov = none) ∨ ∃ t v, o = some t ∧ ov = some v ∧ Rp K G ψ v t) := by
  cases tx with
  | dk ks ts =>
    obtain ⟨a, kvs, rfl, h, rfl, r⟩ := hx.dk hs
    obtain ⟨k, e1, rfl⟩ := Option.map_eq_some_iff.mp e
    refine ⟨a, valV kvs k, rfl, ?_, ?_⟩
    · rw [keyOf_rd hy e1]; exact DGet.k h
    · rcases lookT_v (k := k) r with ⟨q1, q2⟩ | ⟨t, v, q1, q2, q3⟩
      · exact .inl ⟨q1, q2⟩
      · exact .inr ⟨t, v, q1, q2, q3⟩
  | dt ks ts =>
    obtain ⟨a, kvs, rfl, h, rfl, r⟩ := hx.dt hs
    obtain ⟨k, e1, rfl⟩ := Option.map_eq_some_iff.mp e
    obtain ⟨b, rfl, hb⟩ := keysOf_rd hs hy e1
    refine ⟨a, valV kvs k, rfl, DGet.t h hb, ?_⟩
    rcases lookT_v (k := k) r with ⟨q1, q2⟩ | ⟨t, v, q1, q2, q3⟩
    · exact .inl ⟨q1, q2⟩
    · exact .inr ⟨t, v, q1, q2, q3⟩
  | _ => cases e
def inT (ce : List T) (x y : T) : Option Bool := match y with
  | .str z => (match x with
    | .str [c] => some (decide (c ∈ z))
    | _ => none)
  | .lst ts => (match dat ce 40 x, allSome (ts.map (dat ce 40)) with
    | some d, some ds => some (ds.any fun z => PyData.eqv z d)
    | _, _ => none)
  | .tup ts => (match dat ce 40 x, allSome (ts.map (dat ce 40)) with
    | some d, some ds => some (ds.any fun z => PyData.eqv z d)
    | _, _ => none)
  | .ktup ts => (match dat ce 40 x, allSome (ts.map (dat ce 40)) with
    | some d, some ds => some (ds.any fun z => PyData.eqv z d)
    | _, _ => none)
  | c => (dgetT c x).map (·.isSome)
def gIn (ce : List T) (x y : T) : Option DV := (inT ce x y).map fun b => .val (.bl b)
def gNotIn (ce : List T) (x y : T) : Option DV := (inT ce x y).map fun b => .val (.bl (!b))
abbrev rSign (neg : Bool) : R2 := fun x y H Q => ∃ (c : Nat) (z : Str), x = .str ⟨#[c]⟩ ∧ y = .str z ∧ Q (.bl (if neg then !decide (c ∈ z.cps.toList) else decide (c ∈ z.cps.toList))) H
abbrev rInT (K : PySem.W.Frag) : R2 := fun x y H Q => rSign false x y H Q ∨ rInD K x y H Q ∨ rInDT K false x y H Q ∨ rInDct false x y H Q
abbrev rNotInT (K : PySem.W.Frag) : R2 := fun x y H Q => rSign true x y H Q ∨ rNotInD K x y H Q ∨ rInDT K true x y H Q ∨ rInDct true x y H Q
theorem op_inT {X : Cx} (hu : X.A.units + 65 < cLine) : OpR X (compareOp .In) (rInT X.K) := OpR.or op_in_sign (OpR.or (op_inD hu) (OpR.or (op_inDT hu) (op_inDct hu)))
theorem op_notInT {X : Cx} (hu : X.A.units + 65 < cLine) : OpR X (compareOp .NotIn) (rNotInT X.K) := OpR.or op_notIn_sign (OpR.or (op_notInD hu) (OpR.or (op_notInDT hu) (op_notInDct hu)))
theorem in_seq {K : PySem.W.Frag} {G : Hp} {ψ : List Addr} {H : Hp} {ce : List T} {x : V} {tx : T} {xs : List V} {ts : List T} {b : Bool} (hs : Same G H) (hc : Cel K G ψ ce H) (hx : RdT K G ψ H x tx) (r : RpA K G ψ xs ts)
    (e : (match dat ce 40 tx, allSome (ts.map (dat ce 40)) with
    | some d, some ds => some (ds.any fun z => PyData.eqv z d)
    | _, _ => none) = some b) : ∃ d ds, Dp K H x d ∧ DpAll K H xs ds ∧ SeqAt.shaped d = true ∧ SeqAt.shaped (.list ds) = true ∧ SeqAt.shaped (.tuple ds) = true ∧ b = ds.any fun z => PyData.eqv z d := by
  cases h1 : dat ce 40 tx with
  | none => rw [h1] at e; cases e
  | some d => cases h2 : allSome (ts.map (dat ce 40)) with
    | none => rw [h1, h2] at e; cases e
    | some ds =>
      rw [h1, h2] at e
      cases e
      obtain ⟨a1, a2, a3⟩ := dat_rd hs hc hx h1
      obtain ⟨b1, b2, b3⟩ := datA (dat_ok hs hc 40) r h2
      exact ⟨d, ds, a1, b1, shaped_of a2 a3 (by decide), shaped_of (n := 41) (by simpa [PyData.canLay0] using b2) (by simp only [PyData.depth]; omega) (by decide), shaped_of (n := 41) (by simpa [PyData.canLay0] using b2) (by simp only [PyData.depth]; omega) (by decide), rfl⟩
theorem in_dct {K : PySem.W.Frag} {G : Hp} {ψ : List Addr} {H : Hp} {x y : V} {tx ty : T} {b : Bool} (hs : Same G H) (hx : RdT K G ψ H x tx) (hy : RdT K G ψ H y ty) (e : (dgetT ty tx).map (·.isSome) = some b) : ∃ a ov, y = .ref a ∧ DGet H a x ov ∧ b = ov.isSome := by
  obtain ⟨o, e1, rfl⟩ := Option.map_eq_some_iff.mp e
  obtain ⟨a, ov, rfl, g, z⟩ := dget_ok hs hy hx e1
  refine ⟨a, ov, rfl, g, ?_⟩
  rcases z with ⟨rfl, rfl⟩ | ⟨t, v, rfl, rfl, _⟩ <;> rfl
theorem pr_in {K : PySem.W.Frag} : PR2c K (rInT K) gIn := by
  intro G ψ H ce x y tx ty d Q hs hc hx hy e q
  obtain ⟨b, e1, rfl⟩ := Option.map_eq_some_iff.mp e
  cases ty with
  | str z =>
    obtain ⟨rfl, h1⟩ := hy.str
    cases tx with
    | str c =>
      match c, hx, e1 with
      | [c], hx, e1 =>
        obtain ⟨rfl, h2⟩ := hx.str
        simp only [inT] at e1
        cases e1
        exact .inl ⟨c, _, rfl, rfl, q.val hs (.bl _)⟩
      | [], hx, e1 => cases e1
      | _ :: _ :: _, hx, e1 => cases e1
    | _ => cases e1
  | lst ts =>
    obtain ⟨a, xs, rfl, h, r⟩ := hy.lst hs
    obtain ⟨d, ds, p1, p2, p3, p4, p5, rfl⟩ := in_seq hs hc hx r e1
    exact .inr (.inl ⟨d, ds, p1, .lst (SqL.of h) p2, p3, p4, q.val hs (.bl _)⟩)
  | tup ts =>
    obtain ⟨a, xs, rfl, h, r⟩ := hy.tup
    obtain ⟨d, ds, p1, p2, p3, p4, p5, rfl⟩ := in_seq hs hc hx r e1
    exact .inr (.inr (.inl ⟨d, ds, p1, .tup (SqT.of (hs _ _ h)) p2, p3, p5, q.val hs (.bl _)⟩))
  | ktup ts =>
    obtain ⟨a, xs, rfl, h, r⟩ := hy.ktup
    obtain ⟨d, ds, p1, p2, p3, p4, p5, rfl⟩ := in_seq hs hc hx r e1
    exact .inr (.inr (.inl ⟨d, ds, p1, .tup (h H) p2, p3, p5, q.val hs (.bl _)⟩))
  | dk ks ts =>
    obtain ⟨a, ov, rfl, g, rfl⟩ := in_dct hs hx hy e1
    exact .inr (.inr (.inr ⟨a, ov, rfl, g, q.val hs (.bl _)⟩))
  | dt ks ts =>
    obtain ⟨a, ov, rfl, g, rfl⟩ := in_dct hs hx hy e1
    exact .inr (.inr (.inr ⟨a, ov, rfl, g, q.val hs (.bl _)⟩))
  | _ => cases e1
theorem pr_notIn {K : PySem.W.Frag} : PR2c K (rNotInT K) gNotIn := by
  intro G ψ H ce x y tx ty d Q hs hc hx hy e q
  obtain ⟨b, e1, rfl⟩ := Option.map_eq_some_iff.mp e
  cases ty with
  | str z =>
    obtain ⟨rfl, h1⟩ := hy.str
    cases tx with
    | str c =>
      match c, hx, e1 with
      | [c], hx, e1 =>
        obtain ⟨rfl, h2⟩ := hx.str
        simp only [inT] at e1
        cases e1
        exact .inl ⟨c, _, rfl, rfl, q.val hs (.bl _)⟩
      | [], hx, e1 => cases e1
      | _ :: _ :: _, hx, e1 => cases e1
    | _ => cases e1
  | lst ts =>
    obtain ⟨a, xs, rfl, h, r⟩ := hy.lst hs
    obtain ⟨d, ds, p1, p2, p3, p4, p5, rfl⟩ := in_seq hs hc hx r e1
    exact .inr (.inl ⟨d, ds, p1, .lst (SqL.of h) p2, p3, p4, q.val hs (.bl _)⟩)
  | tup ts =>
    obtain ⟨a, xs, rfl, h, r⟩ := hy.tup
    obtain ⟨d, ds, p1, p2, p3, p4, p5, rfl⟩ := in_seq hs hc hx r e1
    exact .inr (.inr (.inl ⟨d, ds, p1, .tup (SqT.of (hs _ _ h)) p2, p3, p5, q.val hs (.bl _)⟩))
  | ktup ts =>
    obtain ⟨a, xs, rfl, h, r⟩ := hy.ktup
    obtain ⟨d, ds, p1, p2, p3, p4, p5, rfl⟩ := in_seq hs hc hx r e1
    exact .inr (.inr (.inl ⟨d, ds, p1, .tup (h H) p2, p3, p5, q.val hs (.bl _)⟩))
  | dk ks ts =>
    obtain ⟨a, ov, rfl, g, rfl⟩ := in_dct hs hx hy e1
    exact .inr (.inr (.inr ⟨a, ov, rfl, g, q.val hs (.bl _)⟩))
  | dt ks ts =>
    obtain ⟨a, ov, rfl, g, rfl⟩ := in_dct hs hx hy e1
    exact .inr (.inr (.inr ⟨a, ov, rfl, g, q.val hs (.bl _)⟩))
  | _ => cases e1
end Vi

set_option Elab.async false
set_option linter.all false
set_option maxRecDepth 100000
namespace Vi
open PySem PySem.Spec PyProof.Rows L2

/-! ### names and constants -/
def mSl (i : Nat) : M := fun s => match s.sl[i]? with
  | some (.val t) => .ok (.val t) s
  | some (.bor t) => .ok (.bor t) s
  | some (.own _) => .ok (.ali i) s
  | _ => .bad
def mC (t : T) : M := fun s => .ok (.val t) s
section
variable {X : Cx} {W : WX} {cv : CV} {pos : Pos}
theorem ev_var {i : Nat} {x : Str} (hN : X.N[i]? = some x := by rfl) (hv : Vis X.env.scope x := by first | exact Or.inl rfl | exact Or.inr (Or.inl rfl) | exact Or.inr (Or.inr rfl)) (hd : (x == ("__debug__" : Str)) = false := by decide)
    (hcd : (x == ("__classdict__" : Str)) = false := by decide) : Ev X W cv (.Name x pos) (mSl i) := by
  refine ⟨pe_w (pe_var hN hv hd hcd) fun σ H Q ⟨G, ψ, ω, s, R, f⟩ => ?_⟩
  simp only [mSl] at f
  cases q : s.sl[i]? with
  | none => rw [q] at f; exact f.elim
  | some x =>
    rw [q] at f
    have so := R.slots i x q
    cases x with
    | no => exact f.elim
    | val t => obtain ⟨v, e, r⟩ := so; exact ⟨v, e, f G ψ ω H Mo.refl R v r⟩
    | bor t => obtain ⟨a, o, e, w, c⟩ := so; exact ⟨_, e, f G ψ ω H Mo.refl R _ ⟨a, o, rfl, w, c⟩⟩
    | own t => obtain ⟨a, o, e, w, h, c⟩ := so; exact ⟨_, e, f G ψ ω H Mo.refl R _ e⟩
theorem ev_const {e : Expr} {v : V} {t : T} (h : PE X e (tC v)) (r : ∀ G ψ, Rp X.K G ψ v t) : Ev X W cv e (mC t) :=
  ⟨pe_w h fun σ H Q ⟨G, ψ, ω, s, R, f⟩ => f G ψ ω H Mo.refl R v (r G ψ)⟩
theorem ev_int {i j} : Ev X W cv (.Constant (.int i) j pos) (mC (.int i)) := ev_const pe_int fun _ _ => .int _
theorem ev_bl {b j} : Ev X W cv (.Constant (.bool b) j pos) (mC (.bl b)) := ev_const pe_bl fun _ _ => .bl _
theorem ev_non {j} : Ev X W cv (.Constant .none j pos) (mC .non) := ev_const pe_non fun _ _ => .non
theorem ev_str {x j} (l : List Nat) (h : x = ⟨l.toArray⟩ := by decide +kernel) (ok : l.all (· < 0x110000) = true := by decide +kernel) : Ev X W cv (.Constant (.str x) j pos) (mC (.str l)) := by
  subst h
  exact ev_const pe_str fun _ _ => .str ok
/-- a module's constant -/
theorem ev_glob {x : Str} {v : V} {t : T} (hm : ∃ u, X.mg x = some u ∧ RelV v u) (r : ∀ G ψ, Rp X.K G ψ v t) (hg : Gl X x := by rfl) (hd : (x == ("__debug__" : Str)) = false := by decide) : Ev X W cv (.Name x pos) (mC t) := by
  obtain ⟨u, h1, h2⟩ := hm
  exact ev_const (pe_glob hg h1 h2 hd) r
/-- one operand, then the operation -/
theorem tOp1_on {K : PySem.W.Frag} {ma : M} {g : T → Option DV} {r : V → Hp → VK → Prop} (p : ∀ G ψ H x tx d Q, Same G H → RdT K G ψ H x tx → g tx = some d → RQ K G ψ H d Q → r x H Q) {σ : L2.St} {H : Hp} {Q : VK} (h : tI K W cv (mOp1 g ma) σ H Q) : tI K W cv ma σ H fun x H1 => r x H1 Q := by
  obtain ⟨G, ψ, ω, s, R, f⟩ := h
  refine tI_on R f fun d s1 G1 ψ1 ω1 H1 x mo R1 rv f1 => ?_
  obtain ⟨G2, mo2, R2, rv2⟩ := R1.dz rv
  cases e1 : rd s1 (dz d) with
  | none => rw [e1] at f1; exact f1.elim
  | some tx =>
    rw [e1] at f1
    obtain ⟨dd, ed, rq⟩ := Fin.rq R2 (Fin.on f1 mo2)
    exact p G2 ψ1 H1 x tx dd Q R2.le (R2.rd rv2 e1) ed rq
theorem ev_op1 {a : Expr} {ma : M} {g : T → Option DV} {r : V → Hp → VK → Prop} {op : UnaryOp} (ho : UnR X (unaryOp op) r) (p : ∀ G ψ H x tx d Q, Same G H → RdT X.K G ψ H x tx → g tx = some d → RQ X.K G ψ H d Q → r x H Q) (ha : Ev X W cv a ma) : Ev X W cv (.UnaryOp op a pos) (mOp1 g ma) :=
  ⟨pe_w (pe_un ho ha.pe) fun σ H Q h => tOp1_on p h⟩
end
def gNeg : T → Option DV
  | .int i => some (.val (.int (-i)))
  | _ => none
theorem ev_neg {X : Cx} {W : WX} {cv : CV} {pos : Pos} {a : Expr} {ma : M} (ha : Ev X W cv a ma) : Ev X W cv (.UnaryOp .USub a pos) (mOp1 gNeg ma) := by
  refine ev_op1 un_neg (fun G ψ H x tx d Q hs hx e q => ?_) ha
  cases tx with
  | int i => cases hx.int; cases e; exact ⟨i, rfl, q.val hs (.int _)⟩
  | _ => cases e

/-! ### order -/
def gLt : T → T → Option DV
  | .int i, .int j => some (.val (.bl (decide (i < j))))
  | .str x, .str y => some (.val (.bl (decide (x < y))))
  | _, _ => none
def gLe : T → T → Option DV
  | .int i, .int j => some (.val (.bl (decide (i ≤ j))))
  | .str x, .str y => some (.val (.bl (!decide (y < x))))
  | _, _ => none
def gGt : T → T → Option DV
  | .int i, .int j => some (.val (.bl (decide (j < i))))
  | .str x, .str y => some (.val (.bl (decide (y < x))))
  | _, _ => none
def gGe : T → T → Option DV
  | .int i, .int j => some (.val (.bl (decide (j ≤ i))))
  | .str x, .str y => some (.val (.bl (!decide (x < y))))
  | _, _ => none
abbrev rLtT : R2 := fun x y H Q => rI0 (fun i j => .bl (decide (i < j))) x y H Q ∨ (∃ i j : Str, x = .str i ∧ y = .str j ∧ Q (.bl (decide (i.cps.toList < j.cps.toList))) H)
abbrev rLeT : R2 := fun x y H Q => rI0 (fun i j => .bl (decide (i ≤ j))) x y H Q ∨ (∃ i j : Str, x = .str i ∧ y = .str j ∧ Q (.bl (!decide (j.cps.toList < i.cps.toList))) H)
abbrev rGtT : R2 := fun x y H Q => rI0 (fun i j => .bl (decide (j < i))) x y H Q ∨ (∃ i j : Str, x = .str i ∧ y = .str j ∧ Q (.bl (decide (j.cps.toList < i.cps.toList))) H)
abbrev rGeT : R2 := fun x y H Q => rI0 (fun i j => .bl (decide (j ≤ i))) x y H Q ∨ (∃ i j : Str, x = .str i ∧ y = .str j ∧ Q (.bl (!decide (i.cps.toList < j.cps.toList))) H)
theorem op_ltT {X : Cx} : OpR X (compareOp .Lt) rLtT := OpR.or op_lt op_lt_str
theorem op_leT {X : Cx} : OpR X (compareOp .LtE) rLeT := OpR.or op_le op_le_str
theorem op_gtT {X : Cx} : OpR X (compareOp .Gt) rGtT := OpR.or op_gt op_gt_str
theorem op_geT {X : Cx} : OpR X (compareOp .GtE) rGeT := OpR.or op_ge op_ge_str
theorem pr_lt {K : PySem.W.Frag} : PR2 K rLtT gLt := by
  intro G ψ H x y tx ty d Q hs hx hy e q
  cases tx with
  | int i => cases ty with
    | int j => cases hx.int; cases hy.int; cases e; exact .inl ⟨i, j, rfl, rfl, q.val hs (.bl _)⟩
    | _ => cases e
  | str i => cases ty with
    | str j => obtain ⟨rfl, _⟩ := hx.str; obtain ⟨rfl, _⟩ := hy.str; cases e; exact .inr ⟨_, _, rfl, rfl, q.val hs (.bl _)⟩
    | _ => cases e
  | _ => cases e
theorem pr_le {K : PySem.W.Frag} : PR2 K rLeT gLe := by
  intro G ψ H x y tx ty d Q hs hx hy e q
  cases tx with
  | int i => cases ty with
    | int j => cases hx.int; cases hy.int; cases e; exact .inl ⟨i, j, rfl, rfl, q.val hs (.bl _)⟩
    | _ => cases e
  | str i => cases ty with
    | str j => obtain ⟨rfl, _⟩ := hx.str; obtain ⟨rfl, _⟩ := hy.str; cases e; exact .inr ⟨_, _, rfl, rfl, q.val hs (.bl _)⟩
    | _ => cases e
  | _ => cases e
theorem pr_gt {K : PySem.W.Frag} : PR2 K rGtT gGt := by
  intro G ψ H x y tx ty d Q hs hx hy e q
  cases tx with
  | int i => cases ty with
    | int j => cases hx.int; cases hy.int; cases e; exact .inl ⟨i, j, rfl, rfl, q.val hs (.bl _)⟩
    | _ => cases e
  | str i => cases ty with
    | str j => obtain ⟨rfl, _⟩ := hx.str; obtain ⟨rfl, _⟩ := hy.str; cases e; exact .inr ⟨_, _, rfl, rfl, q.val hs (.bl _)⟩
    | _ => cases e
  | _ => cases e
theorem pr_ge {K : PySem.W.Frag} : PR2 K rGeT gGe := by
  intro G ψ H x y tx ty d Q hs hx hy e q
  cases tx with
  | int i => cases ty with
    | int j => cases hx.int; cases hy.int; cases e; exact .inl ⟨i, j, rfl, rfl, q.val hs (.bl _)⟩
    | _ => cases e
  | str i => cases ty with
    | str j => obtain ⟨rfl, _⟩ := hx.str; obtain ⟨rfl, _⟩ := hy.str; cases e; exact .inr ⟨_, _, rfl, rfl, q.val hs (.bl _)⟩
    | _ => cases e
  | _ => cases e
/-- is None -/
def gIsN : T → Option DV
  | .non => some (.val (.bl true))
  | _ => some (.val (.bl false))
def gNotN : T → Option DV
  | .non => some (.val (.bl false))
  | _ => some (.val (.bl true))
theorem RdT.isN {K : PySem.W.Frag} {G : Hp} {ψ : List Addr} {H : Hp} {v : V} {t : T} (h : RdT K G ψ H v t) : (v = .non ∧ t = .non) ∨ (v ≠ .non ∧ t ≠ .non) := by
  rcases h with h | ⟨a, o, rfl, _, c⟩
  · cases h with
    | non => exact .inl ⟨rfl, rfl⟩
    | _ => exact .inr ⟨by simp, by simp⟩
  · exact .inr ⟨by simp, fun e => by subst e; cases c⟩
theorem ev_isN {X : Cx} {W : WX} {cv : CV} {pos : Pos} {a : Expr} {ma : M} {j pos'} (ha : Ev X W cv a ma) : Ev X W cv (.Compare a [.Is] [.Constant .none j pos'] pos) (mOp1 gIsN ma) := by
  refine ⟨pe_w (pe_cmp (pc_isN ha.pe)) fun σ H Q h => tOp1_on (r := fun x H1 Q => Q (.bl (decide (x = .non))) H1) (fun G ψ H x tx d Q hs hx e q => ?_) h⟩
  rcases hx.isN with ⟨rfl, rfl⟩ | ⟨h1, h2⟩
  · cases e; exact q.val hs (.bl _)
  · have e2 : d = .val (.bl false) := by cases tx <;> first | exact absurd rfl h2 | (cases e; rfl)
    subst e2
    show Q (.bl (decide (x = .non))) H
    rw [decide_eq_false h1]
    exact q.val hs (.bl _)
theorem ev_notN {X : Cx} {W : WX} {cv : CV} {pos : Pos} {a : Expr} {ma : M} {j pos'} (ha : Ev X W cv a ma) : Ev X W cv (.Compare a [.IsNot] [.Constant .none j pos'] pos) (mOp1 gNotN ma) := by
  refine ⟨pe_w (pe_cmp (pc_notN ha.pe)) fun σ H Q h => tOp1_on (r := fun x H1 Q => Q (.bl (!decide (x = .non))) H1) (fun G ψ H x tx d Q hs hx e q => ?_) h⟩
  rcases hx.isN with ⟨rfl, rfl⟩ | ⟨h1, h2⟩
  · cases e; exact q.val hs (.bl _)
  · have e2 : d = .val (.bl true) := by cases tx <;> first | exact absurd rfl h2 | (cases e; rfl)
    subst e2
    show Q (.bl (!decide (x = .non))) H
    rw [decide_eq_false h1]
    exact q.val hs (.bl _)

/-! ### tests -/
def tT (K : PySem.W.Frag) (W : WX) (cv : CV) (m : S → Res Bool) : TT := fun σ H Q => ∃ G ψ ω s, Rel K G ψ ω s σ H ∧ Fin K W cv σ G ψ ω (m s) fun b _ _ _ _ H' => Q b H'
structure EvT (X : Cx) (W : WX) (cv : CV) (e : Expr) (m : S → Res Bool) : Prop where
  pt : PT X e (tT X.K W cv m)
structure EvW (X : Cx) (W : WX) (cv : CV) (e : Expr) (m : S → Res Bool) : Prop where
  pw : PW X e (tT X.K W cv m)
theorem pt_w {X : Cx} {e : Expr} {t t' : TT} (h : PT X e t) (w : ∀ σ H Q, t' σ H Q → t σ H Q) : PT X e t' := ⟨fun pins s σ H Q I q => h.run pins s σ H Q I (w σ H Q q)⟩
theorem pw_w {X : Cx} {e : Expr} {t t' : TT} (h : PW X e t) (w : ∀ σ H Q, t' σ H Q → t σ H Q) : PW X e t' := ⟨fun wh pins s σ H Q I q => h.run wh pins s σ H Q I (w σ H Q q)⟩
def mT (m : M) : S → Res Bool := fun s => (m s).bind fun d s1 => match d with
  | .val (.bl b) => .ok b s1
  | _ => .bad
def bAnd (a b : S → Res Bool) : S → Res Bool := fun s => (a s).bind fun c s1 => if c then b s1 else .ok false s1
def bOr (a b : S → Res Bool) : S → Res Bool := fun s => (a s).bind fun c s1 => if c then .ok true s1 else b s1
def bNot (a : S → Res Bool) : S → Res Bool := fun s => (a s).bind fun c s1 => .ok (!c) s1
def mAnd (a b : M) : M := fun s => (a s).bind fun d s1 => match d with
  | .val (.bl c) => if c then b s1 else .ok (.val (.bl false)) s1
  | _ => .bad
def mOr (a b : M) : M := fun s => (a s).bind fun d s1 => match d with
  | .val (.bl c) => if c then .ok (.val (.bl true)) s1 else b s1
  | _ => .bad
def mNot (a : M) : M := fun s => (a s).bind fun d s1 => match d with
  | .val (.bl c) => .ok (.val (.bl (!c))) s1
  | _ => .bad
def mIf (c : S → Res Bool) (a b : M) : M := fun s => (c s).bind fun k s1 => if k then a s1 else b s1
section
variable {K : PySem.W.Frag} {W : WX} {cv : CV} {σ : L2.St} {H : Hp}
theorem tT_on {m : S → Res Bool} {β : Type} {k : Bool → S → Res β} {G : Hp} {ψ : List Addr} {ω : Addr → Option Ow} {s : S} {Z : β → Hp → List Addr → (Addr → Option Ow) → S → Hp → Prop} {P : Bool → Hp → Prop} (R : Rel K G ψ ω s σ H) (f : Fin K W cv σ G ψ ω ((m s).bind k) Z)
    (h : ∀ d s1 G1 ψ1 ω1 H1, Mo G ψ ω G1 ψ1 ω1 → Rel K G1 ψ1 ω1 s1 σ H1 → Fin K W cv σ G1 ψ1 ω1 (k d s1) Z → P d H1) : tT K W cv m σ H P :=
  ⟨G, ψ, ω, s, R, f.bind.imp fun d G' ψ' ω' s' H' mo R' q => h d s' G' ψ' ω' H' mo R' q⟩
theorem tT_I {m : M} {Q : Bool → Hp → Prop} (h : tT K W cv (mT m) σ H Q) : tI K W cv m σ H fun x H' => ∃ k, x = .bl k ∧ Q k H' := by
  obtain ⟨G, ψ, ω, s, R, f⟩ := h
  refine tI_on R f fun d s1 G1 ψ1 ω1 H1 v mo R1 rv f1 => ?_
  cases d with
  | val t => cases t with
    | bl b => cases rv; exact ⟨b, rfl, f1 G1 ψ1 ω1 H1 Mo.refl R1⟩
    | _ => exact f1.elim
  | _ => exact f1.elim
end
section
variable {X : Cx} {W : WX} {cv : CV} {pos : Pos} {a b : Expr} {rest : List Expr} {ma mb : M} {ta tb : S → Res Bool} {g : List T → T → T → Option DV} {r : R2}
theorem evt_val {e : Expr} {m : M} (h : Ev X W cv e m) (he : ∀ whole, isTrue e X.env whole = (do let v ← whole; standAt e.pos; holding [v] (truthy v)) := by intro _; rfl) : EvT X W cv e (mT m) :=
  ⟨pt_w (pt_val h.pe he) fun σ H Q h => tT_I h⟩
theorem evt_cmp {op : CmpOp} (ho : OpR X (compareOp op) r) (p : PR2c X.K r g) (ha : Ev X W cv a ma) (hb : Ev X W cv b mb) (hm : behindInMarks op b = false := by first | exact nomark _ | rfl) : EvT X W cv (.Compare a [op] [b] pos) (mT (mOp2c g ma mb)) :=
  ⟨pt_w (pt_cmpR ho ha.pe hb.pe hm) fun σ H Q h => tOp_on p rfl rfl σ H _ (tT_I h)⟩
theorem evt_isN {j pos'} (ha : Ev X W cv a ma) : EvT X W cv (.Compare a [.Is] [.Constant .none j pos'] pos) (mT (mOp1 gIsN ma)) := by
  refine ⟨pt_w (pt_cmp (pc_isN ha.pe)) fun σ H Q h => tOp1_on (r := fun x H1 Q => Q (.bl (decide (x = .non))) H1) (fun G ψ H x tx d Q hs hx e q => ?_) (tT_I h)⟩
  rcases hx.isN with ⟨rfl, rfl⟩ | ⟨h1, h2⟩
  · cases e; exact q.val hs (.bl _)
  · have e2 : d = .val (.bl false) := by cases tx <;> first | exact absurd rfl h2 | (cases e; rfl)
    subst e2
    show Q (.bl (decide (x = .non))) H
    rw [decide_eq_false h1]
    exact q.val hs (.bl _)
theorem evt_notN {j pos'} (ha : Ev X W cv a ma) : EvT X W cv (.Compare a [.IsNot] [.Constant .none j pos'] pos) (mT (mOp1 gNotN ma)) := by
  refine ⟨pt_w (pt_cmp (pc_notN ha.pe)) fun σ H Q h => tOp1_on (r := fun x H1 Q => Q (.bl (!decide (x = .non))) H1) (fun G ψ H x tx d Q hs hx e q => ?_) (tT_I h)⟩
  rcases hx.isN with ⟨rfl, rfl⟩ | ⟨h1, h2⟩
  · cases e; exact q.val hs (.bl _)
  · have e2 : d = .val (.bl true) := by cases tx <;> first | exact absurd rfl h2 | (cases e; rfl)
    subst e2
    show Q (.bl (!decide (x = .non))) H
    rw [decide_eq_false h1]
    exact q.val hs (.bl _)
theorem evt_not (ha : EvT X W cv a ta) : EvT X W cv (.UnaryOp .Not a pos) (bNot ta) := by
  refine ⟨pt_w (pt_not ha.pt) fun σ H Q ⟨G, ψ, ω, s, R, f⟩ => ?_⟩
  exact tT_on R f fun c s1 G1 ψ1 ω1 H1 mo R1 f1 => f1 G1 ψ1 ω1 H1 Mo.refl R1
theorem evw_and1 (ha : EvT X W cv a ta) : EvW X W cv (.BoolOp .And [a] pos) ta := ⟨pw_and1 ha.pt⟩
theorem evw_or1 (ha : EvT X W cv a ta) : EvW X W cv (.BoolOp .Or [a] pos) ta := ⟨pw_or1 ha.pt⟩
theorem evw_and (ha : EvT X W cv a ta) (hb : EvW X W cv (.BoolOp .And (b :: rest) pos) tb) : EvW X W cv (.BoolOp .And (a :: b :: rest) pos) (bAnd ta tb) := by
  refine ⟨pw_w (pw_and ha.pt hb.pw) fun σ H Q ⟨G, ψ, ω, s, R, f⟩ => ?_⟩
  refine tT_on R f fun c s1 G1 ψ1 ω1 H1 mo R1 f1 => ?_
  cases c with
  | true => exact ⟨G1, ψ1, ω1, s1, R1, f1⟩
  | false => exact f1 G1 ψ1 ω1 H1 Mo.refl R1
theorem evw_or (ha : EvT X W cv a ta) (hb : EvW X W cv (.BoolOp .Or (b :: rest) pos) tb) : EvW X W cv (.BoolOp .Or (a :: b :: rest) pos) (bOr ta tb) := by
  refine ⟨pw_w (pw_or ha.pt hb.pw) fun σ H Q ⟨G, ψ, ω, s, R, f⟩ => ?_⟩
  refine tT_on R f fun c s1 G1 ψ1 ω1 H1 mo R1 f1 => ?_
  cases c with
  | false => exact ⟨G1, ψ1, ω1, s1, R1, f1⟩
  | true => exact f1 G1 ψ1 ω1 H1 Mo.refl R1
theorem evt_w {e : Expr} {t : S → Res Bool} (h : EvW X W cv e t) : EvT X W cv e t := ⟨h.pw.pt⟩
theorem ev_one {op} (h : Ev X W cv a ma) : Ev X W cv (.BoolOp op [a] pos) ma := ⟨pe_one h.pe⟩
theorem ev_and (ha : Ev X W cv a ma) (hb : Ev X W cv (.BoolOp .And (b :: rest) pos) mb) : Ev X W cv (.BoolOp .And (a :: b :: rest) pos) (mAnd ma mb) := by
  refine ⟨pe_w (pe_and ha.pe hb.pe) fun σ H Q ⟨G, ψ, ω, s, R, f⟩ => ?_⟩
  refine tI_on R f fun d s1 G1 ψ1 ω1 H1 v mo R1 rv f1 => ?_
  cases d with
  | val t => cases t with
    | bl b => cases rv; refine ⟨b, rfl, ?_⟩; cases b with
      | true => exact ⟨G1, ψ1, ω1, s1, R1, f1⟩
      | false => exact f1 G1 ψ1 ω1 H1 Mo.refl R1 _ (Rp.bl _)
    | _ => exact f1.elim
  | _ => exact f1.elim
theorem ev_or (ha : Ev X W cv a ma) (hb : Ev X W cv (.BoolOp .Or (b :: rest) pos) mb) : Ev X W cv (.BoolOp .Or (a :: b :: rest) pos) (mOr ma mb) := by
  refine ⟨pe_w (pe_or ha.pe hb.pe) fun σ H Q ⟨G, ψ, ω, s, R, f⟩ => ?_⟩
  refine tI_on R f fun d s1 G1 ψ1 ω1 H1 v mo R1 rv f1 => ?_
  cases d with
  | val t => cases t with
    | bl b => cases rv; refine ⟨b, rfl, ?_⟩; cases b with
      | false => exact ⟨G1, ψ1, ω1, s1, R1, f1⟩
      | true => exact f1 G1 ψ1 ω1 H1 Mo.refl R1 _ (Rp.bl _)
    | _ => exact f1.elim
  | _ => exact f1.elim
theorem ev_not (ha : Ev X W cv a ma) : Ev X W cv (.UnaryOp .Not a pos) (mNot ma) := by
  refine ⟨pe_w (pe_not ha.pe) fun σ H Q ⟨G, ψ, ω, s, R, f⟩ => ?_⟩
  refine tI_on R f fun d s1 G1 ψ1 ω1 H1 v mo R1 rv f1 => ?_
  cases d with
  | val t => cases t with
    | bl b => cases rv; exact ⟨b, rfl, f1 G1 ψ1 ω1 H1 Mo.refl R1 _ (Rp.bl _)⟩
    | _ => exact f1.elim
  | _ => exact f1.elim
theorem ev_ifExp {c : Expr} {tc : S → Res Bool} (hc : EvT X W cv c tc) (ha : Ev X W cv a ma) (hb : Ev X W cv b mb) : Ev X W cv (.IfExp c a b pos) (mIf tc ma mb) := by
  refine ⟨pe_w (pe_ifExp hc.pt ha.pe hb.pe) fun σ H Q ⟨G, ψ, ω, s, R, f⟩ => ?_⟩
  refine tT_on R f fun c s1 G1 ψ1 ω1 H1 mo R1 f1 => ?_
  cases c with
  | true => exact ⟨G1, ψ1, ω1, s1, R1, f1⟩
  | false => exact ⟨G1, ψ1, ω1, s1, R1, f1⟩

/-! ### a < b < c -/
def mCh (g g' : T → T → Option DV) (ma mb mc : M) : M := fun s => (ma s).bind fun d s1 => (mb s1).bind fun e s2 => match rd s2 (dz d), rd s2 (dz e) with
  | some x, some y => (match g x y with
    | some (.val (.bl k)) => if k then (mc s2).bind fun h s3 => (match rd s3 (dz e), rd s3 (dz h) with
        | some y', some z => gr (g' y' z) s3
        | _, _ => .bad) else .ok (.val (.bl false)) s2
    | _ => .bad)
  | _, _ => .bad
theorem tCh_on {K : PySem.W.Frag} {ta tb tc : TE} {ma mb mc : M} {g g' : T → T → Option DV} {r r' : R2} (p : PR2 K r g) (p' : PR2 K r' g') (ha : ta = tI K W cv ma) (hb : tb = tI K W cv mb) (hc : tc = tI K W cv mc)
    (σ : L2.St) (H : Hp) (Q : VK) (h : tI K W cv (mCh g g' ma mb mc) σ H Q) : tChain r r' ta tb tc σ H Q := by
  subst ha hb hc
  obtain ⟨G, ψ, ω, s, R, f⟩ := h
  refine tI_on R f fun d s1 G1 ψ1 ω1 H1 x mo R1 rv f1 => ?_
  obtain ⟨G2, mo2, R2, rv2⟩ := R1.dz rv
  refine tI_on R2 (Fin.on f1 mo2) fun e s3 G3 ψ3 ω3 H3 y mo3 R3 rv3 f3 => ?_
  obtain ⟨G4, mo4, R4, rv4⟩ := R3.dz rv3
  have rx : RD K G4 ψ3 ω3 σ H3 x (dz d) := RD.mono (mo3.trans mo4) rv2
  have f4 := Fin.on f3 mo4
  cases e1 : rd s3 (dz d) with
  | none => rw [e1] at f4; exact f4.elim
  | some tx =>
    cases e2 : rd s3 (dz e) with
    | none => rw [e1, e2] at f4; exact f4.elim
    | some ty =>
      rw [e1, e2] at f4
      cases eg : g tx ty with
      | none => simp only [eg] at f4; exact f4.elim
      | some dd =>
        refine p G4 ψ3 H3 x y tx ty dd _ R4.le (R4.rd rx e1) (R4.rd rv4 e2) eg fun z G5 H5 al rn => ?_
        have R5 := R4.al al
        have f5 := Fin.on f4 (al.mo (ψ := ψ3) (ω := ω3))
        simp only [eg] at f5
        cases dd with
        | val t => cases t with
          | bl b =>
            cases rn
            refine ⟨b, rfl, ?_⟩
            cases b with
            | true =>
              rw [if_pos rfl]
              refine tI_on R5 f5 fun h' s6 G6 ψ6 ω6 H6 w' mo6 R6 rv6 f6 => ?_
              obtain ⟨G7, mo7, R7, rv7⟩ := R6.dz rv6
              have ry : RD K G7 ψ6 ω6 σ H6 y (dz e) := RD.mono ((al.mo (ψ := ψ3) (ω := ω3)).trans (mo6.trans mo7)) rv4
              have f7 := Fin.on f6 mo7
              cases e3 : rd s6 (dz e) with
              | none => rw [e3] at f7; exact f7.elim
              | some ty' =>
                cases e4 : rd s6 (dz h') with
                | none => rw [e3, e4] at f7; exact f7.elim
                | some tz =>
                  rw [e3, e4] at f7
                  obtain ⟨d8, ed8, rq⟩ := Fin.rq R7 f7
                  exact p' G7 ψ6 H6 y w' ty' tz d8 Q R7.le (R7.rd ry e3) (R7.rd rv7 e4) ed8 rq
            | false =>
              rw [if_neg (by decide)]
              exact f5 G5 ψ3 ω3 H5 Mo.refl R5 _ (Rp.bl _)
          | _ => exact f5.elim
        | _ => exact f5.elim
theorem ev_ch {c : Expr} {mc : M} {op op' : CmpOp} {g g' : T → T → Option DV} {r r' : R2} (ho : OpR X (compareOp op) r) (ho' : OpR X (compareOp op') r') (p : PR2 X.K r g) (p' : PR2 X.K r' g') (ha : Ev X W cv a ma) (hb : Ev X W cv b mb) (hc : Ev X W cv c mc) (hm : lastMarks [op, op'] [b, c] = false := by with_unfolding_all rfl) :
    Ev X W cv (.Compare a [op, op'] [b, c] pos) (mCh g g' ma mb mc) := ⟨pe_w (pe_chain ho ho' ha.pe hb.pe hc.pe hm) fun σ H Q h => tCh_on p p' rfl rfl rfl σ H Q h⟩
theorem evt_ch {c : Expr} {mc : M} {op op' : CmpOp} {g g' : T → T → Option DV} {r r' : R2} (ho : OpR X (compareOp op) r) (ho' : OpR X (compareOp op') r') (p : PR2 X.K r g) (p' : PR2 X.K r' g') (ha : Ev X W cv a ma) (hb : Ev X W cv b mb) (hc : Ev X W cv c mc) (hm : lastMarks [op, op'] [b, c] = false := by with_unfolding_all rfl) :
    EvT X W cv (.Compare a [op, op'] [b, c] pos) (mT (mCh g g' ma mb mc)) := ⟨pt_w (pt_chain ho ho' ha.pe hb.pe hc.pe hm) fun σ H Q h => tCh_on p p' rfl rfl rfl σ H _ (tT_I h)⟩
end
end Vi

set_option Elab.async false
set_option linter.all false
set_option maxRecDepth 100000
namespace Vi
open PySem PySem.Spec PyProof.Rows L2

/-! ### things put into lists and tuples -/
/-- what may stand in a list or tuple: a list of one's own is locked for good -/
def tk : DV → S → Option (T × S)
  | .val t, s => some (t, s)
  | .new t, s => some (t, s)
  | .bor _, _ => none
  | .ali i, s => match s.sl[i]? with
    | some (.own t) => some (t, { s with sl := s.sl.set i (.val t) })
    | some (.val t) => some (t, s)
    | _ => none
def tks : List DV → S → Option (List T × S)
  | [], s => some ([], s)
  | d :: ds, s => match tk d s with
    | some (t, s1) => (match tks ds s1 with
      | some (ts, s2) => some (t :: ts, s2)
      | none => none)
    | none => none
section
variable {K : PySem.W.Frag} {σ : L2.St} {G : Hp} {ψ : List Addr} {ω : Addr → Option Ow} {s : S} {H : Hp}
/-- a slot's own list is locked for good -/
theorem Rel.frzSlot (R : Rel K G ψ ω s σ H) {i : Nat} {t : T} (e : s.sl[i]? = some (.own t)) : ∃ G' ω', Mo G ψ ω G' ψ ω' ∧ Rel K G' ψ ω' { s with sl := s.sl.set i (.val t) } σ H ∧ (∀ v, σ[i]? = some (some v) → Rp K G' ψ v t) := by
  obtain ⟨a, o, e1, e2, e3, c⟩ := R.slots i _ e
  have hg := R.wn e2
  have hm : ∀ b u, ω b = some (.hold u) → (fun b => if b = a then none else ω b) b = some (.hold u) := fun b u h => by
    have : b ≠ a := fun z => by subst z; rw [e2] at h; cases h
    simp [this, h]
  have hk : ∀ b u, ω b = some (.keep u) → (fun b => if b = a then none else ω b) b = some (.keep u) := fun b u h => by
    have : b ≠ a := fun z => by subst z; rw [e2] at h; cases h
    simp [this, h]
  refine ⟨upd G a o, fun b => if b = a then none else ω b, ⟨same_upd hg, List.prefix_refl _, hm, hk⟩, ⟨?_, ?_, ?_, ?_, ?_, ?_, ?_, R.psi, ?_⟩, fun v hv => ?_⟩
  · intro b u h
    by_cases hb : b = a
    · subst hb; rw [upd_same] at h; rw [← h]; exact e3
    · rw [upd_ne hb] at h; exact R.le _ _ h
  · intro b u h
    by_cases hb : b = a
    · simp [hb]
    · rw [upd_ne hb] at h; simp [hb, R.gw _ _ h]
  · intro b u h
    by_cases hb : b = a
    · simp [hb] at h
    · exact R.hold b u (by simpa [hb] using h)
  · intro b u h
    by_cases hb : b = a
    · simp [hb] at h
    · exact R.keep b u (by simpa [hb] using h)
  · intro b h
    by_cases hb : b = a
    · simp [hb]
    · simp [hb, R.tr b h]
  · intro j x h
    by_cases hj : j = i
    · subst hj
      have hl : j < s.sl.length := (List.getElem?_eq_some_iff.mp e).1
      have hx : x = .val t := by simpa [hl] using h.symm
      subst hx
      exact ⟨_, e1, (c.mono (same_upd hg) (List.prefix_refl _)).rp upd_same⟩
    · have h' : s.sl[j]? = some x := by
        rw [List.getElem?_set_ne (Ne.symm hj)] at h; exact h
      refine (R.slots j x h').mono (same_upd hg) (List.prefix_refl _) hm fun b u _ w hh => ⟨?_, hh⟩
      have : b ≠ a := fun z => by subst z; rw [e2] at w; cases w; exact hj rfl
      simp [this, w]
  · rw [List.length_set]; exact R.len
  · intro n x h
    obtain ⟨b, u, q1, q2, q3, c'⟩ := R.cells n x h
    have : b ≠ a := fun z => by subst z; rw [e2] at q2; cases q2
    exact ⟨b, u, q1, by simp [this, q2], q3, c'.mono (same_upd hg) (List.prefix_refl _)⟩
  · rw [e1] at hv
    cases hv
    exact (c.mono (same_upd hg) (List.prefix_refl _)).rp upd_same
theorem Rel.tk (R : Rel K G ψ ω s σ H) {v : V} {d : DV} {t : T} {s' : S} (r : RD K G ψ ω σ H v (Vi.dz d)) (e : Vi.tk (Vi.dz d) s = some (t, s')) : ∃ G' ω', Mo G ψ ω G' ψ ω' ∧ Rel K G' ψ ω' s' σ H ∧ Rp K G' ψ v t := by
  cases d with
  | val x => cases e; exact ⟨G, ω, Mo.refl, R, r⟩
  | new x => cases e; exact ⟨G, ω, Mo.refl, R, r⟩
  | bor x => cases e
  | ali i =>
    have r' : σ[i]? = some (some v) := r
    cases q : s.sl[i]? with
    | none => simp [Vi.tk, Vi.dz, q] at e
    | some x => cases x with
      | own x =>
        simp only [Vi.tk, Vi.dz, q, Option.some.injEq, Prod.mk.injEq] at e
        obtain ⟨rfl, rfl⟩ := e
        obtain ⟨G', ω', m, R', h⟩ := R.frzSlot q
        exact ⟨G', ω', m, R', h v r'⟩
      | val x =>
        simp only [Vi.tk, Vi.dz, q, Option.some.injEq, Prod.mk.injEq] at e
        obtain ⟨rfl, rfl⟩ := e
        obtain ⟨v', e1, rp⟩ := R.slots i _ q
        rw [r'] at e1
        cases e1
        exact ⟨G, ω, Mo.refl, R, rp⟩
      | no => simp [Vi.tk, Vi.dz, q] at e
      | bor x => simp [Vi.tk, Vi.dz, q] at e
theorem RDs.mono {G' : Hp} {ψ' : List Addr} {ω' : Addr → Option Ow} {H' : Hp} (m : Mo G ψ ω G' ψ' ω') : ∀ {vs : List V} {ds : List DV}, RDs K G ψ ω σ H vs ds → RDs K G' ψ' ω' σ H' vs ds
  | [], [], _ => trivial
  | _ :: _, d :: _, ⟨r, e, rs⟩ => ⟨RD.mono m r, e, RDs.mono m rs⟩
  | [], _ :: _, h => h.elim
  | _ :: _, [], h => h.elim
theorem Rel.tks : ∀ {ds : List DV} {G : Hp} {ω : Addr → Option Ow} {s : S} {vs : List V} {ts : List T} {s' : S}, Rel K G ψ ω s σ H → RDs K G ψ ω σ H vs ds → Vi.tks ds s = some (ts, s') → ∃ G' ω', Mo G ψ ω G' ψ ω' ∧ Rel K G' ψ ω' s' σ H ∧ RpA K G' ψ vs ts
  | [], G, ω, s, vs, ts, s', R, r, e => by
    cases vs with
    | nil => cases e; exact ⟨G, ω, Mo.refl, R, .nil⟩
    | cons => exact r.elim
  | d :: ds, G, ω, s, vs, ts, s', R, r, e => by
    cases vs with
    | nil => exact r.elim
    | cons v vs =>
      obtain ⟨r1, ⟨d', rfl⟩, r2⟩ := r
      rw [dz_dz] at r1
      cases e1 : Vi.tk (Vi.dz d') s with
      | none => simp [Vi.tks, e1] at e
      | some p =>
        obtain ⟨t, s1⟩ := p
        cases e2 : Vi.tks ds s1 with
        | none => simp [Vi.tks, e1, e2] at e
        | some p =>
          obtain ⟨ts', s2⟩ := p
          simp only [Vi.tks, e1, e2, Option.some.injEq, Prod.mk.injEq] at e
          obtain ⟨rfl, rfl⟩ := e
          obtain ⟨G1, ω1, m1, R1, h1⟩ := R.tk r1 e1
          obtain ⟨G2, ω2, m2, R2, h2⟩ := Rel.tks R1 (RDs.mono m1 r2) e2
          exact ⟨G2, ω2, m1.trans m2, R2, .cons (h1.mono m2.g m2.p) h2⟩
end
def mLst (ms : List M) : M := fun s => (evs ms s).bind fun ds s1 => match tks ds s1 with
  | some (ts, s2) => if ts.length ≤ line then .ok (.new (.lst ts)) s2 else .bad
  | none => .bad
def mTup (ms : List M) : M := fun s => (evs ms s).bind fun ds s1 => match tks ds s1 with
  | some (ts, s2) => if ts.length ≤ line then .ok (.val (.tup ts)) s2 else .bad
  | none => .bad
section
variable {X : Cx} {W : WX} {cv : CV} {pos : Pos} {es : List Expr} {ms : List M}
theorem tAs_on {K : PySem.W.Frag} {ms : List M} {β : Type} {k : List DV → S → Res β} {σ : L2.St} {H : Hp} {G : Hp} {ψ : List Addr} {ω : Addr → Option Ow} {s : S} {Z : β → Hp → List Addr → (Addr → Option Ow) → S → Hp → Prop} {P : List V → Hp → Prop} (R : Rel K G ψ ω s σ H) (f : Fin K W cv σ G ψ ω ((evs ms s).bind k) Z)
    (h : ∀ ds s1 G1 ψ1 ω1 H1 vs, Mo G ψ ω G1 ψ1 ω1 → Rel K G1 ψ1 ω1 s1 σ H1 → RDs K G1 ψ1 ω1 σ H1 vs ds → Fin K W cv σ G1 ψ1 ω1 (k ds s1) Z → P vs H1) : tAs K W cv ms σ H P :=
  ⟨G, ψ, ω, s, R, f.bind.imp fun d G' ψ' ω' s' H' mo R' q vs rd => h d s' G' ψ' ω' H' vs mo R' rd q⟩
theorem ev_lst (h : EvA X W cv es ms) : Ev X W cv (.List es pos) (mLst ms) := by
  refine ⟨pe_w (pe_lst h.pa) fun σ H Q ⟨G, ψ, ω, s, R, f⟩ => ?_⟩
  refine tAs_on R f fun ds s1 G1 ψ1 ω1 H1 vs mo R1 rv f1 => ?_
  cases e : tks ds s1 with
  | none => rw [e] at f1; exact f1.elim
  | some p =>
    obtain ⟨ts, s2⟩ := p
    rw [e] at f1
    obtain ⟨G2, ω2, m2, R2, ra⟩ := R1.tks rv e
    have f2 := Fin.on f1 m2
    by_cases hl : ts.length ≤ line
    · simp only [hl, if_true] at f2
      refine ⟨by rw [ra.len, line_eq]; exact hl, fun p hp => ?_⟩
      have al := Al.new (o := .lst vs) R2.le hp
      exact f2 G2 ψ1 ω2 _ al.mo (R2.al al) _ ⟨p, .lst vs, rfl, R2.le.free hp, R2.tr p hp, upd_same, .lst ra⟩
    · simp only [hl, if_false] at f2; exact f2.elim
theorem ev_tup {x1} (h : EvA X W cv es ms) : Ev X W cv (.Tuple es x1 pos) (mTup ms) := by
  refine ⟨pe_w (pe_tup h.pa) fun σ H Q ⟨G, ψ, ω, s, R, f⟩ => ?_⟩
  refine tAs_on R f fun ds s1 G1 ψ1 ω1 H1 vs mo R1 rv f1 => ?_
  cases e : tks ds s1 with
  | none => rw [e] at f1; exact f1.elim
  | some p =>
    obtain ⟨ts, s2⟩ := p
    rw [e] at f1
    obtain ⟨G2, ω2, m2, R2, ra⟩ := R1.tks rv e
    have f2 := Fin.on f1 m2
    by_cases hl : ts.length ≤ line
    · simp only [hl, if_true] at f2
      refine ⟨by rw [ra.len, line_eq]; exact hl, fun p hp => ?_⟩
      have al := Al.frz (o := .tup vs) R2.le hp
      exact f2 _ ψ1 ω2 _ al.mo (R2.al al) _ (.tup upd_same (ra.mono al.g (List.prefix_refl _)))
    · simp only [hl, if_false] at f2; exact f2.elim
theorem ev_dictK : Ev X W cv (.Dict [] [] pos) (fun s => .ok (.new (.dk [] [])) s) := by
  refine ⟨pe_w pe_dnewK fun σ H Q ⟨G, ψ, ω, s, R, f⟩ p hp => ?_⟩
  have al := Al.new (o := .dK []) R.le hp
  exact f G ψ ω _ al.mo (R.al al) _ ⟨p, .dK [], rfl, R.le.free hp, R.tr p hp, upd_same, .dk rfl .nil⟩
theorem ev_dictT : Ev X W cv (.Dict [] [] pos) (fun s => .ok (.new (.dt [] [])) s) := by
  refine ⟨pe_w pe_dnewT fun σ H Q ⟨G, ψ, ω, s, R, f⟩ p hp => ?_⟩
  have al := Al.new (o := .dT []) R.le hp
  exact f G ψ ω _ al.mo (R.al al) _ ⟨p, .dT [], rfl, R.le.free hp, R.tr p hp, upd_same, .dt rfl .nil⟩

/-! ### built-ins -/
theorem tCB_on {K : PySem.W.Frag} {r : List V → Hp → VK → Prop} {g : List T → Option DV} (p : PRn K r g) {σ : L2.St} {H : Hp} {Q : VK} (h : tI K W cv (mOpN g ms) σ H Q) : tCB r (tAs K W cv ms) σ H Q := by
  obtain ⟨G, ψ, ω, s, R, f⟩ := h
  refine tAs_on R f fun ds s1 G1 ψ1 ω1 H1 vs mo R1 rv f1 => ?_
  cases e1 : rds s1 ds with
  | none => rw [e1] at f1; exact f1.elim
  | some ts =>
    rw [e1] at f1
    obtain ⟨dd, ed, rq⟩ := Fin.rq R1 f1
    exact p G1 ψ1 H1 vs ts dd Q R1.le (rv.rds R1 e1) ed rq
theorem ev_callB {x : Str} {id : String} {e : Expr} {p : Pos} {r : List V → Hp → VK → Prop} {g : List T → Option DV} (hc : CallR X (.builtin id) r) (pr : PRn X.K r g) (hm : X.mg x = none) (ha : EvA X W cv (e :: es) ms) (hg : Gl X x := by rfl) (hv : bootBuiltins x = some (.builtin id) := by decide +kernel) (hn : x ≠ "__name__" := by decide) (hdb : (x == ("__debug__" : Str)) = false := by decide)
    (he : starEach (e :: es) X.env = (false, eval e X.env) :: starEach es X.env := by rfl) (hpl : (backTo pos (starEach es X.env)).any (·.1) = false := by rfl) : Ev X W cv (.Call (.Name x p) (e :: es) [] pos) (mOpN g ms) :=
  ⟨pe_w (pe_callB hc hg hm hv ha.pa hn hdb he hpl) fun σ H Q h => tCB_on pr h⟩
theorem ev_callTy {x : Str} {TY : String} {e : Expr} {p : Pos} {r : List V → Hp → VK → Prop} {g : List T → Option DV} (hc : CallR X (.type TY) r) (pr : PRn X.K r g) (hm : X.mg x = none) (ha : EvA X W cv (e :: es) ms) (hg : Gl X x := by rfl) (hv : bootBuiltins x = some (.type TY) := by decide +kernel) (hn : x ≠ "__name__" := by decide) (hdb : (x == ("__debug__" : Str)) = false := by decide)
    (he : starEach (e :: es) X.env = (false, eval e X.env) :: starEach es X.env := by rfl) (hpl : (backTo pos (starEach es X.env)).any (·.1) = false := by rfl) : Ev X W cv (.Call (.Name x p) (e :: es) [] pos) (mOpN g ms) :=
  ⟨pe_w (pe_callTy hc hg hm hv ha.pa hn hdb he hpl) fun σ H Q h => tCB_on pr h⟩
end
section
variable {K : PySem.W.Frag} {G : Hp} {ψ : List Addr} {H : Hp}
theorem RdA.one {vs : List V} {t : T} (h : RdA K G ψ H vs [t]) : ∃ v, vs = [v] ∧ RdT K G ψ H v t := by
  match vs, h with
  | [v], h => exact ⟨v, rfl, h.1⟩
theorem RdA.two {vs : List V} {t u : T} (h : RdA K G ψ H vs [t, u]) : ∃ v w, vs = [v, w] ∧ RdT K G ψ H v t ∧ RdT K G ψ H w u := by
  match vs, h with
  | [v, w], h => exact ⟨v, w, rfl, h.1, h.2.1⟩
theorem RdA.three {vs : List V} {t u x : T} (h : RdA K G ψ H vs [t, u, x]) : ∃ v w y, vs = [v, w, y] ∧ RdT K G ψ H v t ∧ RdT K G ψ H w u ∧ RdT K G ψ H y x := by
  match vs, h with
  | [v, w, y], h => exact ⟨v, w, y, rfl, h.1, h.2.1, h.2.2.1⟩
end
def gLen : List T → Option DV
  | [.lst ts] => some (.val (.int ts.length))
  | [.tup ts] => some (.val (.int ts.length))
  | [.ktup ts] => some (.val (.int ts.length))
  | [.scr ns] => some (.val (.int ns.length))
  | [.str x] => if x.length ≤ line then some (.val (.int x.length)) else none
  | _ => none
theorem pr_len {K : PySem.W.Frag} : PRn K (fun xs H Q => ∃ x n, xs = [x] ∧ LenV K x H n ∧ Q (.int n) H) gLen := by
  intro G ψ H xs ts d Q hs h e q
  match ts, e with
  | [t], e =>
    obtain ⟨v, rfl, r⟩ := h.one
    cases t with
    | lst ts => obtain ⟨a, xs, rfl, h1, r1⟩ := r.lst hs; cases e; exact ⟨_, ts.length, rfl, .inl ⟨xs, SqL.of h1, r1.len.symm⟩, q.val hs (.int _)⟩
    | tup ts => obtain ⟨a, xs, rfl, h1, r1⟩ := r.tup; cases e; exact ⟨_, ts.length, rfl, .inr ⟨xs, SqT.of (hs _ _ h1), r1.len.symm⟩, q.val hs (.int _)⟩
    | ktup ts => obtain ⟨a, xs, rfl, h1, r1⟩ := r.ktup; cases e; exact ⟨_, ts.length, rfl, .inr ⟨xs, h1 H, r1.len.symm⟩, q.val hs (.int _)⟩
    | scr ns => obtain ⟨a, rfl, h1⟩ := r.scr; cases e; exact ⟨_, ns.length, rfl, .inl ⟨_, sqL_same hs h1, by simp⟩, q.val hs (.int _)⟩
    | str x =>
      obtain ⟨rfl, _⟩ := r.str
      simp only [gLen] at e
      split at e
      · cases e
        rename_i hl
        exact ⟨_, x.length, rfl, ⟨by rw [str_len, line_eq]; exact hl, (str_len x).symm⟩, q.val hs (.int _)⟩
      · cases e
    | _ => cases e
  | [], e => cases e
  | _ :: _ :: _, e => simp [gLen] at e
def gAbs : List T → Option DV
  | [.int i] => some (.val (.int (if i < 0 then -i else i)))
  | _ => none
theorem pr_abs {K : PySem.W.Frag} : PRn K (fun xs H Q => ∃ i, xs = [.int i] ∧ Q (.int (if i < 0 then -i else i)) H) gAbs := by
  intro G ψ H xs ts d Q hs h e q
  match ts, e with
  | [.int i], e => obtain ⟨v, rfl, r⟩ := h.one; cases r.int; cases e; exact ⟨i, rfl, q.val hs (.int _)⟩
def gMin : List T → Option DV
  | [.int i, .int j] => some (.val (.int (min i j)))
  | _ => none
def gMax : List T → Option DV
  | [.int i, .int j] => some (.val (.int (max i j)))
  | _ => none
theorem pr_min {K : PySem.W.Frag} : PRn K (fun xs H Q => ∃ i j, xs = [.int i, .int j] ∧ Q (.int (if j < i then j else i)) H) gMin := by
  intro G ψ H xs ts d Q hs h e q
  match ts, e with
  | [.int i, .int j], e =>
    obtain ⟨v, w, rfl, r, r'⟩ := h.two; cases r.int; cases r'.int; cases e
    refine ⟨i, j, rfl, ?_⟩
    have : (if j < i then j else i) = min i j := by split <;> omega
    rw [this]
    exact q.val hs (.int _)
theorem pr_max {K : PySem.W.Frag} : PRn K (fun xs H Q => ∃ i j, xs = [.int i, .int j] ∧ Q (.int (if j > i then j else i)) H) gMax := by
  intro G ψ H xs ts d Q hs h e q
  match ts, e with
  | [.int i, .int j], e =>
    obtain ⟨v, w, rfl, r, r'⟩ := h.two; cases r.int; cases r'.int; cases e
    refine ⟨i, j, rfl, ?_⟩
    have : (if j > i then j else i) = max i j := by split <;> omega
    rw [this]
    exact q.val hs (.int _)
def boolsT : List T → Option (List Bool)
  | [] => some []
  | .bl b :: r => (boolsT r).map (b :: ·)
  | _ => none
def intsT : List T → Option (List Int)
  | [] => some []
  | .int i :: r => (intsT r).map (i :: ·)
  | _ => none
theorem boolsT_v {K : PySem.W.Frag} {G : Hp} {ψ : List Addr} : ∀ {vs : List V} {ts : List T} {bs : List Bool}, RpA K G ψ vs ts → boolsT ts = some bs → vs = bs.map V.bl
  | _, _, bs, .nil, e => by cases e; rfl
  | _, _, bs, .cons (t := t) (ts := ts) r rs, e => by
    cases t with
    | bl b =>
      obtain ⟨bs', e1, rfl⟩ := Option.map_eq_some_iff.mp (show (boolsT ts).map (b :: ·) = some bs from e)
      cases r
      rw [boolsT_v rs e1]
      rfl
    | _ => cases e
theorem intsT_v {K : PySem.W.Frag} {G : Hp} {ψ : List Addr} : ∀ {vs : List V} {ts : List T} {bs : List Int}, RpA K G ψ vs ts → intsT ts = some bs → vs = bs.map V.int
  | _, _, bs, .nil, e => by cases e; rfl
  | _, _, bs, .cons (t := t) (ts := ts) r rs, e => by
    cases t with
    | int b =>
      obtain ⟨bs', e1, rfl⟩ := Option.map_eq_some_iff.mp (show (intsT ts).map (b :: ·) = some bs from e)
      cases r
      rw [intsT_v rs e1]
      rfl
    | _ => cases e
@[simp] theorem boolsT_map : ∀ bs : List Bool, boolsT (bs.map T.bl) = some bs
  | [] => rfl
  | b :: bs => by simp [boolsT, boolsT_map bs]
@[simp] theorem intsT_map : ∀ bs : List Int, intsT (bs.map T.int) = some bs
  | [] => rfl
  | b :: bs => by simp [intsT, intsT_map bs]
def gAll : List T → Option DV
  | [.lst ts] => (boolsT ts).map fun bs => .val (.bl (bs.all id))
  | _ => none
theorem pr_all {K : PySem.W.Frag} : PRn K (rAll K) gAll := by
  intro G ψ H xs ts d Q hs h e q
  match ts, e with
  | [.lst us], e =>
    obtain ⟨v, rfl, r⟩ := h.one
    obtain ⟨a, xs, rfl, h1, r1⟩ := r.lst hs
    obtain ⟨bs, e1, rfl⟩ := Option.map_eq_some_iff.mp e
    exact ⟨a, bs, rfl, by rw [← boolsT_v r1 e1]; exact SqL.of h1, q.val hs (.bl _)⟩
def gSum : List T → Option DV
  | [.lst ts] => (intsT ts).map fun bs => .val (.int bs.sum)
  | _ => none
theorem pr_sum {K : PySem.W.Frag} : PRn K (rSum K) gSum := by
  intro G ψ H xs ts d Q hs h e q
  match ts, e with
  | [.lst us], e =>
    obtain ⟨v, rfl, r⟩ := h.one
    obtain ⟨a, xs, rfl, h1, r1⟩ := r.lst hs
    obtain ⟨bs, e1, rfl⟩ := Option.map_eq_some_iff.mp e
    exact ⟨a, bs, rfl, by rw [← intsT_v r1 e1]; exact SqL.of h1, q.val hs (.int _)⟩
def minL : List Int → Int
  | [] => 0
  | [i] => i
  | i :: r => min i (minL r)
def maxL : List Int → Int
  | [] => 0
  | [i] => i
  | i :: r => max i (maxL r)
theorem minL_spec : ∀ l : List Int, l ≠ [] → minL l ∈ l ∧ ∀ y ∈ l, minL l ≤ y
  | [i], _ => by simp [minL]
  | i :: j :: r, _ => by
    obtain ⟨h1, h2⟩ := minL_spec (j :: r) (by simp)
    have e : minL (i :: j :: r) = min i (minL (j :: r)) := rfl
    rw [e]
    constructor
    · rcases Int.le_total i (minL (j :: r)) with h | h
      · rw [Int.min_eq_left h]; simp
      · rw [Int.min_eq_right h]; exact List.mem_cons_of_mem _ h1
    · intro y hy
      rcases List.mem_cons.mp hy with rfl | hy
      · omega
      · have := h2 y hy; omega
theorem maxL_spec : ∀ l : List Int, l ≠ [] → maxL l ∈ l ∧ ∀ y ∈ l, y ≤ maxL l
  | [i], _ => by simp [maxL]
  | i :: j :: r, _ => by
    obtain ⟨h1, h2⟩ := maxL_spec (j :: r) (by simp)
    have e : maxL (i :: j :: r) = max i (maxL (j :: r)) := rfl
    rw [e]
    constructor
    · rcases Int.le_total i (maxL (j :: r)) with h | h
      · rw [Int.max_eq_right h]; exact List.mem_cons_of_mem _ h1
      · rw [Int.max_eq_left h]; simp
    · intro y hy
      rcases List.mem_cons.mp hy with rfl | hy
      · omega
      · have := h2 y hy; omega
def gMinL : List T → Option DV
  | [.lst ts] => (intsT ts).bind fun bs => if bs = [] then none else some (.val (.int (minL bs)))
  | _ => none
def gMaxL : List T → Option DV
  | [.lst ts] => (intsT ts).bind fun bs => if bs = [] then none else some (.val (.int (maxL bs)))
  | _ => none
theorem pr_minL {K : PySem.W.Frag} : PRn K (rMin K) gMinL := by
  intro G ψ H xs ts d Q hs h e q
  match ts, e with
  | [.lst us], e =>
    obtain ⟨v, rfl, r⟩ := h.one
    obtain ⟨a, xs, rfl, h1, r1⟩ := r.lst hs
    obtain ⟨bs, e1, e2⟩ := Option.bind_eq_some_iff.mp e
    split at e2
    · cases e2
    · rename_i hne
      cases e2
      obtain ⟨m1, m2⟩ := minL_spec bs hne
      refine ⟨a, bs, rfl, by rw [← intsT_v r1 e1]; exact SqL.of h1, List.length_pos_iff.mpr hne, fun m hm hy => ?_⟩
      have : m = minL bs := by have := hy _ m1; have := m2 _ hm; omega
      subst this
      exact q.val hs (.int _)
theorem pr_maxL {K : PySem.W.Frag} : PRn K (rMax K) gMaxL := by
  intro G ψ H xs ts d Q hs h e q
  match ts, e with
  | [.lst us], e =>
    obtain ⟨v, rfl, r⟩ := h.one
    obtain ⟨a, xs, rfl, h1, r1⟩ := r.lst hs
    obtain ⟨bs, e1, e2⟩ := Option.bind_eq_some_iff.mp e
    split at e2
    · cases e2
    · rename_i hne
      cases e2
      obtain ⟨m1, m2⟩ := maxL_spec bs hne
      refine ⟨a, bs, rfl, by rw [← intsT_v r1 e1]; exact SqL.of h1, List.length_pos_iff.mpr hne, fun m hm hy => ?_⟩
      have : m = maxL bs := by have := hy _ m1; have := m2 _ hm; omega
      subst this
      exact q.val hs (.int _)
def gOrd : List T → Option DV
  | [.str [c]] => some (.val (.int c))
  | _ => none
theorem pr_ord {K : PySem.W.Frag} : PRn K (fun xs H Q => ∃ x, xs = [.str x] ∧ x.length = 1 ∧ Q (.int (x.cps.getD 0 0 : Nat)) H) gOrd := by
  intro G ψ H xs ts d Q hs h e q
  match ts, e with
  | [.str [c]], e =>
    obtain ⟨v, rfl, r⟩ := h.one
    obtain ⟨rfl, _⟩ := r.str
    cases e
    exact ⟨_, rfl, rfl, q.val hs (.int _)⟩
def gList : List T → Option DV
  | [.lst ts] => some (.new (.lst ts))
  | [.tup ts] => some (.new (.lst ts))
  | _ => none
theorem pr_list {K : PySem.W.Frag} : PRn K (fun xs H Q => ∃ p ys, xs = [.ref p] ∧ (SqL K H p ys ∨ SqT K H p ys) ∧ ∀ l, H l = none → Q (.ref l) (upd H l (.lst ys))) gList := by
  intro G ψ H xs ts d Q hs h e q
  match ts, e with
  | [.lst us], e =>
    obtain ⟨v, rfl, r⟩ := h.one
    obtain ⟨a, xs, rfl, h1, r1⟩ := r.lst hs
    cases e
    exact ⟨a, xs, rfl, .inl (SqL.of h1), fun l hl => q.new hs hl (.lst r1)⟩
  | [.tup us], e =>
    obtain ⟨v, rfl, r⟩ := h.one
    obtain ⟨a, xs, rfl, h1, r1⟩ := r.tup
    cases e
    exact ⟨a, xs, rfl, .inr (SqT.of (hs _ _ h1)), fun l hl => q.new hs hl (.lst r1)⟩
def gTuple : List T → Option DV
  | [.lst ts] => some (.val (.tup ts))
  | [.tup ts] => some (.val (.tup ts))
  | _ => none
theorem pr_tuple {K : PySem.W.Frag} : PRn K (fun xs H Q => ∃ p ys, xs = [.ref p] ∧ ((SqL K H p ys ∧ ∀ l, H l = none → Q (.ref l) (upd H l (.tup ys))) ∨ (SqT K H p ys ∧ Q (.ref p) H))) gTuple := by
  intro G ψ H xs ts d Q hs h e q
  match ts, e with
  | [.lst us], e =>
    obtain ⟨v, rfl, r⟩ := h.one
    obtain ⟨a, xs, rfl, h1, r1⟩ := r.lst hs
    cases e
    exact ⟨a, xs, rfl, .inl ⟨SqL.of h1, fun l hl => q.tup hs hl r1⟩⟩
  | [.tup us], e =>
    obtain ⟨v, rfl, r⟩ := h.one
    obtain ⟨a, xs, rfl, h1, r1⟩ := r.tup
    cases e
    exact ⟨a, xs, rfl, .inr ⟨SqT.of (hs _ _ h1), q.val hs (.tup h1 r1)⟩⟩

/-! ### isinstance -/
def tyN : T → Option String
  | .non => some "NoneType"
  | .bl _ => some "bool"
  | .int _ => some "int"
  | .str _ => some "str"
  | .tup _ => some "tuple"
  | .lst _ => some "list"
  | .dk _ _ => some "dict"
  | .dt _ _ => some "dict"
  | _ => none
def gIsi (n : String) (t : T) : Option DV := ((tyN t).bind fun m => kitB m n).map fun b => .val (.bl b)
theorem tyX_of {K : PySem.W.Frag} {G : Hp} {ψ : List Addr} {H : Hp} {v : V} {t : T} {m : String} (hs : Same G H) (r : RdT K G ψ H v t) (e : tyN t = some m) : TyX K H v (.type m) := by
  cases t with
  | non => cases r.non; cases e; exact .base .non
  | bl b => cases r.bl; cases e; exact .base (.bl _)
  | int b => cases r.int; cases e; exact .base (.int _)
  | str b => obtain ⟨rfl, _⟩ := r.str; cases e; exact .base (.str _)
  | tup ts => obtain ⟨a, xs, rfl, h, _⟩ := r.tup; cases e; exact .base (.tup (hs _ _ h))
  | lst ts => obtain ⟨a, xs, rfl, h, _⟩ := r.lst hs; cases e; exact .base (.lst h)
  | dk ks ts => obtain ⟨a, xs, rfl, h, _⟩ := r.dk hs; cases e; exact .base (.dK h)
  | dt ks ts => obtain ⟨a, xs, rfl, h, _⟩ := r.dt hs; cases e; exact .base (.dT h)
  | _ => cases e
theorem ev_isi {X : Cx} {W : WX} {cv : CV} {pos : Pos} {a : Expr} {ma : M} {n : String} {y : Str} {p p2 : Pos} (hm : X.mg "isinstance" = none) (hmy : X.mg y = none) (ha : Ev X W cv a ma) (hg : Gl X "isinstance" := by rfl) (hgy : Gl X y := by rfl) (hvy : bootBuiltins y = some (.type n) := by decide +kernel) (hny : y ≠ "__name__" := by decide) (hdy : (y == ("__debug__" : Str)) = false := by decide)
    (he : starEach [a, .Name y p2] X.env = (false, eval a X.env) :: starEach [.Name y p2] X.env := by rfl) (he2 : starEach [.Name y p2] X.env = (false, eval (.Name y p2) X.env) :: starEach [] X.env := by rfl) (hpl : (backTo pos (starEach [.Name y p2] X.env)).any (·.1) = false := by rfl) :
    Ev X W cv (.Call (.Name "isinstance" p) [a, .Name y p2] [] pos) (mOp1 (gIsi n) ma) := by
  refine ⟨pe_w (pe_callB call_isi hg hm (by decide +kernel) (pa_cons ha.pe (pa_cons (pe_bltn (v := .ty n) hgy hmy hvy rfl hny hdy) pa_nil he2) he) (by decide) (by decide) he hpl) fun σ H Q h => ?_⟩
  refine tOp1_on (r := fun x H1 Q => rIsi X.K [x, .ty n] H1 Q) (fun G ψ H x tx d Q hs hx e q => ?_) h
  obtain ⟨b, e1, rfl⟩ := Option.map_eq_some_iff.mp e
  obtain ⟨m, e2, e3⟩ := Option.bind_eq_some_iff.mp e1
  exact ⟨x, .ty n, .type m, .type n, b, rfl, .ty n, tyX_of hs hx e2, kit_ty e3, q.val hs (.bl _)⟩
end Vi

set_option Elab.async false
set_option linter.all false
set_option maxRecDepth 100000
namespace Vi
open PySem PySem.Spec PyProof.Rows L2

/-! ### subscripts -/
theorem atI_some {α : Type} {xs : List α} {i : Int} {t : α} (h : atI xs i = some t) : ∃ j, ixN xs.length i = some j ∧ xs[j]? = some t := Option.bind_eq_some_iff.mp h
theorem RpA.atI {K : PySem.W.Frag} {G : Hp} {ψ : List Addr} {xs : List V} {ts : List T} {i : Int} {t : T} (r : RpA K G ψ xs ts) (h : L2.atI ts i = some t) : ∃ v, L2.atI xs i = some v ∧ Rp K G ψ v t := by
  obtain ⟨j, h1, h2⟩ := atI_some h
  obtain ⟨v, h3, h4⟩ := r.get h2
  exact ⟨v, by unfold L2.atI; rw [r.len, h1]; exact h3, h4⟩
def gIx : T → T → Option DV
  | .lst ts, .int i => (atI ts i).map .val
  | .tup ts, .int i => (atI ts i).map .val
  | .ktup ts, .int i => (atI ts i).map .val
  | .scr ns, .int i => (atI ns i).map fun n => .val (.int n)
  | .str x, .int i => if x.length ≤ line then (atI x i).map fun c => .val (.str [c]) else none
  | c, y => (dgetT c y).bind fun o => o.map .val
def rIxDct : R2 := fun x y H Q => ∃ a v, x = .ref a ∧ DGet H a y (some v) ∧ Q v H
theorem ix_dct {X : Cx} (hu : X.A.units + 65 < cLine) : IxR X rIxDct := by
  intro value slice pins s σ H x y v u Q I rx ry h hs
  obtain ⟨a, z, rfl, g, q⟩ := h
  obtain rfl : v = Value.ref a := rx
  exact tail_any (dict_typeIs I g) PySem.F.slot_dict_getitem.lookup (d_getItem (by omega) I g ry fun w' s3 I3 rw' => ⟨z, H, I3, rw', q⟩) hs
abbrev rIxA (K : PySem.W.Frag) : R2 := fun x y H Q => rIx K x y H Q ∨ rIxDct x y H Q
theorem ix_all {X : Cx} (hu : X.A.units + 65 < cLine) : IxR X (rIxA X.K) := IxR.or ix_seq (ix_dct hu)
theorem pr_ix {K : PySem.W.Frag} : PR2 K (rIxA K) gIx := by
  intro G ψ H x y tx ty d Q hs hx hy e q
  have dct : (dgetT tx ty).bind (fun o => o.map DV.val) = some d → rIxA K x y H Q := fun e => by
    obtain ⟨o, e1, e2⟩ := Option.bind_eq_some_iff.mp e
    obtain ⟨t, rfl, rfl⟩ := Option.map_eq_some_iff.mp e2
    obtain ⟨a, ov, rfl, g, z⟩ := dget_ok hs hx hy e1
    rcases z with ⟨z, _⟩ | ⟨t', v, z, rfl, r⟩
    · cases z
    · cases z
      exact .inr ⟨a, v, rfl, g, q.val hs r⟩
  cases tx with
  | lst ts => cases ty with
    | int i =>
      obtain ⟨t, e1, rfl⟩ := Option.map_eq_some_iff.mp e
      obtain ⟨a, xs, rfl, h1, r1⟩ := hx.lst hs
      cases hy.int
      obtain ⟨v, e2, r⟩ := r1.atI e1
      exact .inl (.inl ⟨a, xs, i, v, rfl, rfl, SqL.of h1, e2, q.val hs r⟩)
    | _ => exact dct e
  | tup ts => cases ty with
    | int i =>
      obtain ⟨t, e1, rfl⟩ := Option.map_eq_some_iff.mp e
      obtain ⟨a, xs, rfl, h1, r1⟩ := hx.tup
      cases hy.int
      obtain ⟨v, e2, r⟩ := r1.atI e1
      exact .inl (.inr (.inl ⟨a, xs, i, v, rfl, rfl, SqT.of (hs _ _ h1), e2, q.val hs r⟩))
    | _ => exact dct e
  | ktup ts => cases ty with
    | int i =>
      obtain ⟨t, e1, rfl⟩ := Option.map_eq_some_iff.mp e
      obtain ⟨a, xs, rfl, h1, r1⟩ := hx.ktup
      cases hy.int
      obtain ⟨v, e2, r⟩ := r1.atI e1
      exact .inl (.inr (.inl ⟨a, xs, i, v, rfl, rfl, h1 H, e2, q.val hs r⟩))
    | _ => exact dct e
  | scr ns => cases ty with
    | int i =>
      obtain ⟨t, e1, rfl⟩ := Option.map_eq_some_iff.mp e
      obtain ⟨a, rfl, h1⟩ := hx.scr
      cases hy.int
      obtain ⟨j, h2, h3⟩ := atI_some e1
      exact .inl (.inl ⟨a, _, i, .int t, rfl, rfl, sqL_same hs h1, by unfold L2.atI; rw [List.length_map, h2]; simp [h3], q.val hs (.int _)⟩)
    | _ => exact dct e
  | str z => cases ty with
    | int i =>
      simp only [gIx] at e
      split at e
      · rename_i hl
        obtain ⟨t, e1, rfl⟩ := Option.map_eq_some_iff.mp e
        obtain ⟨rfl, h1⟩ := hx.str
        cases hy.int
        refine .inl (.inr (.inr ⟨_, i, t, rfl, rfl, by rw [str_len, line_eq]; exact hl, e1, ?_⟩))
        obtain ⟨j, h2, h3⟩ := atI_some e1
        exact q.val hs (.str (x := [t]) (by simp [List.all_eq_true.mp h1 t (List.mem_of_getElem? h3)]))
      · cases e
    | _ => exact dct e
  | _ => exact dct e

/-! ### slices -/
def cutL {α : Type} (xs : List α) (lo hi : Option Int) : List α := (xs.drop (HT.sIx xs.length 0 lo)).take (HT.sIx xs.length xs.length hi - HT.sIx xs.length 0 lo)
theorem RpA.cut {K : PySem.W.Frag} {G : Hp} {ψ : List Addr} {xs : List V} {ts : List T} (r : RpA K G ψ xs ts) (lo hi : Option Int) : RpA K G ψ (cutV xs lo hi) (cutL ts lo hi) := by
  unfold cutV cutL
  rw [r.len]
  exact (r.drop _).take _
def gSlc (t : T) (lo hi : Option Int) : Option DV := match t with
  | .lst ts => some (.new (.lst (cutL ts lo hi)))
  | .tup ts => some (.val (.tup (cutL ts lo hi)))
  | .str x => if x.length ≤ line then some (.val (.str (cutL x lo hi))) else none
  | _ => none
abbrev rSlc (K : PySem.W.Frag) : V → Option Int → Option Int → Hp → VK → Prop := fun x lo hi H Q => rSlL K x lo hi H Q ∨ rSlA K x lo hi H Q ∨ rSlS x lo hi H Q
theorem sl_all {X : Cx} : SlR X (rSlc X.K) := SlR.or sl_list (SlR.or sl_tupA sl_str)
theorem cutL_all {x : List Nat} {p : Nat → Bool} (h : x.all p = true) (lo hi : Option Int) : (cutL x lo hi).all p = true := by
  rw [List.all_eq_true] at h ⊢
  exact fun c hc => h c (List.mem_of_mem_drop (List.mem_of_mem_take hc))
theorem cutL_whole {α : Type} {ts : List α} {lo hi : Option Int} (h : HT.sIx ts.length 0 lo = 0 ∧ HT.sIx ts.length ts.length hi = ts.length) : cutL ts lo hi = ts := by
  unfold cutL
  rw [h.1, h.2]
  simp
theorem pr_slc {K : PySem.W.Frag} {G : Hp} {ψ : List Addr} {H : Hp} {x : V} {t : T} {lo hi : Option Int} {d : DV} {Q : VK} (hs : Same G H) (hx : RdT K G ψ H x t) (e : gSlc t lo hi = some d) (q : RQ K G ψ H d Q) : rSlc K x lo hi H Q := by
  cases t with
  | lst ts =>
    obtain ⟨a, xs, rfl, h1, r1⟩ := hx.lst hs
    cases e
    exact .inl ⟨a, xs, rfl, SqL.of h1, fun p hp => q.new hs hp (.lst (r1.cut lo hi))⟩
  | tup ts =>
    obtain ⟨a, xs, rfl, h1, r1⟩ := hx.tup
    cases e
    refine .inr (.inl ⟨a, xs, rfl, SqT.of (hs _ _ h1), fun hw => ?_, fun _ p hp => q.tup hs hp (r1.cut lo hi)⟩)
    rw [r1.len] at hw
    rw [cutL_whole hw] at q
    exact q.val hs (.tup h1 r1)
  | str z =>
    simp only [gSlc] at e
    split at e
    · cases e
      rename_i hl
      obtain ⟨rfl, h1⟩ := hx.str
      refine .inr (.inr ⟨_, rfl, by rw [str_len, line_eq]; exact hl, ?_⟩)
      have e2 : cutS ⟨z.toArray⟩ lo hi = ⟨(cutL z lo hi).toArray⟩ := by
        unfold cutS cutL
        rw [str_len]
      rw [e2]
      exact q.val hs (.str (cutL_all h1 lo hi))
    · cases e
  | _ => cases e
def mPt : Option M → S → Res (Option Int)
  | none, s => .ok none s
  | some m, s => (m s).bind fun d s1 => match d with
    | .val (.int i) => .ok (some i) s1
    | _ => .bad
def mSlc (ma : M) (lo hi : Option M) : M := fun s => (ma s).bind fun d s1 => (mPt lo s1).bind fun l s2 => (mPt hi s2).bind fun h s3 => match rd s3 (dz d) with
  | some t => gr (gSlc t l h) s3
  | none => .bad
def tP (K : PySem.W.Frag) (W : WX) (cv : CV) (m : Option M) : TO := fun σ H Q => ∃ G ψ ω s, Rel K G ψ ω s σ H ∧ Fin K W cv σ G ψ ω (mPt m s) fun l _ _ _ _ H' => Q l H'
structure EvP (X : Cx) (W : WX) (cv : CV) (e : Option Expr) (m : Option M) : Prop where
  po : PO X e (tP X.K W cv m)
section
variable {X : Cx} {W : WX} {cv : CV} {pos p2 : Pos} {a : Expr} {ma : M}
theorem po_w {e : Option Expr} {t t' : TO} (h : PO X e t) (w : ∀ σ H Q, t' σ H Q → t σ H Q) : PO X e t' := ⟨fun pins s σ H Q I q => h.run pins s σ H Q I (w σ H Q q)⟩
theorem evp_none : EvP X W cv none none := ⟨po_w po_none fun σ H Q ⟨G, ψ, ω, s, R, f⟩ => f G ψ ω H Mo.refl R⟩
theorem evp_some {e : Expr} {m : M} (h : Ev X W cv e m) : EvP X W cv (some e) (some m) := by
  refine ⟨po_w (po_some h.pe) fun σ H Q ⟨G, ψ, ω, s, R, f⟩ => ?_⟩
  refine tI_on R f fun d s1 G1 ψ1 ω1 H1 v mo R1 rv f1 => ?_
  cases d with
  | val t => cases t with
    | int i => cases rv; exact ⟨i, rfl, f1 G1 ψ1 ω1 H1 Mo.refl R1⟩
    | _ => exact f1.elim
  | _ => exact f1.elim
theorem tP_on {K : PySem.W.Frag} {m : Option M} {β : Type} {k : Option Int → S → Res β} {σ : L2.St} {H : Hp} {G : Hp} {ψ : List Addr} {ω : Addr → Option Ow} {s : S} {Z : β → Hp → List Addr → (Addr → Option Ow) → S → Hp → Prop} {P : Option Int → Hp → Prop} (R : Rel K G ψ ω s σ H) (f : Fin K W cv σ G ψ ω ((mPt m s).bind k) Z)
    (h : ∀ l s1 G1 ψ1 ω1 H1, Mo G ψ ω G1 ψ1 ω1 → Rel K G1 ψ1 ω1 s1 σ H1 → Fin K W cv σ G1 ψ1 ω1 (k l s1) Z → P l H1) : tP K W cv m σ H P :=
  ⟨G, ψ, ω, s, R, f.bind.imp fun d G' ψ' ω' s' H' mo R' q => h d s' G' ψ' ω' H' mo R' q⟩
theorem ev_slc {lo hi : Option Expr} {ml mh : Option M} (ha : Ev X W cv a ma) (hl : EvP X W cv lo ml) (hh : EvP X W cv hi mh) : Ev X W cv (.Subscript a (.Slice lo hi none p2) pos) (mSlc ma ml mh) := by
  refine ⟨pe_w (pe_slice sl_all ha.pe hl.po hh.po) fun σ H Q ⟨G, ψ, ω, s, R, f⟩ => ?_⟩
  refine tI_on R f fun d s1 G1 ψ1 ω1 H1 v mo R1 rv f1 => ?_
  obtain ⟨G2, mo2, R2, rv2⟩ := R1.dz rv
  refine tP_on R2 (Fin.on f1 mo2) fun l s3 G3 ψ3 ω3 H3 mo3 R3 f3 => ?_
  refine tP_on R3 f3 fun h s4 G4 ψ4 ω4 H4 mo4 R4 f4 => ?_
  have rx : RD X.K G4 ψ4 ω4 σ H4 v (dz d) := RD.mono (mo3.trans mo4) rv2
  cases e1 : rd s4 (dz d) with
  | none => rw [e1] at f4; exact f4.elim
  | some t =>
    rw [e1] at f4
    obtain ⟨dd, ed, rq⟩ := Fin.rq R4 f4
    exact pr_slc R4.le (R4.rd rx e1) ed rq
end

/-! ### str, int, min, max of three -/
def gStr : List T → Option DV
  | [.int i] => if 0 ≤ i ∧ i < 2 ^ 100 then some (.val (.str (TL.numL i.toNat))) else none
  | [.str x] => some (.val (.str x))
  | _ => none
theorem numL_ok (n : Nat) : (TL.numL n).all (· < 0x110000) = true := by
  rw [List.all_eq_true]
  intro c hc
  have := TL.numL_digits n c hc
  simp
  omega
theorem str_num (n : Nat) : (PySem.Str.ofString (toString ((n : Nat) : Int))) = ⟨(TL.numL n).toArray⟩ := by
  have := PySem.W.KIN.signs_num n
  have e : (PySem.Str.ofString (toString ((n : Nat) : Int))).cps = (TL.numL n).toArray := by
    apply Array.ext'
    rw [this]
    simp [TL.numL]
  cases h : PySem.Str.ofString (toString ((n : Nat) : Int))
  rw [h] at e
  simp only at e
  rw [e]
theorem pr_str {K : PySem.W.Frag} : PRn K (fun xs H Q => ∃ i, xs = [.int i] ∧ i.natAbs.log2 < 1920 ∧ Q (.str (toString i)) H) (fun ts => match ts with
  | [.int i] => gStr [.int i]
  | _ => none) := by
  intro G ψ H xs ts d Q hs h e q
  match ts, e with
  | [.int i], e =>
    obtain ⟨v, rfl, r⟩ := h.one
    cases r.int
    simp only [gStr] at e
    split at e
    · rename_i hi
      cases e
      obtain ⟨n, rfl⟩ := Int.eq_ofNat_of_zero_le hi.1
      refine ⟨_, rfl, ?_, ?_⟩
      · have : n < 2 ^ 100 := by omega
        have h2 := PySem.Flt.log2_lt_of (k := 100) (by decide) (show ((n : Nat) : Int).natAbs < 2 ^ 100 by omega)
        omega
      · show Q (.str (PySem.Str.ofString (toString ((n : Nat) : Int)))) H
        rw [str_num]
        exact q.val hs (.str (numL_ok n))
    · cases e
def gInt : List T → Option DV
  | [.int i] => some (.val (.int i))
  | [.bl b] => some (.val (.int (if b then 1 else 0)))
  | _ => none
theorem pr_int {K : PySem.W.Frag} : PRn K (fun xs H Q => (∃ i, xs = [.int i] ∧ Q (.int i) H) ∨ ∃ k, xs = [.bl k] ∧ Q (.int (if k then 1 else 0)) H) gInt := by
  intro G ψ H xs ts d Q hs h e q
  match ts, e with
  | [.int i], e => obtain ⟨v, rfl, r⟩ := h.one; cases r.int; cases e; exact .inl ⟨i, rfl, q.val hs (.int _)⟩
  | [.bl b], e => obtain ⟨v, rfl, r⟩ := h.one; cases r.bl; cases e; exact .inr ⟨b, rfl, q.val hs (.int _)⟩
def gMin3 : List T → Option DV
  | [.int i, .int j, .int k] => some (.val (.int (min (min i j) k)))
  | _ => none
def gMax3 : List T → Option DV
  | [.int i, .int j, .int k] => some (.val (.int (max (max i j) k)))
  | _ => none
theorem nuMin2_int (i j : Int) : nuMin2 (.int i) (.int j) = some (.int (min i j)) := by
  have e : nuMin2 (.int i) (.int j) = some (if decide (j < i) = true then .int j else .int i) := rfl
  rw [e]
  by_cases h : j < i
  · rw [if_pos (by simpa using h), Int.min_eq_right (by omega)]
  · rw [if_neg (by simpa using h), Int.min_eq_left (by omega)]
theorem nuMax2_int (i j : Int) : nuMax2 (.int i) (.int j) = some (.int (max i j)) := by
  have e : nuMax2 (.int i) (.int j) = some (if decide (i < j) = true then .int j else .int i) := rfl
  rw [e]
  by_cases h : i < j
  · rw [if_pos (by simpa using h), Int.max_eq_right (by omega)]
  · rw [if_neg (by simpa using h), Int.max_eq_left (by omega)]
theorem pr_min3 {K : PySem.W.Frag} : PRn K (rNuC3 nuMin3) gMin3 := by
  intro G ψ H xs ts d Q hs h e q
  match ts, e with
  | [.int i, .int j, .int k], e =>
    obtain ⟨v, w, y, rfl, r1, r2, r3⟩ := h.three; cases r1.int; cases r2.int; cases r3.int; cases e
    refine ⟨_, _, _, .int (min (min i j) k), rfl, ?_, q.val hs (.int _)⟩
    show (nuMin2 (.int i) (.int j)).bind (fun m => nuMin2 m (.int k)) = _
    rw [nuMin2_int]
    exact nuMin2_int _ _
theorem pr_max3 {K : PySem.W.Frag} : PRn K (rNuC3 nuMax3) gMax3 := by
  intro G ψ H xs ts d Q hs h e q
  match ts, e with
  | [.int i, .int j, .int k], e =>
    obtain ⟨v, w, y, rfl, r1, r2, r3⟩ := h.three; cases r1.int; cases r2.int; cases r3.int; cases e
    refine ⟨_, _, _, .int (max (max i j) k), rfl, ?_, q.val hs (.int _)⟩
    show (nuMax2 (.int i) (.int j)).bind (fun m => nuMax2 m (.int k)) = _
    rw [nuMax2_int]
    exact nuMax2_int _ _
end Vi

set_option Elab.async false
set_option linter.all false
set_option maxRecDepth 100000
namespace PySem
open Sem (wp)
open AutoSeq1 (wpAny_loadPart')
set_option maxHeartbeats 1000000 in
theorem vi_enum_new {v : Value} {o : Obj} {H : Heap → Prop} (B : Begins v o H) :
    Meets (Builtin.«enumerate.__new__» ⟨[.type "enumerate", v], []⟩) (fun _ R s => H s.heap ∧
      R (.ok (.ret (.ref (s.heap.push o).objs.size))) { s with heap := (s.heap.push o).push { cls := .type "enumerate", data := .fields #[.none, .bool false, .ref s.heap.objs.size, rawInt 0, .none, .none] } }) :=
  .of_wp fun prog w A R s h => by
    obtain ⟨hp, g, d, tk, os⟩ := s; obtain ⟨h1, h⟩ := h
    have hsub := sub_enumerate
    have q1 : ∀ {A' : Around} {E : Value → Shared → Prop} {Q : Value → Shared → Prop}, Q (.ref hp.objs.size) ⟨hp.push o, g, d, tk, os⟩ → wpAny (model prog w) A' (pyIter v) Q E ⟨hp, g, d, tk, os⟩ :=
      fun q => B.iter prog w _ _ ⟨hp, g, d, tk, os⟩ _ h1 q
    wp_walk using q1
    refine wpAny_stack_any fun st => wpAny_pure ?_
    split
    · rename_i c _ _ _ _ _
      cases (c == Value.type "enumerate")
      · wp_walk using q1
        exact ⟨_, rfl, h⟩
      · wp_walk using q1
        exact ⟨_, rfl, h⟩
    · wp_walk using q1
      exact ⟨_, rfl, h⟩
theorem vi_enum_begins {prog : Program} {w : World} {A : Around} {E : Value → Shared → Prop} {s : Shared} {v : Value} {o : Obj} {H : Heap → Prop} {Q : Value → Shared → Prop} (B : Begins v o H) (h1 : H s.heap)
    (h : ∀ h', IsEnum h' (s.heap.objs.size + 1) s.heap.objs.size 0 .none → h'.get? s.heap.objs.size = some o → h'.objs.size = s.heap.objs.size + 2 →
      (∀ b o, s.heap.get? b = some o → h'.get? b = some o) → Q (.ref (s.heap.objs.size + 1)) { s with heap := h' }) :
    wpAny (model prog w) A (call (.type "enumerate") [v]) Q E s := by
  refine callType_new F.called_enumerate (by decide) (F.typeCall_enumerate_1 _) (F.newCall_enumerate_1 _) (fun obj => F.args_object_init_2 obj _) F.entry_enumerate_new
    (vi_enum_new B) ⟨h1, ?_⟩
  have hz : (s.heap.push o).objs.size = s.heap.objs.size + 1 := Heap.size_push ..
  show _ ∧ _
  rw [hz]
  have he : IsEnum ((s.heap.push o).push { cls := .type "enumerate", data := .fields #[.none, .bool false, .ref s.heap.objs.size, rawInt 0, .none, .none] }) (s.heap.objs.size + 1) s.heap.objs.size 0 .none := by
    have := Heap.get?_push_size (s.heap.push o) (o := { cls := .type "enumerate", data := .fields #[.none, .bool false, .ref s.heap.objs.size, rawInt 0, .none, .none] }) rfl
    rw [hz] at this; exact this
  refine ⟨⟨_, he, rfl⟩, h _ he (Heap.get?_push_of_some _ (Heap.get?_push_size _ B.free)) (by rw [Heap.size_push, hz]) fun b o x => Heap.get?_push_of_some _ (Heap.get?_push_of_some _ x)⟩
end PySem
namespace Vi
open PySem PySem.Spec PyProof.Rows L2

/-! ### enumerate and zip of lists and tuples, in any mix -/
/-- a list, a tuple (b) -/
def Sq (b : Bool) (K : PySem.W.Frag) (H : Hp) (a : Addr) (xs : List V) : Prop := match b with
  | true => SqT K H a xs
  | false => SqL K H a xs
def ItAt (b : Bool) (h : Heap) (it a : Addr) (i : Nat) : Prop := match b with
  | true => h.IsTupleIter it a i
  | false => h.IsListIter it a i
theorem ItAt.obj {b : Bool} {h : Heap} {it a : Addr} {i : Nat} (x : ItAt b h it a i) : ∃ o, h.get? it = some o ∧ ∀ v, o.data ≠ .cell v := by
  cases b with
  | true => obtain ⟨o, e, c, d⟩ := x; exact ⟨o, e, fun v q => by rw [d] at q; cases q⟩
  | false => obtain ⟨o, e, c, d⟩ := x; exact ⟨o, e, fun v q => by rw [d] at q; cases q⟩
theorem ItAt.at {b : Bool} {h h' : Heap} {it a : Addr} {i : Nat} (x : ItAt b h it a i) (k : ∀ o, h.get? it = some o → h'.get? it = some o) : ItAt b h' it a i := by
  cases b with
  | true => exact Heap.IsTupleIter.at x fun o e => k o e
  | false => exact Heap.IsListIter.at x fun o e => k o e
theorem Sq.inj {X : Cx} {pins : List (Addr × Obj)} {σ : L2.St} {H : Hp} {s : Shared} (I : Inv X pins σ H s) {b : Bool} {a : Addr} {xs ys : List V} (h : Sq b X.K H a xs) (h' : Sq b X.K H a ys) : xs = ys := by
  cases b with
  | true => exact I.tuple_inj h h'
  | false => exact I.list_inj h h'
/-- the sequence at a as a source of draws -/
theorem sq_draw {X : Cx} {pins : List (Addr × Obj)} {σ : L2.St} {H : Hp} {s : Shared} (I : Inv X pins σ H s) {b : Bool} {a : Addr} {xs : List V} (h : Sq b X.K H a xs) {A : Around} (hh : A.handled = none) {it : Addr} (hne : a ≠ it) :
    ∃ (its : List Value) (St : Nat → Heap → Prop), Vals xs its ∧ Draws X.prog X.w A it [it, a] its.length (fun i v => its[i]? = some v) St ∧ (∀ i, ItAt b s.heap it a i → St i s.heap) ∧ (∀ i h, St i h → ItAt b h it a i) := by
  cases b with
  | true =>
    obtain ⟨its, rv, p, hz⟩ := I.tuple h
    have D := Draws.tuple (prog := X.prog) (w := X.w) hh it a hne its.toArray
    exact ⟨its, fun i h => h.IsTupleIter it a i ∧ h.IsTuple a its.toArray, rv, by simpa using D, fun i x => ⟨x, p⟩, fun i h x => x.1⟩
  | false =>
    obtain ⟨its, rv, p, hz⟩ := I.list h
    have D := Draws.list (prog := X.prog) (w := X.w) hh it a hne its.toArray
    exact ⟨its, fun i h => h.IsListIter it a i ∧ h.IsList a its.toArray, rv, by simpa using D, fun i x => ⟨x, p.isList⟩, fun i h x => x.1⟩
theorem sq_ne {X : Cx} {pins : List (Addr × Obj)} {σ : L2.St} {H : Hp} {s : Shared} (I : Inv X pins σ H s) {b b' : Bool} {a c it : Addr} {i : Nat} {xs : List V} (h : Sq b X.K H a xs) (st : ItAt b' s.heap it c i) : a ≠ it := by
  rintro rfl
  have key : ∃ o its n, s.heap.get? a = some o ∧ o.data = .seq its n := by
    cases b with
    | true =>
      obtain ⟨its, rv, ⟨o, e, c', n, d⟩, hz⟩ := I.tuple h
      exact ⟨o, _, n, e, d⟩
    | false =>
      obtain ⟨its, rv, ⟨o, n, e, c', _, d⟩, hz⟩ := I.list h
      exact ⟨o, _, n, e, d⟩
  obtain ⟨o, its, n, e, d⟩ := key
  cases b' with
  | true => obtain ⟨o', e', c', d'⟩ := st; rw [e] at e'; cases e'; rw [d] at d'; cases d'
  | false => obtain ⟨o', e', c', d'⟩ := st; rw [e] at e'; cases e'; rw [d] at d'; cases d'
def IteX (b : Bool) (K : PySem.W.Frag) (a : Addr) : It :=
  ⟨fun i H => ∃ (xs : List V) (x : V), Sq b K H a xs ∧ xs[i]? = some x, fun i H v H' => ∃ T x, v = .ref T ∧ H T = none ∧ H' = upd H T (.tup [.int (i : Nat), x]) ∧ ∀ xs, Sq b K H a xs → xs[i]? = some x, fun i H => ∃ xs : List V, Sq b K H a xs ∧ xs.length = i⟩
theorem turn_enumX {P : Program} {w : World} {K : PySem.W.Frag} {elts : List Expr} {kk : Nat} {tpos : Pos} (b : Bool) (a e it : Addr) :
    Turn P w K (.Tuple elts kk tpos) (IteX b K a) [e, it] e (fun i h => (∃ old, IsEnum h e it ((i : Nat) : Int) old) ∧ ItAt b h it a i ∧ e ≠ it ∧ e ≠ a) where
  mem := by simp
  obj := fun i h st c hc => by
    obtain ⟨⟨old, he⟩, hi, _⟩ := st
    have e' : c = e ∨ c = it := by simpa using hc
    rcases e' with z | z
    · rw [z]; exact ⟨_, he, fun v q => nomatch q⟩
    · rw [z]; exact hi.obj
  keep := fun i h h' st k => let ⟨⟨old, he⟩, hi, hne, hna⟩ := st; ⟨⟨old, k e (by simp) _ he⟩, hi.at fun o q => k it (by simp) o q, hne, hna⟩
  item := by
    intro X hP hw hK hc i pins s σ H E I hf st hg
    subst hP hw hK
    obtain ⟨⟨old, he⟩, hit, hne, hna⟩ := st
    obtain ⟨xs, x, hq, hx⟩ := hg
    obtain ⟨its, St, rv, D, d1, d2⟩ := sq_draw (A := X.A.in1) I hq (I.ok.hd hc) (sq_ne I hq hit)
    obtain ⟨u, hu, ru⟩ := rv.get hx
    have hel : e < s.heap.objs.size := Heap.lt_size he
    have hil : it < s.heap.objs.size := by obtain ⟨_, q, _⟩ := hit.obj; exact Heap.lt_size q
    refine wpAny_pyNext_enum_itemD D he (d1 i hit) (List.getElem?_eq_some_iff.mp hu).1 hne (by simp [hne, hna]) fun y h' tk hy ho hst' hT hsz hk => ?_
    have ey : y = u := by rw [hu] at hy; exact (Option.some.inj hy).symm
    subst ey
    refine ⟨_, rfl, wpAny_letOwnedTupleGo_enum (s := { s with heap := h', toks := tk + 1 }) ho fun h'' he' sb => ?_⟩
    have hT2 : h''.get? s.heap.objs.size = some { cls := .type "tuple", data := .seq #[.int i tk, y] } := (sb.2 _ (Nat.ne_of_gt hel)).trans hT
    have new : ObjOk X.prog X.w (upd H s.heap.objs.size (.tup [.int (i : Nat), x])) h'' s.heap.objs.size (.tup [.int (i : Nat), x]) :=
      ⟨by show 2 ≤ sizeLine; decide, [.int i tk, y], .cons ⟨_, rfl⟩ (.cons ru .nil), ⟨_, hT2, rfl, _, rfl⟩⟩
    have I1 : Inv X pins σ (upd H s.heap.objs.size (.tup [.int (i : Nat), x])) { s with heap := h'', toks := tk + 1 } :=
      I.turnedNew (ch := [e, it]) (fun b ob hb q => (sb.2 b (fun z => hb (by simp [z]))).trans (hk b ob (fun z => hb (by simp [z])) (fun z => hb (by simp [z])) q)) hf (Nat.le_refl _) new
    refine ⟨.ref s.heap.objs.size, _, I1, rfl, ⟨_, x, rfl, I.hok.fresh (Nat.le_refl _), rfl, fun ys hy => by rw [Sq.inj I hy hq]; exact hx⟩, ⟨⟨y, ?_⟩, (d2 _ _ hst').at fun o q => (sb.2 it (Ne.symm hne)).trans q, hne, hna⟩, fun b hb => ?_⟩
    · have e1 : ((i + 1 : Nat) : Int) = (i : Int) + 1 := by omega
      rw [e1]; exact he'
    · have hb' : b < s.heap.objs.size := by
        have e' : b = e ∨ b = it := by simpa using hb
        rcases e' with z | z
        · rw [z]; exact hel
        · rw [z]; exact hil
      rw [upd_ne (Nat.ne_of_lt hb')]
      exact (hf b hb).1
  done := by
    intro X hP hw hK hc i pins s σ H E I hf st hg
    subst hP hw hK
    obtain ⟨⟨old, he⟩, hit, hne, hna⟩ := st
    obtain ⟨xs, hq, hx⟩ := hg
    obtain ⟨its, St, rv, D, d1, d2⟩ := sq_draw (A := X.A.in1) I hq (I.ok.hd hc) (sq_ne I hq hit)
    obtain ⟨f0, f1, f2, f3, f4, f5⟩ := hf it (by simp)
    have hl := rv.length
    have hi : i = its.length := by omega
    refine wpAny_pyNext_enum_endD D he (by rw [← hi]; exact d1 i hit) fun h' eb => ⟨rfl, I.turned (t' := s.toks) (fun b o hb q => eb b o hb q) f0 f1 f3 f4 f5⟩
  self := fun A i s Q E st h => let ⟨⟨_, he⟩, _⟩ := st; wpAny_pyIter_enum he h
theorem begins_sq {X : Cx} {pins : List (Addr × Obj)} {σ : L2.St} {H : Hp} {s : Shared} (I : Inv X pins σ H s) {b : Bool} {a : Addr} {xs : List V} (h : Sq b X.K H a xs) : ∃ o HH, Begins (.ref a) o HH ∧ HH s.heap ∧ (∀ h' it, h'.get? it = some o → ItAt b h' it a 0) := by
  cases b with
  | true =>
    obtain ⟨its, rv, p, hz⟩ := I.tuple h
    exact ⟨_, _, begins_tuple a its.toArray, p, fun h' it e => ⟨_, e, rfl, rfl⟩⟩
  | false =>
    obtain ⟨its, rv, p, hz⟩ := I.list h
    exact ⟨_, _, begins_list a its.toArray, p.isList, fun h' it e => ⟨_, e, rfl, rfl⟩⟩
theorem sq_lt {X : Cx} {pins : List (Addr × Obj)} {σ : L2.St} {H : Hp} {s : Shared} (I : Inv X pins σ H s) {b : Bool} {a : Addr} {xs : List V} (h : Sq b X.K H a xs) : a < s.heap.objs.size := by
  cases b with
  | true => obtain ⟨its, rv, p, hz⟩ := I.tuple h; exact p.lt
  | false => obtain ⟨its, rv, p, hz⟩ := I.list h; exact p.lt
def iEnumX (K : PySem.W.Frag) (ta : TA) : TI := fun σ H R => ta σ H fun vs H1 => ∃ b a xs, vs = [.ref a] ∧ Sq b K H1 a xs ∧ R (IteX b K a) H1
theorem pi_enumX {X : Cx} {e : Expr} {ta : TA} {p pos tpos : Pos} {elts : List Expr} {kk : Nat} (hg : Gl X "enumerate") (hm : X.mg "enumerate" = none) (ha : PA X [e] ta) (hs : starEach [e] X.env = [(false, eval e X.env)] := by rfl) :
    PI X (.Tuple elts kk tpos) (.Call (.Name "enumerate" p) [e] [] pos) (iEnumX X.K ta) := by
  refine ⟨fun pins s σ H R I h => ?_⟩
  refine Call_ (ld_blt I hg hm boot_enumerate (PyProof.Rows.callWith_type1 (thn (ha.run pos pins s σ H _ I h) fun us s1 ⟨vs, H1, I1, r1, q1⟩ => ?_) hs rfl))
  obtain ⟨b, a, xs, ex, hq, q⟩ := q1
  subst ex
  cases r1 with
  | cons r rr =>
    cases rr
    cases r
    obtain ⟨o, HH, B, hh, hbeg⟩ := begins_sq I1 hq
    have hlt := sq_lt I1 hq
    refine (vi_enum_begins B hh) fun h' he hit hsz hk => wpAny_pyIter_enum he ?_
    have I2 : Inv X pins σ H1 { s1 with heap := h' } := I1.kept (t' := s1.toks) hk
    refine ⟨s1.heap.objs.size + 1, [s1.heap.objs.size + 1, s1.heap.objs.size], _, _, H1, rfl, I2, turn_enumX b a (s1.heap.objs.size + 1) s1.heap.objs.size, ⟨⟨.none, he⟩, hbeg _ _ hit, Nat.succ_ne_self _, ?_⟩, fun b hb => ?_, q⟩
    · intro z
      rw [← z] at hlt
      exact absurd hlt (by show ¬ (s1.heap.objs.size + 1 < s1.heap.objs.size); omega)
    · have e' : b = s1.heap.objs.size + 1 ∨ b = s1.heap.objs.size := by simpa using hb
      have hle : s1.heap.objs.size ≤ b := by
        rcases e' with z | z
        · rw [z]; exact Nat.le_add_right _ _
        · rw [z]; exact Nat.le_refl _
      exact I1.fpOk hle (I1.hok.fresh hle)
def ItzX (b1 b2 : Bool) (K : PySem.W.Frag) (a b : Addr) : It :=
  ⟨fun i H => ∃ (xs ys : List V) (x y : V), Sq b1 K H a xs ∧ Sq b2 K H b ys ∧ xs[i]? = some x ∧ ys[i]? = some y,
    fun i H v H' => ∃ T x y, v = .ref T ∧ H T = none ∧ H' = upd H T (.tup [x, y]) ∧ (∀ xs, Sq b1 K H a xs → xs[i]? = some x) ∧ ∀ ys, Sq b2 K H b ys → ys[i]? = some y,
    fun i H => ∃ xs ys : List V, Sq b1 K H a xs ∧ Sq b2 K H b ys ∧ i = min xs.length ys.length⟩
theorem turn_zipX {P : Program} {w : World} {K : PySem.W.Frag} {elts : List Expr} {kk : Nat} {tpos : Pos} {b1 b2 : Bool} {a b z TI TO i1 i2 : Addr} (S : ZipSep2 z TI TO i1 i2 [i1, a] [i2, b]) :
    Turn P w K (.Tuple elts kk tpos) (ItzX b1 b2 K a b) [z, TI, TO, i1, i2] z (fun i h => IsZip h z TI TO .none ∧ IsTupOf2 h TI (.ref i1) (.ref i2) ∧ (∃ x y, IsTupOf2 h TO x y) ∧ ItAt b1 h i1 a i ∧ ItAt b2 h i2 b i) where
  mem := by simp
  obj := fun i h st c hc => by
    obtain ⟨hz, hTI, ⟨x, y, hTO⟩, h1, h2⟩ := st
    have e' : c = z ∨ c = TI ∨ c = TO ∨ c = i1 ∨ c = i2 := by simpa using hc
    rcases e' with q | q | q | q | q
    · rw [q]; exact ⟨_, hz, fun v q => nomatch q⟩
    · rw [q]; exact ⟨_, hTI, fun v q => nomatch q⟩
    · rw [q]; exact ⟨_, hTO, fun v q => nomatch q⟩
    · rw [q]; exact h1.obj
    · rw [q]; exact h2.obj
  keep := fun i h h' st k => by
    obtain ⟨hz, hTI, ⟨x, y, hTO⟩, h1, h2⟩ := st
    exact ⟨k z (by simp) _ hz, k TI (by simp) _ hTI, ⟨x, y, k TO (by simp) _ hTO⟩, h1.at fun o q => k i1 (by simp) o q, h2.at fun o q => k i2 (by simp) o q⟩
  item := by
    intro X hP hw hK hc i pins s σ H E I hf st hg
    subst hP hw hK
    obtain ⟨hz, hTI, ⟨x0, y0, hTO⟩, h1, h2⟩ := st
    obtain ⟨xs, ys, x, y, hqx, hqy, hx, hy⟩ := hg
    obtain ⟨its, St1, rv, D1, d1, d1'⟩ := sq_draw (A := X.A.in1) I hqx (I.ok.hd hc) (sq_ne I hqx h1)
    obtain ⟨its2, St2, rv2, D2, d2, d2'⟩ := sq_draw (A := X.A.in1) I hqy (I.ok.hd hc) (sq_ne I hqy h2)
    obtain ⟨u, hu, ru⟩ := rv.get hx
    obtain ⟨u2, hu2, ru2⟩ := rv2.get hy
    have hzl : z < s.heap.objs.size := Heap.lt_size hz
    have zi1 : i1 ≠ z := fun q => S.zf1 (by simp [q])
    have zi2 : i2 ≠ z := fun q => S.zf2 (by simp [q])
    refine wpAny_pyNext_zipD2_item S D1 D2 hz hTI hTO (d1 i h1) (d2 i h2) (List.getElem?_eq_some_iff.mp hu).1 (List.getElem?_eq_some_iff.mp hu2).1 fun y1 y2 h' tk e1 e2 z' TO' h1' h2' hT hsz hk => ?_
    have ey1 : y1 = u := by rw [hu] at e1; exact (Option.some.inj e1).symm
    have ey2 : y2 = u2 := by rw [hu2] at e2; exact (Option.some.inj e2).symm
    subst ey1 ey2
    refine ⟨_, rfl, wpAny_letOwnedTupleGo_zip (s := { s with heap := h', toks := tk }) z' fun h'' z'' sb => ?_⟩
    have hT2 : h''.get? s.heap.objs.size = some { cls := .type "tuple", data := .seq #[y1, y2] } := (sb.2 _ (Nat.ne_of_gt hzl)).trans hT
    have new : ObjOk X.prog X.w (upd H s.heap.objs.size (.tup [x, y])) h'' s.heap.objs.size (.tup [x, y]) :=
      ⟨by show 2 ≤ sizeLine; decide, [y1, y2], .cons ru (.cons ru2 .nil), ⟨_, hT2, rfl, _, rfl⟩⟩
    have I1 : Inv X pins σ (upd H s.heap.objs.size (.tup [x, y])) { s with heap := h'', toks := tk } :=
      I.turnedNew (ch := [z, TI, TO, i1, i2]) (fun c o hb q => (sb.2 c (fun q' => hb (by simp [q']))).trans (hk c o (fun q' => hb (by simp [q'])) (fun q' => hb (by simp [q'])) (fun q' => hb (by simp [q'])) (fun q' => hb (by simp [q'])) q)) hf (Nat.le_refl _) new
    refine ⟨.ref s.heap.objs.size, _, I1, rfl, ⟨_, x, y, rfl, I.hok.fresh (Nat.le_refl _), rfl, fun l hl => by rw [Sq.inj I hl hqx]; exact hx, fun l hl => by rw [Sq.inj I hl hqy]; exact hy⟩, ⟨z'', ?_, ⟨y1, y2, ?_⟩, ?_, ?_⟩, fun c hcm => ?_⟩
    · exact (sb.2 _ S.TIz).trans (hk _ _ S.TIz S.TITO S.TIi1 S.TIi2 hTI)
    · exact (sb.2 _ S.TOz).trans TO'
    · exact (d1' _ _ h1').at fun o q => (sb.2 _ zi1).trans q
    · exact (d2' _ _ h2').at fun o q => (sb.2 _ zi2).trans q
    · have hlt : c < s.heap.objs.size := by
        have e' : c = z ∨ c = TI ∨ c = TO ∨ c = i1 ∨ c = i2 := by simpa using hcm
        rcases e' with q | q | q | q | q
        · rw [q]; exact hzl
        · rw [q]; exact Heap.lt_size hTI
        · rw [q]; exact Heap.lt_size hTO
        · rw [q]; obtain ⟨_, e1, _⟩ := h1.obj; exact Heap.lt_size e1
        · rw [q]; obtain ⟨_, e2, _⟩ := h2.obj; exact Heap.lt_size e2
      rw [upd_ne (Nat.ne_of_lt hlt)]
      exact (hf c hcm).1
  done := by
    intro X hP hw hK hc i pins s σ H E I hf st hg
    subst hP hw hK
    obtain ⟨hz, hTI, ⟨x0, y0, hTO⟩, h1, h2⟩ := st
    obtain ⟨xs, ys, hqx, hqy, hend⟩ := hg
    obtain ⟨its, St1, rv, D1, d1, d1'⟩ := sq_draw (A := X.A.in1) I hqx (I.ok.hd hc) (sq_ne I hqx h1)
    obtain ⟨its2, St2, rv2, D2, d2, d2'⟩ := sq_draw (A := X.A.in1) I hqy (I.ok.hd hc) (sq_ne I hqy h2)
    have l1 := rv.length
    have l2 := rv2.length
    exact wpAny_pyNext_zipD2_end S D1 D2 hz hTI hTO (d1 i h1) (d2 i h2) (by omega) (by omega) (by omega) fun h' tk hk => ⟨rfl, I.turnedL (t' := tk) (ch := [z, TI, TO, i1, i2]) (fun c o hb q =>
      hk c o (fun q' => hb (by simp [q'])) (fun q' => hb (by simp [q'])) (fun q' => hb (by simp [q'])) (fun q' => hb (by simp [q'])) q) hf⟩
  self := fun A i s Q E st h => wpAny_pyIter_zip st.1 h
def iZipX (K : PySem.W.Frag) (ta : TA) : TI := fun σ H R => ta σ H fun vs H1 => ∃ b1 b2 a b xs ys, vs = [.ref a, .ref b] ∧ Sq b1 K H1 a xs ∧ Sq b2 K H1 b ys ∧ R (ItzX b1 b2 K a b) H1
theorem pi_zipX {X : Cx} {e e2 : Expr} {ta : TA} {p pos tpos : Pos} {elts : List Expr} {kk : Nat} (hg : Gl X "zip") (hm : X.mg "zip" = none) (ha : PA X [e, e2] ta)
    (hs : starEach [e, e2] X.env = (false, eval e X.env) :: starEach [e2] X.env := by rfl) (hpl : (backTo pos (starEach [e2] X.env)).any (·.1) = false := by rfl) :
    PI X (.Tuple elts kk tpos) (.Call (.Name "zip" p) [e, e2] [] pos) (iZipX X.K ta) := by
  refine ⟨fun pins s σ H R I h => ?_⟩
  refine Call_ (ld_blt I hg hm PyProof.Rows.boot_zip (PyProof.Rows.callWith_type1 (thn (ha.run pos pins s σ H _ I h) fun us s1 ⟨vs, H1, I1, r1, q1⟩ => ?_) hs hpl))
  obtain ⟨b1, b2, a, b, xs, ys, ex, hqx, hqy, q⟩ := q1
  subst ex
  cases r1 with
  | cons r rr =>
    cases rr with
    | cons r' rr =>
      cases rr
      cases r
      cases r'
      have fresh5 : ∀ c, c ∈ [s1.heap.objs.size + 4, s1.heap.objs.size + 2, s1.heap.objs.size + 3, s1.heap.objs.size, s1.heap.objs.size + 1] → FpOk X pins H1 c := fun c hcm => by
        have e' : c = s1.heap.objs.size + 4 ∨ c = s1.heap.objs.size + 2 ∨ c = s1.heap.objs.size + 3 ∨ c = s1.heap.objs.size ∨ c = s1.heap.objs.size + 1 := by simpa using hcm
        have hle : s1.heap.objs.size ≤ c := by
          rcases e' with z | z | z | z | z
          · rw [z]; exact Nat.le_add_right _ _
          · rw [z]; exact Nat.le_add_right _ _
          · rw [z]; exact Nat.le_add_right _ _
          · rw [z]; exact Nat.le_refl _
          · rw [z]; exact Nat.le_add_right _ _
        exact I1.fpOk hle (I1.hok.fresh hle)
      obtain ⟨o1, HH1, B1, hh1, hb1⟩ := begins_sq I1 hqx
      obtain ⟨o2, HH2, B2, hh2, hb2⟩ := begins_sq I1 hqy
      have l1 := sq_lt I1 hqx
      have l2 := sq_lt I1 hqy
      refine zip_begins2 B1 B2 hh1 hh2 fun h' hz hTI hTO h1 h2 hsz hk => wpAny_pyIter_zip hz ?_
      have I2 : Inv X pins σ H1 { s1 with heap := h' } := I1.kept (t' := s1.toks) hk
      exact ⟨s1.heap.objs.size + 4, [s1.heap.objs.size + 4, s1.heap.objs.size + 2, s1.heap.objs.size + 3, s1.heap.objs.size, s1.heap.objs.size + 1], _, _, H1, rfl, I2,
        turn_zipX (zip_sep2 (fp1 := [a]) (fp2 := [b]) (fun c hc => by rw [List.mem_singleton.mp hc]; exact l1) (fun c hc => by rw [List.mem_singleton.mp hc]; exact l2)), ⟨hz, hTI, ⟨_, _, hTO⟩, hb1 _ _ h1, hb2 _ _ h2⟩, fresh5, q⟩
end Vi

set_option Elab.async false
set_option linter.all false
set_option maxRecDepth 100000
namespace Vi
open PySem PySem.Spec PyProof.Rows L2

/-! ### what is walked -/
structure Wk (K : PySem.W.Frag) (G : Hp) (ψ : List Addr) (ω : Addr → Option Ow) (J : It) (its : List T) : Prop where
  stop : ∀ H, Same G H → (∀ a o, ω a = some (.hold o) → H a = some o) → J.stop its.length H
  item : ∀ G1 ψ1 H (i : Nat) (t : T), Same G G1 → ψ <+: ψ1 → Same G1 H → (∀ a o, ω a = some (.hold o) → H a = some o) → its[i]? = some t → J.go i H ∧ ∀ x H', J.yld i H x H' → ∃ G2, Al G1 H G2 H' ∧ Rp K G2 ψ1 x t
theorem Wk.mono {K : PySem.W.Frag} {G G' : Hp} {ψ ψ' : List Addr} {ω ω' : Addr → Option Ow} {J : It} {its : List T} (w : Wk K G ψ ω J its) (m : Mo G ψ ω G' ψ' ω') : Wk K G' ψ' ω' J its :=
  ⟨fun H hs hh => w.stop H (m.g.trans hs) fun a o h => hh a o (m.h a o h), fun G1 ψ1 H i t hg hp hs hh e => w.item G1 ψ1 H i t (m.g.trans hg) (m.p.trans hp) hs (fun a o h => hh a o (m.h a o h)) e⟩
section
variable {K : PySem.W.Frag} {G : Hp} {ψ : List Addr} {ω : Addr → Option Ow}
theorem wk_at {J : It} {xs : List V} {ts : List T} (r : RpA K G ψ xs ts) (h1 : ∀ H, Same G H → (∀ a o, ω a = some (.hold o) → H a = some o) → J.stop xs.length H)
    (h2 : ∀ H i x, Same G H → (∀ a o, ω a = some (.hold o) → H a = some o) → xs[i]? = some x → J.go i H ∧ ∀ y H', J.yld i H y H' → H' = H ∧ y = x) : Wk K G ψ ω J ts := by
  refine ⟨fun H hs hh => by rw [← r.len]; exact h1 H hs hh, fun G1 ψ1 H i t hg hp hs hh e => ?_⟩
  obtain ⟨x, ex, rx⟩ := r.get e
  obtain ⟨q1, q2⟩ := h2 H i x (hg.trans hs) hh ex
  refine ⟨q1, fun y H' hy => ?_⟩
  obtain ⟨rfl, rfl⟩ := q2 y H' hy
  exact ⟨G1, Al.refl hs, rx.mono hg hp⟩
theorem wk_list {a : Addr} {xs : List V} {ts : List T} (r : RpA K G ψ xs ts) (h : ∀ H, Same G H → (∀ a o, ω a = some (.hold o) → H a = some o) → SqL K H a xs) : Wk K G ψ ω (Itl K a) ts :=
  wk_at r (fun H hs hh => ⟨xs, h H hs hh, Nat.le_refl _⟩) fun H i x hs hh ex => ⟨⟨xs, x, h H hs hh, ex⟩, fun y H' hy => ⟨hy.1, by have := hy.2 xs (h H hs hh); rw [ex] at this; exact (Option.some.inj this).symm⟩⟩
theorem wk_tup {a : Addr} {xs : List V} {ts : List T} (r : RpA K G ψ xs ts) (h : ∀ H, Same G H → SqT K H a xs) : Wk K G ψ ω (Itt K a) ts :=
  wk_at r (fun H hs hh => ⟨xs, h H hs, Nat.le_refl _⟩) fun H i x hs hh ex => ⟨⟨xs, x, h H hs, ex⟩, fun y H' hy => ⟨hy.1, by have := hy.2 xs (h H hs); rw [ex] at this; exact (Option.some.inj this).symm⟩⟩
def chars (x : List Nat) : List T := x.map fun c => .str [c]
theorem rpA_chars {x : List Nat} (h : x.all (· < 0x110000) = true) : RpA K G ψ (x.map fun c => V.str ⟨#[c]⟩) (chars x) := by
  induction x with
  | nil => exact .nil
  | cons c r ih =>
    rw [List.all_cons, Bool.and_eq_true] at h
    exact .cons (Rp.str (x := [c]) (by rw [List.all_cons, h.1]; rfl)) (ih h.2)
theorem wk_str {x : List Nat} (h : x.all (· < 0x110000) = true) : Wk K G ψ ω (Its ⟨x.toArray⟩) (chars x) := by
  refine wk_at (rpA_chars h) (fun H hs hh => ?_) fun H i y hs hh ey => ?_
  · show (x.toArray).size ≤ _
    simp
  · rw [List.getElem?_map] at ey
    obtain ⟨c, hc, rfl⟩ := Option.map_eq_some_iff.mp ey
    refine ⟨?_, fun z H' hz => ⟨hz.1, ?_⟩⟩
    · show i < (x.toArray).size
      simpa using (List.getElem?_eq_some_iff.mp hc).1
    · obtain ⟨_, c', hc', rfl⟩ := hz
      have : x[i]? = some c' := by simpa using hc'
      rw [hc] at this
      cases this
      rfl
theorem rpA_ints (ns : List Int) : RpA K G ψ (ns.map V.int) (ns.map T.int) := by
  induction ns with
  | nil => exact .nil
  | cons c r ih => exact .cons (.int c) ih
def rangeT (lo : Int) (n : Nat) : List T := (List.range n).map fun i => T.int (lo + (i : Nat))
def rangeV (lo : Int) (n : Nat) : List V := (List.range n).map fun i => V.int (lo + (i : Nat))
theorem rpA_range (lo : Int) (n : Nat) : RpA K G ψ (rangeV lo n) (rangeT lo n) := by
  have := rpA_ints (K := K) (G := G) (ψ := ψ) ((List.range n).map fun i => lo + (i : Nat))
  simpa [rangeV, rangeT, List.map_map, Function.comp_def] using this
theorem wk_range (lo : Int) (n : Nat) : Wk K G ψ ω (Itr lo n) (rangeT lo n) := by
  refine wk_at (rpA_range lo n) (fun H hs hh => ?_) fun H i y hs hh ey => ?_
  · show n ≤ (rangeV lo n).length
    simp [rangeV]
  · unfold rangeV at ey
    rw [List.getElem?_map] at ey
    obtain ⟨c, hc, rfl⟩ := Option.map_eq_some_iff.mp ey
    obtain ⟨h1, h2⟩ := List.getElem?_eq_some_iff.mp hc
    have hi : i < n := by simpa using h1
    have e : c = i := by simpa using h2.symm
    subst e
    exact ⟨hi, fun z H' hz => hz⟩
def rangeTC (lo c : Int) (n : Nat) : List T := (List.range n).map fun i => T.int (lo + (i : Nat) * c)
theorem wk_rangeC (lo c : Int) (n : Nat) : Wk K G ψ ω (Itc lo c n) (rangeTC lo c n) := by
  have r : RpA K G ψ ((List.range n).map fun i => V.int (lo + (i : Nat) * c)) (rangeTC lo c n) := by
    have := rpA_ints (K := K) (G := G) (ψ := ψ) ((List.range n).map fun i => lo + (i : Nat) * c)
    simpa [rangeTC, List.map_map, Function.comp_def] using this
  refine wk_at r (fun H hs hh => ?_) fun H i y hs hh ey => ?_
  · show n ≤ _
    simp
  · rw [List.getElem?_map] at ey
    obtain ⟨d, hc, rfl⟩ := Option.map_eq_some_iff.mp ey
    obtain ⟨h1, h2⟩ := List.getElem?_eq_some_iff.mp hc
    have hi : i < n := by simpa using h1
    have e : d = i := by simpa using h2.symm
    subst e
    exact ⟨hi, fun z H' hz => hz⟩
def enumT (ts : List T) : List T := (ts.zipIdx).map fun p => T.tup [.int (p.2 : Nat), p.1]
theorem enumT_get {ts : List T} {i : Nat} {t : T} (h : (enumT ts)[i]? = some t) : ∃ u, ts[i]? = some u ∧ t = .tup [.int (i : Nat), u] := by
  unfold enumT at h
  rw [List.getElem?_map] at h
  obtain ⟨⟨u, k⟩, h1, rfl⟩ := Option.map_eq_some_iff.mp h
  rw [List.getElem?_zipIdx] at h1
  obtain ⟨u', h2, h3⟩ := Option.map_eq_some_iff.mp h1
  simp only [Prod.mk.injEq] at h3
  obtain ⟨rfl, rfl⟩ := h3
  exact ⟨_, h2, by simp⟩
theorem enumT_len (ts : List T) : (enumT ts).length = ts.length := by simp [enumT]
theorem wk_enum {b : Bool} {a : Addr} {xs : List V} {ts : List T} (r : RpA K G ψ xs ts) (h : ∀ H, Same G H → (∀ a o, ω a = some (.hold o) → H a = some o) → Sq b K H a xs) : Wk K G ψ ω (IteX b K a) (enumT ts) := by
  refine ⟨fun H hs hh => ⟨xs, h H hs hh, by rw [enumT_len, r.len]⟩, fun G1 ψ1 H i t hg hp hs hh e => ?_⟩
  obtain ⟨u, e1, rfl⟩ := enumT_get e
  obtain ⟨x, ex, rx⟩ := r.get e1
  refine ⟨⟨xs, x, h H (hg.trans hs) hh, ex⟩, fun y H' hy => ?_⟩
  obtain ⟨T', x', rfl, hT, rfl, hx⟩ := hy
  have : x' = x := by have := hx xs (h H (hg.trans hs) hh); rw [ex] at this; exact (Option.some.inj this).symm
  subst this
  exact ⟨_, Al.frz hs hT, .tup upd_same (.cons (.int _) (.cons (rx.mono (hg.trans (same_upd (hs.free hT))) hp) .nil))⟩
def zipT (ts us : List T) : List T := List.zipWith (fun t u => T.tup [t, u]) ts us
theorem wk_zip {b1 b2 : Bool} {a c : Addr} {xs ys : List V} {ts us : List T} (r : RpA K G ψ xs ts) (r2 : RpA K G ψ ys us) (h : ∀ H, Same G H → (∀ a o, ω a = some (.hold o) → H a = some o) → Sq b1 K H a xs) (h2 : ∀ H, Same G H → (∀ a o, ω a = some (.hold o) → H a = some o) → Sq b2 K H c ys) :
    Wk K G ψ ω (ItzX b1 b2 K a c) (zipT ts us) := by
  refine ⟨fun H hs hh => ⟨xs, ys, h H hs hh, h2 H hs hh, by simp [zipT, r.len, r2.len]⟩, fun G1 ψ1 H i t hg hp hs hh e => ?_⟩
  unfold zipT at e
  rw [List.getElem?_zipWith] at e
  cases e1 : ts[i]? with
  | none => rw [e1] at e; cases e
  | some t' => cases e2 : us[i]? with
    | none => rw [e1, e2] at e; cases e
    | some u' =>
      rw [e1, e2] at e
      cases e
      obtain ⟨x, ex, rx⟩ := r.get e1
      obtain ⟨y, ey, ry⟩ := r2.get e2
      refine ⟨⟨xs, ys, x, y, h H (hg.trans hs) hh, h2 H (hg.trans hs) hh, ex, ey⟩, fun z H' hz => ?_⟩
      obtain ⟨T', x', y', rfl, hT, rfl, hx, hy⟩ := hz
      have q1 : x' = x := by have := hx xs (h H (hg.trans hs) hh); rw [ex] at this; exact (Option.some.inj this).symm
      have q2 : y' = y := by have := hy ys (h2 H (hg.trans hs) hh); rw [ey] at this; exact (Option.some.inj this).symm
      subst q1 q2
      have hg2 := hg.trans (same_upd (o := .tup [x', y']) (hs.free hT))
      exact ⟨_, Al.frz hs hT, .tup upd_same (.cons (rx.mono hg2 hp) (.cons (ry.mono hg2 hp) .nil))⟩
end
def tIt (K : PySem.W.Frag) (W : WX) (cv : CV) (m : S → Res (List T)) : TI := fun σ H R => ∃ G ψ ω s, Rel K G ψ ω s σ H ∧ Fin K W cv σ G ψ ω (m s) fun its G' ψ' ω' _ H' => ∀ J, Wk K G' ψ' ω' J its → R J H'
structure EvI (X : Cx) (W : WX) (cv : CV) (tg iter : Expr) (m : S → Res (List T)) : Prop where
  pi : PI X tg iter (tIt X.K W cv m)
theorem pi_w {X : Cx} {tg e : Expr} {t t' : TI} (h : PI X tg e t) (w : ∀ σ H R, t' σ H R → t σ H R) : PI X tg e t' := ⟨fun pins s σ H R I q => h.run pins s σ H R I (w σ H R q)⟩
theorem pi_or {X : Cx} {tg e : Expr} {t t' : TI} (h : PI X tg e t) (h' : PI X tg e t') : PI X tg e (fun σ H R => t σ H R ∨ t' σ H R) :=
  ⟨fun pins s σ H R I q => q.elim (fun q => h.run pins s σ H R I q) fun q => h'.run pins s σ H R I q⟩
def itemsOf : T → Option (List T)
  | .lst ts => some ts
  | .tup ts => some ts
  | .ktup ts => some ts
  | .str x => some (chars x)
  | .scr ns => some (ns.map .int)
  | _ => none
/-- a value that is walked (a list of one's own is locked for good) -/
def mItr (ma : M) : S → Res (List T) := fun s => (ma s).bind fun d s1 => match d with
  | .bor t => (match itemsOf t with
    | some its => .ok its s1
    | none => .bad)
  | d => (match tk (dz d) s1 with
    | some (t, s2) => (match itemsOf t with
      | some its => .ok its s2
      | none => .bad)
    | none => .bad)
section
variable {X : Cx} {W : WX} {cv : CV} {tg e : Expr} {ma : M}
abbrev iAny (K : PySem.W.Frag) (t : TE) : TI := fun σ H R => (iList K t σ H R ∨ iTup K t σ H R) ∨ iStr t σ H R
theorem pi_any {t : TE} (h : PE X e t) : PI X tg e (iAny X.K t) := pi_or (pi_or (pi_list h) (pi_tup h)) (pi_str h)
inductive ItV (K : PySem.W.Frag) (G : Hp) (ψ : List Addr) (ω : Addr → Option Ow) (H : Hp) (v : V) (its : List T) : Nat → Prop
  | l (a : Addr) (xs : List V) : v = .ref a → SqL K H a xs → Wk K G ψ ω (Itl K a) its → ItV K G ψ ω H v its 0
  | t (a : Addr) (xs : List V) : v = .ref a → SqT K H a xs → Wk K G ψ ω (Itt K a) its → ItV K G ψ ω H v its 1
  | s (x : Str) : v = .str x → Wk K G ψ ω (Its x) its → ItV K G ψ ω H v its 2
def knd : T → Nat
  | .lst _ => 0
  | .tup _ => 1
  | .ktup _ => 1
  | .str _ => 2
  | _ => 0
theorem itV_val {K : PySem.W.Frag} {G : Hp} {ψ : List Addr} {ω : Addr → Option Ow} {H : Hp} {v : V} {t : T} {its : List T} (hs : Same G H) (r : Rp K G ψ v t) (e : itemsOf t = some its) : ItV K G ψ ω H v its (knd t) := by
  cases r with
  | lst h r => cases e; exact .l _ _ rfl (SqL.of (hs _ _ h)) (wk_list r fun H hs _ => SqL.of (hs _ _ h))
  | tup h r => cases e; exact .t _ _ rfl (SqT.of (hs _ _ h)) (wk_tup r fun H hs => SqT.of (hs _ _ h))
  | ktup h r => cases e; exact .t _ _ rfl (h H) (wk_tup r fun H _ => h H)
  | str h => cases e; exact .s _ rfl (wk_str h)
  | scr h => cases e; exact .l _ _ rfl (sqL_same hs h) (wk_list (rpA_ints _) fun H hs _ => sqL_same hs h)
  | _ => cases e
theorem itV_bor {K : PySem.W.Frag} {G : Hp} {ψ : List Addr} {ω : Addr → Option Ow} {H : Hp} {a : Addr} {o : HO} {t : T} {its : List T} (hs : Same G H) (w : ω a = some (.hold o)) (h : H a = some o) (c : Ct K G ψ o t) (e : itemsOf t = some its) : ItV K G ψ ω H (.ref a) its (knd t) := by
  cases c with
  | lst r => cases e; exact .l _ _ rfl (SqL.of h) (wk_list r fun H _ hh => SqL.of (hh _ _ w))
  | dk => cases e
  | dt => cases e
theorem tI_mono {K : PySem.W.Frag} {σ : L2.St} {H : Hp} {Q Q' : VK} (h : tI K W cv ma σ H Q) (w : ∀ v H, Q v H → Q' v H) : tI K W cv ma σ H Q' := by
  obtain ⟨G, ψ, ω, s, R, f⟩ := h
  exact ⟨G, ψ, ω, s, R, f.imp fun d G' ψ' ω' s' H' _ _ q v r => w _ _ (q v r)⟩
theorem iK_of {K : PySem.W.Frag} {σ : L2.St} {H : Hp} {Z : It → Hp → Prop} {k : Nat} (h : tI K W cv ma σ H fun v H1 => ∃ G ψ ω its, ItV K G ψ ω H1 v its k ∧ ∀ J, Wk K G ψ ω J its → Z J H1) : iAny K (tI K W cv ma) σ H Z := by
  match k, h with
  | 0, h =>
    refine .inl (.inl (tI_mono h fun v H1 ⟨G, ψ, ω, its, i, q⟩ => ?_))
    cases i with
    | l a xs e hq w => exact ⟨a, e, ⟨xs, hq⟩, q _ w⟩
  | 1, h =>
    refine .inl (.inr (tI_mono h fun v H1 ⟨G, ψ, ω, its, i, q⟩ => ?_))
    cases i with
    | t a xs e hq w => exact ⟨a, e, ⟨xs, hq⟩, q _ w⟩
  | 2, h =>
    refine .inr (tI_mono h fun v H1 ⟨G, ψ, ω, its, i, q⟩ => ?_)
    cases i with
    | s x e w => exact ⟨x, e, q _ w⟩
  | k + 3, h =>
    refine .inr (tI_mono h fun v H1 ⟨G, ψ, ω, its, i, q⟩ => ?_)
    cases i
theorem mItr_on {K : PySem.W.Frag} {σ : L2.St} {H : Hp} {Z : It → Hp → Prop} (h : tIt K W cv (mItr ma) σ H Z) : iAny K (tI K W cv ma) σ H Z := by
  obtain ⟨G, ψ, ω, s, R, f⟩ := h
  unfold mItr at f
  cases hm : ma s with
  | bad => rw [hm] at f; exact f.elim
  | ex c s' => rw [hm] at f; exact iK_of (k := 0) ⟨G, ψ, ω, s, R, by rw [hm]; exact f⟩
  | ok d s1 =>
    rw [hm] at f
    simp only [Res.bind_ok] at f
    have gen : ∀ d : DV, (∀ t, d ≠ .bor t) → ma s = .ok d s1 → Fin K W cv σ G ψ ω (match tk (dz d) s1 with
      | some (t, s2) => (match itemsOf t with
        | some its => .ok its s2
        | none => .bad)
      | none => .bad) (fun its G' ψ' ω' _ H' => ∀ J, Wk K G' ψ' ω' J its → Z J H') → iAny K (tI K W cv ma) σ H Z := by
      intro d hd hm f
      cases e : tk (dz d) s1 with
      | none => rw [e] at f; exact f.elim
      | some p =>
        obtain ⟨t, s2⟩ := p
        rw [e] at f
        cases e2 : itemsOf t with
        | none => simp only [e2] at f; exact f.elim
        | some its =>
          simp only [e2] at f
          refine iK_of (k := knd t) ⟨G, ψ, ω, s, R, ?_⟩
          rw [hm]
          intro G1 ψ1 ω1 H1 mo1 R1 v rv
          obtain ⟨G2, mo2, R2, rv2⟩ := R1.dz rv
          obtain ⟨G3, ω3, mo3, R3, rp⟩ := R2.tk rv2 e
          exact ⟨G3, ψ1, ω3, its, itV_val R3.le rp e2, fun J w => f G3 ψ1 ω3 H1 (mo1.trans (mo2.trans mo3)) R3 J w⟩
    cases d with
    | bor t =>
      cases e2 : itemsOf t with
      | none => simp only [e2] at f; exact f.elim
      | some its =>
        simp only [e2] at f
        refine iK_of (k := knd t) ⟨G, ψ, ω, s, R, ?_⟩
        rw [hm]
        intro G1 ψ1 ω1 H1 mo1 R1 v rv
        obtain ⟨a, o, rfl, w, c⟩ := rv
        exact ⟨G1, ψ1, ω1, its, itV_bor R1.le w (R1.hold _ _ w) c e2, fun J w => f G1 ψ1 ω1 H1 mo1 R1 J w⟩
    | val t => exact gen _ (fun t q => by cases q) hm f
    | new t => exact gen _ (fun t q => by cases q) hm f
    | ali i => exact gen _ (fun t q => by cases q) hm f
theorem ei_val (h : Ev X W cv e ma) : EvI X W cv tg e (mItr ma) := ⟨pi_w (pi_any h.pe) fun σ H R h => mItr_on h⟩
/-- below 2 ^ 40 both ways (told so that no check of a proof counts it out) -/
@[irreducible] def small : Int → Bool
  | .ofNat n => Nat.ble n 1099511627775
  | .negSucc n => Nat.ble n 1099511627775
theorem small_of {i : Int} (h : small i = true) : i < 2 ^ 40 ∧ -(2 ^ 40) ≤ i := by
  unfold small at h
  cases i with
  | ofNat n => have := Nat.le_of_ble_eq_true h; simp; omega
  | negSucc n => have := Nat.le_of_ble_eq_true h; omega
theorem small_in {i : Int} (h0 : i < 2 ^ 40) (h1 : -(2 ^ 40) ≤ i) : small i = true := by
  unfold small
  cases i with
  | ofNat n => exact Nat.ble_eq_true_of_le (by simp at h0; omega)
  | negSucc n => exact Nat.ble_eq_true_of_le (by omega)
theorem small_nat {n : Nat} (h : n ≤ 1000000) : small (n : Int) = true := small_in (by omega) (by omega)
def mRng1 (ms : List M) : S → Res (List T) := fun s => (evs ms s).bind fun ds s1 => match ds with
  | [.val (.int j)] => if small j then .ok (rangeT 0 j.toNat) s1 else .bad
  | _ => .bad
def mRng2 (ms : List M) : S → Res (List T) := fun s => (evs ms s).bind fun ds s1 => match ds with
  | [.val (.int i), .val (.int j)] => if small i && small j then .ok (rangeT i (j - i).toNat) s1 else .bad
  | _ => .bad
def mRng3 (ms : List M) : S → Res (List T) := fun s => (evs ms s).bind fun ds s1 => match ds with
  | [.val (.int i), .val (.int j), .val (.int k)] => if small i && small j && k == -1 then .ok (rangeTC i (-1) (i - j).toNat) s1 else .bad
  | _ => .bad
theorem val_int {K : PySem.W.Frag} {G : Hp} {ψ : List Addr} {ω : Addr → Option Ow} {σ : L2.St} {H : Hp} {v : V} {j : Int} (r : RD K G ψ ω σ H v (dz (.val (.int j)))) : v = .int j := by
  have r' : Rp K G ψ v (.int j) := r
  cases r'; rfl
/-- the list or tuple to which a value comes for enumerate, zip -/
def seqOf : T → Option (List T)
  | .lst ts => some ts
  | .tup ts => some ts
  | .ktup ts => some ts
  | _ => none
/-- as a walked thing: locked for good, if it is one's own -/
def lk (d : DV) (s : S) : Option (T × S) := match d with
  | .bor t => some (t, s)
  | d => tk d s
def mEnum (ms : List M) : S → Res (List T) := fun s => (evs ms s).bind fun ds s1 => match ds with
  | [d] => (match lk d s1 with
    | some (t, s2) => (match seqOf t with
      | some ts => .ok (enumT ts) s2
      | none => .bad)
    | none => .bad)
  | _ => .bad
def mZip (ms : List M) : S → Res (List T) := fun s => (evs ms s).bind fun ds s1 => match ds with
  | [d, e] => (match lk d s1 with
    | some (t, s2) => (match lk e s2 with
      | some (u, s3) => (match seqOf t, seqOf u with
        | some ts, some us => .ok (zipT ts us) s3
        | _, _ => .bad)
      | none => .bad)
    | none => .bad)
  | _ => .bad
/-- locked: it stands from here on -/
def Lkd (K : PySem.W.Frag) (G : Hp) (ψ : List Addr) (ω : Addr → Option Ow) (v : V) (t : T) : Prop := Rp K G ψ v t ∨ ∃ a o, v = .ref a ∧ ω a = some (.hold o) ∧ Ct K G ψ o t
theorem Lkd.mono {K : PySem.W.Frag} {G G' : Hp} {ψ ψ' : List Addr} {ω ω' : Addr → Option Ow} {v : V} {t : T} (m : Mo G ψ ω G' ψ' ω') (h : Lkd K G ψ ω v t) : Lkd K G' ψ' ω' v t := by
  rcases h with h | ⟨a, o, e, w, c⟩
  · exact .inl (h.mono m.g m.p)
  · exact .inr ⟨a, o, e, m.h _ _ w, c.mono m.g m.p⟩
theorem Rel.lk {K : PySem.W.Frag} {G : Hp} {ψ : List Addr} {ω : Addr → Option Ow} {s s' : S} {σ : L2.St} {H : Hp} {v : V} {d : DV} {t : T} (R : Rel K G ψ ω s σ H) (r : RD K G ψ ω σ H v (Vi.dz d)) (e : Vi.lk (Vi.dz d) s = some (t, s')) : ∃ G' ω', Mo G ψ ω G' ψ ω' ∧ Rel K G' ψ ω' s' σ H ∧ Lkd K G' ψ ω' v t := by
  cases d with
  | bor x => cases e; obtain ⟨a, o, e1, w, c⟩ := r; exact ⟨G, ω, Mo.refl, R, .inr ⟨a, o, e1, w, c⟩⟩
  | val x => obtain ⟨G', ω', m, R', h⟩ := R.tk (d := .val x) r e; exact ⟨G', ω', m, R', .inl h⟩
  | new x => obtain ⟨G', ω', m, R', h⟩ := R.tk (d := .new x) r e; exact ⟨G', ω', m, R', .inl h⟩
  | ali i => obtain ⟨G', ω', m, R', h⟩ := R.tk (d := .ali i) r e; exact ⟨G', ω', m, R', .inl h⟩
theorem Lkd.sq {K : PySem.W.Frag} {G : Hp} {ψ : List Addr} {ω : Addr → Option Ow} {v : V} {t : T} {ts : List T} (h : Lkd K G ψ ω v t) (e : seqOf t = some ts) :
    ∃ b a xs, v = .ref a ∧ RpA K G ψ xs ts ∧ ∀ H, Same G H → (∀ a o, ω a = some (.hold o) → H a = some o) → Sq b K H a xs := by
  rcases h with h | ⟨a, o, rfl, w, c⟩
  · cases h with
    | lst h r => cases e; exact ⟨false, _, _, rfl, r, fun H hs _ => SqL.of (hs _ _ h)⟩
    | tup h r => cases e; exact ⟨true, _, _, rfl, r, fun H hs _ => SqT.of (hs _ _ h)⟩
    | ktup h r => cases e; exact ⟨true, _, _, rfl, r, fun H hs _ => h H⟩
    | _ => cases e
  · cases c with
    | lst r => cases e; exact ⟨false, _, _, rfl, r, fun H _ hh => SqL.of (hh _ _ w)⟩
    | dk => cases e
    | dt => cases e
section
variable {p pos : Pos} {K : PySem.W.Frag} {σ : L2.St} {H : Hp} {Z : It → Hp → Prop}
theorem ei_rng1 {a : Expr} {ma : M} (hm : X.mg "range" = none) (ha : EvA X W cv [a] [ma]) (hg : Gl X "range" := by rfl) (hs : starEach [a] X.env = [(false, eval a X.env)] := by rfl) : EvI X W cv tg (.Call (.Name "range" p) [a] [] pos) (mRng1 [ma]) := by
  refine ⟨pi_w (pi_range1 hg hm ha.pa hs) fun σ H Q ⟨G, ψ, ω, s, R, f⟩ => ?_⟩
  refine tAs_on R f fun ds s1 G1 ψ1 ω1 H1 vs mo R1 rv f1 => ?_
  split at f1
  · match vs, rv with
    | [v], rv =>
      cases val_int rv.1
      split at f1
      · rename_i h
        have := small_of h
        exact ⟨_, rfl, by omega, by omega, f1 G1 ψ1 ω1 H1 Mo.refl R1 _ (wk_range 0 _)⟩
      · exact f1.elim
  · exact f1.elim
theorem ei_rng2 {a b : Expr} {ma mb : M} (hm : X.mg "range" = none) (ha : EvA X W cv [a, b] [ma, mb]) (hg : Gl X "range" := by rfl) (hs : starEach [a, b] X.env = [(false, eval a X.env), (false, eval b X.env)] := by rfl) (hs2 : starEach [b] X.env = [(false, eval b X.env)] := by rfl) : EvI X W cv tg (.Call (.Name "range" p) [a, b] [] pos) (mRng2 [ma, mb]) := by
  refine ⟨pi_w (pi_range2 hg hm ha.pa hs hs2) fun σ H Q ⟨G, ψ, ω, s, R, f⟩ => ?_⟩
  refine tAs_on R f fun ds s1 G1 ψ1 ω1 H1 vs mo R1 rv f1 => ?_
  split at f1
  · match vs, rv with
    | [v, w], rv =>
      cases val_int rv.1
      cases val_int rv.2.2.1
      split at f1
      · rename_i h
        rw [Bool.and_eq_true] at h
        have h1 := small_of h.1
        have h2 := small_of h.2
        exact ⟨_, _, rfl, ⟨by omega, by omega, by omega, by omega⟩, f1 G1 ψ1 ω1 H1 Mo.refl R1 _ (wk_range _ _)⟩
      · exact f1.elim
  · exact f1.elim
theorem ei_rng3 {a b c : Expr} {ma mb mc : M} (hm : X.mg "range" = none) (ha : EvA X W cv [a, b, c] [ma, mb, mc]) (hg : Gl X "range" := by rfl) (hs : starEach [a, b, c] X.env = (false, eval a X.env) :: starEach [b, c] X.env := by rfl) (hpl : (backTo pos (starEach [b, c] X.env)).any (·.1) = false := by rfl) :
    EvI X W cv tg (.Call (.Name "range" p) [a, b, c] [] pos) (mRng3 [ma, mb, mc]) := by
  refine ⟨pi_w (pi_range3 hg hm ha.pa hs hpl) fun σ H Q ⟨G, ψ, ω, s, R, f⟩ => ?_⟩
  refine tAs_on R f fun ds s1 G1 ψ1 ω1 H1 vs mo R1 rv f1 => ?_
  split at f1
  · match vs, rv with
    | [v, w, y], rv =>
      cases val_int rv.1
      cases val_int rv.2.2.1
      cases val_int rv.2.2.2.2.1
      split at f1
      · rename_i h
        rw [Bool.and_eq_true, Bool.and_eq_true] at h
        have h1 := small_of h.1.1
        have h2 := small_of h.1.2
        have h3 := eq_of_beq h.2
        subst h3
        exact ⟨_, _, _, _, rfl, RgC.neg (by omega) (by omega) (by omega) (by omega), f1 G1 ψ1 ω1 H1 Mo.refl R1 _ (wk_rangeC _ _ _)⟩
      · exact f1.elim
  · exact f1.elim
theorem ei_enum {e : Expr} {me : M} {tpos : Pos} {elts : List Expr} {kk : Nat} (hm : X.mg "enumerate" = none) (ha : EvA X W cv [e] [me]) (hg : Gl X "enumerate" := by rfl) (hs : starEach [e] X.env = [(false, eval e X.env)] := by rfl) : EvI X W cv (.Tuple elts kk tpos) (.Call (.Name "enumerate" p) [e] [] pos) (mEnum [me]) := by
  refine ⟨pi_w (pi_enumX hg hm ha.pa hs) fun σ H Q ⟨G, ψ, ω, s, R, f⟩ => ?_⟩
  refine tAs_on R f fun ds s1 G1 ψ1 ω1 H1 vs mo R1 rv f1 => ?_
  split at f1
  · match vs, rv with
    | [v], ⟨r1, ⟨d', hd⟩, _⟩ =>
      subst hd
      rw [dz_dz] at r1
      cases e1 : lk (dz d') s1 with
      | none => rw [e1] at f1; exact f1.elim
      | some q =>
        obtain ⟨t, s2⟩ := q
        rw [e1] at f1
        cases e2 : seqOf t with
        | none => simp only [e2] at f1; exact f1.elim
        | some ts =>
          simp only [e2] at f1
          obtain ⟨G2, ω2, m2, R2, l⟩ := R1.lk r1 e1
          obtain ⟨b, a, xs, rfl, rp, hq⟩ := l.sq e2
          exact ⟨b, a, xs, rfl, hq H1 R2.le R2.hold, f1 G2 ψ1 ω2 H1 m2 R2 _ (wk_enum rp hq)⟩
  · exact f1.elim
theorem ei_zip {e e2 : Expr} {me me2 : M} {tpos : Pos} {elts : List Expr} {kk : Nat} (hm : X.mg "zip" = none) (ha : EvA X W cv [e, e2] [me, me2]) (hg : Gl X "zip" := by rfl) (hs : starEach [e, e2] X.env = (false, eval e X.env) :: starEach [e2] X.env := by rfl) (hpl : (backTo pos (starEach [e2] X.env)).any (·.1) = false := by rfl) :
    EvI X W cv (.Tuple elts kk tpos) (.Call (.Name "zip" p) [e, e2] [] pos) (mZip [me, me2]) := by
  refine ⟨pi_w (pi_zipX hg hm ha.pa hs hpl) fun σ H Q ⟨G, ψ, ω, s, R, f⟩ => ?_⟩
  refine tAs_on R f fun ds s1 G1 ψ1 ω1 H1 vs mo R1 rv f1 => ?_
  split at f1
  · match vs, rv with
    | [v, w], ⟨r1, ⟨d', hd⟩, r2, ⟨e', he⟩, _⟩ =>
      subst hd he
      rw [dz_dz] at r1 r2
      cases e1 : lk (dz d') s1 with
      | none => rw [e1] at f1; exact f1.elim
      | some q =>
        obtain ⟨t, s2⟩ := q
        rw [e1] at f1
        obtain ⟨G2, ω2, m2, R2, l⟩ := R1.lk r1 e1
        cases e3 : lk (dz e') s2 with
        | none => simp only [e3] at f1; exact f1.elim
        | some q =>
          obtain ⟨u, s3⟩ := q
          simp only [e3] at f1
          obtain ⟨G3, ω3, m3, R3, l3⟩ := R2.lk (RD.mono m2 r2) e3
          cases e4 : seqOf t with
          | none => simp only [e4] at f1; exact f1.elim
          | some ts => cases e5 : seqOf u with
            | none => simp only [e4, e5] at f1; exact f1.elim
            | some us =>
              simp only [e4, e5] at f1
              obtain ⟨b1, a1, xs, rfl, rp, hq⟩ := (l.mono m3).sq e4
              obtain ⟨b2, a2, ys, rfl, rp2, hq2⟩ := l3.sq e5
              exact ⟨b1, b2, a1, a2, xs, ys, rfl, hq H1 R3.le R3.hold, hq2 H1 R3.le R3.hold, f1 G3 ψ1 ω3 H1 (m2.trans m3) R3 _ (wk_zip rp rp2 hq hq2)⟩
  · exact f1.elim
end
end
end Vi

set_option Elab.async false
set_option linter.all false
set_option maxRecDepth 100000
namespace Vi
open PySem PySem.Spec PyProof.Rows L2

/-! ### slots stored, wiped -/
section
variable {K : PySem.W.Frag} {G : Hp} {ψ : List Addr} {ω : Addr → Option Ow} {s : S} {σ : L2.St} {H : Hp}
theorem Rel.set (R : Rel K G ψ ω s σ H) (i : Nat) (v : V) (x : Slot) (h : SlotOk K G ψ ω H i (some (some v)) x) : Rel K G ψ ω { s with sl := s.sl.set i x } (σ.set i (some v)) H where
  le := R.le
  gw := R.gw
  hold := R.hold
  keep := R.keep
  tr := R.tr
  slots := fun j y e => by
    by_cases hj : j = i
    · subst hj
      by_cases hl : j < s.sl.length
      · have ey : y = x := by simpa [hl] using e.symm
        subst ey
        rw [List.getElem?_set_self (by rw [← R.len]; exact hl)]
        exact h
      · rw [List.getElem?_eq_none (by simpa using hl)] at e; cases e
    · rw [List.getElem?_set_ne (Ne.symm hj)] at e
      rw [List.getElem?_set_ne (Ne.symm hj)]
      exact R.slots j y e
  len := by simp [R.len]
  psi := R.psi
  cells := R.cells
/-- a new thing becomes slot i's own -/
theorem Rel.own (R : Rel K G ψ ω s σ H) (i : Nat) {a : Addr} {o : HO} {t : T} (hg : G a = none) (hw : ω a = none) (h : H a = some o) (c : Ct K G ψ o t) :
    ∃ ω', Mo G ψ ω G ψ ω' ∧ Rel K G ψ ω' { s with sl := s.sl.set i (.own t) } (σ.set i (some (.ref a))) H := by
  have hne : ∀ b w, ω b = some w → b ≠ a := fun b w e z => by subst z; rw [hw] at e; cases e
  have hm : ∀ b w, ω b = some w → (fun b => if b = a then some (Ow.slot i) else ω b) b = some w := fun b w e => by simp [hne b w e, e]
  have R' : Rel K G ψ (fun b => if b = a then some (Ow.slot i) else ω b) s σ H := by
    refine ⟨R.le, fun b u e => ?_, fun b u e => ?_, fun b u e => ?_, fun b e => ?_, fun j x e => (R.slots j x e).mono (Same.refl _) (List.prefix_refl _) (fun b u => hm b _) fun b u _ w hh => ⟨hm b _ w, hh⟩, R.len, R.psi, fun n x e => ?_⟩
    · have : b ≠ a := fun z => by subst z; rw [hg] at e; cases e
      simp [this, R.gw b u e]
    · by_cases hb : b = a
      · simp [hb] at e
      · exact R.hold b u (by simpa [hb] using e)
    · by_cases hb : b = a
      · simp [hb] at e
      · exact R.keep b u (by simpa [hb] using e)
    · have : b ≠ a := fun z => by subst z; rw [h] at e; cases e
      simp [this, R.tr b e]
    · obtain ⟨b, u, q1, q2, q3, c'⟩ := R.cells n x e
      exact ⟨b, u, q1, hm b _ q2, q3, c'⟩
  exact ⟨_, ⟨Same.refl _, List.prefix_refl _, fun b u => hm b _, fun b u => hm b _⟩, R'.set i (.ref a) (.own t) ⟨a, o, rfl, by simp, h, c⟩⟩
end
def wipeL (sl : List Slot) : List Nat → List Slot
  | [] => sl
  | v :: vs => (wipeL sl vs).set v .no
def wipeS (vs : List Nat) (s : S) : S := { s with sl := wipeL s.sl vs }
theorem wipeL_len (sl : List Slot) : ∀ vs, (wipeL sl vs).length = sl.length
  | [] => rfl
  | v :: vs => by simp [wipeL, wipeL_len sl vs]
theorem wipeL_in {sl : List Slot} {j : Nat} {x : Slot} : ∀ {vs : List Nat}, j ∈ vs → (wipeL sl vs)[j]? = some x → x = .no
  | v :: vs, hj, e => by
    unfold wipeL at e
    by_cases hv : v = j
    · subst hv
      by_cases hl : v < (wipeL sl vs).length
      · rw [List.getElem?_set_self hl] at e; exact (Option.some.inj e).symm
      · rw [List.getElem?_eq_none (by simpa using hl)] at e; cases e
    · rw [List.getElem?_set_ne hv] at e
      rcases List.mem_cons.mp hj with z | z
      · exact absurd z.symm hv
      · exact wipeL_in z e
theorem wipeL_out {sl : List Slot} {j : Nat} : ∀ {vs : List Nat}, j ∉ vs → (wipeL sl vs)[j]? = sl[j]?
  | [], _ => rfl
  | v :: vs, hj => by
    unfold wipeL
    have h1 : v ≠ j := fun z => hj (by simp [z])
    rw [List.getElem?_set_ne h1]
    exact wipeL_out fun z => hj (List.mem_cons_of_mem _ z)
theorem wipe_out {σ : L2.St} {j : Nat} : ∀ {vs : List Nat}, j ∉ vs → (wipe σ vs)[j]? = σ[j]?
  | [], _ => rfl
  | v :: vs, hj => by
    unfold wipe
    have h1 : v ≠ j := fun z => hj (by simp [z])
    rw [List.getElem?_set_ne h1]
    exact wipe_out fun z => hj (List.mem_cons_of_mem _ z)
theorem wipe_len (σ : L2.St) : ∀ vs, (wipe σ vs).length = σ.length := wipe_length σ
theorem wipe_in {σ : L2.St} {j : Nat} : ∀ {vs : List Nat}, j ∈ vs → j < σ.length → (wipe σ vs)[j]? = some none
  | v :: vs, hj, hl => by
    unfold wipe
    by_cases hv : v = j
    · subst hv
      rw [List.getElem?_set_self (by rw [wipe_length]; exact hl)]
    · rw [List.getElem?_set_ne hv]
      rcases List.mem_cons.mp hj with z | z
      · exact absurd z.symm hv
      · exact wipe_in z hl
theorem wipe_ext {σ σ' : L2.St} {vs : List Nat} (hl : σ'.length = σ.length) (h : ∀ j, j ∉ vs → σ'[j]? = σ[j]?) : wipe σ' vs = wipe σ vs := by
  apply List.ext_getElem?
  intro j
  by_cases hj : j ∈ vs
  · by_cases hlt : j < σ.length
    · rw [wipe_in hj hlt, wipe_in hj (by omega)]
    · rw [List.getElem?_eq_none (by rw [wipe_length]; omega), List.getElem?_eq_none (by rw [wipe_length]; omega)]
  · rw [wipe_out hj, wipe_out hj, h j hj]
theorem wipe_wipe (σ : L2.St) (vs : List Nat) : wipe (wipe σ vs) vs = wipe σ vs := wipe_ext (wipe_length _ _) fun j hj => wipe_out hj
section
variable {K : PySem.W.Frag} {G : Hp} {ψ : List Addr} {ω : Addr → Option Ow} {s : S} {σ : L2.St} {H : Hp}
theorem Rel.reslot {s' : S} {σ' : L2.St} (R : Rel K G ψ ω s σ H) (hc : s'.ce = s.ce) (hl : s'.sl.length = σ'.length) (h : ∀ j x, s'.sl[j]? = some x → SlotOk K G ψ ω H j σ'[j]? x) : Rel K G ψ ω s' σ' H :=
  ⟨R.le, R.gw, R.hold, R.keep, R.tr, h, hl, by rw [hc]; exact R.psi, fun n t e => R.cells n t (by rw [← hc]; exact e)⟩
theorem Rel.wipe (R : Rel K G ψ ω s σ H) (vs : List Nat) : Rel K G ψ ω (wipeS vs s) (L2.wipe σ vs) H :=
  R.reslot rfl (by show (wipeL s.sl vs).length = _; rw [wipeL_len, wipe_length, R.len]) fun j x e => by
    by_cases hj : j ∈ vs
    · have : x = .no := wipeL_in hj e
      subst this
      trivial
    · have e' : s.sl[j]? = some x := by rw [← wipeL_out (sl := s.sl) hj]; exact e
      rw [wipe_out hj]
      exact R.slots j x e'
theorem Rel.unwipe {vs : List Nat} (R : Rel K G ψ ω s (L2.wipe σ vs) H) (hw : ∀ j ∈ vs, ∀ x, s.sl[j]? = some x → x = .no) : Rel K G ψ ω s σ H :=
  R.reslot rfl (by rw [R.len, wipe_length]) fun j x e => by
    by_cases hj : j ∈ vs
    · rw [hw j hj x e]; trivial
    · have := R.slots j x e
      rw [wipe_out hj] at this
      exact this
theorem wipeS_no (vs : List Nat) (s : S) : ∀ j ∈ vs, ∀ x, (wipeS vs s).sl[j]? = some x → x = .no := fun j hj x e => wipeL_in hj e
end

/-! ### what is kept outside -/
def kp (ω : Addr → Option Ow) (D : Addr) (xs : List V) : Addr → Option Ow := fun b => if b = D then some (.keep (.lst xs)) else ω b
def unk (ω : Addr → Option Ow) (D : Addr) : Addr → Option Ow := fun b => if b = D then none else ω b
theorem kp_unk {ω : Addr → Option Ow} {D : Addr} {xs : List V} (h : ω D = some (.keep (.lst xs))) : kp (unk ω D) D xs = ω := by
  funext b
  unfold kp unk
  by_cases hb : b = D
  · subst hb; simp [h]
  · simp [hb]
section
variable {K : PySem.W.Frag} {G : Hp} {ψ : List Addr} {ω : Addr → Option Ow} {s : S} {σ : L2.St} {H : Hp} {D : Addr}
theorem Rel.keepNew (R : Rel K G ψ ω s σ H) {xs : List V} (hD : H D = none) : Rel K G ψ (kp ω D xs) s σ (upd H D (.lst xs)) := by
  have hw := R.tr D hD
  have hne : ∀ b w, ω b = some w → b ≠ D := fun b w e z => by subst z; rw [hw] at e; cases e
  have hk : ∀ b w, ω b = some w → kp ω D xs b = some w := fun b w e => by simp [kp, hne b w e, e]
  have hh := same_upd (o := .lst xs) hD
  refine ⟨R.le.trans hh, fun b u e => ?_, fun b u e => ?_, fun b u e => ?_, fun b e => ?_, fun j x e => (R.slots j x e).mono (Same.refl _) (List.prefix_refl _) (fun b u => hk b _) fun b u _ w q => ⟨hk b _ w, hh _ _ q⟩, R.len, R.psi, fun n t e => ?_⟩
  · have : b ≠ D := fun z => by subst z; rw [R.le.free hD] at e; cases e
    simp [kp, this, R.gw b u e]
  · by_cases hb : b = D
    · simp [kp, hb] at e
    · exact hh _ _ (R.hold b u (by simpa [kp, hb] using e))
  · by_cases hb : b = D
    · subst hb
      have : HO.lst xs = u := by simpa [kp] using e
      rw [← this, upd_same]
    · exact hh _ _ (R.keep b u (by simpa [kp, hb] using e))
  · have : b ≠ D := fun z => by subst z; rw [upd_same] at e; cases e
    simp [kp, this, R.tr b (hh.free e)]
  · obtain ⟨b, u, q1, q2, q3, c⟩ := R.cells n t e
    exact ⟨b, u, q1, hk b _ q2, hh _ _ q3, c⟩
theorem Rel.keepWrite (R : Rel K G ψ ω s σ H) {xs ys : List V} (hD : ω D = some (.keep (.lst xs))) : Rel K G ψ (kp ω D ys) s σ (upd H D (.lst ys)) := by
  have hg := R.wn hD
  have hne : ∀ b w, ω b = some w → (∀ o, w ≠ .keep o) → b ≠ D := fun b w e hw z => by subst z; rw [hD] at e; cases e; exact hw _ rfl
  have hk : ∀ b w, ω b = some w → (∀ o, w ≠ .keep o) → kp ω D ys b = some w := fun b w e hw => by simp [kp, hne b w e hw, e]
  refine ⟨fun b u e => ?_, fun b u e => ?_, fun b u e => ?_, fun b u e => ?_, fun b e => ?_, fun j x e => (R.slots j x e).mono (Same.refl _) (List.prefix_refl _) (fun b u h => hk b _ h (fun o z => by cases z)) fun b u _ w q => ⟨hk b _ w (fun o z => by cases z), ?_⟩, R.len, R.psi, fun n t e => ?_⟩
  · have : b ≠ D := fun z => by subst z; rw [hg] at e; cases e
    rw [upd_ne this]; exact R.le _ _ e
  · have : b ≠ D := fun z => by subst z; rw [hg] at e; cases e
    simp [kp, this, R.gw b u e]
  · by_cases hb : b = D
    · simp [kp, hb] at e
    · rw [upd_ne hb]; exact R.hold b u (by simpa [kp, hb] using e)
  · by_cases hb : b = D
    · subst hb
      have : HO.lst ys = u := by simpa [kp] using e
      rw [← this, upd_same]
    · rw [upd_ne hb]; exact R.keep b u (by simpa [kp, hb] using e)
  · have : b ≠ D := fun z => by subst z; rw [upd_same] at e; cases e
    rw [upd_ne this] at e
    simp [kp, this, R.tr b e]
  · rw [upd_ne (hne b _ w (fun o z => by cases z))]; exact q
  · obtain ⟨b, u, q1, q2, q3, c⟩ := R.cells n t e
    exact ⟨b, u, q1, hk b _ q2 (fun o z => by cases z), by rw [upd_ne (hne b _ q2 (fun o z => by cases z))]; exact q3, c⟩
theorem Rel.unkeep (R : Rel K G ψ ω s σ H) {o : HO} (hD : ω D = some (.keep o)) : Rel K G ψ (unk ω D) s σ H := by
  have hne : ∀ b w, ω b = some w → (∀ o, w ≠ .keep o) → b ≠ D := fun b w e hw z => by subst z; rw [hD] at e; cases e; exact hw _ rfl
  have hk : ∀ b w, ω b = some w → (∀ o, w ≠ .keep o) → unk ω D b = some w := fun b w e hw => by simp [unk, hne b w e hw, e]
  refine ⟨R.le, fun b u e => ?_, fun b u e => ?_, fun b u e => ?_, fun b e => ?_, fun j x e => (R.slots j x e).mono (Same.refl _) (List.prefix_refl _) (fun b u h => hk b _ h (fun o z => by cases z)) fun b u _ w q => ⟨hk b _ w (fun o z => by cases z), q⟩, R.len, R.psi, fun n t e => ?_⟩
  · by_cases hb : b = D
    · simp [unk, hb]
    · simp [unk, hb, R.gw b u e]
  · by_cases hb : b = D
    · simp [unk, hb] at e
    · exact R.hold b u (by simpa [unk, hb] using e)
  · by_cases hb : b = D
    · simp [unk, hb] at e
    · exact R.keep b u (by simpa [unk, hb] using e)
  · by_cases hb : b = D
    · simp [unk, hb]
    · simp [unk, hb, R.tr b e]
  · obtain ⟨b, u, q1, q2, q3, c⟩ := R.cells n t e
    exact ⟨b, u, q1, hk b _ q2 (fun o z => by cases z), q3, c⟩
end

/-! ### targets -/
def tG (K : PySem.W.Frag) (vs : List Nat) (f : T → S → Option S) : TG := fun v σ H Q => ∃ G ψ ω s t s', Rel K G ψ ω s σ H ∧ Rp K G ψ v t ∧ f t s = some s' ∧ ∀ σ', Rel K G ψ ω s' σ' H → σ'.length = σ.length → (∀ j, j ∉ vs → σ'[j]? = σ[j]?) → Q σ' H
def tGs (K : PySem.W.Frag) (vs : List Nat) (f : List T → S → Option S) : TGs := fun us σ H Q => ∃ G ψ ω s ts s', Rel K G ψ ω s σ H ∧ RpA K G ψ us ts ∧ f ts s = some s' ∧ ∀ σ', Rel K G ψ ω s' σ' H → σ'.length = σ.length → (∀ j, j ∉ vs → σ'[j]? = σ[j]?) → Q σ' H
structure EvG (X : Cx) (vs : List Nat) (tg : Expr) (f : T → S → Option S) : Prop where
  pg : PG X tg (tG X.K vs f)
structure EvGs (X : Cx) (vs : List Nat) (tg : List Expr) (f : List T → S → Option S) : Prop where
  pgs : PGs X tg (tGs X.K vs f)
def fNm (i : Nat) : T → S → Option S := fun t s => some { s with sl := s.sl.set i (.val t) }
def fNil : List T → S → Option S := fun ts s => match ts with
  | [] => some s
  | _ => none
def fCons (f : T → S → Option S) (g : List T → S → Option S) : List T → S → Option S := fun ts s => match ts with
  | t :: ts => (match f t s with
    | some s1 => g ts s1
    | none => none)
  | [] => none
def fTup (n : Nat) (g : List T → S → Option S) : T → S → Option S := fun t s => match t with
  | .tup ts => if ts.length = n then g ts s else none
  | _ => none
section
variable {X : Cx} {vs : List Nat} {pos : Pos}
theorem pg_w {tg : Expr} {t t' : TG} (h : PG X tg t) (w : ∀ v σ H Q, t' v σ H Q → t v σ H Q) : PG X tg t' := ⟨fun pins s σ H v u Q I r q => h.run pins s σ H v u Q I r (w v σ H Q q)⟩
theorem pgs_w {tg : List Expr} {t t' : TGs} (h : PGs X tg t) (w : ∀ v σ H Q, t' v σ H Q → t v σ H Q) : PGs X tg t' := ⟨fun pins s σ H v u Q I r q => h.run pins s σ H v u Q I r (w v σ H Q q)⟩
theorem eg_name {i : Nat} {x : Str} (hN : X.N.Nodup) (hv : i ∈ vs := by simp) (hi : X.N[i]? = some x := by rfl) (hx : Loc X.env.scope x := by first | exact Or.inl rfl | exact Or.inr rfl) (hf : X.fn x = true ∨ X.env.scope.names.lookup x = some .local := by first | exact .inl rfl | exact .inr rfl) : EvG X vs (.Name x pos) (fNm i) := by
  refine ⟨pg_w (pg_name hN hi hx hf) fun v σ H Q ⟨G, ψ, ω, s, t, s', R, rp, e, h⟩ => ?_⟩
  cases e
  refine h _ (R.set i v (.val t) ⟨v, rfl, rp⟩) (by simp) fun j hj => ?_
  rw [List.getElem?_set_ne (fun z => hj (by subst z; exact hv))]
theorem egs_nil : EvGs X vs [] fNil := by
  refine ⟨pgs_w pgs_nil fun us σ H Q ⟨G, ψ, ω, s, ts, s', R, ra, e, h⟩ => ?_⟩
  cases ra with
  | nil => cases e; exact ⟨rfl, h σ R rfl fun j _ => rfl⟩
  | cons => cases e
theorem egs_cons {e : Expr} {es : List Expr} {f : T → S → Option S} {g : List T → S → Option S} (h1 : EvG X vs e f) (h2 : EvGs X vs es g) (hs : (assignEach (e :: es) X.env).map (·.2) = assign e X.env :: (assignEach es X.env).map (·.2) := by rfl) : EvGs X vs (e :: es) (fCons f g) := by
  refine ⟨pgs_w (pgs_cons h1.pg h2.pgs hs) fun us σ H Q ⟨G, ψ, ω, s, ts, s', R, ra, e, h⟩ => ?_⟩
  cases ra with
  | nil => cases e
  | @cons v vs' t ts' r rs =>
    cases e1 : f t s with
    | none => simp [fCons, e1] at e
    | some s1 =>
      have e2 : g ts' s1 = some s' := by simpa [fCons, e1] using e
      refine ⟨v, vs', rfl, G, ψ, ω, s, t, s1, R, r, e1, fun σ1 R1 l1 h1 => ⟨G, ψ, ω, s1, ts', s', R1, rs, e2, fun σ2 R2 l2 h2 => h σ2 R2 (l2.trans l1) fun j hj => (h2 j hj).trans (h1 j hj)⟩⟩
theorem eg_tup {es : List Expr} {k : Nat} {g : List T → S → Option S} {n : Nat} (hc : X.calm = true) (h : EvGs X vs es g) (hn : (assignEach es X.env).length = n := by rfl) (hst : (assignEach es X.env).findIdx? (·.1) = none := by rfl) : EvG X vs (.Tuple es k pos) (fTup n g) := by
  refine ⟨pg_w (pg_tup hc h.pgs hn hst) fun v σ H Q ⟨G, ψ, ω, s, t, s', R, rp, e, h⟩ => ?_⟩
  cases rp with
  | tup hg ra =>
    simp only [fTup] at e
    split at e
    · rename_i hl
      exact ⟨_, _, rfl, SqT.of (R.le _ _ hg), by rw [ra.len]; exact hl, G, ψ, ω, s, _, s', R, ra, e, h⟩
    · cases e
  | _ => cases e
end

theorem Res.bind_assoc {α β γ : Type} (r : Res α) (k : α → S → Res β) (l : β → S → Res γ) : (r.bind k).bind l = r.bind fun a s => (k a s).bind l := by cases r <;> rfl
/-! ### comprehensions -/
def noX {α : Type} : Res α → Res α
  | .ex _ _ => .bad
  | r => r
def stepC (vs : List Nat) (f : T → S → Option S) (mi : S → Res Bool) (me : M) (t : T) (acc : List T) (s : S) : Res (List T) := match f t s with
  | none => .bad
  | some s1 => (noX (mi s1)).bind fun b s2 => if b then (noX (me s2)).bind fun d s3 => (match tk (dz d) s3 with
      | some (y, s4) => if acc.length < line then .ok (acc ++ [y]) (wipeS vs s4) else .bad
      | none => .bad) else .ok acc (wipeS vs s2)
def compL (vs : List Nat) (f : T → S → Option S) (mi : S → Res Bool) (me : M) : List T → List T → S → Res (List T)
  | [], acc, s => .ok acc s
  | t :: ts, acc, s => (stepC vs f mi me t acc s).bind fun acc' s' => compL vs f mi me ts acc' s'
/-- the block's names are as they were (where they had a plain value) -/
def keepV : Option Slot → Slot
  | some (.val t) => .val t
  | _ => .no
def restL (sl0 sl : List Slot) : List Nat → List Slot
  | [] => sl
  | v :: vs => (restL sl0 sl vs).set v (keepV sl0[v]?)
def restS (vs : List Nat) (s0 s : S) : S := { s with sl := restL s0.sl s.sl vs }
theorem restL_len (sl0 sl : List Slot) : ∀ vs, (restL sl0 sl vs).length = sl.length
  | [] => rfl
  | v :: vs => by simp [restL, restL_len sl0 sl vs]
theorem restL_in {sl0 sl : List Slot} {j : Nat} {x : Slot} : ∀ {vs : List Nat}, j ∈ vs → (restL sl0 sl vs)[j]? = some x → x = keepV sl0[j]?
  | v :: vs, hj, e => by
    unfold restL at e
    by_cases hv : v = j
    · subst hv
      by_cases hl : v < (restL sl0 sl vs).length
      · rw [List.getElem?_set_self hl] at e; exact (Option.some.inj e).symm
      · rw [List.getElem?_eq_none (by simpa using hl)] at e; cases e
    · rw [List.getElem?_set_ne hv] at e
      rcases List.mem_cons.mp hj with z | z
      · exact absurd z.symm hv
      · exact restL_in z e
theorem restL_out {sl0 sl : List Slot} {j : Nat} : ∀ {vs : List Nat}, j ∉ vs → (restL sl0 sl vs)[j]? = sl[j]?
  | [], _ => rfl
  | v :: vs, hj => by
    unfold restL
    have h1 : v ≠ j := fun z => hj (by simp [z])
    rw [List.getElem?_set_ne h1]
    exact restL_out fun z => hj (List.mem_cons_of_mem _ z)
theorem Rel.rest {K : PySem.W.Frag} {G G' : Hp} {ψ ψ' : List Addr} {ω ω' : Addr → Option Ow} {s s0 : S} {σ : L2.St} {H H0 : Hp} {vs : List Nat} (R : Rel K G' ψ' ω' s σ H) (R0 : Rel K G ψ ω s0 σ H0) (mo : Mo G ψ ω G' ψ' ω') : Rel K G' ψ' ω' (restS vs s0 s) σ H :=
  R.reslot rfl (by show (restL s0.sl s.sl vs).length = _; rw [restL_len, R.len]) fun j x e => by
    by_cases hj : j ∈ vs
    · have : x = keepV s0.sl[j]? := restL_in hj e
      subst this
      cases q : s0.sl[j]? with
      | none => trivial
      | some y => cases y with
        | val t => obtain ⟨v, e1, r⟩ := R0.slots j _ q; exact ⟨v, e1, r.mono mo.g mo.p⟩
        | no => trivial
        | bor t => trivial
        | own t => trivial
    · have e' : s.sl[j]? = some x := by rw [← restL_out (sl0 := s0.sl) (sl := s.sl) hj]; exact e
      exact R.slots j x e'
def outL (vs : List Nat) (s0 : S) (acc : List T) (s : S) : Res DV := .ok (.new (.lst acc)) (restS vs s0 s)
def mComp (vs : List Nat) (src : S → Res (List T)) (f : T → S → Option S) (mi : S → Res Bool) (me : M) : M := fun s => (src s).bind fun its s1 => (compL vs f mi me its [] (wipeS vs s1)).bind (outL vs s1)
def bYes : S → Res Bool := fun s => .ok true s
abbrev W0 : WX := fun _ _ _ _ => False
structure EvTs (X : Cx) (W : WX) (cv : CV) (es : List Expr) (m : S → Res Bool) : Prop where
  pts : PTs X es (tT X.K W cv m)
theorem pts_w {X : Cx} {e : List Expr} {t t' : TT} (h : PTs X e t) (w : ∀ σ H Q, t' σ H Q → t σ H Q) : PTs X e t' := ⟨fun pins s σ H Q I q => h.run pins s σ H Q I (w σ H Q q)⟩
theorem ets_nil {X : Cx} {W : WX} {cv : CV} : EvTs X W cv [] bYes := ⟨pts_w pts_nil fun σ H Q ⟨G, ψ, ω, s, R, f⟩ => f G ψ ω H Mo.refl R⟩
theorem ets_one {X : Cx} {W : WX} {cv : CV} {e : Expr} {m : S → Res Bool} (h : EvT X W cv e m) : EvTs X W cv [e] m := ⟨pts_one h.pt⟩
section
variable {K : PySem.W.Frag} {W : WX} {cv : CV} {σ : L2.St} {H : Hp}
theorem Fin.noX {α β : Type} {σ' : L2.St} {G : Hp} {ψ : List Addr} {ω : Addr → Option Ow} {r : Res α} {k : α → S → Res β} {Z : β → Hp → List Addr → (Addr → Option Ow) → S → Hp → Prop} {Y : α → Hp → List Addr → (Addr → Option Ow) → S → Hp → Prop}
    (f : Fin K W cv σ G ψ ω ((Vi.noX r).bind k) Z) (h : ∀ a s1 G1 ψ1 ω1 H1, r = .ok a s1 → Y a G1 ψ1 ω1 s1 H1) : Fin K W0 cv σ' G ψ ω r Y := by
  cases r with
  | ok a s1 => exact fun G1 ψ1 ω1 H1 _ _ => h a s1 G1 ψ1 ω1 H1 rfl
  | ex c s1 => exact f.elim
  | bad => exact f.elim
end
section
variable {X : Cx} {W : WX} {cv : CV}
theorem comp_on {K : PySem.W.Frag} {src : S → Res (List T)} {vs : List Nat} {fT : T → S → Option S} {mi : S → Res Bool} {me : M} {σ : L2.St} {H : Hp} {Q : VK} (h : tI K W cv (mComp vs src fT mi me) σ H Q) :
    tLc (tIt K W cv src) (tG K vs fT) (tT K W0 cv mi) (tI K W0 cv me) vs σ H Q := by
  obtain ⟨G, ψ, ω, s, R, f⟩ := h
  refine ⟨G, ψ, ω, s, R, (Fin.bind f).imp fun its G1 ψ1 ω1 s1 H1 mo1 R1 f1 J wk D hD => ?_⟩
  refine ⟨fun i m H => ∃ G' ψ' ω' s' accV acc, m = its.length - i ∧ i ≤ its.length ∧ Mo G1 ψ1 ω1 G' ψ' ω' ∧ ω' D = none ∧ Rel K G' ψ' (kp ω' D accV) s' (wipe σ vs) H ∧ (∀ j ∈ vs, ∀ x, s'.sl[j]? = some x → x = .no) ∧ RpA K G' ψ' accV acc ∧
    Fin K W cv σ G' ψ' ω' ((compL vs fT mi me (its.drop i) acc s').bind (outL vs s1)) fun d G' ψ' ω' _ H' => ∀ v, RD K G' ψ' ω' σ H' v d → Q v H',
    ⟨its.length, G1, ψ1, ω1, wipeS vs s1, [], [], by simp, Nat.zero_le _, Mo.refl, R1.tr D hD, (R1.wipe vs).keepNew hD, wipeS_no vs s1, .nil, f1⟩, ?_⟩
  rintro i m H2 ⟨G', ψ', ω', s', accV, acc, rfl, hi, mo', hwD, R', hno, ra, f'⟩
  have hold' : ∀ a o, ω1 a = some (.hold o) → H2 a = some o := fun a o e => by
    have e1 := mo'.h a o e
    have hne : a ≠ D := fun z => by subst z; rw [hwD] at e1; cases e1
    exact R'.hold a o (by simp [kp, hne, e1])
  have kpD : kp ω' D accV D = some (.keep (.lst accV)) := by simp [kp]
  by_cases hlt : i < its.length
  · obtain ⟨t, ht⟩ : ∃ t, its[i]? = some t := ⟨its[i], List.getElem?_eq_getElem hlt⟩
    have hdrop : its.drop i = t :: its.drop (i + 1) := by
      rw [List.drop_eq_getElem_cons hlt]
      have : its[i] = t := by
        have := List.getElem?_eq_getElem hlt
        rw [ht] at this
        exact (Option.some.inj this).symm
      rw [this]
    rw [hdrop] at f'
    obtain ⟨hgo, hyld⟩ := wk.item G' ψ' H2 i t mo'.g mo'.p R'.le hold' ht
    refine .inr ⟨hgo, fun H' => ∃ G' ψ' ω' s' accV acc, i + 1 ≤ its.length ∧ Mo G1 ψ1 ω1 G' ψ' ω' ∧ ω' D = none ∧ Rel K G' ψ' (kp ω' D accV) s' (wipe σ vs) H' ∧ (∀ j ∈ vs, ∀ x, s'.sl[j]? = some x → x = .no) ∧ RpA K G' ψ' accV acc ∧
      Fin K W cv σ G' ψ' ω' ((compL vs fT mi me (its.drop (i + 1)) acc s').bind (outL vs s1)) fun d G' ψ' ω' _ H' => ∀ v, RD K G' ψ' ω' σ H' v d → Q v H',
      fun H' ⟨G', ψ', ω', s', accV, acc, h1, h2, h3, h4, h5, h6, h7⟩ => ⟨its.length - (i + 1), by omega, G', ψ', ω', s', accV, acc, rfl, h1, h2, h3, h4, h5, h6, h7⟩, fun x H' hy => ?_⟩
    obtain ⟨G2, al, rp⟩ := hyld x H' hy
    have R2 := R'.al al
    have unf : (compL vs fT mi me (t :: its.drop (i + 1)) acc s') = (stepC vs fT mi me t acc s').bind fun acc' s'' => compL vs fT mi me (its.drop (i + 1)) acc' s'' := rfl
    rw [unf] at f'
    cases e1 : fT t s' with
    | none => simp only [stepC, e1] at f'; exact f'.elim
    | some s2 =>
      simp only [stepC, e1] at f'
      refine ⟨G2, ψ', _, s', t, s2, R2, rp, e1, fun σ' R3 hlen hfr => ⟨?_, ?_⟩⟩
      · have := wipe_ext (σ := wipe σ vs) (σ' := σ') (vs := vs) hlen hfr
        rw [this, wipe_wipe]
      have hwp : wipe σ' vs = wipe σ vs := by
        have := wipe_ext (σ := wipe σ vs) (σ' := σ') (vs := vs) hlen hfr
        rw [this, wipe_wipe]
      refine ⟨G2, ψ', _, s2, R3, ?_⟩
      cases e2 : mi s2 with
      | ex c s3 => rw [e2] at f'; exact f'.elim
      | bad => rw [e2] at f'; exact f'.elim
      | ok b s3 =>
        rw [e2] at f'
        intro G3 ψ3 ω3 H3 mo3 R4
        have moA : ∀ {G4 : Hp} {ψ4 : List Addr} {ω4 : Addr → Option Ow}, Mo G2 ψ' (kp ω' D accV) G4 ψ4 ω4 → Mo G' ψ' ω' G4 ψ4 (unk ω4 D) := fun m => by
          have hne : ∀ a w, ω' a = some w → a ≠ D := fun a w e z => by subst z; rw [hwD] at e; cases e
          refine ⟨al.g.trans m.g, m.p, fun a o e => ?_, fun a o e => ?_⟩
          · have := m.h a o (by simp [kp, hne a _ e, e])
            simp [unk, hne a _ e, this]
          · have := m.k a o (by simp [kp, hne a _ e, e])
            simp [unk, hne a _ e, this]
        have k3 := mo3.k _ _ kpD
        cases b with
        | false =>
          refine ⟨G3, ψ3, unk ω3 D, wipeS vs s3, accV, acc, hlt, mo'.trans (moA mo3), by simp [unk], ?_, wipeS_no vs s3, ra.mono (al.g.trans mo3.g) mo3.p, Fin.on f' (moA mo3)⟩
          rw [kp_unk k3, ← hwp]
          exact R4.wipe vs
        | true =>
          refine ⟨G3, ψ3, ω3, s3, R4, ?_⟩
          have f' : Fin K W cv σ G' ψ' ω' (((noX (me s3)).bind fun d s3 => (match tk (dz d) s3 with
            | some (y, s4) => if acc.length < line then .ok (acc ++ [y]) (wipeS vs s4) else .bad
            | none => .bad)).bind fun acc' s'' => ((compL vs fT mi me (its.drop (i + 1)) acc' s'').bind (outL vs s1))) (fun d G' ψ' ω' x H' => ∀ v, RD K G' ψ' ω' σ H' v d → Q v H') := by
            have h := f'
            simp only [noX, Res.bind_ok, if_true] at h
            rw [Res.bind_assoc] at h
            exact h
          cases e3 : me s3 with
          | ex c s4 => rw [e3] at f'; exact f'.elim
          | bad => rw [e3] at f'; exact f'.elim
          | ok d s4 =>
            rw [e3] at f'
            intro G4 ψ4 ω4 H4 mo4 R5 v r
            obtain ⟨G5, mo5, R6, r'⟩ := R5.dz r
            cases e4 : tk (dz d) s4 with
            | none => simp only [noX, Res.bind_ok, e4] at f'; exact f'.elim
            | some yz =>
              obtain ⟨y, s5⟩ := yz
              simp only [noX, Res.bind_ok, e4] at f'
              obtain ⟨G6, ω6, mo6, R7, rp6⟩ := R6.tk r' e4
              have mo36 := ((mo3.trans mo4).trans mo5).trans mo6
              have k6 := mo36.k _ _ kpD
              by_cases hl : acc.length < line
              · rw [if_pos hl] at f'
                refine ⟨accV, R7.keep _ _ k6, by rw [ra.len]; exact hl, G6, ψ4, unk ω6 D, wipeS vs s5, accV ++ [v], acc ++ [y], hlt, mo'.trans (moA mo36), by simp [unk], ?_, wipeS_no vs s5, (ra.mono (al.g.trans mo36.g) mo36.p).append (.cons rp6 .nil), Fin.on f' (moA mo36)⟩
                have : kp (unk ω6 D) D (accV ++ [v]) = kp ω6 D (accV ++ [v]) := by
                  funext b
                  unfold kp unk
                  by_cases hb : b = D <;> simp [hb]
                rw [this, ← hwp]
                exact (R7.keepWrite k6).wipe vs
              · rw [if_neg hl] at f'; exact f'.elim
  · have e : i = its.length := by omega
    subst e
    rw [List.drop_length] at f'
    refine .inl ⟨wk.stop H2 (mo'.g.trans R'.le) hold', ?_⟩
    have RU := (R'.unkeep kpD).unwipe hno
    have eu : unk (kp ω' D accV) D = ω' := by
      funext b
      unfold unk kp
      by_cases hb : b = D
      · subst hb; simp [hwD]
      · simp [hb]
    rw [eu] at RU
    exact f' G' ψ' ω' H2 Mo.refl (RU.rest R1 mo') _ ⟨D, .lst accV, rfl, R'.wn kpD, hwD, R'.keep _ _ kpD, .lst ra⟩
theorem ev_comp {elt tg iter : Expr} {ifs : List Expr} {scope : Scope} {own : List (Str × Nat)} {pos : Pos} {src : S → Res (List T)} {fT : T → S → Option S} {mi : S → Res Bool} {me : M} (hc : X.calm = true) (hN : X.N.Nodup) (hi : EvI X W cv tg iter src)
    (hg : ∀ (s : Shared) (H : Hp) (C : Addr) (cl : List (Str × Addr)) (fp : List Addr), EvG (X.blk s H scope (compEnvC scope cl C X.env) fp) (own.map (·.2)) tg fT)
    (ht : ∀ (s : Shared) (H : Hp) (C : Addr) (cl : List (Str × Addr)) (fp : List Addr), EvTs (X.blk s H scope (compEnvC scope cl C X.env) fp) W0 cv ifs mi)
    (he : ∀ (s : Shared) (H : Hp) (C : Addr) (cl : List (Str × Addr)) (fp : List Addr), Ev (X.blk s H scope (compEnvC scope cl C X.env) fp) W0 cv elt me)
    (ok : BlkOk X.N X.env.scope scope own) (hs : ∀ x, foldedSetIterable iter X.env x = pure x := by intro _; rfl) :
    Ev X W cv (.ListComp elt [⟨tg, iter, ifs, 0⟩] scope pos) (mComp (own.map (·.2)) src fT mi me) :=
  ⟨pe_w (pe_lc hc hN hi.pi ok (fun s H C cl fp => (hg s H C cl fp).pg) (fun s H C cl fp => (ht s H C cl fp).pts) (fun s H C cl fp => (he s H C cl fp).pe) hs) fun _ _ _ h => comp_on h⟩
/-- x = e, x a name -/
structure EvA1 (X : Cx) (W : WX) (cv : CV) (i : Nat) (st : Stmt) (m : M) : Prop where
  ps : PS X st (tAsg (tI X.K W cv m) (gName i))
theorem ps_w {X : Cx} {st : Stmt} {t t' : TS} (h : PS X st t) (w : ∀ D σ H, t' D σ H → t D σ H) : PS X st t' := ⟨fun pins s σ H D I q => h.run pins s σ H D I (w D σ H q)⟩
theorem pss_w {X : Cx} {st : List Stmt} {t t' : TS} (h : PSs X st t) (w : ∀ D σ H, t' D σ H → t D σ H) : PSs X st t' := ⟨fun pins s σ H D I q => h.run pins s σ H D I (w D σ H q)⟩
theorem ea_e {i : Nat} {x : Str} {e : Expr} {m : M} {pos pos' : Pos} (hN : X.N.Nodup) (h : Ev X W cv e m) (hi : X.N[i]? = some x := by rfl) (hx : Loc X.env.scope x := by first | exact Or.inl rfl | exact Or.inr rfl) (hs : swapsWith e (some (.Name x pos')) pos.line X.env = pure false := by rfl)
    (hf : X.fn x = true ∨ X.env.scope.names.lookup x = some .local := by first | exact .inl rfl | exact .inr rfl) : EvA1 X W cv i (.Assign [.Name x pos'] e pos) m := ⟨ps_set hN hi hx h.pe hs hf⟩
theorem ea_comp {i : Nat} {y : Str} {py : Pos} {elt tg iter : Expr} {ifs : List Expr} {scope : Scope} {own : List (Str × Nat)} {pos spos : Pos} {src : S → Res (List T)} {fT : T → S → Option S} {mi : S → Res Bool} {me : M} (hc : X.calm = true) (hN : X.N.Nodup) (hi : EvI X W cv tg iter src)
    (hg : ∀ (s : Shared) (H : Hp) (C : Addr) (cl : List (Str × Addr)) (fp : List Addr), EvG (X.blk s H scope (compEnvC scope cl C X.env) fp) (own.map (·.2)) tg fT)
    (ht : ∀ (s : Shared) (H : Hp) (C : Addr) (cl : List (Str × Addr)) (fp : List Addr), EvTs (X.blk s H scope (compEnvC scope cl C X.env) fp) W0 cv ifs mi)
    (he : ∀ (s : Shared) (H : Hp) (C : Addr) (cl : List (Str × Addr)) (fp : List Addr), Ev (X.blk s H scope (compEnvC scope cl C X.env) fp) W0 cv elt me)
    (ok : BlkOk X.N X.env.scope scope own) (hyl : X.env.scope.names.lookup y = some .local := by rfl)
    (hsw : swapsWith (.ListComp elt [⟨tg, iter, ifs, 0⟩] scope pos) (some (.Name y py)) spos.line X.env = pure true) (hy : X.N[i]? = some y := by rfl) (hs : ∀ x, foldedSetIterable iter X.env x = pure x := by intro _; rfl) :
    EvA1 X W cv i (.Assign [.Name y py] (.ListComp elt [⟨tg, iter, ifs, 0⟩] scope pos) spos) (mComp (own.map (·.2)) src fT mi me) :=
  ⟨ps_w (ps_setLc hc hN hy hyl hsw hi.pi ok (fun s H C cl fp => (hg s H C cl fp).pg) (fun s H C cl fp => (ht s H C cl fp).pts) (fun s H C cl fp => (he s H C cl fp).pe) hs) fun _ _ _ h => comp_on h⟩
end
end Vi

set_option Elab.async false
set_option linter.all false
set_option maxRecDepth 100000
namespace Vi
open PySem PySem.Spec PyProof.Rows L2

/-! ### storing -/
def asg (i : Nat) (d : DV) (s : S) : Option S := match d with
  | .val t => some { s with sl := s.sl.set i (.val t) }
  | .bor t => some { s with sl := s.sl.set i (.bor t) }
  | .new t => some { s with sl := s.sl.set i (.own t) }
  | .ali j => match tk (.ali j) s with
    | some (t, s') => some { s' with sl := s'.sl.set i (.val t) }
    | none => none
def wr (d : DV) (t' : T) (s : S) : Option S := match d with
  | .val (.glo n) => if n < s.ce.length then some { s with ce := s.ce.set n t' } else none
  | .ali i => match s.sl[i]? with
    | some (.own _) => some { s with sl := s.sl.set i (.own t') }
    | _ => none
  | _ => none
section
variable {K : PySem.W.Frag} {σ : L2.St} {G : Hp} {ψ : List Addr} {ω : Addr → Option Ow} {s : S} {H : Hp}
theorem Rel.asg (R : Rel K G ψ ω s σ H) {v : V} {d : DV} {i : Nat} {s' : S} (r : RD K G ψ ω σ H v d) (e : Vi.asg i d s = some s') : ∃ G' ω', Mo G ψ ω G' ψ ω' ∧ Rel K G' ψ ω' s' (σ.set i (some v)) H := by
  cases d with
  | val t => cases e; exact ⟨G, ω, Mo.refl, R.set i v (.val t) ⟨v, rfl, r⟩⟩
  | bor t => cases e; obtain ⟨a, o, rfl, w, c⟩ := r; exact ⟨G, ω, Mo.refl, R.set i _ (.bor t) ⟨a, o, rfl, w, c⟩⟩
  | new t => cases e; obtain ⟨a, o, rfl, hg, hw, h, c⟩ := r; obtain ⟨ω', m, R'⟩ := R.own i hg hw h c; exact ⟨G, ω', m, R'⟩
  | ali j =>
    simp only [Vi.asg] at e
    cases q : Vi.tk (.ali j) s with
    | none => rw [q] at e; cases e
    | some x =>
      obtain ⟨t, s1⟩ := x
      rw [q] at e
      cases e
      obtain ⟨G', ω', m, R', rp⟩ := R.tk (d := .ali j) r q
      exact ⟨G', ω', m, R'.set i v (.val t) ⟨v, rfl, rp⟩⟩
/-- something at an address with an owner is written -/
theorem Rel.wrAt (R : Rel K G ψ ω s σ H) {a : Addr} {w : Ow} {o' : HO} {s' : S} (hw : ω a = some w) (hw2 : ∀ o, w ≠ .hold o) (hw3 : ∀ o, w ≠ .keep o) (hl : s'.sl.length = s.sl.length) (hc : s'.ce.length = s.ce.length)
    (h1 : ∀ i x, s'.sl[i]? = some x → (w = .slot i ∧ ∃ t, x = .own t ∧ σ[i]? = some (some (.ref a)) ∧ Ct K G ψ o' t) ∨ (w ≠ .slot i ∧ s.sl[i]? = some x) ∨ (w = .slot i ∧ s.sl[i]? = some x ∧ ∀ t, x ≠ .own t))
    (h2 : ∀ n x, s'.ce[n]? = some x → (w = .cell n ∧ ψ[n]? = some a ∧ Ct K G ψ o' x) ∨ (w ≠ .cell n ∧ s.ce[n]? = some x)) : Rel K G ψ ω s' σ (upd H a o') := by
  have hg := R.wn hw
  have hne : ∀ b u, ω b = some u → u ≠ w → b ≠ a := fun b u e q z => by subst z; rw [hw] at e; cases e; exact q rfl
  refine ⟨fun b u e => ?_, R.gw, fun b u e => ?_, fun b u e => ?_, fun b e => ?_, fun i x e => ?_, hl.trans R.len, R.psi.trans hc.symm, fun n x e => ?_⟩
  · have : b ≠ a := fun z => by subst z; rw [hg] at e; cases e
    rw [upd_ne this]; exact R.le _ _ e
  · rw [upd_ne (hne b _ e (fun z => hw2 _ z.symm))]; exact R.hold b u e
  · rw [upd_ne (hne b _ e (fun z => hw3 _ z.symm))]; exact R.keep b u e
  · have : b ≠ a := fun z => by subst z; rw [upd_same] at e; cases e
    rw [upd_ne this] at e; exact R.tr b e
  · rcases h1 i x e with ⟨rfl, t, rfl, q1, q2⟩ | ⟨q1, q2⟩ | ⟨rfl, q2, q3⟩
    · exact ⟨a, o', q1, hw, upd_same, q2⟩
    · refine (R.slots i x q2).mono (Same.refl _) (List.prefix_refl _) (fun _ _ h => h) fun b u _ hb hu => ⟨hb, ?_⟩
      rw [upd_ne (hne b _ hb (fun z => q1 z.symm))]; exact hu
    · have so := R.slots i x q2
      cases x with
      | no => trivial
      | val t => exact so
      | bor t => exact so
      | own t => exact absurd rfl (q3 t)
  · rcases h2 n x e with ⟨rfl, q1, q2⟩ | ⟨q1, q2⟩
    · exact ⟨a, o', q1, hw, upd_same, q2⟩
    · obtain ⟨b, u, z1, z2, z3, z4⟩ := R.cells n x q2
      exact ⟨b, u, z1, z2, by rw [upd_ne (hne b _ z2 (fun z => q1 z.symm))]; exact z3, z4⟩
theorem Rel.write (R : Rel K G ψ ω s σ H) {v : V} {d : DV} {t t' : T} {s' : S} (r : RD K G ψ ω σ H v d) (e : Vi.rd s d = some t) (e' : Vi.wr d t' s = some s') :
    ∃ a o, v = .ref a ∧ H a = some o ∧ Ct K G ψ o t ∧ ∀ o', Ct K G ψ o' t' → Rel K G ψ ω s' σ (upd H a o') := by
  cases d with
  | val x =>
    cases x with
    | glo n =>
      simp only [Vi.wr] at e'
      split at e'
      · rename_i hn
        cases e'
        have e1 : s.ce[n]? = some t := e
        obtain ⟨a, o, rfl, q1, q2, q3, c⟩ := R.cell r e1
        refine ⟨a, o, rfl, q3, c, fun o' c' => R.wrAt q2 (fun _ z => by cases z) (fun _ z => by cases z) rfl (by simp) (fun i x h => .inr (.inl ⟨fun z => (by cases z), h⟩)) fun m x h => ?_⟩
        by_cases hm : m = n
        · subst hm
          have : x = t' := by simpa [hn] using h.symm
          subst this
          exact .inl ⟨rfl, q1, c'⟩
        · exact .inr ⟨fun z => by cases z; exact hm rfl, by rw [List.getElem?_set_ne (Ne.symm hm)] at h; exact h⟩
      · cases e'
    | _ => cases e'
  | bor x => cases e'
  | new x => cases e'
  | ali i =>
    simp only [Vi.wr] at e'
    cases q : s.sl[i]? with
    | none => rw [q] at e'; cases e'
    | some x =>
      rw [q] at e'
      cases x with
      | own u =>
        cases e'
        simp [Vi.rd, q] at e
        subst e
        obtain ⟨a, o, e1, e2, e3, c⟩ := R.slots i _ q
        have hv : σ[i]? = some (some v) := r
        rw [e1] at hv
        cases hv
        refine ⟨a, o, rfl, e3, c, fun o' c' => R.wrAt e2 (fun _ z => by cases z) (fun _ z => by cases z) (by simp) rfl (fun j x h => ?_) fun m x h => .inr ⟨fun z => (by cases z), h⟩⟩
        by_cases hj : j = i
        · subst hj
          have hl : j < s.sl.length := (List.getElem?_eq_some_iff.mp q).1
          have : x = .own t' := by simpa [hl] using h.symm
          subst this
          exact .inl ⟨rfl, t', rfl, e1, c'⟩
        · exact .inr (.inl ⟨fun z => by cases z; exact hj rfl, by rw [List.getElem?_set_ne (Ne.symm hj)] at h; exact h⟩)
      | no => cases e'
      | val u => cases e'
      | bor u => cases e'
end

/-! ### statements -/
inductive Out where
  | nx | bk | ct | rt (d : DV)
abbrev MS := S → Res Out
def FinS (K : PySem.W.Frag) (W : WX) (cv : CV) (G : Hp) (ψ : List Addr) (ω : Addr → Option Ow) (r : Res Out) (D : Ends) : Prop := match r with
  | .ok .nx s => ∀ G' ψ' ω' σ' H', Mo G ψ ω G' ψ' ω' → Rel K G' ψ' ω' s σ' H' → D.nx σ' H'
  | .ok .bk s => ∀ G' ψ' ω' σ' H', Mo G ψ ω G' ψ' ω' → Rel K G' ψ' ω' s σ' H' → D.bk σ' H'
  | .ok .ct s => ∀ G' ψ' ω' σ' H', Mo G ψ ω G' ψ' ω' → Rel K G' ψ' ω' s σ' H' → D.ct σ' H'
  | .ok (.rt d) s => ∀ G' ψ' ω' σ' H', Mo G ψ ω G' ψ' ω' → Rel K G' ψ' ω' s σ' H' → ∀ v, RD K G' ψ' ω' σ' H' v d → D.rt v H'
  | .ex c s => ∀ G' ψ' ω' σ' H', Mo G ψ ω G' ψ' ω' → Rel K G' ψ' ω' s σ' H' → W (cv c) none σ' H'
  | .bad => False
def tS (K : PySem.W.Frag) (W : WX) (cv : CV) (m : MS) : TS := fun D σ H => ∃ G ψ ω s, Rel K G ψ ω s σ H ∧ FinS K W cv G ψ ω (m s) D
structure EvS (X : Cx) (W : WX) (cv : CV) (st : Stmt) (m : MS) : Prop where
  ps : PS X st (tS X.K W cv m)
structure EvSs (X : Cx) (W : WX) (cv : CV) (st : List Stmt) (m : MS) : Prop where
  pss : PSs X st (tS X.K W cv m)
section
variable {K : PySem.W.Frag} {W : WX} {cv : CV} {σ : L2.St} {G G1 : Hp} {ψ ψ1 : List Addr} {ω ω1 : Addr → Option Ow} {s : S} {H : Hp} {D : Ends}
theorem FinS.on {r : Res Out} (f : FinS K W cv G ψ ω r D) (m : Mo G ψ ω G1 ψ1 ω1) : FinS K W cv G1 ψ1 ω1 r D := by
  cases r with
  | ok a s => cases a with
    | nx => exact fun G' ψ' ω' σ' H' m' R => f G' ψ' ω' σ' H' (m.trans m') R
    | bk => exact fun G' ψ' ω' σ' H' m' R => f G' ψ' ω' σ' H' (m.trans m') R
    | ct => exact fun G' ψ' ω' σ' H' m' R => f G' ψ' ω' σ' H' (m.trans m') R
    | rt d => exact fun G' ψ' ω' σ' H' m' R => f G' ψ' ω' σ' H' (m.trans m') R
  | ex c s => exact fun G' ψ' ω' σ' H' m' R => f G' ψ' ω' σ' H' (m.trans m') R
  | bad => exact f
theorem FinS.bind {α : Type} {r : Res α} {k : α → S → Res Out} (f : FinS K W cv G ψ ω (r.bind k) D) :
    Fin K W cv σ G ψ ω r fun a G' ψ' ω' s _ => FinS K W cv G' ψ' ω' (k a s) D := by
  cases r with
  | ok a s => exact fun G' ψ' ω' H' m' _ => FinS.on f m'
  | ex c s => exact fun G' ψ' ω' H' m' R => f G' ψ' ω' σ H' m' R
  | bad => exact f.elim
def mPass : MS := fun s => .ok .nx s
def mBrk : MS := fun s => .ok .bk s
def mCnt : MS := fun s => .ok .ct s
def thenS (m2 : MS) : Out → S → Res Out := fun o s => match o with
  | .nx => m2 s
  | o => .ok o s
def mSeq (m1 m2 : MS) : MS := fun s => (m1 s).bind (thenS m2)
def mIfS (c : S → Res Bool) (a b : MS) : MS := fun s => (c s).bind fun q s1 => if q then a s1 else b s1
def optS (o : Option S) : Res Out := match o with
  | some s => .ok .nx s
  | none => .bad
def mAsg (i : Nat) (me : M) : MS := fun s => (me s).bind fun d s1 => optS (asg i d s1)
def mDrop (me : M) : MS := fun s => (me s).bind fun _ s1 => .ok .nx s1
/-- what a def hands out -/
def mRet (me : M) : MS := fun s => (me s).bind fun d s1 => match d with
  | .ali i => (match s1.sl[i]? with
    | some (.own t) => .ok (.rt (.new t)) { s1 with sl := s1.sl.set i .no }
    | some (.val t) => .ok (.rt (.val t)) s1
    | _ => .bad)
  | .bor _ => .bad
  | d => .ok (.rt d) s1
def mRetN : MS := fun s => .ok (.rt (.val .non)) s
/-- targets -/
def mAsgT (f : T → S → Option S) (me : M) : MS := fun s => (me s).bind fun d s1 => match tk (dz d) s1 with
  | some (t, s2) => optS (f t s2)
  | none => .bad
end
section
variable {X : Cx} {W : WX} {cv : CV} {pos : Pos}
theorem es_nil : EvSs X W cv [] mPass := ⟨pss_w pss_nil fun D σ H ⟨G, ψ, ω, s, R, f⟩ => f G ψ ω σ H Mo.refl R⟩
theorem seq_on {K : PySem.W.Frag} {m1 m2 : MS} {G : Hp} {ψ : List Addr} {ω : Addr → Option Ow} {s : S} {D : Ends} (f : FinS K W cv G ψ ω (mSeq m1 m2 s) D) : FinS K W cv G ψ ω (m1 s) { D with nx := tS K W cv m2 D } := by
  unfold mSeq at f
  cases e : m1 s with
  | ok a s1 =>
    rw [e] at f
    cases a with
    | nx => exact fun G' ψ' ω' σ' H' m' R => ⟨G', ψ', ω', s1, R, FinS.on f m'⟩
    | bk => exact f
    | ct => exact f
    | rt d => exact f
  | ex c s1 => rw [e] at f; exact f
  | bad => rw [e] at f; exact f
theorem es_cons {st : Stmt} {rest : List Stmt} {m1 m2 : MS} (h1 : EvS X W cv st m1) (h2 : EvSs X W cv rest m2) : EvSs X W cv (st :: rest) (mSeq m1 m2) :=
  ⟨pss_w (pss_cons h1.ps h2.pss) fun D σ H ⟨G, ψ, ω, s, R, f⟩ => ⟨G, ψ, ω, s, R, seq_on f⟩⟩
theorem es_one {st : Stmt} {m : MS} (h : EvS X W cv st m) : EvSs X W cv [st] m := ⟨pss_one h.ps⟩
theorem es_pass : EvS X W cv (.Pass pos) mPass := ⟨ps_w ps_pass fun D σ H ⟨G, ψ, ω, s, R, f⟩ => f G ψ ω σ H Mo.refl R⟩
theorem es_brk : EvS X W cv (.Break pos) mBrk := ⟨ps_w ps_break fun D σ H ⟨G, ψ, ω, s, R, f⟩ => f G ψ ω σ H Mo.refl R⟩
theorem es_cnt : EvS X W cv (.Continue pos) mCnt := ⟨ps_w ps_continue fun D σ H ⟨G, ψ, ω, s, R, f⟩ => f G ψ ω σ H Mo.refl R⟩
theorem es_drop {e : Expr} {m : M} (h : Ev X W cv e m) (hs : swapsWith e none pos.line X.env = pure false := by rfl) : EvS X W cv (.Expr e pos) (mDrop m) :=
  ⟨ps_w (ps_expr h.pe hs) fun D σ H ⟨G, ψ, ω, s, R, f⟩ => ⟨G, ψ, ω, s, R, (FinS.bind f).imp fun d G' ψ' ω' s' H' mo R' q v rd => q G' ψ' ω' σ H' Mo.refl R'⟩⟩
theorem es_asg {i : Nat} {st : Stmt} {m : M} (h : EvA1 X W cv i st m) : EvS X W cv st (mAsg i m) :=
  ⟨ps_w h.ps fun D σ H ⟨G, ψ, ω, s, R, f⟩ => ⟨G, ψ, ω, s, R, (FinS.bind f).imp fun d G' ψ' ω' s' H' mo R' q v rd => by
    show D.nx (σ.set i (some v)) H'
    cases e : asg i d s' with
    | none => simp only [e] at q; exact q.elim
    | some s2 =>
      simp only [e] at q
      obtain ⟨G2, ω2, mo2, R2⟩ := R'.asg rd e
      exact q G2 ψ' ω2 _ H' mo2 R2⟩⟩
theorem es_asgT {tg e : Expr} {vs : List Nat} {f : T → S → Option S} {m : M} (he : Ev X W cv e m) (hg : EvG X vs tg f) (hs : swapsWithSole [tg] e pos.line X.env = pure false := by rfl) (hw : swappedStores [tg] e X.env = pure none := by rfl)
    (h1 : (assignEach [tg] X.env).map (·.2) = [assign tg X.env] := by rfl) : EvS X W cv (.Assign [tg] e pos) (mAsgT f m) :=
  ⟨ps_w (ps_asg he.pe hg.pg hs hw h1) fun D σ H ⟨G, ψ, ω, s, R, h⟩ => ⟨G, ψ, ω, s, R, (FinS.bind h).imp fun d G' ψ' ω' s' H' mo R' q v rd => by
    obtain ⟨G2, mo2, R2, rd2⟩ := R'.dz rd
    cases e : tk (dz d) s' with
    | none => simp only [e] at q; exact q.elim
    | some x =>
      obtain ⟨t, s2⟩ := x
      simp only [e] at q
      obtain ⟨G3, ω3, mo3, R3, rp⟩ := R2.tk rd2 e
      cases e2 : f t s2 with
      | none => simp only [e2] at q; exact q.elim
      | some s3 =>
        simp only [e2] at q
        exact ⟨G3, ψ', ω3, s2, t, s3, R3, rp, e2, fun σ' R4 _ _ => q G3 ψ' ω3 σ' H' (mo2.trans mo3) R4⟩⟩⟩
theorem es_ret {e : Expr} {m : M} (h : Ev X W cv e m) : EvS X W cv (.Return (some e) pos) (mRet m) :=
  ⟨ps_w (ps_ret h.pe) fun D σ H ⟨G, ψ, ω, s, R, f⟩ => ⟨G, ψ, ω, s, R, (FinS.bind f).imp fun d G' ψ' ω' s' H' mo R' q v rd => by
    cases d with
    | val t => exact q G' ψ' ω' σ H' Mo.refl R' v rd
    | new t => exact q G' ψ' ω' σ H' Mo.refl R' v rd
    | bor t => exact q.elim
    | ali i =>
      simp only at q
      have hv : σ[i]? = some (some v) := rd
      cases e : s'.sl[i]? with
      | none => rw [e] at q; exact q.elim
      | some x =>
        rw [e] at q
        have so := R'.slots i x e
        cases x with
        | no => exact q.elim
        | bor t => exact q.elim
        | val t =>
          obtain ⟨v', e1, rp⟩ := so
          rw [hv] at e1; cases e1
          exact q G' ψ' ω' σ H' Mo.refl R' v rp
        | own t =>
          obtain ⟨a, o, e1, e2, e3, c⟩ := so
          rw [hv] at e1; cases e1
          have hne : ∀ b w, ω' b = some w → w ≠ .slot i → (fun b => if b = a then none else ω' b) b = some w := fun b w h1 h2 => by
            have : b ≠ a := fun z => by subst z; rw [e2] at h1; cases h1; exact h2 rfl
            simp [this, h1]
          refine q G' ψ' (fun b => if b = a then none else ω' b) σ H' ⟨Same.refl _, List.prefix_refl _, fun b u h => hne b _ h (fun z => by cases z), fun b u h => hne b _ h (fun z => by cases z)⟩ ⟨R'.le, fun b u h => ?_, fun b u h => ?_, fun b u h => ?_, fun b h => ?_, fun j x h => ?_, by simp [R'.len], R'.psi, fun n x h => ?_⟩ (.ref a) ⟨a, o, rfl, R'.wn e2, by simp, e3, c⟩
          · by_cases hb : b = a
            · simp [hb]
            · simp [hb, R'.gw b u h]
          · by_cases hb : b = a
            · simp [hb] at h
            · exact R'.hold b u (by simpa [hb] using h)
          · by_cases hb : b = a
            · simp [hb] at h
            · exact R'.keep b u (by simpa [hb] using h)
          · by_cases hb : b = a
            · simp [hb]
            · simp [hb, R'.tr b h]
          · by_cases hj : j = i
            · subst hj
              have hl : j < s'.sl.length := (List.getElem?_eq_some_iff.mp e).1
              have : x = .no := by simpa [hl] using h.symm
              subst this; trivial
            · rw [List.getElem?_set_ne (Ne.symm hj)] at h
              exact (R'.slots j x h).mono (Same.refl _) (List.prefix_refl _) (fun b u hh => hne b _ hh (fun z => by cases z)) fun b u _ w hh => ⟨hne b _ w (fun z => by cases z; exact hj rfl), hh⟩
          · obtain ⟨b, u, q1, q2, q3, c'⟩ := R'.cells n x h
            exact ⟨b, u, q1, hne b _ q2 (fun z => by cases z), q3, c'⟩⟩⟩
theorem es_retN : EvS X W cv (.Return none pos) mRetN := ⟨ps_w ps_retN fun D σ H ⟨G, ψ, ω, s, R, f⟩ => f G ψ ω σ H Mo.refl R .non .non⟩
theorem es_if {c : Expr} {a b : List Stmt} {mc : S → Res Bool} {ma mb : MS} (hc : EvT X W cv c mc) (ha : EvSs X W cv a ma) (hb : EvSs X W cv b mb) : EvS X W cv (.If c a b pos) (mIfS mc ma mb) :=
  ⟨ps_w (ps_if hc.pt ha.pss hb.pss) fun D σ H ⟨G, ψ, ω, s, R, f⟩ => ⟨G, ψ, ω, s, R, (FinS.bind f).imp fun q G' ψ' ω' s' H' mo R' h => by
    cases q with
    | true => exact ⟨G', ψ', ω', s', R', h⟩
    | false => exact ⟨G', ψ', ω', s', R', h⟩⟩⟩
end

/-! ### loops -/
/-- what a turn's end means for the loop -/
def turnS (k : S → Res Out) : Out → S → Res Out := fun o s => match o with
  | .nx => k s
  | .ct => k s
  | .bk => .ok .nx s
  | .rt d => .ok (.rt d) s
def forL (f : T → S → Option S) (body : MS) : List T → S → Res Out
  | [], s => .ok .nx s
  | t :: ts, s => match f t s with
    | none => .bad
    | some s1 => (body s1).bind (turnS (forL f body ts))
def mFor (src : S → Res (List T)) (f : T → S → Option S) (body : MS) : MS := fun s => (src s).bind fun its s1 => forL f body its s1
def whileL (c : S → Res Bool) (body : MS) : Nat → S → Res Out
  | 0, _ => .bad
  | n + 1, s => (c s).bind fun q s1 => if q then (body s1).bind (turnS (whileL c body n)) else .ok .nx s1
section
variable {X : Cx} {W : WX} {cv : CV} {pos : Pos}
theorem turn_on {K : PySem.W.Frag} {G : Hp} {ψ : List Addr} {ω : Addr → Option Ow} {r : Res Out} {k : S → Res Out} {D : Ends} {N : L2.St → Hp → Prop} (f : FinS K W cv G ψ ω (r.bind (turnS k)) D)
    (h : ∀ s' G' ψ' ω' σ' H', Mo G ψ ω G' ψ' ω' → Rel K G' ψ' ω' s' σ' H' → FinS K W cv G' ψ' ω' (k s') D → N σ' H') : FinS K W cv G ψ ω r { D with nx := N, ct := N, bk := D.nx } := by
  cases r with
  | ok a s1 => cases a with
    | nx => exact fun G' ψ' ω' σ' H' m' R => h s1 G' ψ' ω' σ' H' m' R (FinS.on f m')
    | ct => exact fun G' ψ' ω' σ' H' m' R => h s1 G' ψ' ω' σ' H' m' R (FinS.on f m')
    | bk => exact f
    | rt d => exact f
  | ex c s1 => exact f
  | bad => exact f
theorem es_for {tg iter : Expr} {body : List Stmt} {src : S → Res (List T)} {vs : List Nat} {f : T → S → Option S} {m : MS} (hp : PassesOwn (model X.prog X.w) X.A X.env X.xe) (hc : X.calm = true) (hi : EvI X W cv tg iter src) (hg : EvG X vs tg f) (hb : EvSs X W cv body m)
    (hs : ∀ x, foldedSetIterable iter X.env x = pure x := by intro _; rfl) : EvS X W cv (.For tg iter body [] pos) (mFor src f m) := by
  refine ⟨ps_w (ps_for hp hc hi.pi hg.pg hb.pss hs) fun D σ H ⟨G, ψ, ω, s, R, h⟩ => ⟨G, ψ, ω, s, R, (FinS.bind h).imp fun its G1 ψ1 ω1 s1 H1 mo1 R1 f1 J wk => ?_⟩⟩
  refine ⟨fun i n σ H => ∃ G' ψ' ω' s', n = its.length - i ∧ i ≤ its.length ∧ Mo G1 ψ1 ω1 G' ψ' ω' ∧ Rel X.K G' ψ' ω' s' σ H ∧ FinS X.K W cv G' ψ' ω' (forL f m (its.drop i) s') D,
    ⟨its.length, G1, ψ1, ω1, s1, by simp, Nat.zero_le _, Mo.refl, R1, f1⟩, ?_⟩
  rintro i n σ2 H2 ⟨G', ψ', ω', s', rfl, hi, mo', R', f'⟩
  by_cases hlt : i < its.length
  · obtain ⟨t, ht⟩ : ∃ t, its[i]? = some t := ⟨its[i], List.getElem?_eq_getElem hlt⟩
    have hdrop : its.drop i = t :: its.drop (i + 1) := by
      rw [List.drop_eq_getElem_cons hlt]
      have : its[i] = t := by
        have := List.getElem?_eq_getElem hlt
        rw [ht] at this
        exact (Option.some.inj this).symm
      rw [this]
    rw [hdrop] at f'
    obtain ⟨hgo, hyld⟩ := wk.item G' ψ' H2 i t mo'.g mo'.p R'.le (fun a o e => R'.hold a o (mo'.h a o e)) ht
    refine .inr ⟨hgo, fun σ H => ∃ G' ψ' ω' s', i + 1 ≤ its.length ∧ Mo G1 ψ1 ω1 G' ψ' ω' ∧ Rel X.K G' ψ' ω' s' σ H ∧ FinS X.K W cv G' ψ' ω' (forL f m (its.drop (i + 1)) s') D,
      fun σ' H' ⟨G', ψ', ω', s', h1, h2, h3, h4⟩ => ⟨its.length - (i + 1), by omega, G', ψ', ω', s', rfl, h1, h2, h3, h4⟩, fun x H' hy => ?_⟩
    obtain ⟨G2, al, rp⟩ := hyld x H' hy
    simp only [forL] at f'
    cases e1 : f t s' with
    | none => rw [e1] at f'; exact f'.elim
    | some s2 =>
      rw [e1] at f'
      refine ⟨G2, ψ', ω', s', t, s2, R'.al al, rp, e1, fun σ' R3 _ _ => ⟨G2, ψ', ω', s2, R3, turn_on (FinS.on f' al.mo) fun s3 G3 ψ3 ω3 σ3 H3 mo3 R3 f3 => ⟨G3, ψ3, ω3, s3, hlt, (mo'.trans al.mo).trans mo3, R3, f3⟩⟩⟩
  · have e : i = its.length := by omega
    subst e
    rw [List.drop_length] at f'
    exact .inl ⟨wk.stop H2 (mo'.g.trans R'.le) (fun a o e => R'.hold a o (mo'.h a o e)), f' G' ψ' ω' σ2 H2 Mo.refl R'⟩
theorem es_while {c : Expr} {body : List Stmt} {mc : S → Res Bool} {m : MS} (n : Nat) (hp : PassesOwn (model X.prog X.w) X.A X.env X.xe) (hc : EvT X W cv c mc) (hb : EvSs X W cv body m) : EvS X W cv (.While c body [] pos) (whileL mc m n) := by
  refine ⟨ps_w (ps_while hp hc.pt hb.pss) fun D σ H ⟨G, ψ, ω, s, R, h⟩ => ?_⟩
  refine ⟨fun n σ H => ∃ G' ψ' ω' s', Rel X.K G' ψ' ω' s' σ H ∧ FinS X.K W cv G' ψ' ω' (whileL mc m n s') D, ⟨n, G, ψ, ω, s, R, h⟩, ?_⟩
  rintro n σ H ⟨G, ψ, ω, s, R, f⟩
  cases n with
  | zero => exact f.elim
  | succ n =>
    simp only [whileL] at f
    refine ⟨G, ψ, ω, s, R, (FinS.bind f).imp fun q G1 ψ1 ω1 s1 H1 mo1 R1 f1 => ?_⟩
    cases q with
    | false => exact f1 G1 ψ1 ω1 σ H1 Mo.refl R1
    | true => exact ⟨fun σ' H' => ∃ G' ψ' ω' s', Rel X.K G' ψ' ω' s' σ' H' ∧ FinS X.K W cv G' ψ' ω' (whileL mc m n s') D, fun σ' H' h => ⟨n, Nat.lt_succ_self _, h⟩,
        ⟨G1, ψ1, ω1, s1, R1, turn_on f1 fun s3 G3 ψ3 ω3 σ3 H3 mo3 R3 f3 => ⟨G3, ψ3, ω3, s3, R3, f3⟩⟩⟩
end
end Vi

set_option Elab.async false
set_option linter.all false
set_option maxRecDepth 100000
namespace Vi
open PySem PySem.Spec PyProof.Rows L2

/-! ### o[i] = e -/
def setKT {κ : Type} [DecidableEq κ] : List κ → List T → κ → T → List T
  | k' :: ks, t' :: ts, k, t => (if k' = k then t else t') :: setKT ks ts k t
  | _, _, _, _ => []
def putKT {κ : Type} [DecidableEq κ] (ks : List κ) (ts : List T) (k : κ) (t : T) : List κ × List T :=
  if (ks.any fun q => decide (q = k)) = true then (ks, setKT ks ts k t) else (ks ++ [k], ts ++ [t])
/-- the thing behind c[y] = t -/
def gSet (c y t : T) : Option T := match c, y with
  | .lst ts, .int i => (ixN ts.length i).map fun j => .lst (ts.set j t)
  | .dk ks ts, y => if ks.length < line then (keyOf y).map fun k => .dk (putKT ks ts k t).1 (putKT ks ts k t).2 else none
  | .dt ks ts, y => if ks.length < line then (keysOf y).map fun k => .dt (putKT ks ts k t).1 (putKT ks ts k t).2 else none
  | _, _ => none
def subS (t : T) (do_ di : DV) (s : S) : Option S := (rd s (dz do_)).bind fun c => (rd s (dz di)).bind fun y => (gSet c y t).bind fun c' => wr (dz do_) c' s
def mSub (mo mi me : M) : MS := fun s => (me s).bind fun d s1 => match tk (dz d) s1 with
  | none => .bad
  | some (t, s2) => (mo s2).bind fun d1 s3 => (mi s3).bind fun d2 s4 => optS (subS t d1 d2 s4)
def rSetA : TSet := fun o i v H Q => rSetL o i v H Q ∨ rSetD o i v H Q
theorem set_any {X : Cx} (hu : X.A.units + 1 < cLine) : PSet X rSetA := fun pins s σ H o i v ov iv u Q I ro ri rv h =>
  h.elim (fun h => set_list pins s σ H o i v ov iv u Q I ro ri rv h) fun h => set_dict hu pins s σ H o i v ov iv u Q I ro ri rv h
section
variable {K : PySem.W.Frag} {G : Hp} {ψ : List Addr}
theorem setKT_ok {κ : Type} [DecidableEq κ] {k : κ} {v : V} {t : T} (r : Rp K G ψ v t) : ∀ {kvs : List (κ × V)} {ts : List T}, RpA K G ψ (kvs.map (·.2)) ts →
    RpA K G ψ ((kvs.map fun kv => if kv.1 = k then (kv.1, v) else kv).map (·.2)) (setKT (kvs.map (·.1)) ts k t)
  | [], _, .nil => .nil
  | (k', v') :: kvs, _, .cons (t := t') (ts := ts) r' rs => by
    have h2 := setKT_ok r (k := k) rs
    simp only [List.map_cons, setKT]
    by_cases hk : k' = k
    · simp only [hk, if_true]
      exact .cons r h2
    · simp only [hk, if_false]
      exact .cons r' h2
theorem putKT_ok {κ : Type} [DecidableEq κ] {k : κ} {v : V} {t : T} (r : Rp K G ψ v t) {kvs : List (κ × V)} {ts : List T} (rs : RpA K G ψ (kvs.map (·.2)) ts) :
    (putKT (kvs.map (·.1)) ts k t).1 = (putK kvs k v).map (·.1) ∧ RpA K G ψ ((putK kvs k v).map (·.2)) (putKT (kvs.map (·.1)) ts k t).2 := by
  unfold putKT putK
  have e : ((kvs.map (·.1)).any fun q => decide (q = k)) = kvs.any fun kv => decide (kv.1 = k) := by rw [List.any_map]; rfl
  rw [e]
  split
  · refine ⟨?_, setKT_ok r rs⟩
    rw [List.map_map]
    apply List.map_congr_left
    intro q _
    simp only [Function.comp]
    split <;> rfl
  · exact ⟨by simp, by rw [List.map_append]; exact rs.append (.cons r .nil)⟩
theorem gSet_ok {σ : L2.St} {ω : Addr → Option Ow} {s s' : S} {H : Hp} (R : Rel K G ψ ω s σ H) {o i v : V} {d1 d2 : DV} {t : T} {Q : Hp → Prop} (r1 : RD K G ψ ω σ H o (dz d1)) (r2 : RD K G ψ ω σ H i (dz d2)) (rv : Rp K G ψ v t) (e : subS t d1 d2 s = some s') (q : ∀ H', Rel K G ψ ω s' σ H' → Q H') : rSetA o i v H Q := by
  unfold subS at e
  obtain ⟨c, e1, e⟩ := Option.bind_eq_some_iff.mp e
  obtain ⟨y, e2, e⟩ := Option.bind_eq_some_iff.mp e
  obtain ⟨c', e3, e4⟩ := Option.bind_eq_some_iff.mp e
  obtain ⟨a, ho, rfl, hH, ct, W⟩ := R.write r1 e1 e4
  have ry := R.rd r2 e2
  cases ct with
  | lst rs =>
    cases y with
    | int k =>
      obtain ⟨j, e5, rfl⟩ := Option.map_eq_some_iff.mp e3
      cases ry.int
      exact .inl ⟨a, _, k, j, rfl, rfl, hH, by rw [rs.len]; exact e5, q _ (W _ (.lst (rs.set j rv)))⟩
    | _ => cases e3
  | dk ek rs =>
    subst ek
    simp only [gSet] at e3
    split at e3
    · rename_i hl
      obtain ⟨k, e5, rfl⟩ := Option.map_eq_some_iff.mp e3
      rw [keyOf_rd ry e5]
      obtain ⟨h1, h2⟩ := putKT_ok (k := k) rv rs
      exact .inr ⟨a, _, rfl, DPut.k (k := k) hH (by rw [List.length_map] at hl; exact hl), q _ (W _ (.dk h1 h2))⟩
    · cases e3
  | dt ek rs =>
    subst ek
    simp only [gSet] at e3
    split at e3
    · rename_i hl
      obtain ⟨k, e5, rfl⟩ := Option.map_eq_some_iff.mp e3
      obtain ⟨b, rfl, hb⟩ := keysOf_rd R.le ry e5
      obtain ⟨h1, h2⟩ := putKT_ok (k := k) rv rs
      exact .inr ⟨a, _, rfl, DPut.t (k := k) hH hb (by rw [List.length_map] at hl; exact hl), q _ (W _ (.dt h1 h2))⟩
    · cases e3
end
section
variable {X : Cx} {W : WX} {cv : CV} {pos tpos : Pos} {o i e : Expr} {mo mi me : M}
theorem es_sub (hu : X.A.units + 1 < cLine) (ho : Ev X W cv o mo) (hi : Ev X W cv i mi) (he : Ev X W cv e me)
    (ha : ∀ v, assign (.Subscript o i tpos) X.env v = (do
      let ov ← holding [v] (eval o X.env)
      let iv ← holding [v, ov] (eval i X.env)
      standAt tpos
      holding [v, ov, iv] (setItem ov iv v)
      release [v, ov, iv] []) := by intro _; rfl)
    (hs : swapsWithSole [.Subscript o i tpos] e pos.line X.env = pure false := by rfl) (hw : swappedStores [.Subscript o i tpos] e X.env = pure none := by rfl)
    (h1 : (assignEach [.Subscript o i tpos] X.env).map (·.2) = [assign (.Subscript o i tpos) X.env] := by rfl) : EvS X W cv (.Assign [.Subscript o i tpos] e pos) (mSub mo mi me) :=
  ⟨ps_w (ps_asg he.pe (pg_sub ho.pe hi.pe (set_any hu) ha) hs hw h1) fun D σ H ⟨G, ψ, ω, s, R, h⟩ => ⟨G, ψ, ω, s, R, (FinS.bind h).imp fun d G' ψ' ω' s' H' mo R' q v rd => by
    obtain ⟨G2, mo2, R2, rd2⟩ := R'.dz rd
    cases e : tk (dz d) s' with
    | none => simp only [e] at q; exact q.elim
    | some x =>
      obtain ⟨t, s2⟩ := x
      simp only [e] at q
      obtain ⟨G3, ω3, mo3, R3, rp⟩ := R2.tk rd2 e
      have q := FinS.on q (mo2.trans mo3)
      refine ⟨G3, ψ', ω3, s2, R3, (FinS.bind q).imp fun d1 G4 ψ4 ω4 s4 H4 mo4 R4 q4 ov rd4 => ?_⟩
      obtain ⟨G5, mo5, R5, rd5⟩ := R4.dz rd4
      refine ⟨G5, ψ4, ω4, s4, R5, (FinS.bind (FinS.on q4 mo5)).imp fun d2 G6 ψ6 ω6 s6 H6 mo6 R6 q6 iv rd6 => ?_⟩
      obtain ⟨G7, mo7, R7, rd7⟩ := R6.dz rd6
      cases e2 : subS t d1 d2 s6 with
      | none => simp only [e2] at q6; exact q6.elim
      | some s7 =>
        simp only [e2] at q6
        have m := ((mo4.trans mo5).trans mo6).trans mo7
        exact gSet_ok R7 (RD.mono (mo6.trans mo7) rd5) rd7 (rp.mono m.g m.p) e2 fun H' R8 => q6 G7 ψ6 ω6 σ H' mo7 R8⟩⟩
end

/-! ### methods that change a list -/
def isL : T → Bool
  | .lst _ => true
  | _ => false
def methS (g : List T → List T → Option (T × List T)) (d : DV) (ds : List DV) (s : S) : Option (T × S) := (tks ds s).bind fun x => (rd x.2 (dz d)).bind fun c => match c with
  | .lst xs => (g xs x.1).bind fun y => (wr (dz d) (.lst y.2) x.2).map fun s' => (y.1, s')
  | _ => none
def optV (o : Option (T × S)) : Res DV := match o with
  | some (t, s) => .ok (.val t) s
  | none => .bad
def mMeth (g : List T → List T → Option (T × List T)) (mo : M) (ms : List M) : M := fun s => (mo s).bind fun d s1 => if ((rd s1 (dz d)).map isL) = some true then (evs ms s1).bind fun ds s2 => optV (methS g d ds s2) else .bad
def PRm (K : PySem.W.Frag) (r : V → List V → Hp → VK → Prop) (g : List T → List T → Option (T × List T)) : Prop := ∀ G ψ H a xs vs txs tvs t tys Q, Same G H → H a = some (.lst xs) → RpA K G ψ xs txs → RpA K G ψ vs tvs → g txs tvs = some (t, tys) →
  (∀ ys v, RpA K G ψ ys tys → Rp K G ψ v t → Q v (upd H a (.lst ys))) → r (.ref a) vs H Q
section
variable {X : Cx} {W : WX} {cv : CV} {apos cpos : Pos} {o e : Expr} {es : List Expr} {mo : M} {ms : List M} {g : List T → List T → Option (T × List T)} {r : V → List V → Hp → VK → Prop} {id : String} {name : Str}
theorem meth_on {K : PySem.W.Frag} {σ : L2.St} {G : Hp} {ψ : List Addr} {ω : Addr → Option Ow} {s : S} {H : Hp} (p : PRm K r g) (R : Rel K G ψ ω s σ H) {v : V} {d : DV} {vs : List V} {ds : List DV} {Q : VK} (r1 : RD K G ψ ω σ H v (dz d)) (rs : RDs K G ψ ω σ H vs ds)
    (f : Fin K W cv σ G ψ ω (optV (methS g d ds s)) fun d G' ψ' ω' _ H' => ∀ v, RD K G' ψ' ω' σ H' v d → Q v H') : r v vs H Q := by
  cases e : methS g d ds s with
  | none => rw [e] at f; exact f.elim
  | some z =>
    obtain ⟨t, s'⟩ := z
    rw [e] at f
    unfold methS at e
    obtain ⟨⟨ts, s2⟩, e1, e⟩ := Option.bind_eq_some_iff.mp e
    obtain ⟨c, e2, e⟩ := Option.bind_eq_some_iff.mp e
    cases c with
    | lst xs =>
      obtain ⟨⟨t', ys⟩, e3, e⟩ := Option.bind_eq_some_iff.mp e
      obtain ⟨s3, e4, e⟩ := Option.map_eq_some_iff.mp e
      cases e
      obtain ⟨G2, ω2, m2, R2, ra⟩ := R.tks rs e1
      obtain ⟨a, o, rfl, hH, ct, W⟩ := R2.write (RD.mono m2 r1) e2 e4
      cases ct with
      | lst rx => exact p G2 ψ H a _ vs xs ts _ ys Q R2.le hH rx ra e3 fun ys v ry rv => f G2 ψ ω2 _ m2 (W _ (.lst ry)) v rv
    | _ => cases e
theorem tyL {K : PySem.W.Frag} {G : Hp} {ψ : List Addr} {H : Hp} {v : V} {c : T} (hs : Same G H) (r : RdT K G ψ H v c) (h : isL c = true) : tyV K "list" v H := by
  cases c with
  | lst ts => obtain ⟨a, xs, rfl, h, _⟩ := r.lst hs; exact .inl ⟨rfl, _, SqL.of h⟩
  | _ => cases h
theorem ev_meth (p : PRm X.K r g) (slot : PySem.Slot "list" name id) (hty : typeOf (.builtin id) = pure (.type "method_descriptor")) (hm : MtR X id r) (ho : Ev X W cv o mo) (ha : EvA X W cv (e :: es) ms)
    (hbase : attributeBase o name X.env (eval o X.env) = eval o X.env := by rfl)
    (hfew : ((backTo cpos (starEach (e :: es) X.env)).all (fun x => !x.1) && (backToKw cpos (keywordEach [] X.env)).all (fun x => x.1.isSome)
      && decide ((e :: es).length + ([] : List Keyword).length + (if ([] : List Keyword).isEmpty then 0 else 1) < 30)) = true := by rfl)
    (hline : (apos.endLine == cpos.line) = true := by rfl) (hs : starEach (e :: es) X.env = (false, eval e X.env) :: starEach es X.env := by rfl) (hplain : (backTo cpos (starEach es X.env)).any (·.1) = false := by rfl) :
    Ev X W cv (.Call (.Attribute o name apos) (e :: es) [] cpos) (mMeth g mo ms) :=
  ⟨pe_w (pe_bm PySem.F.plainAttrs_list slot hty hm ho.pe ha.pa hbase hfew hline hs hplain) fun σ H Q ⟨G, ψ, ω, s, R, f⟩ => by
    refine tI_on R f fun d s1 G1 ψ1 ω1 H1 v mo R1 rv f1 => ?_
    obtain ⟨G2, mo2, R2, rv2⟩ := R1.dz rv
    split at f1
    · rename_i hl
      obtain ⟨c, e1, e2⟩ := Option.map_eq_some_iff.mp hl
      refine ⟨tyL R2.le (R2.rd rv2 e1) e2, G2, ψ1, ω1, s1, R2, (Fin.on f1 mo2).bind.imp fun ds G3 ψ3 ω3 s3 H3 mo3 R3 f3 vs rvs => meth_on p R3 (RD.mono mo3 rv2) rvs f3⟩
    · exact f1.elim⟩
theorem ev_meth0 (p : PRm X.K r g) (slot : PySem.Slot "list" name id) (hty : typeOf (.builtin id) = pure (.type "method_descriptor")) (hm : MtR X id r) (ho : Ev X W cv o mo)
    (hbase : attributeBase o name X.env (eval o X.env) = eval o X.env := by rfl) (hline : (apos.endLine == cpos.line) = true := by rfl) : Ev X W cv (.Call (.Attribute o name apos) [] [] cpos) (mMeth g mo []) :=
  ⟨pe_w (pe_bm0 PySem.F.plainAttrs_list slot hty hm ho.pe hbase hline) fun σ H Q ⟨G, ψ, ω, s, R, f⟩ => by
    refine tI_on R f fun d s1 G1 ψ1 ω1 H1 v mo R1 rv f1 => ?_
    obtain ⟨G2, mo2, R2, rv2⟩ := R1.dz rv
    split at f1
    · rename_i hl
      obtain ⟨c, e1, e2⟩ := Option.map_eq_some_iff.mp hl
      exact ⟨tyL R2.le (R2.rd rv2 e1) e2, meth_on (ds := []) (vs := []) p R2 rv2 trivial (Fin.on f1 mo2)⟩
    · exact f1.elim⟩
def gApp : List T → List T → Option (T × List T)
  | xs, [t] => if xs.length < line then some (.non, xs ++ [t]) else none
  | _, _ => none
theorem pm_app {K : PySem.W.Frag} : PRm K rAppend gApp := by
  intro G ψ H a xs vs txs tvs t tys Q hs hH rx rv e q
  cases rv with
  | nil => cases e
  | cons r1 r2 => cases r2 with
    | cons => cases e
    | nil =>
      simp only [gApp] at e
      split at e
      · rename_i hl
        cases e
        exact ⟨a, xs, _, rfl, rfl, hH, by rw [rx.len]; exact hl, q _ _ (rx.append (.cons r1 .nil)) .non⟩
      · cases e
def gIns : List T → List T → Option (T × List T)
  | xs, [.int i, t] => if xs.length < line ∧ 0 ≤ i ∧ i < 2 ^ 63 then some (.non, xs.take i.toNat ++ [t] ++ xs.drop i.toNat) else none
  | _, _ => none
theorem ev_append (ho : Ev X W cv o mo) (ha : EvA X W cv [e] ms) (hbase : attributeBase o "append" X.env (eval o X.env) = eval o X.env := by rfl)
    (hfew : ((backTo cpos (starEach [e] X.env)).all (fun x => !x.1) && (backToKw cpos (keywordEach [] X.env)).all (fun x => x.1.isSome)
      && decide (([e]).length + ([] : List Keyword).length + (if ([] : List Keyword).isEmpty then 0 else 1) < 30)) = true := by rfl)
    (hline : (apos.endLine == cpos.line) = true := by rfl) (hs : starEach [e] X.env = (false, eval e X.env) :: starEach [] X.env := by rfl) : Ev X W cv (.Call (.Attribute o "append" apos) [e] [] cpos) (mMeth gApp mo ms) :=
  ev_meth pm_app PySem.F.slot_list_append PySem.F.type_list_append mt_append ho ha hbase hfew hline hs
theorem pm_ins {K : PySem.W.Frag} : PRm K (fun x vs H Q => ∃ (l : Addr) (xs : List V) (i : Int) (y : V), x = .ref l ∧ vs = [.int i, y] ∧ H l = some (.lst xs) ∧ xs.length < sizeLine ∧ 0 ≤ i ∧ i < 2 ^ 63 ∧
    Q .non (upd H l (.lst (xs.take i.toNat ++ [y] ++ xs.drop i.toNat)))) gIns := by
  intro G ψ H a xs vs txs tvs t tys Q hs hH rx rv e q
  cases rv with
  | nil => cases e
  | cons r1 r2 => cases r2 with
    | nil => cases r1 <;> cases e
    | cons r2 r3 => cases r3 with
      | cons => cases r1 <;> cases e
      | nil =>
        cases r1 with
        | int i =>
          simp only [gIns] at e
          split at e
          · rename_i hl
            cases e
            exact ⟨a, xs, i, _, rfl, rfl, hH, by rw [rx.len]; exact hl.1, hl.2.1, hl.2.2, q _ _ (((rx.take _).append (.cons r2 .nil)).append (rx.drop _)) .non⟩
          · cases e
        | _ => cases e
theorem ev_insert {e2 : Expr} (ho : Ev X W cv o mo) (ha : EvA X W cv [e, e2] ms) (hbase : attributeBase o "insert" X.env (eval o X.env) = eval o X.env := by rfl)
    (hfew : ((backTo cpos (starEach [e, e2] X.env)).all (fun x => !x.1) && (backToKw cpos (keywordEach [] X.env)).all (fun x => x.1.isSome)
      && decide (([e, e2]).length + ([] : List Keyword).length + (if ([] : List Keyword).isEmpty then 0 else 1) < 30)) = true := by rfl)
    (hline : (apos.endLine == cpos.line) = true := by rfl) (hs : starEach [e, e2] X.env = (false, eval e X.env) :: starEach [e2] X.env := by rfl) (hplain : (backTo cpos (starEach [e2] X.env)).any (·.1) = false := by rfl) : Ev X W cv (.Call (.Attribute o "insert" apos) [e, e2] [] cpos) (mMeth gIns mo ms) :=
  ev_meth pm_ins PySem.F.slot_list_insert PySem.F.type_list_insert mt_insert ho ha hbase hfew hline hs hplain
end
/-! ### raise -/
def mRaise (c : Nat) : MS := fun s => .ex c s
section
variable {X : Cx} {W : WX} {cv : CV} {pos : Pos}
theorem es_raise {c : Nat} {C : Addr} {bmB : List Value} {B newId initId : String} {x m : Str} {j : Nat} {p p2 pos2 : Pos} (hc : X.calm = true) (tk : Takes X W) (F : PySem.ExcBaseFacts B newId initId bmB) (q : PySem.W.excIn X.K C bmB newId = true) (gC : X.mg x = some (.ref C)) (kC : PySem.W.keepIn X.K (.ref C) = true)
    (r1 : PySem.W.subIn X.K (.ref C) (.type "BaseException") = some true) (r2 : PySem.W.typeIn X.K (.ref C) = some (.type "type")) (hcv : cv c = .ref C) (hg : Gl X x := by rfl)
    (hdb : (x == ("__debug__" : Str)) = false := by decide) : EvS X W cv (.Raise (some (.Call (.Name x p) [.Constant (.str m) j p2] [] pos2)) none pos) (mRaise c) :=
  ⟨ps_w (ps_raise hc tk (pmk_own F q gC kC (raises_own r1 r2) hg hdb)) fun D σ H ⟨G, ψ, ω, s, R, f⟩ => by
    have := f G ψ ω σ H Mo.refl R
    rw [hcv] at this
    exact this⟩
end
end Vi

set_option Elab.async false
set_option linter.all false
set_option maxRecDepth 100000
namespace Vi
open PySem PySem.Spec PyProof.Rows L2

/-! ### defs -/
/-- a def's meaning: of arguments and cells -/
abbrev FS := List DV → List T → Res DV
def argV (s : S) : DV → Option DV
  | .val t => some (.val t)
  | .bor t => some (.bor t)
  | .new _ => none
  | .ali i => match s.sl[i]? with
    | some (.own t) => some (.bor t)
    | some (.val t) => some (.val t)
    | _ => none
def argVs (s : S) : List DV → Option (List DV)
  | [] => some []
  | d :: ds => match argV s d, argVs s ds with
    | some a, some as => some (a :: as)
    | _, _ => none
/-- behind a call -/
def backR (s : S) : Res DV → Res DV
  | .ok (.val t) r => .ok (.val t) { s with ce := r.ce }
  | .ok (.new t) r => .ok (.new t) { s with ce := r.ce }
  | .ok _ _ => .bad
  | .ex c r => .ex c { s with ce := r.ce }
  | .bad => .bad
def mCall (f : FS) (ms : List M) : M := fun s => (evs ms s).bind fun ds s1 => match argVs s1 ds with
  | none => .bad
  | some as => backR s1 (f as s1.ce)
def slotOf : DV → Slot
  | .val t => .val t
  | .bor t => .bor t
  | _ => .no
def endF : Res Out → Res DV
  | .ok .nx s => .ok (.val .non) s
  | .ok (.rt (.val t)) s => .ok (.val t) s
  | .ok (.rt (.new t)) s => .ok (.new t) s
  | .ok _ _ => .bad
  | .ex c s => .ex c s
  | .bad => .bad
def runF (n : Nat) (m : MS) : FS := fun as ce => endF (m ⟨as.map slotOf ++ List.replicate (n - as.length) .no, ce⟩)
def RA1 (K : PySem.W.Frag) (G : Hp) (ψ : List Addr) (ω : Addr → Option Ow) (v : V) : DV → Prop
  | .val t => Rp K G ψ v t
  | .bor t => ∃ a o, v = .ref a ∧ ω a = some (.hold o) ∧ Ct K G ψ o t
  | _ => False
def RAs (K : PySem.W.Frag) (G : Hp) (ψ : List Addr) (ω : Addr → Option Ow) : List V → List DV → Prop
  | [], [] => True
  | v :: vs, a :: as => RA1 K G ψ ω v a ∧ RAs K G ψ ω vs as
  | _, _ => False
def FinR (K : PySem.W.Frag) (cv : CV) (G : Hp) (ψ : List Addr) (ω : Addr → Option Ow) (r : Res DV) (Q : VK) (E : XK) : Prop := match r with
  | .ok d s => ∀ G' ψ' ω' H', Mo G ψ ω G' ψ' ω' → Rel K G' ψ' ω' ⟨[], s.ce⟩ [] H' → ∀ v, RD K G' ψ' ω' [] H' v d → Q v H'
  | .ex c s => ∀ G' ψ' ω' H', Mo G ψ ω G' ψ' ω' → Rel K G' ψ' ω' ⟨[], s.ce⟩ [] H' → E (cv c) none H'
  | .bad => False
/-- what a def promises -/
def spF (K : PySem.W.Frag) (cv : CV) (np : Nat) (f : FS) : Sp := fun vs H Q E => ∃ G ψ ω ce as, vs.length = np ∧ Rel K G ψ ω ⟨[], ce⟩ [] H ∧ RAs K G ψ ω vs as ∧ FinR K cv G ψ ω (f as ce) Q E
def callW (ω : Addr → Option Ow) (H : Hp) : Addr → Option Ow := fun a => match ω a with
  | some (.slot _) => (H a).map Ow.hold
  | some (.keep _) => (H a).map Ow.hold
  | w => w
def backW (ω ω' : Addr → Option Ow) : Addr → Option Ow := fun a => match ω a with
  | some (.slot i) => some (.slot i)
  | some (.keep o) => some (.keep o)
  | some (.hold o) => some (.hold o)
  | _ => match ω' a with
    | some (.cell n) => some (.cell n)
    | _ => none
section
variable {K : PySem.W.Frag} {σ : L2.St} {G G' : Hp} {ψ ψ' : List Addr} {ω ω' : Addr → Option Ow} {s : S} {H H' : Hp} {ce' : List T}
theorem Rel.callee (R : Rel K G ψ ω s σ H) : Rel K G ψ (callW ω H) ⟨[], s.ce⟩ [] H where
  le := R.le
  gw := fun a o e => by unfold callW; rw [R.gw a o e]
  hold := fun a o e => by
    unfold callW at e
    split at e
    · cases h : H a with
      | none => rw [h] at e; cases e
      | some u => rw [h] at e; cases e; rfl
    · cases h : H a with
      | none => rw [h] at e; cases e
      | some u => rw [h] at e; cases e; rfl
    · exact R.hold a o e
  keep := fun a o e => by
    unfold callW at e
    split at e
    · cases h : H a with
      | none => rw [h] at e; cases e
      | some u => rw [h] at e; cases e
    · cases h : H a with
      | none => rw [h] at e; cases e
      | some u => rw [h] at e; cases e
    · rename_i h; exact absurd e (h o)
  tr := fun a e => by unfold callW; rw [R.tr a e]
  slots := fun i x e => by simp at e
  len := rfl
  psi := R.psi
  cells := fun n t e => by
    obtain ⟨a, o, e1, e2, e3, c⟩ := R.cells n t e
    exact ⟨a, o, e1, by unfold callW; rw [e2], e3, c⟩
theorem callW_own (R : Rel K G ψ ω s σ H) {a : Addr} (h : (∃ i, ω a = some (.slot i)) ∨ (∃ o, ω a = some (.keep o)) ∨ ∃ o, ω a = some (.hold o)) : ∃ o, H a = some o ∧ callW ω H a = some (.hold o) := by
  rcases h with ⟨i, h⟩ | ⟨o, h⟩ | ⟨o, h⟩
  · cases e : H a with
    | none => rw [R.tr a e] at h; cases h
    | some o => exact ⟨o, rfl, by unfold callW; rw [h, e]; rfl⟩
  · have e := R.keep a o h
    exact ⟨o, e, by unfold callW; rw [h, e]; rfl⟩
  · exact ⟨o, R.hold a o h, by unfold callW; rw [h]⟩
theorem Rel.back (R : Rel K G ψ ω s σ H) (mo : Mo G ψ (callW ω H) G' ψ' ω') (R' : Rel K G' ψ' ω' ⟨[], ce'⟩ [] H') : Mo G ψ ω G' ψ' (backW ω ω') ∧ Rel K G' ψ' (backW ω ω') { s with ce := ce' } σ H' := by
  have stay : ∀ {a : Addr}, ((∃ i, ω a = some (.slot i)) ∨ (∃ o, ω a = some (.keep o)) ∨ ∃ o, ω a = some (.hold o)) → ∃ o, H a = some o ∧ H' a = some o ∧ ω' a = some (.hold o) := fun h => by
    obtain ⟨o, h1, h2⟩ := callW_own R h
    have := mo.h _ _ h2
    exact ⟨o, h1, R'.hold _ _ this, this⟩
  have hk : ∀ a o, ω a = some (.hold o) → backW ω ω' a = some (.hold o) := fun a o e => by unfold backW; rw [e]
  have hkk : ∀ a o, ω a = some (.keep o) → backW ω ω' a = some (.keep o) := fun a o e => by unfold backW; rw [e]
  have other : ∀ a w, backW ω ω' a = some w → (ω a = some w ∧ ((∃ i, ω a = some (.slot i)) ∨ (∃ o, ω a = some (.keep o)) ∨ ∃ o, ω a = some (.hold o))) ∨ ∃ n, w = .cell n ∧ ω' a = some (.cell n) := fun a w e => by
    unfold backW at e
    split at e
    · rename_i i h; cases e; exact .inl ⟨h, .inl ⟨_, h⟩⟩
    · rename_i i h; cases e; exact .inl ⟨h, .inr (.inl ⟨_, h⟩)⟩
    · rename_i i h; cases e; exact .inl ⟨h, .inr (.inr ⟨_, h⟩)⟩
    · split at e
      · rename_i n h; cases e; exact .inr ⟨n, rfl, h⟩
      · cases e
  refine ⟨⟨mo.g, mo.p, hk, hkk⟩, ⟨R'.le, fun a o e => ?_, fun a o e => ?_, fun a o e => ?_, fun a e => ?_, fun i x e => ?_, R.len, R'.psi, fun n t e => ?_⟩⟩
  · have h := R'.gw a o e
    cases q : backW ω ω' a with
    | none => rfl
    | some w =>
      rcases other a w q with ⟨_, z⟩ | ⟨n, _, z⟩
      · obtain ⟨o', _, _, z⟩ := stay z; rw [h] at z; cases z
      · rw [h] at z; cases z
  · rcases other a _ e with ⟨z1, z⟩ | ⟨n, z, _⟩
    · obtain ⟨o', q1, q2, _⟩ := stay z
      rw [R.hold a o z1] at q1; cases q1; exact q2
    · cases z
  · rcases other a _ e with ⟨z1, z⟩ | ⟨n, z, _⟩
    · obtain ⟨o', q1, q2, _⟩ := stay z
      rw [R.keep a o z1] at q1; cases q1; exact q2
    · cases z
  · have h := R'.tr a e
    cases q : backW ω ω' a with
    | none => rfl
    | some w =>
      rcases other a w q with ⟨_, z⟩ | ⟨n, _, z⟩
      · obtain ⟨o', _, _, z⟩ := stay z; rw [h] at z; cases z
      · rw [h] at z; cases z
  · refine (R.slots i x e).mono mo.g mo.p hk fun a o _ w h => ?_
    obtain ⟨o', q1, q2, _⟩ := stay (.inl ⟨i, w⟩)
    rw [h] at q1; cases q1
    exact ⟨by unfold backW; rw [w], q2⟩
  · obtain ⟨a, o, e1, e2, e3, c⟩ := R'.cells n t e
    refine ⟨a, o, e1, ?_, e3, c⟩
    unfold backW
    split
    · rename_i i h; obtain ⟨_, _, _, z⟩ := stay (.inl ⟨_, h⟩); rw [e2] at z; cases z
    · rename_i i h; obtain ⟨_, _, _, z⟩ := stay (.inr (.inl ⟨_, h⟩)); rw [e2] at z; cases z
    · rename_i i h; obtain ⟨_, _, _, z⟩ := stay (.inr (.inr ⟨_, h⟩)); rw [e2] at z; cases z
    · rw [e2]
theorem Rel.args (R : Rel K G ψ ω s σ H) : ∀ {vs : List V} {ds as : List DV}, RDs K G ψ ω σ H vs ds → argVs s ds = some as → RAs K G ψ (callW ω H) vs as
  | [], [], as, _, e => by cases e; trivial
  | v :: vs, d :: ds, as, ⟨r, ⟨d', hd⟩, rs⟩, e => by
    subst hd
    rw [dz_dz] at r
    unfold argVs at e
    cases e1 : argV s (Vi.dz d') with
    | none => rw [e1] at e; cases e
    | some a =>
      cases e2 : argVs s ds with
      | none => rw [e1, e2] at e; cases e
      | some as' =>
        rw [e1, e2] at e
        cases e
        refine ⟨?_, R.args rs e2⟩
        have gen : ∀ d, RD K G ψ ω σ H v d → argV s d = some a → RA1 K G ψ (callW ω H) v a := fun d r e1 => by
          cases d with
          | val t => cases e1; exact r
          | bor t =>
            cases e1
            obtain ⟨b, o, q1, q2, c⟩ := r
            exact ⟨b, o, q1, by unfold callW; rw [q2], c⟩
          | new t => cases e1
          | ali i =>
            have hv : σ[i]? = some (some v) := r
            simp only [argV] at e1
            cases q : s.sl[i]? with
            | none => rw [q] at e1; cases e1
            | some x =>
              rw [q] at e1
              have so := R.slots i x q
              cases x with
              | no => cases e1
              | bor t => cases e1
              | val t =>
                cases e1
                obtain ⟨v', q1, rp⟩ := so
                rw [hv] at q1; cases q1
                exact rp
              | own t =>
                cases e1
                obtain ⟨b, o, q1, q2, q3, c⟩ := so
                rw [hv] at q1; cases q1
                exact ⟨b, o, rfl, by unfold callW; rw [q2, q3]; rfl, c⟩
        exact gen _ r e1
  | [], _ :: _, _, h, _ => h.elim
  | _ :: _, [], _, h, _ => h.elim
theorem RDs.len : ∀ {vs : List V} {ds : List DV}, RDs K G ψ ω σ H vs ds → vs.length = ds.length
  | [], [], _ => rfl
  | _ :: _, _ :: _, ⟨_, _, rs⟩ => by simp [RDs.len rs]
  | [], _ :: _, h => h.elim
  | _ :: _, [], h => h.elim
theorem RAs.len : ∀ {vs : List V} {as : List DV}, RAs K G ψ ω vs as → vs.length = as.length
  | [], [], _ => rfl
  | _ :: _, _ :: _, ⟨_, rs⟩ => by simp [RAs.len rs]
  | [], _ :: _, h => h.elim
  | _ :: _, [], h => h.elim
end
/-- a def that can be called -/
structure Fd (P : Program) (w : World) (K : PySem.W.Frag) (mg : Str → Option Value) (base : Heap) (cv : CV) (k : Nat) (x : Str) (np : Nat) (f : FS) : Prop where
  ex : ∃ (a : Addr) (fd : FuncData) (ps : List Str), mg x = some (.ref a) ∧ PySem.W.keepIn K (.ref a) = true ∧ Binds K fd ps [] ∧ FnOk P w K mg base (L2.CX P w) k a fd ps (spF K cv np f)
section
variable {X : Cx} {W : WX} {cv : CV} {k np : Nat} {x : Str} {f : FS} {e : Expr} {es : List Expr} {ms : List M} {p pos : Pos}
theorem call_on {K : PySem.W.Frag} {σ : L2.St} {H : Hp} {Q : VK} (hn : ms.length = np) (h : tI K W cv (mCall f ms) σ H Q) : tCallS (spF K cv np f) (WE W) (tAs K W cv ms) σ H Q := by
  obtain ⟨G, ψ, ω, s, R, h⟩ := h
  have hlen : ∀ {ms : List M} {s : S} {ds : List DV} {s' : S}, evs ms s = .ok ds s' → ds.length = ms.length := by
    intro ms
    induction ms with
    | nil => intro s ds s' e; cases e; rfl
    | cons m ms ih =>
      intro s ds s' e
      unfold evs at e
      cases e1 : m s with
      | ok d s1 =>
        rw [e1] at e
        cases e2 : evs ms s1 with
        | ok ds' s2 =>
          simp only [Res.bind_ok, e2] at e
          cases e
          simp [ih e2]
        | ex c s2 => simp only [Res.bind_ok, e2] at e; cases e
        | bad => simp only [Res.bind_ok, e2] at e; cases e
      | ex c s1 => rw [e1] at e; cases e
      | bad => rw [e1] at e; cases e
  unfold mCall at h
  cases e0 : evs ms s with
  | bad => rw [e0] at h; exact h.elim
  | ex c s1 => rw [e0] at h; exact ⟨G, ψ, ω, s, R, by rw [e0]; exact h⟩
  | ok ds s1 =>
    have hl := hlen e0
    rw [e0] at h
    refine ⟨G, ψ, ω, s, R, ?_⟩
    rw [e0]
    intro G1 ψ1 ω1 H1 mo1 R1 vs rvs
    have f1 := Fin.on (Z := fun d G' ψ' ω' (_ : S) H' => ∀ v, RD K G' ψ' ω' σ H' v d → Q v H') h mo1
    simp only [Res.bind_ok] at f1
    cases e1 : argVs s1 ds with
    | none => rw [e1] at f1; exact f1.elim
    | some as =>
      rw [e1] at f1
      refine ⟨G1, ψ1, callW ω1 H1, s1.ce, as, by rw [rvs.len, hl, hn], R1.callee, R1.args rvs e1, ?_⟩
      simp only at f1
      cases e2 : f as s1.ce with
      | bad => rw [e2] at f1; exact f1.elim
      | ex c r =>
        rw [e2] at f1
        intro G' ψ' ω' H' mo' R'
        obtain ⟨q1, q2⟩ := R1.back mo' R'
        exact f1 G' ψ' _ H' q1 q2
      | ok d r =>
        rw [e2] at f1
        intro G' ψ' ω' H' mo' R' v rd
        obtain ⟨q1, q2⟩ := R1.back mo' R'
        cases d with
        | val t => exact f1 G' ψ' _ H' q1 q2 v rd
        | new t =>
          obtain ⟨a, o, rfl, h1, h2, h3, c⟩ := rd
          refine f1 G' ψ' _ H' q1 q2 _ ⟨a, o, rfl, h1, ?_, h3, c⟩
          cases q : backW ω1 ω' a with
          | none => rfl
          | some w =>
            unfold backW at q
            have own : ((∃ i, ω1 a = some (.slot i)) ∨ (∃ o, ω1 a = some (.keep o)) ∨ ∃ o, ω1 a = some (.hold o)) → False := fun z => by
              obtain ⟨o', _, z2⟩ := callW_own R1 z
              have := mo'.h _ _ z2
              rw [h2] at this; cases this
            split at q
            · rename_i h; exact (own (.inl ⟨_, h⟩)).elim
            · rename_i h; exact (own (.inr (.inl ⟨_, h⟩))).elim
            · rename_i h; exact (own (.inr (.inr ⟨_, h⟩))).elim
            · rw [h2] at q; cases q
        | bor t => exact f1.elim
        | ali i => exact f1.elim
theorem ev_call (h : Fd X.prog X.w X.K X.mg X.base cv k x np f) (hr : Room k X.A) (tk : Takes X W) (ha : EvA X W cv (e :: es) ms) (hn : ms.length = np := by rfl) (hg : Gl X x := by rfl)
    (hdb : (x == ("__debug__" : Str)) = false := by decide) (he : starEach (e :: es) X.env = (false, eval e X.env) :: starEach es X.env := by rfl) (hpl : (backTo pos (starEach es X.env)).any (·.1) = false := by rfl) :
    Ev X W cv (.Call (.Name x p) (e :: es) [] pos) (mCall f ms) := by
  obtain ⟨a, fd, ps, hm, hk, hb, F⟩ := h.ex
  exact ⟨pe_w (pe_callS F hr hg hm hk hb (fun σ => passAt tk σ) ha.pa hdb he hpl) fun σ H Q h => call_on hn h⟩
end

/-! ### a def by its body -/
section
variable {P : Program} {w : World} {K : PySem.W.Frag} {mg : Str → Option Value} {base : Heap} {cv : CV}
abbrev WO (E : XK) : WX := fun cls d _ H => E cls d H
theorem RAs.slots {G : Hp} {ψ : List Addr} {ω : Addr → Option Ow} {H : Hp} : ∀ {vs : List V} {as : List DV} {i : Nat} {x : Slot}, RAs K G ψ ω vs as → (as.map slotOf)[i]? = some x → ∀ j, SlotOk K G ψ ω H j ((vs.map some)[i]?) x
  | [], [], _, _, _, e, _ => by simp at e
  | v :: vs, a :: as, 0, x, ⟨r, _⟩, e, j => by
    have : x = slotOf a := by simpa using e.symm
    subst this
    cases a with
    | val t => exact ⟨v, rfl, r⟩
    | bor t => obtain ⟨b, o, rfl, q, c⟩ := r; exact ⟨b, o, rfl, q, c⟩
    | new t => exact r.elim
    | ali i => exact r.elim
  | v :: vs, a :: as, i + 1, x, ⟨_, rs⟩, e, j => by
    have := RAs.slots (H := H) rs (by simpa using e) j
    simpa using this
  | [], _ :: _, _, _, h, _, _ => h.elim
  | _ :: _, [], _, _, h, _, _ => h.elim
theorem fn_vi {x qual : Str} {params : Arguments} {body : List Stmt} {scope : Scope} {f : Addr} {fd : FuncData} {N ps : List Str} {k : Nat} {m : MS} (F : FunD K x qual params body scope [] [] f fd) (S : FnScope N ps scope)
    (hbody : ∀ (cdv : Value) (A : Around) (outer : List Env) (s : Shared) (H : Hp) (E : XK), Room k (A.deeper (envOfC qual scope s.heap.objs.size f cdv)) →
      EvSs (cxOf (L2.CX P w) P w K mg base N qual scope f cdv A outer s H E) (WO E) cv body m) : FnOk P w K mg base (L2.CX P w) (k + 1) f fd ps (spF K cv ps.length (runF N.length m)) := by
  refine F.ok S (fun vs H Q E ⟨_, _, _, _, _, h, _⟩ => h) fun cdv A outer s H vs Q E hr ⟨G, ψ, ω, ce, as, hl, R, ra, fr⟩ => ⟨_, (hbody cdv A outer s H E hr).pss, ?_⟩
  have hpl : ps.length ≤ N.length := by have := congrArg List.length S.pre; rw [List.length_take] at this; omega
  have hla := ra.len
  refine ⟨G, ψ, ω, ⟨as.map slotOf ++ List.replicate (N.length - as.length) .no, ce⟩, ⟨R.le, R.gw, R.hold, R.keep, R.tr, fun i y e => ?_, ?_, R.psi, R.cells⟩, ?_⟩
  · by_cases hi : i < as.length
    · have e' : (as.map slotOf)[i]? = some y := by
        rw [← e]
        exact (List.getElem?_append_left (by simpa using hi)).symm
      have := ra.slots (H := H) e' i
      have e2 : (L2.start N vs)[i]? = (vs.map some)[i]? := by
        unfold L2.start
        exact List.getElem?_append_left (by simp; omega)
      rw [e2]
      exact this
    · have e' : (List.replicate (N.length - as.length) Slot.no)[i - as.length]? = some y := by
        rw [← e]
        have := List.getElem?_append_right (l₁ := as.map slotOf) (l₂ := List.replicate (N.length - as.length) Slot.no) (i := i) (by simp; omega)
        rw [List.length_map] at this
        exact this.symm
      rw [List.getElem?_replicate] at e'
      split at e'
      · cases e'; trivial
      · cases e'
  · unfold L2.start
    simp
    omega
  · unfold runF at fr
    cases e : m ⟨as.map slotOf ++ List.replicate (N.length - as.length) .no, ce⟩ with
    | bad => rw [e] at fr; exact fr.elim
    | ex c s' =>
      rw [e] at fr
      intro G' ψ' ω' σ' H' mo R'
      exact fr G' ψ' ω' H' mo ⟨R'.le, R'.gw, R'.hold, R'.keep, R'.tr, fun i x e => by simp at e, rfl, R'.psi, R'.cells⟩
    | ok a s' =>
      rw [e] at fr
      cases a with
      | nx =>
        intro G' ψ' ω' σ' H' mo R'
        exact fr G' ψ' ω' H' mo ⟨R'.le, R'.gw, R'.hold, R'.keep, R'.tr, fun i x e => by simp at e, rfl, R'.psi, R'.cells⟩ .non .non
      | bk => exact fr.elim
      | ct => exact fr.elim
      | rt d =>
        cases d with
        | val t =>
          intro G' ψ' ω' σ' H' mo R' v rd
          exact fr G' ψ' ω' H' mo ⟨R'.le, R'.gw, R'.hold, R'.keep, R'.tr, fun i x e => by simp at e, rfl, R'.psi, R'.cells⟩ v rd
        | new t =>
          intro G' ψ' ω' σ' H' mo R' v rd
          exact fr G' ψ' ω' H' mo ⟨R'.le, R'.gw, R'.hold, R'.keep, R'.tr, fun i x e => by simp at e, rfl, R'.psi, R'.cells⟩ v rd
        | bor t => exact fr.elim
        | ali i => exact fr.elim
end
/-! ### x = e, a shared thing from here on -/
def mBox (i : Nat) (me : M) : MS := fun s => (me s).bind fun d s1 => match d with
  | .new t => .ok .nx ⟨s1.sl.set i (.val (.glo s1.ce.length)), s1.ce ++ [t]⟩
  | d => optS (asg i d s1)
section
variable {X : Cx} {W : WX} {cv : CV}
theorem Rel.box {K : PySem.W.Frag} {σ : L2.St} {G : Hp} {ψ : List Addr} {ω : Addr → Option Ow} {s : S} {H : Hp} (R : Rel K G ψ ω s σ H) (i : Nat) {a : Addr} {o : HO} {t : T} (hg : G a = none) (hw : ω a = none) (h : H a = some o) (c : Ct K G ψ o t) :
    ∃ ω', Mo G ψ ω G (ψ ++ [a]) ω' ∧ Rel K G (ψ ++ [a]) ω' ⟨s.sl.set i (.val (.glo s.ce.length)), s.ce ++ [t]⟩ (σ.set i (some (.ref a))) H := by
  have hne : ∀ b w, ω b = some w → b ≠ a := fun b w e z => by subst z; rw [hw] at e; cases e
  have hm : ∀ b w, ω b = some w → (fun b => if b = a then some (Ow.cell s.ce.length) else ω b) b = some w := fun b w e => by simp [hne b w e, e]
  have hp : ψ <+: ψ ++ [a] := List.prefix_append _ _
  have R' : Rel K G (ψ ++ [a]) (fun b => if b = a then some (Ow.cell s.ce.length) else ω b) ⟨s.sl, s.ce ++ [t]⟩ σ H := by
    refine ⟨R.le, fun b u e => ?_, fun b u e => ?_, fun b u e => ?_, fun b e => ?_, fun j x e => (R.slots j x e).mono (Same.refl _) hp (fun b u => hm b _) fun b u _ w hh => ⟨hm b _ w, hh⟩, R.len, by simp [R.psi], fun n x e => ?_⟩
    · have : b ≠ a := fun z => by subst z; rw [hg] at e; cases e
      simp [this, R.gw b u e]
    · by_cases hb : b = a
      · simp [hb] at e
      · exact R.hold b u (by simpa [hb] using e)
    · by_cases hb : b = a
      · simp [hb] at e
      · exact R.keep b u (by simpa [hb] using e)
    · have : b ≠ a := fun z => by subst z; rw [h] at e; cases e
      simp [this, R.tr b e]
    · by_cases hn : n < s.ce.length
      · have e' : s.ce[n]? = some x := by rw [← e]; exact (List.getElem?_append_left hn).symm
        obtain ⟨b, u, q1, q2, q3, c'⟩ := R.cells n x e'
        exact ⟨b, u, pre_get hp q1, hm b _ q2, q3, c'.mono (Same.refl _) hp⟩
      · have hn' : n = s.ce.length := by
          have := (List.getElem?_eq_some_iff.mp e).1
          simp at this; omega
        subst hn'
        have : x = t := by simpa using e.symm
        subst this
        exact ⟨a, o, by rw [← R.psi]; simp, by simp, h, c.mono (Same.refl _) hp⟩
  refine ⟨_, ⟨Same.refl _, hp, fun b u => hm b _, fun b u => hm b _⟩, R'.set i (.ref a) (.val (.glo s.ce.length)) ⟨_, rfl, .glo ?_⟩⟩
  rw [← R.psi]; simp
theorem es_box {i : Nat} {st : Stmt} {m : M} (h : EvA1 X W cv i st m) : EvS X W cv st (mBox i m) :=
  ⟨ps_w h.ps fun D σ H ⟨G, ψ, ω, s, R, f⟩ => ⟨G, ψ, ω, s, R, (FinS.bind f).imp fun d G' ψ' ω' s' H' mo R' q v rd => by
    show D.nx (σ.set i (some v)) H'
    have gen : ∀ d, FinS X.K W cv G' ψ' ω' (optS (asg i d s')) D → RD X.K G' ψ' ω' σ H' v d → D.nx (σ.set i (some v)) H' := fun d q rd => by
      cases e : asg i d s' with
      | none => rw [e] at q; exact q.elim
      | some s2 =>
        rw [e] at q
        obtain ⟨G2, ω2, mo2, R2⟩ := R'.asg rd e
        exact q G2 ψ' ω2 _ H' mo2 R2
    cases d with
    | new t =>
      obtain ⟨a, o, rfl, hg, hw, h, c⟩ := rd
      obtain ⟨ω2, mo2, R2⟩ := R'.box i hg hw h c
      exact q G' _ ω2 _ H' mo2 R2
    | val t => exact gen _ q rd
    | bor t => exact gen _ q rd
    | ali j => exact gen _ q rd⟩⟩
end
end Vi

set_option Elab.async false
set_option linter.all false
set_option maxRecDepth 100000
namespace Vi
open PySem PySem.Spec PyProof.Rows L2

/-! ### built-ins in short -/
section
variable {X : Cx} {W : WX} {cv : CV} {pos p : Pos} {e : Expr} {es : List Expr} {ms : List M}
theorem hu65 {A : Around} {k : Nat} (hr : Room k A) : A.units + 65 < cLine := by have := hr.un; omega
theorem hu1 {A : Around} {k : Nat} (hr : Room k A) : A.units + 1 < cLine := by have := hr.un; omega
theorem ec_len (hm : X.mg "len" = none) (ha : EvA X W cv (e :: es) ms) (hg : Gl X "len" := by rfl) (he : starEach (e :: es) X.env = (false, eval e X.env) :: starEach es X.env := by rfl) (hpl : (backTo pos (starEach es X.env)).any (·.1) = false := by rfl) : Ev X W cv (.Call (.Name "len" p) (e :: es) [] pos) (mOpN gLen ms) := ev_callB call_len pr_len hm ha hg (by decide +kernel) (by decide) (by decide) he hpl
theorem ec_abs (hm : X.mg "abs" = none) (ha : EvA X W cv (e :: es) ms) (hg : Gl X "abs" := by rfl) (he : starEach (e :: es) X.env = (false, eval e X.env) :: starEach es X.env := by rfl) (hpl : (backTo pos (starEach es X.env)).any (·.1) = false := by rfl) : Ev X W cv (.Call (.Name "abs" p) (e :: es) [] pos) (mOpN gAbs ms) := ev_callB call_abs pr_abs hm ha hg (by decide +kernel) (by decide) (by decide) he hpl
theorem ec_min (hc : X.calm = true) (hm : X.mg "min" = none) (ha : EvA X W cv (e :: es) ms) (hg : Gl X "min" := by rfl) (he : starEach (e :: es) X.env = (false, eval e X.env) :: starEach es X.env := by rfl) (hpl : (backTo pos (starEach es X.env)).any (·.1) = false := by rfl) : Ev X W cv (.Call (.Name "min" p) (e :: es) [] pos) (mOpN gMin ms) := ev_callB (call_min2 hc) pr_min hm ha hg (by decide +kernel) (by decide) (by decide) he hpl
theorem ec_max (hc : X.calm = true) (hm : X.mg "max" = none) (ha : EvA X W cv (e :: es) ms) (hg : Gl X "max" := by rfl) (he : starEach (e :: es) X.env = (false, eval e X.env) :: starEach es X.env := by rfl) (hpl : (backTo pos (starEach es X.env)).any (·.1) = false := by rfl) : Ev X W cv (.Call (.Name "max" p) (e :: es) [] pos) (mOpN gMax ms) := ev_callB (call_max2 hc) pr_max hm ha hg (by decide +kernel) (by decide) (by decide) he hpl
theorem ec_min3 (hc : X.calm = true) (hm : X.mg "min" = none) (ha : EvA X W cv (e :: es) ms) (hg : Gl X "min" := by rfl) (he : starEach (e :: es) X.env = (false, eval e X.env) :: starEach es X.env := by rfl) (hpl : (backTo pos (starEach es X.env)).any (·.1) = false := by rfl) : Ev X W cv (.Call (.Name "min" p) (e :: es) [] pos) (mOpN gMin3 ms) := ev_callB (call_min3Nu hc) pr_min3 hm ha hg (by decide +kernel) (by decide) (by decide) he hpl
theorem ec_max3 (hc : X.calm = true) (hm : X.mg "max" = none) (ha : EvA X W cv (e :: es) ms) (hg : Gl X "max" := by rfl) (he : starEach (e :: es) X.env = (false, eval e X.env) :: starEach es X.env := by rfl) (hpl : (backTo pos (starEach es X.env)).any (·.1) = false := by rfl) : Ev X W cv (.Call (.Name "max" p) (e :: es) [] pos) (mOpN gMax3 ms) := ev_callB (call_max3Nu hc) pr_max3 hm ha hg (by decide +kernel) (by decide) (by decide) he hpl
theorem ec_minL (hc : X.calm = true) (hm : X.mg "min" = none) (ha : EvA X W cv (e :: es) ms) (hg : Gl X "min" := by rfl) (he : starEach (e :: es) X.env = (false, eval e X.env) :: starEach es X.env := by rfl) (hpl : (backTo pos (starEach es X.env)).any (·.1) = false := by rfl) : Ev X W cv (.Call (.Name "min" p) (e :: es) [] pos) (mOpN gMinL ms) := ev_callB (cr_min hc) pr_minL hm ha hg (by decide +kernel) (by decide) (by decide) he hpl
theorem ec_maxL (hc : X.calm = true) (hm : X.mg "max" = none) (ha : EvA X W cv (e :: es) ms) (hg : Gl X "max" := by rfl) (he : starEach (e :: es) X.env = (false, eval e X.env) :: starEach es X.env := by rfl) (hpl : (backTo pos (starEach es X.env)).any (·.1) = false := by rfl) : Ev X W cv (.Call (.Name "max" p) (e :: es) [] pos) (mOpN gMaxL ms) := ev_callB (cr_max hc) pr_maxL hm ha hg (by decide +kernel) (by decide) (by decide) he hpl
theorem ec_all (hc : X.calm = true) (hm : X.mg "all" = none) (ha : EvA X W cv (e :: es) ms) (hg : Gl X "all" := by rfl) (he : starEach (e :: es) X.env = (false, eval e X.env) :: starEach es X.env := by rfl) (hpl : (backTo pos (starEach es X.env)).any (·.1) = false := by rfl) : Ev X W cv (.Call (.Name "all" p) (e :: es) [] pos) (mOpN gAll ms) := ev_callB (cr_all hc) pr_all hm ha hg (by decide +kernel) (by decide) (by decide) he hpl
theorem ec_sum (hc : X.calm = true) (hm : X.mg "sum" = none) (ha : EvA X W cv (e :: es) ms) (hg : Gl X "sum" := by rfl) (he : starEach (e :: es) X.env = (false, eval e X.env) :: starEach es X.env := by rfl) (hpl : (backTo pos (starEach es X.env)).any (·.1) = false := by rfl) : Ev X W cv (.Call (.Name "sum" p) (e :: es) [] pos) (mOpN gSum ms) := ev_callB (cr_sum hc) pr_sum hm ha hg (by decide +kernel) (by decide) (by decide) he hpl
theorem ec_ord (hm : X.mg "ord" = none) (ha : EvA X W cv (e :: es) ms) (hg : Gl X "ord" := by rfl) (he : starEach (e :: es) X.env = (false, eval e X.env) :: starEach es X.env := by rfl) (hpl : (backTo pos (starEach es X.env)).any (·.1) = false := by rfl) : Ev X W cv (.Call (.Name "ord" p) (e :: es) [] pos) (mOpN gOrd ms) := ev_callB call_ord pr_ord hm ha hg (by decide +kernel) (by decide) (by decide) he hpl
theorem ec_list (hm : X.mg "list" = none) (ha : EvA X W cv (e :: es) ms) (hg : Gl X "list" := by rfl) (he : starEach (e :: es) X.env = (false, eval e X.env) :: starEach es X.env := by rfl) (hpl : (backTo pos (starEach es X.env)).any (·.1) = false := by rfl) : Ev X W cv (.Call (.Name "list" p) (e :: es) [] pos) (mOpN gList ms) := ev_callTy call_list_of pr_list hm ha hg (by decide +kernel) (by decide) (by decide) he hpl
theorem ec_tuple (hm : X.mg "tuple" = none) (ha : EvA X W cv (e :: es) ms) (hg : Gl X "tuple" := by rfl) (he : starEach (e :: es) X.env = (false, eval e X.env) :: starEach es X.env := by rfl) (hpl : (backTo pos (starEach es X.env)).any (·.1) = false := by rfl) : Ev X W cv (.Call (.Name "tuple" p) (e :: es) [] pos) (mOpN gTuple ms) := ev_callTy call_tuple_of pr_tuple hm ha hg (by decide +kernel) (by decide) (by decide) he hpl
def gStrI : List T → Option DV := fun ts => match ts with
  | [.int i] => gStr [.int i]
  | _ => none
theorem ec_str (hm : X.mg "str" = none) (ha : EvA X W cv (e :: es) ms) (hg : Gl X "str" := by rfl) (he : starEach (e :: es) X.env = (false, eval e X.env) :: starEach es X.env := by rfl) (hpl : (backTo pos (starEach es X.env)).any (·.1) = false := by rfl) : Ev X W cv (.Call (.Name "str" p) (e :: es) [] pos) (mOpN gStrI ms) := ev_callTy call_str_int pr_str hm ha hg (by decide +kernel) (by decide) (by decide) he hpl
theorem ec_int (hm : X.mg "int" = none) (ha : EvA X W cv (e :: es) ms) (hg : Gl X "int" := by rfl) (he : starEach (e :: es) X.env = (false, eval e X.env) :: starEach es X.env := by rfl) (hpl : (backTo pos (starEach es X.env)).any (·.1) = false := by rfl) : Ev X W cv (.Call (.Name "int" p) (e :: es) [] pos) (mOpN gInt ms) := ev_callTy call_int1 pr_int hm ha hg (by decide +kernel) (by decide) (by decide) he hpl
end
end Vi

set_option Elab.async false
set_option linter.all false
set_option maxRecDepth 100000
set_option maxHeartbeats 1000000
namespace Vi
open PySem PySem.Spec PyProof.Rows L2

/-! ### isinstance of a caught exception -/
theorem call_isP {X : Cx} {a D : Addr} {oe : Obj} (hp : (a, oe) ∈ X.pn) (C : ExcC X.K D) (hz : Zc (.ref D) none oe) (hf : ∃ vs, oe.data = .fields vs) : CallR X (.builtin "isinstance") (rIsE X.K D a) := by
  intro pins s σ H xs us Q I r h
  obtain ⟨c, cv, b, rfl, hcv, e, q⟩ := h
  cases r with
  | cons rx rr =>
    cases rr with
    | cons rt rr =>
      cases rr
      cases rx
      have ec := hcv _ rt
      subst ec
      obtain ⟨hget, _⟩ := I.pin (a, oe) (List.mem_append.mpr (.inl hp))
      obtain ⟨vs, hv⟩ := hf
      have J : PySem.W.InstAt s.heap a oe D none := by
        obtain ⟨oc, od, oda, osl⟩ := oe
        obtain ⟨h1, h2⟩ := hz
        dsimp only at h1 h2 hv
        subst h1 h2 hv
        exact ⟨hget, rfl, rfl, trivial⟩
      exact PySem.W.kia_one (PySem.W.handS_kitx_exc C.hg C.hk C.hs C.hd C.ha C.hn C.ht C.hm) I.kIn J e (fun z => nomatch z) fun tk => ⟨.bl b, H, I.kept (t' := tk) fun _ _ z => z, rfl, q⟩
def mIsE (b : Bool) (a : Addr) (ma : M) : M := fun s => (ma s).bind fun d s1 => match d with
  | .val (.opq a') => if a' = a then .ok (.val (.bl b)) s1 else .bad
  | _ => .bad
section
variable {X : Cx} {W : WX} {cv : CV} {pos p p2 : Pos}
theorem ev_isE {a D : Addr} {oe : Obj} {b : Bool} {e : Expr} {ma : M} {y : Str} {v : V} {cvl : Value} (hp : (a, oe) ∈ X.pn) (C : ExcC X.K D) (hz : Zc (.ref D) none oe) (hf : ∃ vs, oe.data = .fields vs) (hm : X.mg "isinstance" = none) (ha : Ev X W cv e ma)
    (hy : PE X (.Name y p2) (tC v)) (hv : ∀ u, RelV v u → u = cvl) (hk : PySem.W.kitOne X.K (.ref D) cvl = some b) (hg : Gl X "isinstance" := by rfl)
    (he : starEach [e, .Name y p2] X.env = (false, eval e X.env) :: starEach [.Name y p2] X.env := by rfl) (he2 : starEach [.Name y p2] X.env = (false, eval (.Name y p2) X.env) :: starEach [] X.env := by rfl) (hpl : (backTo pos (starEach [.Name y p2] X.env)).any (·.1) = false := by rfl) :
    Ev X W cv (.Call (.Name "isinstance" p) [e, .Name y p2] [] pos) (mIsE b a ma) := by
  refine ⟨pe_w (pe_callB (call_isP hp C hz hf) hg hm (by decide +kernel) (pa_cons ha.pe (pa_cons hy pa_nil he2) he) (by decide) (by decide) he hpl) fun σ H Q ⟨G, ψ, ω, s, R, f⟩ => ?_⟩
  refine tI_on R f fun d s1 G1 ψ1 ω1 H1 x mo R1 rv f1 => ?_
  cases d with
  | val t => cases t with
    | opq a' =>
      simp only at f1
      split at f1
      · rename_i h
        subst h
        cases rv
        exact ⟨v, cvl, b, rfl, hv, hk, f1 G1 ψ1 ω1 H1 Mo.refl R1 _ (.bl b)⟩
      · exact f1.elim
    | _ => exact f1.elim
  | _ => exact f1.elim
end

/-! ### a def called within an except suite, of the exception -/
theorem fn_hot {CX : CXT} {P : Program} {w : World} {K : PySem.W.Frag} {mg : Str → Option Value} {base : Heap} {k : Nat} {f : Addr} {name qual : Str} {params : Arguments} {body : List Stmt} {scope : Scope} {dV kV doc pm cdv ct oc : Value} {an od : Option Addr}
    {osl : Array (Option Value)} {N ps : List Str} (lk : K.lookup f = some ⟨oc, od, .func (PySem.W.fnOf name qual params body scope dV kV doc pm an cdv ct), osl⟩) (hcd : PySem.W.codeIn K cdv qual = true) (S : FnScope N ps scope)
    {A : Around} {outer : List Env} {s : Shared} {H : Hp} {args : Args} {us : List Value} {vs : List V} {Q : VK} {E : XK} {p : Addr × Obj} {t : TS} (hr : L2H.RoomH (k + 1) A) (hpin : L2H.PinOk outer H s p) (e0 : Env0 P w K mg base A outer s H)
    (hb : BindsTo s (PySem.W.fnOf name qual params body scope dV kV doc pm an cdv ct) args (ps.zip us)) (r : Vals vs us) (hl : vs.length = ps.length)
    (ht : PSs (L2H.cxH CX P w K mg base N qual scope f cdv A outer s H E p) body t) (hq : t { nx := fun _ H' => Q .non H', rt := Q } (L2.start N vs) H) :
    codeAny (model P w) A (.call (.ref f) args) (CR CX outer P w H s Q E) s := by
  have KX : K.In s.heap := e0.mod.kin.keeps fun b o e => (e0.bs b o e).1
  have lim : s.heap.NoLimit := e0.mod.nolimit.keeps fun b o e => (e0.bs b o e).1
  refine codeAny_call_function hr.depth (KX _ _ lk) rfl S.co S.gen rfl (PySem.W.codeRec_of KX hcd) (hb _ _ _ _ ?_)
  refine wpAny_newFunctionEnv_cells S.kind (fun ⟨n, v⟩ hy => ?_) fun env he s1 x => ?_
  · rcases S.par n (List.of_mem_zip hy).1 with q | q
    · exact .inl q
    · exact .inr ⟨q, PySem.W.cellsFrom_some _ _ _ (.inl q)⟩
  subst he
  refine ⟨lim.keeps x.toInCall.keep, codeAny_func ?_⟩
  refine wpAny_mono (ht.run [] s1 (L2.start N vs) H _ (L2H.inv_startH S hpin e0 hl r x) hq) (fun fl s' hs => ?_) fun e s' hs => hs
  cases fl with
  | ret u =>
    obtain ⟨v, σ', H', J, rv, q⟩ := hs
    exact ⟨v, H', J.os, J.bare, J.base, J.hok, rv, q⟩
  | next =>
    obtain ⟨σ', H', J, q⟩ := hs
    exact ⟨V.non, H', J.os, J.bare, J.base, J.hok, rfl, q⟩
  | brk =>
    obtain ⟨_, _, _, q⟩ := hs
    exact False.elim q
  | cont =>
    obtain ⟨_, _, _, q⟩ := hs
    exact False.elim q
/-- such a def: it tells kd of the exception's class -/
structure KFn (P : Program) (w : World) (K : PySem.W.Frag) (mg : Str → Option Value) (base : Heap) (cv : CV) (k : Nat) (x : Str) (kd : Nat → Option (List Bool)) : Prop where
  ex : ∃ (f : Addr) (fd : FuncData) (e : Str), mg x = some (.ref f) ∧ PySem.W.keepIn K (.ref f) = true ∧ Binds K fd [e] [] ∧
    ∀ (A : Around) (outer : List Env) (s : Shared) (H : Hp) (args : Args) (Q : VK) (c : Nat) (bs : List Bool) (p : Addr × Obj), L2H.RoomH k A → L2H.PinOk outer H s p → Env0 P w K mg base A outer s H → BindsTo s fd args ([e].zip [Value.ref p.1]) →
      Zc (cv c) none p.2 → (∃ vs, p.2.data = .fields vs) → kd c = some bs → (∀ q H', Same H H' → H q = none → H' q = some (.lst (bs.map V.bl)) → Q (.ref q) H') → codeAny (model P w) A (.call (.ref f) args) (CR (L2.CX P w) outer P w H s Q (fun _ _ _ => False)) s
/-- from its body -/
theorem RpA.bls {K : PySem.W.Frag} {G : Hp} {ψ : List Addr} : ∀ {vs : List V} {bs : List Bool}, RpA K G ψ vs (bs.map T.bl) → vs = bs.map V.bl
  | _, [], .nil => rfl
  | _, b :: bs, .cons r rs => by cases r; rw [RpA.bls rs]; rfl
theorem RpA.ofBls {K : PySem.W.Frag} {G : Hp} {ψ : List Addr} : ∀ (bs : List Bool), RpA K G ψ (bs.map V.bl) (bs.map T.bl)
  | [] => .nil
  | b :: bs => .cons (.bl b) (RpA.ofBls bs)
theorem kf_of {P : Program} {w : World} {K : PySem.W.Frag} {mg : Str → Option Value} {base : Heap} {cv : CV} {k : Nat} {x qual e : Str} {params : Arguments} {body : List Stmt} {scope : Scope} {f : Addr} {fd : FuncData} {N : List Str} {kd : Nat → Option (List Bool)} {m : Nat → Addr → MS}
    (F : FunD K x qual params body scope [] [] f fd) (hm : mg x = some (.ref f)) (hb : Binds K fd [e] []) (S : FnScope N [e] scope)
    (hbody : ∀ (c : Nat) (bs : List Bool) (cdv : Value) (A : Around) (outer : List Env) (s : Shared) (H : Hp) (p : Addr × Obj), kd c = some bs → Zc (cv c) none p.2 → (∃ vs, p.2.data = .fields vs) → L2H.RoomH k (A.deeper (envOfC qual scope s.heap.objs.size f cdv)) →
      EvSs (L2H.cxH (L2.CX P w) P w K mg base N qual scope f cdv A outer s H (fun _ _ _ => False) p) W0 cv body (m c p.1))
    (hres : ∀ c bs a, kd c = some bs → ∃ s', m c a ⟨.val (.opq a) :: List.replicate (N.length - 1) .no, []⟩ = .ok (.rt (.new (.lst (bs.map T.bl)))) s') : KFn P w K mg base cv (k + 1) x kd := by
  obtain ⟨oc, od, dV, kV, doc, pm, an, cdv, ct, osl, rfl, lk, hcd, _, _⟩ := F.ex
  refine ⟨f, _, e, hm, F.kp, hb, fun A outer s H args Q c bs p hr hpin e0 hbt hz hf hk hQ => ?_⟩
  have hpl : 1 ≤ N.length := by have := congrArg List.length S.pre; rw [List.length_take] at this; simp at this; omega
  refine fn_hot (k := k) (vs := [.ref p.1]) (us := [.ref p.1]) lk hcd S hr hpin e0 hbt (.cons rfl .nil) rfl (hbody c bs cdv A outer s H p hk hz hf (hr.deeper _)).pss ?_
  refine ⟨fun _ => none, [], fun a => (H a).map Ow.hold, ⟨.val (.opq p.1) :: List.replicate (N.length - 1) .no, []⟩, ⟨fun _ _ h => (by cases h), fun _ _ h => (by cases h), fun a o h => ?_, fun a o h => ?_, fun a h => by simp [h], fun i y h => ?_, ?_, rfl, fun n t h => by simp at h⟩, ?_⟩
  · cases e1 : H a with
    | none => rw [e1] at h; cases h
    | some u => rw [e1] at h; cases h; rfl
  · cases e1 : H a with
    | none => rw [e1] at h; cases h
    | some u => rw [e1] at h; cases h
  · cases i with
    | zero =>
      have : y = .val (.opq p.1) := by simpa using h.symm
      subst this
      exact ⟨_, rfl, .opq _⟩
    | succ i =>
      have h' : (List.replicate (N.length - 1) Slot.no)[i]? = some y := by simpa using h
      rw [List.getElem?_replicate] at h'
      split at h'
      · cases h'; trivial
      · cases h'
  · unfold L2.start
    simp
  · obtain ⟨s', e1⟩ := hres c bs p.1 hk
    rw [e1]
    intro G' ψ' ω' σ' H' mo R' v rd
    obtain ⟨q, o, rfl, hg, hw, hH, ct⟩ := rd
    have hsame : Same H H' := fun a o h => R'.hold a o (mo.h a o (by simp [h]))
    cases ct with
    | lst ra =>
      refine hQ q H' hsame ?_ (by rw [hH, RpA.bls ra])
      cases e2 : H q with
      | none => rfl
      | some u =>
        have := mo.h q u (by simp [e2])
        rw [hw] at this; cases this

theorem Rel.unset {K : PySem.W.Frag} {G : Hp} {ψ : List Addr} {ω : Addr → Option Ow} {s : S} {σ : L2.St} {H : Hp} (R : Rel K G ψ ω s σ H) (i : Nat) : Rel K G ψ ω { s with sl := s.sl.set i .no } (σ.set i none) H :=
  R.reslot rfl (by simp [R.len]) fun j x e => by
    by_cases hj : j = i
    · subst hj
      by_cases hl : j < s.sl.length
      · have : x = .no := by simpa [hl] using e.symm
        subst this; trivial
      · rw [List.getElem?_eq_none (by simpa using hl)] at e; cases e
    · rw [List.getElem?_set_ne (Ne.symm hj)] at e
      rw [List.getElem?_set_ne (Ne.symm hj)]
      exact R.slots j x e
/-! ### try: body / except X as n: kinds = _law_kinds(n) -/
def mTryK (ie ik : Nat) (kd : Nat → Option (List Bool)) (mb : MS) : MS := fun s => match mb s with
  | .ok o s' => .ok o s'
  | .ex c s' => (match kd c with
    | some bs => .ok .nx { s' with sl := (s'.sl.set ik (.own (.lst (bs.map T.bl)))).set ie .no }
    | none => .bad)
  | .bad => .bad
section
variable {X : Cx} {W : WX} {cv : CV} {pos p1 p2 p3 p4 p5 p6 pos' : Pos} {x n g y : Str} {ie ik k : Nat} {body : List Stmt} {kd : Nat → Option (List Bool)} {mb : MS} {C : Addr}
theorem pe_kinds {a : Addr} {oe : Obj} {pn : List (Addr × Obj)} (F : KFn X.prog X.w X.K X.mg X.base cv k g kd) (hr : Room k X.A) (hN : X.N[ie]? = some n) (hv : Vis X.env.scope n) (hg : Gl X g) (hd : (n == ("__debug__" : Str)) = false) (hcd : (n == ("__classdict__" : Str)) = false) (hdb : (g == ("__debug__" : Str)) = false)
    (he : starEach [.Name n p4] X.env = (false, eval (.Name n p4) X.env) :: starEach [] X.env) (hpl : (backTo pos (starEach [] X.env)).any (·.1) = false) :
    PE (X.suite a ((a, oe) :: pn)) (.Call (.Name g p3) [.Name n p4] [] pos) (fun σ H Q => (ie < σ.length → σ[ie]? = some (some (.ref a))) ∧ ∃ c bs, Zc (cv c) none oe ∧ (∃ vs, oe.data = .fields vs) ∧ kd c = some bs ∧ ∀ q H', Same H H' → H q = none → H' q = some (.lst (bs.map V.bl)) → Q (.ref q) H') := by
  obtain ⟨f, fd, e, hm, hk, hb, F⟩ := F.ex
  refine ⟨fun pins s σ H Q I ⟨hσ', c, bs, hz, hf, hkd, hQ⟩ => ?_⟩
  have hσ := hσ' (by have := (List.getElem?_eq_some_iff.mp hN).1; have hl : σ.length = X.N.length := I.len; show ie < σ.length; omega)
  refine wpAny_Call_Name_kw (ld_glob I hg hm ?_ hdb)
  have ha : PA (X.suite a ((a, oe) :: pn)) [.Name n p4] (tCons (tVar ie) tNil) := pa_cons (pe_var hN hv hd hcd) pa_nil he
  refine PySem.W.callWith_K (h₀ := X.base) I.ok.mod.kin hk (thn (ha.run pos pins s σ H (fun vs H1 => vs = [V.ref a] ∧ H = H1) I ⟨_, hσ, rfl, rfl⟩) fun us s1 ⟨vs, H1, I1, r, ev, eH⟩ => ⟨I1.kIn, ?_⟩) he hpl
  subst ev
  subst eH
  obtain ⟨u, rfl, ru⟩ := r.one
  cases ru
  have P1 := I1.pin (a, oe) (List.mem_append_left _ List.mem_cons_self)
  have hpin : L2H.PinOk X.stack H s1 (a, oe) := ⟨P1.1, P1.2.1, fun hm => (List.mem_cons.mp (I1.stkSub a hm)).elim P1.2.2.1 P1.2.2.2.1, P1.2.2.2.2⟩
  have b := hb s1 [Value.ref a] I1.kIn rfl
  rw [List.append_nil] at b
  refine wpAny_call (codeAny_mono (F (X.suite a ((a, oe) :: pn)).A X.stack s1 H ⟨[Value.ref a], []⟩ Q c bs (a, oe) ⟨hr.dp, hr.un⟩ hpin I1.env0 b hz hf hkd hQ) fun r s' hq => ?_)
  cases r with
  | error e =>
    obtain ⟨_, _, _, _, _, _, _, _, _, _, _, _, z⟩ := hq
    exact z.elim
  | ok fl =>
    cases fl with
    | ret u => exact I1.after hq
    | next => exact False.elim hq
    | brk => exact False.elim hq
    | cont => exact False.elim hq
theorem es_tryK (hs : X.stack = X.env :: X.outer) (hf : X.env.frame = some X.env.locals) (hN : X.N.Nodup) (hc : Names X x (.ref C)) (tk : Takes X W) (hcd : ∀ c bs, kd c = some bs → PySem.W.exmOne X.K (cv c) (.ref C) = some true) (F : KFn X.prog X.w X.K X.mg X.base cv k g kd) (hr : Room k X.A)
    (hb : ∀ (W : WX) (pn : List (Addr × Obj)) (xe : Value → Shared → Prop), Takes (X.tr pn xe) W → PassesOwn (model X.prog X.w) X.A X.env xe → EvSs (X.tr pn xe) W cv body mb)
    (hi : X.N[ie]? = some n := by rfl) (hk : X.N[ik]? = some y := by rfl) (hne : ie ≠ ik := by decide) (hln : X.env.kindOf n = some .local := by rfl) (hv : Vis X.env.scope n := by first | exact Or.inl rfl | exact Or.inr (Or.inl rfl) | exact Or.inr (Or.inr rfl))
    (hy : Loc X.env.scope y := by first | exact Or.inl rfl | exact Or.inr rfl) (hfy : X.fn y = true ∨ X.env.scope.names.lookup y = some .local := by first | exact .inl rfl | exact .inr rfl) (hg : Gl X g := by rfl)
    (hd : (n == ("__debug__" : Str)) = false := by decide) (hcl : (n == ("__classdict__" : Str)) = false := by decide) (hdb : (g == ("__debug__" : Str)) = false := by decide)
    (he : starEach [.Name n p4] X.env = (false, eval (.Name n p4) X.env) :: starEach [] X.env := by rfl) (hpl : (backTo p5 (starEach [] X.env)).any (·.1) = false := by rfl)
    (hsw : ∀ a oe pn, swapsWith (.Call (.Name g p3) [.Name n p4] [] p5) (some (.Name y p2)) p6.line (X.suite a ((a, oe) :: pn)).env = pure false := by intros; rfl) :
    EvS X W cv (.Try body [.ExceptHandler (some (.Name x p1)) (some n) [.Assign [.Name y p2] (.Call (.Name g p3) [.Name n p4] [] p5) p6] pos'] [] [] pos) (mTryK ie ik kd mb) := by
  refine ⟨ps_w (ps_try_as (i := ie) (c := .ref C) (Wout := W) (tb := fun W => tS X.K W cv mb) (ts := fun a cls d D σ H => (ie < σ.length → σ[ie]? = some (some (.ref a))) ∧ ∃ c bs, cls = cv c ∧ d = none ∧ kd c = some bs ∧ ∀ q H', Same H H' → H q = none → H' q = some (.lst (bs.map V.bl)) → D.nx (σ.set ik (some (.ref q))) H') hs hf hN hi hln hc tk (fun W pn xe tk hp => (hb W pn xe tk hp).pss)
    (fun a oe cls d pn hz hfl => pss_one (ps_w (ps_set (i := ik) (x := y) hN hk hy (pe_kinds (a := a) (oe := oe) (pn := pn) F hr hi hv hg hd hcl hdb he hpl) (hsw a oe pn) hfy)
      fun D σ H ⟨h1, c, bs, h2, h3, h4, h5⟩ => ⟨h1, c, bs, by rw [← h2, ← h3]; exact hz, hfl, h4, fun q H' z1 z2 z3 => h5 q H' z1 z2 z3⟩))) fun D σ H ⟨G, ψ, ω, s, R, f⟩ => ⟨G, ψ, ω, s, R, ?_⟩⟩
  unfold mTryK at f
  cases e : mb s with
  | bad => rw [e] at f; exact f.elim
  | ok o s' => rw [e] at f; cases o <;> exact f
  | ex c s' =>
    rw [e] at f
    simp only at f
    cases e2 : kd c with
    | none => rw [e2] at f; exact f.elim
    | some bs =>
      rw [e2] at f
      intro G' ψ' ω' σ' H' mo R'
      refine ⟨true, hcd c bs e2, fun _ a ha => ?_, fun z => by cases z⟩
      refine ⟨fun h => ?_, c, bs, rfl, rfl, e2, fun q H2 hs2 hq1 hq2 => ?_⟩
      · rw [List.getElem?_set_self (by simpa using h)]
      · have R1 : Rel X.K G' ψ' ω' s' σ' H2 := R'.al ⟨Same.refl _, hs2, R'.le.trans hs2, fun _ _ h => .inl h⟩
        obtain ⟨ω2, mo2, R2⟩ := R1.own ik (R'.le.free hq1) (R'.tr q hq1) hq2 (.lst (RpA.ofBls bs))
        have e3 : ((σ'.set ie (some (V.ref a))).set ik (some (V.ref q))).set ie none = (σ'.set ik (some (V.ref q))).set ie none := by
          rw [List.set_comm _ _ hne, List.set_set]
        show D.nx (((σ'.set ie (some (V.ref a))).set ik (some (V.ref q))).set ie none) H2
        rw [e3]
        exact f G' ψ' ω2 _ H2 (mo.trans mo2) (R2.unset ie)
end
end Vi

set_option Elab.async false
set_option linter.all false
set_option maxRecDepth 100000
set_option maxHeartbeats 1000000
namespace Vi
open PySem PySem.Spec PyProof.Rows L2

/-! ### what the head tells: facts by names, and a test of one's own -/
abbrev AlV : Type := He.AlD × Bool
def obsV (n : Nat) (fa : List He.Fa) (fn : List He.DefD) (ex : PySem.W.Frag → Bool) (g : Addr → Option Obj) : AlV := (He.obsD fa fn (He.frG g (He.asD g n)), ex (He.frG g (He.asD g n)))
def hookV (n : Nat) (fa : List He.Fa) (fn : List He.DefD) (ex : PySem.W.Frag → Bool) : PySem.W.Hook where
  α := AlV
  obs := fun s => obsV n fa fn ex s.heap.get?
  val := fun _ => (He.valD fn, true)
  says := fun _ h => ∃ K : PySem.W.Frag, K.In h ∧ He.SaysD fa fn K ∧ ex K = true
  of := fun _ _ e => ⟨_, He.frG_in, congrArg (fun z : AlV => z.1) e, congrArg (fun z : AlV => z.2) e⟩
  keeps := fun _ _ _ ⟨K, hK, c⟩ k => ⟨K, PySem.W.Frag.In.keeps hK k, c⟩
theorem obsV_eq {n : Nat} {fa : List He.Fa} {fn : List He.DefD} {ex : PySem.W.Frag → Bool} {g : Addr → Option Obj} {s : Shared} (h : ∀ a, g a = s.heap.get? a) : obsV n fa fn ex g = (hookV n fa fn ex).obs s := by
  have e : g = s.heap.get? := funext h
  rw [e] <;> rfl
def excCB (K : PySem.W.Frag) (D : Addr) : Bool :=
  decide (PySem.W.findIn K (.ref D) "__getattribute__" = some (some (.builtin "BaseException.__getattribute__"))) && (decide (PySem.W.findIn K (.ref D) "__getattr__" = some none) && (decide (PySem.W.subIn K (.ref D) (.type "BaseException") = some true) && (PySem.W.hasDictIn K D &&
  (decide (PySem.W.findIn K (.ref D) "__class__" = some (some (.builtin "object.__class__"))) && (decide (PySem.W.specialIn K (.builtin "object.__class__") "__get__" = some (some (.builtin "getset_descriptor.__get__"))) && (decide (PySem.W.takesIn K (.builtin "object.__class__") = some true) && decide (PySem.W.mroIn K D (.type "object") = some true)))))))
theorem excCB_ok {K : PySem.W.Frag} {D : Addr} (h : excCB K D = true) : ExcC K D := by
  unfold excCB at h
  simp only [Bool.and_eq_true, decide_eq_true_eq] at h
  obtain ⟨h1, h2, h3, h4, h5, h6, h7, h8⟩ := h
  exact ⟨h1, h2, h3, h4, h5, h6, h7, h8⟩
/-- all n own classes of errors: one's isinstance of each -/
def excAllB (K : PySem.W.Frag) (cv : Nat → Addr) (n : Nat) : Bool := (List.range n).all fun i => excCB K (cv (i + 1)) && (decide (PySem.W.kitOne K (.ref (cv (i + 1))) (.type "ValueError") = some true) && (decide (PySem.W.exmOne K (.ref (cv (i + 1))) (.ref (cv 0)) = some true) &&
  (List.range n).all fun j => decide (PySem.W.kitOne K (.ref (cv (i + 1))) (.ref (cv (j + 1))) = some (decide (i + 1 = j + 1)))))
theorem excAllB_ok {K : PySem.W.Frag} {cv : Nat → Addr} {n : Nat} (h : excAllB K cv n = true) : ∀ c, 1 ≤ c ∧ c ≤ n → ExcC K (cv c) ∧ PySem.W.kitOne K (.ref (cv c)) (.type "ValueError") = some true ∧ PySem.W.exmOne K (.ref (cv c)) (.ref (cv 0)) = some true ∧
    ∀ j, 1 ≤ j ∧ j ≤ n → PySem.W.kitOne K (.ref (cv c)) (.ref (cv j)) = some (decide (c = j)) := by
  intro c hc
  unfold excAllB at h
  simp only [List.all_eq_true, List.mem_range, Bool.and_eq_true, decide_eq_true_eq] at h
  obtain ⟨h1, h2, h3, h4⟩ := h (c - 1) (by omega)
  rw [show c - 1 + 1 = c by omega] at h1 h2 h3 h4
  refine ⟨excCB_ok h1, h2, h3, fun j hj => ?_⟩
  have := h4 (j - 1) (by omega)
  rw [show j - 1 + 1 = j by omega] at this
  exact this

/-! ### ends -/
section
variable {P : Program} {w : World} {K : PySem.W.Frag} {mg : Str → Option Value} {base : Heap} {cv : CV} {k np : Nat} {f : Addr} {fd : FuncData} {ps : List Str}
theorem fn_never {F : FS} (h : ∀ as ce, F as ce = .bad) : FnOk P w K mg base (L2.CX P w) k f fd ps (spF K cv np F) :=
  ⟨fun vs H Q E ⟨_, _, _, ce, as, _, _, _, z⟩ => by rw [h] at z; exact z.elim, fun A outer s H args us vs Q E _ _ _ _ ⟨_, _, _, ce, as, _, _, _, z⟩ => by rw [h] at z; exact z.elim⟩
theorem fn_calm {sp : Sp} (F : FnOk P w K mg base (L2.CX P w) k f fd ps sp) : FnOk P w K mg base (fun _ _ _ _ _ _ => False) k f fd ps (fun vs H Q _ => sp vs H Q fun _ _ _ => False) :=
  ⟨fun vs H Q E h => F.len vs H Q _ h, fun A outer s H args us vs Q E hr e0 hb hv hs => codeAny_mono (F.run A outer s H args us vs Q _ hr e0 hb hv hs) fun r s' hq => by
    cases r with
    | ok fl => cases fl <;> exact hq
    | error e =>
      obtain ⟨_, _, _, _, _, _, _, _, _, _, _, _, z⟩ := hq
      exact z.elim⟩
/-- the law, asked of a script -/
theorem law_sp {F : FS} {H : Hp} {a : Addr} {ns : List Int} {s' : S} (hS : SqL K H a (ns.map V.int)) (h : F [.val (.scr ns)] [] = .ok (.val (.bl true)) s') : spF K cv 1 F [.ref a] H (fun v _ => v = .bl true) (fun _ _ _ => False) := by
  refine ⟨H, [], fun _ => none, [], [.val (.scr ns)], rfl, ⟨Same.refl _, fun _ _ _ => rfl, fun _ _ h => (by cases h), fun _ _ h => (by cases h), fun _ _ => rfl, fun i x e => by simp at e, rfl, rfl, fun n t e => by simp at e⟩, ⟨.scr hS, trivial⟩, ?_⟩
  rw [h]
  intro G' ψ' ω' H' mo R v rd
  cases rd
  rfl
end
end Vi

set_option Elab.async false
set_option linter.all false
set_option maxRecDepth 100000
namespace Vi
open PySem PySem.Spec PyProof.Rows L2

/-! ### sorted of ints; remove, pop, clear -/
def gSorted : List T → Option DV
  | [.lst ts] => (intsT ts).map fun ns => .new (.lst ((ns.mergeSort (fun a b => decide (a ≤ b))).map T.int))
  | _ => none
theorem sorted_uniq {xs ys : List Int} (p : xs.Perm ys) (hx : xs.Pairwise (· ≤ ·)) (hy : ys.Pairwise (· ≤ ·)) : xs = ys := List.Perm.eq_of_pairwise (fun a b _ _ h1 h2 => Int.le_antisymm h1 h2) hx hy p
theorem pr_sorted {K : PySem.W.Frag} : PRn K (rSortedI K) gSorted := by
  intro G ψ H xs ts d Q hs h e q
  match ts, e with
  | [.lst us], e =>
    obtain ⟨v, rfl, r⟩ := h.one
    obtain ⟨a, xs, rfl, h1, r1⟩ := r.lst hs
    obtain ⟨ns, e1, rfl⟩ := Option.map_eq_some_iff.mp e
    refine ⟨a, ns, rfl, by rw [← intsT_v r1 e1]; exact SqL.of h1, fun ns' p hp hw hn => ?_⟩
    have hm : (ns.mergeSort (fun a b => decide (a ≤ b))).Pairwise (· ≤ ·) := by
      have := List.pairwise_mergeSort (le := fun a b : Int => decide (a ≤ b)) (fun a b c h1 h2 => by simp at h1 h2 ⊢; omega) (fun a b => by simp; omega) ns
      simpa using this
    have e2 : ns' = ns.mergeSort (fun a b => decide (a ≤ b)) := sorted_uniq (hp.trans (List.mergeSort_perm ns _).symm) hw hm
    subst e2
    exact q.new hs hn (.lst (rpA_ints _))
section
variable {X : Cx} {W : WX} {cv : CV} {pos p : Pos} {e : Expr} {es : List Expr} {ms : List M}
theorem ec_sorted (hm : X.mg "sorted" = none) (ha : EvA X W cv (e :: es) ms) (hg : Gl X "sorted" := by rfl) (he : starEach (e :: es) X.env = (false, eval e X.env) :: starEach es X.env := by rfl) (hpl : (backTo pos (starEach es X.env)).any (·.1) = false := by rfl) : Ev X W cv (.Call (.Name "sorted" p) (e :: es) [] pos) (mOpN gSorted ms) := ev_callB cr_sortedI pr_sorted hm ha hg (by decide +kernel) (by decide) (by decide) he hpl
end
def gClr : List T → List T → Option (T × List T)
  | _, [] => some (.non, [])
  | _, _ => none
theorem pm_clr {K : PySem.W.Frag} : PRm K rClear gClr := by
  intro G ψ H a xs vs txs tvs t tys Q hs hH rx rv e q
  cases rv with
  | nil => cases e; exact ⟨a, xs, rfl, rfl, hH, q _ _ .nil .non⟩
  | cons => cases e
def gPopAt : List T → List T → Option (T × List T)
  | xs, [.int i] => if 0 ≤ i ∧ i < 1073741824 then (match xs[i.toNat]? with
    | some t => some (t, xs.eraseIdx i.toNat)
    | none => none) else none
  | _, _ => none
theorem RpA.erase {K : PySem.W.Frag} {G : Hp} {ψ : List Addr} : ∀ {vs : List V} {ts : List T} (n : Nat), RpA K G ψ vs ts → RpA K G ψ (vs.eraseIdx n) (ts.eraseIdx n)
  | _, _, _, .nil => .nil
  | _, _, 0, .cons _ rs => rs
  | _, _, n + 1, .cons r rs => .cons r (RpA.erase n rs)
theorem pm_popAt {K : PySem.W.Frag} : PRm K rPopAt gPopAt := by
  intro G ψ H a xs vs txs tvs t tys Q hs hH rx rv e q
  cases rv with
  | nil => cases e
  | cons r1 r2 => cases r2 with
    | cons => cases r1 <;> cases e
    | nil =>
      cases r1 with
      | int i =>
        simp only [gPopAt] at e
        split at e
        · rename_i hi
          cases e1 : txs[i.toNat]? with
          | none => rw [e1] at e; cases e
          | some u =>
            rw [e1] at e
            cases e
            obtain ⟨v, hv, rv⟩ := rx.get e1
            have hlt : i.toNat < xs.length := (List.getElem?_eq_some_iff.mp hv).1
            refine ⟨a, xs, i, i.toNat, v, rfl, rfl, hH, by omega, by omega, ?_, hv, q _ _ (rx.erase _) rv⟩
            unfold seqIndex?
            simp
            omega
        · cases e
      | _ => cases e
def remI (xs : List Int) (k : Int) : Option (List Int) := if k ∈ xs then some (xs.erase k) else none
def gRem : List T → List T → Option (T × List T)
  | xs, [.int k] => (intsT xs).bind fun ns => (remI ns k).map fun ms => (.non, ms.map T.int)
  | _, _ => none
theorem erase_at {k : Int} : ∀ {ns : List Int}, k ∈ ns → ∃ j, ns[j]? = some k ∧ (∀ m : Nat, m < j → ns[m]? ≠ some k) ∧ ns.eraseIdx j = ns.erase k
  | n :: ns, h => by
    by_cases e : n = k
    · subst e
      exact ⟨0, rfl, fun m hm => absurd hm (Nat.not_lt_zero _), by simp⟩
    · have h' : k ∈ ns := by
        rcases List.mem_cons.mp h with z | z
        · exact absurd z.symm e
        · exact z
      obtain ⟨j, h1, h2, h3⟩ := erase_at h'
      refine ⟨j + 1, by simpa using h1, fun m hm => ?_, ?_⟩
      · cases m with
        | zero => simpa using e
        | succ m => simpa using h2 m (by omega)
      · have : (n == k) = false := by simpa using e
        simp [List.erase_cons, this, h3]
theorem pm_rem {K : PySem.W.Frag} : PRm K rRemI gRem := by
  intro G ψ H a xs vs txs tvs t tys Q hs hH rx rv e q
  cases rv with
  | nil => cases e
  | cons r1 r2 => cases r2 with
    | cons => cases r1 <;> cases e
    | nil =>
      cases r1 with
      | int k =>
        obtain ⟨ns, e1, e2⟩ := Option.bind_eq_some_iff.mp e
        obtain ⟨ms, e3, e4⟩ := Option.map_eq_some_iff.mp e2
        cases e4
        unfold remI at e3
        split at e3
        · rename_i hm
          cases e3
          obtain ⟨j, h1, h2, h3⟩ := erase_at hm
          have hx := intsT_v rx e1
          refine ⟨a, ns, k, j, rfl, rfl, by rw [hH, hx], h1, h2, ?_⟩
          rw [h3]
          exact q _ _ (rpA_ints _) .non
        · cases e3
      | _ => cases e
/-! ### a list of one's own walked, and changed behind the walk: it is lent for so long -/
def isBor : Slot → Bool
  | .bor _ => true
  | _ => false
/-- what is lent now was lent before, but for slot i -/
def borOk (i : Nat) (sl sl' : List Slot) : Bool := (List.range sl'.length).all fun j => decide (j = i) || (!((sl'[j]?).map isBor == some true) || ((sl[j]?).map isBor == some true))
def lendS (i : Nat) (t : T) (s : S) : S := { s with sl := s.sl.set i (.bor t) }
def mLend (i : Nat) (m : M) : M := fun s => match s.sl[i]? with
  | some (.own t) => (m (lendS i t s)).bind fun d s1 => (match s1.sl[i]? with
    | some (.bor t') => if borOk i s.sl s1.sl then (match d with
      | .val u => .ok (.val u) { s1 with sl := s1.sl.set i (.own t') }
      | .new u => .ok (.new u) { s1 with sl := s1.sl.set i (.own t') }
      | _ => .bad) else .bad
    | _ => .bad)
  | _ => m s
section
variable {K : PySem.W.Frag} {σ : L2.St} {G G' : Hp} {ψ ψ' : List Addr} {ω ω' : Addr → Option Ow} {s s1 : S} {H H' : Hp}
def setW (ω : Addr → Option Ow) (a : Addr) (w : Ow) : Addr → Option Ow := fun b => if b = a then some w else ω b
theorem Rel.lend (R : Rel K G ψ ω s σ H) {i : Nat} {t : T} (e : s.sl[i]? = some (.own t)) : ∃ a o, σ[i]? = some (some (.ref a)) ∧ ω a = some (.slot i) ∧ H a = some o ∧ Mo G ψ ω G ψ (setW ω a (.hold o)) ∧ Rel K G ψ (setW ω a (.hold o)) (lendS i t s) σ H := by
  obtain ⟨a, o, e1, e2, e3, c⟩ := R.slots i _ e
  have hne : ∀ b w, ω b = some w → w ≠ .slot i → b ≠ a := fun b w h1 h2 z => by subst z; rw [e2] at h1; cases h1; exact h2 rfl
  have hk : ∀ b w, ω b = some w → w ≠ .slot i → setW ω a (.hold o) b = some w := fun b w h1 h2 => by simp [setW, hne b w h1 h2, h1]
  have hl : i < s.sl.length := (List.getElem?_eq_some_iff.mp e).1
  refine ⟨a, o, e1, e2, e3, ⟨Same.refl _, List.prefix_refl _, fun b u h => hk b _ h (fun z => by cases z), fun b u h => hk b _ h (fun z => by cases z)⟩, ⟨R.le, fun b u h => ?_, fun b u h => ?_, fun b u h => ?_, fun b h => ?_, fun j x h => ?_, by simp [lendS, R.len], R.psi, fun n x h => ?_⟩⟩
  · have : b ≠ a := fun z => by subst z; rw [R.gw b u h] at e2; cases e2
    simp [setW, this, R.gw b u h]
  · by_cases hb : b = a
    · subst hb; simp [setW] at h; rw [← h]; exact e3
    · exact R.hold b u (by simpa [setW, hb] using h)
  · by_cases hb : b = a
    · simp [setW, hb] at h
    · exact R.keep b u (by simpa [setW, hb] using h)
  · have : b ≠ a := fun z => by subst z; rw [e3] at h; cases h
    simp [setW, this, R.tr b h]
  · by_cases hj : j = i
    · subst hj
      have : x = .bor t := by simpa [lendS, hl] using h.symm
      subst this
      exact ⟨a, o, e1, by simp [setW], c⟩
    · have h' : s.sl[j]? = some x := by
        have h2 : (s.sl.set i (.bor t))[j]? = some x := h
        rw [List.getElem?_set_ne (Ne.symm hj)] at h2; exact h2
      exact (R.slots j x h').mono (Same.refl _) (List.prefix_refl _) (fun b u hh => hk b _ hh (fun z => by cases z)) fun b u _ w hh => ⟨hk b _ w (fun z => by cases z; exact hj rfl), hh⟩
  · obtain ⟨b, u, q1, q2, q3, c'⟩ := R.cells n x h
    exact ⟨b, u, q1, hk b _ q2 (fun z => by cases z), q3, c'⟩
theorem borOk_at {i : Nat} {sl sl' : List Slot} (h : borOk i sl sl' = true) {j : Nat} {t : T} (hj : j ≠ i) (e : sl'[j]? = some (.bor t)) : ∃ u, sl[j]? = some (.bor u) := by
  have hl : j < sl'.length := (List.getElem?_eq_some_iff.mp e).1
  have := List.all_eq_true.mp h j (List.mem_range.mpr hl)
  simp only [e, hj, decide_false, Bool.false_or, Option.map_some, isBor] at this
  cases q : sl[j]? with
  | none => rw [q] at this; cases this
  | some x => cases x with
    | bor u => exact ⟨u, rfl⟩
    | _ => rw [q] at this; cases this
theorem Rel.unlend (R : Rel K G ψ ω s σ H) {i : Nat} {a : Addr} {o : HO} {t' : T} (hσ : σ[i]? = some (some (.ref a))) (hw : ω a = some (.slot i)) (mo : Mo G ψ (setW ω a (.hold o)) G' ψ' ω') (R' : Rel K G' ψ' ω' s1 σ H') (e : s1.sl[i]? = some (.bor t')) (hb : borOk i s.sl s1.sl = true) :
    Mo G ψ ω G' ψ' (setW ω' a (.slot i)) ∧ Rel K G' ψ' (setW ω' a (.slot i)) { s1 with sl := s1.sl.set i (.own t') } σ H' := by
  have ha : ω' a = some (.hold o) := mo.h a o (by simp [setW])
  have hH := R'.hold a o ha
  have hl : i < s1.sl.length := (List.getElem?_eq_some_iff.mp e).1
  have hk : ∀ b w, b ≠ a → ω' b = some w → setW ω' a (.slot i) b = some w := fun b w h1 h2 => by simp [setW, h1, h2]
  refine ⟨⟨mo.g, mo.p, fun b u h => ?_, fun b u h => ?_⟩, ⟨R'.le, fun b u h => ?_, fun b u h => ?_, fun b u h => ?_, fun b h => ?_, fun j x h => ?_, by simp [R'.len], R'.psi, fun n x h => ?_⟩⟩
  · have : b ≠ a := fun z => by subst z; rw [hw] at h; cases h
    exact hk b _ this (mo.h b u (by simp [setW, this, h]))
  · have : b ≠ a := fun z => by subst z; rw [hw] at h; cases h
    exact hk b _ this (mo.k b u (by simp [setW, this, h]))
  · have : b ≠ a := fun z => by subst z; rw [R'.gw b u h] at ha; cases ha
    simp [setW, this, R'.gw b u h]
  · by_cases hb : b = a
    · simp [setW, hb] at h
    · exact R'.hold b u (by simpa [setW, hb] using h)
  · by_cases hb : b = a
    · simp [setW, hb] at h
    · exact R'.keep b u (by simpa [setW, hb] using h)
  · have : b ≠ a := fun z => by subst z; rw [hH] at h; cases h
    simp [setW, this, R'.tr b h]
  · by_cases hj : j = i
    · subst hj
      have : x = .own t' := by simpa [hl] using h.symm
      subst this
      obtain ⟨a', o', q1, q2, c⟩ := R'.slots j _ e
      rw [hσ] at q1; cases q1
      rw [ha] at q2; cases q2
      exact ⟨a, o, hσ, by simp [setW], hH, c⟩
    · have h' : s1.sl[j]? = some x := by
        have h2 : (s1.sl.set i (.own t'))[j]? = some x := h
        rw [List.getElem?_set_ne (Ne.symm hj)] at h2; exact h2
      have so := R'.slots j x h'
      cases x with
      | no => trivial
      | val u => exact so
      | own u =>
        obtain ⟨b, v, q1, q2, q3, c⟩ := so
        have : b ≠ a := fun z => by subst z; rw [ha] at q2; cases q2
        exact ⟨b, v, q1, hk b _ this q2, q3, c⟩
      | bor u =>
        obtain ⟨b, v, q1, q2, c⟩ := so
        obtain ⟨u0, h0⟩ := borOk_at hb hj h'
        obtain ⟨b0, v0, z1, z2, _⟩ := R.slots j _ h0
        rw [q1] at z1; cases z1
        have : b ≠ a := fun z => by subst z; rw [hw] at z2; cases z2
        exact ⟨b, v, q1, hk b _ this q2, c⟩
  · obtain ⟨b, u, q1, q2, q3, c⟩ := R'.cells n x h
    have : b ≠ a := fun z => by subst z; rw [ha] at q2; cases q2
    exact ⟨b, u, q1, hk b _ this q2, q3, c⟩
end
theorem lend_on {K : PySem.W.Frag} {W : WX} {cv : CV} {m : M} {σ : L2.St} {H : Hp} {Q : VK} (i : Nat) (h : tI K W cv (mLend i m) σ H Q) : tI K W cv m σ H Q := by
  obtain ⟨G, ψ, ω, s, R, f⟩ := h
  unfold mLend at f
  split at f
  · rename_i t et
    obtain ⟨a, o, hσ, hw, hH, mo, R1⟩ := R.lend et
    refine ⟨G, ψ, _, lendS i t s, R1, ?_⟩
    cases em : m (lendS i t s) with
    | bad => rw [em] at f; exact f.elim
    | ex c s1 =>
      rw [em] at f
      intro G' ψ' ω' H' mo' R'
      exact f G' ψ' ω' H' (mo.trans mo') R'
    | ok d s1 =>
      rw [em] at f
      intro G' ψ' ω' H' mo' R' v rd
      simp only [Res.bind_ok] at f
      split at f
      · rename_i t' et'
        split at f
        · rename_i hb
          obtain ⟨q1, q2⟩ := R.unlend hσ hw mo' R' et' hb
          cases d with
          | val u => exact f G' ψ' _ H' q1 q2 v rd
          | new u =>
            obtain ⟨b, w, rfl, g1, g2, g3, c⟩ := rd
            refine f G' ψ' _ H' q1 q2 _ ⟨b, w, rfl, g1, ?_, g3, c⟩
            have : b ≠ a := fun z => by subst z; rw [mo'.h b o (by simp [setW])] at g2; cases g2
            simp [setW, this, g2]
          | bor u => exact f.elim
          | ali u => exact f.elim
        · exact f.elim
      · exact f.elim
  · exact ⟨G, ψ, ω, s, R, f⟩
theorem ev_lend {X : Cx} {W : WX} {cv : CV} {e : Expr} {m : M} (i : Nat) (h : Ev X W cv e m) : Ev X W cv e (mLend i m) := ⟨pe_w h.pe fun _ _ _ h => lend_on i h⟩
theorem ea_lend {X : Cx} {W : WX} {cv : CV} {st : Stmt} {k : Nat} {m : M} (i : Nat) (h : EvA1 X W cv k st m) : EvA1 X W cv k st (mLend i m) := ⟨ps_w h.ps fun _ _ _ h => lend_on i h⟩
/-- a new thing, shared from here on -/
def mBoxE (m : M) : M := fun s => (m s).bind fun d s1 => match d with
  | .new t => .ok (.val (.glo s1.ce.length)) ⟨s1.sl, s1.ce ++ [t]⟩
  | d => .ok d s1
theorem ev_boxE {X : Cx} {W : WX} {cv : CV} {e : Expr} {m : M} (h : Ev X W cv e m) : Ev X W cv e (mBoxE m) := by
  refine ⟨pe_w h.pe fun σ H Q ⟨G, ψ, ω, s, R, f⟩ => ?_⟩
  refine tI_on R f fun d s1 G1 ψ1 ω1 H1 v mo R1 rv f1 => ?_
  cases d with
  | val t => exact f1 G1 ψ1 ω1 H1 Mo.refl R1 v rv
  | bor t => exact f1 G1 ψ1 ω1 H1 Mo.refl R1 v rv
  | ali i => exact f1 G1 ψ1 ω1 H1 Mo.refl R1 v rv
  | new t =>
    obtain ⟨a, o, rfl, hg, hw, hh, c⟩ := rv
    obtain ⟨ω2, mo2, R2⟩ := R1.box s1.sl.length hg hw hh c
    have e1 : s1.sl.set s1.sl.length (.val (.glo s1.ce.length)) = s1.sl := List.set_eq_of_length_le (Nat.le_refl _)
    have e2 : σ.set s1.sl.length (some (.ref a)) = σ := List.set_eq_of_length_le (by rw [R1.len]; exact Nat.le_refl _)
    rw [e1, e2] at R2
    refine f1 G1 _ ω2 H1 mo2 R2 _ (.glo ?_)
    rw [← R1.psi]
    simp
end Vi

set_option Elab.async false
set_option linter.all false
set_option maxRecDepth 100000
namespace Vi
open PySem PySem.Spec PyProof.Rows L2

/-! ### plain: what a meaning leaves -/
/-- what follows stands shut: simp does not go into it -/
structure Tg {β : Type} (Q : β) : Type where
def WP {α : Type} (r : Res α) (Q : α → S → Prop) (_ : Tg Q := ⟨⟩) : Prop := match r with
  | .ok a s => Q a s
  | _ => False
theorem WP.mono {α : Type} {r : Res α} {P Q : α → S → Prop} (h : WP r P) (hq : ∀ a s, P a s → Q a s) : WP r Q := by
  cases r with
  | ok a s => exact hq a s h
  | ex c s => exact h
  | bad => exact h
theorem WP.ex {α : Type} {r : Res α} {Q : α → S → Prop} (h : WP r Q) : ∃ a s, r = .ok a s ∧ Q a s := by
  cases r with
  | ok a s => exact ⟨a, s, rfl, h⟩
  | ex c s => exact h.elim
  | bad => exact h.elim
theorem wp_bind {α β : Type} (r : Res α) (k : α → S → Res β) (Q : β → S → Prop) : WP (r.bind k) Q = WP r (fun a s => WP (k a s) Q) := by cases r <;> rfl
theorem wp_ok {α : Type} (a : α) (s : S) (Q : α → S → Prop) : WP (.ok a s) Q = Q a s := rfl
theorem wp_ite {α : Type} (c : Prop) [Decidable c] (a b : Res α) (Q : α → S → Prop) : WP (if c then a else b) Q = if c then WP a Q else WP b Q := by split <;> rfl
theorem gr_ite (c : Prop) [Decidable c] (a b : Option DV) (s : S) : gr (if c then a else b) s = if c then gr a s else gr b s := by split <;> rfl
theorem wp_bad {α : Type} (Q : α → S → Prop) : WP (.bad : Res α) Q = False := rfl
theorem ite_and {c : Prop} [Decidable c] {a b : Prop} (h1 : c → a) (h2 : ¬c → b) : if c then a else b := by
  split
  · exact h1 (by assumption)
  · exact h2 (by assumption)
theorem wp_of {α : Type} {r : Res α} {a : α} {s : S} {Q : α → S → Prop} (h : r = .ok a s) (q : Q a s) : WP r Q := by rw [h]; exact q
/-- a call's result is a value t, the cells are ce -/
def IsV (r : Res DV) (t : T) (ce : List T) : Prop := ∃ sl, r = .ok (.val t) ⟨sl, ce⟩
def IsN (r : Res DV) (t : T) (ce : List T) : Prop := ∃ sl, r = .ok (.new t) ⟨sl, ce⟩
def IsX (r : Res DV) (c : Nat) (ce : List T) : Prop := ∃ sl, r = .ex c ⟨sl, ce⟩
theorem WP.endF {r : Res Out} {Q : DV → S → Prop} (h : WP r fun o s => match o with
  | .nx => Q (.val .non) s
  | .rt (.val t) => Q (.val t) s
  | .rt (.new t) => Q (.new t) s
  | _ => False) : WP (Vi.endF r) Q := by
  cases r with
  | ok o s => cases o with
    | nx => exact h
    | bk => exact h
    | ct => exact h
    | rt d => cases d <;> exact h
  | ex c s => exact h
  | bad => exact h
theorem wp_backR (s1 : S) (r : Res DV) (Q : DV → S → Prop) (h : WP r fun d s => match d with
  | .val t => Q (.val t) { s1 with ce := s.ce }
  | .new t => Q (.new t) { s1 with ce := s.ce }
  | _ => False) : WP (backR s1 r) Q := by
  cases r with
  | ok d s => cases d <;> exact h
  | ex c s => exact h
  | bad => exact h
theorem IsV.wp {r : Res DV} {t : T} {ce : List T} {s1 : S} {Q : DV → S → Prop} (h : IsV r t ce) (q : Q (.val t) { s1 with ce := ce }) : WP (backR s1 r) Q := by
  obtain ⟨sl, rfl⟩ := h; exact q
theorem IsN.wp {r : Res DV} {t : T} {ce : List T} {s1 : S} {Q : DV → S → Prop} (h : IsN r t ce) (q : Q (.new t) { s1 with ce := ce }) : WP (backR s1 r) Q := by
  obtain ⟨sl, rfl⟩ := h; exact q
theorem IsV.back {r : Res DV} {t : T} {ce : List T} (h : IsV r t ce) (s1 : S) : backR s1 r = .ok (.val t) { s1 with ce := ce } := by
  obtain ⟨sl, rfl⟩ := h; rfl
theorem IsN.back {r : Res DV} {t : T} {ce : List T} (h : IsN r t ce) (s1 : S) : backR s1 r = .ok (.new t) { s1 with ce := ce } := by
  obtain ⟨sl, rfl⟩ := h; rfl
theorem IsX.back {r : Res DV} {c : Nat} {ce : List T} (h : IsX r c ce) (s1 : S) : backR s1 r = .ex c { s1 with ce := ce } := by
  obtain ⟨sl, rfl⟩ := h; rfl

theorem IsV.of {r : Res DV} {t : T} {ce : List T} (h : WP r fun d s => d = .val t ∧ s.ce = ce) : IsV r t ce := by
  obtain ⟨d, s, e, rfl, rfl⟩ := h.ex
  exact ⟨s.sl, e⟩
theorem IsN.of {r : Res DV} {t : T} {ce : List T} (h : WP r fun d s => d = .new t ∧ s.ce = ce) : IsN r t ce := by
  obtain ⟨d, s, e, rfl, rfl⟩ := h.ex
  exact ⟨s.sl, e⟩
theorem rd_val {s : S} {t : T} (h : ∀ n, t ≠ .glo n) : rd s (.val t) = some t := by
  cases t <;> first | rfl | exact absurd rfl (h _)
/-! ### comprehensions that change nothing -/
theorem compL_pure {vs : List Nat} {f : T → S → Option S} {mi : S → Res Bool} {me : M} {s : S} {h : T → Option T} : ∀ {its acc : List T}, acc.length + its.length ≤ line → (∀ t ∈ its, ∀ acc : List T, acc.length < line → stepC vs f mi me t acc s = .ok (acc ++ (h t).toList) s) →
    compL vs f mi me its acc s = .ok (acc ++ its.filterMap h) s
  | [], acc, _, _ => by simp [compL]
  | t :: ts, acc, hl, hs => by
    have hl' : acc.length + (ts.length + 1) ≤ line := by simpa using hl
    have e := hs t (by simp) acc (by omega)
    have hle : (acc ++ (h t).toList).length + ts.length ≤ line := by
      cases h t <;> simp <;> omega
    have ih := compL_pure (acc := acc ++ (h t).toList) hle fun u hu => hs u (List.mem_cons_of_mem _ hu)
    simp only [compL, e, Res.bind_ok, ih]
    cases q : h t <;> simp [List.filterMap_cons, q]
theorem comp_pure {vs : List Nat} {src : S → Res (List T)} {f : T → S → Option S} {mi : S → Res Bool} {me : M} {s s1 : S} {its : List T} (h : T → Option T) (hsrc : src s = .ok its s1) (hl : its.length ≤ line)
    (hs : ∀ t ∈ its, ∀ acc : List T, acc.length < line → stepC vs f mi me t acc (wipeS vs s1) = .ok (acc ++ (h t).toList) (wipeS vs s1)) :
    mComp vs src f mi me s = .ok (.new (.lst (its.filterMap h))) (restS vs s1 (wipeS vs s1)) := by
  have e := compL_pure (acc := []) (by simpa using hl) hs
  simp only [mComp, hsrc, Res.bind_ok, e, outL, List.nil_append]
theorem wp_comp {vs : List Nat} {src : S → Res (List T)} {f : T → S → Option S} {mi : S → Res Bool} {me : M} {s : S} {Q : DV → S → Prop} (h : T → Option T) (hsrc : WP (src s) fun its s1 => its.length ≤ line ∧ (∀ t ∈ its, ∀ acc : List T, acc.length < line → WP (stepC vs f mi me t acc (wipeS vs s1)) fun acc' s' => acc' = acc ++ (h t).toList ∧ s' = wipeS vs s1) ∧
    Q (.new (.lst (its.filterMap h))) (restS vs s1 (wipeS vs s1))) : WP (mComp vs src f mi me s) Q := by
  obtain ⟨its, s1, e, hl, hs, q⟩ := hsrc.ex
  rw [comp_pure h e hl fun t ht acc ha => ?_]
  · exact q
  · obtain ⟨acc', s', e1, rfl, rfl⟩ := (hs t ht acc ha).ex
    exact e1
theorem wp_step {vs : List Nat} {f : T → S → Option S} {mi : S → Res Bool} {me : M} {t : T} {acc : List T} {s s1 : S} {Q : List T → S → Prop} (hf : f t s = some s1) (h : WP (mi s1) fun b s2 => if b then WP (me s2) fun d s3 => (match tk (dz d) s3 with
      | some (y, s4) => acc.length < line ∧ Q (acc ++ [y]) (wipeS vs s4)
      | none => False) else Q acc (wipeS vs s2)) : WP (stepC vs f mi me t acc s) Q := by
  unfold stepC
  rw [hf]
  simp only [wp_bind]
  obtain ⟨b, s2, e, h⟩ := h.ex
  rw [e]
  simp only [noX, wp_ok]
  cases b with
  | false => exact h
  | true =>
    simp only [if_true] at h ⊢
    rw [wp_bind]
    obtain ⟨d, s3, e3, h⟩ := h.ex
    rw [e3]
    simp only [noX, wp_ok]
    cases e4 : tk (dz d) s3 with
    | none => rw [e4] at h; exact h.elim
    | some x =>
      obtain ⟨y, s4⟩ := x
      rw [e4] at h
      simp only at h ⊢
      rw [if_pos h.1]
      exact h.2
/-- a comprehension that changes cells: I holds of what is there -/
theorem compL_inv {vs : List Nat} {f : T → S → Option S} {mi : S → Res Bool} {me : M} (I : List T → S → Prop) : ∀ {its acc : List T} {s : S} {Q : List T → S → Prop}, I acc s → (∀ t ∈ its, ∀ (acc : List T) (s : S), I acc s → WP (stepC vs f mi me t acc s) I) → (∀ acc s, I acc s → Q acc s) → WP (compL vs f mi me its acc s) Q
  | [], acc, s, Q, h0, _, hq => hq _ _ h0
  | t :: ts, acc, s, Q, h0, hs, hq => by
    unfold compL
    rw [wp_bind]
    exact (hs t (by simp) acc s h0).mono fun acc' s' h => compL_inv I h (fun u hu => hs u (List.mem_cons_of_mem _ hu)) hq
/-- a loop -/
theorem forL_inv {f : T → S → Option S} {b : MS} (I : S → Prop) {Q : Out → S → Prop} : ∀ {its : List T} {s : S}, I s → (∀ t ∈ its, ∀ s, I s → WP (match f t s with
    | none => .bad
    | some s1 => b s1) fun o s' => match o with
    | .nx => I s'
    | .ct => I s'
    | .bk => Q .nx s'
    | .rt d => Q (.rt d) s') → (∀ s, I s → Q .nx s) → WP (forL f b its s) Q
  | [], s, h0, _, hq => hq _ h0
  | t :: ts, s, h0, hs, hq => by
    have h := hs t (by simp) s h0
    unfold forL
    cases e : f t s with
    | none => rw [e] at h; exact h.elim
    | some s1 =>
      rw [e] at h
      simp only
      rw [wp_bind]
      refine WP.mono h fun o s' ho => ?_
      cases o with
      | nx => exact forL_inv I ho (fun u hu => hs u (List.mem_cons_of_mem _ hu)) hq
      | ct => exact forL_inv I ho (fun u hu => hs u (List.mem_cons_of_mem _ hu)) hq
      | bk => exact ho
      | rt d => exact ho
theorem chars_map (x : List Nat) : itemsOf (.str x) = some (chars x) := rfl
end Vi

set_option Elab.async false
set_option linter.all false
set_option maxRecDepth 100000
namespace Vi
open PySem PySem.Spec PyProof.Rows L2

/-! ### plain: a meaning walked from its head (the rest stays shut until its turn) -/
def WPO {α : Type} (o : Option α) (Q : α → Prop) (_ : Tg Q := ⟨⟩) : Prop := match o with
  | some a => Q a
  | none => False
theorem WP_ext {α : Type} {r : Res α} {Q Q' : α → S → Prop} (h : ∀ a s, Q a s = Q' a s) : WP r Q = WP r Q' := by
  have : Q = Q' := funext fun a => funext fun s => h a s
  rw [this]
theorem o_some {α : Type} (a : α) (Q : α → Prop) : WPO (some a) Q = Q a := rfl
theorem o_none {α : Type} (Q : α → Prop) : WPO none Q = False := rfl
theorem o_ite {α : Type} (c : Prop) [Decidable c] (a b : Option α) (Q : α → Prop) : WPO (if c then a else b) Q = if c then WPO a Q else WPO b Q := by split <;> rfl
theorem o_map {α β : Type} (o : Option α) (f : α → β) (Q : β → Prop) : WPO (o.map f) Q = WPO o fun a => Q (f a) := by cases o <;> rfl
theorem o_bind {α β : Type} (o : Option α) (f : α → Option β) (Q : β → Prop) : WPO (o.bind f) Q = WPO o fun a => WPO (f a) Q := by cases o <;> rfl
theorem o_of {α : Type} {o : Option α} {a : α} {Q : α → Prop} (h : o = some a) (q : Q a) : WPO o Q := by rw [h]; exact q
theorem wp_gr (o : Option DV) (s : S) (Q : DV → S → Prop) : WP (gr o s) Q = WPO o fun d => Q d s := by cases o <;> rfl
theorem wp_optS (o : Option S) (Q : Out → S → Prop) : WP (optS o) Q = WPO o fun s => Q .nx s := by cases o <;> rfl
theorem wp_optV (o : Option (T × S)) (Q : DV → S → Prop) : WP (optV o) Q = WPO o fun p => Q (.val p.1) p.2 := by cases o <;> rfl
section
variable {Q : DV → S → Prop} {s : S} {a b c : M} {ms : List M}
theorem w_sl (i : Nat) : WP (mSl i s) Q = match s.sl[i]? with
    | some (.val t) => Q (.val t) s
    | some (.bor t) => Q (.bor t) s
    | some (.own _) => Q (.ali i) s
    | _ => False := by
  unfold mSl
  cases s.sl[i]? with
  | none => rfl
  | some x => cases x <;> rfl
theorem w_c (t : T) : WP (mC t s) Q = Q (.val t) s := rfl
theorem w_op2 (g : List T → T → T → Option DV) : WP (mOp2c g a b s) Q = WP (a s) fun d s1 => WP (b s1) fun e s2 => WPO (rd s2 (dz d)) fun x => WPO (rd s2 (dz e)) fun y => WPO (g s2.ce x y) fun r => Q r s2 := by
  unfold mOp2c
  rw [wp_bind]
  refine WP_ext fun d s1 => ?_
  rw [wp_bind]
  refine WP_ext fun e s2 => ?_
  cases rd s2 (dz d) with
  | none => rfl
  | some x => cases rd s2 (dz e) with
    | none => rfl
    | some y => exact wp_gr _ _ _
theorem w_op1 (g : T → Option DV) : WP (mOp1 g a s) Q = WP (a s) fun d s1 => WPO (rd s1 (dz d)) fun x => WPO (g x) fun r => Q r s1 := by
  unfold mOp1
  rw [wp_bind]
  refine WP_ext fun d s1 => ?_
  cases rd s1 (dz d) with
  | none => rfl
  | some x => exact wp_gr _ _ _
theorem w_evs0 (Q : List DV → S → Prop) : WP (evs [] s) Q = Q [] s := rfl
theorem w_evs1 (m : M) (Q : List DV → S → Prop) : WP (evs (m :: ms) s) Q = WP (m s) fun d s1 => WP (evs ms s1) fun ds s2 => Q (dz d :: ds) s2 := by
  rw [show evs (m :: ms) s = (m s).bind fun d s1 => (evs ms s1).bind fun ds s2 => .ok (dz d :: ds) s2 from rfl, wp_bind]
  refine WP_ext fun d s1 => ?_
  rw [wp_bind]
  rfl
theorem o_rds0 (Q : List T → Prop) : WPO (rds s []) Q = Q [] := rfl
theorem o_rds1 (d : DV) (ds : List DV) (Q : List T → Prop) : WPO (rds s (d :: ds)) Q = WPO (rd s d) fun t => WPO (rds s ds) fun ts => Q (t :: ts) := by
  unfold rds
  cases rd s d with
  | none => rfl
  | some t => cases rds s ds <;> rfl
theorem w_opN (g : List T → Option DV) : WP (mOpN g ms s) Q = WP (evs ms s) fun ds s1 => WPO (rds s1 ds) fun ts => WPO (g ts) fun r => Q r s1 := by
  unfold mOpN
  rw [wp_bind]
  refine WP_ext fun ds s1 => ?_
  cases rds s1 ds with
  | none => rfl
  | some ts => exact wp_gr _ _ _
theorem o_tks0 (Q : List T × S → Prop) : WPO (tks [] s) Q = Q ([], s) := rfl
theorem o_tks1 (d : DV) (ds : List DV) (Q : List T × S → Prop) : WPO (tks (d :: ds) s) Q = WPO (tk d s) fun p => WPO (tks ds p.2) fun q => Q (p.1 :: q.1, q.2) := by
  rw [show tks (d :: ds) s = (match tk d s with
    | some (t, s1) => (match tks ds s1 with
      | some (ts, s2) => some (t :: ts, s2)
      | none => none)
    | none => none) from rfl]
  cases tk d s with
  | none => rfl
  | some p => cases h : tks ds p.2 <;> simp [h, WPO]
theorem w_lst : WP (mLst ms s) Q = WP (evs ms s) fun ds s1 => WPO (tks ds s1) fun p => if p.1.length ≤ line then Q (.new (.lst p.1)) p.2 else False := by
  unfold mLst
  rw [wp_bind]
  refine WP_ext fun ds s1 => ?_
  cases tks ds s1 with
  | none => rfl
  | some p => obtain ⟨ts, s2⟩ := p; simp only [WPO]; split <;> rfl
theorem w_tup : WP (mTup ms s) Q = WP (evs ms s) fun ds s1 => WPO (tks ds s1) fun p => if p.1.length ≤ line then Q (.val (.tup p.1)) p.2 else False := by
  unfold mTup
  rw [wp_bind]
  refine WP_ext fun ds s1 => ?_
  cases tks ds s1 with
  | none => rfl
  | some p => obtain ⟨ts, s2⟩ := p; simp only [WPO]; split <;> rfl
theorem k_NoneType_str : kitB "NoneType" "str" = some false := by decide +kernel
theorem k_NoneType_tuple : kitB "NoneType" "tuple" = some false := by decide +kernel
theorem k_NoneType_list : kitB "NoneType" "list" = some false := by decide +kernel
theorem k_NoneType_int : kitB "NoneType" "int" = some false := by decide +kernel
theorem k_NoneType_bool : kitB "NoneType" "bool" = some false := by decide +kernel
theorem k_NoneType_dict : kitB "NoneType" "dict" = some false := by decide +kernel
theorem k_bool_str : kitB "bool" "str" = some false := by decide +kernel
theorem k_bool_tuple : kitB "bool" "tuple" = some false := by decide +kernel
theorem k_bool_list : kitB "bool" "list" = some false := by decide +kernel
theorem k_bool_int : kitB "bool" "int" = some true := by decide +kernel
theorem k_bool_bool : kitB "bool" "bool" = some true := by decide +kernel
theorem k_bool_dict : kitB "bool" "dict" = some false := by decide +kernel
theorem k_int_str : kitB "int" "str" = some false := by decide +kernel
theorem k_int_tuple : kitB "int" "tuple" = some false := by decide +kernel
theorem k_int_list : kitB "int" "list" = some false := by decide +kernel
theorem k_int_int : kitB "int" "int" = some true := by decide +kernel
theorem k_int_bool : kitB "int" "bool" = some false := by decide +kernel
theorem k_int_dict : kitB "int" "dict" = some false := by decide +kernel
theorem k_str_str : kitB "str" "str" = some true := by decide +kernel
theorem k_str_tuple : kitB "str" "tuple" = some false := by decide +kernel
theorem k_str_list : kitB "str" "list" = some false := by decide +kernel
theorem k_str_int : kitB "str" "int" = some false := by decide +kernel
theorem k_str_bool : kitB "str" "bool" = some false := by decide +kernel
theorem k_str_dict : kitB "str" "dict" = some false := by decide +kernel
theorem k_tuple_str : kitB "tuple" "str" = some false := by decide +kernel
theorem k_tuple_tuple : kitB "tuple" "tuple" = some true := by decide +kernel
theorem k_tuple_list : kitB "tuple" "list" = some false := by decide +kernel
theorem k_tuple_int : kitB "tuple" "int" = some false := by decide +kernel
theorem k_tuple_bool : kitB "tuple" "bool" = some false := by decide +kernel
theorem k_tuple_dict : kitB "tuple" "dict" = some false := by decide +kernel
theorem k_list_str : kitB "list" "str" = some false := by decide +kernel
theorem k_list_tuple : kitB "list" "tuple" = some false := by decide +kernel
theorem k_list_list : kitB "list" "list" = some true := by decide +kernel
theorem k_list_int : kitB "list" "int" = some false := by decide +kernel
theorem k_list_bool : kitB "list" "bool" = some false := by decide +kernel
theorem k_list_dict : kitB "list" "dict" = some false := by decide +kernel
theorem k_dict_str : kitB "dict" "str" = some false := by decide +kernel
theorem k_dict_tuple : kitB "dict" "tuple" = some false := by decide +kernel
theorem k_dict_list : kitB "dict" "list" = some false := by decide +kernel
theorem k_dict_int : kitB "dict" "int" = some false := by decide +kernel
theorem k_dict_bool : kitB "dict" "bool" = some false := by decide +kernel
theorem k_dict_dict : kitB "dict" "dict" = some true := by decide +kernel
def WB (d : DV) (Q : Bool → Prop) (_ : Tg Q := ⟨⟩) : Prop := match d with
  | .val (.bl b) => Q b
  | _ => False
theorem b_val (b : Bool) (Q : Bool → Prop) : WB (.val (.bl b)) Q = Q b := rfl
theorem w_ite {α : Type} (q : Prop) [Decidable q] (x y : Res α) (Q : α → S → Prop) : WP (if q then x else y) Q = if q then WP x Q else WP y Q := by split <;> rfl
theorem w_mT (Q : Bool → S → Prop) : WP (mT a s) Q = WP (a s) fun d s1 => WB d fun k => Q k s1 := by
  unfold mT
  rw [wp_bind]
  refine WP_ext fun d s1 => ?_
  unfold WB
  cases d with
  | val t => cases t <;> rfl
  | _ => rfl
theorem w_bAnd (x y : S → Res Bool) (Q : Bool → S → Prop) : WP (bAnd x y s) Q = WP (x s) fun k s1 => if k then WP (y s1) Q else Q false s1 := by
  unfold bAnd
  rw [wp_bind]
  refine WP_ext fun k s1 => ?_
  cases k <;> rfl
theorem w_bOr (x y : S → Res Bool) (Q : Bool → S → Prop) : WP (bOr x y s) Q = WP (x s) fun k s1 => if k then Q true s1 else WP (y s1) Q := by
  unfold bOr
  rw [wp_bind]
  refine WP_ext fun k s1 => ?_
  cases k <;> rfl
theorem w_bNot (x : S → Res Bool) (Q : Bool → S → Prop) : WP (bNot x s) Q = WP (x s) fun k s1 => Q (!k) s1 := by
  unfold bNot
  rw [wp_bind]
  rfl
theorem w_bYes (Q : Bool → S → Prop) : WP (bYes s) Q = Q true s := rfl
theorem w_and : WP (mAnd a b s) Q = WP (a s) fun d s1 => WB d fun k => if k then WP (b s1) Q else Q (.val (.bl false)) s1 := by
  unfold mAnd
  rw [wp_bind]
  refine WP_ext fun d s1 => ?_
  unfold WB
  cases d with
  | val t => cases t with
    | bl k => cases k <;> rfl
    | _ => rfl
  | _ => rfl
theorem w_or : WP (mOr a b s) Q = WP (a s) fun d s1 => WB d fun k => if k then Q (.val (.bl true)) s1 else WP (b s1) Q := by
  unfold mOr
  rw [wp_bind]
  refine WP_ext fun d s1 => ?_
  unfold WB
  cases d with
  | val t => cases t with
    | bl k => cases k <;> rfl
    | _ => rfl
  | _ => rfl
theorem w_not : WP (mNot a s) Q = WP (a s) fun d s1 => WB d fun k => Q (.val (.bl (!k))) s1 := by
  unfold mNot
  rw [wp_bind]
  refine WP_ext fun d s1 => ?_
  unfold WB
  cases d with
  | val t => cases t <;> rfl
  | _ => rfl
theorem w_if (x : S → Res Bool) : WP (mIf x a b s) Q = WP (x s) fun k s1 => if k then WP (a s1) Q else WP (b s1) Q := by
  unfold mIf
  rw [wp_bind]
  refine WP_ext fun k s1 => ?_
  cases k <;> rfl
theorem w_ch (g g' : T → T → Option DV) : WP (mCh g g' a b c s) Q = WP (a s) fun d s1 => WP (b s1) fun e s2 => WPO (rd s2 (dz d)) fun x => WPO (rd s2 (dz e)) fun y => WPO (g x y) fun r => WB r fun k => if k then WP (c s2) fun h s3 => WPO (rd s3 (dz e)) fun y' => WPO (rd s3 (dz h)) fun z => WPO (g' y' z) fun r => Q r s3
    else Q (.val (.bl false)) s2 := by
  unfold mCh
  rw [wp_bind]
  refine WP_ext fun d s1 => ?_
  rw [wp_bind]
  refine WP_ext fun e s2 => ?_
  cases rd s2 (dz d) with
  | none => rfl
  | some x => cases rd s2 (dz e) with
    | none => rfl
    | some y =>
      simp only [WPO]
      cases g x y with
      | none => rfl
      | some r =>
        simp only [WB]
        cases r with
        | val t => cases t with
          | bl k =>
            cases k with
            | false => rfl
            | true =>
              simp only [if_true]
              rw [wp_bind]
              refine WP_ext fun h s3 => ?_
              cases rd s3 (dz e) with
              | none => rfl
              | some y' => cases rd s3 (dz h) with
                | none => rfl
                | some z => exact wp_gr _ _ _
          | _ => rfl
        | _ => rfl
theorem w_pt0 (Q : Option Int → S → Prop) : WP (mPt none s) Q = Q none s := rfl
theorem w_pt1 (Q : Option Int → S → Prop) : WP (mPt (some a) s) Q = WP (a s) fun d s1 => match d with
    | .val (.int i) => Q (some i) s1
    | _ => False := by
  rw [show mPt (some a) s = (a s).bind fun d s1 => match d with
    | .val (.int i) => .ok (some i) s1
    | _ => .bad from rfl, wp_bind]
  refine WP_ext fun d s1 => ?_
  cases d with
  | val t => cases t <;> rfl
  | _ => rfl
theorem w_slc (lo hi : Option M) : WP (mSlc a lo hi s) Q = WP (a s) fun d s1 => WP (mPt lo s1) fun l s2 => WP (mPt hi s2) fun h s3 => WPO (rd s3 (dz d)) fun t => WPO (gSlc t l h) fun r => Q r s3 := by
  unfold mSlc
  rw [wp_bind]
  refine WP_ext fun d s1 => ?_
  rw [wp_bind]
  refine WP_ext fun l s2 => ?_
  rw [wp_bind]
  refine WP_ext fun h s3 => ?_
  cases rd s3 (dz d) with
  | none => rfl
  | some t => exact wp_gr _ _ _
theorem w_call (f : FS) : WP (mCall f ms s) Q = WP (evs ms s) fun ds s1 => WPO (argVs s1 ds) fun as => WP (backR s1 (f as s1.ce)) Q := by
  unfold mCall
  rw [wp_bind]
  refine WP_ext fun ds s1 => ?_
  cases argVs s1 ds <;> rfl
theorem w_meth (g : List T → List T → Option (T × List T)) : WP (mMeth g a ms s) Q = WP (a s) fun d s1 => if ((rd s1 (dz d)).map isL) = some true then WP (evs ms s1) fun ds s2 => WPO (methS g d ds s2) fun p => Q (.val p.1) p.2 else False := by
  unfold mMeth
  rw [wp_bind]
  refine WP_ext fun d s1 => ?_
  split
  · rw [wp_bind]
    exact WP_ext fun ds s2 => wp_optV _ _
  · rfl
theorem w_itr (Q : List T → S → Prop) : WP (mItr a s) Q = WP (a s) fun d s1 => match d with
    | .bor t => WPO (itemsOf t) fun its => Q its s1
    | d => WPO (tk (dz d) s1) fun p => WPO (itemsOf p.1) fun its => Q its p.2 := by
  unfold mItr
  rw [wp_bind]
  refine WP_ext fun d s1 => ?_
  have gen : ∀ d, WP (match tk (dz d) s1 with
    | some (t, s2) => (match itemsOf t with
      | some its => (.ok its s2 : Res (List T))
      | none => .bad)
    | none => .bad) Q = WPO (tk (dz d) s1) fun p => WPO (itemsOf p.1) fun its => Q its p.2 := fun d => by
    cases tk (dz d) s1 with
    | none => rfl
    | some p => obtain ⟨t, s2⟩ := p; simp only [WPO]; cases itemsOf t <;> rfl
  cases d with
  | bor t => simp only; cases itemsOf t <;> rfl
  | val t => exact gen (.val t)
  | new t => exact gen (.new t)
  | ali i => exact gen (.ali i)
theorem w_rng1 (Q : List T → S → Prop) : WP (mRng1 ms s) Q = WP (evs ms s) fun ds s1 => WP (match ds with
    | [.val (.int j)] => if small j then .ok (rangeT 0 j.toNat) s1 else .bad
    | _ => .bad) Q := by
  unfold mRng1
  rw [wp_bind]
  all_goals exact WP_ext fun ds s1 => rfl
theorem w_rng2 (Q : List T → S → Prop) : WP (mRng2 ms s) Q = WP (evs ms s) fun ds s1 => WP (match ds with
    | [.val (.int i), .val (.int j)] => if small i && small j then .ok (rangeT i (j - i).toNat) s1 else .bad
    | _ => .bad) Q := by
  unfold mRng2
  rw [wp_bind]
  all_goals exact WP_ext fun ds s1 => rfl
theorem w_rng3 (Q : List T → S → Prop) : WP (mRng3 ms s) Q = WP (evs ms s) fun ds s1 => WP (match ds with
    | [.val (.int i), .val (.int j), .val (.int k)] => if small i && small j && k == -1 then .ok (rangeTC i (-1) (i - j).toNat) s1 else .bad
    | _ => .bad) Q := by
  unfold mRng3
  rw [wp_bind]
  all_goals exact WP_ext fun ds s1 => rfl
theorem w_enum (Q : List T → S → Prop) : WP (mEnum ms s) Q = WP (evs ms s) fun ds s1 => match ds with
    | [d] => WPO (lk d s1) fun p => WPO (seqOf p.1) fun ts => Q (enumT ts) p.2
    | _ => False := by
  unfold mEnum
  rw [wp_bind]
  refine WP_ext fun ds s1 => ?_
  match ds with
  | [] => rfl
  | [d] =>
    simp only
    cases lk d s1 with
    | none => rfl
    | some p => obtain ⟨t, s2⟩ := p; simp only [WPO]; cases seqOf t <;> rfl
  | _ :: _ :: _ => rfl
theorem w_zip (Q : List T → S → Prop) : WP (mZip ms s) Q = WP (evs ms s) fun ds s1 => match ds with
    | [d, e] => WPO (lk d s1) fun p => WPO (lk e p.2) fun q => WPO (seqOf p.1) fun ts => WPO (seqOf q.1) fun us => Q (zipT ts us) q.2
    | _ => False := by
  unfold mZip
  rw [wp_bind]
  refine WP_ext fun ds s1 => ?_
  match ds with
  | [] => rfl
  | [_] => rfl
  | [d, e] =>
    simp only
    cases lk d s1 with
    | none => rfl
    | some p =>
      obtain ⟨t, s2⟩ := p
      simp only [WPO]
      cases lk e s2 with
      | none => rfl
      | some q =>
        obtain ⟨u, s3⟩ := q
        simp only
        cases seqOf t with
        | none => rfl
        | some ts => cases seqOf u <;> rfl
  | _ :: _ :: _ :: _ => rfl
end
theorem z_val (t : T) : dz (.val t) = .val t := rfl
theorem z_new (t : T) : dz (.new t) = .val t := rfl
theorem z_bor (t : T) : dz (.bor t) = .bor t := rfl
theorem z_ali (i : Nat) : dz (.ali i) = .ali i := rfl
section
variable {s : S}
theorem r_non : rd s (.val .non) = some .non := rfl
theorem r_bl (b : Bool) : rd s (.val (.bl b)) = some (.bl b) := rfl
theorem r_int (b : Int) : rd s (.val (.int b)) = some (.int b) := rfl
theorem r_str (b : List Nat) : rd s (.val (.str b)) = some (.str b) := rfl
theorem r_tup (b : List T) : rd s (.val (.tup b)) = some (.tup b) := rfl
theorem r_lst (b : List T) : rd s (.val (.lst b)) = some (.lst b) := rfl
theorem r_dk (k : List Key) (b : List T) : rd s (.val (.dk k b)) = some (.dk k b) := rfl
theorem r_dt (k : List (List Key)) (b : List T) : rd s (.val (.dt k b)) = some (.dt k b) := rfl
theorem r_ktup (b : List T) : rd s (.val (.ktup b)) = some (.ktup b) := rfl
theorem r_scr (b : List Int) : rd s (.val (.scr b)) = some (.scr b) := rfl
theorem r_glo (n : Nat) : rd s (.val (.glo n)) = s.ce[n]? := rfl
theorem r_bor (t : T) : rd s (.bor t) = some t := rfl
theorem r_new (t : T) : rd s (.new t) = some t := rfl
theorem r_ali (i : Nat) : rd s (.ali i) = match s.sl[i]? with
    | some (.own t) => some t
    | some (.val (.glo n)) => s.ce[n]?
    | some (.val t) => some t
    | _ => none := rfl
theorem t_val (t : T) : tk (.val t) s = some (t, s) := rfl
theorem t_new (t : T) : tk (.new t) s = some (t, s) := rfl
theorem t_bor (t : T) : tk (.bor t) s = none := rfl
theorem t_ali (i : Nat) : tk (.ali i) s = match s.sl[i]? with
    | some (.own t) => some (t, { s with sl := s.sl.set i (.val t) })
    | some (.val t) => some (t, s)
    | _ => none := rfl
theorem g_val (i : Nat) (t : T) : asg i (.val t) s = some { s with sl := s.sl.set i (.val t) } := rfl
theorem g_bor (i : Nat) (t : T) : asg i (.bor t) s = some { s with sl := s.sl.set i (.bor t) } := rfl
theorem g_new (i : Nat) (t : T) : asg i (.new t) s = some { s with sl := s.sl.set i (.own t) } := rfl
theorem g_ali (i j : Nat) : asg i (.ali j) s = match tk (.ali j) s with
    | some (t, s') => some { s' with sl := s'.sl.set i (.val t) }
    | none => none := rfl
theorem a_val (t : T) : argV s (.val t) = some (.val t) := rfl
theorem a_bor (t : T) : argV s (.bor t) = some (.bor t) := rfl
theorem a_ali (i : Nat) : argV s (.ali i) = match s.sl[i]? with
    | some (.own t) => some (.bor t)
    | some (.val t) => some (.val t)
    | _ => none := rfl
theorem o_args0 (Q : List DV → Prop) : WPO (argVs s []) Q = Q [] := rfl
theorem o_args1 (d : DV) (ds : List DV) (Q : List DV → Prop) : WPO (argVs s (d :: ds)) Q = WPO (argV s d) fun a => WPO (argVs s ds) fun as => Q (a :: as) := by
  unfold argVs
  cases argV s d with
  | none => rfl
  | some a => cases argVs s ds <;> rfl
theorem l_val (t : T) : lk (.val t) s = some (t, s) := rfl
theorem l_bor (t : T) : lk (.bor t) s = some (t, s) := rfl
theorem l_ali (i : Nat) : lk (.ali i) s = tk (.ali i) s := rfl
end
section
variable {Q : Out → S → Prop} {s : S} {a o i e : M} {m1 m2 : MS}
theorem s_seq : WP (mSeq m1 m2 s) Q = WP (m1 s) fun r s1 => WP (thenS m2 r s1) Q := by
  unfold mSeq
  rw [wp_bind]
theorem s_nx : WP (thenS m2 .nx s) Q = WP (m2 s) Q := rfl
theorem s_rt (d : DV) : WP (thenS m2 (.rt d) s) Q = Q (.rt d) s := rfl
theorem s_bk : WP (thenS m2 .bk s) Q = Q .bk s := rfl
theorem s_ct : WP (thenS m2 .ct s) Q = Q .ct s := rfl
theorem s_pass : WP (mPass s) Q = Q .nx s := rfl
theorem s_brk : WP (mBrk s) Q = Q .bk s := rfl
theorem s_cnt : WP (mCnt s) Q = Q .ct s := rfl
theorem s_if (x : S → Res Bool) : WP (mIfS x m1 m2 s) Q = WP (x s) fun k s1 => if k then WP (m1 s1) Q else WP (m2 s1) Q := by
  unfold mIfS
  rw [wp_bind]
  refine WP_ext fun k s1 => ?_
  cases k <;> rfl
theorem s_asg (j : Nat) : WP (mAsg j a s) Q = WP (a s) fun d s1 => WPO (asg j d s1) fun s2 => Q .nx s2 := by
  unfold mAsg
  rw [wp_bind]
  exact WP_ext fun d s1 => wp_optS _ _
theorem s_drop : WP (mDrop a s) Q = WP (a s) fun _ s1 => Q .nx s1 := by
  unfold mDrop
  rw [wp_bind]
  rfl
theorem s_ret : WP (mRet a s) Q = WP (a s) fun d s1 => match d with
    | .ali j => (match s1.sl[j]? with
      | some (.own t) => Q (.rt (.new t)) { s1 with sl := s1.sl.set j .no }
      | some (.val t) => Q (.rt (.val t)) s1
      | _ => False)
    | .bor _ => False
    | .val t => Q (.rt (.val t)) s1
    | .new t => Q (.rt (.new t)) s1 := by
  unfold mRet
  rw [wp_bind]
  refine WP_ext fun d s1 => ?_
  cases d with
  | ali j =>
    simp only
    cases s1.sl[j]? with
    | none => rfl
    | some x => cases x <;> rfl
  | _ => rfl
theorem s_retN : WP (mRetN s) Q = Q (.rt (.val .non)) s := rfl
theorem s_asgT (f : T → S → Option S) : WP (mAsgT f a s) Q = WP (a s) fun d s1 => WPO (tk (dz d) s1) fun p => WPO (f p.1 p.2) fun s2 => Q .nx s2 := by
  unfold mAsgT
  rw [wp_bind]
  refine WP_ext fun d s1 => ?_
  cases tk (dz d) s1 with
  | none => rfl
  | some p => exact wp_optS _ _
theorem s_sub : WP (mSub o i e s) Q = WP (e s) fun d s1 => WPO (tk (dz d) s1) fun p => WP (o p.2) fun d1 s3 => WP (i s3) fun d2 s4 => WPO (subS p.1 d1 d2 s4) fun s5 => Q .nx s5 := by
  unfold mSub
  rw [wp_bind]
  refine WP_ext fun d s1 => ?_
  cases tk (dz d) s1 with
  | none => rfl
  | some p =>
    simp only [WPO]
    rw [wp_bind]
    refine WP_ext fun d1 s3 => ?_
    rw [wp_bind]
    exact WP_ext fun d2 s4 => wp_optS _ _
theorem s_box (j : Nat) : WP (mBox j a s) Q = WP (a s) fun d s1 => match d with
    | .new t => Q .nx ⟨s1.sl.set j (.val (.glo s1.ce.length)), s1.ce ++ [t]⟩
    | d => WPO (asg j d s1) fun s2 => Q .nx s2 := by
  unfold mBox
  rw [wp_bind]
  refine WP_ext fun d s1 => ?_
  cases d with
  | new t => rfl
  | _ => exact wp_optS _ _
theorem s_for (src : S → Res (List T)) (f : T → S → Option S) (b : MS) : WP (mFor src f b s) Q = WP (src s) fun its s1 => WP (forL f b its s1) Q := by
  unfold mFor
  rw [wp_bind]
end
end Vi

set_option Elab.async false
set_option linter.all false
set_option maxRecDepth 100000
namespace Vi
open PySem PySem.Spec PyProof.Rows L2

/-! ### plain: equality, membership -/
theorem str_beq (x y : List Nat) : ((⟨x.toArray⟩ : Str) == ⟨y.toArray⟩) = decide (x = y) := by
  by_cases h : x = y
  · subst h; simp
  · rw [decide_eq_false h]
    refine beq_eq_false_iff_ne.mpr fun e => h ?_
    have e1 : x.toArray = y.toArray := congrArg Str.cps e
    simpa using e1
theorem eqT_str (ce : List T) (x y : List Nat) : eqT ce (.str x) (.str y) = some (decide (x = y)) := by
  simp [eqT, dat, PyData.eqv, str_beq]
theorem eqT_int (ce : List T) (i j : Int) : eqT ce (.int i) (.int j) = some (decide (i = j)) := by
  simp only [eqT, dat, PyData.eqv]
  rfl
theorem eqT_bl (ce : List T) (i j : Bool) : eqT ce (.bl i) (.bl j) = some (i == j) := by
  simp [eqT, dat, PyData.eqv]
theorem gEq_str (ce : List T) (x y : List Nat) : gEq ce (.str x) (.str y) = some (.val (.bl (decide (x = y)))) := by simp [gEq, eqT_str]
theorem gNe_str (ce : List T) (x y : List Nat) : gNe ce (.str x) (.str y) = some (.val (.bl (!decide (x = y)))) := by simp [gNe, eqT_str]
theorem gEq_int (ce : List T) (x y : Int) : gEq ce (.int x) (.int y) = some (.val (.bl (decide (x = y)))) := by simp [gEq, eqT_int]
theorem gNe_int (ce : List T) (x y : Int) : gNe ce (.int x) (.int y) = some (.val (.bl (!decide (x = y)))) := by simp [gNe, eqT_int]
theorem gEq_bl (ce : List T) (x y : Bool) : gEq ce (.bl x) (.bl y) = some (.val (.bl (x == y))) := by simp [gEq, eqT_bl]
theorem gIn_sign (ce : List T) (c : Nat) (z : List Nat) : gIn ce (.str [c]) (.str z) = some (.val (.bl (decide (c ∈ z)))) := rfl
theorem gNotIn_sign (ce : List T) (c : Nat) (z : List Nat) : gNotIn ce (.str [c]) (.str z) = some (.val (.bl (!decide (c ∈ z)))) := rfl
theorem gIn_ktup2 (ce : List T) (x a b : List Nat) : gIn ce (.str x) (.ktup [.str a, .str b]) = some (.val (.bl (decide (a = x) || decide (b = x)))) := by
  simp [gIn, inT, dat, allSome, PyData.eqv, str_beq]
theorem lt_one (a b : Nat) : decide ([a] < [b]) = decide (a < b) := by
  have : [a] < [b] ↔ a < b := by
    rw [List.cons_lt_cons_iff]
    constructor
    · rintro (h | ⟨_, h⟩)
      · exact h
      · exact absurd h (by simp)
    · exact fun h => .inl h
  simp only [this]
theorem ix_str (x : List Nat) (i : Int) : gIx (.str x) (.int i) = if x.length ≤ line then (atI x i).map fun c => .val (.str [c]) else none := rfl
theorem ix_lst (x : List T) (i : Int) : gIx (.lst x) (.int i) = (atI x i).map .val := rfl
theorem ix_tup (x : List T) (i : Int) : gIx (.tup x) (.int i) = (atI x i).map .val := rfl
theorem ix_ktup (x : List T) (i : Int) : gIx (.ktup x) (.int i) = (atI x i).map .val := rfl
theorem ix_scr (x : List Int) (i : Int) : gIx (.scr x) (.int i) = (atI x i).map fun n => .val (.int n) := rfl
theorem atI_0 {α : Type} {x : List α} {c : α} {r : List α} (h : x = c :: r) : atI x 0 = some c := by subst h; simp [atI, ixN]
theorem slc_1 {x : List Nat} {c : Nat} {r : List Nat} (hx : x = c :: r) (h : x.length ≤ line) : gSlc (.str x) (some 1) none = some (.val (.str r)) := by
  subst hx
  simp only [gSlc, h, if_true, cutL, HT.sIx]
  have e1 : ¬ ((1 : Int) < 0) := by omega
  have e2 : min (1 : Int).toNat (c :: r).length = 1 := by simp
  rw [if_neg e1, e2]
  simp
theorem at_c0 {α : Type} (a : α) (l : List α) : atI (a :: l) 0 = some a := by
  have h : ((0 : Int) < ((a :: l).length : Nat)) := by simp only [List.length_cons]; omega
  simp only [atI, ixN, h, if_true]
  simp
theorem at_c1 {α : Type} (a b : α) (l : List α) : atI (a :: b :: l) 1 = some b := by
  have h : ((1 : Int) < ((a :: b :: l).length : Nat)) := by simp only [List.length_cons]; omega
  simp only [atI, ixN, h, if_true]
  simp
theorem at_c2 {α : Type} (a b c : α) (l : List α) : atI (a :: b :: c :: l) 2 = some c := by
  have h : ((2 : Int) < ((a :: b :: c :: l).length : Nat)) := by simp only [List.length_cons]; omega
  simp only [atI, ixN, h, if_true]
  simp
theorem at_c3 {α : Type} (a b c d : α) (l : List α) : atI (a :: b :: c :: d :: l) 3 = some d := by
  have h : ((3 : Int) < ((a :: b :: c :: d :: l).length : Nat)) := by simp only [List.length_cons]; omega
  simp only [atI, ixN, h, if_true]
  simp
theorem at_c4 {α : Type} (a b c d e : α) (l : List α) : atI (a :: b :: c :: d :: e :: l) 4 = some e := by
  have h : ((4 : Int) < ((a :: b :: c :: d :: e :: l).length : Nat)) := by simp only [List.length_cons]; omega
  simp only [atI, ixN, h, if_true]
  simp
theorem at_c5 {α : Type} (a b c d e f : α) (l : List α) : atI (a :: b :: c :: d :: e :: f :: l) 5 = some f := by
  have h : ((5 : Int) < ((a :: b :: c :: d :: e :: f :: l).length : Nat)) := by simp only [List.length_cons]; omega
  simp only [atI, ixN, h, if_true]
  simp
theorem at_some {α : Type} {l : List α} {i : Int} (h0 : 0 ≤ i) (h1 : i < l.length) : ∃ a ∈ l, atI l i = some a := by
  have hl : i.toNat < l.length := by omega
  refine ⟨l[i.toNat], List.getElem_mem _, ?_⟩
  simp only [atI, ixN, h0, h1, if_true]
  simp [hl]
theorem ix_30 : ixN 3 0 = some 0 := rfl
theorem ix_31 : ixN 3 1 = some 1 := rfl
theorem ix_32 : ixN 3 2 = some 2 := rfl
theorem x_strI (i : Int) : gStrI [.int i] = if 0 ≤ i ∧ i < 1267650600228229401496703205376 then some (.val (.str (TL.numL i.toNat))) else none := by
  simp only [gStrI, gStr]
  rfl
theorem p10_1 : gPow (.int 10) (.int 1) = some (.val (.int 10)) := rfl
theorem p10_2 : gPow (.int 10) (.int 2) = some (.val (.int 100)) := rfl
theorem p10_3 : gPow (.int 10) (.int 3) = some (.val (.int 1000)) := rfl
theorem p10_4 : gPow (.int 10) (.int 4) = some (.val (.int 10000)) := rfl
theorem p10_5 : gPow (.int 10) (.int 5) = some (.val (.int 100000)) := rfl
theorem p10_6 : gPow (.int 10) (.int 6) = some (.val (.int 1000000)) := rfl
theorem p10_7 : gPow (.int 10) (.int 7) = some (.val (.int 10000000)) := rfl
theorem p10_8 : gPow (.int 10) (.int 8) = some (.val (.int 100000000)) := rfl
theorem p10_9 : gPow (.int 10) (.int 9) = some (.val (.int 1000000000)) := rfl
theorem p10_10 : gPow (.int 10) (.int 10) = some (.val (.int 10000000000)) := rfl
theorem p10_11 : gPow (.int 10) (.int 11) = some (.val (.int 100000000000)) := rfl
theorem p10_12 : gPow (.int 10) (.int 12) = some (.val (.int 1000000000000)) := rfl
theorem p10_13 : gPow (.int 10) (.int 13) = some (.val (.int 10000000000000)) := rfl
theorem p10_14 : gPow (.int 10) (.int 14) = some (.val (.int 100000000000000)) := rfl
theorem p10_15 : gPow (.int 10) (.int 15) = some (.val (.int 1000000000000000)) := rfl
theorem p10_16 : gPow (.int 10) (.int 16) = some (.val (.int 10000000000000000)) := rfl
theorem p10_17 : gPow (.int 10) (.int 17) = some (.val (.int 100000000000000000)) := rfl
theorem p10_18 : gPow (.int 10) (.int 18) = some (.val (.int 1000000000000000000)) := rfl
/-- lists of texts -/
theorem allSome_map {α β : Type} (f : α → Option β) (g : α → β) : ∀ (l : List α), (∀ a ∈ l, f a = some (g a)) → allSome (l.map f) = some (l.map g)
  | [], _ => rfl
  | a :: l, h => by
    simp only [List.map_cons, h a (by simp), allSome, allSome_map f g l fun b hb => h b (List.mem_cons_of_mem _ hb), Option.map_some]
theorem allSome_inv {α β : Type} {f : α → Option β} : ∀ {l : List α} {ds : List β}, allSome (l.map f) = some ds → ds.length = l.length
  | [], ds, h => by cases h; rfl
  | a :: l, ds, h => by
    simp only [List.map_cons] at h
    cases e : f a with
    | none => rw [e] at h; cases h
    | some b =>
      rw [e] at h
      obtain ⟨ds', h', rfl⟩ := Option.map_eq_some_iff.mp h
      simp [allSome_inv h']
/-- what can be compared -/
def Dt (ce : List T) (t : T) : Prop := (dat ce 40 t).isSome = true
def DtA (ce : List T) (ts : List T) : Prop := (allSome (ts.map (dat ce 39))).isSome = true
theorem eqT_lst_nil {ce : List T} {ts : List T} (h : DtA ce ts) : eqT ce (.lst ts) (.lst []) = some ts.isEmpty := by
  unfold DtA at h
  obtain ⟨ds, e⟩ := Option.isSome_iff_exists.mp h
  have hl := allSome_inv e
  simp only [eqT, dat, e, Option.map_some, List.map_nil, allSome]
  cases ts with
  | nil => cases ds with
    | nil => simp [PyData.eqv, PyData.eqvAll]
    | cons => simp at hl
  | cons => cases ds with
    | nil => simp at hl
    | cons => simp [PyData.eqv, PyData.eqvAll]
theorem gEq_nil {ce : List T} {ts : List T} (h : DtA ce ts) : gEq ce (.lst ts) (.lst []) = some (.val (.bl ts.isEmpty)) := by simp [gEq, eqT_lst_nil h]
theorem gNe_nil {ce : List T} {ts : List T} (h : DtA ce ts) : gNe ce (.lst ts) (.lst []) = some (.val (.bl (!ts.isEmpty))) := by simp [gNe, eqT_lst_nil h]
theorem dtA_strs (ce : List T) (xs : List (List Nat)) : DtA ce (xs.map T.str) := by
  unfold DtA
  rw [List.map_map, allSome_map _ (fun x => PyData.str ⟨x.toArray⟩) xs fun a _ => by simp [Function.comp, dat]]
  rfl
theorem chars_strs (x : List Nat) : chars x = (x.map fun c => [c]).map T.str := by simp [chars, List.map_map, Function.comp_def]
theorem eqT_ints (ce : List T) (xs ys : List Int) : eqT ce (.lst (xs.map T.int)) (.lst (ys.map T.int)) = some (decide (xs = ys)) := by
  have e : ∀ l : List Int, allSome ((l.map T.int).map (dat ce 39)) = some (l.map PyData.int) := fun l => by
    rw [List.map_map, allSome_map _ PyData.int l fun a _ => by simp [Function.comp, dat]]
  simp only [eqT, dat, e, Option.map_some]
  congr 1
  rw [PyData.eqv]
  induction xs generalizing ys with
  | nil => cases ys <;> simp [PyData.eqvAll]
  | cons x xs ih => cases ys with
    | nil => simp [PyData.eqvAll]
    | cons y ys =>
      simp only [List.map_cons, PyData.eqvAll, PyData.eqv, ih, List.cons.injEq, Bool.decide_and]
      rfl
theorem eqT_bls (ce : List T) (xs ys : List Bool) : eqT ce (.lst (xs.map T.bl)) (.lst (ys.map T.bl)) = some (decide (xs = ys)) := by
  have e : ∀ l : List Bool, allSome ((l.map T.bl).map (dat ce 39)) = some (l.map PyData.bool) := fun l => by
    rw [List.map_map, allSome_map _ PyData.bool l fun a _ => by simp [Function.comp, dat]]
  simp only [eqT, dat, e, Option.map_some]
  congr 1
  rw [PyData.eqv]
  induction xs generalizing ys with
  | nil => cases ys <;> simp [PyData.eqvAll]
  | cons x xs ih => cases ys with
    | nil => simp [PyData.eqvAll]
    | cons y ys =>
      simp only [List.map_cons, PyData.eqvAll, PyData.eqv, ih, List.cons.injEq, Bool.decide_and]
      cases x <;> cases y <;> rfl
/-- a comprehension of bools, all -/
theorem boolsT_bls : ∀ bs : List Bool, boolsT (bs.map T.bl) = some bs
  | [] => rfl
  | b :: bs => by simp [boolsT, boolsT_bls bs]
theorem gAll_bls (bs : List Bool) : gAll [.lst (bs.map T.bl)] = some (.val (.bl (bs.all id))) := by simp [gAll, boolsT_bls]
theorem filterMap_some {α β : Type} (f : α → β) (l : List α) : l.filterMap (fun a => some (f a)) = l.map f := by simp
/-- [e for x in ..] of bools over signs, all -/
theorem all_map (p : Nat → Bool) (x : List Nat) : ((x.map fun c => p c).all id) = x.all p := by
  induction x <;> simp_all
theorem mul_int (i j : Int) : gMul (.int i) (.int j) = if -18446744073709551616 < i ∧ i < 18446744073709551616 then some (.val (.int (i * j))) else none := rfl
/-! ### comprehensions that draw -/
theorem compL_ix {vs : List Nat} {f : T → S → Option S} {mi : S → Res Bool} {me : M} {I : Nat → List T → S → Prop} : ∀ (its : List T) (i : Nat) (acc : List T) (s : S), I i acc s →
    (∀ k t acc s, its[k]? = some t → I (i + k) acc s → WP (stepC vs f mi me t acc s) fun acc' s' => I (i + k + 1) acc' s') → WP (compL vs f mi me its acc s) fun acc' s' => I (i + its.length) acc' s'
  | [], i, acc, s, h0, _ => h0
  | t :: ts, i, acc, s, h0, hs => by
    unfold compL
    rw [wp_bind]
    refine (hs 0 t acc s rfl h0).mono fun acc' s' h => ?_
    have := compL_ix (I := I) ts (i + 1) acc' s' h fun k u acc s hk hI => by
      have := hs (k + 1) u acc s (by simpa using hk) (by rw [show i + (k + 1) = i + 1 + k by omega]; exact hI)
      rw [show i + 1 + k + 1 = i + (k + 1) + 1 by omega]
      exact this
    simp only [List.length_cons]
    rw [show i + (ts.length + 1) = i + 1 + ts.length by omega]
    exact this
theorem wp_compC {vs : List Nat} {src : S → Res (List T)} {f : T → S → Option S} {mi : S → Res Bool} {me : M} {s : S} {Q : DV → S → Prop} (J : Nat → List T → List T → Prop)
    (h : WP (src s) fun its s1 => J 0 [] s1.ce ∧ (∀ k t acc ce, its[k]? = some t → J k acc ce → WP (stepC vs f mi me t acc ⟨wipeL s1.sl vs, ce⟩) fun acc' s' => s'.sl = wipeL s1.sl vs ∧ J (k + 1) acc' s'.ce) ∧
      ∀ acc ce, J its.length acc ce → Q (.new (.lst acc)) ⟨restL s1.sl (wipeL s1.sl vs) vs, ce⟩) : WP (mComp vs src f mi me s) Q := by
  obtain ⟨its, s1, e, h0, hs, hq⟩ := h.ex
  unfold mComp
  rw [wp_bind, e, wp_ok, wp_bind]
  refine WP.mono (compL_ix (I := fun i acc s => s.sl = wipeL s1.sl vs ∧ J i acc s.ce) its 0 [] (wipeS vs s1) ⟨rfl, h0⟩ fun k t acc s hk ⟨e1, hJ⟩ => ?_) fun acc s2 ⟨e1, hJ⟩ => ?_
  · obtain ⟨sl, ce⟩ := s
    simp only at e1
    subst e1
    rw [Nat.zero_add] at hJ
    have := hs k t acc ce hk hJ
    rw [Nat.zero_add]
    exact this
  · obtain ⟨sl, ce⟩ := s2
    simp only at e1
    subst e1
    rw [Nat.zero_add] at hJ
    exact hq acc ce hJ
/-! ### comprehensions over the signs of a text -/
def chB (p : Nat → Bool) : T → Option T
  | .str [c] => some (.bl (p c))
  | _ => none
def chF (p : Nat → Bool) : T → Option T
  | .str [c] => if p c then some (.str [c]) else none
  | _ => none
theorem fm_chB (p : Nat → Bool) (x : List Nat) : (chars x).filterMap (chB p) = (x.map p).map T.bl := by
  induction x with
  | nil => rfl
  | cons c x ih =>
    simp only [chars, List.map_cons] at ih ⊢
    rw [List.filterMap_cons]
    simp only [chB]
    rw [ih]
theorem fm_chF (p : Nat → Bool) (x : List Nat) : (chars x).filterMap (chF p) = chars (x.filter p) := by
  induction x with
  | nil => rfl
  | cons c x ih =>
    simp only [chars, List.map_cons] at ih ⊢
    rw [List.filterMap_cons, List.filter_cons]
    simp only [chF]
    cases p c <;> simp [ih]
theorem chars_mem {x : List Nat} {t : T} (h : t ∈ chars x) : ∃ c ∈ x, t = .str [c] := by
  obtain ⟨c, h1, h2⟩ := List.mem_map.mp h
  exact ⟨c, h1, h2.symm⟩
theorem chars_len (x : List Nat) : (chars x).length = x.length := by simp [chars]
theorem all_id (p : Nat → Bool) (x : List Nat) : (x.map p).all id = x.all p := by
  induction x <;> simp_all
end Vi

set_option Elab.async false
set_option linter.all false
set_option maxRecDepth 100000
set_option maxHeartbeats 4000000
namespace Vi
open PySem PySem.Spec PyProof.Rows L2
abbrev top (i : Nat) : Stmt := PySem.Challenge.pw_tongueshelf_k07_whole_none_is_cheaper.main.body.getD i (.Pass ⟨0, 0, 0, 0⟩)

def excN : Nat → Str
  | 0 => "TongueError"
  | 1 => "NoSentence"
  | _ => ""
def cvE (K : PySem.W.Frag) : CV := fun c => .ref (He.ga K (excN c))
structure Fx (K : PySem.W.Frag) (mg : Str → Option Value) : Prop where
  b_all : mg "all" = none
  b_enumerate : mg "enumerate" = none
  b_isinstance : mg "isinstance" = none
  b_len : mg "len" = none
  b_list : mg "list" = none
  b_max : mg "max" = none
  b_min : mg "min" = none
  b_ord : mg "ord" = none
  b_range : mg "range" = none
  b_sorted : mg "sorted" = none
  b_str : mg "str" = none
  b_tuple : mg "tuple" = none
  b_zip : mg "zip" = none
  c_BARRED : ∃ u, mg "BARRED" = some u ∧ RelV (.ref (He.ga K "BARRED")) u
  t_BARRED : ∀ G ψ, Rp K G ψ (.ref (He.ga K "BARRED")) (.ktup [.str [124], .str [61]])
  c_BARRED_SIGN : ∃ u, mg "BARRED_SIGN" = some u ∧ RelV (.int 37) u
  c_CUT : ∃ u, mg "CUT" = some u ∧ RelV (.int 2) u
  c_EXCHANGE : ∃ u, mg "EXCHANGE" = some u ∧ RelV (.int 3) u
  c_FIGURES : ∃ u, mg "FIGURES" = some u ∧ RelV (.str ⟨([48, 49, 50, 51, 52, 53, 54, 55, 56, 57] : List Nat).toArray⟩) u
  c_FILL : ∃ u, mg "FILL" = some u ∧ RelV (.int 1) u
  c_GREAT : ∃ u, mg "GREAT" = some u ∧ RelV (.str ⟨([65, 66, 67, 68, 69, 70, 71, 72, 73, 74, 75, 76, 77, 78, 79, 80, 81, 82, 83, 84, 85, 86, 87, 88, 89, 90] : List Nat).toArray⟩) u
  c_MOST_FIGURES : ∃ u, mg "MOST_FIGURES" = some u ∧ RelV (.int 12) u
  c_MOST_SIGNS : ∃ u, mg "MOST_SIGNS" = some u ∧ RelV (.int 20) u
  c_MOST_WORDS : ∃ u, mg "MOST_WORDS" = some u ∧ RelV (.int 40) u
  c_PUT : ∃ u, mg "PUT" = some u ∧ RelV (.int 2) u
  c_SMALL : ∃ u, mg "SMALL" = some u ∧ RelV (.str ⟨([97, 98, 99, 100, 101, 102, 103, 104, 105, 106, 107, 108, 109, 110, 111, 112, 113, 114, 115, 116, 117, 118, 119, 120, 121, 122] : List Nat).toArray⟩) u
  e_NoSentence : PySem.W.excIn K (He.ga K "NoSentence") He.veBase "ValueError.__new__" = true ∧ PySem.W.keepIn K (.ref (He.ga K "NoSentence")) = true ∧ PySem.W.subIn K (.ref (He.ga K "NoSentence")) (.type "BaseException") = some true ∧ PySem.W.typeIn K (.ref (He.ga K "NoSentence")) = some (.type "type")
  g_NoSentence : mg "NoSentence" = some (.ref (He.ga K "NoSentence"))
  v_NoSentence : cvE K 1 = .ref (He.ga K "NoSentence")
section
variable {P : Program} {w : World} {K : PySem.W.Frag} {mg : Str → Option Value} {base : Heap} {f : Addr}
def N_is_word : List Str := ["thing", "sign"]
def m_is_word  : MS := mSeq (mIfS (bOr (bNot (mT (mOp1 (gIsi "str") (mSl 0)))) (bOr (bNot (mT (mCh gLe gLe (mC (.int 1)) (mOpN gLen [mSl 0]) (mC (.int 20))))) (mT (mOp2c gIn (mSl 0) (mC (.ktup [.str [124], .str [61]])))))) (mRet (mC (.bl false))) (mPass))
  (mRet (mOpN gAll [mComp [1] (mItr (mSl 0)) (fNm 1) (bYes) (mAnd (mCh gLe gLe (mC (.str [33])) (mSl 1) (mC (.str [126]))) (mOp2c gNe (mOpN gOrd [mSl 1]) (mC (.int 37))))]))
theorem sc_is_word : FnScope N_is_word ["thing"] (defScope (top 12)) := ⟨rfl, rfl, rfl, by decide +kernel, rfl, by decide +kernel, by decide +kernel⟩
@[irreducible] def f_is_word : FS := runF 2 (m_is_word )
theorem ev_is_word   {k : Nat} (h : Fx K mg)  {cdv : Value} {A : Around} {outer : List Env} {s : Shared} {H : Hp} {E : XK} (hr : Room k (A.deeper (envOfC "is_word" (defScope (top 12)) s.heap.objs.size f cdv))) :
    EvSs (cxOf (L2.CX P w) P w K mg base N_is_word "is_word" (defScope (top 12)) f cdv A outer s H E) (WO E) (cvE K) (defBody (top 12)) (m_is_word ) :=
  have nd := sc_is_word.nd
  es_cons (es_if (evt_w (evw_or (evt_not (evt_val (ev_isi h.b_isinstance h.b_str (ev_var (i := 0))))) (evw_or (evt_not (evt_ch op_leT op_leT pr_le pr_le (ev_int) (ec_len h.b_len (eva_cons (ev_var (i := 0)) (eva_nil))) (ev_glob h.c_MOST_SIGNS (fun _ _ => .int _)))) (evw_or1 (evt_cmp (op_inT (hu65 hr)) pr_in (ev_var (i := 0)) (ev_glob h.c_BARRED h.t_BARRED)))))) (es_one (es_ret (ev_bl))) (es_nil))
  (es_one (es_ret (ec_all rfl h.b_all (eva_cons (ev_comp (own := [("sign", 1)]) rfl nd (ei_val (ev_var (i := 0))) (fun _ _ _ _ _ => eg_name (i := 1) nd) (fun _ _ _ _ _ => ets_nil) (fun _ _ _ _ _ => ev_and (ev_ch op_leT op_leT pr_le pr_le (ev_str [33]) (ev_var (i := 1)) (ev_str [126])) (ev_one (ev_cmp (op_neD hr.units) pr_ne (ec_ord h.b_ord (eva_cons (ev_var (i := 1)) (eva_nil))) (ev_glob h.c_BARRED_SIGN (fun _ _ => .int _))))) (blkOk_by (N := N_is_word) (sc := defScope (top 12)) (by decide +kernel))) (eva_nil)))))
theorem fd_is_word {fd : FuncData} (h : Fx K mg) (D : FunD K "is_word" "is_word" (defArgs (top 12)) (defBody (top 12)) (defScope (top 12)) [] [] f fd) (hm : mg "is_word" = some (.ref f))  : Fd P w K mg base (cvE K) 1 "is_word" 1 f_is_word := by
  unfold f_is_word
  exact ⟨f, fd, ["thing"], hm, D.kp, D.bindsN fun _ _ _ _ _ _ us hl => match us, hl with | [_], _ => rfl, fn_vi D sc_is_word fun cdv A outer s H E hr => ev_is_word h  hr⟩
theorem fn_is_word {fd : FuncData} (h : Fx K mg) (D : FunD K "is_word" "is_word" (defArgs (top 12)) (defBody (top 12)) (defScope (top 12)) [] [] f fd) (hm : mg "is_word" = some (.ref f))  : FnOk P w K mg base (L2.CX P w) 1 f fd ["thing"] (spF K (cvE K) 1 f_is_word) := by
  unfold f_is_word
  exact fn_vi D sc_is_word fun cdv A outer s H E hr => ev_is_word h  hr
def N_kind_of : List Str := ["word", "sign"]
def m_kind_of  : MS := mSeq (mIfS (mT (mOpN gAll [mComp [1] (mItr (mSl 0)) (fNm 1) (bYes) (mOp2c gIn (mSl 1) (mC (.str [48, 49, 50, 51, 52, 53, 54, 55, 56, 57])))])) (mIfS (bAnd (mT (mOp2 gLe (mOpN gLen [mSl 0]) (mC (.int 12)))) (bOr (mT (mOp2c gNe (mOp2 gIx (mSl 0) (mC (.int 0))) (mC (.str [48])))) (mT (mOp2c gEq (mSl 0) (mC (.str [48])))))) (mRet (mC (.str [110, 117, 109, 98, 101, 114]))) (mPass)) (mIfS (bAnd (mT (mOp2 gGt (mOpN gLen [mSl 0]) (mC (.int 1)))) (bAnd (mT (mOp2c gIn (mOp2 gIx (mSl 0) (mC (.int 0))) (mC (.str [65, 66, 67, 68, 69, 70, 71, 72, 73, 74, 75, 76, 77, 78, 79, 80, 81, 82, 83, 84, 85, 86, 87, 88, 89, 90])))) (mT (mOpN gAll [mComp [1] (mItr (mSlc (mSl 0) (some (mC (.int 1))) none)) (fNm 1) (bYes) (mOp2c gIn (mSl 1) (mC (.str [97, 98, 99, 100, 101, 102, 103, 104, 105, 106, 107, 108, 109, 110, 111, 112, 113, 114, 115, 116, 117, 118, 119, 120, 121, 122])))])))) (mRet (mC (.str [110, 97, 109, 101]))) (mPass)))
  (mRet (mC (.str [112, 108, 97, 105, 110])))
theorem sc_kind_of : FnScope N_kind_of ["word"] (defScope (top 13)) := ⟨rfl, rfl, rfl, by decide +kernel, rfl, by decide +kernel, by decide +kernel⟩
@[irreducible] def f_kind_of : FS := runF 2 (m_kind_of )
theorem ev_kind_of   {k : Nat} (h : Fx K mg)  {cdv : Value} {A : Around} {outer : List Env} {s : Shared} {H : Hp} {E : XK} (hr : Room k (A.deeper (envOfC "kind_of" (defScope (top 13)) s.heap.objs.size f cdv))) :
    EvSs (cxOf (L2.CX P w) P w K mg base N_kind_of "kind_of" (defScope (top 13)) f cdv A outer s H E) (WO E) (cvE K) (defBody (top 13)) (m_kind_of ) :=
  have nd := sc_kind_of.nd
  es_cons (es_if (evt_val (ec_all rfl h.b_all (eva_cons (ev_comp (own := [("sign", 1)]) rfl nd (ei_val (ev_var (i := 0))) (fun _ _ _ _ _ => eg_name (i := 1) nd) (fun _ _ _ _ _ => ets_nil) (fun _ _ _ _ _ => ev_cmp (op_inT (hu65 hr)) pr_in (ev_var (i := 1)) (ev_glob h.c_FIGURES (fun _ _ => .str (by decide +kernel)))) (blkOk_by (N := N_kind_of) (sc := defScope (top 13)) (by decide +kernel))) (eva_nil)))) (es_one (es_if (evt_w (evw_and (evt_cmp op_leT pr_le.c (ec_len h.b_len (eva_cons (ev_var (i := 0)) (eva_nil))) (ev_glob h.c_MOST_FIGURES (fun _ _ => .int _))) (evw_and1 (evt_w (evw_or (evt_cmp (op_neD hr.units) pr_ne (ev_ix (ix_all (hu65 hr)) pr_ix.c (ev_var (i := 0)) (ev_int)) (ev_str [48])) (evw_or1 (evt_cmp (op_eqD hr.units) pr_eq (ev_var (i := 0)) (ev_str [48])))))))) (es_one (es_ret (ev_str [110, 117, 109, 98, 101, 114]))) (es_nil))) (es_one (es_if (evt_w (evw_and (evt_cmp op_gtT pr_gt.c (ec_len h.b_len (eva_cons (ev_var (i := 0)) (eva_nil))) (ev_int)) (evw_and (evt_cmp (op_inT (hu65 hr)) pr_in (ev_ix (ix_all (hu65 hr)) pr_ix.c (ev_var (i := 0)) (ev_int)) (ev_glob h.c_GREAT (fun _ _ => .str (by decide +kernel)))) (evw_and1 (evt_val (ec_all rfl h.b_all (eva_cons (ev_comp (own := [("sign", 1)]) rfl nd (ei_val (ev_slc (ev_var (i := 0)) (evp_some (ev_int)) evp_none)) (fun _ _ _ _ _ => eg_name (i := 1) nd) (fun _ _ _ _ _ => ets_nil) (fun _ _ _ _ _ => ev_cmp (op_inT (hu65 hr)) pr_in (ev_var (i := 1)) (ev_glob h.c_SMALL (fun _ _ => .str (by decide +kernel)))) (blkOk_by (N := N_kind_of) (sc := defScope (top 13)) (by decide +kernel))) (eva_nil)))))))) (es_one (es_ret (ev_str [110, 97, 109, 101]))) (es_nil))))
  (es_one (es_ret (ev_str [112, 108, 97, 105, 110])))
theorem fd_kind_of {fd : FuncData} (h : Fx K mg) (D : FunD K "kind_of" "kind_of" (defArgs (top 13)) (defBody (top 13)) (defScope (top 13)) [] [] f fd) (hm : mg "kind_of" = some (.ref f))  : Fd P w K mg base (cvE K) 1 "kind_of" 1 f_kind_of := by
  unfold f_kind_of
  exact ⟨f, fd, ["word"], hm, D.kp, D.bindsN fun _ _ _ _ _ _ us hl => match us, hl with | [_], _ => rfl, fn_vi D sc_kind_of fun cdv A outer s H E hr => ev_kind_of h  hr⟩
theorem fn_kind_of {fd : FuncData} (h : Fx K mg) (D : FunD K "kind_of" "kind_of" (defArgs (top 13)) (defBody (top 13)) (defScope (top 13)) [] [] f fd) (hm : mg "kind_of" = some (.ref f))  : FnOk P w K mg base (L2.CX P w) 1 f fd ["word"] (spF K (cvE K) 1 f_kind_of) := by
  unfold f_kind_of
  exact fn_vi D sc_kind_of fun cdv A outer s H E hr => ev_kind_of h  hr
def N_is_sentence : List Str := ["thing", "word"]
def m_is_sentence (c_is_word : FS) : MS := mRet (mAnd (mOp1 (gIsi "tuple") (mSl 0)) (mAnd (mCh gLe gLe (mC (.int 1)) (mOpN gLen [mSl 0]) (mC (.int 40))) (mOpN gAll [mComp [1] (mItr (mSl 0)) (fNm 1) (bYes) (mCall c_is_word [mSl 1])])))
theorem sc_is_sentence : FnScope N_is_sentence ["thing"] (defScope (top 14)) := ⟨rfl, rfl, rfl, by decide +kernel, rfl, by decide +kernel, by decide +kernel⟩
@[irreducible] def f_is_sentence : FS := runF 2 (m_is_sentence f_is_word)
theorem ev_is_sentence {c_is_word : FS} {j_is_word : Nat} {k : Nat} (h : Fx K mg) (k_is_word : Fd P w K mg base (cvE K) j_is_word "is_word" 1 c_is_word) (l_is_word : j_is_word ≤ k) {cdv : Value} {A : Around} {outer : List Env} {s : Shared} {H : Hp} {E : XK} (hr : Room k (A.deeper (envOfC "is_sentence" (defScope (top 14)) s.heap.objs.size f cdv))) :
    EvSs (cxOf (L2.CX P w) P w K mg base N_is_sentence "is_sentence" (defScope (top 14)) f cdv A outer s H E) (WO E) (cvE K) (defBody (top 14)) (m_is_sentence c_is_word) :=
  have nd := sc_is_sentence.nd
  es_one (es_ret (ev_and (ev_isi h.b_isinstance h.b_tuple (ev_var (i := 0))) (ev_and (ev_ch op_leT op_leT pr_le pr_le (ev_int) (ec_len h.b_len (eva_cons (ev_var (i := 0)) (eva_nil))) (ev_glob h.c_MOST_WORDS (fun _ _ => .int _))) (ev_one (ec_all rfl h.b_all (eva_cons (ev_comp (own := [("word", 1)]) rfl nd (ei_val (ev_var (i := 0))) (fun _ _ _ _ _ => eg_name (i := 1) nd) (fun _ _ _ _ _ => ets_nil) (fun _ _ _ _ _ => ev_call k_is_word (hr.mono (by omega)) takes0 (eva_cons (ev_var (i := 1)) (eva_nil))) (blkOk_by (N := N_is_sentence) (sc := defScope (top 14)) (by decide +kernel))) (eva_nil)))))))
theorem fd_is_sentence {fd : FuncData} (h : Fx K mg) (D : FunD K "is_sentence" "is_sentence" (defArgs (top 14)) (defBody (top 14)) (defScope (top 14)) [] [] f fd) (hm : mg "is_sentence" = some (.ref f)) (k_is_word : Fd P w K mg base (cvE K) 1 "is_word" 1 f_is_word) : Fd P w K mg base (cvE K) 2 "is_sentence" 1 f_is_sentence := by
  unfold f_is_sentence
  exact ⟨f, fd, ["thing"], hm, D.kp, D.bindsN fun _ _ _ _ _ _ us hl => match us, hl with | [_], _ => rfl, fn_vi D sc_is_sentence fun cdv A outer s H E hr => ev_is_sentence h k_is_word (by omega) hr⟩
theorem fn_is_sentence {fd : FuncData} (h : Fx K mg) (D : FunD K "is_sentence" "is_sentence" (defArgs (top 14)) (defBody (top 14)) (defScope (top 14)) [] [] f fd) (hm : mg "is_sentence" = some (.ref f)) (k_is_word : Fd P w K mg base (cvE K) 1 "is_word" 1 f_is_word) : FnOk P w K mg base (L2.CX P w) 2 f fd ["thing"] (spF K (cvE K) 1 f_is_sentence) := by
  unfold f_is_sentence
  exact fn_vi D sc_is_sentence fun cdv A outer s H E hr => ev_is_sentence h k_is_word (by omega) hr
def N_need_sentence : List Str := ["thing"]
def m_need_sentence (c_is_sentence : FS) : MS := mIfS (bNot (mT (mCall c_is_sentence [mSl 0]))) (mRaise 1) (mPass)
theorem sc_need_sentence : FnScope N_need_sentence ["thing"] (defScope (top 15)) := ⟨rfl, rfl, rfl, by decide +kernel, rfl, by decide +kernel, by decide +kernel⟩
@[irreducible] def f_need_sentence : FS := runF 1 (m_need_sentence f_is_sentence)
theorem ev_need_sentence {c_is_sentence : FS} {j_is_sentence : Nat} {k : Nat} (h : Fx K mg) (k_is_sentence : Fd P w K mg base (cvE K) j_is_sentence "is_sentence" 1 c_is_sentence) (l_is_sentence : j_is_sentence ≤ k) {cdv : Value} {A : Around} {outer : List Env} {s : Shared} {H : Hp} {E : XK} (hr : Room k (A.deeper (envOfC "need_sentence" (defScope (top 15)) s.heap.objs.size f cdv))) :
    EvSs (cxOf (L2.CX P w) P w K mg base N_need_sentence "need_sentence" (defScope (top 15)) f cdv A outer s H E) (WO E) (cvE K) (defBody (top 15)) (m_need_sentence c_is_sentence) :=
  have nd := sc_need_sentence.nd
  es_one (es_if (evt_not (evt_val (ev_call k_is_sentence (hr.mono (by omega)) (takes_of rfl rfl rfl rfl) (eva_cons (ev_var (i := 0)) (eva_nil))))) (es_one (es_raise (c := 1) rfl (takes_of rfl rfl rfl rfl) PySem.F.excBase_ValueError h.e_NoSentence.1 h.g_NoSentence h.e_NoSentence.2.1 h.e_NoSentence.2.2.1 h.e_NoSentence.2.2.2 h.v_NoSentence)) (es_nil))
theorem fd_need_sentence {fd : FuncData} (h : Fx K mg) (D : FunD K "need_sentence" "need_sentence" (defArgs (top 15)) (defBody (top 15)) (defScope (top 15)) [] [] f fd) (hm : mg "need_sentence" = some (.ref f)) (k_is_sentence : Fd P w K mg base (cvE K) 2 "is_sentence" 1 f_is_sentence) : Fd P w K mg base (cvE K) 3 "need_sentence" 1 f_need_sentence := by
  unfold f_need_sentence
  exact ⟨f, fd, ["thing"], hm, D.kp, D.bindsN fun _ _ _ _ _ _ us hl => match us, hl with | [_], _ => rfl, fn_vi D sc_need_sentence fun cdv A outer s H E hr => ev_need_sentence h k_is_sentence (by omega) hr⟩
theorem fn_need_sentence {fd : FuncData} (h : Fx K mg) (D : FunD K "need_sentence" "need_sentence" (defArgs (top 15)) (defBody (top 15)) (defScope (top 15)) [] [] f fd) (hm : mg "need_sentence" = some (.ref f)) (k_is_sentence : Fd P w K mg base (cvE K) 2 "is_sentence" 1 f_is_sentence) : FnOk P w K mg base (L2.CX P w) 3 f fd ["thing"] (spF K (cvE K) 1 f_need_sentence) := by
  unfold f_need_sentence
  exact fn_vi D sc_need_sentence fun cdv A outer s H E hr => ev_need_sentence h k_is_sentence (by omega) hr
def N_gaps_of : List Str := ["sentence", "place", "word"]
def m_gaps_of (c_need_sentence : FS) (c_kind_of : FS) : MS := mSeq (mDrop (mCall c_need_sentence [mSl 0]))
  (mRet (mComp [1, 2] (mEnum [mSl 0]) (fTup 2 (fCons (fNm 1) (fCons (fNm 2) (fNil)))) (mT (mOp2c gNe (mCall c_kind_of [mSl 2]) (mC (.str [112, 108, 97, 105, 110])))) (mSl 1)))
theorem sc_gaps_of : FnScope N_gaps_of ["sentence"] (defScope (top 16)) := ⟨rfl, rfl, rfl, by decide +kernel, rfl, by decide +kernel, by decide +kernel⟩
@[irreducible] def f_gaps_of : FS := runF 3 (m_gaps_of f_need_sentence f_kind_of)
theorem ev_gaps_of {c_need_sentence : FS} {c_kind_of : FS} {j_need_sentence : Nat} {j_kind_of : Nat} {k : Nat} (h : Fx K mg) (k_need_sentence : Fd P w K mg base (cvE K) j_need_sentence "need_sentence" 1 c_need_sentence) (l_need_sentence : j_need_sentence ≤ k) (k_kind_of : Fd P w K mg base (cvE K) j_kind_of "kind_of" 1 c_kind_of) (l_kind_of : j_kind_of ≤ k) {cdv : Value} {A : Around} {outer : List Env} {s : Shared} {H : Hp} {E : XK} (hr : Room k (A.deeper (envOfC "gaps_of" (defScope (top 16)) s.heap.objs.size f cdv))) :
    EvSs (cxOf (L2.CX P w) P w K mg base N_gaps_of "gaps_of" (defScope (top 16)) f cdv A outer s H E) (WO E) (cvE K) (defBody (top 16)) (m_gaps_of c_need_sentence c_kind_of) :=
  have nd := sc_gaps_of.nd
  es_cons (es_drop (ev_call k_need_sentence (hr.mono (by omega)) (takes_of rfl rfl rfl rfl) (eva_cons (ev_var (i := 0)) (eva_nil))))
  (es_one (es_ret (ev_comp (own := [("place", 1), ("word", 2)]) rfl nd (ei_enum h.b_enumerate (eva_cons (ev_var (i := 0)) (eva_nil))) (fun _ _ _ _ _ => eg_tup rfl (egs_cons (eg_name (i := 1) nd) (egs_cons (eg_name (i := 2) nd) (egs_nil)))) (fun _ _ _ _ _ => ets_one (evt_cmp (op_neD hr.units) pr_ne (ev_call k_kind_of (hr.mono (by omega)) takes0 (eva_cons (ev_var (i := 2)) (eva_nil))) (ev_str [112, 108, 97, 105, 110]))) (fun _ _ _ _ _ => ev_var (i := 1)) (blkOk_by (N := N_gaps_of) (sc := defScope (top 16)) (by decide +kernel)))))
theorem fd_gaps_of {fd : FuncData} (h : Fx K mg) (D : FunD K "gaps_of" "gaps_of" (defArgs (top 16)) (defBody (top 16)) (defScope (top 16)) [] [] f fd) (hm : mg "gaps_of" = some (.ref f)) (k_need_sentence : Fd P w K mg base (cvE K) 3 "need_sentence" 1 f_need_sentence) (k_kind_of : Fd P w K mg base (cvE K) 1 "kind_of" 1 f_kind_of) : Fd P w K mg base (cvE K) 4 "gaps_of" 1 f_gaps_of := by
  unfold f_gaps_of
  exact ⟨f, fd, ["sentence"], hm, D.kp, D.bindsN fun _ _ _ _ _ _ us hl => match us, hl with | [_], _ => rfl, fn_vi D sc_gaps_of fun cdv A outer s H E hr => ev_gaps_of h k_need_sentence (by omega) k_kind_of (by omega) hr⟩
theorem fn_gaps_of {fd : FuncData} (h : Fx K mg) (D : FunD K "gaps_of" "gaps_of" (defArgs (top 16)) (defBody (top 16)) (defScope (top 16)) [] [] f fd) (hm : mg "gaps_of" = some (.ref f)) (k_need_sentence : Fd P w K mg base (cvE K) 3 "need_sentence" 1 f_need_sentence) (k_kind_of : Fd P w K mg base (cvE K) 1 "kind_of" 1 f_kind_of) : FnOk P w K mg base (L2.CX P w) 4 f fd ["sentence"] (spF K (cvE K) 1 f_gaps_of) := by
  unfold f_gaps_of
  exact fn_vi D sc_gaps_of fun cdv A outer s H E hr => ev_gaps_of h k_need_sentence (by omega) k_kind_of (by omega) hr
def N_leads_of : List Str := ["one", "other", "open_gaps", "leads", "place", "some", "gap"]
def m_leads_of (c_gaps_of : FS) : MS := mSeq (mAsg 2 (mCall c_gaps_of [mSl 0]))
  (mSeq (mAsg 3 (mLst []))
  (mSeq (mFor (mItr (mCall c_gaps_of [mSl 1])) (fNm 4) (mSeq (mAsg 5 (mLend 2 (mComp [6] (mItr (mSl 2)) (fNm 6) (mT (mOp2c gEq (mOp2 gIx (mSl 0) (mSl 6)) (mOp2 gIx (mSl 1) (mSl 4)))) (mSl 6))))
  (mIfS (mT (mOp2c gNe (mSl 5) (mLst []))) (mSeq (mDrop (mMeth gApp (mSl 3) [mTup [mOp2 gIx (mSl 5) (mC (.int 0)), mSl 4]]))
  (mDrop (mMeth gRem (mSl 2) [mOp2 gIx (mSl 5) (mC (.int 0))]))) (mPass))))
  (mRet (mSl 3))))
theorem sc_leads_of : FnScope N_leads_of ["one", "other"] (defScope (top 18)) := ⟨rfl, rfl, rfl, by decide +kernel, rfl, by decide +kernel, by decide +kernel⟩
@[irreducible] def f_leads_of : FS := runF 7 (m_leads_of f_gaps_of)
theorem ev_leads_of {c_gaps_of : FS} {j_gaps_of : Nat} {k : Nat} (h : Fx K mg) (k_gaps_of : Fd P w K mg base (cvE K) j_gaps_of "gaps_of" 1 c_gaps_of) (l_gaps_of : j_gaps_of ≤ k) {cdv : Value} {A : Around} {outer : List Env} {s : Shared} {H : Hp} {E : XK} (hr : Room k (A.deeper (envOfC "leads_of" (defScope (top 18)) s.heap.objs.size f cdv))) :
    EvSs (cxOf (L2.CX P w) P w K mg base N_leads_of "leads_of" (defScope (top 18)) f cdv A outer s H E) (WO E) (cvE K) (defBody (top 18)) (m_leads_of c_gaps_of) :=
  have nd := sc_leads_of.nd
  es_cons (es_asg (ea_e (i := 2) nd (ev_call k_gaps_of (hr.mono (by omega)) (takes_of rfl rfl rfl rfl) (eva_cons (ev_var (i := 0)) (eva_nil)))))
  (es_cons (es_asg (ea_e (i := 3) nd (ev_lst (eva_nil))))
  (es_cons (es_for (vs := [4]) (passes_of rfl) rfl (ei_val (ev_call k_gaps_of (hr.mono (by omega)) (takes_of rfl rfl rfl rfl) (eva_cons (ev_var (i := 1)) (eva_nil)))) (eg_name (i := 4) nd) (es_cons (es_asg (ea_lend 2 (ea_comp (i := 5) (own := [("gap", 6)]) rfl nd (ei_val (ev_var (i := 2))) (fun _ _ _ _ _ => eg_name (i := 6) nd) (fun _ _ _ _ _ => ets_one (evt_cmp (op_eqD hr.units) pr_eq (ev_ix (ix_all (hu65 hr)) pr_ix.c (ev_var (i := 0)) (ev_var (i := 6))) (ev_ix (ix_all (hu65 hr)) pr_ix.c (ev_var (i := 1)) (ev_var (i := 4))))) (fun _ _ _ _ _ => ev_var (i := 6)) (blkOk_by (N := N_leads_of) (sc := defScope (top 18)) (by decide +kernel)) rfl (sw_true (l := 0) rfl rfl rfl (by decide +kernel)))))
  (es_one (es_if (evt_cmp (op_neD hr.units) pr_ne (ev_var (i := 5)) (ev_lst (eva_nil))) (es_cons (es_drop (ev_append (ev_var (i := 3)) (eva_cons (ev_tup (eva_cons (ev_ix (ix_all (hu65 hr)) pr_ix.c (ev_var (i := 5)) (ev_int)) (eva_cons (ev_var (i := 4)) (eva_nil)))) (eva_nil))))
  (es_one (es_drop (ev_meth pm_rem PySem.F.slot_list_remove PySem.F.type_list_remove mt_remove (ev_var (i := 2)) (eva_cons (ev_ix (ix_all (hu65 hr)) pr_ix.c (ev_var (i := 5)) (ev_int)) (eva_nil)))))) (es_nil)))))
  (es_one (es_ret (ev_var (i := 3))))))
theorem fd_leads_of {fd : FuncData} (h : Fx K mg) (D : FunD K "leads_of" "leads_of" (defArgs (top 18)) (defBody (top 18)) (defScope (top 18)) [] [] f fd) (hm : mg "leads_of" = some (.ref f)) (k_gaps_of : Fd P w K mg base (cvE K) 4 "gaps_of" 1 f_gaps_of) : Fd P w K mg base (cvE K) 5 "leads_of" 2 f_leads_of := by
  unfold f_leads_of
  exact ⟨f, fd, ["one", "other"], hm, D.kp, D.bindsN fun _ _ _ _ _ _ us hl => match us, hl with | [_, _], _ => rfl, fn_vi D sc_leads_of fun cdv A outer s H E hr => ev_leads_of h k_gaps_of (by omega) hr⟩
theorem fn_leads_of {fd : FuncData} (h : Fx K mg) (D : FunD K "leads_of" "leads_of" (defArgs (top 18)) (defBody (top 18)) (defScope (top 18)) [] [] f fd) (hm : mg "leads_of" = some (.ref f)) (k_gaps_of : Fd P w K mg base (cvE K) 4 "gaps_of" 1 f_gaps_of) : FnOk P w K mg base (L2.CX P w) 5 f fd ["one", "other"] (spF K (cvE K) 2 f_leads_of) := by
  unfold f_leads_of
  exact fn_vi D sc_leads_of fun cdv A outer s H E hr => ev_leads_of h k_gaps_of (by omega) hr
def N_led_gaps : List Str := ["one", "other", "begin", "end"]
def m_led_gaps (c_leads_of : FS) : MS := mRet (mOpN gSorted [mComp [2, 3] (mItr (mCall c_leads_of [mSl 0, mSl 1])) (fTup 2 (fCons (fNm 2) (fCons (fNm 3) (fNil)))) (bYes) (mSl 2)])
theorem sc_led_gaps : FnScope N_led_gaps ["one", "other"] (defScope (top 19)) := ⟨rfl, rfl, rfl, by decide +kernel, rfl, by decide +kernel, by decide +kernel⟩
@[irreducible] def f_led_gaps : FS := runF 4 (m_led_gaps f_leads_of)
theorem ev_led_gaps {c_leads_of : FS} {j_leads_of : Nat} {k : Nat} (h : Fx K mg) (k_leads_of : Fd P w K mg base (cvE K) j_leads_of "leads_of" 2 c_leads_of) (l_leads_of : j_leads_of ≤ k) {cdv : Value} {A : Around} {outer : List Env} {s : Shared} {H : Hp} {E : XK} (hr : Room k (A.deeper (envOfC "led_gaps" (defScope (top 19)) s.heap.objs.size f cdv))) :
    EvSs (cxOf (L2.CX P w) P w K mg base N_led_gaps "led_gaps" (defScope (top 19)) f cdv A outer s H E) (WO E) (cvE K) (defBody (top 19)) (m_led_gaps c_leads_of) :=
  have nd := sc_led_gaps.nd
  es_one (es_ret (ec_sorted h.b_sorted (eva_cons (ev_comp (own := [("begin", 2), ("end", 3)]) rfl nd (ei_val (ev_call k_leads_of (hr.mono (by omega)) (takes_of rfl rfl rfl rfl) (eva_cons (ev_var (i := 0)) (eva_cons (ev_var (i := 1)) (eva_nil))))) (fun _ _ _ _ _ => eg_tup rfl (egs_cons (eg_name (i := 2) nd) (egs_cons (eg_name (i := 3) nd) (egs_nil)))) (fun _ _ _ _ _ => ets_nil) (fun _ _ _ _ _ => ev_var (i := 2)) (blkOk_by (N := N_led_gaps) (sc := defScope (top 19)) (by decide +kernel))) (eva_nil))))
theorem fd_led_gaps {fd : FuncData} (h : Fx K mg) (D : FunD K "led_gaps" "led_gaps" (defArgs (top 19)) (defBody (top 19)) (defScope (top 19)) [] [] f fd) (hm : mg "led_gaps" = some (.ref f)) (k_leads_of : Fd P w K mg base (cvE K) 5 "leads_of" 2 f_leads_of) : Fd P w K mg base (cvE K) 6 "led_gaps" 2 f_led_gaps := by
  unfold f_led_gaps
  exact ⟨f, fd, ["one", "other"], hm, D.kp, D.bindsN fun _ _ _ _ _ _ us hl => match us, hl with | [_, _], _ => rfl, fn_vi D sc_led_gaps fun cdv A outer s H E hr => ev_led_gaps h k_leads_of (by omega) hr⟩
theorem fn_led_gaps {fd : FuncData} (h : Fx K mg) (D : FunD K "led_gaps" "led_gaps" (defArgs (top 19)) (defBody (top 19)) (defScope (top 19)) [] [] f fd) (hm : mg "led_gaps" = some (.ref f)) (k_leads_of : Fd P w K mg base (cvE K) 5 "leads_of" 2 f_leads_of) : FnOk P w K mg base (L2.CX P w) 6 f fd ["one", "other"] (spF K (cvE K) 2 f_led_gaps) := by
  unfold f_led_gaps
  exact fn_vi D sc_led_gaps fun cdv A outer s H E hr => ev_led_gaps h k_leads_of (by omega) hr
def N_mould_of : List Str := ["one", "other", "led", "mould", "place", "word"]
def m_mould_of (c_led_gaps : FS) (c_kind_of : FS) : MS := mSeq (mAsg 2 (mCall c_led_gaps [mSl 0, mSl 1]))
  (mSeq (mAsg 3 (mLst []))
  (mSeq (mFor (mEnum [mSl 0]) (fTup 2 (fCons (fNm 4) (fCons (fNm 5) (fNil)))) (mIfS (mT (mOp2c gIn (mSl 4) (mSl 2))) (mDrop (mMeth gApp (mSl 3) [mTup [mCall c_kind_of [mSl 5]]])) (mDrop (mMeth gApp (mSl 3) [mSl 5]))))
  (mRet (mSl 3))))
theorem sc_mould_of : FnScope N_mould_of ["one", "other"] (defScope (top 20)) := ⟨rfl, rfl, rfl, by decide +kernel, rfl, by decide +kernel, by decide +kernel⟩
@[irreducible] def f_mould_of : FS := runF 6 (m_mould_of f_led_gaps f_kind_of)
theorem ev_mould_of {c_led_gaps : FS} {c_kind_of : FS} {j_led_gaps : Nat} {j_kind_of : Nat} {k : Nat} (h : Fx K mg) (k_led_gaps : Fd P w K mg base (cvE K) j_led_gaps "led_gaps" 2 c_led_gaps) (l_led_gaps : j_led_gaps ≤ k) (k_kind_of : Fd P w K mg base (cvE K) j_kind_of "kind_of" 1 c_kind_of) (l_kind_of : j_kind_of ≤ k) {cdv : Value} {A : Around} {outer : List Env} {s : Shared} {H : Hp} {E : XK} (hr : Room k (A.deeper (envOfC "mould_of" (defScope (top 20)) s.heap.objs.size f cdv))) :
    EvSs (cxOf (L2.CX P w) P w K mg base N_mould_of "mould_of" (defScope (top 20)) f cdv A outer s H E) (WO E) (cvE K) (defBody (top 20)) (m_mould_of c_led_gaps c_kind_of) :=
  have nd := sc_mould_of.nd
  es_cons (es_asg (ea_e (i := 2) nd (ev_call k_led_gaps (hr.mono (by omega)) (takes_of rfl rfl rfl rfl) (eva_cons (ev_var (i := 0)) (eva_cons (ev_var (i := 1)) (eva_nil))))))
  (es_cons (es_asg (ea_e (i := 3) nd (ev_lst (eva_nil))))
  (es_cons (es_for (vs := [4, 5]) (passes_of rfl) rfl (ei_enum h.b_enumerate (eva_cons (ev_var (i := 0)) (eva_nil))) (eg_tup rfl (egs_cons (eg_name (i := 4) nd) (egs_cons (eg_name (i := 5) nd) (egs_nil)))) (es_one (es_if (evt_cmp (op_inT (hu65 hr)) pr_in (ev_var (i := 4)) (ev_var (i := 2))) (es_one (es_drop (ev_append (ev_var (i := 3)) (eva_cons (ev_tup (eva_cons (ev_call k_kind_of (hr.mono (by omega)) (takes_of rfl rfl rfl rfl) (eva_cons (ev_var (i := 5)) (eva_nil))) (eva_nil))) (eva_nil))))) (es_one (es_drop (ev_append (ev_var (i := 3)) (eva_cons (ev_var (i := 5)) (eva_nil))))))))
  (es_one (es_ret (ev_var (i := 3))))))
theorem fd_mould_of {fd : FuncData} (h : Fx K mg) (D : FunD K "mould_of" "mould_of" (defArgs (top 20)) (defBody (top 20)) (defScope (top 20)) [] [] f fd) (hm : mg "mould_of" = some (.ref f)) (k_led_gaps : Fd P w K mg base (cvE K) 6 "led_gaps" 2 f_led_gaps) (k_kind_of : Fd P w K mg base (cvE K) 1 "kind_of" 1 f_kind_of) : Fd P w K mg base (cvE K) 7 "mould_of" 2 f_mould_of := by
  unfold f_mould_of
  exact ⟨f, fd, ["one", "other"], hm, D.kp, D.bindsN fun _ _ _ _ _ _ us hl => match us, hl with | [_, _], _ => rfl, fn_vi D sc_mould_of fun cdv A outer s H E hr => ev_mould_of h k_led_gaps (by omega) k_kind_of (by omega) hr⟩
theorem fn_mould_of {fd : FuncData} (h : Fx K mg) (D : FunD K "mould_of" "mould_of" (defArgs (top 20)) (defBody (top 20)) (defScope (top 20)) [] [] f fd) (hm : mg "mould_of" = some (.ref f)) (k_led_gaps : Fd P w K mg base (cvE K) 6 "led_gaps" 2 f_led_gaps) (k_kind_of : Fd P w K mg base (cvE K) 1 "kind_of" 1 f_kind_of) : FnOk P w K mg base (L2.CX P w) 7 f fd ["one", "other"] (spF K (cvE K) 2 f_mould_of) := by
  unfold f_mould_of
  exact fn_vi D sc_mould_of fun cdv A outer s H E hr => ev_mould_of h k_led_gaps (by omega) k_kind_of (by omega) hr
def N_price_of_item : List Str := ["item", "kept", "word"]
def m_price_of_item (c_kind_of : FS) : MS := mSeq (mIfS (mT (mOp2c gEq (mSl 2) (mSl 1))) (mRet (mC (.int 0))) (mPass))
  (mSeq (mIfS (bAnd (mT (mOp1 (gIsi "tuple") (mSl 0))) (mT (mOp2c gEq (mCall c_kind_of [mSl 2]) (mOp2 gIx (mSl 0) (mC (.int 0)))))) (mRet (mC (.int 1))) (mPass))
  (mRet (mC (.int 3))))
theorem sc_price_of_item : FnScope N_price_of_item ["item", "kept", "word"] (defScope (top 26)) := ⟨rfl, rfl, rfl, by decide +kernel, rfl, by decide +kernel, by decide +kernel⟩
@[irreducible] def f_price_of_item : FS := runF 3 (m_price_of_item f_kind_of)
theorem ev_price_of_item {c_kind_of : FS} {j_kind_of : Nat} {k : Nat} (h : Fx K mg) (k_kind_of : Fd P w K mg base (cvE K) j_kind_of "kind_of" 1 c_kind_of) (l_kind_of : j_kind_of ≤ k) {cdv : Value} {A : Around} {outer : List Env} {s : Shared} {H : Hp} {E : XK} (hr : Room k (A.deeper (envOfC "price_of_item" (defScope (top 26)) s.heap.objs.size f cdv))) :
    EvSs (cxOf (L2.CX P w) P w K mg base N_price_of_item "price_of_item" (defScope (top 26)) f cdv A outer s H E) (WO E) (cvE K) (defBody (top 26)) (m_price_of_item c_kind_of) :=
  have nd := sc_price_of_item.nd
  es_cons (es_if (evt_cmp (op_eqD hr.units) pr_eq (ev_var (i := 2)) (ev_var (i := 1))) (es_one (es_ret (ev_int))) (es_nil))
  (es_cons (es_if (evt_w (evw_and (evt_val (ev_isi h.b_isinstance h.b_tuple (ev_var (i := 0)))) (evw_and1 (evt_cmp (op_eqD hr.units) pr_eq (ev_call k_kind_of (hr.mono (by omega)) (takes_of rfl rfl rfl rfl) (eva_cons (ev_var (i := 2)) (eva_nil))) (ev_ix (ix_all (hu65 hr)) pr_ix.c (ev_var (i := 0)) (ev_int)))))) (es_one (es_ret (ev_glob h.c_FILL (fun _ _ => .int _)))) (es_nil))
  (es_one (es_ret (ev_glob h.c_EXCHANGE (fun _ _ => .int _)))))
theorem fd_price_of_item {fd : FuncData} (h : Fx K mg) (D : FunD K "price_of_item" "price_of_item" (defArgs (top 26)) (defBody (top 26)) (defScope (top 26)) [] [] f fd) (hm : mg "price_of_item" = some (.ref f)) (k_kind_of : Fd P w K mg base (cvE K) 1 "kind_of" 1 f_kind_of) : Fd P w K mg base (cvE K) 2 "price_of_item" 3 f_price_of_item := by
  unfold f_price_of_item
  exact ⟨f, fd, ["item", "kept", "word"], hm, D.kp, D.bindsN fun _ _ _ _ _ _ us hl => match us, hl with | [_, _, _], _ => rfl, fn_vi D sc_price_of_item fun cdv A outer s H E hr => ev_price_of_item h k_kind_of (by omega) hr⟩
theorem fn_price_of_item {fd : FuncData} (h : Fx K mg) (D : FunD K "price_of_item" "price_of_item" (defArgs (top 26)) (defBody (top 26)) (defScope (top 26)) [] [] f fd) (hm : mg "price_of_item" = some (.ref f)) (k_kind_of : Fd P w K mg base (cvE K) 1 "kind_of" 1 f_kind_of) : FnOk P w K mg base (L2.CX P w) 2 f fd ["item", "kept", "word"] (spF K (cvE K) 3 f_price_of_item) := by
  unfold f_price_of_item
  exact fn_vi D sc_price_of_item fun cdv A outer s H E hr => ev_price_of_item h k_kind_of (by omega) hr
def N_rests_of : List Str := ["one", "other", "sentence", "mould", "last", "rows", "place", "row", "at", "same"]
def m_rests_of (c_mould_of : FS) (c_need_sentence : FS) (c_price_of_item : FS) : MS := mSeq (mAsg 3 (mCall c_mould_of [mSl 0, mSl 1]))
  (mSeq (mDrop (mCall c_need_sentence [mSl 2]))
  (mSeq (mAsg 4 (mComp [8] (mRng1 [mOp2 gAdd (mOpN gLen [mSl 2]) (mC (.int 1))]) (fNm 8) (bYes) (mOp2 gMul (mC (.int 2)) (mOp2 gSub (mOpN gLen [mSl 2]) (mSl 8)))))
  (mSeq (mAsg 5 (mLst [mSl 4]))
  (mSeq (mFor (mRng3 [mOp2 gSub (mOpN gLen [mSl 0]) (mC (.int 1)), mOp1 gNeg (mC (.int 1)), mOp1 gNeg (mC (.int 1))]) (fNm 6) (mSeq (mAsg 7 (mLst [mOp2 gAdd (mOp2 gIx (mSl 4) (mOp1 gNeg (mC (.int 1)))) (mC (.int 2))]))
  (mSeq (mFor (mRng3 [mOp2 gSub (mOpN gLen [mSl 2]) (mC (.int 1)), mOp1 gNeg (mC (.int 1)), mOp1 gNeg (mC (.int 1))]) (fNm 8) (mSeq (mAsg 9 (mOp2 gAdd (mOp2 gIx (mSl 4) (mOp2 gAdd (mSl 8) (mC (.int 1)))) (mCall c_price_of_item [mOp2 gIx (mSl 3) (mSl 6), mOp2 gIx (mSl 0) (mSl 6), mOp2 gIx (mSl 2) (mSl 8)])))
  (mDrop (mMeth gIns (mSl 7) [mC (.int 0), mOpN gMin3 [mSl 9, mOp2 gAdd (mOp2 gIx (mSl 4) (mSl 8)) (mC (.int 2)), mOp2 gAdd (mOp2 gIx (mSl 7) (mC (.int 0))) (mC (.int 2))]]))))
  (mSeq (mAsg 4 (mSl 7))
  (mDrop (mMeth gIns (mSl 5) [mC (.int 0), mSl 4]))))))
  (mRet (mSl 5))))))
theorem sc_rests_of : FnScope N_rests_of ["one", "other", "sentence"] (defScope (top 27)) := ⟨rfl, rfl, rfl, by decide +kernel, rfl, by decide +kernel, by decide +kernel⟩
@[irreducible] def f_rests_of : FS := runF 10 (m_rests_of f_mould_of f_need_sentence f_price_of_item)
theorem ev_rests_of {c_mould_of : FS} {c_need_sentence : FS} {c_price_of_item : FS} {j_mould_of : Nat} {j_need_sentence : Nat} {j_price_of_item : Nat} {k : Nat} (h : Fx K mg) (k_mould_of : Fd P w K mg base (cvE K) j_mould_of "mould_of" 2 c_mould_of) (l_mould_of : j_mould_of ≤ k) (k_need_sentence : Fd P w K mg base (cvE K) j_need_sentence "need_sentence" 1 c_need_sentence) (l_need_sentence : j_need_sentence ≤ k) (k_price_of_item : Fd P w K mg base (cvE K) j_price_of_item "price_of_item" 3 c_price_of_item) (l_price_of_item : j_price_of_item ≤ k) {cdv : Value} {A : Around} {outer : List Env} {s : Shared} {H : Hp} {E : XK} (hr : Room k (A.deeper (envOfC "rests_of" (defScope (top 27)) s.heap.objs.size f cdv))) :
    EvSs (cxOf (L2.CX P w) P w K mg base N_rests_of "rests_of" (defScope (top 27)) f cdv A outer s H E) (WO E) (cvE K) (defBody (top 27)) (m_rests_of c_mould_of c_need_sentence c_price_of_item) :=
  have nd := sc_rests_of.nd
  es_cons (es_asg (ea_e (i := 3) nd (ev_call k_mould_of (hr.mono (by omega)) (takes_of rfl rfl rfl rfl) (eva_cons (ev_var (i := 0)) (eva_cons (ev_var (i := 1)) (eva_nil))))))
  (es_cons (es_drop (ev_call k_need_sentence (hr.mono (by omega)) (takes_of rfl rfl rfl rfl) (eva_cons (ev_var (i := 2)) (eva_nil))))
  (es_cons (es_asg (ea_comp (i := 4) (own := [("at", 8)]) rfl nd (ei_rng1 h.b_range (eva_cons (ev_op op_addT pr_add.c (ec_len h.b_len (eva_cons (ev_var (i := 2)) (eva_nil))) (ev_int)) (eva_nil))) (fun _ _ _ _ _ => eg_name (i := 8) nd) (fun _ _ _ _ _ => ets_nil) (fun _ _ _ _ _ => ev_op op_mulT pr_mul.c (ev_glob h.c_PUT (fun _ _ => .int _)) (ev_op op_sub pr_sub.c (ec_len h.b_len (eva_cons (ev_var (i := 2)) (eva_nil))) (ev_var (i := 8)))) (blkOk_by (N := N_rests_of) (sc := defScope (top 27)) (by decide +kernel)) rfl (sw_true (l := 0) rfl rfl rfl (by decide +kernel))))
  (es_cons (es_asg (ea_e (i := 5) nd (ev_lst (eva_cons (ev_var (i := 4)) (eva_nil)))))
  (es_cons (es_for (vs := [6]) (passes_of rfl) rfl (ei_rng3 h.b_range (eva_cons (ev_op op_sub pr_sub.c (ec_len h.b_len (eva_cons (ev_var (i := 0)) (eva_nil))) (ev_int)) (eva_cons (ev_neg (ev_int)) (eva_cons (ev_neg (ev_int)) (eva_nil))))) (eg_name (i := 6) nd) (es_cons (es_asg (ea_e (i := 7) nd (ev_lst (eva_cons (ev_op op_addT pr_add.c (ev_ix (ix_all (hu65 hr)) pr_ix.c (ev_var (i := 4)) (ev_neg (ev_int))) (ev_glob h.c_CUT (fun _ _ => .int _))) (eva_nil)))))
  (es_cons (es_for (vs := [8]) (passes_of rfl) rfl (ei_rng3 h.b_range (eva_cons (ev_op op_sub pr_sub.c (ec_len h.b_len (eva_cons (ev_var (i := 2)) (eva_nil))) (ev_int)) (eva_cons (ev_neg (ev_int)) (eva_cons (ev_neg (ev_int)) (eva_nil))))) (eg_name (i := 8) nd) (es_cons (es_asg (ea_e (i := 9) nd (ev_op op_addT pr_add.c (ev_ix (ix_all (hu65 hr)) pr_ix.c (ev_var (i := 4)) (ev_op op_addT pr_add.c (ev_var (i := 8)) (ev_int))) (ev_call k_price_of_item (hr.mono (by omega)) (takes_of rfl rfl rfl rfl) (eva_cons (ev_ix (ix_all (hu65 hr)) pr_ix.c (ev_var (i := 3)) (ev_var (i := 6))) (eva_cons (ev_ix (ix_all (hu65 hr)) pr_ix.c (ev_var (i := 0)) (ev_var (i := 6))) (eva_cons (ev_ix (ix_all (hu65 hr)) pr_ix.c (ev_var (i := 2)) (ev_var (i := 8))) (eva_nil))))))))
  (es_one (es_drop (ev_insert (ev_var (i := 7)) (eva_cons (ev_int) (eva_cons (ec_min3 rfl h.b_min (eva_cons (ev_var (i := 9)) (eva_cons (ev_op op_addT pr_add.c (ev_ix (ix_all (hu65 hr)) pr_ix.c (ev_var (i := 4)) (ev_var (i := 8))) (ev_glob h.c_CUT (fun _ _ => .int _))) (eva_cons (ev_op op_addT pr_add.c (ev_ix (ix_all (hu65 hr)) pr_ix.c (ev_var (i := 7)) (ev_int)) (ev_glob h.c_PUT (fun _ _ => .int _))) (eva_nil))))) (eva_nil))))))))
  (es_cons (es_asg (ea_e (i := 4) nd (ev_var (i := 7))))
  (es_one (es_drop (ev_insert (ev_var (i := 5)) (eva_cons (ev_int) (eva_cons (ev_var (i := 4)) (eva_nil))))))))))
  (es_one (es_ret (ev_var (i := 5))))))))
theorem fd_rests_of {fd : FuncData} (h : Fx K mg) (D : FunD K "rests_of" "rests_of" (defArgs (top 27)) (defBody (top 27)) (defScope (top 27)) [] [] f fd) (hm : mg "rests_of" = some (.ref f)) (k_mould_of : Fd P w K mg base (cvE K) 7 "mould_of" 2 f_mould_of) (k_need_sentence : Fd P w K mg base (cvE K) 3 "need_sentence" 1 f_need_sentence) (k_price_of_item : Fd P w K mg base (cvE K) 2 "price_of_item" 3 f_price_of_item) : Fd P w K mg base (cvE K) 8 "rests_of" 3 f_rests_of := by
  unfold f_rests_of
  exact ⟨f, fd, ["one", "other", "sentence"], hm, D.kp, D.bindsN fun _ _ _ _ _ _ us hl => match us, hl with | [_, _, _], _ => rfl, fn_vi D sc_rests_of fun cdv A outer s H E hr => ev_rests_of h k_mould_of (by omega) k_need_sentence (by omega) k_price_of_item (by omega) hr⟩
theorem fn_rests_of {fd : FuncData} (h : Fx K mg) (D : FunD K "rests_of" "rests_of" (defArgs (top 27)) (defBody (top 27)) (defScope (top 27)) [] [] f fd) (hm : mg "rests_of" = some (.ref f)) (k_mould_of : Fd P w K mg base (cvE K) 7 "mould_of" 2 f_mould_of) (k_need_sentence : Fd P w K mg base (cvE K) 3 "need_sentence" 1 f_need_sentence) (k_price_of_item : Fd P w K mg base (cvE K) 2 "price_of_item" 3 f_price_of_item) : FnOk P w K mg base (L2.CX P w) 8 f fd ["one", "other", "sentence"] (spF K (cvE K) 3 f_rests_of) := by
  unfold f_rests_of
  exact fn_vi D sc_rests_of fun cdv A outer s H E hr => ev_rests_of h k_mould_of (by omega) k_need_sentence (by omega) k_price_of_item (by omega) hr
def N_price : List Str := ["one", "other", "sentence"]
def m_price (c_rests_of : FS) : MS := mRet (mOp2 gIx (mOp2 gIx (mCall c_rests_of [mSl 0, mSl 1, mSl 2]) (mC (.int 0))) (mC (.int 0)))
theorem sc_price : FnScope N_price ["one", "other", "sentence"] (defScope (top 28)) := ⟨rfl, rfl, rfl, by decide +kernel, rfl, by decide +kernel, by decide +kernel⟩
@[irreducible] def f_price : FS := runF 3 (m_price f_rests_of)
theorem ev_price {c_rests_of : FS} {j_rests_of : Nat} {k : Nat} (h : Fx K mg) (k_rests_of : Fd P w K mg base (cvE K) j_rests_of "rests_of" 3 c_rests_of) (l_rests_of : j_rests_of ≤ k) {cdv : Value} {A : Around} {outer : List Env} {s : Shared} {H : Hp} {E : XK} (hr : Room k (A.deeper (envOfC "price" (defScope (top 28)) s.heap.objs.size f cdv))) :
    EvSs (cxOf (L2.CX P w) P w K mg base N_price "price" (defScope (top 28)) f cdv A outer s H E) (WO E) (cvE K) (defBody (top 28)) (m_price c_rests_of) :=
  have nd := sc_price.nd
  es_one (es_ret (ev_ix (ix_all (hu65 hr)) pr_ix.c (ev_ix (ix_all (hu65 hr)) pr_ix.c (ev_call k_rests_of (hr.mono (by omega)) (takes_of rfl rfl rfl rfl) (eva_cons (ev_var (i := 0)) (eva_cons (ev_var (i := 1)) (eva_cons (ev_var (i := 2)) (eva_nil))))) (ev_int)) (ev_int)))
theorem fd_price {fd : FuncData} (h : Fx K mg) (D : FunD K "price" "price" (defArgs (top 28)) (defBody (top 28)) (defScope (top 28)) [] [] f fd) (hm : mg "price" = some (.ref f)) (k_rests_of : Fd P w K mg base (cvE K) 8 "rests_of" 3 f_rests_of) : Fd P w K mg base (cvE K) 9 "price" 3 f_price := by
  unfold f_price
  exact ⟨f, fd, ["one", "other", "sentence"], hm, D.kp, D.bindsN fun _ _ _ _ _ _ us hl => match us, hl with | [_, _, _], _ => rfl, fn_vi D sc_price fun cdv A outer s H E hr => ev_price h k_rests_of (by omega) hr⟩
theorem fn_price {fd : FuncData} (h : Fx K mg) (D : FunD K "price" "price" (defArgs (top 28)) (defBody (top 28)) (defScope (top 28)) [] [] f fd) (hm : mg "price" = some (.ref f)) (k_rests_of : Fd P w K mg base (cvE K) 8 "rests_of" 3 f_rests_of) : FnOk P w K mg base (L2.CX P w) 9 f fd ["one", "other", "sentence"] (spF K (cvE K) 3 f_price) := by
  unfold f_price
  exact fn_vi D sc_price fun cdv A outer s H E hr => ev_price h k_rests_of (by omega) hr
def N__law_well : List Str := ["script", "k", "cell", "primes", "seed"]
def m__law_well  : MS := mSeq (mAsg 2 (mC (.int 0)))
  (mSeq (mIfS (mT (mOp2 gLt (mSl 1) (mOpN gLen [mSl 0]))) (mAsg 2 (mOp2 gIx (mSl 0) (mSl 1))) (mPass))
  (mSeq (mAsg 3 (mLst [mC (.int 2147483647), mC (.int 2147483629), mC (.int 2147483587), mC (.int 2147483579), mC (.int 2147483563), mC (.int 2147483549), mC (.int 2147483543), mC (.int 2147483497)]))
  (mSeq (mAsg 4 (mOp2 gMod (mOp2 gMul (mOp2 gAdd (mOp2 gMod (mSl 2) (mC (.int 2147483489))) (mC (.int 1))) (mOp2 gAdd (mC (.int 48271)) (mOp2 gMul (mC (.int 2)) (mSl 1)))) (mC (.int 2147483489))))
  (mSeq (mAsg 4 (mOp2 gAdd (mOp2 gAdd (mOp2 gMod (mOp2 gMul (mSl 4) (mSl 4)) (mC (.int 2147483477))) (mSl 1)) (mC (.int 1))))
  (mSeq (mIfS (mT (mOp2 gGe (mSl 2) (mOp2 gPow (mC (.int 10)) (mC (.int 18))))) (mRet (mLst [mSl 2, mSl 4, mOp2 gIx (mSl 3) (mOp2 gMod (mSl 1) (mC (.int 8)))])) (mPass))
  (mRet (mLst [mC (.int 0), mSl 4, mOp2 gIx (mSl 3) (mOp2 gMod (mSl 1) (mC (.int 8)))])))))))
theorem sc__law_well : FnScope N__law_well ["script", "k"] (defScope (top 30)) := ⟨rfl, rfl, rfl, by decide +kernel, rfl, by decide +kernel, by decide +kernel⟩
@[irreducible] def f__law_well : FS := runF 5 (m__law_well )
theorem ev__law_well   {k : Nat} (h : Fx K mg)  {cdv : Value} {A : Around} {outer : List Env} {s : Shared} {H : Hp} {E : XK} (hr : Room k (A.deeper (envOfC "_law_well" (defScope (top 30)) s.heap.objs.size f cdv))) :
    EvSs (cxOf (L2.CX P w) P w K mg base N__law_well "_law_well" (defScope (top 30)) f cdv A outer s H E) (WO E) (cvE K) (defBody (top 30)) (m__law_well ) :=
  have nd := sc__law_well.nd
  es_cons (es_asg (ea_e (i := 2) nd (ev_int)))
  (es_cons (es_if (evt_cmp op_ltT pr_lt.c (ev_var (i := 1)) (ec_len h.b_len (eva_cons (ev_var (i := 0)) (eva_nil)))) (es_one (es_asg (ea_e (i := 2) nd (ev_ix (ix_all (hu65 hr)) pr_ix.c (ev_var (i := 0)) (ev_var (i := 1)))))) (es_nil))
  (es_cons (es_asg (ea_e (i := 3) nd (ev_lst (eva_cons (ev_int) (eva_cons (ev_int) (eva_cons (ev_int) (eva_cons (ev_int) (eva_cons (ev_int) (eva_cons (ev_int) (eva_cons (ev_int) (eva_cons (ev_int) (eva_nil))))))))))))
  (es_cons (es_asg (ea_e (i := 4) nd (ev_op op_mod pr_mod.c (ev_op op_mulT pr_mul.c (ev_op op_addT pr_add.c (ev_op op_mod pr_mod.c (ev_var (i := 2)) (ev_int)) (ev_int)) (ev_op op_addT pr_add.c (ev_int) (ev_op op_mulT pr_mul.c (ev_int) (ev_var (i := 1))))) (ev_int))))
  (es_cons (es_asg (ea_e (i := 4) nd (ev_op op_addT pr_add.c (ev_op op_addT pr_add.c (ev_op op_mod pr_mod.c (ev_op op_mulT pr_mul.c (ev_var (i := 4)) (ev_var (i := 4))) (ev_int)) (ev_var (i := 1))) (ev_int))))
  (es_cons (es_if (evt_cmp op_geT pr_ge.c (ev_var (i := 2)) (ev_op op_pow pr_pow.c (ev_int) (ev_int))) (es_one (es_ret (ev_lst (eva_cons (ev_var (i := 2)) (eva_cons (ev_var (i := 4)) (eva_cons (ev_ix (ix_all (hu65 hr)) pr_ix.c (ev_var (i := 3)) (ev_op op_mod pr_mod.c (ev_var (i := 1)) (ev_int))) (eva_nil))))))) (es_nil))
  (es_one (es_ret (ev_lst (eva_cons (ev_int) (eva_cons (ev_var (i := 4)) (eva_cons (ev_ix (ix_all (hu65 hr)) pr_ix.c (ev_var (i := 3)) (ev_op op_mod pr_mod.c (ev_var (i := 1)) (ev_int))) (eva_nil))))))))))))
theorem fd__law_well {fd : FuncData} (h : Fx K mg) (D : FunD K "_law_well" "_law_well" (defArgs (top 30)) (defBody (top 30)) (defScope (top 30)) [] [] f fd) (hm : mg "_law_well" = some (.ref f))  : Fd P w K mg base (cvE K) 1 "_law_well" 2 f__law_well := by
  unfold f__law_well
  exact ⟨f, fd, ["script", "k"], hm, D.kp, D.bindsN fun _ _ _ _ _ _ us hl => match us, hl with | [_, _], _ => rfl, fn_vi D sc__law_well fun cdv A outer s H E hr => ev__law_well h  hr⟩
theorem fn__law_well {fd : FuncData} (h : Fx K mg) (D : FunD K "_law_well" "_law_well" (defArgs (top 30)) (defBody (top 30)) (defScope (top 30)) [] [] f fd) (hm : mg "_law_well" = some (.ref f))  : FnOk P w K mg base (L2.CX P w) 1 f fd ["script", "k"] (spF K (cvE K) 2 f__law_well) := by
  unfold f__law_well
  exact fn_vi D sc__law_well fun cdv A outer s H E hr => ev__law_well h  hr
def N__law_take : List Str := ["well", "many", "got"]
def m__law_take  : MS := mSeq (mIfS (mT (mOp2 gGt (mOp2 gIx (mSl 0) (mC (.int 0))) (mC (.int 0)))) (mSeq (mAsg 2 (mOp2 gMod (mOp2 gIx (mSl 0) (mC (.int 0))) (mSl 1)))
  (mSeq (mSub (mSl 0) (mC (.int 0)) (mOp2 gDiv (mOp2 gIx (mSl 0) (mC (.int 0))) (mSl 1)))
  (mRet (mSl 2)))) (mPass))
  (mSeq (mSub (mSl 0) (mC (.int 1)) (mOp2 gAdd (mOp2 gMod (mOp2 gMul (mOp2 gIx (mSl 0) (mC (.int 1))) (mC (.int 48271))) (mOp2 gIx (mSl 0) (mC (.int 2)))) (mC (.int 1))))
  (mRet (mOp2 gMod (mOp2 gDiv (mOp2 gMod (mOp2 gMul (mOp2 gIx (mSl 0) (mC (.int 1))) (mOp2 gIx (mSl 0) (mC (.int 1)))) (mC (.int 2147483423))) (mC (.int 7))) (mSl 1))))
theorem sc__law_take : FnScope N__law_take ["well", "many"] (defScope (top 31)) := ⟨rfl, rfl, rfl, by decide +kernel, rfl, by decide +kernel, by decide +kernel⟩
@[irreducible] def f__law_take : FS := runF 3 (m__law_take )
theorem ev__law_take   {k : Nat} (h : Fx K mg)  {cdv : Value} {A : Around} {outer : List Env} {s : Shared} {H : Hp} {E : XK} (hr : Room k (A.deeper (envOfC "_law_take" (defScope (top 31)) s.heap.objs.size f cdv))) :
    EvSs (cxOf (L2.CX P w) P w K mg base N__law_take "_law_take" (defScope (top 31)) f cdv A outer s H E) (WO E) (cvE K) (defBody (top 31)) (m__law_take ) :=
  have nd := sc__law_take.nd
  es_cons (es_if (evt_cmp op_gtT pr_gt.c (ev_ix (ix_all (hu65 hr)) pr_ix.c (ev_var (i := 0)) (ev_int)) (ev_int)) (es_cons (es_asg (ea_e (i := 2) nd (ev_op op_mod pr_mod.c (ev_ix (ix_all (hu65 hr)) pr_ix.c (ev_var (i := 0)) (ev_int)) (ev_var (i := 1)))))
  (es_cons (es_sub (hu1 hr) (ev_var (i := 0)) (ev_int) (ev_op op_fdivW pr_div.c (ev_ix (ix_all (hu65 hr)) pr_ix.c (ev_var (i := 0)) (ev_int)) (ev_var (i := 1))))
  (es_one (es_ret (ev_var (i := 2)))))) (es_nil))
  (es_cons (es_sub (hu1 hr) (ev_var (i := 0)) (ev_int) (ev_op op_addT pr_add.c (ev_op op_mod pr_mod.c (ev_op op_mulT pr_mul.c (ev_ix (ix_all (hu65 hr)) pr_ix.c (ev_var (i := 0)) (ev_int)) (ev_int)) (ev_ix (ix_all (hu65 hr)) pr_ix.c (ev_var (i := 0)) (ev_int))) (ev_int)))
  (es_one (es_ret (ev_op op_mod pr_mod.c (ev_op op_fdivW pr_div.c (ev_op op_mod pr_mod.c (ev_op op_mulT pr_mul.c (ev_ix (ix_all (hu65 hr)) pr_ix.c (ev_var (i := 0)) (ev_int)) (ev_ix (ix_all (hu65 hr)) pr_ix.c (ev_var (i := 0)) (ev_int))) (ev_int)) (ev_int)) (ev_var (i := 1))))))
theorem fd__law_take {fd : FuncData} (h : Fx K mg) (D : FunD K "_law_take" "_law_take" (defArgs (top 31)) (defBody (top 31)) (defScope (top 31)) [] [] f fd) (hm : mg "_law_take" = some (.ref f))  : Fd P w K mg base (cvE K) 1 "_law_take" 2 f__law_take := by
  unfold f__law_take
  exact ⟨f, fd, ["well", "many"], hm, D.kp, D.bindsN fun _ _ _ _ _ _ us hl => match us, hl with | [_, _], _ => rfl, fn_vi D sc__law_take fun cdv A outer s H E hr => ev__law_take h  hr⟩
theorem fn__law_take {fd : FuncData} (h : Fx K mg) (D : FunD K "_law_take" "_law_take" (defArgs (top 31)) (defBody (top 31)) (defScope (top 31)) [] [] f fd) (hm : mg "_law_take" = some (.ref f))  : FnOk P w K mg base (L2.CX P w) 1 f fd ["well", "many"] (spF K (cvE K) 2 f__law_take) := by
  unfold f__law_take
  exact fn_vi D sc__law_take fun cdv A outer s H E hr => ev__law_take h  hr
def N__law_kind : List Str := ["word", "rest", "sign"]
def m__law_kind  : MS := mSeq (mIfS (mT (mOp2c gEq (mComp [2] (mItr (mSl 0)) (fNm 2) (mT (mOp2c gNotIn (mSl 2) (mC (.str [48, 49, 50, 51, 52, 53, 54, 55, 56, 57])))) (mSl 2)) (mLst []))) (mSeq (mIfS (bAnd (mT (mOp2 gLt (mOpN gLen [mSl 0]) (mC (.int 13)))) (bOr (mT (mOp2c gEq (mOpN gLen [mSl 0]) (mC (.int 1)))) (mT (mOp2c gNe (mOp2 gIx (mSl 0) (mC (.int 0))) (mC (.str [48])))))) (mRet (mC (.str [110, 117, 109, 98, 101, 114]))) (mPass))
  (mRet (mC (.str [112, 108, 97, 105, 110])))) (mPass))
  (mSeq (mAsg 1 (mComp [2] (mItr (mSlc (mSl 0) (some (mC (.int 1))) none)) (fNm 2) (mT (mOp2c gNotIn (mSl 2) (mC (.str [97, 98, 99, 100, 101, 102, 103, 104, 105, 106, 107, 108, 109, 110, 111, 112, 113, 114, 115, 116, 117, 118, 119, 120, 121, 122])))) (mSl 2)))
  (mSeq (mIfS (bAnd (mT (mOp2 gGt (mOpN gLen [mSl 0]) (mC (.int 1)))) (bAnd (mT (mOp2c gIn (mOp2 gIx (mSl 0) (mC (.int 0))) (mC (.str [65, 66, 67, 68, 69, 70, 71, 72, 73, 74, 75, 76, 77, 78, 79, 80, 81, 82, 83, 84, 85, 86, 87, 88, 89, 90])))) (mT (mOp2c gEq (mSl 1) (mLst []))))) (mRet (mC (.str [110, 97, 109, 101]))) (mPass))
  (mRet (mC (.str [112, 108, 97, 105, 110])))))
theorem sc__law_kind : FnScope N__law_kind ["word"] (defScope (top 32)) := ⟨rfl, rfl, rfl, by decide +kernel, rfl, by decide +kernel, by decide +kernel⟩
@[irreducible] def f__law_kind : FS := runF 3 (m__law_kind )
theorem ev__law_kind   {k : Nat} (h : Fx K mg)  {cdv : Value} {A : Around} {outer : List Env} {s : Shared} {H : Hp} {E : XK} (hr : Room k (A.deeper (envOfC "_law_kind" (defScope (top 32)) s.heap.objs.size f cdv))) :
    EvSs (cxOf (L2.CX P w) P w K mg base N__law_kind "_law_kind" (defScope (top 32)) f cdv A outer s H E) (WO E) (cvE K) (defBody (top 32)) (m__law_kind ) :=
  have nd := sc__law_kind.nd
  es_cons (es_if (evt_cmp (op_eqD hr.units) pr_eq (ev_comp (own := [("sign", 2)]) rfl nd (ei_val (ev_var (i := 0))) (fun _ _ _ _ _ => eg_name (i := 2) nd) (fun _ _ _ _ _ => ets_one (evt_cmp (op_notInT (hu65 hr)) pr_notIn (ev_var (i := 2)) (ev_str [48, 49, 50, 51, 52, 53, 54, 55, 56, 57]))) (fun _ _ _ _ _ => ev_var (i := 2)) (blkOk_by (N := N__law_kind) (sc := defScope (top 32)) (by decide +kernel))) (ev_lst (eva_nil))) (es_cons (es_if (evt_w (evw_and (evt_cmp op_ltT pr_lt.c (ec_len h.b_len (eva_cons (ev_var (i := 0)) (eva_nil))) (ev_int)) (evw_and1 (evt_w (evw_or (evt_cmp (op_eqD hr.units) pr_eq (ec_len h.b_len (eva_cons (ev_var (i := 0)) (eva_nil))) (ev_int)) (evw_or1 (evt_cmp (op_neD hr.units) pr_ne (ev_ix (ix_all (hu65 hr)) pr_ix.c (ev_var (i := 0)) (ev_int)) (ev_str [48])))))))) (es_one (es_ret (ev_str [110, 117, 109, 98, 101, 114]))) (es_nil))
  (es_one (es_ret (ev_str [112, 108, 97, 105, 110])))) (es_nil))
  (es_cons (es_asg (ea_comp (i := 1) (own := [("sign", 2)]) rfl nd (ei_val (ev_slc (ev_var (i := 0)) (evp_some (ev_int)) evp_none)) (fun _ _ _ _ _ => eg_name (i := 2) nd) (fun _ _ _ _ _ => ets_one (evt_cmp (op_notInT (hu65 hr)) pr_notIn (ev_var (i := 2)) (ev_str [97, 98, 99, 100, 101, 102, 103, 104, 105, 106, 107, 108, 109, 110, 111, 112, 113, 114, 115, 116, 117, 118, 119, 120, 121, 122]))) (fun _ _ _ _ _ => ev_var (i := 2)) (blkOk_by (N := N__law_kind) (sc := defScope (top 32)) (by decide +kernel)) rfl (sw_true (l := 0) rfl rfl rfl (by decide +kernel))))
  (es_cons (es_if (evt_w (evw_and (evt_cmp op_gtT pr_gt.c (ec_len h.b_len (eva_cons (ev_var (i := 0)) (eva_nil))) (ev_int)) (evw_and (evt_cmp (op_inT (hu65 hr)) pr_in (ev_ix (ix_all (hu65 hr)) pr_ix.c (ev_var (i := 0)) (ev_int)) (ev_str [65, 66, 67, 68, 69, 70, 71, 72, 73, 74, 75, 76, 77, 78, 79, 80, 81, 82, 83, 84, 85, 86, 87, 88, 89, 90])) (evw_and1 (evt_cmp (op_eqD hr.units) pr_eq (ev_var (i := 1)) (ev_lst (eva_nil))))))) (es_one (es_ret (ev_str [110, 97, 109, 101]))) (es_nil))
  (es_one (es_ret (ev_str [112, 108, 97, 105, 110])))))
theorem fd__law_kind {fd : FuncData} (h : Fx K mg) (D : FunD K "_law_kind" "_law_kind" (defArgs (top 32)) (defBody (top 32)) (defScope (top 32)) [] [] f fd) (hm : mg "_law_kind" = some (.ref f))  : Fd P w K mg base (cvE K) 1 "_law_kind" 1 f__law_kind := by
  unfold f__law_kind
  exact ⟨f, fd, ["word"], hm, D.kp, D.bindsN fun _ _ _ _ _ _ us hl => match us, hl with | [_], _ => rfl, fn_vi D sc__law_kind fun cdv A outer s H E hr => ev__law_kind h  hr⟩
theorem fn__law_kind {fd : FuncData} (h : Fx K mg) (D : FunD K "_law_kind" "_law_kind" (defArgs (top 32)) (defBody (top 32)) (defScope (top 32)) [] [] f fd) (hm : mg "_law_kind" = some (.ref f))  : FnOk P w K mg base (L2.CX P w) 1 f fd ["word"] (spF K (cvE K) 1 f__law_kind) := by
  unfold f__law_kind
  exact fn_vi D sc__law_kind fun cdv A outer s H E hr => ev__law_kind h  hr
def N__law_leads : List Str := ["one", "other", "taken", "leads", "end", "some", "k"]
def m__law_leads (c__law_kind : FS) : MS := mSeq (mAsg 2 (mLst []))
  (mSeq (mAsg 3 (mLst []))
  (mSeq (mFor (mRng1 [mOpN gLen [mSl 1]]) (fNm 4) (mIfS (mT (mOp2c gNe (mCall c__law_kind [mOp2 gIx (mSl 1) (mSl 4)]) (mC (.str [112, 108, 97, 105, 110])))) (mSeq (mAsg 5 (mComp [6] (mRng1 [mOpN gLen [mSl 0]]) (fNm 6) (bAnd (mT (mOp2c gEq (mOp2 gIx (mSl 0) (mSl 6)) (mOp2 gIx (mSl 1) (mSl 4)))) (mT (mOp2c gNotIn (mSl 6) (mSl 2)))) (mSl 6)))
  (mIfS (mT (mOp2c gNe (mSl 5) (mLst []))) (mSeq (mDrop (mMeth gApp (mSl 2) [mOp2 gIx (mSl 5) (mC (.int 0))]))
  (mDrop (mMeth gApp (mSl 3) [mTup [mOp2 gIx (mSl 5) (mC (.int 0)), mSl 4]]))) (mPass))) (mPass)))
  (mRet (mSl 3))))
theorem sc__law_leads : FnScope N__law_leads ["one", "other"] (defScope (top 33)) := ⟨rfl, rfl, rfl, by decide +kernel, rfl, by decide +kernel, by decide +kernel⟩
@[irreducible] def f__law_leads : FS := runF 7 (m__law_leads f__law_kind)
theorem ev__law_leads {c__law_kind : FS} {j__law_kind : Nat} {k : Nat} (h : Fx K mg) (k__law_kind : Fd P w K mg base (cvE K) j__law_kind "_law_kind" 1 c__law_kind) (l__law_kind : j__law_kind ≤ k) {cdv : Value} {A : Around} {outer : List Env} {s : Shared} {H : Hp} {E : XK} (hr : Room k (A.deeper (envOfC "_law_leads" (defScope (top 33)) s.heap.objs.size f cdv))) :
    EvSs (cxOf (L2.CX P w) P w K mg base N__law_leads "_law_leads" (defScope (top 33)) f cdv A outer s H E) (WO E) (cvE K) (defBody (top 33)) (m__law_leads c__law_kind) :=
  have nd := sc__law_leads.nd
  es_cons (es_asg (ea_e (i := 2) nd (ev_lst (eva_nil))))
  (es_cons (es_asg (ea_e (i := 3) nd (ev_lst (eva_nil))))
  (es_cons (es_for (vs := [4]) (passes_of rfl) rfl (ei_rng1 h.b_range (eva_cons (ec_len h.b_len (eva_cons (ev_var (i := 1)) (eva_nil))) (eva_nil))) (eg_name (i := 4) nd) (es_one (es_if (evt_cmp (op_neD hr.units) pr_ne (ev_call k__law_kind (hr.mono (by omega)) (takes_of rfl rfl rfl rfl) (eva_cons (ev_ix (ix_all (hu65 hr)) pr_ix.c (ev_var (i := 1)) (ev_var (i := 4))) (eva_nil))) (ev_str [112, 108, 97, 105, 110])) (es_cons (es_asg (ea_comp (i := 5) (own := [("k", 6)]) rfl nd (ei_rng1 h.b_range (eva_cons (ec_len h.b_len (eva_cons (ev_var (i := 0)) (eva_nil))) (eva_nil))) (fun _ _ _ _ _ => eg_name (i := 6) nd) (fun _ _ _ _ _ => ets_one (evt_w (evw_and (evt_cmp (op_eqD hr.units) pr_eq (ev_ix (ix_all (hu65 hr)) pr_ix.c (ev_var (i := 0)) (ev_var (i := 6))) (ev_ix (ix_all (hu65 hr)) pr_ix.c (ev_var (i := 1)) (ev_var (i := 4)))) (evw_and1 (evt_cmp (op_notInT (hu65 hr)) pr_notIn (ev_var (i := 6)) (ev_var (i := 2))))))) (fun _ _ _ _ _ => ev_var (i := 6)) (blkOk_by (N := N__law_leads) (sc := defScope (top 33)) (by decide +kernel)) rfl (sw_true (l := 0) rfl rfl rfl (by decide +kernel))))
  (es_one (es_if (evt_cmp (op_neD hr.units) pr_ne (ev_var (i := 5)) (ev_lst (eva_nil))) (es_cons (es_drop (ev_append (ev_var (i := 2)) (eva_cons (ev_ix (ix_all (hu65 hr)) pr_ix.c (ev_var (i := 5)) (ev_int)) (eva_nil))))
  (es_one (es_drop (ev_append (ev_var (i := 3)) (eva_cons (ev_tup (eva_cons (ev_ix (ix_all (hu65 hr)) pr_ix.c (ev_var (i := 5)) (ev_int)) (eva_cons (ev_var (i := 4)) (eva_nil)))) (eva_nil)))))) (es_nil)))) (es_nil))))
  (es_one (es_ret (ev_var (i := 3))))))
theorem fd__law_leads {fd : FuncData} (h : Fx K mg) (D : FunD K "_law_leads" "_law_leads" (defArgs (top 33)) (defBody (top 33)) (defScope (top 33)) [] [] f fd) (hm : mg "_law_leads" = some (.ref f)) (k__law_kind : Fd P w K mg base (cvE K) 1 "_law_kind" 1 f__law_kind) : Fd P w K mg base (cvE K) 2 "_law_leads" 2 f__law_leads := by
  unfold f__law_leads
  exact ⟨f, fd, ["one", "other"], hm, D.kp, D.bindsN fun _ _ _ _ _ _ us hl => match us, hl with | [_, _], _ => rfl, fn_vi D sc__law_leads fun cdv A outer s H E hr => ev__law_leads h k__law_kind (by omega) hr⟩
theorem fn__law_leads {fd : FuncData} (h : Fx K mg) (D : FunD K "_law_leads" "_law_leads" (defArgs (top 33)) (defBody (top 33)) (defScope (top 33)) [] [] f fd) (hm : mg "_law_leads" = some (.ref f)) (k__law_kind : Fd P w K mg base (cvE K) 1 "_law_kind" 1 f__law_kind) : FnOk P w K mg base (L2.CX P w) 2 f fd ["one", "other"] (spF K (cvE K) 2 f__law_leads) := by
  unfold f__law_leads
  exact fn_vi D sc__law_leads fun cdv A outer s H E hr => ev__law_leads h k__law_kind (by omega) hr
def N__law_mould : List Str := ["one", "other", "mould", "begin", "end"]
def m__law_mould (c__law_leads : FS) (c__law_kind : FS) : MS := mSeq (mAsg 2 (mOpN gList [mSl 0]))
  (mSeq (mFor (mItr (mCall c__law_leads [mSl 0, mSl 1])) (fTup 2 (fCons (fNm 3) (fCons (fNm 4) (fNil)))) (mSub (mSl 2) (mSl 3) (mTup [mCall c__law_kind [mOp2 gIx (mSl 0) (mSl 3)]])))
  (mRet (mSl 2)))
theorem sc__law_mould : FnScope N__law_mould ["one", "other"] (defScope (top 34)) := ⟨rfl, rfl, rfl, by decide +kernel, rfl, by decide +kernel, by decide +kernel⟩
@[irreducible] def f__law_mould : FS := runF 5 (m__law_mould f__law_leads f__law_kind)
theorem ev__law_mould {c__law_leads : FS} {c__law_kind : FS} {j__law_leads : Nat} {j__law_kind : Nat} {k : Nat} (h : Fx K mg) (k__law_leads : Fd P w K mg base (cvE K) j__law_leads "_law_leads" 2 c__law_leads) (l__law_leads : j__law_leads ≤ k) (k__law_kind : Fd P w K mg base (cvE K) j__law_kind "_law_kind" 1 c__law_kind) (l__law_kind : j__law_kind ≤ k) {cdv : Value} {A : Around} {outer : List Env} {s : Shared} {H : Hp} {E : XK} (hr : Room k (A.deeper (envOfC "_law_mould" (defScope (top 34)) s.heap.objs.size f cdv))) :
    EvSs (cxOf (L2.CX P w) P w K mg base N__law_mould "_law_mould" (defScope (top 34)) f cdv A outer s H E) (WO E) (cvE K) (defBody (top 34)) (m__law_mould c__law_leads c__law_kind) :=
  have nd := sc__law_mould.nd
  es_cons (es_asg (ea_e (i := 2) nd (ec_list h.b_list (eva_cons (ev_var (i := 0)) (eva_nil)))))
  (es_cons (es_for (vs := [3, 4]) (passes_of rfl) rfl (ei_val (ev_call k__law_leads (hr.mono (by omega)) (takes_of rfl rfl rfl rfl) (eva_cons (ev_var (i := 0)) (eva_cons (ev_var (i := 1)) (eva_nil))))) (eg_tup rfl (egs_cons (eg_name (i := 3) nd) (egs_cons (eg_name (i := 4) nd) (egs_nil)))) (es_one (es_sub (hu1 hr) (ev_var (i := 2)) (ev_var (i := 3)) (ev_tup (eva_cons (ev_call k__law_kind (hr.mono (by omega)) (takes_of rfl rfl rfl rfl) (eva_cons (ev_ix (ix_all (hu65 hr)) pr_ix.c (ev_var (i := 0)) (ev_var (i := 3))) (eva_nil))) (eva_nil))))))
  (es_one (es_ret (ev_var (i := 2)))))
theorem fd__law_mould {fd : FuncData} (h : Fx K mg) (D : FunD K "_law_mould" "_law_mould" (defArgs (top 34)) (defBody (top 34)) (defScope (top 34)) [] [] f fd) (hm : mg "_law_mould" = some (.ref f)) (k__law_leads : Fd P w K mg base (cvE K) 2 "_law_leads" 2 f__law_leads) (k__law_kind : Fd P w K mg base (cvE K) 1 "_law_kind" 1 f__law_kind) : Fd P w K mg base (cvE K) 3 "_law_mould" 2 f__law_mould := by
  unfold f__law_mould
  exact ⟨f, fd, ["one", "other"], hm, D.kp, D.bindsN fun _ _ _ _ _ _ us hl => match us, hl with | [_, _], _ => rfl, fn_vi D sc__law_mould fun cdv A outer s H E hr => ev__law_mould h k__law_leads (by omega) k__law_kind (by omega) hr⟩
theorem fn__law_mould {fd : FuncData} (h : Fx K mg) (D : FunD K "_law_mould" "_law_mould" (defArgs (top 34)) (defBody (top 34)) (defScope (top 34)) [] [] f fd) (hm : mg "_law_mould" = some (.ref f)) (k__law_leads : Fd P w K mg base (cvE K) 2 "_law_leads" 2 f__law_leads) (k__law_kind : Fd P w K mg base (cvE K) 1 "_law_kind" 1 f__law_kind) : FnOk P w K mg base (L2.CX P w) 3 f fd ["one", "other"] (spF K (cvE K) 2 f__law_mould) := by
  unfold f__law_mould
  exact fn_vi D sc__law_mould fun cdv A outer s H E hr => ev__law_mould h k__law_leads (by omega) k__law_kind (by omega) hr
def N__law_more : List Str := ["item", "kept", "word"]
def m__law_more (c__law_kind : FS) : MS := mSeq (mIfS (mT (mOp2c gEq (mSl 1) (mSl 2))) (mRet (mC (.int 0))) (mPass))
  (mRet (mIf (mT (mOp2c gEq (mSl 0) (mTup [mCall c__law_kind [mSl 2]]))) (mC (.int 1)) (mC (.int 3))))
theorem sc__law_more : FnScope N__law_more ["item", "kept", "word"] (defScope (top 35)) := ⟨rfl, rfl, rfl, by decide +kernel, rfl, by decide +kernel, by decide +kernel⟩
@[irreducible] def f__law_more : FS := runF 3 (m__law_more f__law_kind)
theorem ev__law_more {c__law_kind : FS} {j__law_kind : Nat} {k : Nat} (h : Fx K mg) (k__law_kind : Fd P w K mg base (cvE K) j__law_kind "_law_kind" 1 c__law_kind) (l__law_kind : j__law_kind ≤ k) {cdv : Value} {A : Around} {outer : List Env} {s : Shared} {H : Hp} {E : XK} (hr : Room k (A.deeper (envOfC "_law_more" (defScope (top 35)) s.heap.objs.size f cdv))) :
    EvSs (cxOf (L2.CX P w) P w K mg base N__law_more "_law_more" (defScope (top 35)) f cdv A outer s H E) (WO E) (cvE K) (defBody (top 35)) (m__law_more c__law_kind) :=
  have nd := sc__law_more.nd
  es_cons (es_if (evt_cmp (op_eqD hr.units) pr_eq (ev_var (i := 1)) (ev_var (i := 2))) (es_one (es_ret (ev_int))) (es_nil))
  (es_one (es_ret (ev_ifExp (evt_cmp (op_eqD hr.units) pr_eq (ev_var (i := 0)) (ev_tup (eva_cons (ev_call k__law_kind (hr.mono (by omega)) (takes_of rfl rfl rfl rfl) (eva_cons (ev_var (i := 2)) (eva_nil))) (eva_nil)))) (ev_int) (ev_int))))
theorem fd__law_more {fd : FuncData} (h : Fx K mg) (D : FunD K "_law_more" "_law_more" (defArgs (top 35)) (defBody (top 35)) (defScope (top 35)) [] [] f fd) (hm : mg "_law_more" = some (.ref f)) (k__law_kind : Fd P w K mg base (cvE K) 1 "_law_kind" 1 f__law_kind) : Fd P w K mg base (cvE K) 2 "_law_more" 3 f__law_more := by
  unfold f__law_more
  exact ⟨f, fd, ["item", "kept", "word"], hm, D.kp, D.bindsN fun _ _ _ _ _ _ us hl => match us, hl with | [_, _, _], _ => rfl, fn_vi D sc__law_more fun cdv A outer s H E hr => ev__law_more h k__law_kind (by omega) hr⟩
theorem fn__law_more {fd : FuncData} (h : Fx K mg) (D : FunD K "_law_more" "_law_more" (defArgs (top 35)) (defBody (top 35)) (defScope (top 35)) [] [] f fd) (hm : mg "_law_more" = some (.ref f)) (k__law_kind : Fd P w K mg base (cvE K) 1 "_law_kind" 1 f__law_kind) : FnOk P w K mg base (L2.CX P w) 2 f fd ["item", "kept", "word"] (spF K (cvE K) 3 f__law_more) := by
  unfold f__law_more
  exact fn_vi D sc__law_more fun cdv A outer s H E hr => ev__law_more h k__law_kind (by omega) hr
def N__law_rows : List Str := ["many", "rows", "k", "row"]
def m__law_rows  : MS := mSeq (mAsg 1 (mLst [mTup []]))
  (mSeq (mFor (mRng1 [mSl 0]) (fNm 2) (mAsg 1 (mOp2 gAdd (mSl 1) (mComp [3] (mItr (mSl 1)) (fNm 3) (bYes) (mOp2 gAdd (mSl 3) (mTup [mSl 2]))))))
  (mRet (mSl 1)))
theorem sc__law_rows : FnScope N__law_rows ["many"] (defScope (top 36)) := ⟨rfl, rfl, rfl, by decide +kernel, rfl, by decide +kernel, by decide +kernel⟩
@[irreducible] def f__law_rows : FS := runF 4 (m__law_rows )
theorem ev__law_rows   {k : Nat} (h : Fx K mg)  {cdv : Value} {A : Around} {outer : List Env} {s : Shared} {H : Hp} {E : XK} (hr : Room k (A.deeper (envOfC "_law_rows" (defScope (top 36)) s.heap.objs.size f cdv))) :
    EvSs (cxOf (L2.CX P w) P w K mg base N__law_rows "_law_rows" (defScope (top 36)) f cdv A outer s H E) (WO E) (cvE K) (defBody (top 36)) (m__law_rows ) :=
  have nd := sc__law_rows.nd
  es_cons (es_asg (ea_e (i := 1) nd (ev_lst (eva_cons (ev_tup (eva_nil)) (eva_nil)))))
  (es_cons (es_for (vs := [2]) (passes_of rfl) rfl (ei_rng1 h.b_range (eva_cons (ev_var (i := 0)) (eva_nil))) (eg_name (i := 2) nd) (es_one (es_asg (ea_e (i := 1) nd (ev_op op_addT pr_add.c (ev_var (i := 1)) (ev_comp (own := [("row", 3)]) rfl nd (ei_val (ev_var (i := 1))) (fun _ _ _ _ _ => eg_name (i := 3) nd) (fun _ _ _ _ _ => ets_nil) (fun _ _ _ _ _ => ev_op op_addT pr_add.c (ev_var (i := 3)) (ev_tup (eva_cons (ev_var (i := 2)) (eva_nil)))) (blkOk_by (N := N__law_rows) (sc := defScope (top 36)) (by decide +kernel))))))))
  (es_one (es_ret (ev_var (i := 1)))))
theorem fd__law_rows {fd : FuncData} (h : Fx K mg) (D : FunD K "_law_rows" "_law_rows" (defArgs (top 36)) (defBody (top 36)) (defScope (top 36)) [] [] f fd) (hm : mg "_law_rows" = some (.ref f))  : Fd P w K mg base (cvE K) 1 "_law_rows" 1 f__law_rows := by
  unfold f__law_rows
  exact ⟨f, fd, ["many"], hm, D.kp, D.bindsN fun _ _ _ _ _ _ us hl => match us, hl with | [_], _ => rfl, fn_vi D sc__law_rows fun cdv A outer s H E hr => ev__law_rows h  hr⟩
theorem fn__law_rows {fd : FuncData} (h : Fx K mg) (D : FunD K "_law_rows" "_law_rows" (defArgs (top 36)) (defBody (top 36)) (defScope (top 36)) [] [] f fd) (hm : mg "_law_rows" = some (.ref f))  : FnOk P w K mg base (L2.CX P w) 1 f fd ["many"] (spF K (cvE K) 1 f__law_rows) := by
  unfold f__law_rows
  exact fn_vi D sc__law_rows fun cdv A outer s H E hr => ev__law_rows h  hr
def N_law : List Str := ["script", "k", "well", "some", "one", "other", "sentence", "mould", "costs", "row", "met", "cost", "begin", "end", "j"]
def m_law (c__law_well : FS) (c__law_take : FS) (c__law_mould : FS) (c__law_rows : FS) (c__law_more : FS) (c_price : FS) : MS := mSeq (mFor (mRng1 [mOpN gMax [mC (.int 1), mOpN gMin [mC (.int 6), mOpN gLen [mSl 0]]]]) (fNm 1) (mSeq (mBox 2 (mCall c__law_well [mSl 0, mSl 1]))
  (mSeq (mAsg 3 (mSlc (mLst [mC (.str [97]), mC (.str [98]), mC (.str [65, 110, 110]), mC (.str [66, 111]), mC (.str [49]), mC (.str [50])]) (some (mCall c__law_take [mSl 2, mC (.int 3)])) none))
  (mSeq (mAsg 4 (mOpN gTuple [mComp [14] (mRng1 [mOp2 gAdd (mC (.int 1)) (mCall c__law_take [mSl 2, mC (.int 5)])]) (fNm 14) (bYes) (mOp2 gIx (mSl 3) (mCall c__law_take [mSl 2, mOpN gLen [mSl 3]]))]))
  (mSeq (mAsg 5 (mOpN gTuple [mComp [14] (mRng1 [mOp2 gAdd (mC (.int 1)) (mCall c__law_take [mSl 2, mC (.int 4)])]) (fNm 14) (bYes) (mOp2 gIx (mSl 3) (mCall c__law_take [mSl 2, mOpN gLen [mSl 3]]))]))
  (mSeq (mAsg 6 (mOpN gTuple [mComp [14] (mRng1 [mOp2 gAdd (mC (.int 1)) (mCall c__law_take [mSl 2, mC (.int 5)])]) (fNm 14) (bYes) (mOp2 gIx (mSl 3) (mCall c__law_take [mSl 2, mOpN gLen [mSl 3]]))]))
  (mSeq (mAsg 7 (mCall c__law_mould [mSl 4, mSl 5]))
  (mSeq (mAsg 8 (mLst []))
  (mSeq (mFor (mItr (mCall c__law_rows [mOpN gLen [mSl 4]])) (fNm 9) (mFor (mItr (mComp [10] (mItr (mCall c__law_rows [mOpN gLen [mSl 6]])) (fNm 10) (mT (mOp2c gEq (mOpN gLen [mSl 10]) (mOpN gLen [mSl 9]))) (mSl 10))) (fNm 10) (mSeq (mAsg 11 (mOp2 gMul (mC (.int 2)) (mOp2 gSub (mOp2 gAdd (mOpN gLen [mSl 4]) (mOpN gLen [mSl 6])) (mOp2 gMul (mC (.int 2)) (mOpN gLen [mSl 9])))))
  (mSeq (mFor (mZip [mSl 9, mSl 10]) (fTup 2 (fCons (fNm 12) (fCons (fNm 13) (fNil)))) (mAsg 11 (mOp2 gAdd (mSl 11) (mCall c__law_more [mOp2 gIx (mSl 7) (mSl 12), mOp2 gIx (mSl 4) (mSl 12), mOp2 gIx (mSl 6) (mSl 13)]))))
  (mDrop (mMeth gApp (mSl 8) [mSl 11]))))))
  (mIfS (mT (mOp2c gNe (mCall c_price [mSl 4, mSl 5, mSl 6]) (mOpN gMinL [mSl 8]))) (mRet (mC (.bl false))) (mPass)))))))))))
  (mRet (mC (.bl true)))
theorem sc_law : FnScope N_law ["script"] (defScope (top 37)) := ⟨rfl, rfl, rfl, by decide +kernel, rfl, by decide +kernel, by decide +kernel⟩
@[irreducible] def f_law : FS := runF 15 (m_law f__law_well f__law_take f__law_mould f__law_rows f__law_more f_price)
theorem ev_law {c__law_well : FS} {c__law_take : FS} {c__law_mould : FS} {c__law_rows : FS} {c__law_more : FS} {c_price : FS} {j__law_well : Nat} {j__law_take : Nat} {j__law_mould : Nat} {j__law_rows : Nat} {j__law_more : Nat} {j_price : Nat} {k : Nat} (h : Fx K mg) (k__law_well : Fd P w K mg base (cvE K) j__law_well "_law_well" 2 c__law_well) (l__law_well : j__law_well ≤ k) (k__law_take : Fd P w K mg base (cvE K) j__law_take "_law_take" 2 c__law_take) (l__law_take : j__law_take ≤ k) (k__law_mould : Fd P w K mg base (cvE K) j__law_mould "_law_mould" 2 c__law_mould) (l__law_mould : j__law_mould ≤ k) (k__law_rows : Fd P w K mg base (cvE K) j__law_rows "_law_rows" 1 c__law_rows) (l__law_rows : j__law_rows ≤ k) (k__law_more : Fd P w K mg base (cvE K) j__law_more "_law_more" 3 c__law_more) (l__law_more : j__law_more ≤ k) (k_price : Fd P w K mg base (cvE K) j_price "price" 3 c_price) (l_price : j_price ≤ k) {cdv : Value} {A : Around} {outer : List Env} {s : Shared} {H : Hp} {E : XK} (hr : Room k (A.deeper (envOfC "law" (defScope (top 37)) s.heap.objs.size f cdv))) :
    EvSs (cxOf (L2.CX P w) P w K mg base N_law "law" (defScope (top 37)) f cdv A outer s H E) (WO E) (cvE K) (defBody (top 37)) (m_law c__law_well c__law_take c__law_mould c__law_rows c__law_more c_price) :=
  have nd := sc_law.nd
  es_cons (es_for (vs := [1]) (passes_of rfl) rfl (ei_rng1 h.b_range (eva_cons (ec_max rfl h.b_max (eva_cons (ev_int) (eva_cons (ec_min rfl h.b_min (eva_cons (ev_int) (eva_cons (ec_len h.b_len (eva_cons (ev_var (i := 0)) (eva_nil))) (eva_nil)))) (eva_nil)))) (eva_nil))) (eg_name (i := 1) nd) (es_cons (es_box (ea_e (i := 2) nd (ev_call k__law_well (hr.mono (by omega)) (takes_of rfl rfl rfl rfl) (eva_cons (ev_var (i := 0)) (eva_cons (ev_var (i := 1)) (eva_nil))))))
  (es_cons (es_asg (ea_e (i := 3) nd (ev_slc (ev_lst (eva_cons (ev_str [97]) (eva_cons (ev_str [98]) (eva_cons (ev_str [65, 110, 110]) (eva_cons (ev_str [66, 111]) (eva_cons (ev_str [49]) (eva_cons (ev_str [50]) (eva_nil)))))))) (evp_some (ev_call k__law_take (hr.mono (by omega)) (takes_of rfl rfl rfl rfl) (eva_cons (ev_var (i := 2)) (eva_cons (ev_int) (eva_nil))))) evp_none)))
  (es_cons (es_asg (ea_e (i := 4) nd (ec_tuple h.b_tuple (eva_cons (ev_comp (own := [("j", 14)]) rfl nd (ei_rng1 h.b_range (eva_cons (ev_op op_addT pr_add.c (ev_int) (ev_call k__law_take (hr.mono (by omega)) (takes_of rfl rfl rfl rfl) (eva_cons (ev_var (i := 2)) (eva_cons (ev_int) (eva_nil))))) (eva_nil))) (fun _ _ _ _ _ => eg_name (i := 14) nd) (fun _ _ _ _ _ => ets_nil) (fun _ _ _ _ _ => ev_ix (ix_all (hu65 hr)) pr_ix.c (ev_var (i := 3)) (ev_call k__law_take (hr.mono (by omega)) takes0 (eva_cons (ev_var (i := 2)) (eva_cons (ec_len h.b_len (eva_cons (ev_var (i := 3)) (eva_nil))) (eva_nil))))) (blkOk_by (N := N_law) (sc := defScope (top 37)) (by decide +kernel))) (eva_nil)))))
  (es_cons (es_asg (ea_e (i := 5) nd (ec_tuple h.b_tuple (eva_cons (ev_comp (own := [("j", 14)]) rfl nd (ei_rng1 h.b_range (eva_cons (ev_op op_addT pr_add.c (ev_int) (ev_call k__law_take (hr.mono (by omega)) (takes_of rfl rfl rfl rfl) (eva_cons (ev_var (i := 2)) (eva_cons (ev_int) (eva_nil))))) (eva_nil))) (fun _ _ _ _ _ => eg_name (i := 14) nd) (fun _ _ _ _ _ => ets_nil) (fun _ _ _ _ _ => ev_ix (ix_all (hu65 hr)) pr_ix.c (ev_var (i := 3)) (ev_call k__law_take (hr.mono (by omega)) takes0 (eva_cons (ev_var (i := 2)) (eva_cons (ec_len h.b_len (eva_cons (ev_var (i := 3)) (eva_nil))) (eva_nil))))) (blkOk_by (N := N_law) (sc := defScope (top 37)) (by decide +kernel))) (eva_nil)))))
  (es_cons (es_asg (ea_e (i := 6) nd (ec_tuple h.b_tuple (eva_cons (ev_comp (own := [("j", 14)]) rfl nd (ei_rng1 h.b_range (eva_cons (ev_op op_addT pr_add.c (ev_int) (ev_call k__law_take (hr.mono (by omega)) (takes_of rfl rfl rfl rfl) (eva_cons (ev_var (i := 2)) (eva_cons (ev_int) (eva_nil))))) (eva_nil))) (fun _ _ _ _ _ => eg_name (i := 14) nd) (fun _ _ _ _ _ => ets_nil) (fun _ _ _ _ _ => ev_ix (ix_all (hu65 hr)) pr_ix.c (ev_var (i := 3)) (ev_call k__law_take (hr.mono (by omega)) takes0 (eva_cons (ev_var (i := 2)) (eva_cons (ec_len h.b_len (eva_cons (ev_var (i := 3)) (eva_nil))) (eva_nil))))) (blkOk_by (N := N_law) (sc := defScope (top 37)) (by decide +kernel))) (eva_nil)))))
  (es_cons (es_asg (ea_e (i := 7) nd (ev_call k__law_mould (hr.mono (by omega)) (takes_of rfl rfl rfl rfl) (eva_cons (ev_var (i := 4)) (eva_cons (ev_var (i := 5)) (eva_nil))))))
  (es_cons (es_asg (ea_e (i := 8) nd (ev_lst (eva_nil))))
  (es_cons (es_for (vs := [9]) (passes_of rfl) rfl (ei_val (ev_call k__law_rows (hr.mono (by omega)) (takes_of rfl rfl rfl rfl) (eva_cons (ec_len h.b_len (eva_cons (ev_var (i := 4)) (eva_nil))) (eva_nil)))) (eg_name (i := 9) nd) (es_one (es_for (vs := [10]) (passes_of rfl) rfl (ei_val (ev_comp (own := [("met", 10)]) rfl nd (ei_val (ev_call k__law_rows (hr.mono (by omega)) (takes_of rfl rfl rfl rfl) (eva_cons (ec_len h.b_len (eva_cons (ev_var (i := 6)) (eva_nil))) (eva_nil)))) (fun _ _ _ _ _ => eg_name (i := 10) nd) (fun _ _ _ _ _ => ets_one (evt_cmp (op_eqD hr.units) pr_eq (ec_len h.b_len (eva_cons (ev_var (i := 10)) (eva_nil))) (ec_len h.b_len (eva_cons (ev_var (i := 9)) (eva_nil))))) (fun _ _ _ _ _ => ev_var (i := 10)) (blkOk_by (N := N_law) (sc := defScope (top 37)) (by decide +kernel)))) (eg_name (i := 10) nd) (es_cons (es_asg (ea_e (i := 11) nd (ev_op op_mulT pr_mul.c (ev_int) (ev_op op_sub pr_sub.c (ev_op op_addT pr_add.c (ec_len h.b_len (eva_cons (ev_var (i := 4)) (eva_nil))) (ec_len h.b_len (eva_cons (ev_var (i := 6)) (eva_nil)))) (ev_op op_mulT pr_mul.c (ev_int) (ec_len h.b_len (eva_cons (ev_var (i := 9)) (eva_nil))))))))
  (es_cons (es_for (vs := [12, 13]) (passes_of rfl) rfl (ei_zip h.b_zip (eva_cons (ev_var (i := 9)) (eva_cons (ev_var (i := 10)) (eva_nil)))) (eg_tup rfl (egs_cons (eg_name (i := 12) nd) (egs_cons (eg_name (i := 13) nd) (egs_nil)))) (es_one (es_asg (ea_e (i := 11) nd (ev_op op_addT pr_add.c (ev_var (i := 11)) (ev_call k__law_more (hr.mono (by omega)) (takes_of rfl rfl rfl rfl) (eva_cons (ev_ix (ix_all (hu65 hr)) pr_ix.c (ev_var (i := 7)) (ev_var (i := 12))) (eva_cons (ev_ix (ix_all (hu65 hr)) pr_ix.c (ev_var (i := 4)) (ev_var (i := 12))) (eva_cons (ev_ix (ix_all (hu65 hr)) pr_ix.c (ev_var (i := 6)) (ev_var (i := 13))) (eva_nil))))))))))
  (es_one (es_drop (ev_append (ev_var (i := 8)) (eva_cons (ev_var (i := 11)) (eva_nil))))))))))
  (es_one (es_if (evt_cmp (op_neD hr.units) pr_ne (ev_call k_price (hr.mono (by omega)) (takes_of rfl rfl rfl rfl) (eva_cons (ev_var (i := 4)) (eva_cons (ev_var (i := 5)) (eva_cons (ev_var (i := 6)) (eva_nil))))) (ec_minL rfl h.b_min (eva_cons (ev_var (i := 8)) (eva_nil)))) (es_one (es_ret (ev_bl))) (es_nil))))))))))))
  (es_one (es_ret (ev_bl)))
theorem fd_law {fd : FuncData} (h : Fx K mg) (D : FunD K "law" "law" (defArgs (top 37)) (defBody (top 37)) (defScope (top 37)) [] [] f fd) (hm : mg "law" = some (.ref f)) (k__law_well : Fd P w K mg base (cvE K) 1 "_law_well" 2 f__law_well) (k__law_take : Fd P w K mg base (cvE K) 1 "_law_take" 2 f__law_take) (k__law_mould : Fd P w K mg base (cvE K) 3 "_law_mould" 2 f__law_mould) (k__law_rows : Fd P w K mg base (cvE K) 1 "_law_rows" 1 f__law_rows) (k__law_more : Fd P w K mg base (cvE K) 2 "_law_more" 3 f__law_more) (k_price : Fd P w K mg base (cvE K) 9 "price" 3 f_price) : Fd P w K mg base (cvE K) 10 "law" 1 f_law := by
  unfold f_law
  exact ⟨f, fd, ["script"], hm, D.kp, D.bindsN fun _ _ _ _ _ _ us hl => match us, hl with | [_], _ => rfl, fn_vi D sc_law fun cdv A outer s H E hr => ev_law h k__law_well (by omega) k__law_take (by omega) k__law_mould (by omega) k__law_rows (by omega) k__law_more (by omega) k_price (by omega) hr⟩
theorem fn_law {fd : FuncData} (h : Fx K mg) (D : FunD K "law" "law" (defArgs (top 37)) (defBody (top 37)) (defScope (top 37)) [] [] f fd) (hm : mg "law" = some (.ref f)) (k__law_well : Fd P w K mg base (cvE K) 1 "_law_well" 2 f__law_well) (k__law_take : Fd P w K mg base (cvE K) 1 "_law_take" 2 f__law_take) (k__law_mould : Fd P w K mg base (cvE K) 3 "_law_mould" 2 f__law_mould) (k__law_rows : Fd P w K mg base (cvE K) 1 "_law_rows" 1 f__law_rows) (k__law_more : Fd P w K mg base (cvE K) 2 "_law_more" 3 f__law_more) (k_price : Fd P w K mg base (cvE K) 9 "price" 3 f_price) : FnOk P w K mg base (L2.CX P w) 10 f fd ["script"] (spF K (cvE K) 1 f_law) := by
  unfold f_law
  exact fn_vi D sc_law fun cdv A outer s H E hr => ev_law h k__law_well (by omega) k__law_take (by omega) k__law_mould (by omega) k__law_rows (by omega) k__law_more (by omega) k_price (by omega) hr
end
end Vi

set_option Elab.async false
set_option linter.all false
set_option maxRecDepth 100000
namespace Vi
open PySem PySem.Spec PyProof.Rows L2

def okSign (c : Nat) : Bool := decide (33 ≤ c) && (decide (c ≤ 126) && !decide (c = 37))
def isWordP : T → Bool
  | .str x => decide (1 ≤ x.length) && (decide (x.length ≤ 20) && (!decide ([124] = x) && (!decide ([61] = x) && x.all okSign)))
  | _ => false
theorem is_word_ok (t : T) (ce : List T) (ht : (tyN t).isSome = true) (hs : ∀ x, t = .str x → x.length ≤ line) : IsV (f_is_word [.val t] ce) (.bl (isWordP t)) ce := by
  refine .of ?_
  unfold f_is_word runF
  refine WP.endF ?_
  cases t with
  | str x =>
    have hl := hs x rfl
    simp only [m_is_word, x_strI, Int.reduceEq, p10_1, p10_2, p10_3, p10_4, p10_5, p10_6, p10_7, p10_8, p10_9, p10_10, p10_11, p10_12, p10_13, p10_14, p10_15, p10_16, p10_17, p10_18, at_c0, at_c1, at_c2, at_c3, at_c4, at_c5, ix_30, ix_31, ix_32, subS, gSet, wr, ix_str, ix_lst, ix_tup, ix_ktup, ix_scr, gEq_str, gNe_str, gEq_int, gNe_int, gEq_bl, gIn_sign, gNotIn_sign, gAll_bls, lt_one, w_sl, w_c, w_op2, w_op1, w_evs0, w_evs1, o_rds0, o_rds1, w_opN, o_tks0, o_tks1, w_lst, w_tup, b_val, w_ite, w_mT, w_bAnd, w_bOr, w_bNot, w_bYes, w_and, w_or, w_not, w_if, w_ch, w_pt0, w_pt1, w_slc, w_call, w_meth, w_itr, w_rng1, w_rng2, w_rng3, w_enum, w_zip, s_seq, s_nx, s_rt, s_bk, s_ct, s_pass, s_brk, s_cnt, s_if, s_asg, s_drop, s_ret, s_retN, s_asgT, s_sub, s_box, s_for, o_some, o_none, o_ite, o_map, o_bind, wp_ok, wp_bad, z_val, z_new, z_bor, z_ali, r_non, r_bl, r_int, r_str, r_tup, r_lst, r_dk, r_dt, r_ktup, r_scr, r_glo, r_bor, r_new, r_ali, t_val, t_new, t_bor, t_ali, g_val, g_bor, g_new, g_ali, a_val, a_bor, a_ali, o_args0, o_args1, l_val, l_bor, l_ali, gAdd, gSub, mul_int, gMod, gDiv, gLt, gLe, gGt, gGe, gIsi, tyN, gLen, gNeg, gTuple, gList, gIsN, gNotN, gOrd, gMin, gMax, fNm, fTup, fCons, fNil, itemsOf, seqOf, k_NoneType_str, k_NoneType_tuple, k_NoneType_list, k_NoneType_int, k_NoneType_bool, k_NoneType_dict, k_bool_str, k_bool_tuple, k_bool_list, k_bool_int, k_bool_bool, k_bool_dict, k_int_str, k_int_tuple, k_int_list, k_int_int, k_int_bool, k_int_dict, k_str_str, k_str_tuple, k_str_list, k_str_int, k_str_bool, k_str_dict, k_tuple_str, k_tuple_tuple, k_tuple_list, k_tuple_int, k_tuple_bool, k_tuple_dict, k_list_str, k_list_tuple, k_list_list, k_list_int, k_list_bool, k_list_dict, k_dict_str, k_dict_tuple, k_dict_list, k_dict_int, k_dict_bool, k_dict_dict, slotOf, List.replicate, List.map_cons, List.map_nil, List.length_cons, List.length_nil, List.getElem?_cons_zero, List.getElem?_cons_succ, List.set_cons_zero, List.set_cons_succ, List.cons_append, List.nil_append, if_true, if_false, Bool.false_eq_true, reduceCtorEq, Nat.sub_self, Nat.reduceSub, Nat.reduceAdd, Nat.reduceLeDiff, Int.reduceLE, Int.reduceLT, Int.reducePow, Int.reduceToNat, Int.reduceNeg, Option.map_some, Option.map_none, Bool.not_true, Bool.not_false, ite_true, ite_false, decide_eq_true_eq, decide_true, decide_false, Bool.not_eq_true', hl]
    by_cases h1 : (1 : Int) ≤ x.length
    · by_cases h2 : (x.length : Int) ≤ 20
      · have h1' : 1 ≤ x.length := by omega
        have h2' : x.length ≤ 20 := by omega
        simp only [x_strI, Int.reduceEq, p10_1, p10_2, p10_3, p10_4, p10_5, p10_6, p10_7, p10_8, p10_9, p10_10, p10_11, p10_12, p10_13, p10_14, p10_15, p10_16, p10_17, p10_18, at_c0, at_c1, at_c2, at_c3, at_c4, at_c5, ix_30, ix_31, ix_32, subS, gSet, wr, ix_str, ix_lst, ix_tup, ix_ktup, ix_scr, gEq_str, gNe_str, gEq_int, gNe_int, gEq_bl, gIn_sign, gNotIn_sign, gAll_bls, lt_one, w_sl, w_c, w_op2, w_op1, w_evs0, w_evs1, o_rds0, o_rds1, w_opN, o_tks0, o_tks1, w_lst, w_tup, b_val, w_ite, w_mT, w_bAnd, w_bOr, w_bNot, w_bYes, w_and, w_or, w_not, w_if, w_ch, w_pt0, w_pt1, w_slc, w_call, w_meth, w_itr, w_rng1, w_rng2, w_rng3, w_enum, w_zip, s_seq, s_nx, s_rt, s_bk, s_ct, s_pass, s_brk, s_cnt, s_if, s_asg, s_drop, s_ret, s_retN, s_asgT, s_sub, s_box, s_for, o_some, o_none, o_ite, o_map, o_bind, wp_ok, wp_bad, z_val, z_new, z_bor, z_ali, r_non, r_bl, r_int, r_str, r_tup, r_lst, r_dk, r_dt, r_ktup, r_scr, r_glo, r_bor, r_new, r_ali, t_val, t_new, t_bor, t_ali, g_val, g_bor, g_new, g_ali, a_val, a_bor, a_ali, o_args0, o_args1, l_val, l_bor, l_ali, gAdd, gSub, mul_int, gMod, gDiv, gLt, gLe, gGt, gGe, gIsi, tyN, gLen, gNeg, gTuple, gList, gIsN, gNotN, gOrd, gMin, gMax, fNm, fTup, fCons, fNil, itemsOf, seqOf, k_NoneType_str, k_NoneType_tuple, k_NoneType_list, k_NoneType_int, k_NoneType_bool, k_NoneType_dict, k_bool_str, k_bool_tuple, k_bool_list, k_bool_int, k_bool_bool, k_bool_dict, k_int_str, k_int_tuple, k_int_list, k_int_int, k_int_bool, k_int_dict, k_str_str, k_str_tuple, k_str_list, k_str_int, k_str_bool, k_str_dict, k_tuple_str, k_tuple_tuple, k_tuple_list, k_tuple_int, k_tuple_bool, k_tuple_dict, k_list_str, k_list_tuple, k_list_list, k_list_int, k_list_bool, k_list_dict, k_dict_str, k_dict_tuple, k_dict_list, k_dict_int, k_dict_bool, k_dict_dict, slotOf, List.replicate, List.map_cons, List.map_nil, List.length_cons, List.length_nil, List.getElem?_cons_zero, List.getElem?_cons_succ, List.set_cons_zero, List.set_cons_succ, List.cons_append, List.nil_append, if_true, if_false, Bool.false_eq_true, reduceCtorEq, Nat.sub_self, Nat.reduceSub, Nat.reduceAdd, Nat.reduceLeDiff, Int.reduceLE, Int.reduceLT, Int.reducePow, Int.reduceToNat, Int.reduceNeg, Option.map_some, Option.map_none, Bool.not_true, Bool.not_false, ite_true, ite_false, decide_eq_true_eq, decide_true, decide_false, Bool.not_eq_true', h1, h2, gIn_ktup2, isWordP, h1', h2']
        by_cases h3 : [124] = x
        · simp only [x_strI, Int.reduceEq, p10_1, p10_2, p10_3, p10_4, p10_5, p10_6, p10_7, p10_8, p10_9, p10_10, p10_11, p10_12, p10_13, p10_14, p10_15, p10_16, p10_17, p10_18, at_c0, at_c1, at_c2, at_c3, at_c4, at_c5, ix_30, ix_31, ix_32, subS, gSet, wr, ix_str, ix_lst, ix_tup, ix_ktup, ix_scr, gEq_str, gNe_str, gEq_int, gNe_int, gEq_bl, gIn_sign, gNotIn_sign, gAll_bls, lt_one, w_sl, w_c, w_op2, w_op1, w_evs0, w_evs1, o_rds0, o_rds1, w_opN, o_tks0, o_tks1, w_lst, w_tup, b_val, w_ite, w_mT, w_bAnd, w_bOr, w_bNot, w_bYes, w_and, w_or, w_not, w_if, w_ch, w_pt0, w_pt1, w_slc, w_call, w_meth, w_itr, w_rng1, w_rng2, w_rng3, w_enum, w_zip, s_seq, s_nx, s_rt, s_bk, s_ct, s_pass, s_brk, s_cnt, s_if, s_asg, s_drop, s_ret, s_retN, s_asgT, s_sub, s_box, s_for, o_some, o_none, o_ite, o_map, o_bind, wp_ok, wp_bad, z_val, z_new, z_bor, z_ali, r_non, r_bl, r_int, r_str, r_tup, r_lst, r_dk, r_dt, r_ktup, r_scr, r_glo, r_bor, r_new, r_ali, t_val, t_new, t_bor, t_ali, g_val, g_bor, g_new, g_ali, a_val, a_bor, a_ali, o_args0, o_args1, l_val, l_bor, l_ali, gAdd, gSub, mul_int, gMod, gDiv, gLt, gLe, gGt, gGe, gIsi, tyN, gLen, gNeg, gTuple, gList, gIsN, gNotN, gOrd, gMin, gMax, fNm, fTup, fCons, fNil, itemsOf, seqOf, k_NoneType_str, k_NoneType_tuple, k_NoneType_list, k_NoneType_int, k_NoneType_bool, k_NoneType_dict, k_bool_str, k_bool_tuple, k_bool_list, k_bool_int, k_bool_bool, k_bool_dict, k_int_str, k_int_tuple, k_int_list, k_int_int, k_int_bool, k_int_dict, k_str_str, k_str_tuple, k_str_list, k_str_int, k_str_bool, k_str_dict, k_tuple_str, k_tuple_tuple, k_tuple_list, k_tuple_int, k_tuple_bool, k_tuple_dict, k_list_str, k_list_tuple, k_list_list, k_list_int, k_list_bool, k_list_dict, k_dict_str, k_dict_tuple, k_dict_list, k_dict_int, k_dict_bool, k_dict_dict, slotOf, List.replicate, List.map_cons, List.map_nil, List.length_cons, List.length_nil, List.getElem?_cons_zero, List.getElem?_cons_succ, List.set_cons_zero, List.set_cons_succ, List.cons_append, List.nil_append, if_true, if_false, Bool.false_eq_true, reduceCtorEq, Nat.sub_self, Nat.reduceSub, Nat.reduceAdd, Nat.reduceLeDiff, Int.reduceLE, Int.reduceLT, Int.reducePow, Int.reduceToNat, Int.reduceNeg, Option.map_some, Option.map_none, Bool.not_true, Bool.not_false, ite_true, ite_false, decide_eq_true_eq, decide_true, decide_false, Bool.not_eq_true', h3, decide_true, Bool.true_or]
          simp
        · by_cases h4 : [61] = x
          · simp only [x_strI, Int.reduceEq, p10_1, p10_2, p10_3, p10_4, p10_5, p10_6, p10_7, p10_8, p10_9, p10_10, p10_11, p10_12, p10_13, p10_14, p10_15, p10_16, p10_17, p10_18, at_c0, at_c1, at_c2, at_c3, at_c4, at_c5, ix_30, ix_31, ix_32, subS, gSet, wr, ix_str, ix_lst, ix_tup, ix_ktup, ix_scr, gEq_str, gNe_str, gEq_int, gNe_int, gEq_bl, gIn_sign, gNotIn_sign, gAll_bls, lt_one, w_sl, w_c, w_op2, w_op1, w_evs0, w_evs1, o_rds0, o_rds1, w_opN, o_tks0, o_tks1, w_lst, w_tup, b_val, w_ite, w_mT, w_bAnd, w_bOr, w_bNot, w_bYes, w_and, w_or, w_not, w_if, w_ch, w_pt0, w_pt1, w_slc, w_call, w_meth, w_itr, w_rng1, w_rng2, w_rng3, w_enum, w_zip, s_seq, s_nx, s_rt, s_bk, s_ct, s_pass, s_brk, s_cnt, s_if, s_asg, s_drop, s_ret, s_retN, s_asgT, s_sub, s_box, s_for, o_some, o_none, o_ite, o_map, o_bind, wp_ok, wp_bad, z_val, z_new, z_bor, z_ali, r_non, r_bl, r_int, r_str, r_tup, r_lst, r_dk, r_dt, r_ktup, r_scr, r_glo, r_bor, r_new, r_ali, t_val, t_new, t_bor, t_ali, g_val, g_bor, g_new, g_ali, a_val, a_bor, a_ali, o_args0, o_args1, l_val, l_bor, l_ali, gAdd, gSub, mul_int, gMod, gDiv, gLt, gLe, gGt, gGe, gIsi, tyN, gLen, gNeg, gTuple, gList, gIsN, gNotN, gOrd, gMin, gMax, fNm, fTup, fCons, fNil, itemsOf, seqOf, k_NoneType_str, k_NoneType_tuple, k_NoneType_list, k_NoneType_int, k_NoneType_bool, k_NoneType_dict, k_bool_str, k_bool_tuple, k_bool_list, k_bool_int, k_bool_bool, k_bool_dict, k_int_str, k_int_tuple, k_int_list, k_int_int, k_int_bool, k_int_dict, k_str_str, k_str_tuple, k_str_list, k_str_int, k_str_bool, k_str_dict, k_tuple_str, k_tuple_tuple, k_tuple_list, k_tuple_int, k_tuple_bool, k_tuple_dict, k_list_str, k_list_tuple, k_list_list, k_list_int, k_list_bool, k_list_dict, k_dict_str, k_dict_tuple, k_dict_list, k_dict_int, k_dict_bool, k_dict_dict, slotOf, List.replicate, List.map_cons, List.map_nil, List.length_cons, List.length_nil, List.getElem?_cons_zero, List.getElem?_cons_succ, List.set_cons_zero, List.set_cons_succ, List.cons_append, List.nil_append, if_true, if_false, Bool.false_eq_true, reduceCtorEq, Nat.sub_self, Nat.reduceSub, Nat.reduceAdd, Nat.reduceLeDiff, Int.reduceLE, Int.reduceLT, Int.reducePow, Int.reduceToNat, Int.reduceNeg, Option.map_some, Option.map_none, Bool.not_true, Bool.not_false, ite_true, ite_false, decide_eq_true_eq, decide_true, decide_false, Bool.not_eq_true', h3, h4, decide_true, Bool.true_or, Bool.or_true]
            simp
          · simp only [x_strI, Int.reduceEq, p10_1, p10_2, p10_3, p10_4, p10_5, p10_6, p10_7, p10_8, p10_9, p10_10, p10_11, p10_12, p10_13, p10_14, p10_15, p10_16, p10_17, p10_18, at_c0, at_c1, at_c2, at_c3, at_c4, at_c5, ix_30, ix_31, ix_32, subS, gSet, wr, ix_str, ix_lst, ix_tup, ix_ktup, ix_scr, gEq_str, gNe_str, gEq_int, gNe_int, gEq_bl, gIn_sign, gNotIn_sign, gAll_bls, lt_one, w_sl, w_c, w_op2, w_op1, w_evs0, w_evs1, o_rds0, o_rds1, w_opN, o_tks0, o_tks1, w_lst, w_tup, b_val, w_ite, w_mT, w_bAnd, w_bOr, w_bNot, w_bYes, w_and, w_or, w_not, w_if, w_ch, w_pt0, w_pt1, w_slc, w_call, w_meth, w_itr, w_rng1, w_rng2, w_rng3, w_enum, w_zip, s_seq, s_nx, s_rt, s_bk, s_ct, s_pass, s_brk, s_cnt, s_if, s_asg, s_drop, s_ret, s_retN, s_asgT, s_sub, s_box, s_for, o_some, o_none, o_ite, o_map, o_bind, wp_ok, wp_bad, z_val, z_new, z_bor, z_ali, r_non, r_bl, r_int, r_str, r_tup, r_lst, r_dk, r_dt, r_ktup, r_scr, r_glo, r_bor, r_new, r_ali, t_val, t_new, t_bor, t_ali, g_val, g_bor, g_new, g_ali, a_val, a_bor, a_ali, o_args0, o_args1, l_val, l_bor, l_ali, gAdd, gSub, mul_int, gMod, gDiv, gLt, gLe, gGt, gGe, gIsi, tyN, gLen, gNeg, gTuple, gList, gIsN, gNotN, gOrd, gMin, gMax, fNm, fTup, fCons, fNil, itemsOf, seqOf, k_NoneType_str, k_NoneType_tuple, k_NoneType_list, k_NoneType_int, k_NoneType_bool, k_NoneType_dict, k_bool_str, k_bool_tuple, k_bool_list, k_bool_int, k_bool_bool, k_bool_dict, k_int_str, k_int_tuple, k_int_list, k_int_int, k_int_bool, k_int_dict, k_str_str, k_str_tuple, k_str_list, k_str_int, k_str_bool, k_str_dict, k_tuple_str, k_tuple_tuple, k_tuple_list, k_tuple_int, k_tuple_bool, k_tuple_dict, k_list_str, k_list_tuple, k_list_list, k_list_int, k_list_bool, k_list_dict, k_dict_str, k_dict_tuple, k_dict_list, k_dict_int, k_dict_bool, k_dict_dict, slotOf, List.replicate, List.map_cons, List.map_nil, List.length_cons, List.length_nil, List.getElem?_cons_zero, List.getElem?_cons_succ, List.set_cons_zero, List.set_cons_succ, List.cons_append, List.nil_append, if_true, if_false, Bool.false_eq_true, reduceCtorEq, Nat.sub_self, Nat.reduceSub, Nat.reduceAdd, Nat.reduceLeDiff, Int.reduceLE, Int.reduceLT, Int.reducePow, Int.reduceToNat, Int.reduceNeg, Option.map_some, Option.map_none, Bool.not_true, Bool.not_false, ite_true, ite_false, decide_eq_true_eq, decide_true, decide_false, Bool.not_eq_true', h3, h4, Bool.or_self]
            refine wp_comp (chB okSign) ?_
            simp only [x_strI, Int.reduceEq, p10_1, p10_2, p10_3, p10_4, p10_5, p10_6, p10_7, p10_8, p10_9, p10_10, p10_11, p10_12, p10_13, p10_14, p10_15, p10_16, p10_17, p10_18, at_c0, at_c1, at_c2, at_c3, at_c4, at_c5, ix_30, ix_31, ix_32, subS, gSet, wr, ix_str, ix_lst, ix_tup, ix_ktup, ix_scr, gEq_str, gNe_str, gEq_int, gNe_int, gEq_bl, gIn_sign, gNotIn_sign, gAll_bls, lt_one, w_sl, w_c, w_op2, w_op1, w_evs0, w_evs1, o_rds0, o_rds1, w_opN, o_tks0, o_tks1, w_lst, w_tup, b_val, w_ite, w_mT, w_bAnd, w_bOr, w_bNot, w_bYes, w_and, w_or, w_not, w_if, w_ch, w_pt0, w_pt1, w_slc, w_call, w_meth, w_itr, w_rng1, w_rng2, w_rng3, w_enum, w_zip, s_seq, s_nx, s_rt, s_bk, s_ct, s_pass, s_brk, s_cnt, s_if, s_asg, s_drop, s_ret, s_retN, s_asgT, s_sub, s_box, s_for, o_some, o_none, o_ite, o_map, o_bind, wp_ok, wp_bad, z_val, z_new, z_bor, z_ali, r_non, r_bl, r_int, r_str, r_tup, r_lst, r_dk, r_dt, r_ktup, r_scr, r_glo, r_bor, r_new, r_ali, t_val, t_new, t_bor, t_ali, g_val, g_bor, g_new, g_ali, a_val, a_bor, a_ali, o_args0, o_args1, l_val, l_bor, l_ali, gAdd, gSub, mul_int, gMod, gDiv, gLt, gLe, gGt, gGe, gIsi, tyN, gLen, gNeg, gTuple, gList, gIsN, gNotN, gOrd, gMin, gMax, fNm, fTup, fCons, fNil, itemsOf, seqOf, k_NoneType_str, k_NoneType_tuple, k_NoneType_list, k_NoneType_int, k_NoneType_bool, k_NoneType_dict, k_bool_str, k_bool_tuple, k_bool_list, k_bool_int, k_bool_bool, k_bool_dict, k_int_str, k_int_tuple, k_int_list, k_int_int, k_int_bool, k_int_dict, k_str_str, k_str_tuple, k_str_list, k_str_int, k_str_bool, k_str_dict, k_tuple_str, k_tuple_tuple, k_tuple_list, k_tuple_int, k_tuple_bool, k_tuple_dict, k_list_str, k_list_tuple, k_list_list, k_list_int, k_list_bool, k_list_dict, k_dict_str, k_dict_tuple, k_dict_list, k_dict_int, k_dict_bool, k_dict_dict, slotOf, List.replicate, List.map_cons, List.map_nil, List.length_cons, List.length_nil, List.getElem?_cons_zero, List.getElem?_cons_succ, List.set_cons_zero, List.set_cons_succ, List.cons_append, List.nil_append, if_true, if_false, Bool.false_eq_true, reduceCtorEq, Nat.sub_self, Nat.reduceSub, Nat.reduceAdd, Nat.reduceLeDiff, Int.reduceLE, Int.reduceLT, Int.reducePow, Int.reduceToNat, Int.reduceNeg, Option.map_some, Option.map_none, Bool.not_true, Bool.not_false, ite_true, ite_false, decide_eq_true_eq, decide_true, decide_false, Bool.not_eq_true', chars_len]
            refine ⟨hl, fun t ht acc ha => ?_, ?_⟩
            · obtain ⟨c, _, rfl⟩ := chars_mem ht
              refine wp_step rfl ?_
              simp only [x_strI, Int.reduceEq, p10_1, p10_2, p10_3, p10_4, p10_5, p10_6, p10_7, p10_8, p10_9, p10_10, p10_11, p10_12, p10_13, p10_14, p10_15, p10_16, p10_17, p10_18, at_c0, at_c1, at_c2, at_c3, at_c4, at_c5, ix_30, ix_31, ix_32, subS, gSet, wr, ix_str, ix_lst, ix_tup, ix_ktup, ix_scr, gEq_str, gNe_str, gEq_int, gNe_int, gEq_bl, gIn_sign, gNotIn_sign, gAll_bls, lt_one, w_sl, w_c, w_op2, w_op1, w_evs0, w_evs1, o_rds0, o_rds1, w_opN, o_tks0, o_tks1, w_lst, w_tup, b_val, w_ite, w_mT, w_bAnd, w_bOr, w_bNot, w_bYes, w_and, w_or, w_not, w_if, w_ch, w_pt0, w_pt1, w_slc, w_call, w_meth, w_itr, w_rng1, w_rng2, w_rng3, w_enum, w_zip, s_seq, s_nx, s_rt, s_bk, s_ct, s_pass, s_brk, s_cnt, s_if, s_asg, s_drop, s_ret, s_retN, s_asgT, s_sub, s_box, s_for, o_some, o_none, o_ite, o_map, o_bind, wp_ok, wp_bad, z_val, z_new, z_bor, z_ali, r_non, r_bl, r_int, r_str, r_tup, r_lst, r_dk, r_dt, r_ktup, r_scr, r_glo, r_bor, r_new, r_ali, t_val, t_new, t_bor, t_ali, g_val, g_bor, g_new, g_ali, a_val, a_bor, a_ali, o_args0, o_args1, l_val, l_bor, l_ali, gAdd, gSub, mul_int, gMod, gDiv, gLt, gLe, gGt, gGe, gIsi, tyN, gLen, gNeg, gTuple, gList, gIsN, gNotN, gOrd, gMin, gMax, fNm, fTup, fCons, fNil, itemsOf, seqOf, k_NoneType_str, k_NoneType_tuple, k_NoneType_list, k_NoneType_int, k_NoneType_bool, k_NoneType_dict, k_bool_str, k_bool_tuple, k_bool_list, k_bool_int, k_bool_bool, k_bool_dict, k_int_str, k_int_tuple, k_int_list, k_int_int, k_int_bool, k_int_dict, k_str_str, k_str_tuple, k_str_list, k_str_int, k_str_bool, k_str_dict, k_tuple_str, k_tuple_tuple, k_tuple_list, k_tuple_int, k_tuple_bool, k_tuple_dict, k_list_str, k_list_tuple, k_list_list, k_list_int, k_list_bool, k_list_dict, k_dict_str, k_dict_tuple, k_dict_list, k_dict_int, k_dict_bool, k_dict_dict, slotOf, List.replicate, List.map_cons, List.map_nil, List.length_cons, List.length_nil, List.getElem?_cons_zero, List.getElem?_cons_succ, List.set_cons_zero, List.set_cons_succ, List.cons_append, List.nil_append, if_true, if_false, Bool.false_eq_true, reduceCtorEq, Nat.sub_self, Nat.reduceSub, Nat.reduceAdd, Nat.reduceLeDiff, Int.reduceLE, Int.reduceLT, Int.reducePow, Int.reduceToNat, Int.reduceNeg, Option.map_some, Option.map_none, Bool.not_true, Bool.not_false, ite_true, ite_false, decide_eq_true_eq, decide_true, decide_false, Bool.not_eq_true', wipeS, wipeL]
              rcases Nat.lt_or_ge c 33 with q1 | q1
              · have : decide (33 ≤ c) = false := by simp; omega
                simp [chB, okSign, this, q1, ha]
              · rcases Nat.lt_or_ge 126 c with q2 | q2
                · have : decide (c ≤ 126) = false := by simp; omega
                  simp [chB, okSign, this, q1, q2, ha]
                · simp [chB, okSign, q1, q2, ha]
                  omega
            · rw [fm_chB]
              simp only [x_strI, Int.reduceEq, p10_1, p10_2, p10_3, p10_4, p10_5, p10_6, p10_7, p10_8, p10_9, p10_10, p10_11, p10_12, p10_13, p10_14, p10_15, p10_16, p10_17, p10_18, at_c0, at_c1, at_c2, at_c3, at_c4, at_c5, ix_30, ix_31, ix_32, subS, gSet, wr, ix_str, ix_lst, ix_tup, ix_ktup, ix_scr, gEq_str, gNe_str, gEq_int, gNe_int, gEq_bl, gIn_sign, gNotIn_sign, gAll_bls, lt_one, w_sl, w_c, w_op2, w_op1, w_evs0, w_evs1, o_rds0, o_rds1, w_opN, o_tks0, o_tks1, w_lst, w_tup, b_val, w_ite, w_mT, w_bAnd, w_bOr, w_bNot, w_bYes, w_and, w_or, w_not, w_if, w_ch, w_pt0, w_pt1, w_slc, w_call, w_meth, w_itr, w_rng1, w_rng2, w_rng3, w_enum, w_zip, s_seq, s_nx, s_rt, s_bk, s_ct, s_pass, s_brk, s_cnt, s_if, s_asg, s_drop, s_ret, s_retN, s_asgT, s_sub, s_box, s_for, o_some, o_none, o_ite, o_map, o_bind, wp_ok, wp_bad, z_val, z_new, z_bor, z_ali, r_non, r_bl, r_int, r_str, r_tup, r_lst, r_dk, r_dt, r_ktup, r_scr, r_glo, r_bor, r_new, r_ali, t_val, t_new, t_bor, t_ali, g_val, g_bor, g_new, g_ali, a_val, a_bor, a_ali, o_args0, o_args1, l_val, l_bor, l_ali, gAdd, gSub, mul_int, gMod, gDiv, gLt, gLe, gGt, gGe, gIsi, tyN, gLen, gNeg, gTuple, gList, gIsN, gNotN, gOrd, gMin, gMax, fNm, fTup, fCons, fNil, itemsOf, seqOf, k_NoneType_str, k_NoneType_tuple, k_NoneType_list, k_NoneType_int, k_NoneType_bool, k_NoneType_dict, k_bool_str, k_bool_tuple, k_bool_list, k_bool_int, k_bool_bool, k_bool_dict, k_int_str, k_int_tuple, k_int_list, k_int_int, k_int_bool, k_int_dict, k_str_str, k_str_tuple, k_str_list, k_str_int, k_str_bool, k_str_dict, k_tuple_str, k_tuple_tuple, k_tuple_list, k_tuple_int, k_tuple_bool, k_tuple_dict, k_list_str, k_list_tuple, k_list_list, k_list_int, k_list_bool, k_list_dict, k_dict_str, k_dict_tuple, k_dict_list, k_dict_int, k_dict_bool, k_dict_dict, slotOf, List.replicate, List.map_cons, List.map_nil, List.length_cons, List.length_nil, List.getElem?_cons_zero, List.getElem?_cons_succ, List.set_cons_zero, List.set_cons_succ, List.cons_append, List.nil_append, if_true, if_false, Bool.false_eq_true, reduceCtorEq, Nat.sub_self, Nat.reduceSub, Nat.reduceAdd, Nat.reduceLeDiff, Int.reduceLE, Int.reduceLT, Int.reducePow, Int.reduceToNat, Int.reduceNeg, Option.map_some, Option.map_none, Bool.not_true, Bool.not_false, ite_true, ite_false, decide_eq_true_eq, decide_true, decide_false, Bool.not_eq_true', restS, restL, keepV, wipeS, wipeL]
              simp [h1', h2', h3, h4, all_id]
      · have h2' : ¬ x.length ≤ 20 := by omega
        simp [x_strI, Int.reduceEq, p10_1, p10_2, p10_3, p10_4, p10_5, p10_6, p10_7, p10_8, p10_9, p10_10, p10_11, p10_12, p10_13, p10_14, p10_15, p10_16, p10_17, p10_18, at_c0, at_c1, at_c2, at_c3, at_c4, at_c5, ix_30, ix_31, ix_32, subS, gSet, wr, ix_str, ix_lst, ix_tup, ix_ktup, ix_scr, gEq_str, gNe_str, gEq_int, gNe_int, gEq_bl, gIn_sign, gNotIn_sign, gAll_bls, lt_one, w_sl, w_c, w_op2, w_op1, w_evs0, w_evs1, o_rds0, o_rds1, w_opN, o_tks0, o_tks1, w_lst, w_tup, b_val, w_ite, w_mT, w_bAnd, w_bOr, w_bNot, w_bYes, w_and, w_or, w_not, w_if, w_ch, w_pt0, w_pt1, w_slc, w_call, w_meth, w_itr, w_rng1, w_rng2, w_rng3, w_enum, w_zip, s_seq, s_nx, s_rt, s_bk, s_ct, s_pass, s_brk, s_cnt, s_if, s_asg, s_drop, s_ret, s_retN, s_asgT, s_sub, s_box, s_for, o_some, o_none, o_ite, o_map, o_bind, wp_ok, wp_bad, z_val, z_new, z_bor, z_ali, r_non, r_bl, r_int, r_str, r_tup, r_lst, r_dk, r_dt, r_ktup, r_scr, r_glo, r_bor, r_new, r_ali, t_val, t_new, t_bor, t_ali, g_val, g_bor, g_new, g_ali, a_val, a_bor, a_ali, o_args0, o_args1, l_val, l_bor, l_ali, gAdd, gSub, mul_int, gMod, gDiv, gLt, gLe, gGt, gGe, gIsi, tyN, gLen, gNeg, gTuple, gList, gIsN, gNotN, gOrd, gMin, gMax, fNm, fTup, fCons, fNil, itemsOf, seqOf, k_NoneType_str, k_NoneType_tuple, k_NoneType_list, k_NoneType_int, k_NoneType_bool, k_NoneType_dict, k_bool_str, k_bool_tuple, k_bool_list, k_bool_int, k_bool_bool, k_bool_dict, k_int_str, k_int_tuple, k_int_list, k_int_int, k_int_bool, k_int_dict, k_str_str, k_str_tuple, k_str_list, k_str_int, k_str_bool, k_str_dict, k_tuple_str, k_tuple_tuple, k_tuple_list, k_tuple_int, k_tuple_bool, k_tuple_dict, k_list_str, k_list_tuple, k_list_list, k_list_int, k_list_bool, k_list_dict, k_dict_str, k_dict_tuple, k_dict_list, k_dict_int, k_dict_bool, k_dict_dict, slotOf, List.replicate, List.map_cons, List.map_nil, List.length_cons, List.length_nil, List.getElem?_cons_zero, List.getElem?_cons_succ, List.set_cons_zero, List.set_cons_succ, List.cons_append, List.nil_append, if_true, if_false, Bool.false_eq_true, reduceCtorEq, Nat.sub_self, Nat.reduceSub, Nat.reduceAdd, Nat.reduceLeDiff, Int.reduceLE, Int.reduceLT, Int.reducePow, Int.reduceToNat, Int.reduceNeg, Option.map_some, Option.map_none, Bool.not_true, Bool.not_false, ite_true, ite_false, decide_eq_true_eq, decide_true, decide_false, Bool.not_eq_true', h1, h2, isWordP, h2']
    · have h1' : x.length = 0 := by omega
      have : x = [] := List.eq_nil_of_length_eq_zero h1'
      subst this
      simp [isWordP]
  | _ => first | (cases ht; done) | (simp only [m_is_word, x_strI, Int.reduceEq, p10_1, p10_2, p10_3, p10_4, p10_5, p10_6, p10_7, p10_8, p10_9, p10_10, p10_11, p10_12, p10_13, p10_14, p10_15, p10_16, p10_17, p10_18, at_c0, at_c1, at_c2, at_c3, at_c4, at_c5, ix_30, ix_31, ix_32, subS, gSet, wr, ix_str, ix_lst, ix_tup, ix_ktup, ix_scr, gEq_str, gNe_str, gEq_int, gNe_int, gEq_bl, gIn_sign, gNotIn_sign, gAll_bls, lt_one, w_sl, w_c, w_op2, w_op1, w_evs0, w_evs1, o_rds0, o_rds1, w_opN, o_tks0, o_tks1, w_lst, w_tup, b_val, w_ite, w_mT, w_bAnd, w_bOr, w_bNot, w_bYes, w_and, w_or, w_not, w_if, w_ch, w_pt0, w_pt1, w_slc, w_call, w_meth, w_itr, w_rng1, w_rng2, w_rng3, w_enum, w_zip, s_seq, s_nx, s_rt, s_bk, s_ct, s_pass, s_brk, s_cnt, s_if, s_asg, s_drop, s_ret, s_retN, s_asgT, s_sub, s_box, s_for, o_some, o_none, o_ite, o_map, o_bind, wp_ok, wp_bad, z_val, z_new, z_bor, z_ali, r_non, r_bl, r_int, r_str, r_tup, r_lst, r_dk, r_dt, r_ktup, r_scr, r_glo, r_bor, r_new, r_ali, t_val, t_new, t_bor, t_ali, g_val, g_bor, g_new, g_ali, a_val, a_bor, a_ali, o_args0, o_args1, l_val, l_bor, l_ali, gAdd, gSub, mul_int, gMod, gDiv, gLt, gLe, gGt, gGe, gIsi, tyN, gLen, gNeg, gTuple, gList, gIsN, gNotN, gOrd, gMin, gMax, fNm, fTup, fCons, fNil, itemsOf, seqOf, k_NoneType_str, k_NoneType_tuple, k_NoneType_list, k_NoneType_int, k_NoneType_bool, k_NoneType_dict, k_bool_str, k_bool_tuple, k_bool_list, k_bool_int, k_bool_bool, k_bool_dict, k_int_str, k_int_tuple, k_int_list, k_int_int, k_int_bool, k_int_dict, k_str_str, k_str_tuple, k_str_list, k_str_int, k_str_bool, k_str_dict, k_tuple_str, k_tuple_tuple, k_tuple_list, k_tuple_int, k_tuple_bool, k_tuple_dict, k_list_str, k_list_tuple, k_list_list, k_list_int, k_list_bool, k_list_dict, k_dict_str, k_dict_tuple, k_dict_list, k_dict_int, k_dict_bool, k_dict_dict, slotOf, List.replicate, List.map_cons, List.map_nil, List.length_cons, List.length_nil, List.getElem?_cons_zero, List.getElem?_cons_succ, List.set_cons_zero, List.set_cons_succ, List.cons_append, List.nil_append, if_true, if_false, Bool.false_eq_true, reduceCtorEq, Nat.sub_self, Nat.reduceSub, Nat.reduceAdd, Nat.reduceLeDiff, Int.reduceLE, Int.reduceLT, Int.reducePow, Int.reduceToNat, Int.reduceNeg, Option.map_some, Option.map_none, Bool.not_true, Bool.not_false, ite_true, ite_false, decide_eq_true_eq, decide_true, decide_false, Bool.not_eq_true']; exact ⟨rfl, trivial⟩)

abbrev digs : List Nat := [48, 49, 50, 51, 52, 53, 54, 55, 56, 57]
abbrev smalls : List Nat := [97, 98, 99, 100, 101, 102, 103, 104, 105, 106, 107, 108, 109, 110, 111, 112, 113, 114, 115, 116, 117, 118, 119, 120, 121, 122]
abbrev greats : List Nat := [65, 66, 67, 68, 69, 70, 71, 72, 73, 74, 75, 76, 77, 78, 79, 80, 81, 82, 83, 84, 85, 86, 87, 88, 89, 90]
def sNumber : List Nat := [110, 117, 109, 98, 101, 114]
def sName : List Nat := [110, 97, 109, 101]
def sPlain : List Nat := [112, 108, 97, 105, 110]
def kindP (c : Nat) (r : List Nat) : List Nat :=
  if (c :: r).all (fun d => decide (d ∈ digs)) then (if r.length ≤ 11 ∧ (c ≠ 48 ∨ r = []) then sNumber else sPlain)
  else if 1 ≤ r.length ∧ c ∈ greats ∧ r.all (fun d => decide (d ∈ smalls)) then sName else sPlain
theorem kind_of_ok (x : List Nat) (c : Nat) (r : List Nat) (hx : x = c :: r) (ce : List T) (hl : x.length ≤ line) : IsV (f_kind_of [.val (.str x)] ce) (.str (kindP c r)) ce := by
  refine .of ?_
  unfold f_kind_of runF
  refine WP.endF ?_
  have hlen : x.length = r.length + 1 := by rw [hx]; rfl
  have hr : r.length ≤ line := by omega
  simp only [m_kind_of, x_strI, Int.reduceEq, p10_1, p10_2, p10_3, p10_4, p10_5, p10_6, p10_7, p10_8, p10_9, p10_10, p10_11, p10_12, p10_13, p10_14, p10_15, p10_16, p10_17, p10_18, at_c0, at_c1, at_c2, at_c3, at_c4, at_c5, ix_30, ix_31, ix_32, subS, gSet, wr, ix_str, ix_lst, ix_tup, ix_ktup, ix_scr, gEq_str, gNe_str, gEq_int, gNe_int, gEq_bl, gIn_sign, gNotIn_sign, gAll_bls, lt_one, w_sl, w_c, w_op2, w_op1, w_evs0, w_evs1, o_rds0, o_rds1, w_opN, o_tks0, o_tks1, w_lst, w_tup, b_val, w_ite, w_mT, w_bAnd, w_bOr, w_bNot, w_bYes, w_and, w_or, w_not, w_if, w_ch, w_pt0, w_pt1, w_slc, w_call, w_meth, w_itr, w_rng1, w_rng2, w_rng3, w_enum, w_zip, s_seq, s_nx, s_rt, s_bk, s_ct, s_pass, s_brk, s_cnt, s_if, s_asg, s_drop, s_ret, s_retN, s_asgT, s_sub, s_box, s_for, o_some, o_none, o_ite, o_map, o_bind, wp_ok, wp_bad, z_val, z_new, z_bor, z_ali, r_non, r_bl, r_int, r_str, r_tup, r_lst, r_dk, r_dt, r_ktup, r_scr, r_glo, r_bor, r_new, r_ali, t_val, t_new, t_bor, t_ali, g_val, g_bor, g_new, g_ali, a_val, a_bor, a_ali, o_args0, o_args1, l_val, l_bor, l_ali, gAdd, gSub, mul_int, gMod, gDiv, gLt, gLe, gGt, gGe, gIsi, tyN, gLen, gNeg, gTuple, gList, gIsN, gNotN, gOrd, gMin, gMax, fNm, fTup, fCons, fNil, itemsOf, seqOf, k_NoneType_str, k_NoneType_tuple, k_NoneType_list, k_NoneType_int, k_NoneType_bool, k_NoneType_dict, k_bool_str, k_bool_tuple, k_bool_list, k_bool_int, k_bool_bool, k_bool_dict, k_int_str, k_int_tuple, k_int_list, k_int_int, k_int_bool, k_int_dict, k_str_str, k_str_tuple, k_str_list, k_str_int, k_str_bool, k_str_dict, k_tuple_str, k_tuple_tuple, k_tuple_list, k_tuple_int, k_tuple_bool, k_tuple_dict, k_list_str, k_list_tuple, k_list_list, k_list_int, k_list_bool, k_list_dict, k_dict_str, k_dict_tuple, k_dict_list, k_dict_int, k_dict_bool, k_dict_dict, slotOf, List.replicate, List.map_cons, List.map_nil, List.length_cons, List.length_nil, List.getElem?_cons_zero, List.getElem?_cons_succ, List.set_cons_zero, List.set_cons_succ, List.cons_append, List.nil_append, if_true, if_false, Bool.false_eq_true, reduceCtorEq, Nat.sub_self, Nat.reduceSub, Nat.reduceAdd, Nat.reduceLeDiff, Int.reduceLE, Int.reduceLT, Int.reducePow, Int.reduceToNat, Int.reduceNeg, Option.map_some, Option.map_none, Bool.not_true, Bool.not_false, ite_true, ite_false, decide_eq_true_eq, decide_true, decide_false, Bool.not_eq_true']
  refine wp_comp (chB fun d => decide (d ∈ digs)) ?_
  simp only [x_strI, Int.reduceEq, p10_1, p10_2, p10_3, p10_4, p10_5, p10_6, p10_7, p10_8, p10_9, p10_10, p10_11, p10_12, p10_13, p10_14, p10_15, p10_16, p10_17, p10_18, at_c0, at_c1, at_c2, at_c3, at_c4, at_c5, ix_30, ix_31, ix_32, subS, gSet, wr, ix_str, ix_lst, ix_tup, ix_ktup, ix_scr, gEq_str, gNe_str, gEq_int, gNe_int, gEq_bl, gIn_sign, gNotIn_sign, gAll_bls, lt_one, w_sl, w_c, w_op2, w_op1, w_evs0, w_evs1, o_rds0, o_rds1, w_opN, o_tks0, o_tks1, w_lst, w_tup, b_val, w_ite, w_mT, w_bAnd, w_bOr, w_bNot, w_bYes, w_and, w_or, w_not, w_if, w_ch, w_pt0, w_pt1, w_slc, w_call, w_meth, w_itr, w_rng1, w_rng2, w_rng3, w_enum, w_zip, s_seq, s_nx, s_rt, s_bk, s_ct, s_pass, s_brk, s_cnt, s_if, s_asg, s_drop, s_ret, s_retN, s_asgT, s_sub, s_box, s_for, o_some, o_none, o_ite, o_map, o_bind, wp_ok, wp_bad, z_val, z_new, z_bor, z_ali, r_non, r_bl, r_int, r_str, r_tup, r_lst, r_dk, r_dt, r_ktup, r_scr, r_glo, r_bor, r_new, r_ali, t_val, t_new, t_bor, t_ali, g_val, g_bor, g_new, g_ali, a_val, a_bor, a_ali, o_args0, o_args1, l_val, l_bor, l_ali, gAdd, gSub, mul_int, gMod, gDiv, gLt, gLe, gGt, gGe, gIsi, tyN, gLen, gNeg, gTuple, gList, gIsN, gNotN, gOrd, gMin, gMax, fNm, fTup, fCons, fNil, itemsOf, seqOf, k_NoneType_str, k_NoneType_tuple, k_NoneType_list, k_NoneType_int, k_NoneType_bool, k_NoneType_dict, k_bool_str, k_bool_tuple, k_bool_list, k_bool_int, k_bool_bool, k_bool_dict, k_int_str, k_int_tuple, k_int_list, k_int_int, k_int_bool, k_int_dict, k_str_str, k_str_tuple, k_str_list, k_str_int, k_str_bool, k_str_dict, k_tuple_str, k_tuple_tuple, k_tuple_list, k_tuple_int, k_tuple_bool, k_tuple_dict, k_list_str, k_list_tuple, k_list_list, k_list_int, k_list_bool, k_list_dict, k_dict_str, k_dict_tuple, k_dict_list, k_dict_int, k_dict_bool, k_dict_dict, slotOf, List.replicate, List.map_cons, List.map_nil, List.length_cons, List.length_nil, List.getElem?_cons_zero, List.getElem?_cons_succ, List.set_cons_zero, List.set_cons_succ, List.cons_append, List.nil_append, if_true, if_false, Bool.false_eq_true, reduceCtorEq, Nat.sub_self, Nat.reduceSub, Nat.reduceAdd, Nat.reduceLeDiff, Int.reduceLE, Int.reduceLT, Int.reducePow, Int.reduceToNat, Int.reduceNeg, Option.map_some, Option.map_none, Bool.not_true, Bool.not_false, ite_true, ite_false, decide_eq_true_eq, decide_true, decide_false, Bool.not_eq_true', chars_len]
  refine ⟨hl, fun t ht acc ha => ?_, ?_⟩
  · obtain ⟨d, _, rfl⟩ := chars_mem ht
    refine wp_step rfl ?_
    simp only [x_strI, Int.reduceEq, p10_1, p10_2, p10_3, p10_4, p10_5, p10_6, p10_7, p10_8, p10_9, p10_10, p10_11, p10_12, p10_13, p10_14, p10_15, p10_16, p10_17, p10_18, at_c0, at_c1, at_c2, at_c3, at_c4, at_c5, ix_30, ix_31, ix_32, subS, gSet, wr, ix_str, ix_lst, ix_tup, ix_ktup, ix_scr, gEq_str, gNe_str, gEq_int, gNe_int, gEq_bl, gIn_sign, gNotIn_sign, gAll_bls, lt_one, w_sl, w_c, w_op2, w_op1, w_evs0, w_evs1, o_rds0, o_rds1, w_opN, o_tks0, o_tks1, w_lst, w_tup, b_val, w_ite, w_mT, w_bAnd, w_bOr, w_bNot, w_bYes, w_and, w_or, w_not, w_if, w_ch, w_pt0, w_pt1, w_slc, w_call, w_meth, w_itr, w_rng1, w_rng2, w_rng3, w_enum, w_zip, s_seq, s_nx, s_rt, s_bk, s_ct, s_pass, s_brk, s_cnt, s_if, s_asg, s_drop, s_ret, s_retN, s_asgT, s_sub, s_box, s_for, o_some, o_none, o_ite, o_map, o_bind, wp_ok, wp_bad, z_val, z_new, z_bor, z_ali, r_non, r_bl, r_int, r_str, r_tup, r_lst, r_dk, r_dt, r_ktup, r_scr, r_glo, r_bor, r_new, r_ali, t_val, t_new, t_bor, t_ali, g_val, g_bor, g_new, g_ali, a_val, a_bor, a_ali, o_args0, o_args1, l_val, l_bor, l_ali, gAdd, gSub, mul_int, gMod, gDiv, gLt, gLe, gGt, gGe, gIsi, tyN, gLen, gNeg, gTuple, gList, gIsN, gNotN, gOrd, gMin, gMax, fNm, fTup, fCons, fNil, itemsOf, seqOf, k_NoneType_str, k_NoneType_tuple, k_NoneType_list, k_NoneType_int, k_NoneType_bool, k_NoneType_dict, k_bool_str, k_bool_tuple, k_bool_list, k_bool_int, k_bool_bool, k_bool_dict, k_int_str, k_int_tuple, k_int_list, k_int_int, k_int_bool, k_int_dict, k_str_str, k_str_tuple, k_str_list, k_str_int, k_str_bool, k_str_dict, k_tuple_str, k_tuple_tuple, k_tuple_list, k_tuple_int, k_tuple_bool, k_tuple_dict, k_list_str, k_list_tuple, k_list_list, k_list_int, k_list_bool, k_list_dict, k_dict_str, k_dict_tuple, k_dict_list, k_dict_int, k_dict_bool, k_dict_dict, slotOf, List.replicate, List.map_cons, List.map_nil, List.length_cons, List.length_nil, List.getElem?_cons_zero, List.getElem?_cons_succ, List.set_cons_zero, List.set_cons_succ, List.cons_append, List.nil_append, if_true, if_false, Bool.false_eq_true, reduceCtorEq, Nat.sub_self, Nat.reduceSub, Nat.reduceAdd, Nat.reduceLeDiff, Int.reduceLE, Int.reduceLT, Int.reducePow, Int.reduceToNat, Int.reduceNeg, Option.map_some, Option.map_none, Bool.not_true, Bool.not_false, ite_true, ite_false, decide_eq_true_eq, decide_true, decide_false, Bool.not_eq_true', wipeS, wipeL]
    exact ⟨ha, rfl, trivial⟩
  · rw [fm_chB]
    simp only [x_strI, Int.reduceEq, p10_1, p10_2, p10_3, p10_4, p10_5, p10_6, p10_7, p10_8, p10_9, p10_10, p10_11, p10_12, p10_13, p10_14, p10_15, p10_16, p10_17, p10_18, at_c0, at_c1, at_c2, at_c3, at_c4, at_c5, ix_30, ix_31, ix_32, subS, gSet, wr, ix_str, ix_lst, ix_tup, ix_ktup, ix_scr, gEq_str, gNe_str, gEq_int, gNe_int, gEq_bl, gIn_sign, gNotIn_sign, gAll_bls, lt_one, w_sl, w_c, w_op2, w_op1, w_evs0, w_evs1, o_rds0, o_rds1, w_opN, o_tks0, o_tks1, w_lst, w_tup, b_val, w_ite, w_mT, w_bAnd, w_bOr, w_bNot, w_bYes, w_and, w_or, w_not, w_if, w_ch, w_pt0, w_pt1, w_slc, w_call, w_meth, w_itr, w_rng1, w_rng2, w_rng3, w_enum, w_zip, s_seq, s_nx, s_rt, s_bk, s_ct, s_pass, s_brk, s_cnt, s_if, s_asg, s_drop, s_ret, s_retN, s_asgT, s_sub, s_box, s_for, o_some, o_none, o_ite, o_map, o_bind, wp_ok, wp_bad, z_val, z_new, z_bor, z_ali, r_non, r_bl, r_int, r_str, r_tup, r_lst, r_dk, r_dt, r_ktup, r_scr, r_glo, r_bor, r_new, r_ali, t_val, t_new, t_bor, t_ali, g_val, g_bor, g_new, g_ali, a_val, a_bor, a_ali, o_args0, o_args1, l_val, l_bor, l_ali, gAdd, gSub, mul_int, gMod, gDiv, gLt, gLe, gGt, gGe, gIsi, tyN, gLen, gNeg, gTuple, gList, gIsN, gNotN, gOrd, gMin, gMax, fNm, fTup, fCons, fNil, itemsOf, seqOf, k_NoneType_str, k_NoneType_tuple, k_NoneType_list, k_NoneType_int, k_NoneType_bool, k_NoneType_dict, k_bool_str, k_bool_tuple, k_bool_list, k_bool_int, k_bool_bool, k_bool_dict, k_int_str, k_int_tuple, k_int_list, k_int_int, k_int_bool, k_int_dict, k_str_str, k_str_tuple, k_str_list, k_str_int, k_str_bool, k_str_dict, k_tuple_str, k_tuple_tuple, k_tuple_list, k_tuple_int, k_tuple_bool, k_tuple_dict, k_list_str, k_list_tuple, k_list_list, k_list_int, k_list_bool, k_list_dict, k_dict_str, k_dict_tuple, k_dict_list, k_dict_int, k_dict_bool, k_dict_dict, slotOf, List.replicate, List.map_cons, List.map_nil, List.length_cons, List.length_nil, List.getElem?_cons_zero, List.getElem?_cons_succ, List.set_cons_zero, List.set_cons_succ, List.cons_append, List.nil_append, if_true, if_false, Bool.false_eq_true, reduceCtorEq, Nat.sub_self, Nat.reduceSub, Nat.reduceAdd, Nat.reduceLeDiff, Int.reduceLE, Int.reduceLT, Int.reducePow, Int.reduceToNat, Int.reduceNeg, Option.map_some, Option.map_none, Bool.not_true, Bool.not_false, ite_true, ite_false, decide_eq_true_eq, decide_true, decide_false, Bool.not_eq_true', restS, restL, keepV, wipeS, wipeL, all_id]
    by_cases h1 : x.all (fun d => decide (d ∈ digs)) = true
    · have h1' : (c :: r).all (fun d => decide (d ∈ digs)) = true := by rw [← hx]; exact h1
      have hk : kindP c r = if r.length ≤ 11 ∧ (c ≠ 48 ∨ r = []) then sNumber else sPlain := by unfold kindP; rw [if_pos h1']
      rw [hk]
      simp only [x_strI, Int.reduceEq, p10_1, p10_2, p10_3, p10_4, p10_5, p10_6, p10_7, p10_8, p10_9, p10_10, p10_11, p10_12, p10_13, p10_14, p10_15, p10_16, p10_17, p10_18, at_c0, at_c1, at_c2, at_c3, at_c4, at_c5, ix_30, ix_31, ix_32, subS, gSet, wr, ix_str, ix_lst, ix_tup, ix_ktup, ix_scr, gEq_str, gNe_str, gEq_int, gNe_int, gEq_bl, gIn_sign, gNotIn_sign, gAll_bls, lt_one, w_sl, w_c, w_op2, w_op1, w_evs0, w_evs1, o_rds0, o_rds1, w_opN, o_tks0, o_tks1, w_lst, w_tup, b_val, w_ite, w_mT, w_bAnd, w_bOr, w_bNot, w_bYes, w_and, w_or, w_not, w_if, w_ch, w_pt0, w_pt1, w_slc, w_call, w_meth, w_itr, w_rng1, w_rng2, w_rng3, w_enum, w_zip, s_seq, s_nx, s_rt, s_bk, s_ct, s_pass, s_brk, s_cnt, s_if, s_asg, s_drop, s_ret, s_retN, s_asgT, s_sub, s_box, s_for, o_some, o_none, o_ite, o_map, o_bind, wp_ok, wp_bad, z_val, z_new, z_bor, z_ali, r_non, r_bl, r_int, r_str, r_tup, r_lst, r_dk, r_dt, r_ktup, r_scr, r_glo, r_bor, r_new, r_ali, t_val, t_new, t_bor, t_ali, g_val, g_bor, g_new, g_ali, a_val, a_bor, a_ali, o_args0, o_args1, l_val, l_bor, l_ali, gAdd, gSub, mul_int, gMod, gDiv, gLt, gLe, gGt, gGe, gIsi, tyN, gLen, gNeg, gTuple, gList, gIsN, gNotN, gOrd, gMin, gMax, fNm, fTup, fCons, fNil, itemsOf, seqOf, k_NoneType_str, k_NoneType_tuple, k_NoneType_list, k_NoneType_int, k_NoneType_bool, k_NoneType_dict, k_bool_str, k_bool_tuple, k_bool_list, k_bool_int, k_bool_bool, k_bool_dict, k_int_str, k_int_tuple, k_int_list, k_int_int, k_int_bool, k_int_dict, k_str_str, k_str_tuple, k_str_list, k_str_int, k_str_bool, k_str_dict, k_tuple_str, k_tuple_tuple, k_tuple_list, k_tuple_int, k_tuple_bool, k_tuple_dict, k_list_str, k_list_tuple, k_list_list, k_list_int, k_list_bool, k_list_dict, k_dict_str, k_dict_tuple, k_dict_list, k_dict_int, k_dict_bool, k_dict_dict, slotOf, List.replicate, List.map_cons, List.map_nil, List.length_cons, List.length_nil, List.getElem?_cons_zero, List.getElem?_cons_succ, List.set_cons_zero, List.set_cons_succ, List.cons_append, List.nil_append, if_true, if_false, Bool.false_eq_true, reduceCtorEq, Nat.sub_self, Nat.reduceSub, Nat.reduceAdd, Nat.reduceLeDiff, Int.reduceLE, Int.reduceLT, Int.reducePow, Int.reduceToNat, Int.reduceNeg, Option.map_some, Option.map_none, Bool.not_true, Bool.not_false, ite_true, ite_false, decide_eq_true_eq, decide_true, decide_false, Bool.not_eq_true', h1, hl, atI_0 hx]
      have i1 : ((x.length : Int) ≤ 12) ↔ r.length ≤ 11 := by omega
      by_cases q1 : r.length ≤ 11 <;> by_cases q2 : c = 48 <;> by_cases q3 : r = [] <;> simp [i1, q1, q2, q3, hx, sNumber, sPlain] <;> omega
    · have h1' : ¬ (c :: r).all (fun d => decide (d ∈ digs)) = true := by rw [← hx]; exact h1
      have hk : kindP c r = if 1 ≤ r.length ∧ c ∈ greats ∧ r.all (fun d => decide (d ∈ smalls)) then sName else sPlain := by unfold kindP; rw [if_neg h1']
      rw [hk]
      simp only [x_strI, Int.reduceEq, p10_1, p10_2, p10_3, p10_4, p10_5, p10_6, p10_7, p10_8, p10_9, p10_10, p10_11, p10_12, p10_13, p10_14, p10_15, p10_16, p10_17, p10_18, at_c0, at_c1, at_c2, at_c3, at_c4, at_c5, ix_30, ix_31, ix_32, subS, gSet, wr, ix_str, ix_lst, ix_tup, ix_ktup, ix_scr, gEq_str, gNe_str, gEq_int, gNe_int, gEq_bl, gIn_sign, gNotIn_sign, gAll_bls, lt_one, w_sl, w_c, w_op2, w_op1, w_evs0, w_evs1, o_rds0, o_rds1, w_opN, o_tks0, o_tks1, w_lst, w_tup, b_val, w_ite, w_mT, w_bAnd, w_bOr, w_bNot, w_bYes, w_and, w_or, w_not, w_if, w_ch, w_pt0, w_pt1, w_slc, w_call, w_meth, w_itr, w_rng1, w_rng2, w_rng3, w_enum, w_zip, s_seq, s_nx, s_rt, s_bk, s_ct, s_pass, s_brk, s_cnt, s_if, s_asg, s_drop, s_ret, s_retN, s_asgT, s_sub, s_box, s_for, o_some, o_none, o_ite, o_map, o_bind, wp_ok, wp_bad, z_val, z_new, z_bor, z_ali, r_non, r_bl, r_int, r_str, r_tup, r_lst, r_dk, r_dt, r_ktup, r_scr, r_glo, r_bor, r_new, r_ali, t_val, t_new, t_bor, t_ali, g_val, g_bor, g_new, g_ali, a_val, a_bor, a_ali, o_args0, o_args1, l_val, l_bor, l_ali, gAdd, gSub, mul_int, gMod, gDiv, gLt, gLe, gGt, gGe, gIsi, tyN, gLen, gNeg, gTuple, gList, gIsN, gNotN, gOrd, gMin, gMax, fNm, fTup, fCons, fNil, itemsOf, seqOf, k_NoneType_str, k_NoneType_tuple, k_NoneType_list, k_NoneType_int, k_NoneType_bool, k_NoneType_dict, k_bool_str, k_bool_tuple, k_bool_list, k_bool_int, k_bool_bool, k_bool_dict, k_int_str, k_int_tuple, k_int_list, k_int_int, k_int_bool, k_int_dict, k_str_str, k_str_tuple, k_str_list, k_str_int, k_str_bool, k_str_dict, k_tuple_str, k_tuple_tuple, k_tuple_list, k_tuple_int, k_tuple_bool, k_tuple_dict, k_list_str, k_list_tuple, k_list_list, k_list_int, k_list_bool, k_list_dict, k_dict_str, k_dict_tuple, k_dict_list, k_dict_int, k_dict_bool, k_dict_dict, slotOf, List.replicate, List.map_cons, List.map_nil, List.length_cons, List.length_nil, List.getElem?_cons_zero, List.getElem?_cons_succ, List.set_cons_zero, List.set_cons_succ, List.cons_append, List.nil_append, if_true, if_false, Bool.false_eq_true, reduceCtorEq, Nat.sub_self, Nat.reduceSub, Nat.reduceAdd, Nat.reduceLeDiff, Int.reduceLE, Int.reduceLT, Int.reducePow, Int.reduceToNat, Int.reduceNeg, Option.map_some, Option.map_none, Bool.not_true, Bool.not_false, ite_true, ite_false, decide_eq_true_eq, decide_true, decide_false, Bool.not_eq_true', h1, hl, atI_0 hx]
      have i1 : ((1 : Int) < x.length) ↔ 1 ≤ r.length := by omega
      by_cases q1 : 1 ≤ r.length
      · by_cases q2 : c ∈ greats
        · rw [if_pos (i1.mpr q1), if_pos q2]
          refine wp_comp (chB fun d => decide (d ∈ smalls)) ?_
          simp only [x_strI, Int.reduceEq, p10_1, p10_2, p10_3, p10_4, p10_5, p10_6, p10_7, p10_8, p10_9, p10_10, p10_11, p10_12, p10_13, p10_14, p10_15, p10_16, p10_17, p10_18, at_c0, at_c1, at_c2, at_c3, at_c4, at_c5, ix_30, ix_31, ix_32, subS, gSet, wr, ix_str, ix_lst, ix_tup, ix_ktup, ix_scr, gEq_str, gNe_str, gEq_int, gNe_int, gEq_bl, gIn_sign, gNotIn_sign, gAll_bls, lt_one, w_sl, w_c, w_op2, w_op1, w_evs0, w_evs1, o_rds0, o_rds1, w_opN, o_tks0, o_tks1, w_lst, w_tup, b_val, w_ite, w_mT, w_bAnd, w_bOr, w_bNot, w_bYes, w_and, w_or, w_not, w_if, w_ch, w_pt0, w_pt1, w_slc, w_call, w_meth, w_itr, w_rng1, w_rng2, w_rng3, w_enum, w_zip, s_seq, s_nx, s_rt, s_bk, s_ct, s_pass, s_brk, s_cnt, s_if, s_asg, s_drop, s_ret, s_retN, s_asgT, s_sub, s_box, s_for, o_some, o_none, o_ite, o_map, o_bind, wp_ok, wp_bad, z_val, z_new, z_bor, z_ali, r_non, r_bl, r_int, r_str, r_tup, r_lst, r_dk, r_dt, r_ktup, r_scr, r_glo, r_bor, r_new, r_ali, t_val, t_new, t_bor, t_ali, g_val, g_bor, g_new, g_ali, a_val, a_bor, a_ali, o_args0, o_args1, l_val, l_bor, l_ali, gAdd, gSub, mul_int, gMod, gDiv, gLt, gLe, gGt, gGe, gIsi, tyN, gLen, gNeg, gTuple, gList, gIsN, gNotN, gOrd, gMin, gMax, fNm, fTup, fCons, fNil, itemsOf, seqOf, k_NoneType_str, k_NoneType_tuple, k_NoneType_list, k_NoneType_int, k_NoneType_bool, k_NoneType_dict, k_bool_str, k_bool_tuple, k_bool_list, k_bool_int, k_bool_bool, k_bool_dict, k_int_str, k_int_tuple, k_int_list, k_int_int, k_int_bool, k_int_dict, k_str_str, k_str_tuple, k_str_list, k_str_int, k_str_bool, k_str_dict, k_tuple_str, k_tuple_tuple, k_tuple_list, k_tuple_int, k_tuple_bool, k_tuple_dict, k_list_str, k_list_tuple, k_list_list, k_list_int, k_list_bool, k_list_dict, k_dict_str, k_dict_tuple, k_dict_list, k_dict_int, k_dict_bool, k_dict_dict, slotOf, List.replicate, List.map_cons, List.map_nil, List.length_cons, List.length_nil, List.getElem?_cons_zero, List.getElem?_cons_succ, List.set_cons_zero, List.set_cons_succ, List.cons_append, List.nil_append, if_true, if_false, Bool.false_eq_true, reduceCtorEq, Nat.sub_self, Nat.reduceSub, Nat.reduceAdd, Nat.reduceLeDiff, Int.reduceLE, Int.reduceLT, Int.reducePow, Int.reduceToNat, Int.reduceNeg, Option.map_some, Option.map_none, Bool.not_true, Bool.not_false, ite_true, ite_false, decide_eq_true_eq, decide_true, decide_false, Bool.not_eq_true', chars_len, slc_1 hx hl]
          refine ⟨hr, fun t ht acc ha => ?_, ?_⟩
          · obtain ⟨d, _, rfl⟩ := chars_mem ht
            refine wp_step rfl ?_
            simp only [x_strI, Int.reduceEq, p10_1, p10_2, p10_3, p10_4, p10_5, p10_6, p10_7, p10_8, p10_9, p10_10, p10_11, p10_12, p10_13, p10_14, p10_15, p10_16, p10_17, p10_18, at_c0, at_c1, at_c2, at_c3, at_c4, at_c5, ix_30, ix_31, ix_32, subS, gSet, wr, ix_str, ix_lst, ix_tup, ix_ktup, ix_scr, gEq_str, gNe_str, gEq_int, gNe_int, gEq_bl, gIn_sign, gNotIn_sign, gAll_bls, lt_one, w_sl, w_c, w_op2, w_op1, w_evs0, w_evs1, o_rds0, o_rds1, w_opN, o_tks0, o_tks1, w_lst, w_tup, b_val, w_ite, w_mT, w_bAnd, w_bOr, w_bNot, w_bYes, w_and, w_or, w_not, w_if, w_ch, w_pt0, w_pt1, w_slc, w_call, w_meth, w_itr, w_rng1, w_rng2, w_rng3, w_enum, w_zip, s_seq, s_nx, s_rt, s_bk, s_ct, s_pass, s_brk, s_cnt, s_if, s_asg, s_drop, s_ret, s_retN, s_asgT, s_sub, s_box, s_for, o_some, o_none, o_ite, o_map, o_bind, wp_ok, wp_bad, z_val, z_new, z_bor, z_ali, r_non, r_bl, r_int, r_str, r_tup, r_lst, r_dk, r_dt, r_ktup, r_scr, r_glo, r_bor, r_new, r_ali, t_val, t_new, t_bor, t_ali, g_val, g_bor, g_new, g_ali, a_val, a_bor, a_ali, o_args0, o_args1, l_val, l_bor, l_ali, gAdd, gSub, mul_int, gMod, gDiv, gLt, gLe, gGt, gGe, gIsi, tyN, gLen, gNeg, gTuple, gList, gIsN, gNotN, gOrd, gMin, gMax, fNm, fTup, fCons, fNil, itemsOf, seqOf, k_NoneType_str, k_NoneType_tuple, k_NoneType_list, k_NoneType_int, k_NoneType_bool, k_NoneType_dict, k_bool_str, k_bool_tuple, k_bool_list, k_bool_int, k_bool_bool, k_bool_dict, k_int_str, k_int_tuple, k_int_list, k_int_int, k_int_bool, k_int_dict, k_str_str, k_str_tuple, k_str_list, k_str_int, k_str_bool, k_str_dict, k_tuple_str, k_tuple_tuple, k_tuple_list, k_tuple_int, k_tuple_bool, k_tuple_dict, k_list_str, k_list_tuple, k_list_list, k_list_int, k_list_bool, k_list_dict, k_dict_str, k_dict_tuple, k_dict_list, k_dict_int, k_dict_bool, k_dict_dict, slotOf, List.replicate, List.map_cons, List.map_nil, List.length_cons, List.length_nil, List.getElem?_cons_zero, List.getElem?_cons_succ, List.set_cons_zero, List.set_cons_succ, List.cons_append, List.nil_append, if_true, if_false, Bool.false_eq_true, reduceCtorEq, Nat.sub_self, Nat.reduceSub, Nat.reduceAdd, Nat.reduceLeDiff, Int.reduceLE, Int.reduceLT, Int.reducePow, Int.reduceToNat, Int.reduceNeg, Option.map_some, Option.map_none, Bool.not_true, Bool.not_false, ite_true, ite_false, decide_eq_true_eq, decide_true, decide_false, Bool.not_eq_true', wipeS, wipeL]
            exact ⟨ha, rfl, trivial⟩
          · rw [fm_chB]
            simp only [x_strI, Int.reduceEq, p10_1, p10_2, p10_3, p10_4, p10_5, p10_6, p10_7, p10_8, p10_9, p10_10, p10_11, p10_12, p10_13, p10_14, p10_15, p10_16, p10_17, p10_18, at_c0, at_c1, at_c2, at_c3, at_c4, at_c5, ix_30, ix_31, ix_32, subS, gSet, wr, ix_str, ix_lst, ix_tup, ix_ktup, ix_scr, gEq_str, gNe_str, gEq_int, gNe_int, gEq_bl, gIn_sign, gNotIn_sign, gAll_bls, lt_one, w_sl, w_c, w_op2, w_op1, w_evs0, w_evs1, o_rds0, o_rds1, w_opN, o_tks0, o_tks1, w_lst, w_tup, b_val, w_ite, w_mT, w_bAnd, w_bOr, w_bNot, w_bYes, w_and, w_or, w_not, w_if, w_ch, w_pt0, w_pt1, w_slc, w_call, w_meth, w_itr, w_rng1, w_rng2, w_rng3, w_enum, w_zip, s_seq, s_nx, s_rt, s_bk, s_ct, s_pass, s_brk, s_cnt, s_if, s_asg, s_drop, s_ret, s_retN, s_asgT, s_sub, s_box, s_for, o_some, o_none, o_ite, o_map, o_bind, wp_ok, wp_bad, z_val, z_new, z_bor, z_ali, r_non, r_bl, r_int, r_str, r_tup, r_lst, r_dk, r_dt, r_ktup, r_scr, r_glo, r_bor, r_new, r_ali, t_val, t_new, t_bor, t_ali, g_val, g_bor, g_new, g_ali, a_val, a_bor, a_ali, o_args0, o_args1, l_val, l_bor, l_ali, gAdd, gSub, mul_int, gMod, gDiv, gLt, gLe, gGt, gGe, gIsi, tyN, gLen, gNeg, gTuple, gList, gIsN, gNotN, gOrd, gMin, gMax, fNm, fTup, fCons, fNil, itemsOf, seqOf, k_NoneType_str, k_NoneType_tuple, k_NoneType_list, k_NoneType_int, k_NoneType_bool, k_NoneType_dict, k_bool_str, k_bool_tuple, k_bool_list, k_bool_int, k_bool_bool, k_bool_dict, k_int_str, k_int_tuple, k_int_list, k_int_int, k_int_bool, k_int_dict, k_str_str, k_str_tuple, k_str_list, k_str_int, k_str_bool, k_str_dict, k_tuple_str, k_tuple_tuple, k_tuple_list, k_tuple_int, k_tuple_bool, k_tuple_dict, k_list_str, k_list_tuple, k_list_list, k_list_int, k_list_bool, k_list_dict, k_dict_str, k_dict_tuple, k_dict_list, k_dict_int, k_dict_bool, k_dict_dict, slotOf, List.replicate, List.map_cons, List.map_nil, List.length_cons, List.length_nil, List.getElem?_cons_zero, List.getElem?_cons_succ, List.set_cons_zero, List.set_cons_succ, List.cons_append, List.nil_append, if_true, if_false, Bool.false_eq_true, reduceCtorEq, Nat.sub_self, Nat.reduceSub, Nat.reduceAdd, Nat.reduceLeDiff, Int.reduceLE, Int.reduceLT, Int.reducePow, Int.reduceToNat, Int.reduceNeg, Option.map_some, Option.map_none, Bool.not_true, Bool.not_false, ite_true, ite_false, decide_eq_true_eq, decide_true, decide_false, Bool.not_eq_true', restS, restL, keepV, wipeS, wipeL, all_id]
            by_cases q3 : r.all (fun d => decide (d ∈ smalls)) = true
            · simp only [x_strI, Int.reduceEq, p10_1, p10_2, p10_3, p10_4, p10_5, p10_6, p10_7, p10_8, p10_9, p10_10, p10_11, p10_12, p10_13, p10_14, p10_15, p10_16, p10_17, p10_18, at_c0, at_c1, at_c2, at_c3, at_c4, at_c5, ix_30, ix_31, ix_32, subS, gSet, wr, ix_str, ix_lst, ix_tup, ix_ktup, ix_scr, gEq_str, gNe_str, gEq_int, gNe_int, gEq_bl, gIn_sign, gNotIn_sign, gAll_bls, lt_one, w_sl, w_c, w_op2, w_op1, w_evs0, w_evs1, o_rds0, o_rds1, w_opN, o_tks0, o_tks1, w_lst, w_tup, b_val, w_ite, w_mT, w_bAnd, w_bOr, w_bNot, w_bYes, w_and, w_or, w_not, w_if, w_ch, w_pt0, w_pt1, w_slc, w_call, w_meth, w_itr, w_rng1, w_rng2, w_rng3, w_enum, w_zip, s_seq, s_nx, s_rt, s_bk, s_ct, s_pass, s_brk, s_cnt, s_if, s_asg, s_drop, s_ret, s_retN, s_asgT, s_sub, s_box, s_for, o_some, o_none, o_ite, o_map, o_bind, wp_ok, wp_bad, z_val, z_new, z_bor, z_ali, r_non, r_bl, r_int, r_str, r_tup, r_lst, r_dk, r_dt, r_ktup, r_scr, r_glo, r_bor, r_new, r_ali, t_val, t_new, t_bor, t_ali, g_val, g_bor, g_new, g_ali, a_val, a_bor, a_ali, o_args0, o_args1, l_val, l_bor, l_ali, gAdd, gSub, mul_int, gMod, gDiv, gLt, gLe, gGt, gGe, gIsi, tyN, gLen, gNeg, gTuple, gList, gIsN, gNotN, gOrd, gMin, gMax, fNm, fTup, fCons, fNil, itemsOf, seqOf, k_NoneType_str, k_NoneType_tuple, k_NoneType_list, k_NoneType_int, k_NoneType_bool, k_NoneType_dict, k_bool_str, k_bool_tuple, k_bool_list, k_bool_int, k_bool_bool, k_bool_dict, k_int_str, k_int_tuple, k_int_list, k_int_int, k_int_bool, k_int_dict, k_str_str, k_str_tuple, k_str_list, k_str_int, k_str_bool, k_str_dict, k_tuple_str, k_tuple_tuple, k_tuple_list, k_tuple_int, k_tuple_bool, k_tuple_dict, k_list_str, k_list_tuple, k_list_list, k_list_int, k_list_bool, k_list_dict, k_dict_str, k_dict_tuple, k_dict_list, k_dict_int, k_dict_bool, k_dict_dict, slotOf, List.replicate, List.map_cons, List.map_nil, List.length_cons, List.length_nil, List.getElem?_cons_zero, List.getElem?_cons_succ, List.set_cons_zero, List.set_cons_succ, List.cons_append, List.nil_append, if_true, if_false, Bool.false_eq_true, reduceCtorEq, Nat.sub_self, Nat.reduceSub, Nat.reduceAdd, Nat.reduceLeDiff, Int.reduceLE, Int.reduceLT, Int.reducePow, Int.reduceToNat, Int.reduceNeg, Option.map_some, Option.map_none, Bool.not_true, Bool.not_false, ite_true, ite_false, decide_eq_true_eq, decide_true, decide_false, Bool.not_eq_true', q1, q2, q3]; exact ⟨rfl, trivial⟩
            · simp only [x_strI, Int.reduceEq, p10_1, p10_2, p10_3, p10_4, p10_5, p10_6, p10_7, p10_8, p10_9, p10_10, p10_11, p10_12, p10_13, p10_14, p10_15, p10_16, p10_17, p10_18, at_c0, at_c1, at_c2, at_c3, at_c4, at_c5, ix_30, ix_31, ix_32, subS, gSet, wr, ix_str, ix_lst, ix_tup, ix_ktup, ix_scr, gEq_str, gNe_str, gEq_int, gNe_int, gEq_bl, gIn_sign, gNotIn_sign, gAll_bls, lt_one, w_sl, w_c, w_op2, w_op1, w_evs0, w_evs1, o_rds0, o_rds1, w_opN, o_tks0, o_tks1, w_lst, w_tup, b_val, w_ite, w_mT, w_bAnd, w_bOr, w_bNot, w_bYes, w_and, w_or, w_not, w_if, w_ch, w_pt0, w_pt1, w_slc, w_call, w_meth, w_itr, w_rng1, w_rng2, w_rng3, w_enum, w_zip, s_seq, s_nx, s_rt, s_bk, s_ct, s_pass, s_brk, s_cnt, s_if, s_asg, s_drop, s_ret, s_retN, s_asgT, s_sub, s_box, s_for, o_some, o_none, o_ite, o_map, o_bind, wp_ok, wp_bad, z_val, z_new, z_bor, z_ali, r_non, r_bl, r_int, r_str, r_tup, r_lst, r_dk, r_dt, r_ktup, r_scr, r_glo, r_bor, r_new, r_ali, t_val, t_new, t_bor, t_ali, g_val, g_bor, g_new, g_ali, a_val, a_bor, a_ali, o_args0, o_args1, l_val, l_bor, l_ali, gAdd, gSub, mul_int, gMod, gDiv, gLt, gLe, gGt, gGe, gIsi, tyN, gLen, gNeg, gTuple, gList, gIsN, gNotN, gOrd, gMin, gMax, fNm, fTup, fCons, fNil, itemsOf, seqOf, k_NoneType_str, k_NoneType_tuple, k_NoneType_list, k_NoneType_int, k_NoneType_bool, k_NoneType_dict, k_bool_str, k_bool_tuple, k_bool_list, k_bool_int, k_bool_bool, k_bool_dict, k_int_str, k_int_tuple, k_int_list, k_int_int, k_int_bool, k_int_dict, k_str_str, k_str_tuple, k_str_list, k_str_int, k_str_bool, k_str_dict, k_tuple_str, k_tuple_tuple, k_tuple_list, k_tuple_int, k_tuple_bool, k_tuple_dict, k_list_str, k_list_tuple, k_list_list, k_list_int, k_list_bool, k_list_dict, k_dict_str, k_dict_tuple, k_dict_list, k_dict_int, k_dict_bool, k_dict_dict, slotOf, List.replicate, List.map_cons, List.map_nil, List.length_cons, List.length_nil, List.getElem?_cons_zero, List.getElem?_cons_succ, List.set_cons_zero, List.set_cons_succ, List.cons_append, List.nil_append, if_true, if_false, Bool.false_eq_true, reduceCtorEq, Nat.sub_self, Nat.reduceSub, Nat.reduceAdd, Nat.reduceLeDiff, Int.reduceLE, Int.reduceLT, Int.reducePow, Int.reduceToNat, Int.reduceNeg, Option.map_some, Option.map_none, Bool.not_true, Bool.not_false, ite_true, ite_false, decide_eq_true_eq, decide_true, decide_false, Bool.not_eq_true', q1, q2, q3]; exact ⟨rfl, trivial⟩
        · rw [if_pos (i1.mpr q1), if_neg q2]
          simp [q2, sPlain]
      · rw [if_neg (fun z => q1 (i1.mp z))]
        simp [q1, sPlain]
theorem filter_nil (p : Nat → Bool) (x : List Nat) : (x.filter fun c => !p c).isEmpty = x.all p := by
  induction x with
  | nil => rfl
  | cons c x ih => cases h : p c <;> simp_all
theorem chars_empty (x : List Nat) : (chars x).isEmpty = x.isEmpty := by cases x <;> rfl
theorem dtA_chars (ce : List T) (x : List Nat) : DtA ce (chars x) := by rw [chars_strs]; exact dtA_strs ce _
theorem law_kind_ok (x : List Nat) (c : Nat) (r : List Nat) (hx : x = c :: r) (ce : List T) (hl : x.length ≤ line) : IsV (f__law_kind [.val (.str x)] ce) (.str (kindP c r)) ce := by
  refine .of ?_
  unfold f__law_kind runF
  refine WP.endF ?_
  have hlen : x.length = r.length + 1 := by rw [hx]; rfl
  have hr : r.length ≤ line := by omega
  simp only [m__law_kind, x_strI, Int.reduceEq, p10_1, p10_2, p10_3, p10_4, p10_5, p10_6, p10_7, p10_8, p10_9, p10_10, p10_11, p10_12, p10_13, p10_14, p10_15, p10_16, p10_17, p10_18, at_c0, at_c1, at_c2, at_c3, at_c4, at_c5, ix_30, ix_31, ix_32, subS, gSet, wr, ix_str, ix_lst, ix_tup, ix_ktup, ix_scr, gEq_str, gNe_str, gEq_int, gNe_int, gEq_bl, gIn_sign, gNotIn_sign, gAll_bls, lt_one, w_sl, w_c, w_op2, w_op1, w_evs0, w_evs1, o_rds0, o_rds1, w_opN, o_tks0, o_tks1, w_lst, w_tup, b_val, w_ite, w_mT, w_bAnd, w_bOr, w_bNot, w_bYes, w_and, w_or, w_not, w_if, w_ch, w_pt0, w_pt1, w_slc, w_call, w_meth, w_itr, w_rng1, w_rng2, w_rng3, w_enum, w_zip, s_seq, s_nx, s_rt, s_bk, s_ct, s_pass, s_brk, s_cnt, s_if, s_asg, s_drop, s_ret, s_retN, s_asgT, s_sub, s_box, s_for, o_some, o_none, o_ite, o_map, o_bind, wp_ok, wp_bad, z_val, z_new, z_bor, z_ali, r_non, r_bl, r_int, r_str, r_tup, r_lst, r_dk, r_dt, r_ktup, r_scr, r_glo, r_bor, r_new, r_ali, t_val, t_new, t_bor, t_ali, g_val, g_bor, g_new, g_ali, a_val, a_bor, a_ali, o_args0, o_args1, l_val, l_bor, l_ali, gAdd, gSub, mul_int, gMod, gDiv, gLt, gLe, gGt, gGe, gIsi, tyN, gLen, gNeg, gTuple, gList, gIsN, gNotN, gOrd, gMin, gMax, fNm, fTup, fCons, fNil, itemsOf, seqOf, k_NoneType_str, k_NoneType_tuple, k_NoneType_list, k_NoneType_int, k_NoneType_bool, k_NoneType_dict, k_bool_str, k_bool_tuple, k_bool_list, k_bool_int, k_bool_bool, k_bool_dict, k_int_str, k_int_tuple, k_int_list, k_int_int, k_int_bool, k_int_dict, k_str_str, k_str_tuple, k_str_list, k_str_int, k_str_bool, k_str_dict, k_tuple_str, k_tuple_tuple, k_tuple_list, k_tuple_int, k_tuple_bool, k_tuple_dict, k_list_str, k_list_tuple, k_list_list, k_list_int, k_list_bool, k_list_dict, k_dict_str, k_dict_tuple, k_dict_list, k_dict_int, k_dict_bool, k_dict_dict, slotOf, List.replicate, List.map_cons, List.map_nil, List.length_cons, List.length_nil, List.getElem?_cons_zero, List.getElem?_cons_succ, List.set_cons_zero, List.set_cons_succ, List.cons_append, List.nil_append, if_true, if_false, Bool.false_eq_true, reduceCtorEq, Nat.sub_self, Nat.reduceSub, Nat.reduceAdd, Nat.reduceLeDiff, Int.reduceLE, Int.reduceLT, Int.reducePow, Int.reduceToNat, Int.reduceNeg, Option.map_some, Option.map_none, Bool.not_true, Bool.not_false, ite_true, ite_false, decide_eq_true_eq, decide_true, decide_false, Bool.not_eq_true']
  refine wp_comp (chF fun d => !decide (d ∈ digs)) ?_
  simp only [x_strI, Int.reduceEq, p10_1, p10_2, p10_3, p10_4, p10_5, p10_6, p10_7, p10_8, p10_9, p10_10, p10_11, p10_12, p10_13, p10_14, p10_15, p10_16, p10_17, p10_18, at_c0, at_c1, at_c2, at_c3, at_c4, at_c5, ix_30, ix_31, ix_32, subS, gSet, wr, ix_str, ix_lst, ix_tup, ix_ktup, ix_scr, gEq_str, gNe_str, gEq_int, gNe_int, gEq_bl, gIn_sign, gNotIn_sign, gAll_bls, lt_one, w_sl, w_c, w_op2, w_op1, w_evs0, w_evs1, o_rds0, o_rds1, w_opN, o_tks0, o_tks1, w_lst, w_tup, b_val, w_ite, w_mT, w_bAnd, w_bOr, w_bNot, w_bYes, w_and, w_or, w_not, w_if, w_ch, w_pt0, w_pt1, w_slc, w_call, w_meth, w_itr, w_rng1, w_rng2, w_rng3, w_enum, w_zip, s_seq, s_nx, s_rt, s_bk, s_ct, s_pass, s_brk, s_cnt, s_if, s_asg, s_drop, s_ret, s_retN, s_asgT, s_sub, s_box, s_for, o_some, o_none, o_ite, o_map, o_bind, wp_ok, wp_bad, z_val, z_new, z_bor, z_ali, r_non, r_bl, r_int, r_str, r_tup, r_lst, r_dk, r_dt, r_ktup, r_scr, r_glo, r_bor, r_new, r_ali, t_val, t_new, t_bor, t_ali, g_val, g_bor, g_new, g_ali, a_val, a_bor, a_ali, o_args0, o_args1, l_val, l_bor, l_ali, gAdd, gSub, mul_int, gMod, gDiv, gLt, gLe, gGt, gGe, gIsi, tyN, gLen, gNeg, gTuple, gList, gIsN, gNotN, gOrd, gMin, gMax, fNm, fTup, fCons, fNil, itemsOf, seqOf, k_NoneType_str, k_NoneType_tuple, k_NoneType_list, k_NoneType_int, k_NoneType_bool, k_NoneType_dict, k_bool_str, k_bool_tuple, k_bool_list, k_bool_int, k_bool_bool, k_bool_dict, k_int_str, k_int_tuple, k_int_list, k_int_int, k_int_bool, k_int_dict, k_str_str, k_str_tuple, k_str_list, k_str_int, k_str_bool, k_str_dict, k_tuple_str, k_tuple_tuple, k_tuple_list, k_tuple_int, k_tuple_bool, k_tuple_dict, k_list_str, k_list_tuple, k_list_list, k_list_int, k_list_bool, k_list_dict, k_dict_str, k_dict_tuple, k_dict_list, k_dict_int, k_dict_bool, k_dict_dict, slotOf, List.replicate, List.map_cons, List.map_nil, List.length_cons, List.length_nil, List.getElem?_cons_zero, List.getElem?_cons_succ, List.set_cons_zero, List.set_cons_succ, List.cons_append, List.nil_append, if_true, if_false, Bool.false_eq_true, reduceCtorEq, Nat.sub_self, Nat.reduceSub, Nat.reduceAdd, Nat.reduceLeDiff, Int.reduceLE, Int.reduceLT, Int.reducePow, Int.reduceToNat, Int.reduceNeg, Option.map_some, Option.map_none, Bool.not_true, Bool.not_false, ite_true, ite_false, decide_eq_true_eq, decide_true, decide_false, Bool.not_eq_true', chars_len]
  refine ⟨hl, fun t ht acc ha => ?_, ?_⟩
  · obtain ⟨d, _, rfl⟩ := chars_mem ht
    refine wp_step rfl ?_
    simp only [x_strI, Int.reduceEq, p10_1, p10_2, p10_3, p10_4, p10_5, p10_6, p10_7, p10_8, p10_9, p10_10, p10_11, p10_12, p10_13, p10_14, p10_15, p10_16, p10_17, p10_18, at_c0, at_c1, at_c2, at_c3, at_c4, at_c5, ix_30, ix_31, ix_32, subS, gSet, wr, ix_str, ix_lst, ix_tup, ix_ktup, ix_scr, gEq_str, gNe_str, gEq_int, gNe_int, gEq_bl, gIn_sign, gNotIn_sign, gAll_bls, lt_one, w_sl, w_c, w_op2, w_op1, w_evs0, w_evs1, o_rds0, o_rds1, w_opN, o_tks0, o_tks1, w_lst, w_tup, b_val, w_ite, w_mT, w_bAnd, w_bOr, w_bNot, w_bYes, w_and, w_or, w_not, w_if, w_ch, w_pt0, w_pt1, w_slc, w_call, w_meth, w_itr, w_rng1, w_rng2, w_rng3, w_enum, w_zip, s_seq, s_nx, s_rt, s_bk, s_ct, s_pass, s_brk, s_cnt, s_if, s_asg, s_drop, s_ret, s_retN, s_asgT, s_sub, s_box, s_for, o_some, o_none, o_ite, o_map, o_bind, wp_ok, wp_bad, z_val, z_new, z_bor, z_ali, r_non, r_bl, r_int, r_str, r_tup, r_lst, r_dk, r_dt, r_ktup, r_scr, r_glo, r_bor, r_new, r_ali, t_val, t_new, t_bor, t_ali, g_val, g_bor, g_new, g_ali, a_val, a_bor, a_ali, o_args0, o_args1, l_val, l_bor, l_ali, gAdd, gSub, mul_int, gMod, gDiv, gLt, gLe, gGt, gGe, gIsi, tyN, gLen, gNeg, gTuple, gList, gIsN, gNotN, gOrd, gMin, gMax, fNm, fTup, fCons, fNil, itemsOf, seqOf, k_NoneType_str, k_NoneType_tuple, k_NoneType_list, k_NoneType_int, k_NoneType_bool, k_NoneType_dict, k_bool_str, k_bool_tuple, k_bool_list, k_bool_int, k_bool_bool, k_bool_dict, k_int_str, k_int_tuple, k_int_list, k_int_int, k_int_bool, k_int_dict, k_str_str, k_str_tuple, k_str_list, k_str_int, k_str_bool, k_str_dict, k_tuple_str, k_tuple_tuple, k_tuple_list, k_tuple_int, k_tuple_bool, k_tuple_dict, k_list_str, k_list_tuple, k_list_list, k_list_int, k_list_bool, k_list_dict, k_dict_str, k_dict_tuple, k_dict_list, k_dict_int, k_dict_bool, k_dict_dict, slotOf, List.replicate, List.map_cons, List.map_nil, List.length_cons, List.length_nil, List.getElem?_cons_zero, List.getElem?_cons_succ, List.set_cons_zero, List.set_cons_succ, List.cons_append, List.nil_append, if_true, if_false, Bool.false_eq_true, reduceCtorEq, Nat.sub_self, Nat.reduceSub, Nat.reduceAdd, Nat.reduceLeDiff, Int.reduceLE, Int.reduceLT, Int.reducePow, Int.reduceToNat, Int.reduceNeg, Option.map_some, Option.map_none, Bool.not_true, Bool.not_false, ite_true, ite_false, decide_eq_true_eq, decide_true, decide_false, Bool.not_eq_true', wipeS, wipeL]
    by_cases q : d ∈ digs <;> simp [x_strI, Int.reduceEq, p10_1, p10_2, p10_3, p10_4, p10_5, p10_6, p10_7, p10_8, p10_9, p10_10, p10_11, p10_12, p10_13, p10_14, p10_15, p10_16, p10_17, p10_18, at_c0, at_c1, at_c2, at_c3, at_c4, at_c5, ix_30, ix_31, ix_32, subS, gSet, wr, ix_str, ix_lst, ix_tup, ix_ktup, ix_scr, gEq_str, gNe_str, gEq_int, gNe_int, gEq_bl, gIn_sign, gNotIn_sign, gAll_bls, lt_one, w_sl, w_c, w_op2, w_op1, w_evs0, w_evs1, o_rds0, o_rds1, w_opN, o_tks0, o_tks1, w_lst, w_tup, b_val, w_ite, w_mT, w_bAnd, w_bOr, w_bNot, w_bYes, w_and, w_or, w_not, w_if, w_ch, w_pt0, w_pt1, w_slc, w_call, w_meth, w_itr, w_rng1, w_rng2, w_rng3, w_enum, w_zip, s_seq, s_nx, s_rt, s_bk, s_ct, s_pass, s_brk, s_cnt, s_if, s_asg, s_drop, s_ret, s_retN, s_asgT, s_sub, s_box, s_for, o_some, o_none, o_ite, o_map, o_bind, wp_ok, wp_bad, z_val, z_new, z_bor, z_ali, r_non, r_bl, r_int, r_str, r_tup, r_lst, r_dk, r_dt, r_ktup, r_scr, r_glo, r_bor, r_new, r_ali, t_val, t_new, t_bor, t_ali, g_val, g_bor, g_new, g_ali, a_val, a_bor, a_ali, o_args0, o_args1, l_val, l_bor, l_ali, gAdd, gSub, mul_int, gMod, gDiv, gLt, gLe, gGt, gGe, gIsi, tyN, gLen, gNeg, gTuple, gList, gIsN, gNotN, gOrd, gMin, gMax, fNm, fTup, fCons, fNil, itemsOf, seqOf, k_NoneType_str, k_NoneType_tuple, k_NoneType_list, k_NoneType_int, k_NoneType_bool, k_NoneType_dict, k_bool_str, k_bool_tuple, k_bool_list, k_bool_int, k_bool_bool, k_bool_dict, k_int_str, k_int_tuple, k_int_list, k_int_int, k_int_bool, k_int_dict, k_str_str, k_str_tuple, k_str_list, k_str_int, k_str_bool, k_str_dict, k_tuple_str, k_tuple_tuple, k_tuple_list, k_tuple_int, k_tuple_bool, k_tuple_dict, k_list_str, k_list_tuple, k_list_list, k_list_int, k_list_bool, k_list_dict, k_dict_str, k_dict_tuple, k_dict_list, k_dict_int, k_dict_bool, k_dict_dict, slotOf, List.replicate, List.map_cons, List.map_nil, List.length_cons, List.length_nil, List.getElem?_cons_zero, List.getElem?_cons_succ, List.set_cons_zero, List.set_cons_succ, List.cons_append, List.nil_append, if_true, if_false, Bool.false_eq_true, reduceCtorEq, Nat.sub_self, Nat.reduceSub, Nat.reduceAdd, Nat.reduceLeDiff, Int.reduceLE, Int.reduceLT, Int.reducePow, Int.reduceToNat, Int.reduceNeg, Option.map_some, Option.map_none, Bool.not_true, Bool.not_false, ite_true, ite_false, decide_eq_true_eq, decide_true, decide_false, Bool.not_eq_true', q, chF, ha]
  · rw [fm_chF]
    have hn := @gEq_nil ce _ (dtA_chars ce (x.filter fun d => !decide (d ∈ digs)))
    simp only [x_strI, Int.reduceEq, p10_1, p10_2, p10_3, p10_4, p10_5, p10_6, p10_7, p10_8, p10_9, p10_10, p10_11, p10_12, p10_13, p10_14, p10_15, p10_16, p10_17, p10_18, at_c0, at_c1, at_c2, at_c3, at_c4, at_c5, ix_30, ix_31, ix_32, subS, gSet, wr, ix_str, ix_lst, ix_tup, ix_ktup, ix_scr, gEq_str, gNe_str, gEq_int, gNe_int, gEq_bl, gIn_sign, gNotIn_sign, gAll_bls, lt_one, w_sl, w_c, w_op2, w_op1, w_evs0, w_evs1, o_rds0, o_rds1, w_opN, o_tks0, o_tks1, w_lst, w_tup, b_val, w_ite, w_mT, w_bAnd, w_bOr, w_bNot, w_bYes, w_and, w_or, w_not, w_if, w_ch, w_pt0, w_pt1, w_slc, w_call, w_meth, w_itr, w_rng1, w_rng2, w_rng3, w_enum, w_zip, s_seq, s_nx, s_rt, s_bk, s_ct, s_pass, s_brk, s_cnt, s_if, s_asg, s_drop, s_ret, s_retN, s_asgT, s_sub, s_box, s_for, o_some, o_none, o_ite, o_map, o_bind, wp_ok, wp_bad, z_val, z_new, z_bor, z_ali, r_non, r_bl, r_int, r_str, r_tup, r_lst, r_dk, r_dt, r_ktup, r_scr, r_glo, r_bor, r_new, r_ali, t_val, t_new, t_bor, t_ali, g_val, g_bor, g_new, g_ali, a_val, a_bor, a_ali, o_args0, o_args1, l_val, l_bor, l_ali, gAdd, gSub, mul_int, gMod, gDiv, gLt, gLe, gGt, gGe, gIsi, tyN, gLen, gNeg, gTuple, gList, gIsN, gNotN, gOrd, gMin, gMax, fNm, fTup, fCons, fNil, itemsOf, seqOf, k_NoneType_str, k_NoneType_tuple, k_NoneType_list, k_NoneType_int, k_NoneType_bool, k_NoneType_dict, k_bool_str, k_bool_tuple, k_bool_list, k_bool_int, k_bool_bool, k_bool_dict, k_int_str, k_int_tuple, k_int_list, k_int_int, k_int_bool, k_int_dict, k_str_str, k_str_tuple, k_str_list, k_str_int, k_str_bool, k_str_dict, k_tuple_str, k_tuple_tuple, k_tuple_list, k_tuple_int, k_tuple_bool, k_tuple_dict, k_list_str, k_list_tuple, k_list_list, k_list_int, k_list_bool, k_list_dict, k_dict_str, k_dict_tuple, k_dict_list, k_dict_int, k_dict_bool, k_dict_dict, slotOf, List.replicate, List.map_cons, List.map_nil, List.length_cons, List.length_nil, List.getElem?_cons_zero, List.getElem?_cons_succ, List.set_cons_zero, List.set_cons_succ, List.cons_append, List.nil_append, if_true, if_false, Bool.false_eq_true, reduceCtorEq, Nat.sub_self, Nat.reduceSub, Nat.reduceAdd, Nat.reduceLeDiff, Int.reduceLE, Int.reduceLT, Int.reducePow, Int.reduceToNat, Int.reduceNeg, Option.map_some, Option.map_none, Bool.not_true, Bool.not_false, ite_true, ite_false, decide_eq_true_eq, decide_true, decide_false, Bool.not_eq_true', restS, restL, keepV, wipeS, wipeL, hn, chars_empty, filter_nil, Nat.zero_le, hl, atI_0 hx]
    by_cases h1 : x.all (fun d => decide (d ∈ digs)) = true
    · have h1' : (c :: r).all (fun d => decide (d ∈ digs)) = true := by rw [← hx]; exact h1
      have hk : kindP c r = if r.length ≤ 11 ∧ (c ≠ 48 ∨ r = []) then sNumber else sPlain := by unfold kindP; rw [if_pos h1']
      rw [hk, if_pos h1]
      have i1 : ((x.length : Int) < 13) ↔ r.length ≤ 11 := by omega
      have i2 : ((x.length : Int) = 1) ↔ r = [] := by rw [← List.length_eq_zero_iff]; omega
      by_cases q1 : r.length ≤ 11 <;> by_cases q2 : c = 48 <;> by_cases q3 : r = [] <;> simp [i1, i2, q1, q2, q3, sNumber, sPlain] <;> omega
    · have h1' : ¬ (c :: r).all (fun d => decide (d ∈ digs)) = true := by rw [← hx]; exact h1
      have hk : kindP c r = if 1 ≤ r.length ∧ c ∈ greats ∧ r.all (fun d => decide (d ∈ smalls)) then sName else sPlain := by unfold kindP; rw [if_neg h1']
      rw [hk, if_neg h1]
      refine wp_comp (chF fun d => !decide (d ∈ smalls)) ?_
      simp only [x_strI, Int.reduceEq, p10_1, p10_2, p10_3, p10_4, p10_5, p10_6, p10_7, p10_8, p10_9, p10_10, p10_11, p10_12, p10_13, p10_14, p10_15, p10_16, p10_17, p10_18, at_c0, at_c1, at_c2, at_c3, at_c4, at_c5, ix_30, ix_31, ix_32, subS, gSet, wr, ix_str, ix_lst, ix_tup, ix_ktup, ix_scr, gEq_str, gNe_str, gEq_int, gNe_int, gEq_bl, gIn_sign, gNotIn_sign, gAll_bls, lt_one, w_sl, w_c, w_op2, w_op1, w_evs0, w_evs1, o_rds0, o_rds1, w_opN, o_tks0, o_tks1, w_lst, w_tup, b_val, w_ite, w_mT, w_bAnd, w_bOr, w_bNot, w_bYes, w_and, w_or, w_not, w_if, w_ch, w_pt0, w_pt1, w_slc, w_call, w_meth, w_itr, w_rng1, w_rng2, w_rng3, w_enum, w_zip, s_seq, s_nx, s_rt, s_bk, s_ct, s_pass, s_brk, s_cnt, s_if, s_asg, s_drop, s_ret, s_retN, s_asgT, s_sub, s_box, s_for, o_some, o_none, o_ite, o_map, o_bind, wp_ok, wp_bad, z_val, z_new, z_bor, z_ali, r_non, r_bl, r_int, r_str, r_tup, r_lst, r_dk, r_dt, r_ktup, r_scr, r_glo, r_bor, r_new, r_ali, t_val, t_new, t_bor, t_ali, g_val, g_bor, g_new, g_ali, a_val, a_bor, a_ali, o_args0, o_args1, l_val, l_bor, l_ali, gAdd, gSub, mul_int, gMod, gDiv, gLt, gLe, gGt, gGe, gIsi, tyN, gLen, gNeg, gTuple, gList, gIsN, gNotN, gOrd, gMin, gMax, fNm, fTup, fCons, fNil, itemsOf, seqOf, k_NoneType_str, k_NoneType_tuple, k_NoneType_list, k_NoneType_int, k_NoneType_bool, k_NoneType_dict, k_bool_str, k_bool_tuple, k_bool_list, k_bool_int, k_bool_bool, k_bool_dict, k_int_str, k_int_tuple, k_int_list, k_int_int, k_int_bool, k_int_dict, k_str_str, k_str_tuple, k_str_list, k_str_int, k_str_bool, k_str_dict, k_tuple_str, k_tuple_tuple, k_tuple_list, k_tuple_int, k_tuple_bool, k_tuple_dict, k_list_str, k_list_tuple, k_list_list, k_list_int, k_list_bool, k_list_dict, k_dict_str, k_dict_tuple, k_dict_list, k_dict_int, k_dict_bool, k_dict_dict, slotOf, List.replicate, List.map_cons, List.map_nil, List.length_cons, List.length_nil, List.getElem?_cons_zero, List.getElem?_cons_succ, List.set_cons_zero, List.set_cons_succ, List.cons_append, List.nil_append, if_true, if_false, Bool.false_eq_true, reduceCtorEq, Nat.sub_self, Nat.reduceSub, Nat.reduceAdd, Nat.reduceLeDiff, Int.reduceLE, Int.reduceLT, Int.reducePow, Int.reduceToNat, Int.reduceNeg, Option.map_some, Option.map_none, Bool.not_true, Bool.not_false, ite_true, ite_false, decide_eq_true_eq, decide_true, decide_false, Bool.not_eq_true', chars_len, slc_1 hx hl]
      refine ⟨hr, fun t ht acc ha => ?_, ?_⟩
      · obtain ⟨d, _, rfl⟩ := chars_mem ht
        refine wp_step rfl ?_
        simp only [x_strI, Int.reduceEq, p10_1, p10_2, p10_3, p10_4, p10_5, p10_6, p10_7, p10_8, p10_9, p10_10, p10_11, p10_12, p10_13, p10_14, p10_15, p10_16, p10_17, p10_18, at_c0, at_c1, at_c2, at_c3, at_c4, at_c5, ix_30, ix_31, ix_32, subS, gSet, wr, ix_str, ix_lst, ix_tup, ix_ktup, ix_scr, gEq_str, gNe_str, gEq_int, gNe_int, gEq_bl, gIn_sign, gNotIn_sign, gAll_bls, lt_one, w_sl, w_c, w_op2, w_op1, w_evs0, w_evs1, o_rds0, o_rds1, w_opN, o_tks0, o_tks1, w_lst, w_tup, b_val, w_ite, w_mT, w_bAnd, w_bOr, w_bNot, w_bYes, w_and, w_or, w_not, w_if, w_ch, w_pt0, w_pt1, w_slc, w_call, w_meth, w_itr, w_rng1, w_rng2, w_rng3, w_enum, w_zip, s_seq, s_nx, s_rt, s_bk, s_ct, s_pass, s_brk, s_cnt, s_if, s_asg, s_drop, s_ret, s_retN, s_asgT, s_sub, s_box, s_for, o_some, o_none, o_ite, o_map, o_bind, wp_ok, wp_bad, z_val, z_new, z_bor, z_ali, r_non, r_bl, r_int, r_str, r_tup, r_lst, r_dk, r_dt, r_ktup, r_scr, r_glo, r_bor, r_new, r_ali, t_val, t_new, t_bor, t_ali, g_val, g_bor, g_new, g_ali, a_val, a_bor, a_ali, o_args0, o_args1, l_val, l_bor, l_ali, gAdd, gSub, mul_int, gMod, gDiv, gLt, gLe, gGt, gGe, gIsi, tyN, gLen, gNeg, gTuple, gList, gIsN, gNotN, gOrd, gMin, gMax, fNm, fTup, fCons, fNil, itemsOf, seqOf, k_NoneType_str, k_NoneType_tuple, k_NoneType_list, k_NoneType_int, k_NoneType_bool, k_NoneType_dict, k_bool_str, k_bool_tuple, k_bool_list, k_bool_int, k_bool_bool, k_bool_dict, k_int_str, k_int_tuple, k_int_list, k_int_int, k_int_bool, k_int_dict, k_str_str, k_str_tuple, k_str_list, k_str_int, k_str_bool, k_str_dict, k_tuple_str, k_tuple_tuple, k_tuple_list, k_tuple_int, k_tuple_bool, k_tuple_dict, k_list_str, k_list_tuple, k_list_list, k_list_int, k_list_bool, k_list_dict, k_dict_str, k_dict_tuple, k_dict_list, k_dict_int, k_dict_bool, k_dict_dict, slotOf, List.replicate, List.map_cons, List.map_nil, List.length_cons, List.length_nil, List.getElem?_cons_zero, List.getElem?_cons_succ, List.set_cons_zero, List.set_cons_succ, List.cons_append, List.nil_append, if_true, if_false, Bool.false_eq_true, reduceCtorEq, Nat.sub_self, Nat.reduceSub, Nat.reduceAdd, Nat.reduceLeDiff, Int.reduceLE, Int.reduceLT, Int.reducePow, Int.reduceToNat, Int.reduceNeg, Option.map_some, Option.map_none, Bool.not_true, Bool.not_false, ite_true, ite_false, decide_eq_true_eq, decide_true, decide_false, Bool.not_eq_true', wipeS, wipeL]
        by_cases q : d ∈ smalls <;> simp [x_strI, Int.reduceEq, p10_1, p10_2, p10_3, p10_4, p10_5, p10_6, p10_7, p10_8, p10_9, p10_10, p10_11, p10_12, p10_13, p10_14, p10_15, p10_16, p10_17, p10_18, at_c0, at_c1, at_c2, at_c3, at_c4, at_c5, ix_30, ix_31, ix_32, subS, gSet, wr, ix_str, ix_lst, ix_tup, ix_ktup, ix_scr, gEq_str, gNe_str, gEq_int, gNe_int, gEq_bl, gIn_sign, gNotIn_sign, gAll_bls, lt_one, w_sl, w_c, w_op2, w_op1, w_evs0, w_evs1, o_rds0, o_rds1, w_opN, o_tks0, o_tks1, w_lst, w_tup, b_val, w_ite, w_mT, w_bAnd, w_bOr, w_bNot, w_bYes, w_and, w_or, w_not, w_if, w_ch, w_pt0, w_pt1, w_slc, w_call, w_meth, w_itr, w_rng1, w_rng2, w_rng3, w_enum, w_zip, s_seq, s_nx, s_rt, s_bk, s_ct, s_pass, s_brk, s_cnt, s_if, s_asg, s_drop, s_ret, s_retN, s_asgT, s_sub, s_box, s_for, o_some, o_none, o_ite, o_map, o_bind, wp_ok, wp_bad, z_val, z_new, z_bor, z_ali, r_non, r_bl, r_int, r_str, r_tup, r_lst, r_dk, r_dt, r_ktup, r_scr, r_glo, r_bor, r_new, r_ali, t_val, t_new, t_bor, t_ali, g_val, g_bor, g_new, g_ali, a_val, a_bor, a_ali, o_args0, o_args1, l_val, l_bor, l_ali, gAdd, gSub, mul_int, gMod, gDiv, gLt, gLe, gGt, gGe, gIsi, tyN, gLen, gNeg, gTuple, gList, gIsN, gNotN, gOrd, gMin, gMax, fNm, fTup, fCons, fNil, itemsOf, seqOf, k_NoneType_str, k_NoneType_tuple, k_NoneType_list, k_NoneType_int, k_NoneType_bool, k_NoneType_dict, k_bool_str, k_bool_tuple, k_bool_list, k_bool_int, k_bool_bool, k_bool_dict, k_int_str, k_int_tuple, k_int_list, k_int_int, k_int_bool, k_int_dict, k_str_str, k_str_tuple, k_str_list, k_str_int, k_str_bool, k_str_dict, k_tuple_str, k_tuple_tuple, k_tuple_list, k_tuple_int, k_tuple_bool, k_tuple_dict, k_list_str, k_list_tuple, k_list_list, k_list_int, k_list_bool, k_list_dict, k_dict_str, k_dict_tuple, k_dict_list, k_dict_int, k_dict_bool, k_dict_dict, slotOf, List.replicate, List.map_cons, List.map_nil, List.length_cons, List.length_nil, List.getElem?_cons_zero, List.getElem?_cons_succ, List.set_cons_zero, List.set_cons_succ, List.cons_append, List.nil_append, if_true, if_false, Bool.false_eq_true, reduceCtorEq, Nat.sub_self, Nat.reduceSub, Nat.reduceAdd, Nat.reduceLeDiff, Int.reduceLE, Int.reduceLT, Int.reducePow, Int.reduceToNat, Int.reduceNeg, Option.map_some, Option.map_none, Bool.not_true, Bool.not_false, ite_true, ite_false, decide_eq_true_eq, decide_true, decide_false, Bool.not_eq_true', q, chF, ha]
      · rw [fm_chF]
        have hn := @gEq_nil ce _ (dtA_chars ce (r.filter fun d => !decide (d ∈ smalls)))
        have i1 : ((1 : Int) < x.length) ↔ 1 ≤ r.length := by omega
        simp only [x_strI, Int.reduceEq, p10_1, p10_2, p10_3, p10_4, p10_5, p10_6, p10_7, p10_8, p10_9, p10_10, p10_11, p10_12, p10_13, p10_14, p10_15, p10_16, p10_17, p10_18, at_c0, at_c1, at_c2, at_c3, at_c4, at_c5, ix_30, ix_31, ix_32, subS, gSet, wr, ix_str, ix_lst, ix_tup, ix_ktup, ix_scr, gEq_str, gNe_str, gEq_int, gNe_int, gEq_bl, gIn_sign, gNotIn_sign, gAll_bls, lt_one, w_sl, w_c, w_op2, w_op1, w_evs0, w_evs1, o_rds0, o_rds1, w_opN, o_tks0, o_tks1, w_lst, w_tup, b_val, w_ite, w_mT, w_bAnd, w_bOr, w_bNot, w_bYes, w_and, w_or, w_not, w_if, w_ch, w_pt0, w_pt1, w_slc, w_call, w_meth, w_itr, w_rng1, w_rng2, w_rng3, w_enum, w_zip, s_seq, s_nx, s_rt, s_bk, s_ct, s_pass, s_brk, s_cnt, s_if, s_asg, s_drop, s_ret, s_retN, s_asgT, s_sub, s_box, s_for, o_some, o_none, o_ite, o_map, o_bind, wp_ok, wp_bad, z_val, z_new, z_bor, z_ali, r_non, r_bl, r_int, r_str, r_tup, r_lst, r_dk, r_dt, r_ktup, r_scr, r_glo, r_bor, r_new, r_ali, t_val, t_new, t_bor, t_ali, g_val, g_bor, g_new, g_ali, a_val, a_bor, a_ali, o_args0, o_args1, l_val, l_bor, l_ali, gAdd, gSub, mul_int, gMod, gDiv, gLt, gLe, gGt, gGe, gIsi, tyN, gLen, gNeg, gTuple, gList, gIsN, gNotN, gOrd, gMin, gMax, fNm, fTup, fCons, fNil, itemsOf, seqOf, k_NoneType_str, k_NoneType_tuple, k_NoneType_list, k_NoneType_int, k_NoneType_bool, k_NoneType_dict, k_bool_str, k_bool_tuple, k_bool_list, k_bool_int, k_bool_bool, k_bool_dict, k_int_str, k_int_tuple, k_int_list, k_int_int, k_int_bool, k_int_dict, k_str_str, k_str_tuple, k_str_list, k_str_int, k_str_bool, k_str_dict, k_tuple_str, k_tuple_tuple, k_tuple_list, k_tuple_int, k_tuple_bool, k_tuple_dict, k_list_str, k_list_tuple, k_list_list, k_list_int, k_list_bool, k_list_dict, k_dict_str, k_dict_tuple, k_dict_list, k_dict_int, k_dict_bool, k_dict_dict, slotOf, List.replicate, List.map_cons, List.map_nil, List.length_cons, List.length_nil, List.getElem?_cons_zero, List.getElem?_cons_succ, List.set_cons_zero, List.set_cons_succ, List.cons_append, List.nil_append, if_true, if_false, Bool.false_eq_true, reduceCtorEq, Nat.sub_self, Nat.reduceSub, Nat.reduceAdd, Nat.reduceLeDiff, Int.reduceLE, Int.reduceLT, Int.reducePow, Int.reduceToNat, Int.reduceNeg, Option.map_some, Option.map_none, Bool.not_true, Bool.not_false, ite_true, ite_false, decide_eq_true_eq, decide_true, decide_false, Bool.not_eq_true', restS, restL, keepV, wipeS, wipeL, hn, chars_empty, filter_nil, Nat.zero_le, hl, atI_0 hx]
        by_cases q1 : 1 ≤ r.length <;> by_cases q2 : c ∈ greats <;> by_cases q3 : r.all (fun d => decide (d ∈ smalls)) = true
        all_goals first
          | (rw [if_pos (i1.mpr q1), if_pos q2, if_pos q3, if_pos ⟨q1, q2, q3⟩]; exact ⟨rfl, trivial⟩)
          | (rw [if_pos (i1.mpr q1), if_pos q2, if_neg q3, if_neg (fun z => q3 z.2.2)]; exact ⟨rfl, trivial⟩)
          | (simp [i1, q1, q2, q3, sName, sPlain]; done)
def WlOk (w : T) : Prop := ∃ a b c : Int, w = .lst [.int a, .int b, .int c] ∧ 0 ≤ a ∧ 0 ≤ b ∧ b < 4294967296 ∧ 0 < c ∧ c < 4294967296
theorem take_ok {ce : List T} {n : Nat} {w : T} {many : Int} (hn : ce[n]? = some w) (hw : WlOk w) (h0 : 0 < many) (h1 : many < 1208925819614629174706176) : ∃ got w', WlOk w' ∧ 0 ≤ got ∧ got < many ∧ IsV (f__law_take [.val (.glo n), .val (.int many)] ce) (.int got) (ce.set n w') := by
  obtain ⟨a, b, c, rfl, ha, hb, hb2, hc, hc2⟩ := hw
  have hnl : n < ce.length := (List.getElem?_eq_some_iff.mp hn).1
  have hset : ∀ y, (ce.set n y)[n]? = some y := fun y => by simp [hnl]
  by_cases q : 0 < a
  · refine ⟨a % many, .lst [.int (a / many), .int b, .int c], ⟨_, _, _, rfl, Int.ediv_nonneg ha (by omega), hb, hb2, hc, hc2⟩, Int.emod_nonneg _ (by omega), Int.emod_lt_of_pos _ h0, ?_⟩
    refine .of ?_
    unfold f__law_take runF
    refine WP.endF ?_
    simp only [m__law_take, x_strI, Int.reduceEq, p10_1, p10_2, p10_3, p10_4, p10_5, p10_6, p10_7, p10_8, p10_9, p10_10, p10_11, p10_12, p10_13, p10_14, p10_15, p10_16, p10_17, p10_18, at_c0, at_c1, at_c2, at_c3, at_c4, at_c5, ix_30, ix_31, ix_32, subS, gSet, wr, ix_str, ix_lst, ix_tup, ix_ktup, ix_scr, gEq_str, gNe_str, gEq_int, gNe_int, gEq_bl, gIn_sign, gNotIn_sign, gAll_bls, lt_one, w_sl, w_c, w_op2, w_op1, w_evs0, w_evs1, o_rds0, o_rds1, w_opN, o_tks0, o_tks1, w_lst, w_tup, b_val, w_ite, w_mT, w_bAnd, w_bOr, w_bNot, w_bYes, w_and, w_or, w_not, w_if, w_ch, w_pt0, w_pt1, w_slc, w_call, w_meth, w_itr, w_rng1, w_rng2, w_rng3, w_enum, w_zip, s_seq, s_nx, s_rt, s_bk, s_ct, s_pass, s_brk, s_cnt, s_if, s_asg, s_drop, s_ret, s_retN, s_asgT, s_sub, s_box, s_for, o_some, o_none, o_ite, o_map, o_bind, wp_ok, wp_bad, z_val, z_new, z_bor, z_ali, r_non, r_bl, r_int, r_str, r_tup, r_lst, r_dk, r_dt, r_ktup, r_scr, r_glo, r_bor, r_new, r_ali, t_val, t_new, t_bor, t_ali, g_val, g_bor, g_new, g_ali, a_val, a_bor, a_ali, o_args0, o_args1, l_val, l_bor, l_ali, gAdd, gSub, mul_int, gMod, gDiv, gLt, gLe, gGt, gGe, gIsi, tyN, gLen, gNeg, gTuple, gList, gIsN, gNotN, gOrd, gMin, gMax, fNm, fTup, fCons, fNil, itemsOf, seqOf, k_NoneType_str, k_NoneType_tuple, k_NoneType_list, k_NoneType_int, k_NoneType_bool, k_NoneType_dict, k_bool_str, k_bool_tuple, k_bool_list, k_bool_int, k_bool_bool, k_bool_dict, k_int_str, k_int_tuple, k_int_list, k_int_int, k_int_bool, k_int_dict, k_str_str, k_str_tuple, k_str_list, k_str_int, k_str_bool, k_str_dict, k_tuple_str, k_tuple_tuple, k_tuple_list, k_tuple_int, k_tuple_bool, k_tuple_dict, k_list_str, k_list_tuple, k_list_list, k_list_int, k_list_bool, k_list_dict, k_dict_str, k_dict_tuple, k_dict_list, k_dict_int, k_dict_bool, k_dict_dict, slotOf, List.replicate, List.map_cons, List.map_nil, List.length_cons, List.length_nil, List.getElem?_cons_zero, List.getElem?_cons_succ, List.set_cons_zero, List.set_cons_succ, List.cons_append, List.nil_append, if_true, if_false, Bool.false_eq_true, reduceCtorEq, Nat.sub_self, Nat.reduceSub, Nat.reduceAdd, Nat.reduceLeDiff, Int.reduceLE, Int.reduceLT, Int.reducePow, Int.reduceToNat, Int.reduceNeg, Option.map_some, Option.map_none, Bool.not_true, Bool.not_false, ite_true, ite_false, decide_eq_true_eq, decide_true, decide_false, Bool.not_eq_true', hn, q, h0, h1, hnl, hset, and_self]
  · have hm1 : -18446744073709551616 < b ∧ b < 18446744073709551616 := by omega
    have hb' : 0 ≤ b * 48271 % c + 1 ∧ b * 48271 % c + 1 < 4294967296 := by
      have := Int.emod_nonneg (b * 48271) (show c ≠ 0 by omega)
      have := Int.emod_lt_of_pos (b * 48271) hc
      omega
    have hm2 : -18446744073709551616 < b * 48271 % c + 1 ∧ b * 48271 % c + 1 < 18446744073709551616 := by omega
    refine ⟨(b * 48271 % c + 1) * (b * 48271 % c + 1) % 2147483423 / 7 % many, .lst [.int a, .int (b * 48271 % c + 1), .int c], ⟨_, _, _, rfl, ha, hb'.1, hb'.2, hc, hc2⟩, Int.emod_nonneg _ (by omega), Int.emod_lt_of_pos _ h0, ?_⟩
    refine .of ?_
    unfold f__law_take runF
    refine WP.endF ?_
    simp only [m__law_take, x_strI, Int.reduceEq, p10_1, p10_2, p10_3, p10_4, p10_5, p10_6, p10_7, p10_8, p10_9, p10_10, p10_11, p10_12, p10_13, p10_14, p10_15, p10_16, p10_17, p10_18, at_c0, at_c1, at_c2, at_c3, at_c4, at_c5, ix_30, ix_31, ix_32, subS, gSet, wr, ix_str, ix_lst, ix_tup, ix_ktup, ix_scr, gEq_str, gNe_str, gEq_int, gNe_int, gEq_bl, gIn_sign, gNotIn_sign, gAll_bls, lt_one, w_sl, w_c, w_op2, w_op1, w_evs0, w_evs1, o_rds0, o_rds1, w_opN, o_tks0, o_tks1, w_lst, w_tup, b_val, w_ite, w_mT, w_bAnd, w_bOr, w_bNot, w_bYes, w_and, w_or, w_not, w_if, w_ch, w_pt0, w_pt1, w_slc, w_call, w_meth, w_itr, w_rng1, w_rng2, w_rng3, w_enum, w_zip, s_seq, s_nx, s_rt, s_bk, s_ct, s_pass, s_brk, s_cnt, s_if, s_asg, s_drop, s_ret, s_retN, s_asgT, s_sub, s_box, s_for, o_some, o_none, o_ite, o_map, o_bind, wp_ok, wp_bad, z_val, z_new, z_bor, z_ali, r_non, r_bl, r_int, r_str, r_tup, r_lst, r_dk, r_dt, r_ktup, r_scr, r_glo, r_bor, r_new, r_ali, t_val, t_new, t_bor, t_ali, g_val, g_bor, g_new, g_ali, a_val, a_bor, a_ali, o_args0, o_args1, l_val, l_bor, l_ali, gAdd, gSub, mul_int, gMod, gDiv, gLt, gLe, gGt, gGe, gIsi, tyN, gLen, gNeg, gTuple, gList, gIsN, gNotN, gOrd, gMin, gMax, fNm, fTup, fCons, fNil, itemsOf, seqOf, k_NoneType_str, k_NoneType_tuple, k_NoneType_list, k_NoneType_int, k_NoneType_bool, k_NoneType_dict, k_bool_str, k_bool_tuple, k_bool_list, k_bool_int, k_bool_bool, k_bool_dict, k_int_str, k_int_tuple, k_int_list, k_int_int, k_int_bool, k_int_dict, k_str_str, k_str_tuple, k_str_list, k_str_int, k_str_bool, k_str_dict, k_tuple_str, k_tuple_tuple, k_tuple_list, k_tuple_int, k_tuple_bool, k_tuple_dict, k_list_str, k_list_tuple, k_list_list, k_list_int, k_list_bool, k_list_dict, k_dict_str, k_dict_tuple, k_dict_list, k_dict_int, k_dict_bool, k_dict_dict, slotOf, List.replicate, List.map_cons, List.map_nil, List.length_cons, List.length_nil, List.getElem?_cons_zero, List.getElem?_cons_succ, List.set_cons_zero, List.set_cons_succ, List.cons_append, List.nil_append, if_true, if_false, Bool.false_eq_true, reduceCtorEq, Nat.sub_self, Nat.reduceSub, Nat.reduceAdd, Nat.reduceLeDiff, Int.reduceLE, Int.reduceLT, Int.reducePow, Int.reduceToNat, Int.reduceNeg, Option.map_some, Option.map_none, Bool.not_true, Bool.not_false, ite_true, ite_false, decide_eq_true_eq, decide_true, decide_false, Bool.not_eq_true', hn, q, h0, h1, hnl, hset, and_self, hm1, hm2, hc, show (0 : Int) < 7 ∧ (7 : Int) < 1208925819614629174706176 from by decide, show (0 : Int) < 2147483423 from by decide]

/-- the cells are ce0's, but for the well at n -/
def Wc (n : Nat) (ce0 ce : List T) : Prop := n < ce0.length ∧ ∃ w, WlOk w ∧ ce = ce0.set n w
theorem take_wp {n : Nat} {ce0 ce : List T} {many : Int} {s1 : S} {Q : DV → S → Prop} (hc : Wc n ce0 ce) (h0 : 0 < many) (h1 : many < 1208925819614629174706176) (q : ∀ got ce', Wc n ce0 ce' → 0 ≤ got → got < many → Q (.val (.int got)) { s1 with ce := ce' }) :
    WP (backR s1 (f__law_take [.val (.glo n), .val (.int many)] ce)) Q := by
  obtain ⟨hn, w, hw, rfl⟩ := hc
  obtain ⟨got, w', hw', g0, g1, hv⟩ := take_ok (ce := ce0.set n w) (n := n) (w := w) (by simp [hn]) hw h0 h1
  refine hv.wp (q got _ ⟨hn, w', hw', ?_⟩ g0 g1)
  rw [List.set_set]
def primes : List T := [.int 2147483647, .int 2147483629, .int 2147483587, .int 2147483579, .int 2147483563, .int 2147483549, .int 2147483543, .int 2147483497]
theorem primes_ok {t : T} (h : t ∈ primes) : ∃ c : Int, t = .int c ∧ 0 < c ∧ c < 4294967296 := by
  simp only [primes, List.mem_cons, List.not_mem_nil, or_false] at h
  rcases h with rfl | rfl | rfl | rfl | rfl | rfl | rfl | rfl <;> exact ⟨_, rfl, by decide, by decide⟩
theorem well_ok (ns : List Int) (k : Int) (ce : List T) (h0 : 0 ≤ k) (h1 : k ≤ 63) (hl : ns.length ≤ 63) : ∃ w, WlOk w ∧ IsN (f__law_well [.val (.scr ns), .val (.int k)] ce) w ce := by
  have hlen : gLen [.scr ns] = some (.val (.int ns.length)) := by simp [gLen]
  obtain ⟨p, hp, ep⟩ := at_some (l := primes) (i := k % 8) (by omega) (by simp only [primes, List.length_cons, List.length_nil]; omega)
  obtain ⟨c, rfl, c0, c1⟩ := primes_ok hp
  unfold primes at ep
  have key : ∀ cell : Int, (k < ns.length → atI ns k = some cell) → (¬ k < ns.length → cell = 0) → ∃ w, WlOk w ∧ IsN (f__law_well [.val (.scr ns), .val (.int k)] ce) w ce := by
    intro cell e1 e2
    have f1 : -18446744073709551616 < cell % 2147483489 + 1 ∧ cell % 2147483489 + 1 < 18446744073709551616 := by omega
    obtain ⟨s1, hs1⟩ : ∃ s1, s1 = (cell % 2147483489 + 1) * (48271 + 2 * k) % 2147483489 := ⟨_, rfl⟩
    have b1 : 0 ≤ s1 ∧ s1 < 2147483489 := by rw [hs1]; exact ⟨Int.emod_nonneg _ (by decide), Int.emod_lt_of_pos _ (by decide)⟩
    obtain ⟨s2, hs2⟩ : ∃ s2, s2 = s1 * s1 % 2147483477 := ⟨_, rfl⟩
    have b2 : 0 ≤ s2 ∧ s2 < 2147483477 := by rw [hs2]; exact ⟨Int.emod_nonneg _ (by decide), Int.emod_lt_of_pos _ (by decide)⟩
    have f2 : -18446744073709551616 < s1 ∧ s1 < 18446744073709551616 := by omega
    by_cases q : k < ns.length
    · have e1 := e1 q
      by_cases q2 : 1000000000000000000 ≤ cell
      · refine ⟨.lst [.int cell, .int (s2 + k + 1), .int c], ⟨_, _, _, rfl, by omega, by omega, by omega, c0, c1⟩, .of ?_⟩
        unfold f__law_well runF
        refine WP.endF ?_
        simp only [m__law_well, x_strI, Int.reduceEq, p10_1, p10_2, p10_3, p10_4, p10_5, p10_6, p10_7, p10_8, p10_9, p10_10, p10_11, p10_12, p10_13, p10_14, p10_15, p10_16, p10_17, p10_18, at_c0, at_c1, at_c2, at_c3, at_c4, at_c5, ix_30, ix_31, ix_32, subS, gSet, wr, ix_str, ix_lst, ix_tup, ix_ktup, ix_scr, gEq_str, gNe_str, gEq_int, gNe_int, gEq_bl, gIn_sign, gNotIn_sign, gAll_bls, lt_one, w_sl, w_c, w_op2, w_op1, w_evs0, w_evs1, o_rds0, o_rds1, w_opN, o_tks0, o_tks1, w_lst, w_tup, b_val, w_ite, w_mT, w_bAnd, w_bOr, w_bNot, w_bYes, w_and, w_or, w_not, w_if, w_ch, w_pt0, w_pt1, w_slc, w_call, w_meth, w_itr, w_rng1, w_rng2, w_rng3, w_enum, w_zip, s_seq, s_nx, s_rt, s_bk, s_ct, s_pass, s_brk, s_cnt, s_if, s_asg, s_drop, s_ret, s_retN, s_asgT, s_sub, s_box, s_for, o_some, o_none, o_ite, o_map, o_bind, wp_ok, wp_bad, z_val, z_new, z_bor, z_ali, r_non, r_bl, r_int, r_str, r_tup, r_lst, r_dk, r_dt, r_ktup, r_scr, r_glo, r_bor, r_new, r_ali, t_val, t_new, t_bor, t_ali, g_val, g_bor, g_new, g_ali, a_val, a_bor, a_ali, o_args0, o_args1, l_val, l_bor, l_ali, gAdd, gSub, mul_int, gMod, gDiv, gLt, gLe, gGt, gGe, gIsi, tyN, gLen, gNeg, gTuple, gList, gIsN, gNotN, gOrd, gMin, gMax, fNm, fTup, fCons, fNil, itemsOf, seqOf, k_NoneType_str, k_NoneType_tuple, k_NoneType_list, k_NoneType_int, k_NoneType_bool, k_NoneType_dict, k_bool_str, k_bool_tuple, k_bool_list, k_bool_int, k_bool_bool, k_bool_dict, k_int_str, k_int_tuple, k_int_list, k_int_int, k_int_bool, k_int_dict, k_str_str, k_str_tuple, k_str_list, k_str_int, k_str_bool, k_str_dict, k_tuple_str, k_tuple_tuple, k_tuple_list, k_tuple_int, k_tuple_bool, k_tuple_dict, k_list_str, k_list_tuple, k_list_list, k_list_int, k_list_bool, k_list_dict, k_dict_str, k_dict_tuple, k_dict_list, k_dict_int, k_dict_bool, k_dict_dict, slotOf, List.replicate, List.map_cons, List.map_nil, List.length_cons, List.length_nil, List.getElem?_cons_zero, List.getElem?_cons_succ, List.set_cons_zero, List.set_cons_succ, List.cons_append, List.nil_append, if_true, if_false, Bool.false_eq_true, reduceCtorEq, Nat.sub_self, Nat.reduceSub, Nat.reduceAdd, Nat.reduceLeDiff, Int.reduceLE, Int.reduceLT, Int.reducePow, Int.reduceToNat, Int.reduceNeg, Option.map_some, Option.map_none, Bool.not_true, Bool.not_false, ite_true, ite_false, decide_eq_true_eq, decide_true, decide_false, Bool.not_eq_true', hlen, q, e1, q2, ep, f1, ← hs1, f2, ← hs2]
        simp [line]
      · refine ⟨.lst [.int 0, .int (s2 + k + 1), .int c], ⟨_, _, _, rfl, by omega, by omega, by omega, c0, c1⟩, .of ?_⟩
        unfold f__law_well runF
        refine WP.endF ?_
        simp only [m__law_well, x_strI, Int.reduceEq, p10_1, p10_2, p10_3, p10_4, p10_5, p10_6, p10_7, p10_8, p10_9, p10_10, p10_11, p10_12, p10_13, p10_14, p10_15, p10_16, p10_17, p10_18, at_c0, at_c1, at_c2, at_c3, at_c4, at_c5, ix_30, ix_31, ix_32, subS, gSet, wr, ix_str, ix_lst, ix_tup, ix_ktup, ix_scr, gEq_str, gNe_str, gEq_int, gNe_int, gEq_bl, gIn_sign, gNotIn_sign, gAll_bls, lt_one, w_sl, w_c, w_op2, w_op1, w_evs0, w_evs1, o_rds0, o_rds1, w_opN, o_tks0, o_tks1, w_lst, w_tup, b_val, w_ite, w_mT, w_bAnd, w_bOr, w_bNot, w_bYes, w_and, w_or, w_not, w_if, w_ch, w_pt0, w_pt1, w_slc, w_call, w_meth, w_itr, w_rng1, w_rng2, w_rng3, w_enum, w_zip, s_seq, s_nx, s_rt, s_bk, s_ct, s_pass, s_brk, s_cnt, s_if, s_asg, s_drop, s_ret, s_retN, s_asgT, s_sub, s_box, s_for, o_some, o_none, o_ite, o_map, o_bind, wp_ok, wp_bad, z_val, z_new, z_bor, z_ali, r_non, r_bl, r_int, r_str, r_tup, r_lst, r_dk, r_dt, r_ktup, r_scr, r_glo, r_bor, r_new, r_ali, t_val, t_new, t_bor, t_ali, g_val, g_bor, g_new, g_ali, a_val, a_bor, a_ali, o_args0, o_args1, l_val, l_bor, l_ali, gAdd, gSub, mul_int, gMod, gDiv, gLt, gLe, gGt, gGe, gIsi, tyN, gLen, gNeg, gTuple, gList, gIsN, gNotN, gOrd, gMin, gMax, fNm, fTup, fCons, fNil, itemsOf, seqOf, k_NoneType_str, k_NoneType_tuple, k_NoneType_list, k_NoneType_int, k_NoneType_bool, k_NoneType_dict, k_bool_str, k_bool_tuple, k_bool_list, k_bool_int, k_bool_bool, k_bool_dict, k_int_str, k_int_tuple, k_int_list, k_int_int, k_int_bool, k_int_dict, k_str_str, k_str_tuple, k_str_list, k_str_int, k_str_bool, k_str_dict, k_tuple_str, k_tuple_tuple, k_tuple_list, k_tuple_int, k_tuple_bool, k_tuple_dict, k_list_str, k_list_tuple, k_list_list, k_list_int, k_list_bool, k_list_dict, k_dict_str, k_dict_tuple, k_dict_list, k_dict_int, k_dict_bool, k_dict_dict, slotOf, List.replicate, List.map_cons, List.map_nil, List.length_cons, List.length_nil, List.getElem?_cons_zero, List.getElem?_cons_succ, List.set_cons_zero, List.set_cons_succ, List.cons_append, List.nil_append, if_true, if_false, Bool.false_eq_true, reduceCtorEq, Nat.sub_self, Nat.reduceSub, Nat.reduceAdd, Nat.reduceLeDiff, Int.reduceLE, Int.reduceLT, Int.reducePow, Int.reduceToNat, Int.reduceNeg, Option.map_some, Option.map_none, Bool.not_true, Bool.not_false, ite_true, ite_false, decide_eq_true_eq, decide_true, decide_false, Bool.not_eq_true', hlen, q, e1, q2, ep, f1, ← hs1, f2, ← hs2]
        simp [line]
    · have e2 := e2 q
      subst e2
      have q2 : ¬ (1000000000000000000 : Int) ≤ 0 := by decide
      refine ⟨.lst [.int 0, .int (s2 + k + 1), .int c], ⟨_, _, _, rfl, by omega, by omega, by omega, c0, c1⟩, .of ?_⟩
      unfold f__law_well runF
      refine WP.endF ?_
      simp only [m__law_well, x_strI, Int.reduceEq, p10_1, p10_2, p10_3, p10_4, p10_5, p10_6, p10_7, p10_8, p10_9, p10_10, p10_11, p10_12, p10_13, p10_14, p10_15, p10_16, p10_17, p10_18, at_c0, at_c1, at_c2, at_c3, at_c4, at_c5, ix_30, ix_31, ix_32, subS, gSet, wr, ix_str, ix_lst, ix_tup, ix_ktup, ix_scr, gEq_str, gNe_str, gEq_int, gNe_int, gEq_bl, gIn_sign, gNotIn_sign, gAll_bls, lt_one, w_sl, w_c, w_op2, w_op1, w_evs0, w_evs1, o_rds0, o_rds1, w_opN, o_tks0, o_tks1, w_lst, w_tup, b_val, w_ite, w_mT, w_bAnd, w_bOr, w_bNot, w_bYes, w_and, w_or, w_not, w_if, w_ch, w_pt0, w_pt1, w_slc, w_call, w_meth, w_itr, w_rng1, w_rng2, w_rng3, w_enum, w_zip, s_seq, s_nx, s_rt, s_bk, s_ct, s_pass, s_brk, s_cnt, s_if, s_asg, s_drop, s_ret, s_retN, s_asgT, s_sub, s_box, s_for, o_some, o_none, o_ite, o_map, o_bind, wp_ok, wp_bad, z_val, z_new, z_bor, z_ali, r_non, r_bl, r_int, r_str, r_tup, r_lst, r_dk, r_dt, r_ktup, r_scr, r_glo, r_bor, r_new, r_ali, t_val, t_new, t_bor, t_ali, g_val, g_bor, g_new, g_ali, a_val, a_bor, a_ali, o_args0, o_args1, l_val, l_bor, l_ali, gAdd, gSub, mul_int, gMod, gDiv, gLt, gLe, gGt, gGe, gIsi, tyN, gLen, gNeg, gTuple, gList, gIsN, gNotN, gOrd, gMin, gMax, fNm, fTup, fCons, fNil, itemsOf, seqOf, k_NoneType_str, k_NoneType_tuple, k_NoneType_list, k_NoneType_int, k_NoneType_bool, k_NoneType_dict, k_bool_str, k_bool_tuple, k_bool_list, k_bool_int, k_bool_bool, k_bool_dict, k_int_str, k_int_tuple, k_int_list, k_int_int, k_int_bool, k_int_dict, k_str_str, k_str_tuple, k_str_list, k_str_int, k_str_bool, k_str_dict, k_tuple_str, k_tuple_tuple, k_tuple_list, k_tuple_int, k_tuple_bool, k_tuple_dict, k_list_str, k_list_tuple, k_list_list, k_list_int, k_list_bool, k_list_dict, k_dict_str, k_dict_tuple, k_dict_list, k_dict_int, k_dict_bool, k_dict_dict, slotOf, List.replicate, List.map_cons, List.map_nil, List.length_cons, List.length_nil, List.getElem?_cons_zero, List.getElem?_cons_succ, List.set_cons_zero, List.set_cons_succ, List.cons_append, List.nil_append, if_true, if_false, Bool.false_eq_true, reduceCtorEq, Nat.sub_self, Nat.reduceSub, Nat.reduceAdd, Nat.reduceLeDiff, Int.reduceLE, Int.reduceLT, Int.reducePow, Int.reduceToNat, Int.reduceNeg, Option.map_some, Option.map_none, Bool.not_true, Bool.not_false, ite_true, ite_false, decide_eq_true_eq, decide_true, decide_false, Bool.not_eq_true', hlen, q, q2, ep, f1, ← hs1, f2, ← hs2]
      simp [line]
  by_cases q : k < ns.length
  · obtain ⟨cell, _, e⟩ := at_some (l := ns) h0 (by omega)
    exact key cell (fun _ => e) (fun z => absurd q z)
  · exact key 0 (fun z => absurd z q) (fun _ => rfl)

def sWords : List T := [.str [97], .str [98], .str [103, 111], .str [115, 101, 97], .str [116, 111], .str [114, 101, 100]]
def ShortS (t : T) : Prop := ∃ x, t = .str x ∧ x.length ≤ 20
theorem numL_short {i : Int} (h0 : 0 ≤ i) (h : i < 1000000000000) : (TL.numL i.toNat).length ≤ 20 := by
  have := TL.numL_len (n := i.toNat) (k := 12) (by decide) (by omega)
  omega
theorem shorts_ok {l : List T} (h : l.all (fun t => match t with
    | .str x => decide (x.length ≤ 20)
    | _ => false) = true) {i : Int} (h0 : 0 ≤ i) (h1 : i < l.length) : ∃ x, atI l i = some (.str x) ∧ x.length ≤ 20 := by
  obtain ⟨t, ht, e⟩ := at_some h0 h1
  have := List.all_eq_true.mp h t ht
  cases t with
  | str x => exact ⟨x, e, by simpa using this⟩
  | _ => cases this
theorem wat_short {l : List T} {i : Int} {Q : T → Prop} (h : l.all (fun t => match t with
    | .str x => decide (x.length ≤ 20)
    | _ => false) = true) (h0 : 0 ≤ i) (h1 : i < l.length) (q : ∀ x, x.length ≤ 20 → Q (.str x)) : WPO (atI l i) Q := by
  obtain ⟨x, e, hx⟩ := shorts_ok h h0 h1
  rw [e]
  exact q x hx
theorem wat_int {l : List T} {i : Int} {Q : T → Prop} {b : Int} (h : l.all (fun t => match t with
    | .int x => decide (0 < x) && decide (x ≤ b)
    | _ => false) = true) (h0 : 0 ≤ i) (h1 : i < l.length) (q : ∀ x, 0 < x → x ≤ b → Q (.int x)) : WPO (atI l i) Q := by
  obtain ⟨t, ht, e⟩ := at_some h0 h1
  have := List.all_eq_true.mp h t ht
  rw [e]
  cases t with
  | int x =>
    simp only [Bool.and_eq_true, decide_eq_true_eq] at this
    exact q x this.1 this.2
  | _ => cases this
theorem wat_any {l : List T} {i : Int} {Q : T → Prop} (h0 : 0 ≤ i) (h1 : i < l.length) (q : ∀ t ∈ l, Q t) : WPO (atI l i) Q := by
  obtain ⟨t, ht, e⟩ := at_some h0 h1
  rw [e]
  exact q t ht
theorem str_ok {i : Int} {Q : DV → Prop} (h0 : 0 ≤ i) (h : i < 1000000000000) (q : Q (.val (.str (TL.numL i.toNat)))) : WPO (gStrI [.int i]) Q := by
  simp only [gStrI, gStr]
  rw [if_pos ⟨h0, by omega⟩]
  exact q
/-- a word, and short -/
def goodW (x : List Nat) : Bool := isWordP (.str x) && decide (x.length ≤ 15)
theorem numL_good {i : Int} (h0 : 0 ≤ i) (h : i < 1000000000000) : goodW (TL.numL i.toNat) = true := by
  have h1 := TL.numL_len (n := i.toNat) (k := 12) (by decide) (by omega)
  have h2 := TL.numL_digits i.toNat
  have h3 := TL.numL_ne i.toNat
  generalize TL.numL i.toNat = x at *
  have hd : ∀ c ∈ x, 48 ≤ c ∧ c ≤ 57 := fun c hc => by have := h2 c hc; omega
  have hp : 1 ≤ x.length := by cases x with
    | nil => exact absurd rfl h3
    | cons => simp
  have e1 : ¬ [124] = x := fun z => by subst z; have := hd 124 (by simp); omega
  have e2 : ¬ [61] = x := fun z => by subst z; have := hd 61 (by simp); omega
  have e3 : x.all okSign = true := List.all_eq_true.mpr fun c hc => by
    have := hd c hc
    simp only [okSign, Bool.and_eq_true, decide_eq_true_eq, Bool.not_eq_true', decide_eq_false_iff_not]
    omega
  simp only [goodW, isWordP, Bool.and_eq_true, decide_eq_true_eq, Bool.not_eq_true', decide_eq_false_iff_not]
  exact ⟨⟨hp, by omega, e1, e2, e3⟩, by omega⟩
theorem wat_good {l : List T} {i : Int} {Q : T → Prop} (h : l.all (fun t => match t with
    | .str x => goodW x
    | _ => false) = true) (h0 : 0 ≤ i) (h1 : i < l.length) (q : ∀ x, goodW x = true → Q (.str x)) : WPO (atI l i) Q := by
  obtain ⟨t, ht, e⟩ := at_some h0 h1
  have := List.all_eq_true.mp h t ht
  rw [e]
  cases t with
  | str x => exact q x this
  | _ => cases this
def ThS : T → Prop
  | .non => True
  | .bl _ => True
  | .int _ => True
  | .str x => x.length ≤ 50
  | .tup ts => ts = []
  | .lst ts => ts = []
  | _ => False
def Th : Nat → T → Prop
  | 0, t => ThS t
  | n + 1, t => match t with
    | .tup ts => ts.length ≤ 100 ∧ ∀ u ∈ ts, Th n u
    | .lst ts => ts.length ≤ 100 ∧ ∀ u ∈ ts, Th n u
    | t => ThS t
theorem ThS.th {t : T} (h : ThS t) : ∀ n, Th n t
  | 0 => h
  | n + 1 => by
    cases t with
    | tup ts => cases h; exact ⟨Nat.zero_le _, fun _ z => by cases z⟩
    | lst ts => cases h; exact ⟨Nat.zero_le _, fun _ z => by cases z⟩
    | _ => exact h
theorem a20 : gMul (.str [97]) (.int 20) = some (.val (.str (List.replicate 20 97))) := by rfl
theorem a21 : gMul (.str [97]) (.int 21) = some (.val (.str (List.replicate 21 97))) := by rfl
theorem wat_n {α : Type} {l : List α} {i : Int} {Q : α → Prop} (h0 : 0 ≤ i) (h1 : i < l.length) (q : ∀ t ∈ l, Q t) : WPO (atI l i) Q := by
  obtain ⟨t, ht, e⟩ := at_some h0 h1
  rw [e]
  exact q t ht
theorem slc_str (x : List Nat) (lo hi : Option Int) : gSlc (.str x) lo hi = if x.length ≤ line then some (.val (.str (cutL x lo hi))) else none := rfl
theorem cut_len {α : Type} (x : List α) (lo hi : Option Int) : (cutL x lo hi).length ≤ x.length := by
  unfold cutL
  rw [List.length_take, List.length_drop]
  omega
theorem cut_to {α : Type} (x : List α) {j : Int} (h : 0 ≤ j) : (cutL x none (some j)).length ≤ j.toNat := by
  unfold cutL
  rw [List.length_take]
  have : HT.sIx x.length x.length (some j) ≤ j.toNat := by
    simp only [HT.sIx]
    rw [if_neg (by omega)]
    exact Nat.min_le_left _ _
  omega
theorem mul_str (x : List Nat) (j : Int) : gMul (.str x) (.int j) = if -1073741824 ≤ j ∧ j < 1048576 ∧ x.length < 1024 ∧ x.length * j.toNat ≤ line then some (.val (.str (reps j.toNat x))) else none := rfl
theorem Th.ty : ∀ {n : Nat} {t : T}, Th n t → (tyN t).isSome = true
  | 0, t, h => by cases t <;> first | rfl | exact h.elim
  | n + 1, t, h => by cases t <;> first | rfl | exact h.elim
theorem Th.str : ∀ {n : Nat} {x : List Nat}, Th n (.str x) → x.length ≤ 50
  | 0, x, h => h
  | n + 1, x, h => h
theorem Th.seq : ∀ {n : Nat} {ts : List T}, Th n (.tup ts) ∨ Th n (.lst ts) → ts.length ≤ 100 ∧ ∀ u ∈ ts, Th (n - 1) u
  | 0, ts, h => by
    have : ts = [] := h.elim id id
    subst this
    exact ⟨Nat.zero_le _, fun _ z => by cases z⟩
  | n + 1, ts, h => h.elim id id
theorem Th.nglo : ∀ {n : Nat} {t : T}, Th n t → ∀ k, t ≠ .glo k
  | 0, t, h, k => fun e => by subst e; exact h.elim
  | n + 1, t, h, k => fun e => by subst e; exact h.elim
def isSentP : T → Bool
  | .tup ts => decide (1 ≤ ts.length) && (decide (ts.length ≤ 40) && ts.all isWordP)
  | _ => false
theorem l100 : 100 ≤ line := by decide
theorem words_h {n : Nat} {t : T} (h : Th n t) : ∀ x, t = .str x → x.length ≤ line := fun x e => by subst e; have := h.str; have : 50 ≤ line := (by decide); omega
/-- [f(word) for word in thing], f a def that tells a truth -/
theorem fm_bools (p : T → Bool) (ts : List T) : ts.filterMap (fun t => some (T.bl (p t))) = (ts.map p).map T.bl := by
  induction ts <;> simp_all
theorem all_id' (p : T → Bool) (x : List T) : (x.map p).all id = x.all p := by
  induction x <;> simp_all
theorem is_sentence_ok {n : Nat} {t : T} (h : Th n t) (ce : List T) : IsV (f_is_sentence [.val t] ce) (.bl (isSentP t)) ce := by
  refine .of ?_
  unfold f_is_sentence runF
  refine WP.endF ?_
  have r0 : ∀ s, rd s (.val t) = some t := fun s => rd_val h.nglo
  have other : (∀ ts, t ≠ .tup ts) → kitB ((tyN t).getD "") "tuple" = some false := fun hn => by
    have := h.ty
    cases t <;> first | (exact absurd rfl (hn _)) | (simp only [tyN, Option.getD_some]; decide +kernel) | (cases this)
  by_cases q : ∃ ts, t = .tup ts
  · obtain ⟨ts, rfl⟩ := q
    obtain ⟨h1, h2⟩ := Th.seq (.inl h)
    simp only [m_is_sentence, x_strI, Int.reduceEq, p10_1, p10_2, p10_3, p10_4, p10_5, p10_6, p10_7, p10_8, p10_9, p10_10, p10_11, p10_12, p10_13, p10_14, p10_15, p10_16, p10_17, p10_18, at_c0, at_c1, at_c2, at_c3, at_c4, at_c5, ix_30, ix_31, ix_32, subS, gSet, wr, ix_str, ix_lst, ix_tup, ix_ktup, ix_scr, gEq_str, gNe_str, gEq_int, gNe_int, gEq_bl, gIn_sign, gNotIn_sign, gAll_bls, lt_one, w_sl, w_c, w_op2, w_op1, w_evs0, w_evs1, o_rds0, o_rds1, w_opN, o_tks0, o_tks1, w_lst, w_tup, b_val, w_ite, w_mT, w_bAnd, w_bOr, w_bNot, w_bYes, w_and, w_or, w_not, w_if, w_ch, w_pt0, w_pt1, w_slc, w_call, w_meth, w_itr, w_rng1, w_rng2, w_rng3, w_enum, w_zip, s_seq, s_nx, s_rt, s_bk, s_ct, s_pass, s_brk, s_cnt, s_if, s_asg, s_drop, s_ret, s_retN, s_asgT, s_sub, s_box, s_for, o_some, o_none, o_ite, o_map, o_bind, wp_ok, wp_bad, z_val, z_new, z_bor, z_ali, r_non, r_bl, r_int, r_str, r_tup, r_lst, r_dk, r_dt, r_ktup, r_scr, r_glo, r_bor, r_new, r_ali, t_val, t_new, t_bor, t_ali, g_val, g_bor, g_new, g_ali, a_val, a_bor, a_ali, o_args0, o_args1, l_val, l_bor, l_ali, gAdd, gSub, mul_int, gMod, gDiv, gLt, gLe, gGt, gGe, gIsi, tyN, gLen, gNeg, gTuple, gList, gIsN, gNotN, gOrd, gMin, gMax, fNm, fTup, fCons, fNil, itemsOf, seqOf, k_NoneType_str, k_NoneType_tuple, k_NoneType_list, k_NoneType_int, k_NoneType_bool, k_NoneType_dict, k_bool_str, k_bool_tuple, k_bool_list, k_bool_int, k_bool_bool, k_bool_dict, k_int_str, k_int_tuple, k_int_list, k_int_int, k_int_bool, k_int_dict, k_str_str, k_str_tuple, k_str_list, k_str_int, k_str_bool, k_str_dict, k_tuple_str, k_tuple_tuple, k_tuple_list, k_tuple_int, k_tuple_bool, k_tuple_dict, k_list_str, k_list_tuple, k_list_list, k_list_int, k_list_bool, k_list_dict, k_dict_str, k_dict_tuple, k_dict_list, k_dict_int, k_dict_bool, k_dict_dict, slotOf, List.replicate, List.map_cons, List.map_nil, List.length_cons, List.length_nil, List.getElem?_cons_zero, List.getElem?_cons_succ, List.set_cons_zero, List.set_cons_succ, List.cons_append, List.nil_append, if_true, if_false, Bool.false_eq_true, reduceCtorEq, Nat.sub_self, Nat.reduceSub, Nat.reduceAdd, Nat.reduceLeDiff, Int.reduceLE, Int.reduceLT, Int.reducePow, Int.reduceToNat, Int.reduceNeg, Option.map_some, Option.map_none, Bool.not_true, Bool.not_false, ite_true, ite_false, decide_eq_true_eq, decide_true, decide_false, Bool.not_eq_true']
    by_cases q1 : (1 : Int) ≤ ts.length
    · by_cases q2 : (ts.length : Int) ≤ 40
      · simp only [x_strI, Int.reduceEq, p10_1, p10_2, p10_3, p10_4, p10_5, p10_6, p10_7, p10_8, p10_9, p10_10, p10_11, p10_12, p10_13, p10_14, p10_15, p10_16, p10_17, p10_18, at_c0, at_c1, at_c2, at_c3, at_c4, at_c5, ix_30, ix_31, ix_32, subS, gSet, wr, ix_str, ix_lst, ix_tup, ix_ktup, ix_scr, gEq_str, gNe_str, gEq_int, gNe_int, gEq_bl, gIn_sign, gNotIn_sign, gAll_bls, lt_one, w_sl, w_c, w_op2, w_op1, w_evs0, w_evs1, o_rds0, o_rds1, w_opN, o_tks0, o_tks1, w_lst, w_tup, b_val, w_ite, w_mT, w_bAnd, w_bOr, w_bNot, w_bYes, w_and, w_or, w_not, w_if, w_ch, w_pt0, w_pt1, w_slc, w_call, w_meth, w_itr, w_rng1, w_rng2, w_rng3, w_enum, w_zip, s_seq, s_nx, s_rt, s_bk, s_ct, s_pass, s_brk, s_cnt, s_if, s_asg, s_drop, s_ret, s_retN, s_asgT, s_sub, s_box, s_for, o_some, o_none, o_ite, o_map, o_bind, wp_ok, wp_bad, z_val, z_new, z_bor, z_ali, r_non, r_bl, r_int, r_str, r_tup, r_lst, r_dk, r_dt, r_ktup, r_scr, r_glo, r_bor, r_new, r_ali, t_val, t_new, t_bor, t_ali, g_val, g_bor, g_new, g_ali, a_val, a_bor, a_ali, o_args0, o_args1, l_val, l_bor, l_ali, gAdd, gSub, mul_int, gMod, gDiv, gLt, gLe, gGt, gGe, gIsi, tyN, gLen, gNeg, gTuple, gList, gIsN, gNotN, gOrd, gMin, gMax, fNm, fTup, fCons, fNil, itemsOf, seqOf, k_NoneType_str, k_NoneType_tuple, k_NoneType_list, k_NoneType_int, k_NoneType_bool, k_NoneType_dict, k_bool_str, k_bool_tuple, k_bool_list, k_bool_int, k_bool_bool, k_bool_dict, k_int_str, k_int_tuple, k_int_list, k_int_int, k_int_bool, k_int_dict, k_str_str, k_str_tuple, k_str_list, k_str_int, k_str_bool, k_str_dict, k_tuple_str, k_tuple_tuple, k_tuple_list, k_tuple_int, k_tuple_bool, k_tuple_dict, k_list_str, k_list_tuple, k_list_list, k_list_int, k_list_bool, k_list_dict, k_dict_str, k_dict_tuple, k_dict_list, k_dict_int, k_dict_bool, k_dict_dict, slotOf, List.replicate, List.map_cons, List.map_nil, List.length_cons, List.length_nil, List.getElem?_cons_zero, List.getElem?_cons_succ, List.set_cons_zero, List.set_cons_succ, List.cons_append, List.nil_append, if_true, if_false, Bool.false_eq_true, reduceCtorEq, Nat.sub_self, Nat.reduceSub, Nat.reduceAdd, Nat.reduceLeDiff, Int.reduceLE, Int.reduceLT, Int.reducePow, Int.reduceToNat, Int.reduceNeg, Option.map_some, Option.map_none, Bool.not_true, Bool.not_false, ite_true, ite_false, decide_eq_true_eq, decide_true, decide_false, Bool.not_eq_true', q1, q2]
        refine wp_comp (fun t => some (.bl (isWordP t))) ?_
        simp only [x_strI, Int.reduceEq, p10_1, p10_2, p10_3, p10_4, p10_5, p10_6, p10_7, p10_8, p10_9, p10_10, p10_11, p10_12, p10_13, p10_14, p10_15, p10_16, p10_17, p10_18, at_c0, at_c1, at_c2, at_c3, at_c4, at_c5, ix_30, ix_31, ix_32, subS, gSet, wr, ix_str, ix_lst, ix_tup, ix_ktup, ix_scr, gEq_str, gNe_str, gEq_int, gNe_int, gEq_bl, gIn_sign, gNotIn_sign, gAll_bls, lt_one, w_sl, w_c, w_op2, w_op1, w_evs0, w_evs1, o_rds0, o_rds1, w_opN, o_tks0, o_tks1, w_lst, w_tup, b_val, w_ite, w_mT, w_bAnd, w_bOr, w_bNot, w_bYes, w_and, w_or, w_not, w_if, w_ch, w_pt0, w_pt1, w_slc, w_call, w_meth, w_itr, w_rng1, w_rng2, w_rng3, w_enum, w_zip, s_seq, s_nx, s_rt, s_bk, s_ct, s_pass, s_brk, s_cnt, s_if, s_asg, s_drop, s_ret, s_retN, s_asgT, s_sub, s_box, s_for, o_some, o_none, o_ite, o_map, o_bind, wp_ok, wp_bad, z_val, z_new, z_bor, z_ali, r_non, r_bl, r_int, r_str, r_tup, r_lst, r_dk, r_dt, r_ktup, r_scr, r_glo, r_bor, r_new, r_ali, t_val, t_new, t_bor, t_ali, g_val, g_bor, g_new, g_ali, a_val, a_bor, a_ali, o_args0, o_args1, l_val, l_bor, l_ali, gAdd, gSub, mul_int, gMod, gDiv, gLt, gLe, gGt, gGe, gIsi, tyN, gLen, gNeg, gTuple, gList, gIsN, gNotN, gOrd, gMin, gMax, fNm, fTup, fCons, fNil, itemsOf, seqOf, k_NoneType_str, k_NoneType_tuple, k_NoneType_list, k_NoneType_int, k_NoneType_bool, k_NoneType_dict, k_bool_str, k_bool_tuple, k_bool_list, k_bool_int, k_bool_bool, k_bool_dict, k_int_str, k_int_tuple, k_int_list, k_int_int, k_int_bool, k_int_dict, k_str_str, k_str_tuple, k_str_list, k_str_int, k_str_bool, k_str_dict, k_tuple_str, k_tuple_tuple, k_tuple_list, k_tuple_int, k_tuple_bool, k_tuple_dict, k_list_str, k_list_tuple, k_list_list, k_list_int, k_list_bool, k_list_dict, k_dict_str, k_dict_tuple, k_dict_list, k_dict_int, k_dict_bool, k_dict_dict, slotOf, List.replicate, List.map_cons, List.map_nil, List.length_cons, List.length_nil, List.getElem?_cons_zero, List.getElem?_cons_succ, List.set_cons_zero, List.set_cons_succ, List.cons_append, List.nil_append, if_true, if_false, Bool.false_eq_true, reduceCtorEq, Nat.sub_self, Nat.reduceSub, Nat.reduceAdd, Nat.reduceLeDiff, Int.reduceLE, Int.reduceLT, Int.reducePow, Int.reduceToNat, Int.reduceNeg, Option.map_some, Option.map_none, Bool.not_true, Bool.not_false, ite_true, ite_false, decide_eq_true_eq, decide_true, decide_false, Bool.not_eq_true']
        refine ⟨Nat.le_trans h1 l100, fun u hu acc ha => ?_, ?_⟩
        · refine wp_step rfl ?_
          simp only [x_strI, Int.reduceEq, p10_1, p10_2, p10_3, p10_4, p10_5, p10_6, p10_7, p10_8, p10_9, p10_10, p10_11, p10_12, p10_13, p10_14, p10_15, p10_16, p10_17, p10_18, at_c0, at_c1, at_c2, at_c3, at_c4, at_c5, ix_30, ix_31, ix_32, subS, gSet, wr, ix_str, ix_lst, ix_tup, ix_ktup, ix_scr, gEq_str, gNe_str, gEq_int, gNe_int, gEq_bl, gIn_sign, gNotIn_sign, gAll_bls, lt_one, w_sl, w_c, w_op2, w_op1, w_evs0, w_evs1, o_rds0, o_rds1, w_opN, o_tks0, o_tks1, w_lst, w_tup, b_val, w_ite, w_mT, w_bAnd, w_bOr, w_bNot, w_bYes, w_and, w_or, w_not, w_if, w_ch, w_pt0, w_pt1, w_slc, w_call, w_meth, w_itr, w_rng1, w_rng2, w_rng3, w_enum, w_zip, s_seq, s_nx, s_rt, s_bk, s_ct, s_pass, s_brk, s_cnt, s_if, s_asg, s_drop, s_ret, s_retN, s_asgT, s_sub, s_box, s_for, o_some, o_none, o_ite, o_map, o_bind, wp_ok, wp_bad, z_val, z_new, z_bor, z_ali, r_non, r_bl, r_int, r_str, r_tup, r_lst, r_dk, r_dt, r_ktup, r_scr, r_glo, r_bor, r_new, r_ali, t_val, t_new, t_bor, t_ali, g_val, g_bor, g_new, g_ali, a_val, a_bor, a_ali, o_args0, o_args1, l_val, l_bor, l_ali, gAdd, gSub, mul_int, gMod, gDiv, gLt, gLe, gGt, gGe, gIsi, tyN, gLen, gNeg, gTuple, gList, gIsN, gNotN, gOrd, gMin, gMax, fNm, fTup, fCons, fNil, itemsOf, seqOf, k_NoneType_str, k_NoneType_tuple, k_NoneType_list, k_NoneType_int, k_NoneType_bool, k_NoneType_dict, k_bool_str, k_bool_tuple, k_bool_list, k_bool_int, k_bool_bool, k_bool_dict, k_int_str, k_int_tuple, k_int_list, k_int_int, k_int_bool, k_int_dict, k_str_str, k_str_tuple, k_str_list, k_str_int, k_str_bool, k_str_dict, k_tuple_str, k_tuple_tuple, k_tuple_list, k_tuple_int, k_tuple_bool, k_tuple_dict, k_list_str, k_list_tuple, k_list_list, k_list_int, k_list_bool, k_list_dict, k_dict_str, k_dict_tuple, k_dict_list, k_dict_int, k_dict_bool, k_dict_dict, slotOf, List.replicate, List.map_cons, List.map_nil, List.length_cons, List.length_nil, List.getElem?_cons_zero, List.getElem?_cons_succ, List.set_cons_zero, List.set_cons_succ, List.cons_append, List.nil_append, if_true, if_false, Bool.false_eq_true, reduceCtorEq, Nat.sub_self, Nat.reduceSub, Nat.reduceAdd, Nat.reduceLeDiff, Int.reduceLE, Int.reduceLT, Int.reducePow, Int.reduceToNat, Int.reduceNeg, Option.map_some, Option.map_none, Bool.not_true, Bool.not_false, ite_true, ite_false, decide_eq_true_eq, decide_true, decide_false, Bool.not_eq_true', wipeS, wipeL]
          refine (is_word_ok u ce (h2 u hu).ty (words_h (h2 u hu))).wp ?_
          simp only [x_strI, Int.reduceEq, p10_1, p10_2, p10_3, p10_4, p10_5, p10_6, p10_7, p10_8, p10_9, p10_10, p10_11, p10_12, p10_13, p10_14, p10_15, p10_16, p10_17, p10_18, at_c0, at_c1, at_c2, at_c3, at_c4, at_c5, ix_30, ix_31, ix_32, subS, gSet, wr, ix_str, ix_lst, ix_tup, ix_ktup, ix_scr, gEq_str, gNe_str, gEq_int, gNe_int, gEq_bl, gIn_sign, gNotIn_sign, gAll_bls, lt_one, w_sl, w_c, w_op2, w_op1, w_evs0, w_evs1, o_rds0, o_rds1, w_opN, o_tks0, o_tks1, w_lst, w_tup, b_val, w_ite, w_mT, w_bAnd, w_bOr, w_bNot, w_bYes, w_and, w_or, w_not, w_if, w_ch, w_pt0, w_pt1, w_slc, w_call, w_meth, w_itr, w_rng1, w_rng2, w_rng3, w_enum, w_zip, s_seq, s_nx, s_rt, s_bk, s_ct, s_pass, s_brk, s_cnt, s_if, s_asg, s_drop, s_ret, s_retN, s_asgT, s_sub, s_box, s_for, o_some, o_none, o_ite, o_map, o_bind, wp_ok, wp_bad, z_val, z_new, z_bor, z_ali, r_non, r_bl, r_int, r_str, r_tup, r_lst, r_dk, r_dt, r_ktup, r_scr, r_glo, r_bor, r_new, r_ali, t_val, t_new, t_bor, t_ali, g_val, g_bor, g_new, g_ali, a_val, a_bor, a_ali, o_args0, o_args1, l_val, l_bor, l_ali, gAdd, gSub, mul_int, gMod, gDiv, gLt, gLe, gGt, gGe, gIsi, tyN, gLen, gNeg, gTuple, gList, gIsN, gNotN, gOrd, gMin, gMax, fNm, fTup, fCons, fNil, itemsOf, seqOf, k_NoneType_str, k_NoneType_tuple, k_NoneType_list, k_NoneType_int, k_NoneType_bool, k_NoneType_dict, k_bool_str, k_bool_tuple, k_bool_list, k_bool_int, k_bool_bool, k_bool_dict, k_int_str, k_int_tuple, k_int_list, k_int_int, k_int_bool, k_int_dict, k_str_str, k_str_tuple, k_str_list, k_str_int, k_str_bool, k_str_dict, k_tuple_str, k_tuple_tuple, k_tuple_list, k_tuple_int, k_tuple_bool, k_tuple_dict, k_list_str, k_list_tuple, k_list_list, k_list_int, k_list_bool, k_list_dict, k_dict_str, k_dict_tuple, k_dict_list, k_dict_int, k_dict_bool, k_dict_dict, slotOf, List.replicate, List.map_cons, List.map_nil, List.length_cons, List.length_nil, List.getElem?_cons_zero, List.getElem?_cons_succ, List.set_cons_zero, List.set_cons_succ, List.cons_append, List.nil_append, if_true, if_false, Bool.false_eq_true, reduceCtorEq, Nat.sub_self, Nat.reduceSub, Nat.reduceAdd, Nat.reduceLeDiff, Int.reduceLE, Int.reduceLT, Int.reducePow, Int.reduceToNat, Int.reduceNeg, Option.map_some, Option.map_none, Bool.not_true, Bool.not_false, ite_true, ite_false, decide_eq_true_eq, decide_true, decide_false, Bool.not_eq_true']
          refine ⟨ha, ?_, ?_⟩ <;> first | rfl | trivial
        · rw [fm_bools]
          simp only [x_strI, Int.reduceEq, p10_1, p10_2, p10_3, p10_4, p10_5, p10_6, p10_7, p10_8, p10_9, p10_10, p10_11, p10_12, p10_13, p10_14, p10_15, p10_16, p10_17, p10_18, at_c0, at_c1, at_c2, at_c3, at_c4, at_c5, ix_30, ix_31, ix_32, subS, gSet, wr, ix_str, ix_lst, ix_tup, ix_ktup, ix_scr, gEq_str, gNe_str, gEq_int, gNe_int, gEq_bl, gIn_sign, gNotIn_sign, gAll_bls, lt_one, w_sl, w_c, w_op2, w_op1, w_evs0, w_evs1, o_rds0, o_rds1, w_opN, o_tks0, o_tks1, w_lst, w_tup, b_val, w_ite, w_mT, w_bAnd, w_bOr, w_bNot, w_bYes, w_and, w_or, w_not, w_if, w_ch, w_pt0, w_pt1, w_slc, w_call, w_meth, w_itr, w_rng1, w_rng2, w_rng3, w_enum, w_zip, s_seq, s_nx, s_rt, s_bk, s_ct, s_pass, s_brk, s_cnt, s_if, s_asg, s_drop, s_ret, s_retN, s_asgT, s_sub, s_box, s_for, o_some, o_none, o_ite, o_map, o_bind, wp_ok, wp_bad, z_val, z_new, z_bor, z_ali, r_non, r_bl, r_int, r_str, r_tup, r_lst, r_dk, r_dt, r_ktup, r_scr, r_glo, r_bor, r_new, r_ali, t_val, t_new, t_bor, t_ali, g_val, g_bor, g_new, g_ali, a_val, a_bor, a_ali, o_args0, o_args1, l_val, l_bor, l_ali, gAdd, gSub, mul_int, gMod, gDiv, gLt, gLe, gGt, gGe, gIsi, tyN, gLen, gNeg, gTuple, gList, gIsN, gNotN, gOrd, gMin, gMax, fNm, fTup, fCons, fNil, itemsOf, seqOf, k_NoneType_str, k_NoneType_tuple, k_NoneType_list, k_NoneType_int, k_NoneType_bool, k_NoneType_dict, k_bool_str, k_bool_tuple, k_bool_list, k_bool_int, k_bool_bool, k_bool_dict, k_int_str, k_int_tuple, k_int_list, k_int_int, k_int_bool, k_int_dict, k_str_str, k_str_tuple, k_str_list, k_str_int, k_str_bool, k_str_dict, k_tuple_str, k_tuple_tuple, k_tuple_list, k_tuple_int, k_tuple_bool, k_tuple_dict, k_list_str, k_list_tuple, k_list_list, k_list_int, k_list_bool, k_list_dict, k_dict_str, k_dict_tuple, k_dict_list, k_dict_int, k_dict_bool, k_dict_dict, slotOf, List.replicate, List.map_cons, List.map_nil, List.length_cons, List.length_nil, List.getElem?_cons_zero, List.getElem?_cons_succ, List.set_cons_zero, List.set_cons_succ, List.cons_append, List.nil_append, if_true, if_false, Bool.false_eq_true, reduceCtorEq, Nat.sub_self, Nat.reduceSub, Nat.reduceAdd, Nat.reduceLeDiff, Int.reduceLE, Int.reduceLT, Int.reducePow, Int.reduceToNat, Int.reduceNeg, Option.map_some, Option.map_none, Bool.not_true, Bool.not_false, ite_true, ite_false, decide_eq_true_eq, decide_true, decide_false, Bool.not_eq_true', restS, restL, keepV, wipeS, wipeL, all_id']
          have q1' : 1 ≤ ts.length := by omega
          have q2' : ts.length ≤ 40 := by omega
          simp [isSentP, q1', q2']
      · have q2' : ¬ ts.length ≤ 40 := by omega
        simp [x_strI, Int.reduceEq, p10_1, p10_2, p10_3, p10_4, p10_5, p10_6, p10_7, p10_8, p10_9, p10_10, p10_11, p10_12, p10_13, p10_14, p10_15, p10_16, p10_17, p10_18, at_c0, at_c1, at_c2, at_c3, at_c4, at_c5, ix_30, ix_31, ix_32, subS, gSet, wr, ix_str, ix_lst, ix_tup, ix_ktup, ix_scr, gEq_str, gNe_str, gEq_int, gNe_int, gEq_bl, gIn_sign, gNotIn_sign, gAll_bls, lt_one, w_sl, w_c, w_op2, w_op1, w_evs0, w_evs1, o_rds0, o_rds1, w_opN, o_tks0, o_tks1, w_lst, w_tup, b_val, w_ite, w_mT, w_bAnd, w_bOr, w_bNot, w_bYes, w_and, w_or, w_not, w_if, w_ch, w_pt0, w_pt1, w_slc, w_call, w_meth, w_itr, w_rng1, w_rng2, w_rng3, w_enum, w_zip, s_seq, s_nx, s_rt, s_bk, s_ct, s_pass, s_brk, s_cnt, s_if, s_asg, s_drop, s_ret, s_retN, s_asgT, s_sub, s_box, s_for, o_some, o_none, o_ite, o_map, o_bind, wp_ok, wp_bad, z_val, z_new, z_bor, z_ali, r_non, r_bl, r_int, r_str, r_tup, r_lst, r_dk, r_dt, r_ktup, r_scr, r_glo, r_bor, r_new, r_ali, t_val, t_new, t_bor, t_ali, g_val, g_bor, g_new, g_ali, a_val, a_bor, a_ali, o_args0, o_args1, l_val, l_bor, l_ali, gAdd, gSub, mul_int, gMod, gDiv, gLt, gLe, gGt, gGe, gIsi, tyN, gLen, gNeg, gTuple, gList, gIsN, gNotN, gOrd, gMin, gMax, fNm, fTup, fCons, fNil, itemsOf, seqOf, k_NoneType_str, k_NoneType_tuple, k_NoneType_list, k_NoneType_int, k_NoneType_bool, k_NoneType_dict, k_bool_str, k_bool_tuple, k_bool_list, k_bool_int, k_bool_bool, k_bool_dict, k_int_str, k_int_tuple, k_int_list, k_int_int, k_int_bool, k_int_dict, k_str_str, k_str_tuple, k_str_list, k_str_int, k_str_bool, k_str_dict, k_tuple_str, k_tuple_tuple, k_tuple_list, k_tuple_int, k_tuple_bool, k_tuple_dict, k_list_str, k_list_tuple, k_list_list, k_list_int, k_list_bool, k_list_dict, k_dict_str, k_dict_tuple, k_dict_list, k_dict_int, k_dict_bool, k_dict_dict, slotOf, List.replicate, List.map_cons, List.map_nil, List.length_cons, List.length_nil, List.getElem?_cons_zero, List.getElem?_cons_succ, List.set_cons_zero, List.set_cons_succ, List.cons_append, List.nil_append, if_true, if_false, Bool.false_eq_true, reduceCtorEq, Nat.sub_self, Nat.reduceSub, Nat.reduceAdd, Nat.reduceLeDiff, Int.reduceLE, Int.reduceLT, Int.reducePow, Int.reduceToNat, Int.reduceNeg, Option.map_some, Option.map_none, Bool.not_true, Bool.not_false, ite_true, ite_false, decide_eq_true_eq, decide_true, decide_false, Bool.not_eq_true', q1, q2, isSentP, q2']
    · have q1' : ¬ 1 ≤ ts.length := by omega
      simp only [x_strI, Int.reduceEq, p10_1, p10_2, p10_3, p10_4, p10_5, p10_6, p10_7, p10_8, p10_9, p10_10, p10_11, p10_12, p10_13, p10_14, p10_15, p10_16, p10_17, p10_18, at_c0, at_c1, at_c2, at_c3, at_c4, at_c5, ix_30, ix_31, ix_32, subS, gSet, wr, ix_str, ix_lst, ix_tup, ix_ktup, ix_scr, gEq_str, gNe_str, gEq_int, gNe_int, gEq_bl, gIn_sign, gNotIn_sign, gAll_bls, lt_one, w_sl, w_c, w_op2, w_op1, w_evs0, w_evs1, o_rds0, o_rds1, w_opN, o_tks0, o_tks1, w_lst, w_tup, b_val, w_ite, w_mT, w_bAnd, w_bOr, w_bNot, w_bYes, w_and, w_or, w_not, w_if, w_ch, w_pt0, w_pt1, w_slc, w_call, w_meth, w_itr, w_rng1, w_rng2, w_rng3, w_enum, w_zip, s_seq, s_nx, s_rt, s_bk, s_ct, s_pass, s_brk, s_cnt, s_if, s_asg, s_drop, s_ret, s_retN, s_asgT, s_sub, s_box, s_for, o_some, o_none, o_ite, o_map, o_bind, wp_ok, wp_bad, z_val, z_new, z_bor, z_ali, r_non, r_bl, r_int, r_str, r_tup, r_lst, r_dk, r_dt, r_ktup, r_scr, r_glo, r_bor, r_new, r_ali, t_val, t_new, t_bor, t_ali, g_val, g_bor, g_new, g_ali, a_val, a_bor, a_ali, o_args0, o_args1, l_val, l_bor, l_ali, gAdd, gSub, mul_int, gMod, gDiv, gLt, gLe, gGt, gGe, gIsi, tyN, gLen, gNeg, gTuple, gList, gIsN, gNotN, gOrd, gMin, gMax, fNm, fTup, fCons, fNil, itemsOf, seqOf, k_NoneType_str, k_NoneType_tuple, k_NoneType_list, k_NoneType_int, k_NoneType_bool, k_NoneType_dict, k_bool_str, k_bool_tuple, k_bool_list, k_bool_int, k_bool_bool, k_bool_dict, k_int_str, k_int_tuple, k_int_list, k_int_int, k_int_bool, k_int_dict, k_str_str, k_str_tuple, k_str_list, k_str_int, k_str_bool, k_str_dict, k_tuple_str, k_tuple_tuple, k_tuple_list, k_tuple_int, k_tuple_bool, k_tuple_dict, k_list_str, k_list_tuple, k_list_list, k_list_int, k_list_bool, k_list_dict, k_dict_str, k_dict_tuple, k_dict_list, k_dict_int, k_dict_bool, k_dict_dict, slotOf, List.replicate, List.map_cons, List.map_nil, List.length_cons, List.length_nil, List.getElem?_cons_zero, List.getElem?_cons_succ, List.set_cons_zero, List.set_cons_succ, List.cons_append, List.nil_append, if_true, if_false, Bool.false_eq_true, reduceCtorEq, Nat.sub_self, Nat.reduceSub, Nat.reduceAdd, Nat.reduceLeDiff, Int.reduceLE, Int.reduceLT, Int.reducePow, Int.reduceToNat, Int.reduceNeg, Option.map_some, Option.map_none, Bool.not_true, Bool.not_false, ite_true, ite_false, decide_eq_true_eq, decide_true, decide_false, Bool.not_eq_true', q1]
      simp [isSentP]
      omega
  · have hn : ∀ ts, t ≠ .tup ts := fun ts e => q ⟨ts, e⟩
    have e1 : isSentP t = false := by cases t <;> first | rfl | exact absurd rfl (hn _)
    have e2 := other hn
    obtain ⟨m, hm⟩ := Option.isSome_iff_exists.mp h.ty
    rw [hm] at e2
    simp only [Option.getD_some] at e2
    simp only [m_is_sentence, w_sl, w_and, w_op1, s_ret, List.getElem?_cons_zero, slotOf, List.map_cons, List.map_nil, List.cons_append, List.nil_append, z_val, r0, gIsi, hm, o_some, o_bind, o_map, e2, b_val, Bool.false_eq_true, if_false, e1]
    refine ⟨?_, ?_⟩ <;> first | rfl | trivial

/-- the places told: those of numbers and names -/
def kindT : T → List Nat
  | .str (c :: r) => kindP c r
  | _ => []
def gapT (k : Nat) (t : T) : Option Int := if kindT t = sPlain then none else some (k : Int)
def gapsP (ts : List T) : List Int := (ts.zipIdx).filterMap fun p => gapT p.2 p.1
theorem need_ok {n : Nat} {t : T} (h : Th n t) (ce : List T) : (isSentP t = true → IsV (f_need_sentence [.val t] ce) .non ce) ∧ (isSentP t = false → IsX (f_need_sentence [.val t] ce) 1 ce) := by
  obtain ⟨sl, e⟩ := is_sentence_ok h ce
  have r0 : ∀ s, rd s (.val t) = some t := fun s => rd_val h.nglo
  have key : f_need_sentence [.val t] ce = endF ((if !(isSentP t) then mRaise 1 else mPass) ⟨[.val t], ce⟩) := by
    unfold f_need_sentence runF m_need_sentence
    simp only [mIfS, bNot, mT, mCall, evs, mSl, slotOf, List.map_cons, List.map_nil, List.length_cons, List.length_nil, Nat.sub_self, List.replicate, List.append_nil, List.getElem?_cons_zero, Res.bind_ok, dz, argVs, argV, e, backR]
    cases isSentP t <;> rfl
  constructor
  · intro q; rw [key, q]; exact ⟨_, rfl⟩
  · intro q; rw [key, q]; exact ⟨_, rfl⟩
theorem sent_words {ts : List T} (h : isSentP (.tup ts) = true) : ts.length ≤ 40 ∧ ∀ u ∈ ts, ∃ x c r, u = .str x ∧ x = c :: r ∧ x.length ≤ 20 := by
  simp only [isSentP, Bool.and_eq_true, decide_eq_true_eq] at h
  refine ⟨h.2.1, fun u hu => ?_⟩
  have := List.all_eq_true.mp h.2.2 u hu
  cases u with
  | str x =>
    simp only [isWordP, Bool.and_eq_true, decide_eq_true_eq] at this
    cases x with
    | nil => simp at this
    | cons c r => exact ⟨_, c, r, rfl, rfl, this.2.1⟩
  | _ => cases this
theorem enum_mem {ts : List T} {t : T} (h : t ∈ enumT ts) : ∃ k u, (u, k) ∈ ts.zipIdx ∧ t = .tup [.int (k : Nat), u] := by
  unfold enumT at h
  obtain ⟨⟨u, k⟩, h1, h2⟩ := List.mem_map.mp h
  exact ⟨k, u, h1, h2.symm⟩
def gapE : T → Option T
  | .tup [.int k, u] => if kindT u = sPlain then none else some (.int k)
  | _ => none
theorem fm_gapE (ts : List T) : (enumT ts).filterMap gapE = (gapsP ts).map T.int := by
  unfold enumT gapsP
  rw [List.filterMap_map, List.map_filterMap]
  congr 1
  funext p
  simp only [Function.comp, gapE, gapT]
  split <;> rfl
theorem gaps_of_ok {n : Nat} {t : T} (h : Th n t) (ce : List T) : (∀ ts, t = .tup ts → isSentP t = true → IsN (f_gaps_of [.val t] ce) (.lst ((gapsP ts).map T.int)) ce) ∧ (isSentP t = false → IsX (f_gaps_of [.val t] ce) 1 ce) := by
  constructor
  · intro ts et hs
    subst et
    have hn := (need_ok h ce).1 hs
    obtain ⟨hl, hw⟩ := sent_words hs
    refine .of ?_
    unfold f_gaps_of runF
    refine WP.endF ?_
    simp only [m_gaps_of, x_strI, Int.reduceEq, p10_1, p10_2, p10_3, p10_4, p10_5, p10_6, p10_7, p10_8, p10_9, p10_10, p10_11, p10_12, p10_13, p10_14, p10_15, p10_16, p10_17, p10_18, at_c0, at_c1, at_c2, at_c3, at_c4, at_c5, ix_30, ix_31, ix_32, subS, gSet, wr, ix_str, ix_lst, ix_tup, ix_ktup, ix_scr, gEq_str, gNe_str, gEq_int, gNe_int, gEq_bl, gIn_sign, gNotIn_sign, gAll_bls, lt_one, w_sl, w_c, w_op2, w_op1, w_evs0, w_evs1, o_rds0, o_rds1, w_opN, o_tks0, o_tks1, w_lst, w_tup, b_val, w_ite, w_mT, w_bAnd, w_bOr, w_bNot, w_bYes, w_and, w_or, w_not, w_if, w_ch, w_pt0, w_pt1, w_slc, w_call, w_meth, w_itr, w_rng1, w_rng2, w_rng3, w_enum, w_zip, s_seq, s_nx, s_rt, s_bk, s_ct, s_pass, s_brk, s_cnt, s_if, s_asg, s_drop, s_ret, s_retN, s_asgT, s_sub, s_box, s_for, o_some, o_none, o_ite, o_map, o_bind, wp_ok, wp_bad, z_val, z_new, z_bor, z_ali, r_non, r_bl, r_int, r_str, r_tup, r_lst, r_dk, r_dt, r_ktup, r_scr, r_glo, r_bor, r_new, r_ali, t_val, t_new, t_bor, t_ali, g_val, g_bor, g_new, g_ali, a_val, a_bor, a_ali, o_args0, o_args1, l_val, l_bor, l_ali, gAdd, gSub, mul_int, gMod, gDiv, gLt, gLe, gGt, gGe, gIsi, tyN, gLen, gNeg, gTuple, gList, gIsN, gNotN, gOrd, gMin, gMax, fNm, fTup, fCons, fNil, itemsOf, seqOf, k_NoneType_str, k_NoneType_tuple, k_NoneType_list, k_NoneType_int, k_NoneType_bool, k_NoneType_dict, k_bool_str, k_bool_tuple, k_bool_list, k_bool_int, k_bool_bool, k_bool_dict, k_int_str, k_int_tuple, k_int_list, k_int_int, k_int_bool, k_int_dict, k_str_str, k_str_tuple, k_str_list, k_str_int, k_str_bool, k_str_dict, k_tuple_str, k_tuple_tuple, k_tuple_list, k_tuple_int, k_tuple_bool, k_tuple_dict, k_list_str, k_list_tuple, k_list_list, k_list_int, k_list_bool, k_list_dict, k_dict_str, k_dict_tuple, k_dict_list, k_dict_int, k_dict_bool, k_dict_dict, slotOf, List.replicate, List.map_cons, List.map_nil, List.length_cons, List.length_nil, List.getElem?_cons_zero, List.getElem?_cons_succ, List.set_cons_zero, List.set_cons_succ, List.cons_append, List.nil_append, if_true, if_false, Bool.false_eq_true, reduceCtorEq, Nat.sub_self, Nat.reduceSub, Nat.reduceAdd, Nat.reduceLeDiff, Int.reduceLE, Int.reduceLT, Int.reducePow, Int.reduceToNat, Int.reduceNeg, Option.map_some, Option.map_none, Bool.not_true, Bool.not_false, ite_true, ite_false, decide_eq_true_eq, decide_true, decide_false, Bool.not_eq_true']
    refine hn.wp ?_
    simp only [x_strI, Int.reduceEq, p10_1, p10_2, p10_3, p10_4, p10_5, p10_6, p10_7, p10_8, p10_9, p10_10, p10_11, p10_12, p10_13, p10_14, p10_15, p10_16, p10_17, p10_18, at_c0, at_c1, at_c2, at_c3, at_c4, at_c5, ix_30, ix_31, ix_32, subS, gSet, wr, ix_str, ix_lst, ix_tup, ix_ktup, ix_scr, gEq_str, gNe_str, gEq_int, gNe_int, gEq_bl, gIn_sign, gNotIn_sign, gAll_bls, lt_one, w_sl, w_c, w_op2, w_op1, w_evs0, w_evs1, o_rds0, o_rds1, w_opN, o_tks0, o_tks1, w_lst, w_tup, b_val, w_ite, w_mT, w_bAnd, w_bOr, w_bNot, w_bYes, w_and, w_or, w_not, w_if, w_ch, w_pt0, w_pt1, w_slc, w_call, w_meth, w_itr, w_rng1, w_rng2, w_rng3, w_enum, w_zip, s_seq, s_nx, s_rt, s_bk, s_ct, s_pass, s_brk, s_cnt, s_if, s_asg, s_drop, s_ret, s_retN, s_asgT, s_sub, s_box, s_for, o_some, o_none, o_ite, o_map, o_bind, wp_ok, wp_bad, z_val, z_new, z_bor, z_ali, r_non, r_bl, r_int, r_str, r_tup, r_lst, r_dk, r_dt, r_ktup, r_scr, r_glo, r_bor, r_new, r_ali, t_val, t_new, t_bor, t_ali, g_val, g_bor, g_new, g_ali, a_val, a_bor, a_ali, o_args0, o_args1, l_val, l_bor, l_ali, gAdd, gSub, mul_int, gMod, gDiv, gLt, gLe, gGt, gGe, gIsi, tyN, gLen, gNeg, gTuple, gList, gIsN, gNotN, gOrd, gMin, gMax, fNm, fTup, fCons, fNil, itemsOf, seqOf, k_NoneType_str, k_NoneType_tuple, k_NoneType_list, k_NoneType_int, k_NoneType_bool, k_NoneType_dict, k_bool_str, k_bool_tuple, k_bool_list, k_bool_int, k_bool_bool, k_bool_dict, k_int_str, k_int_tuple, k_int_list, k_int_int, k_int_bool, k_int_dict, k_str_str, k_str_tuple, k_str_list, k_str_int, k_str_bool, k_str_dict, k_tuple_str, k_tuple_tuple, k_tuple_list, k_tuple_int, k_tuple_bool, k_tuple_dict, k_list_str, k_list_tuple, k_list_list, k_list_int, k_list_bool, k_list_dict, k_dict_str, k_dict_tuple, k_dict_list, k_dict_int, k_dict_bool, k_dict_dict, slotOf, List.replicate, List.map_cons, List.map_nil, List.length_cons, List.length_nil, List.getElem?_cons_zero, List.getElem?_cons_succ, List.set_cons_zero, List.set_cons_succ, List.cons_append, List.nil_append, if_true, if_false, Bool.false_eq_true, reduceCtorEq, Nat.sub_self, Nat.reduceSub, Nat.reduceAdd, Nat.reduceLeDiff, Int.reduceLE, Int.reduceLT, Int.reducePow, Int.reduceToNat, Int.reduceNeg, Option.map_some, Option.map_none, Bool.not_true, Bool.not_false, ite_true, ite_false, decide_eq_true_eq, decide_true, decide_false, Bool.not_eq_true']
    refine wp_comp gapE ?_
    simp only [x_strI, Int.reduceEq, p10_1, p10_2, p10_3, p10_4, p10_5, p10_6, p10_7, p10_8, p10_9, p10_10, p10_11, p10_12, p10_13, p10_14, p10_15, p10_16, p10_17, p10_18, at_c0, at_c1, at_c2, at_c3, at_c4, at_c5, ix_30, ix_31, ix_32, subS, gSet, wr, ix_str, ix_lst, ix_tup, ix_ktup, ix_scr, gEq_str, gNe_str, gEq_int, gNe_int, gEq_bl, gIn_sign, gNotIn_sign, gAll_bls, lt_one, w_sl, w_c, w_op2, w_op1, w_evs0, w_evs1, o_rds0, o_rds1, w_opN, o_tks0, o_tks1, w_lst, w_tup, b_val, w_ite, w_mT, w_bAnd, w_bOr, w_bNot, w_bYes, w_and, w_or, w_not, w_if, w_ch, w_pt0, w_pt1, w_slc, w_call, w_meth, w_itr, w_rng1, w_rng2, w_rng3, w_enum, w_zip, s_seq, s_nx, s_rt, s_bk, s_ct, s_pass, s_brk, s_cnt, s_if, s_asg, s_drop, s_ret, s_retN, s_asgT, s_sub, s_box, s_for, o_some, o_none, o_ite, o_map, o_bind, wp_ok, wp_bad, z_val, z_new, z_bor, z_ali, r_non, r_bl, r_int, r_str, r_tup, r_lst, r_dk, r_dt, r_ktup, r_scr, r_glo, r_bor, r_new, r_ali, t_val, t_new, t_bor, t_ali, g_val, g_bor, g_new, g_ali, a_val, a_bor, a_ali, o_args0, o_args1, l_val, l_bor, l_ali, gAdd, gSub, mul_int, gMod, gDiv, gLt, gLe, gGt, gGe, gIsi, tyN, gLen, gNeg, gTuple, gList, gIsN, gNotN, gOrd, gMin, gMax, fNm, fTup, fCons, fNil, itemsOf, seqOf, k_NoneType_str, k_NoneType_tuple, k_NoneType_list, k_NoneType_int, k_NoneType_bool, k_NoneType_dict, k_bool_str, k_bool_tuple, k_bool_list, k_bool_int, k_bool_bool, k_bool_dict, k_int_str, k_int_tuple, k_int_list, k_int_int, k_int_bool, k_int_dict, k_str_str, k_str_tuple, k_str_list, k_str_int, k_str_bool, k_str_dict, k_tuple_str, k_tuple_tuple, k_tuple_list, k_tuple_int, k_tuple_bool, k_tuple_dict, k_list_str, k_list_tuple, k_list_list, k_list_int, k_list_bool, k_list_dict, k_dict_str, k_dict_tuple, k_dict_list, k_dict_int, k_dict_bool, k_dict_dict, slotOf, List.replicate, List.map_cons, List.map_nil, List.length_cons, List.length_nil, List.getElem?_cons_zero, List.getElem?_cons_succ, List.set_cons_zero, List.set_cons_succ, List.cons_append, List.nil_append, if_true, if_false, Bool.false_eq_true, reduceCtorEq, Nat.sub_self, Nat.reduceSub, Nat.reduceAdd, Nat.reduceLeDiff, Int.reduceLE, Int.reduceLT, Int.reducePow, Int.reduceToNat, Int.reduceNeg, Option.map_some, Option.map_none, Bool.not_true, Bool.not_false, ite_true, ite_false, decide_eq_true_eq, decide_true, decide_false, Bool.not_eq_true']
    refine ⟨?_, fun t ht acc ha => ?_, ?_⟩
    · have : (enumT ts).length = ts.length := by simp [enumT]
      rw [this]
      exact Nat.le_trans hl (by decide)
    · obtain ⟨k, u, hu, rfl⟩ := enum_mem ht
      have hu' : u ∈ ts := by
        have := List.mem_zipIdx hu
        rw [this.2.2]
        exact List.getElem_mem _
      obtain ⟨x, c, r, rfl, hx, hx2⟩ := hw u hu'
      refine wp_step rfl ?_
      simp only [x_strI, Int.reduceEq, p10_1, p10_2, p10_3, p10_4, p10_5, p10_6, p10_7, p10_8, p10_9, p10_10, p10_11, p10_12, p10_13, p10_14, p10_15, p10_16, p10_17, p10_18, at_c0, at_c1, at_c2, at_c3, at_c4, at_c5, ix_30, ix_31, ix_32, subS, gSet, wr, ix_str, ix_lst, ix_tup, ix_ktup, ix_scr, gEq_str, gNe_str, gEq_int, gNe_int, gEq_bl, gIn_sign, gNotIn_sign, gAll_bls, lt_one, w_sl, w_c, w_op2, w_op1, w_evs0, w_evs1, o_rds0, o_rds1, w_opN, o_tks0, o_tks1, w_lst, w_tup, b_val, w_ite, w_mT, w_bAnd, w_bOr, w_bNot, w_bYes, w_and, w_or, w_not, w_if, w_ch, w_pt0, w_pt1, w_slc, w_call, w_meth, w_itr, w_rng1, w_rng2, w_rng3, w_enum, w_zip, s_seq, s_nx, s_rt, s_bk, s_ct, s_pass, s_brk, s_cnt, s_if, s_asg, s_drop, s_ret, s_retN, s_asgT, s_sub, s_box, s_for, o_some, o_none, o_ite, o_map, o_bind, wp_ok, wp_bad, z_val, z_new, z_bor, z_ali, r_non, r_bl, r_int, r_str, r_tup, r_lst, r_dk, r_dt, r_ktup, r_scr, r_glo, r_bor, r_new, r_ali, t_val, t_new, t_bor, t_ali, g_val, g_bor, g_new, g_ali, a_val, a_bor, a_ali, o_args0, o_args1, l_val, l_bor, l_ali, gAdd, gSub, mul_int, gMod, gDiv, gLt, gLe, gGt, gGe, gIsi, tyN, gLen, gNeg, gTuple, gList, gIsN, gNotN, gOrd, gMin, gMax, fNm, fTup, fCons, fNil, itemsOf, seqOf, k_NoneType_str, k_NoneType_tuple, k_NoneType_list, k_NoneType_int, k_NoneType_bool, k_NoneType_dict, k_bool_str, k_bool_tuple, k_bool_list, k_bool_int, k_bool_bool, k_bool_dict, k_int_str, k_int_tuple, k_int_list, k_int_int, k_int_bool, k_int_dict, k_str_str, k_str_tuple, k_str_list, k_str_int, k_str_bool, k_str_dict, k_tuple_str, k_tuple_tuple, k_tuple_list, k_tuple_int, k_tuple_bool, k_tuple_dict, k_list_str, k_list_tuple, k_list_list, k_list_int, k_list_bool, k_list_dict, k_dict_str, k_dict_tuple, k_dict_list, k_dict_int, k_dict_bool, k_dict_dict, slotOf, List.replicate, List.map_cons, List.map_nil, List.length_cons, List.length_nil, List.getElem?_cons_zero, List.getElem?_cons_succ, List.set_cons_zero, List.set_cons_succ, List.cons_append, List.nil_append, if_true, if_false, Bool.false_eq_true, reduceCtorEq, Nat.sub_self, Nat.reduceSub, Nat.reduceAdd, Nat.reduceLeDiff, Int.reduceLE, Int.reduceLT, Int.reducePow, Int.reduceToNat, Int.reduceNeg, Option.map_some, Option.map_none, Bool.not_true, Bool.not_false, ite_true, ite_false, decide_eq_true_eq, decide_true, decide_false, Bool.not_eq_true', wipeS, wipeL]
      refine (kind_of_ok x c r hx ce (Nat.le_trans hx2 (by decide))).wp ?_
      simp only [x_strI, Int.reduceEq, p10_1, p10_2, p10_3, p10_4, p10_5, p10_6, p10_7, p10_8, p10_9, p10_10, p10_11, p10_12, p10_13, p10_14, p10_15, p10_16, p10_17, p10_18, at_c0, at_c1, at_c2, at_c3, at_c4, at_c5, ix_30, ix_31, ix_32, subS, gSet, wr, ix_str, ix_lst, ix_tup, ix_ktup, ix_scr, gEq_str, gNe_str, gEq_int, gNe_int, gEq_bl, gIn_sign, gNotIn_sign, gAll_bls, lt_one, w_sl, w_c, w_op2, w_op1, w_evs0, w_evs1, o_rds0, o_rds1, w_opN, o_tks0, o_tks1, w_lst, w_tup, b_val, w_ite, w_mT, w_bAnd, w_bOr, w_bNot, w_bYes, w_and, w_or, w_not, w_if, w_ch, w_pt0, w_pt1, w_slc, w_call, w_meth, w_itr, w_rng1, w_rng2, w_rng3, w_enum, w_zip, s_seq, s_nx, s_rt, s_bk, s_ct, s_pass, s_brk, s_cnt, s_if, s_asg, s_drop, s_ret, s_retN, s_asgT, s_sub, s_box, s_for, o_some, o_none, o_ite, o_map, o_bind, wp_ok, wp_bad, z_val, z_new, z_bor, z_ali, r_non, r_bl, r_int, r_str, r_tup, r_lst, r_dk, r_dt, r_ktup, r_scr, r_glo, r_bor, r_new, r_ali, t_val, t_new, t_bor, t_ali, g_val, g_bor, g_new, g_ali, a_val, a_bor, a_ali, o_args0, o_args1, l_val, l_bor, l_ali, gAdd, gSub, mul_int, gMod, gDiv, gLt, gLe, gGt, gGe, gIsi, tyN, gLen, gNeg, gTuple, gList, gIsN, gNotN, gOrd, gMin, gMax, fNm, fTup, fCons, fNil, itemsOf, seqOf, k_NoneType_str, k_NoneType_tuple, k_NoneType_list, k_NoneType_int, k_NoneType_bool, k_NoneType_dict, k_bool_str, k_bool_tuple, k_bool_list, k_bool_int, k_bool_bool, k_bool_dict, k_int_str, k_int_tuple, k_int_list, k_int_int, k_int_bool, k_int_dict, k_str_str, k_str_tuple, k_str_list, k_str_int, k_str_bool, k_str_dict, k_tuple_str, k_tuple_tuple, k_tuple_list, k_tuple_int, k_tuple_bool, k_tuple_dict, k_list_str, k_list_tuple, k_list_list, k_list_int, k_list_bool, k_list_dict, k_dict_str, k_dict_tuple, k_dict_list, k_dict_int, k_dict_bool, k_dict_dict, slotOf, List.replicate, List.map_cons, List.map_nil, List.length_cons, List.length_nil, List.getElem?_cons_zero, List.getElem?_cons_succ, List.set_cons_zero, List.set_cons_succ, List.cons_append, List.nil_append, if_true, if_false, Bool.false_eq_true, reduceCtorEq, Nat.sub_self, Nat.reduceSub, Nat.reduceAdd, Nat.reduceLeDiff, Int.reduceLE, Int.reduceLT, Int.reducePow, Int.reduceToNat, Int.reduceNeg, Option.map_some, Option.map_none, Bool.not_true, Bool.not_false, ite_true, ite_false, decide_eq_true_eq, decide_true, decide_false, Bool.not_eq_true']
      have e1 : gapE (.tup [.int (k : Nat), .str x]) = if kindP c r = sPlain then none else some (.int (k : Nat)) := by subst hx; rfl
      rw [e1]
      by_cases q : kindP c r = sPlain
      · have q' : kindP c r = [112, 108, 97, 105, 110] := q
        rw [if_pos q]
        simp [x_strI, Int.reduceEq, p10_1, p10_2, p10_3, p10_4, p10_5, p10_6, p10_7, p10_8, p10_9, p10_10, p10_11, p10_12, p10_13, p10_14, p10_15, p10_16, p10_17, p10_18, at_c0, at_c1, at_c2, at_c3, at_c4, at_c5, ix_30, ix_31, ix_32, subS, gSet, wr, ix_str, ix_lst, ix_tup, ix_ktup, ix_scr, gEq_str, gNe_str, gEq_int, gNe_int, gEq_bl, gIn_sign, gNotIn_sign, gAll_bls, lt_one, w_sl, w_c, w_op2, w_op1, w_evs0, w_evs1, o_rds0, o_rds1, w_opN, o_tks0, o_tks1, w_lst, w_tup, b_val, w_ite, w_mT, w_bAnd, w_bOr, w_bNot, w_bYes, w_and, w_or, w_not, w_if, w_ch, w_pt0, w_pt1, w_slc, w_call, w_meth, w_itr, w_rng1, w_rng2, w_rng3, w_enum, w_zip, s_seq, s_nx, s_rt, s_bk, s_ct, s_pass, s_brk, s_cnt, s_if, s_asg, s_drop, s_ret, s_retN, s_asgT, s_sub, s_box, s_for, o_some, o_none, o_ite, o_map, o_bind, wp_ok, wp_bad, z_val, z_new, z_bor, z_ali, r_non, r_bl, r_int, r_str, r_tup, r_lst, r_dk, r_dt, r_ktup, r_scr, r_glo, r_bor, r_new, r_ali, t_val, t_new, t_bor, t_ali, g_val, g_bor, g_new, g_ali, a_val, a_bor, a_ali, o_args0, o_args1, l_val, l_bor, l_ali, gAdd, gSub, mul_int, gMod, gDiv, gLt, gLe, gGt, gGe, gIsi, tyN, gLen, gNeg, gTuple, gList, gIsN, gNotN, gOrd, gMin, gMax, fNm, fTup, fCons, fNil, itemsOf, seqOf, k_NoneType_str, k_NoneType_tuple, k_NoneType_list, k_NoneType_int, k_NoneType_bool, k_NoneType_dict, k_bool_str, k_bool_tuple, k_bool_list, k_bool_int, k_bool_bool, k_bool_dict, k_int_str, k_int_tuple, k_int_list, k_int_int, k_int_bool, k_int_dict, k_str_str, k_str_tuple, k_str_list, k_str_int, k_str_bool, k_str_dict, k_tuple_str, k_tuple_tuple, k_tuple_list, k_tuple_int, k_tuple_bool, k_tuple_dict, k_list_str, k_list_tuple, k_list_list, k_list_int, k_list_bool, k_list_dict, k_dict_str, k_dict_tuple, k_dict_list, k_dict_int, k_dict_bool, k_dict_dict, slotOf, List.replicate, List.map_cons, List.map_nil, List.length_cons, List.length_nil, List.getElem?_cons_zero, List.getElem?_cons_succ, List.set_cons_zero, List.set_cons_succ, List.cons_append, List.nil_append, if_true, if_false, Bool.false_eq_true, reduceCtorEq, Nat.sub_self, Nat.reduceSub, Nat.reduceAdd, Nat.reduceLeDiff, Int.reduceLE, Int.reduceLT, Int.reducePow, Int.reduceToNat, Int.reduceNeg, Option.map_some, Option.map_none, Bool.not_true, Bool.not_false, ite_true, ite_false, decide_eq_true_eq, decide_true, decide_false, Bool.not_eq_true', q']
      · have q' : ¬ kindP c r = [112, 108, 97, 105, 110] := q
        rw [if_neg q]
        simp [x_strI, Int.reduceEq, p10_1, p10_2, p10_3, p10_4, p10_5, p10_6, p10_7, p10_8, p10_9, p10_10, p10_11, p10_12, p10_13, p10_14, p10_15, p10_16, p10_17, p10_18, at_c0, at_c1, at_c2, at_c3, at_c4, at_c5, ix_30, ix_31, ix_32, subS, gSet, wr, ix_str, ix_lst, ix_tup, ix_ktup, ix_scr, gEq_str, gNe_str, gEq_int, gNe_int, gEq_bl, gIn_sign, gNotIn_sign, gAll_bls, lt_one, w_sl, w_c, w_op2, w_op1, w_evs0, w_evs1, o_rds0, o_rds1, w_opN, o_tks0, o_tks1, w_lst, w_tup, b_val, w_ite, w_mT, w_bAnd, w_bOr, w_bNot, w_bYes, w_and, w_or, w_not, w_if, w_ch, w_pt0, w_pt1, w_slc, w_call, w_meth, w_itr, w_rng1, w_rng2, w_rng3, w_enum, w_zip, s_seq, s_nx, s_rt, s_bk, s_ct, s_pass, s_brk, s_cnt, s_if, s_asg, s_drop, s_ret, s_retN, s_asgT, s_sub, s_box, s_for, o_some, o_none, o_ite, o_map, o_bind, wp_ok, wp_bad, z_val, z_new, z_bor, z_ali, r_non, r_bl, r_int, r_str, r_tup, r_lst, r_dk, r_dt, r_ktup, r_scr, r_glo, r_bor, r_new, r_ali, t_val, t_new, t_bor, t_ali, g_val, g_bor, g_new, g_ali, a_val, a_bor, a_ali, o_args0, o_args1, l_val, l_bor, l_ali, gAdd, gSub, mul_int, gMod, gDiv, gLt, gLe, gGt, gGe, gIsi, tyN, gLen, gNeg, gTuple, gList, gIsN, gNotN, gOrd, gMin, gMax, fNm, fTup, fCons, fNil, itemsOf, seqOf, k_NoneType_str, k_NoneType_tuple, k_NoneType_list, k_NoneType_int, k_NoneType_bool, k_NoneType_dict, k_bool_str, k_bool_tuple, k_bool_list, k_bool_int, k_bool_bool, k_bool_dict, k_int_str, k_int_tuple, k_int_list, k_int_int, k_int_bool, k_int_dict, k_str_str, k_str_tuple, k_str_list, k_str_int, k_str_bool, k_str_dict, k_tuple_str, k_tuple_tuple, k_tuple_list, k_tuple_int, k_tuple_bool, k_tuple_dict, k_list_str, k_list_tuple, k_list_list, k_list_int, k_list_bool, k_list_dict, k_dict_str, k_dict_tuple, k_dict_list, k_dict_int, k_dict_bool, k_dict_dict, slotOf, List.replicate, List.map_cons, List.map_nil, List.length_cons, List.length_nil, List.getElem?_cons_zero, List.getElem?_cons_succ, List.set_cons_zero, List.set_cons_succ, List.cons_append, List.nil_append, if_true, if_false, Bool.false_eq_true, reduceCtorEq, Nat.sub_self, Nat.reduceSub, Nat.reduceAdd, Nat.reduceLeDiff, Int.reduceLE, Int.reduceLT, Int.reducePow, Int.reduceToNat, Int.reduceNeg, Option.map_some, Option.map_none, Bool.not_true, Bool.not_false, ite_true, ite_false, decide_eq_true_eq, decide_true, decide_false, Bool.not_eq_true', q', ha]
    · rw [fm_gapE]
      simp only [x_strI, Int.reduceEq, p10_1, p10_2, p10_3, p10_4, p10_5, p10_6, p10_7, p10_8, p10_9, p10_10, p10_11, p10_12, p10_13, p10_14, p10_15, p10_16, p10_17, p10_18, at_c0, at_c1, at_c2, at_c3, at_c4, at_c5, ix_30, ix_31, ix_32, subS, gSet, wr, ix_str, ix_lst, ix_tup, ix_ktup, ix_scr, gEq_str, gNe_str, gEq_int, gNe_int, gEq_bl, gIn_sign, gNotIn_sign, gAll_bls, lt_one, w_sl, w_c, w_op2, w_op1, w_evs0, w_evs1, o_rds0, o_rds1, w_opN, o_tks0, o_tks1, w_lst, w_tup, b_val, w_ite, w_mT, w_bAnd, w_bOr, w_bNot, w_bYes, w_and, w_or, w_not, w_if, w_ch, w_pt0, w_pt1, w_slc, w_call, w_meth, w_itr, w_rng1, w_rng2, w_rng3, w_enum, w_zip, s_seq, s_nx, s_rt, s_bk, s_ct, s_pass, s_brk, s_cnt, s_if, s_asg, s_drop, s_ret, s_retN, s_asgT, s_sub, s_box, s_for, o_some, o_none, o_ite, o_map, o_bind, wp_ok, wp_bad, z_val, z_new, z_bor, z_ali, r_non, r_bl, r_int, r_str, r_tup, r_lst, r_dk, r_dt, r_ktup, r_scr, r_glo, r_bor, r_new, r_ali, t_val, t_new, t_bor, t_ali, g_val, g_bor, g_new, g_ali, a_val, a_bor, a_ali, o_args0, o_args1, l_val, l_bor, l_ali, gAdd, gSub, mul_int, gMod, gDiv, gLt, gLe, gGt, gGe, gIsi, tyN, gLen, gNeg, gTuple, gList, gIsN, gNotN, gOrd, gMin, gMax, fNm, fTup, fCons, fNil, itemsOf, seqOf, k_NoneType_str, k_NoneType_tuple, k_NoneType_list, k_NoneType_int, k_NoneType_bool, k_NoneType_dict, k_bool_str, k_bool_tuple, k_bool_list, k_bool_int, k_bool_bool, k_bool_dict, k_int_str, k_int_tuple, k_int_list, k_int_int, k_int_bool, k_int_dict, k_str_str, k_str_tuple, k_str_list, k_str_int, k_str_bool, k_str_dict, k_tuple_str, k_tuple_tuple, k_tuple_list, k_tuple_int, k_tuple_bool, k_tuple_dict, k_list_str, k_list_tuple, k_list_list, k_list_int, k_list_bool, k_list_dict, k_dict_str, k_dict_tuple, k_dict_list, k_dict_int, k_dict_bool, k_dict_dict, slotOf, List.replicate, List.map_cons, List.map_nil, List.length_cons, List.length_nil, List.getElem?_cons_zero, List.getElem?_cons_succ, List.set_cons_zero, List.set_cons_succ, List.cons_append, List.nil_append, if_true, if_false, Bool.false_eq_true, reduceCtorEq, Nat.sub_self, Nat.reduceSub, Nat.reduceAdd, Nat.reduceLeDiff, Int.reduceLE, Int.reduceLT, Int.reducePow, Int.reduceToNat, Int.reduceNeg, Option.map_some, Option.map_none, Bool.not_true, Bool.not_false, ite_true, ite_false, decide_eq_true_eq, decide_true, decide_false, Bool.not_eq_true', restS, restL, keepV, wipeS, wipeL]
      refine ⟨?_, ?_⟩ <;> first | rfl | trivial
  · intro hs
    obtain ⟨sl, e⟩ := (need_ok h ce).2 hs
    refine ⟨[.val t, .no, .no], ?_⟩
    unfold f_gaps_of runF m_gaps_of
    simp only [mSeq, mDrop, mCall, evs, mSl, slotOf, List.map_cons, List.map_nil, List.length_cons, List.length_nil, List.replicate, List.cons_append, List.getElem?_cons_zero, Res.bind_ok, dz, argVs, argV, e, backR, Res.bind_ex, endF]
    rfl
def g1P : T → Bool
  | .tup ts => decide (1 ≤ ts.length) && decide (ts.length ≤ 40)
  | _ => false
theorem kit_other {t : T} (h : (tyN t).isSome = true) (hn : ∀ ts, t ≠ .tup ts) : ∃ m, tyN t = some m ∧ kitB m "tuple" = some false := by
  cases t <;> first | (exact absurd rfl (hn _)) | (refine ⟨_, rfl, ?_⟩; decide +kernel) | (cases h)
theorem right_1 {n : Nat} {t : T} (h : Th n t) (ce : List T) (x2 x3 x4 x5 x6 : Slot) : WP (mAsg 1 (mAnd (mOp1 (gIsi "tuple") (mSl 0)) (mCh gLe gLe (mC (.int 1)) (mOpN gLen [mSl 0]) (mC (.int 40)))) ⟨[.val t, .no, .no, .no, .no, .no, .no], ce⟩) fun o s => o = .nx ∧ s = ⟨[.val t, .val (.bl (g1P t)), .no, .no, .no, .no, .no], ce⟩ := by
  by_cases q : ∃ ts, t = .tup ts
  · obtain ⟨ts, rfl⟩ := q
    simp only [x_strI, Int.reduceEq, p10_1, p10_2, p10_3, p10_4, p10_5, p10_6, p10_7, p10_8, p10_9, p10_10, p10_11, p10_12, p10_13, p10_14, p10_15, p10_16, p10_17, p10_18, at_c0, at_c1, at_c2, at_c3, at_c4, at_c5, ix_30, ix_31, ix_32, subS, gSet, wr, ix_str, ix_lst, ix_tup, ix_ktup, ix_scr, gEq_str, gNe_str, gEq_int, gNe_int, gEq_bl, gIn_sign, gNotIn_sign, gAll_bls, lt_one, w_sl, w_c, w_op2, w_op1, w_evs0, w_evs1, o_rds0, o_rds1, w_opN, o_tks0, o_tks1, w_lst, w_tup, b_val, w_ite, w_mT, w_bAnd, w_bOr, w_bNot, w_bYes, w_and, w_or, w_not, w_if, w_ch, w_pt0, w_pt1, w_slc, w_call, w_meth, w_itr, w_rng1, w_rng2, w_rng3, w_enum, w_zip, s_seq, s_nx, s_rt, s_bk, s_ct, s_pass, s_brk, s_cnt, s_if, s_asg, s_drop, s_ret, s_retN, s_asgT, s_sub, s_box, s_for, o_some, o_none, o_ite, o_map, o_bind, wp_ok, wp_bad, z_val, z_new, z_bor, z_ali, r_non, r_bl, r_int, r_str, r_tup, r_lst, r_dk, r_dt, r_ktup, r_scr, r_glo, r_bor, r_new, r_ali, t_val, t_new, t_bor, t_ali, g_val, g_bor, g_new, g_ali, a_val, a_bor, a_ali, o_args0, o_args1, l_val, l_bor, l_ali, gAdd, gSub, mul_int, gMod, gDiv, gLt, gLe, gGt, gGe, gIsi, tyN, gLen, gNeg, gTuple, gList, gIsN, gNotN, gOrd, gMin, gMax, fNm, fTup, fCons, fNil, itemsOf, seqOf, k_NoneType_str, k_NoneType_tuple, k_NoneType_list, k_NoneType_int, k_NoneType_bool, k_NoneType_dict, k_bool_str, k_bool_tuple, k_bool_list, k_bool_int, k_bool_bool, k_bool_dict, k_int_str, k_int_tuple, k_int_list, k_int_int, k_int_bool, k_int_dict, k_str_str, k_str_tuple, k_str_list, k_str_int, k_str_bool, k_str_dict, k_tuple_str, k_tuple_tuple, k_tuple_list, k_tuple_int, k_tuple_bool, k_tuple_dict, k_list_str, k_list_tuple, k_list_list, k_list_int, k_list_bool, k_list_dict, k_dict_str, k_dict_tuple, k_dict_list, k_dict_int, k_dict_bool, k_dict_dict, slotOf, List.replicate, List.map_cons, List.map_nil, List.length_cons, List.length_nil, List.getElem?_cons_zero, List.getElem?_cons_succ, List.set_cons_zero, List.set_cons_succ, List.cons_append, List.nil_append, if_true, if_false, Bool.false_eq_true, reduceCtorEq, Nat.sub_self, Nat.reduceSub, Nat.reduceAdd, Nat.reduceLeDiff, Int.reduceLE, Int.reduceLT, Int.reducePow, Int.reduceToNat, Int.reduceNeg, Option.map_some, Option.map_none, Bool.not_true, Bool.not_false, ite_true, ite_false, decide_eq_true_eq, decide_true, decide_false, Bool.not_eq_true']
    have e1 : ((1 : Int) ≤ ts.length) ↔ 1 ≤ ts.length := by omega
    have e2 : ((ts.length : Int) ≤ 40) ↔ ts.length ≤ 40 := by omega
    by_cases q1 : 1 ≤ ts.length <;> by_cases q2 : ts.length ≤ 40 <;> simp [x_strI, Int.reduceEq, p10_1, p10_2, p10_3, p10_4, p10_5, p10_6, p10_7, p10_8, p10_9, p10_10, p10_11, p10_12, p10_13, p10_14, p10_15, p10_16, p10_17, p10_18, at_c0, at_c1, at_c2, at_c3, at_c4, at_c5, ix_30, ix_31, ix_32, subS, gSet, wr, ix_str, ix_lst, ix_tup, ix_ktup, ix_scr, gEq_str, gNe_str, gEq_int, gNe_int, gEq_bl, gIn_sign, gNotIn_sign, gAll_bls, lt_one, w_sl, w_c, w_op2, w_op1, w_evs0, w_evs1, o_rds0, o_rds1, w_opN, o_tks0, o_tks1, w_lst, w_tup, b_val, w_ite, w_mT, w_bAnd, w_bOr, w_bNot, w_bYes, w_and, w_or, w_not, w_if, w_ch, w_pt0, w_pt1, w_slc, w_call, w_meth, w_itr, w_rng1, w_rng2, w_rng3, w_enum, w_zip, s_seq, s_nx, s_rt, s_bk, s_ct, s_pass, s_brk, s_cnt, s_if, s_asg, s_drop, s_ret, s_retN, s_asgT, s_sub, s_box, s_for, o_some, o_none, o_ite, o_map, o_bind, wp_ok, wp_bad, z_val, z_new, z_bor, z_ali, r_non, r_bl, r_int, r_str, r_tup, r_lst, r_dk, r_dt, r_ktup, r_scr, r_glo, r_bor, r_new, r_ali, t_val, t_new, t_bor, t_ali, g_val, g_bor, g_new, g_ali, a_val, a_bor, a_ali, o_args0, o_args1, l_val, l_bor, l_ali, gAdd, gSub, mul_int, gMod, gDiv, gLt, gLe, gGt, gGe, gIsi, tyN, gLen, gNeg, gTuple, gList, gIsN, gNotN, gOrd, gMin, gMax, fNm, fTup, fCons, fNil, itemsOf, seqOf, k_NoneType_str, k_NoneType_tuple, k_NoneType_list, k_NoneType_int, k_NoneType_bool, k_NoneType_dict, k_bool_str, k_bool_tuple, k_bool_list, k_bool_int, k_bool_bool, k_bool_dict, k_int_str, k_int_tuple, k_int_list, k_int_int, k_int_bool, k_int_dict, k_str_str, k_str_tuple, k_str_list, k_str_int, k_str_bool, k_str_dict, k_tuple_str, k_tuple_tuple, k_tuple_list, k_tuple_int, k_tuple_bool, k_tuple_dict, k_list_str, k_list_tuple, k_list_list, k_list_int, k_list_bool, k_list_dict, k_dict_str, k_dict_tuple, k_dict_list, k_dict_int, k_dict_bool, k_dict_dict, slotOf, List.replicate, List.map_cons, List.map_nil, List.length_cons, List.length_nil, List.getElem?_cons_zero, List.getElem?_cons_succ, List.set_cons_zero, List.set_cons_succ, List.cons_append, List.nil_append, if_true, if_false, Bool.false_eq_true, reduceCtorEq, Nat.sub_self, Nat.reduceSub, Nat.reduceAdd, Nat.reduceLeDiff, Int.reduceLE, Int.reduceLT, Int.reducePow, Int.reduceToNat, Int.reduceNeg, Option.map_some, Option.map_none, Bool.not_true, Bool.not_false, ite_true, ite_false, decide_eq_true_eq, decide_true, decide_false, Bool.not_eq_true', e1, e2, q1, q2, g1P] <;> omega
  · have hn : ∀ ts, t ≠ .tup ts := fun ts e => q ⟨ts, e⟩
    have r0 : ∀ s, rd s (.val t) = some t := fun s => rd_val h.nglo
    have e1 : g1P t = false := by cases t <;> first | rfl | exact absurd rfl (hn _)
    obtain ⟨m, hm, e2⟩ := kit_other h.ty hn
    simp only [s_asg, w_sl, w_and, w_op1, List.getElem?_cons_zero, z_val, r0, gIsi, hm, o_some, o_bind, o_map, e2, b_val, Bool.false_eq_true, if_false, e1, g_val, List.set_cons_succ, List.set_cons_zero]
    refine ⟨?_, ?_⟩ <;> first | rfl | trivial
theorem fm_not (p : T → Bool) (ts : List T) : (ts.filterMap fun t => if p t then none else some t).isEmpty = ts.all p := by
  induction ts with
  | nil => rfl
  | cons t ts ih => cases q : p t <;> simp_all
theorem allSome_of {α β : Type} {f : α → Option β} : ∀ {l : List α}, (∀ a ∈ l, (f a).isSome = true) → (allSome (l.map f)).isSome = true
  | [], _ => rfl
  | a :: l, h => by
    obtain ⟨b, e⟩ := Option.isSome_iff_exists.mp (h a (by simp))
    have := allSome_of (f := f) (l := l) fun x hx => h x (List.mem_cons_of_mem _ hx)
    obtain ⟨bs, e2⟩ := Option.isSome_iff_exists.mp this
    simp [allSome, e, e2]
theorem ThS.dat {t : T} (h : ThS t) (ce : List T) (k : Nat) : (Vi.dat ce (k + 1) t).isSome = true := by
  cases t with
  | tup ts => cases h; rfl
  | lst ts => cases h; rfl
  | non => rfl
  | bl => rfl
  | int => rfl
  | str => rfl
  | _ => exact h.elim
theorem Th.dat : ∀ {n : Nat} {t : T}, Th n t → ∀ (ce : List T) (k : Nat), n + 1 ≤ k → (Vi.dat ce k t).isSome = true
  | 0, t, h, ce, k, hk => by
    obtain ⟨k, rfl⟩ : ∃ j, k = j + 1 := ⟨k - 1, by omega⟩
    exact ThS.dat h ce k
  | n + 1, t, h, ce, k, hk => by
    obtain ⟨k, rfl⟩ : ∃ j, k = j + 1 := ⟨k - 1, by omega⟩
    cases t with
    | tup ts =>
      have := allSome_of (f := Vi.dat ce k) (l := ts) fun u hu => Th.dat (h.2 u hu) ce k (by omega)
      simpa [Vi.dat] using this
    | lst ts =>
      have := allSome_of (f := Vi.dat ce k) (l := ts) fun u hu => Th.dat (h.2 u hu) ce k (by omega)
      simpa [Vi.dat] using this
    | non => rfl
    | bl => rfl
    | int => rfl
    | str => rfl
    | _ => exact h.elim
theorem fm_congr {α β : Type} {f g : α → Option β} : ∀ {l : List α}, (∀ a ∈ l, f a = g a) → l.filterMap f = l.filterMap g
  | [], _ => rfl
  | a :: l, h => by
    rw [List.filterMap_cons, List.filterMap_cons, h a (by simp), fm_congr fun b hb => h b (List.mem_cons_of_mem _ hb)]
theorem zip_off {β : Type} (F : T → Nat → Option β) : ∀ (ts : List T) (k : Nat), (ts.zipIdx k).filterMap (fun p => F p.1 p.2) = (List.range' k ts.length).filterMap fun i => match ts[i - k]? with
    | some u => F u i
    | none => none
  | [], k => rfl
  | t :: ts, k => by
    rw [List.zipIdx_cons, List.length_cons, List.range'_succ, List.filterMap_cons, List.filterMap_cons, zip_off F ts (k + 1)]
    have e : (List.range' (k + 1) ts.length).filterMap (fun i => match (t :: ts)[i - k]? with
        | some u => F u i
        | none => none) = (List.range' (k + 1) ts.length).filterMap fun i => match ts[i - (k + 1)]? with
        | some u => F u i
        | none => none := by
      refine fm_congr fun i hi => ?_
      have := (List.mem_range'_1.mp hi).1
      rw [show i - k = (i - (k + 1)) + 1 by omega, List.getElem?_cons_succ]
    rw [e]
    simp
def gapR (ts : List T) : T → Option T
  | .int k => match ts[k.toNat]? with
    | some u => if kindT u = sPlain then none else some (.int k)
    | none => none
  | _ => none
theorem fm_gapR (ts : List T) : (rangeT 0 ts.length).filterMap (gapR ts) = (gapsP ts).map T.int := by
  unfold gapsP rangeT
  rw [zip_off (fun u i => gapT i u) ts 0, List.filterMap_map, List.map_filterMap, ← List.range_eq_range']
  refine fm_congr fun i hi => ?_
  simp only [Function.comp, gapR, Int.zero_add, Int.toNat_natCast, Nat.sub_zero]
  cases ts[i]? with
  | none => rfl
  | some u => simp only [gapT]; split <;> rfl
theorem gaps_len (ts : List T) : (gapsP ts).length ≤ ts.length := by
  unfold gapsP
  refine Nat.le_trans (List.length_filterMap_le _ _) ?_
  simp
theorem gEq_ints (ce : List T) (xs : List Int) : gEq ce (.lst (xs.map T.int)) (.lst (xs.map T.int)) = some (.val (.bl true)) := by simp [gEq, eqT_ints]
theorem gNe_ints (ce : List T) (xs : List Int) : gNe ce (.lst (xs.map T.int)) (.lst (xs.map T.int)) = some (.val (.bl false)) := by simp [gNe, eqT_ints]
theorem due_ok {ts : List T} (q : isSentP (.tup ts) = true) (ce : List T) : WP (mComp [6] (mRng1 [mOpN gLen [mSl 0]]) (fNm 6) (mT (mOp2c gNe (mCall f__law_kind [mOp2 gIx (mSl 0) (mSl 6)]) (mC (.str [112, 108, 97, 105, 110])))) (mSl 6)
    ⟨[.val (.tup ts), .val (.bl true), .no, .no, .no, .no, .no], ce⟩) fun d s => d = .new (.lst ((gapsP ts).map T.int)) ∧ s = ⟨[.val (.tup ts), .val (.bl true), .no, .no, .no, .no, .no], ce⟩ := by
  obtain ⟨hl, hw⟩ := sent_words q
  have hK := @law_kind_ok
  generalize f__law_kind = FK at hK ⊢
  rw [← fm_gapR]
  refine wp_comp (gapR ts) ?_
  have hs : small (ts.length : Int) = true := small_nat (by omega)
  simp only [x_strI, Int.reduceEq, p10_1, p10_2, p10_3, p10_4, p10_5, p10_6, p10_7, p10_8, p10_9, p10_10, p10_11, p10_12, p10_13, p10_14, p10_15, p10_16, p10_17, p10_18, at_c0, at_c1, at_c2, at_c3, at_c4, at_c5, ix_30, ix_31, ix_32, subS, gSet, wr, ix_str, ix_lst, ix_tup, ix_ktup, ix_scr, gEq_str, gNe_str, gEq_int, gNe_int, gEq_bl, gIn_sign, gNotIn_sign, gAll_bls, lt_one, w_sl, w_c, w_op2, w_op1, w_evs0, w_evs1, o_rds0, o_rds1, w_opN, o_tks0, o_tks1, w_lst, w_tup, b_val, w_ite, w_mT, w_bAnd, w_bOr, w_bNot, w_bYes, w_and, w_or, w_not, w_if, w_ch, w_pt0, w_pt1, w_slc, w_call, w_meth, w_itr, w_rng1, w_rng2, w_rng3, w_enum, w_zip, s_seq, s_nx, s_rt, s_bk, s_ct, s_pass, s_brk, s_cnt, s_if, s_asg, s_drop, s_ret, s_retN, s_asgT, s_sub, s_box, s_for, o_some, o_none, o_ite, o_map, o_bind, wp_ok, wp_bad, z_val, z_new, z_bor, z_ali, r_non, r_bl, r_int, r_str, r_tup, r_lst, r_dk, r_dt, r_ktup, r_scr, r_glo, r_bor, r_new, r_ali, t_val, t_new, t_bor, t_ali, g_val, g_bor, g_new, g_ali, a_val, a_bor, a_ali, o_args0, o_args1, l_val, l_bor, l_ali, gAdd, gSub, mul_int, gMod, gDiv, gLt, gLe, gGt, gGe, gIsi, tyN, gLen, gNeg, gTuple, gList, gIsN, gNotN, gOrd, gMin, gMax, fNm, fTup, fCons, fNil, itemsOf, seqOf, k_NoneType_str, k_NoneType_tuple, k_NoneType_list, k_NoneType_int, k_NoneType_bool, k_NoneType_dict, k_bool_str, k_bool_tuple, k_bool_list, k_bool_int, k_bool_bool, k_bool_dict, k_int_str, k_int_tuple, k_int_list, k_int_int, k_int_bool, k_int_dict, k_str_str, k_str_tuple, k_str_list, k_str_int, k_str_bool, k_str_dict, k_tuple_str, k_tuple_tuple, k_tuple_list, k_tuple_int, k_tuple_bool, k_tuple_dict, k_list_str, k_list_tuple, k_list_list, k_list_int, k_list_bool, k_list_dict, k_dict_str, k_dict_tuple, k_dict_list, k_dict_int, k_dict_bool, k_dict_dict, slotOf, List.replicate, List.map_cons, List.map_nil, List.length_cons, List.length_nil, List.getElem?_cons_zero, List.getElem?_cons_succ, List.set_cons_zero, List.set_cons_succ, List.cons_append, List.nil_append, if_true, if_false, Bool.false_eq_true, reduceCtorEq, Nat.sub_self, Nat.reduceSub, Nat.reduceAdd, Nat.reduceLeDiff, Int.reduceLE, Int.reduceLT, Int.reducePow, Int.reduceToNat, Int.reduceNeg, Option.map_some, Option.map_none, Bool.not_true, Bool.not_false, ite_true, ite_false, decide_eq_true_eq, decide_true, decide_false, Bool.not_eq_true', hs, Int.toNat_natCast]
  refine ⟨?_, fun u hu acc ha => ?_, ?_⟩
  · simp [rangeT]; exact Nat.le_trans hl (by decide)
  · obtain ⟨k, hk, rfl⟩ := List.mem_map.mp hu
    have hk := List.mem_range.mp hk
    obtain ⟨x, c, r, ex, hx, hx2⟩ := hw ts[k] (List.getElem_mem _)
    have ea : atI ts ((0 : Int) + (k : Nat)) = some (.str x) := by
      have h1 : ((0 : Int) + (k : Nat)) < ts.length := by omega
      simp only [atI, ixN, h1, if_true]
      simp [hk, ex]
    have eg : gapR ts (.int (0 + (k : Nat))) = if kindP c r = sPlain then none else some (.int (0 + (k : Nat))) := by
      have e0 : ((0 : Int) + (k : Nat)).toNat = k := by omega
      simp only [gapR, e0, List.getElem?_eq_getElem hk, ex]
      subst hx
      rfl
    refine wp_step rfl ?_
    simp only [x_strI, Int.reduceEq, p10_1, p10_2, p10_3, p10_4, p10_5, p10_6, p10_7, p10_8, p10_9, p10_10, p10_11, p10_12, p10_13, p10_14, p10_15, p10_16, p10_17, p10_18, at_c0, at_c1, at_c2, at_c3, at_c4, at_c5, ix_30, ix_31, ix_32, subS, gSet, wr, ix_str, ix_lst, ix_tup, ix_ktup, ix_scr, gEq_str, gNe_str, gEq_int, gNe_int, gEq_bl, gIn_sign, gNotIn_sign, gAll_bls, lt_one, w_sl, w_c, w_op2, w_op1, w_evs0, w_evs1, o_rds0, o_rds1, w_opN, o_tks0, o_tks1, w_lst, w_tup, b_val, w_ite, w_mT, w_bAnd, w_bOr, w_bNot, w_bYes, w_and, w_or, w_not, w_if, w_ch, w_pt0, w_pt1, w_slc, w_call, w_meth, w_itr, w_rng1, w_rng2, w_rng3, w_enum, w_zip, s_seq, s_nx, s_rt, s_bk, s_ct, s_pass, s_brk, s_cnt, s_if, s_asg, s_drop, s_ret, s_retN, s_asgT, s_sub, s_box, s_for, o_some, o_none, o_ite, o_map, o_bind, wp_ok, wp_bad, z_val, z_new, z_bor, z_ali, r_non, r_bl, r_int, r_str, r_tup, r_lst, r_dk, r_dt, r_ktup, r_scr, r_glo, r_bor, r_new, r_ali, t_val, t_new, t_bor, t_ali, g_val, g_bor, g_new, g_ali, a_val, a_bor, a_ali, o_args0, o_args1, l_val, l_bor, l_ali, gAdd, gSub, mul_int, gMod, gDiv, gLt, gLe, gGt, gGe, gIsi, tyN, gLen, gNeg, gTuple, gList, gIsN, gNotN, gOrd, gMin, gMax, fNm, fTup, fCons, fNil, itemsOf, seqOf, k_NoneType_str, k_NoneType_tuple, k_NoneType_list, k_NoneType_int, k_NoneType_bool, k_NoneType_dict, k_bool_str, k_bool_tuple, k_bool_list, k_bool_int, k_bool_bool, k_bool_dict, k_int_str, k_int_tuple, k_int_list, k_int_int, k_int_bool, k_int_dict, k_str_str, k_str_tuple, k_str_list, k_str_int, k_str_bool, k_str_dict, k_tuple_str, k_tuple_tuple, k_tuple_list, k_tuple_int, k_tuple_bool, k_tuple_dict, k_list_str, k_list_tuple, k_list_list, k_list_int, k_list_bool, k_list_dict, k_dict_str, k_dict_tuple, k_dict_list, k_dict_int, k_dict_bool, k_dict_dict, slotOf, List.replicate, List.map_cons, List.map_nil, List.length_cons, List.length_nil, List.getElem?_cons_zero, List.getElem?_cons_succ, List.set_cons_zero, List.set_cons_succ, List.cons_append, List.nil_append, if_true, if_false, Bool.false_eq_true, reduceCtorEq, Nat.sub_self, Nat.reduceSub, Nat.reduceAdd, Nat.reduceLeDiff, Int.reduceLE, Int.reduceLT, Int.reducePow, Int.reduceToNat, Int.reduceNeg, Option.map_some, Option.map_none, Bool.not_true, Bool.not_false, ite_true, ite_false, decide_eq_true_eq, decide_true, decide_false, Bool.not_eq_true', wipeS, wipeL, ea]
    refine (hK x c r hx ce (Nat.le_trans hx2 (by decide))).wp ?_
    rw [eg]
    by_cases q2 : kindP c r = sPlain
    · have q' : kindP c r = [112, 108, 97, 105, 110] := q2
      rw [if_pos q2]
      simp [x_strI, Int.reduceEq, p10_1, p10_2, p10_3, p10_4, p10_5, p10_6, p10_7, p10_8, p10_9, p10_10, p10_11, p10_12, p10_13, p10_14, p10_15, p10_16, p10_17, p10_18, at_c0, at_c1, at_c2, at_c3, at_c4, at_c5, ix_30, ix_31, ix_32, subS, gSet, wr, ix_str, ix_lst, ix_tup, ix_ktup, ix_scr, gEq_str, gNe_str, gEq_int, gNe_int, gEq_bl, gIn_sign, gNotIn_sign, gAll_bls, lt_one, w_sl, w_c, w_op2, w_op1, w_evs0, w_evs1, o_rds0, o_rds1, w_opN, o_tks0, o_tks1, w_lst, w_tup, b_val, w_ite, w_mT, w_bAnd, w_bOr, w_bNot, w_bYes, w_and, w_or, w_not, w_if, w_ch, w_pt0, w_pt1, w_slc, w_call, w_meth, w_itr, w_rng1, w_rng2, w_rng3, w_enum, w_zip, s_seq, s_nx, s_rt, s_bk, s_ct, s_pass, s_brk, s_cnt, s_if, s_asg, s_drop, s_ret, s_retN, s_asgT, s_sub, s_box, s_for, o_some, o_none, o_ite, o_map, o_bind, wp_ok, wp_bad, z_val, z_new, z_bor, z_ali, r_non, r_bl, r_int, r_str, r_tup, r_lst, r_dk, r_dt, r_ktup, r_scr, r_glo, r_bor, r_new, r_ali, t_val, t_new, t_bor, t_ali, g_val, g_bor, g_new, g_ali, a_val, a_bor, a_ali, o_args0, o_args1, l_val, l_bor, l_ali, gAdd, gSub, mul_int, gMod, gDiv, gLt, gLe, gGt, gGe, gIsi, tyN, gLen, gNeg, gTuple, gList, gIsN, gNotN, gOrd, gMin, gMax, fNm, fTup, fCons, fNil, itemsOf, seqOf, k_NoneType_str, k_NoneType_tuple, k_NoneType_list, k_NoneType_int, k_NoneType_bool, k_NoneType_dict, k_bool_str, k_bool_tuple, k_bool_list, k_bool_int, k_bool_bool, k_bool_dict, k_int_str, k_int_tuple, k_int_list, k_int_int, k_int_bool, k_int_dict, k_str_str, k_str_tuple, k_str_list, k_str_int, k_str_bool, k_str_dict, k_tuple_str, k_tuple_tuple, k_tuple_list, k_tuple_int, k_tuple_bool, k_tuple_dict, k_list_str, k_list_tuple, k_list_list, k_list_int, k_list_bool, k_list_dict, k_dict_str, k_dict_tuple, k_dict_list, k_dict_int, k_dict_bool, k_dict_dict, slotOf, List.replicate, List.map_cons, List.map_nil, List.length_cons, List.length_nil, List.getElem?_cons_zero, List.getElem?_cons_succ, List.set_cons_zero, List.set_cons_succ, List.cons_append, List.nil_append, if_true, if_false, Bool.false_eq_true, reduceCtorEq, Nat.sub_self, Nat.reduceSub, Nat.reduceAdd, Nat.reduceLeDiff, Int.reduceLE, Int.reduceLT, Int.reducePow, Int.reduceToNat, Int.reduceNeg, Option.map_some, Option.map_none, Bool.not_true, Bool.not_false, ite_true, ite_false, decide_eq_true_eq, decide_true, decide_false, Bool.not_eq_true', q']
    · have q' : ¬ kindP c r = [112, 108, 97, 105, 110] := q2
      rw [if_neg q2]
      simp [x_strI, Int.reduceEq, p10_1, p10_2, p10_3, p10_4, p10_5, p10_6, p10_7, p10_8, p10_9, p10_10, p10_11, p10_12, p10_13, p10_14, p10_15, p10_16, p10_17, p10_18, at_c0, at_c1, at_c2, at_c3, at_c4, at_c5, ix_30, ix_31, ix_32, subS, gSet, wr, ix_str, ix_lst, ix_tup, ix_ktup, ix_scr, gEq_str, gNe_str, gEq_int, gNe_int, gEq_bl, gIn_sign, gNotIn_sign, gAll_bls, lt_one, w_sl, w_c, w_op2, w_op1, w_evs0, w_evs1, o_rds0, o_rds1, w_opN, o_tks0, o_tks1, w_lst, w_tup, b_val, w_ite, w_mT, w_bAnd, w_bOr, w_bNot, w_bYes, w_and, w_or, w_not, w_if, w_ch, w_pt0, w_pt1, w_slc, w_call, w_meth, w_itr, w_rng1, w_rng2, w_rng3, w_enum, w_zip, s_seq, s_nx, s_rt, s_bk, s_ct, s_pass, s_brk, s_cnt, s_if, s_asg, s_drop, s_ret, s_retN, s_asgT, s_sub, s_box, s_for, o_some, o_none, o_ite, o_map, o_bind, wp_ok, wp_bad, z_val, z_new, z_bor, z_ali, r_non, r_bl, r_int, r_str, r_tup, r_lst, r_dk, r_dt, r_ktup, r_scr, r_glo, r_bor, r_new, r_ali, t_val, t_new, t_bor, t_ali, g_val, g_bor, g_new, g_ali, a_val, a_bor, a_ali, o_args0, o_args1, l_val, l_bor, l_ali, gAdd, gSub, mul_int, gMod, gDiv, gLt, gLe, gGt, gGe, gIsi, tyN, gLen, gNeg, gTuple, gList, gIsN, gNotN, gOrd, gMin, gMax, fNm, fTup, fCons, fNil, itemsOf, seqOf, k_NoneType_str, k_NoneType_tuple, k_NoneType_list, k_NoneType_int, k_NoneType_bool, k_NoneType_dict, k_bool_str, k_bool_tuple, k_bool_list, k_bool_int, k_bool_bool, k_bool_dict, k_int_str, k_int_tuple, k_int_list, k_int_int, k_int_bool, k_int_dict, k_str_str, k_str_tuple, k_str_list, k_str_int, k_str_bool, k_str_dict, k_tuple_str, k_tuple_tuple, k_tuple_list, k_tuple_int, k_tuple_bool, k_tuple_dict, k_list_str, k_list_tuple, k_list_list, k_list_int, k_list_bool, k_list_dict, k_dict_str, k_dict_tuple, k_dict_list, k_dict_int, k_dict_bool, k_dict_dict, slotOf, List.replicate, List.map_cons, List.map_nil, List.length_cons, List.length_nil, List.getElem?_cons_zero, List.getElem?_cons_succ, List.set_cons_zero, List.set_cons_succ, List.cons_append, List.nil_append, if_true, if_false, Bool.false_eq_true, reduceCtorEq, Nat.sub_self, Nat.reduceSub, Nat.reduceAdd, Nat.reduceLeDiff, Int.reduceLE, Int.reduceLT, Int.reducePow, Int.reduceToNat, Int.reduceNeg, Option.map_some, Option.map_none, Bool.not_true, Bool.not_false, ite_true, ite_false, decide_eq_true_eq, decide_true, decide_false, Bool.not_eq_true', q', ha]
  · simp only [x_strI, Int.reduceEq, p10_1, p10_2, p10_3, p10_4, p10_5, p10_6, p10_7, p10_8, p10_9, p10_10, p10_11, p10_12, p10_13, p10_14, p10_15, p10_16, p10_17, p10_18, at_c0, at_c1, at_c2, at_c3, at_c4, at_c5, ix_30, ix_31, ix_32, subS, gSet, wr, ix_str, ix_lst, ix_tup, ix_ktup, ix_scr, gEq_str, gNe_str, gEq_int, gNe_int, gEq_bl, gIn_sign, gNotIn_sign, gAll_bls, lt_one, w_sl, w_c, w_op2, w_op1, w_evs0, w_evs1, o_rds0, o_rds1, w_opN, o_tks0, o_tks1, w_lst, w_tup, b_val, w_ite, w_mT, w_bAnd, w_bOr, w_bNot, w_bYes, w_and, w_or, w_not, w_if, w_ch, w_pt0, w_pt1, w_slc, w_call, w_meth, w_itr, w_rng1, w_rng2, w_rng3, w_enum, w_zip, s_seq, s_nx, s_rt, s_bk, s_ct, s_pass, s_brk, s_cnt, s_if, s_asg, s_drop, s_ret, s_retN, s_asgT, s_sub, s_box, s_for, o_some, o_none, o_ite, o_map, o_bind, wp_ok, wp_bad, z_val, z_new, z_bor, z_ali, r_non, r_bl, r_int, r_str, r_tup, r_lst, r_dk, r_dt, r_ktup, r_scr, r_glo, r_bor, r_new, r_ali, t_val, t_new, t_bor, t_ali, g_val, g_bor, g_new, g_ali, a_val, a_bor, a_ali, o_args0, o_args1, l_val, l_bor, l_ali, gAdd, gSub, mul_int, gMod, gDiv, gLt, gLe, gGt, gGe, gIsi, tyN, gLen, gNeg, gTuple, gList, gIsN, gNotN, gOrd, gMin, gMax, fNm, fTup, fCons, fNil, itemsOf, seqOf, k_NoneType_str, k_NoneType_tuple, k_NoneType_list, k_NoneType_int, k_NoneType_bool, k_NoneType_dict, k_bool_str, k_bool_tuple, k_bool_list, k_bool_int, k_bool_bool, k_bool_dict, k_int_str, k_int_tuple, k_int_list, k_int_int, k_int_bool, k_int_dict, k_str_str, k_str_tuple, k_str_list, k_str_int, k_str_bool, k_str_dict, k_tuple_str, k_tuple_tuple, k_tuple_list, k_tuple_int, k_tuple_bool, k_tuple_dict, k_list_str, k_list_tuple, k_list_list, k_list_int, k_list_bool, k_list_dict, k_dict_str, k_dict_tuple, k_dict_list, k_dict_int, k_dict_bool, k_dict_dict, slotOf, List.replicate, List.map_cons, List.map_nil, List.length_cons, List.length_nil, List.getElem?_cons_zero, List.getElem?_cons_succ, List.set_cons_zero, List.set_cons_succ, List.cons_append, List.nil_append, if_true, if_false, Bool.false_eq_true, reduceCtorEq, Nat.sub_self, Nat.reduceSub, Nat.reduceAdd, Nat.reduceLeDiff, Int.reduceLE, Int.reduceLT, Int.reducePow, Int.reduceToNat, Int.reduceNeg, Option.map_some, Option.map_none, Bool.not_true, Bool.not_false, ite_true, ite_false, decide_eq_true_eq, decide_true, decide_false, Bool.not_eq_true', restS, restL, keepV, wipeS, wipeL]
    refine ⟨?_, ?_⟩ <;> first | rfl | trivial
theorem forL_ix {f : T → S → Option S} {b : MS} {Q : Out → S → Prop} (I : Nat → S → Prop) : ∀ (its : List T) (i : Nat) (s : S), I i s → (∀ k t s, its[k]? = some t → I (i + k) s → WP (match f t s with
    | none => .bad
    | some s1 => b s1) fun o s' => match o with
    | .nx => I (i + k + 1) s'
    | .ct => I (i + k + 1) s'
    | .bk => Q .nx s'
    | .rt d => Q (.rt d) s') → (∀ s, I (i + its.length) s → Q .nx s) → WP (forL f b its s) Q
  | [], i, s, h0, _, hq => hq _ h0
  | t :: ts, i, s, h0, hs, hq => by
    have h := hs 0 t s rfl h0
    unfold forL
    have next : ∀ s', I (i + 0 + 1) s' → WP (forL f b ts s') Q := fun s' h' => by
      refine forL_ix I ts (i + 1) s' h' (fun k u s hk hI => ?_) fun s hI => hq s ?_
      · have := hs (k + 1) u s (by simpa using hk) (by rw [show i + (k + 1) = i + 1 + k by omega]; exact hI)
        rw [show i + 1 + k + 1 = i + (k + 1) + 1 by omega]
        exact this
      · rw [List.length_cons, show i + (ts.length + 1) = i + 1 + ts.length by omega]
        exact hI
    cases e : f t s with
    | none => rw [e] at h; exact h.elim
    | some s1 =>
      rw [e] at h
      simp only
      rw [wp_bind]
      refine WP.mono h fun o s' ho => ?_
      cases o with
      | nx => exact next s' ho
      | ct => exact next s' ho
      | bk => exact ho
      | rt d => exact ho
/-- a word of a sentence -/
def sentW (x : List Nat) : Bool := isWordP (.str x)
def SentA (ts : List T) : Prop := ∀ u ∈ ts, ∃ x, u = .str x ∧ isWordP (.str x) = true
def GoodA (ts : List T) : Prop := ∀ u ∈ ts, ∃ x, u = .str x ∧ goodW x = true
theorem GoodA.s {ts : List T} (h : GoodA ts) : SentA ts := fun u hu => by
  obtain ⟨x, e, hx⟩ := h u hu
  simp only [goodW, Bool.and_eq_true] at hx
  exact ⟨x, e, hx.1⟩
theorem goodW_s {x : List Nat} (h : goodW x = true) : isWordP (.str x) = true ∧ x.length ≤ 15 ∧ ∃ c r, x = c :: r := by
  simp only [goodW, Bool.and_eq_true, decide_eq_true_eq] at h
  refine ⟨h.1, h.2, ?_⟩
  have h1 := h.1
  simp only [isWordP, Bool.and_eq_true, decide_eq_true_eq] at h1
  cases x with
  | nil => simp at h1
  | cons c r => exact ⟨c, r, rfl⟩
theorem goodW_x {x : List Nat} (h : goodW x = true) : isWordP (.str ([120] ++ x)) = true := by
  simp only [goodW, isWordP, Bool.and_eq_true, decide_eq_true_eq, Bool.not_eq_true', decide_eq_false_iff_not] at h
  obtain ⟨⟨h1, h2, h3, h4, h5⟩, h6⟩ := h
  simp only [isWordP, Bool.and_eq_true, decide_eq_true_eq, Bool.not_eq_true', decide_eq_false_iff_not]
  refine ⟨by simp, by simp; omega, ?_, ?_, ?_⟩
  · intro z; cases z
  · intro z; cases z
  · simp only [List.cons_append, List.nil_append, List.all_cons, h5, Bool.and_true]
    decide
theorem add_str (x y : List Nat) : gAdd (.str x) (.str y) = if x.length + y.length ≤ line then some (.val (.str (x ++ y))) else none := rfl
theorem add_lst' (xs ys : List T) : gAdd (.lst xs) (.lst ys) = if xs.length + ys.length ≤ line then some (.new (.lst (xs ++ ys))) else none := rfl
theorem sentA_ins {ts : List T} {u : T} (h : SentA ts) (hu : ∃ x, u = .str x ∧ isWordP (.str x) = true) (i : Nat) : SentA (ts.take i ++ [u] ++ ts.drop i) := fun v hv => by
  rcases List.mem_append.mp hv with z | z
  · rcases List.mem_append.mp z with z | z
    · exact h v (List.mem_of_mem_take z)
    · simp at z; subst z; exact hu
  · exact h v (List.mem_of_mem_drop z)
theorem wp_lend {i : Nat} {m : M} {s : S} {t : T} {Q : DV → S → Prop} (e : s.sl[i]? = some (.own t)) (h : WP (m (lendS i t s)) fun d s1 => ∃ t', s1.sl[i]? = some (.bor t') ∧ borOk i s.sl s1.sl = true ∧ (match d with
    | .val u => Q (.val u) { s1 with sl := s1.sl.set i (.own t') }
    | .new u => Q (.new u) { s1 with sl := s1.sl.set i (.own t') }
    | _ => False)) : WP (mLend i m s) Q := by
  unfold mLend
  rw [e]
  simp only
  rw [wp_bind]
  refine WP.mono h fun d s1 ⟨t', e1, e2, h⟩ => ?_
  rw [e1]
  simp only [e2, if_true]
  cases d <;> exact h
def wAt (ts : List T) (k : Int) : List Nat := match ts[k.toNat]? with
  | some (.str x) => x
  | _ => []
def pairT (p : Int × Int) : T := .tup [.int p.1, .int p.2]
def leadStep (one other : List T) (st : List Int × List (Int × Int)) (place : Int) : List Int × List (Int × Int) := match st.1.filter fun g => decide (wAt one g = wAt other place) with
  | [] => st
  | g :: _ => (st.1.erase g, st.2 ++ [(g, place)])
def leadsP (one other : List T) : List (Int × Int) := ((gapsP other).foldl (leadStep one other) (gapsP one, [])).2
theorem at_word {ts : List T} (h : isSentP (.tup ts) = true) {k : Int} (h0 : 0 ≤ k) (h1 : k < ts.length) : atI ts k = some (.str (wAt ts k)) ∧ (wAt ts k).length ≤ 20 ∧ ∃ c r, wAt ts k = c :: r := by
  obtain ⟨hl, hw⟩ := sent_words h
  have hk : k.toNat < ts.length := by omega
  obtain ⟨x, c, r, e, hx, hx2⟩ := hw ts[k.toNat] (List.getElem_mem _)
  have e1 : wAt ts k = x := by simp only [wAt, List.getElem?_eq_getElem hk, e]
  refine ⟨?_, by rw [e1]; exact hx2, c, r, by rw [e1]; exact hx⟩
  rw [e1]
  simp only [atI, ixN, h0, h1, if_true]
  simp [hk, e]
theorem gaps_in {ts : List T} {k : Int} (h : k ∈ gapsP ts) : 0 ≤ k ∧ k < ts.length := by
  unfold gapsP at h
  obtain ⟨⟨u, j⟩, h1, h2⟩ := List.mem_filterMap.mp h
  have hj := List.mem_zipIdx h1
  simp only [gapT] at h2
  split at h2
  · cases h2
  · cases h2
    have := hj.2.1
    omega
/-- what a turn of the loop keeps of the open gaps -/
theorem leads_in {one other : List T} : ∀ (l : List Int) (st : List Int × List (Int × Int)), (∀ g ∈ st.1, 0 ≤ g ∧ g < one.length) → ∀ g ∈ (l.foldl (leadStep one other) st).1, 0 ≤ g ∧ g < one.length
  | [], st, h => h
  | p :: l, st, h => by
    refine leads_in l (leadStep one other st p) fun g hg => ?_
    unfold leadStep at hg
    split at hg
    · exact h g hg
    · exact h g (List.mem_of_mem_erase hg)
theorem leads_len {one other : List T} : ∀ (l : List Int) (st : List Int × List (Int × Int)), (l.foldl (leadStep one other) st).2.length ≤ st.2.length + l.length
  | [], st => by simp
  | p :: l, st => by
    have := leads_len (one := one) (other := other) l (leadStep one other st p)
    have e : (leadStep one other st p).2.length ≤ st.2.length + 1 := by
      unfold leadStep
      split
      · omega
      · simp
    simp only [List.foldl_cons, List.length_cons]
    omega
theorem opens_len {one other : List T} : ∀ (l : List Int) (st : List Int × List (Int × Int)), (l.foldl (leadStep one other) st).1.length ≤ st.1.length
  | [], st => by simp
  | p :: l, st => by
    have := opens_len (one := one) (other := other) l (leadStep one other st p)
    have e : (leadStep one other st p).1.length ≤ st.1.length := by
      unfold leadStep
      split
      · omega
      · exact List.length_erase_le
    simp only [List.foldl_cons]
    omega
theorem intsT_ints : ∀ ns : List Int, intsT (ns.map T.int) = some ns
  | [] => rfl
  | n :: ns => by simp [intsT, intsT_ints ns]
theorem rem_ints (ns : List Int) (k : Int) (h : k ∈ ns) : gRem (ns.map T.int) [.int k] = some (.non, (ns.erase k).map T.int) := by
  simp [gRem, intsT_ints, remI, h]
def keepI (p : Int → Bool) : T → Option T
  | .int g => if p g then some (.int g) else none
  | _ => none
theorem fm_keepI (p : Int → Bool) (ns : List Int) : (ns.map T.int).filterMap (keepI p) = (ns.filter p).map T.int := by
  induction ns with
  | nil => rfl
  | cons n ns ih =>
    simp only [List.map_cons, List.filterMap_cons, keepI, List.filter_cons]
    cases p n <;> simp [ih]
theorem dtA_ints (ce : List T) (xs : List Int) : DtA ce (xs.map T.int) := allSome_of fun u hu => by
  obtain ⟨k, _, rfl⟩ := List.mem_map.mp hu
  rfl
theorem some_ok {one other : List T} (h1 : isSentP (.tup one) = true) (h2 : isSentP (.tup other) = true) {ops : List Int} {pl : Int} {ce : List T} {x3 x5 : Slot} (ho : ∀ g ∈ ops, 0 ≤ g ∧ g < one.length) (hlen : ops.length ≤ 40) (hp : 0 ≤ pl ∧ pl < other.length) :
    WP (mLend 2 (mComp [6] (mItr (mSl 2)) (fNm 6) (mT (mOp2c gEq (mOp2 gIx (mSl 0) (mSl 6)) (mOp2 gIx (mSl 1) (mSl 4)))) (mSl 6)) ⟨[.val (.tup one), .val (.tup other), .own (.lst (ops.map T.int)), x3, .val (.int pl), x5, .no], ce⟩) fun d s => d = .new (.lst ((ops.filter fun g => decide (wAt one g = wAt other pl)).map T.int)) ∧ s = ⟨[.val (.tup one), .val (.tup other), .own (.lst (ops.map T.int)), x3, .val (.int pl), x5, .no], ce⟩ := by
  obtain ⟨eo, _, _⟩ := at_word h2 hp.1 hp.2
  refine wp_lend rfl ?_
  rw [← fm_keepI]
  refine wp_comp (keepI fun g => decide (wAt one g = wAt other pl)) ?_
  simp only [x_strI, Int.reduceEq, p10_1, p10_2, p10_3, p10_4, p10_5, p10_6, p10_7, p10_8, p10_9, p10_10, p10_11, p10_12, p10_13, p10_14, p10_15, p10_16, p10_17, p10_18, at_c0, at_c1, at_c2, at_c3, at_c4, at_c5, ix_30, ix_31, ix_32, subS, gSet, wr, ix_str, ix_lst, ix_tup, ix_ktup, ix_scr, gEq_str, gNe_str, gEq_int, gNe_int, gEq_bl, gIn_sign, gNotIn_sign, gAll_bls, lt_one, w_sl, w_c, w_op2, w_op1, w_evs0, w_evs1, o_rds0, o_rds1, w_opN, o_tks0, o_tks1, w_lst, w_tup, b_val, w_ite, w_mT, w_bAnd, w_bOr, w_bNot, w_bYes, w_and, w_or, w_not, w_if, w_ch, w_pt0, w_pt1, w_slc, w_call, w_meth, w_itr, w_rng1, w_rng2, w_rng3, w_enum, w_zip, s_seq, s_nx, s_rt, s_bk, s_ct, s_pass, s_brk, s_cnt, s_if, s_asg, s_drop, s_ret, s_retN, s_asgT, s_sub, s_box, s_for, o_some, o_none, o_ite, o_map, o_bind, wp_ok, wp_bad, z_val, z_new, z_bor, z_ali, r_non, r_bl, r_int, r_str, r_tup, r_lst, r_dk, r_dt, r_ktup, r_scr, r_glo, r_bor, r_new, r_ali, t_val, t_new, t_bor, t_ali, g_val, g_bor, g_new, g_ali, a_val, a_bor, a_ali, o_args0, o_args1, l_val, l_bor, l_ali, gAdd, gSub, mul_int, gMod, gDiv, gLt, gLe, gGt, gGe, gIsi, tyN, gLen, gNeg, gTuple, gList, gIsN, gNotN, gOrd, gMin, gMax, fNm, fTup, fCons, fNil, itemsOf, seqOf, k_NoneType_str, k_NoneType_tuple, k_NoneType_list, k_NoneType_int, k_NoneType_bool, k_NoneType_dict, k_bool_str, k_bool_tuple, k_bool_list, k_bool_int, k_bool_bool, k_bool_dict, k_int_str, k_int_tuple, k_int_list, k_int_int, k_int_bool, k_int_dict, k_str_str, k_str_tuple, k_str_list, k_str_int, k_str_bool, k_str_dict, k_tuple_str, k_tuple_tuple, k_tuple_list, k_tuple_int, k_tuple_bool, k_tuple_dict, k_list_str, k_list_tuple, k_list_list, k_list_int, k_list_bool, k_list_dict, k_dict_str, k_dict_tuple, k_dict_list, k_dict_int, k_dict_bool, k_dict_dict, slotOf, List.replicate, List.map_cons, List.map_nil, List.length_cons, List.length_nil, List.getElem?_cons_zero, List.getElem?_cons_succ, List.set_cons_zero, List.set_cons_succ, List.cons_append, List.nil_append, if_true, if_false, Bool.false_eq_true, reduceCtorEq, Nat.sub_self, Nat.reduceSub, Nat.reduceAdd, Nat.reduceLeDiff, Int.reduceLE, Int.reduceLT, Int.reducePow, Int.reduceToNat, Int.reduceNeg, Option.map_some, Option.map_none, Bool.not_true, Bool.not_false, ite_true, ite_false, decide_eq_true_eq, decide_true, decide_false, Bool.not_eq_true', lendS]
  refine ⟨by simp; exact Nat.le_trans hlen (by decide), fun u hu acc ha => ?_, ?_⟩
  · obtain ⟨g, hg, rfl⟩ := List.mem_map.mp hu
    obtain ⟨eg, _, _⟩ := at_word h1 (ho g hg).1 (ho g hg).2
    refine wp_step rfl ?_
    simp only [x_strI, Int.reduceEq, p10_1, p10_2, p10_3, p10_4, p10_5, p10_6, p10_7, p10_8, p10_9, p10_10, p10_11, p10_12, p10_13, p10_14, p10_15, p10_16, p10_17, p10_18, at_c0, at_c1, at_c2, at_c3, at_c4, at_c5, ix_30, ix_31, ix_32, subS, gSet, wr, ix_str, ix_lst, ix_tup, ix_ktup, ix_scr, gEq_str, gNe_str, gEq_int, gNe_int, gEq_bl, gIn_sign, gNotIn_sign, gAll_bls, lt_one, w_sl, w_c, w_op2, w_op1, w_evs0, w_evs1, o_rds0, o_rds1, w_opN, o_tks0, o_tks1, w_lst, w_tup, b_val, w_ite, w_mT, w_bAnd, w_bOr, w_bNot, w_bYes, w_and, w_or, w_not, w_if, w_ch, w_pt0, w_pt1, w_slc, w_call, w_meth, w_itr, w_rng1, w_rng2, w_rng3, w_enum, w_zip, s_seq, s_nx, s_rt, s_bk, s_ct, s_pass, s_brk, s_cnt, s_if, s_asg, s_drop, s_ret, s_retN, s_asgT, s_sub, s_box, s_for, o_some, o_none, o_ite, o_map, o_bind, wp_ok, wp_bad, z_val, z_new, z_bor, z_ali, r_non, r_bl, r_int, r_str, r_tup, r_lst, r_dk, r_dt, r_ktup, r_scr, r_glo, r_bor, r_new, r_ali, t_val, t_new, t_bor, t_ali, g_val, g_bor, g_new, g_ali, a_val, a_bor, a_ali, o_args0, o_args1, l_val, l_bor, l_ali, gAdd, gSub, mul_int, gMod, gDiv, gLt, gLe, gGt, gGe, gIsi, tyN, gLen, gNeg, gTuple, gList, gIsN, gNotN, gOrd, gMin, gMax, fNm, fTup, fCons, fNil, itemsOf, seqOf, k_NoneType_str, k_NoneType_tuple, k_NoneType_list, k_NoneType_int, k_NoneType_bool, k_NoneType_dict, k_bool_str, k_bool_tuple, k_bool_list, k_bool_int, k_bool_bool, k_bool_dict, k_int_str, k_int_tuple, k_int_list, k_int_int, k_int_bool, k_int_dict, k_str_str, k_str_tuple, k_str_list, k_str_int, k_str_bool, k_str_dict, k_tuple_str, k_tuple_tuple, k_tuple_list, k_tuple_int, k_tuple_bool, k_tuple_dict, k_list_str, k_list_tuple, k_list_list, k_list_int, k_list_bool, k_list_dict, k_dict_str, k_dict_tuple, k_dict_list, k_dict_int, k_dict_bool, k_dict_dict, slotOf, List.replicate, List.map_cons, List.map_nil, List.length_cons, List.length_nil, List.getElem?_cons_zero, List.getElem?_cons_succ, List.set_cons_zero, List.set_cons_succ, List.cons_append, List.nil_append, if_true, if_false, Bool.false_eq_true, reduceCtorEq, Nat.sub_self, Nat.reduceSub, Nat.reduceAdd, Nat.reduceLeDiff, Int.reduceLE, Int.reduceLT, Int.reducePow, Int.reduceToNat, Int.reduceNeg, Option.map_some, Option.map_none, Bool.not_true, Bool.not_false, ite_true, ite_false, decide_eq_true_eq, decide_true, decide_false, Bool.not_eq_true', wipeS, wipeL, eg, eo]
    by_cases q : wAt one g = wAt other pl <;> simp [q, keepI, ha, x_strI, Int.reduceEq, p10_1, p10_2, p10_3, p10_4, p10_5, p10_6, p10_7, p10_8, p10_9, p10_10, p10_11, p10_12, p10_13, p10_14, p10_15, p10_16, p10_17, p10_18, at_c0, at_c1, at_c2, at_c3, at_c4, at_c5, ix_30, ix_31, ix_32, subS, gSet, wr, ix_str, ix_lst, ix_tup, ix_ktup, ix_scr, gEq_str, gNe_str, gEq_int, gNe_int, gEq_bl, gIn_sign, gNotIn_sign, gAll_bls, lt_one, w_sl, w_c, w_op2, w_op1, w_evs0, w_evs1, o_rds0, o_rds1, w_opN, o_tks0, o_tks1, w_lst, w_tup, b_val, w_ite, w_mT, w_bAnd, w_bOr, w_bNot, w_bYes, w_and, w_or, w_not, w_if, w_ch, w_pt0, w_pt1, w_slc, w_call, w_meth, w_itr, w_rng1, w_rng2, w_rng3, w_enum, w_zip, s_seq, s_nx, s_rt, s_bk, s_ct, s_pass, s_brk, s_cnt, s_if, s_asg, s_drop, s_ret, s_retN, s_asgT, s_sub, s_box, s_for, o_some, o_none, o_ite, o_map, o_bind, wp_ok, wp_bad, z_val, z_new, z_bor, z_ali, r_non, r_bl, r_int, r_str, r_tup, r_lst, r_dk, r_dt, r_ktup, r_scr, r_glo, r_bor, r_new, r_ali, t_val, t_new, t_bor, t_ali, g_val, g_bor, g_new, g_ali, a_val, a_bor, a_ali, o_args0, o_args1, l_val, l_bor, l_ali, gAdd, gSub, mul_int, gMod, gDiv, gLt, gLe, gGt, gGe, gIsi, tyN, gLen, gNeg, gTuple, gList, gIsN, gNotN, gOrd, gMin, gMax, fNm, fTup, fCons, fNil, itemsOf, seqOf, k_NoneType_str, k_NoneType_tuple, k_NoneType_list, k_NoneType_int, k_NoneType_bool, k_NoneType_dict, k_bool_str, k_bool_tuple, k_bool_list, k_bool_int, k_bool_bool, k_bool_dict, k_int_str, k_int_tuple, k_int_list, k_int_int, k_int_bool, k_int_dict, k_str_str, k_str_tuple, k_str_list, k_str_int, k_str_bool, k_str_dict, k_tuple_str, k_tuple_tuple, k_tuple_list, k_tuple_int, k_tuple_bool, k_tuple_dict, k_list_str, k_list_tuple, k_list_list, k_list_int, k_list_bool, k_list_dict, k_dict_str, k_dict_tuple, k_dict_list, k_dict_int, k_dict_bool, k_dict_dict, slotOf, List.replicate, List.map_cons, List.map_nil, List.length_cons, List.length_nil, List.getElem?_cons_zero, List.getElem?_cons_succ, List.set_cons_zero, List.set_cons_succ, List.cons_append, List.nil_append, if_true, if_false, Bool.false_eq_true, reduceCtorEq, Nat.sub_self, Nat.reduceSub, Nat.reduceAdd, Nat.reduceLeDiff, Int.reduceLE, Int.reduceLT, Int.reducePow, Int.reduceToNat, Int.reduceNeg, Option.map_some, Option.map_none, Bool.not_true, Bool.not_false, ite_true, ite_false, decide_eq_true_eq, decide_true, decide_false, Bool.not_eq_true']
  · simp only [x_strI, Int.reduceEq, p10_1, p10_2, p10_3, p10_4, p10_5, p10_6, p10_7, p10_8, p10_9, p10_10, p10_11, p10_12, p10_13, p10_14, p10_15, p10_16, p10_17, p10_18, at_c0, at_c1, at_c2, at_c3, at_c4, at_c5, ix_30, ix_31, ix_32, subS, gSet, wr, ix_str, ix_lst, ix_tup, ix_ktup, ix_scr, gEq_str, gNe_str, gEq_int, gNe_int, gEq_bl, gIn_sign, gNotIn_sign, gAll_bls, lt_one, w_sl, w_c, w_op2, w_op1, w_evs0, w_evs1, o_rds0, o_rds1, w_opN, o_tks0, o_tks1, w_lst, w_tup, b_val, w_ite, w_mT, w_bAnd, w_bOr, w_bNot, w_bYes, w_and, w_or, w_not, w_if, w_ch, w_pt0, w_pt1, w_slc, w_call, w_meth, w_itr, w_rng1, w_rng2, w_rng3, w_enum, w_zip, s_seq, s_nx, s_rt, s_bk, s_ct, s_pass, s_brk, s_cnt, s_if, s_asg, s_drop, s_ret, s_retN, s_asgT, s_sub, s_box, s_for, o_some, o_none, o_ite, o_map, o_bind, wp_ok, wp_bad, z_val, z_new, z_bor, z_ali, r_non, r_bl, r_int, r_str, r_tup, r_lst, r_dk, r_dt, r_ktup, r_scr, r_glo, r_bor, r_new, r_ali, t_val, t_new, t_bor, t_ali, g_val, g_bor, g_new, g_ali, a_val, a_bor, a_ali, o_args0, o_args1, l_val, l_bor, l_ali, gAdd, gSub, mul_int, gMod, gDiv, gLt, gLe, gGt, gGe, gIsi, tyN, gLen, gNeg, gTuple, gList, gIsN, gNotN, gOrd, gMin, gMax, fNm, fTup, fCons, fNil, itemsOf, seqOf, k_NoneType_str, k_NoneType_tuple, k_NoneType_list, k_NoneType_int, k_NoneType_bool, k_NoneType_dict, k_bool_str, k_bool_tuple, k_bool_list, k_bool_int, k_bool_bool, k_bool_dict, k_int_str, k_int_tuple, k_int_list, k_int_int, k_int_bool, k_int_dict, k_str_str, k_str_tuple, k_str_list, k_str_int, k_str_bool, k_str_dict, k_tuple_str, k_tuple_tuple, k_tuple_list, k_tuple_int, k_tuple_bool, k_tuple_dict, k_list_str, k_list_tuple, k_list_list, k_list_int, k_list_bool, k_list_dict, k_dict_str, k_dict_tuple, k_dict_list, k_dict_int, k_dict_bool, k_dict_dict, slotOf, List.replicate, List.map_cons, List.map_nil, List.length_cons, List.length_nil, List.getElem?_cons_zero, List.getElem?_cons_succ, List.set_cons_zero, List.set_cons_succ, List.cons_append, List.nil_append, if_true, if_false, Bool.false_eq_true, reduceCtorEq, Nat.sub_self, Nat.reduceSub, Nat.reduceAdd, Nat.reduceLeDiff, Int.reduceLE, Int.reduceLT, Int.reducePow, Int.reduceToNat, Int.reduceNeg, Option.map_some, Option.map_none, Bool.not_true, Bool.not_false, ite_true, ite_false, decide_eq_true_eq, decide_true, decide_false, Bool.not_eq_true', restS, restL, keepV, wipeS, wipeL]
    refine ⟨_, rfl, ?_, trivial, rfl⟩
    cases x3 <;> cases x5 <;> rfl
theorem leads_of_ok {one other : List T} {n m : Nat} (t1 : Th n (.tup one)) (t2 : Th m (.tup other)) (h1 : isSentP (.tup one) = true) (h2 : isSentP (.tup other) = true) (ce : List T) : IsN (f_leads_of [.val (.tup one), .val (.tup other)] ce) (.lst ((leadsP one other).map pairT)) ce := by
  have l0 : 0 ≤ line := by decide
  have l2 : 2 ≤ line := by decide
  obtain ⟨hl1, _⟩ := sent_words h1
  obtain ⟨hl2, _⟩ := sent_words h2
  have g1 := gaps_len one
  have g2 := gaps_len other
  refine .of ?_
  unfold f_leads_of runF
  refine WP.endF ?_
  have hG1 := (gaps_of_ok t1 ce).1 one rfl h1
  have hG2 := (gaps_of_ok t2 ce).1 other rfl h2
  generalize f_gaps_of = F at hG1 hG2 ⊢
  simp only [m_leads_of, x_strI, Int.reduceEq, p10_1, p10_2, p10_3, p10_4, p10_5, p10_6, p10_7, p10_8, p10_9, p10_10, p10_11, p10_12, p10_13, p10_14, p10_15, p10_16, p10_17, p10_18, at_c0, at_c1, at_c2, at_c3, at_c4, at_c5, ix_30, ix_31, ix_32, subS, gSet, wr, ix_str, ix_lst, ix_tup, ix_ktup, ix_scr, gEq_str, gNe_str, gEq_int, gNe_int, gEq_bl, gIn_sign, gNotIn_sign, gAll_bls, lt_one, w_sl, w_c, w_op2, w_op1, w_evs0, w_evs1, o_rds0, o_rds1, w_opN, o_tks0, o_tks1, w_lst, w_tup, b_val, w_ite, w_mT, w_bAnd, w_bOr, w_bNot, w_bYes, w_and, w_or, w_not, w_if, w_ch, w_pt0, w_pt1, w_slc, w_call, w_meth, w_itr, w_rng1, w_rng2, w_rng3, w_enum, w_zip, s_seq, s_nx, s_rt, s_bk, s_ct, s_pass, s_brk, s_cnt, s_if, s_asg, s_drop, s_ret, s_retN, s_asgT, s_sub, s_box, s_for, o_some, o_none, o_ite, o_map, o_bind, wp_ok, wp_bad, z_val, z_new, z_bor, z_ali, r_non, r_bl, r_int, r_str, r_tup, r_lst, r_dk, r_dt, r_ktup, r_scr, r_glo, r_bor, r_new, r_ali, t_val, t_new, t_bor, t_ali, g_val, g_bor, g_new, g_ali, a_val, a_bor, a_ali, o_args0, o_args1, l_val, l_bor, l_ali, gAdd, gSub, mul_int, gMod, gDiv, gLt, gLe, gGt, gGe, gIsi, tyN, gLen, gNeg, gTuple, gList, gIsN, gNotN, gOrd, gMin, gMax, fNm, fTup, fCons, fNil, itemsOf, seqOf, k_NoneType_str, k_NoneType_tuple, k_NoneType_list, k_NoneType_int, k_NoneType_bool, k_NoneType_dict, k_bool_str, k_bool_tuple, k_bool_list, k_bool_int, k_bool_bool, k_bool_dict, k_int_str, k_int_tuple, k_int_list, k_int_int, k_int_bool, k_int_dict, k_str_str, k_str_tuple, k_str_list, k_str_int, k_str_bool, k_str_dict, k_tuple_str, k_tuple_tuple, k_tuple_list, k_tuple_int, k_tuple_bool, k_tuple_dict, k_list_str, k_list_tuple, k_list_list, k_list_int, k_list_bool, k_list_dict, k_dict_str, k_dict_tuple, k_dict_list, k_dict_int, k_dict_bool, k_dict_dict, slotOf, List.replicate, List.map_cons, List.map_nil, List.length_cons, List.length_nil, List.getElem?_cons_zero, List.getElem?_cons_succ, List.set_cons_zero, List.set_cons_succ, List.cons_append, List.nil_append, if_true, if_false, Bool.false_eq_true, reduceCtorEq, Nat.sub_self, Nat.reduceSub, Nat.reduceAdd, Nat.reduceLeDiff, Int.reduceLE, Int.reduceLT, Int.reducePow, Int.reduceToNat, Int.reduceNeg, Option.map_some, Option.map_none, Bool.not_true, Bool.not_false, ite_true, ite_false, decide_eq_true_eq, decide_true, decide_false, Bool.not_eq_true']
  refine hG1.wp ?_
  simp only [x_strI, Int.reduceEq, p10_1, p10_2, p10_3, p10_4, p10_5, p10_6, p10_7, p10_8, p10_9, p10_10, p10_11, p10_12, p10_13, p10_14, p10_15, p10_16, p10_17, p10_18, at_c0, at_c1, at_c2, at_c3, at_c4, at_c5, ix_30, ix_31, ix_32, subS, gSet, wr, ix_str, ix_lst, ix_tup, ix_ktup, ix_scr, gEq_str, gNe_str, gEq_int, gNe_int, gEq_bl, gIn_sign, gNotIn_sign, gAll_bls, lt_one, w_sl, w_c, w_op2, w_op1, w_evs0, w_evs1, o_rds0, o_rds1, w_opN, o_tks0, o_tks1, w_lst, w_tup, b_val, w_ite, w_mT, w_bAnd, w_bOr, w_bNot, w_bYes, w_and, w_or, w_not, w_if, w_ch, w_pt0, w_pt1, w_slc, w_call, w_meth, w_itr, w_rng1, w_rng2, w_rng3, w_enum, w_zip, s_seq, s_nx, s_rt, s_bk, s_ct, s_pass, s_brk, s_cnt, s_if, s_asg, s_drop, s_ret, s_retN, s_asgT, s_sub, s_box, s_for, o_some, o_none, o_ite, o_map, o_bind, wp_ok, wp_bad, z_val, z_new, z_bor, z_ali, r_non, r_bl, r_int, r_str, r_tup, r_lst, r_dk, r_dt, r_ktup, r_scr, r_glo, r_bor, r_new, r_ali, t_val, t_new, t_bor, t_ali, g_val, g_bor, g_new, g_ali, a_val, a_bor, a_ali, o_args0, o_args1, l_val, l_bor, l_ali, gAdd, gSub, mul_int, gMod, gDiv, gLt, gLe, gGt, gGe, gIsi, tyN, gLen, gNeg, gTuple, gList, gIsN, gNotN, gOrd, gMin, gMax, fNm, fTup, fCons, fNil, itemsOf, seqOf, k_NoneType_str, k_NoneType_tuple, k_NoneType_list, k_NoneType_int, k_NoneType_bool, k_NoneType_dict, k_bool_str, k_bool_tuple, k_bool_list, k_bool_int, k_bool_bool, k_bool_dict, k_int_str, k_int_tuple, k_int_list, k_int_int, k_int_bool, k_int_dict, k_str_str, k_str_tuple, k_str_list, k_str_int, k_str_bool, k_str_dict, k_tuple_str, k_tuple_tuple, k_tuple_list, k_tuple_int, k_tuple_bool, k_tuple_dict, k_list_str, k_list_tuple, k_list_list, k_list_int, k_list_bool, k_list_dict, k_dict_str, k_dict_tuple, k_dict_list, k_dict_int, k_dict_bool, k_dict_dict, slotOf, List.replicate, List.map_cons, List.map_nil, List.length_cons, List.length_nil, List.getElem?_cons_zero, List.getElem?_cons_succ, List.set_cons_zero, List.set_cons_succ, List.cons_append, List.nil_append, if_true, if_false, Bool.false_eq_true, reduceCtorEq, Nat.sub_self, Nat.reduceSub, Nat.reduceAdd, Nat.reduceLeDiff, Int.reduceLE, Int.reduceLT, Int.reducePow, Int.reduceToNat, Int.reduceNeg, Option.map_some, Option.map_none, Bool.not_true, Bool.not_false, ite_true, ite_false, decide_eq_true_eq, decide_true, decide_false, Bool.not_eq_true', l0]
  refine hG2.wp ?_
  simp only [x_strI, Int.reduceEq, p10_1, p10_2, p10_3, p10_4, p10_5, p10_6, p10_7, p10_8, p10_9, p10_10, p10_11, p10_12, p10_13, p10_14, p10_15, p10_16, p10_17, p10_18, at_c0, at_c1, at_c2, at_c3, at_c4, at_c5, ix_30, ix_31, ix_32, subS, gSet, wr, ix_str, ix_lst, ix_tup, ix_ktup, ix_scr, gEq_str, gNe_str, gEq_int, gNe_int, gEq_bl, gIn_sign, gNotIn_sign, gAll_bls, lt_one, w_sl, w_c, w_op2, w_op1, w_evs0, w_evs1, o_rds0, o_rds1, w_opN, o_tks0, o_tks1, w_lst, w_tup, b_val, w_ite, w_mT, w_bAnd, w_bOr, w_bNot, w_bYes, w_and, w_or, w_not, w_if, w_ch, w_pt0, w_pt1, w_slc, w_call, w_meth, w_itr, w_rng1, w_rng2, w_rng3, w_enum, w_zip, s_seq, s_nx, s_rt, s_bk, s_ct, s_pass, s_brk, s_cnt, s_if, s_asg, s_drop, s_ret, s_retN, s_asgT, s_sub, s_box, s_for, o_some, o_none, o_ite, o_map, o_bind, wp_ok, wp_bad, z_val, z_new, z_bor, z_ali, r_non, r_bl, r_int, r_str, r_tup, r_lst, r_dk, r_dt, r_ktup, r_scr, r_glo, r_bor, r_new, r_ali, t_val, t_new, t_bor, t_ali, g_val, g_bor, g_new, g_ali, a_val, a_bor, a_ali, o_args0, o_args1, l_val, l_bor, l_ali, gAdd, gSub, mul_int, gMod, gDiv, gLt, gLe, gGt, gGe, gIsi, tyN, gLen, gNeg, gTuple, gList, gIsN, gNotN, gOrd, gMin, gMax, fNm, fTup, fCons, fNil, itemsOf, seqOf, k_NoneType_str, k_NoneType_tuple, k_NoneType_list, k_NoneType_int, k_NoneType_bool, k_NoneType_dict, k_bool_str, k_bool_tuple, k_bool_list, k_bool_int, k_bool_bool, k_bool_dict, k_int_str, k_int_tuple, k_int_list, k_int_int, k_int_bool, k_int_dict, k_str_str, k_str_tuple, k_str_list, k_str_int, k_str_bool, k_str_dict, k_tuple_str, k_tuple_tuple, k_tuple_list, k_tuple_int, k_tuple_bool, k_tuple_dict, k_list_str, k_list_tuple, k_list_list, k_list_int, k_list_bool, k_list_dict, k_dict_str, k_dict_tuple, k_dict_list, k_dict_int, k_dict_bool, k_dict_dict, slotOf, List.replicate, List.map_cons, List.map_nil, List.length_cons, List.length_nil, List.getElem?_cons_zero, List.getElem?_cons_succ, List.set_cons_zero, List.set_cons_succ, List.cons_append, List.nil_append, if_true, if_false, Bool.false_eq_true, reduceCtorEq, Nat.sub_self, Nat.reduceSub, Nat.reduceAdd, Nat.reduceLeDiff, Int.reduceLE, Int.reduceLT, Int.reducePow, Int.reduceToNat, Int.reduceNeg, Option.map_some, Option.map_none, Bool.not_true, Bool.not_false, ite_true, ite_false, decide_eq_true_eq, decide_true, decide_false, Bool.not_eq_true']
  refine forL_ix (fun k s => ∃ x4 x5, s = ⟨[.val (.tup one), .val (.tup other), .own (.lst ((((gapsP other).take k).foldl (leadStep one other) (gapsP one, [])).1.map T.int)), .own (.lst ((((gapsP other).take k).foldl (leadStep one other) (gapsP one, [])).2.map pairT)), x4, x5, .no], ce⟩) _ 0 _ ⟨.no, .no, rfl⟩ (fun k u s hk ⟨x4, x5, es⟩ => ?_) fun s ⟨x4, x5, es⟩ => ?_
  · subst es
    rw [Nat.zero_add] at *
    obtain ⟨pl, hpl, rfl⟩ : ∃ pl, (gapsP other)[k]? = some pl ∧ u = .int pl := by
      rw [List.getElem?_map] at hk
      obtain ⟨pl, e1, e2⟩ := Option.map_eq_some_iff.mp hk
      exact ⟨pl, e1, e2.symm⟩
    have hlt : k < (gapsP other).length := (List.getElem?_eq_some_iff.mp hpl).1
    have etake : (gapsP other).take (k + 1) = (gapsP other).take k ++ [pl] := by
      rw [List.take_add_one, hpl]
      rfl
    have hp := gaps_in (List.mem_of_getElem? hpl)
    rw [etake, List.foldl_append]
    have ho := leads_in (one := one) (other := other) ((gapsP other).take k) (gapsP one, []) (fun g hg => gaps_in hg)
    have hol := opens_len (one := one) (other := other) ((gapsP other).take k) (gapsP one, [])
    have hll := leads_len (one := one) (other := other) ((gapsP other).take k) (gapsP one, [])
    generalize ((gapsP other).take k).foldl (leadStep one other) (gapsP one, []) = st at *
    obtain ⟨ops, lds⟩ := st
    simp only [List.foldl_cons, List.foldl_nil]
    simp only at hol hll ho
    have hll2 : (lds.map pairT).length < line := by
      have h40 : 41 < line := by decide
      simp only [List.length_map, List.length_nil, List.length_take] at hll ⊢
      omega
    rw [fNm]
    simp only [List.set_cons_succ, List.set_cons_zero]
    rw [s_seq, s_asg]
    refine WP.mono (some_ok h1 h2 ho (by omega) hp) ?_
    rintro _ _ ⟨rfl, rfl⟩
    have hd := dtA_ints ce (ops.filter fun g => decide (wAt one g = wAt other pl))
    simp only [g_new, o_some, List.set_cons_succ, List.set_cons_zero, s_nx]
    unfold leadStep
    simp only
    have hs : ∀ x ∈ ops.filter (fun g => decide (wAt one g = wAt other pl)), x ∈ ops := fun x hx => (List.mem_filter.mp hx).1
    generalize ops.filter (fun g => decide (wAt one g = wAt other pl)) = fl at *
    cases fl with
    | nil =>
      have hn := gNe_nil hd
      simp only [List.map_nil, List.isEmpty_nil] at hn
      simp only [x_strI, Int.reduceEq, p10_1, p10_2, p10_3, p10_4, p10_5, p10_6, p10_7, p10_8, p10_9, p10_10, p10_11, p10_12, p10_13, p10_14, p10_15, p10_16, p10_17, p10_18, at_c0, at_c1, at_c2, at_c3, at_c4, at_c5, ix_30, ix_31, ix_32, subS, gSet, wr, ix_str, ix_lst, ix_tup, ix_ktup, ix_scr, gEq_str, gNe_str, gEq_int, gNe_int, gEq_bl, gIn_sign, gNotIn_sign, gAll_bls, lt_one, w_sl, w_c, w_op2, w_op1, w_evs0, w_evs1, o_rds0, o_rds1, w_opN, o_tks0, o_tks1, w_lst, w_tup, b_val, w_ite, w_mT, w_bAnd, w_bOr, w_bNot, w_bYes, w_and, w_or, w_not, w_if, w_ch, w_pt0, w_pt1, w_slc, w_call, w_meth, w_itr, w_rng1, w_rng2, w_rng3, w_enum, w_zip, s_seq, s_nx, s_rt, s_bk, s_ct, s_pass, s_brk, s_cnt, s_if, s_asg, s_drop, s_ret, s_retN, s_asgT, s_sub, s_box, s_for, o_some, o_none, o_ite, o_map, o_bind, wp_ok, wp_bad, z_val, z_new, z_bor, z_ali, r_non, r_bl, r_int, r_str, r_tup, r_lst, r_dk, r_dt, r_ktup, r_scr, r_glo, r_bor, r_new, r_ali, t_val, t_new, t_bor, t_ali, g_val, g_bor, g_new, g_ali, a_val, a_bor, a_ali, o_args0, o_args1, l_val, l_bor, l_ali, gAdd, gSub, mul_int, gMod, gDiv, gLt, gLe, gGt, gGe, gIsi, tyN, gLen, gNeg, gTuple, gList, gIsN, gNotN, gOrd, gMin, gMax, fNm, fTup, fCons, fNil, itemsOf, seqOf, k_NoneType_str, k_NoneType_tuple, k_NoneType_list, k_NoneType_int, k_NoneType_bool, k_NoneType_dict, k_bool_str, k_bool_tuple, k_bool_list, k_bool_int, k_bool_bool, k_bool_dict, k_int_str, k_int_tuple, k_int_list, k_int_int, k_int_bool, k_int_dict, k_str_str, k_str_tuple, k_str_list, k_str_int, k_str_bool, k_str_dict, k_tuple_str, k_tuple_tuple, k_tuple_list, k_tuple_int, k_tuple_bool, k_tuple_dict, k_list_str, k_list_tuple, k_list_list, k_list_int, k_list_bool, k_list_dict, k_dict_str, k_dict_tuple, k_dict_list, k_dict_int, k_dict_bool, k_dict_dict, slotOf, List.replicate, List.map_cons, List.map_nil, List.length_cons, List.length_nil, List.getElem?_cons_zero, List.getElem?_cons_succ, List.set_cons_zero, List.set_cons_succ, List.cons_append, List.nil_append, if_true, if_false, Bool.false_eq_true, reduceCtorEq, Nat.sub_self, Nat.reduceSub, Nat.reduceAdd, Nat.reduceLeDiff, Int.reduceLE, Int.reduceLT, Int.reducePow, Int.reduceToNat, Int.reduceNeg, Option.map_some, Option.map_none, Bool.not_true, Bool.not_false, ite_true, ite_false, decide_eq_true_eq, decide_true, decide_false, Bool.not_eq_true', l0, hn, List.map_nil]
      exact ⟨_, _, rfl⟩
    | cons g gs =>
      have hn := gNe_nil hd
      simp only [List.map_cons, List.isEmpty_cons] at hn
      have hrm := rem_ints ops g (hs g (by simp))
      simp only [x_strI, Int.reduceEq, p10_1, p10_2, p10_3, p10_4, p10_5, p10_6, p10_7, p10_8, p10_9, p10_10, p10_11, p10_12, p10_13, p10_14, p10_15, p10_16, p10_17, p10_18, at_c0, at_c1, at_c2, at_c3, at_c4, at_c5, ix_30, ix_31, ix_32, subS, gSet, wr, ix_str, ix_lst, ix_tup, ix_ktup, ix_scr, gEq_str, gNe_str, gEq_int, gNe_int, gEq_bl, gIn_sign, gNotIn_sign, gAll_bls, lt_one, w_sl, w_c, w_op2, w_op1, w_evs0, w_evs1, o_rds0, o_rds1, w_opN, o_tks0, o_tks1, w_lst, w_tup, b_val, w_ite, w_mT, w_bAnd, w_bOr, w_bNot, w_bYes, w_and, w_or, w_not, w_if, w_ch, w_pt0, w_pt1, w_slc, w_call, w_meth, w_itr, w_rng1, w_rng2, w_rng3, w_enum, w_zip, s_seq, s_nx, s_rt, s_bk, s_ct, s_pass, s_brk, s_cnt, s_if, s_asg, s_drop, s_ret, s_retN, s_asgT, s_sub, s_box, s_for, o_some, o_none, o_ite, o_map, o_bind, wp_ok, wp_bad, z_val, z_new, z_bor, z_ali, r_non, r_bl, r_int, r_str, r_tup, r_lst, r_dk, r_dt, r_ktup, r_scr, r_glo, r_bor, r_new, r_ali, t_val, t_new, t_bor, t_ali, g_val, g_bor, g_new, g_ali, a_val, a_bor, a_ali, o_args0, o_args1, l_val, l_bor, l_ali, gAdd, gSub, mul_int, gMod, gDiv, gLt, gLe, gGt, gGe, gIsi, tyN, gLen, gNeg, gTuple, gList, gIsN, gNotN, gOrd, gMin, gMax, fNm, fTup, fCons, fNil, itemsOf, seqOf, k_NoneType_str, k_NoneType_tuple, k_NoneType_list, k_NoneType_int, k_NoneType_bool, k_NoneType_dict, k_bool_str, k_bool_tuple, k_bool_list, k_bool_int, k_bool_bool, k_bool_dict, k_int_str, k_int_tuple, k_int_list, k_int_int, k_int_bool, k_int_dict, k_str_str, k_str_tuple, k_str_list, k_str_int, k_str_bool, k_str_dict, k_tuple_str, k_tuple_tuple, k_tuple_list, k_tuple_int, k_tuple_bool, k_tuple_dict, k_list_str, k_list_tuple, k_list_list, k_list_int, k_list_bool, k_list_dict, k_dict_str, k_dict_tuple, k_dict_list, k_dict_int, k_dict_bool, k_dict_dict, slotOf, List.replicate, List.map_cons, List.map_nil, List.length_cons, List.length_nil, List.getElem?_cons_zero, List.getElem?_cons_succ, List.set_cons_zero, List.set_cons_succ, List.cons_append, List.nil_append, if_true, if_false, Bool.false_eq_true, reduceCtorEq, Nat.sub_self, Nat.reduceSub, Nat.reduceAdd, Nat.reduceLeDiff, Int.reduceLE, Int.reduceLT, Int.reducePow, Int.reduceToNat, Int.reduceNeg, Option.map_some, Option.map_none, Bool.not_true, Bool.not_false, ite_true, ite_false, decide_eq_true_eq, decide_true, decide_false, Bool.not_eq_true', l0, l2, hn, methS, isL, gApp, hll2, hrm, show 2 ≤ line from l2]
      refine ⟨.val (.int pl), .own (.lst (T.int g :: gs.map T.int)), ?_⟩
      rw [List.map_append]
      rfl
  · subst es
    simp only [x_strI, Int.reduceEq, p10_1, p10_2, p10_3, p10_4, p10_5, p10_6, p10_7, p10_8, p10_9, p10_10, p10_11, p10_12, p10_13, p10_14, p10_15, p10_16, p10_17, p10_18, at_c0, at_c1, at_c2, at_c3, at_c4, at_c5, ix_30, ix_31, ix_32, subS, gSet, wr, ix_str, ix_lst, ix_tup, ix_ktup, ix_scr, gEq_str, gNe_str, gEq_int, gNe_int, gEq_bl, gIn_sign, gNotIn_sign, gAll_bls, lt_one, w_sl, w_c, w_op2, w_op1, w_evs0, w_evs1, o_rds0, o_rds1, w_opN, o_tks0, o_tks1, w_lst, w_tup, b_val, w_ite, w_mT, w_bAnd, w_bOr, w_bNot, w_bYes, w_and, w_or, w_not, w_if, w_ch, w_pt0, w_pt1, w_slc, w_call, w_meth, w_itr, w_rng1, w_rng2, w_rng3, w_enum, w_zip, s_seq, s_nx, s_rt, s_bk, s_ct, s_pass, s_brk, s_cnt, s_if, s_asg, s_drop, s_ret, s_retN, s_asgT, s_sub, s_box, s_for, o_some, o_none, o_ite, o_map, o_bind, wp_ok, wp_bad, z_val, z_new, z_bor, z_ali, r_non, r_bl, r_int, r_str, r_tup, r_lst, r_dk, r_dt, r_ktup, r_scr, r_glo, r_bor, r_new, r_ali, t_val, t_new, t_bor, t_ali, g_val, g_bor, g_new, g_ali, a_val, a_bor, a_ali, o_args0, o_args1, l_val, l_bor, l_ali, gAdd, gSub, mul_int, gMod, gDiv, gLt, gLe, gGt, gGe, gIsi, tyN, gLen, gNeg, gTuple, gList, gIsN, gNotN, gOrd, gMin, gMax, fNm, fTup, fCons, fNil, itemsOf, seqOf, k_NoneType_str, k_NoneType_tuple, k_NoneType_list, k_NoneType_int, k_NoneType_bool, k_NoneType_dict, k_bool_str, k_bool_tuple, k_bool_list, k_bool_int, k_bool_bool, k_bool_dict, k_int_str, k_int_tuple, k_int_list, k_int_int, k_int_bool, k_int_dict, k_str_str, k_str_tuple, k_str_list, k_str_int, k_str_bool, k_str_dict, k_tuple_str, k_tuple_tuple, k_tuple_list, k_tuple_int, k_tuple_bool, k_tuple_dict, k_list_str, k_list_tuple, k_list_list, k_list_int, k_list_bool, k_list_dict, k_dict_str, k_dict_tuple, k_dict_list, k_dict_int, k_dict_bool, k_dict_dict, slotOf, List.replicate, List.map_cons, List.map_nil, List.length_cons, List.length_nil, List.getElem?_cons_zero, List.getElem?_cons_succ, List.set_cons_zero, List.set_cons_succ, List.cons_append, List.nil_append, if_true, if_false, Bool.false_eq_true, reduceCtorEq, Nat.sub_self, Nat.reduceSub, Nat.reduceAdd, Nat.reduceLeDiff, Int.reduceLE, Int.reduceLT, Int.reducePow, Int.reduceToNat, Int.reduceNeg, Option.map_some, Option.map_none, Bool.not_true, Bool.not_false, ite_true, ite_false, decide_eq_true_eq, decide_true, decide_false, Bool.not_eq_true', List.length_map, Nat.zero_add]
    refine ⟨?_, ?_⟩
    · unfold leadsP
      rw [List.take_length]
    · first | rfl | trivial
def ledP (one other : List T) : List Int := ((leadsP one other).map (·.1)).mergeSort (fun a b => decide (a ≤ b))
def begT : T → Option T
  | .tup [.int a, _] => some (.int a)
  | _ => none
theorem fm_beg (ps : List (Int × Int)) : (ps.map pairT).filterMap begT = (ps.map (·.1)).map T.int := by
  induction ps with
  | nil => rfl
  | cons p ps ih => simp only [List.map_cons, List.filterMap_cons, pairT, begT, ih]
theorem leadsP_len (one other : List T) : (leadsP one other).length ≤ other.length := by
  have := leads_len (one := one) (other := other) (gapsP other) (gapsP one, [])
  have h2 := gaps_len other
  unfold leadsP
  simp at this
  omega
theorem led_gaps_ok {one other : List T} {n m : Nat} (t1 : Th n (.tup one)) (t2 : Th m (.tup other)) (h1 : isSentP (.tup one) = true) (h2 : isSentP (.tup other) = true) (ce : List T) : IsN (f_led_gaps [.val (.tup one), .val (.tup other)] ce) (.lst ((ledP one other).map T.int)) ce := by
  obtain ⟨hl2, _⟩ := sent_words h2
  have hl := leadsP_len one other
  have hL := leads_of_ok t1 t2 h1 h2 ce
  refine .of ?_
  unfold f_led_gaps runF
  refine WP.endF ?_
  generalize f_leads_of = F at hL ⊢
  simp only [m_led_gaps, x_strI, Int.reduceEq, p10_1, p10_2, p10_3, p10_4, p10_5, p10_6, p10_7, p10_8, p10_9, p10_10, p10_11, p10_12, p10_13, p10_14, p10_15, p10_16, p10_17, p10_18, at_c0, at_c1, at_c2, at_c3, at_c4, at_c5, ix_30, ix_31, ix_32, subS, gSet, wr, ix_str, ix_lst, ix_tup, ix_ktup, ix_scr, gEq_str, gNe_str, gEq_int, gNe_int, gEq_bl, gIn_sign, gNotIn_sign, gAll_bls, lt_one, w_sl, w_c, w_op2, w_op1, w_evs0, w_evs1, o_rds0, o_rds1, w_opN, o_tks0, o_tks1, w_lst, w_tup, b_val, w_ite, w_mT, w_bAnd, w_bOr, w_bNot, w_bYes, w_and, w_or, w_not, w_if, w_ch, w_pt0, w_pt1, w_slc, w_call, w_meth, w_itr, w_rng1, w_rng2, w_rng3, w_enum, w_zip, s_seq, s_nx, s_rt, s_bk, s_ct, s_pass, s_brk, s_cnt, s_if, s_asg, s_drop, s_ret, s_retN, s_asgT, s_sub, s_box, s_for, o_some, o_none, o_ite, o_map, o_bind, wp_ok, wp_bad, z_val, z_new, z_bor, z_ali, r_non, r_bl, r_int, r_str, r_tup, r_lst, r_dk, r_dt, r_ktup, r_scr, r_glo, r_bor, r_new, r_ali, t_val, t_new, t_bor, t_ali, g_val, g_bor, g_new, g_ali, a_val, a_bor, a_ali, o_args0, o_args1, l_val, l_bor, l_ali, gAdd, gSub, mul_int, gMod, gDiv, gLt, gLe, gGt, gGe, gIsi, tyN, gLen, gNeg, gTuple, gList, gIsN, gNotN, gOrd, gMin, gMax, fNm, fTup, fCons, fNil, itemsOf, seqOf, k_NoneType_str, k_NoneType_tuple, k_NoneType_list, k_NoneType_int, k_NoneType_bool, k_NoneType_dict, k_bool_str, k_bool_tuple, k_bool_list, k_bool_int, k_bool_bool, k_bool_dict, k_int_str, k_int_tuple, k_int_list, k_int_int, k_int_bool, k_int_dict, k_str_str, k_str_tuple, k_str_list, k_str_int, k_str_bool, k_str_dict, k_tuple_str, k_tuple_tuple, k_tuple_list, k_tuple_int, k_tuple_bool, k_tuple_dict, k_list_str, k_list_tuple, k_list_list, k_list_int, k_list_bool, k_list_dict, k_dict_str, k_dict_tuple, k_dict_list, k_dict_int, k_dict_bool, k_dict_dict, slotOf, List.replicate, List.map_cons, List.map_nil, List.length_cons, List.length_nil, List.getElem?_cons_zero, List.getElem?_cons_succ, List.set_cons_zero, List.set_cons_succ, List.cons_append, List.nil_append, if_true, if_false, Bool.false_eq_true, reduceCtorEq, Nat.sub_self, Nat.reduceSub, Nat.reduceAdd, Nat.reduceLeDiff, Int.reduceLE, Int.reduceLT, Int.reducePow, Int.reduceToNat, Int.reduceNeg, Option.map_some, Option.map_none, Bool.not_true, Bool.not_false, ite_true, ite_false, decide_eq_true_eq, decide_true, decide_false, Bool.not_eq_true']
  refine wp_comp begT ?_
  simp only [x_strI, Int.reduceEq, p10_1, p10_2, p10_3, p10_4, p10_5, p10_6, p10_7, p10_8, p10_9, p10_10, p10_11, p10_12, p10_13, p10_14, p10_15, p10_16, p10_17, p10_18, at_c0, at_c1, at_c2, at_c3, at_c4, at_c5, ix_30, ix_31, ix_32, subS, gSet, wr, ix_str, ix_lst, ix_tup, ix_ktup, ix_scr, gEq_str, gNe_str, gEq_int, gNe_int, gEq_bl, gIn_sign, gNotIn_sign, gAll_bls, lt_one, w_sl, w_c, w_op2, w_op1, w_evs0, w_evs1, o_rds0, o_rds1, w_opN, o_tks0, o_tks1, w_lst, w_tup, b_val, w_ite, w_mT, w_bAnd, w_bOr, w_bNot, w_bYes, w_and, w_or, w_not, w_if, w_ch, w_pt0, w_pt1, w_slc, w_call, w_meth, w_itr, w_rng1, w_rng2, w_rng3, w_enum, w_zip, s_seq, s_nx, s_rt, s_bk, s_ct, s_pass, s_brk, s_cnt, s_if, s_asg, s_drop, s_ret, s_retN, s_asgT, s_sub, s_box, s_for, o_some, o_none, o_ite, o_map, o_bind, wp_ok, wp_bad, z_val, z_new, z_bor, z_ali, r_non, r_bl, r_int, r_str, r_tup, r_lst, r_dk, r_dt, r_ktup, r_scr, r_glo, r_bor, r_new, r_ali, t_val, t_new, t_bor, t_ali, g_val, g_bor, g_new, g_ali, a_val, a_bor, a_ali, o_args0, o_args1, l_val, l_bor, l_ali, gAdd, gSub, mul_int, gMod, gDiv, gLt, gLe, gGt, gGe, gIsi, tyN, gLen, gNeg, gTuple, gList, gIsN, gNotN, gOrd, gMin, gMax, fNm, fTup, fCons, fNil, itemsOf, seqOf, k_NoneType_str, k_NoneType_tuple, k_NoneType_list, k_NoneType_int, k_NoneType_bool, k_NoneType_dict, k_bool_str, k_bool_tuple, k_bool_list, k_bool_int, k_bool_bool, k_bool_dict, k_int_str, k_int_tuple, k_int_list, k_int_int, k_int_bool, k_int_dict, k_str_str, k_str_tuple, k_str_list, k_str_int, k_str_bool, k_str_dict, k_tuple_str, k_tuple_tuple, k_tuple_list, k_tuple_int, k_tuple_bool, k_tuple_dict, k_list_str, k_list_tuple, k_list_list, k_list_int, k_list_bool, k_list_dict, k_dict_str, k_dict_tuple, k_dict_list, k_dict_int, k_dict_bool, k_dict_dict, slotOf, List.replicate, List.map_cons, List.map_nil, List.length_cons, List.length_nil, List.getElem?_cons_zero, List.getElem?_cons_succ, List.set_cons_zero, List.set_cons_succ, List.cons_append, List.nil_append, if_true, if_false, Bool.false_eq_true, reduceCtorEq, Nat.sub_self, Nat.reduceSub, Nat.reduceAdd, Nat.reduceLeDiff, Int.reduceLE, Int.reduceLT, Int.reducePow, Int.reduceToNat, Int.reduceNeg, Option.map_some, Option.map_none, Bool.not_true, Bool.not_false, ite_true, ite_false, decide_eq_true_eq, decide_true, decide_false, Bool.not_eq_true']
  refine hL.wp ?_
  simp only [x_strI, Int.reduceEq, p10_1, p10_2, p10_3, p10_4, p10_5, p10_6, p10_7, p10_8, p10_9, p10_10, p10_11, p10_12, p10_13, p10_14, p10_15, p10_16, p10_17, p10_18, at_c0, at_c1, at_c2, at_c3, at_c4, at_c5, ix_30, ix_31, ix_32, subS, gSet, wr, ix_str, ix_lst, ix_tup, ix_ktup, ix_scr, gEq_str, gNe_str, gEq_int, gNe_int, gEq_bl, gIn_sign, gNotIn_sign, gAll_bls, lt_one, w_sl, w_c, w_op2, w_op1, w_evs0, w_evs1, o_rds0, o_rds1, w_opN, o_tks0, o_tks1, w_lst, w_tup, b_val, w_ite, w_mT, w_bAnd, w_bOr, w_bNot, w_bYes, w_and, w_or, w_not, w_if, w_ch, w_pt0, w_pt1, w_slc, w_call, w_meth, w_itr, w_rng1, w_rng2, w_rng3, w_enum, w_zip, s_seq, s_nx, s_rt, s_bk, s_ct, s_pass, s_brk, s_cnt, s_if, s_asg, s_drop, s_ret, s_retN, s_asgT, s_sub, s_box, s_for, o_some, o_none, o_ite, o_map, o_bind, wp_ok, wp_bad, z_val, z_new, z_bor, z_ali, r_non, r_bl, r_int, r_str, r_tup, r_lst, r_dk, r_dt, r_ktup, r_scr, r_glo, r_bor, r_new, r_ali, t_val, t_new, t_bor, t_ali, g_val, g_bor, g_new, g_ali, a_val, a_bor, a_ali, o_args0, o_args1, l_val, l_bor, l_ali, gAdd, gSub, mul_int, gMod, gDiv, gLt, gLe, gGt, gGe, gIsi, tyN, gLen, gNeg, gTuple, gList, gIsN, gNotN, gOrd, gMin, gMax, fNm, fTup, fCons, fNil, itemsOf, seqOf, k_NoneType_str, k_NoneType_tuple, k_NoneType_list, k_NoneType_int, k_NoneType_bool, k_NoneType_dict, k_bool_str, k_bool_tuple, k_bool_list, k_bool_int, k_bool_bool, k_bool_dict, k_int_str, k_int_tuple, k_int_list, k_int_int, k_int_bool, k_int_dict, k_str_str, k_str_tuple, k_str_list, k_str_int, k_str_bool, k_str_dict, k_tuple_str, k_tuple_tuple, k_tuple_list, k_tuple_int, k_tuple_bool, k_tuple_dict, k_list_str, k_list_tuple, k_list_list, k_list_int, k_list_bool, k_list_dict, k_dict_str, k_dict_tuple, k_dict_list, k_dict_int, k_dict_bool, k_dict_dict, slotOf, List.replicate, List.map_cons, List.map_nil, List.length_cons, List.length_nil, List.getElem?_cons_zero, List.getElem?_cons_succ, List.set_cons_zero, List.set_cons_succ, List.cons_append, List.nil_append, if_true, if_false, Bool.false_eq_true, reduceCtorEq, Nat.sub_self, Nat.reduceSub, Nat.reduceAdd, Nat.reduceLeDiff, Int.reduceLE, Int.reduceLT, Int.reducePow, Int.reduceToNat, Int.reduceNeg, Option.map_some, Option.map_none, Bool.not_true, Bool.not_false, ite_true, ite_false, decide_eq_true_eq, decide_true, decide_false, Bool.not_eq_true']
  refine ⟨by simp; exact Nat.le_trans (Nat.le_trans hl hl2) (by decide), fun u hu acc ha => ?_, ?_⟩
  · obtain ⟨⟨a, b⟩, _, rfl⟩ := List.mem_map.mp hu
    refine wp_step (s1 := ⟨[.val (.tup one), .val (.tup other), .val (.int a), .val (.int b)], ce⟩) rfl ?_
    simp only [x_strI, Int.reduceEq, p10_1, p10_2, p10_3, p10_4, p10_5, p10_6, p10_7, p10_8, p10_9, p10_10, p10_11, p10_12, p10_13, p10_14, p10_15, p10_16, p10_17, p10_18, at_c0, at_c1, at_c2, at_c3, at_c4, at_c5, ix_30, ix_31, ix_32, subS, gSet, wr, ix_str, ix_lst, ix_tup, ix_ktup, ix_scr, gEq_str, gNe_str, gEq_int, gNe_int, gEq_bl, gIn_sign, gNotIn_sign, gAll_bls, lt_one, w_sl, w_c, w_op2, w_op1, w_evs0, w_evs1, o_rds0, o_rds1, w_opN, o_tks0, o_tks1, w_lst, w_tup, b_val, w_ite, w_mT, w_bAnd, w_bOr, w_bNot, w_bYes, w_and, w_or, w_not, w_if, w_ch, w_pt0, w_pt1, w_slc, w_call, w_meth, w_itr, w_rng1, w_rng2, w_rng3, w_enum, w_zip, s_seq, s_nx, s_rt, s_bk, s_ct, s_pass, s_brk, s_cnt, s_if, s_asg, s_drop, s_ret, s_retN, s_asgT, s_sub, s_box, s_for, o_some, o_none, o_ite, o_map, o_bind, wp_ok, wp_bad, z_val, z_new, z_bor, z_ali, r_non, r_bl, r_int, r_str, r_tup, r_lst, r_dk, r_dt, r_ktup, r_scr, r_glo, r_bor, r_new, r_ali, t_val, t_new, t_bor, t_ali, g_val, g_bor, g_new, g_ali, a_val, a_bor, a_ali, o_args0, o_args1, l_val, l_bor, l_ali, gAdd, gSub, mul_int, gMod, gDiv, gLt, gLe, gGt, gGe, gIsi, tyN, gLen, gNeg, gTuple, gList, gIsN, gNotN, gOrd, gMin, gMax, fNm, fTup, fCons, fNil, itemsOf, seqOf, k_NoneType_str, k_NoneType_tuple, k_NoneType_list, k_NoneType_int, k_NoneType_bool, k_NoneType_dict, k_bool_str, k_bool_tuple, k_bool_list, k_bool_int, k_bool_bool, k_bool_dict, k_int_str, k_int_tuple, k_int_list, k_int_int, k_int_bool, k_int_dict, k_str_str, k_str_tuple, k_str_list, k_str_int, k_str_bool, k_str_dict, k_tuple_str, k_tuple_tuple, k_tuple_list, k_tuple_int, k_tuple_bool, k_tuple_dict, k_list_str, k_list_tuple, k_list_list, k_list_int, k_list_bool, k_list_dict, k_dict_str, k_dict_tuple, k_dict_list, k_dict_int, k_dict_bool, k_dict_dict, slotOf, List.replicate, List.map_cons, List.map_nil, List.length_cons, List.length_nil, List.getElem?_cons_zero, List.getElem?_cons_succ, List.set_cons_zero, List.set_cons_succ, List.cons_append, List.nil_append, if_true, if_false, Bool.false_eq_true, reduceCtorEq, Nat.sub_self, Nat.reduceSub, Nat.reduceAdd, Nat.reduceLeDiff, Int.reduceLE, Int.reduceLT, Int.reducePow, Int.reduceToNat, Int.reduceNeg, Option.map_some, Option.map_none, Bool.not_true, Bool.not_false, ite_true, ite_false, decide_eq_true_eq, decide_true, decide_false, Bool.not_eq_true', wipeS, wipeL]
    refine ⟨ha, ?_, ?_⟩ <;> first | rfl | trivial
  · rw [fm_beg]
    have e : ∀ xs : List Int, gSorted [.lst (xs.map T.int)] = some (.new (.lst ((xs.mergeSort (fun a b => decide (a ≤ b))).map T.int))) := fun xs => by simp [gSorted, intsT_ints]
    simp only [x_strI, Int.reduceEq, p10_1, p10_2, p10_3, p10_4, p10_5, p10_6, p10_7, p10_8, p10_9, p10_10, p10_11, p10_12, p10_13, p10_14, p10_15, p10_16, p10_17, p10_18, at_c0, at_c1, at_c2, at_c3, at_c4, at_c5, ix_30, ix_31, ix_32, subS, gSet, wr, ix_str, ix_lst, ix_tup, ix_ktup, ix_scr, gEq_str, gNe_str, gEq_int, gNe_int, gEq_bl, gIn_sign, gNotIn_sign, gAll_bls, lt_one, w_sl, w_c, w_op2, w_op1, w_evs0, w_evs1, o_rds0, o_rds1, w_opN, o_tks0, o_tks1, w_lst, w_tup, b_val, w_ite, w_mT, w_bAnd, w_bOr, w_bNot, w_bYes, w_and, w_or, w_not, w_if, w_ch, w_pt0, w_pt1, w_slc, w_call, w_meth, w_itr, w_rng1, w_rng2, w_rng3, w_enum, w_zip, s_seq, s_nx, s_rt, s_bk, s_ct, s_pass, s_brk, s_cnt, s_if, s_asg, s_drop, s_ret, s_retN, s_asgT, s_sub, s_box, s_for, o_some, o_none, o_ite, o_map, o_bind, wp_ok, wp_bad, z_val, z_new, z_bor, z_ali, r_non, r_bl, r_int, r_str, r_tup, r_lst, r_dk, r_dt, r_ktup, r_scr, r_glo, r_bor, r_new, r_ali, t_val, t_new, t_bor, t_ali, g_val, g_bor, g_new, g_ali, a_val, a_bor, a_ali, o_args0, o_args1, l_val, l_bor, l_ali, gAdd, gSub, mul_int, gMod, gDiv, gLt, gLe, gGt, gGe, gIsi, tyN, gLen, gNeg, gTuple, gList, gIsN, gNotN, gOrd, gMin, gMax, fNm, fTup, fCons, fNil, itemsOf, seqOf, k_NoneType_str, k_NoneType_tuple, k_NoneType_list, k_NoneType_int, k_NoneType_bool, k_NoneType_dict, k_bool_str, k_bool_tuple, k_bool_list, k_bool_int, k_bool_bool, k_bool_dict, k_int_str, k_int_tuple, k_int_list, k_int_int, k_int_bool, k_int_dict, k_str_str, k_str_tuple, k_str_list, k_str_int, k_str_bool, k_str_dict, k_tuple_str, k_tuple_tuple, k_tuple_list, k_tuple_int, k_tuple_bool, k_tuple_dict, k_list_str, k_list_tuple, k_list_list, k_list_int, k_list_bool, k_list_dict, k_dict_str, k_dict_tuple, k_dict_list, k_dict_int, k_dict_bool, k_dict_dict, slotOf, List.replicate, List.map_cons, List.map_nil, List.length_cons, List.length_nil, List.getElem?_cons_zero, List.getElem?_cons_succ, List.set_cons_zero, List.set_cons_succ, List.cons_append, List.nil_append, if_true, if_false, Bool.false_eq_true, reduceCtorEq, Nat.sub_self, Nat.reduceSub, Nat.reduceAdd, Nat.reduceLeDiff, Int.reduceLE, Int.reduceLT, Int.reducePow, Int.reduceToNat, Int.reduceNeg, Option.map_some, Option.map_none, Bool.not_true, Bool.not_false, ite_true, ite_false, decide_eq_true_eq, decide_true, decide_false, Bool.not_eq_true', restS, restL, keepV, wipeS, wipeL, e]
    refine ⟨?_, ?_⟩ <;> first | rfl | trivial
theorem inT_ints (ce : List T) (k : Int) (ns : List Int) : inT ce (.int k) (.lst (ns.map T.int)) = some (decide (k ∈ ns)) := by
  have e : allSome ((ns.map T.int).map (dat ce 40)) = some (ns.map PyData.int) := by
    rw [List.map_map, allSome_map _ PyData.int ns fun a _ => by simp [Function.comp, dat]]
  simp only [inT, dat, e]
  congr 1
  induction ns with
  | nil => rfl
  | cons n ns ih =>
    simp only [List.map_cons, List.any_cons, PyData.eqv]
    have ih := ih (by rw [List.map_map, allSome_map _ PyData.int ns fun a _ => by simp [Function.comp, dat]])
    rw [ih]
    simp only [List.mem_cons, Bool.decide_or]
    congr 1
    rw [show (n == k) = decide (n = k) from rfl]
    simp only [eq_comm]
theorem gIn_ints (ce : List T) (k : Int) (ns : List Int) : gIn ce (.int k) (.lst (ns.map T.int)) = some (.val (.bl (decide (k ∈ ns)))) := by simp [gIn, inT_ints]
theorem gNotIn_ints (ce : List T) (k : Int) (ns : List Int) : gNotIn ce (.int k) (.lst (ns.map T.int)) = some (.val (.bl (!decide (k ∈ ns)))) := by simp [gNotIn, inT_ints]
def rangeI (n : Nat) : List Int := (List.range n).map fun i => ((i : Nat) : Int)
theorem rangeT_I (n : Nat) : rangeT 0 n = (rangeI n).map T.int := by
  simp [rangeT, rangeI, List.map_map, Function.comp_def]
def lawPick (one other : List T) (taken : List Int) (p : Int) : List Int := (rangeI one.length).filter fun k => decide (wAt one k = wAt other p) && !decide (k ∈ taken)
def plainAt (ts : List T) (p : Int) : Bool := match wAt ts p with
  | c :: r => decide (kindP c r = sPlain)
  | [] => true
def lawStep (one other : List T) (st : List Int × List (Int × Int)) (p : Int) : List Int × List (Int × Int) := if plainAt other p then st else match lawPick one other st.1 p with
  | [] => st
  | g :: _ => (st.1 ++ [g], st.2 ++ [(g, p)])
def lawLeadsP (one other : List T) : List (Int × Int) := ((rangeI other.length).foldl (lawStep one other) ([], [])).2
theorem pick_ok {one other : List T} (h1 : isSentP (.tup one) = true) (h2 : isSentP (.tup other) = true) {tk : List Int} {pl : Int} {ce : List T} {x3 x5 : Slot} (hp : 0 ≤ pl ∧ pl < other.length) :
    WP (mComp [6] (mRng1 [mOpN gLen [mSl 0]]) (fNm 6) (bAnd (mT (mOp2c gEq (mOp2 gIx (mSl 0) (mSl 6)) (mOp2 gIx (mSl 1) (mSl 4)))) (mT (mOp2c gNotIn (mSl 6) (mSl 2)))) (mSl 6) ⟨[.val (.tup one), .val (.tup other), .own (.lst (tk.map T.int)), x3, .val (.int pl), x5, .no], ce⟩) fun d s => d = .new (.lst ((lawPick one other tk pl).map T.int)) ∧ s = ⟨[.val (.tup one), .val (.tup other), .own (.lst (tk.map T.int)), x3, .val (.int pl), x5, .no], ce⟩ := by
  obtain ⟨eo, _, _⟩ := at_word h2 hp.1 hp.2
  obtain ⟨hl, _⟩ := sent_words h1
  have hs : small (one.length : Int) = true := small_nat (by omega)
  unfold lawPick
  rw [← fm_keepI]
  refine wp_comp (keepI fun k => decide (wAt one k = wAt other pl) && !decide (k ∈ tk)) ?_
  simp only [x_strI, Int.reduceEq, p10_1, p10_2, p10_3, p10_4, p10_5, p10_6, p10_7, p10_8, p10_9, p10_10, p10_11, p10_12, p10_13, p10_14, p10_15, p10_16, p10_17, p10_18, at_c0, at_c1, at_c2, at_c3, at_c4, at_c5, ix_30, ix_31, ix_32, subS, gSet, wr, ix_str, ix_lst, ix_tup, ix_ktup, ix_scr, gEq_str, gNe_str, gEq_int, gNe_int, gEq_bl, gIn_sign, gNotIn_sign, gAll_bls, lt_one, w_sl, w_c, w_op2, w_op1, w_evs0, w_evs1, o_rds0, o_rds1, w_opN, o_tks0, o_tks1, w_lst, w_tup, b_val, w_ite, w_mT, w_bAnd, w_bOr, w_bNot, w_bYes, w_and, w_or, w_not, w_if, w_ch, w_pt0, w_pt1, w_slc, w_call, w_meth, w_itr, w_rng1, w_rng2, w_rng3, w_enum, w_zip, s_seq, s_nx, s_rt, s_bk, s_ct, s_pass, s_brk, s_cnt, s_if, s_asg, s_drop, s_ret, s_retN, s_asgT, s_sub, s_box, s_for, o_some, o_none, o_ite, o_map, o_bind, wp_ok, wp_bad, z_val, z_new, z_bor, z_ali, r_non, r_bl, r_int, r_str, r_tup, r_lst, r_dk, r_dt, r_ktup, r_scr, r_glo, r_bor, r_new, r_ali, t_val, t_new, t_bor, t_ali, g_val, g_bor, g_new, g_ali, a_val, a_bor, a_ali, o_args0, o_args1, l_val, l_bor, l_ali, gAdd, gSub, mul_int, gMod, gDiv, gLt, gLe, gGt, gGe, gIsi, tyN, gLen, gNeg, gTuple, gList, gIsN, gNotN, gOrd, gMin, gMax, fNm, fTup, fCons, fNil, itemsOf, seqOf, k_NoneType_str, k_NoneType_tuple, k_NoneType_list, k_NoneType_int, k_NoneType_bool, k_NoneType_dict, k_bool_str, k_bool_tuple, k_bool_list, k_bool_int, k_bool_bool, k_bool_dict, k_int_str, k_int_tuple, k_int_list, k_int_int, k_int_bool, k_int_dict, k_str_str, k_str_tuple, k_str_list, k_str_int, k_str_bool, k_str_dict, k_tuple_str, k_tuple_tuple, k_tuple_list, k_tuple_int, k_tuple_bool, k_tuple_dict, k_list_str, k_list_tuple, k_list_list, k_list_int, k_list_bool, k_list_dict, k_dict_str, k_dict_tuple, k_dict_list, k_dict_int, k_dict_bool, k_dict_dict, slotOf, List.replicate, List.map_cons, List.map_nil, List.length_cons, List.length_nil, List.getElem?_cons_zero, List.getElem?_cons_succ, List.set_cons_zero, List.set_cons_succ, List.cons_append, List.nil_append, if_true, if_false, Bool.false_eq_true, reduceCtorEq, Nat.sub_self, Nat.reduceSub, Nat.reduceAdd, Nat.reduceLeDiff, Int.reduceLE, Int.reduceLT, Int.reducePow, Int.reduceToNat, Int.reduceNeg, Option.map_some, Option.map_none, Bool.not_true, Bool.not_false, ite_true, ite_false, decide_eq_true_eq, decide_true, decide_false, Bool.not_eq_true', hs, Int.toNat_natCast, rangeT_I]
  refine ⟨by simp [rangeI]; exact Nat.le_trans hl (by decide), fun u hu acc ha => ?_, ?_⟩
  · obtain ⟨g, hg, rfl⟩ := List.mem_map.mp hu
    have hg2 : 0 ≤ g ∧ g < one.length := by
      obtain ⟨i, hi, rfl⟩ := List.mem_map.mp hg
      have := List.mem_range.mp hi
      omega
    obtain ⟨eg, _, _⟩ := at_word h1 hg2.1 hg2.2
    refine wp_step rfl ?_
    simp only [x_strI, Int.reduceEq, p10_1, p10_2, p10_3, p10_4, p10_5, p10_6, p10_7, p10_8, p10_9, p10_10, p10_11, p10_12, p10_13, p10_14, p10_15, p10_16, p10_17, p10_18, at_c0, at_c1, at_c2, at_c3, at_c4, at_c5, ix_30, ix_31, ix_32, subS, gSet, wr, ix_str, ix_lst, ix_tup, ix_ktup, ix_scr, gEq_str, gNe_str, gEq_int, gNe_int, gEq_bl, gIn_sign, gNotIn_sign, gAll_bls, lt_one, w_sl, w_c, w_op2, w_op1, w_evs0, w_evs1, o_rds0, o_rds1, w_opN, o_tks0, o_tks1, w_lst, w_tup, b_val, w_ite, w_mT, w_bAnd, w_bOr, w_bNot, w_bYes, w_and, w_or, w_not, w_if, w_ch, w_pt0, w_pt1, w_slc, w_call, w_meth, w_itr, w_rng1, w_rng2, w_rng3, w_enum, w_zip, s_seq, s_nx, s_rt, s_bk, s_ct, s_pass, s_brk, s_cnt, s_if, s_asg, s_drop, s_ret, s_retN, s_asgT, s_sub, s_box, s_for, o_some, o_none, o_ite, o_map, o_bind, wp_ok, wp_bad, z_val, z_new, z_bor, z_ali, r_non, r_bl, r_int, r_str, r_tup, r_lst, r_dk, r_dt, r_ktup, r_scr, r_glo, r_bor, r_new, r_ali, t_val, t_new, t_bor, t_ali, g_val, g_bor, g_new, g_ali, a_val, a_bor, a_ali, o_args0, o_args1, l_val, l_bor, l_ali, gAdd, gSub, mul_int, gMod, gDiv, gLt, gLe, gGt, gGe, gIsi, tyN, gLen, gNeg, gTuple, gList, gIsN, gNotN, gOrd, gMin, gMax, fNm, fTup, fCons, fNil, itemsOf, seqOf, k_NoneType_str, k_NoneType_tuple, k_NoneType_list, k_NoneType_int, k_NoneType_bool, k_NoneType_dict, k_bool_str, k_bool_tuple, k_bool_list, k_bool_int, k_bool_bool, k_bool_dict, k_int_str, k_int_tuple, k_int_list, k_int_int, k_int_bool, k_int_dict, k_str_str, k_str_tuple, k_str_list, k_str_int, k_str_bool, k_str_dict, k_tuple_str, k_tuple_tuple, k_tuple_list, k_tuple_int, k_tuple_bool, k_tuple_dict, k_list_str, k_list_tuple, k_list_list, k_list_int, k_list_bool, k_list_dict, k_dict_str, k_dict_tuple, k_dict_list, k_dict_int, k_dict_bool, k_dict_dict, slotOf, List.replicate, List.map_cons, List.map_nil, List.length_cons, List.length_nil, List.getElem?_cons_zero, List.getElem?_cons_succ, List.set_cons_zero, List.set_cons_succ, List.cons_append, List.nil_append, if_true, if_false, Bool.false_eq_true, reduceCtorEq, Nat.sub_self, Nat.reduceSub, Nat.reduceAdd, Nat.reduceLeDiff, Int.reduceLE, Int.reduceLT, Int.reducePow, Int.reduceToNat, Int.reduceNeg, Option.map_some, Option.map_none, Bool.not_true, Bool.not_false, ite_true, ite_false, decide_eq_true_eq, decide_true, decide_false, Bool.not_eq_true', wipeS, wipeL, eg, eo, gNotIn_ints]
    by_cases q : wAt one g = wAt other pl <;> by_cases q2 : g ∈ tk <;> simp [q, q2, keepI, ha, x_strI, Int.reduceEq, p10_1, p10_2, p10_3, p10_4, p10_5, p10_6, p10_7, p10_8, p10_9, p10_10, p10_11, p10_12, p10_13, p10_14, p10_15, p10_16, p10_17, p10_18, at_c0, at_c1, at_c2, at_c3, at_c4, at_c5, ix_30, ix_31, ix_32, subS, gSet, wr, ix_str, ix_lst, ix_tup, ix_ktup, ix_scr, gEq_str, gNe_str, gEq_int, gNe_int, gEq_bl, gIn_sign, gNotIn_sign, gAll_bls, lt_one, w_sl, w_c, w_op2, w_op1, w_evs0, w_evs1, o_rds0, o_rds1, w_opN, o_tks0, o_tks1, w_lst, w_tup, b_val, w_ite, w_mT, w_bAnd, w_bOr, w_bNot, w_bYes, w_and, w_or, w_not, w_if, w_ch, w_pt0, w_pt1, w_slc, w_call, w_meth, w_itr, w_rng1, w_rng2, w_rng3, w_enum, w_zip, s_seq, s_nx, s_rt, s_bk, s_ct, s_pass, s_brk, s_cnt, s_if, s_asg, s_drop, s_ret, s_retN, s_asgT, s_sub, s_box, s_for, o_some, o_none, o_ite, o_map, o_bind, wp_ok, wp_bad, z_val, z_new, z_bor, z_ali, r_non, r_bl, r_int, r_str, r_tup, r_lst, r_dk, r_dt, r_ktup, r_scr, r_glo, r_bor, r_new, r_ali, t_val, t_new, t_bor, t_ali, g_val, g_bor, g_new, g_ali, a_val, a_bor, a_ali, o_args0, o_args1, l_val, l_bor, l_ali, gAdd, gSub, mul_int, gMod, gDiv, gLt, gLe, gGt, gGe, gIsi, tyN, gLen, gNeg, gTuple, gList, gIsN, gNotN, gOrd, gMin, gMax, fNm, fTup, fCons, fNil, itemsOf, seqOf, k_NoneType_str, k_NoneType_tuple, k_NoneType_list, k_NoneType_int, k_NoneType_bool, k_NoneType_dict, k_bool_str, k_bool_tuple, k_bool_list, k_bool_int, k_bool_bool, k_bool_dict, k_int_str, k_int_tuple, k_int_list, k_int_int, k_int_bool, k_int_dict, k_str_str, k_str_tuple, k_str_list, k_str_int, k_str_bool, k_str_dict, k_tuple_str, k_tuple_tuple, k_tuple_list, k_tuple_int, k_tuple_bool, k_tuple_dict, k_list_str, k_list_tuple, k_list_list, k_list_int, k_list_bool, k_list_dict, k_dict_str, k_dict_tuple, k_dict_list, k_dict_int, k_dict_bool, k_dict_dict, slotOf, List.replicate, List.map_cons, List.map_nil, List.length_cons, List.length_nil, List.getElem?_cons_zero, List.getElem?_cons_succ, List.set_cons_zero, List.set_cons_succ, List.cons_append, List.nil_append, if_true, if_false, Bool.false_eq_true, reduceCtorEq, Nat.sub_self, Nat.reduceSub, Nat.reduceAdd, Nat.reduceLeDiff, Int.reduceLE, Int.reduceLT, Int.reducePow, Int.reduceToNat, Int.reduceNeg, Option.map_some, Option.map_none, Bool.not_true, Bool.not_false, ite_true, ite_false, decide_eq_true_eq, decide_true, decide_false, Bool.not_eq_true']
  · simp only [x_strI, Int.reduceEq, p10_1, p10_2, p10_3, p10_4, p10_5, p10_6, p10_7, p10_8, p10_9, p10_10, p10_11, p10_12, p10_13, p10_14, p10_15, p10_16, p10_17, p10_18, at_c0, at_c1, at_c2, at_c3, at_c4, at_c5, ix_30, ix_31, ix_32, subS, gSet, wr, ix_str, ix_lst, ix_tup, ix_ktup, ix_scr, gEq_str, gNe_str, gEq_int, gNe_int, gEq_bl, gIn_sign, gNotIn_sign, gAll_bls, lt_one, w_sl, w_c, w_op2, w_op1, w_evs0, w_evs1, o_rds0, o_rds1, w_opN, o_tks0, o_tks1, w_lst, w_tup, b_val, w_ite, w_mT, w_bAnd, w_bOr, w_bNot, w_bYes, w_and, w_or, w_not, w_if, w_ch, w_pt0, w_pt1, w_slc, w_call, w_meth, w_itr, w_rng1, w_rng2, w_rng3, w_enum, w_zip, s_seq, s_nx, s_rt, s_bk, s_ct, s_pass, s_brk, s_cnt, s_if, s_asg, s_drop, s_ret, s_retN, s_asgT, s_sub, s_box, s_for, o_some, o_none, o_ite, o_map, o_bind, wp_ok, wp_bad, z_val, z_new, z_bor, z_ali, r_non, r_bl, r_int, r_str, r_tup, r_lst, r_dk, r_dt, r_ktup, r_scr, r_glo, r_bor, r_new, r_ali, t_val, t_new, t_bor, t_ali, g_val, g_bor, g_new, g_ali, a_val, a_bor, a_ali, o_args0, o_args1, l_val, l_bor, l_ali, gAdd, gSub, mul_int, gMod, gDiv, gLt, gLe, gGt, gGe, gIsi, tyN, gLen, gNeg, gTuple, gList, gIsN, gNotN, gOrd, gMin, gMax, fNm, fTup, fCons, fNil, itemsOf, seqOf, k_NoneType_str, k_NoneType_tuple, k_NoneType_list, k_NoneType_int, k_NoneType_bool, k_NoneType_dict, k_bool_str, k_bool_tuple, k_bool_list, k_bool_int, k_bool_bool, k_bool_dict, k_int_str, k_int_tuple, k_int_list, k_int_int, k_int_bool, k_int_dict, k_str_str, k_str_tuple, k_str_list, k_str_int, k_str_bool, k_str_dict, k_tuple_str, k_tuple_tuple, k_tuple_list, k_tuple_int, k_tuple_bool, k_tuple_dict, k_list_str, k_list_tuple, k_list_list, k_list_int, k_list_bool, k_list_dict, k_dict_str, k_dict_tuple, k_dict_list, k_dict_int, k_dict_bool, k_dict_dict, slotOf, List.replicate, List.map_cons, List.map_nil, List.length_cons, List.length_nil, List.getElem?_cons_zero, List.getElem?_cons_succ, List.set_cons_zero, List.set_cons_succ, List.cons_append, List.nil_append, if_true, if_false, Bool.false_eq_true, reduceCtorEq, Nat.sub_self, Nat.reduceSub, Nat.reduceAdd, Nat.reduceLeDiff, Int.reduceLE, Int.reduceLT, Int.reducePow, Int.reduceToNat, Int.reduceNeg, Option.map_some, Option.map_none, Bool.not_true, Bool.not_false, ite_true, ite_false, decide_eq_true_eq, decide_true, decide_false, Bool.not_eq_true', restS, restL, keepV, wipeS, wipeL]
    refine ⟨?_, ?_⟩ <;> first | rfl | trivial
theorem lawst_len {one other : List T} : ∀ (l : List Int) (st : List Int × List (Int × Int)), (l.foldl (lawStep one other) st).1.length ≤ st.1.length + l.length ∧ (l.foldl (lawStep one other) st).2.length ≤ st.2.length + l.length
  | [], st => by simp
  | p :: l, st => by
    have h := lawst_len (one := one) (other := other) l (lawStep one other st p)
    have e : (lawStep one other st p).1.length ≤ st.1.length + 1 ∧ (lawStep one other st p).2.length ≤ st.2.length + 1 := by
      unfold lawStep
      split
      · omega
      · split
        · omega
        · simp
    simp only [List.foldl_cons, List.length_cons]
    omega
theorem law_leads_ok {one other : List T} (h1 : isSentP (.tup one) = true) (h2 : isSentP (.tup other) = true) (ce : List T) : IsN (f__law_leads [.val (.tup one), .val (.tup other)] ce) (.lst ((lawLeadsP one other).map pairT)) ce := by
  have l0 : 0 ≤ line := by decide
  have l2 : 2 ≤ line := by decide
  obtain ⟨hl1, _⟩ := sent_words h1
  obtain ⟨hl2, _⟩ := sent_words h2
  refine .of ?_
  unfold f__law_leads runF
  refine WP.endF ?_
  have hK := @law_kind_ok
  have hP := fun {tk : List Int} {pl : Int} {x3 x5 : Slot} => @pick_ok one other h1 h2 tk pl ce x3 x5
  generalize f__law_kind = F at hK ⊢
  have hs : small (other.length : Int) = true := small_nat (by omega)
  simp only [m__law_leads, x_strI, Int.reduceEq, p10_1, p10_2, p10_3, p10_4, p10_5, p10_6, p10_7, p10_8, p10_9, p10_10, p10_11, p10_12, p10_13, p10_14, p10_15, p10_16, p10_17, p10_18, at_c0, at_c1, at_c2, at_c3, at_c4, at_c5, ix_30, ix_31, ix_32, subS, gSet, wr, ix_str, ix_lst, ix_tup, ix_ktup, ix_scr, gEq_str, gNe_str, gEq_int, gNe_int, gEq_bl, gIn_sign, gNotIn_sign, gAll_bls, lt_one, w_sl, w_c, w_op2, w_op1, w_evs0, w_evs1, o_rds0, o_rds1, w_opN, o_tks0, o_tks1, w_lst, w_tup, b_val, w_ite, w_mT, w_bAnd, w_bOr, w_bNot, w_bYes, w_and, w_or, w_not, w_if, w_ch, w_pt0, w_pt1, w_slc, w_call, w_meth, w_itr, w_rng1, w_rng2, w_rng3, w_enum, w_zip, s_seq, s_nx, s_rt, s_bk, s_ct, s_pass, s_brk, s_cnt, s_if, s_asg, s_drop, s_ret, s_retN, s_asgT, s_sub, s_box, s_for, o_some, o_none, o_ite, o_map, o_bind, wp_ok, wp_bad, z_val, z_new, z_bor, z_ali, r_non, r_bl, r_int, r_str, r_tup, r_lst, r_dk, r_dt, r_ktup, r_scr, r_glo, r_bor, r_new, r_ali, t_val, t_new, t_bor, t_ali, g_val, g_bor, g_new, g_ali, a_val, a_bor, a_ali, o_args0, o_args1, l_val, l_bor, l_ali, gAdd, gSub, mul_int, gMod, gDiv, gLt, gLe, gGt, gGe, gIsi, tyN, gLen, gNeg, gTuple, gList, gIsN, gNotN, gOrd, gMin, gMax, fNm, fTup, fCons, fNil, itemsOf, seqOf, k_NoneType_str, k_NoneType_tuple, k_NoneType_list, k_NoneType_int, k_NoneType_bool, k_NoneType_dict, k_bool_str, k_bool_tuple, k_bool_list, k_bool_int, k_bool_bool, k_bool_dict, k_int_str, k_int_tuple, k_int_list, k_int_int, k_int_bool, k_int_dict, k_str_str, k_str_tuple, k_str_list, k_str_int, k_str_bool, k_str_dict, k_tuple_str, k_tuple_tuple, k_tuple_list, k_tuple_int, k_tuple_bool, k_tuple_dict, k_list_str, k_list_tuple, k_list_list, k_list_int, k_list_bool, k_list_dict, k_dict_str, k_dict_tuple, k_dict_list, k_dict_int, k_dict_bool, k_dict_dict, slotOf, List.replicate, List.map_cons, List.map_nil, List.length_cons, List.length_nil, List.getElem?_cons_zero, List.getElem?_cons_succ, List.set_cons_zero, List.set_cons_succ, List.cons_append, List.nil_append, if_true, if_false, Bool.false_eq_true, reduceCtorEq, Nat.sub_self, Nat.reduceSub, Nat.reduceAdd, Nat.reduceLeDiff, Int.reduceLE, Int.reduceLT, Int.reducePow, Int.reduceToNat, Int.reduceNeg, Option.map_some, Option.map_none, Bool.not_true, Bool.not_false, ite_true, ite_false, decide_eq_true_eq, decide_true, decide_false, Bool.not_eq_true', l0, hs, Int.toNat_natCast]
  rw [rangeT_I]
  have hrl : (rangeI other.length).length = other.length := by simp [rangeI]
  refine forL_ix (fun k s => ∃ x4 x5, s = ⟨[.val (.tup one), .val (.tup other), .own (.lst ((((rangeI other.length).take k).foldl (lawStep one other) ([], [])).1.map T.int)), .own (.lst ((((rangeI other.length).take k).foldl (lawStep one other) ([], [])).2.map pairT)), x4, x5, .no], ce⟩) _ 0 _ ⟨.no, .no, rfl⟩ (fun k u s hk ⟨x4, x5, es⟩ => ?_) fun s ⟨x4, x5, es⟩ => ?_
  · subst es
    rw [Nat.zero_add] at *
    obtain ⟨pl, hpl, rfl⟩ : ∃ pl, (rangeI other.length)[k]? = some pl ∧ u = .int pl := by
      rw [List.getElem?_map] at hk
      obtain ⟨pl, e1, e2⟩ := Option.map_eq_some_iff.mp hk
      exact ⟨pl, e1, e2.symm⟩
    have hlt : k < (rangeI other.length).length := (List.getElem?_eq_some_iff.mp hpl).1
    have etake : (rangeI other.length).take (k + 1) = (rangeI other.length).take k ++ [pl] := by
      rw [List.take_add_one, hpl]
      rfl
    have hp : 0 ≤ pl ∧ pl < other.length := by
      obtain ⟨i, hi, rfl⟩ := List.mem_map.mp (List.mem_of_getElem? hpl)
      have := List.mem_range.mp hi
      omega
    rw [etake, List.foldl_append]
    have hll := lawst_len (one := one) (other := other) ((rangeI other.length).take k) ([], [])
    have htl : ((rangeI other.length).take k).length ≤ 40 := by rw [List.length_take]; omega
    generalize ((rangeI other.length).take k).foldl (lawStep one other) ([], []) = st at *
    obtain ⟨tk, lds⟩ := st
    simp only [List.foldl_cons, List.foldl_nil]
    simp only [List.length_nil] at hll
    have h40 : 41 < line := by decide
    have hl3 : (tk.map T.int).length < line := by simp only [List.length_map]; omega
    have hl4 : (lds.map pairT).length < line := by simp only [List.length_map]; omega
    obtain ⟨eo, eo2, c, r, eo3⟩ := at_word h2 hp.1 hp.2
    rw [fNm]
    simp only [List.set_cons_succ, List.set_cons_zero]
    rw [s_if]
    simp only [w_mT, w_op2, w_call, w_evs0, w_evs1, w_sl, w_c, List.getElem?_cons_zero, List.getElem?_cons_succ, z_val, r_tup, r_int, o_some, ix_tup, eo, o_map, o_args0, o_args1, a_val]
    refine (hK (wAt other pl) c r eo3 ce (Nat.le_trans eo2 (by decide))).wp ?_
    simp only [w_c, z_val, r_str, o_some, gNe_str, b_val]
    have hpa : plainAt other pl = decide (kindP c r = sPlain) := by simp only [plainAt, eo3]
    unfold lawStep
    rw [hpa]
    by_cases w3 : kindP c r = [112, 108, 97, 105, 110]
    · have w4 : kindP c r = sPlain := w3
      simp only [w3, decide_true, Bool.not_true, Bool.false_eq_true, if_false, s_pass]
      rw [if_pos (show decide ([112, 108, 97, 105, 110] = sPlain) = true from by decide)]
      exact ⟨_, _, rfl⟩
    · have w4 : ¬ kindP c r = sPlain := w3
      simp only [w3, decide_false, Bool.not_false, if_true]
      rw [if_neg (by rw [decide_eq_false w4]; exact Bool.false_ne_true)]
      rw [s_seq, s_asg]
      refine WP.mono (hP hp) ?_
      rintro _ _ ⟨rfl, rfl⟩
      have hd := dtA_ints ce (lawPick one other tk pl)
      simp only [g_new, o_some, List.set_cons_succ, List.set_cons_zero, s_nx]
      generalize lawPick one other tk pl = fl at *
      cases fl with
      | nil =>
        have hn := gNe_nil hd
        simp only [List.map_nil, List.isEmpty_nil] at hn
        simp only [x_strI, Int.reduceEq, p10_1, p10_2, p10_3, p10_4, p10_5, p10_6, p10_7, p10_8, p10_9, p10_10, p10_11, p10_12, p10_13, p10_14, p10_15, p10_16, p10_17, p10_18, at_c0, at_c1, at_c2, at_c3, at_c4, at_c5, ix_30, ix_31, ix_32, subS, gSet, wr, ix_str, ix_lst, ix_tup, ix_ktup, ix_scr, gEq_str, gNe_str, gEq_int, gNe_int, gEq_bl, gIn_sign, gNotIn_sign, gAll_bls, lt_one, w_sl, w_c, w_op2, w_op1, w_evs0, w_evs1, o_rds0, o_rds1, w_opN, o_tks0, o_tks1, w_lst, w_tup, b_val, w_ite, w_mT, w_bAnd, w_bOr, w_bNot, w_bYes, w_and, w_or, w_not, w_if, w_ch, w_pt0, w_pt1, w_slc, w_call, w_meth, w_itr, w_rng1, w_rng2, w_rng3, w_enum, w_zip, s_seq, s_nx, s_rt, s_bk, s_ct, s_pass, s_brk, s_cnt, s_if, s_asg, s_drop, s_ret, s_retN, s_asgT, s_sub, s_box, s_for, o_some, o_none, o_ite, o_map, o_bind, wp_ok, wp_bad, z_val, z_new, z_bor, z_ali, r_non, r_bl, r_int, r_str, r_tup, r_lst, r_dk, r_dt, r_ktup, r_scr, r_glo, r_bor, r_new, r_ali, t_val, t_new, t_bor, t_ali, g_val, g_bor, g_new, g_ali, a_val, a_bor, a_ali, o_args0, o_args1, l_val, l_bor, l_ali, gAdd, gSub, mul_int, gMod, gDiv, gLt, gLe, gGt, gGe, gIsi, tyN, gLen, gNeg, gTuple, gList, gIsN, gNotN, gOrd, gMin, gMax, fNm, fTup, fCons, fNil, itemsOf, seqOf, k_NoneType_str, k_NoneType_tuple, k_NoneType_list, k_NoneType_int, k_NoneType_bool, k_NoneType_dict, k_bool_str, k_bool_tuple, k_bool_list, k_bool_int, k_bool_bool, k_bool_dict, k_int_str, k_int_tuple, k_int_list, k_int_int, k_int_bool, k_int_dict, k_str_str, k_str_tuple, k_str_list, k_str_int, k_str_bool, k_str_dict, k_tuple_str, k_tuple_tuple, k_tuple_list, k_tuple_int, k_tuple_bool, k_tuple_dict, k_list_str, k_list_tuple, k_list_list, k_list_int, k_list_bool, k_list_dict, k_dict_str, k_dict_tuple, k_dict_list, k_dict_int, k_dict_bool, k_dict_dict, slotOf, List.replicate, List.map_cons, List.map_nil, List.length_cons, List.length_nil, List.getElem?_cons_zero, List.getElem?_cons_succ, List.set_cons_zero, List.set_cons_succ, List.cons_append, List.nil_append, if_true, if_false, Bool.false_eq_true, reduceCtorEq, Nat.sub_self, Nat.reduceSub, Nat.reduceAdd, Nat.reduceLeDiff, Int.reduceLE, Int.reduceLT, Int.reducePow, Int.reduceToNat, Int.reduceNeg, Option.map_some, Option.map_none, Bool.not_true, Bool.not_false, ite_true, ite_false, decide_eq_true_eq, decide_true, decide_false, Bool.not_eq_true', l0, hn, List.map_nil]
        exact ⟨_, _, rfl⟩
      | cons g gs =>
        have hn := gNe_nil hd
        simp only [List.map_cons, List.isEmpty_cons] at hn
        simp only [x_strI, Int.reduceEq, p10_1, p10_2, p10_3, p10_4, p10_5, p10_6, p10_7, p10_8, p10_9, p10_10, p10_11, p10_12, p10_13, p10_14, p10_15, p10_16, p10_17, p10_18, at_c0, at_c1, at_c2, at_c3, at_c4, at_c5, ix_30, ix_31, ix_32, subS, gSet, wr, ix_str, ix_lst, ix_tup, ix_ktup, ix_scr, gEq_str, gNe_str, gEq_int, gNe_int, gEq_bl, gIn_sign, gNotIn_sign, gAll_bls, lt_one, w_sl, w_c, w_op2, w_op1, w_evs0, w_evs1, o_rds0, o_rds1, w_opN, o_tks0, o_tks1, w_lst, w_tup, b_val, w_ite, w_mT, w_bAnd, w_bOr, w_bNot, w_bYes, w_and, w_or, w_not, w_if, w_ch, w_pt0, w_pt1, w_slc, w_call, w_meth, w_itr, w_rng1, w_rng2, w_rng3, w_enum, w_zip, s_seq, s_nx, s_rt, s_bk, s_ct, s_pass, s_brk, s_cnt, s_if, s_asg, s_drop, s_ret, s_retN, s_asgT, s_sub, s_box, s_for, o_some, o_none, o_ite, o_map, o_bind, wp_ok, wp_bad, z_val, z_new, z_bor, z_ali, r_non, r_bl, r_int, r_str, r_tup, r_lst, r_dk, r_dt, r_ktup, r_scr, r_glo, r_bor, r_new, r_ali, t_val, t_new, t_bor, t_ali, g_val, g_bor, g_new, g_ali, a_val, a_bor, a_ali, o_args0, o_args1, l_val, l_bor, l_ali, gAdd, gSub, mul_int, gMod, gDiv, gLt, gLe, gGt, gGe, gIsi, tyN, gLen, gNeg, gTuple, gList, gIsN, gNotN, gOrd, gMin, gMax, fNm, fTup, fCons, fNil, itemsOf, seqOf, k_NoneType_str, k_NoneType_tuple, k_NoneType_list, k_NoneType_int, k_NoneType_bool, k_NoneType_dict, k_bool_str, k_bool_tuple, k_bool_list, k_bool_int, k_bool_bool, k_bool_dict, k_int_str, k_int_tuple, k_int_list, k_int_int, k_int_bool, k_int_dict, k_str_str, k_str_tuple, k_str_list, k_str_int, k_str_bool, k_str_dict, k_tuple_str, k_tuple_tuple, k_tuple_list, k_tuple_int, k_tuple_bool, k_tuple_dict, k_list_str, k_list_tuple, k_list_list, k_list_int, k_list_bool, k_list_dict, k_dict_str, k_dict_tuple, k_dict_list, k_dict_int, k_dict_bool, k_dict_dict, slotOf, List.replicate, List.map_cons, List.map_nil, List.length_cons, List.length_nil, List.getElem?_cons_zero, List.getElem?_cons_succ, List.set_cons_zero, List.set_cons_succ, List.cons_append, List.nil_append, if_true, if_false, Bool.false_eq_true, reduceCtorEq, Nat.sub_self, Nat.reduceSub, Nat.reduceAdd, Nat.reduceLeDiff, Int.reduceLE, Int.reduceLT, Int.reducePow, Int.reduceToNat, Int.reduceNeg, Option.map_some, Option.map_none, Bool.not_true, Bool.not_false, ite_true, ite_false, decide_eq_true_eq, decide_true, decide_false, Bool.not_eq_true', l0, l2, hn, methS, isL, gApp, hl3, hl4]
        refine ⟨.val (.int pl), .own (.lst (T.int g :: gs.map T.int)), ?_⟩
        rw [List.map_append, List.map_append]
        rfl
  · subst es
    rw [List.length_map, Nat.zero_add, List.take_length]
    simp only [x_strI, Int.reduceEq, p10_1, p10_2, p10_3, p10_4, p10_5, p10_6, p10_7, p10_8, p10_9, p10_10, p10_11, p10_12, p10_13, p10_14, p10_15, p10_16, p10_17, p10_18, at_c0, at_c1, at_c2, at_c3, at_c4, at_c5, ix_30, ix_31, ix_32, subS, gSet, wr, ix_str, ix_lst, ix_tup, ix_ktup, ix_scr, gEq_str, gNe_str, gEq_int, gNe_int, gEq_bl, gIn_sign, gNotIn_sign, gAll_bls, lt_one, w_sl, w_c, w_op2, w_op1, w_evs0, w_evs1, o_rds0, o_rds1, w_opN, o_tks0, o_tks1, w_lst, w_tup, b_val, w_ite, w_mT, w_bAnd, w_bOr, w_bNot, w_bYes, w_and, w_or, w_not, w_if, w_ch, w_pt0, w_pt1, w_slc, w_call, w_meth, w_itr, w_rng1, w_rng2, w_rng3, w_enum, w_zip, s_seq, s_nx, s_rt, s_bk, s_ct, s_pass, s_brk, s_cnt, s_if, s_asg, s_drop, s_ret, s_retN, s_asgT, s_sub, s_box, s_for, o_some, o_none, o_ite, o_map, o_bind, wp_ok, wp_bad, z_val, z_new, z_bor, z_ali, r_non, r_bl, r_int, r_str, r_tup, r_lst, r_dk, r_dt, r_ktup, r_scr, r_glo, r_bor, r_new, r_ali, t_val, t_new, t_bor, t_ali, g_val, g_bor, g_new, g_ali, a_val, a_bor, a_ali, o_args0, o_args1, l_val, l_bor, l_ali, gAdd, gSub, mul_int, gMod, gDiv, gLt, gLe, gGt, gGe, gIsi, tyN, gLen, gNeg, gTuple, gList, gIsN, gNotN, gOrd, gMin, gMax, fNm, fTup, fCons, fNil, itemsOf, seqOf, k_NoneType_str, k_NoneType_tuple, k_NoneType_list, k_NoneType_int, k_NoneType_bool, k_NoneType_dict, k_bool_str, k_bool_tuple, k_bool_list, k_bool_int, k_bool_bool, k_bool_dict, k_int_str, k_int_tuple, k_int_list, k_int_int, k_int_bool, k_int_dict, k_str_str, k_str_tuple, k_str_list, k_str_int, k_str_bool, k_str_dict, k_tuple_str, k_tuple_tuple, k_tuple_list, k_tuple_int, k_tuple_bool, k_tuple_dict, k_list_str, k_list_tuple, k_list_list, k_list_int, k_list_bool, k_list_dict, k_dict_str, k_dict_tuple, k_dict_list, k_dict_int, k_dict_bool, k_dict_dict, slotOf, List.replicate, List.map_cons, List.map_nil, List.length_cons, List.length_nil, List.getElem?_cons_zero, List.getElem?_cons_succ, List.set_cons_zero, List.set_cons_succ, List.cons_append, List.nil_append, if_true, if_false, Bool.false_eq_true, reduceCtorEq, Nat.sub_self, Nat.reduceSub, Nat.reduceAdd, Nat.reduceLeDiff, Int.reduceLE, Int.reduceLT, Int.reducePow, Int.reduceToNat, Int.reduceNeg, Option.map_some, Option.map_none, Bool.not_true, Bool.not_false, ite_true, ite_false, decide_eq_true_eq, decide_true, decide_false, Bool.not_eq_true']
    refine ⟨?_, ?_⟩
    · rfl
    · first | rfl | trivial
theorem gaps_range {ts : List T} (h : isSentP (.tup ts) = true) : gapsP ts = (rangeI ts.length).filter fun k => !plainAt ts k := by
  obtain ⟨_, hw⟩ := sent_words h
  unfold gapsP rangeI
  rw [zip_off (fun u i => gapT i u) ts 0, ← List.range_eq_range', List.filter_map, ← List.filterMap_eq_map, ← List.filterMap_eq_filter, List.filterMap_filterMap]
  refine fm_congr fun i hi => ?_
  have hi := List.mem_range.mp hi
  obtain ⟨x, c, r, e, hx, _⟩ := hw ts[i] (List.getElem_mem _)
  have e2 : wAt ts (i : Int) = x := by simp only [wAt, Int.toNat_natCast, List.getElem?_eq_getElem hi, e]
  have e3 : plainAt ts (i : Int) = decide (kindP c r = sPlain) := by simp only [plainAt, e2, hx]
  simp only [Nat.sub_zero, List.getElem?_eq_getElem hi, gapT, e, Function.comp, Option.guard, e3]
  subst hx
  simp only [kindT]
  by_cases q : kindP c r = sPlain <;> simp [q]
theorem plain_eq {one other : List T} {k p : Int} (h : wAt one k = wAt other p) : plainAt one k = plainAt other p := by
  unfold plainAt
  rw [h]
theorem pick_eq {one other : List T} (h1 : isSentP (.tup one) = true) {tk : List Int} {p : Int} (hp : plainAt other p = false) : lawPick one other tk p = (((gapsP one).filter fun k => !decide (k ∈ tk)).filter fun g => decide (wAt one g = wAt other p)) := by
  unfold lawPick
  rw [gaps_range h1, List.filter_filter, List.filter_filter]
  refine List.filter_congr fun k hk => ?_
  by_cases q : wAt one k = wAt other p
  · rw [plain_eq q, hp]
    simp [q]
  · simp [q]
theorem rangeI_nodup (n : Nat) : (rangeI n).Nodup := by
  unfold rangeI
  refine List.Pairwise.map _ (fun a b h z => h ?_) (List.nodup_range)
  omega
theorem gaps_nodup {ts : List T} (h : isSentP (.tup ts) = true) : (gapsP ts).Nodup := by
  rw [gaps_range h]
  exact (rangeI_nodup _).filter _
theorem filter_erase {tk : List Int} {g : Int} : ∀ {l : List Int}, l.Nodup → (l.filter fun k => !decide (k ∈ tk)).erase g = l.filter fun k => !decide (k ∈ tk ++ [g])
  | l, h => by
    rw [List.Nodup.erase_eq_filter (h.filter _), List.filter_filter]
    refine List.filter_congr fun k _ => ?_
    by_cases q1 : k ∈ tk <;> by_cases q2 : k = g <;> simp [q1, q2]
theorem fold_eq {one other : List T} (h1 : isSentP (.tup one) = true) : ∀ (l : List Int) (tk : List Int) (lds : List (Int × Int)), ((l.filter fun k => !plainAt other k).foldl (leadStep one other) ((gapsP one).filter (fun k => !decide (k ∈ tk)), lds)).2 = (l.foldl (lawStep one other) (tk, lds)).2
  | [], tk, lds => rfl
  | p :: l, tk, lds => by
    rw [List.filter_cons]
    cases q : plainAt other p with
    | true =>
      simp only [Bool.not_true, Bool.false_eq_true, if_false, List.foldl_cons]
      have : lawStep one other (tk, lds) p = (tk, lds) := by unfold lawStep; rw [q]; rfl
      rw [this]
      exact fold_eq h1 l tk lds
    | false =>
      simp only [Bool.not_false, if_true, List.foldl_cons]
      have e := pick_eq (one := one) (other := other) h1 (tk := tk) q
      have s1 : lawStep one other (tk, lds) p = match lawPick one other tk p with
        | [] => (tk, lds)
        | g :: _ => (tk ++ [g], lds ++ [(g, p)]) := by unfold lawStep; rw [q]; rfl
      have s2 : leadStep one other ((gapsP one).filter (fun k => !decide (k ∈ tk)), lds) p = match lawPick one other tk p with
        | [] => ((gapsP one).filter (fun k => !decide (k ∈ tk)), lds)
        | g :: _ => (((gapsP one).filter (fun k => !decide (k ∈ tk))).erase g, lds ++ [(g, p)]) := by
        unfold leadStep
        rw [e]
        all_goals rfl
      rw [s1, s2]
      cases lawPick one other tk p with
      | nil => exact fold_eq h1 l tk lds
      | cons g gs =>
        simp only
        rw [filter_erase (gaps_nodup h1)]
        exact fold_eq h1 l _ _
theorem leads_eq {one other : List T} (h1 : isSentP (.tup one) = true) (h2 : isSentP (.tup other) = true) : leadsP one other = lawLeadsP one other := by
  unfold leadsP lawLeadsP
  have := fold_eq (other := other) h1 (rangeI other.length) [] []
  rw [← this, gaps_range h2]
  congr 2
  congr 1
  exact (List.filter_eq_self.mpr fun k _ => by simp).symm
def kindAt (ts : List T) (k : Int) : List Nat := match wAt ts k with
  | c :: r => kindP c r
  | [] => []
def mouldP (one other : List T) : List T := (rangeI one.length).map fun k => if k ∈ ledP one other then .tup [.str (kindAt one k)] else .str (wAt one k)
theorem mould_of_ok {one other : List T} {n m : Nat} (t1 : Th n (.tup one)) (t2 : Th m (.tup other)) (h1 : isSentP (.tup one) = true) (h2 : isSentP (.tup other) = true) (ce : List T) : IsN (f_mould_of [.val (.tup one), .val (.tup other)] ce) (.lst (mouldP one other)) ce := by
  have l0 : 0 ≤ line := by decide
  have l1 : 1 ≤ line := by decide
  obtain ⟨hl1, _⟩ := sent_words h1
  have hL := led_gaps_ok t1 t2 h1 h2 ce
  have hK := @kind_of_ok
  refine .of ?_
  unfold f_mould_of runF
  refine WP.endF ?_
  generalize f_led_gaps = F1 at hL ⊢
  generalize f_kind_of = F2 at hK ⊢
  simp only [m_mould_of, x_strI, Int.reduceEq, p10_1, p10_2, p10_3, p10_4, p10_5, p10_6, p10_7, p10_8, p10_9, p10_10, p10_11, p10_12, p10_13, p10_14, p10_15, p10_16, p10_17, p10_18, at_c0, at_c1, at_c2, at_c3, at_c4, at_c5, ix_30, ix_31, ix_32, subS, gSet, wr, ix_str, ix_lst, ix_tup, ix_ktup, ix_scr, gEq_str, gNe_str, gEq_int, gNe_int, gEq_bl, gIn_sign, gNotIn_sign, gAll_bls, lt_one, w_sl, w_c, w_op2, w_op1, w_evs0, w_evs1, o_rds0, o_rds1, w_opN, o_tks0, o_tks1, w_lst, w_tup, b_val, w_ite, w_mT, w_bAnd, w_bOr, w_bNot, w_bYes, w_and, w_or, w_not, w_if, w_ch, w_pt0, w_pt1, w_slc, w_call, w_meth, w_itr, w_rng1, w_rng2, w_rng3, w_enum, w_zip, s_seq, s_nx, s_rt, s_bk, s_ct, s_pass, s_brk, s_cnt, s_if, s_asg, s_drop, s_ret, s_retN, s_asgT, s_sub, s_box, s_for, o_some, o_none, o_ite, o_map, o_bind, wp_ok, wp_bad, z_val, z_new, z_bor, z_ali, r_non, r_bl, r_int, r_str, r_tup, r_lst, r_dk, r_dt, r_ktup, r_scr, r_glo, r_bor, r_new, r_ali, t_val, t_new, t_bor, t_ali, g_val, g_bor, g_new, g_ali, a_val, a_bor, a_ali, o_args0, o_args1, l_val, l_bor, l_ali, gAdd, gSub, mul_int, gMod, gDiv, gLt, gLe, gGt, gGe, gIsi, tyN, gLen, gNeg, gTuple, gList, gIsN, gNotN, gOrd, gMin, gMax, fNm, fTup, fCons, fNil, itemsOf, seqOf, k_NoneType_str, k_NoneType_tuple, k_NoneType_list, k_NoneType_int, k_NoneType_bool, k_NoneType_dict, k_bool_str, k_bool_tuple, k_bool_list, k_bool_int, k_bool_bool, k_bool_dict, k_int_str, k_int_tuple, k_int_list, k_int_int, k_int_bool, k_int_dict, k_str_str, k_str_tuple, k_str_list, k_str_int, k_str_bool, k_str_dict, k_tuple_str, k_tuple_tuple, k_tuple_list, k_tuple_int, k_tuple_bool, k_tuple_dict, k_list_str, k_list_tuple, k_list_list, k_list_int, k_list_bool, k_list_dict, k_dict_str, k_dict_tuple, k_dict_list, k_dict_int, k_dict_bool, k_dict_dict, slotOf, List.replicate, List.map_cons, List.map_nil, List.length_cons, List.length_nil, List.getElem?_cons_zero, List.getElem?_cons_succ, List.set_cons_zero, List.set_cons_succ, List.cons_append, List.nil_append, if_true, if_false, Bool.false_eq_true, reduceCtorEq, Nat.sub_self, Nat.reduceSub, Nat.reduceAdd, Nat.reduceLeDiff, Int.reduceLE, Int.reduceLT, Int.reducePow, Int.reduceToNat, Int.reduceNeg, Option.map_some, Option.map_none, Bool.not_true, Bool.not_false, ite_true, ite_false, decide_eq_true_eq, decide_true, decide_false, Bool.not_eq_true']
  refine hL.wp ?_
  simp only [x_strI, Int.reduceEq, p10_1, p10_2, p10_3, p10_4, p10_5, p10_6, p10_7, p10_8, p10_9, p10_10, p10_11, p10_12, p10_13, p10_14, p10_15, p10_16, p10_17, p10_18, at_c0, at_c1, at_c2, at_c3, at_c4, at_c5, ix_30, ix_31, ix_32, subS, gSet, wr, ix_str, ix_lst, ix_tup, ix_ktup, ix_scr, gEq_str, gNe_str, gEq_int, gNe_int, gEq_bl, gIn_sign, gNotIn_sign, gAll_bls, lt_one, w_sl, w_c, w_op2, w_op1, w_evs0, w_evs1, o_rds0, o_rds1, w_opN, o_tks0, o_tks1, w_lst, w_tup, b_val, w_ite, w_mT, w_bAnd, w_bOr, w_bNot, w_bYes, w_and, w_or, w_not, w_if, w_ch, w_pt0, w_pt1, w_slc, w_call, w_meth, w_itr, w_rng1, w_rng2, w_rng3, w_enum, w_zip, s_seq, s_nx, s_rt, s_bk, s_ct, s_pass, s_brk, s_cnt, s_if, s_asg, s_drop, s_ret, s_retN, s_asgT, s_sub, s_box, s_for, o_some, o_none, o_ite, o_map, o_bind, wp_ok, wp_bad, z_val, z_new, z_bor, z_ali, r_non, r_bl, r_int, r_str, r_tup, r_lst, r_dk, r_dt, r_ktup, r_scr, r_glo, r_bor, r_new, r_ali, t_val, t_new, t_bor, t_ali, g_val, g_bor, g_new, g_ali, a_val, a_bor, a_ali, o_args0, o_args1, l_val, l_bor, l_ali, gAdd, gSub, mul_int, gMod, gDiv, gLt, gLe, gGt, gGe, gIsi, tyN, gLen, gNeg, gTuple, gList, gIsN, gNotN, gOrd, gMin, gMax, fNm, fTup, fCons, fNil, itemsOf, seqOf, k_NoneType_str, k_NoneType_tuple, k_NoneType_list, k_NoneType_int, k_NoneType_bool, k_NoneType_dict, k_bool_str, k_bool_tuple, k_bool_list, k_bool_int, k_bool_bool, k_bool_dict, k_int_str, k_int_tuple, k_int_list, k_int_int, k_int_bool, k_int_dict, k_str_str, k_str_tuple, k_str_list, k_str_int, k_str_bool, k_str_dict, k_tuple_str, k_tuple_tuple, k_tuple_list, k_tuple_int, k_tuple_bool, k_tuple_dict, k_list_str, k_list_tuple, k_list_list, k_list_int, k_list_bool, k_list_dict, k_dict_str, k_dict_tuple, k_dict_list, k_dict_int, k_dict_bool, k_dict_dict, slotOf, List.replicate, List.map_cons, List.map_nil, List.length_cons, List.length_nil, List.getElem?_cons_zero, List.getElem?_cons_succ, List.set_cons_zero, List.set_cons_succ, List.cons_append, List.nil_append, if_true, if_false, Bool.false_eq_true, reduceCtorEq, Nat.sub_self, Nat.reduceSub, Nat.reduceAdd, Nat.reduceLeDiff, Int.reduceLE, Int.reduceLT, Int.reducePow, Int.reduceToNat, Int.reduceNeg, Option.map_some, Option.map_none, Bool.not_true, Bool.not_false, ite_true, ite_false, decide_eq_true_eq, decide_true, decide_false, Bool.not_eq_true', l0]
  have hen : (enumT one).length = one.length := by simp [enumT]
  refine forL_ix (fun k s => ∃ x4 x5, s = ⟨[.val (.tup one), .val (.tup other), .own (.lst ((ledP one other).map T.int)), .own (.lst ((mouldP one other).take k)), x4, x5], ce⟩) _ 0 _ ⟨.no, .no, rfl⟩ (fun k u s hk ⟨x4, x5, es⟩ => ?_) fun s ⟨x4, x5, es⟩ => ?_
  · subst es
    rw [Nat.zero_add] at *
    obtain ⟨v, hv, rfl⟩ := enumT_get hk
    have hk2 : k < one.length := (List.getElem?_eq_some_iff.mp hv).1
    obtain ⟨ea, ea2, c, r, ea3⟩ := at_word h1 (k := (k : Int)) (by omega) (by omega)
    have ev : v = .str (wAt one k) := by
      have : one[k]? = some (.str (wAt one (k : Int))) := by
        obtain ⟨hl, hw⟩ := sent_words h1
        obtain ⟨x, c, r, e, hx, _⟩ := hw one[k] (List.getElem_mem _)
        rw [List.getElem?_eq_getElem hk2, e]
        simp only [wAt, Int.toNat_natCast, List.getElem?_eq_getElem hk2, e]
      rw [hv] at this
      exact Option.some.inj this
    subst ev
    have em : (mouldP one other)[k]? = some (if (k : Int) ∈ ledP one other then .tup [.str (kindAt one k)] else .str (wAt one k)) := by
      unfold mouldP rangeI
      simp [hk2]
    have etake : (mouldP one other).take (k + 1) = (mouldP one other).take k ++ [if (k : Int) ∈ ledP one other then .tup [.str (kindAt one k)] else .str (wAt one k)] := by
      rw [List.take_add_one, em]
      rfl
    have hlt : ((mouldP one other).take k).length < line := by
      have h40 : 41 < line := by decide
      rw [List.length_take]
      omega
    rw [etake]
    simp only [x_strI, Int.reduceEq, p10_1, p10_2, p10_3, p10_4, p10_5, p10_6, p10_7, p10_8, p10_9, p10_10, p10_11, p10_12, p10_13, p10_14, p10_15, p10_16, p10_17, p10_18, at_c0, at_c1, at_c2, at_c3, at_c4, at_c5, ix_30, ix_31, ix_32, subS, gSet, wr, ix_str, ix_lst, ix_tup, ix_ktup, ix_scr, gEq_str, gNe_str, gEq_int, gNe_int, gEq_bl, gIn_sign, gNotIn_sign, gAll_bls, lt_one, w_sl, w_c, w_op2, w_op1, w_evs0, w_evs1, o_rds0, o_rds1, w_opN, o_tks0, o_tks1, w_lst, w_tup, b_val, w_ite, w_mT, w_bAnd, w_bOr, w_bNot, w_bYes, w_and, w_or, w_not, w_if, w_ch, w_pt0, w_pt1, w_slc, w_call, w_meth, w_itr, w_rng1, w_rng2, w_rng3, w_enum, w_zip, s_seq, s_nx, s_rt, s_bk, s_ct, s_pass, s_brk, s_cnt, s_if, s_asg, s_drop, s_ret, s_retN, s_asgT, s_sub, s_box, s_for, o_some, o_none, o_ite, o_map, o_bind, wp_ok, wp_bad, z_val, z_new, z_bor, z_ali, r_non, r_bl, r_int, r_str, r_tup, r_lst, r_dk, r_dt, r_ktup, r_scr, r_glo, r_bor, r_new, r_ali, t_val, t_new, t_bor, t_ali, g_val, g_bor, g_new, g_ali, a_val, a_bor, a_ali, o_args0, o_args1, l_val, l_bor, l_ali, gAdd, gSub, mul_int, gMod, gDiv, gLt, gLe, gGt, gGe, gIsi, tyN, gLen, gNeg, gTuple, gList, gIsN, gNotN, gOrd, gMin, gMax, fNm, fTup, fCons, fNil, itemsOf, seqOf, k_NoneType_str, k_NoneType_tuple, k_NoneType_list, k_NoneType_int, k_NoneType_bool, k_NoneType_dict, k_bool_str, k_bool_tuple, k_bool_list, k_bool_int, k_bool_bool, k_bool_dict, k_int_str, k_int_tuple, k_int_list, k_int_int, k_int_bool, k_int_dict, k_str_str, k_str_tuple, k_str_list, k_str_int, k_str_bool, k_str_dict, k_tuple_str, k_tuple_tuple, k_tuple_list, k_tuple_int, k_tuple_bool, k_tuple_dict, k_list_str, k_list_tuple, k_list_list, k_list_int, k_list_bool, k_list_dict, k_dict_str, k_dict_tuple, k_dict_list, k_dict_int, k_dict_bool, k_dict_dict, slotOf, List.replicate, List.map_cons, List.map_nil, List.length_cons, List.length_nil, List.getElem?_cons_zero, List.getElem?_cons_succ, List.set_cons_zero, List.set_cons_succ, List.cons_append, List.nil_append, if_true, if_false, Bool.false_eq_true, reduceCtorEq, Nat.sub_self, Nat.reduceSub, Nat.reduceAdd, Nat.reduceLeDiff, Int.reduceLE, Int.reduceLT, Int.reducePow, Int.reduceToNat, Int.reduceNeg, Option.map_some, Option.map_none, Bool.not_true, Bool.not_false, ite_true, ite_false, decide_eq_true_eq, decide_true, decide_false, Bool.not_eq_true', gIn_ints]
    by_cases q : (k : Int) ∈ ledP one other
    · simp only [x_strI, Int.reduceEq, p10_1, p10_2, p10_3, p10_4, p10_5, p10_6, p10_7, p10_8, p10_9, p10_10, p10_11, p10_12, p10_13, p10_14, p10_15, p10_16, p10_17, p10_18, at_c0, at_c1, at_c2, at_c3, at_c4, at_c5, ix_30, ix_31, ix_32, subS, gSet, wr, ix_str, ix_lst, ix_tup, ix_ktup, ix_scr, gEq_str, gNe_str, gEq_int, gNe_int, gEq_bl, gIn_sign, gNotIn_sign, gAll_bls, lt_one, w_sl, w_c, w_op2, w_op1, w_evs0, w_evs1, o_rds0, o_rds1, w_opN, o_tks0, o_tks1, w_lst, w_tup, b_val, w_ite, w_mT, w_bAnd, w_bOr, w_bNot, w_bYes, w_and, w_or, w_not, w_if, w_ch, w_pt0, w_pt1, w_slc, w_call, w_meth, w_itr, w_rng1, w_rng2, w_rng3, w_enum, w_zip, s_seq, s_nx, s_rt, s_bk, s_ct, s_pass, s_brk, s_cnt, s_if, s_asg, s_drop, s_ret, s_retN, s_asgT, s_sub, s_box, s_for, o_some, o_none, o_ite, o_map, o_bind, wp_ok, wp_bad, z_val, z_new, z_bor, z_ali, r_non, r_bl, r_int, r_str, r_tup, r_lst, r_dk, r_dt, r_ktup, r_scr, r_glo, r_bor, r_new, r_ali, t_val, t_new, t_bor, t_ali, g_val, g_bor, g_new, g_ali, a_val, a_bor, a_ali, o_args0, o_args1, l_val, l_bor, l_ali, gAdd, gSub, mul_int, gMod, gDiv, gLt, gLe, gGt, gGe, gIsi, tyN, gLen, gNeg, gTuple, gList, gIsN, gNotN, gOrd, gMin, gMax, fNm, fTup, fCons, fNil, itemsOf, seqOf, k_NoneType_str, k_NoneType_tuple, k_NoneType_list, k_NoneType_int, k_NoneType_bool, k_NoneType_dict, k_bool_str, k_bool_tuple, k_bool_list, k_bool_int, k_bool_bool, k_bool_dict, k_int_str, k_int_tuple, k_int_list, k_int_int, k_int_bool, k_int_dict, k_str_str, k_str_tuple, k_str_list, k_str_int, k_str_bool, k_str_dict, k_tuple_str, k_tuple_tuple, k_tuple_list, k_tuple_int, k_tuple_bool, k_tuple_dict, k_list_str, k_list_tuple, k_list_list, k_list_int, k_list_bool, k_list_dict, k_dict_str, k_dict_tuple, k_dict_list, k_dict_int, k_dict_bool, k_dict_dict, slotOf, List.replicate, List.map_cons, List.map_nil, List.length_cons, List.length_nil, List.getElem?_cons_zero, List.getElem?_cons_succ, List.set_cons_zero, List.set_cons_succ, List.cons_append, List.nil_append, if_true, if_false, Bool.false_eq_true, reduceCtorEq, Nat.sub_self, Nat.reduceSub, Nat.reduceAdd, Nat.reduceLeDiff, Int.reduceLE, Int.reduceLT, Int.reducePow, Int.reduceToNat, Int.reduceNeg, Option.map_some, Option.map_none, Bool.not_true, Bool.not_false, ite_true, ite_false, decide_eq_true_eq, decide_true, decide_false, Bool.not_eq_true', q, isL]
      refine (hK (wAt one k) c r ea3 ce (Nat.le_trans ea2 (by decide))).wp ?_
      simp only [x_strI, Int.reduceEq, p10_1, p10_2, p10_3, p10_4, p10_5, p10_6, p10_7, p10_8, p10_9, p10_10, p10_11, p10_12, p10_13, p10_14, p10_15, p10_16, p10_17, p10_18, at_c0, at_c1, at_c2, at_c3, at_c4, at_c5, ix_30, ix_31, ix_32, subS, gSet, wr, ix_str, ix_lst, ix_tup, ix_ktup, ix_scr, gEq_str, gNe_str, gEq_int, gNe_int, gEq_bl, gIn_sign, gNotIn_sign, gAll_bls, lt_one, w_sl, w_c, w_op2, w_op1, w_evs0, w_evs1, o_rds0, o_rds1, w_opN, o_tks0, o_tks1, w_lst, w_tup, b_val, w_ite, w_mT, w_bAnd, w_bOr, w_bNot, w_bYes, w_and, w_or, w_not, w_if, w_ch, w_pt0, w_pt1, w_slc, w_call, w_meth, w_itr, w_rng1, w_rng2, w_rng3, w_enum, w_zip, s_seq, s_nx, s_rt, s_bk, s_ct, s_pass, s_brk, s_cnt, s_if, s_asg, s_drop, s_ret, s_retN, s_asgT, s_sub, s_box, s_for, o_some, o_none, o_ite, o_map, o_bind, wp_ok, wp_bad, z_val, z_new, z_bor, z_ali, r_non, r_bl, r_int, r_str, r_tup, r_lst, r_dk, r_dt, r_ktup, r_scr, r_glo, r_bor, r_new, r_ali, t_val, t_new, t_bor, t_ali, g_val, g_bor, g_new, g_ali, a_val, a_bor, a_ali, o_args0, o_args1, l_val, l_bor, l_ali, gAdd, gSub, mul_int, gMod, gDiv, gLt, gLe, gGt, gGe, gIsi, tyN, gLen, gNeg, gTuple, gList, gIsN, gNotN, gOrd, gMin, gMax, fNm, fTup, fCons, fNil, itemsOf, seqOf, k_NoneType_str, k_NoneType_tuple, k_NoneType_list, k_NoneType_int, k_NoneType_bool, k_NoneType_dict, k_bool_str, k_bool_tuple, k_bool_list, k_bool_int, k_bool_bool, k_bool_dict, k_int_str, k_int_tuple, k_int_list, k_int_int, k_int_bool, k_int_dict, k_str_str, k_str_tuple, k_str_list, k_str_int, k_str_bool, k_str_dict, k_tuple_str, k_tuple_tuple, k_tuple_list, k_tuple_int, k_tuple_bool, k_tuple_dict, k_list_str, k_list_tuple, k_list_list, k_list_int, k_list_bool, k_list_dict, k_dict_str, k_dict_tuple, k_dict_list, k_dict_int, k_dict_bool, k_dict_dict, slotOf, List.replicate, List.map_cons, List.map_nil, List.length_cons, List.length_nil, List.getElem?_cons_zero, List.getElem?_cons_succ, List.set_cons_zero, List.set_cons_succ, List.cons_append, List.nil_append, if_true, if_false, Bool.false_eq_true, reduceCtorEq, Nat.sub_self, Nat.reduceSub, Nat.reduceAdd, Nat.reduceLeDiff, Int.reduceLE, Int.reduceLT, Int.reducePow, Int.reduceToNat, Int.reduceNeg, Option.map_some, Option.map_none, Bool.not_true, Bool.not_false, ite_true, ite_false, decide_eq_true_eq, decide_true, decide_false, Bool.not_eq_true', l1, methS, isL, gApp, hlt]
      have ek : kindAt one k = kindP c r := by simp only [kindAt, ea3]
      rw [if_pos q, ek]
      exact ⟨_, _, rfl⟩
    · rw [if_neg q]
      simp only [x_strI, Int.reduceEq, p10_1, p10_2, p10_3, p10_4, p10_5, p10_6, p10_7, p10_8, p10_9, p10_10, p10_11, p10_12, p10_13, p10_14, p10_15, p10_16, p10_17, p10_18, at_c0, at_c1, at_c2, at_c3, at_c4, at_c5, ix_30, ix_31, ix_32, subS, gSet, wr, ix_str, ix_lst, ix_tup, ix_ktup, ix_scr, gEq_str, gNe_str, gEq_int, gNe_int, gEq_bl, gIn_sign, gNotIn_sign, gAll_bls, lt_one, w_sl, w_c, w_op2, w_op1, w_evs0, w_evs1, o_rds0, o_rds1, w_opN, o_tks0, o_tks1, w_lst, w_tup, b_val, w_ite, w_mT, w_bAnd, w_bOr, w_bNot, w_bYes, w_and, w_or, w_not, w_if, w_ch, w_pt0, w_pt1, w_slc, w_call, w_meth, w_itr, w_rng1, w_rng2, w_rng3, w_enum, w_zip, s_seq, s_nx, s_rt, s_bk, s_ct, s_pass, s_brk, s_cnt, s_if, s_asg, s_drop, s_ret, s_retN, s_asgT, s_sub, s_box, s_for, o_some, o_none, o_ite, o_map, o_bind, wp_ok, wp_bad, z_val, z_new, z_bor, z_ali, r_non, r_bl, r_int, r_str, r_tup, r_lst, r_dk, r_dt, r_ktup, r_scr, r_glo, r_bor, r_new, r_ali, t_val, t_new, t_bor, t_ali, g_val, g_bor, g_new, g_ali, a_val, a_bor, a_ali, o_args0, o_args1, l_val, l_bor, l_ali, gAdd, gSub, mul_int, gMod, gDiv, gLt, gLe, gGt, gGe, gIsi, tyN, gLen, gNeg, gTuple, gList, gIsN, gNotN, gOrd, gMin, gMax, fNm, fTup, fCons, fNil, itemsOf, seqOf, k_NoneType_str, k_NoneType_tuple, k_NoneType_list, k_NoneType_int, k_NoneType_bool, k_NoneType_dict, k_bool_str, k_bool_tuple, k_bool_list, k_bool_int, k_bool_bool, k_bool_dict, k_int_str, k_int_tuple, k_int_list, k_int_int, k_int_bool, k_int_dict, k_str_str, k_str_tuple, k_str_list, k_str_int, k_str_bool, k_str_dict, k_tuple_str, k_tuple_tuple, k_tuple_list, k_tuple_int, k_tuple_bool, k_tuple_dict, k_list_str, k_list_tuple, k_list_list, k_list_int, k_list_bool, k_list_dict, k_dict_str, k_dict_tuple, k_dict_list, k_dict_int, k_dict_bool, k_dict_dict, slotOf, List.replicate, List.map_cons, List.map_nil, List.length_cons, List.length_nil, List.getElem?_cons_zero, List.getElem?_cons_succ, List.set_cons_zero, List.set_cons_succ, List.cons_append, List.nil_append, if_true, if_false, Bool.false_eq_true, reduceCtorEq, Nat.sub_self, Nat.reduceSub, Nat.reduceAdd, Nat.reduceLeDiff, Int.reduceLE, Int.reduceLT, Int.reducePow, Int.reduceToNat, Int.reduceNeg, Option.map_some, Option.map_none, Bool.not_true, Bool.not_false, ite_true, ite_false, decide_eq_true_eq, decide_true, decide_false, Bool.not_eq_true', q, l1, methS, isL, gApp, hlt]
      exact ⟨_, _, rfl⟩
  · subst es
    have hml : (mouldP one other).length = one.length := by simp [mouldP, rangeI]
    rw [hen, Nat.zero_add, List.take_of_length_le (by omega)]
    simp only [x_strI, Int.reduceEq, p10_1, p10_2, p10_3, p10_4, p10_5, p10_6, p10_7, p10_8, p10_9, p10_10, p10_11, p10_12, p10_13, p10_14, p10_15, p10_16, p10_17, p10_18, at_c0, at_c1, at_c2, at_c3, at_c4, at_c5, ix_30, ix_31, ix_32, subS, gSet, wr, ix_str, ix_lst, ix_tup, ix_ktup, ix_scr, gEq_str, gNe_str, gEq_int, gNe_int, gEq_bl, gIn_sign, gNotIn_sign, gAll_bls, lt_one, w_sl, w_c, w_op2, w_op1, w_evs0, w_evs1, o_rds0, o_rds1, w_opN, o_tks0, o_tks1, w_lst, w_tup, b_val, w_ite, w_mT, w_bAnd, w_bOr, w_bNot, w_bYes, w_and, w_or, w_not, w_if, w_ch, w_pt0, w_pt1, w_slc, w_call, w_meth, w_itr, w_rng1, w_rng2, w_rng3, w_enum, w_zip, s_seq, s_nx, s_rt, s_bk, s_ct, s_pass, s_brk, s_cnt, s_if, s_asg, s_drop, s_ret, s_retN, s_asgT, s_sub, s_box, s_for, o_some, o_none, o_ite, o_map, o_bind, wp_ok, wp_bad, z_val, z_new, z_bor, z_ali, r_non, r_bl, r_int, r_str, r_tup, r_lst, r_dk, r_dt, r_ktup, r_scr, r_glo, r_bor, r_new, r_ali, t_val, t_new, t_bor, t_ali, g_val, g_bor, g_new, g_ali, a_val, a_bor, a_ali, o_args0, o_args1, l_val, l_bor, l_ali, gAdd, gSub, mul_int, gMod, gDiv, gLt, gLe, gGt, gGe, gIsi, tyN, gLen, gNeg, gTuple, gList, gIsN, gNotN, gOrd, gMin, gMax, fNm, fTup, fCons, fNil, itemsOf, seqOf, k_NoneType_str, k_NoneType_tuple, k_NoneType_list, k_NoneType_int, k_NoneType_bool, k_NoneType_dict, k_bool_str, k_bool_tuple, k_bool_list, k_bool_int, k_bool_bool, k_bool_dict, k_int_str, k_int_tuple, k_int_list, k_int_int, k_int_bool, k_int_dict, k_str_str, k_str_tuple, k_str_list, k_str_int, k_str_bool, k_str_dict, k_tuple_str, k_tuple_tuple, k_tuple_list, k_tuple_int, k_tuple_bool, k_tuple_dict, k_list_str, k_list_tuple, k_list_list, k_list_int, k_list_bool, k_list_dict, k_dict_str, k_dict_tuple, k_dict_list, k_dict_int, k_dict_bool, k_dict_dict, slotOf, List.replicate, List.map_cons, List.map_nil, List.length_cons, List.length_nil, List.getElem?_cons_zero, List.getElem?_cons_succ, List.set_cons_zero, List.set_cons_succ, List.cons_append, List.nil_append, if_true, if_false, Bool.false_eq_true, reduceCtorEq, Nat.sub_self, Nat.reduceSub, Nat.reduceAdd, Nat.reduceLeDiff, Int.reduceLE, Int.reduceLT, Int.reducePow, Int.reduceToNat, Int.reduceNeg, Option.map_some, Option.map_none, Bool.not_true, Bool.not_false, ite_true, ite_false, decide_eq_true_eq, decide_true, decide_false, Bool.not_eq_true']
    refine ⟨?_, ?_⟩ <;> first | rfl | trivial
def mouldAt (one : List T) (led : List Int) : List T := (rangeI one.length).map fun k => if k ∈ led then .tup [.str (kindAt one k)] else .str (wAt one k)
theorem mouldAt_nil {one : List T} (h1 : isSentP (.tup one) = true) : mouldAt one [] = one := by
  apply List.ext_getElem?
  intro i
  unfold mouldAt rangeI
  by_cases hi : i < one.length
  · obtain ⟨_, hw⟩ := sent_words h1
    obtain ⟨x, c, r, e, hx, _⟩ := hw one[i] (List.getElem_mem _)
    rw [List.getElem?_eq_getElem hi, e]
    simp [hi, wAt, e]
  · rw [List.getElem?_eq_none (by simpa using hi), List.getElem?_eq_none (by simpa using hi)]
theorem mouldAt_set {one : List T} {led : List Int} {b : Int} (h0 : 0 ≤ b) (h1 : b < one.length) : (mouldAt one led).set b.toNat (.tup [.str (kindAt one b)]) = mouldAt one (led ++ [b]) := by
  apply List.ext_getElem?
  intro i
  have hlen : (mouldAt one led).length = one.length := by simp [mouldAt, rangeI]
  by_cases hi : i = b.toNat
  · subst hi
    rw [List.getElem?_set_self (by omega)]
    unfold mouldAt rangeI
    have hb : ((b.toNat : Nat) : Int) = b := by omega
    have hl : b.toNat < one.length := by omega
    simp [hl, hb]
  · rw [List.getElem?_set_ne (Ne.symm hi)]
    unfold mouldAt rangeI
    by_cases hl : i < one.length
    · have hne : ¬ ((i : Int) = b) := by omega
      simp [hl, hne]
    · rw [List.getElem?_eq_none (by simpa using hl), List.getElem?_eq_none (by simpa using hl)]
theorem mould_eq (one other : List T) : mouldP one other = mouldAt one ((leadsP one other).map (·.1)) := by
  unfold mouldP mouldAt
  refine List.map_congr_left fun k _ => ?_
  have : k ∈ ledP one other ↔ k ∈ (leadsP one other).map (·.1) := by
    unfold ledP
    exact (List.mergeSort_perm _ _).mem_iff
  simp only [this]
theorem lead_in {one other : List T} : ∀ (l : List Int) (st : List Int × List (Int × Int)), (∀ p ∈ st.2, 0 ≤ p.1 ∧ p.1 < one.length) → ∀ p ∈ (l.foldl (lawStep one other) st).2, 0 ≤ p.1 ∧ p.1 < one.length
  | [], st, h => h
  | q :: l, st, h => by
    refine lead_in l (lawStep one other st q) fun p hp => ?_
    unfold lawStep at hp
    split at hp
    · exact h p hp
    · split at hp
      · exact h p hp
      · rename_i g gs e
        rcases List.mem_append.mp hp with z | z
        · exact h p z
        · simp at z
          subst z
          have hg : g ∈ lawPick one other st.1 q := by rw [e]; simp
          obtain ⟨i, hi, rfl⟩ := List.mem_map.mp (List.mem_filter.mp hg).1
          have := List.mem_range.mp hi
          show (0 : Int) ≤ (i : Int) ∧ (i : Int) < one.length
          omega
theorem law_mould_ok {one other : List T} (h1 : isSentP (.tup one) = true) (h2 : isSentP (.tup other) = true) (ce : List T) : IsN (f__law_mould [.val (.tup one), .val (.tup other)] ce) (.lst (mouldP one other)) ce := by
  have l0 : 0 ≤ line := by decide
  have l1 : 1 ≤ line := by decide
  have hL := law_leads_ok h1 h2 ce
  have hK := @law_kind_ok
  have hin := lead_in (one := one) (other := other) (rangeI other.length) ([], []) (fun _ z => by cases z)
  rw [mould_eq, leads_eq h1 h2]
  change ∀ p ∈ lawLeadsP one other, _ at hin
  generalize lawLeadsP one other = lds at *
  refine .of ?_
  unfold f__law_mould runF
  refine WP.endF ?_
  generalize f__law_leads = F1 at hL ⊢
  generalize f__law_kind = F2 at hK ⊢
  simp only [m__law_mould, x_strI, Int.reduceEq, p10_1, p10_2, p10_3, p10_4, p10_5, p10_6, p10_7, p10_8, p10_9, p10_10, p10_11, p10_12, p10_13, p10_14, p10_15, p10_16, p10_17, p10_18, at_c0, at_c1, at_c2, at_c3, at_c4, at_c5, ix_30, ix_31, ix_32, subS, gSet, wr, ix_str, ix_lst, ix_tup, ix_ktup, ix_scr, gEq_str, gNe_str, gEq_int, gNe_int, gEq_bl, gIn_sign, gNotIn_sign, gAll_bls, lt_one, w_sl, w_c, w_op2, w_op1, w_evs0, w_evs1, o_rds0, o_rds1, w_opN, o_tks0, o_tks1, w_lst, w_tup, b_val, w_ite, w_mT, w_bAnd, w_bOr, w_bNot, w_bYes, w_and, w_or, w_not, w_if, w_ch, w_pt0, w_pt1, w_slc, w_call, w_meth, w_itr, w_rng1, w_rng2, w_rng3, w_enum, w_zip, s_seq, s_nx, s_rt, s_bk, s_ct, s_pass, s_brk, s_cnt, s_if, s_asg, s_drop, s_ret, s_retN, s_asgT, s_sub, s_box, s_for, o_some, o_none, o_ite, o_map, o_bind, wp_ok, wp_bad, z_val, z_new, z_bor, z_ali, r_non, r_bl, r_int, r_str, r_tup, r_lst, r_dk, r_dt, r_ktup, r_scr, r_glo, r_bor, r_new, r_ali, t_val, t_new, t_bor, t_ali, g_val, g_bor, g_new, g_ali, a_val, a_bor, a_ali, o_args0, o_args1, l_val, l_bor, l_ali, gAdd, gSub, mul_int, gMod, gDiv, gLt, gLe, gGt, gGe, gIsi, tyN, gLen, gNeg, gTuple, gList, gIsN, gNotN, gOrd, gMin, gMax, fNm, fTup, fCons, fNil, itemsOf, seqOf, k_NoneType_str, k_NoneType_tuple, k_NoneType_list, k_NoneType_int, k_NoneType_bool, k_NoneType_dict, k_bool_str, k_bool_tuple, k_bool_list, k_bool_int, k_bool_bool, k_bool_dict, k_int_str, k_int_tuple, k_int_list, k_int_int, k_int_bool, k_int_dict, k_str_str, k_str_tuple, k_str_list, k_str_int, k_str_bool, k_str_dict, k_tuple_str, k_tuple_tuple, k_tuple_list, k_tuple_int, k_tuple_bool, k_tuple_dict, k_list_str, k_list_tuple, k_list_list, k_list_int, k_list_bool, k_list_dict, k_dict_str, k_dict_tuple, k_dict_list, k_dict_int, k_dict_bool, k_dict_dict, slotOf, List.replicate, List.map_cons, List.map_nil, List.length_cons, List.length_nil, List.getElem?_cons_zero, List.getElem?_cons_succ, List.set_cons_zero, List.set_cons_succ, List.cons_append, List.nil_append, if_true, if_false, Bool.false_eq_true, reduceCtorEq, Nat.sub_self, Nat.reduceSub, Nat.reduceAdd, Nat.reduceLeDiff, Int.reduceLE, Int.reduceLT, Int.reducePow, Int.reduceToNat, Int.reduceNeg, Option.map_some, Option.map_none, Bool.not_true, Bool.not_false, ite_true, ite_false, decide_eq_true_eq, decide_true, decide_false, Bool.not_eq_true']
  refine hL.wp ?_
  simp only [x_strI, Int.reduceEq, p10_1, p10_2, p10_3, p10_4, p10_5, p10_6, p10_7, p10_8, p10_9, p10_10, p10_11, p10_12, p10_13, p10_14, p10_15, p10_16, p10_17, p10_18, at_c0, at_c1, at_c2, at_c3, at_c4, at_c5, ix_30, ix_31, ix_32, subS, gSet, wr, ix_str, ix_lst, ix_tup, ix_ktup, ix_scr, gEq_str, gNe_str, gEq_int, gNe_int, gEq_bl, gIn_sign, gNotIn_sign, gAll_bls, lt_one, w_sl, w_c, w_op2, w_op1, w_evs0, w_evs1, o_rds0, o_rds1, w_opN, o_tks0, o_tks1, w_lst, w_tup, b_val, w_ite, w_mT, w_bAnd, w_bOr, w_bNot, w_bYes, w_and, w_or, w_not, w_if, w_ch, w_pt0, w_pt1, w_slc, w_call, w_meth, w_itr, w_rng1, w_rng2, w_rng3, w_enum, w_zip, s_seq, s_nx, s_rt, s_bk, s_ct, s_pass, s_brk, s_cnt, s_if, s_asg, s_drop, s_ret, s_retN, s_asgT, s_sub, s_box, s_for, o_some, o_none, o_ite, o_map, o_bind, wp_ok, wp_bad, z_val, z_new, z_bor, z_ali, r_non, r_bl, r_int, r_str, r_tup, r_lst, r_dk, r_dt, r_ktup, r_scr, r_glo, r_bor, r_new, r_ali, t_val, t_new, t_bor, t_ali, g_val, g_bor, g_new, g_ali, a_val, a_bor, a_ali, o_args0, o_args1, l_val, l_bor, l_ali, gAdd, gSub, mul_int, gMod, gDiv, gLt, gLe, gGt, gGe, gIsi, tyN, gLen, gNeg, gTuple, gList, gIsN, gNotN, gOrd, gMin, gMax, fNm, fTup, fCons, fNil, itemsOf, seqOf, k_NoneType_str, k_NoneType_tuple, k_NoneType_list, k_NoneType_int, k_NoneType_bool, k_NoneType_dict, k_bool_str, k_bool_tuple, k_bool_list, k_bool_int, k_bool_bool, k_bool_dict, k_int_str, k_int_tuple, k_int_list, k_int_int, k_int_bool, k_int_dict, k_str_str, k_str_tuple, k_str_list, k_str_int, k_str_bool, k_str_dict, k_tuple_str, k_tuple_tuple, k_tuple_list, k_tuple_int, k_tuple_bool, k_tuple_dict, k_list_str, k_list_tuple, k_list_list, k_list_int, k_list_bool, k_list_dict, k_dict_str, k_dict_tuple, k_dict_list, k_dict_int, k_dict_bool, k_dict_dict, slotOf, List.replicate, List.map_cons, List.map_nil, List.length_cons, List.length_nil, List.getElem?_cons_zero, List.getElem?_cons_succ, List.set_cons_zero, List.set_cons_succ, List.cons_append, List.nil_append, if_true, if_false, Bool.false_eq_true, reduceCtorEq, Nat.sub_self, Nat.reduceSub, Nat.reduceAdd, Nat.reduceLeDiff, Int.reduceLE, Int.reduceLT, Int.reducePow, Int.reduceToNat, Int.reduceNeg, Option.map_some, Option.map_none, Bool.not_true, Bool.not_false, ite_true, ite_false, decide_eq_true_eq, decide_true, decide_false, Bool.not_eq_true']
  refine forL_ix (fun k s => ∃ x3 x4, s = ⟨[.val (.tup one), .val (.tup other), .own (.lst (mouldAt one ((lds.map (·.1)).take k))), x3, x4], ce⟩) _ 0 _ ⟨.no, .no, by simp [mouldAt_nil h1]⟩ (fun k u s hk ⟨x3, x4, es⟩ => ?_) fun s ⟨x3, x4, es⟩ => ?_
  · subst es
    rw [Nat.zero_add] at *
    rw [List.getElem?_map] at hk
    obtain ⟨⟨b, d⟩, e1, rfl⟩ := Option.map_eq_some_iff.mp hk
    have hb := hin _ (List.mem_of_getElem? e1)
    simp only at hb
    obtain ⟨ea, ea2, c, r, ea3⟩ := at_word h1 hb.1 hb.2
    have etake : (lds.map (·.1)).take (k + 1) = (lds.map (·.1)).take k ++ [b] := by
      rw [List.take_add_one, List.getElem?_map, e1]
      rfl
    rw [etake]
    have hlen : (mouldAt one ((lds.map (·.1)).take k)).length = one.length := by simp [mouldAt, rangeI]
    have ei : ixN (mouldAt one ((lds.map (·.1)).take k)).length b = some b.toNat := by
      rw [hlen]
      unfold ixN
      rw [if_pos hb.1, if_pos hb.2]
    have ek : kindAt one b = kindP c r := by simp only [kindAt, ea3]
    have eset := mouldAt_set (led := (lds.map (·.1)).take k) hb.1 hb.2
    rw [ek] at eset
    simp only [pairT, x_strI, Int.reduceEq, p10_1, p10_2, p10_3, p10_4, p10_5, p10_6, p10_7, p10_8, p10_9, p10_10, p10_11, p10_12, p10_13, p10_14, p10_15, p10_16, p10_17, p10_18, at_c0, at_c1, at_c2, at_c3, at_c4, at_c5, ix_30, ix_31, ix_32, subS, gSet, wr, ix_str, ix_lst, ix_tup, ix_ktup, ix_scr, gEq_str, gNe_str, gEq_int, gNe_int, gEq_bl, gIn_sign, gNotIn_sign, gAll_bls, lt_one, w_sl, w_c, w_op2, w_op1, w_evs0, w_evs1, o_rds0, o_rds1, w_opN, o_tks0, o_tks1, w_lst, w_tup, b_val, w_ite, w_mT, w_bAnd, w_bOr, w_bNot, w_bYes, w_and, w_or, w_not, w_if, w_ch, w_pt0, w_pt1, w_slc, w_call, w_meth, w_itr, w_rng1, w_rng2, w_rng3, w_enum, w_zip, s_seq, s_nx, s_rt, s_bk, s_ct, s_pass, s_brk, s_cnt, s_if, s_asg, s_drop, s_ret, s_retN, s_asgT, s_sub, s_box, s_for, o_some, o_none, o_ite, o_map, o_bind, wp_ok, wp_bad, z_val, z_new, z_bor, z_ali, r_non, r_bl, r_int, r_str, r_tup, r_lst, r_dk, r_dt, r_ktup, r_scr, r_glo, r_bor, r_new, r_ali, t_val, t_new, t_bor, t_ali, g_val, g_bor, g_new, g_ali, a_val, a_bor, a_ali, o_args0, o_args1, l_val, l_bor, l_ali, gAdd, gSub, mul_int, gMod, gDiv, gLt, gLe, gGt, gGe, gIsi, tyN, gLen, gNeg, gTuple, gList, gIsN, gNotN, gOrd, gMin, gMax, fNm, fTup, fCons, fNil, itemsOf, seqOf, k_NoneType_str, k_NoneType_tuple, k_NoneType_list, k_NoneType_int, k_NoneType_bool, k_NoneType_dict, k_bool_str, k_bool_tuple, k_bool_list, k_bool_int, k_bool_bool, k_bool_dict, k_int_str, k_int_tuple, k_int_list, k_int_int, k_int_bool, k_int_dict, k_str_str, k_str_tuple, k_str_list, k_str_int, k_str_bool, k_str_dict, k_tuple_str, k_tuple_tuple, k_tuple_list, k_tuple_int, k_tuple_bool, k_tuple_dict, k_list_str, k_list_tuple, k_list_list, k_list_int, k_list_bool, k_list_dict, k_dict_str, k_dict_tuple, k_dict_list, k_dict_int, k_dict_bool, k_dict_dict, slotOf, List.replicate, List.map_cons, List.map_nil, List.length_cons, List.length_nil, List.getElem?_cons_zero, List.getElem?_cons_succ, List.set_cons_zero, List.set_cons_succ, List.cons_append, List.nil_append, if_true, if_false, Bool.false_eq_true, reduceCtorEq, Nat.sub_self, Nat.reduceSub, Nat.reduceAdd, Nat.reduceLeDiff, Int.reduceLE, Int.reduceLT, Int.reducePow, Int.reduceToNat, Int.reduceNeg, Option.map_some, Option.map_none, Bool.not_true, Bool.not_false, ite_true, ite_false, decide_eq_true_eq, decide_true, decide_false, Bool.not_eq_true', ea]
    refine (hK (wAt one b) c r ea3 ce (Nat.le_trans ea2 (by decide))).wp ?_
    simp only [x_strI, Int.reduceEq, p10_1, p10_2, p10_3, p10_4, p10_5, p10_6, p10_7, p10_8, p10_9, p10_10, p10_11, p10_12, p10_13, p10_14, p10_15, p10_16, p10_17, p10_18, at_c0, at_c1, at_c2, at_c3, at_c4, at_c5, ix_30, ix_31, ix_32, subS, gSet, wr, ix_str, ix_lst, ix_tup, ix_ktup, ix_scr, gEq_str, gNe_str, gEq_int, gNe_int, gEq_bl, gIn_sign, gNotIn_sign, gAll_bls, lt_one, w_sl, w_c, w_op2, w_op1, w_evs0, w_evs1, o_rds0, o_rds1, w_opN, o_tks0, o_tks1, w_lst, w_tup, b_val, w_ite, w_mT, w_bAnd, w_bOr, w_bNot, w_bYes, w_and, w_or, w_not, w_if, w_ch, w_pt0, w_pt1, w_slc, w_call, w_meth, w_itr, w_rng1, w_rng2, w_rng3, w_enum, w_zip, s_seq, s_nx, s_rt, s_bk, s_ct, s_pass, s_brk, s_cnt, s_if, s_asg, s_drop, s_ret, s_retN, s_asgT, s_sub, s_box, s_for, o_some, o_none, o_ite, o_map, o_bind, wp_ok, wp_bad, z_val, z_new, z_bor, z_ali, r_non, r_bl, r_int, r_str, r_tup, r_lst, r_dk, r_dt, r_ktup, r_scr, r_glo, r_bor, r_new, r_ali, t_val, t_new, t_bor, t_ali, g_val, g_bor, g_new, g_ali, a_val, a_bor, a_ali, o_args0, o_args1, l_val, l_bor, l_ali, gAdd, gSub, mul_int, gMod, gDiv, gLt, gLe, gGt, gGe, gIsi, tyN, gLen, gNeg, gTuple, gList, gIsN, gNotN, gOrd, gMin, gMax, fNm, fTup, fCons, fNil, itemsOf, seqOf, k_NoneType_str, k_NoneType_tuple, k_NoneType_list, k_NoneType_int, k_NoneType_bool, k_NoneType_dict, k_bool_str, k_bool_tuple, k_bool_list, k_bool_int, k_bool_bool, k_bool_dict, k_int_str, k_int_tuple, k_int_list, k_int_int, k_int_bool, k_int_dict, k_str_str, k_str_tuple, k_str_list, k_str_int, k_str_bool, k_str_dict, k_tuple_str, k_tuple_tuple, k_tuple_list, k_tuple_int, k_tuple_bool, k_tuple_dict, k_list_str, k_list_tuple, k_list_list, k_list_int, k_list_bool, k_list_dict, k_dict_str, k_dict_tuple, k_dict_list, k_dict_int, k_dict_bool, k_dict_dict, slotOf, List.replicate, List.map_cons, List.map_nil, List.length_cons, List.length_nil, List.getElem?_cons_zero, List.getElem?_cons_succ, List.set_cons_zero, List.set_cons_succ, List.cons_append, List.nil_append, if_true, if_false, Bool.false_eq_true, reduceCtorEq, Nat.sub_self, Nat.reduceSub, Nat.reduceAdd, Nat.reduceLeDiff, Int.reduceLE, Int.reduceLT, Int.reducePow, Int.reduceToNat, Int.reduceNeg, Option.map_some, Option.map_none, Bool.not_true, Bool.not_false, ite_true, ite_false, decide_eq_true_eq, decide_true, decide_false, Bool.not_eq_true', l1, ei, eset]
    exact ⟨_, _, rfl⟩
  · subst es
    rw [List.length_map, Nat.zero_add, List.take_of_length_le (by simp)]
    simp only [x_strI, Int.reduceEq, p10_1, p10_2, p10_3, p10_4, p10_5, p10_6, p10_7, p10_8, p10_9, p10_10, p10_11, p10_12, p10_13, p10_14, p10_15, p10_16, p10_17, p10_18, at_c0, at_c1, at_c2, at_c3, at_c4, at_c5, ix_30, ix_31, ix_32, subS, gSet, wr, ix_str, ix_lst, ix_tup, ix_ktup, ix_scr, gEq_str, gNe_str, gEq_int, gNe_int, gEq_bl, gIn_sign, gNotIn_sign, gAll_bls, lt_one, w_sl, w_c, w_op2, w_op1, w_evs0, w_evs1, o_rds0, o_rds1, w_opN, o_tks0, o_tks1, w_lst, w_tup, b_val, w_ite, w_mT, w_bAnd, w_bOr, w_bNot, w_bYes, w_and, w_or, w_not, w_if, w_ch, w_pt0, w_pt1, w_slc, w_call, w_meth, w_itr, w_rng1, w_rng2, w_rng3, w_enum, w_zip, s_seq, s_nx, s_rt, s_bk, s_ct, s_pass, s_brk, s_cnt, s_if, s_asg, s_drop, s_ret, s_retN, s_asgT, s_sub, s_box, s_for, o_some, o_none, o_ite, o_map, o_bind, wp_ok, wp_bad, z_val, z_new, z_bor, z_ali, r_non, r_bl, r_int, r_str, r_tup, r_lst, r_dk, r_dt, r_ktup, r_scr, r_glo, r_bor, r_new, r_ali, t_val, t_new, t_bor, t_ali, g_val, g_bor, g_new, g_ali, a_val, a_bor, a_ali, o_args0, o_args1, l_val, l_bor, l_ali, gAdd, gSub, mul_int, gMod, gDiv, gLt, gLe, gGt, gGe, gIsi, tyN, gLen, gNeg, gTuple, gList, gIsN, gNotN, gOrd, gMin, gMax, fNm, fTup, fCons, fNil, itemsOf, seqOf, k_NoneType_str, k_NoneType_tuple, k_NoneType_list, k_NoneType_int, k_NoneType_bool, k_NoneType_dict, k_bool_str, k_bool_tuple, k_bool_list, k_bool_int, k_bool_bool, k_bool_dict, k_int_str, k_int_tuple, k_int_list, k_int_int, k_int_bool, k_int_dict, k_str_str, k_str_tuple, k_str_list, k_str_int, k_str_bool, k_str_dict, k_tuple_str, k_tuple_tuple, k_tuple_list, k_tuple_int, k_tuple_bool, k_tuple_dict, k_list_str, k_list_tuple, k_list_list, k_list_int, k_list_bool, k_list_dict, k_dict_str, k_dict_tuple, k_dict_list, k_dict_int, k_dict_bool, k_dict_dict, slotOf, List.replicate, List.map_cons, List.map_nil, List.length_cons, List.length_nil, List.getElem?_cons_zero, List.getElem?_cons_succ, List.set_cons_zero, List.set_cons_succ, List.cons_append, List.nil_append, if_true, if_false, Bool.false_eq_true, reduceCtorEq, Nat.sub_self, Nat.reduceSub, Nat.reduceAdd, Nat.reduceLeDiff, Int.reduceLE, Int.reduceLT, Int.reducePow, Int.reduceToNat, Int.reduceNeg, Option.map_some, Option.map_none, Bool.not_true, Bool.not_false, ite_true, ite_false, decide_eq_true_eq, decide_true, decide_false, Bool.not_eq_true']
    refine ⟨?_, ?_⟩ <;> first | rfl | trivial
theorem allSome_refl {α : Type} {f : α → Option PyData} (h : ∀ a d, f a = some d → PyData.eqv d d = true) : ∀ {l : List α} {ds : List PyData}, allSome (l.map f) = some ds → PyData.eqvAll ds ds = true
  | [], ds, e => by cases e; rfl
  | a :: l, ds, e => by
    simp only [List.map_cons] at e
    cases e1 : f a with
    | none => rw [e1] at e; cases e
    | some d =>
      rw [e1] at e
      obtain ⟨ds', e2, rfl⟩ := Option.map_eq_some_iff.mp e
      simp [PyData.eqvAll, h a d e1, allSome_refl h e2]
theorem dat_refl {ce : List T} : ∀ {n : Nat} {t : T} {d : PyData}, dat ce n t = some d → PyData.eqv d d = true
  | 0, t, d, e => by
    cases t with
    | non => cases e; rfl
    | bl b => cases e; simp [PyData.eqv]
    | int i => cases e; simp [PyData.eqv]
    | str x => cases e; simp [PyData.eqv]
    | _ => cases e
  | n + 1, t, d, e => by
    have ih : ∀ a d, dat ce n a = some d → PyData.eqv d d = true := fun a d e => dat_refl e
    cases t with
    | non => cases e; rfl
    | bl b => cases e; simp [PyData.eqv]
    | int i => cases e; simp [PyData.eqv]
    | str x => cases e; simp [PyData.eqv]
    | tup ts => obtain ⟨ds, e1, rfl⟩ := Option.map_eq_some_iff.mp e; rw [PyData.eqv]; exact allSome_refl ih e1
    | ktup ts => obtain ⟨ds, e1, rfl⟩ := Option.map_eq_some_iff.mp e; rw [PyData.eqv]; exact allSome_refl ih e1
    | lst ts => obtain ⟨ds, e1, rfl⟩ := Option.map_eq_some_iff.mp e; rw [PyData.eqv]; exact allSome_refl ih e1
    | glo k =>
      simp only [dat] at e
      split at e
      · obtain ⟨ds, e1, rfl⟩ := Option.map_eq_some_iff.mp e; rw [PyData.eqv]; exact allSome_refl ih e1
      · cases e
    | _ => cases e
theorem eqT_dat {ce : List T} {x y : T} {d : PyData} (h1 : dat ce 40 x = some d) (h2 : dat ce 40 y = some d) : eqT ce x y = some true := by
  simp only [eqT, h1, h2, dat_refl h1]
theorem gNe_dat {ce : List T} {x y : T} {d : PyData} (h1 : dat ce 40 x = some d) (h2 : dat ce 40 y = some d) : gNe ce x y = some (.val (.bl false)) := by simp [gNe, eqT_dat h1 h2]
theorem gEq_dat {ce : List T} {x y : T} {d : PyData} (h1 : dat ce 40 x = some d) (h2 : dat ce 40 y = some d) : gEq ce x y = some (.val (.bl true)) := by simp [gEq, eqT_dat h1 h2]
/-- two boxed lists beside the same ones, plain -/
theorem dat_two {ce : List T} {a b : Nat} {xs ys : List T} {dx dy : List PyData} (ha : ce[a]? = some (.lst xs)) (hb : ce[b]? = some (.lst ys)) (hx : allSome (xs.map (dat ce 38)) = some dx) (hy : allSome (ys.map (dat ce 38)) = some dy) :
    dat ce 40 (.lst [.glo a, .glo b]) = some (.list [.list dx, .list dy]) ∧ dat ce 40 (.lst [.lst xs, .lst ys]) = some (.list [.list dx, .list dy]) := by
  constructor
  · simp [dat, ha, hb, hx, hy, allSome]
  · simp [dat, hx, hy, allSome]
end Vi

set_option Elab.async false
set_option linter.all false
namespace Pm
/-! ### the least price: plain -/
section
variable {M S : Type}
def rest (c : M → S → Nat) : List M → List S → Nat
  | [], ss => 2 * ss.length
  | _ :: ms, [] => 2 * (ms.length + 1)
  | m :: ms, s :: ss => min (rest c ms ss + c m s) (min (rest c ms (s :: ss) + 2) (rest c (m :: ms) ss + 2))
termination_by ms ss => ms.length + ss.length
inductive Al (c : M → S → Nat) : List M → List S → Nat → Prop
  | nil : Al c [] [] 0
  | diag {m s ms ss n} : Al c ms ss n → Al c (m :: ms) (s :: ss) (n + c m s)
  | cut {m ms ss n} : Al c ms ss n → Al c (m :: ms) ss (n + 2)
  | put {s ms ss n} : Al c ms ss n → Al c ms (s :: ss) (n + 2)
variable {c : M → S → Nat}
theorem rest_nil (ss : List S) : rest c [] ss = 2 * ss.length := by rw [rest]
theorem rest_nil' (ms : List M) : rest c ms [] = 2 * ms.length := by
  cases ms with
  | nil => rw [rest]; rfl
  | cons m ms => rw [rest]; rfl
theorem rest_cons (m : M) (ms : List M) (s : S) (ss : List S) : rest c (m :: ms) (s :: ss) = min (rest c ms ss + c m s) (min (rest c ms (s :: ss) + 2) (rest c (m :: ms) ss + 2)) := by rw [rest]
theorem rest_cut (m : M) (ms : List M) (ss : List S) : rest c (m :: ms) ss ≤ rest c ms ss + 2 := by
  cases ss with
  | nil => rw [rest_nil', rest_nil']; simp only [List.length_cons]; omega
  | cons s ss => rw [rest_cons]; omega
theorem rest_put (ms : List M) (s : S) (ss : List S) : rest c ms (s :: ss) ≤ rest c ms ss + 2 := by
  cases ms with
  | nil => rw [rest_nil, rest_nil]; simp only [List.length_cons]; omega
  | cons m ms => rw [rest_cons]; omega
theorem rest_diag (m : M) (ms : List M) (s : S) (ss : List S) : rest c (m :: ms) (s :: ss) ≤ rest c ms ss + c m s := by
  rw [rest_cons]; omega
theorem rest_le {ms : List M} {ss : List S} {n : Nat} (h : Al c ms ss n) : rest c ms ss ≤ n := by
  induction h with
  | nil => rw [rest_nil]; exact Nat.le_refl _
  | @diag m s ms ss n _ ih => have := rest_diag (c := c) m ms s ss; omega
  | @cut m ms ss n _ ih => have := rest_cut (c := c) m ms ss; omega
  | @put s ms ss n _ ih => have := rest_put (c := c) ms s ss; omega
theorem al_nil : ∀ ss : List S, Al c [] ss (2 * ss.length)
  | [] => .nil
  | s :: ss => by have := (al_nil ss).put (s := s); rwa [show 2 * (s :: ss).length = 2 * ss.length + 2 by simp only [List.length_cons]; omega]
theorem al_nil' : ∀ ms : List M, Al c ms [] (2 * ms.length)
  | [] => .nil
  | m :: ms => by have := (al_nil' ms).cut (m := m); rwa [show 2 * (m :: ms).length = 2 * ms.length + 2 by simp only [List.length_cons]; omega]
theorem al_rest : ∀ (ms : List M) (ss : List S), Al c ms ss (rest c ms ss)
  | [], ss => by rw [rest_nil]; exact al_nil ss
  | m :: ms, [] => by rw [rest_nil']; exact al_nil' _
  | m :: ms, s :: ss => by
    have h1 := al_rest ms ss
    have h2 := al_rest ms (s :: ss)
    have h3 := al_rest (m :: ms) ss
    rw [rest_cons]
    rcases Nat.le_total (rest c ms ss + c m s) (min (rest c ms (s :: ss) + 2) (rest c (m :: ms) ss + 2)) with q | q
    · rw [Nat.min_eq_left q]; exact h1.diag
    · rw [Nat.min_eq_right q]
      rcases Nat.le_total (rest c ms (s :: ss) + 2) (rest c (m :: ms) ss + 2) with q | q
      · rw [Nat.min_eq_left q]; exact h2.cut
      · rw [Nat.min_eq_right q]; exact h3.put
termination_by ms ss => ms.length + ss.length
theorem Al.append {ms ms' : List M} {ss ss' : List S} {n n' : Nat} (h : Al c ms ss n) (h' : Al c ms' ss' n') : Al c (ms ++ ms') (ss ++ ss') (n + n') := by
  induction h with
  | nil => simpa using h'
  | @diag m s ms ss n _ ih => rw [show n + c m s + n' = n + n' + c m s by omega]; exact ih.diag
  | cut _ ih => rw [Nat.add_right_comm]; exact ih.cut
  | put _ ih => rw [Nat.add_right_comm]; exact ih.put
theorem Al.reverse {ms : List M} {ss : List S} {n : Nat} (h : Al c ms ss n) : Al c ms.reverse ss.reverse n := by
  induction h with
  | nil => exact .nil
  | @diag m s ms ss n _ ih =>
    rw [List.reverse_cons, List.reverse_cons]
    refine ih.append ?_
    rw [show c m s = 0 + c m s by omega]
    exact Al.nil.diag
  | @cut m ms ss n _ ih =>
    rw [List.reverse_cons]
    have := ih.append (Al.nil.cut (c := c) (m := m))
    simpa using this
  | @put s ms ss n _ ih =>
    rw [List.reverse_cons]
    have := ih.append (Al.nil.put (c := c) (s := s))
    simpa using this
theorem rest_reverse (ms : List M) (ss : List S) : rest c ms.reverse ss.reverse = rest c ms ss := by
  refine Nat.le_antisymm (rest_le (al_rest ms ss).reverse) (rest_le ?_)
  have := (al_rest (c := c) ms.reverse ss.reverse).reverse
  simpa using this
theorem rest_append {ms ms' : List M} {ss ss' : List S} : rest c (ms ++ ms') (ss ++ ss') ≤ rest c ms ss + rest c ms' ss' := rest_le ((al_rest _ _).append (al_rest _ _))
theorem rest_all (ms : List M) (ss : List S) : rest c ms ss ≤ 2 * ms.length + 2 * ss.length := by
  have := rest_append (c := c) (ms := ms) (ms' := []) (ss := []) (ss' := ss)
  rw [List.append_nil, List.nil_append, rest_nil, rest_nil'] at this
  exact this
/-- the length's bound -/
theorem rest_length {ms : List M} {ss : List S} {n : Nat} (h : Al c ms ss n) : 2 * ms.length ≤ n + 2 * ss.length ∧ 2 * ss.length ≤ n + 2 * ms.length := by
  induction h with
  | nil => simp
  | diag _ ih => simp only [List.length_cons]; omega
  | cut _ ih => simp only [List.length_cons]; omega
  | put _ ih => simp only [List.length_cons]; omega
/-- nothing unlike costs nothing -/
theorem al_same {f : M → S} (h : ∀ m, c m (f m) = 0) : ∀ ms : List M, Al c ms (ms.map f) 0
  | [] => .nil
  | m :: ms => by have := (al_same h ms).diag (m := m) (s := f m); rwa [h] at this
theorem rest_same {f : M → S} (h : ∀ m, c m (f m) = 0) (ms : List M) : rest c ms (ms.map f) = 0 := Nat.le_zero.mp (rest_le (al_same h ms))
end
/-! ### a way round -/
section
variable {A B C : Type} {ab : A → B → Nat} {bc : B → C → Nat} {ac : A → C → Nat}
theorem Al.trans (h : ∀ a b c, ac a c ≤ ab a b + bc b c) : ∀ {n : Nat} {as : List A} {bs : List B} {cs : List C} {k : Nat}, Al ab as bs n → Al bc bs cs k → ∃ l, l ≤ n + k ∧ Al ac as cs l := by
  intro n as bs cs k h1
  induction h1 generalizing cs k with
  | nil => intro h2; exact ⟨k, by omega, by
      clear h
      generalize hb : ([] : List B) = bs at h2
      induction h2 with
      | nil => exact .nil
      | diag _ _ => cases hb
      | cut _ _ => cases hb
      | put _ ih => exact (ih hb).put⟩
  | @cut a as bs n _ ih =>
    intro h2
    obtain ⟨l, hl, q⟩ := ih h2
    exact ⟨l + 2, by omega, q.cut⟩
  | @put b as bs n h1 ih =>
    intro h2
    generalize hb : b :: bs = bs' at h2
    induction h2 with
    | nil => cases hb
    | @diag b' c bs'' cs k h2 _ =>
      cases hb
      obtain ⟨l, hl, q⟩ := ih h2
      exact ⟨l + 2, by omega, q.put⟩
    | @cut b' bs'' cs k h2 _ =>
      cases hb
      obtain ⟨l, hl, q⟩ := ih h2
      exact ⟨l, by omega, q⟩
    | @put c bs'' cs k _ ih2 =>
      obtain ⟨l, hl, q⟩ := ih2 hb
      exact ⟨l + 2, by omega, q.put⟩
  | @diag a b as bs n h1 ih =>
    intro h2
    generalize hb : b :: bs = bs' at h2
    induction h2 with
    | nil => cases hb
    | @diag b' c bs'' cs k h2 _ =>
      cases hb
      obtain ⟨l, hl, q⟩ := ih h2
      exact ⟨l + ac a c, by have := h a b c; omega, q.diag⟩
    | @cut b' bs'' cs k h2 _ =>
      cases hb
      obtain ⟨l, hl, q⟩ := ih h2
      exact ⟨l + 2, by omega, q.cut⟩
    | @put c bs'' cs k _ ih2 =>
      obtain ⟨l, hl, q⟩ := ih2 hb
      exact ⟨l + 2, by omega, q.put⟩
theorem rest_trans (h : ∀ a b c, ac a c ≤ ab a b + bc b c) (as : List A) (bs : List B) (cs : List C) : rest ac as cs ≤ rest ab as bs + rest bc bs cs := by
  obtain ⟨l, hl, q⟩ := Al.trans h (al_rest as bs) (al_rest bs cs)
  have := rest_le q
  omega
theorem Al.symm {ba : B → A → Nat} (h : ∀ a b, ba b a = ab a b) {as : List A} {bs : List B} {n : Nat} (q : Al ab as bs n) : Al ba bs as n := by
  induction q with
  | nil => exact .nil
  | @diag a b as bs n _ ih => rw [← h]; exact ih.diag
  | cut _ ih => exact ih.put
  | put _ ih => exact ih.cut
theorem rest_symm {ba : B → A → Nat} (h : ∀ a b, ba b a = ab a b) (as : List A) (bs : List B) : rest ba bs as = rest ab as bs :=
  Nat.le_antisymm (rest_le ((al_rest as bs).symm h)) (rest_le ((al_rest bs as).symm fun b a => (h a b).symm))
end
end Pm

set_option Elab.async false
set_option linter.all false
namespace Pm
/-! ### the table of least prices, from the end: plain -/
section
variable {M S : Type} (c : M → S → Nat)
def tab (ms : List M) : List S → List Nat
  | [] => [rest c ms []]
  | s :: ss => rest c ms (s :: ss) :: tab ms ss
def rowsL (ss : List S) : List M → List (List Nat)
  | [] => [tab c [] ss]
  | m :: ms => tab c (m :: ms) ss :: rowsL ss ms
theorem tab_len (ms : List M) : ∀ ss : List S, (tab c ms ss).length = ss.length + 1
  | [] => rfl
  | s :: ss => by simp [tab, tab_len ms ss]
theorem tab_get (ms : List M) : ∀ (ss : List S) (j : Nat), j ≤ ss.length → (tab c ms ss)[j]? = some (rest c ms (ss.drop j))
  | [], 0, _ => rfl
  | [], _ + 1, h => by simp at h
  | s :: ss, 0, _ => rfl
  | s :: ss, j + 1, h => by
    have := tab_get ms ss j (by simpa using h)
    simpa [tab] using this
theorem rowsL_len (ss : List S) : ∀ ms : List M, (rowsL c ss ms).length = ms.length + 1
  | [] => rfl
  | m :: ms => by simp [rowsL, rowsL_len ss ms]
theorem rowsL_get (ss : List S) : ∀ (ms : List M) (k : Nat), k ≤ ms.length → (rowsL c ss ms)[k]? = some (tab c (ms.drop k) ss)
  | [], 0, _ => rfl
  | [], _ + 1, h => by simp at h
  | m :: ms, 0, _ => rfl
  | m :: ms, k + 1, h => by
    have := rowsL_get ss ms k (by simpa using h)
    simpa [rowsL] using this
theorem tab_nil : ∀ ss : List S, tab c ([] : List M) ss = (List.range (ss.length + 1)).map fun j => 2 * (ss.length - j)
  | [] => by simp [tab, rest_nil]
  | s :: ss => by
    rw [tab, tab_nil ss, rest_nil, List.length_cons, List.range_succ_eq_map (n := ss.length + 1), List.map_cons, List.map_map]
    simp [Function.comp_def]
theorem tab_step (ms : List M) {ss : List S} {j : Nat} {s : S} (h : ss[j]? = some s) : tab c ms (ss.drop j) = rest c ms (s :: ss.drop (j + 1)) :: tab c ms (ss.drop (j + 1)) := by
  obtain ⟨hj, e⟩ := List.getElem?_eq_some_iff.mp h
  rw [List.drop_eq_getElem_cons hj, e]
  rfl
theorem rows_step (ss : List S) {ms : List M} {j : Nat} {m : M} (h : ms[j]? = some m) : rowsL c ss (ms.drop j) = tab c (m :: ms.drop (j + 1)) ss :: rowsL c ss (ms.drop (j + 1)) := by
  obtain ⟨hj, e⟩ := List.getElem?_eq_some_iff.mp h
  rw [List.drop_eq_getElem_cons hj, e]
  rfl
end
end Pm

set_option Elab.async false
set_option linter.all false
namespace Pm
/-! ### all ways to put some of both together -/
def rowsN : Nat → List (List Nat)
  | 0 => [[]]
  | k + 1 => rowsN k ++ (rowsN k).map fun r => r ++ [k]
theorem rowsN_len : ∀ n, (rowsN n).length = 2 ^ n
  | 0 => rfl
  | n + 1 => by simp [rowsN, rowsN_len n, Nat.pow_succ]; omega
theorem rowsN_in : ∀ {n : Nat} {r : List Nat}, r ∈ rowsN n → (∀ k ∈ r, k < n) ∧ r.length ≤ n
  | 0, r, h => by simp [rowsN] at h; subst h; simp
  | n + 1, r, h => by
    simp only [rowsN, List.mem_append, List.mem_map] at h
    rcases h with h | ⟨q, h, rfl⟩
    · have := rowsN_in h
      exact ⟨fun k hk => by have := this.1 k hk; omega, by omega⟩
    · have := rowsN_in h
      refine ⟨fun k hk => ?_, by simp; omega⟩
      rcases List.mem_append.mp hk with z | z
      · have := this.1 k z; omega
      · simp at z; omega
section
variable {M S : Type} {c : M → S → Nat}
def at2 (c : M → S → Nat) (ms : List M) (ss : List S) (p : Nat × Nat) : Nat := match ms[p.1]?, ss[p.2]? with
  | some m, some s => c m s
  | _, _ => 0
def sumC (c : M → S → Nat) (ms : List M) (ss : List S) (row met : List Nat) : Nat := ((row.zip met).map (at2 c ms ss)).sum
theorem sumC_left {ms ms' : List M} {ss ss' : List S} {row met : List Nat} (h1 : ∀ k ∈ row, k < ms.length) (h2 : ∀ k ∈ met, k < ss.length) : sumC c (ms ++ ms') (ss ++ ss') row met = sumC c ms ss row met := by
  unfold sumC
  congr 1
  refine List.map_congr_left fun p hp => ?_
  have q := List.of_mem_zip (a := p.1) (b := p.2) hp
  unfold at2
  rw [List.getElem?_append_left (h1 _ q.1), List.getElem?_append_left (h2 _ q.2)]
theorem sumC_snoc (ms : List M) (ss : List S) (m : M) (s : S) {row met : List Nat} (h1 : ∀ k ∈ row, k < ms.length) (h2 : ∀ k ∈ met, k < ss.length) (hl : row.length = met.length) :
    sumC c (ms ++ [m]) (ss ++ [s]) (row ++ [ms.length]) (met ++ [ss.length]) = sumC c ms ss row met + c m s := by
  have e := sumC_left (c := c) (ms' := [m]) (ss' := [s]) h1 h2
  unfold sumC at e ⊢
  rw [List.zip_append hl, List.map_append, List.sum_append, e]
  simp [at2]
theorem snoc_of {α : Type} {l : List α} {n : Nat} (h : l.length = n + 1) : ∃ l' x, l = l' ++ [x] ∧ l'.length = n := by
  refine ⟨l.dropLast, l.getLast (by intro z; subst z; simp at h), (List.dropLast_concat_getLast _).symm, by simp [h]⟩
theorem al_rows : ∀ (n m : Nat) {ms : List M} {ss : List S} {row met : List Nat}, ms.length = n → ss.length = m → row ∈ rowsN n → met ∈ rowsN m → row.length = met.length → Al c ms ss (2 * (n + m - 2 * row.length) + sumC c ms ss row met)
  | 0, m, ms, ss, row, met, h1, h2, hr, hm, hl => by
    have : ms = [] := List.eq_nil_of_length_eq_zero h1
    subst this
    simp [rowsN] at hr
    subst hr
    have := al_nil (c := c) ss
    rw [h2] at this
    simpa [sumC] using this
  | n + 1, 0, ms, ss, row, met, h1, h2, hr, hm, hl => by
    have : ss = [] := List.eq_nil_of_length_eq_zero h2
    subst this
    simp [rowsN] at hm
    subst hm
    have e : row = [] := List.eq_nil_of_length_eq_zero hl
    subst e
    have := al_nil' (c := c) ms
    rw [h1] at this
    simpa [sumC] using this
  | n + 1, m + 1, ms, ss, row, met, h1, h2, hr, hm, hl => by
    obtain ⟨ms', x, rfl, e1⟩ := snoc_of h1
    obtain ⟨ss', y, rfl, e2⟩ := snoc_of h2
    have hr0 := hr
    have hm0 := hm
    simp only [rowsN, List.mem_append, List.mem_map] at hr hm
    have lr := (rowsN_in hr0).2
    have lm := (rowsN_in hm0).2
    rcases hr with hr | ⟨r', hr, rfl⟩
    · have ih := al_rows n (m + 1) e1 h2 hr hm0 hl
      have hi := (rowsN_in hr)
      have e := sumC_left (c := c) (ms' := [x]) (ss' := []) (row := row) (met := met) (ms := ms') (ss := ss' ++ [y]) (fun k hk => by have := hi.1 k hk; omega) (fun k hk => by rw [h2]; exact (rowsN_in hm0).1 k hk)
      rw [List.append_nil] at e
      rw [e]
      have := ih.append (Al.nil.cut (c := c) (m := x))
      rw [List.append_nil] at this
      rw [show 2 * (n + 1 + (m + 1) - 2 * row.length) + sumC c ms' (ss' ++ [y]) row met = 2 * (n + (m + 1) - 2 * row.length) + sumC c ms' (ss' ++ [y]) row met + (0 + 2) by have := hi.2; omega]
      exact this
    · rcases hm with hm | ⟨m', hm, rfl⟩
      · have ih := al_rows (n + 1) m h1 e2 hr0 hm hl
        have hi := (rowsN_in hm)
        have e := sumC_left (c := c) (ms' := []) (ss' := [y]) (row := r' ++ [n]) (met := met) (ms := ms' ++ [x]) (ss := ss') (fun k hk => by rw [h1]; exact (rowsN_in hr0).1 k hk) (fun k hk => by have := hi.1 k hk; omega)
        rw [List.append_nil] at e
        rw [e]
        have := ih.append (Al.nil.put (c := c) (s := y))
        rw [List.append_nil] at this
        rw [show 2 * (n + 1 + (m + 1) - 2 * (r' ++ [n]).length) + sumC c (ms' ++ [x]) ss' (r' ++ [n]) met = 2 * (n + 1 + m - 2 * (r' ++ [n]).length) + sumC c (ms' ++ [x]) ss' (r' ++ [n]) met + (0 + 2) by have := hi.2; omega]
        exact this
      · have hl' : r'.length = m'.length := by simpa using hl
        have ih := al_rows n m e1 e2 hr hm hl'
        have a1 := rowsN_in hr
        have a2 := rowsN_in hm
        have e := sumC_snoc (c := c) ms' ss' x y (row := r') (met := m') (fun k hk => by have := a1.1 k hk; omega) (fun k hk => by have := a2.1 k hk; omega) hl'
        rw [e1, e2] at e
        rw [e]
        have := ih.append (Al.nil.diag (c := c) (m := x) (s := y))
        rw [show 2 * (n + 1 + (m + 1) - 2 * (r' ++ [n]).length) + (sumC c ms' ss' r' m' + c x y) = 2 * (n + m - 2 * r'.length) + sumC c ms' ss' r' m' + (0 + c x y) by have := a1.2; have := a2.2; simp; omega]
        exact this
theorem rows_al {as : List M} {bs : List S} {n : Nat} (h : Al c as bs n) : ∃ row ∈ rowsN as.length, ∃ met ∈ rowsN bs.length, row.length = met.length ∧ 2 * (as.length + bs.length - 2 * row.length) + sumC c as.reverse bs.reverse row met = n := by
  induction h with
  | nil => exact ⟨[], by simp [rowsN], [], by simp [rowsN], rfl, by simp [sumC]⟩
  | @diag m s ms ss n _ ih =>
    obtain ⟨row, hr, met, hm, hl, e⟩ := ih
    have a1 := rowsN_in hr
    have a2 := rowsN_in hm
    refine ⟨row ++ [ms.length], ?_, met ++ [ss.length], ?_, by simp [hl], ?_⟩
    · simp only [List.length_cons, rowsN, List.mem_append, List.mem_map]; exact .inr ⟨row, hr, rfl⟩
    · simp only [List.length_cons, rowsN, List.mem_append, List.mem_map]; exact .inr ⟨met, hm, rfl⟩
    · have q := sumC_snoc (c := c) ms.reverse ss.reverse m s (row := row) (met := met) (fun k hk => by rw [List.length_reverse]; exact a1.1 k hk) (fun k hk => by rw [List.length_reverse]; exact a2.1 k hk) hl
      rw [List.length_reverse, List.length_reverse] at q
      rw [List.reverse_cons, List.reverse_cons, q]
      simp only [List.length_cons, List.length_append, List.length_nil]
      omega
  | @cut m ms ss n _ ih =>
    obtain ⟨row, hr, met, hm, hl, e⟩ := ih
    have a1 := rowsN_in hr
    have a2 := rowsN_in hm
    refine ⟨row, ?_, met, hm, hl, ?_⟩
    · simp only [List.length_cons, rowsN, List.mem_append, List.mem_map]; exact .inl hr
    · have q := sumC_left (c := c) (ms := ms.reverse) (ss := ss.reverse) (ms' := [m]) (ss' := []) (row := row) (met := met) (fun k hk => by rw [List.length_reverse]; exact a1.1 k hk) (fun k hk => by rw [List.length_reverse]; exact a2.1 k hk)
      rw [List.append_nil] at q
      rw [List.reverse_cons, q]
      simp only [List.length_cons]
      omega
  | @put s ms ss n _ ih =>
    obtain ⟨row, hr, met, hm, hl, e⟩ := ih
    have a1 := rowsN_in hr
    have a2 := rowsN_in hm
    refine ⟨row, hr, met, ?_, hl, ?_⟩
    · simp only [List.length_cons, rowsN, List.mem_append, List.mem_map]; exact .inl hm
    · have q := sumC_left (c := c) (ms := ms.reverse) (ss := ss.reverse) (ms' := []) (ss' := [s]) (row := row) (met := met) (fun k hk => by rw [List.length_reverse]; exact a1.1 k hk) (fun k hk => by rw [List.length_reverse]; exact a2.1 k hk)
      rw [List.append_nil] at q
      rw [List.reverse_cons, q]
      simp only [List.length_cons]
      omega
/-- the costs of all ways, gone through -/
def costsOf (c : M → S → Nat) (ms : List M) (ss : List S) : List Nat := (rowsN ms.length).flatMap fun row => ((rowsN ss.length).filter fun met => decide (met.length = row.length)).map fun met => 2 * (ms.length + ss.length - 2 * row.length) + sumC c ms ss row met
theorem costs_le {ms : List M} {ss : List S} {n : Nat} (h : n ∈ costsOf c ms ss) : rest c ms ss ≤ n := by
  simp only [costsOf, List.mem_flatMap, List.mem_map, List.mem_filter, decide_eq_true_eq] at h
  obtain ⟨row, hr, met, ⟨hm, hl⟩, rfl⟩ := h
  exact rest_le (al_rows _ _ rfl rfl hr hm hl.symm)
theorem costs_mem (ms : List M) (ss : List S) : rest c ms ss ∈ costsOf c ms ss := by
  obtain ⟨row, hr, met, hm, hl, e⟩ := rows_al (al_rest (c := c) ms.reverse ss.reverse)
  rw [rest_reverse, List.reverse_reverse, List.reverse_reverse] at e
  rw [List.length_reverse] at hr hm
  simp only [costsOf, List.mem_flatMap, List.mem_map, List.mem_filter, decide_eq_true_eq]
  refine ⟨row, hr, met, ⟨hm, hl.symm⟩, ?_⟩
  simpa using e
end
end Pm

set_option Elab.async false
set_option linter.all false
set_option maxRecDepth 100000
namespace Vi
open PySem PySem.Spec PyProof.Rows L2

/-! ### prices: words, moulds -/
def kindW : List Nat → List Nat
  | c :: r => kindP c r
  | [] => []
def itT (p : Bool × List Nat) : T := if p.1 then .tup [.str (kindW p.2)] else .str p.2
def cW (p : Bool × List Nat) (w : List Nat) : Nat := if w = p.2 then 0 else if p.1 = true ∧ kindW w = kindW p.2 then 1 else 3
def OkW (x : List Nat) : Prop := x.length ≤ line ∧ ∃ c r, x = c :: r
theorem kindOf_ok {x : List Nat} (h : OkW x) (ce : List T) : IsV (f_kind_of [.val (.str x)] ce) (.str (kindW x)) ce := by
  obtain ⟨hl, c, r, rfl⟩ := h
  exact kind_of_ok _ c r rfl ce hl
theorem lawKind_ok {x : List Nat} (h : OkW x) (ce : List T) : IsV (f__law_kind [.val (.str x)] ce) (.str (kindW x)) ce := by
  obtain ⟨hl, c, r, rfl⟩ := h
  exact law_kind_ok _ c r rfl ce hl
theorem item_ok {p : Bool × List Nat} {w : List Nat} (hw : OkW w) (ce : List T) : IsV (f_price_of_item [.val (itT p), .val (.str p.2), .val (.str w)] ce) (.int (cW p w)) ce := by
  refine .of ?_
  unfold f_price_of_item runF
  refine WP.endF ?_
  obtain ⟨b, x⟩ := p
  have hK := (kindOf_ok hw ce).back
  unfold cW itT
  by_cases q : w = x
  · simp only [m_price_of_item, x_strI, Int.reduceEq, p10_1, p10_2, p10_3, p10_4, p10_5, p10_6, p10_7, p10_8, p10_9, p10_10, p10_11, p10_12, p10_13, p10_14, p10_15, p10_16, p10_17, p10_18, at_c0, at_c1, at_c2, at_c3, at_c4, at_c5, ix_30, ix_31, ix_32, subS, gSet, wr, ix_str, ix_lst, ix_tup, ix_ktup, ix_scr, gEq_str, gNe_str, gEq_int, gNe_int, gEq_bl, gIn_sign, gNotIn_sign, gAll_bls, lt_one, w_sl, w_c, w_op2, w_op1, w_evs0, w_evs1, o_rds0, o_rds1, w_opN, o_tks0, o_tks1, w_lst, w_tup, b_val, w_ite, w_mT, w_bAnd, w_bOr, w_bNot, w_bYes, w_and, w_or, w_not, w_if, w_ch, w_pt0, w_pt1, w_slc, w_call, w_meth, w_itr, w_rng1, w_rng2, w_rng3, w_enum, w_zip, s_seq, s_nx, s_rt, s_bk, s_ct, s_pass, s_brk, s_cnt, s_if, s_asg, s_drop, s_ret, s_retN, s_asgT, s_sub, s_box, s_for, o_some, o_none, o_ite, o_map, o_bind, wp_ok, wp_bad, z_val, z_new, z_bor, z_ali, r_non, r_bl, r_int, r_str, r_tup, r_lst, r_dk, r_dt, r_ktup, r_scr, r_glo, r_bor, r_new, r_ali, t_val, t_new, t_bor, t_ali, g_val, g_bor, g_new, g_ali, a_val, a_bor, a_ali, o_args0, o_args1, l_val, l_bor, l_ali, gAdd, gSub, mul_int, gMod, gDiv, gLt, gLe, gGt, gGe, gIsi, tyN, gLen, gNeg, gTuple, gList, gIsN, gNotN, gOrd, gMin, gMax, fNm, fTup, fCons, fNil, itemsOf, seqOf, k_NoneType_str, k_NoneType_tuple, k_NoneType_list, k_NoneType_int, k_NoneType_bool, k_NoneType_dict, k_bool_str, k_bool_tuple, k_bool_list, k_bool_int, k_bool_bool, k_bool_dict, k_int_str, k_int_tuple, k_int_list, k_int_int, k_int_bool, k_int_dict, k_str_str, k_str_tuple, k_str_list, k_str_int, k_str_bool, k_str_dict, k_tuple_str, k_tuple_tuple, k_tuple_list, k_tuple_int, k_tuple_bool, k_tuple_dict, k_list_str, k_list_tuple, k_list_list, k_list_int, k_list_bool, k_list_dict, k_dict_str, k_dict_tuple, k_dict_list, k_dict_int, k_dict_bool, k_dict_dict, slotOf, List.replicate, List.map_cons, List.map_nil, List.length_cons, List.length_nil, List.getElem?_cons_zero, List.getElem?_cons_succ, List.set_cons_zero, List.set_cons_succ, List.cons_append, List.nil_append, if_true, if_false, Bool.false_eq_true, reduceCtorEq, Nat.sub_self, Nat.reduceSub, Nat.reduceAdd, Nat.reduceLeDiff, Int.reduceLE, Int.reduceLT, Int.reducePow, Int.reduceToNat, Int.reduceNeg, Option.map_some, Option.map_none, Bool.not_true, Bool.not_false, ite_true, ite_false, decide_eq_true_eq, decide_true, decide_false, Bool.not_eq_true', q]
    exact ⟨rfl, trivial⟩
  · cases b with
    | false =>
      simp only [m_price_of_item, x_strI, Int.reduceEq, p10_1, p10_2, p10_3, p10_4, p10_5, p10_6, p10_7, p10_8, p10_9, p10_10, p10_11, p10_12, p10_13, p10_14, p10_15, p10_16, p10_17, p10_18, at_c0, at_c1, at_c2, at_c3, at_c4, at_c5, ix_30, ix_31, ix_32, subS, gSet, wr, ix_str, ix_lst, ix_tup, ix_ktup, ix_scr, gEq_str, gNe_str, gEq_int, gNe_int, gEq_bl, gIn_sign, gNotIn_sign, gAll_bls, lt_one, w_sl, w_c, w_op2, w_op1, w_evs0, w_evs1, o_rds0, o_rds1, w_opN, o_tks0, o_tks1, w_lst, w_tup, b_val, w_ite, w_mT, w_bAnd, w_bOr, w_bNot, w_bYes, w_and, w_or, w_not, w_if, w_ch, w_pt0, w_pt1, w_slc, w_call, w_meth, w_itr, w_rng1, w_rng2, w_rng3, w_enum, w_zip, s_seq, s_nx, s_rt, s_bk, s_ct, s_pass, s_brk, s_cnt, s_if, s_asg, s_drop, s_ret, s_retN, s_asgT, s_sub, s_box, s_for, o_some, o_none, o_ite, o_map, o_bind, wp_ok, wp_bad, z_val, z_new, z_bor, z_ali, r_non, r_bl, r_int, r_str, r_tup, r_lst, r_dk, r_dt, r_ktup, r_scr, r_glo, r_bor, r_new, r_ali, t_val, t_new, t_bor, t_ali, g_val, g_bor, g_new, g_ali, a_val, a_bor, a_ali, o_args0, o_args1, l_val, l_bor, l_ali, gAdd, gSub, mul_int, gMod, gDiv, gLt, gLe, gGt, gGe, gIsi, tyN, gLen, gNeg, gTuple, gList, gIsN, gNotN, gOrd, gMin, gMax, fNm, fTup, fCons, fNil, itemsOf, seqOf, k_NoneType_str, k_NoneType_tuple, k_NoneType_list, k_NoneType_int, k_NoneType_bool, k_NoneType_dict, k_bool_str, k_bool_tuple, k_bool_list, k_bool_int, k_bool_bool, k_bool_dict, k_int_str, k_int_tuple, k_int_list, k_int_int, k_int_bool, k_int_dict, k_str_str, k_str_tuple, k_str_list, k_str_int, k_str_bool, k_str_dict, k_tuple_str, k_tuple_tuple, k_tuple_list, k_tuple_int, k_tuple_bool, k_tuple_dict, k_list_str, k_list_tuple, k_list_list, k_list_int, k_list_bool, k_list_dict, k_dict_str, k_dict_tuple, k_dict_list, k_dict_int, k_dict_bool, k_dict_dict, slotOf, List.replicate, List.map_cons, List.map_nil, List.length_cons, List.length_nil, List.getElem?_cons_zero, List.getElem?_cons_succ, List.set_cons_zero, List.set_cons_succ, List.cons_append, List.nil_append, if_true, if_false, Bool.false_eq_true, reduceCtorEq, Nat.sub_self, Nat.reduceSub, Nat.reduceAdd, Nat.reduceLeDiff, Int.reduceLE, Int.reduceLT, Int.reducePow, Int.reduceToNat, Int.reduceNeg, Option.map_some, Option.map_none, Bool.not_true, Bool.not_false, ite_true, ite_false, decide_eq_true_eq, decide_true, decide_false, Bool.not_eq_true', q, false_and]
      exact ⟨rfl, trivial⟩
    | true =>
      simp only [m_price_of_item, x_strI, Int.reduceEq, p10_1, p10_2, p10_3, p10_4, p10_5, p10_6, p10_7, p10_8, p10_9, p10_10, p10_11, p10_12, p10_13, p10_14, p10_15, p10_16, p10_17, p10_18, at_c0, at_c1, at_c2, at_c3, at_c4, at_c5, ix_30, ix_31, ix_32, subS, gSet, wr, ix_str, ix_lst, ix_tup, ix_ktup, ix_scr, gEq_str, gNe_str, gEq_int, gNe_int, gEq_bl, gIn_sign, gNotIn_sign, gAll_bls, lt_one, w_sl, w_c, w_op2, w_op1, w_evs0, w_evs1, o_rds0, o_rds1, w_opN, o_tks0, o_tks1, w_lst, w_tup, b_val, w_ite, w_mT, w_bAnd, w_bOr, w_bNot, w_bYes, w_and, w_or, w_not, w_if, w_ch, w_pt0, w_pt1, w_slc, w_call, w_meth, w_itr, w_rng1, w_rng2, w_rng3, w_enum, w_zip, s_seq, s_nx, s_rt, s_bk, s_ct, s_pass, s_brk, s_cnt, s_if, s_asg, s_drop, s_ret, s_retN, s_asgT, s_sub, s_box, s_for, o_some, o_none, o_ite, o_map, o_bind, wp_ok, wp_bad, z_val, z_new, z_bor, z_ali, r_non, r_bl, r_int, r_str, r_tup, r_lst, r_dk, r_dt, r_ktup, r_scr, r_glo, r_bor, r_new, r_ali, t_val, t_new, t_bor, t_ali, g_val, g_bor, g_new, g_ali, a_val, a_bor, a_ali, o_args0, o_args1, l_val, l_bor, l_ali, gAdd, gSub, mul_int, gMod, gDiv, gLt, gLe, gGt, gGe, gIsi, tyN, gLen, gNeg, gTuple, gList, gIsN, gNotN, gOrd, gMin, gMax, fNm, fTup, fCons, fNil, itemsOf, seqOf, k_NoneType_str, k_NoneType_tuple, k_NoneType_list, k_NoneType_int, k_NoneType_bool, k_NoneType_dict, k_bool_str, k_bool_tuple, k_bool_list, k_bool_int, k_bool_bool, k_bool_dict, k_int_str, k_int_tuple, k_int_list, k_int_int, k_int_bool, k_int_dict, k_str_str, k_str_tuple, k_str_list, k_str_int, k_str_bool, k_str_dict, k_tuple_str, k_tuple_tuple, k_tuple_list, k_tuple_int, k_tuple_bool, k_tuple_dict, k_list_str, k_list_tuple, k_list_list, k_list_int, k_list_bool, k_list_dict, k_dict_str, k_dict_tuple, k_dict_list, k_dict_int, k_dict_bool, k_dict_dict, slotOf, List.replicate, List.map_cons, List.map_nil, List.length_cons, List.length_nil, List.getElem?_cons_zero, List.getElem?_cons_succ, List.set_cons_zero, List.set_cons_succ, List.cons_append, List.nil_append, if_true, if_false, Bool.false_eq_true, reduceCtorEq, Nat.sub_self, Nat.reduceSub, Nat.reduceAdd, Nat.reduceLeDiff, Int.reduceLE, Int.reduceLT, Int.reducePow, Int.reduceToNat, Int.reduceNeg, Option.map_some, Option.map_none, Bool.not_true, Bool.not_false, ite_true, ite_false, decide_eq_true_eq, decide_true, decide_false, Bool.not_eq_true', q, hK, true_and]
      by_cases q2 : kindW w = kindW x
      · simp only [q2, decide_true, x_strI, Int.reduceEq, p10_1, p10_2, p10_3, p10_4, p10_5, p10_6, p10_7, p10_8, p10_9, p10_10, p10_11, p10_12, p10_13, p10_14, p10_15, p10_16, p10_17, p10_18, at_c0, at_c1, at_c2, at_c3, at_c4, at_c5, ix_30, ix_31, ix_32, subS, gSet, wr, ix_str, ix_lst, ix_tup, ix_ktup, ix_scr, gEq_str, gNe_str, gEq_int, gNe_int, gEq_bl, gIn_sign, gNotIn_sign, gAll_bls, lt_one, w_sl, w_c, w_op2, w_op1, w_evs0, w_evs1, o_rds0, o_rds1, w_opN, o_tks0, o_tks1, w_lst, w_tup, b_val, w_ite, w_mT, w_bAnd, w_bOr, w_bNot, w_bYes, w_and, w_or, w_not, w_if, w_ch, w_pt0, w_pt1, w_slc, w_call, w_meth, w_itr, w_rng1, w_rng2, w_rng3, w_enum, w_zip, s_seq, s_nx, s_rt, s_bk, s_ct, s_pass, s_brk, s_cnt, s_if, s_asg, s_drop, s_ret, s_retN, s_asgT, s_sub, s_box, s_for, o_some, o_none, o_ite, o_map, o_bind, wp_ok, wp_bad, z_val, z_new, z_bor, z_ali, r_non, r_bl, r_int, r_str, r_tup, r_lst, r_dk, r_dt, r_ktup, r_scr, r_glo, r_bor, r_new, r_ali, t_val, t_new, t_bor, t_ali, g_val, g_bor, g_new, g_ali, a_val, a_bor, a_ali, o_args0, o_args1, l_val, l_bor, l_ali, gAdd, gSub, mul_int, gMod, gDiv, gLt, gLe, gGt, gGe, gIsi, tyN, gLen, gNeg, gTuple, gList, gIsN, gNotN, gOrd, gMin, gMax, fNm, fTup, fCons, fNil, itemsOf, seqOf, k_NoneType_str, k_NoneType_tuple, k_NoneType_list, k_NoneType_int, k_NoneType_bool, k_NoneType_dict, k_bool_str, k_bool_tuple, k_bool_list, k_bool_int, k_bool_bool, k_bool_dict, k_int_str, k_int_tuple, k_int_list, k_int_int, k_int_bool, k_int_dict, k_str_str, k_str_tuple, k_str_list, k_str_int, k_str_bool, k_str_dict, k_tuple_str, k_tuple_tuple, k_tuple_list, k_tuple_int, k_tuple_bool, k_tuple_dict, k_list_str, k_list_tuple, k_list_list, k_list_int, k_list_bool, k_list_dict, k_dict_str, k_dict_tuple, k_dict_list, k_dict_int, k_dict_bool, k_dict_dict, slotOf, List.replicate, List.map_cons, List.map_nil, List.length_cons, List.length_nil, List.getElem?_cons_zero, List.getElem?_cons_succ, List.set_cons_zero, List.set_cons_succ, List.cons_append, List.nil_append, if_true, if_false, Bool.false_eq_true, reduceCtorEq, Nat.sub_self, Nat.reduceSub, Nat.reduceAdd, Nat.reduceLeDiff, Int.reduceLE, Int.reduceLT, Int.reducePow, Int.reduceToNat, Int.reduceNeg, Option.map_some, Option.map_none, Bool.not_true, Bool.not_false, ite_true, ite_false, decide_eq_true_eq, decide_true, decide_false, Bool.not_eq_true']
        exact ⟨rfl, trivial⟩
      · simp only [q2, decide_false, x_strI, Int.reduceEq, p10_1, p10_2, p10_3, p10_4, p10_5, p10_6, p10_7, p10_8, p10_9, p10_10, p10_11, p10_12, p10_13, p10_14, p10_15, p10_16, p10_17, p10_18, at_c0, at_c1, at_c2, at_c3, at_c4, at_c5, ix_30, ix_31, ix_32, subS, gSet, wr, ix_str, ix_lst, ix_tup, ix_ktup, ix_scr, gEq_str, gNe_str, gEq_int, gNe_int, gEq_bl, gIn_sign, gNotIn_sign, gAll_bls, lt_one, w_sl, w_c, w_op2, w_op1, w_evs0, w_evs1, o_rds0, o_rds1, w_opN, o_tks0, o_tks1, w_lst, w_tup, b_val, w_ite, w_mT, w_bAnd, w_bOr, w_bNot, w_bYes, w_and, w_or, w_not, w_if, w_ch, w_pt0, w_pt1, w_slc, w_call, w_meth, w_itr, w_rng1, w_rng2, w_rng3, w_enum, w_zip, s_seq, s_nx, s_rt, s_bk, s_ct, s_pass, s_brk, s_cnt, s_if, s_asg, s_drop, s_ret, s_retN, s_asgT, s_sub, s_box, s_for, o_some, o_none, o_ite, o_map, o_bind, wp_ok, wp_bad, z_val, z_new, z_bor, z_ali, r_non, r_bl, r_int, r_str, r_tup, r_lst, r_dk, r_dt, r_ktup, r_scr, r_glo, r_bor, r_new, r_ali, t_val, t_new, t_bor, t_ali, g_val, g_bor, g_new, g_ali, a_val, a_bor, a_ali, o_args0, o_args1, l_val, l_bor, l_ali, gAdd, gSub, mul_int, gMod, gDiv, gLt, gLe, gGt, gGe, gIsi, tyN, gLen, gNeg, gTuple, gList, gIsN, gNotN, gOrd, gMin, gMax, fNm, fTup, fCons, fNil, itemsOf, seqOf, k_NoneType_str, k_NoneType_tuple, k_NoneType_list, k_NoneType_int, k_NoneType_bool, k_NoneType_dict, k_bool_str, k_bool_tuple, k_bool_list, k_bool_int, k_bool_bool, k_bool_dict, k_int_str, k_int_tuple, k_int_list, k_int_int, k_int_bool, k_int_dict, k_str_str, k_str_tuple, k_str_list, k_str_int, k_str_bool, k_str_dict, k_tuple_str, k_tuple_tuple, k_tuple_list, k_tuple_int, k_tuple_bool, k_tuple_dict, k_list_str, k_list_tuple, k_list_list, k_list_int, k_list_bool, k_list_dict, k_dict_str, k_dict_tuple, k_dict_list, k_dict_int, k_dict_bool, k_dict_dict, slotOf, List.replicate, List.map_cons, List.map_nil, List.length_cons, List.length_nil, List.getElem?_cons_zero, List.getElem?_cons_succ, List.set_cons_zero, List.set_cons_succ, List.cons_append, List.nil_append, if_true, if_false, Bool.false_eq_true, reduceCtorEq, Nat.sub_self, Nat.reduceSub, Nat.reduceAdd, Nat.reduceLeDiff, Int.reduceLE, Int.reduceLT, Int.reducePow, Int.reduceToNat, Int.reduceNeg, Option.map_some, Option.map_none, Bool.not_true, Bool.not_false, ite_true, ite_false, decide_eq_true_eq, decide_true, decide_false, Bool.not_eq_true']
        exact ⟨rfl, trivial⟩
theorem dat_it (ce : List T) (n : Nat) (p : Bool × List Nat) : ∃ d, dat ce (n + 1) (itT p) = some d := by
  unfold itT
  cases p.1 <;> simp [dat, allSome]
theorem eqT_it (ce : List T) (p : Bool × List Nat) (k : List Nat) : eqT ce (itT p) (.tup [.str k]) = some (p.1 && decide (kindW p.2 = k)) := by
  unfold itT
  cases p.1 with
  | false => simp [eqT, dat, allSome, PyData.eqv]
  | true => simp [eqT, dat, allSome, PyData.eqv, PyData.eqvAll, str_beq]
theorem law_more_ok {p : Bool × List Nat} {w : List Nat} (hw : OkW w) (ce : List T) : IsV (f__law_more [.val (itT p), .val (.str p.2), .val (.str w)] ce) (.int (cW p w)) ce := by
  refine .of ?_
  unfold f__law_more runF
  refine WP.endF ?_
  have hK := (lawKind_ok hw ce).back
  have e : gEq ce (itT p) (.tup [.str (kindW w)]) = some (.val (.bl (p.1 && decide (kindW p.2 = kindW w)))) := by simp [gEq, eqT_it]
  obtain ⟨b, x⟩ := p
  have rt : ∀ s, rd s (.val (itT (b, x))) = some (itT (b, x)) := fun s => rd_val fun n => by unfold itT; cases b <;> simp
  have l1 : 1 ≤ line := by decide
  unfold cW
  by_cases q : x = w
  · simp only [m__law_more, x_strI, Int.reduceEq, p10_1, p10_2, p10_3, p10_4, p10_5, p10_6, p10_7, p10_8, p10_9, p10_10, p10_11, p10_12, p10_13, p10_14, p10_15, p10_16, p10_17, p10_18, at_c0, at_c1, at_c2, at_c3, at_c4, at_c5, ix_30, ix_31, ix_32, subS, gSet, wr, ix_str, ix_lst, ix_tup, ix_ktup, ix_scr, gEq_str, gNe_str, gEq_int, gNe_int, gEq_bl, gIn_sign, gNotIn_sign, gAll_bls, lt_one, w_sl, w_c, w_op2, w_op1, w_evs0, w_evs1, o_rds0, o_rds1, w_opN, o_tks0, o_tks1, w_lst, w_tup, b_val, w_ite, w_mT, w_bAnd, w_bOr, w_bNot, w_bYes, w_and, w_or, w_not, w_if, w_ch, w_pt0, w_pt1, w_slc, w_call, w_meth, w_itr, w_rng1, w_rng2, w_rng3, w_enum, w_zip, s_seq, s_nx, s_rt, s_bk, s_ct, s_pass, s_brk, s_cnt, s_if, s_asg, s_drop, s_ret, s_retN, s_asgT, s_sub, s_box, s_for, o_some, o_none, o_ite, o_map, o_bind, wp_ok, wp_bad, z_val, z_new, z_bor, z_ali, r_non, r_bl, r_int, r_str, r_tup, r_lst, r_dk, r_dt, r_ktup, r_scr, r_glo, r_bor, r_new, r_ali, t_val, t_new, t_bor, t_ali, g_val, g_bor, g_new, g_ali, a_val, a_bor, a_ali, o_args0, o_args1, l_val, l_bor, l_ali, gAdd, gSub, mul_int, gMod, gDiv, gLt, gLe, gGt, gGe, gIsi, tyN, gLen, gNeg, gTuple, gList, gIsN, gNotN, gOrd, gMin, gMax, fNm, fTup, fCons, fNil, itemsOf, seqOf, k_NoneType_str, k_NoneType_tuple, k_NoneType_list, k_NoneType_int, k_NoneType_bool, k_NoneType_dict, k_bool_str, k_bool_tuple, k_bool_list, k_bool_int, k_bool_bool, k_bool_dict, k_int_str, k_int_tuple, k_int_list, k_int_int, k_int_bool, k_int_dict, k_str_str, k_str_tuple, k_str_list, k_str_int, k_str_bool, k_str_dict, k_tuple_str, k_tuple_tuple, k_tuple_list, k_tuple_int, k_tuple_bool, k_tuple_dict, k_list_str, k_list_tuple, k_list_list, k_list_int, k_list_bool, k_list_dict, k_dict_str, k_dict_tuple, k_dict_list, k_dict_int, k_dict_bool, k_dict_dict, slotOf, List.replicate, List.map_cons, List.map_nil, List.length_cons, List.length_nil, List.getElem?_cons_zero, List.getElem?_cons_succ, List.set_cons_zero, List.set_cons_succ, List.cons_append, List.nil_append, if_true, if_false, Bool.false_eq_true, reduceCtorEq, Nat.sub_self, Nat.reduceSub, Nat.reduceAdd, Nat.reduceLeDiff, Int.reduceLE, Int.reduceLT, Int.reducePow, Int.reduceToNat, Int.reduceNeg, Option.map_some, Option.map_none, Bool.not_true, Bool.not_false, ite_true, ite_false, decide_eq_true_eq, decide_true, decide_false, Bool.not_eq_true', q]
    exact ⟨rfl, trivial⟩
  · have q' : ¬ w = x := fun z => q z.symm
    simp only [m__law_more, x_strI, Int.reduceEq, p10_1, p10_2, p10_3, p10_4, p10_5, p10_6, p10_7, p10_8, p10_9, p10_10, p10_11, p10_12, p10_13, p10_14, p10_15, p10_16, p10_17, p10_18, at_c0, at_c1, at_c2, at_c3, at_c4, at_c5, ix_30, ix_31, ix_32, subS, gSet, wr, ix_str, ix_lst, ix_tup, ix_ktup, ix_scr, gEq_str, gNe_str, gEq_int, gNe_int, gEq_bl, gIn_sign, gNotIn_sign, gAll_bls, lt_one, w_sl, w_c, w_op2, w_op1, w_evs0, w_evs1, o_rds0, o_rds1, w_opN, o_tks0, o_tks1, w_lst, w_tup, b_val, w_ite, w_mT, w_bAnd, w_bOr, w_bNot, w_bYes, w_and, w_or, w_not, w_if, w_ch, w_pt0, w_pt1, w_slc, w_call, w_meth, w_itr, w_rng1, w_rng2, w_rng3, w_enum, w_zip, s_seq, s_nx, s_rt, s_bk, s_ct, s_pass, s_brk, s_cnt, s_if, s_asg, s_drop, s_ret, s_retN, s_asgT, s_sub, s_box, s_for, o_some, o_none, o_ite, o_map, o_bind, wp_ok, wp_bad, z_val, z_new, z_bor, z_ali, r_non, r_bl, r_int, r_str, r_tup, r_lst, r_dk, r_dt, r_ktup, r_scr, r_glo, r_bor, r_new, r_ali, t_val, t_new, t_bor, t_ali, g_val, g_bor, g_new, g_ali, a_val, a_bor, a_ali, o_args0, o_args1, l_val, l_bor, l_ali, gAdd, gSub, mul_int, gMod, gDiv, gLt, gLe, gGt, gGe, gIsi, tyN, gLen, gNeg, gTuple, gList, gIsN, gNotN, gOrd, gMin, gMax, fNm, fTup, fCons, fNil, itemsOf, seqOf, k_NoneType_str, k_NoneType_tuple, k_NoneType_list, k_NoneType_int, k_NoneType_bool, k_NoneType_dict, k_bool_str, k_bool_tuple, k_bool_list, k_bool_int, k_bool_bool, k_bool_dict, k_int_str, k_int_tuple, k_int_list, k_int_int, k_int_bool, k_int_dict, k_str_str, k_str_tuple, k_str_list, k_str_int, k_str_bool, k_str_dict, k_tuple_str, k_tuple_tuple, k_tuple_list, k_tuple_int, k_tuple_bool, k_tuple_dict, k_list_str, k_list_tuple, k_list_list, k_list_int, k_list_bool, k_list_dict, k_dict_str, k_dict_tuple, k_dict_list, k_dict_int, k_dict_bool, k_dict_dict, slotOf, List.replicate, List.map_cons, List.map_nil, List.length_cons, List.length_nil, List.getElem?_cons_zero, List.getElem?_cons_succ, List.set_cons_zero, List.set_cons_succ, List.cons_append, List.nil_append, if_true, if_false, Bool.false_eq_true, reduceCtorEq, Nat.sub_self, Nat.reduceSub, Nat.reduceAdd, Nat.reduceLeDiff, Int.reduceLE, Int.reduceLT, Int.reducePow, Int.reduceToNat, Int.reduceNeg, Option.map_some, Option.map_none, Bool.not_true, Bool.not_false, ite_true, ite_false, decide_eq_true_eq, decide_true, decide_false, Bool.not_eq_true', q, q', hK, l1, rt, e]
    by_cases q2 : kindW x = kindW w
    · cases b <;> simp [q2]
    · have q3 : ¬ kindW w = kindW x := fun z => q2 z.symm
      cases b <;> simp [q2, q3]
end Vi

set_option Elab.async false
set_option linter.all false
set_option maxRecDepth 100000
namespace Vi
open PySem PySem.Spec PyProof.Rows L2

abbrev W := List Nat
def wsT (ws : List W) : List T := ws.map T.str
def nT (n : Nat) : T := .int (n : Int)
theorem wsT_len (ws : List W) : (wsT ws).length = ws.length := by simp [wsT]
/-- a sentence -/
structure Sn (ws : List W) : Prop where
  p : isSentP (.tup (wsT ws)) = true
theorem Sn.len {ws : List W} (h : Sn ws) : 1 ≤ ws.length ∧ ws.length ≤ 40 := by
  have := h.p
  simp only [isSentP, Bool.and_eq_true, decide_eq_true_eq, wsT_len] at this
  exact ⟨this.1, this.2.1⟩
theorem Sn.word {ws : List W} (h : Sn ws) {w : W} (hw : w ∈ ws) : OkW w ∧ w.length ≤ 20 := by
  obtain ⟨x, c, r, e, hx, hl⟩ := (sent_words h.p).2 (.str w) (List.mem_map_of_mem hw)
  cases e
  exact ⟨⟨Nat.le_trans hl (by decide), c, r, hx⟩, hl⟩
theorem Sn.th {ws : List W} (h : Sn ws) : Th 1 (.tup (wsT ws)) := by
  refine ⟨by rw [wsT_len]; have := h.len; omega, fun u hu => ?_⟩
  obtain ⟨w, hw, rfl⟩ := List.mem_map.mp hu
  have := (h.word hw).2
  show w.length ≤ 50
  omega
theorem at_nat {α : Type} {xs : List α} {i : Nat} {a : α} (h : xs[i]? = some a) : atI xs (i : Int) = some a := by
  have hi := (List.getElem?_eq_some_iff.mp h).1
  have h1 : ((i : Int) < (xs.length : Nat)) := by omega
  simp only [atI, ixN, h1, if_true, show (0 : Int) ≤ (i : Int) by omega]
  simpa using h
theorem at_last {α : Type} {xs : List α} {a : α} (h : xs[xs.length - 1]? = some a) : atI xs (-1) = some a := by
  have hi := (List.getElem?_eq_some_iff.mp h).1
  have h0 : ¬ ((0 : Int) ≤ -1) := by decide
  have h1 : (0 : Int) ≤ -1 + (xs.length : Int) := by omega
  have h2 : (-1 + (xs.length : Int)).toNat = xs.length - 1 := by omega
  simp only [atI, ixN, h0, if_false]
  have h3 : (1 : Int) ≤ (xs.length : Int) := by omega
  simp [h, h2, h3]
def msW (one other : List W) : List (Bool × W) := one.zipIdx.map fun p => (decide ((p.2 : Int) ∈ ledP (wsT one) (wsT other)), p.1)
theorem msW_len (one other : List W) : (msW one other).length = one.length := by simp [msW]
theorem msW_get {one other : List W} {k : Nat} {w : W} (h : one[k]? = some w) : (msW one other)[k]? = some (decide ((k : Int) ∈ ledP (wsT one) (wsT other)), w) := by
  simp [msW, h]
theorem msW_get' {one other : List W} {k : Nat} {p : Bool × W} (h : (msW one other)[k]? = some p) : one[k]? = some p.2 := by
  simp only [msW, List.getElem?_map, List.getElem?_zipIdx] at h
  cases e : one[k]? with
  | none => rw [e] at h; simp at h
  | some w => rw [e] at h; simp at h; rw [← h]
theorem mould_W (one other : List W) : mouldP (wsT one) (wsT other) = (msW one other).map itT := by
  apply List.ext_getElem?
  intro i
  by_cases hi : i < one.length
  · have e : one[i]? = some one[i] := List.getElem?_eq_getElem hi
    rw [List.getElem?_map, msW_get e]
    have ew : wAt (wsT one) (i : Int) = one[i] := by simp [wAt, wsT, hi]
    simp [mouldP, rangeI, wsT_len, hi, kindAt, ew, itT]
    rfl
  · rw [List.getElem?_eq_none (by simp [mouldP, rangeI, wsT_len]; omega), List.getElem?_eq_none (by simp [msW]; omega)]
theorem mould_ok {one other : List W} (h1 : Sn one) (h2 : Sn other) (ce : List T) : IsN (f_mould_of [.val (.tup (wsT one)), .val (.tup (wsT other))] ce) (.lst ((msW one other).map itT)) ce := by
  rw [← mould_W]
  exact mould_of_ok h1.th h2.th h1.p h2.p ce
theorem lawMould_ok {one other : List W} (h1 : Sn one) (h2 : Sn other) (ce : List T) : IsN (f__law_mould [.val (.tup (wsT one)), .val (.tup (wsT other))] ce) (.lst ((msW one other).map itT)) ce := by
  rw [← mould_W]
  exact law_mould_ok h1.p h2.p ce
end Vi

set_option Elab.async false
set_option linter.all false
set_option maxRecDepth 100000
namespace Vi
open PySem PySem.Spec PyProof.Rows L2

def rowT (ns : List Nat) : T := .lst (ns.map nT)
theorem line40 : ∀ {n : Nat}, n ≤ 1000 → n ≤ line := fun h => Nat.le_trans h (by decide)
theorem line41 : ∀ {n : Nat}, n ≤ 1000 → n < line := fun h => Nat.lt_of_le_of_lt h (by decide)
theorem rangeTC_get {lo c : Int} {n k : Nat} {t : T} (h : (rangeTC lo c n)[k]? = some t) : t = .int (lo + (k : Int) * c) ∧ k < n := by
  simp only [rangeTC, List.getElem?_map] at h
  obtain ⟨i, hi, rfl⟩ := Option.map_eq_some_iff.mp h
  obtain ⟨h1, h2⟩ := List.getElem?_eq_some_iff.mp hi
  simp at h1 h2
  subst h2
  exact ⟨rfl, h1⟩
theorem rests_ok {one other sent : List W} (h1 : Sn one) (h2 : Sn other) (h3 : Sn sent) (ce : List T) :
    IsN (f_rests_of [.val (.tup (wsT one)), .val (.tup (wsT other)), .val (.tup (wsT sent))] ce) (.lst ((Pm.rowsL cW sent (msW one other)).map rowT)) ce := by
  have hM := (mould_ok h1 h2 ce).back
  have hN := ((need_ok h3.th ce).1 h3.p).back
  have hI := fun {p : Bool × W} {w : W} (hw : OkW w) => (item_ok (p := p) hw ce).back
  obtain ⟨a1, a2⟩ := h1.len
  obtain ⟨b1, b2⟩ := h3.len
  have q1 : small ((sent.length : Int) + 1) = true := small_in (by omega) (by omega)
  have q2 : small ((sent.length : Int) - 1) = true := small_in (by omega) (by omega)
  have q3 : small ((one.length : Int) - 1) = true := small_in (by omega) (by omega)
  have q4 : small (-1) = true := small_in (by decide) (by decide)
  have l1 : 1 ≤ line := by decide
  have lm := msW_len one other
  have hmg : ∀ {k : Nat} {p : Bool × W}, (msW one other)[k]? = some p → one[k]? = some p.2 := fun h => msW_get' h
  generalize msW one other = ms at *
  refine .of ?_
  unfold f_rests_of runF
  refine WP.endF ?_
  simp only [m_rests_of, x_strI, Int.reduceEq, p10_1, p10_2, p10_3, p10_4, p10_5, p10_6, p10_7, p10_8, p10_9, p10_10, p10_11, p10_12, p10_13, p10_14, p10_15, p10_16, p10_17, p10_18, at_c0, at_c1, at_c2, at_c3, at_c4, at_c5, ix_30, ix_31, ix_32, subS, gSet, wr, ix_str, ix_lst, ix_tup, ix_ktup, ix_scr, gEq_str, gNe_str, gEq_int, gNe_int, gEq_bl, gIn_sign, gNotIn_sign, gAll_bls, lt_one, w_sl, w_c, w_op2, w_op1, w_evs0, w_evs1, o_rds0, o_rds1, w_opN, o_tks0, o_tks1, w_lst, w_tup, b_val, w_ite, w_mT, w_bAnd, w_bOr, w_bNot, w_bYes, w_and, w_or, w_not, w_if, w_ch, w_pt0, w_pt1, w_slc, w_call, w_meth, w_itr, w_rng1, w_rng2, w_rng3, w_enum, w_zip, s_seq, s_nx, s_rt, s_bk, s_ct, s_pass, s_brk, s_cnt, s_if, s_asg, s_drop, s_ret, s_retN, s_asgT, s_sub, s_box, s_for, o_some, o_none, o_ite, o_map, o_bind, wp_ok, wp_bad, z_val, z_new, z_bor, z_ali, r_non, r_bl, r_int, r_str, r_tup, r_lst, r_dk, r_dt, r_ktup, r_scr, r_glo, r_bor, r_new, r_ali, t_val, t_new, t_bor, t_ali, g_val, g_bor, g_new, g_ali, a_val, a_bor, a_ali, o_args0, o_args1, l_val, l_bor, l_ali, gAdd, gSub, mul_int, gMod, gDiv, gLt, gLe, gGt, gGe, gIsi, tyN, gLen, gNeg, gTuple, gList, gIsN, gNotN, gOrd, gMin, gMax, fNm, fTup, fCons, fNil, itemsOf, seqOf, k_NoneType_str, k_NoneType_tuple, k_NoneType_list, k_NoneType_int, k_NoneType_bool, k_NoneType_dict, k_bool_str, k_bool_tuple, k_bool_list, k_bool_int, k_bool_bool, k_bool_dict, k_int_str, k_int_tuple, k_int_list, k_int_int, k_int_bool, k_int_dict, k_str_str, k_str_tuple, k_str_list, k_str_int, k_str_bool, k_str_dict, k_tuple_str, k_tuple_tuple, k_tuple_list, k_tuple_int, k_tuple_bool, k_tuple_dict, k_list_str, k_list_tuple, k_list_list, k_list_int, k_list_bool, k_list_dict, k_dict_str, k_dict_tuple, k_dict_list, k_dict_int, k_dict_bool, k_dict_dict, slotOf, List.replicate, List.map_cons, List.map_nil, List.length_cons, List.length_nil, List.getElem?_cons_zero, List.getElem?_cons_succ, List.set_cons_zero, List.set_cons_succ, List.cons_append, List.nil_append, if_true, if_false, Bool.false_eq_true, reduceCtorEq, Nat.sub_self, Nat.reduceSub, Nat.reduceAdd, Nat.reduceLeDiff, Int.reduceLE, Int.reduceLT, Int.reducePow, Int.reduceToNat, Int.reduceNeg, Option.map_some, Option.map_none, Bool.not_true, Bool.not_false, ite_true, ite_false, decide_eq_true_eq, decide_true, decide_false, Bool.not_eq_true', hM, hN]
  refine wp_comp (fun t => match t with
    | .int j => some (.int (2 * ((sent.length : Int) - j)))
    | _ => none) ?_
  simp only [x_strI, Int.reduceEq, p10_1, p10_2, p10_3, p10_4, p10_5, p10_6, p10_7, p10_8, p10_9, p10_10, p10_11, p10_12, p10_13, p10_14, p10_15, p10_16, p10_17, p10_18, at_c0, at_c1, at_c2, at_c3, at_c4, at_c5, ix_30, ix_31, ix_32, subS, gSet, wr, ix_str, ix_lst, ix_tup, ix_ktup, ix_scr, gEq_str, gNe_str, gEq_int, gNe_int, gEq_bl, gIn_sign, gNotIn_sign, gAll_bls, lt_one, w_sl, w_c, w_op2, w_op1, w_evs0, w_evs1, o_rds0, o_rds1, w_opN, o_tks0, o_tks1, w_lst, w_tup, b_val, w_ite, w_mT, w_bAnd, w_bOr, w_bNot, w_bYes, w_and, w_or, w_not, w_if, w_ch, w_pt0, w_pt1, w_slc, w_call, w_meth, w_itr, w_rng1, w_rng2, w_rng3, w_enum, w_zip, s_seq, s_nx, s_rt, s_bk, s_ct, s_pass, s_brk, s_cnt, s_if, s_asg, s_drop, s_ret, s_retN, s_asgT, s_sub, s_box, s_for, o_some, o_none, o_ite, o_map, o_bind, wp_ok, wp_bad, z_val, z_new, z_bor, z_ali, r_non, r_bl, r_int, r_str, r_tup, r_lst, r_dk, r_dt, r_ktup, r_scr, r_glo, r_bor, r_new, r_ali, t_val, t_new, t_bor, t_ali, g_val, g_bor, g_new, g_ali, a_val, a_bor, a_ali, o_args0, o_args1, l_val, l_bor, l_ali, gAdd, gSub, mul_int, gMod, gDiv, gLt, gLe, gGt, gGe, gIsi, tyN, gLen, gNeg, gTuple, gList, gIsN, gNotN, gOrd, gMin, gMax, fNm, fTup, fCons, fNil, itemsOf, seqOf, k_NoneType_str, k_NoneType_tuple, k_NoneType_list, k_NoneType_int, k_NoneType_bool, k_NoneType_dict, k_bool_str, k_bool_tuple, k_bool_list, k_bool_int, k_bool_bool, k_bool_dict, k_int_str, k_int_tuple, k_int_list, k_int_int, k_int_bool, k_int_dict, k_str_str, k_str_tuple, k_str_list, k_str_int, k_str_bool, k_str_dict, k_tuple_str, k_tuple_tuple, k_tuple_list, k_tuple_int, k_tuple_bool, k_tuple_dict, k_list_str, k_list_tuple, k_list_list, k_list_int, k_list_bool, k_list_dict, k_dict_str, k_dict_tuple, k_dict_list, k_dict_int, k_dict_bool, k_dict_dict, slotOf, List.replicate, List.map_cons, List.map_nil, List.length_cons, List.length_nil, List.getElem?_cons_zero, List.getElem?_cons_succ, List.set_cons_zero, List.set_cons_succ, List.cons_append, List.nil_append, if_true, if_false, Bool.false_eq_true, reduceCtorEq, Nat.sub_self, Nat.reduceSub, Nat.reduceAdd, Nat.reduceLeDiff, Int.reduceLE, Int.reduceLT, Int.reducePow, Int.reduceToNat, Int.reduceNeg, Option.map_some, Option.map_none, Bool.not_true, Bool.not_false, ite_true, ite_false, decide_eq_true_eq, decide_true, decide_false, Bool.not_eq_true', wsT_len, q1]
  refine ⟨?_, fun t ht acc ha => ?_, ?_⟩
  · simp [rangeT]; exact line40 (by omega)
  · obtain ⟨j, hj, rfl⟩ := List.mem_map.mp ht
    refine wp_step rfl ?_
    simp only [x_strI, Int.reduceEq, p10_1, p10_2, p10_3, p10_4, p10_5, p10_6, p10_7, p10_8, p10_9, p10_10, p10_11, p10_12, p10_13, p10_14, p10_15, p10_16, p10_17, p10_18, at_c0, at_c1, at_c2, at_c3, at_c4, at_c5, ix_30, ix_31, ix_32, subS, gSet, wr, ix_str, ix_lst, ix_tup, ix_ktup, ix_scr, gEq_str, gNe_str, gEq_int, gNe_int, gEq_bl, gIn_sign, gNotIn_sign, gAll_bls, lt_one, w_sl, w_c, w_op2, w_op1, w_evs0, w_evs1, o_rds0, o_rds1, w_opN, o_tks0, o_tks1, w_lst, w_tup, b_val, w_ite, w_mT, w_bAnd, w_bOr, w_bNot, w_bYes, w_and, w_or, w_not, w_if, w_ch, w_pt0, w_pt1, w_slc, w_call, w_meth, w_itr, w_rng1, w_rng2, w_rng3, w_enum, w_zip, s_seq, s_nx, s_rt, s_bk, s_ct, s_pass, s_brk, s_cnt, s_if, s_asg, s_drop, s_ret, s_retN, s_asgT, s_sub, s_box, s_for, o_some, o_none, o_ite, o_map, o_bind, wp_ok, wp_bad, z_val, z_new, z_bor, z_ali, r_non, r_bl, r_int, r_str, r_tup, r_lst, r_dk, r_dt, r_ktup, r_scr, r_glo, r_bor, r_new, r_ali, t_val, t_new, t_bor, t_ali, g_val, g_bor, g_new, g_ali, a_val, a_bor, a_ali, o_args0, o_args1, l_val, l_bor, l_ali, gAdd, gSub, mul_int, gMod, gDiv, gLt, gLe, gGt, gGe, gIsi, tyN, gLen, gNeg, gTuple, gList, gIsN, gNotN, gOrd, gMin, gMax, fNm, fTup, fCons, fNil, itemsOf, seqOf, k_NoneType_str, k_NoneType_tuple, k_NoneType_list, k_NoneType_int, k_NoneType_bool, k_NoneType_dict, k_bool_str, k_bool_tuple, k_bool_list, k_bool_int, k_bool_bool, k_bool_dict, k_int_str, k_int_tuple, k_int_list, k_int_int, k_int_bool, k_int_dict, k_str_str, k_str_tuple, k_str_list, k_str_int, k_str_bool, k_str_dict, k_tuple_str, k_tuple_tuple, k_tuple_list, k_tuple_int, k_tuple_bool, k_tuple_dict, k_list_str, k_list_tuple, k_list_list, k_list_int, k_list_bool, k_list_dict, k_dict_str, k_dict_tuple, k_dict_list, k_dict_int, k_dict_bool, k_dict_dict, slotOf, List.replicate, List.map_cons, List.map_nil, List.length_cons, List.length_nil, List.getElem?_cons_zero, List.getElem?_cons_succ, List.set_cons_zero, List.set_cons_succ, List.cons_append, List.nil_append, if_true, if_false, Bool.false_eq_true, reduceCtorEq, Nat.sub_self, Nat.reduceSub, Nat.reduceAdd, Nat.reduceLeDiff, Int.reduceLE, Int.reduceLT, Int.reducePow, Int.reduceToNat, Int.reduceNeg, Option.map_some, Option.map_none, Bool.not_true, Bool.not_false, ite_true, ite_false, decide_eq_true_eq, decide_true, decide_false, Bool.not_eq_true', wipeS, wipeL, wsT_len]
    simp [ha]
  · have e0 : (rangeT 0 ((sent.length : Int) + 1).toNat).filterMap (fun t => match t with
        | .int j => some (.int (2 * ((sent.length : Int) - j)))
        | _ => none) = (Pm.tab cW ([] : List (Bool × W)) sent).map nT := by
      rw [Pm.tab_nil, show ((sent.length : Int) + 1).toNat = sent.length + 1 by omega]
      simp only [rangeT, List.filterMap_map, List.map_map]
      rw [← List.filterMap_eq_map]
      refine fm_congr fun i hi => ?_
      have := List.mem_range.mp hi
      simp only [Function.comp, nT]
      congr 2
      omega
    rw [e0]
    simp only [x_strI, Int.reduceEq, p10_1, p10_2, p10_3, p10_4, p10_5, p10_6, p10_7, p10_8, p10_9, p10_10, p10_11, p10_12, p10_13, p10_14, p10_15, p10_16, p10_17, p10_18, at_c0, at_c1, at_c2, at_c3, at_c4, at_c5, ix_30, ix_31, ix_32, subS, gSet, wr, ix_str, ix_lst, ix_tup, ix_ktup, ix_scr, gEq_str, gNe_str, gEq_int, gNe_int, gEq_bl, gIn_sign, gNotIn_sign, gAll_bls, lt_one, w_sl, w_c, w_op2, w_op1, w_evs0, w_evs1, o_rds0, o_rds1, w_opN, o_tks0, o_tks1, w_lst, w_tup, b_val, w_ite, w_mT, w_bAnd, w_bOr, w_bNot, w_bYes, w_and, w_or, w_not, w_if, w_ch, w_pt0, w_pt1, w_slc, w_call, w_meth, w_itr, w_rng1, w_rng2, w_rng3, w_enum, w_zip, s_seq, s_nx, s_rt, s_bk, s_ct, s_pass, s_brk, s_cnt, s_if, s_asg, s_drop, s_ret, s_retN, s_asgT, s_sub, s_box, s_for, o_some, o_none, o_ite, o_map, o_bind, wp_ok, wp_bad, z_val, z_new, z_bor, z_ali, r_non, r_bl, r_int, r_str, r_tup, r_lst, r_dk, r_dt, r_ktup, r_scr, r_glo, r_bor, r_new, r_ali, t_val, t_new, t_bor, t_ali, g_val, g_bor, g_new, g_ali, a_val, a_bor, a_ali, o_args0, o_args1, l_val, l_bor, l_ali, gAdd, gSub, mul_int, gMod, gDiv, gLt, gLe, gGt, gGe, gIsi, tyN, gLen, gNeg, gTuple, gList, gIsN, gNotN, gOrd, gMin, gMax, fNm, fTup, fCons, fNil, itemsOf, seqOf, k_NoneType_str, k_NoneType_tuple, k_NoneType_list, k_NoneType_int, k_NoneType_bool, k_NoneType_dict, k_bool_str, k_bool_tuple, k_bool_list, k_bool_int, k_bool_bool, k_bool_dict, k_int_str, k_int_tuple, k_int_list, k_int_int, k_int_bool, k_int_dict, k_str_str, k_str_tuple, k_str_list, k_str_int, k_str_bool, k_str_dict, k_tuple_str, k_tuple_tuple, k_tuple_list, k_tuple_int, k_tuple_bool, k_tuple_dict, k_list_str, k_list_tuple, k_list_list, k_list_int, k_list_bool, k_list_dict, k_dict_str, k_dict_tuple, k_dict_list, k_dict_int, k_dict_bool, k_dict_dict, slotOf, List.replicate, List.map_cons, List.map_nil, List.length_cons, List.length_nil, List.getElem?_cons_zero, List.getElem?_cons_succ, List.set_cons_zero, List.set_cons_succ, List.cons_append, List.nil_append, if_true, if_false, Bool.false_eq_true, reduceCtorEq, Nat.sub_self, Nat.reduceSub, Nat.reduceAdd, Nat.reduceLeDiff, Int.reduceLE, Int.reduceLT, Int.reducePow, Int.reduceToNat, Int.reduceNeg, Option.map_some, Option.map_none, Bool.not_true, Bool.not_false, ite_true, ite_false, decide_eq_true_eq, decide_true, decide_false, Bool.not_eq_true', restS, restL, keepV, wipeS, wipeL, l1, wsT_len, q2, q3, q4]
    have qq : (true && true && (-1 : Int) == -1) = true := rfl
    rw [if_pos qq]
    have en : ((one.length : Int) - 1 - -1).toNat = one.length := by omega
    have eL : ((sent.length : Int) - 1 - -1).toNat = sent.length := by omega
    rw [en]
    refine forL_ix (fun k s => ∃ x6 x7 x8 x9, s = ⟨[.val (.tup (wsT one)), .val (.tup (wsT other)), .val (.tup (wsT sent)), .own (.lst (ms.map itT)), .val (rowT (Pm.tab cW (ms.drop (one.length - k)) sent)), .own (.lst ((Pm.rowsL cW sent (ms.drop (one.length - k))).map rowT)), x6, x7, x8, x9], ce⟩) _ 0 _ ?_ (fun k u s hk ⟨x6, x7, x8, x9, es⟩ => ?_) fun s ⟨x6, x7, x8, x9, es⟩ => ?_
    · have : ms.drop (one.length - 0) = [] := List.drop_eq_nil_of_le (by omega)
      rw [this]
      exact ⟨_, _, _, _, rfl⟩
    · subst es
      rw [Nat.zero_add] at *
      obtain ⟨rfl, hkn⟩ := rangeTC_get hk
      obtain ⟨pl, hpl, epl⟩ : ∃ pl : Nat, (pl : Int) = (one.length : Int) - 1 + (k : Int) * -1 ∧ pl + 1 = one.length - k := ⟨one.length - 1 - k, by omega, by omega⟩
      rw [← hpl, ← epl]
      have hms : ms[pl]? = some ms[pl] := List.getElem?_eq_getElem (by omega)
      have hone := hmg hms
      generalize ms[pl] = m at hms hone
      have e1 : atI (ms.map itT) (pl : Int) = some (itT m) := at_nat (by rw [List.getElem?_map, hms]; rfl)
      have e2 : atI (wsT one) (pl : Int) = some (.str m.2) := at_nat (by rw [wsT, List.getElem?_map, hone]; rfl)
      have etl := Pm.tab_len cW (ms.drop (pl + 1)) sent
      have e3 : atI ((Pm.tab cW (ms.drop (pl + 1)) sent).map nT) (-1) = some (nT (Pm.rest cW (ms.drop (pl + 1)) [])) := at_last (by
        rw [List.length_map, etl, List.getElem?_map, show sent.length + 1 - 1 = sent.length by omega, Pm.tab_get _ _ _ _ (Nat.le_refl _), List.drop_length]
        rfl)
      have e4 : atI (wsT one) (pl : Int) = some (.str m.2) := e2
      have erow := Pm.rows_step cW sent hms
      have eg := fun (j : Nat) (hj : j ≤ sent.length) => Pm.tab_get cW (ms.drop (pl + 1)) sent j hj
      have ek : one.length - (k + 1) = pl := by omega
      have ed : ms.drop pl = m :: ms.drop (pl + 1) := by
        obtain ⟨hj, e⟩ := List.getElem?_eq_some_iff.mp hms
        rw [List.drop_eq_getElem_cons hj, e]
      rw [ek, erow, ed]
      have hrl : ((Pm.rowsL cW sent (ms.drop (pl + 1))).map rowT).length < line := by
        rw [List.length_map, Pm.rowsL_len, List.length_drop]
        exact line41 (by omega)
      generalize ms.drop (pl + 1) = ms' at *
      rw [rowT] at *
      rw [fNm]
      simp only [x_strI, Int.reduceEq, p10_1, p10_2, p10_3, p10_4, p10_5, p10_6, p10_7, p10_8, p10_9, p10_10, p10_11, p10_12, p10_13, p10_14, p10_15, p10_16, p10_17, p10_18, at_c0, at_c1, at_c2, at_c3, at_c4, at_c5, ix_30, ix_31, ix_32, subS, gSet, wr, ix_str, ix_lst, ix_tup, ix_ktup, ix_scr, gEq_str, gNe_str, gEq_int, gNe_int, gEq_bl, gIn_sign, gNotIn_sign, gAll_bls, lt_one, w_sl, w_c, w_op2, w_op1, w_evs0, w_evs1, o_rds0, o_rds1, w_opN, o_tks0, o_tks1, w_lst, w_tup, b_val, w_ite, w_mT, w_bAnd, w_bOr, w_bNot, w_bYes, w_and, w_or, w_not, w_if, w_ch, w_pt0, w_pt1, w_slc, w_call, w_meth, w_itr, w_rng1, w_rng2, w_rng3, w_enum, w_zip, s_seq, s_nx, s_rt, s_bk, s_ct, s_pass, s_brk, s_cnt, s_if, s_asg, s_drop, s_ret, s_retN, s_asgT, s_sub, s_box, s_for, o_some, o_none, o_ite, o_map, o_bind, wp_ok, wp_bad, z_val, z_new, z_bor, z_ali, r_non, r_bl, r_int, r_str, r_tup, r_lst, r_dk, r_dt, r_ktup, r_scr, r_glo, r_bor, r_new, r_ali, t_val, t_new, t_bor, t_ali, g_val, g_bor, g_new, g_ali, a_val, a_bor, a_ali, o_args0, o_args1, l_val, l_bor, l_ali, gAdd, gSub, mul_int, gMod, gDiv, gLt, gLe, gGt, gGe, gIsi, tyN, gLen, gNeg, gTuple, gList, gIsN, gNotN, gOrd, gMin, gMax, fNm, fTup, fCons, fNil, itemsOf, seqOf, k_NoneType_str, k_NoneType_tuple, k_NoneType_list, k_NoneType_int, k_NoneType_bool, k_NoneType_dict, k_bool_str, k_bool_tuple, k_bool_list, k_bool_int, k_bool_bool, k_bool_dict, k_int_str, k_int_tuple, k_int_list, k_int_int, k_int_bool, k_int_dict, k_str_str, k_str_tuple, k_str_list, k_str_int, k_str_bool, k_str_dict, k_tuple_str, k_tuple_tuple, k_tuple_list, k_tuple_int, k_tuple_bool, k_tuple_dict, k_list_str, k_list_tuple, k_list_list, k_list_int, k_list_bool, k_list_dict, k_dict_str, k_dict_tuple, k_dict_list, k_dict_int, k_dict_bool, k_dict_dict, slotOf, List.replicate, List.map_cons, List.map_nil, List.length_cons, List.length_nil, List.getElem?_cons_zero, List.getElem?_cons_succ, List.set_cons_zero, List.set_cons_succ, List.cons_append, List.nil_append, if_true, if_false, Bool.false_eq_true, reduceCtorEq, Nat.sub_self, Nat.reduceSub, Nat.reduceAdd, Nat.reduceLeDiff, Int.reduceLE, Int.reduceLT, Int.reducePow, Int.reduceToNat, Int.reduceNeg, Option.map_some, Option.map_none, Bool.not_true, Bool.not_false, ite_true, ite_false, decide_eq_true_eq, decide_true, decide_false, Bool.not_eq_true', e3, nT, l1, wsT_len, q2, q4, qq, eL]
      refine forL_ix (fun t s => ∃ x8 x9, s = ⟨[.val (.tup (wsT one)), .val (.tup (wsT other)), .val (.tup (wsT sent)), .own (.lst (ms.map itT)), .val (.lst ((Pm.tab cW ms' sent).map nT)), .own (.lst ((Pm.rowsL cW sent ms').map rowT)), .val (.int pl), .own (rowT (Pm.tab cW (m :: ms') (sent.drop (sent.length - t)))), x8, x9], ce⟩) _ 0 _ ?_ (fun t u s ht ⟨x8, x9, es⟩ => ?_) fun s ⟨x8, x9, es⟩ => ?_
      · rw [Nat.sub_zero, List.drop_length]
        have e0 : ((Pm.rest cW ms' [] : Nat) : Int) + 2 = (Pm.rest cW (m :: ms') [] : Nat) := by
          rw [Pm.rest_nil', Pm.rest_nil', List.length_cons]; omega
        rw [e0]
        exact ⟨_, _, rfl⟩
      · subst es
        rw [Nat.zero_add] at *
        obtain ⟨rfl, htn⟩ := rangeTC_get ht
        obtain ⟨at_, hat, eat⟩ : ∃ at_ : Nat, (at_ : Int) = (sent.length : Int) - 1 + (t : Int) * -1 ∧ at_ + 1 = sent.length - t := ⟨sent.length - 1 - t, by omega, by omega⟩
        rw [← hat, ← eat]
        have hs : sent[at_]? = some sent[at_] := List.getElem?_eq_getElem (by omega)
        have hw := (h3.word (List.mem_of_getElem? hs)).1
        have estep := Pm.tab_step cW (m :: ms') hs
        have g1 := eg (at_ + 1) (by omega)
        have g0 := eg at_ (by omega)
        rw [List.drop_eq_getElem_cons (by omega : at_ < sent.length)] at g0
        generalize sent[at_] = w at *
        have f1 : atI (wsT sent) (at_ : Int) = some (.str w) := at_nat (by rw [wsT, List.getElem?_map, hs]; rfl)
        have f2 : atI ((Pm.tab cW ms' sent).map nT) ((at_ : Int) + 1) = some (nT (Pm.rest cW ms' (sent.drop (at_ + 1)))) := at_nat (i := at_ + 1) (by rw [List.getElem?_map, g1]; rfl)
        have f3 : atI ((Pm.tab cW ms' sent).map nT) (at_ : Int) = some (nT (Pm.rest cW ms' (w :: sent.drop (at_ + 1)))) := at_nat (by rw [List.getElem?_map, g0]; rfl)
        have hlen := Pm.tab_len cW (m :: ms') (sent.drop (at_ + 1))
        have g4 := Pm.tab_get cW (m :: ms') (sent.drop (at_ + 1)) 0 (Nat.zero_le _)
        rw [List.drop_zero] at g4
        have f4 : atI ((Pm.tab cW (m :: ms') (sent.drop (at_ + 1))).map nT) 0 = some (nT (Pm.rest cW (m :: ms') (sent.drop (at_ + 1)))) := at_nat (i := 0) (by rw [List.getElem?_map, g4]; rfl)
        have ek : sent.length - (t + 1) = at_ := by omega
        rw [ek, estep]
        have hl2 : ((Pm.tab cW (m :: ms') (sent.drop (at_ + 1))).map nT).length < line := by
          rw [List.length_map, hlen, List.length_drop]
          exact line41 (by omega)
        rw [fNm, rowT]
        have emin : min (min (((Pm.rest cW ms' (sent.drop (at_ + 1)) : Nat) : Int) + (cW m w : Nat)) (((Pm.rest cW ms' (w :: sent.drop (at_ + 1)) : Nat) : Int) + 2)) (((Pm.rest cW (m :: ms') (sent.drop (at_ + 1)) : Nat) : Int) + 2) = (Pm.rest cW (m :: ms') (w :: sent.drop (at_ + 1)) : Nat) := by
          rw [Pm.rest_cons]; omega
        simp only [x_strI, Int.reduceEq, p10_1, p10_2, p10_3, p10_4, p10_5, p10_6, p10_7, p10_8, p10_9, p10_10, p10_11, p10_12, p10_13, p10_14, p10_15, p10_16, p10_17, p10_18, at_c0, at_c1, at_c2, at_c3, at_c4, at_c5, ix_30, ix_31, ix_32, subS, gSet, wr, ix_str, ix_lst, ix_tup, ix_ktup, ix_scr, gEq_str, gNe_str, gEq_int, gNe_int, gEq_bl, gIn_sign, gNotIn_sign, gAll_bls, lt_one, w_sl, w_c, w_op2, w_op1, w_evs0, w_evs1, o_rds0, o_rds1, w_opN, o_tks0, o_tks1, w_lst, w_tup, b_val, w_ite, w_mT, w_bAnd, w_bOr, w_bNot, w_bYes, w_and, w_or, w_not, w_if, w_ch, w_pt0, w_pt1, w_slc, w_call, w_meth, w_itr, w_rng1, w_rng2, w_rng3, w_enum, w_zip, s_seq, s_nx, s_rt, s_bk, s_ct, s_pass, s_brk, s_cnt, s_if, s_asg, s_drop, s_ret, s_retN, s_asgT, s_sub, s_box, s_for, o_some, o_none, o_ite, o_map, o_bind, wp_ok, wp_bad, z_val, z_new, z_bor, z_ali, r_non, r_bl, r_int, r_str, r_tup, r_lst, r_dk, r_dt, r_ktup, r_scr, r_glo, r_bor, r_new, r_ali, t_val, t_new, t_bor, t_ali, g_val, g_bor, g_new, g_ali, a_val, a_bor, a_ali, o_args0, o_args1, l_val, l_bor, l_ali, gAdd, gSub, mul_int, gMod, gDiv, gLt, gLe, gGt, gGe, gIsi, tyN, gLen, gNeg, gTuple, gList, gIsN, gNotN, gOrd, gMin, gMax, fNm, fTup, fCons, fNil, itemsOf, seqOf, k_NoneType_str, k_NoneType_tuple, k_NoneType_list, k_NoneType_int, k_NoneType_bool, k_NoneType_dict, k_bool_str, k_bool_tuple, k_bool_list, k_bool_int, k_bool_bool, k_bool_dict, k_int_str, k_int_tuple, k_int_list, k_int_int, k_int_bool, k_int_dict, k_str_str, k_str_tuple, k_str_list, k_str_int, k_str_bool, k_str_dict, k_tuple_str, k_tuple_tuple, k_tuple_list, k_tuple_int, k_tuple_bool, k_tuple_dict, k_list_str, k_list_tuple, k_list_list, k_list_int, k_list_bool, k_list_dict, k_dict_str, k_dict_tuple, k_dict_list, k_dict_int, k_dict_bool, k_dict_dict, slotOf, List.replicate, List.map_cons, List.map_nil, List.length_cons, List.length_nil, List.getElem?_cons_zero, List.getElem?_cons_succ, List.set_cons_zero, List.set_cons_succ, List.cons_append, List.nil_append, if_true, if_false, Bool.false_eq_true, reduceCtorEq, Nat.sub_self, Nat.reduceSub, Nat.reduceAdd, Nat.reduceLeDiff, Int.reduceLE, Int.reduceLT, Int.reducePow, Int.reduceToNat, Int.reduceNeg, Option.map_some, Option.map_none, Bool.not_true, Bool.not_false, ite_true, ite_false, decide_eq_true_eq, decide_true, decide_false, Bool.not_eq_true', f1, f2, f3, f4, e1, e2, nT, hI hw, methS, isL, gIns, hl2, gMin3, emin, List.take_zero, List.drop_zero, Int.toNat_zero, true_and, and_true, show (0 : Int) < 9223372036854775808 from by decide, Int.le_refl]
        exact ⟨_, _, rfl⟩
      · subst es
        have el2 : (rangeTC ((sent.length : Int) - 1) (-1) sent.length).length = sent.length := by simp [rangeTC]
        rw [el2, Nat.zero_add, Nat.sub_self, List.drop_zero]
        simp only [x_strI, Int.reduceEq, p10_1, p10_2, p10_3, p10_4, p10_5, p10_6, p10_7, p10_8, p10_9, p10_10, p10_11, p10_12, p10_13, p10_14, p10_15, p10_16, p10_17, p10_18, at_c0, at_c1, at_c2, at_c3, at_c4, at_c5, ix_30, ix_31, ix_32, subS, gSet, wr, ix_str, ix_lst, ix_tup, ix_ktup, ix_scr, gEq_str, gNe_str, gEq_int, gNe_int, gEq_bl, gIn_sign, gNotIn_sign, gAll_bls, lt_one, w_sl, w_c, w_op2, w_op1, w_evs0, w_evs1, o_rds0, o_rds1, w_opN, o_tks0, o_tks1, w_lst, w_tup, b_val, w_ite, w_mT, w_bAnd, w_bOr, w_bNot, w_bYes, w_and, w_or, w_not, w_if, w_ch, w_pt0, w_pt1, w_slc, w_call, w_meth, w_itr, w_rng1, w_rng2, w_rng3, w_enum, w_zip, s_seq, s_nx, s_rt, s_bk, s_ct, s_pass, s_brk, s_cnt, s_if, s_asg, s_drop, s_ret, s_retN, s_asgT, s_sub, s_box, s_for, o_some, o_none, o_ite, o_map, o_bind, wp_ok, wp_bad, z_val, z_new, z_bor, z_ali, r_non, r_bl, r_int, r_str, r_tup, r_lst, r_dk, r_dt, r_ktup, r_scr, r_glo, r_bor, r_new, r_ali, t_val, t_new, t_bor, t_ali, g_val, g_bor, g_new, g_ali, a_val, a_bor, a_ali, o_args0, o_args1, l_val, l_bor, l_ali, gAdd, gSub, mul_int, gMod, gDiv, gLt, gLe, gGt, gGe, gIsi, tyN, gLen, gNeg, gTuple, gList, gIsN, gNotN, gOrd, gMin, gMax, fNm, fTup, fCons, fNil, itemsOf, seqOf, k_NoneType_str, k_NoneType_tuple, k_NoneType_list, k_NoneType_int, k_NoneType_bool, k_NoneType_dict, k_bool_str, k_bool_tuple, k_bool_list, k_bool_int, k_bool_bool, k_bool_dict, k_int_str, k_int_tuple, k_int_list, k_int_int, k_int_bool, k_int_dict, k_str_str, k_str_tuple, k_str_list, k_str_int, k_str_bool, k_str_dict, k_tuple_str, k_tuple_tuple, k_tuple_list, k_tuple_int, k_tuple_bool, k_tuple_dict, k_list_str, k_list_tuple, k_list_list, k_list_int, k_list_bool, k_list_dict, k_dict_str, k_dict_tuple, k_dict_list, k_dict_int, k_dict_bool, k_dict_dict, slotOf, List.replicate, List.map_cons, List.map_nil, List.length_cons, List.length_nil, List.getElem?_cons_zero, List.getElem?_cons_succ, List.set_cons_zero, List.set_cons_succ, List.cons_append, List.nil_append, if_true, if_false, Bool.false_eq_true, reduceCtorEq, Nat.sub_self, Nat.reduceSub, Nat.reduceAdd, Nat.reduceLeDiff, Int.reduceLE, Int.reduceLT, Int.reducePow, Int.reduceToNat, Int.reduceNeg, Option.map_some, Option.map_none, Bool.not_true, Bool.not_false, ite_true, ite_false, decide_eq_true_eq, decide_true, decide_false, Bool.not_eq_true', rowT, methS, isL, gIns, hrl, List.take_zero, List.drop_zero, Int.toNat_zero, true_and, and_true, show (0 : Int) < 9223372036854775808 from by decide, Int.le_refl]
        exact ⟨_, _, _, _, rfl⟩
    · subst es
      have el : (rangeTC ((one.length : Int) - 1) (-1) one.length).length = one.length := by simp [rangeTC]
      rw [el, Nat.zero_add, Nat.sub_self, List.drop_zero]
      simp only [x_strI, Int.reduceEq, p10_1, p10_2, p10_3, p10_4, p10_5, p10_6, p10_7, p10_8, p10_9, p10_10, p10_11, p10_12, p10_13, p10_14, p10_15, p10_16, p10_17, p10_18, at_c0, at_c1, at_c2, at_c3, at_c4, at_c5, ix_30, ix_31, ix_32, subS, gSet, wr, ix_str, ix_lst, ix_tup, ix_ktup, ix_scr, gEq_str, gNe_str, gEq_int, gNe_int, gEq_bl, gIn_sign, gNotIn_sign, gAll_bls, lt_one, w_sl, w_c, w_op2, w_op1, w_evs0, w_evs1, o_rds0, o_rds1, w_opN, o_tks0, o_tks1, w_lst, w_tup, b_val, w_ite, w_mT, w_bAnd, w_bOr, w_bNot, w_bYes, w_and, w_or, w_not, w_if, w_ch, w_pt0, w_pt1, w_slc, w_call, w_meth, w_itr, w_rng1, w_rng2, w_rng3, w_enum, w_zip, s_seq, s_nx, s_rt, s_bk, s_ct, s_pass, s_brk, s_cnt, s_if, s_asg, s_drop, s_ret, s_retN, s_asgT, s_sub, s_box, s_for, o_some, o_none, o_ite, o_map, o_bind, wp_ok, wp_bad, z_val, z_new, z_bor, z_ali, r_non, r_bl, r_int, r_str, r_tup, r_lst, r_dk, r_dt, r_ktup, r_scr, r_glo, r_bor, r_new, r_ali, t_val, t_new, t_bor, t_ali, g_val, g_bor, g_new, g_ali, a_val, a_bor, a_ali, o_args0, o_args1, l_val, l_bor, l_ali, gAdd, gSub, mul_int, gMod, gDiv, gLt, gLe, gGt, gGe, gIsi, tyN, gLen, gNeg, gTuple, gList, gIsN, gNotN, gOrd, gMin, gMax, fNm, fTup, fCons, fNil, itemsOf, seqOf, k_NoneType_str, k_NoneType_tuple, k_NoneType_list, k_NoneType_int, k_NoneType_bool, k_NoneType_dict, k_bool_str, k_bool_tuple, k_bool_list, k_bool_int, k_bool_bool, k_bool_dict, k_int_str, k_int_tuple, k_int_list, k_int_int, k_int_bool, k_int_dict, k_str_str, k_str_tuple, k_str_list, k_str_int, k_str_bool, k_str_dict, k_tuple_str, k_tuple_tuple, k_tuple_list, k_tuple_int, k_tuple_bool, k_tuple_dict, k_list_str, k_list_tuple, k_list_list, k_list_int, k_list_bool, k_list_dict, k_dict_str, k_dict_tuple, k_dict_list, k_dict_int, k_dict_bool, k_dict_dict, slotOf, List.replicate, List.map_cons, List.map_nil, List.length_cons, List.length_nil, List.getElem?_cons_zero, List.getElem?_cons_succ, List.set_cons_zero, List.set_cons_succ, List.cons_append, List.nil_append, if_true, if_false, Bool.false_eq_true, reduceCtorEq, Nat.sub_self, Nat.reduceSub, Nat.reduceAdd, Nat.reduceLeDiff, Int.reduceLE, Int.reduceLT, Int.reducePow, Int.reduceToNat, Int.reduceNeg, Option.map_some, Option.map_none, Bool.not_true, Bool.not_false, ite_true, ite_false, decide_eq_true_eq, decide_true, decide_false, Bool.not_eq_true']
      exact ⟨trivial, trivial⟩
theorem price_ok {one other sent : List W} (h1 : Sn one) (h2 : Sn other) (h3 : Sn sent) (ce : List T) :
    IsV (f_price [.val (.tup (wsT one)), .val (.tup (wsT other)), .val (.tup (wsT sent))] ce) (nT (Pm.rest cW (msW one other) sent)) ce := by
  have hR := (rests_ok h1 h2 h3 ce).back
  refine .of ?_
  unfold f_price runF
  refine WP.endF ?_
  have g1 := Pm.rowsL_get cW sent (msW one other) 0 (Nat.zero_le _)
  have g2 := Pm.tab_get cW (msW one other) sent 0 (Nat.zero_le _)
  rw [List.drop_zero] at g1 g2
  have e1 : atI ((Pm.rowsL cW sent (msW one other)).map rowT) 0 = some (rowT (Pm.tab cW (msW one other) sent)) := at_nat (i := 0) (by rw [List.getElem?_map, g1]; rfl)
  have e2 : atI ((Pm.tab cW (msW one other) sent).map nT) 0 = some (nT (Pm.rest cW (msW one other) sent)) := at_nat (i := 0) (by rw [List.getElem?_map, g2]; rfl)
  simp only [m_price, x_strI, Int.reduceEq, p10_1, p10_2, p10_3, p10_4, p10_5, p10_6, p10_7, p10_8, p10_9, p10_10, p10_11, p10_12, p10_13, p10_14, p10_15, p10_16, p10_17, p10_18, at_c0, at_c1, at_c2, at_c3, at_c4, at_c5, ix_30, ix_31, ix_32, subS, gSet, wr, ix_str, ix_lst, ix_tup, ix_ktup, ix_scr, gEq_str, gNe_str, gEq_int, gNe_int, gEq_bl, gIn_sign, gNotIn_sign, gAll_bls, lt_one, w_sl, w_c, w_op2, w_op1, w_evs0, w_evs1, o_rds0, o_rds1, w_opN, o_tks0, o_tks1, w_lst, w_tup, b_val, w_ite, w_mT, w_bAnd, w_bOr, w_bNot, w_bYes, w_and, w_or, w_not, w_if, w_ch, w_pt0, w_pt1, w_slc, w_call, w_meth, w_itr, w_rng1, w_rng2, w_rng3, w_enum, w_zip, s_seq, s_nx, s_rt, s_bk, s_ct, s_pass, s_brk, s_cnt, s_if, s_asg, s_drop, s_ret, s_retN, s_asgT, s_sub, s_box, s_for, o_some, o_none, o_ite, o_map, o_bind, wp_ok, wp_bad, z_val, z_new, z_bor, z_ali, r_non, r_bl, r_int, r_str, r_tup, r_lst, r_dk, r_dt, r_ktup, r_scr, r_glo, r_bor, r_new, r_ali, t_val, t_new, t_bor, t_ali, g_val, g_bor, g_new, g_ali, a_val, a_bor, a_ali, o_args0, o_args1, l_val, l_bor, l_ali, gAdd, gSub, mul_int, gMod, gDiv, gLt, gLe, gGt, gGe, gIsi, tyN, gLen, gNeg, gTuple, gList, gIsN, gNotN, gOrd, gMin, gMax, fNm, fTup, fCons, fNil, itemsOf, seqOf, k_NoneType_str, k_NoneType_tuple, k_NoneType_list, k_NoneType_int, k_NoneType_bool, k_NoneType_dict, k_bool_str, k_bool_tuple, k_bool_list, k_bool_int, k_bool_bool, k_bool_dict, k_int_str, k_int_tuple, k_int_list, k_int_int, k_int_bool, k_int_dict, k_str_str, k_str_tuple, k_str_list, k_str_int, k_str_bool, k_str_dict, k_tuple_str, k_tuple_tuple, k_tuple_list, k_tuple_int, k_tuple_bool, k_tuple_dict, k_list_str, k_list_tuple, k_list_list, k_list_int, k_list_bool, k_list_dict, k_dict_str, k_dict_tuple, k_dict_list, k_dict_int, k_dict_bool, k_dict_dict, slotOf, List.replicate, List.map_cons, List.map_nil, List.length_cons, List.length_nil, List.getElem?_cons_zero, List.getElem?_cons_succ, List.set_cons_zero, List.set_cons_succ, List.cons_append, List.nil_append, if_true, if_false, Bool.false_eq_true, reduceCtorEq, Nat.sub_self, Nat.reduceSub, Nat.reduceAdd, Nat.reduceLeDiff, Int.reduceLE, Int.reduceLT, Int.reducePow, Int.reduceToNat, Int.reduceNeg, Option.map_some, Option.map_none, Bool.not_true, Bool.not_false, ite_true, ite_false, decide_eq_true_eq, decide_true, decide_false, Bool.not_eq_true', hR, e1, rowT, e2, nT]
  exact ⟨trivial, trivial⟩
end Vi

set_option Elab.async false
set_option linter.all false
set_option maxRecDepth 100000
namespace Vi
open PySem PySem.Spec PyProof.Rows L2
/-! ### walked things, by what they stand for -/
theorem compL_E {α : Type} {vs : List Nat} {f : T → S → Option S} {mi : S → Res Bool} {me : M} {s : S} {e : α → T} {g : α → Option T} : ∀ {xs : List α} {acc : List T}, acc.length + xs.length ≤ line → (∀ a ∈ xs, ∀ acc : List T, acc.length < line → stepC vs f mi me (e a) acc s = .ok (acc ++ (g a).toList) s) →
    compL vs f mi me (xs.map e) acc s = .ok (acc ++ xs.filterMap g) s
  | [], acc, _, _ => by simp [compL]
  | t :: ts, acc, hl, hs => by
    have hl' : acc.length + (ts.length + 1) ≤ line := by simpa using hl
    have e1 := hs t (by simp) acc (by omega)
    have hle : (acc ++ (g t).toList).length + ts.length ≤ line := by
      cases g t <;> simp <;> omega
    have ih := compL_E (acc := acc ++ (g t).toList) hle fun u hu => hs u (List.mem_cons_of_mem _ hu)
    simp only [List.map_cons, compL, e1, Res.bind_ok, ih]
    cases q : g t <;> simp [List.filterMap_cons, q]
theorem wp_compE {α : Type} {vs : List Nat} {src : S → Res (List T)} {f : T → S → Option S} {mi : S → Res Bool} {me : M} {s : S} {Q : DV → S → Prop} (xs : List α) (e : α → T) (g : α → Option T) (hsrc : WP (src s) fun its s1 => its = xs.map e ∧ xs.length ≤ line ∧ (∀ a ∈ xs, ∀ acc : List T, acc.length < line → WP (stepC vs f mi me (e a) acc (wipeS vs s1)) fun acc' s' => acc' = acc ++ (g a).toList ∧ s' = wipeS vs s1) ∧
    Q (.new (.lst (xs.filterMap g))) (restS vs s1 (wipeS vs s1))) : WP (mComp vs src f mi me s) Q := by
  obtain ⟨its, s1, e0, rfl, hl, hs, q⟩ := hsrc.ex
  have e1 := compL_E (acc := []) (e := e) (g := g) (by simpa using hl) fun a ha acc hacc => by
    obtain ⟨acc', s', e1, rfl, rfl⟩ := (hs a ha acc hacc).ex
    exact e1
  simp only [mComp, e0, Res.bind_ok, e1, outL, List.nil_append, wp_ok]
  exact q
/-- a loop that folds -/
theorem forL_fold {α σ : Type} {f : T → S → Option S} {b : MS} {Q : Out → S → Prop} (e : α → T) (step : σ → α → σ) (I : σ → S → Prop) : ∀ (xs : List α) (a0 : σ) (s : S), I a0 s → (∀ pre x post, xs = pre ++ x :: post → ∀ s, I (pre.foldl step a0) s → WP (match f (e x) s with
    | none => .bad
    | some s1 => b s1) fun o s' => match o with
    | .nx => I (step (pre.foldl step a0) x) s'
    | .ct => I (step (pre.foldl step a0) x) s'
    | .bk => Q .nx s'
    | .rt d => Q (.rt d) s') → (∀ s, I (xs.foldl step a0) s → Q .nx s) → WP (forL f b (xs.map e) s) Q
  | [], a0, s, h0, _, hq => hq _ h0
  | t :: ts, a0, s, h0, hs, hq => by
    have h := hs [] t ts rfl s h0
    have next : ∀ s', I (step a0 t) s' → WP (forL f b (ts.map e) s') Q := fun s' h' =>
      forL_fold e step I ts (step a0 t) s' h' (fun pre x post hx s hI => hs (t :: pre) x post (by rw [hx]; rfl) s hI) hq
    rw [List.map_cons]
    unfold forL
    cases e1 : f (e t) s with
    | none => rw [e1] at h; exact h.elim
    | some s1 =>
      rw [e1] at h
      simp only
      rw [wp_bind]
      refine WP.mono h fun o s' ho => ?_
      cases o with
      | nx => exact next s' ho
      | ct => exact next s' ho
      | bk => exact ho
      | rt d => exact ho
/-- a law's loop: turn by turn -/
theorem forL_each {f : T → S → Option S} {b : MS} {Q : Out → S → Prop} (I : S → Prop) (its : List T) (s : S) (h0 : I s) (hs : ∀ t ∈ its, ∀ s, I s → WP (match f t s with
    | none => .bad
    | some s1 => b s1) fun o s' => o = .nx ∧ I s') (hq : ∀ s, I s → Q .nx s) : WP (forL f b its s) Q :=
  forL_inv I h0 (fun t ht s hI => WP.mono (hs t ht s hI) fun o s' ⟨ho, h⟩ => by subst ho; exact h) hq
theorem filterMap_some' {α β : Type} (f : α → β) (l : List α) : l.filterMap (fun a => some (f a)) = l.map f := by simp
theorem filterMap_if {α β : Type} (p : α → Bool) (f : α → β) (l : List α) : l.filterMap (fun a => if p a then some (f a) else none) = (l.filter p).map f := by
  induction l with
  | nil => rfl
  | cons a l ih => rw [List.filterMap_cons, List.filter_cons]; cases h : p a <;> simp [ih]
theorem filterMap_ifp {α β : Type} (p : α → Prop) [DecidablePred p] (f : α → β) (l : List α) : l.filterMap (fun a => if p a then some (f a) else none) = (l.filter fun a => decide (p a)).map f := by
  rw [← filterMap_if]
  simp only [decide_eq_true_eq]
end Vi

set_option Elab.async false
set_option linter.all false
set_option maxRecDepth 100000
namespace Vi
open PySem PySem.Spec PyProof.Rows L2
def tupN (r : List Nat) : T := .tup (r.map nT)
theorem rows_ok {n : Nat} (hn : n ≤ 5) (ce : List T) : IsN (f__law_rows [.val (.int (n : Int))] ce) (.lst ((Pm.rowsN n).map tupN)) ce := by
  have l0 : 0 ≤ line := by decide
  have l1 : 1 ≤ line := by decide
  have hs : small (n : Int) = true := small_nat (by omega)
  refine .of ?_
  unfold f__law_rows runF
  refine WP.endF ?_
  simp only [m__law_rows, x_strI, Int.reduceEq, p10_1, p10_2, p10_3, p10_4, p10_5, p10_6, p10_7, p10_8, p10_9, p10_10, p10_11, p10_12, p10_13, p10_14, p10_15, p10_16, p10_17, p10_18, at_c0, at_c1, at_c2, at_c3, at_c4, at_c5, ix_30, ix_31, ix_32, subS, gSet, wr, ix_str, ix_lst, ix_tup, ix_ktup, ix_scr, gEq_str, gNe_str, gEq_int, gNe_int, gEq_bl, gIn_sign, gNotIn_sign, gAll_bls, lt_one, w_sl, w_c, w_op2, w_op1, w_evs0, w_evs1, o_rds0, o_rds1, w_opN, o_tks0, o_tks1, w_lst, w_tup, b_val, w_ite, w_mT, w_bAnd, w_bOr, w_bNot, w_bYes, w_and, w_or, w_not, w_if, w_ch, w_pt0, w_pt1, w_slc, w_call, w_meth, w_itr, w_rng1, w_rng2, w_rng3, w_enum, w_zip, s_seq, s_nx, s_rt, s_bk, s_ct, s_pass, s_brk, s_cnt, s_if, s_asg, s_drop, s_ret, s_retN, s_asgT, s_sub, s_box, s_for, o_some, o_none, o_ite, o_map, o_bind, wp_ok, wp_bad, z_val, z_new, z_bor, z_ali, r_non, r_bl, r_int, r_str, r_tup, r_lst, r_dk, r_dt, r_ktup, r_scr, r_glo, r_bor, r_new, r_ali, t_val, t_new, t_bor, t_ali, g_val, g_bor, g_new, g_ali, a_val, a_bor, a_ali, o_args0, o_args1, l_val, l_bor, l_ali, gAdd, gSub, mul_int, gMod, gDiv, gLt, gLe, gGt, gGe, gIsi, tyN, gLen, gNeg, gTuple, gList, gIsN, gNotN, gOrd, gMin, gMax, fNm, fTup, fCons, fNil, itemsOf, seqOf, k_NoneType_str, k_NoneType_tuple, k_NoneType_list, k_NoneType_int, k_NoneType_bool, k_NoneType_dict, k_bool_str, k_bool_tuple, k_bool_list, k_bool_int, k_bool_bool, k_bool_dict, k_int_str, k_int_tuple, k_int_list, k_int_int, k_int_bool, k_int_dict, k_str_str, k_str_tuple, k_str_list, k_str_int, k_str_bool, k_str_dict, k_tuple_str, k_tuple_tuple, k_tuple_list, k_tuple_int, k_tuple_bool, k_tuple_dict, k_list_str, k_list_tuple, k_list_list, k_list_int, k_list_bool, k_list_dict, k_dict_str, k_dict_tuple, k_dict_list, k_dict_int, k_dict_bool, k_dict_dict, slotOf, List.replicate, List.map_cons, List.map_nil, List.length_cons, List.length_nil, List.getElem?_cons_zero, List.getElem?_cons_succ, List.set_cons_zero, List.set_cons_succ, List.cons_append, List.nil_append, if_true, if_false, Bool.false_eq_true, reduceCtorEq, Nat.sub_self, Nat.reduceSub, Nat.reduceAdd, Nat.reduceLeDiff, Int.reduceLE, Int.reduceLT, Int.reducePow, Int.reduceToNat, Int.reduceNeg, Option.map_some, Option.map_none, Bool.not_true, Bool.not_false, ite_true, ite_false, decide_eq_true_eq, decide_true, decide_false, Bool.not_eq_true', l0, l1, hs, Int.toNat_natCast]
  refine forL_ix (fun k s => ∃ x2, s = ⟨[.val (.int (n : Int)), .own (.lst ((Pm.rowsN k).map tupN)), x2, .no], ce⟩) _ 0 _ ?_ (fun k u s hk ⟨x2, es⟩ => ?_) fun s ⟨x2, es⟩ => ?_
  · exact ⟨_, rfl⟩
  · subst es
    rw [Nat.zero_add] at *
    have hk2 : u = .int (k : Int) ∧ k < n := by
      simp only [rangeT, List.getElem?_map] at hk
      obtain ⟨i, hi, rfl⟩ := Option.map_eq_some_iff.mp hk
      obtain ⟨h1, h2⟩ := List.getElem?_eq_some_iff.mp hi
      simp at h1 h2
      subst h2
      exact ⟨by simp, h1⟩
    obtain ⟨rfl, hkn⟩ := hk2
    have hrl := Pm.rowsN_len k
    have h32 : 2 ^ k ≤ 32 := by
      have : k = 0 ∨ k = 1 ∨ k = 2 ∨ k = 3 ∨ k = 4 := by omega
      rcases this with rfl | rfl | rfl | rfl | rfl <;> decide
    rw [fNm]
    simp only [x_strI, Int.reduceEq, p10_1, p10_2, p10_3, p10_4, p10_5, p10_6, p10_7, p10_8, p10_9, p10_10, p10_11, p10_12, p10_13, p10_14, p10_15, p10_16, p10_17, p10_18, at_c0, at_c1, at_c2, at_c3, at_c4, at_c5, ix_30, ix_31, ix_32, subS, gSet, wr, ix_str, ix_lst, ix_tup, ix_ktup, ix_scr, gEq_str, gNe_str, gEq_int, gNe_int, gEq_bl, gIn_sign, gNotIn_sign, gAll_bls, lt_one, w_sl, w_c, w_op2, w_op1, w_evs0, w_evs1, o_rds0, o_rds1, w_opN, o_tks0, o_tks1, w_lst, w_tup, b_val, w_ite, w_mT, w_bAnd, w_bOr, w_bNot, w_bYes, w_and, w_or, w_not, w_if, w_ch, w_pt0, w_pt1, w_slc, w_call, w_meth, w_itr, w_rng1, w_rng2, w_rng3, w_enum, w_zip, s_seq, s_nx, s_rt, s_bk, s_ct, s_pass, s_brk, s_cnt, s_if, s_asg, s_drop, s_ret, s_retN, s_asgT, s_sub, s_box, s_for, o_some, o_none, o_ite, o_map, o_bind, wp_ok, wp_bad, z_val, z_new, z_bor, z_ali, r_non, r_bl, r_int, r_str, r_tup, r_lst, r_dk, r_dt, r_ktup, r_scr, r_glo, r_bor, r_new, r_ali, t_val, t_new, t_bor, t_ali, g_val, g_bor, g_new, g_ali, a_val, a_bor, a_ali, o_args0, o_args1, l_val, l_bor, l_ali, gAdd, gSub, mul_int, gMod, gDiv, gLt, gLe, gGt, gGe, gIsi, tyN, gLen, gNeg, gTuple, gList, gIsN, gNotN, gOrd, gMin, gMax, fNm, fTup, fCons, fNil, itemsOf, seqOf, k_NoneType_str, k_NoneType_tuple, k_NoneType_list, k_NoneType_int, k_NoneType_bool, k_NoneType_dict, k_bool_str, k_bool_tuple, k_bool_list, k_bool_int, k_bool_bool, k_bool_dict, k_int_str, k_int_tuple, k_int_list, k_int_int, k_int_bool, k_int_dict, k_str_str, k_str_tuple, k_str_list, k_str_int, k_str_bool, k_str_dict, k_tuple_str, k_tuple_tuple, k_tuple_list, k_tuple_int, k_tuple_bool, k_tuple_dict, k_list_str, k_list_tuple, k_list_list, k_list_int, k_list_bool, k_list_dict, k_dict_str, k_dict_tuple, k_dict_list, k_dict_int, k_dict_bool, k_dict_dict, slotOf, List.replicate, List.map_cons, List.map_nil, List.length_cons, List.length_nil, List.getElem?_cons_zero, List.getElem?_cons_succ, List.set_cons_zero, List.set_cons_succ, List.cons_append, List.nil_append, if_true, if_false, Bool.false_eq_true, reduceCtorEq, Nat.sub_self, Nat.reduceSub, Nat.reduceAdd, Nat.reduceLeDiff, Int.reduceLE, Int.reduceLT, Int.reducePow, Int.reduceToNat, Int.reduceNeg, Option.map_some, Option.map_none, Bool.not_true, Bool.not_false, ite_true, ite_false, decide_eq_true_eq, decide_true, decide_false, Bool.not_eq_true']
    refine wp_compE (Pm.rowsN k) tupN (fun r => some (tupN (r ++ [k]))) ?_
    simp only [x_strI, Int.reduceEq, p10_1, p10_2, p10_3, p10_4, p10_5, p10_6, p10_7, p10_8, p10_9, p10_10, p10_11, p10_12, p10_13, p10_14, p10_15, p10_16, p10_17, p10_18, at_c0, at_c1, at_c2, at_c3, at_c4, at_c5, ix_30, ix_31, ix_32, subS, gSet, wr, ix_str, ix_lst, ix_tup, ix_ktup, ix_scr, gEq_str, gNe_str, gEq_int, gNe_int, gEq_bl, gIn_sign, gNotIn_sign, gAll_bls, lt_one, w_sl, w_c, w_op2, w_op1, w_evs0, w_evs1, o_rds0, o_rds1, w_opN, o_tks0, o_tks1, w_lst, w_tup, b_val, w_ite, w_mT, w_bAnd, w_bOr, w_bNot, w_bYes, w_and, w_or, w_not, w_if, w_ch, w_pt0, w_pt1, w_slc, w_call, w_meth, w_itr, w_rng1, w_rng2, w_rng3, w_enum, w_zip, s_seq, s_nx, s_rt, s_bk, s_ct, s_pass, s_brk, s_cnt, s_if, s_asg, s_drop, s_ret, s_retN, s_asgT, s_sub, s_box, s_for, o_some, o_none, o_ite, o_map, o_bind, wp_ok, wp_bad, z_val, z_new, z_bor, z_ali, r_non, r_bl, r_int, r_str, r_tup, r_lst, r_dk, r_dt, r_ktup, r_scr, r_glo, r_bor, r_new, r_ali, t_val, t_new, t_bor, t_ali, g_val, g_bor, g_new, g_ali, a_val, a_bor, a_ali, o_args0, o_args1, l_val, l_bor, l_ali, gAdd, gSub, mul_int, gMod, gDiv, gLt, gLe, gGt, gGe, gIsi, tyN, gLen, gNeg, gTuple, gList, gIsN, gNotN, gOrd, gMin, gMax, fNm, fTup, fCons, fNil, itemsOf, seqOf, k_NoneType_str, k_NoneType_tuple, k_NoneType_list, k_NoneType_int, k_NoneType_bool, k_NoneType_dict, k_bool_str, k_bool_tuple, k_bool_list, k_bool_int, k_bool_bool, k_bool_dict, k_int_str, k_int_tuple, k_int_list, k_int_int, k_int_bool, k_int_dict, k_str_str, k_str_tuple, k_str_list, k_str_int, k_str_bool, k_str_dict, k_tuple_str, k_tuple_tuple, k_tuple_list, k_tuple_int, k_tuple_bool, k_tuple_dict, k_list_str, k_list_tuple, k_list_list, k_list_int, k_list_bool, k_list_dict, k_dict_str, k_dict_tuple, k_dict_list, k_dict_int, k_dict_bool, k_dict_dict, slotOf, List.replicate, List.map_cons, List.map_nil, List.length_cons, List.length_nil, List.getElem?_cons_zero, List.getElem?_cons_succ, List.set_cons_zero, List.set_cons_succ, List.cons_append, List.nil_append, if_true, if_false, Bool.false_eq_true, reduceCtorEq, Nat.sub_self, Nat.reduceSub, Nat.reduceAdd, Nat.reduceLeDiff, Int.reduceLE, Int.reduceLT, Int.reducePow, Int.reduceToNat, Int.reduceNeg, Option.map_some, Option.map_none, Bool.not_true, Bool.not_false, ite_true, ite_false, decide_eq_true_eq, decide_true, decide_false, Bool.not_eq_true']
    refine ⟨trivial, line40 (by omega), fun r hr acc ha => ?_, ?_⟩
    · have hl := (Pm.rowsN_in hr).2
      have l2 : r.length + 1 ≤ line := line40 (by omega)
      refine wp_step rfl ?_
      simp only [x_strI, Int.reduceEq, p10_1, p10_2, p10_3, p10_4, p10_5, p10_6, p10_7, p10_8, p10_9, p10_10, p10_11, p10_12, p10_13, p10_14, p10_15, p10_16, p10_17, p10_18, at_c0, at_c1, at_c2, at_c3, at_c4, at_c5, ix_30, ix_31, ix_32, subS, gSet, wr, ix_str, ix_lst, ix_tup, ix_ktup, ix_scr, gEq_str, gNe_str, gEq_int, gNe_int, gEq_bl, gIn_sign, gNotIn_sign, gAll_bls, lt_one, w_sl, w_c, w_op2, w_op1, w_evs0, w_evs1, o_rds0, o_rds1, w_opN, o_tks0, o_tks1, w_lst, w_tup, b_val, w_ite, w_mT, w_bAnd, w_bOr, w_bNot, w_bYes, w_and, w_or, w_not, w_if, w_ch, w_pt0, w_pt1, w_slc, w_call, w_meth, w_itr, w_rng1, w_rng2, w_rng3, w_enum, w_zip, s_seq, s_nx, s_rt, s_bk, s_ct, s_pass, s_brk, s_cnt, s_if, s_asg, s_drop, s_ret, s_retN, s_asgT, s_sub, s_box, s_for, o_some, o_none, o_ite, o_map, o_bind, wp_ok, wp_bad, z_val, z_new, z_bor, z_ali, r_non, r_bl, r_int, r_str, r_tup, r_lst, r_dk, r_dt, r_ktup, r_scr, r_glo, r_bor, r_new, r_ali, t_val, t_new, t_bor, t_ali, g_val, g_bor, g_new, g_ali, a_val, a_bor, a_ali, o_args0, o_args1, l_val, l_bor, l_ali, gAdd, gSub, mul_int, gMod, gDiv, gLt, gLe, gGt, gGe, gIsi, tyN, gLen, gNeg, gTuple, gList, gIsN, gNotN, gOrd, gMin, gMax, fNm, fTup, fCons, fNil, itemsOf, seqOf, k_NoneType_str, k_NoneType_tuple, k_NoneType_list, k_NoneType_int, k_NoneType_bool, k_NoneType_dict, k_bool_str, k_bool_tuple, k_bool_list, k_bool_int, k_bool_bool, k_bool_dict, k_int_str, k_int_tuple, k_int_list, k_int_int, k_int_bool, k_int_dict, k_str_str, k_str_tuple, k_str_list, k_str_int, k_str_bool, k_str_dict, k_tuple_str, k_tuple_tuple, k_tuple_list, k_tuple_int, k_tuple_bool, k_tuple_dict, k_list_str, k_list_tuple, k_list_list, k_list_int, k_list_bool, k_list_dict, k_dict_str, k_dict_tuple, k_dict_list, k_dict_int, k_dict_bool, k_dict_dict, slotOf, List.replicate, List.map_cons, List.map_nil, List.length_cons, List.length_nil, List.getElem?_cons_zero, List.getElem?_cons_succ, List.set_cons_zero, List.set_cons_succ, List.cons_append, List.nil_append, if_true, if_false, Bool.false_eq_true, reduceCtorEq, Nat.sub_self, Nat.reduceSub, Nat.reduceAdd, Nat.reduceLeDiff, Int.reduceLE, Int.reduceLT, Int.reducePow, Int.reduceToNat, Int.reduceNeg, Option.map_some, Option.map_none, Bool.not_true, Bool.not_false, ite_true, ite_false, decide_eq_true_eq, decide_true, decide_false, Bool.not_eq_true', wipeS, wipeL, tupN, l1, List.length_map, l2]
      simp [ha, nT]
    · rw [filterMap_some']
      have l3 : (Pm.rowsN k).length + (Pm.rowsN k).length ≤ line := line40 (by omega)
      simp only [x_strI, Int.reduceEq, p10_1, p10_2, p10_3, p10_4, p10_5, p10_6, p10_7, p10_8, p10_9, p10_10, p10_11, p10_12, p10_13, p10_14, p10_15, p10_16, p10_17, p10_18, at_c0, at_c1, at_c2, at_c3, at_c4, at_c5, ix_30, ix_31, ix_32, subS, gSet, wr, ix_str, ix_lst, ix_tup, ix_ktup, ix_scr, gEq_str, gNe_str, gEq_int, gNe_int, gEq_bl, gIn_sign, gNotIn_sign, gAll_bls, lt_one, w_sl, w_c, w_op2, w_op1, w_evs0, w_evs1, o_rds0, o_rds1, w_opN, o_tks0, o_tks1, w_lst, w_tup, b_val, w_ite, w_mT, w_bAnd, w_bOr, w_bNot, w_bYes, w_and, w_or, w_not, w_if, w_ch, w_pt0, w_pt1, w_slc, w_call, w_meth, w_itr, w_rng1, w_rng2, w_rng3, w_enum, w_zip, s_seq, s_nx, s_rt, s_bk, s_ct, s_pass, s_brk, s_cnt, s_if, s_asg, s_drop, s_ret, s_retN, s_asgT, s_sub, s_box, s_for, o_some, o_none, o_ite, o_map, o_bind, wp_ok, wp_bad, z_val, z_new, z_bor, z_ali, r_non, r_bl, r_int, r_str, r_tup, r_lst, r_dk, r_dt, r_ktup, r_scr, r_glo, r_bor, r_new, r_ali, t_val, t_new, t_bor, t_ali, g_val, g_bor, g_new, g_ali, a_val, a_bor, a_ali, o_args0, o_args1, l_val, l_bor, l_ali, gAdd, gSub, mul_int, gMod, gDiv, gLt, gLe, gGt, gGe, gIsi, tyN, gLen, gNeg, gTuple, gList, gIsN, gNotN, gOrd, gMin, gMax, fNm, fTup, fCons, fNil, itemsOf, seqOf, k_NoneType_str, k_NoneType_tuple, k_NoneType_list, k_NoneType_int, k_NoneType_bool, k_NoneType_dict, k_bool_str, k_bool_tuple, k_bool_list, k_bool_int, k_bool_bool, k_bool_dict, k_int_str, k_int_tuple, k_int_list, k_int_int, k_int_bool, k_int_dict, k_str_str, k_str_tuple, k_str_list, k_str_int, k_str_bool, k_str_dict, k_tuple_str, k_tuple_tuple, k_tuple_list, k_tuple_int, k_tuple_bool, k_tuple_dict, k_list_str, k_list_tuple, k_list_list, k_list_int, k_list_bool, k_list_dict, k_dict_str, k_dict_tuple, k_dict_list, k_dict_int, k_dict_bool, k_dict_dict, slotOf, List.replicate, List.map_cons, List.map_nil, List.length_cons, List.length_nil, List.getElem?_cons_zero, List.getElem?_cons_succ, List.set_cons_zero, List.set_cons_succ, List.cons_append, List.nil_append, if_true, if_false, Bool.false_eq_true, reduceCtorEq, Nat.sub_self, Nat.reduceSub, Nat.reduceAdd, Nat.reduceLeDiff, Int.reduceLE, Int.reduceLT, Int.reducePow, Int.reduceToNat, Int.reduceNeg, Option.map_some, Option.map_none, Bool.not_true, Bool.not_false, ite_true, ite_false, decide_eq_true_eq, decide_true, decide_false, Bool.not_eq_true', restS, restL, keepV, wipeS, wipeL, List.length_map, l3]
      refine ⟨.val (.int (k : Int)), ?_⟩
      simp only [Pm.rowsN, List.map_append, List.map_map]
      rfl
  · subst es
    simp only [x_strI, Int.reduceEq, p10_1, p10_2, p10_3, p10_4, p10_5, p10_6, p10_7, p10_8, p10_9, p10_10, p10_11, p10_12, p10_13, p10_14, p10_15, p10_16, p10_17, p10_18, at_c0, at_c1, at_c2, at_c3, at_c4, at_c5, ix_30, ix_31, ix_32, subS, gSet, wr, ix_str, ix_lst, ix_tup, ix_ktup, ix_scr, gEq_str, gNe_str, gEq_int, gNe_int, gEq_bl, gIn_sign, gNotIn_sign, gAll_bls, lt_one, w_sl, w_c, w_op2, w_op1, w_evs0, w_evs1, o_rds0, o_rds1, w_opN, o_tks0, o_tks1, w_lst, w_tup, b_val, w_ite, w_mT, w_bAnd, w_bOr, w_bNot, w_bYes, w_and, w_or, w_not, w_if, w_ch, w_pt0, w_pt1, w_slc, w_call, w_meth, w_itr, w_rng1, w_rng2, w_rng3, w_enum, w_zip, s_seq, s_nx, s_rt, s_bk, s_ct, s_pass, s_brk, s_cnt, s_if, s_asg, s_drop, s_ret, s_retN, s_asgT, s_sub, s_box, s_for, o_some, o_none, o_ite, o_map, o_bind, wp_ok, wp_bad, z_val, z_new, z_bor, z_ali, r_non, r_bl, r_int, r_str, r_tup, r_lst, r_dk, r_dt, r_ktup, r_scr, r_glo, r_bor, r_new, r_ali, t_val, t_new, t_bor, t_ali, g_val, g_bor, g_new, g_ali, a_val, a_bor, a_ali, o_args0, o_args1, l_val, l_bor, l_ali, gAdd, gSub, mul_int, gMod, gDiv, gLt, gLe, gGt, gGe, gIsi, tyN, gLen, gNeg, gTuple, gList, gIsN, gNotN, gOrd, gMin, gMax, fNm, fTup, fCons, fNil, itemsOf, seqOf, k_NoneType_str, k_NoneType_tuple, k_NoneType_list, k_NoneType_int, k_NoneType_bool, k_NoneType_dict, k_bool_str, k_bool_tuple, k_bool_list, k_bool_int, k_bool_bool, k_bool_dict, k_int_str, k_int_tuple, k_int_list, k_int_int, k_int_bool, k_int_dict, k_str_str, k_str_tuple, k_str_list, k_str_int, k_str_bool, k_str_dict, k_tuple_str, k_tuple_tuple, k_tuple_list, k_tuple_int, k_tuple_bool, k_tuple_dict, k_list_str, k_list_tuple, k_list_list, k_list_int, k_list_bool, k_list_dict, k_dict_str, k_dict_tuple, k_dict_list, k_dict_int, k_dict_bool, k_dict_dict, slotOf, List.replicate, List.map_cons, List.map_nil, List.length_cons, List.length_nil, List.getElem?_cons_zero, List.getElem?_cons_succ, List.set_cons_zero, List.set_cons_succ, List.cons_append, List.nil_append, if_true, if_false, Bool.false_eq_true, reduceCtorEq, Nat.sub_self, Nat.reduceSub, Nat.reduceAdd, Nat.reduceLeDiff, Int.reduceLE, Int.reduceLT, Int.reducePow, Int.reduceToNat, Int.reduceNeg, Option.map_some, Option.map_none, Bool.not_true, Bool.not_false, ite_true, ite_false, decide_eq_true_eq, decide_true, decide_false, Bool.not_eq_true']
    simp [rangeT]
end Vi

set_option Elab.async false
set_option linter.all false
set_option maxRecDepth 100000
namespace Vi
open PySem PySem.Spec PyProof.Rows L2
def pairN (p : Nat × Nat) : T := .tup [nT p.1, nT p.2]
theorem zip_pairN : ∀ (r m : List Nat), zipT (r.map nT) (m.map nT) = (r.zip m).map pairN
  | [], _ => rfl
  | _ :: _, [] => rfl
  | a :: r, b :: m => by
    have := zip_pairN r m
    simp only [zipT, List.map_cons, List.zipWith_cons_cons, List.zip_cons_cons] at this ⊢
    rw [this]
    rfl
theorem foldl_at2 (F : Nat × Nat → Nat) : ∀ (l : List (Nat × Nat)) (a : Nat), l.foldl (fun a p => a + F p) a = a + (l.map F).sum
  | [], a => by simp
  | p :: l, a => by simp [foldl_at2 F l, Nat.add_assoc]
theorem foldl_fm {α β : Type} (F : α → List β) : ∀ (l : List α) (a : List β), l.foldl (fun a p => a ++ F p) a = a ++ l.flatMap F
  | [], a => by simp
  | p :: l, a => by simp [foldl_fm F l]
theorem one_cost {one other sent : List W} (h1 : Sn one) (h3 : Sn sent) {row met : List Nat} (hr : row ∈ Pm.rowsN one.length) (hm : met ∈ Pm.rowsN sent.length) {ce : List T} {x0 x1 x2 x3 x12 x13 x14 : Slot} {costs : List T} {cost : Nat} :
    WP (forL (fTup 2 (fCons (fNm 12) (fCons (fNm 13) (fNil)))) (mAsg 11 (mOp2 gAdd (mSl 11) (mCall f__law_more [mOp2 gIx (mSl 7) (mSl 12), mOp2 gIx (mSl 4) (mSl 12), mOp2 gIx (mSl 6) (mSl 13)]))) (zipT (row.map nT) (met.map nT))
      ⟨[x0, x1, x2, x3, .val (.tup (wsT one)), .val (.tup (wsT other)), .val (.tup (wsT sent)), .own (.lst ((msW one other).map itT)), .own (.lst costs), .val (.tup (row.map nT)), .val (.tup (met.map nT)), .val (nT cost), x12, x13, x14], ce⟩)
      fun o s => o = .nx ∧ ∃ y12 y13, s = ⟨[x0, x1, x2, x3, .val (.tup (wsT one)), .val (.tup (wsT other)), .val (.tup (wsT sent)), .own (.lst ((msW one other).map itT)), .own (.lst costs), .val (.tup (row.map nT)), .val (.tup (met.map nT)), .val (nT (cost + Pm.sumC cW (msW one other) sent row met)), y12, y13, x14], ce⟩ := by
  have hL := fun {p : Bool × W} {w : W} (hw : OkW w) => (law_more_ok (p := p) hw ce).back
  have a1 := (Pm.rowsN_in hr).1
  have a2 := (Pm.rowsN_in hm).1
  rw [zip_pairN]
  refine forL_fold pairN (fun a p => a + Pm.at2 cW (msW one other) sent p) (fun a s => ∃ y12 y13, s = ⟨[x0, x1, x2, x3, .val (.tup (wsT one)), .val (.tup (wsT other)), .val (.tup (wsT sent)), .own (.lst ((msW one other).map itT)), .own (.lst costs), .val (.tup (row.map nT)), .val (.tup (met.map nT)), .val (nT a), y12, y13, x14], ce⟩) _ cost _ ⟨_, _, rfl⟩ (fun pre p post hx s ⟨y12, y13, es⟩ => ?_) fun s ⟨y12, y13, es⟩ => ?_
  · subst es
    obtain ⟨b, e⟩ := p
    have hp : (b, e) ∈ row.zip met := by rw [hx]; simp
    have q := List.of_mem_zip hp
    have hb := a1 _ q.1
    have he := a2 _ q.2
    have ho : one[b]? = some one[b] := List.getElem?_eq_getElem hb
    have hs : sent[e]? = some sent[e] := List.getElem?_eq_getElem he
    have hw := (h3.word (List.mem_of_getElem? hs)).1
    have hms := msW_get (other := other) ho
    generalize one[b] = v at ho hms
    generalize sent[e] = w at hs hw
    have e1 : atI ((msW one other).map itT) (b : Int) = some (itT (decide ((b : Int) ∈ ledP (wsT one) (wsT other)), v)) := at_nat (by rw [List.getElem?_map, hms]; rfl)
    have e2 : atI (wsT one) (b : Int) = some (.str v) := at_nat (by rw [wsT, List.getElem?_map, ho]; rfl)
    have e3 : atI (wsT sent) (e : Int) = some (.str w) := at_nat (by rw [wsT, List.getElem?_map, hs]; rfl)
    have e4 : Pm.at2 cW (msW one other) sent (b, e) = cW (decide ((b : Int) ∈ ledP (wsT one) (wsT other)), v) w := by simp only [Pm.at2, hms, hs]
    rw [e4]
    have hq := hL (p := (decide ((b : Int) ∈ ledP (wsT one) (wsT other)), v)) hw
    simp only at hq
    simp only [x_strI, Int.reduceEq, p10_1, p10_2, p10_3, p10_4, p10_5, p10_6, p10_7, p10_8, p10_9, p10_10, p10_11, p10_12, p10_13, p10_14, p10_15, p10_16, p10_17, p10_18, at_c0, at_c1, at_c2, at_c3, at_c4, at_c5, ix_30, ix_31, ix_32, subS, gSet, wr, ix_str, ix_lst, ix_tup, ix_ktup, ix_scr, gEq_str, gNe_str, gEq_int, gNe_int, gEq_bl, gIn_sign, gNotIn_sign, gAll_bls, lt_one, w_sl, w_c, w_op2, w_op1, w_evs0, w_evs1, o_rds0, o_rds1, w_opN, o_tks0, o_tks1, w_lst, w_tup, b_val, w_ite, w_mT, w_bAnd, w_bOr, w_bNot, w_bYes, w_and, w_or, w_not, w_if, w_ch, w_pt0, w_pt1, w_slc, w_call, w_meth, w_itr, w_rng1, w_rng2, w_rng3, w_enum, w_zip, s_seq, s_nx, s_rt, s_bk, s_ct, s_pass, s_brk, s_cnt, s_if, s_asg, s_drop, s_ret, s_retN, s_asgT, s_sub, s_box, s_for, o_some, o_none, o_ite, o_map, o_bind, wp_ok, wp_bad, z_val, z_new, z_bor, z_ali, r_non, r_bl, r_int, r_str, r_tup, r_lst, r_dk, r_dt, r_ktup, r_scr, r_glo, r_bor, r_new, r_ali, t_val, t_new, t_bor, t_ali, g_val, g_bor, g_new, g_ali, a_val, a_bor, a_ali, o_args0, o_args1, l_val, l_bor, l_ali, gAdd, gSub, mul_int, gMod, gDiv, gLt, gLe, gGt, gGe, gIsi, tyN, gLen, gNeg, gTuple, gList, gIsN, gNotN, gOrd, gMin, gMax, fNm, fTup, fCons, fNil, itemsOf, seqOf, k_NoneType_str, k_NoneType_tuple, k_NoneType_list, k_NoneType_int, k_NoneType_bool, k_NoneType_dict, k_bool_str, k_bool_tuple, k_bool_list, k_bool_int, k_bool_bool, k_bool_dict, k_int_str, k_int_tuple, k_int_list, k_int_int, k_int_bool, k_int_dict, k_str_str, k_str_tuple, k_str_list, k_str_int, k_str_bool, k_str_dict, k_tuple_str, k_tuple_tuple, k_tuple_list, k_tuple_int, k_tuple_bool, k_tuple_dict, k_list_str, k_list_tuple, k_list_list, k_list_int, k_list_bool, k_list_dict, k_dict_str, k_dict_tuple, k_dict_list, k_dict_int, k_dict_bool, k_dict_dict, slotOf, List.replicate, List.map_cons, List.map_nil, List.length_cons, List.length_nil, List.getElem?_cons_zero, List.getElem?_cons_succ, List.set_cons_zero, List.set_cons_succ, List.cons_append, List.nil_append, if_true, if_false, Bool.false_eq_true, reduceCtorEq, Nat.sub_self, Nat.reduceSub, Nat.reduceAdd, Nat.reduceLeDiff, Int.reduceLE, Int.reduceLT, Int.reducePow, Int.reduceToNat, Int.reduceNeg, Option.map_some, Option.map_none, Bool.not_true, Bool.not_false, ite_true, ite_false, decide_eq_true_eq, decide_true, decide_false, Bool.not_eq_true', pairN, nT, e1, e2, e3, hq]
    exact ⟨_, _, by rw [Int.natCast_add]⟩
  · subst es
    refine ⟨rfl, y12, y13, ?_⟩
    rw [foldl_at2]
    rfl
theorem sum_le (n m r : Nat) (h1 : r ≤ n) (h2 : r ≤ m) : (2 : Int) * ((n : Int) + m - 2 * r) = ((2 * (n + m - 2 * r) : Nat) : Int) := by
  omega
theorem minL_le : ∀ {l : List Int} {i : Int}, i ∈ l → minL l ≤ i
  | [], i, h => by cases h
  | [a], i, h => by simp at h; subst h; exact Int.le_refl _
  | a :: b :: l, i, h => by
    rw [minL]
    · rcases List.mem_cons.mp h with rfl | h
      · exact Int.min_le_left _ _
      · exact Int.le_trans (Int.min_le_right _ _) (minL_le h)
    · simp
theorem minL_mem : ∀ {l : List Int}, l ≠ [] → minL l ∈ l
  | [], h => absurd rfl h
  | [a], _ => by simp [minL]
  | a :: b :: l, _ => by
    rw [minL]
    · have ih := minL_mem (l := b :: l) (by simp)
      rcases Int.le_total a (minL (b :: l)) with q | q
      · rw [Int.min_eq_left q]; simp
      · rw [Int.min_eq_right q]; exact List.mem_cons_of_mem _ ih
    · simp
theorem minL_is {l : List Nat} {r : Nat} (h1 : r ∈ l) (h2 : ∀ n ∈ l, r ≤ n) : minL (l.map fun n : Nat => (n : Int)) = r := by
  have hne : l.map (fun n : Nat => (n : Int)) ≠ [] := by cases l with | nil => cases h1 | cons => simp
  obtain ⟨n, hn, e⟩ := List.mem_map.mp (minL_mem hne)
  have a := minL_le (List.mem_map_of_mem (f := fun n : Nat => (n : Int)) h1)
  have b := h2 n hn
  omega
theorem costs_ok {one other sent : List W} (h1 : Sn one) (h2 : Sn other) (h3 : Sn sent) (q1 : one.length ≤ 5) (q3 : sent.length ≤ 5) {ce : List T} {x0 x1 x2 x3 x7 x8 x9 x10 x11 x12 x13 x14 : Slot} :
    WP ((mSeq (mAsg 7 (mCall f__law_mould [mSl 4, mSl 5]))
  (mSeq (mAsg 8 (mLst []))
  (mSeq (mFor (mItr (mCall f__law_rows [mOpN gLen [mSl 4]])) (fNm 9) (mFor (mItr (mComp [10] (mItr (mCall f__law_rows [mOpN gLen [mSl 6]])) (fNm 10) (mT (mOp2c gEq (mOpN gLen [mSl 10]) (mOpN gLen [mSl 9]))) (mSl 10))) (fNm 10) (mSeq (mAsg 11 (mOp2 gMul (mC (.int 2)) (mOp2 gSub (mOp2 gAdd (mOpN gLen [mSl 4]) (mOpN gLen [mSl 6])) (mOp2 gMul (mC (.int 2)) (mOpN gLen [mSl 9])))))
  (mSeq (mFor (mZip [mSl 9, mSl 10]) (fTup 2 (fCons (fNm 12) (fCons (fNm 13) (fNil)))) (mAsg 11 (mOp2 gAdd (mSl 11) (mCall f__law_more [mOp2 gIx (mSl 7) (mSl 12), mOp2 gIx (mSl 4) (mSl 12), mOp2 gIx (mSl 6) (mSl 13)]))))
  (mDrop (mMeth gApp (mSl 8) [mSl 11]))))))
  (mIfS (mT (mOp2c gNe (mCall f_price [mSl 4, mSl 5, mSl 6]) (mOpN gMinL [mSl 8]))) (mRet (mC (.bl false))) (mPass)))))
      ⟨[x0, x1, x2, x3, .val (.tup (wsT one)), .val (.tup (wsT other)), .val (.tup (wsT sent)), x7, x8, x9, x10, x11, x12, x13, x14], ce⟩)
      fun o s => o = .nx ∧ ∃ y7 y8 y9 y10 y11 y12 y13 y14, s = ⟨[x0, x1, x2, x3, .val (.tup (wsT one)), .val (.tup (wsT other)), .val (.tup (wsT sent)), y7, y8, y9, y10, y11, y12, y13, y14], ce⟩ := by
  have hM := (lawMould_ok h1 h2 ce).back
  have hR1 := (rows_ok q1 ce).back
  have hR3 := (rows_ok q3 ce).back
  have hP := (price_ok h1 h2 h3 ce).back
  have l0 : 0 ≤ line := by decide
  simp only [x_strI, Int.reduceEq, p10_1, p10_2, p10_3, p10_4, p10_5, p10_6, p10_7, p10_8, p10_9, p10_10, p10_11, p10_12, p10_13, p10_14, p10_15, p10_16, p10_17, p10_18, at_c0, at_c1, at_c2, at_c3, at_c4, at_c5, ix_30, ix_31, ix_32, subS, gSet, wr, ix_str, ix_lst, ix_tup, ix_ktup, ix_scr, gEq_str, gNe_str, gEq_int, gNe_int, gEq_bl, gIn_sign, gNotIn_sign, gAll_bls, lt_one, w_sl, w_c, w_op2, w_op1, w_evs0, w_evs1, o_rds0, o_rds1, w_opN, o_tks0, o_tks1, w_lst, w_tup, b_val, w_ite, w_mT, w_bAnd, w_bOr, w_bNot, w_bYes, w_and, w_or, w_not, w_if, w_ch, w_pt0, w_pt1, w_slc, w_call, w_meth, w_itr, w_rng1, w_rng2, w_rng3, w_enum, w_zip, s_seq, s_nx, s_rt, s_bk, s_ct, s_pass, s_brk, s_cnt, s_if, s_asg, s_drop, s_ret, s_retN, s_asgT, s_sub, s_box, s_for, o_some, o_none, o_ite, o_map, o_bind, wp_ok, wp_bad, z_val, z_new, z_bor, z_ali, r_non, r_bl, r_int, r_str, r_tup, r_lst, r_dk, r_dt, r_ktup, r_scr, r_glo, r_bor, r_new, r_ali, t_val, t_new, t_bor, t_ali, g_val, g_bor, g_new, g_ali, a_val, a_bor, a_ali, o_args0, o_args1, l_val, l_bor, l_ali, gAdd, gSub, mul_int, gMod, gDiv, gLt, gLe, gGt, gGe, gIsi, tyN, gLen, gNeg, gTuple, gList, gIsN, gNotN, gOrd, gMin, gMax, fNm, fTup, fCons, fNil, itemsOf, seqOf, k_NoneType_str, k_NoneType_tuple, k_NoneType_list, k_NoneType_int, k_NoneType_bool, k_NoneType_dict, k_bool_str, k_bool_tuple, k_bool_list, k_bool_int, k_bool_bool, k_bool_dict, k_int_str, k_int_tuple, k_int_list, k_int_int, k_int_bool, k_int_dict, k_str_str, k_str_tuple, k_str_list, k_str_int, k_str_bool, k_str_dict, k_tuple_str, k_tuple_tuple, k_tuple_list, k_tuple_int, k_tuple_bool, k_tuple_dict, k_list_str, k_list_tuple, k_list_list, k_list_int, k_list_bool, k_list_dict, k_dict_str, k_dict_tuple, k_dict_list, k_dict_int, k_dict_bool, k_dict_dict, slotOf, List.replicate, List.map_cons, List.map_nil, List.length_cons, List.length_nil, List.getElem?_cons_zero, List.getElem?_cons_succ, List.set_cons_zero, List.set_cons_succ, List.cons_append, List.nil_append, if_true, if_false, Bool.false_eq_true, reduceCtorEq, Nat.sub_self, Nat.reduceSub, Nat.reduceAdd, Nat.reduceLeDiff, Int.reduceLE, Int.reduceLT, Int.reducePow, Int.reduceToNat, Int.reduceNeg, Option.map_some, Option.map_none, Bool.not_true, Bool.not_false, ite_true, ite_false, decide_eq_true_eq, decide_true, decide_false, Bool.not_eq_true', hM, l0, wsT_len, hR1]
  let F : List Nat → List Nat := fun row => ((Pm.rowsN sent.length).filter fun met => decide (met.length = row.length)).map fun met => 2 * (one.length + sent.length - 2 * row.length) + Pm.sumC cW (msW one other) sent row met
  refine forL_fold tupN (fun a row => a ++ F row) (fun a s => ∃ y9 y10 y11 y12 y13 y14, s = ⟨[x0, x1, x2, x3, .val (.tup (wsT one)), .val (.tup (wsT other)), .val (.tup (wsT sent)), .own (.lst ((msW one other).map itT)), .own (.lst (a.map nT)), y9, y10, y11, y12, y13, y14], ce⟩) _ [] _ ⟨_, _, _, _, _, _, rfl⟩ (fun pre row post hx s ⟨y9, y10, y11, y12, y13, y14, es⟩ => ?_) fun s ⟨y9, y10, y11, y12, y13, y14, es⟩ => ?_
  · subst es
    rw [foldl_fm]
    simp only [List.nil_append]
    have hrow : row ∈ Pm.rowsN one.length := by rw [hx]; simp
    have hrl := (Pm.rowsN_in hrow).2
    have p32 : ∀ {k : Nat}, k ≤ 5 → 2 ^ k ≤ 32 := fun {k} h => by
      have : k = 0 ∨ k = 1 ∨ k = 2 ∨ k = 3 ∨ k = 4 ∨ k = 5 := by omega
      rcases this with rfl | rfl | rfl | rfl | rfl | rfl <;> decide
    have hFl : ∀ row, (F row).length ≤ 32 := fun row => by
      have a := List.length_filter_le (fun met : List Nat => decide (met.length = row.length)) (Pm.rowsN sent.length)
      have b := Pm.rowsN_len sent.length
      have d := p32 q3
      simp only [F, List.length_map]
      omega
    have hacc : (pre.flatMap F).length ≤ 32 * 32 := by
      have a : ∀ l : List (List Nat), (l.flatMap F).length ≤ 32 * l.length := fun l => by
        induction l with
        | nil => simp
        | cons r l ih => have := hFl r; simp only [List.flatMap_cons, List.length_append, List.length_cons]; omega
      have b := Pm.rowsN_len one.length
      have d := p32 q1
      have e := congrArg List.length hx
      simp only [List.length_append, List.length_cons] at e
      have := a pre
      omega
    generalize pre.flatMap F = acc at hacc
    have hFr := hFl row
    rw [fNm]
    simp only [x_strI, Int.reduceEq, p10_1, p10_2, p10_3, p10_4, p10_5, p10_6, p10_7, p10_8, p10_9, p10_10, p10_11, p10_12, p10_13, p10_14, p10_15, p10_16, p10_17, p10_18, at_c0, at_c1, at_c2, at_c3, at_c4, at_c5, ix_30, ix_31, ix_32, subS, gSet, wr, ix_str, ix_lst, ix_tup, ix_ktup, ix_scr, gEq_str, gNe_str, gEq_int, gNe_int, gEq_bl, gIn_sign, gNotIn_sign, gAll_bls, lt_one, w_sl, w_c, w_op2, w_op1, w_evs0, w_evs1, o_rds0, o_rds1, w_opN, o_tks0, o_tks1, w_lst, w_tup, b_val, w_ite, w_mT, w_bAnd, w_bOr, w_bNot, w_bYes, w_and, w_or, w_not, w_if, w_ch, w_pt0, w_pt1, w_slc, w_call, w_meth, w_itr, w_rng1, w_rng2, w_rng3, w_enum, w_zip, s_seq, s_nx, s_rt, s_bk, s_ct, s_pass, s_brk, s_cnt, s_if, s_asg, s_drop, s_ret, s_retN, s_asgT, s_sub, s_box, s_for, o_some, o_none, o_ite, o_map, o_bind, wp_ok, wp_bad, z_val, z_new, z_bor, z_ali, r_non, r_bl, r_int, r_str, r_tup, r_lst, r_dk, r_dt, r_ktup, r_scr, r_glo, r_bor, r_new, r_ali, t_val, t_new, t_bor, t_ali, g_val, g_bor, g_new, g_ali, a_val, a_bor, a_ali, o_args0, o_args1, l_val, l_bor, l_ali, gAdd, gSub, mul_int, gMod, gDiv, gLt, gLe, gGt, gGe, gIsi, tyN, gLen, gNeg, gTuple, gList, gIsN, gNotN, gOrd, gMin, gMax, fNm, fTup, fCons, fNil, itemsOf, seqOf, k_NoneType_str, k_NoneType_tuple, k_NoneType_list, k_NoneType_int, k_NoneType_bool, k_NoneType_dict, k_bool_str, k_bool_tuple, k_bool_list, k_bool_int, k_bool_bool, k_bool_dict, k_int_str, k_int_tuple, k_int_list, k_int_int, k_int_bool, k_int_dict, k_str_str, k_str_tuple, k_str_list, k_str_int, k_str_bool, k_str_dict, k_tuple_str, k_tuple_tuple, k_tuple_list, k_tuple_int, k_tuple_bool, k_tuple_dict, k_list_str, k_list_tuple, k_list_list, k_list_int, k_list_bool, k_list_dict, k_dict_str, k_dict_tuple, k_dict_list, k_dict_int, k_dict_bool, k_dict_dict, slotOf, List.replicate, List.map_cons, List.map_nil, List.length_cons, List.length_nil, List.getElem?_cons_zero, List.getElem?_cons_succ, List.set_cons_zero, List.set_cons_succ, List.cons_append, List.nil_append, if_true, if_false, Bool.false_eq_true, reduceCtorEq, Nat.sub_self, Nat.reduceSub, Nat.reduceAdd, Nat.reduceLeDiff, Int.reduceLE, Int.reduceLT, Int.reducePow, Int.reduceToNat, Int.reduceNeg, Option.map_some, Option.map_none, Bool.not_true, Bool.not_false, ite_true, ite_false, decide_eq_true_eq, decide_true, decide_false, Bool.not_eq_true']
    refine wp_compE (Pm.rowsN sent.length) tupN (fun met => if decide (met.length = row.length) then some (tupN met) else none) ?_
    simp only [x_strI, Int.reduceEq, p10_1, p10_2, p10_3, p10_4, p10_5, p10_6, p10_7, p10_8, p10_9, p10_10, p10_11, p10_12, p10_13, p10_14, p10_15, p10_16, p10_17, p10_18, at_c0, at_c1, at_c2, at_c3, at_c4, at_c5, ix_30, ix_31, ix_32, subS, gSet, wr, ix_str, ix_lst, ix_tup, ix_ktup, ix_scr, gEq_str, gNe_str, gEq_int, gNe_int, gEq_bl, gIn_sign, gNotIn_sign, gAll_bls, lt_one, w_sl, w_c, w_op2, w_op1, w_evs0, w_evs1, o_rds0, o_rds1, w_opN, o_tks0, o_tks1, w_lst, w_tup, b_val, w_ite, w_mT, w_bAnd, w_bOr, w_bNot, w_bYes, w_and, w_or, w_not, w_if, w_ch, w_pt0, w_pt1, w_slc, w_call, w_meth, w_itr, w_rng1, w_rng2, w_rng3, w_enum, w_zip, s_seq, s_nx, s_rt, s_bk, s_ct, s_pass, s_brk, s_cnt, s_if, s_asg, s_drop, s_ret, s_retN, s_asgT, s_sub, s_box, s_for, o_some, o_none, o_ite, o_map, o_bind, wp_ok, wp_bad, z_val, z_new, z_bor, z_ali, r_non, r_bl, r_int, r_str, r_tup, r_lst, r_dk, r_dt, r_ktup, r_scr, r_glo, r_bor, r_new, r_ali, t_val, t_new, t_bor, t_ali, g_val, g_bor, g_new, g_ali, a_val, a_bor, a_ali, o_args0, o_args1, l_val, l_bor, l_ali, gAdd, gSub, mul_int, gMod, gDiv, gLt, gLe, gGt, gGe, gIsi, tyN, gLen, gNeg, gTuple, gList, gIsN, gNotN, gOrd, gMin, gMax, fNm, fTup, fCons, fNil, itemsOf, seqOf, k_NoneType_str, k_NoneType_tuple, k_NoneType_list, k_NoneType_int, k_NoneType_bool, k_NoneType_dict, k_bool_str, k_bool_tuple, k_bool_list, k_bool_int, k_bool_bool, k_bool_dict, k_int_str, k_int_tuple, k_int_list, k_int_int, k_int_bool, k_int_dict, k_str_str, k_str_tuple, k_str_list, k_str_int, k_str_bool, k_str_dict, k_tuple_str, k_tuple_tuple, k_tuple_list, k_tuple_int, k_tuple_bool, k_tuple_dict, k_list_str, k_list_tuple, k_list_list, k_list_int, k_list_bool, k_list_dict, k_dict_str, k_dict_tuple, k_dict_list, k_dict_int, k_dict_bool, k_dict_dict, slotOf, List.replicate, List.map_cons, List.map_nil, List.length_cons, List.length_nil, List.getElem?_cons_zero, List.getElem?_cons_succ, List.set_cons_zero, List.set_cons_succ, List.cons_append, List.nil_append, if_true, if_false, Bool.false_eq_true, reduceCtorEq, Nat.sub_self, Nat.reduceSub, Nat.reduceAdd, Nat.reduceLeDiff, Int.reduceLE, Int.reduceLT, Int.reducePow, Int.reduceToNat, Int.reduceNeg, Option.map_some, Option.map_none, Bool.not_true, Bool.not_false, ite_true, ite_false, decide_eq_true_eq, decide_true, decide_false, Bool.not_eq_true', wsT_len, hR3]
    have b3 := Pm.rowsN_len sent.length
    have d3 := p32 q3
    refine ⟨trivial, line40 (by omega), fun met hm a ha => ?_, ?_⟩
    · refine wp_step rfl ?_
      simp only [x_strI, Int.reduceEq, p10_1, p10_2, p10_3, p10_4, p10_5, p10_6, p10_7, p10_8, p10_9, p10_10, p10_11, p10_12, p10_13, p10_14, p10_15, p10_16, p10_17, p10_18, at_c0, at_c1, at_c2, at_c3, at_c4, at_c5, ix_30, ix_31, ix_32, subS, gSet, wr, ix_str, ix_lst, ix_tup, ix_ktup, ix_scr, gEq_str, gNe_str, gEq_int, gNe_int, gEq_bl, gIn_sign, gNotIn_sign, gAll_bls, lt_one, w_sl, w_c, w_op2, w_op1, w_evs0, w_evs1, o_rds0, o_rds1, w_opN, o_tks0, o_tks1, w_lst, w_tup, b_val, w_ite, w_mT, w_bAnd, w_bOr, w_bNot, w_bYes, w_and, w_or, w_not, w_if, w_ch, w_pt0, w_pt1, w_slc, w_call, w_meth, w_itr, w_rng1, w_rng2, w_rng3, w_enum, w_zip, s_seq, s_nx, s_rt, s_bk, s_ct, s_pass, s_brk, s_cnt, s_if, s_asg, s_drop, s_ret, s_retN, s_asgT, s_sub, s_box, s_for, o_some, o_none, o_ite, o_map, o_bind, wp_ok, wp_bad, z_val, z_new, z_bor, z_ali, r_non, r_bl, r_int, r_str, r_tup, r_lst, r_dk, r_dt, r_ktup, r_scr, r_glo, r_bor, r_new, r_ali, t_val, t_new, t_bor, t_ali, g_val, g_bor, g_new, g_ali, a_val, a_bor, a_ali, o_args0, o_args1, l_val, l_bor, l_ali, gAdd, gSub, mul_int, gMod, gDiv, gLt, gLe, gGt, gGe, gIsi, tyN, gLen, gNeg, gTuple, gList, gIsN, gNotN, gOrd, gMin, gMax, fNm, fTup, fCons, fNil, itemsOf, seqOf, k_NoneType_str, k_NoneType_tuple, k_NoneType_list, k_NoneType_int, k_NoneType_bool, k_NoneType_dict, k_bool_str, k_bool_tuple, k_bool_list, k_bool_int, k_bool_bool, k_bool_dict, k_int_str, k_int_tuple, k_int_list, k_int_int, k_int_bool, k_int_dict, k_str_str, k_str_tuple, k_str_list, k_str_int, k_str_bool, k_str_dict, k_tuple_str, k_tuple_tuple, k_tuple_list, k_tuple_int, k_tuple_bool, k_tuple_dict, k_list_str, k_list_tuple, k_list_list, k_list_int, k_list_bool, k_list_dict, k_dict_str, k_dict_tuple, k_dict_list, k_dict_int, k_dict_bool, k_dict_dict, slotOf, List.replicate, List.map_cons, List.map_nil, List.length_cons, List.length_nil, List.getElem?_cons_zero, List.getElem?_cons_succ, List.set_cons_zero, List.set_cons_succ, List.cons_append, List.nil_append, if_true, if_false, Bool.false_eq_true, reduceCtorEq, Nat.sub_self, Nat.reduceSub, Nat.reduceAdd, Nat.reduceLeDiff, Int.reduceLE, Int.reduceLT, Int.reducePow, Int.reduceToNat, Int.reduceNeg, Option.map_some, Option.map_none, Bool.not_true, Bool.not_false, ite_true, ite_false, decide_eq_true_eq, decide_true, decide_false, Bool.not_eq_true', wipeS, wipeL, tupN, List.length_map]
      by_cases q : met.length = row.length
      · have : ((met.length : Int) = (row.length : Int)) := by omega
        simp [this, q, x_strI, Int.reduceEq, p10_1, p10_2, p10_3, p10_4, p10_5, p10_6, p10_7, p10_8, p10_9, p10_10, p10_11, p10_12, p10_13, p10_14, p10_15, p10_16, p10_17, p10_18, at_c0, at_c1, at_c2, at_c3, at_c4, at_c5, ix_30, ix_31, ix_32, subS, gSet, wr, ix_str, ix_lst, ix_tup, ix_ktup, ix_scr, gEq_str, gNe_str, gEq_int, gNe_int, gEq_bl, gIn_sign, gNotIn_sign, gAll_bls, lt_one, w_sl, w_c, w_op2, w_op1, w_evs0, w_evs1, o_rds0, o_rds1, w_opN, o_tks0, o_tks1, w_lst, w_tup, b_val, w_ite, w_mT, w_bAnd, w_bOr, w_bNot, w_bYes, w_and, w_or, w_not, w_if, w_ch, w_pt0, w_pt1, w_slc, w_call, w_meth, w_itr, w_rng1, w_rng2, w_rng3, w_enum, w_zip, s_seq, s_nx, s_rt, s_bk, s_ct, s_pass, s_brk, s_cnt, s_if, s_asg, s_drop, s_ret, s_retN, s_asgT, s_sub, s_box, s_for, o_some, o_none, o_ite, o_map, o_bind, wp_ok, wp_bad, z_val, z_new, z_bor, z_ali, r_non, r_bl, r_int, r_str, r_tup, r_lst, r_dk, r_dt, r_ktup, r_scr, r_glo, r_bor, r_new, r_ali, t_val, t_new, t_bor, t_ali, g_val, g_bor, g_new, g_ali, a_val, a_bor, a_ali, o_args0, o_args1, l_val, l_bor, l_ali, gAdd, gSub, mul_int, gMod, gDiv, gLt, gLe, gGt, gGe, gIsi, tyN, gLen, gNeg, gTuple, gList, gIsN, gNotN, gOrd, gMin, gMax, fNm, fTup, fCons, fNil, itemsOf, seqOf, k_NoneType_str, k_NoneType_tuple, k_NoneType_list, k_NoneType_int, k_NoneType_bool, k_NoneType_dict, k_bool_str, k_bool_tuple, k_bool_list, k_bool_int, k_bool_bool, k_bool_dict, k_int_str, k_int_tuple, k_int_list, k_int_int, k_int_bool, k_int_dict, k_str_str, k_str_tuple, k_str_list, k_str_int, k_str_bool, k_str_dict, k_tuple_str, k_tuple_tuple, k_tuple_list, k_tuple_int, k_tuple_bool, k_tuple_dict, k_list_str, k_list_tuple, k_list_list, k_list_int, k_list_bool, k_list_dict, k_dict_str, k_dict_tuple, k_dict_list, k_dict_int, k_dict_bool, k_dict_dict, slotOf, List.replicate, List.map_cons, List.map_nil, List.length_cons, List.length_nil, List.getElem?_cons_zero, List.getElem?_cons_succ, List.set_cons_zero, List.set_cons_succ, List.cons_append, List.nil_append, if_true, if_false, Bool.false_eq_true, reduceCtorEq, Nat.sub_self, Nat.reduceSub, Nat.reduceAdd, Nat.reduceLeDiff, Int.reduceLE, Int.reduceLT, Int.reducePow, Int.reduceToNat, Int.reduceNeg, Option.map_some, Option.map_none, Bool.not_true, Bool.not_false, ite_true, ite_false, decide_eq_true_eq, decide_true, decide_false, Bool.not_eq_true', ha, wipeS, wipeL]
      · have : ¬ ((met.length : Int) = (row.length : Int)) := by omega
        simp [this, q, x_strI, Int.reduceEq, p10_1, p10_2, p10_3, p10_4, p10_5, p10_6, p10_7, p10_8, p10_9, p10_10, p10_11, p10_12, p10_13, p10_14, p10_15, p10_16, p10_17, p10_18, at_c0, at_c1, at_c2, at_c3, at_c4, at_c5, ix_30, ix_31, ix_32, subS, gSet, wr, ix_str, ix_lst, ix_tup, ix_ktup, ix_scr, gEq_str, gNe_str, gEq_int, gNe_int, gEq_bl, gIn_sign, gNotIn_sign, gAll_bls, lt_one, w_sl, w_c, w_op2, w_op1, w_evs0, w_evs1, o_rds0, o_rds1, w_opN, o_tks0, o_tks1, w_lst, w_tup, b_val, w_ite, w_mT, w_bAnd, w_bOr, w_bNot, w_bYes, w_and, w_or, w_not, w_if, w_ch, w_pt0, w_pt1, w_slc, w_call, w_meth, w_itr, w_rng1, w_rng2, w_rng3, w_enum, w_zip, s_seq, s_nx, s_rt, s_bk, s_ct, s_pass, s_brk, s_cnt, s_if, s_asg, s_drop, s_ret, s_retN, s_asgT, s_sub, s_box, s_for, o_some, o_none, o_ite, o_map, o_bind, wp_ok, wp_bad, z_val, z_new, z_bor, z_ali, r_non, r_bl, r_int, r_str, r_tup, r_lst, r_dk, r_dt, r_ktup, r_scr, r_glo, r_bor, r_new, r_ali, t_val, t_new, t_bor, t_ali, g_val, g_bor, g_new, g_ali, a_val, a_bor, a_ali, o_args0, o_args1, l_val, l_bor, l_ali, gAdd, gSub, mul_int, gMod, gDiv, gLt, gLe, gGt, gGe, gIsi, tyN, gLen, gNeg, gTuple, gList, gIsN, gNotN, gOrd, gMin, gMax, fNm, fTup, fCons, fNil, itemsOf, seqOf, k_NoneType_str, k_NoneType_tuple, k_NoneType_list, k_NoneType_int, k_NoneType_bool, k_NoneType_dict, k_bool_str, k_bool_tuple, k_bool_list, k_bool_int, k_bool_bool, k_bool_dict, k_int_str, k_int_tuple, k_int_list, k_int_int, k_int_bool, k_int_dict, k_str_str, k_str_tuple, k_str_list, k_str_int, k_str_bool, k_str_dict, k_tuple_str, k_tuple_tuple, k_tuple_list, k_tuple_int, k_tuple_bool, k_tuple_dict, k_list_str, k_list_tuple, k_list_list, k_list_int, k_list_bool, k_list_dict, k_dict_str, k_dict_tuple, k_dict_list, k_dict_int, k_dict_bool, k_dict_dict, slotOf, List.replicate, List.map_cons, List.map_nil, List.length_cons, List.length_nil, List.getElem?_cons_zero, List.getElem?_cons_succ, List.set_cons_zero, List.set_cons_succ, List.cons_append, List.nil_append, if_true, if_false, Bool.false_eq_true, reduceCtorEq, Nat.sub_self, Nat.reduceSub, Nat.reduceAdd, Nat.reduceLeDiff, Int.reduceLE, Int.reduceLT, Int.reducePow, Int.reduceToNat, Int.reduceNeg, Option.map_some, Option.map_none, Bool.not_true, Bool.not_false, ite_true, ite_false, decide_eq_true_eq, decide_true, decide_false, Bool.not_eq_true', wipeS, wipeL]
    · rw [filterMap_ifp (fun met : List Nat => met.length = row.length) tupN]
      simp only [x_strI, Int.reduceEq, p10_1, p10_2, p10_3, p10_4, p10_5, p10_6, p10_7, p10_8, p10_9, p10_10, p10_11, p10_12, p10_13, p10_14, p10_15, p10_16, p10_17, p10_18, at_c0, at_c1, at_c2, at_c3, at_c4, at_c5, ix_30, ix_31, ix_32, subS, gSet, wr, ix_str, ix_lst, ix_tup, ix_ktup, ix_scr, gEq_str, gNe_str, gEq_int, gNe_int, gEq_bl, gIn_sign, gNotIn_sign, gAll_bls, lt_one, w_sl, w_c, w_op2, w_op1, w_evs0, w_evs1, o_rds0, o_rds1, w_opN, o_tks0, o_tks1, w_lst, w_tup, b_val, w_ite, w_mT, w_bAnd, w_bOr, w_bNot, w_bYes, w_and, w_or, w_not, w_if, w_ch, w_pt0, w_pt1, w_slc, w_call, w_meth, w_itr, w_rng1, w_rng2, w_rng3, w_enum, w_zip, s_seq, s_nx, s_rt, s_bk, s_ct, s_pass, s_brk, s_cnt, s_if, s_asg, s_drop, s_ret, s_retN, s_asgT, s_sub, s_box, s_for, o_some, o_none, o_ite, o_map, o_bind, wp_ok, wp_bad, z_val, z_new, z_bor, z_ali, r_non, r_bl, r_int, r_str, r_tup, r_lst, r_dk, r_dt, r_ktup, r_scr, r_glo, r_bor, r_new, r_ali, t_val, t_new, t_bor, t_ali, g_val, g_bor, g_new, g_ali, a_val, a_bor, a_ali, o_args0, o_args1, l_val, l_bor, l_ali, gAdd, gSub, mul_int, gMod, gDiv, gLt, gLe, gGt, gGe, gIsi, tyN, gLen, gNeg, gTuple, gList, gIsN, gNotN, gOrd, gMin, gMax, fNm, fTup, fCons, fNil, itemsOf, seqOf, k_NoneType_str, k_NoneType_tuple, k_NoneType_list, k_NoneType_int, k_NoneType_bool, k_NoneType_dict, k_bool_str, k_bool_tuple, k_bool_list, k_bool_int, k_bool_bool, k_bool_dict, k_int_str, k_int_tuple, k_int_list, k_int_int, k_int_bool, k_int_dict, k_str_str, k_str_tuple, k_str_list, k_str_int, k_str_bool, k_str_dict, k_tuple_str, k_tuple_tuple, k_tuple_list, k_tuple_int, k_tuple_bool, k_tuple_dict, k_list_str, k_list_tuple, k_list_list, k_list_int, k_list_bool, k_list_dict, k_dict_str, k_dict_tuple, k_dict_list, k_dict_int, k_dict_bool, k_dict_dict, slotOf, List.replicate, List.map_cons, List.map_nil, List.length_cons, List.length_nil, List.getElem?_cons_zero, List.getElem?_cons_succ, List.set_cons_zero, List.set_cons_succ, List.cons_append, List.nil_append, if_true, if_false, Bool.false_eq_true, reduceCtorEq, Nat.sub_self, Nat.reduceSub, Nat.reduceAdd, Nat.reduceLeDiff, Int.reduceLE, Int.reduceLT, Int.reducePow, Int.reduceToNat, Int.reduceNeg, Option.map_some, Option.map_none, Bool.not_true, Bool.not_false, ite_true, ite_false, decide_eq_true_eq, decide_true, decide_false, Bool.not_eq_true', restS, restL, keepV, wipeS, wipeL]
      have hfl : ((Pm.rowsN sent.length).filter fun met : List Nat => decide (met.length = row.length)).length ≤ 32 := by have := hFr; simpa only [F, List.length_map] using this
      have eF : F row = ((Pm.rowsN sent.length).filter fun met : List Nat => decide (met.length = row.length)).map fun met => 2 * (one.length + sent.length - 2 * row.length) + Pm.sumC cW (msW one other) sent row met := rfl
      have hin : ∀ met ∈ (Pm.rowsN sent.length).filter fun met : List Nat => decide (met.length = row.length), met ∈ Pm.rowsN sent.length ∧ met.length = row.length := fun met h => by
        have := List.mem_filter.mp h
        exact ⟨this.1, by simpa using this.2⟩
      generalize (Pm.rowsN sent.length).filter (fun met : List Nat => decide (met.length = row.length)) = mets at hfl eF hin ⊢
      rw [eF]
      refine forL_fold tupN (fun a met => a ++ [2 * (one.length + sent.length - 2 * row.length) + Pm.sumC cW (msW one other) sent row met]) (fun a s => ∃ y10 y11 y12 y13 y14, s = ⟨[x0, x1, x2, x3, .val (.tup (wsT one)), .val (.tup (wsT other)), .val (.tup (wsT sent)), .own (.lst ((msW one other).map itT)), .own (.lst (a.map nT)), .val (tupN row), y10, y11, y12, y13, y14], ce⟩) _ acc _ ⟨_, _, _, _, _, rfl⟩ (fun pre2 met post2 hx2 s ⟨y10, y11, y12, y13, y14, es⟩ => ?_) fun s ⟨y10, y11, y12, y13, y14, es⟩ => ?_
      · subst es
        obtain ⟨hm, hl⟩ := hin met (by rw [hx2]; simp)
        have hml := (Pm.rowsN_in hm).2
        rw [foldl_fm]
        have hal : (acc ++ pre2.flatMap fun met => [2 * (one.length + sent.length - 2 * row.length) + Pm.sumC cW (msW one other) sent row met]).length < line := by
          have e := congrArg List.length hx2
          simp only [List.length_append, List.length_cons] at e
          have : (pre2.flatMap fun met => [2 * (one.length + sent.length - 2 * row.length) + Pm.sumC cW (msW one other) sent row met]).length = pre2.length := by rw [← List.map_eq_flatMap, List.length_map]
          rw [List.length_append, this]
          exact Nat.lt_of_le_of_lt (by omega : _ ≤ 2000) (by decide)
        generalize acc ++ pre2.flatMap (fun met => [2 * (one.length + sent.length - 2 * row.length) + Pm.sumC cW (msW one other) sent row met]) = acc2 at hal
        have ec := sum_le one.length sent.length row.length hrl (by omega)
        have et : ∀ r : List Nat, gLen [tupN r] = some (.val (.int (r.length : Nat))) := fun r => by simp [tupN, gLen]
        have er : ∀ (r : List Nat) (s : S), rd s (.val (tupN r)) = some (tupN r) := fun r s => rfl
        rw [fNm]
        rw [s_seq, s_asg]
        simp only [w_sl, w_c, w_op2, w_op1, w_evs0, w_evs1, o_rds0, o_rds1, w_opN, o_tks0, o_tks1, w_lst, w_tup, b_val, w_ite, w_mT, w_bAnd, w_bOr, w_bNot, w_bYes, w_and, w_or, w_not, w_if, w_ch, w_pt0, w_pt1, w_slc, w_call, w_meth, w_itr, w_rng1, w_rng2, w_rng3, w_enum, w_zip, s_seq, s_nx, s_rt, s_bk, s_ct, s_pass, s_brk, s_cnt, s_if, s_asg, s_drop, s_ret, s_retN, s_asgT, s_sub, s_box, s_for, o_some, o_none, o_ite, o_map, o_bind, wp_ok, wp_bad, z_val, z_new, z_bor, z_ali, r_non, r_bl, r_int, r_str, r_tup, r_lst, r_dk, r_dt, r_ktup, r_scr, r_glo, r_bor, r_new, r_ali, t_val, t_new, t_bor, t_ali, g_val, g_bor, g_new, g_ali, a_val, a_bor, a_ali, o_args0, o_args1, l_val, l_bor, l_ali, gAdd, gSub, mul_int, gMod, gDiv, gLt, gLe, gGt, gGe, gIsi, tyN, gLen, gNeg, gTuple, gList, gIsN, gNotN, gOrd, gMin, gMax, fNm, fTup, fCons, fNil, itemsOf, seqOf, k_NoneType_str, k_NoneType_tuple, k_NoneType_list, k_NoneType_int, k_NoneType_bool, k_NoneType_dict, k_bool_str, k_bool_tuple, k_bool_list, k_bool_int, k_bool_bool, k_bool_dict, k_int_str, k_int_tuple, k_int_list, k_int_int, k_int_bool, k_int_dict, k_str_str, k_str_tuple, k_str_list, k_str_int, k_str_bool, k_str_dict, k_tuple_str, k_tuple_tuple, k_tuple_list, k_tuple_int, k_tuple_bool, k_tuple_dict, k_list_str, k_list_tuple, k_list_list, k_list_int, k_list_bool, k_list_dict, k_dict_str, k_dict_tuple, k_dict_list, k_dict_int, k_dict_bool, k_dict_dict, slotOf, List.replicate, List.map_cons, List.map_nil, List.length_cons, List.length_nil, List.getElem?_cons_zero, List.getElem?_cons_succ, List.set_cons_zero, List.set_cons_succ, List.cons_append, List.nil_append, if_true, if_false, Bool.false_eq_true, reduceCtorEq, Nat.sub_self, Nat.reduceSub, Nat.reduceAdd, Nat.reduceLeDiff, Int.reduceLE, Int.reduceLT, Int.reducePow, Int.reduceToNat, Int.reduceNeg, Option.map_some, Option.map_none, Bool.not_true, Bool.not_false, ite_true, ite_false, decide_eq_true_eq, decide_true, decide_false, Bool.not_eq_true', tupN, List.length_map, wsT_len, ec, and_self, show (-18446744073709551616 : Int) < 2 ∧ (2 : Int) < 18446744073709551616 from by decide]
        refine WP.mono (one_cost (x14 := y14) (other := other) (costs := acc2.map nT) (cost := 2 * (one.length + sent.length - 2 * row.length)) h1 h3 hrow hm) ?_
        rintro _ _ ⟨rfl, y12, y13, rfl⟩
        simp only [x_strI, Int.reduceEq, p10_1, p10_2, p10_3, p10_4, p10_5, p10_6, p10_7, p10_8, p10_9, p10_10, p10_11, p10_12, p10_13, p10_14, p10_15, p10_16, p10_17, p10_18, at_c0, at_c1, at_c2, at_c3, at_c4, at_c5, ix_30, ix_31, ix_32, subS, gSet, wr, ix_str, ix_lst, ix_tup, ix_ktup, ix_scr, gEq_str, gNe_str, gEq_int, gNe_int, gEq_bl, gIn_sign, gNotIn_sign, gAll_bls, lt_one, w_sl, w_c, w_op2, w_op1, w_evs0, w_evs1, o_rds0, o_rds1, w_opN, o_tks0, o_tks1, w_lst, w_tup, b_val, w_ite, w_mT, w_bAnd, w_bOr, w_bNot, w_bYes, w_and, w_or, w_not, w_if, w_ch, w_pt0, w_pt1, w_slc, w_call, w_meth, w_itr, w_rng1, w_rng2, w_rng3, w_enum, w_zip, s_seq, s_nx, s_rt, s_bk, s_ct, s_pass, s_brk, s_cnt, s_if, s_asg, s_drop, s_ret, s_retN, s_asgT, s_sub, s_box, s_for, o_some, o_none, o_ite, o_map, o_bind, wp_ok, wp_bad, z_val, z_new, z_bor, z_ali, r_non, r_bl, r_int, r_str, r_tup, r_lst, r_dk, r_dt, r_ktup, r_scr, r_glo, r_bor, r_new, r_ali, t_val, t_new, t_bor, t_ali, g_val, g_bor, g_new, g_ali, a_val, a_bor, a_ali, o_args0, o_args1, l_val, l_bor, l_ali, gAdd, gSub, mul_int, gMod, gDiv, gLt, gLe, gGt, gGe, gIsi, tyN, gLen, gNeg, gTuple, gList, gIsN, gNotN, gOrd, gMin, gMax, fNm, fTup, fCons, fNil, itemsOf, seqOf, k_NoneType_str, k_NoneType_tuple, k_NoneType_list, k_NoneType_int, k_NoneType_bool, k_NoneType_dict, k_bool_str, k_bool_tuple, k_bool_list, k_bool_int, k_bool_bool, k_bool_dict, k_int_str, k_int_tuple, k_int_list, k_int_int, k_int_bool, k_int_dict, k_str_str, k_str_tuple, k_str_list, k_str_int, k_str_bool, k_str_dict, k_tuple_str, k_tuple_tuple, k_tuple_list, k_tuple_int, k_tuple_bool, k_tuple_dict, k_list_str, k_list_tuple, k_list_list, k_list_int, k_list_bool, k_list_dict, k_dict_str, k_dict_tuple, k_dict_list, k_dict_int, k_dict_bool, k_dict_dict, slotOf, List.replicate, List.map_cons, List.map_nil, List.length_cons, List.length_nil, List.getElem?_cons_zero, List.getElem?_cons_succ, List.set_cons_zero, List.set_cons_succ, List.cons_append, List.nil_append, if_true, if_false, Bool.false_eq_true, reduceCtorEq, Nat.sub_self, Nat.reduceSub, Nat.reduceAdd, Nat.reduceLeDiff, Int.reduceLE, Int.reduceLT, Int.reducePow, Int.reduceToNat, Int.reduceNeg, Option.map_some, Option.map_none, Bool.not_true, Bool.not_false, ite_true, ite_false, decide_eq_true_eq, decide_true, decide_false, Bool.not_eq_true', methS, isL, gApp, List.length_map, hal]
        rw [List.map_append]
        exact ⟨_, _, _, _, _, rfl⟩
      · subst es
        rw [foldl_fm, List.map_eq_flatMap (l := mets)]
        exact ⟨_, _, _, _, _, _, rfl⟩
  · subst es
    rw [foldl_fm]
    simp only [List.nil_append]
    have eC : (Pm.rowsN one.length).flatMap F = Pm.costsOf cW (msW one other) sent := by simp only [Pm.costsOf, msW_len, F]
    rw [eC]
    have em := minL_is (Pm.costs_mem (c := cW) (msW one other) sent) fun n hn => Pm.costs_le hn
    have ne := Pm.costs_mem (c := cW) (msW one other) sent
    have ei : intsT ((Pm.costsOf cW (msW one other) sent).map nT) = some ((Pm.costsOf cW (msW one other) sent).map fun n : Nat => (n : Int)) := by
      rw [← intsT_ints, List.map_map]; rfl
    have eg : gMinL [.lst ((Pm.costsOf cW (msW one other) sent).map nT)] = some (.val (nT (Pm.rest cW (msW one other) sent))) := by
      have hne : (Pm.costsOf cW (msW one other) sent).map (fun n : Nat => (n : Int)) ≠ [] := by cases h : Pm.costsOf cW (msW one other) sent with | nil => rw [h] at ne; cases ne | cons => simp
      simp only [gMinL, ei, Option.bind_some, if_neg hne, em]
      rfl
    simp only [x_strI, Int.reduceEq, p10_1, p10_2, p10_3, p10_4, p10_5, p10_6, p10_7, p10_8, p10_9, p10_10, p10_11, p10_12, p10_13, p10_14, p10_15, p10_16, p10_17, p10_18, at_c0, at_c1, at_c2, at_c3, at_c4, at_c5, ix_30, ix_31, ix_32, subS, gSet, wr, ix_str, ix_lst, ix_tup, ix_ktup, ix_scr, gEq_str, gNe_str, gEq_int, gNe_int, gEq_bl, gIn_sign, gNotIn_sign, gAll_bls, lt_one, w_sl, w_c, w_op2, w_op1, w_evs0, w_evs1, o_rds0, o_rds1, w_opN, o_tks0, o_tks1, w_lst, w_tup, b_val, w_ite, w_mT, w_bAnd, w_bOr, w_bNot, w_bYes, w_and, w_or, w_not, w_if, w_ch, w_pt0, w_pt1, w_slc, w_call, w_meth, w_itr, w_rng1, w_rng2, w_rng3, w_enum, w_zip, s_seq, s_nx, s_rt, s_bk, s_ct, s_pass, s_brk, s_cnt, s_if, s_asg, s_drop, s_ret, s_retN, s_asgT, s_sub, s_box, s_for, o_some, o_none, o_ite, o_map, o_bind, wp_ok, wp_bad, z_val, z_new, z_bor, z_ali, r_non, r_bl, r_int, r_str, r_tup, r_lst, r_dk, r_dt, r_ktup, r_scr, r_glo, r_bor, r_new, r_ali, t_val, t_new, t_bor, t_ali, g_val, g_bor, g_new, g_ali, a_val, a_bor, a_ali, o_args0, o_args1, l_val, l_bor, l_ali, gAdd, gSub, mul_int, gMod, gDiv, gLt, gLe, gGt, gGe, gIsi, tyN, gLen, gNeg, gTuple, gList, gIsN, gNotN, gOrd, gMin, gMax, fNm, fTup, fCons, fNil, itemsOf, seqOf, k_NoneType_str, k_NoneType_tuple, k_NoneType_list, k_NoneType_int, k_NoneType_bool, k_NoneType_dict, k_bool_str, k_bool_tuple, k_bool_list, k_bool_int, k_bool_bool, k_bool_dict, k_int_str, k_int_tuple, k_int_list, k_int_int, k_int_bool, k_int_dict, k_str_str, k_str_tuple, k_str_list, k_str_int, k_str_bool, k_str_dict, k_tuple_str, k_tuple_tuple, k_tuple_list, k_tuple_int, k_tuple_bool, k_tuple_dict, k_list_str, k_list_tuple, k_list_list, k_list_int, k_list_bool, k_list_dict, k_dict_str, k_dict_tuple, k_dict_list, k_dict_int, k_dict_bool, k_dict_dict, slotOf, List.replicate, List.map_cons, List.map_nil, List.length_cons, List.length_nil, List.getElem?_cons_zero, List.getElem?_cons_succ, List.set_cons_zero, List.set_cons_succ, List.cons_append, List.nil_append, if_true, if_false, Bool.false_eq_true, reduceCtorEq, Nat.sub_self, Nat.reduceSub, Nat.reduceAdd, Nat.reduceLeDiff, Int.reduceLE, Int.reduceLT, Int.reducePow, Int.reduceToNat, Int.reduceNeg, Option.map_some, Option.map_none, Bool.not_true, Bool.not_false, ite_true, ite_false, decide_eq_true_eq, decide_true, decide_false, Bool.not_eq_true', hP, eg, nT, gNe_int]
    exact ⟨trivial, _, _, _, _, _, _, _, _, rfl⟩
end Vi

set_option Elab.async false
set_option linter.all false
set_option maxRecDepth 100000
namespace Vi
open PySem PySem.Spec PyProof.Rows L2
def goodS (w : W) : Prop := isWordP (.str w) = true
theorem sn_of {ws : List W} (h : ∀ w ∈ ws, goodS w) (h1 : 1 ≤ ws.length) (h2 : ws.length ≤ 40) : Sn ws := by
  refine ⟨?_⟩
  simp only [isSentP, Bool.and_eq_true, decide_eq_true_eq, wsT_len]
  refine ⟨h1, h2, List.all_eq_true.mpr fun u hu => ?_⟩
  obtain ⟨w, hw, rfl⟩ := List.mem_map.mp hu
  exact h w hw
/-- words drawn out of some -/
theorem drawn_ok {n : Nat} {ce0 ce : List T} {some_ : List W} {many : Int} (hg : ∀ w ∈ some_, goodS w) (hl : 1 ≤ some_.length) (hl2 : some_.length ≤ 100) (m0 : 0 < many) (m1 : many ≤ 39) (hc : Wc n ce0 ce) {x0 x1 x4 x5 x6 x7 x8 x9 x10 x11 x12 x13 x14 : Slot} :
    WP (mComp [14] (mRng1 [mOp2 gAdd (mC (.int 1)) (mCall f__law_take [mSl 2, mC (.int many)])]) (fNm 14) (bYes) (mOp2 gIx (mSl 3) (mCall f__law_take [mSl 2, mOpN gLen [mSl 3]]))
      ⟨[x0, x1, .val (.glo n), .own (.lst (wsT some_)), x4, x5, x6, x7, x8, x9, x10, x11, x12, x13, x14], ce⟩)
      fun d s => (∃ ws, d = .new (.lst (wsT ws)) ∧ (∀ w ∈ ws, goodS w) ∧ 1 ≤ ws.length ∧ (ws.length : Int) ≤ many) ∧ ∃ y14 ce', Wc n ce0 ce' ∧ s = ⟨[x0, x1, .val (.glo n), .own (.lst (wsT some_)), x4, x5, x6, x7, x8, x9, x10, x11, x12, x13, y14], ce'⟩ := by
  refine wp_compC (fun k acc ce => (∃ ws, acc = wsT ws ∧ (∀ w ∈ ws, goodS w) ∧ ws.length = k) ∧ Wc n ce0 ce) ?_
  simp only [x_strI, Int.reduceEq, p10_1, p10_2, p10_3, p10_4, p10_5, p10_6, p10_7, p10_8, p10_9, p10_10, p10_11, p10_12, p10_13, p10_14, p10_15, p10_16, p10_17, p10_18, at_c0, at_c1, at_c2, at_c3, at_c4, at_c5, ix_30, ix_31, ix_32, subS, gSet, wr, ix_str, ix_lst, ix_tup, ix_ktup, ix_scr, gEq_str, gNe_str, gEq_int, gNe_int, gEq_bl, gIn_sign, gNotIn_sign, gAll_bls, lt_one, w_sl, w_c, w_op2, w_op1, w_evs0, w_evs1, o_rds0, o_rds1, w_opN, o_tks0, o_tks1, w_lst, w_tup, b_val, w_ite, w_mT, w_bAnd, w_bOr, w_bNot, w_bYes, w_and, w_or, w_not, w_if, w_ch, w_pt0, w_pt1, w_slc, w_call, w_meth, w_itr, w_rng1, w_rng2, w_rng3, w_enum, w_zip, s_seq, s_nx, s_rt, s_bk, s_ct, s_pass, s_brk, s_cnt, s_if, s_asg, s_drop, s_ret, s_retN, s_asgT, s_sub, s_box, s_for, o_some, o_none, o_ite, o_map, o_bind, wp_ok, wp_bad, z_val, z_new, z_bor, z_ali, r_non, r_bl, r_int, r_str, r_tup, r_lst, r_dk, r_dt, r_ktup, r_scr, r_glo, r_bor, r_new, r_ali, t_val, t_new, t_bor, t_ali, g_val, g_bor, g_new, g_ali, a_val, a_bor, a_ali, o_args0, o_args1, l_val, l_bor, l_ali, gAdd, gSub, mul_int, gMod, gDiv, gLt, gLe, gGt, gGe, gIsi, tyN, gLen, gNeg, gTuple, gList, gIsN, gNotN, gOrd, gMin, gMax, fNm, fTup, fCons, fNil, itemsOf, seqOf, k_NoneType_str, k_NoneType_tuple, k_NoneType_list, k_NoneType_int, k_NoneType_bool, k_NoneType_dict, k_bool_str, k_bool_tuple, k_bool_list, k_bool_int, k_bool_bool, k_bool_dict, k_int_str, k_int_tuple, k_int_list, k_int_int, k_int_bool, k_int_dict, k_str_str, k_str_tuple, k_str_list, k_str_int, k_str_bool, k_str_dict, k_tuple_str, k_tuple_tuple, k_tuple_list, k_tuple_int, k_tuple_bool, k_tuple_dict, k_list_str, k_list_tuple, k_list_list, k_list_int, k_list_bool, k_list_dict, k_dict_str, k_dict_tuple, k_dict_list, k_dict_int, k_dict_bool, k_dict_dict, slotOf, List.replicate, List.map_cons, List.map_nil, List.length_cons, List.length_nil, List.getElem?_cons_zero, List.getElem?_cons_succ, List.set_cons_zero, List.set_cons_succ, List.cons_append, List.nil_append, if_true, if_false, Bool.false_eq_true, reduceCtorEq, Nat.sub_self, Nat.reduceSub, Nat.reduceAdd, Nat.reduceLeDiff, Int.reduceLE, Int.reduceLT, Int.reducePow, Int.reduceToNat, Int.reduceNeg, Option.map_some, Option.map_none, Bool.not_true, Bool.not_false, ite_true, ite_false, decide_eq_true_eq, decide_true, decide_false, Bool.not_eq_true']
  refine take_wp hc m0 (by omega) fun got ce1 hc1 g0 g1 => ?_
  have hs : small (1 + got) = true := small_in (by omega) (by omega)
  simp only [x_strI, Int.reduceEq, p10_1, p10_2, p10_3, p10_4, p10_5, p10_6, p10_7, p10_8, p10_9, p10_10, p10_11, p10_12, p10_13, p10_14, p10_15, p10_16, p10_17, p10_18, at_c0, at_c1, at_c2, at_c3, at_c4, at_c5, ix_30, ix_31, ix_32, subS, gSet, wr, ix_str, ix_lst, ix_tup, ix_ktup, ix_scr, gEq_str, gNe_str, gEq_int, gNe_int, gEq_bl, gIn_sign, gNotIn_sign, gAll_bls, lt_one, w_sl, w_c, w_op2, w_op1, w_evs0, w_evs1, o_rds0, o_rds1, w_opN, o_tks0, o_tks1, w_lst, w_tup, b_val, w_ite, w_mT, w_bAnd, w_bOr, w_bNot, w_bYes, w_and, w_or, w_not, w_if, w_ch, w_pt0, w_pt1, w_slc, w_call, w_meth, w_itr, w_rng1, w_rng2, w_rng3, w_enum, w_zip, s_seq, s_nx, s_rt, s_bk, s_ct, s_pass, s_brk, s_cnt, s_if, s_asg, s_drop, s_ret, s_retN, s_asgT, s_sub, s_box, s_for, o_some, o_none, o_ite, o_map, o_bind, wp_ok, wp_bad, z_val, z_new, z_bor, z_ali, r_non, r_bl, r_int, r_str, r_tup, r_lst, r_dk, r_dt, r_ktup, r_scr, r_glo, r_bor, r_new, r_ali, t_val, t_new, t_bor, t_ali, g_val, g_bor, g_new, g_ali, a_val, a_bor, a_ali, o_args0, o_args1, l_val, l_bor, l_ali, gAdd, gSub, mul_int, gMod, gDiv, gLt, gLe, gGt, gGe, gIsi, tyN, gLen, gNeg, gTuple, gList, gIsN, gNotN, gOrd, gMin, gMax, fNm, fTup, fCons, fNil, itemsOf, seqOf, k_NoneType_str, k_NoneType_tuple, k_NoneType_list, k_NoneType_int, k_NoneType_bool, k_NoneType_dict, k_bool_str, k_bool_tuple, k_bool_list, k_bool_int, k_bool_bool, k_bool_dict, k_int_str, k_int_tuple, k_int_list, k_int_int, k_int_bool, k_int_dict, k_str_str, k_str_tuple, k_str_list, k_str_int, k_str_bool, k_str_dict, k_tuple_str, k_tuple_tuple, k_tuple_list, k_tuple_int, k_tuple_bool, k_tuple_dict, k_list_str, k_list_tuple, k_list_list, k_list_int, k_list_bool, k_list_dict, k_dict_str, k_dict_tuple, k_dict_list, k_dict_int, k_dict_bool, k_dict_dict, slotOf, List.replicate, List.map_cons, List.map_nil, List.length_cons, List.length_nil, List.getElem?_cons_zero, List.getElem?_cons_succ, List.set_cons_zero, List.set_cons_succ, List.cons_append, List.nil_append, if_true, if_false, Bool.false_eq_true, reduceCtorEq, Nat.sub_self, Nat.reduceSub, Nat.reduceAdd, Nat.reduceLeDiff, Int.reduceLE, Int.reduceLT, Int.reducePow, Int.reduceToNat, Int.reduceNeg, Option.map_some, Option.map_none, Bool.not_true, Bool.not_false, ite_true, ite_false, decide_eq_true_eq, decide_true, decide_false, Bool.not_eq_true', hs]
  refine ⟨⟨⟨[], rfl, (fun _ z => by cases z), rfl⟩, hc1⟩, fun k t acc ce3 hk hJ => ?_, fun acc ce3 hJ => ?_⟩
  · have hk4 : k < 41 := by
      have := (List.getElem?_eq_some_iff.mp hk).1
      simp [rangeT] at this
      omega
    obtain ⟨⟨ws, rfl, hws, hlw⟩, hc3⟩ := hJ
    refine wp_step rfl ?_
    simp only [x_strI, Int.reduceEq, p10_1, p10_2, p10_3, p10_4, p10_5, p10_6, p10_7, p10_8, p10_9, p10_10, p10_11, p10_12, p10_13, p10_14, p10_15, p10_16, p10_17, p10_18, at_c0, at_c1, at_c2, at_c3, at_c4, at_c5, ix_30, ix_31, ix_32, subS, gSet, wr, ix_str, ix_lst, ix_tup, ix_ktup, ix_scr, gEq_str, gNe_str, gEq_int, gNe_int, gEq_bl, gIn_sign, gNotIn_sign, gAll_bls, lt_one, w_sl, w_c, w_op2, w_op1, w_evs0, w_evs1, o_rds0, o_rds1, w_opN, o_tks0, o_tks1, w_lst, w_tup, b_val, w_ite, w_mT, w_bAnd, w_bOr, w_bNot, w_bYes, w_and, w_or, w_not, w_if, w_ch, w_pt0, w_pt1, w_slc, w_call, w_meth, w_itr, w_rng1, w_rng2, w_rng3, w_enum, w_zip, s_seq, s_nx, s_rt, s_bk, s_ct, s_pass, s_brk, s_cnt, s_if, s_asg, s_drop, s_ret, s_retN, s_asgT, s_sub, s_box, s_for, o_some, o_none, o_ite, o_map, o_bind, wp_ok, wp_bad, z_val, z_new, z_bor, z_ali, r_non, r_bl, r_int, r_str, r_tup, r_lst, r_dk, r_dt, r_ktup, r_scr, r_glo, r_bor, r_new, r_ali, t_val, t_new, t_bor, t_ali, g_val, g_bor, g_new, g_ali, a_val, a_bor, a_ali, o_args0, o_args1, l_val, l_bor, l_ali, gAdd, gSub, mul_int, gMod, gDiv, gLt, gLe, gGt, gGe, gIsi, tyN, gLen, gNeg, gTuple, gList, gIsN, gNotN, gOrd, gMin, gMax, fNm, fTup, fCons, fNil, itemsOf, seqOf, k_NoneType_str, k_NoneType_tuple, k_NoneType_list, k_NoneType_int, k_NoneType_bool, k_NoneType_dict, k_bool_str, k_bool_tuple, k_bool_list, k_bool_int, k_bool_bool, k_bool_dict, k_int_str, k_int_tuple, k_int_list, k_int_int, k_int_bool, k_int_dict, k_str_str, k_str_tuple, k_str_list, k_str_int, k_str_bool, k_str_dict, k_tuple_str, k_tuple_tuple, k_tuple_list, k_tuple_int, k_tuple_bool, k_tuple_dict, k_list_str, k_list_tuple, k_list_list, k_list_int, k_list_bool, k_list_dict, k_dict_str, k_dict_tuple, k_dict_list, k_dict_int, k_dict_bool, k_dict_dict, slotOf, List.replicate, List.map_cons, List.map_nil, List.length_cons, List.length_nil, List.getElem?_cons_zero, List.getElem?_cons_succ, List.set_cons_zero, List.set_cons_succ, List.cons_append, List.nil_append, if_true, if_false, Bool.false_eq_true, reduceCtorEq, Nat.sub_self, Nat.reduceSub, Nat.reduceAdd, Nat.reduceLeDiff, Int.reduceLE, Int.reduceLT, Int.reducePow, Int.reduceToNat, Int.reduceNeg, Option.map_some, Option.map_none, Bool.not_true, Bool.not_false, ite_true, ite_false, decide_eq_true_eq, decide_true, decide_false, Bool.not_eq_true', wipeL, wsT_len]
    refine take_wp hc3 (by omega) (by omega) fun i ce4 hc4 i0 i1 => ?_
    simp only [x_strI, Int.reduceEq, p10_1, p10_2, p10_3, p10_4, p10_5, p10_6, p10_7, p10_8, p10_9, p10_10, p10_11, p10_12, p10_13, p10_14, p10_15, p10_16, p10_17, p10_18, at_c0, at_c1, at_c2, at_c3, at_c4, at_c5, ix_30, ix_31, ix_32, subS, gSet, wr, ix_str, ix_lst, ix_tup, ix_ktup, ix_scr, gEq_str, gNe_str, gEq_int, gNe_int, gEq_bl, gIn_sign, gNotIn_sign, gAll_bls, lt_one, w_sl, w_c, w_op2, w_op1, w_evs0, w_evs1, o_rds0, o_rds1, w_opN, o_tks0, o_tks1, w_lst, w_tup, b_val, w_ite, w_mT, w_bAnd, w_bOr, w_bNot, w_bYes, w_and, w_or, w_not, w_if, w_ch, w_pt0, w_pt1, w_slc, w_call, w_meth, w_itr, w_rng1, w_rng2, w_rng3, w_enum, w_zip, s_seq, s_nx, s_rt, s_bk, s_ct, s_pass, s_brk, s_cnt, s_if, s_asg, s_drop, s_ret, s_retN, s_asgT, s_sub, s_box, s_for, o_some, o_none, o_ite, o_map, o_bind, wp_ok, wp_bad, z_val, z_new, z_bor, z_ali, r_non, r_bl, r_int, r_str, r_tup, r_lst, r_dk, r_dt, r_ktup, r_scr, r_glo, r_bor, r_new, r_ali, t_val, t_new, t_bor, t_ali, g_val, g_bor, g_new, g_ali, a_val, a_bor, a_ali, o_args0, o_args1, l_val, l_bor, l_ali, gAdd, gSub, mul_int, gMod, gDiv, gLt, gLe, gGt, gGe, gIsi, tyN, gLen, gNeg, gTuple, gList, gIsN, gNotN, gOrd, gMin, gMax, fNm, fTup, fCons, fNil, itemsOf, seqOf, k_NoneType_str, k_NoneType_tuple, k_NoneType_list, k_NoneType_int, k_NoneType_bool, k_NoneType_dict, k_bool_str, k_bool_tuple, k_bool_list, k_bool_int, k_bool_bool, k_bool_dict, k_int_str, k_int_tuple, k_int_list, k_int_int, k_int_bool, k_int_dict, k_str_str, k_str_tuple, k_str_list, k_str_int, k_str_bool, k_str_dict, k_tuple_str, k_tuple_tuple, k_tuple_list, k_tuple_int, k_tuple_bool, k_tuple_dict, k_list_str, k_list_tuple, k_list_list, k_list_int, k_list_bool, k_list_dict, k_dict_str, k_dict_tuple, k_dict_list, k_dict_int, k_dict_bool, k_dict_dict, slotOf, List.replicate, List.map_cons, List.map_nil, List.length_cons, List.length_nil, List.getElem?_cons_zero, List.getElem?_cons_succ, List.set_cons_zero, List.set_cons_succ, List.cons_append, List.nil_append, if_true, if_false, Bool.false_eq_true, reduceCtorEq, Nat.sub_self, Nat.reduceSub, Nat.reduceAdd, Nat.reduceLeDiff, Int.reduceLE, Int.reduceLT, Int.reducePow, Int.reduceToNat, Int.reduceNeg, Option.map_some, Option.map_none, Bool.not_true, Bool.not_false, ite_true, ite_false, decide_eq_true_eq, decide_true, decide_false, Bool.not_eq_true']
    refine wat_any i0 (by rw [wsT_len]; exact i1) fun t ht => ?_
    obtain ⟨w, hw, rfl⟩ := List.mem_map.mp ht
    have lt : ws.length < line := line41 (by omega)
    simp only [x_strI, Int.reduceEq, p10_1, p10_2, p10_3, p10_4, p10_5, p10_6, p10_7, p10_8, p10_9, p10_10, p10_11, p10_12, p10_13, p10_14, p10_15, p10_16, p10_17, p10_18, at_c0, at_c1, at_c2, at_c3, at_c4, at_c5, ix_30, ix_31, ix_32, subS, gSet, wr, ix_str, ix_lst, ix_tup, ix_ktup, ix_scr, gEq_str, gNe_str, gEq_int, gNe_int, gEq_bl, gIn_sign, gNotIn_sign, gAll_bls, lt_one, w_sl, w_c, w_op2, w_op1, w_evs0, w_evs1, o_rds0, o_rds1, w_opN, o_tks0, o_tks1, w_lst, w_tup, b_val, w_ite, w_mT, w_bAnd, w_bOr, w_bNot, w_bYes, w_and, w_or, w_not, w_if, w_ch, w_pt0, w_pt1, w_slc, w_call, w_meth, w_itr, w_rng1, w_rng2, w_rng3, w_enum, w_zip, s_seq, s_nx, s_rt, s_bk, s_ct, s_pass, s_brk, s_cnt, s_if, s_asg, s_drop, s_ret, s_retN, s_asgT, s_sub, s_box, s_for, o_some, o_none, o_ite, o_map, o_bind, wp_ok, wp_bad, z_val, z_new, z_bor, z_ali, r_non, r_bl, r_int, r_str, r_tup, r_lst, r_dk, r_dt, r_ktup, r_scr, r_glo, r_bor, r_new, r_ali, t_val, t_new, t_bor, t_ali, g_val, g_bor, g_new, g_ali, a_val, a_bor, a_ali, o_args0, o_args1, l_val, l_bor, l_ali, gAdd, gSub, mul_int, gMod, gDiv, gLt, gLe, gGt, gGe, gIsi, tyN, gLen, gNeg, gTuple, gList, gIsN, gNotN, gOrd, gMin, gMax, fNm, fTup, fCons, fNil, itemsOf, seqOf, k_NoneType_str, k_NoneType_tuple, k_NoneType_list, k_NoneType_int, k_NoneType_bool, k_NoneType_dict, k_bool_str, k_bool_tuple, k_bool_list, k_bool_int, k_bool_bool, k_bool_dict, k_int_str, k_int_tuple, k_int_list, k_int_int, k_int_bool, k_int_dict, k_str_str, k_str_tuple, k_str_list, k_str_int, k_str_bool, k_str_dict, k_tuple_str, k_tuple_tuple, k_tuple_list, k_tuple_int, k_tuple_bool, k_tuple_dict, k_list_str, k_list_tuple, k_list_list, k_list_int, k_list_bool, k_list_dict, k_dict_str, k_dict_tuple, k_dict_list, k_dict_int, k_dict_bool, k_dict_dict, slotOf, List.replicate, List.map_cons, List.map_nil, List.length_cons, List.length_nil, List.getElem?_cons_zero, List.getElem?_cons_succ, List.set_cons_zero, List.set_cons_succ, List.cons_append, List.nil_append, if_true, if_false, Bool.false_eq_true, reduceCtorEq, Nat.sub_self, Nat.reduceSub, Nat.reduceAdd, Nat.reduceLeDiff, Int.reduceLE, Int.reduceLT, Int.reducePow, Int.reduceToNat, Int.reduceNeg, Option.map_some, Option.map_none, Bool.not_true, Bool.not_false, ite_true, ite_false, decide_eq_true_eq, decide_true, decide_false, Bool.not_eq_true', wipeS, wipeL, wsT_len]
    refine ⟨lt, trivial, ⟨ws ++ [w], by simp [wsT], fun v hv => ?_, by simp [hlw]⟩, hc4⟩
    rcases List.mem_append.mp hv with z | z
    · exact hws v z
    · simp at z; subst z; exact hg _ hw
  · obtain ⟨⟨ws, rfl, hws, hlw⟩, hc3⟩ := hJ
    simp [rangeT] at hlw
    simp only [x_strI, Int.reduceEq, p10_1, p10_2, p10_3, p10_4, p10_5, p10_6, p10_7, p10_8, p10_9, p10_10, p10_11, p10_12, p10_13, p10_14, p10_15, p10_16, p10_17, p10_18, at_c0, at_c1, at_c2, at_c3, at_c4, at_c5, ix_30, ix_31, ix_32, subS, gSet, wr, ix_str, ix_lst, ix_tup, ix_ktup, ix_scr, gEq_str, gNe_str, gEq_int, gNe_int, gEq_bl, gIn_sign, gNotIn_sign, gAll_bls, lt_one, w_sl, w_c, w_op2, w_op1, w_evs0, w_evs1, o_rds0, o_rds1, w_opN, o_tks0, o_tks1, w_lst, w_tup, b_val, w_ite, w_mT, w_bAnd, w_bOr, w_bNot, w_bYes, w_and, w_or, w_not, w_if, w_ch, w_pt0, w_pt1, w_slc, w_call, w_meth, w_itr, w_rng1, w_rng2, w_rng3, w_enum, w_zip, s_seq, s_nx, s_rt, s_bk, s_ct, s_pass, s_brk, s_cnt, s_if, s_asg, s_drop, s_ret, s_retN, s_asgT, s_sub, s_box, s_for, o_some, o_none, o_ite, o_map, o_bind, wp_ok, wp_bad, z_val, z_new, z_bor, z_ali, r_non, r_bl, r_int, r_str, r_tup, r_lst, r_dk, r_dt, r_ktup, r_scr, r_glo, r_bor, r_new, r_ali, t_val, t_new, t_bor, t_ali, g_val, g_bor, g_new, g_ali, a_val, a_bor, a_ali, o_args0, o_args1, l_val, l_bor, l_ali, gAdd, gSub, mul_int, gMod, gDiv, gLt, gLe, gGt, gGe, gIsi, tyN, gLen, gNeg, gTuple, gList, gIsN, gNotN, gOrd, gMin, gMax, fNm, fTup, fCons, fNil, itemsOf, seqOf, k_NoneType_str, k_NoneType_tuple, k_NoneType_list, k_NoneType_int, k_NoneType_bool, k_NoneType_dict, k_bool_str, k_bool_tuple, k_bool_list, k_bool_int, k_bool_bool, k_bool_dict, k_int_str, k_int_tuple, k_int_list, k_int_int, k_int_bool, k_int_dict, k_str_str, k_str_tuple, k_str_list, k_str_int, k_str_bool, k_str_dict, k_tuple_str, k_tuple_tuple, k_tuple_list, k_tuple_int, k_tuple_bool, k_tuple_dict, k_list_str, k_list_tuple, k_list_list, k_list_int, k_list_bool, k_list_dict, k_dict_str, k_dict_tuple, k_dict_list, k_dict_int, k_dict_bool, k_dict_dict, slotOf, List.replicate, List.map_cons, List.map_nil, List.length_cons, List.length_nil, List.getElem?_cons_zero, List.getElem?_cons_succ, List.set_cons_zero, List.set_cons_succ, List.cons_append, List.nil_append, if_true, if_false, Bool.false_eq_true, reduceCtorEq, Nat.sub_self, Nat.reduceSub, Nat.reduceAdd, Nat.reduceLeDiff, Int.reduceLE, Int.reduceLT, Int.reducePow, Int.reduceToNat, Int.reduceNeg, Option.map_some, Option.map_none, Bool.not_true, Bool.not_false, ite_true, ite_false, decide_eq_true_eq, decide_true, decide_false, Bool.not_eq_true', restL, wipeL, keepV]
    exact ⟨⟨ws, rfl, hws, by omega, by omega⟩, _, ce3, hc3, rfl⟩
end Vi

set_option Elab.async false
set_option linter.all false
set_option maxRecDepth 100000
namespace Vi
open PySem PySem.Spec PyProof.Rows L2
def six : List W := [[97], [98], [65, 110, 110], [66, 111], [49], [50]]
theorem six_good : ∀ w ∈ six, goodS w := by
  intro w hw
  simp only [six, List.mem_cons, List.not_mem_nil, or_false] at hw
  rcases hw with rfl | rfl | rfl | rfl | rfl | rfl <;> unfold goodS <;> decide
theorem cut_from {α : Type} (x : List α) {j : Int} (h : 0 ≤ j) : cutL x (some j) none = x.drop j.toNat := by
  unfold cutL
  simp only [HT.sIx]
  rw [if_neg (by omega)]
  by_cases q : j.toNat ≤ x.length
  · rw [Nat.min_eq_left q, List.take_of_length_le]
    simp
  · rw [Nat.min_eq_right (by omega), List.drop_length, List.drop_eq_nil_of_le (by omega)]
    simp
theorem plain (ns : List Int) (h : ns.length ≤ 63) : ∃ s', f_law [.val (.scr ns)] [] = .ok (.val (.bl true)) s' := by
  have key : WP (f_law [.val (.scr ns)] []) fun d s => d = .val (.bl true) := by
    unfold f_law runF
    unfold m_law
    have hC := @costs_ok
    have hD := @drawn_ok
    generalize hB : (mSeq (mAsg 7 _) _) = B at hC ⊢
    refine WP.endF ?_
    rw [s_seq, s_for]
    simp only [x_strI, Int.reduceEq, p10_1, p10_2, p10_3, p10_4, p10_5, p10_6, p10_7, p10_8, p10_9, p10_10, p10_11, p10_12, p10_13, p10_14, p10_15, p10_16, p10_17, p10_18, at_c0, at_c1, at_c2, at_c3, at_c4, at_c5, ix_30, ix_31, ix_32, subS, gSet, wr, ix_str, ix_lst, ix_tup, ix_ktup, ix_scr, gEq_str, gNe_str, gEq_int, gNe_int, gEq_bl, gIn_sign, gNotIn_sign, gAll_bls, lt_one, w_sl, w_c, w_op2, w_op1, w_evs0, w_evs1, o_rds0, o_rds1, w_opN, o_tks0, o_tks1, w_lst, w_tup, b_val, w_ite, w_mT, w_bAnd, w_bOr, w_bNot, w_bYes, w_and, w_or, w_not, w_if, w_ch, w_pt0, w_pt1, w_slc, w_call, w_meth, w_itr, w_rng1, w_rng2, w_rng3, w_enum, w_zip, s_seq, s_nx, s_rt, s_bk, s_ct, s_pass, s_brk, s_cnt, s_if, s_asg, s_drop, s_ret, s_retN, s_asgT, s_sub, s_box, s_for, o_some, o_none, o_ite, o_map, o_bind, wp_ok, wp_bad, z_val, z_new, z_bor, z_ali, r_non, r_bl, r_int, r_str, r_tup, r_lst, r_dk, r_dt, r_ktup, r_scr, r_glo, r_bor, r_new, r_ali, t_val, t_new, t_bor, t_ali, g_val, g_bor, g_new, g_ali, a_val, a_bor, a_ali, o_args0, o_args1, l_val, l_bor, l_ali, gAdd, gSub, mul_int, gMod, gDiv, gLt, gLe, gGt, gGe, gIsi, tyN, gLen, gNeg, gTuple, gList, gIsN, gNotN, gOrd, gMin, gMax, fNm, fTup, fCons, fNil, itemsOf, seqOf, k_NoneType_str, k_NoneType_tuple, k_NoneType_list, k_NoneType_int, k_NoneType_bool, k_NoneType_dict, k_bool_str, k_bool_tuple, k_bool_list, k_bool_int, k_bool_bool, k_bool_dict, k_int_str, k_int_tuple, k_int_list, k_int_int, k_int_bool, k_int_dict, k_str_str, k_str_tuple, k_str_list, k_str_int, k_str_bool, k_str_dict, k_tuple_str, k_tuple_tuple, k_tuple_list, k_tuple_int, k_tuple_bool, k_tuple_dict, k_list_str, k_list_tuple, k_list_list, k_list_int, k_list_bool, k_list_dict, k_dict_str, k_dict_tuple, k_dict_list, k_dict_int, k_dict_bool, k_dict_dict, slotOf, List.replicate, List.map_cons, List.map_nil, List.length_cons, List.length_nil, List.getElem?_cons_zero, List.getElem?_cons_succ, List.set_cons_zero, List.set_cons_succ, List.cons_append, List.nil_append, if_true, if_false, Bool.false_eq_true, reduceCtorEq, Nat.sub_self, Nat.reduceSub, Nat.reduceAdd, Nat.reduceLeDiff, Int.reduceLE, Int.reduceLT, Int.reducePow, Int.reduceToNat, Int.reduceNeg, Option.map_some, Option.map_none, Bool.not_true, Bool.not_false, ite_true, ite_false, decide_eq_true_eq, decide_true, decide_false, Bool.not_eq_true']
    obtain ⟨K, hK⟩ : ∃ K : Nat, max 1 (min 6 (ns.length : Int)) = (K : Int) := ⟨(max 1 (min 6 (ns.length : Int))).toNat, by omega⟩
    have hK2 : K ≤ 63 := by omega
    rw [hK, small_nat (by omega), if_pos rfl, Int.toNat_natCast]
    refine forL_each (fun s => ∃ x1 x2 x3 x4 x5 x6 x7 x8 x9 x10 x11 x12 x13 x14, s.sl = [.val (.scr ns), x1, x2, x3, x4, x5, x6, x7, x8, x9, x10, x11, x12, x13, x14]) _ _ ⟨_, _, _, _, _, _, _, _, _, _, _, _, _, _, rfl⟩ (fun t ht s ⟨x1, x2, x3, x4, x5, x6, x7, x8, x9, x10, x11, x12, x13, x14, es⟩ => ?_) fun s ⟨x1, x2, x3, x4, x5, x6, x7, x8, x9, x10, x11, x12, x13, x14, es⟩ => ?_
    · obtain ⟨sl, ce⟩ := s
      simp only at es
      subst es
      obtain ⟨i, hi, rfl⟩ := List.mem_map.mp ht
      have hi := List.mem_range.mp hi
      obtain ⟨w, hw, hwell⟩ := well_ok ns i ce (by omega) (by omega) h
      have hwb := hwell.back
      have hc : Wc ce.length (ce ++ [w]) (ce ++ [w]) := ⟨by simp, w, hw, by simp⟩
      rw [fNm]
      have e0 : (0 : Int) + (i : Nat) = (i : Nat) := Int.zero_add _
      simp only [x_strI, Int.reduceEq, p10_1, p10_2, p10_3, p10_4, p10_5, p10_6, p10_7, p10_8, p10_9, p10_10, p10_11, p10_12, p10_13, p10_14, p10_15, p10_16, p10_17, p10_18, at_c0, at_c1, at_c2, at_c3, at_c4, at_c5, ix_30, ix_31, ix_32, subS, gSet, wr, ix_str, ix_lst, ix_tup, ix_ktup, ix_scr, gEq_str, gNe_str, gEq_int, gNe_int, gEq_bl, gIn_sign, gNotIn_sign, gAll_bls, lt_one, w_sl, w_c, w_op2, w_op1, w_evs0, w_evs1, o_rds0, o_rds1, w_opN, o_tks0, o_tks1, w_lst, w_tup, b_val, w_ite, w_mT, w_bAnd, w_bOr, w_bNot, w_bYes, w_and, w_or, w_not, w_if, w_ch, w_pt0, w_pt1, w_slc, w_call, w_meth, w_itr, w_rng1, w_rng2, w_rng3, w_enum, w_zip, s_seq, s_nx, s_rt, s_bk, s_ct, s_pass, s_brk, s_cnt, s_if, s_asg, s_drop, s_ret, s_retN, s_asgT, s_sub, s_box, s_for, o_some, o_none, o_ite, o_map, o_bind, wp_ok, wp_bad, z_val, z_new, z_bor, z_ali, r_non, r_bl, r_int, r_str, r_tup, r_lst, r_dk, r_dt, r_ktup, r_scr, r_glo, r_bor, r_new, r_ali, t_val, t_new, t_bor, t_ali, g_val, g_bor, g_new, g_ali, a_val, a_bor, a_ali, o_args0, o_args1, l_val, l_bor, l_ali, gAdd, gSub, mul_int, gMod, gDiv, gLt, gLe, gGt, gGe, gIsi, tyN, gLen, gNeg, gTuple, gList, gIsN, gNotN, gOrd, gMin, gMax, fNm, fTup, fCons, fNil, itemsOf, seqOf, k_NoneType_str, k_NoneType_tuple, k_NoneType_list, k_NoneType_int, k_NoneType_bool, k_NoneType_dict, k_bool_str, k_bool_tuple, k_bool_list, k_bool_int, k_bool_bool, k_bool_dict, k_int_str, k_int_tuple, k_int_list, k_int_int, k_int_bool, k_int_dict, k_str_str, k_str_tuple, k_str_list, k_str_int, k_str_bool, k_str_dict, k_tuple_str, k_tuple_tuple, k_tuple_list, k_tuple_int, k_tuple_bool, k_tuple_dict, k_list_str, k_list_tuple, k_list_list, k_list_int, k_list_bool, k_list_dict, k_dict_str, k_dict_tuple, k_dict_list, k_dict_int, k_dict_bool, k_dict_dict, slotOf, List.replicate, List.map_cons, List.map_nil, List.length_cons, List.length_nil, List.getElem?_cons_zero, List.getElem?_cons_succ, List.set_cons_zero, List.set_cons_succ, List.cons_append, List.nil_append, if_true, if_false, Bool.false_eq_true, reduceCtorEq, Nat.sub_self, Nat.reduceSub, Nat.reduceAdd, Nat.reduceLeDiff, Int.reduceLE, Int.reduceLT, Int.reducePow, Int.reduceToNat, Int.reduceNeg, Option.map_some, Option.map_none, Bool.not_true, Bool.not_false, ite_true, ite_false, decide_eq_true_eq, decide_true, decide_false, Bool.not_eq_true', e0, hwb, show 6 ≤ line from by decide]
      refine take_wp hc (by decide) (by decide) fun got ce1 hc1 g0 g1 => ?_
      have e6 : gSlc (.lst [.str [97], .str [98], .str [65, 110, 110], .str [66, 111], .str [49], .str [50]]) (some got) none = some (.new (.lst (wsT (six.drop got.toNat)))) := by
        show some (DV.new (.lst (cutL (wsT six) (some got) none))) = _
        rw [cut_from _ g0, wsT, wsT, List.map_drop]
      have hg : ∀ v ∈ six.drop got.toNat, goodS v := fun v hv => six_good v (List.mem_of_mem_drop hv)
      have hl : 1 ≤ (six.drop got.toNat).length ∧ (six.drop got.toNat).length ≤ 100 := by
        rw [List.length_drop]; simp only [six, List.length_cons, List.length_nil]; omega
      generalize six.drop got.toNat = sm at e6 hg hl
      simp only [x_strI, Int.reduceEq, p10_1, p10_2, p10_3, p10_4, p10_5, p10_6, p10_7, p10_8, p10_9, p10_10, p10_11, p10_12, p10_13, p10_14, p10_15, p10_16, p10_17, p10_18, at_c0, at_c1, at_c2, at_c3, at_c4, at_c5, ix_30, ix_31, ix_32, subS, gSet, wr, ix_str, ix_lst, ix_tup, ix_ktup, ix_scr, gEq_str, gNe_str, gEq_int, gNe_int, gEq_bl, gIn_sign, gNotIn_sign, gAll_bls, lt_one, w_sl, w_c, w_op2, w_op1, w_evs0, w_evs1, o_rds0, o_rds1, w_opN, o_tks0, o_tks1, w_lst, w_tup, b_val, w_ite, w_mT, w_bAnd, w_bOr, w_bNot, w_bYes, w_and, w_or, w_not, w_if, w_ch, w_pt0, w_pt1, w_slc, w_call, w_meth, w_itr, w_rng1, w_rng2, w_rng3, w_enum, w_zip, s_seq, s_nx, s_rt, s_bk, s_ct, s_pass, s_brk, s_cnt, s_if, s_asg, s_drop, s_ret, s_retN, s_asgT, s_sub, s_box, s_for, o_some, o_none, o_ite, o_map, o_bind, wp_ok, wp_bad, z_val, z_new, z_bor, z_ali, r_non, r_bl, r_int, r_str, r_tup, r_lst, r_dk, r_dt, r_ktup, r_scr, r_glo, r_bor, r_new, r_ali, t_val, t_new, t_bor, t_ali, g_val, g_bor, g_new, g_ali, a_val, a_bor, a_ali, o_args0, o_args1, l_val, l_bor, l_ali, gAdd, gSub, mul_int, gMod, gDiv, gLt, gLe, gGt, gGe, gIsi, tyN, gLen, gNeg, gTuple, gList, gIsN, gNotN, gOrd, gMin, gMax, fNm, fTup, fCons, fNil, itemsOf, seqOf, k_NoneType_str, k_NoneType_tuple, k_NoneType_list, k_NoneType_int, k_NoneType_bool, k_NoneType_dict, k_bool_str, k_bool_tuple, k_bool_list, k_bool_int, k_bool_bool, k_bool_dict, k_int_str, k_int_tuple, k_int_list, k_int_int, k_int_bool, k_int_dict, k_str_str, k_str_tuple, k_str_list, k_str_int, k_str_bool, k_str_dict, k_tuple_str, k_tuple_tuple, k_tuple_list, k_tuple_int, k_tuple_bool, k_tuple_dict, k_list_str, k_list_tuple, k_list_list, k_list_int, k_list_bool, k_list_dict, k_dict_str, k_dict_tuple, k_dict_list, k_dict_int, k_dict_bool, k_dict_dict, slotOf, List.replicate, List.map_cons, List.map_nil, List.length_cons, List.length_nil, List.getElem?_cons_zero, List.getElem?_cons_succ, List.set_cons_zero, List.set_cons_succ, List.cons_append, List.nil_append, if_true, if_false, Bool.false_eq_true, reduceCtorEq, Nat.sub_self, Nat.reduceSub, Nat.reduceAdd, Nat.reduceLeDiff, Int.reduceLE, Int.reduceLT, Int.reducePow, Int.reduceToNat, Int.reduceNeg, Option.map_some, Option.map_none, Bool.not_true, Bool.not_false, ite_true, ite_false, decide_eq_true_eq, decide_true, decide_false, Bool.not_eq_true', e6]
      refine WP.mono (hD (many := 5) hg hl.1 hl.2 (by decide) (by decide) hc1) ?_
      rintro d _ ⟨⟨one, rfl, o1, o2, o3⟩, y14, ce2, hc2, rfl⟩
      simp only [x_strI, Int.reduceEq, p10_1, p10_2, p10_3, p10_4, p10_5, p10_6, p10_7, p10_8, p10_9, p10_10, p10_11, p10_12, p10_13, p10_14, p10_15, p10_16, p10_17, p10_18, at_c0, at_c1, at_c2, at_c3, at_c4, at_c5, ix_30, ix_31, ix_32, subS, gSet, wr, ix_str, ix_lst, ix_tup, ix_ktup, ix_scr, gEq_str, gNe_str, gEq_int, gNe_int, gEq_bl, gIn_sign, gNotIn_sign, gAll_bls, lt_one, w_sl, w_c, w_op2, w_op1, w_evs0, w_evs1, o_rds0, o_rds1, w_opN, o_tks0, o_tks1, w_lst, w_tup, b_val, w_ite, w_mT, w_bAnd, w_bOr, w_bNot, w_bYes, w_and, w_or, w_not, w_if, w_ch, w_pt0, w_pt1, w_slc, w_call, w_meth, w_itr, w_rng1, w_rng2, w_rng3, w_enum, w_zip, s_seq, s_nx, s_rt, s_bk, s_ct, s_pass, s_brk, s_cnt, s_if, s_asg, s_drop, s_ret, s_retN, s_asgT, s_sub, s_box, s_for, o_some, o_none, o_ite, o_map, o_bind, wp_ok, wp_bad, z_val, z_new, z_bor, z_ali, r_non, r_bl, r_int, r_str, r_tup, r_lst, r_dk, r_dt, r_ktup, r_scr, r_glo, r_bor, r_new, r_ali, t_val, t_new, t_bor, t_ali, g_val, g_bor, g_new, g_ali, a_val, a_bor, a_ali, o_args0, o_args1, l_val, l_bor, l_ali, gAdd, gSub, mul_int, gMod, gDiv, gLt, gLe, gGt, gGe, gIsi, tyN, gLen, gNeg, gTuple, gList, gIsN, gNotN, gOrd, gMin, gMax, fNm, fTup, fCons, fNil, itemsOf, seqOf, k_NoneType_str, k_NoneType_tuple, k_NoneType_list, k_NoneType_int, k_NoneType_bool, k_NoneType_dict, k_bool_str, k_bool_tuple, k_bool_list, k_bool_int, k_bool_bool, k_bool_dict, k_int_str, k_int_tuple, k_int_list, k_int_int, k_int_bool, k_int_dict, k_str_str, k_str_tuple, k_str_list, k_str_int, k_str_bool, k_str_dict, k_tuple_str, k_tuple_tuple, k_tuple_list, k_tuple_int, k_tuple_bool, k_tuple_dict, k_list_str, k_list_tuple, k_list_list, k_list_int, k_list_bool, k_list_dict, k_dict_str, k_dict_tuple, k_dict_list, k_dict_int, k_dict_bool, k_dict_dict, slotOf, List.replicate, List.map_cons, List.map_nil, List.length_cons, List.length_nil, List.getElem?_cons_zero, List.getElem?_cons_succ, List.set_cons_zero, List.set_cons_succ, List.cons_append, List.nil_append, if_true, if_false, Bool.false_eq_true, reduceCtorEq, Nat.sub_self, Nat.reduceSub, Nat.reduceAdd, Nat.reduceLeDiff, Int.reduceLE, Int.reduceLT, Int.reducePow, Int.reduceToNat, Int.reduceNeg, Option.map_some, Option.map_none, Bool.not_true, Bool.not_false, ite_true, ite_false, decide_eq_true_eq, decide_true, decide_false, Bool.not_eq_true']
      refine WP.mono (hD (many := 4) hg hl.1 hl.2 (by decide) (by decide) hc2) ?_
      rintro d _ ⟨⟨other, rfl, p1, p2, p3⟩, z14, ce3, hc3, rfl⟩
      simp only [x_strI, Int.reduceEq, p10_1, p10_2, p10_3, p10_4, p10_5, p10_6, p10_7, p10_8, p10_9, p10_10, p10_11, p10_12, p10_13, p10_14, p10_15, p10_16, p10_17, p10_18, at_c0, at_c1, at_c2, at_c3, at_c4, at_c5, ix_30, ix_31, ix_32, subS, gSet, wr, ix_str, ix_lst, ix_tup, ix_ktup, ix_scr, gEq_str, gNe_str, gEq_int, gNe_int, gEq_bl, gIn_sign, gNotIn_sign, gAll_bls, lt_one, w_sl, w_c, w_op2, w_op1, w_evs0, w_evs1, o_rds0, o_rds1, w_opN, o_tks0, o_tks1, w_lst, w_tup, b_val, w_ite, w_mT, w_bAnd, w_bOr, w_bNot, w_bYes, w_and, w_or, w_not, w_if, w_ch, w_pt0, w_pt1, w_slc, w_call, w_meth, w_itr, w_rng1, w_rng2, w_rng3, w_enum, w_zip, s_seq, s_nx, s_rt, s_bk, s_ct, s_pass, s_brk, s_cnt, s_if, s_asg, s_drop, s_ret, s_retN, s_asgT, s_sub, s_box, s_for, o_some, o_none, o_ite, o_map, o_bind, wp_ok, wp_bad, z_val, z_new, z_bor, z_ali, r_non, r_bl, r_int, r_str, r_tup, r_lst, r_dk, r_dt, r_ktup, r_scr, r_glo, r_bor, r_new, r_ali, t_val, t_new, t_bor, t_ali, g_val, g_bor, g_new, g_ali, a_val, a_bor, a_ali, o_args0, o_args1, l_val, l_bor, l_ali, gAdd, gSub, mul_int, gMod, gDiv, gLt, gLe, gGt, gGe, gIsi, tyN, gLen, gNeg, gTuple, gList, gIsN, gNotN, gOrd, gMin, gMax, fNm, fTup, fCons, fNil, itemsOf, seqOf, k_NoneType_str, k_NoneType_tuple, k_NoneType_list, k_NoneType_int, k_NoneType_bool, k_NoneType_dict, k_bool_str, k_bool_tuple, k_bool_list, k_bool_int, k_bool_bool, k_bool_dict, k_int_str, k_int_tuple, k_int_list, k_int_int, k_int_bool, k_int_dict, k_str_str, k_str_tuple, k_str_list, k_str_int, k_str_bool, k_str_dict, k_tuple_str, k_tuple_tuple, k_tuple_list, k_tuple_int, k_tuple_bool, k_tuple_dict, k_list_str, k_list_tuple, k_list_list, k_list_int, k_list_bool, k_list_dict, k_dict_str, k_dict_tuple, k_dict_list, k_dict_int, k_dict_bool, k_dict_dict, slotOf, List.replicate, List.map_cons, List.map_nil, List.length_cons, List.length_nil, List.getElem?_cons_zero, List.getElem?_cons_succ, List.set_cons_zero, List.set_cons_succ, List.cons_append, List.nil_append, if_true, if_false, Bool.false_eq_true, reduceCtorEq, Nat.sub_self, Nat.reduceSub, Nat.reduceAdd, Nat.reduceLeDiff, Int.reduceLE, Int.reduceLT, Int.reducePow, Int.reduceToNat, Int.reduceNeg, Option.map_some, Option.map_none, Bool.not_true, Bool.not_false, ite_true, ite_false, decide_eq_true_eq, decide_true, decide_false, Bool.not_eq_true']
      refine WP.mono (hD (many := 5) hg hl.1 hl.2 (by decide) (by decide) hc3) ?_
      rintro d _ ⟨⟨sent, rfl, r1, r2, r3⟩, u14, ce4, hc4, rfl⟩
      simp only [x_strI, Int.reduceEq, p10_1, p10_2, p10_3, p10_4, p10_5, p10_6, p10_7, p10_8, p10_9, p10_10, p10_11, p10_12, p10_13, p10_14, p10_15, p10_16, p10_17, p10_18, at_c0, at_c1, at_c2, at_c3, at_c4, at_c5, ix_30, ix_31, ix_32, subS, gSet, wr, ix_str, ix_lst, ix_tup, ix_ktup, ix_scr, gEq_str, gNe_str, gEq_int, gNe_int, gEq_bl, gIn_sign, gNotIn_sign, gAll_bls, lt_one, w_sl, w_c, w_op2, w_op1, w_evs0, w_evs1, o_rds0, o_rds1, w_opN, o_tks0, o_tks1, w_lst, w_tup, b_val, w_ite, w_mT, w_bAnd, w_bOr, w_bNot, w_bYes, w_and, w_or, w_not, w_if, w_ch, w_pt0, w_pt1, w_slc, w_call, w_meth, w_itr, w_rng1, w_rng2, w_rng3, w_enum, w_zip, s_seq, s_nx, s_rt, s_bk, s_ct, s_pass, s_brk, s_cnt, s_if, s_asg, s_drop, s_ret, s_retN, s_asgT, s_sub, s_box, s_for, o_some, o_none, o_ite, o_map, o_bind, wp_ok, wp_bad, z_val, z_new, z_bor, z_ali, r_non, r_bl, r_int, r_str, r_tup, r_lst, r_dk, r_dt, r_ktup, r_scr, r_glo, r_bor, r_new, r_ali, t_val, t_new, t_bor, t_ali, g_val, g_bor, g_new, g_ali, a_val, a_bor, a_ali, o_args0, o_args1, l_val, l_bor, l_ali, gAdd, gSub, mul_int, gMod, gDiv, gLt, gLe, gGt, gGe, gIsi, tyN, gLen, gNeg, gTuple, gList, gIsN, gNotN, gOrd, gMin, gMax, fNm, fTup, fCons, fNil, itemsOf, seqOf, k_NoneType_str, k_NoneType_tuple, k_NoneType_list, k_NoneType_int, k_NoneType_bool, k_NoneType_dict, k_bool_str, k_bool_tuple, k_bool_list, k_bool_int, k_bool_bool, k_bool_dict, k_int_str, k_int_tuple, k_int_list, k_int_int, k_int_bool, k_int_dict, k_str_str, k_str_tuple, k_str_list, k_str_int, k_str_bool, k_str_dict, k_tuple_str, k_tuple_tuple, k_tuple_list, k_tuple_int, k_tuple_bool, k_tuple_dict, k_list_str, k_list_tuple, k_list_list, k_list_int, k_list_bool, k_list_dict, k_dict_str, k_dict_tuple, k_dict_list, k_dict_int, k_dict_bool, k_dict_dict, slotOf, List.replicate, List.map_cons, List.map_nil, List.length_cons, List.length_nil, List.getElem?_cons_zero, List.getElem?_cons_succ, List.set_cons_zero, List.set_cons_succ, List.cons_append, List.nil_append, if_true, if_false, Bool.false_eq_true, reduceCtorEq, Nat.sub_self, Nat.reduceSub, Nat.reduceAdd, Nat.reduceLeDiff, Int.reduceLE, Int.reduceLT, Int.reducePow, Int.reduceToNat, Int.reduceNeg, Option.map_some, Option.map_none, Bool.not_true, Bool.not_false, ite_true, ite_false, decide_eq_true_eq, decide_true, decide_false, Bool.not_eq_true']
      refine WP.mono (hC (sn_of o1 o2 (by omega)) (sn_of p1 p2 (by omega)) (sn_of r1 r2 (by omega)) (by omega) (by omega)) ?_
      rintro _ _ ⟨rfl, y7, y8, y9, y10, y11, y12, y13, y14, rfl⟩
      exact ⟨rfl, _, _, _, _, _, _, _, _, _, _, _, _, _, _, rfl⟩
    · obtain ⟨sl, ce⟩ := s
      simp only at es
      subst es
      simp only [x_strI, Int.reduceEq, p10_1, p10_2, p10_3, p10_4, p10_5, p10_6, p10_7, p10_8, p10_9, p10_10, p10_11, p10_12, p10_13, p10_14, p10_15, p10_16, p10_17, p10_18, at_c0, at_c1, at_c2, at_c3, at_c4, at_c5, ix_30, ix_31, ix_32, subS, gSet, wr, ix_str, ix_lst, ix_tup, ix_ktup, ix_scr, gEq_str, gNe_str, gEq_int, gNe_int, gEq_bl, gIn_sign, gNotIn_sign, gAll_bls, lt_one, w_sl, w_c, w_op2, w_op1, w_evs0, w_evs1, o_rds0, o_rds1, w_opN, o_tks0, o_tks1, w_lst, w_tup, b_val, w_ite, w_mT, w_bAnd, w_bOr, w_bNot, w_bYes, w_and, w_or, w_not, w_if, w_ch, w_pt0, w_pt1, w_slc, w_call, w_meth, w_itr, w_rng1, w_rng2, w_rng3, w_enum, w_zip, s_seq, s_nx, s_rt, s_bk, s_ct, s_pass, s_brk, s_cnt, s_if, s_asg, s_drop, s_ret, s_retN, s_asgT, s_sub, s_box, s_for, o_some, o_none, o_ite, o_map, o_bind, wp_ok, wp_bad, z_val, z_new, z_bor, z_ali, r_non, r_bl, r_int, r_str, r_tup, r_lst, r_dk, r_dt, r_ktup, r_scr, r_glo, r_bor, r_new, r_ali, t_val, t_new, t_bor, t_ali, g_val, g_bor, g_new, g_ali, a_val, a_bor, a_ali, o_args0, o_args1, l_val, l_bor, l_ali, gAdd, gSub, mul_int, gMod, gDiv, gLt, gLe, gGt, gGe, gIsi, tyN, gLen, gNeg, gTuple, gList, gIsN, gNotN, gOrd, gMin, gMax, fNm, fTup, fCons, fNil, itemsOf, seqOf, k_NoneType_str, k_NoneType_tuple, k_NoneType_list, k_NoneType_int, k_NoneType_bool, k_NoneType_dict, k_bool_str, k_bool_tuple, k_bool_list, k_bool_int, k_bool_bool, k_bool_dict, k_int_str, k_int_tuple, k_int_list, k_int_int, k_int_bool, k_int_dict, k_str_str, k_str_tuple, k_str_list, k_str_int, k_str_bool, k_str_dict, k_tuple_str, k_tuple_tuple, k_tuple_list, k_tuple_int, k_tuple_bool, k_tuple_dict, k_list_str, k_list_tuple, k_list_list, k_list_int, k_list_bool, k_list_dict, k_dict_str, k_dict_tuple, k_dict_list, k_dict_int, k_dict_bool, k_dict_dict, slotOf, List.replicate, List.map_cons, List.map_nil, List.length_cons, List.length_nil, List.getElem?_cons_zero, List.getElem?_cons_succ, List.set_cons_zero, List.set_cons_succ, List.cons_append, List.nil_append, if_true, if_false, Bool.false_eq_true, reduceCtorEq, Nat.sub_self, Nat.reduceSub, Nat.reduceAdd, Nat.reduceLeDiff, Int.reduceLE, Int.reduceLT, Int.reducePow, Int.reduceToNat, Int.reduceNeg, Option.map_some, Option.map_none, Bool.not_true, Bool.not_false, ite_true, ite_false, decide_eq_true_eq, decide_true, decide_false, Bool.not_eq_true']
  obtain ⟨d, s, e, rfl⟩ := key.ex
  exact ⟨s, e⟩
end Vi

set_option Elab.async false
set_option linter.all false
set_option maxRecDepth 100000
set_option maxHeartbeats 0
namespace Vi
open PySem PySem.Spec PyProof.Rows L2
def d_is_word : He.DefD := ⟨("is_word", none), "is_word", "is_word", defArgs (top 12), defBody (top 12), defScope (top 12), [], []⟩
def d_kind_of : He.DefD := ⟨("kind_of", none), "kind_of", "kind_of", defArgs (top 13), defBody (top 13), defScope (top 13), [], []⟩
def d_is_sentence : He.DefD := ⟨("is_sentence", none), "is_sentence", "is_sentence", defArgs (top 14), defBody (top 14), defScope (top 14), [], []⟩
def d_need_sentence : He.DefD := ⟨("need_sentence", none), "need_sentence", "need_sentence", defArgs (top 15), defBody (top 15), defScope (top 15), [], []⟩
def d_gaps_of : He.DefD := ⟨("gaps_of", none), "gaps_of", "gaps_of", defArgs (top 16), defBody (top 16), defScope (top 16), [], []⟩
def d_leads_of : He.DefD := ⟨("leads_of", none), "leads_of", "leads_of", defArgs (top 18), defBody (top 18), defScope (top 18), [], []⟩
def d_led_gaps : He.DefD := ⟨("led_gaps", none), "led_gaps", "led_gaps", defArgs (top 19), defBody (top 19), defScope (top 19), [], []⟩
def d_mould_of : He.DefD := ⟨("mould_of", none), "mould_of", "mould_of", defArgs (top 20), defBody (top 20), defScope (top 20), [], []⟩
def d_price_of_item : He.DefD := ⟨("price_of_item", none), "price_of_item", "price_of_item", defArgs (top 26), defBody (top 26), defScope (top 26), [], []⟩
def d_rests_of : He.DefD := ⟨("rests_of", none), "rests_of", "rests_of", defArgs (top 27), defBody (top 27), defScope (top 27), [], []⟩
def d_price : He.DefD := ⟨("price", none), "price", "price", defArgs (top 28), defBody (top 28), defScope (top 28), [], []⟩
def d__law_well : He.DefD := ⟨("_law_well", none), "_law_well", "_law_well", defArgs (top 30), defBody (top 30), defScope (top 30), [], []⟩
def d__law_take : He.DefD := ⟨("_law_take", none), "_law_take", "_law_take", defArgs (top 31), defBody (top 31), defScope (top 31), [], []⟩
def d__law_kind : He.DefD := ⟨("_law_kind", none), "_law_kind", "_law_kind", defArgs (top 32), defBody (top 32), defScope (top 32), [], []⟩
def d__law_leads : He.DefD := ⟨("_law_leads", none), "_law_leads", "_law_leads", defArgs (top 33), defBody (top 33), defScope (top 33), [], []⟩
def d__law_mould : He.DefD := ⟨("_law_mould", none), "_law_mould", "_law_mould", defArgs (top 34), defBody (top 34), defScope (top 34), [], []⟩
def d__law_more : He.DefD := ⟨("_law_more", none), "_law_more", "_law_more", defArgs (top 35), defBody (top 35), defScope (top 35), [], []⟩
def d__law_rows : He.DefD := ⟨("_law_rows", none), "_law_rows", "_law_rows", defArgs (top 36), defBody (top 36), defScope (top 36), [], []⟩
def d_law : He.DefD := ⟨("law", none), "law", "law", defArgs (top 37), defBody (top 37), defScope (top 37), [], []⟩
def fnD : List He.DefD := ([d_is_word, d_kind_of, d_is_sentence, d_need_sentence, d_gaps_of, d_leads_of, d_led_gaps, d_mould_of, d_price_of_item, d_rests_of, d_price, d__law_well, d__law_take, d__law_kind, d__law_leads, d__law_mould, d__law_more, d__law_rows, d_law] : List He.DefD)
def faD : List He.Fa := ([.free "all", .free "enumerate", .free "isinstance", .free "len", .free "list", .free "max", .free "min", .free "ord", .free "range", .free "sorted", .free "str", .free "tuple", .free "zip", .glo "BARRED", .int "BARRED_SIGN" 37, .int "CUT" 2, .int "EXCHANGE" 3, .str "FIGURES" ⟨([48, 49, 50, 51, 52, 53, 54, 55, 56, 57] : List Nat).toArray⟩, .int "FILL" 1, .str "GREAT" ⟨([65, 66, 67, 68, 69, 70, 71, 72, 73, 74, 75, 76, 77, 78, 79, 80, 81, 82, 83, 84, 85, 86, 87, 88, 89, 90] : List Nat).toArray⟩, .int "MOST_FIGURES" 12, .int "MOST_SIGNS" 20, .int "MOST_WORDS" 40, .int "PUT" 2, .str "SMALL" ⟨([97, 98, 99, 100, 101, 102, 103, 104, 105, 106, 107, 108, 109, 110, 111, 112, 113, 114, 115, 116, 117, 118, 119, 120, 121, 122] : List Nat).toArray⟩, .exc "NoSentence", .glo "NoSentence", .glo "is_word", .glo "kind_of", .glo "is_sentence"] : List He.Fa) ++ ([.glo "need_sentence", .glo "gaps_of", .glo "leads_of", .glo "led_gaps", .glo "mould_of", .glo "price_of_item", .glo "rests_of", .glo "price", .glo "_law_well", .glo "_law_take", .glo "_law_kind", .glo "_law_leads", .glo "_law_mould", .glo "_law_more", .glo "_law_rows", .glo "law"] : List He.Fa)
def loose : List Str := (["TongueError", "NoSentence", "FIGURES", "SMALL", "GREAT", "MOST_SIGNS", "MOST_FIGURES", "MOST_WORDS", "BARRED", "BARRED_SIGN", "is_word", "kind_of", "is_sentence", "need_sentence", "gaps_of", "leads_of", "led_gaps", "mould_of", "CUT", "PUT", "EXCHANGE", "FILL", "price_of_item", "rests_of", "price", "_law_well", "_law_take", "_law_kind", "_law_leads", "_law_mould"] : List Str) ++ (["_law_more", "_law_rows"] : List Str)
def exD : PySem.W.Frag → Bool := fun K => He.tupB K "BARRED" [.str ⟨([124] : List Nat).toArray⟩, .str ⟨([61] : List Nat).toArray⟩]
abbrev RW : PySem.W.OpenRow := PySem.W.OpenLaw.row PySem.Challenge.rw_tongueshelf_k07_whole_none_is_cheaper
abbrev hkD : PySem.W.Hook := hookV 4 faD fnD exD
def obD (s : PySem.W.SharedT) : AlV := obsV 4 faD fnD exD (HandSHeadRun.getT s)
theorem obD_eq (s : PySem.W.SharedT) : obD s = hkD.obs s.abs := obsV_eq (HandSHeadRun.getT_eq s)
theorem runD (w : World) : HandSHeadRun.RunEq RW (PySem.W.view RW.prog [37]) hkD obD 6000 loose w := by
  intro os
  kernel_rfl
theorem fxD {K : PySem.W.Frag} {h : Heap} {mg : Str → Option Value} (X : K.In h) (G : h.Ns mainGlobals mg) (c : He.SaysD faD fnD K) (e : exD K = true) : Fx K mg := by
    unfold exD at e
    have EX0 := e
    exact {
      b_all := He.free_ok X G (c.fact 0 rfl),
      b_enumerate := He.free_ok X G (c.fact 1 rfl),
      b_isinstance := He.free_ok X G (c.fact 2 rfl),
      b_len := He.free_ok X G (c.fact 3 rfl),
      b_list := He.free_ok X G (c.fact 4 rfl),
      b_max := He.free_ok X G (c.fact 5 rfl),
      b_min := He.free_ok X G (c.fact 6 rfl),
      b_ord := He.free_ok X G (c.fact 7 rfl),
      b_range := He.free_ok X G (c.fact 8 rfl),
      b_sorted := He.free_ok X G (c.fact 9 rfl),
      b_str := He.free_ok X G (c.fact 10 rfl),
      b_tuple := He.free_ok X G (c.fact 11 rfl),
      b_zip := He.free_ok X G (c.fact 12 rfl),
      c_BARRED := ⟨_, He.glo_ok X G (c.fact 13 rfl), rfl⟩,
      t_BARRED := (fun G ψ => .ktup (fun H => He.tupB_ok EX0 H) (.cons (.str (by decide +kernel)) (.cons (.str (by decide +kernel)) (.nil)))),
      c_BARRED_SIGN := (let ⟨t, e⟩ := He.int_ok X G (c.fact 14 rfl); ⟨_, e, t, rfl⟩),
      c_CUT := (let ⟨t, e⟩ := He.int_ok X G (c.fact 15 rfl); ⟨_, e, t, rfl⟩),
      c_EXCHANGE := (let ⟨t, e⟩ := He.int_ok X G (c.fact 16 rfl); ⟨_, e, t, rfl⟩),
      c_FIGURES := (let ⟨t, e⟩ := He.str_ok X G (c.fact 17 rfl); ⟨_, e, t, rfl⟩),
      c_FILL := (let ⟨t, e⟩ := He.int_ok X G (c.fact 18 rfl); ⟨_, e, t, rfl⟩),
      c_GREAT := (let ⟨t, e⟩ := He.str_ok X G (c.fact 19 rfl); ⟨_, e, t, rfl⟩),
      c_MOST_FIGURES := (let ⟨t, e⟩ := He.int_ok X G (c.fact 20 rfl); ⟨_, e, t, rfl⟩),
      c_MOST_SIGNS := (let ⟨t, e⟩ := He.int_ok X G (c.fact 21 rfl); ⟨_, e, t, rfl⟩),
      c_MOST_WORDS := (let ⟨t, e⟩ := He.int_ok X G (c.fact 22 rfl); ⟨_, e, t, rfl⟩),
      c_PUT := (let ⟨t, e⟩ := He.int_ok X G (c.fact 23 rfl); ⟨_, e, t, rfl⟩),
      c_SMALL := (let ⟨t, e⟩ := He.str_ok X G (c.fact 24 rfl); ⟨_, e, t, rfl⟩),
      e_NoSentence := He.exc_ok (c.fact 25 rfl),
      g_NoSentence := He.glo_ok X G (c.fact 26 rfl),
      v_NoSentence := rfl }
theorem factsD {P : Program} {w : World} {K : PySem.W.Frag} {h : Heap} {mg : Str → Option Value} {f : Addr} (X : K.In h) (G : h.Ns mainGlobals mg) (hfa : mg ("law" : Str) = some (.ref f)) (c : He.SaysD faD fnD K) (e : exD K = true) :
    ∃ fd : FuncData, (∀ (s : Shared) (v : Value), BindsTo s fd ⟨[v], []⟩ [("script", v)]) ∧ ∀ base : Heap, K.In base → base.Ns mainGlobals mg → FnOk P w K mg base (fun _ _ _ _ _ _ => False) 10 f fd ["script"] (fun vs H Q _ => spF K (cvE K) 1 f_law vs H Q fun _ _ _ => False) := by
  have hx := fxD X G c e
  obtain ⟨fd_0, F_is_word⟩ := c.def_ 0 (d := d_is_word) rfl
  have k_is_word := fun {base : Heap} => fd_is_word (P := P) (w := w) (base := base) hx F_is_word (He.glo_ok X G (c.fact 27 rfl)) 
  obtain ⟨fd_1, F_kind_of⟩ := c.def_ 1 (d := d_kind_of) rfl
  have k_kind_of := fun {base : Heap} => fd_kind_of (P := P) (w := w) (base := base) hx F_kind_of (He.glo_ok X G (c.fact 28 rfl)) 
  obtain ⟨fd_2, F_is_sentence⟩ := c.def_ 2 (d := d_is_sentence) rfl
  have k_is_sentence := fun {base : Heap} => fd_is_sentence (P := P) (w := w) (base := base) hx F_is_sentence (He.glo_ok X G (c.fact 29 rfl)) k_is_word
  obtain ⟨fd_3, F_need_sentence⟩ := c.def_ 3 (d := d_need_sentence) rfl
  have k_need_sentence := fun {base : Heap} => fd_need_sentence (P := P) (w := w) (base := base) hx F_need_sentence (He.glo_ok X G (c.fact 30 rfl)) k_is_sentence
  obtain ⟨fd_4, F_gaps_of⟩ := c.def_ 4 (d := d_gaps_of) rfl
  have k_gaps_of := fun {base : Heap} => fd_gaps_of (P := P) (w := w) (base := base) hx F_gaps_of (He.glo_ok X G (c.fact 31 rfl)) k_need_sentence k_kind_of
  obtain ⟨fd_5, F_leads_of⟩ := c.def_ 5 (d := d_leads_of) rfl
  have k_leads_of := fun {base : Heap} => fd_leads_of (P := P) (w := w) (base := base) hx F_leads_of (He.glo_ok X G (c.fact 32 rfl)) k_gaps_of
  obtain ⟨fd_6, F_led_gaps⟩ := c.def_ 6 (d := d_led_gaps) rfl
  have k_led_gaps := fun {base : Heap} => fd_led_gaps (P := P) (w := w) (base := base) hx F_led_gaps (He.glo_ok X G (c.fact 33 rfl)) k_leads_of
  obtain ⟨fd_7, F_mould_of⟩ := c.def_ 7 (d := d_mould_of) rfl
  have k_mould_of := fun {base : Heap} => fd_mould_of (P := P) (w := w) (base := base) hx F_mould_of (He.glo_ok X G (c.fact 34 rfl)) k_led_gaps k_kind_of
  obtain ⟨fd_8, F_price_of_item⟩ := c.def_ 8 (d := d_price_of_item) rfl
  have k_price_of_item := fun {base : Heap} => fd_price_of_item (P := P) (w := w) (base := base) hx F_price_of_item (He.glo_ok X G (c.fact 35 rfl)) k_kind_of
  obtain ⟨fd_9, F_rests_of⟩ := c.def_ 9 (d := d_rests_of) rfl
  have k_rests_of := fun {base : Heap} => fd_rests_of (P := P) (w := w) (base := base) hx F_rests_of (He.glo_ok X G (c.fact 36 rfl)) k_mould_of k_need_sentence k_price_of_item
  obtain ⟨fd_10, F_price⟩ := c.def_ 10 (d := d_price) rfl
  have k_price := fun {base : Heap} => fd_price (P := P) (w := w) (base := base) hx F_price (He.glo_ok X G (c.fact 37 rfl)) k_rests_of
  obtain ⟨fd_11, F__law_well⟩ := c.def_ 11 (d := d__law_well) rfl
  have k__law_well := fun {base : Heap} => fd__law_well (P := P) (w := w) (base := base) hx F__law_well (He.glo_ok X G (c.fact 38 rfl)) 
  obtain ⟨fd_12, F__law_take⟩ := c.def_ 12 (d := d__law_take) rfl
  have k__law_take := fun {base : Heap} => fd__law_take (P := P) (w := w) (base := base) hx F__law_take (He.glo_ok X G (c.fact 39 rfl)) 
  obtain ⟨fd_13, F__law_kind⟩ := c.def_ 13 (d := d__law_kind) rfl
  have k__law_kind := fun {base : Heap} => fd__law_kind (P := P) (w := w) (base := base) hx F__law_kind (He.glo_ok X G (c.fact 40 rfl)) 
  obtain ⟨fd_14, F__law_leads⟩ := c.def_ 14 (d := d__law_leads) rfl
  have k__law_leads := fun {base : Heap} => fd__law_leads (P := P) (w := w) (base := base) hx F__law_leads (He.glo_ok X G (c.fact 41 rfl)) k__law_kind
  obtain ⟨fd_15, F__law_mould⟩ := c.def_ 15 (d := d__law_mould) rfl
  have k__law_mould := fun {base : Heap} => fd__law_mould (P := P) (w := w) (base := base) hx F__law_mould (He.glo_ok X G (c.fact 42 rfl)) k__law_leads k__law_kind
  obtain ⟨fd_16, F__law_more⟩ := c.def_ 16 (d := d__law_more) rfl
  have k__law_more := fun {base : Heap} => fd__law_more (P := P) (w := w) (base := base) hx F__law_more (He.glo_ok X G (c.fact 43 rfl)) k__law_kind
  obtain ⟨fd_17, F__law_rows⟩ := c.def_ 17 (d := d__law_rows) rfl
  have k__law_rows := fun {base : Heap} => fd__law_rows (P := P) (w := w) (base := base) hx F__law_rows (He.glo_ok X G (c.fact 44 rfl)) 
  obtain ⟨fd_18, F_law⟩ := c.def_ 18 (d := d_law) rfl
  have e := hfa.symm.trans (He.glo_ok X G (c.fact 45 rfl))
  cases e
  have b := FunD.bindsA (ps := ["script"]) F_law fun _ _ _ _ _ _ us hl => match us, hl with | [_], _ => rfl
  exact ⟨fd_18, fun s v => b s [v] rfl, fun base _ _ => fn_calm (fn_law hx F_law (He.glo_ok X G (c.fact 45 rfl)) k__law_well k__law_take k__law_mould k__law_rows k__law_more k_price)⟩
end Vi
open PySem PySem.W PySem.Calls PyProof.Rows
theorem PySem.Challenge.cw_tongueshelf_k07_whole_none_is_cheaper_holds : PySem.Challenge.rw_tongueshelf_k07_whole_none_is_cheaper.Holds := by
  w_on; o_law
  refine HandSHeadRun.head_any (r := OpenLaw.row PySem.Challenge.rw_tongueshelf_k07_whole_none_is_cheaper) (q := view (OpenLaw.row PySem.Challenge.rw_tongueshelf_k07_whole_none_is_cheaper).prog [37]) (H := Vi.hkD) (ob := Vi.obD) (M := 6000) (loose := Vi.loose) (d := HandSHeadRun.topDef (OpenLaw.row PySem.Challenge.rw_tongueshelf_k07_whole_none_is_cheaper).prog 37) (kwd := []) Vi.obD_eq
    (by kernel_rfl) (fun s => by kernel_rfl) Vi.runD (by kernel_rfl) (by kernel_rfl) (by kernel_rfl) (by rfl) (by first | assumption | decide +kernel) (by decide +kernel) ⟨rfl, rfl, rfl, rfl, rfl, by decide +kernel⟩ ?hw ?hc
  case hw => w_witness2
  case hc =>
    refine L2.walk_ofE (l := PySem.Challenge.rw_tongueshelf_k07_whole_none_is_cheaper) (n := 63) (k := 10) (x := "script") (CX := fun _ _ _ _ _ _ => False) rfl (by decide) (by kernel_rfl) ⟨rfl, by decide, by decide⟩ ?F (fun _ _ _ _ z => z)
    intro w mg fa h Y G hmg0
    obtain ⟨K, KX, c, e⟩ := Y
    have hmg : mg ("law" : PySem.Str) = some (.ref fa) := by
      have e : (HandSHeadRun.topDef (OpenLaw.row PySem.Challenge.rw_tongueshelf_k07_whole_none_is_cheaper).prog 37).name = ("law" : PySem.Str) := by kernel_rfl
      rw [← e]
      exact hmg0
    obtain ⟨fd, hb, hF⟩ := Vi.factsD (P := (PySem.Challenge.rw_tongueshelf_k07_whole_none_is_cheaper).prog) (w := w) KX G hmg c e
    exact ⟨K, fd, (fun vs H Q _ => Vi.spF K (Vi.cvE K) 1 Vi.f_law vs H Q fun _ _ _ => False), KX, hb, fun H a ns hl _ hS => (Vi.plain ns hl).elim fun s' q => Vi.law_sp hS q, hF⟩

